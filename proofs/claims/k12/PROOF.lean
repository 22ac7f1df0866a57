import PyProof.Rows.All
import HandS.ForMost
import HandS.Head0
import HandS.Head1
import HandS.Head2
import HandS.HeadEnd
import HandS.HeadHook1
import PySem.Challenge.RW_longhold_k12_texts_that_write_no_fact
import HandS.ForExc
import HandS.TupAny
import KE.DataEq
import HandS.IsInst
import HandS.Text
import HandS.More
import HandS.SortInts
import HandS.SortRule
import HandS.Finally
import HandS.Zip
import HandS.Iter
import HandS.WordsExc
import HandS.Style
import KE.SortData
import HandS.ExcIs
import HandS.TryOnly
import HandS.Sort
import HandS.Conv
import KE.KDictList
import KE.DataMinMax
import PyProof.Rows.CallKwBuiltin
import PyProof.Rows.Range3
import KE.GoesZip
import KE.GoesMore
import HandS.Dict
import HandS.SetFor
import KE.DataCmp
import KE.KEqDict
import HandS.NoneIn
set_option Elab.async false
set_option linter.all false
set_option maxRecDepth 100000
set_option maxHeartbeats 4000000
/-! A small evaluator of pure values and a short store of mutable objects, and what it says of the readings of the hand layer. -/
namespace Gx
open PySem PySem.Spec PyProof.Rows L2

/-! ### values -/
/-- data that nobody changes any more -/
inductive D where
  | non | bl (b : Bool) | int (i : Int) | str (s : Str)
  | tup (ds : List D) | lst (ds : List D) | dct (kvs : List (Key × D)) | obj (c : Nat) (fs : List D) | scr (ns : List Int) | ty (n : Nat)
/-- a value: data, a mutable object of the store, a tuple of such -/
inductive W where
  | imm (d : D) | loc (n : Nat) | tup (ws : List W)
/-- a mutable object -/
inductive MO where
  | lst (ws : List W) | dct (kvs : List (Key × W)) | fdct (kvs : List (Key × W)) | ins (c : Nat) (ws : List W)

/-- the built-in types that are named -/
def tyN : Nat → String
  | 0 => "int"
  | 1 => "bool"
  | 2 => "str"
  | 3 => "tuple"
  | 4 => "list"
  | 5 => "dict"
  | _ => "NoneType"
/-- the attributes of the text's own classes, in the order in which they are set -/
def nm : Nat → List Str
  | 0 => ["told", "bars", "short", "long", "owner", "holder", "since", "good", "frozen", "spent", "papers", "day", "marks", "ripe"]
  | 1 => ["owners", "walks", "bars", "gap", "gain", "rest", "made", "used", "last", "many", "notes"]
  | 2 => ["spans", "many", "first", "table", "done", "told"]
  | _ => []
/-- the law's script -/
def D.isScr : D → Bool
  | .scr _ => true
  | _ => false
mutual
def D.dec : (a b : D) → Decidable (a = b)
  | .non, .non => .isTrue rfl
  | .bl a, .bl b => if h : a = b then .isTrue (by rw [h]) else .isFalse (fun e => h (D.bl.inj e))
  | .int a, .int b => if h : a = b then .isTrue (by rw [h]) else .isFalse (fun e => h (D.int.inj e))
  | .str a, .str b => if h : a = b then .isTrue (by rw [h]) else .isFalse (fun e => h (D.str.inj e))
  | .tup a, .tup b => match D.decs a b with | .isTrue h => .isTrue (by rw [h]) | .isFalse h => .isFalse (fun e => h (D.tup.inj e))
  | .lst a, .lst b => match D.decs a b with | .isTrue h => .isTrue (by rw [h]) | .isFalse h => .isFalse (fun e => h (D.lst.inj e))
  | .dct a, .dct b => match D.deck a b with | .isTrue h => .isTrue (by rw [h]) | .isFalse h => .isFalse (fun e => h (D.dct.inj e))
  | .obj c a, .obj c' b => if hc : c = c' then (match D.decs a b with | .isTrue h => .isTrue (by rw [h, hc]) | .isFalse h => .isFalse (fun e => h (D.obj.inj e).2)) else .isFalse (fun e => hc (D.obj.inj e).1)
  | .scr a, .scr b => if h : a = b then .isTrue (by rw [h]) else .isFalse (fun e => h (D.scr.inj e))
  | .ty a, .ty b => if h : a = b then .isTrue (by rw [h]) else .isFalse (fun e => h (D.ty.inj e))
  | .non, .bl _ | .non, .int _ | .non, .str _ | .non, .tup _ | .non, .lst _ | .non, .dct _ | .non, .obj _ _ | .non, .scr _ | .non, .ty _ => .isFalse (by intro e; cases e)
  | .bl _, .non | .bl _, .int _ | .bl _, .str _ | .bl _, .tup _ | .bl _, .lst _ | .bl _, .dct _ | .bl _, .obj _ _ | .bl _, .scr _ | .bl _, .ty _ => .isFalse (by intro e; cases e)
  | .int _, .non | .int _, .bl _ | .int _, .str _ | .int _, .tup _ | .int _, .lst _ | .int _, .dct _ | .int _, .obj _ _ | .int _, .scr _ | .int _, .ty _ => .isFalse (by intro e; cases e)
  | .str _, .non | .str _, .bl _ | .str _, .int _ | .str _, .tup _ | .str _, .lst _ | .str _, .dct _ | .str _, .obj _ _ | .str _, .scr _ | .str _, .ty _ => .isFalse (by intro e; cases e)
  | .tup _, .non | .tup _, .bl _ | .tup _, .int _ | .tup _, .str _ | .tup _, .lst _ | .tup _, .dct _ | .tup _, .obj _ _ | .tup _, .scr _ | .tup _, .ty _ => .isFalse (by intro e; cases e)
  | .lst _, .non | .lst _, .bl _ | .lst _, .int _ | .lst _, .str _ | .lst _, .tup _ | .lst _, .dct _ | .lst _, .obj _ _ | .lst _, .scr _ | .lst _, .ty _ => .isFalse (by intro e; cases e)
  | .dct _, .non | .dct _, .bl _ | .dct _, .int _ | .dct _, .str _ | .dct _, .tup _ | .dct _, .lst _ | .dct _, .obj _ _ | .dct _, .scr _ | .dct _, .ty _ => .isFalse (by intro e; cases e)
  | .obj _ _, .non | .obj _ _, .bl _ | .obj _ _, .int _ | .obj _ _, .str _ | .obj _ _, .tup _ | .obj _ _, .lst _ | .obj _ _, .dct _ | .obj _ _, .scr _ | .obj _ _, .ty _ => .isFalse (by intro e; cases e)
  | .scr _, .non | .scr _, .bl _ | .scr _, .int _ | .scr _, .str _ | .scr _, .tup _ | .scr _, .lst _ | .scr _, .dct _ | .scr _, .obj _ _ | .scr _, .ty _ => .isFalse (by intro e; cases e)
  | .ty _, .non | .ty _, .bl _ | .ty _, .int _ | .ty _, .str _ | .ty _, .tup _ | .ty _, .lst _ | .ty _, .dct _ | .ty _, .obj _ _ | .ty _, .scr _ => .isFalse (by intro e; cases e)
def D.decs : (a b : List D) → Decidable (a = b)
  | [], [] => .isTrue rfl
  | [], _ :: _ => .isFalse (by intro e; cases e)
  | _ :: _, [] => .isFalse (by intro e; cases e)
  | x :: r, y :: r' => match D.dec x y, D.decs r r' with
    | .isTrue h, .isTrue h' => .isTrue (by rw [h, h'])
    | .isFalse h, _ => .isFalse (fun e => h (List.cons.inj e).1)
    | _, .isFalse h => .isFalse (fun e => h (List.cons.inj e).2)
def D.deck : (a b : List (Key × D)) → Decidable (a = b)
  | [], [] => .isTrue rfl
  | [], _ :: _ => .isFalse (by intro e; cases e)
  | _ :: _, [] => .isFalse (by intro e; cases e)
  | (k, x) :: r, (k', y) :: r' => if hk : k = k' then (match D.dec x y, D.deck r r' with
    | .isTrue h, .isTrue h' => .isTrue (by rw [h, h', hk])
    | .isFalse h, _ => .isFalse (fun e => h (Prod.mk.inj (List.cons.inj e).1).2)
    | _, .isFalse h => .isFalse (fun e => h (List.cons.inj e).2)) else .isFalse (fun e => hk (Prod.mk.inj (List.cons.inj e).1).1)
end
instance : DecidableEq D := D.dec
mutual
def W.dec : (a b : W) → Decidable (a = b)
  | .imm a, .imm b => if h : a = b then .isTrue (by rw [h]) else .isFalse (fun e => h (W.imm.inj e))
  | .loc a, .loc b => if h : a = b then .isTrue (by rw [h]) else .isFalse (fun e => h (W.loc.inj e))
  | .tup a, .tup b => match W.decs a b with | .isTrue h => .isTrue (by rw [h]) | .isFalse h => .isFalse (fun e => h (W.tup.inj e))
  | .imm _, .loc _ | .imm _, .tup _ | .loc _, .imm _ | .loc _, .tup _ | .tup _, .imm _ | .tup _, .loc _ => .isFalse (by intro e; cases e)
def W.decs : (a b : List W) → Decidable (a = b)
  | [], [] => .isTrue rfl
  | [], _ :: _ => .isFalse (by intro e; cases e)
  | _ :: _, [] => .isFalse (by intro e; cases e)
  | x :: r, y :: r' => match W.dec x y, W.decs r r' with
    | .isTrue h, .isTrue h' => .isTrue (by rw [h, h'])
    | .isFalse h, _ => .isFalse (fun e => h (List.cons.inj e).1)
    | _, .isFalse h => .isFalse (fun e => h (List.cons.inj e).2)
end
instance : DecidableEq W := W.dec
def MO.dec (a b : MO) : Decidable (a = b) := match a, b with
  | .lst x, .lst y => if h : x = y then .isTrue (by rw [h]) else .isFalse (fun e => h (MO.lst.inj e))
  | .dct x, .dct y => if h : x = y then .isTrue (by rw [h]) else .isFalse (fun e => h (MO.dct.inj e))
  | .fdct x, .fdct y => if h : x = y then .isTrue (by rw [h]) else .isFalse (fun e => h (MO.fdct.inj e))
  | .ins c x, .ins d y => if hc : c = d then (if h : x = y then .isTrue (by rw [h, hc]) else .isFalse (fun e => h (MO.ins.inj e).2)) else .isFalse (fun e => hc (MO.ins.inj e).1)
  | .lst _, .dct _ | .lst _, .fdct _ | .lst _, .ins _ _ | .dct _, .lst _ | .dct _, .fdct _ | .dct _, .ins _ _ | .fdct _, .lst _ | .fdct _, .dct _ | .fdct _, .ins _ _ | .ins _ _, .lst _ | .ins _ _, .dct _ | .ins _ _, .fdct _ => .isFalse (by intro e; cases e)
instance : DecidableEq MO := MO.dec

/-- where the classes of the text's own stand; the written part -/
structure Kap where
  cls : Nat → Addr
  K : PySem.W.Frag
instance : CoeFun Kap (fun _ => Nat → Addr) := ⟨Kap.cls⟩
abbrev Env := List (Option W)
abbrev Store := List MO
/-- what an expression comes to -/
inductive Rs (α : Type) where
  | ok (a : α) (μ : Store) | ex (c : Nat) (μ : Store) | bad
/-- what a statement comes to -/
inductive Fl where
  | nx (E : Env) (μ : Store) | rt (w : W) (μ : Store) | bk (E : Env) (μ : Store) | ct (E : Env) (μ : Store) | ex (c : Nat) (E : Env) (μ : Store) | bad
abbrev Me := Env → Store → Rs W
abbrev Mt := Env → Store → Rs Bool
abbrev Ma := Env → Store → Rs (List W)
abbrev Ms := Env → Store → Fl

/-! ### how they lie in the heap -/
section
variable (κ : Kap)
mutual
def RD (H : Hp) : V → D → Prop
  | v, .non => v = .non
  | v, .bl b => v = .bl b
  | v, .int i => v = .int i
  | v, .str s => v = .str s
  | v, .tup ds => ∃ a xs, v = .ref a ∧ Rd H a (.tup xs) ∧ RDs H xs ds
  | v, .lst ds => ∃ a xs, v = .ref a ∧ H a = some (.lst xs) ∧ RDs H xs ds
  | v, .dct kvs => ∃ a ys, v = .ref a ∧ Rd H a (.dK ys) ∧ RDk H ys kvs
  | v, .obj c fs => ∃ a dx xs, v = .ref a ∧ H a = some (.ins (κ c) dx ((nm c).zip xs)) ∧ xs.length ≤ (nm c).length ∧ RDs H xs fs
  | v, .scr ns => ∃ a, v = .ref a ∧ SqL κ.K H a (ns.map V.int)
  | v, .ty n => v = .ty (tyN n)
def RDs (H : Hp) : List V → List D → Prop
  | xs, [] => xs = []
  | xs, d :: ds => ∃ x r, xs = x :: r ∧ RD H x d ∧ RDs H r ds
def RDk (H : Hp) : List (Key × V) → List (Key × D) → Prop
  | xs, [] => xs = []
  | xs, (k, d) :: ds => ∃ x r, xs = (k, x) :: r ∧ (RD H x d ∧ d.isScr = false) ∧ RDk H r ds
end
/-- where the store's objects lie; true: it is frozen, to be read alone -/
abbrev Lo := List (Addr × Bool)
/-- the heap without the store's objects that may change -/
def hid (ρ : Lo) (H : Hp) : Hp := fun b => if (b, false) ∈ ρ then none else H b
mutual
def RW (ρ : Lo) (H : Hp) : V → W → Prop
  | v, .imm d => RD κ (hid ρ H) v d
  | v, .loc n => ∃ a f, ρ[n]? = some (a, f) ∧ v = .ref a
  | v, .tup ws => ∃ a xs, v = .ref a ∧ Rd (hid ρ H) a (.tup xs) ∧ RWs ρ H xs ws
def RWs (ρ : Lo) (H : Hp) : List V → List W → Prop
  | xs, [] => xs = []
  | xs, d :: ds => ∃ x r, xs = x :: r ∧ RW ρ H x d ∧ RWs ρ H r ds
end
def RWk {α : Type} (ρ : Lo) (H : Hp) : List (α × V) → List (α × W) → Prop
  | xs, [] => xs = []
  | xs, (k, d) :: ds => ∃ x r, xs = (k, x) :: r ∧ RW κ ρ H x d ∧ RWk ρ H r ds
def RO (ρ : Lo) (H : Hp) (a : Addr) : MO → Prop
  | .lst ws => ∃ xs, H a = some (.lst xs) ∧ RWs κ ρ H xs ws
  | .dct kvs => ∃ ys, H a = some (.dK ys) ∧ RWk κ ρ H ys kvs
  | .fdct kvs => ∃ ys, Rd H a (.dK ys) ∧ RWk κ ρ H ys kvs
  | .ins c ws => ∃ dx xs, H a = some (.ins (κ c) dx ((nm c).zip xs)) ∧ xs.length ≤ (nm c).length ∧ RWs κ ρ H xs ws
def MO.fz : MO → Bool
  | .fdct _ => true
  | _ => false
structure SR (ρ : Lo) (μ : Store) (H : Hp) : Prop where
  nd : (ρ.map (·.1)).Nodup
  len : ρ.length = μ.length
  ob : ∀ (n : Nat) (a : Addr) (f : Bool) (mo : MO), ρ[n]? = some (a, f) → μ[n]? = some mo → RO κ ρ H a mo ∧ f = mo.fz
structure RE (ρ : Lo) (H : Hp) (σ : L2.St) (E : Env) : Prop where
  len : σ.length = E.length
  at_ : ∀ (i : Nat) (w : W), E[i]? = some (some w) → ∃ v, σ[i]? = some (some v) ∧ RW κ ρ H v w
end
/-- more is known, the store's objects may have changed -/
structure Le (ρ : Lo) (H : Hp) (ρ' : Lo) (H' : Hp) : Prop where
  pre : ∀ (n : Nat) (a : Addr) (f : Bool), ρ[n]? = some (a, f) → ∃ f', ρ'[n]? = some (a, f') ∧ (f = true → f' = true)
  ex : ∀ b o, hid ρ H b = some o → hid ρ' H' b = some o
/-- the same to read: a dict, locked or not -/
def Sim (o o' : HO) : Prop := o = o' ∨ ∃ ys, (o = .dK ys ∨ ∃ ob, o = .frz ob (.dK ys)) ∧ (o' = .dK ys ∨ ∃ ob, o' = .frz ob (.dK ys))

section
variable {κ : Kap} {ρ ρ' ρ'' : Lo} {H H' H'' : Hp} {σ : L2.St} {E : Env} {μ : Store}
theorem Le.refl : Le ρ H ρ H := ⟨fun _ _ f h => ⟨f, h, fun x => x⟩, fun _ _ h => h⟩
theorem Le.trans (a : Le ρ H ρ' H') (b : Le ρ' H' ρ'' H'') : Le ρ H ρ'' H'' := ⟨fun n x f h => by
  obtain ⟨f1, h1, g1⟩ := a.pre n x f h
  obtain ⟨f2, h2, g2⟩ := b.pre n x f1 h1
  exact ⟨f2, h2, fun z => g2 (g1 z)⟩, fun x o h => b.ex x o (a.ex x o h)⟩
abbrev SimH (H H' : Hp) : Prop := ∀ b o, H b = some o → ∃ o', H' b = some o' ∧ Sim o o'
theorem simH_of (h : ∀ b o, H b = some o → H' b = some o) : SimH H H' := fun b o e => ⟨o, h b o e, .inl rfl⟩
theorem sim_lst {xs : List V} {o' : HO} (h : Sim (.lst xs) o') : o' = .lst xs := by
  rcases h with h | ⟨ys, h | ⟨ob, h⟩, _⟩
  · exact h.symm
  · cases h
  · cases h
theorem sim_tup {xs : List V} {o' : HO} (h : Sim (.tup xs) o') : o' = .tup xs := by
  rcases h with h | ⟨ys, h | ⟨ob, h⟩, _⟩
  · exact h.symm
  · cases h
  · cases h
theorem sim_ins {C dx : Addr} {fs : List (Str × V)} {o' : HO} (h : Sim (.ins C dx fs) o') : o' = .ins C dx fs := by
  rcases h with h | ⟨ys, h | ⟨ob, h⟩, _⟩
  · exact h.symm
  · cases h
  · cases h
theorem sim_frz_lst {ob : Obj} {xs : List V} {o' : HO} (h : Sim (.frz ob (.lst xs)) o') : o' = .frz ob (.lst xs) := by
  rcases h with h | ⟨ys, h | ⟨ob, h⟩, _⟩
  · exact h.symm
  · cases h
  · cases h
theorem sim_frz_tup {ob : Obj} {xs : List V} {o' : HO} (h : Sim (.frz ob (.tup xs)) o') : o' = .frz ob (.tup xs) := by
  rcases h with h | ⟨ys, h | ⟨ob, h⟩, _⟩
  · exact h.symm
  · cases h
  · cases h
theorem rd_tup (h : SimH H H') {a : Addr} {xs : List V} (r : Rd H a (.tup xs)) : Rd H' a (.tup xs) := by
  rcases r with r | ⟨o, r⟩
  · obtain ⟨o', e, q⟩ := h _ _ r
    rw [sim_tup q] at e
    exact .inl e
  · obtain ⟨o', e, q⟩ := h _ _ r
    rw [sim_frz_tup q] at e
    exact .inr ⟨o, e⟩
theorem rd_dKat {a : Addr} (h : ∀ o, H a = some o → ∃ o', H' a = some o' ∧ Sim o o') {ys : List (Key × V)} (r : Rd H a (.dK ys)) : Rd H' a (.dK ys) := by
  have go : ∀ o, H a = some o → (o = .dK ys ∨ ∃ ob, o = .frz ob (.dK ys)) → Rd H' a (.dK ys) := fun o e d => by
    obtain ⟨o', e', q⟩ := h _ e
    rcases q with q | ⟨zs, d1, d2⟩
    · subst q
      rcases d with d | ⟨ob, d⟩
      · exact .inl (by rw [e', d])
      · exact .inr ⟨ob, by rw [e', d]⟩
    · have ez : zs = ys := by
        rcases d with d | ⟨ob, d⟩ <;> rcases d1 with d1 | ⟨ob1, d1⟩ <;> rw [d] at d1 <;> cases d1 <;> rfl
      subst ez
      rcases d2 with d2 | ⟨ob, d2⟩
      · exact .inl (by rw [e', d2])
      · exact .inr ⟨ob, by rw [e', d2]⟩
  rcases r with r | ⟨o, r⟩
  · exact go _ r (.inl rfl)
  · exact go _ r (.inr ⟨o, rfl⟩)
theorem rd_dK (h : SimH H H') {a : Addr} {ys : List (Key × V)} (r : Rd H a (.dK ys)) : Rd H' a (.dK ys) := rd_dKat (h a) r
mutual
theorem RD.sim (h : SimH H H') : ∀ (d : D) (v : V), RD κ H v d → RD κ H' v d
  | .non, _, q => q
  | .bl _, _, q => q
  | .int _, _, q => q
  | .str _, _, q => q
  | .tup ds, v, ⟨a, xs, e, r, q⟩ => ⟨a, xs, e, rd_tup h r, RDs.sim h ds xs q⟩
  | .lst ds, v, ⟨a, xs, e, r, q⟩ => ⟨a, xs, e, by obtain ⟨o', e', q'⟩ := h _ _ r; rw [sim_lst q'] at e'; exact e', RDs.sim h ds xs q⟩
  | .dct ds, v, ⟨a, xs, e, r, q⟩ => ⟨a, xs, e, rd_dK h r, RDk.sim h ds xs q⟩
  | .obj c ds, v, ⟨a, dx, xs, e, r, l, q⟩ => ⟨a, dx, xs, e, by obtain ⟨o', e', q'⟩ := h _ _ r; rw [sim_ins q'] at e'; exact e', l, RDs.sim h ds xs q⟩
  | .scr ns, v, ⟨a, e, r⟩ => ⟨a, e, by
    rcases r with (r | ⟨ob, r⟩) | r
    · obtain ⟨o', e', q'⟩ := h _ _ r
      rw [sim_lst q'] at e'
      exact .inl (.inl e')
    · obtain ⟨o', e', q'⟩ := h _ _ r
      rw [sim_frz_lst q'] at e'
      exact .inl (.inr ⟨ob, e'⟩)
    · exact .inr r⟩
  | .ty _, _, q => q
theorem RDs.sim (h : SimH H H') : ∀ (ds : List D) (xs : List V), RDs κ H xs ds → RDs κ H' xs ds
  | [], _, q => q
  | d :: ds, xs, ⟨x, r, e, p, q⟩ => ⟨x, r, e, RD.sim h d x p, RDs.sim h ds r q⟩
theorem RDk.sim (h : SimH H H') : ∀ (ds : List (Key × D)) (xs : List (Key × V)), RDk κ H xs ds → RDk κ H' xs ds
  | [], _, q => q
  | (k, d) :: ds, xs, ⟨x, r, e, p, q⟩ => ⟨x, r, e, ⟨RD.sim h d x p.1, p.2⟩, RDk.sim h ds r q⟩
end
theorem RD.mono (h : ∀ b o, H b = some o → H' b = some o) (d : D) (v : V) (q : RD κ H v d) : RD κ H' v d := RD.sim (simH_of h) d v q
/-- the store's places stay, what is seen is seen alike -/
structure LeS (ρ : Lo) (H : Hp) (ρ' : Lo) (H' : Hp) : Prop where
  pre : ∀ (n : Nat) (a : Addr) (f : Bool), ρ[n]? = some (a, f) → ∃ f', ρ'[n]? = some (a, f')
  ex : SimH (hid ρ H) (hid ρ' H')
theorem Le.s (h : Le ρ H ρ' H') : LeS ρ H ρ' H' := ⟨fun n a f e => let ⟨f', e', _⟩ := h.pre n a f e; ⟨f', e'⟩, simH_of h.ex⟩
mutual
theorem RW.sim (h : LeS ρ H ρ' H') : ∀ (w : W) (v : V), RW κ ρ H v w → RW κ ρ' H' v w
  | .imm d, v, q => RD.sim h.ex d v q
  | .loc n, v, ⟨a, f, e, e'⟩ => let ⟨f', h1⟩ := h.pre n a f e; ⟨a, f', h1, e'⟩
  | .tup ws, v, ⟨a, xs, e, r, q⟩ => ⟨a, xs, e, rd_tup h.ex r, RWs.sim h ws xs q⟩
theorem RWs.sim (h : LeS ρ H ρ' H') : ∀ (ws : List W) (xs : List V), RWs κ ρ H xs ws → RWs κ ρ' H' xs ws
  | [], _, q => q
  | d :: ds, xs, ⟨x, r, e, p, q⟩ => ⟨x, r, e, RW.sim h d x p, RWs.sim h ds r q⟩
end
theorem RWk.sim {α : Type} (h : LeS ρ H ρ' H') : ∀ (ws : List (α × W)) (xs : List (α × V)), RWk κ ρ H xs ws → RWk κ ρ' H' xs ws
  | [], _, q => q
  | (k, d) :: ds, xs, ⟨x, r, e, p, q⟩ => ⟨x, r, e, p.sim h, RWk.sim h ds r q⟩
theorem RE.sim (h : LeS ρ H ρ' H') (r : RE κ ρ H σ E) : RE κ ρ' H' σ E := ⟨r.len, fun i w e => let ⟨v, e1, q⟩ := r.at_ i w e; ⟨v, e1, q.sim h⟩⟩
theorem RW.mono (h : Le ρ H ρ' H') (w : W) (v : V) (q : RW κ ρ H v w) : RW κ ρ' H' v w := RW.sim h.s w v q
theorem RWs.mono (h : Le ρ H ρ' H') (ws : List W) (xs : List V) (q : RWs κ ρ H xs ws) : RWs κ ρ' H' xs ws := RWs.sim h.s ws xs q
theorem RWk.mono {α : Type} (h : Le ρ H ρ' H') (ws : List (α × W)) (xs : List (α × V)) (q : RWk κ ρ H xs ws) : RWk κ ρ' H' xs ws := RWk.sim h.s ws xs q
theorem RE.mono (h : Le ρ H ρ' H') (r : RE κ ρ H σ E) : RE κ ρ' H' σ E := r.sim h.s

/-! ### lists of them -/
theorem RWs.nil : RWs κ ρ H [] [] := rfl
theorem RWs.cons {x : V} {w : W} {xs : List V} {ws : List W} (p : RW κ ρ H x w) (q : RWs κ ρ H xs ws) : RWs κ ρ H (x :: xs) (w :: ws) := ⟨x, xs, rfl, p, q⟩
theorem RWs.length : ∀ {ws : List W} {xs : List V}, RWs κ ρ H xs ws → xs.length = ws.length
  | [], _, q => by cases q; rfl
  | w :: ws, _, ⟨x, r, e, p, q⟩ => by subst e; rw [List.length_cons, List.length_cons, RWs.length q]
theorem RWs.get : ∀ {ws : List W} {xs : List V} {i : Nat} {w : W}, RWs κ ρ H xs ws → ws[i]? = some w → ∃ x, xs[i]? = some x ∧ RW κ ρ H x w
  | w :: ws, _, 0, _, ⟨x, r, e, p, q⟩, h => by subst e; cases h; exact ⟨x, rfl, p⟩
  | w :: ws, _, i + 1, _, ⟨x, r, e, p, q⟩, h => by subst e; simpa using RWs.get (i := i) q (by simpa using h)
  | [], _, i, _, _, h => by simp at h
theorem RWs.app : ∀ {ws ws' : List W} {xs xs' : List V}, RWs κ ρ H xs ws → RWs κ ρ H xs' ws' → RWs κ ρ H (xs ++ xs') (ws ++ ws')
  | [], _, _, _, q, q' => by cases q; exact q'
  | w :: ws, _, _, _, ⟨x, r, e, p, q⟩, q' => by subst e; exact ⟨x, _, rfl, p, RWs.app q q'⟩
theorem RWs.take : ∀ {ws : List W} {xs : List V} (n : Nat), RWs κ ρ H xs ws → RWs κ ρ H (xs.take n) (ws.take n)
  | _, _, 0, _ => rfl
  | [], _, n + 1, q => by cases q; exact RWs.nil
  | w :: ws, _, n + 1, ⟨x, r, e, p, q⟩ => by subst e; exact ⟨x, _, rfl, p, RWs.take n q⟩
theorem RWs.drop : ∀ {ws : List W} {xs : List V} (n : Nat), RWs κ ρ H xs ws → RWs κ ρ H (xs.drop n) (ws.drop n)
  | _, _, 0, q => q
  | [], _, n + 1, q => by cases q; exact RWs.nil
  | w :: ws, _, n + 1, ⟨x, r, e, p, q⟩ => by subst e; exact RWs.drop n q
theorem RWs.set : ∀ {ws : List W} {xs : List V} (n : Nat) {x : V} {w : W}, RWs κ ρ H xs ws → RW κ ρ H x w → RWs κ ρ H (xs.set n x) (ws.set n w)
  | [], _, n, _, _, q, _ => by cases q; exact RWs.nil
  | w :: ws, _, 0, _, _, ⟨x, r, e, p, q⟩, z => by subst e; exact ⟨_, _, rfl, z, q⟩
  | w :: ws, _, n + 1, _, _, ⟨x, r, e, p, q⟩, z => by subst e; exact ⟨_, _, rfl, p, RWs.set n q z⟩
theorem RWs.rev : ∀ {ws : List W} {xs : List V}, RWs κ ρ H xs ws → RWs κ ρ H xs.reverse ws.reverse
  | [], _, q => by cases q; exact RWs.nil
  | w :: ws, _, ⟨x, r, e, p, q⟩ => by
    subst e
    rw [List.reverse_cons, List.reverse_cons]
    exact RWs.app (RWs.rev q) ⟨x, [], rfl, p, rfl⟩
theorem RDs.length : ∀ {ws : List D} {xs : List V}, RDs κ H xs ws → xs.length = ws.length
  | [], _, q => by cases q; rfl
  | w :: ws, _, ⟨x, r, e, p, q⟩ => by subst e; rw [List.length_cons, List.length_cons, RDs.length q]
theorem RDs.toW : ∀ {ds : List D} {xs : List V}, RDs κ (hid ρ H) xs ds → RWs κ ρ H xs (ds.map W.imm)
  | [], _, q => q
  | d :: ds, _, ⟨x, r, e, p, q⟩ => ⟨x, r, e, p, RDs.toW q⟩
theorem RDk.toW : ∀ {ds : List (Key × D)} {xs : List (Key × V)}, RDk κ (hid ρ H) xs ds → RWk κ ρ H xs (ds.map fun p => (p.1, W.imm p.2))
  | [], _, q => q
  | (k, d) :: ds, _, ⟨x, r, e, p, q⟩ => ⟨x, r, e, p.1, RDk.toW q⟩
theorem RWs.toD : ∀ {ds : List D} {xs : List V}, RWs κ ρ H xs (ds.map W.imm) → RDs κ (hid ρ H) xs ds
  | [], _, q => q
  | d :: ds, _, ⟨x, r, e, p, q⟩ => ⟨x, r, e, p, RWs.toD q⟩

/-! ### the store: an object laid, an object written -/
theorem mem_fst {a : Addr} {f : Bool} (h : (a, f) ∈ ρ) : a ∈ ρ.map (·.1) := List.mem_map.mpr ⟨(a, f), h, rfl⟩
theorem nd_flag (nd : (ρ.map (·.1)).Nodup) {n m : Nat} {a : Addr} {f g : Bool} (h : ρ[n]? = some (a, f)) (h' : ρ[m]? = some (a, g)) : n = m := by
  obtain ⟨h1, e1⟩ := List.getElem?_eq_some_iff.mp h
  obtain ⟨h2, e2⟩ := List.getElem?_eq_some_iff.mp h'
  have k1 : n < (ρ.map (·.1)).length := by rw [List.length_map]; exact h1
  have k2 : m < (ρ.map (·.1)).length := by rw [List.length_map]; exact h2
  refine (List.getElem_inj (h₀ := k1) (h₁ := k2) nd).mp ?_
  rw [List.getElem_map, List.getElem_map, e1, e2]
theorem RO.there {a : Addr} : ∀ {mo : MO}, RO κ ρ H a mo → ∃ o, H a = some o
  | .lst _, ⟨xs, e, _⟩ => ⟨_, e⟩
  | .dct _, ⟨xs, e, _⟩ => ⟨_, e⟩
  | .fdct _, ⟨xs, e, _⟩ => by
    rcases e with e | ⟨o, e⟩
    · exact ⟨_, e⟩
    · exact ⟨_, e⟩
  | .ins _ _, ⟨o, xs, e, _⟩ => ⟨_, e⟩
theorem SR.mem (s : SR κ ρ μ H) {a : Addr} (h : a ∈ ρ.map (·.1)) : ∃ o, H a = some o := by
  obtain ⟨⟨a', f⟩, hm, e⟩ := List.mem_map.mp h
  cases e
  obtain ⟨n, hn, e⟩ := List.getElem_of_mem hm
  have hn' : n < μ.length := by rw [← s.len]; exact hn
  exact (s.ob n a' f μ[n] (by rw [List.getElem?_eq_getElem hn, e]) (List.getElem?_eq_getElem hn')).1.there
theorem SR.fresh (s : SR κ ρ μ H) {p : Addr} (h : H p = none) : p ∉ ρ.map (·.1) := fun q => by
  obtain ⟨o, e⟩ := s.mem q
  rw [h] at e; cases e
theorem RO.sim {a : Addr} (h : LeS ρ H ρ' H') (ha : ∀ o, H a = some o → ∃ o', H' a = some o' ∧ Sim o o') (hf : ∀ xs, H a = some (.dK xs) → H' a = some (.dK xs)) : ∀ {mo : MO}, RO κ ρ H a mo → RO κ ρ' H' a mo
  | .lst _, ⟨xs, e, q⟩ => ⟨xs, by obtain ⟨o', e', q'⟩ := ha _ e; rw [sim_lst q'] at e'; exact e', q.sim h⟩
  | .dct _, ⟨xs, e, q⟩ => ⟨xs, hf _ e, q.sim h⟩
  | .fdct _, ⟨xs, e, q⟩ => ⟨xs, rd_dKat ha e, q.sim h⟩
  | .ins _ _, ⟨o, xs, e, l, q⟩ => ⟨o, xs, by obtain ⟨o', e', q'⟩ := ha _ e; rw [sim_ins q'] at e'; exact e', l, q.sim h⟩
theorem RO.mono {a : Addr} (h : Le ρ H ρ' H') (ha : ∀ o, H a = some o → H' a = some o) {mo : MO} (r : RO κ ρ H a mo) : RO κ ρ' H' a mo := r.sim h.s (fun o e => ⟨o, ha o e, .inl rfl⟩) (fun _ e => ha _ e)
theorem hid_out {a : Addr} (h : (a, false) ∉ ρ) : hid ρ H a = H a := if_neg h
theorem hid_some {a : Addr} {o : HO} (h : hid ρ H a = some o) : (a, false) ∉ ρ ∧ H a = some o := by
  unfold hid at h
  split at h
  · cases h
  · exact ⟨by assumption, h⟩
/-- a new object that is not of the store (a tuple, a list that nobody will change) -/
theorem Le.new {p : Addr} {o : HO} (h : H p = none) : Le ρ H ρ (upd H p o) := ⟨fun _ _ f h => ⟨f, h, fun x => x⟩, fun b u e => by
  obtain ⟨h1, h2⟩ := hid_some e
  rw [hid_out h1, upd_ne (ne_of_none h2 h)]
  exact h2⟩
theorem SR.new {p : Addr} {o : HO} (s : SR κ ρ μ H) (h : H p = none) : SR κ ρ μ (upd H p o) :=
  ⟨s.nd, s.len, fun n a f mo e1 e2 => ⟨(s.ob n a f mo e1 e2).1.mono (Le.new h) fun u e => by rw [upd_ne (ne_of_none e h)]; exact e, (s.ob n a f mo e1 e2).2⟩⟩
/-- any extension -/
theorem Le.ext (h : ∀ b o, H b = some o → H' b = some o) : Le ρ H ρ H' := ⟨fun _ _ f h => ⟨f, h, fun x => x⟩, fun b u e => by
  obtain ⟨h1, h2⟩ := hid_some e
  rw [hid_out h1]
  exact h _ _ h2⟩
theorem SR.ext (s : SR κ ρ μ H) (h : ∀ b o, H b = some o → H' b = some o) : SR κ ρ μ H' :=
  ⟨s.nd, s.len, fun n a f mo e1 e2 => ⟨(s.ob n a f mo e1 e2).1.mono (Le.ext h) fun u e => h _ _ e, (s.ob n a f mo e1 e2).2⟩⟩
/-- an object is laid and belongs to the store -/
theorem Le.lay {p : Addr} {o : HO} {f : Bool} (h : H p = none) : Le ρ H (ρ ++ [(p, f)]) (upd H p o) := ⟨fun n a g e => ⟨g, by rw [List.getElem?_append_left (List.getElem?_eq_some_iff.mp e).1]; exact e, fun x => x⟩, fun b u e => by
  obtain ⟨h1, h2⟩ := hid_some e
  have hb : b ≠ p := ne_of_none h2 h
  rw [hid_out (by simp [h1, hb]), upd_ne hb]
  exact h2⟩
theorem SR.lay {p : Addr} {o : HO} {mo : MO} (s : SR κ ρ μ H) (h : H p = none) (hr : RO κ (ρ ++ [(p, mo.fz)]) (upd H p o) p mo) : SR κ (ρ ++ [(p, mo.fz)]) (μ ++ [mo]) (upd H p o) := by
  have hp := s.fresh h
  refine ⟨?_, by rw [List.length_append, List.length_append, s.len]; rfl, fun n a f m e1 e2 => ?_⟩
  · rw [List.map_append, List.nodup_append]
    refine ⟨s.nd, by simp, fun a ha b hb => ?_⟩
    have hb' : b = p := by simpa using hb
    rw [hb']
    rintro rfl
    exact hp ha
  · by_cases hn : n < ρ.length
    · rw [List.getElem?_append_left hn] at e1
      rw [List.getElem?_append_left (by rw [← s.len]; exact hn)] at e2
      have ha : a ≠ p := by rintro rfl; exact hp (mem_fst (List.mem_of_getElem? e1))
      exact ⟨(s.ob n a f m e1 e2).1.mono (Le.lay h) fun u e => by rw [upd_ne ha]; exact e, (s.ob n a f m e1 e2).2⟩
    · rw [List.getElem?_append_right (by omega)] at e1
      rw [List.getElem?_append_right (by rw [← s.len]; omega)] at e2
      rw [← s.len] at e2
      cases hk : n - ρ.length with
      | zero =>
        rw [hk] at e1 e2
        cases e1; cases e2
        exact ⟨hr, rfl⟩
      | succ k => rw [hk] at e1; simp at e1
/-- the store's n-th object is written -/
theorem Le.put {a : Addr} {n : Nat} {o : HO} (h : ρ[n]? = some (a, false)) : Le ρ H ρ (upd H a o) := ⟨fun _ _ f h => ⟨f, h, fun x => x⟩, fun b u e => by
  obtain ⟨h1, h2⟩ := hid_some e
  rw [hid_out h1, upd_ne (fun z : b = a => h1 (by rw [z]; exact List.mem_of_getElem? h))]
  exact h2⟩
theorem SR.put {a : Addr} {n : Nat} {o : HO} {mo : MO} (s : SR κ ρ μ H) (h : ρ[n]? = some (a, false)) (hf : mo.fz = false) (hr : RO κ ρ (upd H a o) a mo) : SR κ ρ (μ.set n mo) (upd H a o) := by
  refine ⟨s.nd, by rw [List.length_set]; exact s.len, fun m b f mm e1 e2 => ?_⟩
  by_cases hm : m = n
  · subst hm
    rw [h] at e1; cases e1
    rw [List.getElem?_set_self (by rw [← s.len]; exact (List.getElem?_eq_some_iff.mp h).1)] at e2
    cases e2
    exact ⟨hr, hf.symm⟩
  · rw [List.getElem?_set_ne (Ne.symm hm)] at e2
    have hab : b ≠ a := by
      rintro rfl
      exact hm (nd_flag s.nd e1 h)
    exact ⟨(s.ob m b f mm e1 e2).1.mono (Le.put h) fun u e => by rw [upd_ne hab]; exact e, (s.ob m b f mm e1 e2).2⟩
/-- the environment: a slot stored, slots forgotten -/
theorem RE.set {i : Nat} {v : V} {w : W} (r : RE κ ρ H σ E) (h : RW κ ρ H v w) : RE κ ρ H (σ.set i (some v)) (E.set i (some w)) := by
  refine ⟨by rw [List.length_set, List.length_set, r.len], fun j u e => ?_⟩
  by_cases hj : j = i
  · subst hj
    have hl : j < E.length := by
      have := (List.getElem?_eq_some_iff.mp e).1
      rwa [List.length_set] at this
    rw [List.getElem?_set_self hl] at e
    cases e
    exact ⟨v, List.getElem?_set_self (by rw [r.len]; exact hl), h⟩
  · rw [List.getElem?_set_ne (Ne.symm hj)] at e
    rw [List.getElem?_set_ne (Ne.symm hj)]
    exact r.at_ j u e
theorem RE.forget {i : Nat} (r : RE κ ρ H σ E) : RE κ ρ H (σ.set i none) (E.set i none) := by
  refine ⟨by rw [List.length_set, List.length_set, r.len], fun j u e => ?_⟩
  by_cases hj : j = i
  · subst hj
    have hl : j < E.length := by
      have := (List.getElem?_eq_some_iff.mp e).1
      rwa [List.length_set] at this
    rw [List.getElem?_set_self hl] at e
    cases e
  · rw [List.getElem?_set_ne (Ne.symm hj)] at e
    rw [List.getElem?_set_ne (Ne.symm hj)]
    exact r.at_ j u e
end
end Gx

namespace Gx
open PySem PySem.Spec PyProof.Rows L2

/-! ### what is wished behind -/
/-- an exception's wish: its class's name, the slots, the heap -/
abbrev XW := Nat → L2.St → Hp → Prop
def Rs.bind {α β : Type} (r : Rs α) (f : α → Store → Rs β) : Rs β := match r with
  | .ok a μ => f a μ
  | .ex c μ => .ex c μ
  | .bad => .bad
def Po {α β : Type} (κ : Kap) (xw : XW) (R : Lo → Hp → β → α → Prop) (ρ : Lo) (H : Hp) (σ : L2.St) (r : Rs α) (Q : β → Hp → Prop) : Prop := match r with
  | .ok a μ' => ∀ ρ' H' b, Le ρ H ρ' H' → SR κ ρ' μ' H' → R ρ' H' b a → Q b H'
  | .ex c μ' => ∀ ρ' H', Le ρ H ρ' H' → SR κ ρ' μ' H' → xw c σ H'
  | .bad => False
abbrev PoE (κ : Kap) (xw : XW) := Po κ xw (RW κ)
abbrev PoT (κ : Kap) (xw : XW) := Po (α := Bool) (β := Bool) κ xw (fun _ _ b a => b = a)
abbrev PoA (κ : Kap) (xw : XW) := Po κ xw (RWs κ)
section
variable {α β : Type} {κ : Kap} {xw : XW} {R : Lo → Hp → β → α → Prop} {ρ ρ1 : Lo} {H H1 : Hp} {σ : L2.St} {r : Rs α} {Q : β → Hp → Prop}
theorem Po.shift (l : Le ρ H ρ1 H1) (p : Po κ xw R ρ H σ r Q) : Po κ xw R ρ1 H1 σ r Q := by
  cases r with
  | ok a μ => exact fun ρ' H' b l' s q => p ρ' H' b (l.trans l') s q
  | ex c μ => exact fun ρ' H' l' s => p ρ' H' (l.trans l') s
  | bad => exact p
end
/-- an expression's reading by what it comes to -/
def SE (κ : Kap) (xw : XW) (te : TE) (m : Me) : Prop := ∀ ρ μ H σ E Q, SR κ ρ μ H → RE κ ρ H σ E → PoE κ xw ρ H σ (m E μ) Q → te σ H Q
def ST (κ : Kap) (xw : XW) (tt : TT) (m : Mt) : Prop := ∀ ρ μ H σ E Q, SR κ ρ μ H → RE κ ρ H σ E → PoT κ xw ρ H σ (m E μ) Q → tt σ H Q
def SA (κ : Kap) (xw : XW) (ta : TA) (m : Ma) : Prop := ∀ ρ μ H σ E Q, SR κ ρ μ H → RE κ ρ H σ E → PoA κ xw ρ H σ (m E μ) Q → ta σ H Q
section
variable {κ : Kap} {xw : XW} {ρ : Lo} {H : Hp} {σ : L2.St} {E : Env} {μ : Store} {te tb tc : TE} {tt tu : TT} {ta : TA} {m mb mc : Me} {n n' : Mt} {ma : Ma}
/-- one thing, then what hangs on it -/
theorem SE.bind {α β : Type} {R : Lo → Hp → β → α → Prop} {Q : β → Hp → Prop} {f : W → Store → Rs α} {Kk : V → Hp → Prop} (h : SE κ xw te m) (s : SR κ ρ μ H) (e : RE κ ρ H σ E) (p : Po κ xw R ρ H σ ((m E μ).bind f) Q)
    (k : ∀ w μ1 ρ1 H1 v, Le ρ H ρ1 H1 → SR κ ρ1 μ1 H1 → RE κ ρ1 H1 σ E → RW κ ρ1 H1 v w → Po κ xw R ρ1 H1 σ (f w μ1) Q → Kk v H1) : te σ H Kk := by
  refine h ρ μ H σ E _ s e ?_
  cases hm : m E μ with
  | ok w μ1 => rw [hm] at p; exact fun ρ1 H1 v l s1 r => k w μ1 ρ1 H1 v l s1 (e.mono l) r (Po.shift l p)
  | ex c μ1 => rw [hm] at p; exact p
  | bad => rw [hm] at p; exact p
theorem ST.bind {α β : Type} {R : Lo → Hp → β → α → Prop} {Q : β → Hp → Prop} {f : Bool → Store → Rs α} {Kk : Bool → Hp → Prop} (h : ST κ xw tt n) (s : SR κ ρ μ H) (e : RE κ ρ H σ E) (p : Po κ xw R ρ H σ ((n E μ).bind f) Q)
    (k : ∀ b μ1 ρ1 H1, Le ρ H ρ1 H1 → SR κ ρ1 μ1 H1 → RE κ ρ1 H1 σ E → Po κ xw R ρ1 H1 σ (f b μ1) Q → Kk b H1) : tt σ H Kk := by
  refine h ρ μ H σ E _ s e ?_
  cases hm : n E μ with
  | ok w μ1 => rw [hm] at p; exact fun ρ1 H1 v l s1 r => by cases r; exact k w μ1 ρ1 H1 l s1 (e.mono l) (Po.shift l p)
  | ex c μ1 => rw [hm] at p; exact p
  | bad => rw [hm] at p; exact p
theorem SA.bind {α β : Type} {R : Lo → Hp → β → α → Prop} {Q : β → Hp → Prop} {f : List W → Store → Rs α} {Kk : List V → Hp → Prop} (h : SA κ xw ta ma) (s : SR κ ρ μ H) (e : RE κ ρ H σ E) (p : Po κ xw R ρ H σ ((ma E μ).bind f) Q)
    (k : ∀ ws μ1 ρ1 H1 vs, Le ρ H ρ1 H1 → SR κ ρ1 μ1 H1 → RE κ ρ1 H1 σ E → RWs κ ρ1 H1 vs ws → Po κ xw R ρ1 H1 σ (f ws μ1) Q → Kk vs H1) : ta σ H Kk := by
  refine h ρ μ H σ E _ s e ?_
  cases hm : ma E μ with
  | ok w μ1 => rw [hm] at p; exact fun ρ1 H1 v l s1 r => k w μ1 ρ1 H1 v l s1 (e.mono l) r (Po.shift l p)
  | ex c μ1 => rw [hm] at p; exact p
  | bad => rw [hm] at p; exact p
/-- the end -/
theorem PoE.here {Q : VK} {w : W} {v : V} (p : PoE κ xw ρ H σ (.ok w μ) Q) (s : SR κ ρ μ H) (r : RW κ ρ H v w) : Q v H := p ρ H v Le.refl s r
theorem PoE.at {Q : VK} {w : W} {v : V} {ρ1 : Lo} {H1 : Hp} {μ1 : Store} (p : PoE κ xw ρ H σ (.ok w μ1) Q) (l : Le ρ H ρ1 H1) (s : SR κ ρ1 μ1 H1) (r : RW κ ρ1 H1 v w) : Q v H1 := p ρ1 H1 v l s r

/-! ### names, constants -/
def mVar (i : Nat) : Me := fun E μ => match E[i]? with
  | some (some w) => .ok w μ
  | _ => .bad
theorem se_var (i : Nat) : SE κ xw (tVar i) (mVar i) := fun ρ μ H σ E Q s e p => by
  unfold mVar at p
  split at p
  · rename_i w h
    obtain ⟨v, h1, r⟩ := e.at_ i w h
    exact ⟨v, h1, p.here s r⟩
  · exact p.elim
def mC (d : D) : Me := fun _ μ => .ok (.imm d) μ
theorem se_c {v : V} {d : D} (h : ∀ κ H, RD κ H v d) : SE κ xw (tC v) (mC d) := fun ρ μ H σ E Q s e p => p.here s (h κ _)
theorem se_int (i : Int) : SE κ xw (tC (.int i)) (mC (.int i)) := se_c fun _ _ => rfl
theorem se_bl (i : Bool) : SE κ xw (tC (.bl i)) (mC (.bl i)) := se_c fun _ _ => rfl
theorem se_str (i : Str) : SE κ xw (tC (.str i)) (mC (.str i)) := se_c fun _ _ => rfl
theorem se_non : SE κ xw (tC .non) (mC .non) := se_c fun _ _ => rfl

/-! ### operations by values -/
abbrev Op2 := W → W → Store → Rs W
def SR2 (κ : Kap) (r : R2) (o : Op2) : Prop := ∀ xw ρ μ H σ x y w1 w2 Q, SR κ ρ μ H → RW κ ρ H x w1 → RW κ ρ H y w2 → PoE κ xw ρ H σ (o w1 w2 μ) Q → r x y H Q
def mOp (o : Op2) (ma mb : Me) : Me := fun E μ => (ma E μ).bind fun w μ1 => (mb E μ1).bind fun w2 μ2 => o w w2 μ2
theorem se_op {r : R2} {o : Op2} (ho : SR2 κ r o) (ha : SE κ xw te m) (hb : SE κ xw tb mb) : SE κ xw (tOp r te tb) (mOp o m mb) := fun ρ μ H σ E Q s e p =>
  ha.bind s e p fun w μ1 ρ1 H1 v l s1 e1 rv p1 => hb.bind s1 e1 p1 fun w2 μ2 ρ2 H2 v2 l2 s2 e2 rv2 p2 => ho xw ρ2 μ2 H2 σ v v2 w w2 Q s2 (rv.mono l2) rv2 p2
def mUn (o : W → Rs W) (ma : Me) : Me := fun E μ => (ma E μ).bind fun w μ1 => match o w with
  | .ok a _ => .ok a μ1
  | .ex _ _ => .bad
  | .bad => .bad
def oNeg : W → Rs W
  | .imm (.int i) => .ok (.imm (.int (-i))) []
  | _ => .bad
theorem se_neg (ha : SE κ xw te m) : SE κ xw (tUn (rU fun i => .int (-i)) te) (mUn oNeg m) := fun ρ μ H σ E Q s e p =>
  ha.bind s e p fun w μ1 ρ1 H1 v l s1 e1 rv p1 => by
    unfold oNeg at p1
    split at p1
    · rename_i w' a x hq
      split at hq
      · cases hq
        exact ⟨_, rv, p1 ρ1 H1 _ Le.refl s1 rfl⟩
      · cases hq
    · exact p1.elim
    · exact p1.elim

/-! ### lists and tuples as they stand -/
/-- the items of a list that may be read and joined -/
def litems (μ : Store) : W → Option (List W)
  | .imm (.lst ds) => some (ds.map W.imm)
  | .loc n => match μ[n]? with
    | some (.lst ws) => some ws
    | _ => none
  | _ => none
/-- .. the script too -/
def ritems (μ : Store) : W → Option (List W)
  | .imm (.scr ns) => some (ns.map fun n => W.imm (.int n))
  | w => litems μ w
def titems : W → Option (List W)
  | .imm (.tup ds) => some (ds.map W.imm)
  | .tup ws => some ws
  | _ => none
theorem litems_ok {w : W} {ws : List W} {v : V} (h : litems μ w = some ws) (s : SR κ ρ μ H) (r : RW κ ρ H v w) : ∃ a xs, v = .ref a ∧ H a = some (.lst xs) ∧ RWs κ ρ H xs ws := by
  unfold litems at h
  split at h
  · cases h
    obtain ⟨a, xs, e, ha, q⟩ := r
    exact ⟨a, xs, e, (hid_some ha).2, q.toW⟩
  · split at h
    · rename_i hm
      cases h
      obtain ⟨a, f, hn, e⟩ := r
      obtain ⟨⟨xs, ha, q⟩, _⟩ := s.ob _ a _ _ hn hm
      exact ⟨a, xs, e, ha, q⟩
    · cases h
  · cases h
theorem scr_items {ns : List Int} : RWs κ ρ H (ns.map V.int) (ns.map fun n => W.imm (.int n)) := by
  induction ns with
  | nil => exact RWs.nil
  | cons n r ih => exact RWs.cons rfl ih
theorem sql_hid {a : Addr} {xs : List V} (h : SqL κ.K (hid ρ H) a xs) : SqL κ.K H a xs := by
  rcases h with (h | ⟨ob, h⟩) | h
  · exact .inl (.inl (hid_some h).2)
  · exact .inl (.inr ⟨ob, (hid_some h).2⟩)
  · exact .inr h
theorem ritems_ok {w : W} {ws : List W} {v : V} (h : ritems μ w = some ws) (s : SR κ ρ μ H) (r : RW κ ρ H v w) : ∃ a xs, v = .ref a ∧ SqL κ.K H a xs ∧ RWs κ ρ H xs ws := by
  unfold ritems at h
  split at h
  · cases h
    obtain ⟨a, e, ha⟩ := r
    exact ⟨a, _, e, sql_hid ha, scr_items⟩
  · obtain ⟨a, xs, e, ha, q⟩ := litems_ok h s r
    exact ⟨a, xs, e, .inl (.inl ha), q⟩
theorem rd_hid {a : Addr} {u : HO} (h : Rd (hid ρ H) a u) : Rd H a u := by
  rcases h with h | ⟨o, h⟩
  · exact .inl (hid_some h).2
  · exact .inr ⟨o, (hid_some h).2⟩
theorem titems_ok {w : W} {ws : List W} {v : V} (h : titems w = some ws) (r : RW κ ρ H v w) : ∃ a xs, v = .ref a ∧ Rd (hid ρ H) a (.tup xs) ∧ RWs κ ρ H xs ws := by
  unfold titems at h
  split at h
  · cases h
    obtain ⟨a, xs, e, ha, q⟩ := r
    exact ⟨a, xs, e, ha, q.toW⟩
  · cases h
    exact r
  · cases h
theorem titems_sq {w : W} {ws : List W} {v : V} (h : titems w = some ws) (r : RW κ ρ H v w) : ∃ a xs, v = .ref a ∧ SqT κ.K H a xs ∧ RWs κ ρ H xs ws := by
  obtain ⟨a, xs, e, q, rr⟩ := titems_ok h r
  exact ⟨a, xs, e, .inl (rd_hid q), rr⟩
/-! ### what is made -/
def immAll : List W → Option (List D)
  | [] => some []
  | .imm d :: r => match immAll r with
    | some ds => some (d :: ds)
    | none => none
  | _ => none
theorem immAll_map : ∀ {ws : List W} {ds : List D}, immAll ws = some ds → ws = ds.map W.imm
  | [], _, h => by cases h; rfl
  | .imm d :: r, ds, h => by
    unfold immAll at h
    split at h
    · rename_i ds' h'
      cases h
      rw [immAll_map h']
      rfl
    · cases h
  | .loc _ :: r, ds, h => by unfold immAll at h; cases h
  | .tup _ :: r, ds, h => by unfold immAll at h; cases h
@[simp] theorem immAll_imm : ∀ ds : List D, immAll (ds.map W.imm) = some ds
  | [] => rfl
  | d :: ds => by show immAll (W.imm d :: ds.map W.imm) = _; unfold immAll; rw [immAll_imm ds]
def mkT (ws : List W) : W := match immAll ws with
  | some ds => .imm (.tup ds)
  | none => .tup ws
/-- a new list: data at once (fz) or an object of the store -/
def mkL (fz : Bool) (ws : List W) (μ : Store) : Rs W := match fz, immAll ws with
  | true, some ds => .ok (.imm (.lst ds)) μ
  | _, _ => .ok (.loc μ.length) (μ ++ [.lst ws])
theorem mkT_rw {ws : List W} {a : Addr} {xs : List V} (h : Rd (hid ρ H) a (.tup xs)) (q : RWs κ ρ H xs ws) : RW κ ρ H (.ref a) (mkT ws) := by
  unfold mkT
  split
  · rename_i ds hd
    rw [immAll_map hd] at q
    exact ⟨a, xs, rfl, h, q.toD⟩
  · exact ⟨a, xs, rfl, h, q⟩
theorem PoE.tup {Q : VK} {ws : List W} {p : Addr} {xs : List V} (po : PoE κ xw ρ H σ (.ok (mkT ws) μ) Q) (s : SR κ ρ μ H) (q : RWs κ ρ H xs ws) (hp : H p = none) : Q (.ref p) (upd H p (.tup xs)) :=
  po.at (Le.new hp) (s.new hp) (mkT_rw (.inl (by rw [hid_out (fun z => s.fresh hp (mem_fst z)), upd_same])) (q.mono (Le.new hp)))
theorem loc_new {p : Addr} {f : Bool} (s : SR κ ρ μ H) : (ρ ++ [(p, f)])[μ.length]? = some (p, f) := by
  rw [← s.len, List.getElem?_append_right (Nat.le_refl _), Nat.sub_self]
  rfl
theorem PoE.lst {Q : VK} {fz : Bool} {ws : List W} {p : Addr} {xs : List V} (po : PoE κ xw ρ H σ (mkL fz ws μ) Q) (s : SR κ ρ μ H) (q : RWs κ ρ H xs ws) (hp : H p = none) : Q (.ref p) (upd H p (.lst xs)) := by
  unfold mkL at po
  split at po
  · rename_i ds hd
    rw [immAll_map hd] at q
    exact po.at (Le.new hp) (s.new hp) ⟨p, xs, rfl, by rw [hid_out (fun z => s.fresh hp (mem_fst z)), upd_same], (q.mono (Le.new hp)).toD⟩
  · exact po.at (Le.lay hp) (s.lay hp ⟨xs, upd_same, q.mono (Le.lay hp)⟩) ⟨p, _, loc_new s, rfl⟩
theorem PoE.dct {Q : VK} {kvs : List (Key × W)} {p : Addr} {ys : List (Key × V)} (po : PoE κ xw ρ H σ (.ok (.loc μ.length) (μ ++ [.dct kvs])) Q) (s : SR κ ρ μ H) (q : RWk κ ρ H ys kvs) (hp : H p = none) : Q (.ref p) (upd H p (.dK ys)) :=
  po.at (Le.lay hp) (s.lay hp ⟨ys, upd_same, q.mono (Le.lay hp)⟩) ⟨p, _, loc_new s, rfl⟩

/-! ### arguments, displays -/
def mNil : Ma := fun _ μ => .ok [] μ
def mCons (me : Me) (mr : Ma) : Ma := fun E μ => (me E μ).bind fun w μ1 => (mr E μ1).bind fun ws μ2 => .ok (w :: ws) μ2
theorem sa_nil : SA κ xw tNil mNil := fun ρ μ H σ E Q s e p => p ρ H [] Le.refl s RWs.nil
theorem sa_cons (ha : SE κ xw te m) (hr : SA κ xw ta ma) : SA κ xw (tCons te ta) (mCons m ma) := fun ρ μ H σ E Q s e p =>
  ha.bind s e p fun w μ1 ρ1 H1 v l s1 e1 rv p1 => hr.bind s1 e1 p1 fun ws μ2 ρ2 H2 vs l2 s2 e2 rs p2 => p2 ρ2 H2 _ Le.refl s2 (RWs.cons (rv.mono l2) rs)
def cap : Nat := 16000000
theorem cap_line {n : Nat} (h : n ≤ cap) : n ≤ sizeLine := Nat.le_trans h (by decide)
theorem cap_lt {n : Nat} (h : n < cap) : n < sizeLine := Nat.lt_of_lt_of_le h (by decide)
def mTup (ma : Ma) : Me := fun E μ => (ma E μ).bind fun ws μ1 => if ws.length ≤ cap then .ok (mkT ws) μ1 else .bad
def mLst (fz : Bool) (ma : Ma) : Me := fun E μ => (ma E μ).bind fun ws μ1 => if ws.length ≤ cap then mkL fz ws μ1 else .bad
theorem se_tup (ha : SA κ xw ta ma) : SE κ xw (tTup ta) (mTup ma) := fun ρ μ H σ E Q s e p =>
  ha.bind s e p fun ws μ1 ρ1 H1 vs l s1 e1 rs p1 => by
    split at p1
    · rename_i hc
      exact ⟨by rw [rs.length]; exact cap_line hc, fun q hq => PoE.tup (xw := xw) (σ := σ) p1 s1 rs hq⟩
    · exact p1.elim
theorem se_lst (fz : Bool) (ha : SA κ xw ta ma) : SE κ xw (tLst ta) (mLst fz ma) := fun ρ μ H σ E Q s e p =>
  ha.bind s e p fun ws μ1 ρ1 H1 vs l s1 e1 rs p1 => by
    split at p1
    · rename_i hc
      exact ⟨by rw [rs.length]; exact cap_line hc, fun q hq => PoE.lst p1 s1 rs hq⟩
    · exact p1.elim
def mDNew : Me := fun _ μ => .ok (.loc μ.length) (μ ++ [.dct []])
theorem se_dnew : SE κ xw tDNewK mDNew := fun ρ μ H σ E Q s e p q hq => PoE.dct p s rfl hq

/-! ### tests -/
def mB (me : Me) : Mt := fun E μ => (me E μ).bind fun w μ1 => match w with
  | .imm (.bl b) => .ok b μ1
  | _ => .bad
theorem st_test (ha : SE κ xw te m) : ST κ xw (tTest te) (mB m) := fun ρ μ H σ E Q s e p =>
  ha.bind s e p fun w μ1 ρ1 H1 v l s1 e1 rv p1 => by
    split at p1
    · exact ⟨_, rv, p1 ρ1 H1 _ Le.refl s1 rfl⟩
    · exact p1.elim
theorem st_B (ha : SE κ xw te m) : ST κ xw (tB te) (mB m) := fun ρ μ H σ E Q s e p =>
  ha.bind s e p fun w μ1 ρ1 H1 v l s1 e1 rv p1 => by
    split at p1
    · exact ⟨_, rv, p1 ρ1 H1 _ Le.refl s1 rfl⟩
    · exact p1.elim
def truth (μ : Store) (w : W) : Option Bool := match w with
  | .imm .non => some false
  | .imm (.bl b) => some b
  | .imm (.int i) => some (i != 0)
  | .imm (.str y) => if y.length ≤ cap then some ((y.length : Int) != 0) else none
  | _ => match ritems μ w with
    | some ws => some (!ws.isEmpty)
    | none => match titems w with
      | some ws => some (!ws.isEmpty)
      | none => none
theorem isEmpty_rws {xs : List V} {ws : List W} (q : RWs κ ρ H xs ws) : (!xs.isEmpty) = !ws.isEmpty := by
  cases ws with
  | nil => cases q; rfl
  | cons w r => obtain ⟨x, r', rfl, _⟩ := q; rfl
theorem truth_ok {w : W} {b : Bool} {v : V} (h : truth μ w = some b) (s : SR κ ρ μ H) (r : RW κ ρ H v w) : TruV κ.K v H b := by
  unfold truth at h
  split at h
  · cases h; cases r; rfl
  · cases h; cases r; rfl
  · cases h; cases r; rfl
  · split at h
    · rename_i hc
      cases h; cases r
      exact ⟨cap_line hc, rfl⟩
    · cases h
  · split at h
    · rename_i ws hw
      cases h
      obtain ⟨a, xs, rfl, hx, q⟩ := ritems_ok hw s r
      exact .inl ⟨xs, hx, (isEmpty_rws q).symm⟩
    · split at h
      · rename_i ws hw
        cases h
        obtain ⟨a, xs, rfl, hx, q⟩ := titems_sq hw r
        exact .inr (.inl ⟨xs, hx, (isEmpty_rws q).symm⟩)
      · cases h
def mTru (me : Me) : Mt := fun E μ => (me E μ).bind fun w μ1 => match truth μ1 w with
  | some b => .ok b μ1
  | none => .bad
theorem st_tru (ha : SE κ xw te m) : ST κ xw (fun σ H Q => te σ H fun x H' => ∃ k, TruV κ.K x H' k ∧ Q k H') (mTru m) := fun ρ μ H σ E Q s e p =>
  ha.bind s e p fun w μ1 ρ1 H1 v l s1 e1 rv p1 => by
    split at p1
    · rename_i b hb
      exact ⟨b, truth_ok hb s1 rv, p1 ρ1 H1 _ Le.refl s1 rfl⟩
    · exact p1.elim
def mNot (a : Mt) : Mt := fun E μ => (a E μ).bind fun b μ1 => .ok (!b) μ1
def mAnd (a b : Mt) : Mt := fun E μ => (a E μ).bind fun c μ1 => if c = true then b E μ1 else .ok false μ1
def mOr (a b : Mt) : Mt := fun E μ => (a E μ).bind fun c μ1 => if c = true then .ok true μ1 else b E μ1
theorem st_not (ha : ST κ xw tt n) : ST κ xw (tNot tt) (mNot n) := fun ρ μ H σ E Q s e p =>
  ha.bind s e p fun b μ1 ρ1 H1 l s1 e1 p1 => p1 ρ1 H1 _ Le.refl s1 rfl
theorem st_and (ha : ST κ xw tt n) (hb : ST κ xw tu n') : ST κ xw (tAnd tt tu) (mAnd n n') := fun ρ μ H σ E Q s e p =>
  ha.bind s e p fun b μ1 ρ1 H1 l s1 e1 p1 => by
    cases b with
    | true => exact hb ρ1 μ1 H1 σ E Q s1 e1 p1
    | false => exact p1 ρ1 H1 _ Le.refl s1 rfl
theorem st_or (ha : ST κ xw tt n) (hb : ST κ xw tu n') : ST κ xw (tOr tt tu) (mOr n n') := fun ρ μ H σ E Q s e p =>
  ha.bind s e p fun b μ1 ρ1 H1 l s1 e1 p1 => by
    cases b with
    | true => exact p1 ρ1 H1 _ Le.refl s1 rfl
    | false => exact hb ρ1 μ1 H1 σ E Q s1 e1 p1
def asB : W → Option Bool
  | .imm (.bl b) => some b
  | _ => none
theorem asB_ok {w : W} {b : Bool} {v : V} (h : asB w = some b) (r : RW κ ρ H v w) : v = .bl b := by
  unfold asB at h
  split at h
  · cases h; exact r
  · cases h
def mNotV (a : Me) : Me := fun E μ => (a E μ).bind fun w μ1 => match asB w with
  | some b => .ok (.imm (.bl (!b))) μ1
  | none => .bad
def mAndV (a b : Me) : Me := fun E μ => (a E μ).bind fun w μ1 => match asB w with
  | some true => b E μ1
  | some false => .ok (.imm (.bl false)) μ1
  | none => .bad
def mOrV (a b : Me) : Me := fun E μ => (a E μ).bind fun w μ1 => match asB w with
  | some true => .ok (.imm (.bl true)) μ1
  | some false => b E μ1
  | none => .bad
theorem se_not (ha : SE κ xw te m) : SE κ xw (tNotV te) (mNotV m) := fun ρ μ H σ E Q s e p =>
  ha.bind s e p fun w μ1 ρ1 H1 v l s1 e1 rv p1 => by
    split at p1
    · rename_i b hb
      exact ⟨b, asB_ok hb rv, p1 ρ1 H1 _ Le.refl s1 rfl⟩
    · exact p1.elim
theorem se_and (ha : SE κ xw te m) (hb : SE κ xw tb mb) : SE κ xw (tAndV te tb) (mAndV m mb) := fun ρ μ H σ E Q s e p =>
  ha.bind s e p fun w μ1 ρ1 H1 v l s1 e1 rv p1 => by
    split at p1
    · rename_i h
      exact ⟨true, asB_ok h rv, by rw [if_pos rfl]; exact hb ρ1 μ1 H1 σ E Q s1 e1 p1⟩
    · rename_i h
      exact ⟨false, asB_ok h rv, by rw [if_neg Bool.false_ne_true]; exact p1 ρ1 H1 _ Le.refl s1 rfl⟩
    · exact p1.elim
theorem se_or (ha : SE κ xw te m) (hb : SE κ xw tb mb) : SE κ xw (tOrV te tb) (mOrV m mb) := fun ρ μ H σ E Q s e p =>
  ha.bind s e p fun w μ1 ρ1 H1 v l s1 e1 rv p1 => by
    split at p1
    · rename_i h
      exact ⟨true, asB_ok h rv, by rw [if_pos rfl]; exact p1 ρ1 H1 _ Le.refl s1 rfl⟩
    · rename_i h
      exact ⟨false, asB_ok h rv, by rw [if_neg Bool.false_ne_true]; exact hb ρ1 μ1 H1 σ E Q s1 e1 p1⟩
    · exact p1.elim
def mIf (c : Mt) (a b : Me) : Me := fun E μ => (c E μ).bind fun k μ1 => if k = true then a E μ1 else b E μ1
theorem se_if (hc : ST κ xw tt n) (ha : SE κ xw te m) (hb : SE κ xw tb mb) : SE κ xw (tIf tt te tb) (mIf n m mb) := fun ρ μ H σ E Q s e p =>
  hc.bind s e p fun k μ1 ρ1 H1 l s1 e1 p1 => by
    cases k with
    | true => exact ha ρ1 μ1 H1 σ E Q s1 e1 p1
    | false => exact hb ρ1 μ1 H1 σ E Q s1 e1 p1
/-- two rules for one expression -/
theorem SE.or1 {te' : TE} (h : SE κ xw te m) : SE κ xw (fun σ H Q => te σ H Q ∨ te' σ H Q) m := fun ρ μ H σ E Q s e p => .inl (h ρ μ H σ E Q s e p)
end
theorem PE.or {X : Cx} {e : Expr} {t t' : TE} (h : PE X e t) (h' : PE X e t') : PE X e (fun σ H Q => t σ H Q ∨ t' σ H Q) := ⟨fun pins s σ H Q I q => q.elim (h.run pins s σ H Q I) (h'.run pins s σ H Q I)⟩
theorem PC.or {X : Cx} {op : CmpOp} {a b : Expr} {t t' : TE} (h : PC X op a b t) (h' : PC X op a b t') : PC X op a b (fun σ H Q => t σ H Q ∨ t' σ H Q) := ⟨fun pins s σ H Q I q => q.elim (h.run pins s σ H Q I) (h'.run pins s σ H Q I)⟩
theorem PI.or {X : Cx} {tg e : Expr} {t t' : TI} (h : PI X tg e t) (h' : PI X tg e t') : PI X tg e (fun σ H R => t σ H R ∨ t' σ H R) := ⟨fun pins s σ H Q I q => q.elim (h.run pins s σ H Q I) (h'.run pins s σ H Q I)⟩
theorem pc_of {X : Cx} {op : CmpOp} {a b : Expr} {ta tb : TE} {r : R2} (ho : OpR X (compareOp op) r) (ha : PE X a ta) (hb : PE X b tb) : PC X op a b (tOp r ta tb) :=
  ⟨fun pins s σ H Q I h => bin ha hb I h fun v u s2 x y H2 I2 rx ry q => ho pins s2 σ H2 x y v u Q I2 rx ry q⟩
end Gx

namespace Gx
open PySem PySem.Spec PyProof.Rows L2

section
variable {κ : Kap} {xw : XW} {ρ : Lo} {H : Hp} {σ : L2.St} {E : Env} {μ : Store} {te tb tc : TE} {tt tu : TT} {ta : TA} {m mb mc : Me} {n n' : Mt} {ma : Ma}
/-! ### arithmetic -/
def oAdd (fz : Bool) : Op2 := fun w1 w2 μ => match w1, w2 with
  | .imm (.int i), .imm (.int j) => .ok (.imm (.int (i + j))) μ
  | .imm (.str s), .imm (.str t) => if s.length + t.length ≤ cap then .ok (.imm (.str (s ++ t))) μ else .bad
  | _, _ => match litems μ w1, litems μ w2 with
    | some a, some b => if a.length + b.length ≤ cap then mkL fz (a ++ b) μ else .bad
    | _, _ => match titems w1, titems w2 with
      | some a, some b => if a.length + b.length ≤ cap then .ok (mkT (a ++ b)) μ else .bad
      | _, _ => .bad
def rAddX (K : PySem.W.Frag) : R2 := fun x y H Q => (rI0 fun i j => .int (i + j)) x y H Q ∨ (∃ i j, x = .str i ∧ y = .str j ∧ i.length + j.length ≤ sizeLine ∧ Q (.str (i ++ j)) H) ∨ rCat x y H Q ∨ rCatA K x y H Q
theorem op_addX {X : Cx} : OpR X (binaryOp .Add) (rAddX X.K) := OpR.or op_add (OpR.or op_add_str (OpR.or op_cat op_catA))
theorem sr_add (fz : Bool) : SR2 κ (rAddX κ.K) (oAdd fz) := fun xw ρ μ H σ x y w1 w2 Q s r1 r2 p => by
  unfold oAdd at p
  split at p
  · exact .inl ⟨_, _, r1, r2, p ρ H _ Le.refl s rfl⟩
  · split at p
    · rename_i hc
      exact .inr (.inl ⟨_, _, r1, r2, cap_line hc, p ρ H _ Le.refl s rfl⟩)
    · exact p.elim
  · split at p
    · rename_i a b ha hb
      split at p
      · rename_i hc
        obtain ⟨l1, xs, rfl, h1, q1⟩ := litems_ok ha s r1
        obtain ⟨l2, ys, rfl, h2, q2⟩ := litems_ok hb s r2
        exact .inr (.inr (.inl ⟨l1, l2, xs, ys, rfl, rfl, h1, h2, by rw [q1.length, q2.length]; exact cap_line hc, fun q hq => PoE.lst p s (q1.app q2) hq⟩))
      · exact p.elim
    · split at p
      · rename_i a b ha hb
        split at p
        · rename_i hc
          obtain ⟨l1, xs, rfl, h1, q1⟩ := titems_ok ha r1
          obtain ⟨l2, ys, rfl, h2, q2⟩ := titems_ok hb r2
          refine .inr (.inr (.inr ⟨l1, l2, xs, ys, rfl, rfl, .inl (rd_hid h1), .inl (rd_hid h2), by rw [q1.length, q2.length]; exact cap_line hc, fun e => ?_, fun _ e => ?_, fun _ _ q hq => PoE.tup (xw := xw) (σ := σ) p s (q1.app q2) hq⟩))
          · subst e
            refine p ρ H _ Le.refl s (mkT_rw h2 ?_)
            have := q1.app q2
            rwa [List.nil_append] at this
          · subst e
            refine p ρ H _ Le.refl s (mkT_rw h1 ?_)
            have := q1.app q2
            rwa [List.append_nil] at this
        · exact p.elim
      · exact p.elim
def oInt (C : Int → Int → Bool) (g : Int → Int → D) : Op2 := fun w1 w2 μ => match w1, w2 with
  | .imm (.int i), .imm (.int j) => if C i j = true then .ok (.imm (g i j)) μ else .bad
  | _, _ => .bad
theorem sr_int {P : Int → Int → Prop} {gv : Int → Int → V} {C : Int → Int → Bool} {g : Int → Int → D} (hC : ∀ i j, C i j = true → P i j) (hg : ∀ κ H i j, RD κ H (gv i j) (g i j)) : SR2 κ (rI P gv) (oInt C g) := fun xw ρ μ H σ x y w1 w2 Q s r1 r2 p => by
  unfold oInt at p
  split at p
  · split at p
    · rename_i hc
      exact ⟨_, _, r1, r2, hC _ _ hc, p ρ H _ Le.refl s (hg _ _ _ _)⟩
    · exact p.elim
  · exact p.elim
def oInt0 (g : Int → Int → D) : Op2 := fun w1 w2 μ => match w1, w2 with
  | .imm (.int i), .imm (.int j) => .ok (.imm (g i j)) μ
  | _, _ => .bad
theorem sr_int0 {gv : Int → Int → V} {g : Int → Int → D} (hg : ∀ κ H i j, RD κ H (gv i j) (g i j)) : SR2 κ (rI0 gv) (oInt0 g) := fun xw ρ μ H σ x y w1 w2 Q s r1 r2 p => by
  unfold oInt0 at p
  split at p
  · exact ⟨_, _, r1, r2, p ρ H _ Le.refl s (hg _ _ _ _)⟩
  · exact p.elim
def oSub : Op2 := oInt0 fun i j => .int (i - j)
theorem sr_sub : SR2 κ (rI0 fun i j => .int (i - j)) oSub := sr_int0 fun _ _ _ _ => rfl
def mulOk (i j : Int) : Bool := (decide (-(2 ^ 64) < i) && decide (i < 2 ^ 64)) || (decide (-(2 ^ 64) < j) && decide (j < 2 ^ 64))
def oMul : Op2 := oInt mulOk fun i j => .int (i * j)
theorem sr_mul : SR2 κ (rI CMul fun i j => .int (i * j)) oMul := sr_int (fun i j h => by
  unfold mulOk at h
  simp only [Bool.or_eq_true, Bool.and_eq_true, decide_eq_true_eq] at h
  exact h) fun _ _ _ _ => rfl
def divOk (_ j : Int) : Bool := decide (j ≠ 0) && decide (j.natAbs < 1073741824)
def oDiv : Op2 := oInt divOk fun i j => .int (i.fdiv j)
theorem sr_div : SR2 κ (rI CDivN fun i j => .int (i.fdiv j)) oDiv := sr_int (fun i j h => by
  unfold divOk at h
  simp only [Bool.and_eq_true, decide_eq_true_eq] at h
  exact h) fun _ _ _ _ => rfl
def oMod : Op2 := oInt (fun _ j => decide (j ≠ 0)) fun i j => .int (i.fmod j)
theorem sr_mod : SR2 κ (rI (fun _ j => j ≠ 0) fun i j => .int (i.fmod j)) oMod := sr_int (fun i j h => of_decide_eq_true h) fun _ _ _ _ => rfl
def powOk (i j : Int) : Bool := decide (0 ≤ j) && decide (j ≤ 1000000) && decide (i.natAbs < 2 ^ 64)
def oPow : Op2 := oInt powOk fun i j => .int (i ^ j.toNat)
theorem sr_pow : SR2 κ (rI CPow fun i j => .int (i ^ j.toNat)) oPow := sr_int (fun i j h => by
  unfold powOk at h
  simp only [Bool.and_eq_true, decide_eq_true_eq] at h
  exact ⟨h.1.1, h.1.2, h.2⟩) fun _ _ _ _ => rfl
def oLt : Op2 := oInt0 fun i j => .bl (decide (i < j))
def oLe : Op2 := oInt0 fun i j => .bl (decide (i ≤ j))
def oGt : Op2 := oInt0 fun i j => .bl (decide (j < i))
def oGe : Op2 := oInt0 fun i j => .bl (decide (j ≤ i))
theorem sr_lt : SR2 κ (rI0 fun i j => .bl (decide (i < j))) oLt := sr_int0 fun _ _ _ _ => rfl
theorem sr_le : SR2 κ (rI0 fun i j => .bl (decide (i ≤ j))) oLe := sr_int0 fun _ _ _ _ => rfl
theorem sr_gt : SR2 κ (rI0 fun i j => .bl (decide (j < i))) oGt := sr_int0 fun _ _ _ _ => rfl
theorem sr_ge : SR2 κ (rI0 fun i j => .bl (decide (j ≤ i))) oGe := sr_int0 fun _ _ _ _ => rfl

/-! ### == of data -/
def optAll {α β : Type} (f : α → Option β) : List α → Option (List β)
  | [] => some []
  | a :: r => match f a with
    | none => none
    | some b => match optAll f r with
      | none => none
      | some bs => some (b :: bs)
def pyD : Nat → D → Option PyData
  | _, .non => some .none
  | _, .bl b => some (.bool b)
  | _, .int i => some (.int i)
  | _, .str s => some (.str s)
  | k + 1, .tup ds => match optAll (pyD k) ds with
    | some es => some (.tuple es)
    | none => none
  | k + 1, .lst ds => match optAll (pyD k) ds with
    | some es => some (.list es)
    | none => none
  | _ + 1, .scr ns => some (.list (ns.map PyData.int))
  | _, _ => none
def pyW : Nat → Store → W → Option PyData
  | k, _, .imm d => pyD k d
  | k + 1, μ, .tup ws => match optAll (pyW k μ) ws with
    | some es => some (.tuple es)
    | none => none
  | k + 1, μ, .loc n => match μ[n]? with
    | some (.lst ws) => match optAll (pyW k μ) ws with
      | some es => some (.list es)
      | none => none
    | _ => none
  | _, _, _ => none
/-- it lies so, is no dict, is no deeper than k -/
structure IsPy (K : PySem.W.Frag) (H : Hp) (k : Nat) (v : V) (d : PyData) : Prop where
  dp : Dp K H v d
  pl : d.plain = true
  le : d.depth ≤ k + 1
structure IsPys (K : PySem.W.Frag) (H : Hp) (k : Nat) (vs : List V) (ds : List PyData) : Prop where
  dp : DpAll K H vs ds
  pl : PyData.plainAll ds = true
  le : PyData.depthAll ds ≤ k + 1
theorem isPys_cons {k : Nat} {v : V} {vs : List V} {d : PyData} {ds : List PyData} (a : IsPy κ.K H k v d) (b : IsPys κ.K H k vs ds) : IsPys κ.K H k (v :: vs) (d :: ds) :=
  ⟨.cons a.dp b.dp, by simp only [PyData.plainAll, a.pl, b.pl, Bool.and_self], by
    have h1 := a.le
    have h2 := b.le
    simp only [PyData.depthAll]
    omega⟩
theorem isPy_tup {k : Nat} {a : Addr} {xs : List V} {ds : List PyData} (h : SqT κ.K H a xs) (b : IsPys κ.K H k xs ds) : IsPy κ.K H (k + 1) (.ref a) (.tuple ds) :=
  ⟨.tup h b.dp, by simp only [PyData.plain, b.pl], by have := b.le; simp only [PyData.depth]; omega⟩
theorem isPy_lst {k : Nat} {a : Addr} {xs : List V} {ds : List PyData} (h : SqL κ.K H a xs) (b : IsPys κ.K H k xs ds) : IsPy κ.K H (k + 1) (.ref a) (.list ds) :=
  ⟨.lst h b.dp, by simp only [PyData.plain, b.pl], by have := b.le; simp only [PyData.depth]; omega⟩
theorem isPy_ints {k : Nat} : ∀ ns : List Int, IsPys κ.K H k (ns.map V.int) (ns.map PyData.int)
  | [] => ⟨.nil, rfl, by simp [PyData.depthAll]⟩
  | i :: r => isPys_cons ⟨.int i, rfl, by simp [PyData.depth]⟩ (isPy_ints r)
theorem pyD_ok : ∀ (k : Nat) (d : D) (v : V) (e : PyData), RD κ (hid ρ H) v d → pyD k d = some e → IsPy κ.K H k v e
  | k, .non, v, e, r, h => by
    rw [show pyD k D.non = some .none by cases k <;> rfl] at h
    cases h; cases r; exact ⟨.non, rfl, by simp [PyData.depth]⟩
  | k, .bl b, v, e, r, h => by
    rw [show pyD k (D.bl b) = some (.bool b) by cases k <;> rfl] at h
    cases h; cases r; exact ⟨.bl b, rfl, by simp [PyData.depth]⟩
  | k, .int i, v, e, r, h => by
    rw [show pyD k (D.int i) = some (.int i) by cases k <;> rfl] at h
    cases h; cases r; exact ⟨.int i, rfl, by simp [PyData.depth]⟩
  | k, .str i, v, e, r, h => by
    rw [show pyD k (D.str i) = some (.str i) by cases k <;> rfl] at h
    cases h; cases r; exact ⟨.str i, rfl, by simp [PyData.depth]⟩
  | k + 1, .tup ds, v, e, ⟨a, xs, ea, ha, q⟩, h => by
    unfold pyD at h
    split at h
    · rename_i es he
      cases h
      subst ea
      have all : ∀ (ds : List D) (xs : List V) (es : List PyData), RDs κ (hid ρ H) xs ds → optAll (pyD k) ds = some es → IsPys κ.K H k xs es := by
        intro ds
        induction ds with
        | nil => intro xs es q he; cases q; cases he; exact ⟨.nil, rfl, by simp [PyData.depthAll]⟩
        | cons d r ih =>
          intro xs es q he
          obtain ⟨x, xr, rfl, q1, q2⟩ := q
          unfold optAll at he
          split at he
          · cases he
          · rename_i b hb
            split at he
            · cases he
            · rename_i bs hbs
              cases he
              exact isPys_cons (pyD_ok k d x b q1 hb) (ih xr bs q2 hbs)
      exact isPy_tup (.inl (rd_hid ha)) (all ds xs es q he)
    · cases h
  | k + 1, .lst ds, v, e, ⟨a, xs, ea, ha, q⟩, h => by
    unfold pyD at h
    split at h
    · rename_i es he
      cases h
      subst ea
      have all : ∀ (ds : List D) (xs : List V) (es : List PyData), RDs κ (hid ρ H) xs ds → optAll (pyD k) ds = some es → IsPys κ.K H k xs es := by
        intro ds
        induction ds with
        | nil => intro xs es q he; cases q; cases he; exact ⟨.nil, rfl, by simp [PyData.depthAll]⟩
        | cons d r ih =>
          intro xs es q he
          obtain ⟨x, xr, rfl, q1, q2⟩ := q
          unfold optAll at he
          split at he
          · cases he
          · rename_i b hb
            split at he
            · cases he
            · rename_i bs hbs
              cases he
              exact isPys_cons (pyD_ok k d x b q1 hb) (ih xr bs q2 hbs)
      exact isPy_lst (.inl (.inl (hid_some ha).2)) (all ds xs es q he)
    · cases h
  | k + 1, .scr ns, v, e, ⟨a, ea, ha⟩, h => by
    cases h
    subst ea
    exact isPy_lst (sql_hid ha) (isPy_ints ns)
  | 0, .tup _, _, _, _, h => by cases h
  | 0, .lst _, _, _, _, h => by cases h
  | 0, .scr _, _, _, _, h => by cases h
  | 0, .dct _, _, _, _, h => by cases h
  | _ + 1, .dct _, _, _, _, h => by cases h
  | 0, .obj _ _, _, _, _, h => by cases h
  | _ + 1, .obj _ _, _, _, _, h => by cases h
  | 0, .ty _, _, _, _, h => by cases h
  | _ + 1, .ty _, _, _, _, h => by cases h
theorem pyW_ok (s : SR κ ρ μ H) : ∀ (k : Nat) (w : W) (v : V) (e : PyData), RW κ ρ H v w → pyW k μ w = some e → IsPy κ.K H k v e
  | k, .imm d, v, e, r, h => pyD_ok k d v e r (by rw [show pyW k μ (W.imm d) = pyD k d by cases k <;> rfl] at h; exact h)
  | k + 1, .tup ds, v, e, ⟨a, xs, ea, ha, q⟩, h => by
    unfold pyW at h
    split at h
    · rename_i es he
      cases h
      subst ea
      have all : ∀ (ds : List W) (xs : List V) (es : List PyData), RWs κ ρ H xs ds → optAll (pyW k μ) ds = some es → IsPys κ.K H k xs es := by
        intro ds
        induction ds with
        | nil => intro xs es q he; cases q; cases he; exact ⟨.nil, rfl, by simp [PyData.depthAll]⟩
        | cons d r ih =>
          intro xs es q he
          obtain ⟨x, xr, rfl, q1, q2⟩ := q
          unfold optAll at he
          split at he
          · cases he
          · rename_i b hb
            split at he
            · cases he
            · rename_i bs hbs
              cases he
              exact isPys_cons (pyW_ok s k d x b q1 hb) (ih xr bs q2 hbs)
      exact isPy_tup (.inl (rd_hid ha)) (all ds xs es q he)
    · cases h
  | k + 1, .loc n, v, e, ⟨a, f, ha, ea⟩, h => by
    unfold pyW at h
    split at h
    · rename_i ws hm
      split at h
      · rename_i es he
        cases h
        subst ea
        obtain ⟨⟨xs, hx, q⟩, _⟩ := s.ob n a _ _ ha hm
        have all : ∀ (ds : List W) (xs : List V) (es : List PyData), RWs κ ρ H xs ds → optAll (pyW k μ) ds = some es → IsPys κ.K H k xs es := by
          intro ds
          induction ds with
          | nil => intro xs es q he; cases q; cases he; exact ⟨.nil, rfl, by simp [PyData.depthAll]⟩
          | cons d r ih =>
            intro xs es q he
            obtain ⟨x, xr, rfl, q1, q2⟩ := q
            unfold optAll at he
            split at he
            · cases he
            · rename_i b hb
              split at he
              · cases he
              · rename_i bs hbs
                cases he
                exact isPys_cons (pyW_ok s k d x b q1 hb) (ih xr bs q2 hbs)
        exact isPy_lst (.inl (.inl hx)) (all ws xs es q he)
      · cases h
    · cases h
  | 0, .tup _, _, _, _, h => by cases h
  | 0, .loc _, _, _, _, h => by cases h
def fuelD : Nat := 9
def oEq : Op2 := fun w1 w2 μ => match pyW fuelD μ w1, pyW fuelD μ w2 with
  | some a, some b => .ok (.imm (.bl (PyData.eqv a b))) μ
  | _, _ => .bad
def oNe : Op2 := fun w1 w2 μ => match pyW fuelD μ w1, pyW fuelD μ w2 with
  | some a, some b => .ok (.imm (.bl (!PyData.eqv a b))) μ
  | _, _ => .bad
def rEqP (K : PySem.W.Frag) : R2 := fun x y H Q => ∃ d e, IsPy K H fuelD x d ∧ IsPy K H fuelD y e ∧ Q (.bl (PyData.eqv d e)) H
def rNeP (K : PySem.W.Frag) : R2 := fun x y H Q => ∃ d e, IsPy K H fuelD x d ∧ IsPy K H fuelD y e ∧ Q (.bl (!PyData.eqv d e)) H
theorem op_eqP {X : Cx} (hu : X.A.units + 64 < cLine) : OpR X (compareOp .Eq) (rEqP X.K) := by
  intro pins s σ H x y v u Q I rx ry h
  obtain ⟨d, e, hd, he, q⟩ := h
  obtain ⟨as, r1⟩ := Dp.reads I d x v hd.dp rx
  obtain ⟨bs, r2⟩ := Dp.reads I e y u he.dp ry
  refine SeqAt.eq_plain r1 r2 hd.pl he.pl ?_ ⟨.bl _, H, I, rfl, q⟩
  have := hd.le
  have h2 : fuelD = 9 := rfl
  have h3 : min d.depth e.depth ≤ d.depth := Nat.min_le_left _ _
  omega
theorem op_neP {X : Cx} (hu : X.A.units + 64 < cLine) : OpR X (compareOp .NotEq) (rNeP X.K) := by
  intro pins s σ H x y v u Q I rx ry h
  obtain ⟨d, e, hd, he, q⟩ := h
  obtain ⟨as, r1⟩ := Dp.reads I d x v hd.dp rx
  obtain ⟨bs, r2⟩ := Dp.reads I e y u he.dp ry
  refine SeqAt.ne_plain r1 r2 hd.pl he.pl ?_ ⟨.bl _, H, I, rfl, q⟩
  have := hd.le
  have h2 : fuelD = 9 := rfl
  have h3 : min d.depth e.depth ≤ d.depth := Nat.min_le_left _ _
  omega
theorem sr_eq : SR2 κ (rEqP κ.K) oEq := fun xw ρ μ H σ x y w1 w2 Q s r1 r2 p => by
  unfold oEq at p
  split at p
  · rename_i a b ha hb
    exact ⟨a, b, pyW_ok s _ _ _ _ r1 ha, pyW_ok s _ _ _ _ r2 hb, p ρ H _ Le.refl s rfl⟩
  · exact p.elim
theorem sr_ne : SR2 κ (rNeP κ.K) oNe := fun xw ρ μ H σ x y w1 w2 Q s r1 r2 p => by
  unfold oNe at p
  split at p
  · rename_i a b ha hb
    exact ⟨a, b, pyW_ok s _ _ _ _ r1 ha, pyW_ok s _ _ _ _ r2 hb, p ρ H _ Le.refl s rfl⟩
  · exact p.elim
/-! ### is None -/
def isNonW : W → Bool
  | .imm .non => true
  | _ => false
theorem isNonW_ok {w : W} {v : V} (r : RW κ ρ H v w) : decide (v = .non) = isNonW w := by
  cases w with
  | loc n => obtain ⟨a, f, _, rfl⟩ := r; rfl
  | tup ws => obtain ⟨a, xs, rfl, _⟩ := r; rfl
  | imm d =>
    cases d with
    | non => cases r; rfl
    | bl b => cases r; rfl
    | int b => cases r; rfl
    | str b => cases r; rfl
    | tup b => obtain ⟨a, xs, rfl, _⟩ := r; rfl
    | lst b => obtain ⟨a, xs, rfl, _⟩ := r; rfl
    | dct b => obtain ⟨a, xs, rfl, _⟩ := r; rfl
    | obj c b => obtain ⟨a, dx, xs, rfl, _⟩ := r; rfl
    | scr b => obtain ⟨a, rfl, _⟩ := r; rfl
    | ty b => cases r; rfl
def mIsN (ma : Me) : Me := fun E μ => (ma E μ).bind fun w μ1 => .ok (.imm (.bl (isNonW w))) μ1
def mNotN (ma : Me) : Me := fun E μ => (ma E μ).bind fun w μ1 => .ok (.imm (.bl (!isNonW w))) μ1
theorem se_isN (ha : SE κ xw te m) : SE κ xw (tIsN te) (mIsN m) := fun ρ μ H σ E Q s e p =>
  ha.bind s e p fun w μ1 ρ1 H1 v l s1 e1 rv p1 => p1 ρ1 H1 _ Le.refl s1 (by rw [isNonW_ok rv]; exact rfl)
theorem se_notN (ha : SE κ xw te m) : SE κ xw (tNotN te) (mNotN m) := fun ρ μ H σ E Q s e p =>
  ha.bind s e p fun w μ1 ρ1 H1 v l s1 e1 rv p1 => p1 ρ1 H1 _ Le.refl s1 (by rw [isNonW_ok rv]; exact rfl)
/-! ### a chain of comparisons -/
def mChain (o o' : Op2) (ma mb mc : Me) : Me := fun E μ => (ma E μ).bind fun w μ1 => (mb E μ1).bind fun w2 μ2 => (o w w2 μ2).bind fun k μ3 => match asB k with
  | some true => (mc E μ3).bind fun w3 μ4 => o' w2 w3 μ4
  | some false => .ok (.imm (.bl false)) μ3
  | none => .bad
theorem se_chain {r r' : R2} {o o' : Op2} (ho : SR2 κ r o) (ho' : SR2 κ r' o') (ha : SE κ xw te m) (hb : SE κ xw tb mb) (hc : SE κ xw tc mc) : SE κ xw (tChain r r' te tb tc) (mChain o o' m mb mc) := fun ρ μ H σ E Q s e p =>
  ha.bind s e p fun w μ1 ρ1 H1 v l s1 e1 rv p1 => hb.bind s1 e1 p1 fun w2 μ2 ρ2 H2 v2 l2 s2 e2 rv2 p2 => by
    refine ho xw ρ2 μ2 H2 σ v v2 w w2 _ s2 (rv.mono l2) rv2 ?_
    cases hk : o w w2 μ2 with
    | bad => rw [hk] at p2; exact p2
    | ex c μ3 => rw [hk] at p2; exact p2
    | ok k μ3 =>
      rw [hk] at p2
      intro ρ3 H3 v3 l3 s3 r3
      have p3 : PoE κ xw ρ3 H3 σ _ Q := Po.shift l3 p2
      simp only [Rs.bind] at p3
      split at p3
      · rename_i h
        refine ⟨true, asB_ok h r3, ?_⟩
        rw [if_pos rfl]
        exact hc.bind s3 (e2.mono l3) p3 fun w4 μ4 ρ4 H4 v4 l4 s4 e4 rv4 p4 => ho' xw ρ4 μ4 H4 σ v2 v4 w2 w4 Q s4 ((rv2.mono l3).mono l4) rv4 p4
      · rename_i h
        refine ⟨false, asB_ok h r3, ?_⟩
        rw [if_neg Bool.false_ne_true]
        exact p3 ρ3 H3 _ Le.refl s3 rfl
      · exact p3.elim
end
end Gx

namespace Gx
open PySem PySem.Spec PyProof.Rows L2

section
variable {κ : Kap} {xw : XW} {ρ : Lo} {H : Hp} {σ : L2.St} {E : Env} {μ : Store} {te tb tc tx : TE} {tt tu : TT} {ta : TA} {m mb mc mx : Me} {n n' : Mt} {ma : Ma}
/-! ### dicts as they stand -/
def keyD : W → Option Key
  | .imm (.int i) => some (.inl i)
  | .imm (.str s) => some (.inr s)
  | _ => none
theorem keyD_ok {w : W} {k : Key} {v : V} (h : keyD w = some k) (r : RW κ ρ H v w) : v = kV k := by
  unfold keyD at h
  split at h
  · cases h; cases r; rfl
  · cases h; cases r; rfl
  · cases h
def ditems (μ : Store) : W → Option (List (Key × W))
  | .imm (.dct kvs) => some (kvs.map fun p => (p.1, W.imm p.2))
  | .loc n => match μ[n]? with
    | some (.dct kvs) => some kvs
    | some (.fdct kvs) => some kvs
    | _ => none
  | _ => none
theorem ditems_ok {w : W} {kvs : List (Key × W)} {v : V} (h : ditems μ w = some kvs) (s : SR κ ρ μ H) (r : RW κ ρ H v w) : ∃ a ys, v = .ref a ∧ Rd H a (.dK ys) ∧ RWk κ ρ H ys kvs := by
  unfold ditems at h
  split at h
  · cases h
    obtain ⟨a, ys, e, ha, q⟩ := r
    exact ⟨a, ys, e, rd_hid ha, q.toW⟩
  · split at h
    · rename_i hm
      cases h
      obtain ⟨a, f, hn, e⟩ := r
      obtain ⟨⟨ys, ha, q⟩, _⟩ := s.ob _ a _ _ hn hm
      exact ⟨a, ys, e, .inl ha, q⟩
    · rename_i hm
      cases h
      obtain ⟨a, f, hn, e⟩ := r
      obtain ⟨⟨ys, ha, q⟩, _⟩ := s.ob _ a _ _ hn hm
      exact ⟨a, ys, e, ha, q⟩
    · cases h
  · cases h
def valG {α β : Type} [DecidableEq α] : List (α × β) → α → Option β
  | [], _ => none
  | (k', w) :: r, k => if k' = k then some w else valG r k
def hasG {α β : Type} [DecidableEq α] : List (α × β) → α → Bool
  | [], _ => false
  | (k', _) :: r, k => if k' = k then true else hasG r k
def repG {α β : Type} [DecidableEq α] : List (α × β) → α → β → List (α × β)
  | [], _, _ => []
  | (k', w) :: r, k, x => (if k' = k then (k', x) else (k', w)) :: repG r k x
def putG {α β : Type} [DecidableEq α] (kvs : List (α × β)) (k : α) (x : β) : List (α × β) := if hasG kvs k = true then repG kvs k x else kvs ++ [(k, x)]
def dropG {α β : Type} [DecidableEq α] : List (α × β) → α → List (α × β)
  | [], _ => []
  | (k', w) :: r, k => if k' = k then dropG r k else (k', w) :: dropG r k
theorem valG_ok {k : Key} : ∀ {kvs : List (Key × W)} {ys : List (Key × V)}, RWk κ ρ H ys kvs → match valG kvs k with
    | some w => ∃ v, valV ys k = some v ∧ RW κ ρ H v w
    | none => valV ys k = none
  | [], _, q => by cases q; rfl
  | (k', w) :: r, _, ⟨x, xr, e, p, q⟩ => by
    subst e
    have ih := valG_ok (k := k) q
    unfold valG
    by_cases hk : k' = k
    · rw [if_pos hk]
      exact ⟨x, valV_pos (p := (k', x)) hk, p⟩
    · rw [if_neg hk]
      rw [valV_neg (p := (k', x)) hk]
      exact ih
theorem hasG_ok {k : Key} : ∀ {kvs : List (Key × W)} {ys : List (Key × V)}, RWk κ ρ H ys kvs → (ys.any fun kv => decide (kv.1 = k)) = hasG kvs k
  | [], _, q => by cases q; rfl
  | (k', w) :: r, _, ⟨x, xr, e, p, q⟩ => by
    subst e
    rw [List.any_cons, hasG_ok q, show hasG ((k', w) :: r) k = if k' = k then true else hasG r k from rfl]
    by_cases hk : k' = k
    · rw [if_pos hk, decide_eq_true hk]; rfl
    · rw [if_neg hk, decide_eq_false hk, Bool.false_or]
theorem repG_ok {k : Key} {v : V} {w : W} (rv : RW κ ρ H v w) : ∀ {kvs : List (Key × W)} {ys : List (Key × V)}, RWk κ ρ H ys kvs → RWk κ ρ H (ys.map fun kv => if kv.1 = k then (kv.1, v) else kv) (repG kvs k w)
  | [], _, q => by cases q; rfl
  | (k', w') :: r, _, ⟨x, xr, e, p, q⟩ => by
    subst e
    have ih := repG_ok (k := k) rv q
    rw [List.map_cons]
    unfold repG
    by_cases hk : k' = k
    · rw [if_pos hk, if_pos hk]
      exact ⟨v, _, rfl, rv, ih⟩
    · rw [if_neg hk, if_neg hk]
      exact ⟨x, _, rfl, p, ih⟩
theorem RWk.app {α : Type} : ∀ {ws ws' : List (α × W)} {xs xs' : List (α × V)}, RWk κ ρ H xs ws → RWk κ ρ H xs' ws' → RWk κ ρ H (xs ++ xs') (ws ++ ws')
  | [], _, _, _, q, q' => by cases q; exact q'
  | (k, w) :: ws, _, _, _, ⟨x, r, e, p, q⟩, q' => by subst e; exact ⟨x, _, rfl, p, RWk.app q q'⟩
theorem RWk.length {α : Type} : ∀ {ws : List (α × W)} {xs : List (α × V)}, RWk κ ρ H xs ws → xs.length = ws.length
  | [], _, q => by cases q; rfl
  | (k, w) :: ws, _, ⟨x, r, e, p, q⟩ => by subst e; rw [List.length_cons, List.length_cons, RWk.length q]
theorem putG_ok {k : Key} {v : V} {w : W} (rv : RW κ ρ H v w) {kvs : List (Key × W)} {ys : List (Key × V)} (q : RWk κ ρ H ys kvs) : RWk κ ρ H (putK ys k v) (putG kvs k w) := by
  unfold putK putG
  rw [hasG_ok q]
  split
  · exact repG_ok rv q
  · exact q.app ⟨v, [], rfl, rv, rfl⟩
theorem dropG_ok {k : Key} : ∀ {kvs : List (Key × W)} {ys : List (Key × V)}, RWk κ ρ H ys kvs → RWk κ ρ H (dropK ys k) (dropG kvs k)
  | [], _, q => by cases q; rfl
  | (k', w') :: r, _, ⟨x, xr, e, p, q⟩ => by
    subst e
    have ih := dropG_ok (k := k) q
    unfold dropG
    by_cases hk : k' = k
    · rw [if_pos hk, dropK_pos (p := (k', x)) hk]
      exact ih
    · rw [if_neg hk, dropK_neg (p := (k', x)) hk]
      exact ⟨x, _, rfl, p, ih⟩

/-! ### in -/
def inPy (xs : List PyData) (d : PyData) : Bool := xs.any fun y => PyData.eqv y d
def memW (μ : Store) (x c : W) : Option Bool := match ditems μ c, keyD x with
  | some kvs, some k => some (hasG kvs k)
  | _, _ => match x, c with
    | .imm (.str s), .imm (.str z) => match s.cps.toList with
      | [a] => some (decide (a ∈ z.cps.toList))
      | _ => none
    | _, _ => match pyW fuelD μ c, pyW fuelD μ x with
      | some (.list xs), some d => some (inPy xs d)
      | some (.tuple xs), some d => some (inPy xs d)
      | _, _ => none
def oIn : Op2 := fun x c μ => match memW μ x c with
  | some b => .ok (.imm (.bl b)) μ
  | none => .bad
def oNotIn : Op2 := fun x c μ => match memW μ x c with
  | some b => .ok (.imm (.bl (!b))) μ
  | none => .bad
def rInP (K : PySem.W.Frag) (neg : Bool) : R2 := fun x y H Q => ∃ d xs, (IsPy K H fuelD y (.list xs) ∨ IsPy K H fuelD y (.tuple xs)) ∧ IsPy K H fuelD x d ∧ Q (.bl (if neg then !inPy xs d else inPy xs d)) H
theorem op_inP {X : Cx} (hu : X.A.units + 64 < cLine) : OpR X (compareOp .In) (rInP X.K false) := by
  intro pins s σ H x y v u Q I rx ry h
  obtain ⟨d, xs, hy, hx, q⟩ := h
  obtain ⟨as, r1⟩ := Dp.reads I d x v hx.dp rx
  have h2 : fuelD = 9 := rfl
  rcases hy with hy | hy
  · obtain ⟨bs, r2⟩ := Dp.reads I _ y u hy.dp ry
    have hl := hy.le
    refine SeqAt.in_list_data r2 r1 (by have := hy.pl; simpa only [PyData.plain] using this) hx.pl ?_ ⟨.bl _, H, I, rfl, q⟩
    have h3 := Nat.min_le_right (PyData.depthAll xs) d.depth
    have h4 := hx.le
    omega
  · obtain ⟨bs, r2⟩ := Dp.reads I _ y u hy.dp ry
    refine SeqAt.in_tuple_data r2 r1 (by have := hy.pl; simpa only [PyData.plain] using this) hx.pl ?_ ⟨.bl _, H, I, rfl, q⟩
    have h3 := Nat.min_le_right (PyData.depthAll xs) d.depth
    have h4 := hx.le
    omega
theorem op_notInP {X : Cx} (hu : X.A.units + 64 < cLine) : OpR X (compareOp .NotIn) (rInP X.K true) := by
  intro pins s σ H x y v u Q I rx ry h
  obtain ⟨d, xs, hy, hx, q⟩ := h
  obtain ⟨as, r1⟩ := Dp.reads I d x v hx.dp rx
  have h2 : fuelD = 9 := rfl
  rcases hy with hy | hy
  · obtain ⟨bs, r2⟩ := Dp.reads I _ y u hy.dp ry
    refine SeqAt.notIn_list_data r2 r1 (by have := hy.pl; simpa only [PyData.plain] using this) hx.pl ?_ ⟨.bl _, H, I, rfl, q⟩
    have h3 := Nat.min_le_right (PyData.depthAll xs) d.depth
    have h4 := hx.le
    omega
  · obtain ⟨bs, r2⟩ := Dp.reads I _ y u hy.dp ry
    refine SeqAt.notIn_tuple_data r2 r1 (by have := hy.pl; simpa only [PyData.plain] using this) hx.pl ?_ ⟨.bl _, H, I, rfl, q⟩
    have h3 := Nat.min_le_right (PyData.depthAll xs) d.depth
    have h4 := hx.le
    omega
def rSign (neg : Bool) : R2 := fun x y H Q => ∃ (c : Nat) (z : Str), x = .str ⟨#[c]⟩ ∧ y = .str z ∧ Q (.bl (if neg then !decide (c ∈ z.cps.toList) else decide (c ∈ z.cps.toList))) H
/-- x in c: the three rules -/
def tInX (K : PySem.W.Frag) (ty td : TE) : TE := fun σ H Q => tDIn ty td σ H Q ∨ (tOp (rSign false) ty td σ H Q ∨ tOp (rInP K false) ty td σ H Q)
def tNotInX (K : PySem.W.Frag) (ty td : TE) : TE := fun σ H Q => tDNotIn ty td σ H Q ∨ (tOp (rSign true) ty td σ H Q ∨ tOp (rInP K true) ty td σ H Q)
theorem pc_inX {X : Cx} {a b : Expr} {ty td : TE} (hu : X.A.units + 64 < cLine) (ha : PE X a ty) (hb : PE X b td) : PC X .In a b (tInX X.K ty td) :=
  PC.or (pc_din (by omega) ha hb) (PC.or (pc_of op_in_sign ha hb) (pc_of (op_inP hu) ha hb))
theorem pc_notInX {X : Cx} {a b : Expr} {ty td : TE} (hu : X.A.units + 64 < cLine) (ha : PE X a ty) (hb : PE X b td) : PC X .NotIn a b (tNotInX X.K ty td) :=
  PC.or (pc_dnotin (by omega) ha hb) (PC.or (pc_of op_notIn_sign ha hb) (pc_of (op_notInP hu) ha hb))
theorem str_one {s : Str} {a : Nat} (h : s.cps.toList = [a]) : s = ⟨#[a]⟩ := by
  cases s with
  | mk cps =>
    have : cps = #[a] := by
      have e := congrArg List.toArray h
      simpa using e
    rw [this]
theorem SE.apply {Q : VK} (h : SE κ xw te m) (s : SR κ ρ μ H) (e : RE κ ρ H σ E) (p : PoE κ xw ρ H σ (m E μ) Q) : te σ H Q := h ρ μ H σ E Q s e p
theorem se_inG (neg : Bool) (o : Op2) (ho : ∀ x c μ, o x c μ = match memW μ x c with
    | some b => .ok (.imm (.bl (if neg then !b else b))) μ
    | none => .bad) (hm : SE κ xw te m) (hb : SE κ xw tb mb) :
    SE κ xw (fun σ H Q => (te σ H fun y H1 => tb σ H1 fun x H2 => ∃ a ov, x = .ref a ∧ DGet H2 a y ov ∧ Q (.bl (if neg then !ov.isSome else ov.isSome)) H2) ∨ (tOp (rSign neg) te tb σ H Q ∨ tOp (rInP κ.K neg) te tb σ H Q)) (mOp o m mb) := fun ρ μ H σ E Q s e p => by
  unfold mOp at p
  cases hx : m E μ with
  | bad => rw [hx] at p; exact p.elim
  | ex c μ1 => rw [hx] at p; exact .inl (hm.apply s e (by rw [hx]; exact p))
  | ok x μ1 =>
    rw [hx] at p
    simp only [Rs.bind] at p
    have go : ∀ {Kk : V → Hp → Prop}, (∀ ρ1 H1 v, Le ρ H ρ1 H1 → SR κ ρ1 μ1 H1 → RE κ ρ1 H1 σ E → RW κ ρ1 H1 v x → Kk v H1) → te σ H Kk := fun k => hm.apply s e (by rw [hx]; exact fun ρ1 H1 v l s1 r => k ρ1 H1 v l s1 (e.mono l) r)
    cases hc : mb E μ1 with
    | bad => rw [hc] at p; exact p.elim
    | ex c μ2 =>
      rw [hc] at p
      exact .inl (go fun ρ1 H1 v1 l1 s1 e1 r1 => hb.apply s1 e1 (by rw [hc]; exact fun ρ' H' l' s' => p ρ' H' (l1.trans l') s'))
    | ok c μ2 =>
      rw [hc] at p
      simp only [] at p
      rw [ho] at p
      have go2 : ∀ {Kk : V → V → Hp → Prop}, (∀ ρ2 H2 v1 v2, Le ρ H ρ2 H2 → SR κ ρ2 μ2 H2 → RW κ ρ2 H2 v1 x → RW κ ρ2 H2 v2 c → Kk v1 v2 H2) → te σ H fun v1 H1 => tb σ H1 fun v2 H2 => Kk v1 v2 H2 := fun k =>
        go fun ρ1 H1 v1 l1 s1 e1 r1 => hb.apply s1 e1 (by rw [hc]; exact fun ρ2 H2 v2 l2 s2 r2 => k ρ2 H2 v1 v2 (l1.trans l2) s2 (r1.mono l2) r2)
      cases hmem : memW μ2 x c with
      | none => rw [hmem] at p; exact p.elim
      | some b =>
        rw [hmem] at p
        unfold memW at hmem
        split at hmem
        · rename_i kvs k h1 h2
          cases hmem
          refine .inl (go2 fun ρ2 H2 v1 v2 l s2 r1 r2 => ?_)
          obtain ⟨a, ys, rfl, ha, q⟩ := ditems_ok h1 s2 r2
          refine ⟨a, valV ys k, rfl, .inl ⟨ys, k, ha, keyD_ok h2 r1, rfl⟩, ?_⟩
          rw [← valV_any, hasG_ok q]
          exact p ρ2 H2 _ l s2 rfl
        · split at hmem
          · rename_i sx z hno
            split at hmem
            · rename_i a ha
              cases hmem
              refine .inr (.inl (go2 fun ρ2 H2 v1 v2 l s2 r1 r2 => ?_))
              exact ⟨a, z, by rw [← str_one ha]; exact r1, r2, p ρ2 H2 _ l s2 rfl⟩
            · cases hmem
          · split at hmem
            · rename_i xs d h1 h2
              cases hmem
              refine .inr (.inr (go2 fun ρ2 H2 v1 v2 l s2 r1 r2 => ?_))
              exact ⟨d, xs, .inl (pyW_ok s2 _ _ _ _ r2 h1), pyW_ok s2 _ _ _ _ r1 h2, p ρ2 H2 _ l s2 rfl⟩
            · rename_i xs d h1 h2
              cases hmem
              refine .inr (.inr (go2 fun ρ2 H2 v1 v2 l s2 r1 r2 => ?_))
              exact ⟨d, xs, .inr (pyW_ok s2 _ _ _ _ r2 h1), pyW_ok s2 _ _ _ _ r1 h2, p ρ2 H2 _ l s2 rfl⟩
            · cases hmem
theorem se_in (ha : SE κ xw te m) (hb : SE κ xw tb mb) : SE κ xw (tInX κ.K te tb) (mOp oIn m mb) := se_inG false oIn (fun _ _ _ => rfl) ha hb
theorem se_notIn (ha : SE κ xw te m) (hb : SE κ xw tb mb) : SE κ xw (tNotInX κ.K te tb) (mOp oNotIn m mb) := se_inG true oNotIn (fun _ _ _ => rfl) ha hb
end
end Gx

namespace Gx
open PySem PySem.Spec PyProof.Rows L2

section
variable {κ : Kap} {xw : XW} {ρ : Lo} {H : Hp} {σ : L2.St} {E : Env} {μ : Store} {te tb tc tx : TE} {tt tu : TT} {ta : TA} {m mb mc mx : Me} {n n' : Mt} {ma : Ma}
/-! ### x[i] -/
def atW (ws : List W) (i : Int) : Option W := (ixN ws.length i).bind fun j => ws[j]?
theorem atW_ok {xs : List V} {ws : List W} {i : Int} {w : W} (q : RWs κ ρ H xs ws) (h : atW ws i = some w) : ∃ v, atI xs i = some v ∧ RW κ ρ H v w := by
  unfold atW at h
  unfold atI
  rw [q.length]
  cases hj : ixN ws.length i with
  | none => rw [hj] at h; cases h
  | some j =>
    rw [hj] at h
    obtain ⟨v, h1, r⟩ := q.get h
    exact ⟨v, h1, r⟩
inductive IxK where
  | dct (kvs : List (Key × W)) (k : Key) | lst (ws : List W) (i : Int) | tup (ws : List W) (i : Int) | str (s : Str) (i : Int) | no
def ixK (μ : Store) (c i : W) : IxK := match ditems μ c, keyD i with
  | some kvs, some k => .dct kvs k
  | _, _ => match i with
    | .imm (.int z) => match ritems μ c with
      | some ws => .lst ws z
      | none => match titems c with
        | some ws => .tup ws z
        | none => match c with
          | .imm (.str s) => .str s z
          | _ => .no
    | _ => .no
def oIx : Op2 := fun c i μ => match ixK μ c i with
  | .dct kvs k => match valG kvs k with
    | some w => .ok w μ
    | none => .bad
  | .lst ws z => match atW ws z with
    | some w => .ok w μ
    | none => .bad
  | .tup ws z => match atW ws z with
    | some w => .ok w μ
    | none => .bad
  | .str s z => if s.length ≤ cap then (match atI s.cps.toList z with
    | some c => .ok (.imm (.str ⟨#[c]⟩)) μ
    | none => .bad) else .bad
  | .no => .bad
def tIxX (K : PySem.W.Frag) (td ty : TE) : TE := fun σ H Q => tDGet td ty σ H Q ∨ tOp (rIx K) td ty σ H Q
theorem pe_ixX {X : Cx} {o i : Expr} {td ty : TE} {pos : Pos} (hu : X.A.units + 64 < cLine) (ha : PE X o td) (hb : PE X i ty) (hs : PlainIx i) (hn : NoSl i) : PE X (.Subscript o i pos) (tIxX X.K td ty) :=
  PE.or (pe_dget (by omega) ha hb hn) (pe_ix ix_seq ha hb hs)
/-- two things evaluated, then one of two ways -/
theorem two_ways {T1 T2 : V → V → Hp → VK → Prop} {o : Op2} (hm : SE κ xw te m) (hb : SE κ xw tb mb)
    (h : ∀ x c μ2, (∀ ρ H Q, SR κ ρ μ2 H → ∀ v1 v2, RW κ ρ H v1 x → RW κ ρ H v2 c → PoE κ xw ρ H σ (o x c μ2) Q → T1 v1 v2 H Q) ∨ (∀ ρ H Q, SR κ ρ μ2 H → ∀ v1 v2, RW κ ρ H v1 x → RW κ ρ H v2 c → PoE κ xw ρ H σ (o x c μ2) Q → T2 v1 v2 H Q)) :
    ∀ ρ μ H E Q, SR κ ρ μ H → RE κ ρ H σ E → PoE κ xw ρ H σ (mOp o m mb E μ) Q → (te σ H fun x H1 => tb σ H1 fun y H2 => T1 x y H2 Q) ∨ (te σ H fun x H1 => tb σ H1 fun y H2 => T2 x y H2 Q) := fun ρ μ H E Q s e p => by
  unfold mOp at p
  cases hx : m E μ with
  | bad => rw [hx] at p; exact p.elim
  | ex c μ1 => rw [hx] at p; exact .inl (hm.apply s e (by rw [hx]; exact p))
  | ok x μ1 =>
    rw [hx] at p
    simp only [Rs.bind] at p
    have go : ∀ {Kk : V → Hp → Prop}, (∀ ρ1 H1 v, Le ρ H ρ1 H1 → SR κ ρ1 μ1 H1 → RE κ ρ1 H1 σ E → RW κ ρ1 H1 v x → Kk v H1) → te σ H Kk := fun k => hm.apply s e (by rw [hx]; exact fun ρ1 H1 v l s1 r => k ρ1 H1 v l s1 (e.mono l) r)
    cases hc : mb E μ1 with
    | bad => rw [hc] at p; exact p.elim
    | ex c μ2 =>
      rw [hc] at p
      exact .inl (go fun ρ1 H1 v1 l1 s1 e1 r1 => hb.apply s1 e1 (by rw [hc]; exact fun ρ' H' l' s' => p ρ' H' (l1.trans l') s'))
    | ok c μ2 =>
      rw [hc] at p
      simp only [] at p
      have go2 : ∀ {Kk : V → V → Hp → Prop}, (∀ ρ2 H2 v1 v2, Le ρ H ρ2 H2 → SR κ ρ2 μ2 H2 → RW κ ρ2 H2 v1 x → RW κ ρ2 H2 v2 c → Kk v1 v2 H2) → te σ H fun v1 H1 => tb σ H1 fun v2 H2 => Kk v1 v2 H2 := fun k =>
        go fun ρ1 H1 v1 l1 s1 e1 r1 => hb.apply s1 e1 (by rw [hc]; exact fun ρ2 H2 v2 l2 s2 r2 => k ρ2 H2 v1 v2 (l1.trans l2) s2 (r1.mono l2) r2)
      rcases h x c μ2 with h | h
      · exact .inl (go2 fun ρ2 H2 v1 v2 l s2 r1 r2 => h ρ2 H2 Q s2 v1 v2 r1 r2 (Po.shift l p))
      · exact .inr (go2 fun ρ2 H2 v1 v2 l s2 r1 r2 => h ρ2 H2 Q s2 v1 v2 r1 r2 (Po.shift l p))
theorem se_ix (hm : SE κ xw te m) (hb : SE κ xw tb mb) : SE κ xw (tIxX κ.K te tb) (mOp oIx m mb) := fun ρ μ H σ E Q s e p => by
  refine two_ways (T1 := fun x y H2 Q => ∃ a v, x = .ref a ∧ DGet H2 a y (some v) ∧ Q v H2) (T2 := fun x y H2 Q => rIx κ.K x y H2 Q) hm hb (fun x c μ2 => ?_) ρ μ H E Q s e p
  unfold oIx
  cases hk : ixK μ2 x c with
  | no => exact .inl fun ρ H Q s v1 v2 r1 r2 p => p.elim
  | dct kvs k =>
    left
    intro ρ H Q s v1 v2 r1 r2 p
    simp only [] at p
    have hk' : ditems μ2 x = some kvs ∧ keyD c = some k := by
      unfold ixK at hk
      split at hk
      · cases hk; exact ⟨by assumption, by assumption⟩
      · split at hk
        · split at hk
          · cases hk
          · split at hk
            · cases hk
            · split at hk <;> cases hk
        · cases hk
    obtain ⟨a, ys, rfl, ha, q⟩ := ditems_ok hk'.1 s r1
    have hv := valG_ok (k := k) q
    split at p
    · rename_i w hw
      rw [hw] at hv
      obtain ⟨v, hv1, hv2⟩ := hv
      exact ⟨a, v, rfl, .inl ⟨ys, k, ha, keyD_ok hk'.2 r2, hv1.symm⟩, p ρ H _ Le.refl s hv2⟩
    · exact p.elim
  | lst ws z =>
    right
    intro ρ H Q s v1 v2 r1 r2 p
    simp only [] at p
    have hk' : ritems μ2 x = some ws ∧ c = .imm (.int z) := by
      unfold ixK at hk
      split at hk
      · cases hk
      · split at hk
        · split at hk
          · cases hk; exact ⟨by assumption, rfl⟩
          · split at hk
            · cases hk
            · split at hk <;> cases hk
        · cases hk
    obtain ⟨a, xs, rfl, ha, q⟩ := ritems_ok hk'.1 s r1
    rw [hk'.2] at r2
    split at p
    · rename_i w hw
      obtain ⟨v, hv1, hv2⟩ := atW_ok q hw
      exact .inl ⟨a, xs, z, v, rfl, r2, ha, hv1, p ρ H _ Le.refl s hv2⟩
    · exact p.elim
  | tup ws z =>
    right
    intro ρ H Q s v1 v2 r1 r2 p
    simp only [] at p
    have hk' : titems x = some ws ∧ c = .imm (.int z) := by
      unfold ixK at hk
      split at hk
      · cases hk
      · split at hk
        · split at hk
          · cases hk
          · split at hk
            · cases hk; exact ⟨by assumption, rfl⟩
            · split at hk <;> cases hk
        · cases hk
    obtain ⟨a, xs, rfl, ha, q⟩ := titems_sq hk'.1 r1
    rw [hk'.2] at r2
    split at p
    · rename_i w hw
      obtain ⟨v, hv1, hv2⟩ := atW_ok q hw
      exact .inr (.inl ⟨a, xs, z, v, rfl, r2, ha, hv1, p ρ H _ Le.refl s hv2⟩)
    · exact p.elim
  | str sx z =>
    right
    intro ρ H Q s v1 v2 r1 r2 p
    simp only [] at p
    have hk' : x = .imm (.str sx) ∧ c = .imm (.int z) := by
      unfold ixK at hk
      split at hk
      · cases hk
      · split at hk
        · split at hk
          · cases hk
          · split at hk
            · cases hk
            · split at hk <;> cases hk
              exact ⟨rfl, rfl⟩
        · cases hk
    rw [hk'.1] at r1
    rw [hk'.2] at r2
    split at p
    · rename_i hc
      split at p
      · rename_i c hc2
        exact .inr (.inr ⟨sx, z, c, r1, r2, cap_line hc, hc2, p ρ H _ Le.refl s rfl⟩)
      · exact p.elim
    · exact p.elim

/-! ### x[lo:hi] -/
abbrev Mo := Env → Store → Rs (Option Int)
def SOo (κ : Kap) (xw : XW) (to : TO) (m : Mo) : Prop := ∀ ρ μ H σ E Q, SR κ ρ μ H → RE κ ρ H σ E → Po (α := Option Int) (β := Option Int) κ xw (fun _ _ b a => b = a) ρ H σ (m E μ) Q → to σ H Q
def mNoP : Mo := fun _ μ => .ok none μ
def mPart (me : Me) : Mo := fun E μ => (me E μ).bind fun w μ1 => match w with
  | .imm (.int i) => .ok (some i) μ1
  | _ => .bad
theorem so_none : SOo κ xw tNoPart mNoP := fun ρ μ H σ E Q s e p => p ρ H _ Le.refl s rfl
theorem so_some (h : SE κ xw te m) : SOo κ xw (tPart te) (mPart m) := fun ρ μ H σ E Q s e p =>
  h.bind s e p fun w μ1 ρ1 H1 v l s1 e1 rv p1 => by
    split at p1
    · exact ⟨_, rv, p1 ρ1 H1 _ Le.refl s1 rfl⟩
    · exact p1.elim
theorem SOo.bind {α β : Type} {R : Lo → Hp → β → α → Prop} {Q : β → Hp → Prop} {to : TO} {mo : Mo} {f : Option Int → Store → Rs α} {Kk : Option Int → Hp → Prop} (h : SOo κ xw to mo) (s : SR κ ρ μ H) (e : RE κ ρ H σ E) (p : Po κ xw R ρ H σ ((mo E μ).bind f) Q)
    (k : ∀ b μ1 ρ1 H1, Le ρ H ρ1 H1 → SR κ ρ1 μ1 H1 → RE κ ρ1 H1 σ E → Po κ xw R ρ1 H1 σ (f b μ1) Q → Kk b H1) : to σ H Kk := by
  refine h ρ μ H σ E _ s e ?_
  cases hm : mo E μ with
  | ok w μ1 => rw [hm] at p; exact fun ρ1 H1 v l s1 r => by cases r; exact k w μ1 ρ1 H1 l s1 (e.mono l) (Po.shift l p)
  | ex c μ1 => rw [hm] at p; exact p
  | bad => rw [hm] at p; exact p
def cutG {α : Type} (xs : List α) (lo hi : Option Int) : List α := (xs.drop (HT.sIx xs.length 0 lo)).take (HT.sIx xs.length xs.length hi - HT.sIx xs.length 0 lo)
theorem cutG_ok {xs : List V} {ws : List W} (q : RWs κ ρ H xs ws) (lo hi : Option Int) : RWs κ ρ H (cutV xs lo hi) (cutG ws lo hi) := by
  unfold cutV cutG
  rw [q.length]
  exact (q.drop _).take _
def oSl (fz : Bool) (w : W) (lo hi : Option Int) (μ : Store) : Rs W := match ritems μ w with
  | some ws => mkL fz (cutG ws lo hi) μ
  | none => match titems w with
    | some ws => .ok (mkT (cutG ws lo hi)) μ
    | none => match w with
      | .imm (.str s) => if s.length ≤ cap then .ok (.imm (.str (cutS s lo hi))) μ else .bad
      | _ => .bad
def rSlX2 (K : PySem.W.Frag) : V → Option Int → Option Int → Hp → VK → Prop := fun x lo hi H Q => rSlL K x lo hi H Q ∨ (rSlA K x lo hi H Q ∨ rSlS x lo hi H Q)
theorem sl_X {X : Cx} : SlR X (rSlX2 X.K) := SlR.or sl_list (SlR.or sl_tupA sl_str)
def mSl (fz : Bool) (ma : Me) (ml mh : Mo) : Me := fun E μ => (ma E μ).bind fun w μ1 => (ml E μ1).bind fun lo μ2 => (mh E μ2).bind fun hi μ3 => oSl fz w lo hi μ3
theorem cutV_whole {xs : List V} {lo hi : Option Int} (h : HT.sIx xs.length 0 lo = 0 ∧ HT.sIx xs.length xs.length hi = xs.length) : cutV xs lo hi = xs := by
  unfold cutV
  rw [h.1, h.2]
  simp
theorem cutG_whole {α : Type} {xs : List α} {lo hi : Option Int} (h : HT.sIx xs.length 0 lo = 0 ∧ HT.sIx xs.length xs.length hi = xs.length) : cutG xs lo hi = xs := by
  unfold cutG
  rw [h.1, h.2]
  simp
theorem se_sl (fz : Bool) {tl th : TO} {ml mh : Mo} (ha : SE κ xw te m) (hl : SOo κ xw tl ml) (hh : SOo κ xw th mh) : SE κ xw (tSl (rSlX2 κ.K) te tl th) (mSl fz m ml mh) := fun ρ μ H σ E Q s e p =>
  ha.bind s e p fun w μ1 ρ1 H1 v l s1 e1 rv p1 => hl.bind s1 e1 p1 fun lo μ2 ρ2 H2 l2 s2 e2 p2 => hh.bind s2 e2 p2 fun hi μ3 ρ3 H3 l3 s3 e3 p3 => by
    have rv3 := (rv.mono l2).mono l3
    unfold oSl at p3
    split at p3
    · rename_i ws hw
      obtain ⟨a, xs, rfl, hx, q⟩ := ritems_ok hw s3 rv3
      exact .inl ⟨a, xs, rfl, hx, fun b hb => PoE.lst p3 s3 (cutG_ok q lo hi) hb⟩
    · split at p3
      · rename_i ws hw
        obtain ⟨a, xs, rfl, hx, q⟩ := titems_ok hw rv3
        refine .inr (.inl ⟨a, xs, rfl, .inl (rd_hid hx), fun hwhole => ?_, fun _ b hb => PoE.tup (xw := xw) (σ := σ) p3 s3 (cutG_ok q lo hi) hb⟩)
        refine p3 ρ3 H3 _ Le.refl s3 (mkT_rw hx ?_)
        rw [cutG_whole (by rw [← q.length]; exact hwhole)]
        exact q
      · split at p3
        · split at p3
          · rename_i hc
            exact .inr (.inr ⟨_, rv3, cap_line hc, p3 ρ3 H3 _ Le.refl s3 rfl⟩)
          · exact p3.elim
        · exact p3.elim

/-! ### attributes -/
/-- the attributes of an object -/
def oitems (μ : Store) : W → Option (Nat × List W)
  | .imm (.obj c ds) => some (c, ds.map W.imm)
  | .loc n => match μ[n]? with
    | some (.ins c ws) => some (c, ws)
    | _ => none
  | _ => none
theorem oitems_ok {w : W} {c : Nat} {ws : List W} {v : V} (h : oitems μ w = some (c, ws)) (s : SR κ ρ μ H) (r : RW κ ρ H v w) : ∃ a dx xs, v = .ref a ∧ H a = some (.ins (κ c) dx ((nm c).zip xs)) ∧ xs.length ≤ (nm c).length ∧ RWs κ ρ H xs ws := by
  unfold oitems at h
  split at h
  · cases h
    obtain ⟨a, dx, xs, e, ha, l, q⟩ := r
    exact ⟨a, dx, xs, e, (hid_some ha).2, l, q.toW⟩
  · split at h
    · rename_i hm
      cases h
      obtain ⟨a, f, hn, e⟩ := r
      obtain ⟨⟨dx, xs, ha, l, q⟩, _⟩ := s.ob _ a _ _ hn hm
      exact ⟨a, dx, xs, e, ha, l, q⟩
    · cases h
  · cases h
/-- a class of the text's own, its attributes -/
structure OwnC (κ : Kap) (c : Nat) : Prop where
  cl : Cls κ.K (κ c)
  na : ∀ f ∈ nm c, NoAttr κ.K (κ c) f
  nd : (nm c).Nodup
theorem zip_lookup : ∀ {ns : List Str} {xs : List V} {i : Nat} {f : Str} {v : V}, ns.Nodup → ns[i]? = some f → xs[i]? = some v → (ns.zip xs).lookup f = some v
  | [], _, i, _, _, _, h, _ => by simp at h
  | n :: ns, [], i, _, _, _, _, h => by simp at h
  | n :: ns, x :: xs, 0, f, v, hd, h1, h2 => by
    cases h1; cases h2
    rw [List.zip_cons_cons, List.lookup_cons]
    simp
  | n :: ns, x :: xs, i + 1, f, v, hd, h1, h2 => by
    have h1' : ns[i]? = some f := by simpa using h1
    have hne : f ≠ n := by
      rintro rfl
      exact (List.nodup_cons.mp hd).1 (List.mem_of_getElem? h1')
    rw [List.zip_cons_cons, List.lookup_cons, beq_eq_false_iff_ne.mpr hne]
    exact zip_lookup (List.nodup_cons.mp hd).2 h1' (by simpa using h2)
def oFld (c i : Nat) (w : W) (μ : Store) : Rs W := match oitems μ w with
  | some (c', ws) => if c' = c then (match ws[i]? with
    | some x => .ok x μ
    | none => .bad) else .bad
  | none => .bad
def mFld (c i : Nat) (ma : Me) : Me := fun E μ => (ma E μ).bind fun w μ1 => oFld c i w μ1
theorem se_fld {c i : Nat} {f : Str} (o : OwnC κ c) (hf : (nm c)[i]? = some f) (ha : SE κ xw te m) : SE κ xw (tFld κ.K te f) (mFld c i m) := fun ρ μ H σ E Q s e p =>
  ha.bind s e p fun w μ1 ρ1 H1 v l s1 e1 rv p1 => by
    unfold oFld at p1
    split at p1
    · rename_i c' ws hw
      split at p1
      · rename_i hc
        subst hc
        split at p1
        · rename_i x hx
          obtain ⟨a, dx, xs, rfl, ha', hl, q⟩ := oitems_ok hw s1 rv
          obtain ⟨y, hy, ry⟩ := q.get hx
          exact ⟨a, κ c', dx, _, y, rfl, ha', o.cl, o.na f (List.mem_of_getElem? hf), zip_lookup o.nd hf hy, p1 ρ1 H1 _ Le.refl s1 ry⟩
        · exact p1.elim
      · exact p1.elim
    · exact p1.elim

/-! ### calls of built-ins by values -/
abbrev OpA := List W → Store → Rs W
def SC (κ : Kap) (r : List V → Hp → VK → Prop) (o : OpA) : Prop := ∀ xw ρ μ H σ vs ws Q, SR κ ρ μ H → RWs κ ρ H vs ws → PoE κ xw ρ H σ (o ws μ) Q → r vs H Q
def mCB (o : OpA) (ma : Ma) : Me := fun E μ => (ma E μ).bind fun ws μ1 => o ws μ1
theorem se_cb {r : List V → Hp → VK → Prop} {o : OpA} (ho : SC κ r o) (ha : SA κ xw ta ma) : SE κ xw (tCB r ta) (mCB o ma) := fun ρ μ H σ E Q s e p =>
  ha.bind s e p fun ws μ1 ρ1 H1 vs l s1 e1 rs p1 => ho xw ρ1 μ1 H1 σ vs ws Q s1 rs p1
theorem rws1 {xs : List V} {w : W} (q : RWs κ ρ H xs [w]) : ∃ x, xs = [x] ∧ RW κ ρ H x w := by
  obtain ⟨x, r, rfl, p, q⟩ := q
  cases q
  exact ⟨x, rfl, p⟩
theorem rws2 {xs : List V} {w w2 : W} (q : RWs κ ρ H xs [w, w2]) : ∃ x y, xs = [x, y] ∧ RW κ ρ H x w ∧ RW κ ρ H y w2 := by
  obtain ⟨x, r, rfl, p, q⟩ := q
  obtain ⟨y, rfl, p2⟩ := rws1 q
  exact ⟨x, y, rfl, p, p2⟩
def lenW (μ : Store) (w : W) : Option Int := match ritems μ w with
  | some ws => some ws.length
  | none => match titems w with
    | some ws => some ws.length
    | none => match w with
      | .imm (.str s) => if s.length ≤ cap then some s.length else none
      | _ => none
def oLen : OpA := fun ws μ => match ws with
  | [w] => match lenW μ w with
    | some i => .ok (.imm (.int i)) μ
    | none => .bad
  | _ => .bad
theorem sc_len : SC κ (fun xs H Q => ∃ x n, xs = [x] ∧ LenV κ.K x H n ∧ Q (.int n) H) oLen := fun xw ρ μ H σ vs ws Q s rs p => by
  unfold oLen at p
  split at p
  · obtain ⟨x, rfl, r⟩ := rws1 rs
    split at p
    · rename_i i hi
      unfold lenW at hi
      split at hi
      · rename_i ws hw
        cases hi
        obtain ⟨a, xs, rfl, hx, q⟩ := ritems_ok hw s r
        exact ⟨_, xs.length, rfl, .inl ⟨xs, hx, rfl⟩, p ρ H _ Le.refl s (by rw [q.length]; exact rfl)⟩
      · split at hi
        · rename_i ws hw
          cases hi
          obtain ⟨a, xs, rfl, hx, q⟩ := titems_sq hw r
          exact ⟨_, xs.length, rfl, .inr ⟨xs, hx, rfl⟩, p ρ H _ Le.refl s (by rw [q.length]; exact rfl)⟩
        · split at hi
          · split at hi
            · rename_i hc
              cases hi
              cases r
              exact ⟨_, _, rfl, ⟨cap_line hc, rfl⟩, p ρ H _ Le.refl s rfl⟩
            · cases hi
          · cases hi
    · exact p.elim
  · exact p.elim
def oMax : OpA := fun ws μ => match ws with
  | [.imm (.int i), .imm (.int j)] => .ok (.imm (.int (if j > i then j else i))) μ
  | _ => .bad
def oMin : OpA := fun ws μ => match ws with
  | [.imm (.int i), .imm (.int j)] => .ok (.imm (.int (if j < i then j else i))) μ
  | _ => .bad
theorem sc_max : SC κ (fun xs H Q => ∃ i j, xs = [.int i, .int j] ∧ Q (.int (if j > i then j else i)) H) oMax := fun xw ρ μ H σ vs ws Q s rs p => by
  unfold oMax at p
  split at p
  · obtain ⟨x, y, rfl, r1, r2⟩ := rws2 rs
    cases r1; cases r2
    exact ⟨_, _, rfl, p ρ H _ Le.refl s rfl⟩
  · exact p.elim
theorem sc_min : SC κ (fun xs H Q => ∃ i j, xs = [.int i, .int j] ∧ Q (.int (if j < i then j else i)) H) oMin := fun xw ρ μ H σ vs ws Q s rs p => by
  unfold oMin at p
  split at p
  · obtain ⟨x, y, rfl, r1, r2⟩ := rws2 rs
    cases r1; cases r2
    exact ⟨_, _, rfl, p ρ H _ Le.refl s rfl⟩
  · exact p.elim
def oAbs : OpA := fun ws μ => match ws with
  | [.imm (.int i)] => .ok (.imm (.int (if i < 0 then -i else i))) μ
  | _ => .bad
theorem sc_abs : SC κ (fun xs H Q => ∃ i, xs = [.int i] ∧ Q (.int (if i < 0 then -i else i)) H) oAbs := fun xw ρ μ H σ vs ws Q s rs p => by
  unfold oAbs at p
  split at p
  · obtain ⟨x, rfl, r1⟩ := rws1 rs
    cases r1
    exact ⟨_, rfl, p ρ H _ Le.refl s rfl⟩
  · exact p.elim
def oInt1 : OpA := fun ws μ => match ws with
  | [.imm (.int i)] => .ok (.imm (.int i)) μ
  | [.imm (.bl k)] => .ok (.imm (.int (if k then 1 else 0))) μ
  | _ => .bad
theorem sc_int1 : SC κ (fun xs H Q => (∃ i, xs = [.int i] ∧ Q (.int i) H) ∨ ∃ k, xs = [.bl k] ∧ Q (.int (if k then 1 else 0)) H) oInt1 := fun xw ρ μ H σ vs ws Q s rs p => by
  unfold oInt1 at p
  split at p
  · obtain ⟨x, rfl, r1⟩ := rws1 rs
    cases r1
    exact .inl ⟨_, rfl, p ρ H _ Le.refl s rfl⟩
  · obtain ⟨x, rfl, r1⟩ := rws1 rs
    cases r1
    exact .inr ⟨_, rfl, p ρ H _ Le.refl s rfl⟩
  · exact p.elim
def oStr1 : OpA := fun ws μ => match ws with
  | [.imm (.int i)] => if i.natAbs.log2 < 1920 then .ok (.imm (.str (toString i))) μ else .bad
  | _ => .bad
theorem sc_str1 : SC κ (fun xs H Q => ∃ i, xs = [.int i] ∧ i.natAbs.log2 < 1920 ∧ Q (.str (toString i)) H) oStr1 := fun xw ρ μ H σ vs ws Q s rs p => by
  unfold oStr1 at p
  split at p
  · split at p
    · obtain ⟨x, rfl, r1⟩ := rws1 rs
      cases r1
      exact ⟨_, rfl, by assumption, p ρ H _ Le.refl s rfl⟩
    · exact p.elim
  · exact p.elim
/-- the items of what list(..), tuple(..) take -/
def seqW (μ : Store) (w : W) : Option (List W) := match ritems μ w with
  | some ws => some ws
  | none => titems w
def oList (fz : Bool) : OpA := fun ws μ => match ws with
  | [w] => match seqW μ w with
    | some xs => mkL fz xs μ
    | none => .bad
  | _ => .bad
theorem sc_list (fz : Bool) : SC κ (fun xs H Q => ∃ p ys, xs = [.ref p] ∧ (SqL κ.K H p ys ∨ SqT κ.K H p ys) ∧ ∀ l, H l = none → Q (.ref l) (upd H l (.lst ys))) (oList fz) := fun xw ρ μ H σ vs ws Q s rs p => by
  unfold oList at p
  split at p
  · obtain ⟨x, rfl, r1⟩ := rws1 rs
    split at p
    · rename_i xs hx
      unfold seqW at hx
      split at hx
      · rename_i ws hw
        cases hx
        obtain ⟨a, xs, rfl, hx, q⟩ := ritems_ok hw s r1
        exact ⟨a, xs, rfl, .inl hx, fun l hl => PoE.lst p s q hl⟩
      · obtain ⟨a, xs, rfl, hx, q⟩ := titems_sq hx r1
        exact ⟨a, xs, rfl, .inr hx, fun l hl => PoE.lst p s q hl⟩
    · exact p.elim
  · exact p.elim
def oTuple : OpA := fun ws μ => match ws with
  | [w] => match ritems μ w with
    | some xs => .ok (mkT xs) μ
    | none => match titems w with
      | some xs => .ok (mkT xs) μ
      | none => .bad
  | _ => .bad
theorem sc_tuple : SC κ (fun xs H Q => ∃ p ys, xs = [.ref p] ∧ ((SqL κ.K H p ys ∧ ∀ l, H l = none → Q (.ref l) (upd H l (.tup ys))) ∨ (SqT κ.K H p ys ∧ Q (.ref p) H))) oTuple := fun xw ρ μ H σ vs ws Q s rs p => by
  unfold oTuple at p
  split at p
  · obtain ⟨x, rfl, r1⟩ := rws1 rs
    split at p
    · rename_i ws hw
      obtain ⟨a, xs, rfl, hx, q⟩ := ritems_ok hw s r1
      exact ⟨a, xs, rfl, .inl ⟨hx, fun l hl => PoE.tup (xw := xw) (σ := σ) p s q hl⟩⟩
    · split at p
      · rename_i ws hw
        obtain ⟨a, xs, rfl, hx, q⟩ := titems_ok hw r1
        exact ⟨a, xs, rfl, .inr ⟨.inl (rd_hid hx), p ρ H _ Le.refl s (mkT_rw hx q)⟩⟩
      · exact p.elim
  · exact p.elim
/-- the ints of a list -/
def intsW : List W → Option (List Int)
  | [] => some []
  | .imm (.int i) :: r => match intsW r with
    | some is => some (i :: is)
    | none => none
  | _ => none
theorem intsW_ok : ∀ {ws : List W} {is : List Int} {xs : List V}, intsW ws = some is → RWs κ ρ H xs ws → xs = is.map V.int
  | [], _, _, h, q => by cases h; cases q; rfl
  | .imm (.int i) :: r, is, _, h, ⟨x, xr, e, p, q⟩ => by
    subst e
    unfold intsW at h
    split at h
    · rename_i is' h'
      cases h
      cases p
      rw [intsW_ok h' q]
      rfl
    · cases h
  | .imm .non :: r, _, _, h, _ => by cases h
  | .imm (.bl _) :: r, _, _, h, _ => by cases h
  | .imm (.str _) :: r, _, _, h, _ => by cases h
  | .imm (.tup _) :: r, _, _, h, _ => by cases h
  | .imm (.lst _) :: r, _, _, h, _ => by cases h
  | .imm (.dct _) :: r, _, _, h, _ => by cases h
  | .imm (.obj _ _) :: r, _, _, h, _ => by cases h
  | .imm (.scr _) :: r, _, _, h, _ => by cases h
  | .imm (.ty _) :: r, _, _, h, _ => by cases h
  | .loc _ :: r, _, _, h, _ => by cases h
  | .tup _ :: r, _, _, h, _ => by cases h
@[simp] theorem intsW_map : ∀ is : List Int, intsW (is.map fun i => W.imm (.int i)) = some is
  | [] => rfl
  | i :: r => by
    show (match intsW (r.map fun i => W.imm (.int i)) with | some is => some (i :: is) | none => none) = _
    rw [intsW_map r]
theorem ints_rws : ∀ is : List Int, RWs κ ρ H (is.map V.int) (is.map fun i => W.imm (.int i))
  | [] => RWs.nil
  | i :: r => RWs.cons rfl (ints_rws r)
def oSum : OpA := fun ws μ => match ws with
  | [w] => match ritems μ w with
    | some xs => match intsW xs with
      | some is => .ok (.imm (.int is.sum)) μ
      | none => .bad
    | none => .bad
  | _ => .bad
theorem sc_sum : SC κ (rSum κ.K) oSum := fun xw ρ μ H σ vs ws Q s rs p => by
  unfold oSum at p
  split at p
  · obtain ⟨x, rfl, r1⟩ := rws1 rs
    split at p
    · rename_i ws hw
      split at p
      · rename_i is hi
        obtain ⟨a, xs, rfl, hx, q⟩ := ritems_ok hw s r1
        exact ⟨a, is, rfl, by rw [← intsW_ok hi q]; exact hx, p ρ H _ Le.refl s rfl⟩
      · exact p.elim
    · exact p.elim
  · exact p.elim
/-! ### isinstance of a built-in type -/
def kindW (μ : Store) : W → Option Nat
  | .imm .non => some 6
  | .imm (.bl _) => some 1
  | .imm (.int _) => some 0
  | .imm (.str _) => some 2
  | .imm (.tup _) => some 3
  | .imm (.lst _) => some 4
  | .imm (.dct _) => some 5
  | .tup _ => some 3
  | .loc n => match μ[n]? with
    | some (.lst _) => some 4
    | some (.dct _) => some 5
    | _ => none
  | _ => none
theorem kindW_ok {w : W} {k : Nat} {v : V} (h : kindW μ w = some k) (s : SR κ ρ μ H) (r : RW κ ρ H v w) : TyX κ.K H v (.type (tyN k)) := by
  unfold kindW at h
  split at h
  · cases h; cases r; exact .base .non
  · cases h; cases r; exact .base (.bl _)
  · cases h; cases r; exact .base (.int _)
  · cases h; cases r; exact .base (.str _)
  · cases h
    obtain ⟨a, xs, rfl, ha, _⟩ := r
    rcases rd_hid ha with ha | ⟨o, ha⟩
    · exact .base (.tup ha)
    · exact .fTuple ha
  · cases h
    obtain ⟨a, xs, rfl, ha, _⟩ := r
    exact .base (.lst (hid_some ha).2)
  · cases h
    obtain ⟨a, xs, rfl, ha, _⟩ := r
    rcases rd_hid ha with ha | ⟨o, ha⟩
    · exact .base (.dK ha)
    · exact .fDict ha
  · cases h
    obtain ⟨a, xs, rfl, ha, _⟩ := r
    rcases rd_hid ha with ha | ⟨o, ha⟩
    · exact .base (.tup ha)
    · exact .fTuple ha
  · split at h
    · rename_i hm
      cases h
      obtain ⟨a, f, hn, rfl⟩ := r
      obtain ⟨⟨xs, ha, _⟩, _⟩ := s.ob _ a _ _ hn hm
      exact .base (.lst ha)
    · rename_i hm
      cases h
      obtain ⟨a, f, hn, rfl⟩ := r
      obtain ⟨⟨xs, ha, _⟩, _⟩ := s.ob _ a _ _ hn hm
      exact .base (.dK ha)
    · cases h
  · cases h
def isK (k t : Nat) : Bool := k == t || (k == 1 && t == 0)
def oIsI : OpA := fun ws μ => match ws with
  | [w, .imm (.ty t)] => match kindW μ w with
    | some k => if k ≤ 6 ∧ t ≤ 5 then .ok (.imm (.bl (isK k t))) μ else .bad
    | none => .bad
  | _ => .bad
theorem isK_ok : ∀ k t, k ≤ 6 → t ≤ 5 → kitB (tyN k) (tyN t) = some (isK k t) := by
  intro k t hk ht
  have hk' : k = 0 ∨ k = 1 ∨ k = 2 ∨ k = 3 ∨ k = 4 ∨ k = 5 ∨ k = 6 := by omega
  have ht' : t = 0 ∨ t = 1 ∨ t = 2 ∨ t = 3 ∨ t = 4 ∨ t = 5 := by omega
  rcases hk' with rfl | rfl | rfl | rfl | rfl | rfl | rfl <;> rcases ht' with rfl | rfl | rfl | rfl | rfl | rfl <;> decide +kernel
theorem sc_isI : SC κ (rIsi κ.K) oIsI := fun xw ρ μ H σ vs ws Q s rs p => by
  unfold oIsI at p
  split at p
  · obtain ⟨x, y, rfl, r1, r2⟩ := rws2 rs
    cases r2
    split at p
    · rename_i k hk
      split at p
      · rename_i hb
        exact ⟨x, _, _, _, _, rfl, .ty _, kindW_ok hk s r1, kit_ty (isK_ok _ _ hb.1 hb.2), p ρ H _ Le.refl s rfl⟩
      · exact p.elim
    · exact p.elim
  · exact p.elim
end
end Gx

namespace Gx
open PySem PySem.Spec PyProof.Rows L2

def PoS (κ : Kap) (xw : XW) (ρ : Lo) (H : Hp) (fl : Fl) (D : Ends) : Prop := match fl with
  | .nx E' μ' => ∀ ρ' H' σ', Le ρ H ρ' H' → SR κ ρ' μ' H' → RE κ ρ' H' σ' E' → D.nx σ' H'
  | .bk E' μ' => ∀ ρ' H' σ', Le ρ H ρ' H' → SR κ ρ' μ' H' → RE κ ρ' H' σ' E' → D.bk σ' H'
  | .ct E' μ' => ∀ ρ' H' σ', Le ρ H ρ' H' → SR κ ρ' μ' H' → RE κ ρ' H' σ' E' → D.ct σ' H'
  | .rt w μ' => ∀ ρ' H' v, Le ρ H ρ' H' → SR κ ρ' μ' H' → RW κ ρ' H' v w → D.rt v H'
  | .ex c E' μ' => ∀ ρ' H' σ', Le ρ H ρ' H' → SR κ ρ' μ' H' → RE κ ρ' H' σ' E' → xw c σ' H'
  | .bad => False
def SS (κ : Kap) (xw : XW) (ts : TS) (m : Ms) : Prop := ∀ ρ μ H σ E D, SR κ ρ μ H → RE κ ρ H σ E → PoS κ xw ρ H (m E μ) D → ts D σ H
def Rs.fl {α : Type} (r : Rs α) (E : Env) (f : α → Store → Fl) : Fl := match r with
  | .ok a μ => f a μ
  | .ex c μ => .ex c E μ
  | .bad => .bad
section
variable {κ : Kap} {xw : XW} {ρ ρ1 : Lo} {H H1 : Hp} {σ : L2.St} {E : Env} {μ : Store} {te tb tc tx : TE} {tt tu : TT} {ta : TA} {m mb mc mx : Me} {n n' : Mt} {ma : Ma} {t u : TS} {a b : Ms} {D : Ends}
theorem PoS.shift {fl : Fl} (l : Le ρ H ρ1 H1) (p : PoS κ xw ρ H fl D) : PoS κ xw ρ1 H1 fl D := by
  cases fl with
  | nx E' μ' => exact fun ρ' H' σ' l' s e => p ρ' H' σ' (l.trans l') s e
  | bk E' μ' => exact fun ρ' H' σ' l' s e => p ρ' H' σ' (l.trans l') s e
  | ct E' μ' => exact fun ρ' H' σ' l' s e => p ρ' H' σ' (l.trans l') s e
  | rt w μ' => exact fun ρ' H' v l' s e => p ρ' H' v (l.trans l') s e
  | ex c E' μ' => exact fun ρ' H' σ' l' s e => p ρ' H' σ' (l.trans l') s e
  | bad => exact p
theorem SE.bindS {f : W → Store → Fl} {Kk : V → Hp → Prop} (h : SE κ xw te m) (s : SR κ ρ μ H) (e : RE κ ρ H σ E) (p : PoS κ xw ρ H ((m E μ).fl E f) D)
    (k : ∀ w μ1 ρ1 H1 v, Le ρ H ρ1 H1 → SR κ ρ1 μ1 H1 → RE κ ρ1 H1 σ E → RW κ ρ1 H1 v w → PoS κ xw ρ1 H1 (f w μ1) D → Kk v H1) : te σ H Kk := by
  refine h ρ μ H σ E _ s e ?_
  cases hm : m E μ with
  | ok w μ1 => rw [hm] at p; exact fun ρ1 H1 v l s1 r => k w μ1 ρ1 H1 v l s1 (e.mono l) r (PoS.shift l p)
  | ex c μ1 => rw [hm] at p; exact fun ρ1 H1 l s1 => p ρ1 H1 σ l s1 (e.mono l)
  | bad => rw [hm] at p; exact p
theorem ST.bindS {f : Bool → Store → Fl} {Kk : Bool → Hp → Prop} (h : ST κ xw tt n) (s : SR κ ρ μ H) (e : RE κ ρ H σ E) (p : PoS κ xw ρ H ((n E μ).fl E f) D)
    (k : ∀ w μ1 ρ1 H1, Le ρ H ρ1 H1 → SR κ ρ1 μ1 H1 → RE κ ρ1 H1 σ E → PoS κ xw ρ1 H1 (f w μ1) D → Kk w H1) : tt σ H Kk := by
  refine h ρ μ H σ E _ s e ?_
  cases hm : n E μ with
  | ok w μ1 => rw [hm] at p; exact fun ρ1 H1 v l s1 r => by cases r; exact k w μ1 ρ1 H1 l s1 (e.mono l) (PoS.shift l p)
  | ex c μ1 => rw [hm] at p; exact fun ρ1 H1 l s1 => p ρ1 H1 σ l s1 (e.mono l)
  | bad => rw [hm] at p; exact p

/-! ### blocks -/
def mSeq (a b : Ms) : Ms := fun E μ => match a E μ with
  | .nx E1 μ1 => b E1 μ1
  | f => f
def mSkip : Ms := fun E μ => .nx E μ
theorem ss_skip : SS κ xw tNext mSkip := fun ρ μ H σ E D s e p => p ρ H σ Le.refl s e
theorem ss_seq (ha : SS κ xw t a) (hb : SS κ xw u b) : SS κ xw (tSeq t u) (mSeq a b) := fun ρ μ H σ E D s e p => by
  refine ha ρ μ H σ E { D with nx := u D } s e ?_
  unfold mSeq at p
  cases hm : a E μ with
  | nx E' μ' => rw [hm] at p; exact fun ρ' H' σ' l s' e' => hb ρ' μ' H' σ' E' D s' e' (PoS.shift l p)
  | bk E' μ' => rw [hm] at p; exact p
  | ct E' μ' => rw [hm] at p; exact p
  | rt w μ' => rw [hm] at p; exact p
  | ex c E' μ' => rw [hm] at p; exact p
  | bad => rw [hm] at p; exact p
def mBreak : Ms := fun E μ => .bk E μ
def mCont : Ms := fun E μ => .ct E μ
theorem ss_break : SS κ xw tBreak mBreak := fun ρ μ H σ E D s e p => p ρ H σ Le.refl s e
theorem ss_cont : SS κ xw tCont mCont := fun ρ μ H σ E D s e p => p ρ H σ Le.refl s e
def mDrop (ma : Me) : Ms := fun E μ => (ma E μ).fl E fun _ μ1 => .nx E μ1
theorem ss_drop (ha : SE κ xw te m) : SS κ xw (tDrop te) (mDrop m) := fun ρ μ H σ E D s e p => ha.bindS s e p fun w μ1 ρ1 H1 v l s1 e1 r p1 => p1 ρ1 H1 σ Le.refl s1 e1
def mRet (ma : Me) : Ms := fun E μ => (ma E μ).fl E fun w μ1 => .rt w μ1
theorem ss_ret (ha : SE κ xw te m) : SS κ xw (tRet te) (mRet m) := fun ρ μ H σ E D s e p => ha.bindS s e p fun w μ1 ρ1 H1 v l s1 e1 r p1 => p1 ρ1 H1 v Le.refl s1 r
def mRetN : Ms := fun _ μ => .rt (.imm .non) μ
theorem ss_retN : SS κ xw tRetN mRetN := fun ρ μ H σ E D s e p => p ρ H _ Le.refl s rfl
def mIfS (c : Mt) (a b : Ms) : Ms := fun E μ => (c E μ).fl E fun k μ1 => if k = true then a E μ1 else b E μ1
theorem ss_if (hc : ST κ xw tt n) (ha : SS κ xw t a) (hb : SS κ xw u b) : SS κ xw (tIfS tt t u) (mIfS n a b) := fun ρ μ H σ E D s e p => hc.bindS s e p fun k μ1 ρ1 H1 l s1 e1 p1 => by
  cases k with
  | true => exact ha ρ1 μ1 H1 σ E D s1 e1 p1
  | false => exact hb ρ1 μ1 H1 σ E D s1 e1 p1

/-! ### targets -/
abbrev Mg := W → Env → Option Env
/-- ts: the slots that are stored -/
def SG (κ : Kap) (g : TG) (mg : Mg) (ts : List Nat) : Prop := ∀ ρ H σ E v w E' (Q : L2.St → Hp → Prop), RE κ ρ H σ E → RW κ ρ H v w → mg w E = some E' → (∀ σ', RE κ ρ H σ' E' → (∀ vs, (∀ i ∈ ts, i ∈ vs) → wipe σ' vs = wipe σ vs) → Q σ' H) → g v σ H Q
abbrev Mgs := List W → Env → Option Env
def SGs (κ : Kap) (g : TGs) (mg : Mgs) (ts : List Nat) : Prop := ∀ ρ H σ E vs ws E' (Q : L2.St → Hp → Prop), RE κ ρ H σ E → RWs κ ρ H vs ws → mg ws E = some E' → (∀ σ', RE κ ρ H σ' E' → (∀ vs, (∀ i ∈ ts, i ∈ vs) → wipe σ' vs = wipe σ vs) → Q σ' H) → g vs σ H Q
theorem wipe_at (σ : L2.St) (i : Nat) : ∀ vs : List Nat, (wipe σ vs)[i]? = if i ∈ vs then (if i < σ.length then some none else none) else σ[i]?
  | [] => by simp [wipe]
  | v :: vs => by
    unfold wipe
    rw [List.getElem?_set, wipe_length, wipe_at σ i vs]
    by_cases h : v = i
    · subst h
      simp
    · have h2 : i ≠ v := Ne.symm h
      simp [h, h2]
theorem wipe_set {σ : L2.St} {i : Nat} {x : Option V} {vs : List Nat} (h : i ∈ vs) : wipe (σ.set i x) vs = wipe σ vs := by
  refine List.ext_getElem? fun j => ?_
  rw [wipe_at, wipe_at, List.length_set]
  by_cases hj : j ∈ vs
  · rw [if_pos hj, if_pos hj]
  · rw [if_neg hj, if_neg hj, List.getElem?_set_ne (by rintro rfl; exact hj h)]
def mgN (i : Nat) : Mg := fun w E => some (E.set i (some w))
theorem sg_name (i : Nat) : SG κ (gName i) (mgN i) [i] := fun ρ H σ E v w E' Q e r h q => by cases h; exact q _ (e.set r) fun vs hv => wipe_set (hv i (by simp))
def mgNil : Mgs := fun ws E => match ws with
  | [] => some E
  | _ => none
def mgCons (g : Mg) (gs : Mgs) : Mgs := fun ws E => match ws with
  | w :: r => match g w E with
    | some E1 => gs r E1
    | none => none
  | [] => none
theorem sg_nil : SGs κ gNil mgNil [] := fun ρ H σ E vs ws E' Q e r h q => by
  unfold mgNil at h
  split at h
  · cases h; cases r; exact ⟨rfl, q σ e fun _ _ => rfl⟩
  · cases h
theorem sg_cons {g : TG} {gs : TGs} {mg : Mg} {mgs : Mgs} {t1 t2 : List Nat} (h1 : SG κ g mg t1) (h2 : SGs κ gs mgs t2) : SGs κ (gCons g gs) (mgCons mg mgs) (t1 ++ t2) := fun ρ H σ E vs ws E' Q e r h q => by
  unfold mgCons at h
  split at h
  · split at h
    · rename_i E1 hE
      obtain ⟨x, xr, rfl, p1, p2⟩ := r
      exact ⟨x, xr, rfl, h1 ρ H σ E x _ E1 _ e p1 hE fun σ1 e1 k1 => h2 ρ H σ1 E1 xr _ E' Q e1 p2 h fun σ2 e2 k2 => q σ2 e2 fun vs hv => (k2 vs fun i hi => hv i (List.mem_append_right _ hi)).trans (k1 vs fun i hi => hv i (List.mem_append_left _ hi))⟩
    · cases h
  · cases h
def mgT (k : Nat) (gs : Mgs) : Mg := fun w E => match titems w with
  | some ws => if ws.length = k then gs ws E else none
  | none => none
theorem sg_tup {k : Nat} {gs : TGs} {mgs : Mgs} {ts : List Nat} (h : SGs κ gs mgs ts) : SG κ (gTup κ.K k gs) (mgT k mgs) ts := fun ρ H σ E v w E' Q e r hm q => by
  unfold mgT at hm
  split at hm
  · rename_i ws hw
    split at hm
    · rename_i hl
      obtain ⟨a, xs, rfl, hx, rs⟩ := titems_sq hw r
      exact ⟨a, xs, rfl, hx, by rw [rs.length]; exact hl, h ρ H σ E xs ws E' Q e rs hm q⟩
    · cases hm
  · cases hm
def mAsg (ma : Me) (mg : Mg) : Ms := fun E μ => (ma E μ).fl E fun w μ1 => match mg w E with
  | some E1 => .nx E1 μ1
  | none => .bad
theorem ss_asg {g : TG} {mg : Mg} {ts : List Nat} (ha : SE κ xw te m) (hg : SG κ g mg ts) : SS κ xw (tAsg te g) (mAsg m mg) := fun ρ μ H σ E D s e p => ha.bindS s e p fun w μ1 ρ1 H1 v l s1 e1 r p1 => by
  split at p1
  · rename_i E1 hE
    exact hg ρ1 H1 σ E v w E1 _ e1 r hE fun σ' e' _ => p1 ρ1 H1 σ' Le.refl s1 e'
  · exact p1.elim
/-- name op= e (ints) -/
def mAug (i : Nat) (f : Int → Int → Int) (ma : Me) : Ms := fun E μ => match E[i]? with
  | some (some (.imm (.int x))) => (ma E μ).fl E fun w μ1 => match w with
    | .imm (.int y) => .nx (E.set i (some (.imm (.int (f x y))))) μ1
    | _ => .bad
  | _ => .bad
theorem ss_aug {i : Nat} {f : Int → Int → Int} (ha : SE κ xw te m) : SS κ xw (tAug i te (ipI f)) (mAug i f m) := fun ρ μ H σ E D s e p => by
  unfold mAug at p
  split at p
  · rename_i x hx
    obtain ⟨v, hv, r⟩ := e.at_ i _ hx
    cases r
    refine ⟨_, hv, ha.bindS s e p fun w μ1 ρ1 H1 v l s1 e1 r p1 => ?_⟩
    split at p1
    · cases r
      exact ⟨_, _, rfl, rfl, p1 ρ1 H1 _ Le.refl s1 (e1.set rfl)⟩
    · exact p1.elim
  · exact p.elim
theorem PS.or {X : Cx} {st : Stmt} {t t' : TS} (h : PS X st t) (h' : PS X st t') : PS X st (fun D σ H => t D σ H ∨ t' D σ H) := ⟨fun pins s σ H Q I q => q.elim (h.run pins s σ H Q I) (h'.run pins s σ H Q I)⟩

/-! ### stores -/
/-- o[i] = e -/
def putIx (w : W) (iw x : W) (μ : Store) : Option Store := match w with
  | .loc n => match μ[n]? with
    | some (.lst ws) => match iw with
      | .imm (.int i) => match ixN ws.length i with
        | some j => some (μ.set n (.lst (ws.set j x)))
        | none => none
      | _ => none
    | some (.dct kvs) => match keyD iw with
      | some k => if kvs.length < cap then some (μ.set n (.dct (putG kvs k x))) else none
      | none => none
    | _ => none
  | _ => none
def mPutIx (mo mi me : Me) : Ms := fun E μ => (me E μ).fl E fun x μ1 => (mo E μ1).fl E fun w μ2 => (mi E μ2).fl E fun iw μ3 => match putIx w iw x μ3 with
  | some μ4 => .nx E μ4
  | none => .bad
def tPutIx (to ti te : TE) : TS := fun D σ H => tAsg te (gSub to ti rSetL) D σ H ∨ sDPut to ti te D σ H
/-- three things evaluated, then one of two ways -/
theorem three_ways {T1 T2 : V → V → V → Hp → (Hp → Prop) → Prop} {to ti : TE} {mo mi : Me} (hm : SE κ xw te m) (ho : SE κ xw to mo) (hi : SE κ xw ti mi) (s : SR κ ρ μ H) (e : RE κ ρ H σ E)
    (p : PoS κ xw ρ H (mPutIx mo mi m E μ) D)
    (h : ∀ x w iw μ3 μ4, putIx w iw x μ3 = some μ4 →
      (∀ ρ H, SR κ ρ μ3 H → ∀ vx vw vi, RW κ ρ H vx x → RW κ ρ H vw w → RW κ ρ H vi iw → ∀ Q : Hp → Prop, (∀ ρ' H', Le ρ H ρ' H' → SR κ ρ' μ4 H' → Q H') → T1 vx vw vi H Q) ∨
      (∀ ρ H, SR κ ρ μ3 H → ∀ vx vw vi, RW κ ρ H vx x → RW κ ρ H vw w → RW κ ρ H vi iw → ∀ Q : Hp → Prop, (∀ ρ' H', Le ρ H ρ' H' → SR κ ρ' μ4 H' → Q H') → T2 vx vw vi H Q)) :
    (te σ H fun x H1 => to σ H1 fun w H2 => ti σ H2 fun i H3 => T1 x w i H3 (D.nx σ)) ∨ (te σ H fun x H1 => to σ H1 fun w H2 => ti σ H2 fun i H3 => T2 x w i H3 (D.nx σ)) := by
  unfold mPutIx at p
  cases hx : m E μ with
  | bad => rw [hx] at p; exact p.elim
  | ex c μ1 => rw [hx] at p; exact .inl (hm.apply s e (by rw [hx]; exact fun ρ1 H1 l s1 => p ρ1 H1 σ l s1 (e.mono l)))
  | ok x μ1 =>
    rw [hx] at p
    simp only [Rs.fl] at p
    have go : ∀ {Kk : V → Hp → Prop}, (∀ ρ1 H1 v, Le ρ H ρ1 H1 → SR κ ρ1 μ1 H1 → RE κ ρ1 H1 σ E → RW κ ρ1 H1 v x → Kk v H1) → te σ H Kk := fun k => hm.apply s e (by rw [hx]; exact fun ρ1 H1 v l s1 r => k ρ1 H1 v l s1 (e.mono l) r)
    cases hw : mo E μ1 with
    | bad => rw [hw] at p; exact p.elim
    | ex c μ2 =>
      rw [hw] at p
      exact .inl (go fun ρ1 H1 v1 l1 s1 e1 r1 => ho.apply s1 e1 (by rw [hw]; exact fun ρ' H' l' s' => p ρ' H' σ (l1.trans l') s' (e1.mono l')))
    | ok w μ2 =>
      rw [hw] at p
      simp only [] at p
      have go2 : ∀ {Kk : V → V → Hp → Prop}, (∀ ρ2 H2 v1 v2, Le ρ H ρ2 H2 → SR κ ρ2 μ2 H2 → RE κ ρ2 H2 σ E → RW κ ρ2 H2 v1 x → RW κ ρ2 H2 v2 w → Kk v1 v2 H2) → te σ H fun v1 H1 => to σ H1 fun v2 H2 => Kk v1 v2 H2 := fun k =>
        go fun ρ1 H1 v1 l1 s1 e1 r1 => ho.apply s1 e1 (by rw [hw]; exact fun ρ2 H2 v2 l2 s2 r2 => k ρ2 H2 v1 v2 (l1.trans l2) s2 (e1.mono l2) (r1.mono l2) r2)
      cases hi' : mi E μ2 with
      | bad => rw [hi'] at p; exact p.elim
      | ex c μ3 =>
        rw [hi'] at p
        exact .inl (go2 fun ρ2 H2 v1 v2 l2 s2 e2 r1 r2 => hi.apply s2 e2 (by rw [hi']; exact fun ρ' H' l' s' => p ρ' H' σ (l2.trans l') s' (e2.mono l')))
      | ok iw μ3 =>
        rw [hi'] at p
        simp only [] at p
        have go3 : ∀ {Kk : V → V → V → Hp → Prop}, (∀ ρ3 H3 v1 v2 v3, Le ρ H ρ3 H3 → SR κ ρ3 μ3 H3 → RE κ ρ3 H3 σ E → RW κ ρ3 H3 v1 x → RW κ ρ3 H3 v2 w → RW κ ρ3 H3 v3 iw → Kk v1 v2 v3 H3) → te σ H fun v1 H1 => to σ H1 fun v2 H2 => ti σ H2 fun v3 H3 => Kk v1 v2 v3 H3 := fun k =>
          go2 fun ρ2 H2 v1 v2 l2 s2 e2 r1 r2 => hi.apply s2 e2 (by rw [hi']; exact fun ρ3 H3 v3 l3 s3 r3 => k ρ3 H3 v1 v2 v3 (l2.trans l3) s3 (e2.mono l3) (r1.mono l3) (r2.mono l3) r3)
        cases hp : putIx w iw x μ3 with
        | none => rw [hp] at p; exact p.elim
        | some μ4 =>
          rw [hp] at p
          rcases h x w iw μ3 μ4 hp with h | h
          · exact .inl (go3 fun ρ3 H3 v1 v2 v3 l s3 e3 r1 r2 r3 => h ρ3 H3 s3 v1 v2 v3 r1 r2 r3 _ fun ρ4 H4 l4 s4 => p ρ4 H4 σ (l.trans l4) s4 (e3.mono l4))
          · exact .inr (go3 fun ρ3 H3 v1 v2 v3 l s3 e3 r1 r2 r3 => h ρ3 H3 s3 v1 v2 v3 r1 r2 r3 _ fun ρ4 H4 l4 s4 => p ρ4 H4 σ (l.trans l4) s4 (e3.mono l4))
theorem SR.live (s : SR κ ρ μ H) {n : Nat} {a : Addr} {f : Bool} {mo : MO} (h : ρ[n]? = some (a, f)) (hm : μ[n]? = some mo) (hf : mo.fz = false) : ρ[n]? = some (a, false) := by
  rw [h, (s.ob n a f mo h hm).2, hf]
theorem ss_putIx {to ti : TE} {mo mi : Me} (hm : SE κ xw te m) (ho : SE κ xw to mo) (hi : SE κ xw ti mi) : SS κ xw (tPutIx to ti te) (mPutIx mo mi m) := fun ρ μ H σ E D s e p => by
  refine three_ways (T1 := fun x w i H3 Q => rSetL w i x H3 Q) (T2 := fun v x y H3 Q => ∃ a H4, x = .ref a ∧ DPut H3 a y v H4 ∧ Q H4) hm ho hi s e p ?_
  intro x w iw μ3 μ4 h
  unfold putIx at h
  split at h
  · split at h
    · rename_i n' ws hn
      split at h
      · split at h
        · rename_i j hj
          cases h
          left
          intro ρ H s vx vw vi rx rw' ri Q q
          obtain ⟨a, f, hl, rfl⟩ := rw'
          cases ri
          have hl' := s.live hl hn rfl
          obtain ⟨⟨xs, ha, qs⟩, _⟩ := s.ob _ a _ _ hl hn
          refine ⟨a, xs, _, j, rfl, rfl, ha, by rw [qs.length]; exact hj, q ρ _ (Le.put hl') (s.put hl' rfl ⟨xs.set j vx, upd_same, ?_⟩)⟩
          exact (qs.set j rx).mono (Le.put hl')
        · cases h
      · cases h
    · rename_i n' kvs hn
      split at h
      · rename_i k hk
        split at h
        · rename_i hc
          cases h
          right
          intro ρ H s vx vw vi rx rw' ri Q q
          obtain ⟨a, f, hl, rfl⟩ := rw'
          have hl' := s.live hl hn rfl
          obtain ⟨⟨ys, ha, qs⟩, _⟩ := s.ob _ a _ _ hl hn
          refine ⟨a, _, rfl, .inl ⟨ys, k, ha, keyD_ok hk ri, by rw [qs.length]; exact cap_lt hc, rfl⟩, q ρ _ (Le.put hl') (s.put hl' rfl ⟨_, upd_same, ?_⟩)⟩
          exact (putG_ok rx qs).mono (Le.put hl')
        · cases h
      · cases h
    · cases h
  · cases h
/-- o.f = e -/
def setAt (ws : List W) (i : Nat) (x : W) : Option (List W) := if i < ws.length then some (ws.set i x) else if i = ws.length then some (ws ++ [x]) else none
def putFld (c i : Nat) (w x : W) (μ : Store) : Option Store := match w with
  | .loc n => match μ[n]? with
    | some (.ins c' ws) => if c' = c then (match setAt ws i x with
      | some ws' => some (μ.set n (.ins c ws'))
      | none => none) else none
    | _ => none
  | _ => none
def mPutFld (c i : Nat) (mo me : Me) : Ms := fun E μ => (me E μ).fl E fun x μ1 => (mo E μ1).fl E fun w μ2 => match putFld c i w x μ2 with
  | some μ3 => .nx E μ3
  | none => .bad
theorem putF_zip : ∀ {ns : List Str} {xs : List V} {i : Nat} {f : Str} {v : V}, ns.Nodup → ns[i]? = some f → (i < xs.length → putF f v (ns.zip xs) = ns.zip (xs.set i v)) ∧ (i = xs.length → putF f v (ns.zip xs) = ns.zip (xs ++ [v]))
  | [], _, i, _, _, _, h => by simp at h
  | n :: ns, [], i, f, v, hd, h => by
    refine ⟨fun z => absurd z (Nat.not_lt_zero _), fun z => ?_⟩
    subst z
    cases h
    simp [putF]
  | n :: ns, x :: xs, 0, f, v, hd, h => by
    cases h
    refine ⟨fun _ => ?_, fun z => ?_⟩
    · rw [List.zip_cons_cons, List.set_cons_zero, List.zip_cons_cons]
      unfold putF
      simp
    · simp at z
  | n :: ns, x :: xs, i + 1, f, v, hd, h => by
    have h' : ns[i]? = some f := by simpa using h
    have hne : n ≠ f := by
      rintro rfl
      exact (List.nodup_cons.mp hd).1 (List.mem_of_getElem? h')
    obtain ⟨ih1, ih2⟩ := putF_zip (xs := xs) (v := v) (List.nodup_cons.mp hd).2 h'
    have e : putF f v ((n, x) :: ns.zip xs) = (n, x) :: putF f v (ns.zip xs) := by
      conv => lhs; unfold putF
      simp [hne, Ne.symm hne]
    refine ⟨fun z => ?_, fun z => ?_⟩
    · rw [List.zip_cons_cons, e, ih1 (by simpa using z), List.set_cons_succ, List.zip_cons_cons]
    · rw [List.zip_cons_cons, e, ih2 (by simpa using z), List.cons_append, List.zip_cons_cons]
end
end Gx

namespace Gx
open PySem PySem.Spec PyProof.Rows L2

section
variable {κ : Kap} {xw : XW} {ρ ρ1 ρ' : Lo} {H H1 H' : Hp} {σ : L2.St} {E : Env} {μ μ1 μ' : Store} {te tb tc tx : TE} {tt tu : TT} {ta : TA} {m mb mc mx : Me} {n n' : Mt} {ma : Ma} {t u : TS} {a b : Ms} {D : Ends}
/-! ### o.f = e, o.f op= e -/
theorem putFld_ok {c i : Nat} {f : Str} {w x : W} {μ4 : Store} (o : OwnC κ c) (hf : (nm c)[i]? = some f) (h : putFld c i w x μ = some μ4) (s : SR κ ρ μ H) {vw vx : V} (rw_ : RW κ ρ H vw w) (rx : RW κ ρ H vx x) :
    ∃ a dx fs, vw = .ref a ∧ H a = some (.ins (κ c) dx fs) ∧ fs.length < 1000 ∧ Le ρ H ρ (upd H a (.ins (κ c) dx (putF f vx fs))) ∧ SR κ ρ μ4 (upd H a (.ins (κ c) dx (putF f vx fs))) := by
  unfold putFld at h
  split at h
  · split at h
    · rename_i n' c' ws hn
      split at h
      · rename_i hc
        subst hc
        split at h
        · rename_i ws' hs
          cases h
          obtain ⟨a, f', hl, rfl⟩ := rw_
          have hl' := s.live hl hn rfl
          obtain ⟨⟨dx, xs, ha, le, qs⟩, _⟩ := s.ob _ a _ _ hl hn
          have hlen : (nm c').length < 1000 := by
            have : ∀ c, (nm c).length < 1000 := by
              intro c
              unfold nm
              split <;> decide
            exact this c'
          have hi : i < (nm c').length := (List.getElem?_eq_some_iff.mp hf).1
          obtain ⟨p1, p2⟩ := putF_zip (xs := xs) (v := vx) o.nd hf
          refine ⟨a, dx, _, rfl, ha, ?_, Le.put hl', ?_⟩
          · rw [List.length_zip]
            omega
          · unfold setAt at hs
            split at hs
            · rename_i hlt
              cases hs
              rw [p1 (by rw [qs.length]; exact hlt)]
              refine s.put hl' rfl ⟨dx, xs.set i vx, upd_same, by rw [List.length_set]; exact le, ?_⟩
              exact (qs.set i rx).mono (Le.put hl')
            · split at hs
              · rename_i heq
                cases hs
                have hil : i = xs.length := by rw [qs.length]; exact heq
                rw [p2 hil]
                refine s.put hl' rfl ⟨dx, xs ++ [vx], upd_same, by rw [List.length_append]; show xs.length + 1 ≤ _; omega, ?_⟩
                exact (qs.app (RWs.cons rx RWs.nil)).mono (Le.put hl')
              · cases hs
        · cases h
      · cases h
    · cases h
  · cases h
theorem ss_putFld {c i : Nat} {f : Str} (o : OwnC κ c) (hf : (nm c)[i]? = some f) {to : TE} {mo : Me} (ho : SE κ xw to mo) (hm : SE κ xw te m) : SS κ xw (sFld κ.K to te f) (mPutFld c i mo m) := fun ρ μ H σ E D s e p =>
  hm.bindS s e p fun x μ1 ρ1 H1 vx l1 s1 e1 rx p1 => ho.bindS s1 e1 p1 fun w μ2 ρ2 H2 vw l2 s2 e2 rw_ p2 => by
    split at p2
    · rename_i μ3 h
      obtain ⟨a, dx, fs, rfl, ha, hl, le, s3⟩ := putFld_ok o hf h s2 rw_ (rx.mono l2)
      exact ⟨a, κ c, dx, fs, rfl, ha, o.cl, o.na f (List.mem_of_getElem? hf), hl, p2 ρ2 _ σ le s3 (e2.mono le)⟩
    · exact p2.elim
/-- o.f += e (ints) -/
def mAugFld (c i : Nat) (mo me : Me) : Ms := fun E μ => (mo E μ).fl E fun w μ1 => match oFld c i w μ1 with
  | .ok (.imm (.int x)) _ => (me E μ1).fl E fun y μ2 => match y with
    | .imm (.int z) => match putFld c i w (.imm (.int (x + z))) μ2 with
      | some μ3 => .nx E μ3
      | none => .bad
    | _ => .bad
  | _ => .bad
theorem ss_augFld {c i : Nat} {f : Str} (o : OwnC κ c) (hf : (nm c)[i]? = some f) {to : TE} {mo : Me} (ho : SE κ xw to mo) (hm : SE κ xw te m) : SS κ xw (sFldAug κ.K to te rAdd f) (mAugFld c i mo m) := fun ρ μ H σ E D s e p =>
  ho.bindS s e p fun w μ1 ρ1 H1 vw l1 s1 e1 rw_ p1 => by
    split at p1
    · rename_i x μx hx
      have hq : ∃ ws, oitems μ1 w = some (c, ws) ∧ ws[i]? = some (.imm (.int x)) := by
        unfold oFld at hx
        split at hx
        · rename_i c' ws hw
          split at hx
          · rename_i hc
            subst hc
            split at hx
            · cases hx
              exact ⟨ws, hw, by assumption⟩
            · cases hx
          · cases hx
        · cases hx
      obtain ⟨ws, hw, hwi⟩ := hq
      obtain ⟨a, dx, xs, rfl, ha', hl, q⟩ := oitems_ok hw s1 rw_
      obtain ⟨y, hy, ry⟩ := q.get hwi
      cases ry
      refine ⟨a, κ c, dx, _, _, rfl, ha', o.cl, o.na f (List.mem_of_getElem? hf), zip_lookup o.nd hf hy, ?_⟩
      refine hm.bindS s1 e1 p1 fun yv μ2 ρ2 H2 v2 l2 s2 e2 r2 p2 => ?_
      split at p2
      · cases r2
        split at p2
        · rename_i μ3 h
          obtain ⟨a2, dx2, fs2, e5, ha2, hl2, le, s3⟩ := putFld_ok (vx := .int _) o hf h s2 (rw_.mono l2) rfl
          cases e5
          exact ⟨_, _, rfl, rfl, dx2, fs2, ha2, hl2, p2 ρ2 _ σ le s3 (e2.mono le)⟩
        · exact p2.elim
      · exact p2.elim
    · exact p1.elim

/-! ### while -/
def whileL (c : Mt) (b : Ms) : Nat → Ms
  | 0, _, _ => .bad
  | k + 1, E, μ => (c E μ).fl E fun d μ1 => if d = true then (match b E μ1 with
      | .nx E2 μ2 => whileL c b k E2 μ2
      | .ct E2 μ2 => whileL c b k E2 μ2
      | .bk E2 μ2 => .nx E2 μ2
      | f => f) else .nx E μ1
theorem ss_while (k : Nat) (hc : ST κ xw tt n) (hb : SS κ xw t b) : SS κ xw (tWhile tt t) (whileL n b k) := fun ρ μ H σ E D s e p => by
  refine ⟨fun m σ' H' => ∃ ρ' μ' E', SR κ ρ' μ' H' ∧ RE κ ρ' H' σ' E' ∧ PoS κ xw ρ' H' (whileL n b m E' μ') D, ⟨k, ρ, μ, E, s, e, p⟩, ?_⟩
  rintro m σ1 H1 ⟨ρ1, μ1, E1, s1, e1, p1⟩
  cases m with
  | zero => exact p1.elim
  | succ m =>
    unfold whileL at p1
    refine hc.bindS s1 e1 p1 fun d μ2 ρ2 H2 l2 s2 e2 p2 => ?_
    cases d with
    | false => exact p2 ρ2 H2 σ1 Le.refl s2 e2
    | true =>
      rw [if_pos rfl] at p2 ⊢
      refine ⟨fun σ' H' => ∃ ρ' μ' E', SR κ ρ' μ' H' ∧ RE κ ρ' H' σ' E' ∧ PoS κ xw ρ' H' (whileL n b m E' μ') D, fun σ' H' h => ⟨m, Nat.lt_succ_self m, h⟩, ?_⟩
      refine hb ρ2 μ2 H2 σ1 E1 _ s2 e2 ?_
      cases hm : b E1 μ2 with
      | nx E' μ' => rw [hm] at p2; exact fun ρ' H' σ' l' s' e' => ⟨ρ', μ', E', s', e', PoS.shift l' p2⟩
      | ct E' μ' => rw [hm] at p2; exact fun ρ' H' σ' l' s' e' => ⟨ρ', μ', E', s', e', PoS.shift l' p2⟩
      | bk E' μ' => rw [hm] at p2; exact p2
      | rt w μ' => rw [hm] at p2; exact p2
      | ex c E' μ' => rw [hm] at p2; exact p2
      | bad => rw [hm] at p2; exact p2

/-! ### what a for walks -/
/-- what must stand as it stood -/
abbrev Gd := List (Nat × MO)
def chk : Gd → Store → Bool
  | [], _ => true
  | (n, mo) :: r, μ => decide (μ[n]? = some mo) && chk r μ
theorem chk_mem {n : Nat} {mo : MO} : ∀ {gd : Gd}, chk gd μ = true → (n, mo) ∈ gd → μ[n]? = some mo
  | (n', mo') :: r, h, hm => by
    unfold chk at h
    rw [Bool.and_eq_true] at h
    rcases List.mem_cons.mp hm with e | hm
    · cases e; exact of_decide_eq_true h.1
    · exact chk_mem h.2 hm
structure JOk (κ : Kap) (ρ0 : Lo) (H0 : Hp) (J : It) (ws : List W) (gd : Gd) : Prop where
  go : ∀ (i : Nat) (ρ : Lo) (μ : Store) (H : Hp) (w : W), Le ρ0 H0 ρ H → SR κ ρ μ H → chk gd μ = true → ws[i]? = some w → J.go i H ∧ ∀ x H', J.yld i H x H' → Le ρ H ρ H' ∧ SR κ ρ μ H' ∧ RW κ ρ H' x w
  stop : ∀ (i : Nat) (ρ : Lo) (μ : Store) (H : Hp), Le ρ0 H0 ρ H → SR κ ρ μ H → chk gd μ = true → ws.length ≤ i → J.stop i H
abbrev Mi := Env → Store → Rs (List W × Gd)
def SI (κ : Kap) (xw : XW) (wi : TI) (mi : Mi) : Prop := ∀ ρ μ H σ E R, SR κ ρ μ H → RE κ ρ H σ E → (match mi E μ with
  | .ok (ws, gd) μ1 => ∀ ρ1 H1 J, Le ρ H ρ1 H1 → SR κ ρ1 μ1 H1 → JOk κ ρ1 H1 J ws gd → chk gd μ1 = true → R J H1
  | .ex c μ1 => ∀ ρ1 H1, Le ρ H ρ1 H1 → SR κ ρ1 μ1 H1 → xw c σ H1
  | .bad => False) → wi σ H R
def forL (gd : Gd) (tg : Mg) (body : Ms) : List W → Ms
  | [], E, μ => .nx E μ
  | w :: ws, E, μ => match tg w E with
    | none => .bad
    | some E1 => match body E1 μ with
      | .nx E2 μ2 => if chk gd μ2 = true then forL gd tg body ws E2 μ2 else .bad
      | .ct E2 μ2 => if chk gd μ2 = true then forL gd tg body ws E2 μ2 else .bad
      | .bk E2 μ2 => .nx E2 μ2
      | f => f
def mFor (mi : Mi) (tg : Mg) (body : Ms) : Ms := fun E μ => (mi E μ).fl E fun p μ1 => forL p.2 tg body p.1 E μ1
theorem drop_cons {α : Type} {ws : List α} {i : Nat} (h : i < ws.length) : ws.drop i = ws[i] :: ws.drop (i + 1) := by
  rw [List.drop_eq_getElem_cons h]
theorem for_core {J : It} {ws : List W} {gd : Gd} {g : TG} {tg : Mg} {ts : List Nat} (hg : SG κ g tg ts) (hb : SS κ xw t b) (s1 : SR κ ρ1 μ1 H1) (e1 : RE κ ρ1 H1 σ E) (j1 : JOk κ ρ1 H1 J ws gd) (c1 : chk gd μ1 = true) (p : PoS κ xw ρ1 H1 (forL gd tg b ws E μ1) D) :
    ∃ W : Nat → Nat → L2.St → Hp → Prop, (∃ m, W 0 m σ H1) ∧ ∀ i m σ H, W i m σ H →
      (J.stop i H ∧ D.nx σ H) ∨ (J.go i H ∧ ∃ N : L2.St → Hp → Prop, (∀ σ' H', N σ' H' → ∃ m', m' < m ∧ W (i + 1) m' σ' H') ∧ ∀ x H', J.yld i H x H' → g x σ H' fun σ2 H2 => t { D with nx := N, ct := N, bk := D.nx } σ2 H2) := by
    refine ⟨fun i k σ' H' => k = ws.length - i ∧ i ≤ ws.length ∧ ∃ ρ' μ' E', Le ρ1 H1 ρ' H' ∧ SR κ ρ' μ' H' ∧ RE κ ρ' H' σ' E' ∧ chk gd μ' = true ∧ PoS κ xw ρ' H' (forL gd tg b (ws.drop i) E' μ') D,
      ⟨ws.length, by simp, Nat.zero_le _, ρ1, μ1, E, Le.refl, s1, e1, c1, p⟩, ?_⟩
    rintro i k σ2 H2 ⟨rfl, hi, ρ2, μ2, E2, l2, s2, e2, c2, p2⟩
    by_cases hlt : i < ws.length
    · rw [drop_cons hlt] at p2
      unfold forL at p2
      obtain ⟨go, yld⟩ := j1.go i ρ2 μ2 H2 ws[i] l2 s2 c2 (List.getElem?_eq_getElem hlt)
      refine .inr ⟨go, fun σ' H' => ∃ ρ' μ' E', Le ρ1 H1 ρ' H' ∧ SR κ ρ' μ' H' ∧ RE κ ρ' H' σ' E' ∧ chk gd μ' = true ∧ PoS κ xw ρ' H' (forL gd tg b (ws.drop (i + 1)) E' μ') D, fun σ' H' h => ⟨ws.length - (i + 1), by omega, rfl, hlt, h⟩, fun x H' y => ?_⟩
      obtain ⟨l3, s3, r3⟩ := yld x H' y
      split at p2
      · exact p2.elim
      · rename_i E3 hE
        refine hg ρ2 H' σ2 E2 x _ E3 _ (e2.mono l3) r3 hE fun σ3 e3 _ => ?_
        refine hb ρ2 μ2 H' σ3 E3 _ s3 e3 ?_
        have p3 := PoS.shift l3 p2
        cases hbm : b E3 μ2 with
        | nx E' μ' =>
          rw [hbm] at p3
          simp only [] at p3
          split at p3
          · rename_i hc
            exact fun ρ' H' σ' l' s' e' => ⟨ρ', μ', E', (l2.trans l3).trans l', s', e', hc, PoS.shift l' p3⟩
          · exact p3.elim
        | ct E' μ' =>
          rw [hbm] at p3
          simp only [] at p3
          split at p3
          · rename_i hc
            exact fun ρ' H' σ' l' s' e' => ⟨ρ', μ', E', (l2.trans l3).trans l', s', e', hc, PoS.shift l' p3⟩
          · exact p3.elim
        | bk E' μ' => rw [hbm] at p3; exact p3
        | rt w μ' => rw [hbm] at p3; exact p3
        | ex c E' μ' => rw [hbm] at p3; exact p3
        | bad => rw [hbm] at p3; exact p3
    · have hq : i = ws.length := by omega
      subst hq
      rw [List.drop_length] at p2
      exact .inl ⟨j1.stop _ ρ2 μ2 H2 l2 s2 c2 (Nat.le_refl _), p2 ρ2 H2 σ2 Le.refl s2 e2⟩
theorem ss_for {wi : TI} {mi : Mi} {g : TG} {tg : Mg} {ts : List Nat} (hi : SI κ xw wi mi) (hg : SG κ g tg ts) (hb : SS κ xw t b) : SS κ xw (tFor wi g t) (mFor mi tg b) := fun ρ μ H σ E D s e p => by
  refine hi ρ μ H σ E _ s e ?_
  unfold mFor at p
  cases hm : mi E μ with
  | bad => rw [hm] at p; exact p
  | ex c μ1 => rw [hm] at p; exact fun ρ1 H1 l s1 => p ρ1 H1 σ l s1 (e.mono l)
  | ok q μ1 =>
    obtain ⟨ws, gd⟩ := q
    rw [hm] at p
    simp only [Rs.fl] at p
    intro ρ1 H1 J l1 s1 j1 c1
    exact for_core hg hb s1 (e.mono l1) j1 c1 (PoS.shift l1 p)
/-! ### lists, tuples, texts -/
/-- a list as it stands; its items; what must stay -/
def lsrc (μ : Store) : W → Option (List W × Gd)
  | .imm (.lst ds) => some (ds.map W.imm, [])
  | .imm (.scr ns) => some (ns.map fun n => W.imm (.int n), [])
  | .loc n => match μ[n]? with
    | some (.lst ws) => some (ws, [(n, .lst ws)])
    | _ => none
  | _ => none
/-- .. is there to be read, always -/
theorem lsrc_ok {w : W} {ws : List W} {gd : Gd} {v : V} (h : lsrc μ w = some (ws, gd)) (s : SR κ ρ μ H) (r : RW κ ρ H v w) :
    ∃ a, v = .ref a ∧ chk gd μ = true ∧ ∀ gd' ρ' μ' H', Le ρ H ρ' H' → SR κ ρ' μ' H' → chk (gd ++ gd') μ' = true → ∃ xs, SqL κ.K H' a xs ∧ RWs κ ρ' H' xs ws := by
  unfold lsrc at h
  split at h
  · cases h
    obtain ⟨a, xs, e, ha, q⟩ := r
    exact ⟨a, e, rfl, fun _ ρ' μ' H' l s' _ => ⟨xs, .inl (.inl (hid_some (l.ex _ _ ha)).2), q.toW.mono l⟩⟩
  · cases h
    obtain ⟨a, e, ha⟩ := r
    refine ⟨a, e, rfl, fun _ ρ' μ' H' l s' _ => ⟨_, ?_, scr_items⟩⟩
    rcases ha with (ha | ⟨o, ha⟩) | ha
    · exact .inl (.inl (hid_some (l.ex _ _ ha)).2)
    · exact .inl (.inr ⟨o, (hid_some (l.ex _ _ ha)).2⟩)
    · exact .inr ha
  · split at h
    · rename_i n' ws' hn
      cases h
      obtain ⟨a, f, hl, e⟩ := r
      refine ⟨a, e, by unfold chk; rw [hn]; simp [chk], fun gd' ρ' μ' H' l s' c => ?_⟩
      obtain ⟨f', hl', _⟩ := l.pre _ a f hl
      have hm := chk_mem c (List.mem_append_left _ List.mem_cons_self)
      obtain ⟨⟨xs, ha, q⟩, _⟩ := s'.ob _ a f' _ hl' hm
      exact ⟨xs, .inl (.inl ha), q⟩
    · cases h
  · cases h
theorem sq_unique {a : Addr} {xs : List V} {i : Nat} {x : V} (h : ∀ ys, SqL κ.K H a ys → ys[i]? = some x) (hx : SqL κ.K H a xs) : xs[i]? = some x := h xs hx
inductive SqK where
  | lst (ws : List W) (gd : Gd) | tup (ws : List W) | str (s : Str) | no
def sqK (μ : Store) (w : W) : SqK := match lsrc μ w with
  | some (ws, gd) => .lst ws gd
  | none => match titems w with
    | some ws => .tup ws
    | none => match w with
      | .imm (.str s) => .str s
      | _ => .no
def srcW (μ : Store) (w : W) : Option (List W × Gd) := match sqK μ w with
  | .lst ws gd => some (ws, gd)
  | .tup ws => some (ws, [])
  | .str s => some (s.cps.toList.map fun c => W.imm (.str ⟨#[c]⟩), [])
  | .no => none
def iSeq (K : PySem.W.Frag) (te : TE) : TI := fun σ H R => iList K te σ H R ∨ (iTup K te σ H R ∨ iStr te σ H R)
theorem pi_seq {X : Cx} {tg e : Expr} {te : TE} (he : PE X e te) : PI X tg e (iSeq X.K te) := PI.or (pi_list he) (PI.or (pi_tup he) (pi_str he))
def mSrc (ma : Me) : Mi := fun E μ => (ma E μ).bind fun w μ1 => match srcW μ1 w with
  | some q => .ok q μ1
  | none => .bad
theorem jok_list {a : Addr} {ws : List W} {gd : Gd} (h : ∀ ρ' μ' H', Le ρ H ρ' H' → SR κ ρ' μ' H' → chk gd μ' = true → ∃ xs, SqL κ.K H' a xs ∧ RWs κ ρ' H' xs ws) : JOk κ ρ H (Itl κ.K a) ws gd where
  go := fun i ρ' μ' H' w l s c hw => by
    obtain ⟨xs, hx, q⟩ := h ρ' μ' H' l s c
    obtain ⟨x, hxi, r⟩ := q.get hw
    refine ⟨⟨xs, x, hx, hxi⟩, fun y H'' hy => ?_⟩
    obtain ⟨rfl, hy⟩ := hy
    have := hy xs hx
    rw [hxi] at this
    cases this
    exact ⟨Le.refl, s, r⟩
  stop := fun i ρ' μ' H' l s c hw => by
    obtain ⟨xs, hx, q⟩ := h ρ' μ' H' l s c
    exact ⟨xs, hx, by rw [q.length]; exact hw⟩
theorem jok_tup {a : Addr} {ws : List W} {xs : List V} (ha : Rd (hid ρ H) a (.tup xs)) (q : RWs κ ρ H xs ws) : JOk κ ρ H (Itt κ.K a) ws [] where
  go := fun i ρ' μ' H' w l s c hw => by
    have hx : SqT κ.K H' a xs := .inl (rd_hid (rd_tup (simH_of l.ex) ha))
    obtain ⟨x, hxi, r⟩ := q.get hw
    refine ⟨⟨xs, x, hx, hxi⟩, fun y H'' hy => ?_⟩
    obtain ⟨rfl, hy⟩ := hy
    have := hy xs hx
    rw [hxi] at this
    cases this
    exact ⟨Le.refl, s, r.mono l⟩
  stop := fun i ρ' μ' H' l s c hw => ⟨xs, .inl (rd_hid (rd_tup (simH_of l.ex) ha)), by rw [q.length]; exact hw⟩
theorem jok_str {x : Str} : JOk κ ρ H (Its x) (x.cps.toList.map fun c => W.imm (.str ⟨#[c]⟩)) [] where
  go := fun i ρ' μ' H' w l s c hw => by
    rw [List.getElem?_map, Option.map_eq_some_iff] at hw
    obtain ⟨a, h1, rfl⟩ := hw
    have h2 : x.cps[i]? = some a := by rw [← Array.getElem?_toList]; exact h1
    refine ⟨(Array.getElem?_eq_some_iff.mp h2).1, fun y H'' hy => ?_⟩
    obtain ⟨rfl, c', hc, rfl⟩ := hy
    rw [h2] at hc
    cases hc
    exact ⟨Le.refl, s, rfl⟩
  stop := fun i ρ' μ' H' l s c hw => by
    have : x.cps.size ≤ i := by simpa using hw
    exact this
theorem si_seq (ha : SE κ xw te m) : SI κ xw (iSeq κ.K te) (mSrc m) := fun ρ μ H σ E R s e p => by
  unfold mSrc at p
  cases hm : m E μ with
  | bad => rw [hm] at p; exact p.elim
  | ex c μ1 => rw [hm] at p; exact .inl (ha.apply s e (by rw [hm]; exact p))
  | ok w μ1 =>
    rw [hm] at p
    simp only [Rs.bind] at p
    have go : ∀ {Kk : V → Hp → Prop}, (∀ ρ1 H1 v, Le ρ H ρ1 H1 → SR κ ρ1 μ1 H1 → RW κ ρ1 H1 v w → Kk v H1) → te σ H Kk := fun k => ha.apply s e (by rw [hm]; exact fun ρ1 H1 v l s1 r => k ρ1 H1 v l s1 r)
    unfold srcW at p
    cases hk : sqK μ1 w with
    | no => rw [hk] at p; exact p.elim
    | lst ws gd =>
      rw [hk] at p
      simp only [] at p
      have h1 : lsrc μ1 w = some (ws, gd) := by
        unfold sqK at hk
        split at hk
        · cases hk; assumption
        · split at hk
          · cases hk
          · split at hk <;> cases hk
      refine .inl (go fun ρ1 H1 v l1 s1 r1 => ?_)
      obtain ⟨a, rfl, hc, q⟩ := lsrc_ok h1 s1 r1
      refine ⟨a, rfl, ?_, p ρ1 H1 _ l1 s1 (jok_list fun ρ' μ' H' l s' c => q [] ρ' μ' H' l s' (by rw [List.append_nil]; exact c)) hc⟩
      obtain ⟨xs, hx, _⟩ := q [] ρ1 μ1 H1 Le.refl s1 (by rw [List.append_nil]; exact hc)
      exact ⟨xs, hx⟩
    | tup ws =>
      rw [hk] at p
      simp only [] at p
      have h1 : titems w = some ws := by
        unfold sqK at hk
        split at hk
        · cases hk
        · split at hk
          · cases hk; assumption
          · split at hk <;> cases hk
      refine .inr (.inl (go fun ρ1 H1 v l1 s1 r1 => ?_))
      obtain ⟨a, xs, rfl, hx, q⟩ := titems_ok h1 r1
      exact ⟨a, rfl, ⟨xs, .inl (rd_hid hx)⟩, p ρ1 H1 _ l1 s1 (jok_tup hx q) rfl⟩
    | str sx =>
      rw [hk] at p
      simp only [] at p
      have h1 : w = .imm (.str sx) := by
        unfold sqK at hk
        split at hk
        · cases hk
        · split at hk
          · cases hk
          · split at hk <;> cases hk
            rfl
      refine .inr (.inr (go fun ρ1 H1 v l1 s1 r1 => ?_))
      rw [h1] at r1
      exact ⟨sx, r1, p ρ1 H1 _ l1 s1 jok_str rfl⟩
/-! ### ranges -/
def rangeW (lo : Int) (k : Nat) : List W := (List.range k).map fun (i : Nat) => W.imm (.int (lo + i))
theorem jok_range {lo : Int} {k : Nat} : JOk κ ρ H (Itr lo k) (rangeW lo k) [] where
  go := fun i ρ' μ' H' w l s c hw => by
    unfold rangeW at hw
    rw [List.getElem?_map, Option.map_eq_some_iff] at hw
    obtain ⟨j, h1, rfl⟩ := hw
    obtain ⟨hl, _⟩ := List.getElem?_eq_some_iff.mp h1
    have hi : i < k := by simpa using hl
    rw [List.getElem?_range hi] at h1
    cases h1
    refine ⟨hi, fun y H'' hy => ?_⟩
    obtain ⟨rfl, rfl⟩ := hy
    exact ⟨Le.refl, s, rfl⟩
  stop := fun i ρ' μ' H' l s c hw => by
    unfold rangeW at hw
    rw [List.length_map, List.length_range] at hw
    exact hw
def in62 (i : Int) : Bool := decide (-(2 ^ 62) ≤ i) && decide (i < 2 ^ 62)
theorem in62_ok {i : Int} (h : in62 i = true) : -(2 ^ 62) ≤ i ∧ i < 2 ^ 62 := by
  unfold in62 at h
  simpa using h
def mRange1 (ma : Ma) : Mi := fun E μ => (ma E μ).bind fun ws μ1 => match ws with
  | [.imm (.int j)] => if in62 j = true then .ok (rangeW 0 j.toNat, []) μ1 else .bad
  | _ => .bad
def mRange2 (ma : Ma) : Mi := fun E μ => (ma E μ).bind fun ws μ1 => match ws with
  | [.imm (.int i), .imm (.int j)] => if (in62 i && in62 j) = true then .ok (rangeW i (j - i).toNat, []) μ1 else .bad
  | _ => .bad
theorem SA.apply {Q : List V → Hp → Prop} (h : SA κ xw ta ma) (s : SR κ ρ μ H) (e : RE κ ρ H σ E) (p : PoA κ xw ρ H σ (ma E μ) Q) : ta σ H Q := h ρ μ H σ E Q s e p
theorem si_range1 (ha : SA κ xw ta ma) : SI κ xw (iRng1 ta) (mRange1 ma) := fun ρ μ H σ E R s e p => by
  unfold mRange1 at p
  refine ha.apply s e ?_
  cases hm : ma E μ with
  | bad => rw [hm] at p; exact p
  | ex c μ1 => rw [hm] at p; exact p
  | ok ws μ1 =>
    rw [hm] at p
    simp only [Rs.bind] at p
    intro ρ1 H1 vs l1 s1 r1
    split at p
    · rename_i q μ2 heq
      split at heq
      · split at heq
        · rename_i hj
          cases heq
          obtain ⟨x, rfl, r⟩ := rws1 r1
          cases r
          exact ⟨_, rfl, (in62_ok hj).1, (in62_ok hj).2, p ρ1 H1 _ l1 s1 jok_range rfl⟩
        · cases heq
      · cases heq
    · rename_i c μ2 heq
      split at heq
      · split at heq <;> cases heq
      · cases heq
    · exact p.elim
theorem si_range2 (ha : SA κ xw ta ma) : SI κ xw (iRng2 ta) (mRange2 ma) := fun ρ μ H σ E R s e p => by
  unfold mRange2 at p
  refine ha.apply s e ?_
  cases hm : ma E μ with
  | bad => rw [hm] at p; exact p
  | ex c μ1 => rw [hm] at p; exact p
  | ok ws μ1 =>
    rw [hm] at p
    simp only [Rs.bind] at p
    intro ρ1 H1 vs l1 s1 r1
    split at p
    · rename_i q μ2 heq
      split at heq
      · split at heq
        · rename_i hj
          rw [Bool.and_eq_true] at hj
          cases heq
          obtain ⟨x, y, rfl, r, r'⟩ := rws2 r1
          cases r
          cases r'
          exact ⟨_, _, rfl, ⟨(in62_ok hj.1).1, (in62_ok hj.1).2, (in62_ok hj.2).1, (in62_ok hj.2).2⟩, p ρ1 H1 _ l1 s1 jok_range rfl⟩
        · cases heq
      · cases heq
    · rename_i c μ2 heq
      split at heq
      · split at heq <;> cases heq
      · cases heq
    · exact p.elim
end
end Gx

namespace Gx
open PySem PySem.Spec PyProof.Rows L2

section
variable {κ : Kap} {xw : XW} {ρ ρ1 ρ' : Lo} {H H1 H' : Hp} {σ : L2.St} {E : Env} {μ μ1 μ' : Store} {te tb tc tx : TE} {tt tu : TT} {ta : TA} {m mb mc mx : Me} {n n' : Mt} {ma : Ma} {t u : TS} {a b : Ms} {D : Ends}
/-! ### enumerate, zip -/
def enumW : Nat → List W → List W
  | _, [] => []
  | i, w :: r => mkT [.imm (.int (i : Nat)), w] :: enumW (i + 1) r
theorem enumW_get : ∀ {ws : List W} {k i : Nat} {w : W}, (enumW k ws)[i]? = some w → ∃ x, ws[i]? = some x ∧ w = mkT [.imm (.int ((k + i : Nat) : Int)), x]
  | [], k, i, w, h => by simp [enumW] at h
  | x :: r, k, 0, w, h => by simp [enumW] at h; exact ⟨x, rfl, h.symm⟩
  | x :: r, k, i + 1, w, h => by
    have h' : (enumW (k + 1) r)[i]? = some w := by simpa [enumW] using h
    obtain ⟨y, h1, h2⟩ := enumW_get h'
    exact ⟨y, by simpa using h1, by rw [h2, show k + 1 + i = k + (i + 1) by omega]⟩
theorem enumW_len : ∀ (ws : List W) (k : Nat), (enumW k ws).length = ws.length
  | [], _ => rfl
  | x :: r, k => by unfold enumW; rw [List.length_cons, List.length_cons, enumW_len r]
def zipW : List W → List W → List W
  | x :: xs, y :: ys => mkT [x, y] :: zipW xs ys
  | _, _ => []
theorem zipW_get : ∀ {xs ys : List W} {i : Nat} {w : W}, (zipW xs ys)[i]? = some w → ∃ x y, xs[i]? = some x ∧ ys[i]? = some y ∧ w = mkT [x, y]
  | [], _, i, w, h => by simp [zipW] at h
  | _ :: _, [], i, w, h => by simp [zipW] at h
  | x :: xs, y :: ys, 0, w, h => by simp [zipW] at h; exact ⟨x, y, rfl, rfl, h.symm⟩
  | x :: xs, y :: ys, i + 1, w, h => by
    have h' : (zipW xs ys)[i]? = some w := by simpa [zipW] using h
    obtain ⟨a, b, h1, h2, h3⟩ := zipW_get h'
    exact ⟨a, b, by simpa using h1, by simpa using h2, h3⟩
theorem zipW_len : ∀ (xs ys : List W), (zipW xs ys).length = min xs.length ys.length
  | [], ys => by simp [zipW]
  | x :: xs, [] => by simp [zipW]
  | x :: xs, y :: ys => by unfold zipW; rw [List.length_cons, zipW_len xs ys, List.length_cons, List.length_cons]; omega
theorem chk_app : ∀ (g g' : Gd), chk (g ++ g') μ = (chk g μ && chk g' μ)
  | [], _ => by simp [chk]
  | (n, mo) :: r, g' => by
    show (decide (μ[n]? = some mo) && chk (r ++ g') μ) = (decide (μ[n]? = some mo) && chk r μ && chk g' μ)
    rw [chk_app r g', Bool.and_assoc]
theorem pair_new {T : Addr} {x y : V} {w w' : W} (s : SR κ ρ μ H) (hT : H T = none) (r : RW κ ρ H x w) (r' : RW κ ρ H y w') : Le ρ H ρ (upd H T (.tup [x, y])) ∧ SR κ ρ μ (upd H T (.tup [x, y])) ∧ RW κ ρ (upd H T (.tup [x, y])) (.ref T) (mkT [w, w']) :=
  ⟨Le.new hT, s.new hT, mkT_rw (.inl (by rw [hid_out (fun z => s.fresh hT (mem_fst z)), upd_same])) (RWs.mono (Le.new hT) _ _ (RWs.cons r (RWs.cons r' RWs.nil)))⟩
theorem jok_enum {a : Addr} {ws : List W} {gd : Gd} (h : ∀ ρ' μ' H', Le ρ H ρ' H' → SR κ ρ' μ' H' → chk gd μ' = true → ∃ xs, SqL κ.K H' a xs ∧ RWs κ ρ' H' xs ws) : JOk κ ρ H (Ite κ.K a) (enumW 0 ws) gd where
  go := fun i ρ' μ' H' w l s c hw => by
    obtain ⟨x0, h0, rfl⟩ := enumW_get hw
    obtain ⟨xs, hx, q⟩ := h ρ' μ' H' l s c
    obtain ⟨x, hxi, r⟩ := q.get h0
    refine ⟨⟨xs, x, hx, hxi⟩, fun y H'' hy => ?_⟩
    obtain ⟨T, x', rfl, hT, rfl, hy⟩ := hy
    have := hy xs hx
    rw [hxi] at this
    cases this
    rw [Nat.zero_add]
    exact pair_new s hT rfl r
  stop := fun i ρ' μ' H' l s c hw => by
    obtain ⟨xs, hx, q⟩ := h ρ' μ' H' l s c
    exact ⟨xs, hx, by rw [q.length]; rw [enumW_len] at hw; exact hw⟩
theorem jok_zip {a b : Addr} {ws ws' : List W} {gd : Gd} (h : ∀ ρ' μ' H', Le ρ H ρ' H' → SR κ ρ' μ' H' → chk gd μ' = true → (∃ xs, SqL κ.K H' a xs ∧ RWs κ ρ' H' xs ws) ∧ ∃ xs, SqL κ.K H' b xs ∧ RWs κ ρ' H' xs ws') : JOk κ ρ H (Itz κ.K a b) (zipW ws ws') gd where
  go := fun i ρ' μ' H' w l s c hw => by
    obtain ⟨x0, y0, h0, h1, rfl⟩ := zipW_get hw
    obtain ⟨⟨xs, hx, q⟩, ys, hy, q'⟩ := h ρ' μ' H' l s c
    obtain ⟨x, hxi, r⟩ := q.get h0
    obtain ⟨y, hyi, r'⟩ := q'.get h1
    refine ⟨⟨xs, ys, x, y, hx, hy, hxi, hyi⟩, fun z H'' hz => ?_⟩
    obtain ⟨T, x', y', rfl, hT, rfl, h2, h3⟩ := hz
    have e1 := h2 xs hx
    rw [hxi] at e1
    cases e1
    have e2 := h3 ys hy
    rw [hyi] at e2
    cases e2
    exact pair_new s hT r r'
  stop := fun i ρ' μ' H' l s c hw => by
    obtain ⟨⟨xs, hx, q⟩, ys, hy, q'⟩ := h ρ' μ' H' l s c
    rw [zipW_len] at hw
    refine ⟨xs, ys, hx, hy, ?_⟩
    rw [q.length, q'.length]
    omega
theorem jok_zipT {a b : Addr} {ws ws' : List W} {xs ys : List V} (ha : Rd (hid ρ H) a (.tup xs)) (q : RWs κ ρ H xs ws) (hb : Rd (hid ρ H) b (.tup ys)) (q' : RWs κ ρ H ys ws') : JOk κ ρ H (RZ.ItzT κ.K a b) (zipW ws ws') [] where
  go := fun i ρ' μ' H' w l s c hw => by
    obtain ⟨x0, y0, h0, h1, rfl⟩ := zipW_get hw
    have hx : SqT κ.K H' a xs := .inl (rd_hid (rd_tup (simH_of l.ex) ha))
    have hy : SqT κ.K H' b ys := .inl (rd_hid (rd_tup (simH_of l.ex) hb))
    obtain ⟨x, hxi, r⟩ := q.get h0
    obtain ⟨y, hyi, r'⟩ := q'.get h1
    refine ⟨⟨xs, ys, x, y, hx, hy, hxi, hyi⟩, fun z H'' hz => ?_⟩
    obtain ⟨T, x', y', rfl, hT, rfl, h2, h3⟩ := hz
    have e1 := h2 xs hx
    rw [hxi] at e1
    cases e1
    have e2 := h3 ys hy
    rw [hyi] at e2
    cases e2
    exact pair_new s hT (r.mono l) (r'.mono l)
  stop := fun i ρ' μ' H' l s c hw => by
    rw [zipW_len] at hw
    refine ⟨xs, ys, .inl (rd_hid (rd_tup (simH_of l.ex) ha)), .inl (rd_hid (rd_tup (simH_of l.ex) hb)), ?_⟩
    rw [q.length, q'.length]
    omega
def mEnum (ma : Ma) : Mi := fun E μ => (ma E μ).bind fun ws μ1 => match ws with
  | [w] => match lsrc μ1 w with
    | some (xs, gd) => .ok (enumW 0 xs, gd) μ1
    | none => .bad
  | _ => .bad
theorem si_enum (ha : SA κ xw ta ma) : SI κ xw (iEnum κ.K ta) (mEnum ma) := fun ρ μ H σ E R s e p => by
  unfold mEnum at p
  refine ha.apply s e ?_
  cases hm : ma E μ with
  | bad => rw [hm] at p; exact p
  | ex c μ1 => rw [hm] at p; exact p
  | ok ws μ1 =>
    rw [hm] at p
    simp only [Rs.bind] at p
    intro ρ1 H1 vs l1 s1 r1
    split at p
    · rename_i q μ2 heq
      split at heq
      · split at heq
        · rename_i xs gd hl
          cases heq
          obtain ⟨x, rfl, r⟩ := rws1 r1
          obtain ⟨a, rfl, hc, q⟩ := lsrc_ok hl s1 r
          obtain ⟨ys, hy, _⟩ := q [] ρ1 μ1 H1 Le.refl s1 (by rw [List.append_nil]; exact hc)
          exact ⟨a, ys, rfl, hy, p ρ1 H1 _ l1 s1 (jok_enum fun ρ' μ' H' l s' c => q [] ρ' μ' H' l s' (by rw [List.append_nil]; exact c)) hc⟩
        · cases heq
      · cases heq
    · rename_i c μ2 heq
      split at heq
      · split at heq <;> cases heq
      · cases heq
    · exact p.elim
def mZip (ma : Ma) : Mi := fun E μ => (ma E μ).bind fun ws μ1 => match ws with
  | [w, w'] => match lsrc μ1 w, lsrc μ1 w' with
    | some (xs, gd), some (ys, gd') => .ok (zipW xs ys, gd ++ gd') μ1
    | _, _ => match titems w, titems w' with
      | some xs, some ys => .ok (zipW xs ys, []) μ1
      | _, _ => .bad
  | _ => .bad
theorem si_zip (ha : SA κ xw ta ma) : SI κ xw (RZ.iZipA κ.K ta) (mZip ma) := fun ρ μ H σ E R s e p => by
  unfold mZip at p
  refine ha.apply s e ?_
  cases hm : ma E μ with
  | bad => rw [hm] at p; exact p
  | ex c μ1 => rw [hm] at p; exact p
  | ok ws μ1 =>
    rw [hm] at p
    simp only [Rs.bind] at p
    intro ρ1 H1 vs l1 s1 r1
    split at p
    · rename_i q μ2 heq
      split at heq
      · split at heq
        · rename_i xs gd ys gd' hl hl'
          cases heq
          obtain ⟨x, y, rfl, r, r'⟩ := rws2 r1
          obtain ⟨a, rfl, hc, q⟩ := lsrc_ok hl s1 r
          obtain ⟨b, rfl, hc', q'⟩ := lsrc_ok hl' s1 r'
          obtain ⟨zs, hz, _⟩ := q [] ρ1 μ1 H1 Le.refl s1 (by rw [List.append_nil]; exact hc)
          obtain ⟨zs', hz', _⟩ := q' [] ρ1 μ1 H1 Le.refl s1 (by rw [List.append_nil]; exact hc')
          refine ⟨a, b, zs, zs', rfl, .inl ⟨hz, hz', p ρ1 H1 _ l1 s1 (jok_zip fun ρ' μ' H' l s' c => ?_) (by rw [chk_app, hc, hc']; rfl)⟩⟩
          rw [chk_app, Bool.and_eq_true] at c
          exact ⟨q [] ρ' μ' H' l s' (by rw [List.append_nil]; exact c.1), q' [] ρ' μ' H' l s' (by rw [List.append_nil]; exact c.2)⟩
        · split at heq
          · rename_i xs ys hl hl'
            cases heq
            obtain ⟨x, y, rfl, r, r'⟩ := rws2 r1
            obtain ⟨a, zs, rfl, hx, q⟩ := titems_ok hl r
            obtain ⟨b, zs', rfl, hy, q'⟩ := titems_ok hl' r'
            exact ⟨a, b, zs, zs', rfl, .inr ⟨.inl (rd_hid hx), .inl (rd_hid hy), p ρ1 H1 _ l1 s1 (jok_zipT hx q hy q') rfl⟩⟩
          · cases heq
      · cases heq
    · rename_i c μ2 heq
      split at heq
      · split at heq
        · cases heq
        · split at heq <;> cases heq
      · cases heq
    · exact p.elim

/-! ### for k in d: the dict at a name is locked, and read alone from then on -/
def kW : Key → W
  | .inl i => .imm (.int i)
  | .inr s => .imm (.str s)
theorem kW_ok (k : Key) : RW κ ρ H (kV k) (kW k) := by
  cases k <;> exact rfl
theorem jok_keys {d : Addr} {o : Obj} {ys : List (Key × V)} {kvs : List (Key × W)} (hd : hid ρ H d = some (.frz o (.dK ys))) (q : RWk κ ρ H ys kvs) : JOk κ ρ H (Itk d o ys) (kvs.map fun p => kW p.1) [] where
  go := fun i ρ' μ' H' w l s c hw => by
    rw [List.getElem?_map, Option.map_eq_some_iff] at hw
    obtain ⟨⟨k, w0⟩, h1, rfl⟩ := hw
    have hd' := (hid_some (l.ex _ _ hd)).2
    have get : ∀ {kvs : List (Key × W)} {ys : List (Key × V)} {i : Nat} {k : Key} {w : W}, RWk κ ρ H ys kvs → kvs[i]? = some (k, w) → ∃ v, ys[i]? = some (k, v) := by
      intro kvs
      induction kvs with
      | nil => intro ys i k w q h; simp at h
      | cons p r ih =>
        intro ys i k w q h
        obtain ⟨k', w'⟩ := p
        obtain ⟨x, xr, rfl, p, q⟩ := q
        cases i with
        | zero => cases h; exact ⟨x, rfl⟩
        | succ i => simpa using ih (i := i) q (by simpa using h)
    obtain ⟨v, hv⟩ := get q h1
    refine ⟨⟨hd', (List.getElem?_eq_some_iff.mp hv).1⟩, fun y H'' hy => ?_⟩
    obtain ⟨rfl, k', v', hk, rfl⟩ := hy
    rw [hv] at hk
    cases hk
    exact ⟨Le.refl, s, kW_ok k⟩
  stop := fun i ρ' μ' H' l s c hw => ⟨(hid_some (l.ex _ _ hd)).2, by rw [q.length]; rw [List.length_map] at hw; exact hw⟩
def noEx : Fl → Fl
  | .ex _ _ _ => .bad
  | f => f
def mForV (i : Nat) (tg : Mg) (body : Ms) : Ms := fun E μ => match E[i]? with
  | some (some (.imm (.dct kvs))) => noEx (forL [] tg body ((kvs.map fun p => (p.1, W.imm p.2)).map fun p => kW p.1) E μ)
  | some (some (.loc n)) => match μ[n]? with
    | some (.dct kvs) => noEx (forL [] tg body (kvs.map fun p => kW p.1) E (μ.set n (.fdct kvs)))
    | some (.fdct kvs) => noEx (forL [] tg body (kvs.map fun p => kW p.1) E μ)
    | _ => mFor (mSrc (mVar i)) tg body E μ
  | _ => mFor (mSrc (mVar i)) tg body E μ
def tForV (K : PySem.W.Frag) (i : Nat) (g : TG) (tb : TS) : TS := fun D σ H => tFor (iSeq K (tVar i)) g tb D σ H ∨ (tLock (tFor (iKeys (tVar i)) g tb) D σ H ∨ tFor (iKeys (tVar i)) g tb D σ H)
theorem ps_forV {X : Cx} {tg e : Expr} {body : List Stmt} {i : Nat} {g : TG} {tb : TS} {pos : Pos} (hp : PassesOwn (model X.prog X.w) X.A X.env X.xe) (hc : X.calm = true) (he : PE X e (tVar i)) (hg : PG X tg g) (hb : PSs X body tb)
    (hs : ∀ x, foldedSetIterable e X.env x = pure x := by intro _; rfl) : PS X (.For tg e body [] pos) (tForV X.K i g tb) :=
  PS.or (ps_for hp hc (pi_seq he) hg hb hs) (PS.or (ps_lock (ps_for hp hc (pi_keys he) hg hb hs)) (ps_for hp hc (pi_keys he) hg hb hs))
theorem sim_lock {d : Addr} {ob : Obj} {ys : List (Key × V)} (hd : H d = some (.dK ys)) : ∀ b o, H b = some o → ∃ o', upd H d (.frz ob (.dK ys)) b = some o' ∧ Sim o o' := fun b o e => by
  by_cases hb : b = d
  · subst hb
    rw [hd] at e
    cases e
    exact ⟨_, upd_same, .inr ⟨ys, .inl rfl, .inr ⟨ob, rfl⟩⟩⟩
  · exact ⟨o, by rw [upd_ne hb]; exact e, .inl rfl⟩
theorem sim_unlock {d : Addr} {ob : Obj} {ys : List (Key × V)} (hd : H d = some (.frz ob (.dK ys))) : ∀ b o, H b = some o → ∃ o', upd H d (.dK ys) b = some o' ∧ Sim o o' := fun b o e => by
  by_cases hb : b = d
  · subst hb
    rw [hd] at e
    cases e
    exact ⟨_, upd_same, .inr ⟨ys, .inr ⟨ob, rfl⟩, .inl rfl⟩⟩
  · exact ⟨o, by rw [upd_ne hb]; exact e, .inl rfl⟩
/-- the same places, a visible dict locked or unlocked -/
theorem LeS.sim {H H' : Hp} (h : ∀ b o, H b = some o → ∃ o', H' b = some o' ∧ Sim o o') : LeS ρ H ρ H' := ⟨fun n a f e => ⟨f, e⟩, fun b o e => by
  obtain ⟨h1, h2⟩ := hid_some e
  obtain ⟨o', h3, h4⟩ := h b o h2
  exact ⟨o', by rw [hid_out h1]; exact h3, h4⟩⟩
theorem SR.sim {H H' : Hp} (s : SR κ ρ μ H) (h : ∀ b o, H b = some o → ∃ o', H' b = some o' ∧ Sim o o') (hv : ∀ (n : Nat) (a : Addr), ρ[n]? = some (a, false) → H' a = H a) : SR κ ρ μ H' :=
  ⟨s.nd, s.len, fun n a f mo e1 e2 => by
    obtain ⟨r, hf⟩ := s.ob n a f mo e1 e2
    refine ⟨?_, hf⟩
    cases mo with
    | fdct kvs =>
      obtain ⟨ys, rd, q⟩ := r
      exact ⟨ys, rd_dKat (h a) rd, q.sim (LeS.sim h)⟩
    | lst ws => exact r.sim (LeS.sim h) (h a) (fun xs e => by rw [hv n a (by rw [e1, hf]; rfl)]; exact e)
    | dct ws => exact r.sim (LeS.sim h) (h a) (fun xs e => by rw [hv n a (by rw [e1, hf]; rfl)]; exact e)
    | ins c ws => exact r.sim (LeS.sim h) (h a) (fun xs e => by rw [hv n a (by rw [e1, hf]; rfl)]; exact e)⟩
theorem PoS.noEx {fl : Fl} (p : PoS κ xw ρ H (noEx fl) D) : PoS κ xw ρ H fl D := by
  cases fl with
  | ex c E μ => exact p.elim
  | _ => exact p
/-- the ends of a loop over a locked dict -/
abbrev lockD (D : Ends) (d : Addr) (od : Obj) (u : HO) : Ends := ⟨fun σ' H' => H' d = some (.frz od u) ∧ D.nx σ' (upd H' d u), fun v H' => H' d = some (.frz od u) ∧ D.rt v (upd H' d u), fun σ' H' => H' d = some (.frz od u) ∧ D.bk σ' (upd H' d u), fun σ' H' => H' d = some (.frz od u) ∧ D.ct σ' (upd H' d u)⟩
theorem PoS.lock {fl : Fl} {d : Addr} {od : Obj} {ys : List (Key × V)} (hd : hid ρ1 H1 d = some (.frz od (.dK ys))) (hL : ∀ ρ' H', Le ρ1 H1 ρ' H' → Le ρ H ρ' (upd H' d (.dK ys))) (p : PoS κ xw ρ H (Gx.noEx fl) D) : PoS κ xw ρ1 H1 fl (lockD D d od (.dK ys)) := by
  have out : ∀ {ρ' : Lo} {μ' : Store} {H' : Hp}, Le ρ1 H1 ρ' H' → SR κ ρ' μ' H' → H' d = some (.frz od (.dK ys)) ∧ SR κ ρ' μ' (upd H' d (.dK ys)) ∧ LeS ρ' H' ρ' (upd H' d (.dK ys)) := fun {ρ' μ' H'} l s => by
    obtain ⟨h1, h2⟩ := hid_some (l.ex _ _ hd)
    refine ⟨h2, s.sim (sim_unlock h2) (fun n a e => upd_ne ?_), LeS.sim (sim_unlock h2)⟩
    rintro rfl
    exact h1 (List.mem_of_getElem? e)
  cases fl with
  | ex c E μ => exact p.elim
  | bad => exact p.elim
  | nx E' μ' => exact fun ρ' H' σ' l s e => let ⟨h1, h2, h3⟩ := out l s; ⟨h1, p ρ' _ σ' (hL ρ' H' l) h2 (e.sim h3)⟩
  | bk E' μ' => exact fun ρ' H' σ' l s e => let ⟨h1, h2, h3⟩ := out l s; ⟨h1, p ρ' _ σ' (hL ρ' H' l) h2 (e.sim h3)⟩
  | ct E' μ' => exact fun ρ' H' σ' l s e => let ⟨h1, h2, h3⟩ := out l s; ⟨h1, p ρ' _ σ' (hL ρ' H' l) h2 (e.sim h3)⟩
  | rt w μ' => exact fun ρ' H' v l s r => let ⟨h1, h2, h3⟩ := out l s; ⟨h1, p ρ' _ v (hL ρ' H' l) h2 (r.sim h3)⟩
theorem SR.freeze {d : Addr} {k : Nat} {o : HO} {ys : List (Key × V)} {kvs : List (Key × W)} (s : SR κ ρ μ H) (hl : ρ[k]? = some (d, false)) (hm : μ[k]? = some (.dct kvs)) (hd : H d = some (.dK ys)) (q : RWk κ ρ H ys kvs) (hr : Rd (upd H d o) d (.dK ys)) :
    Le ρ H (ρ.set k (d, true)) (upd H d o) ∧ SR κ (ρ.set k (d, true)) (μ.set k (.fdct kvs)) (upd H d o) := by
  have hk : k < ρ.length := (List.getElem?_eq_some_iff.mp hl).1
  have le : Le ρ H (ρ.set k (d, true)) (upd H d o) := ⟨fun n a f e => by
    by_cases hn : n = k
    · subst hn
      rw [hl] at e
      cases e
      exact ⟨true, List.getElem?_set_self hk, fun _ => rfl⟩
    · exact ⟨f, by rw [List.getElem?_set_ne (Ne.symm hn)]; exact e, fun x => x⟩, fun b u e => by
    obtain ⟨h1, h2⟩ := hid_some e
    have hb : b ≠ d := by rintro rfl; exact h1 (List.mem_of_getElem? hl)
    rw [hid_out, upd_ne hb]
    · exact h2
    · intro hmem
      obtain ⟨j, hj, ej⟩ := List.getElem_of_mem hmem
      by_cases hn : j = k
      · subst hn
        rw [List.getElem_set_self] at ej
        cases ej
      · rw [List.getElem_set_ne (Ne.symm hn)] at ej
        exact h1 (ej ▸ List.getElem_mem _)⟩
  refine ⟨le, ?_, by rw [List.length_set, List.length_set]; exact s.len, fun n a f mo e1 e2 => ?_⟩
  · rw [List.map_set]
    have : (ρ.map (·.1)).set k d = ρ.map (·.1) := by
      refine List.ext_getElem? fun j => ?_
      by_cases hj : j = k
      · subst hj
        rw [List.getElem?_set_self (by rw [List.length_map]; exact hk), List.getElem?_map, hl]
        rfl
      · rw [List.getElem?_set_ne (Ne.symm hj)]
    rw [this]
    exact s.nd
  · by_cases hn : n = k
    · subst hn
      rw [List.getElem?_set_self hk] at e1
      cases e1
      rw [List.getElem?_set_self (by rw [← s.len]; exact hk)] at e2
      cases e2
      exact ⟨⟨ys, hr, RWk.mono le _ _ q⟩, rfl⟩
    · rw [List.getElem?_set_ne (Ne.symm hn)] at e1 e2
      obtain ⟨r, hf⟩ := s.ob n a f mo e1 e2
      have ha : a ≠ d := by rintro rfl; exact hn (nd_flag s.nd e1 hl)
      exact ⟨r.mono le fun u e => by rw [upd_ne ha]; exact e, hf⟩
theorem ss_forV {i : Nat} {g : TG} {tg : Mg} {ts : List Nat} (hg : SG κ g tg ts) (hb : SS κ xw t b) : SS κ xw (tForV κ.K i g t) (mForV i tg b) := fun ρ μ H σ E D s e p => by
  unfold mForV at p
  -- a dict that stands frozen, or as data
  have fixed : ∀ {d : Addr} {ys : List (Key × V)} {kvs : List (Key × W)}, σ[i]? = some (some (.ref d)) → Rd (hid ρ H) d (.dK ys) → RWk κ ρ H ys kvs → PoS κ xw ρ H (noEx (forL [] tg b (kvs.map fun p => kW p.1) E μ)) D →
      tLock (tFor (iKeys (tVar i)) g t) D σ H ∨ tFor (iKeys (tVar i)) g t D σ H := fun {d ys kvs} hσ hd q p => by
    rcases hd with hd | ⟨o, hd⟩
    · left
      obtain ⟨h1, h2⟩ := hid_some hd
      refine ⟨d, .dK ys, h2, trivial, fun od => ?_⟩
      refine ⟨.ref d, hσ, d, od, rfl, .inl ⟨ys, upd_same, ?_⟩⟩
      have hv : hid ρ (upd H d (.frz od (.dK ys))) d = some (.frz od (.dK ys)) := by rw [hid_out h1, upd_same]
      have ls : LeS ρ H ρ (upd H d (.frz od (.dK ys))) := LeS.sim (sim_lock h2)
      refine for_core (D := lockD D d od (.dK ys)) hg hb (s.sim (sim_lock h2) fun n a ea => upd_ne ?_) (e.sim ls) (jok_keys hv (q.sim ls)) rfl (PoS.lock hv (fun ρ' H' l => ⟨l.pre, fun b u eb => ?_⟩) p)
      · rintro rfl
        exact h1 (List.mem_of_getElem? ea)
      · obtain ⟨g1, g2⟩ := hid_some (l.ex _ _ hv)
        by_cases hbd : b = d
        · subst hbd
          rw [hd] at eb
          cases eb
          rw [hid_out g1, upd_same]
        · obtain ⟨k1, k2⟩ := hid_some eb
          have := l.ex b u (by rw [hid_out k1, upd_ne hbd]; exact k2)
          obtain ⟨j1, j2⟩ := hid_some this
          rw [hid_out j1, upd_ne hbd]
          exact j2
    · right
      exact ⟨.ref d, hσ, d, o, rfl, .inl ⟨ys, (hid_some hd).2, for_core hg hb s e (jok_keys hd q) rfl p.noEx⟩⟩
  split at p
  · rename_i kvs hE
    obtain ⟨v, hv, a, ys, rfl, ha, q⟩ := e.at_ i _ hE
    exact .inr (fixed hv ha q.toW p)
  · rename_i k hE
    obtain ⟨v, hv, d, f, hl, rfl⟩ := e.at_ i _ hE
    split at p
    · rename_i kvs hm
      have hl' := s.live hl hm rfl
      obtain ⟨⟨ys, hd, q⟩, _⟩ := s.ob _ d _ _ hl hm
      right
      left
      refine ⟨d, .dK ys, hd, trivial, fun od => ?_⟩
      refine ⟨.ref d, hv, d, od, rfl, .inl ⟨ys, upd_same, ?_⟩⟩
      obtain ⟨le, s1⟩ := SR.freeze (o := .frz od (.dK ys)) s hl' hm hd q (.inr ⟨od, upd_same⟩)
      have hk : k < ρ.length := (List.getElem?_eq_some_iff.mp hl).1
      have hv1 : hid (ρ.set k (d, true)) (upd H d (.frz od (.dK ys))) d = some (.frz od (.dK ys)) := by
        rw [hid_out, upd_same]
        intro hmem
        obtain ⟨j, hj, ej⟩ := List.getElem_of_mem hmem
        have e1 : (ρ.set k (d, true))[j]? = some (d, false) := by rw [List.getElem?_eq_getElem hj, ej]
        by_cases hn : j = k
        · subst hn
          rw [List.getElem?_set_self hk] at e1
          cases e1
        · rw [List.getElem?_set_ne (Ne.symm hn)] at e1
          exact hn (nd_flag s.nd e1 hl')
      refine for_core (D := lockD D d od (.dK ys)) hg hb s1 (e.mono le) (jok_keys hv1 (RWk.mono le _ _ q)) rfl (PoS.lock hv1 (fun ρ' H' l => ⟨(le.trans l).pre, fun b u eb => ?_⟩) p)
      have hbd : b ≠ d := by
        rintro rfl
        exact (hid_some eb).1 (List.mem_of_getElem? hl')
      have h3 := (le.trans l).ex b u eb
      obtain ⟨j1, j2⟩ := hid_some h3
      rw [hid_out j1, upd_ne hbd]
      exact j2
    · rename_i kvs hm
      obtain ⟨⟨ys, hd, q⟩, hf⟩ := s.ob _ d _ _ hl hm
      refine .inr (fixed hv ?_ q p)
      have hvis : (d, false) ∉ ρ := fun hmem => by
        obtain ⟨j, hj, ej⟩ := List.getElem_of_mem hmem
        have e1 : ρ[j]? = some (d, false) := by rw [List.getElem?_eq_getElem hj, ej]
        have := nd_flag s.nd e1 hl
        subst this
        rw [hl] at e1
        rw [hf] at e1
        cases e1
      rcases hd with hd | ⟨o, hd⟩
      · exact .inl (by rw [hid_out hvis]; exact hd)
      · exact .inr ⟨o, by rw [hid_out hvis]; exact hd⟩
    · exact .inl (ss_for (si_seq (se_var i)) hg hb ρ μ H σ E D s e p)
  · exact .inl (ss_for (si_seq (se_var i)) hg hb ρ μ H σ E D s e p)
end
end Gx

namespace Gx
open PySem PySem.Spec PyProof.Rows L2

section
variable {κ : Kap} {xw : XW} {ρ ρ1 ρ2 ρ' : Lo} {H H1 H2 H' : Hp} {σ : L2.St} {E : Env} {μ μ1 μ2 μ' : Store} {te tb tc tx : TE} {tt tu : TT} {ta : TA} {m mb mc mx : Me} {n n' : Mt} {ma : Ma} {t u : TS} {a b : Ms}
/-! ### what nobody will change becomes data, the store is as it was -/
/-- as data, with the objects from base on (but not ex) -/
def nsK (k : Key) (d : D) : Option (Key × D) := if d.isScr = true then none else some (k, d)
def deepN (ex : Option Nat) (base : Nat) (μ : Store) : Nat → W → Option D
  | _, .imm d => some d
  | 0, _ => none
  | k + 1, .tup ws => match optAll (deepN ex base μ k) ws with
    | some ds => some (.tup ds)
    | none => none
  | k + 1, .loc n => if n < base ∨ ex = some n then none else match μ[n]? with
    | some (.lst ws) => match optAll (deepN ex base μ k) ws with
      | some ds => some (.lst ds)
      | none => none
    | some (.dct kvs) => match optAll (fun p => match deepN ex base μ k p.2 with
        | some d => nsK p.1 d
        | none => none) kvs with
      | some ds => some (.dct ds)
      | none => none
    | some (.fdct kvs) => match optAll (fun p => match deepN ex base μ k p.2 with
        | some d => nsK p.1 d
        | none => none) kvs with
      | some ds => some (.dct ds)
      | none => none
    | some (.ins c ws) => match optAll (deepN ex base μ k) ws with
      | some ds => some (.obj c ds)
      | none => none
    | none => none
theorem optAll_rds {f : W → Option D} {Hx : Hp} (h : ∀ w v d, RW κ ρ' H' v w → f w = some d → RD κ Hx v d) : ∀ {ws : List W} {xs : List V} {ds : List D}, RWs κ ρ' H' xs ws → optAll f ws = some ds → RDs κ Hx xs ds
  | [], _, _, q, e => by cases q; cases e; rfl
  | w :: ws, _, ds, ⟨x, xr, rfl, p, q⟩, e => by
    unfold optAll at e
    split at e
    · cases e
    · rename_i b hb
      split at e
      · cases e
      · rename_i bs hbs
        cases e
        exact ⟨x, xr, rfl, h _ _ _ p hb, optAll_rds h q hbs⟩
theorem optAll_rdk {f : W → Option D} {Hx : Hp} (h : ∀ w v d, RW κ ρ' H' v w → f w = some d → RD κ Hx v d) : ∀ {ws : List (Key × W)} {xs : List (Key × V)} {ds : List (Key × D)}, RWk κ ρ' H' xs ws → optAll (fun p => match f p.2 with
    | some d => nsK p.1 d
    | none => none) ws = some ds → RDk κ Hx xs ds
  | [], _, _, q, e => by cases q; cases e; rfl
  | (k, w) :: ws, _, ds, ⟨x, xr, rfl, p, q⟩, e => by
    unfold optAll at e
    split at e
    · cases e
    · rename_i b hb
      simp only [] at hb
      split at hb
      · rename_i d hd
        unfold nsK at hb
        split at hb
        · cases hb
        · rename_i hns
          cases hb
          split at e
          · cases e
          · rename_i bs hbs
            cases e
            exact ⟨x, xr, rfl, ⟨h _ _ _ p hd, by simpa using hns⟩, optAll_rdk h q hbs⟩
      · cases hb
/-- the heap that keeps the old objects hidden (and one new one) -/
theorem deepN_ok {ex : Option Nat} {base : Nat} {μ' : Store} {Hx : Hp} (s : SR κ ρ' μ' H') (hv : ∀ b o, hid ρ' H' b = some o → Hx b = some o)
    (hn : ∀ (j : Nat) (a : Addr) (f : Bool) (o : HO), base ≤ j → ex ≠ some j → ρ'[j]? = some (a, f) → H' a = some o → Hx a = some o) : ∀ (k : Nat) (w : W) (v : V) (d : D), RW κ ρ' H' v w → deepN ex base μ' k w = some d → RD κ Hx v d
  | k, .imm d, v, e, r, h => by
    rw [show deepN ex base μ' k (W.imm d) = some d by cases k <;> rfl] at h
    cases h
    exact RD.mono hv _ _ r
  | k + 1, .tup ws, v, e, ⟨a, xs, ea, ha, q⟩, h => by
    unfold deepN at h
    split at h
    · rename_i ds hds
      cases h
      exact ⟨a, xs, ea, rd_tup (simH_of hv) ha, optAll_rds (fun w v d r hd => deepN_ok s hv hn k w v d r hd) q hds⟩
    · cases h
  | k + 1, .loc j, v, e, ⟨a, f, ha, ea⟩, h => by
    unfold deepN at h
    split at h
    · cases h
    · rename_i hb
      have hb1 : base ≤ j := by
        have := fun z => hb (.inl z)
        omega
      have hb2 : ex ≠ some j := fun z => hb (.inr z)
      split at h
      · rename_i ws hm
        obtain ⟨⟨xs, hx, q⟩, _⟩ := s.ob j a f _ ha hm
        split at h
        · rename_i ds hds
          cases h
          exact ⟨a, xs, ea, hn j a f _ hb1 hb2 ha hx, optAll_rds (fun w v d r hd => deepN_ok s hv hn k w v d r hd) q hds⟩
        · cases h
      · rename_i kvs hm
        obtain ⟨⟨ys, hx, q⟩, _⟩ := s.ob j a f _ ha hm
        split at h
        · rename_i ds hds
          cases h
          exact ⟨a, ys, ea, .inl (hn j a f _ hb1 hb2 ha hx), optAll_rdk (fun w v d r hd => deepN_ok s hv hn k w v d r hd) q hds⟩
        · cases h
      · rename_i kvs hm
        obtain ⟨⟨ys, hx, q⟩, _⟩ := s.ob j a f _ ha hm
        split at h
        · rename_i ds hds
          cases h
          refine ⟨a, ys, ea, ?_, optAll_rdk (fun w v d r hd => deepN_ok s hv hn k w v d r hd) q hds⟩
          rcases hx with hx | ⟨o, hx⟩
          · exact .inl (hn j a f _ hb1 hb2 ha hx)
          · exact .inr ⟨o, hn j a f _ hb1 hb2 ha hx⟩
        · cases h
      · rename_i c ws hm
        obtain ⟨⟨dx, xs, hx, hl, q⟩, _⟩ := s.ob j a f _ ha hm
        split at h
        · rename_i ds hds
          cases h
          exact ⟨a, dx, xs, ea, hn j a f _ hb1 hb2 ha hx, hl, optAll_rds (fun w v d r hd => deepN_ok s hv hn k w v d r hd) q hds⟩
        · cases h
      · cases h
  | 0, .tup _, _, _, _, h => by cases h
  | 0, .loc _, _, _, _, h => by cases h
/-! ### which places are named -/
mutual
def scW (k : Nat) : W → Prop
  | .imm _ => True
  | .loc n => n < k
  | .tup ws => scWs k ws
def scWs (k : Nat) : List W → Prop
  | [] => True
  | w :: ws => scW k w ∧ scWs k ws
end
def scK {α : Type} (k : Nat) : List (α × W) → Prop
  | [] => True
  | (_, w) :: ws => scW k w ∧ scK k ws
mutual
theorem sc_of : ∀ (w : W) (v : V), RW κ ρ H v w → scW ρ.length w
  | .imm _, _, _ => trivial
  | .loc n, _, ⟨a, f, e, _⟩ => (List.getElem?_eq_some_iff.mp e).1
  | .tup ws, _, ⟨a, xs, _, _, q⟩ => scs_of ws xs q
theorem scs_of : ∀ (ws : List W) (xs : List V), RWs κ ρ H xs ws → scWs ρ.length ws
  | [], _, _ => trivial
  | w :: ws, _, ⟨x, r, _, p, q⟩ => ⟨sc_of w x p, scs_of ws r q⟩
end
theorem sck_of {α : Type} : ∀ (ws : List (α × W)) (xs : List (α × V)), RWk κ ρ H xs ws → scK ρ.length ws
  | [], _, _ => trivial
  | (k, w) :: ws, _, ⟨x, r, _, p, q⟩ => ⟨sc_of w x p, sck_of ws r q⟩
/-- fewer places, the same named -/
structure Back (k : Nat) (ρ' : Lo) (H' : Hp) (ρx : Lo) : Prop where
  pl : ∀ (j : Nat) (a : Addr) (f : Bool), j < k → ρ'[j]? = some (a, f) → ρx[j]? = some (a, f)
  hv : ∀ b o, hid ρ' H' b = some o → hid ρx H' b = some o
mutual
theorem RW.back {k : Nat} {ρx : Lo} (bk : Back k ρ' H' ρx) : ∀ (w : W) (v : V), scW k w → RW κ ρ' H' v w → RW κ ρx H' v w
  | .imm d, v, _, q => RD.mono bk.hv _ _ q
  | .loc n, v, h, ⟨a, f, e, e'⟩ => ⟨a, f, bk.pl n a f h e, e'⟩
  | .tup ws, v, h, ⟨a, xs, e, r, q⟩ => ⟨a, xs, e, rd_tup (simH_of bk.hv) r, RWs.back bk ws xs h q⟩
theorem RWs.back {k : Nat} {ρx : Lo} (bk : Back k ρ' H' ρx) : ∀ (ws : List W) (xs : List V), scWs k ws → RWs κ ρ' H' xs ws → RWs κ ρx H' xs ws
  | [], _, _, q => q
  | w :: ws, _, h, ⟨x, r, e, p, q⟩ => ⟨x, r, e, RW.back bk w x h.1 p, RWs.back bk ws r h.2 q⟩
end
theorem RWk.back {α : Type} {k : Nat} {ρx : Lo} (bk : Back k ρ' H' ρx) : ∀ (ws : List (α × W)) (xs : List (α × V)), scK k ws → RWk κ ρ' H' xs ws → RWk κ ρx H' xs ws
  | [], _, _, q => q
  | (_, w) :: ws, _, h, ⟨x, r, e, p, q⟩ => ⟨x, r, e, RW.back bk w x h.1 p, RWk.back bk ws r h.2 q⟩
theorem RO.back {k : Nat} {ρx : Lo} {a : Addr} (bk : Back k ρ' H' ρx) (r0 : RO κ ρ H a mo) (hk : ρ.length ≤ k) : RO κ ρ' H' a mo → RO κ ρx H' a mo := by
  intro r
  have up : ∀ {j : Nat}, j < ρ.length → j < k := fun h => Nat.lt_of_lt_of_le h hk
  have upW : ∀ w, scW ρ.length w → scW k w := by
    intro w
    have all : ∀ (w : W), (scW ρ.length w → scW k w) := fun w => by
      refine W.rec (motive_1 := fun w => scW ρ.length w → scW k w) (motive_2 := fun ws => scWs ρ.length ws → scWs k ws) (fun _ _ => trivial) (fun n h => up h) (fun ws ih h => ih h) (fun _ => trivial) (fun w ws h1 h2 h => ⟨h1 h.1, h2 h.2⟩) w
    exact all w
  have upWs : ∀ ws, scWs ρ.length ws → scWs k ws := by
    intro ws
    induction ws with
    | nil => intro _; trivial
    | cons w ws ih => intro h; exact ⟨upW w h.1, ih h.2⟩
  have upK : ∀ ws : List (Key × W), scK ρ.length ws → scK k ws := by
    intro ws
    induction ws with
    | nil => intro _; trivial
    | cons w ws ih => intro h; exact ⟨upW w.2 h.1, ih h.2⟩
  cases mo with
  | lst ws =>
    obtain ⟨xs0, _, q0⟩ := r0
    obtain ⟨xs, e, q⟩ := r
    exact ⟨xs, e, RWs.back bk _ _ (upWs _ (scs_of _ _ q0)) q⟩
  | dct ws =>
    obtain ⟨xs0, _, q0⟩ := r0
    obtain ⟨xs, e, q⟩ := r
    exact ⟨xs, e, RWk.back bk _ _ (upK _ (sck_of _ _ q0)) q⟩
  | fdct ws =>
    obtain ⟨xs0, _, q0⟩ := r0
    obtain ⟨xs, e, q⟩ := r
    exact ⟨xs, e, RWk.back bk _ _ (upK _ (sck_of _ _ q0)) q⟩
  | ins c ws =>
    obtain ⟨dx0, xs0, _, _, q0⟩ := r0
    obtain ⟨dx, xs, e, l, q⟩ := r
    exact ⟨dx, xs, e, l, RWs.back bk _ _ (upWs _ (scs_of _ _ q0)) q⟩
/-- the objects made meanwhile are let go -/
theorem back_take (s : SR κ ρ' μ' H') (k : Nat) : Back k ρ' H' (ρ'.take k) where
  pl := fun j a f hj e => by rw [List.getElem?_take_of_lt hj]; exact e
  hv := fun b o e => by
    obtain ⟨h1, h2⟩ := hid_some e
    rw [hid_out fun z => h1 (List.mem_of_mem_take z)]
    exact h2
theorem SR.retract (s : SR κ ρ μ H) (l : Le ρ H ρ' H') (s' : SR κ ρ' μ' H') (h : μ'.take μ.length = μ) : Le ρ H (ρ'.take μ.length) H' ∧ SR κ (ρ'.take μ.length) μ H' := by
  have hlen : μ.length ≤ μ'.length := by
    have := congrArg List.length h
    rw [List.length_take] at this
    omega
  have bk := back_take s' μ.length
  refine ⟨⟨fun j a f e => ?_, fun b o e => bk.hv b o (l.ex b o e)⟩, ?_, by rw [List.length_take, s'.len]; omega, fun j a f mo e1 e2 => ?_⟩
  · obtain ⟨f', e', g⟩ := l.pre j a f e
    exact ⟨f', bk.pl j a f' (by rw [← s.len]; exact (List.getElem?_eq_some_iff.mp e).1) e', g⟩
  · rw [List.map_take]
    exact List.Nodup.sublist (List.take_sublist _ _) s'.nd
  · have hj : j < μ.length := (List.getElem?_eq_some_iff.mp e2).1
    rw [List.getElem?_take_of_lt hj] at e1
    have e3 : μ'[j]? = some mo := by rw [← h, List.getElem?_take_of_lt hj] at e2; exact e2
    obtain ⟨r, hf⟩ := s'.ob j a f mo e1 e3
    have hj0 : j < ρ.length := by rw [s.len]; exact hj
    obtain ⟨r0, _⟩ := s.ob j (ρ[j]).1 (ρ[j]).2 mo (List.getElem?_eq_getElem hj0) e2
    have ea : (ρ[j]).1 = a := by
      obtain ⟨f', e', _⟩ := l.pre j (ρ[j]).1 (ρ[j]).2 (List.getElem?_eq_getElem hj0)
      rw [e1] at e'
      cases e'
      rfl
    rw [ea] at r0
    exact ⟨RO.back bk r0 (by rw [s.len]; exact Nat.le_refl _) r, hf⟩
def fuelR : Nat := 9
/-- the value as data, if nothing that stood has changed -/
def retr (μ : Store) (r : Rs W) : Rs W := match r with
  | .ok w μ2 => if μ2.take μ.length = μ then (match deepN none μ.length μ2 fuelR w with
    | some d => .ok (.imm d) μ
    | none => .ok w μ2) else .ok w μ2
  | .ex c μ2 => .ex c μ2
  | .bad => .bad
def mRetr (m : Me) : Me := fun E μ => retr μ (m E μ)
theorem hid_take_new (s : SR κ ρ' μ' H') {k j : Nat} {a : Addr} {f : Bool} {o : HO} (hj : k ≤ j) (e : ρ'[j]? = some (a, f)) (h : H' a = some o) : hid (ρ'.take k) H' a = some o := by
  rw [hid_out, h]
  intro hm
  obtain ⟨i, hi, ei⟩ := List.getElem_of_mem hm
  have e1 : (ρ'.take k)[i]? = some (a, false) := by rw [List.getElem?_eq_getElem hi, ei]
  have hik : i < k := by
    rw [List.length_take] at hi
    omega
  rw [List.getElem?_take_of_lt hik] at e1
  have := nd_flag s.nd e1 e
  omega
theorem se_retr (h : SE κ xw te m) : SE κ xw te (mRetr m) := fun ρ μ H σ E Q s e p => by
  refine h.apply s e ?_
  unfold mRetr retr at p
  cases hm : m E μ with
  | bad => rw [hm] at p; exact p
  | ex c μ2 => rw [hm] at p; exact p
  | ok w μ2 =>
    rw [hm] at p
    simp only [] at p
    split at p
    · rename_i ht
      split at p
      · rename_i d hd
        intro ρ' H' v l s' r
        obtain ⟨l2, s2⟩ := s.retract l s' ht
        refine p _ H' v l2 s2 ?_
        exact deepN_ok s' (back_take s' μ.length).hv (fun j a f o hj _ e1 ho => hid_take_new s' hj e1 ho) _ _ _ _ r hd
      · exact p
    · exact p
/-- .. a new list that may change; its items as data -/
def retrL (μ : Store) (r : Rs W) : Rs W := match r with
  | .ok (.loc k) μ2 => if μ2.take μ.length = μ ∧ μ.length ≤ k then (match μ2[k]? with
    | some (.lst ws) => match optAll (deepN (some k) μ.length μ2 fuelR) ws with
      | some ds => .ok (.loc μ.length) (μ ++ [.lst (ds.map W.imm)])
      | none => .ok (.loc k) μ2
    | some (.dct kvs) => match optAll (fun p => match deepN (some k) μ.length μ2 fuelR p.2 with
        | some d => nsK p.1 d
        | none => none) kvs with
      | some ds => .ok (.loc μ.length) (μ ++ [.dct (ds.map fun p => (p.1, W.imm p.2))])
      | none => .ok (.loc k) μ2
    | _ => .ok (.loc k) μ2) else .ok (.loc k) μ2
  | r => r
def mRetrL (m : Me) : Me := fun E μ => retrL μ (m E μ)
theorem back_one (s : SR κ ρ' μ' H') {k j : Nat} {a : Addr} (e : ρ'[j]? = some (a, false)) : Back k ρ' H' (ρ'.take k ++ [(a, false)]) where
  pl := fun i b f hi e1 => by
    have hl : i < (ρ'.take k).length := by
      rw [List.length_take]
      have := (List.getElem?_eq_some_iff.mp e1).1
      omega
    rw [List.getElem?_append_left hl, List.getElem?_take_of_lt hi]
    exact e1
  hv := fun b o e1 => by
    obtain ⟨h1, h2⟩ := hid_some e1
    rw [hid_out, h2]
    intro hm
    rcases List.mem_append.mp hm with z | z
    · exact h1 (List.mem_of_mem_take z)
    · have : (b, false) = (a, false) := by simpa using z
      rw [this] at h1
      exact h1 (List.mem_of_getElem? e)
theorem SR.retract1 {k : Nat} {a : Addr} {mo : MO} (s : SR κ ρ μ H) (l : Le ρ H ρ' H') (s' : SR κ ρ' μ' H') (h : μ'.take μ.length = μ) (hk : μ.length ≤ k) (hl : ρ'[k]? = some (a, false)) (hf : mo.fz = false) (hr : RO κ (ρ'.take μ.length ++ [(a, false)]) H' a mo) :
    Le ρ H (ρ'.take μ.length ++ [(a, false)]) H' ∧ SR κ (ρ'.take μ.length ++ [(a, false)]) (μ ++ [mo]) H' := by
  obtain ⟨l2, s2⟩ := s.retract l s' h
  have bk := back_one (k := μ.length) s' hl
  have len2 := s2.len
  have ha : a ∉ (ρ'.take μ.length).map (·.1) := fun hm => by
    obtain ⟨⟨a', f⟩, hmem, e⟩ := List.mem_map.mp hm
    cases e
    obtain ⟨i, hi, ei⟩ := List.getElem_of_mem hmem
    have e1 : (ρ'.take μ.length)[i]? = some (a', f) := by rw [List.getElem?_eq_getElem hi, ei]
    have hik : i < μ.length := by
      rw [List.length_take] at hi
      omega
    rw [List.getElem?_take_of_lt hik] at e1
    have := nd_flag s'.nd e1 hl
    omega
  refine ⟨⟨fun j b f e => ?_, fun b o e => bk.hv b o (l.ex b o e)⟩, ?_, by rw [List.length_append, List.length_append, len2]; rfl, fun j b f m e1 e2 => ?_⟩
  · obtain ⟨f', e', g⟩ := l2.pre j b f e
    exact ⟨f', by rw [List.getElem?_append_left (List.getElem?_eq_some_iff.mp e').1]; exact e', g⟩
  · rw [List.map_append, List.nodup_append]
    refine ⟨s2.nd, by simp, fun x hx y hy => ?_⟩
    have hy' : y = a := by simpa using hy
    rw [hy']
    rintro rfl
    exact ha hx
  · by_cases hj : j < μ.length
    · rw [List.getElem?_append_left (by rw [len2]; exact hj)] at e1
      rw [List.getElem?_append_left hj] at e2
      have e3 : μ'[j]? = some m := by rw [← h, List.getElem?_take_of_lt hj] at e2; exact e2
      rw [List.getElem?_take_of_lt hj] at e1
      obtain ⟨r, hf'⟩ := s'.ob j b f m e1 e3
      have hj0 : j < ρ.length := by rw [s.len]; exact hj
      obtain ⟨r0, _⟩ := s.ob j (ρ[j]).1 (ρ[j]).2 m (List.getElem?_eq_getElem hj0) e2
      have ea : (ρ[j]).1 = b := by
        obtain ⟨f', e', _⟩ := l.pre j (ρ[j]).1 (ρ[j]).2 (List.getElem?_eq_getElem hj0)
        rw [e1] at e'
        cases e'
        rfl
      rw [ea] at r0
      exact ⟨RO.back bk r0 (by rw [s.len]; exact Nat.le_refl _) r, hf'⟩
    · rw [List.getElem?_append_right (by rw [len2]; omega)] at e1
      rw [List.getElem?_append_right (by omega)] at e2
      rw [len2] at e1
      cases hq : j - μ.length with
      | zero =>
        rw [hq] at e1 e2
        cases e1
        cases e2
        exact ⟨hr, hf.symm⟩
      | succ q => rw [hq] at e1; simp at e1
theorem se_retrL (h : SE κ xw te m) : SE κ xw te (mRetrL m) := fun ρ μ H σ E Q s e p => by
  refine h.apply s e ?_
  unfold mRetrL retrL at p
  cases hm : m E μ with
  | bad => rw [hm] at p; exact p
  | ex c μ2 => rw [hm] at p; exact p
  | ok w μ2 =>
    rw [hm] at p
    cases w with
    | imm d => exact p
    | tup ws => exact p
    | loc k =>
      simp only [] at p
      split at p
      · rename_i ht
        have newH : ∀ {ρ' : Lo} {H' : Hp} {a : Addr}, SR κ ρ' μ2 H' → ρ'[k]? = some (a, false) → ∀ (j : Nat) (b : Addr) (f : Bool) (o : HO), μ.length ≤ j → some k ≠ some j → ρ'[j]? = some (b, f) → H' b = some o → hid (ρ'.take μ.length ++ [(a, false)]) H' b = some o := fun {ρ' H' a} s' hl j b f o hj hne e1 ho => by
          have h1 := hid_take_new s' hj e1 ho
          obtain ⟨h2, h3⟩ := hid_some h1
          rw [hid_out, h3]
          intro hm
          rcases List.mem_append.mp hm with z | z
          · exact h2 z
          · have : b = a := by simpa using z
            subst this
            exact hne (by rw [nd_flag s'.nd hl e1])
        split at p
        · rename_i ws hk
          split at p
          · rename_i ds hds
            intro ρ' H' v l s' r
            obtain ⟨a, f, hl, rfl⟩ := r
            have hl' := s'.live hl hk rfl
            obtain ⟨⟨xs, hx, q⟩, _⟩ := s'.ob k a f _ hl hk
            obtain ⟨l2, s2⟩ := s.retract1 (mo := .lst (ds.map W.imm)) l s' ht.1 ht.2 hl' rfl ⟨xs, hx, RDs.toW (optAll_rds (fun w v d r hd => deepN_ok s' (back_one (k := μ.length) s' hl').hv (newH s' hl') _ w v d r hd) q hds)⟩
            refine p _ H' _ l2 s2 ⟨a, false, ?_, rfl⟩
            have hlen : (ρ'.take μ.length).length = μ.length := (s.retract l s' ht.1).2.len
            rw [List.getElem?_append_right (by rw [hlen]; exact Nat.le_refl _), hlen, Nat.sub_self]
            rfl
          · exact p
        · rename_i kvs hk
          split at p
          · rename_i ds hds
            intro ρ' H' v l s' r
            obtain ⟨a, f, hl, rfl⟩ := r
            have hl' := s'.live hl hk rfl
            obtain ⟨⟨xs, hx, q⟩, _⟩ := s'.ob k a f _ hl hk
            obtain ⟨l2, s2⟩ := s.retract1 (mo := .dct (ds.map fun p => (p.1, W.imm p.2))) l s' ht.1 ht.2 hl' rfl ⟨xs, hx, RDk.toW (optAll_rdk (fun w v d r hd => deepN_ok s' (back_one (k := μ.length) s' hl').hv (newH s' hl') _ w v d r hd) q hds)⟩
            refine p _ H' _ l2 s2 ⟨a, false, ?_, rfl⟩
            have hlen : (ρ'.take μ.length).length = μ.length := (s.retract l s' ht.1).2.len
            rw [List.getElem?_append_right (by rw [hlen]; exact Nat.le_refl _), hlen, Nat.sub_self]
            rfl
          · exact p
        · exact p
      · exact p
end
end Gx

namespace Gx
open PySem PySem.Spec PyProof.Rows L2

section
variable {κ : Kap} {xw : XW} {ρ ρ1 ρ2 ρ' : Lo} {H H1 H2 H' : Hp} {σ : L2.St} {E : Env} {μ μ1 μ2 μ' : Store} {te tb tc tx : TE} {tt tu : TT} {ta : TA} {m mb mc mx : Me} {n n' : Mt} {ma : Ma} {t u : TS} {a b : Ms}
/-! ### comprehensions -/
abbrev xN : XW := fun _ _ _ => False
def wipeW (E : Env) : List Nat → Env
  | [] => E
  | v :: vs => (wipeW E vs).set v none
theorem RE.wipe (e : RE κ ρ H σ E) : ∀ vs : List Nat, RE κ ρ H (L2.wipe σ vs) (wipeW E vs)
  | [] => e
  | v :: vs => (RE.wipe e vs).forget
def compL (gd : Gd) (tg : Mg) (mt : Mt) (me : Me) (E0 : Env) (k : Nat) : List W → Store → Rs Unit
  | [], μ => .ok () μ
  | w :: ws, μ => match tg w E0 with
    | none => .bad
    | some E1 => match mt E1 μ with
      | .ok true μ2 => (match me E1 μ2 with
        | .ok y μ3 => (match μ3[k]? with
          | some (.lst acc) => if acc.length < cap ∧ chk gd (μ3.set k (.lst (acc ++ [y]))) = true then compL gd tg mt me E0 k ws (μ3.set k (.lst (acc ++ [y]))) else .bad
          | _ => .bad)
        | _ => .bad)
      | .ok false μ2 => if chk gd μ2 = true then compL gd tg mt me E0 k ws μ2 else .bad
      | _ => .bad
def mLc (mi : Mi) (tg : Mg) (mt : Mt) (me : Me) (vs : List Nat) : Me := fun E μ => (mi E μ).bind fun q μ1 => (compL q.2 tg mt me (wipeW E vs) μ1.length q.1 (μ1 ++ [.lst []])).bind fun _ μ2 => .ok (.loc μ1.length) μ2
def mYes : Mt := fun _ μ => .ok true μ
theorem st_yes' : ST κ xw tYes mYes := fun ρ μ H σ E Q s e p => p ρ H _ Le.refl s rfl
/-- what is wished behind the block -/
def PoU (κ : Kap) (ρ : Lo) (H : Hp) (r : Rs Unit) (Q : Hp → Prop) : Prop := match r with
  | .ok _ μ' => ∀ ρ' H', Le ρ H ρ' H' → SR κ ρ' μ' H' → Q H'
  | _ => False
theorem PoU.shift {r : Rs Unit} {Q : Hp → Prop} (l : Le ρ H ρ1 H1) (p : PoU κ ρ H r Q) : PoU κ ρ1 H1 r Q := by
  cases r with
  | ok _ μ' => exact fun ρ' H' l' s => p ρ' H' (l.trans l') s
  | ex c μ' => exact p
  | bad => exact p
theorem chk_app_store (μ g : Store) : ∀ gd : Gd, chk gd μ = true → chk gd (μ ++ g) = true
  | [], _ => rfl
  | (k, mo) :: r, h => by
    unfold chk at h ⊢
    rw [Bool.and_eq_true] at h ⊢
    have h1 := of_decide_eq_true h.1
    exact ⟨decide_eq_true (by rw [List.getElem?_append_left (List.getElem?_eq_some_iff.mp h1).1]; exact h1), chk_app_store μ g r h.2⟩
theorem JOk.shift {J : It} {ws : List W} {gd : Gd} (l : Le ρ H ρ1 H1) (j : JOk κ ρ H J ws gd) : JOk κ ρ1 H1 J ws gd := ⟨fun i ρ' μ' H' w l' => j.go i ρ' μ' H' w (l.trans l'), fun i ρ' μ' H' l' => j.stop i ρ' μ' H' (l.trans l')⟩
theorem se_lc {wi : TI} {mi : Mi} {g : TG} {tg : Mg} {ts vs : List Nat} (hi : SI κ xw wi mi) (hg : SG κ g tg ts) (hv : ∀ i ∈ ts, i ∈ vs) (ht : ST κ xN tt n) (he : SE κ xN te m) : SE κ xw (tLc wi g tt te vs) (mLc mi tg n m vs) := fun ρ μ H σ E Q s e p => by
  refine hi ρ μ H σ E _ s e ?_
  unfold mLc at p
  cases hm : mi E μ with
  | bad => rw [hm] at p; exact p
  | ex c μ1 => rw [hm] at p; exact p
  | ok q μ1 =>
    obtain ⟨ws, gd⟩ := q
    rw [hm] at p
    simp only [Rs.bind] at p
    intro ρ1 H1 J l1 s1 j1 c1 D hD
    have lD : Le ρ1 H1 (ρ1 ++ [(D, false)]) (upd H1 D (.lst [])) := Le.lay hD
    have sD : SR κ (ρ1 ++ [(D, false)]) (μ1 ++ [.lst []]) (upd H1 D (.lst [])) := s1.lay (mo := .lst []) hD ⟨[], upd_same, rfl⟩
    have pU : PoU κ (ρ1 ++ [(D, false)]) (upd H1 D (.lst [])) (compL gd tg n m (wipeW E vs) μ1.length ws (μ1 ++ [.lst []])) (fun H' => Q (.ref D) H') := by
      cases hc : compL gd tg n m (wipeW E vs) μ1.length ws (μ1 ++ [.lst []]) with
      | bad => rw [hc] at p; exact p
      | ex c μ2 => 
        exfalso
        have noex : ∀ (ws : List W) (μ : Store) c μ2, compL gd tg n m (wipeW E vs) μ1.length ws μ ≠ .ex c μ2 := by
          intro ws
          induction ws with
          | nil => intro μ c μ2 h; cases h
          | cons w ws ih =>
            intro μ c μ2 h
            unfold compL at h
            split at h
            · cases h
            · split at h
              · split at h
                · split at h
                  · split at h
                    · exact ih _ _ _ h
                    · cases h
                  · cases h
                · cases h
              · split at h
                · exact ih _ _ _ h
                · cases h
              · cases h
        exact noex _ _ _ _ hc
      | ok x μ2 =>
        rw [hc] at p
        intro ρ' H' l' s'
        refine p ρ' H' _ ((l1.trans lD).trans l') s' ?_
        obtain ⟨f', e', _⟩ := l'.pre μ1.length D false (loc_new s1)
        exact ⟨D, f', e', rfl⟩
    refine ⟨fun i k H' => k = ws.length - i ∧ i ≤ ws.length ∧ ∃ ρ' μ', Le (ρ1 ++ [(D, false)]) (upd H1 D (.lst [])) ρ' H' ∧ SR κ ρ' μ' H' ∧ chk gd μ' = true ∧ PoU κ ρ' H' (compL gd tg n m (wipeW E vs) μ1.length (ws.drop i) μ') (fun H' => Q (.ref D) H'),
      ⟨ws.length, by simp, Nat.zero_le _, _, _, Le.refl, sD, chk_app_store μ1 _ gd c1, pU⟩, ?_⟩
    rintro i k H2 ⟨rfl, hi', ρ2, μ2, l2, s2, c2, p2⟩
    by_cases hlt : i < ws.length
    · rw [drop_cons hlt] at p2
      unfold compL at p2
      obtain ⟨go, yld⟩ := j1.go i ρ2 μ2 H2 ws[i] (lD.trans l2) s2 c2 (List.getElem?_eq_getElem hlt)
      refine .inr ⟨go, fun H' => ∃ ρ' μ', Le (ρ1 ++ [(D, false)]) (upd H1 D (.lst [])) ρ' H' ∧ SR κ ρ' μ' H' ∧ chk gd μ' = true ∧ PoU κ ρ' H' (compL gd tg n m (wipeW E vs) μ1.length (ws.drop (i + 1)) μ') (fun H' => Q (.ref D) H'), fun H' h => ⟨ws.length - (i + 1), by omega, rfl, hlt, h⟩, fun x H' y => ?_⟩
      obtain ⟨l3, s3, r3⟩ := yld x H' y
      split at p2
      · exact p2.elim
      · rename_i E1 hE
        have e0 : RE κ ρ2 H' (L2.wipe σ vs) (wipeW E vs) := (((e.mono l1).mono lD).mono (l2.trans l3)).wipe vs
        refine hg ρ2 H' _ _ x _ E1 _ e0 r3 hE fun σ2 e2 k2 => ⟨?_, ?_⟩
        · rw [k2 vs hv]
          refine List.ext_getElem? fun j => ?_
          rw [wipe_at, wipe_at, wipe_length]
          split <;> rfl
        · have p3 := PoU.shift l3 p2
          refine ht ρ2 μ2 H' σ2 E1 _ s3 e2 ?_
          cases hmt : n E1 μ2 with
          | bad => rw [hmt] at p3; exact p3
          | ex c μ3 => rw [hmt] at p3; exact p3.elim
          | ok bb μ3 =>
            rw [hmt] at p3
            intro ρ4 H4 b' l4 s4 eb
            subst eb
            cases b' with
            | false =>
              simp only [] at p3
              split at p3
              · rename_i hc
                rw [if_neg Bool.false_ne_true]
                exact ⟨ρ4, μ3, (l2.trans l3).trans l4, s4, hc, PoU.shift l4 p3⟩
              · exact p3.elim
            | true =>
              simp only [] at p3
              rw [if_pos rfl]
              refine he ρ4 μ3 H4 σ2 E1 _ s4 (e2.mono l4) ?_
              cases hme : m E1 μ3 with
              | bad => rw [hme] at p3; exact p3
              | ex c μ4 => rw [hme] at p3; exact p3.elim
              | ok y μ4 =>
                rw [hme] at p3
                simp only [] at p3
                intro ρ5 H5 v5 l5 s5 r5
                split at p3
                · rename_i acc hk
                  split at p3
                  · rename_i hc
                    obtain ⟨f', e', _⟩ := (((l2.trans l3).trans l4).trans l5).pre μ1.length D false (loc_new s1)
                    have hl := s5.live e' hk rfl
                    obtain ⟨⟨xs, hx, q⟩, _⟩ := s5.ob _ D _ _ e' hk
                    refine ⟨xs, hx, by rw [q.length]; exact cap_lt hc.1, ρ5, μ4.set μ1.length (.lst (acc ++ [y])), (((l2.trans l3).trans l4).trans l5).trans (Le.put hl), s5.put (mo := .lst (acc ++ [y])) hl rfl ⟨_, upd_same, RWs.mono (Le.put hl) _ _ (q.app (RWs.cons r5 RWs.nil))⟩, hc.2, PoU.shift ((l4.trans l5).trans (Le.put hl)) p3⟩
                  · exact p3.elim
                · exact p3.elim
    · have hq : i = ws.length := by omega
      subst hq
      rw [List.drop_length] at p2
      exact .inl ⟨j1.stop _ ρ2 μ2 H2 (lD.trans l2) s2 c2 (Nat.le_refl _), p2 ρ2 H2 Le.refl s2⟩

/-! ### methods of the built-in types -/
def tyK (μ : Store) : W → Nat
  | .imm (.str _) => 2
  | .imm (.lst _) => 4
  | .loc n => match μ[n]? with
    | some (.lst _) => 4
    | some (.dct _) => 5
    | _ => 9
  | _ => 9
theorem tyK_ok {w : W} {v : V} {k : Nat} (h : tyK μ w = k) (hk : k ≤ 5) (s : SR κ ρ μ H) (r : RW κ ρ H v w) : tyV κ.K (tyN k) v H := by
  unfold tyK at h
  split at h
  · subst h; cases r; rfl
  · subst h
    obtain ⟨a, xs, rfl, ha, _⟩ := r
    exact .inl ⟨rfl, xs, .inl (.inl (hid_some ha).2)⟩
  · split at h
    · rename_i hm
      subst h
      obtain ⟨a, f, hl, rfl⟩ := r
      obtain ⟨⟨xs, hx, _⟩, _⟩ := s.ob _ a _ _ hl hm
      exact .inl ⟨rfl, xs, .inl (.inl hx)⟩
    · rename_i hm
      subst h
      obtain ⟨a, f, hl, rfl⟩ := r
      obtain ⟨⟨xs, hx, _⟩, _⟩ := s.ob _ a _ _ hl hm
      exact .inr (.inr (.inl ⟨rfl, .inl ⟨xs, hx⟩⟩))
    · subst h
      exact absurd hk (by decide)
  · subst h
    exact absurd hk (by decide)
abbrev OpM := W → List W → Store → Rs W
def SM (κ : Kap) (r : V → List V → Hp → VK → Prop) (o : OpM) : Prop := ∀ xw ρ μ H σ x w vs ws Q, SR κ ρ μ H → RW κ ρ H x w → RWs κ ρ H vs ws → PoE κ xw ρ H σ (o w ws μ) Q → r x vs H Q
def mBM (k : Nat) (o : OpM) (mo : Me) (ma : Ma) : Me := fun E μ => (mo E μ).bind fun w μ1 => if tyK μ1 w = k then (ma E μ1).bind fun ws μ2 => o w ws μ2 else .bad
theorem se_bm {k : Nat} (hk : k ≤ 5) {r : V → List V → Hp → VK → Prop} {o : OpM} (hr : SM κ r o) (ho : SE κ xw te m) (ha : SA κ xw ta ma) : SE κ xw (tBM κ.K (tyN k) r te ta) (mBM k o m ma) := fun ρ μ H σ E Q s e p =>
  ho.bind s e p fun w μ1 ρ1 H1 v l1 s1 e1 r1 p1 => by
    split at p1
    · rename_i hty
      exact ⟨tyK_ok hty hk s1 r1, ha.bind s1 e1 p1 fun ws μ2 ρ2 H2 vs l2 s2 e2 r2 p2 => hr xw ρ2 μ2 H2 σ v w vs ws Q s2 (r1.mono l2) r2 p2⟩
    · exact p1.elim
theorem se_bm0 {k : Nat} (hk : k ≤ 5) {r : V → List V → Hp → VK → Prop} {o : OpM} (hr : SM κ r o) (ho : SE κ xw te m) : SE κ xw (tBM0 κ.K (tyN k) r te) (mBM k o m mNil) := fun ρ μ H σ E Q s e p =>
  ho.bind s e p fun w μ1 ρ1 H1 v l1 s1 e1 r1 p1 => by
    split at p1
    · rename_i hty
      exact ⟨tyK_ok hty hk s1 r1, hr xw ρ1 μ1 H1 σ v w [] [] Q s1 r1 RWs.nil p1⟩
    · exact p1.elim
/-- the store's list, changed -/
def onL (w : W) (μ : Store) (f : Nat → List W → Rs W) : Rs W := match w with
  | .loc n => match μ[n]? with
    | some (.lst ws) => f n ws
    | _ => .bad
  | _ => .bad
theorem onL_ok {Q : VK} {w : W} {v : V} {f : Nat → List W → Rs W} (s : SR κ ρ μ H) (r : RW κ ρ H v w) (p : PoE κ xw ρ H σ (onL w μ f) Q) :
    ∃ n l xs ws, v = .ref l ∧ H l = some (.lst xs) ∧ RWs κ ρ H xs ws ∧ PoE κ xw ρ H σ (f n ws) Q ∧ ∀ ys us, RWs κ ρ H ys us → Le ρ H ρ (upd H l (.lst ys)) ∧ SR κ ρ (μ.set n (.lst us)) (upd H l (.lst ys)) := by
  unfold onL at p
  split at p
  · split at p
    · rename_i n' ws hm
      obtain ⟨a, fl, hl, rfl⟩ := r
      have hl' := s.live hl hm rfl
      obtain ⟨⟨xs, hx, q⟩, _⟩ := s.ob _ a _ _ hl hm
      exact ⟨_, a, xs, ws, rfl, hx, q, p, fun ys us qq => ⟨Le.put hl', s.put hl' rfl ⟨ys, upd_same, RWs.mono (Le.put hl') _ _ qq⟩⟩⟩
    · exact p.elim
  · exact p.elim
def oAppend : OpM := fun w ws μ => onL w μ fun n xs => match ws with
  | [y] => if xs.length < cap then .ok (.imm .non) (μ.set n (.lst (xs ++ [y]))) else .bad
  | _ => .bad
theorem sm_append : SM κ rAppend oAppend := fun xw ρ μ H σ x w vs ws Q s r rs p => by
  obtain ⟨n, l, xs, us, rfl, hx, q, p, k⟩ := onL_ok s r p
  split at p
  · split at p
    · rename_i hc
      obtain ⟨y, rfl, ry⟩ := rws1 rs
      obtain ⟨le, s2⟩ := k _ _ (q.app (RWs.cons ry RWs.nil))
      exact ⟨l, xs, y, rfl, rfl, hx, by rw [q.length]; exact cap_lt hc, p ρ _ _ le s2 rfl⟩
    · exact p.elim
  · exact p.elim
def oExtend : OpM := fun w ws μ => onL w μ fun n xs => match ws with
  | [y] => match litems μ y with
    | some zs => if xs.length + zs.length ≤ cap then .ok (.imm .non) (μ.set n (.lst (xs ++ zs))) else .bad
    | none => .bad
  | _ => .bad
theorem sm_extend : SM κ rExtend oExtend := fun xw ρ μ H σ x w vs ws Q s r rs p => by
  obtain ⟨n, l, xs, us, rfl, hx, q, p, k⟩ := onL_ok s r p
  split at p
  · split at p
    · rename_i zs hz
      split at p
      · rename_i hc
        obtain ⟨y, rfl, ry⟩ := rws1 rs
        obtain ⟨a, ys, rfl, hy, qy⟩ := litems_ok hz s ry
        obtain ⟨le, s2⟩ := k _ _ (q.app qy)
        exact ⟨l, a, xs, ys, rfl, rfl, hx, hy, by rw [q.length, qy.length]; exact cap_line hc, p ρ _ _ le s2 rfl⟩
      · exact p.elim
    · exact p.elim
  · exact p.elim
def oPop : OpM := fun w ws μ => onL w μ fun n xs => match ws with
  | [] => match xs[xs.length - 1]? with
    | some y => .ok y (μ.set n (.lst xs.dropLast))
    | none => .bad
  | _ => .bad
theorem sm_pop : SM κ rPop oPop := fun xw ρ μ H σ x w vs ws Q s r rs p => by
  obtain ⟨n, l, xs, us, rfl, hx, q, p, k⟩ := onL_ok s r p
  split at p
  · split at p
    · rename_i y hy
      cases rs
      obtain ⟨v, hv, rv⟩ := q.get hy
      have hd : RWs κ ρ H xs.dropLast us.dropLast := by
        rw [List.dropLast_eq_take, List.dropLast_eq_take, q.length]
        exact q.take _
      obtain ⟨le, s2⟩ := k _ _ hd
      exact ⟨l, xs, v, rfl, rfl, hx, by rw [q.length]; exact hv, p ρ _ _ le s2 (rv.mono le)⟩
    · exact p.elim
  · exact p.elim
def oReverse : OpM := fun w ws μ => onL w μ fun n xs => match ws with
  | [] => .ok (.imm .non) (μ.set n (.lst xs.reverse))
  | _ => .bad
theorem sm_reverse : SM κ rReverse oReverse := fun xw ρ μ H σ x w vs ws Q s r rs p => by
  obtain ⟨n, l, xs, us, rfl, hx, q, p, k⟩ := onL_ok s r p
  split at p
  · cases rs
    obtain ⟨le, s2⟩ := k _ _ q.rev
    exact ⟨l, xs, rfl, rfl, hx, p ρ _ _ le s2 rfl⟩
  · exact p.elim
def oClear : OpM := fun w ws μ => onL w μ fun n xs => match ws with
  | [] => .ok (.imm .non) (μ.set n (.lst []))
  | _ => .bad
theorem sm_clear : SM κ rClear oClear := fun xw ρ μ H σ x w vs ws Q s r rs p => by
  obtain ⟨n, l, xs, us, rfl, hx, q, p, k⟩ := onL_ok s r p
  split at p
  · cases rs
    obtain ⟨le, s2⟩ := k _ _ RWs.nil
    exact ⟨l, xs, rfl, rfl, hx, p ρ _ _ le s2 rfl⟩
  · exact p.elim
def oInsert : OpM := fun w ws μ => onL w μ fun n xs => match ws with
  | [.imm (.int i), y] => if xs.length < cap ∧ 0 ≤ i ∧ i < 2 ^ 63 then .ok (.imm .non) (μ.set n (.lst (xs.take i.toNat ++ [y] ++ xs.drop i.toNat))) else .bad
  | _ => .bad
theorem sm_insert : SM κ (fun x vs H Q => ∃ (l : Addr) (xs : List V) (i : Int) (y : V), x = .ref l ∧ vs = [.int i, y] ∧ H l = some (.lst xs) ∧ xs.length < sizeLine ∧ 0 ≤ i ∧ i < 2 ^ 63 ∧ Q .non (upd H l (.lst (xs.take i.toNat ++ [y] ++ xs.drop i.toNat)))) oInsert := fun xw ρ μ H σ x w vs ws Q s r rs p => by
  obtain ⟨n, l, xs, us, rfl, hx, q, p, k⟩ := onL_ok s r p
  split at p
  · split at p
    · rename_i hc
      obtain ⟨x', y, rfl, rx, ry⟩ := rws2 rs
      cases rx
      obtain ⟨le, s2⟩ := k _ _ (((q.take _).app (RWs.cons ry RWs.nil)).app (q.drop _))
      exact ⟨l, xs, _, y, rfl, rfl, hx, by rw [q.length]; exact cap_lt hc.1, hc.2.1, hc.2.2, p ρ _ _ le s2 rfl⟩
    · exact p.elim
  · exact p.elim
def oDClear : OpM := fun w ws μ => match w, ws with
  | .loc n, [] => match μ[n]? with
    | some (.dct _) => .ok (.imm .non) (μ.set n (.dct []))
    | _ => .bad
  | _, _ => .bad
theorem sm_dclear : SM κ rDClear oDClear := fun xw ρ μ H σ x w vs ws Q s r rs p => by
  unfold oDClear at p
  split at p
  · split at p
    · rename_i n' kvs hm
      cases rs
      obtain ⟨a, f, hl, rfl⟩ := r
      have hl' := s.live hl hm rfl
      obtain ⟨⟨ys, hy, _⟩, _⟩ := s.ob _ a _ _ hl hm
      exact ⟨a, ys, rfl, rfl, hy, p ρ _ _ (Le.put hl') (s.put hl' rfl ⟨[], upd_same, rfl⟩) rfl⟩
    · exact p.elim
  · exact p.elim
/-- d.get(k, x) -/
def mDGet2 (mo mk mx : Me) : Me := fun E μ => (mo E μ).bind fun w μ1 => match ditems μ1 w with
  | some _ => (mk E μ1).bind fun k μ2 => (mx E μ2).bind fun x μ3 => match ditems μ3 w, keyD k with
    | some kvs, some kk => .ok ((valG kvs kk).getD x) μ3
    | _, _ => .bad
  | none => .bad
theorem se_dget2 (ho : SE κ xw te m) (hk : SE κ xw tb mb) (hx : SE κ xw tc mc) : SE κ xw (tDGet2 te tb tc) (mDGet2 m mb mc) := fun ρ μ H σ E Q s e p =>
  ho.bind s e p fun w μ1 ρ1 H1 v l1 s1 e1 r1 p1 => by
    split at p1
    · rename_i kvs0 hd0
      obtain ⟨a, ys0, rfl, ha0, _⟩ := ditems_ok hd0 s1 r1
      refine ⟨a, rfl, .inl ⟨ys0, ha0⟩, hk.bind s1 e1 p1 fun k μ2 ρ2 H2 vk l2 s2 e2 r2 p2 => hx.bind s2 e2 p2 fun x μ3 ρ3 H3 vx l3 s3 e3 r3 p3 => ?_⟩
      split at p3
      · rename_i kvs kk hd hkk
        obtain ⟨a', ys, ea, ha, q⟩ := ditems_ok hd s3 ((r1.mono l2).mono l3)
        cases ea
        refine ⟨valV ys kk, .inl ⟨ys, kk, ha, keyD_ok hkk (r2.mono l3), rfl⟩, p3 ρ3 H3 _ Le.refl s3 ?_⟩
        have hv := valG_ok (k := kk) q
        cases hg : valG kvs kk with
        | none => rw [hg] at hv; rw [hv]; exact r3
        | some w' =>
          rw [hg] at hv
          obtain ⟨v', h1, h2⟩ := hv
          rw [h1]
          exact h2
      · exact p3.elim
    · exact p1.elim
/-- d.pop(k) -/
def mDPop (mo mk : Me) : Me := fun E μ => (mo E μ).bind fun w μ1 => match ditems μ1 w with
  | some _ => (mk E μ1).bind fun k μ2 => match w with
    | .loc n => match μ2[n]? with
      | some (.dct kvs) => match keyD k with
        | some kk => match valG kvs kk with
          | some x => .ok x (μ2.set n (.dct (dropG kvs kk)))
          | none => .bad
        | none => .bad
      | _ => .bad
    | _ => .bad
  | none => .bad
theorem se_dpop (ho : SE κ xw te m) (hk : SE κ xw tb mb) : SE κ xw (tDPop1 te tb) (mDPop m mb) := fun ρ μ H σ E Q s e p =>
  ho.bind s e p fun w μ1 ρ1 H1 v l1 s1 e1 r1 p1 => by
    split at p1
    · rename_i kvs0 hd0
      obtain ⟨a, ys0, rfl, ha0, _⟩ := ditems_ok hd0 s1 r1
      refine ⟨a, rfl, .inl ⟨ys0, ha0⟩, hk.bind s1 e1 p1 fun k μ2 ρ2 H2 vk l2 s2 e2 r2 p2 => ?_⟩
      split at p2
      · split at p2
        · rename_i hm
          split at p2
          · rename_i kk hkk
            split at p2
            · rename_i x hx
              obtain ⟨a', f, hl, ea⟩ := r1.mono l2
              cases ea
              have hl' := s2.live hl hm rfl
              obtain ⟨⟨ys, hy, q⟩, _⟩ := s2.ob _ a _ _ hl hm
              have hv := valG_ok (k := kk) q
              rw [hx] at hv
              obtain ⟨vx, h1, h2⟩ := hv
              exact ⟨ys, kk, vx, hy, keyD_ok hkk r2, h1, p2 ρ2 _ _ (Le.put hl') (s2.put hl' rfl ⟨_, upd_same, RWk.mono (Le.put hl') _ _ (dropG_ok q)⟩) (h2.mono (Le.put hl'))⟩
            · exact p2.elim
          · exact p2.elim
        · exact p2.elim
      · exact p2.elim
    · exact p1.elim
end
end Gx

namespace Gx
open PySem PySem.Spec PyProof.Rows L2

/-! ### defs -/
abbrev Fg := List W → Store → Rs W
/-- a def's body as a map of values: the slots beyond the parameters are empty -/
def runBody (nl : Nat) (m : Ms) (ws : List W) (μ : Store) : Rs W := match m (ws.map some ++ List.replicate (nl - ws.length) none) μ with
  | .nx _ μ' => .ok (.imm .non) μ'
  | .rt w μ' => .ok w μ'
  | _ => .bad
/-- what a def promises -/
def PoC (κ : Kap) (ρ : Lo) (H : Hp) (r : Rs W) (Q : VK) : Prop := match r with
  | .ok w μ' => ∀ ρ' H' v, Le ρ H ρ' H' → SR κ ρ' μ' H' → RW κ ρ' H' v w → Q v H'
  | _ => False
def spG (κ : Kap) (n : Nat) (G : Fg) : Sp := fun vs H Q _ => ∃ ρ μ ws, SR κ ρ μ H ∧ RWs κ ρ H vs ws ∧ ws.length = n ∧ PoC κ ρ H (G ws μ) Q
section
variable {κ : Kap} {xw : XW} {ρ ρ1 ρ2 ρ' : Lo} {H H1 H2 H' : Hp} {σ : L2.St} {E : Env} {μ μ1 μ2 μ' : Store} {te tb tc tx : TE} {tt tu : TT} {ta : TA} {m mb mc mx : Me} {n n' : Mt} {ma : Ma} {t u : TS} {a b : Ms}
theorem re_start {N : List Str} {vs : List V} {ws : List W} (q : RWs κ ρ H vs ws) : RE κ ρ H (L2.start N vs) (ws.map some ++ List.replicate (N.length - ws.length) none) where
  len := by
    unfold L2.start
    simp [q.length]
  at_ := fun i w h => by
    unfold L2.start
    by_cases hi : i < ws.length
    · rw [List.getElem?_append_left (by simpa using hi), List.getElem?_map] at h
      rw [List.getElem?_append_left (by simpa [q.length] using hi), List.getElem?_map]
      cases hw : ws[i]? with
      | none => rw [hw] at h; cases h
      | some w' =>
        rw [hw] at h
        cases h
        obtain ⟨v, hv, r⟩ := q.get hw
        exact ⟨v, by rw [hv]; rfl, r⟩
    · rw [List.getElem?_append_right (by simpa using Nat.le_of_not_lt hi), List.getElem?_replicate] at h
      split at h <;> cases h
theorem spG_len {N : Nat} {G : Fg} {vs : List V} {H : Hp} {Q : VK} {X : XK} (h : spG κ N G vs H Q X) : vs.length = N := by
  obtain ⟨ρ, μ, ws, _, q, e, _⟩ := h
  rw [q.length, e]
/-- THE RULE for a def, by a term of rules and the program it stands for -/
theorem fn_ok {P : Program} {w : World} {mg : Str → Option Value} {base : Heap} {x qual : Str} {st : Stmt} {f : Addr} {fd : FuncData} {N ps : List Str} {k : Nat} {m : Ms} (F : Fun κ.K x qual st f fd) (S : FnScope N ps (defScope st))
    (hbody : ∀ (cdv : Value) (A : Around) (outer : List PySem.Env) (s : Shared) (H : Hp) (E : XK), Room k (A.deeper (envOfC qual (defScope st) s.heap.objs.size f cdv)) →
      ∃ t, PSs (cxOf CX0 P w κ.K mg base N qual (defScope st) f cdv A outer s H E).nox (defBody st) t ∧ SS κ xN t m) : FnOk P w κ.K mg base CX0 (k + 1) f fd ps (spG κ ps.length (runBody N.length m)) := by
  refine F.ok S (fun vs H Q E h => spG_len h) fun cdv A outer s H vs Q E hr h => ?_
  obtain ⟨t, hp, hs⟩ := hbody cdv A outer s H E hr
  refine ⟨t, hp, ?_⟩
  obtain ⟨ρ, μ, ws, sr, q, hl, p⟩ := h
  refine hs ρ μ H _ _ _ sr (re_start (N := N) q) ?_
  unfold PoC runBody at p
  cases hm : m (ws.map some ++ List.replicate (N.length - ws.length) none) μ with
  | nx E1 μ1 => rw [hm] at p; exact fun ρ' H' σ' l s' e' => p ρ' H' _ l s' rfl
  | rt w' μ1 => rw [hm] at p; exact p
  | bk E1 μ1 => rw [hm] at p; exact p.elim
  | ct E1 μ1 => rw [hm] at p; exact p.elim
  | ex c E1 μ1 => rw [hm] at p; exact p.elim
  | bad => rw [hm] at p; exact p.elim
/-! ### calls -/
def Rs.fin {α : Type} : Rs α → Rs α
  | .ex _ _ => .bad
  | r => r
theorem PoC.of {Q : VK} {r : Rs W} (p : PoE κ xw ρ H σ r.fin Q) : PoC κ ρ H r Q := by
  cases r with
  | ok w μ' => exact p
  | ex c μ' => exact p.elim
  | bad => exact p.elim
def mCall (k : Nat) (G : Fg) (ma : Ma) : Me := fun E μ => (ma E μ).bind fun ws μ1 => if ws.length = k then (G ws μ1).fin else .bad
theorem se_call {k : Nat} {G : Fg} {X : XK} (ha : SA κ xw ta ma) : SE κ xw (tCall (spG κ k G) [] X ta) (mCall k G ma) := fun ρ μ H σ E Q s e p =>
  ha.bind s e p fun ws μ1 ρ1 H1 vs l s1 e1 rs p1 => by
    split at p1
    · rename_i hl
      rw [List.append_nil]
      exact ⟨ρ1, μ1, ws, s1, rs, hl, PoC.of p1⟩
    · exact p1.elim
def mMeth (c k : Nat) (G : Fg) (mo : Me) (ma : Ma) : Me := fun E μ => (mo E μ).bind fun w μ1 => match oitems μ1 w with
  | some (c', _) => if c' = c then (ma E μ1).bind fun ws μ2 => if ws.length + 1 = k then (G (w :: ws) μ2).fin else .bad else .bad
  | none => .bad
theorem zip_lookup_none {f : Str} : ∀ {ns : List Str} {xs : List V}, f ∉ ns → (ns.zip xs).lookup f = none
  | [], xs, _ => by simp
  | n :: ns, [], _ => by simp
  | n :: ns, x :: xs, h => by
    rw [List.zip_cons_cons, List.lookup_cons]
    have h1 : f ≠ n := fun e => h (by simp [e])
    have h2 : f ∉ ns := fun e => h (by simp [e])
    rw [beq_eq_false_iff_ne.mpr h1]
    exact zip_lookup_none h2
theorem se_meth {c k : Nat} {f : Str} {G : Fg} {X : XK} (hf : f ∉ nm c) (ho : SE κ xw te m) (ha : SA κ xw ta ma) : SE κ xw (tMeth (κ c) f (spG κ k G) [] X te ta) (mMeth c k G m ma) := fun ρ μ H σ E Q s e p =>
  ho.bind s e p fun w μ1 ρ1 H1 v l s1 e1 rv p1 => by
    split at p1
    · rename_i c' ws' hw
      split at p1
      · rename_i hc
        subst hc
        obtain ⟨a, dx, xs, rfl, hx, hl, q⟩ := oitems_ok hw s1 rv
        refine ⟨a, dx, _, rfl, hx, zip_lookup_none hf, ha.bind s1 e1 p1 fun ws μ2 ρ2 H2 vs l2 s2 e2 rs p2 => ?_⟩
        split at p2
        · rename_i hl
          rw [List.append_nil]
          exact ⟨ρ2, μ2, w :: ws, s2, RWs.cons (rv.mono l2) rs, hl, PoC.of p2⟩
        · exact p2.elim
      · exact p1.elim
    · exact p1.elim
def mMake (c k : Nat) (G : Fg) (ma : Ma) : Me := fun E μ => (ma E μ).bind fun ws μ1 => if ws.length + 1 = k then (match G (.loc μ1.length :: ws) (μ1 ++ [.ins c []]) with
  | .ok (.imm .non) μ2 => .ok (.loc μ1.length) μ2
  | _ => .bad) else .bad
theorem se_make {c k : Nat} {G : Fg} {X : XK} (ha : SA κ xw ta ma) : SE κ xw (tMake (κ c) (spG κ k G) [] X ta) (mMake c k G ma) := fun ρ μ H σ E Q s e p =>
  ha.bind s e p fun ws μ1 ρ1 H1 vs l s1 e1 rs p1 => by
    split at p1
    · rename_i hl
      intro x dx hx hdx hne
      rw [List.append_nil]
      have hx' : upd H1 dx (.own x) x = none := by rw [upd_ne (Ne.symm hne)]; exact hx
      have l1 : Le ρ1 H1 ρ1 (upd H1 dx (.own x)) := Le.new hdx
      have l2 : Le ρ1 (upd H1 dx (.own x)) (ρ1 ++ [(x, false)]) (upd (upd H1 dx (.own x)) x (.ins (κ c) dx [])) := Le.lay hx'
      have s2 : SR κ (ρ1 ++ [(x, false)]) (μ1 ++ [.ins c []]) (upd (upd H1 dx (.own x)) x (.ins (κ c) dx [])) :=
        (s1.new hdx).lay (mo := .ins c []) hx' ⟨dx, [], by rw [upd_same]; simp, by simp, rfl⟩
      have ll := l1.trans l2
      refine ⟨_, _, .loc μ1.length :: ws, s2, RWs.cons ⟨x, false, loc_new s1, rfl⟩ (RWs.mono ll _ _ rs), hl, ?_⟩
      cases hG : G (.loc μ1.length :: ws) (μ1 ++ [.ins c []]) with
      | bad => rw [hG] at p1; exact p1.elim
      | ex c' μ2 => rw [hG] at p1; exact p1.elim
      | ok w μ2 =>
        rw [hG] at p1
        cases w with
        | imm d =>
          cases d with
          | non =>
            intro ρ' H' v l' s' r'
            cases r'
            obtain ⟨f', h', _⟩ := l'.pre _ _ _ (loc_new (p := x) (f := false) s1)
            exact ⟨rfl, p1 ρ' H' (.ref x) (ll.trans l') s' ⟨x, f', h', rfl⟩⟩
          | _ => exact p1.elim
        | _ => exact p1.elim
    · exact p1.elim
end
end Gx

namespace Gx
open PySem PySem.Spec PyProof.Rows L2

/-! ### the rules of the hand layer and what they compute, side by side -/
structure Cc (κ : Kap) (X : Cx) : Prop where
  K : X.K = κ.K
  hu : X.A.units + 64 < cLine
  calm : X.calm = true
  ps : PassesOwn (model X.prog X.w) X.A X.env X.xe
  nd : X.N.Nodup
structure BE (κ : Kap) (xw : XW) (X : Cx) (e : Expr) (t : TE) (m : Me) : Prop where
  p : PE X e t
  s : SE κ xw t m
structure BT (κ : Kap) (xw : XW) (X : Cx) (e : Expr) (t : TT) (m : Mt) : Prop where
  p : PT X e t
  s : ST κ xw t m
structure BW (κ : Kap) (xw : XW) (X : Cx) (e : Expr) (t : TT) (m : Mt) : Prop where
  p : PW X e t
  s : ST κ xw t m
structure BTs (κ : Kap) (xw : XW) (X : Cx) (e : List Expr) (t : TT) (m : Mt) : Prop where
  p : PTs X e t
  s : ST κ xw t m
structure BA (κ : Kap) (xw : XW) (X : Cx) (e : List Expr) (t : TA) (m : Ma) : Prop where
  p : PA X e t
  s : SA κ xw t m
structure BO (κ : Kap) (xw : XW) (X : Cx) (e : Option Expr) (t : TO) (m : Mo) : Prop where
  p : PO X e t
  s : SOo κ xw t m
structure BI (κ : Kap) (xw : XW) (X : Cx) (tg e : Expr) (t : TI) (m : Mi) : Prop where
  p : PI X tg e t
  s : SI κ xw t m
structure BG (κ : Kap) (X : Cx) (e : Expr) (g : TG) (mg : Mg) (ts : List Nat) : Prop where
  p : PG X e g
  s : SG κ g mg ts
structure BGs (κ : Kap) (X : Cx) (e : List Expr) (g : TGs) (mg : Mgs) (ts : List Nat) : Prop where
  p : PGs X e g
  s : SGs κ g mg ts
structure BS (κ : Kap) (xw : XW) (X : Cx) (e : Stmt) (t : TS) (m : Ms) : Prop where
  p : PS X e t
  s : SS κ xw t m
structure BSs (κ : Kap) (xw : XW) (X : Cx) (e : List Stmt) (t : TS) (m : Ms) : Prop where
  p : PSs X e t
  s : SS κ xw t m
section
variable {κ : Kap} {xw : XW} {X : Cx} {e o f : Expr} {es : List Expr} {te tb tc : TE} {m mb mc : Me} {tt tu : TT} {n n' : Mt} {ta : TA} {ma : Ma} {pos apos : Pos}
theorem pCast {α : Sort _} {p : PySem.W.Frag → α} {Pr : α → Prop} (c : Cc κ X) (h : Pr (p X.K)) : Pr (p κ.K) := by rw [← c.K]; exact h
/-! names, constants -/
theorem be_var (i : Nat) {x : Str} (hN : X.N[i]? = some x := by rfl) (hv : Vis X.env.scope x := by first | exact Or.inl rfl | exact Or.inr (Or.inl rfl) | exact Or.inr (Or.inr rfl)) (hd : (x == ("__debug__" : Str)) = false := by decide)
    (hcd : (x == ("__classdict__" : Str)) = false := by decide) : BE κ xw X (.Name x pos) (tVar i) (mVar i) := ⟨pe_var hN hv hd hcd, se_var i⟩
theorem be_int {i j} : BE κ xw X (.Constant (.int i) j pos) (tC (.int i)) (mC (.int i)) := ⟨pe_int, se_int i⟩
theorem be_str {i j} : BE κ xw X (.Constant (.str i) j pos) (tC (.str i)) (mC (.str i)) := ⟨pe_str, se_str i⟩
theorem be_non {j} : BE κ xw X (.Constant .none j pos) (tC .non) (mC .non) := ⟨pe_non, se_non⟩
theorem be_bl {b : Bool} {j} : BE κ xw X (.Constant (.bool b) j pos) (tC (.bl b)) (mC (.bl b)) := ⟨pe_bl, se_bl b⟩
theorem be_glob {x : Str} {v : V} {d : D} (hg : Gl X x) (hm : ∃ u, X.mg x = some u ∧ RelV v u) (hd : ∀ κ H, RD κ H v d) (hdb : (x == ("__debug__" : Str)) = false := by decide) : BE κ xw X (.Name x pos) (tC v) (mC d) := by
  obtain ⟨u, h1, h2⟩ := hm
  exact ⟨pe_glob hg h1 h2 hdb, se_c hd⟩
/-! operations -/
theorem be_op {op : Operator} {r : R2} {g : Op2} (ho : OpR X (binaryOp op) r) (hs : SR2 κ r g) (ha : BE κ xw X e te m) (hb : BE κ xw X f tb mb) : BE κ xw X (.BinOp e op f pos) (tOp r te tb) (mOp g m mb) := ⟨pe_op ho ha.p hb.p, se_op hs ha.s hb.s⟩
theorem be_add (fz : Bool) (c : Cc κ X) (ha : BE κ xw X e te m) (hb : BE κ xw X f tb mb) : BE κ xw X (.BinOp e .Add f pos) (tOp (rAddX κ.K) te tb) (mOp (oAdd fz) m mb) := be_op (by rw [← c.K]; exact op_addX) (sr_add fz) ha hb
theorem be_sub (ha : BE κ xw X e te m) (hb : BE κ xw X f tb mb) : BE κ xw X (.BinOp e .Sub f pos) (tOp (rI0 fun i j => .int (i - j)) te tb) (mOp oSub m mb) := be_op op_sub sr_sub ha hb
theorem be_mul (ha : BE κ xw X e te m) (hb : BE κ xw X f tb mb) : BE κ xw X (.BinOp e .Mult f pos) (tOp (rI CMul fun i j => .int (i * j)) te tb) (mOp oMul m mb) := be_op op_mul sr_mul ha hb
theorem be_div (ha : BE κ xw X e te m) (hb : BE κ xw X f tb mb) : BE κ xw X (.BinOp e .FloorDiv f pos) (tOp (rI CDivN fun i j => .int (i.fdiv j)) te tb) (mOp oDiv m mb) := be_op op_fdivN sr_div ha hb
theorem be_mod (ha : BE κ xw X e te m) (hb : BE κ xw X f tb mb) : BE κ xw X (.BinOp e .Mod f pos) (tOp (rI (fun _ j => j ≠ 0) fun i j => .int (i.fmod j)) te tb) (mOp oMod m mb) := be_op op_modN sr_mod ha hb
theorem be_pow (ha : BE κ xw X e te m) (hb : BE κ xw X f tb mb) : BE κ xw X (.BinOp e .Pow f pos) (tOp (rI CPow fun i j => .int (i ^ j.toNat)) te tb) (mOp oPow m mb) := be_op op_pow sr_pow ha hb
theorem be_neg (ha : BE κ xw X e te m) : BE κ xw X (.UnaryOp .USub e pos) (tUn (rU fun i => .int (-i)) te) (mUn oNeg m) := ⟨pe_un un_neg ha.p, se_neg ha.s⟩
theorem be_not (ha : BT κ xw X e tt n) : BT κ xw X (.UnaryOp .Not e pos) (tNot tt) (mNot n) := ⟨pt_not ha.p, st_not ha.s⟩
/-! comparisons: as a value, as a test -/
structure CR2 (κ : Kap) (X : Cx) (op : CmpOp) (r : R2) (g : Op2) : Prop where
  p : OpR X (compareOp op) r
  s : SR2 κ r g
  h1 : op ≠ .In
  h2 : op ≠ .NotIn
theorem c_lt : CR2 κ X .Lt (rI0 fun i j => .bl (decide (i < j))) oLt := ⟨op_lt, sr_lt, by decide, by decide⟩
theorem c_le : CR2 κ X .LtE (rI0 fun i j => .bl (decide (i ≤ j))) oLe := ⟨op_le, sr_le, by decide, by decide⟩
theorem c_gt : CR2 κ X .Gt (rI0 fun i j => .bl (decide (j < i))) oGt := ⟨op_gt, sr_gt, by decide, by decide⟩
theorem c_ge : CR2 κ X .GtE (rI0 fun i j => .bl (decide (j ≤ i))) oGe := ⟨op_ge, sr_ge, by decide, by decide⟩
theorem c_eq (c : Cc κ X) : CR2 κ X .Eq (rEqP κ.K) oEq := ⟨by rw [← c.K]; exact op_eqP c.hu, sr_eq, by decide, by decide⟩
theorem c_ne (c : Cc κ X) : CR2 κ X .NotEq (rNeP κ.K) oNe := ⟨by rw [← c.K]; exact op_neP c.hu, sr_ne, by decide, by decide⟩
theorem be_cmp {op : CmpOp} {r : R2} {g : Op2} (h : CR2 κ X op r g) (ha : BE κ xw X e te m) (hb : BE κ xw X f tb mb) : BE κ xw X (.Compare e [op] [f] pos) (tOp r te tb) (mOp g m mb) := ⟨pe_cmpR h.p ha.p hb.p (nomark _ h.h1 h.h2), se_op h.s ha.s hb.s⟩
theorem bt_cmp {op : CmpOp} {r : R2} {g : Op2} (h : CR2 κ X op r g) (ha : BE κ xw X e te m) (hb : BE κ xw X f tb mb) : BT κ xw X (.Compare e [op] [f] pos) (tTest (tOp r te tb)) (mB (mOp g m mb)) := ⟨pt_cmpR h.p ha.p hb.p (nomark _ h.h1 h.h2), st_test (se_op h.s ha.s hb.s)⟩
theorem be_chain {op op' : CmpOp} {r r' : R2} {g g' : Op2} {a b d : Expr} (h : CR2 κ X op r g) (h' : CR2 κ X op' r' g') (ha : BE κ xw X a te m) (hb : BE κ xw X b tb mb) (hc : BE κ xw X d tc mc) (hm : lastMarks [op, op'] [b, d] = false := by with_unfolding_all rfl) :
    BE κ xw X (.Compare a [op, op'] [b, d] pos) (tChain r r' te tb tc) (mChain g g' m mb mc) := ⟨pe_chain h.p h'.p ha.p hb.p hc.p hm, se_chain h.s h'.s ha.s hb.s hc.s⟩
theorem be_isN {j pos'} (ha : BE κ xw X e te m) : BE κ xw X (.Compare e [.Is] [.Constant .none j pos'] pos) (tIsN te) (mIsN m) := ⟨pe_cmp (pc_isN ha.p), se_isN ha.s⟩
theorem be_notN {j pos'} (ha : BE κ xw X e te m) : BE κ xw X (.Compare e [.IsNot] [.Constant .none j pos'] pos) (tNotN te) (mNotN m) := ⟨pe_cmp (pc_notN ha.p), se_notN ha.s⟩
theorem bt_isN {j pos'} (ha : BE κ xw X e te m) : BT κ xw X (.Compare e [.Is] [.Constant .none j pos'] pos) (tB (tIsN te)) (mB (mIsN m)) := ⟨pt_cmp (pc_isN ha.p), st_B (se_isN ha.s)⟩
theorem bt_notN {j pos'} (ha : BE κ xw X e te m) : BT κ xw X (.Compare e [.IsNot] [.Constant .none j pos'] pos) (tB (tNotN te)) (mB (mNotN m)) := ⟨pt_cmp (pc_notN ha.p), st_B (se_notN ha.s)⟩
theorem be_in (c : Cc κ X) (ha : BE κ xw X e te m) (hb : BE κ xw X f tb mb) (hm : behindInMarks .In f = false := by with_unfolding_all rfl) : BE κ xw X (.Compare e [.In] [f] pos) (tInX κ.K te tb) (mOp oIn m mb) := ⟨pe_cmp (by rw [← c.K]; exact pc_inX c.hu ha.p hb.p) hm, se_in ha.s hb.s⟩
theorem bt_in (c : Cc κ X) (ha : BE κ xw X e te m) (hb : BE κ xw X f tb mb) (hm : behindInMarks .In f = false := by with_unfolding_all rfl) : BT κ xw X (.Compare e [.In] [f] pos) (tB (tInX κ.K te tb)) (mB (mOp oIn m mb)) := ⟨pt_cmp (by rw [← c.K]; exact pc_inX c.hu ha.p hb.p) hm, st_B (se_in ha.s hb.s)⟩
theorem be_notIn (c : Cc κ X) (ha : BE κ xw X e te m) (hb : BE κ xw X f tb mb) (hm : behindInMarks .NotIn f = false := by with_unfolding_all rfl) : BE κ xw X (.Compare e [.NotIn] [f] pos) (tNotInX κ.K te tb) (mOp oNotIn m mb) := ⟨pe_cmp (by rw [← c.K]; exact pc_notInX c.hu ha.p hb.p) hm, se_notIn ha.s hb.s⟩
theorem bt_notIn (c : Cc κ X) (ha : BE κ xw X e te m) (hb : BE κ xw X f tb mb) (hm : behindInMarks .NotIn f = false := by with_unfolding_all rfl) : BT κ xw X (.Compare e [.NotIn] [f] pos) (tB (tNotInX κ.K te tb)) (mB (mOp oNotIn m mb)) := ⟨pt_cmp (by rw [← c.K]; exact pc_notInX c.hu ha.p hb.p) hm, st_B (se_notIn ha.s hb.s)⟩
/-! tests -/
theorem bt_chain {op op' : CmpOp} {r r' : R2} {g g' : Op2} {a b d : Expr} (h : CR2 κ X op r g) (h' : CR2 κ X op' r' g') (ha : BE κ xw X a te m) (hb : BE κ xw X b tb mb) (hc : BE κ xw X d tc mc) (hm : lastMarks [op, op'] [b, d] = false := by with_unfolding_all rfl) :
    BT κ xw X (.Compare a [op, op'] [b, d] pos) (tTest (tChain r r' te tb tc)) (mB (mChain g g' m mb mc)) := ⟨pt_chain h.p h'.p ha.p hb.p hc.p hm, st_test (se_chain h.s h'.s ha.s hb.s hc.s)⟩
theorem bt_tru (c : Cc κ X) (ha : BE κ xw X e te m) (he : ∀ whole, isTrue e X.env whole = (do let v ← whole; standAt e.pos; holding [v] (truthy v)) := by intro _; rfl) :
    BT κ xw X e (fun σ H Q => te σ H fun x H' => ∃ k, TruV κ.K x H' k ∧ Q k H') (mTru m) := ⟨by rw [← c.K]; exact pt_truth ha.p he, st_tru ha.s⟩
theorem bw_and1 (ha : BT κ xw X e tt n) : BW κ xw X (.BoolOp .And [e] pos) tt n := ⟨pw_and1 ha.p, ha.s⟩
theorem bw_or1 (ha : BT κ xw X e tt n) : BW κ xw X (.BoolOp .Or [e] pos) tt n := ⟨pw_or1 ha.p, ha.s⟩
theorem bw_and (ha : BT κ xw X e tt n) (hb : BW κ xw X (.BoolOp .And (f :: es) pos) tu n') : BW κ xw X (.BoolOp .And (e :: f :: es) pos) (tAnd tt tu) (mAnd n n') := ⟨pw_and ha.p hb.p, st_and ha.s hb.s⟩
theorem bw_or (ha : BT κ xw X e tt n) (hb : BW κ xw X (.BoolOp .Or (f :: es) pos) tu n') : BW κ xw X (.BoolOp .Or (e :: f :: es) pos) (tOr tt tu) (mOr n n') := ⟨pw_or ha.p hb.p, st_or ha.s hb.s⟩
theorem BW.t (h : BW κ xw X e tt n) : BT κ xw X e tt n := ⟨h.p.pt, h.s⟩
theorem be_one {op} (ha : BE κ xw X e te m) : BE κ xw X (.BoolOp op [e] pos) te m := ⟨pe_one ha.p, ha.s⟩
theorem be_and (ha : BE κ xw X e te m) (hb : BE κ xw X (.BoolOp .And (f :: es) pos) tb mb) : BE κ xw X (.BoolOp .And (e :: f :: es) pos) (tAndV te tb) (mAndV m mb) := ⟨pe_and ha.p hb.p, se_and ha.s hb.s⟩
theorem be_or (ha : BE κ xw X e te m) (hb : BE κ xw X (.BoolOp .Or (f :: es) pos) tb mb) : BE κ xw X (.BoolOp .Or (e :: f :: es) pos) (tOrV te tb) (mOrV m mb) := ⟨pe_or ha.p hb.p, se_or ha.s hb.s⟩
theorem be_notV (ha : BE κ xw X e te m) : BE κ xw X (.UnaryOp .Not e pos) (tNotV te) (mNotV m) := ⟨pe_not ha.p, se_not ha.s⟩
theorem be_if {c : Expr} (hc : BT κ xw X c tt n) (ha : BE κ xw X e te m) (hb : BE κ xw X f tb mb) : BE κ xw X (.IfExp c e f pos) (tIf tt te tb) (mIf n m mb) := ⟨pe_ifExp hc.p ha.p hb.p, se_if hc.s ha.s hb.s⟩
/-! arguments, tuples, lists, dicts -/
theorem ba_nil : BA κ xw X [] tNil mNil := ⟨pa_nil, sa_nil⟩
theorem ba_cons (ha : BE κ xw X e te m) (hr : BA κ xw X es ta ma) (hs : starEach (e :: es) X.env = (false, eval e X.env) :: starEach es X.env := by rfl) : BA κ xw X (e :: es) (tCons te ta) (mCons m ma) := ⟨pa_cons ha.p hr.p hs, sa_cons ha.s hr.s⟩
theorem be_tup {k} (h : BA κ xw X es ta ma) : BE κ xw X (.Tuple es k pos) (tTup ta) (mTup ma) := ⟨pe_tup h.p, se_tup h.s⟩
theorem be_lst (fz : Bool) (h : BA κ xw X es ta ma) : BE κ xw X (.List es pos) (tLst ta) (mLst fz ma) := ⟨pe_lst h.p, se_lst fz h.s⟩
theorem be_dnew : BE κ xw X (.Dict [] [] pos) tDNewK mDNew := ⟨pe_dnewK, se_dnew⟩
/-! subscripts, slices, fields -/
theorem be_ix (c : Cc κ X) (ha : BE κ xw X e te m) (hb : BE κ xw X f tb mb) (hs : PlainIx f := by intro _ _; rfl) (hn : NoSl f := by intro _ _; rfl) : BE κ xw X (.Subscript e f pos) (tIxX κ.K te tb) (mOp oIx m mb) := ⟨by rw [← c.K]; exact pe_ixX c.hu ha.p hb.p hs hn, se_ix ha.s hb.s⟩
theorem bo_none : BO κ xw X none tNoPart mNoP := ⟨po_none, so_none⟩
theorem bo_some (h : BE κ xw X e te m) : BO κ xw X (some e) (tPart te) (mPart m) := ⟨po_some h.p, so_some h.s⟩
theorem be_sl (fz : Bool) {lo hi : Option Expr} {p2} {tl th : TO} {ml mh : Mo} (c : Cc κ X) (ha : BE κ xw X e te m) (hl : BO κ xw X lo tl ml) (hh : BO κ xw X hi th mh) : BE κ xw X (.Subscript e (.Slice lo hi none p2) pos) (tSl (rSlX2 κ.K) te tl th) (mSl fz m ml mh) := ⟨by rw [← c.K]; exact pe_slice sl_X ha.p hl.p hh.p, se_sl fz ha.s hl.s hh.s⟩
theorem be_fld {k i : Nat} {fd : Str} (c : Cc κ X) (hO : OwnC κ k) (ha : BE κ xw X e te m) (hf : (nm k)[i]? = some fd := by rfl) (hb : attributeBase e fd X.env (eval e X.env) = eval e X.env := by rfl) : BE κ xw X (.Attribute e fd pos) (tFld κ.K te fd) (mFld k i m) := ⟨by rw [← c.K]; exact pe_fld ha.p hb, se_fld hO hf ha.s⟩
/-! calls -/
theorem be_cb {id : String} {x : Str} {p : Pos} {r : List V → Hp → VK → Prop} {g : OpA} (hc : CallR X (.builtin id) r) (hs : SC κ r g) (hm : X.mg x = none) (hv : bootBuiltins x = some (.builtin id)) (ha : BA κ xw X (e :: es) ta ma) (hg : Gl X x := by rfl) (hn : x ≠ "__name__" := by decide) (hdb : (x == ("__debug__" : Str)) = false := by decide)
    (he : starEach (e :: es) X.env = (false, eval e X.env) :: starEach es X.env := by rfl) (hpl : (backTo pos (starEach es X.env)).any (·.1) = false := by rfl) : BE κ xw X (.Call (.Name x p) (e :: es) [] pos) (tCB r ta) (mCB g ma) := ⟨pe_callB hc hg hm hv ha.p hn hdb he hpl, se_cb hs ha.s⟩
theorem be_ty {T : String} {x : Str} {p : Pos} {r : List V → Hp → VK → Prop} {g : OpA} (hc : CallR X (.type T) r) (hs : SC κ r g) (hm : X.mg x = none) (hv : bootBuiltins x = some (.type T)) (ha : BA κ xw X (e :: es) ta ma) (hg : Gl X x := by rfl) (hn : x ≠ "__name__" := by decide) (hdb : (x == ("__debug__" : Str)) = false := by decide)
    (he : starEach (e :: es) X.env = (false, eval e X.env) :: starEach es X.env := by rfl) (hpl : (backTo pos (starEach es X.env)).any (·.1) = false := by rfl) : BE κ xw X (.Call (.Name x p) (e :: es) [] pos) (tCB r ta) (mCB g ma) := ⟨pe_callTy hc hg hm hv ha.p hn hdb he hpl, se_cb hs ha.s⟩
/-- the type itself, as isinstance takes it -/
theorem be_tyN {x : Str} (k : Nat) (hm : X.mg x = none) (hv : bootBuiltins x = some (.type (tyN k))) (hg : Gl X x := by rfl) (hn : x ≠ "__name__" := by decide) (hd : (x == ("__debug__" : Str)) = false := by decide) : BE κ xw X (.Name x pos) (tC (.ty (tyN k))) (mC (.ty k)) := ⟨pe_bltn hg hm hv rfl hn hd, se_c fun _ _ => rfl⟩
theorem be_bm {k : Nat} {name : Str} {cpos : Pos} {id : String} {r : V → List V → Hp → VK → Prop} {g : OpM} (c : Cc κ X) (hk : k ≤ 5) (pa : PlainAttrs (tyN k)) (slot : Slot (tyN k) name id) (hty : typeOf (.builtin id) = pure (.type "method_descriptor")) (hm : MtR X id r) (hs : SM κ r g) (ho : BE κ xw X o te m) (ha : BA κ xw X (e :: es) ta ma)
    (hbase : attributeBase o name X.env (eval o X.env) = eval o X.env := by rfl)
    (hfew : ((backTo cpos (starEach (e :: es) X.env)).all (fun x => !x.1) && (backToKw cpos (keywordEach [] X.env)).all (fun x => x.1.isSome)
      && decide ((e :: es).length + ([] : List Keyword).length + (if ([] : List Keyword).isEmpty then 0 else 1) < 30)) = true := by rfl)
    (hline : (apos.endLine == cpos.line) = true := by rfl) (hst : starEach (e :: es) X.env = (false, eval e X.env) :: starEach es X.env := by rfl) (hplain : (backTo cpos (starEach es X.env)).any (·.1) = false := by rfl) :
    BE κ xw X (.Call (.Attribute o name apos) (e :: es) [] cpos) (tBM κ.K (tyN k) r te ta) (mBM k g m ma) := ⟨by rw [← c.K]; exact pe_bm pa slot hty hm ho.p ha.p hbase hfew hline hst hplain, se_bm hk hs ho.s ha.s⟩
theorem be_bm0 {k : Nat} {name : Str} {cpos : Pos} {id : String} {r : V → List V → Hp → VK → Prop} {g : OpM} (c : Cc κ X) (hk : k ≤ 5) (pa : PlainAttrs (tyN k)) (slot : Slot (tyN k) name id) (hty : typeOf (.builtin id) = pure (.type "method_descriptor")) (hm : MtR X id r) (hs : SM κ r g) (ho : BE κ xw X o te m)
    (hbase : attributeBase o name X.env (eval o X.env) = eval o X.env := by rfl) (hline : (apos.endLine == cpos.line) = true := by rfl) :
    BE κ xw X (.Call (.Attribute o name apos) [] [] cpos) (tBM0 κ.K (tyN k) r te) (mBM k g m mNil) := ⟨by rw [← c.K]; exact pe_bm0 pa slot hty hm ho.p hbase hline, se_bm0 hk hs ho.s⟩
theorem be_append {cpos : Pos} (c : Cc κ X) (ho : BE κ xw X o te m) (ha : BA κ xw X (e :: es) ta ma)
    (hbase : attributeBase o "append" X.env (eval o X.env) = eval o X.env := by rfl)
    (hfew : ((backTo cpos (starEach (e :: es) X.env)).all (fun x => !x.1) && (backToKw cpos (keywordEach [] X.env)).all (fun x => x.1.isSome)
      && decide ((e :: es).length + ([] : List Keyword).length + (if ([] : List Keyword).isEmpty then 0 else 1) < 30)) = true := by rfl)
    (hline : (apos.endLine == cpos.line) = true := by rfl) (hst : starEach (e :: es) X.env = (false, eval e X.env) :: starEach es X.env := by rfl) (hplain : (backTo cpos (starEach es X.env)).any (·.1) = false := by rfl) :
    BE κ xw X (.Call (.Attribute o "append" apos) (e :: es) [] cpos) (tBM κ.K (tyN 4) rAppend te ta) (mBM 4 oAppend m ma) := be_bm c (by decide) PySem.F.plainAttrs_list PySem.F.slot_list_append PySem.F.type_list_append mt_append sm_append ho ha hbase hfew hline hst hplain
theorem be_extend {cpos : Pos} (c : Cc κ X) (ho : BE κ xw X o te m) (ha : BA κ xw X (e :: es) ta ma)
    (hbase : attributeBase o "extend" X.env (eval o X.env) = eval o X.env := by rfl)
    (hfew : ((backTo cpos (starEach (e :: es) X.env)).all (fun x => !x.1) && (backToKw cpos (keywordEach [] X.env)).all (fun x => x.1.isSome)
      && decide ((e :: es).length + ([] : List Keyword).length + (if ([] : List Keyword).isEmpty then 0 else 1) < 30)) = true := by rfl)
    (hline : (apos.endLine == cpos.line) = true := by rfl) (hst : starEach (e :: es) X.env = (false, eval e X.env) :: starEach es X.env := by rfl) (hplain : (backTo cpos (starEach es X.env)).any (·.1) = false := by rfl) :
    BE κ xw X (.Call (.Attribute o "extend" apos) (e :: es) [] cpos) (tBM κ.K (tyN 4) rExtend te ta) (mBM 4 oExtend m ma) := be_bm c (by decide) PySem.F.plainAttrs_list PySem.F.slot_list_extend PySem.F.type_list_extend mt_extend sm_extend ho ha hbase hfew hline hst hplain
theorem be_insert {cpos : Pos} (c : Cc κ X) (ho : BE κ xw X o te m) (ha : BA κ xw X (e :: es) ta ma)
    (hbase : attributeBase o "insert" X.env (eval o X.env) = eval o X.env := by rfl)
    (hfew : ((backTo cpos (starEach (e :: es) X.env)).all (fun x => !x.1) && (backToKw cpos (keywordEach [] X.env)).all (fun x => x.1.isSome)
      && decide ((e :: es).length + ([] : List Keyword).length + (if ([] : List Keyword).isEmpty then 0 else 1) < 30)) = true := by rfl)
    (hline : (apos.endLine == cpos.line) = true := by rfl) (hst : starEach (e :: es) X.env = (false, eval e X.env) :: starEach es X.env := by rfl) (hplain : (backTo cpos (starEach es X.env)).any (·.1) = false := by rfl) :
    BE κ xw X (.Call (.Attribute o "insert" apos) (e :: es) [] cpos) (tBM κ.K (tyN 4) (fun x vs H Q => ∃ (l : Addr) (xs : List V) (i : Int) (y : V), x = .ref l ∧ vs = [.int i, y] ∧ H l = some (.lst xs) ∧ xs.length < sizeLine ∧ 0 ≤ i ∧ i < 2 ^ 63 ∧ Q .non (upd H l (.lst (xs.take i.toNat ++ [y] ++ xs.drop i.toNat)))) te ta) (mBM 4 oInsert m ma) := be_bm c (by decide) PySem.F.plainAttrs_list PySem.F.slot_list_insert PySem.F.type_list_insert mt_insert sm_insert ho ha hbase hfew hline hst hplain
theorem be_pop {cpos : Pos} (c : Cc κ X) (ho : BE κ xw X o te m) (hbase : attributeBase o "pop" X.env (eval o X.env) = eval o X.env := by rfl) (hline : (apos.endLine == cpos.line) = true := by rfl) :
    BE κ xw X (.Call (.Attribute o "pop" apos) [] [] cpos) (tBM0 κ.K (tyN 4) rPop te) (mBM 4 oPop m mNil) := be_bm0 c (by decide) PySem.F.plainAttrs_list PySem.F.slot_list_pop PySem.F.type_list_pop mt_pop sm_pop ho hbase hline
theorem be_reverse {cpos : Pos} (c : Cc κ X) (ho : BE κ xw X o te m) (hbase : attributeBase o "reverse" X.env (eval o X.env) = eval o X.env := by rfl) (hline : (apos.endLine == cpos.line) = true := by rfl) :
    BE κ xw X (.Call (.Attribute o "reverse" apos) [] [] cpos) (tBM0 κ.K (tyN 4) rReverse te) (mBM 4 oReverse m mNil) := be_bm0 c (by decide) PySem.F.plainAttrs_list PySem.F.slot_list_reverse PySem.F.type_list_reverse mt_reverse sm_reverse ho hbase hline
theorem be_clear {cpos : Pos} (c : Cc κ X) (ho : BE κ xw X o te m) (hbase : attributeBase o "clear" X.env (eval o X.env) = eval o X.env := by rfl) (hline : (apos.endLine == cpos.line) = true := by rfl) :
    BE κ xw X (.Call (.Attribute o "clear" apos) [] [] cpos) (tBM0 κ.K (tyN 4) rClear te) (mBM 4 oClear m mNil) := be_bm0 c (by decide) PySem.F.plainAttrs_list PySem.F.slot_list_clear PySem.F.type_list_clear mt_clear sm_clear ho hbase hline
theorem be_dclear {cpos : Pos} (c : Cc κ X) (ho : BE κ xw X o te m) (hbase : attributeBase o "clear" X.env (eval o X.env) = eval o X.env := by rfl) (hline : (apos.endLine == cpos.line) = true := by rfl) :
    BE κ xw X (.Call (.Attribute o "clear" apos) [] [] cpos) (tBM0 κ.K (tyN 5) rDClear te) (mBM 5 oDClear m mNil) := ⟨by rw [← c.K]; exact pe_dclear ho.p hbase hline, se_bm0 (by decide) sm_dclear ho.s⟩
theorem be_dget2 {a b : Expr} {cpos : Pos} (c : Cc κ X) (ho : BE κ xw X o te m) (ha : BE κ xw X a tb mb) (hb : BE κ xw X b tc mc) (hm : M2 X o "get" apos a b cpos := by exact ⟨rfl, rfl, rfl, rfl⟩) : BE κ xw X (.Call (.Attribute o "get" apos) [a, b] [] cpos) (tDGet2 te tb tc) (mDGet2 m mb mc) := ⟨pe_dget2 (by have := c.hu; omega) ho.p ha.p hb.p hm, se_dget2 ho.s ha.s hb.s⟩
theorem be_dpop {a : Expr} {cpos : Pos} (ho : BE κ xw X o te m) (ha : BE κ xw X a tb mb) (hm : M1 X o "pop" apos a cpos := by exact ⟨rfl, rfl, rfl, rfl⟩) : BE κ xw X (.Call (.Attribute o "pop" apos) [a] [] cpos) (tDPop1 te tb) (mDPop m mb) := ⟨pe_dpop1 ho.p ha.p hm, se_dpop ho.s ha.s⟩
/-- f(..), C(..), o.m(..) of the text's own -/
theorem be_call {x : Str} {p : Pos} {k : Nat} {g : Addr} {fd : FuncData} {ps : List Str} {G : Fg} (c : Cc κ X) (F : FnOk X.prog X.w κ.K X.mg X.base CX0 k g fd ps (spG κ ps.length G)) (hr : Room k X.A) (hm : X.mg x = some (.ref g)) (hk : PySem.W.keepIn κ.K (.ref g) = true) (hb : Binds κ.K fd ps []) (ha : BA κ xw X (e :: es) ta ma)
    (hg : Gl X x := by rfl) (hdb : (x == ("__debug__" : Str)) = false := by decide) (he : starEach (e :: es) X.env = (false, eval e X.env) :: starEach es X.env := by rfl) (hpl : (backTo pos (starEach es X.env)).any (·.1) = false := by rfl) :
    BE κ xw X (.Call (.Name x p) (e :: es) [] pos) (tCall (spG κ ps.length G) [] E0 ta) (mCall ps.length G ma) := by
  obtain ⟨K, h1, h2, h3, h4⟩ := c
  rw [← K] at F hk hb
  exact ⟨pe_call F hr hg hm hk hb .nil pass0 ha.p hdb he hpl, se_call ha.s⟩
theorem be_call0 {x : Str} {p : Pos} {k : Nat} {g : Addr} {fd : FuncData} {ps : List Str} {G : Fg} (c : Cc κ X) (F : FnOk X.prog X.w κ.K X.mg X.base CX0 k g fd ps (spG κ ps.length G)) (hr : Room k X.A) (hm : X.mg x = some (.ref g)) (hk : PySem.W.keepIn κ.K (.ref g) = true) (hb : Binds κ.K fd ps [])
    (hg : Gl X x := by rfl) (hdb : (x == ("__debug__" : Str)) = false := by decide) :
    BE κ xw X (.Call (.Name x p) [] [] pos) (tCall (spG κ ps.length G) [] E0 tNil) (mCall ps.length G mNil) := by
  obtain ⟨K, h1, h2, h3, h4⟩ := c
  rw [← K] at F hk hb
  exact ⟨pe_call0 F hr hg hm hk hb .nil pass0 hdb, se_call sa_nil⟩
theorem be_meth {q k : Nat} {y : Str} {cpos : Pos} {g : Addr} {fd : FuncData} {ps : List Str} {G : Fg} {pl : Sem Bool} (c : Cc κ X) (hO : OwnC κ q) (F : FnOk X.prog X.w κ.K X.mg X.base CX0 k g fd ps (spG κ ps.length G)) (hr : Room k X.A) (hM : Meth κ.K (κ q) y g) (hb : Binds κ.K fd ps []) (ho : BE κ xw X o te m) (ha : BA κ xw X (e :: es) ta ma) (hf : y ∉ nm q := by decide +kernel)
    (hst : starEach (e :: es) X.env = (false, eval e X.env) :: starEach es X.env := by rfl) (hpl : (backTo cpos (starEach es X.env)).any (·.1) = false := by rfl)
    (ht : eval (.Call (.Attribute o y apos) (e :: es) [] cpos) X.env = (do
      let ov ← eval o X.env
      standAt apos.atName
      let (f, first) ← holding [ov] (getMethod ov y pl)
      callWith cpos f first (backTo cpos (starEach (e :: es) X.env)) (backToKw cpos (keywordEach [] X.env))) := by rfl) :
    BE κ xw X (.Call (.Attribute o y apos) (e :: es) [] cpos) (tMeth (κ q) y (spG κ ps.length G) [] E0 te ta) (mMeth q ps.length G m ma) := by
  have hc := hO.cl
  obtain ⟨K, h1, h2, h3, h4⟩ := c
  rw [← K] at F hM hb hc
  exact ⟨pe_meth ho.p hc hM F hr hb .nil pass0 ha.p hst hpl ht, se_meth hf ho.s ha.s⟩
theorem be_meth0 {q k : Nat} {y : Str} {cpos : Pos} {g : Addr} {fd : FuncData} {ps : List Str} {G : Fg} {pl : Sem Bool} (c : Cc κ X) (hO : OwnC κ q) (F : FnOk X.prog X.w κ.K X.mg X.base CX0 k g fd ps (spG κ ps.length G)) (hr : Room k X.A) (hM : Meth κ.K (κ q) y g) (hb : Binds κ.K fd ps []) (ho : BE κ xw X o te m) (hf : y ∉ nm q := by decide +kernel)
    (ht : eval (.Call (.Attribute o y apos) [] [] cpos) X.env = (do
      let ov ← eval o X.env
      standAt apos.atName
      let (f, first) ← holding [ov] (getMethod ov y pl)
      callWith cpos f first (backTo cpos (starEach [] X.env)) (backToKw cpos (keywordEach [] X.env))) := by rfl) :
    BE κ xw X (.Call (.Attribute o y apos) [] [] cpos) (tMeth (κ q) y (spG κ ps.length G) [] E0 te tNil) (mMeth q ps.length G m mNil) := by
  have hc := hO.cl
  obtain ⟨K, h1, h2, h3, h4⟩ := c
  rw [← K] at F hM hb hc
  exact ⟨pe_meth0 ho.p hc hM F hr hb .nil pass0 ht, se_meth hf ho.s sa_nil⟩
theorem be_make {q k : Nat} {x : Str} {p : Pos} {g : Addr} {fd : FuncData} {ps : List Str} {G : Fg} (c : Cc κ X) (M : Mk κ.K (κ q) g) (F : FnOk X.prog X.w κ.K X.mg X.base CX0 k g fd ps (spG κ ps.length G)) (hr : Room (k + 1) X.A) (hm : X.mg x = some (.ref (κ q))) (hb : Binds κ.K fd ps []) (ha : BA κ xw X (e :: es) ta ma)
    (hg : Gl X x := by rfl) (hdb : (x == ("__debug__" : Str)) = false := by decide) (he : starEach (e :: es) X.env = (false, eval e X.env) :: starEach es X.env := by rfl) (hpl : (backTo pos (starEach es X.env)).any (·.1) = false := by rfl) :
    BE κ xw X (.Call (.Name x p) (e :: es) [] pos) (tMake (κ q) (spG κ ps.length G) [] E0 ta) (mMake q ps.length G ma) := by
  obtain ⟨K, h1, h2, h3, h4⟩ := c
  rw [← K] at F M hb
  exact ⟨pe_make M F hr hg hm hb .nil pass0 ha.p hdb he hpl, se_make ha.s⟩
theorem be_make0 {q k : Nat} {x : Str} {p : Pos} {g : Addr} {fd : FuncData} {ps : List Str} {G : Fg} (c : Cc κ X) (M : Mk κ.K (κ q) g) (F : FnOk X.prog X.w κ.K X.mg X.base CX0 k g fd ps (spG κ ps.length G)) (hr : Room (k + 1) X.A) (hm : X.mg x = some (.ref (κ q))) (hb : Binds κ.K fd ps [])
    (hg : Gl X x := by rfl) (hdb : (x == ("__debug__" : Str)) = false := by decide) :
    BE κ xw X (.Call (.Name x p) [] [] pos) (tMake (κ q) (spG κ ps.length G) [] E0 tNil) (mMake q ps.length G mNil) := by
  obtain ⟨K, h1, h2, h3, h4⟩ := c
  rw [← K] at F M hb
  exact ⟨pe_make0 M F hr hg hm hb .nil pass0 hdb, se_make sa_nil⟩
theorem be_retr (h : BE κ xw X e te m) : BE κ xw X e te (mRetr m) := ⟨h.p, se_retr h.s⟩
theorem be_retrL (h : BE κ xw X e te m) : BE κ xw X e te (mRetrL m) := ⟨h.p, se_retrL h.s⟩
end
end Gx

namespace Gx
open PySem PySem.Spec PyProof.Rows L2

section
variable {κ : Kap} {xw : XW} {X : Cx} {e o f tg : Expr} {es : List Expr} {te tb tc : TE} {m mb mc : Me} {tt tu : TT} {n n' : Mt} {ta : TA} {ma : Ma} {pos apos : Pos} {ti : TI} {mi : Mi} {g : TG} {mg : Mg} {gs : TGs} {mgs : Mgs} {ts ts' : List Nat} {t u : TS} {a b : Ms} {st : Stmt} {sts stt : List Stmt}
/-! iterables -/
theorem bi_seq (c : Cc κ X) (he : BE κ xw X e te m) : BI κ xw X tg e (iSeq κ.K te) (mSrc m) := ⟨by rw [← c.K]; exact pi_seq he.p, si_seq he.s⟩
theorem bi_range1 {p : Pos} (hm : X.mg "range" = none) (ha : BA κ xw X [e] ta ma) (hg : Gl X "range" := by rfl) (hs : starEach [e] X.env = [(false, eval e X.env)] := by rfl) : BI κ xw X tg (.Call (.Name "range" p) [e] [] pos) (iRng1 ta) (mRange1 ma) := ⟨pi_range1 hg hm ha.p hs, si_range1 ha.s⟩
theorem bi_range2 {p : Pos} (hm : X.mg "range" = none) (ha : BA κ xw X [e, f] ta ma) (hg : Gl X "range" := by rfl) (hs : starEach [e, f] X.env = [(false, eval e X.env), (false, eval f X.env)] := by rfl) (hs2 : starEach [f] X.env = [(false, eval f X.env)] := by rfl) : BI κ xw X tg (.Call (.Name "range" p) [e, f] [] pos) (iRng2 ta) (mRange2 ma) := ⟨pi_range2 hg hm ha.p hs hs2, si_range2 ha.s⟩
theorem bi_enum {p tpos : Pos} {elts : List Expr} {kk : Nat} (c : Cc κ X) (hm : X.mg "enumerate" = none) (ha : BA κ xw X [e] ta ma) (hg : Gl X "enumerate" := by rfl) (hs : starEach [e] X.env = [(false, eval e X.env)] := by rfl) : BI κ xw X (.Tuple elts kk tpos) (.Call (.Name "enumerate" p) [e] [] pos) (iEnum κ.K ta) (mEnum ma) := ⟨by rw [← c.K]; exact pi_enum hg hm ha.p hs, si_enum ha.s⟩
theorem bi_zip {p tpos : Pos} {elts : List Expr} {kk : Nat} (c : Cc κ X) (hm : X.mg "zip" = none) (ha : BA κ xw X [e, f] ta ma) (hg : Gl X "zip" := by rfl) (hs : starEach [e, f] X.env = (false, eval e X.env) :: starEach [f] X.env := by rfl) (hpl : (backTo pos (starEach [f] X.env)).any (·.1) = false := by rfl) : BI κ xw X (.Tuple elts kk tpos) (.Call (.Name "zip" p) [e, f] [] pos) (RZ.iZipA κ.K ta) (mZip ma) := ⟨by rw [← c.K]; exact RZ.pi_zipA hg hm ha.p hs hpl, si_zip ha.s⟩
/-! targets -/
theorem bg_name (i : Nat) {x : Str} (c : Cc κ X) (hi : X.N[i]? = some x := by rfl) (hx : Loc X.env.scope x := by first | exact .inl rfl | exact .inr rfl) (hf : X.fn x = true ∨ X.env.scope.names.lookup x = some .local := by first | exact .inl rfl | exact .inr rfl) : BG κ X (.Name x pos) (gName i) (mgN i) [i] := ⟨pg_name c.nd hi hx hf, sg_name i⟩
theorem bgs_nil : BGs κ X [] gNil mgNil [] := ⟨pgs_nil, sg_nil⟩
theorem bgs_cons (h1 : BG κ X e g mg ts) (h2 : BGs κ X es gs mgs ts') (hs : (assignEach (e :: es) X.env).map (·.2) = assign e X.env :: (assignEach es X.env).map (·.2) := by rfl) : BGs κ X (e :: es) (gCons g gs) (mgCons mg mgs) (ts ++ ts') := ⟨pgs_cons h1.p h2.p hs, sg_cons h1.s h2.s⟩
theorem bg_tup {k : Nat} (q : Nat) (c : Cc κ X) (h : BGs κ X es gs mgs ts) (hn : (assignEach es X.env).length = q := by rfl) (hst : (assignEach es X.env).findIdx? (·.1) = none := by rfl) : BG κ X (.Tuple es k pos) (gTup κ.K q gs) (mgT q mgs) ts := ⟨by rw [← c.K]; exact pg_tup c.calm h.p hn hst, sg_tup h.s⟩
/-! comprehensions -/
theorem bts_nil : BTs κ xw X [] tYes mYes := ⟨pts_nil, st_yes'⟩
theorem bts_one (h : BT κ xw X e tt n) : BTs κ xw X [e] tt n := ⟨pts_one h.p, h.s⟩
theorem Cc.blk (c : Cc κ X) (s : Shared) (H : Hp) (scope : Scope) (cenv : PySem.Env) (fp : List Addr) : Cc κ (X.blk s H scope cenv fp) := ⟨c.K, c.hu, c.calm, PassesOwn.never, c.nd⟩
theorem be_lc {elt tg iter : Expr} {ifs : List Expr} {scope : Scope} (own : List (Str × Nat)) (N' : List Str) (sc' : Scope) (c : Cc κ X) (hi : BI κ xw X tg iter ti mi)
    (hg : ∀ (s : Shared) (H : Hp) (C : Addr) (cl : List (Str × Addr)) (fp : List Addr), Cc κ (X.blk s H scope (compEnvC scope cl C X.env) fp) → BG κ (X.blk s H scope (compEnvC scope cl C X.env) fp) tg g mg ts)
    (ht : ∀ (s : Shared) (H : Hp) (C : Addr) (cl : List (Str × Addr)) (fp : List Addr), Cc κ (X.blk s H scope (compEnvC scope cl C X.env) fp) → BTs κ xN (X.blk s H scope (compEnvC scope cl C X.env) fp) ifs tt n)
    (he : ∀ (s : Shared) (H : Hp) (C : Addr) (cl : List (Str × Addr)) (fp : List Addr), Cc κ (X.blk s H scope (compEnvC scope cl C X.env) fp) → BE κ xN (X.blk s H scope (compEnvC scope cl C X.env) fp) elt te m)
    (hN' : X.N = N' := by rfl) (hsc : X.env.scope = sc' := by rfl) (ok : blkC N' sc' scope own = true := by decide +kernel) (hv : ∀ i ∈ ts, i ∈ own.map (·.2) := by decide)
    (hs : ∀ x, foldedSetIterable iter X.env x = pure x := by intro _; rfl) :
    BE κ xw X (.ListComp elt [⟨tg, iter, ifs, 0⟩] scope pos) (tLc ti g tt te (own.map (·.2))) (mLc mi mg n m (own.map (·.2))) :=
  ⟨pe_lc c.calm c.nd hi.p (blkOk_by (by rw [hN', hsc]; exact ok)) (fun s H C cl fp => (hg s H C cl fp (c.blk ..)).p) (fun s H C cl fp => (ht s H C cl fp (c.blk ..)).p) (fun s H C cl fp => (he s H C cl fp (c.blk ..)).p) hs,
   se_lc hi.s (hg X.s_0 (fun _ => none) 0 [] [] (c.blk ..)).s hv (ht X.s_0 (fun _ => none) 0 [] [] (c.blk ..)).s (he X.s_0 (fun _ => none) 0 [] [] (c.blk ..)).s⟩
theorem bs_setLc (i : Nat) {y : Str} {py : Pos} {elt tg iter : Expr} {ifs : List Expr} {scope : Scope} {spos : Pos} (own : List (Str × Nat)) (N' : List Str) (sc' : Scope) (c : Cc κ X) (hi : BI κ xw X tg iter ti mi)
    (hg : ∀ (s : Shared) (H : Hp) (C : Addr) (cl : List (Str × Addr)) (fp : List Addr), Cc κ (X.blk s H scope (compEnvC scope cl C X.env) fp) → BG κ (X.blk s H scope (compEnvC scope cl C X.env) fp) tg g mg ts)
    (ht : ∀ (s : Shared) (H : Hp) (C : Addr) (cl : List (Str × Addr)) (fp : List Addr), Cc κ (X.blk s H scope (compEnvC scope cl C X.env) fp) → BTs κ xN (X.blk s H scope (compEnvC scope cl C X.env) fp) ifs tt n)
    (he : ∀ (s : Shared) (H : Hp) (C : Addr) (cl : List (Str × Addr)) (fp : List Addr), Cc κ (X.blk s H scope (compEnvC scope cl C X.env) fp) → BE κ xN (X.blk s H scope (compEnvC scope cl C X.env) fp) elt te m)
    (hy : X.N[i]? = some y := by rfl) (hyl : X.env.scope.names.lookup y = some .local := by rfl) (hk : X.env.scope.kind = .function := by rfl) (hl : (py.line == pos.line) = true := by rfl)
    (hna : (scope.names.any fun (n, k) => n == y && (k == .local || k == .cell)) = false := by decide +kernel)
    (hN' : X.N = N' := by rfl) (hsc : X.env.scope = sc' := by rfl) (ok : blkC N' sc' scope own = true := by decide +kernel) (hv : ∀ i ∈ ts, i ∈ own.map (·.2) := by decide)
    (hs : ∀ x, foldedSetIterable iter X.env x = pure x := by intro _; rfl) :
    BS κ xw X (.Assign [.Name y py] (.ListComp elt [⟨tg, iter, ifs, 0⟩] scope pos) spos) (tAsg (tLc ti g tt te (own.map (·.2))) (gName i)) (mAsg (mRetrL (mLc mi mg n m (own.map (·.2)))) (mgN i)) :=
  ⟨ps_setLc c.calm c.nd hy hyl (sw_true hk hyl hl hna) hi.p (blkOk_by (by rw [hN', hsc]; exact ok)) (fun s H C cl fp => (hg s H C cl fp (c.blk ..)).p) (fun s H C cl fp => (ht s H C cl fp (c.blk ..)).p) (fun s H C cl fp => (he s H C cl fp (c.blk ..)).p) hs,
   ss_asg (se_retrL (se_lc hi.s (hg X.s_0 (fun _ => none) 0 [] [] (c.blk ..)).s hv (ht X.s_0 (fun _ => none) 0 [] [] (c.blk ..)).s (he X.s_0 (fun _ => none) 0 [] [] (c.blk ..)).s)) (sg_name i)⟩
/-- .. the list as data -/
theorem BS.setLcD {i : Nat} (h : BS κ xw X st (tAsg te (gName i)) (mAsg (mRetrL m) (mgN i))) (hm : SE κ xw te m) : BS κ xw X st (tAsg te (gName i)) (mAsg (mRetr m) (mgN i)) := ⟨h.p, ss_asg (se_retr hm) (sg_name i)⟩
theorem bs_setLcD (i : Nat) {y : Str} {py : Pos} {elt tg iter : Expr} {ifs : List Expr} {scope : Scope} {spos : Pos} (own : List (Str × Nat)) (N' : List Str) (sc' : Scope) (c : Cc κ X) (hi : BI κ xw X tg iter ti mi)
    (hg : ∀ (s : Shared) (H : Hp) (C : Addr) (cl : List (Str × Addr)) (fp : List Addr), Cc κ (X.blk s H scope (compEnvC scope cl C X.env) fp) → BG κ (X.blk s H scope (compEnvC scope cl C X.env) fp) tg g mg ts)
    (ht : ∀ (s : Shared) (H : Hp) (C : Addr) (cl : List (Str × Addr)) (fp : List Addr), Cc κ (X.blk s H scope (compEnvC scope cl C X.env) fp) → BTs κ xN (X.blk s H scope (compEnvC scope cl C X.env) fp) ifs tt n)
    (he : ∀ (s : Shared) (H : Hp) (C : Addr) (cl : List (Str × Addr)) (fp : List Addr), Cc κ (X.blk s H scope (compEnvC scope cl C X.env) fp) → BE κ xN (X.blk s H scope (compEnvC scope cl C X.env) fp) elt te m)
    (hy : X.N[i]? = some y := by rfl) (hyl : X.env.scope.names.lookup y = some .local := by rfl) (hk : X.env.scope.kind = .function := by rfl) (hl : (py.line == pos.line) = true := by rfl)
    (hna : (scope.names.any fun (n, k) => n == y && (k == .local || k == .cell)) = false := by decide +kernel)
    (hN' : X.N = N' := by rfl) (hsc : X.env.scope = sc' := by rfl) (ok : blkC N' sc' scope own = true := by decide +kernel) (hv : ∀ i ∈ ts, i ∈ own.map (·.2) := by decide)
    (hs : ∀ x, foldedSetIterable iter X.env x = pure x := by intro _; rfl) :
    BS κ xw X (.Assign [.Name y py] (.ListComp elt [⟨tg, iter, ifs, 0⟩] scope pos) spos) (tAsg (tLc ti g tt te (own.map (·.2))) (gName i)) (mAsg (mRetr (mLc mi mg n m (own.map (·.2)))) (mgN i)) :=
  (bs_setLc i own N' sc' c hi hg ht he hy hyl hk hl hna hN' hsc ok hv hs).setLcD (se_lc hi.s (hg X.s_0 (fun _ => none) 0 [] [] (c.blk ..)).s hv (ht X.s_0 (fun _ => none) 0 [] [] (c.blk ..)).s (he X.s_0 (fun _ => none) 0 [] [] (c.blk ..)).s)
/-! statements -/
theorem bs_set (i : Nat) {x : Str} {pos' : Pos} (c : Cc κ X) (he : BE κ xw X e te m) (hi : X.N[i]? = some x := by rfl) (hx : Loc X.env.scope x := by first | exact .inl rfl | exact .inr rfl) (hs : swapsWith e (some (.Name x pos')) pos.line X.env = pure false := by rfl) (hf : X.fn x = true ∨ X.env.scope.names.lookup x = some .local := by first | exact .inl rfl | exact .inr rfl) :
    BS κ xw X (.Assign [.Name x pos'] e pos) (tAsg te (gName i)) (mAsg m (mgN i)) := ⟨ps_set c.nd hi hx he.p hs hf, ss_asg he.s (sg_name i)⟩
theorem bs_asg (he : BE κ xw X e te m) (hg : BG κ X tg g mg ts) (hs : swapsWithSole [tg] e pos.line X.env = pure false := by rfl) (hw : swappedStores [tg] e X.env = pure none := by rfl)
    (h1 : (assignEach [tg] X.env).map (·.2) = [assign tg X.env] := by rfl) : BS κ xw X (.Assign [tg] e pos) (tAsg te g) (mAsg m mg) := ⟨ps_asg he.p hg.p hs hw h1, ss_asg he.s hg.s⟩
theorem bs_fld {k i : Nat} {fd : Str} {pos' : Pos} (c : Cc κ X) (hO : OwnC κ k) (ho : BE κ xw X o te m) (he : BE κ xw X e tb mb) (hf : (nm k)[i]? = some fd := by rfl) (hs : swapsWith e (some (.Attribute o fd pos')) pos.line X.env = pure false := by rfl) :
    BS κ xw X (.Assign [.Attribute o fd pos'] e pos) (sFld κ.K te tb fd) (mPutFld k i m mb) := ⟨by rw [← c.K]; exact ps_fld ho.p he.p hs, ss_putFld hO hf ho.s he.s⟩
theorem bs_fldAdd {k i : Nat} {fd : Str} {tpos : Pos} (c : Cc κ X) (hO : OwnC κ k) (ho : BE κ xw X o te m) (he : BE κ xw X e tb mb) (hf : (nm k)[i]? = some fd := by rfl) :
    BS κ xw X (.AugAssign (.Attribute o fd tpos) .Add e pos) (sFldAug κ.K te tb rAdd fd) (mAugFld k i m mb) := ⟨by rw [← c.K]; exact ps_fldaug ho.p he.p iop_add, ss_augFld hO hf ho.s he.s⟩
theorem bs_put {pos' : Pos} (c : Cc κ X) (ho : BE κ xw X o te m) (hi : BE κ xw X f tb mb) (he : BE κ xw X e tc mc) (hs : swapsWith e (some (.Subscript o f pos')) pos.line X.env = pure false := by rfl)
    (hs1 : swapsWithSole [.Subscript o f pos'] e pos.line X.env = pure false := by rfl) (hw : swappedStores [.Subscript o f pos'] e X.env = pure none := by rfl)
    (h1 : (assignEach [.Subscript o f pos'] X.env).map (·.2) = [assign (.Subscript o f pos') X.env] := by rfl)
    (ha : ∀ v, assign (.Subscript o f pos') X.env v = (do
      let ov ← holding [v] (eval o X.env)
      let iv ← holding [v, ov] (eval f X.env)
      standAt pos'
      holding [v, ov, iv] (setItem ov iv v)
      release [v, ov, iv] []) := by intro _; rfl) : BS κ xw X (.Assign [.Subscript o f pos'] e pos) (tPutIx te tb tc) (mPutIx m mb mc) :=
  ⟨PS.or (ps_asg he.p (pg_sub ho.p hi.p set_list ha) hs1 hw h1) (ps_dput (by have := c.hu; omega) ho.p hi.p he.p hs), ss_putIx he.s ho.s hi.s⟩
theorem bs_aug (i : Nat) {x : Str} {pos' : Pos} {op : Operator} {fI : Int → Int → Int} (c : Cc κ X) (hop : PIp X op (ipI fI)) (he : BE κ xw X e te m) (hi : X.N[i]? = some x := by rfl) (hx : Loc X.env.scope x := by first | exact .inl rfl | exact .inr rfl) (hf : X.fn x = true ∨ X.env.scope.names.lookup x = some .local := by first | exact .inl rfl | exact .inr rfl) :
    BS κ xw X (.AugAssign (.Name x pos') op e pos) (tAug i te (ipI fI)) (mAug i fI m) := ⟨ps_aug c.nd hi hx he.p hop hf, ss_aug he.s⟩
theorem bs_expr (he : BE κ xw X e te m) (hs : swapsWith e none pos.line X.env = pure false := by rfl) : BS κ xw X (.Expr e pos) (tDrop te) (mDrop m) := ⟨ps_expr he.p hs, ss_drop he.s⟩
theorem bs_ret (he : BE κ xw X e te m) : BS κ xw X (.Return (some e) pos) (tRet te) (mRet m) := ⟨ps_ret he.p, ss_ret he.s⟩
theorem bs_retN : BS κ xw X (.Return none pos) tRetN mRetN := ⟨ps_retN, ss_retN⟩
theorem bs_pass : BS κ xw X (.Pass pos) tNext mSkip := ⟨ps_pass, ss_skip⟩
theorem bs_break : BS κ xw X (.Break pos) tBreak mBreak := ⟨ps_break, ss_break⟩
theorem bs_cont : BS κ xw X (.Continue pos) tCont mCont := ⟨ps_continue, ss_cont⟩
theorem bss_nil : BSs κ xw X [] tNext mSkip := ⟨pss_nil, ss_skip⟩
theorem bss_one (h : BS κ xw X st t a) : BSs κ xw X [st] t a := ⟨pss_one h.p, h.s⟩
theorem bss_cons (h : BS κ xw X st t a) (hr : BSs κ xw X sts u b) : BSs κ xw X (st :: sts) (tSeq t u) (mSeq a b) := ⟨pss_cons h.p hr.p, ss_seq h.s hr.s⟩
theorem bs_if {c : Expr} (hc : BT κ xw X c tt n) (ha : BSs κ xw X sts t a) (hb : BSs κ xw X stt u b) : BS κ xw X (.If c sts stt pos) (tIfS tt t u) (mIfS n a b) := ⟨ps_if hc.p ha.p hb.p, ss_if hc.s ha.s hb.s⟩
theorem bs_while (k : Nat) {w : Expr} (c : Cc κ X) (hc : BT κ xw X w tt n) (hb : BSs κ xw X sts t a) : BS κ xw X (.While w sts [] pos) (tWhile tt t) (whileL n a k) := ⟨ps_while c.ps hc.p hb.p, ss_while k hc.s hb.s⟩
theorem bs_for {iter : Expr} (c : Cc κ X) (hi : BI κ xw X tg iter ti mi) (hg : BG κ X tg g mg ts) (hb : BSs κ xw X sts t a) (hs : ∀ x, foldedSetIterable iter X.env x = pure x := by intro _; rfl) : BS κ xw X (.For tg iter sts [] pos) (tFor ti g t) (mFor mi mg a) := ⟨ps_for c.ps c.calm hi.p hg.p hb.p hs, ss_for hi.s hg.s hb.s⟩
theorem bs_forV (i : Nat) {x : Str} {npos : Pos} (c : Cc κ X) (hg : BG κ X tg g mg ts) (hb : BSs κ xw X sts t a) (hN : X.N[i]? = some x := by rfl) (hv : Vis X.env.scope x := by first | exact Or.inl rfl | exact Or.inr (Or.inl rfl) | exact Or.inr (Or.inr rfl)) (hd : (x == ("__debug__" : Str)) = false := by decide)
    (hcd : (x == ("__classdict__" : Str)) = false := by decide) (hs : ∀ y, foldedSetIterable (.Name x npos) X.env y = pure y := by intro _; rfl) : BS κ xw X (.For tg (.Name x npos) sts [] pos) (tForV κ.K i g t) (mForV i mg a) := ⟨by rw [← c.K]; exact ps_forV c.ps c.calm (pe_var hN hv hd hcd) hg.p hb.p hs, ss_forV hg.s hb.s⟩
/-! a def -/
theorem fn_okB {P : Program} {w : World} {mg : Str → Option Value} {base : Heap} {x qual : Str} {st : Stmt} {f : Addr} {fd : FuncData} {N ps : List Str} {k : Nat} {m : Ms} (F : Fun κ.K x qual st f fd) (S : FnScope N ps (defScope st))
    (hbody : ∀ (cdv : Value) (A : Around) (outer : List PySem.Env) (s : Shared) (H : Hp) (E : XK), Room k (A.deeper (envOfC qual (defScope st) s.heap.objs.size f cdv)) → Cc κ (cxOf CX0 P w κ.K mg base N qual (defScope st) f cdv A outer s H E).nox →
      ∃ t, BSs κ xN (cxOf CX0 P w κ.K mg base N qual (defScope st) f cdv A outer s H E).nox (defBody st) t m) : FnOk P w κ.K mg base CX0 (k + 1) f fd ps (spG κ ps.length (runBody N.length m)) :=
  fn_ok F S fun cdv A outer s H E hr => by
    obtain ⟨t, h⟩ := hbody cdv A outer s H E hr ⟨rfl, by have := hr.un; show (A.deeper (envOfC qual (defScope st) s.heap.objs.size f cdv)).units + 64 < cLine; omega, rfl, PassesOwn.never, S.nd⟩
    exact ⟨t, h.p, h.s⟩
end
end Gx

namespace Gx
open PySem PySem.Spec PyProof.Rows L2

/-! ### one sorted list -/
def insB {α : Type} (le : α → α → Bool) (x : α) : List α → List α
  | [] => [x]
  | y :: r => if le x y = true then x :: y :: r else y :: insB le x r
def srtB {α : Type} (le : α → α → Bool) : List α → List α
  | [] => []
  | x :: r => insB le x (srtB le r)
theorem insB_perm {α : Type} (le : α → α → Bool) (x : α) : ∀ l : List α, (insB le x l).Perm (x :: l)
  | [] => .refl _
  | y :: r => by
    unfold insB
    split
    · exact .refl _
    · exact ((insB_perm le x r).cons y).trans (.swap x y r)
theorem srtB_perm {α : Type} (le : α → α → Bool) : ∀ l : List α, (srtB le l).Perm l
  | [] => .refl _
  | x :: r => (insB_perm le x _).trans ((srtB_perm le r).cons x)
structure Lin {α : Type} (le : α → α → Bool) : Prop where
  tot : ∀ x y, le x y = false → le y x = true
  tr : ∀ x y z, le x y = true → le y z = true → le x z = true
  anti : ∀ x y, le x y = true → le y x = true → x = y
theorem insB_srt {α : Type} {le : α → α → Bool} (L : Lin le) (x : α) : ∀ l : List α, l.Pairwise (fun a b => le a b = true) → (insB le x l).Pairwise (fun a b => le a b = true)
  | [], _ => List.pairwise_singleton _ _
  | y :: r, h => by
    unfold insB
    obtain ⟨h1, h2⟩ := List.pairwise_cons.mp h
    split
    · rename_i hl
      refine List.pairwise_cons.mpr ⟨fun z hz => ?_, h⟩
      rcases List.mem_cons.mp hz with rfl | hz
      · exact hl
      · exact L.tr _ _ _ hl (h1 z hz)
    · rename_i hl
      refine List.pairwise_cons.mpr ⟨fun z hz => ?_, insB_srt L x r h2⟩
      rcases List.mem_cons.mp ((insB_perm le x r).mem_iff.mp hz) with rfl | hz
      · exact L.tot _ _ (by simpa using hl)
      · exact h1 z hz
theorem srtB_srt {α : Type} {le : α → α → Bool} (L : Lin le) : ∀ l : List α, (srtB le l).Pairwise (fun a b => le a b = true)
  | [] => .nil
  | x :: r => insB_srt L x _ (srtB_srt L r)
theorem srt_uniq {α : Type} {le : α → α → Bool} (L : Lin le) : ∀ {l m : List α}, l.Perm m → l.Pairwise (fun a b => le a b = true) → m.Pairwise (fun a b => le a b = true) → l = m
  | [], m, p, _, _ => (List.Perm.eq_nil p.symm).symm
  | x :: l, [], p, _, _ => absurd p.length_eq (by simp)
  | x :: l, y :: m, p, hl, hm => by
    obtain ⟨h1, h2⟩ := List.pairwise_cons.mp hl
    obtain ⟨k1, k2⟩ := List.pairwise_cons.mp hm
    have e : x = y := by
      rcases List.mem_cons.mp (p.mem_iff.mp (List.mem_cons_self (a := x) (l := l))) with e | hx
      · exact e
      · rcases List.mem_cons.mp (p.mem_iff.mpr (List.mem_cons_self (a := y) (l := m))) with e | hy
        · exact e.symm
        · exact L.anti _ _ (h1 y hy) (k1 x hx)
    subst e
    rw [srt_uniq L p.cons_inv h2 k2]
theorem srtB_uniq {α : Type} {le : α → α → Bool} (L : Lin le) {l m : List α} (p : l.Perm m) (h : l.Pairwise (fun a b => le a b = true)) : l = srtB le m := srt_uniq L (p.trans (srtB_perm le m).symm) h (srtB_srt L m)
def leI (i j : Int) : Bool := decide (i ≤ j)
theorem lin_I : Lin leI := ⟨fun x y h => by unfold leI at *; simp at *; omega, fun x y z h1 h2 => by unfold leI at *; simp at *; omega, fun x y h1 h2 => by unfold leI at *; simp at *; omega⟩
def leP (p q : Int × Int) : Bool := decide (p.1 < q.1) || (decide (p.1 = q.1) && decide (p.2 ≤ q.2))
theorem lin_P : Lin leP := ⟨fun x y h => by unfold leP at *; simp at *; omega, fun x y z h1 h2 => by unfold leP at *; simp at *; omega, fun x y h1 h2 => by unfold leP at *; simp at *; exact Prod.ext (by omega) (by omega)⟩
section
variable {κ : Kap} {xw : XW} {ρ ρ1 ρ' : Lo} {H H1 H' : Hp} {σ : L2.St} {E : Env} {μ μ1 μ' : Store}
/-- the pairs of ints of a list -/
def pairD (p : Int × Int) : D := .tup [.int p.1, .int p.2]
def pairW1 : W → Option (Int × Int)
  | .imm (.tup [.int i, .int j]) => some (i, j)
  | _ => none
def sortW (ws : List W) : Option (List W) := match intsW ws with
  | some is => some ((srtB leI is).map fun i => W.imm (.int i))
  | none => match optAll pairW1 ws with
    | some ps => some ((srtB leP ps).map fun p => W.imm (pairD p))
    | none => none
def oSorted (fz : Bool) : OpA := fun ws μ => match ws with
  | [w] => match ritems μ w with
    | some xs => match sortW xs with
      | some ys => mkL fz ys μ
      | none => .bad
    | none => .bad
  | _ => .bad
/-- sorted of pairs of ints, whoever holds them -/
def rSortedPT (K : PySem.W.Frag) : List V → Hp → VK → Prop := fun vs H Q => ∃ (a : Addr) (xs : List V) (k : V → Int × Int), vs = [V.ref a] ∧ SqL K H a xs ∧ (∀ x ∈ xs, ∃ t, x = V.ref t ∧ SqT K H t [.int (k x).1, .int (k x).2]) ∧
  ∀ ys p, SrtO.Srtd (ltP k) ys → SrtO.Stb (ltP k) ys xs → H p = none → Q (.ref p) (upd H p (.lst ys))
theorem cr_sortedPT {X : Cx} : CallR X (.builtin "sorted") (rSortedPT X.K) := fun pins st σ H vs us Q I r ⟨at_, xs, kf, hv, hS, hT, q⟩ => by
  subst hv
  obtain ⟨items, hits, hlist, hsize⟩ := I.list hS
  obtain ⟨u0, hu0, hrel⟩ := vals1 r
  subst hu0
  have hu1 : u0 = Value.ref at_ := hrel
  subst hu1
  have back := refs_back hits fun x hx => (hT x hx).imp fun _ h => h.1
  have pairOf : ∀ v ∈ items, Srt.IsPair st.heap v (kf (backV v)).1 (kf (backV v)).2 := fun v hv => by
    obtain ⟨b, rfl⟩ := back.2 v hv
    obtain ⟨c, hc, hcs⟩ := hT (V.ref b) (back.1 ▸ List.mem_map.mpr ⟨Value.ref b, hv, rfl⟩)
    cases hc
    obtain ⟨two, htwo, ⟨ob, h1, h2, nn, h3⟩, _⟩ := I.tuple hcs
    obtain ⟨p1, p2, rfl, ⟨k1, rfl⟩, k2, rfl⟩ := vals2 htwo
    exact ⟨b, ob, k1, k2, nn, rfl, h1, h2, h3⟩
  refine SrtO.sorted_pairsO (k := fun v => kf (backV v)) hlist.isList (by rw [← hits.length]; exact hsize) pairOf fun hp place res g1 g2 keeps fresh ⟨nn, laid⟩ => ?_
  have refs : ∀ v ∈ res, ∃ b, v = Value.ref b := fun v hv => back.2 v (g2.perm.mem_iff.mp hv)
  have stab : SrtO.Stb (ltP kf) (res.map backV) xs := by
    have := SrtO.Stb.map (ltP_swo kf) backV g2
    rwa [← back.1] at this
  exact ⟨.ref place, upd H place (.lst (res.map backV)), I.laid (t' := st.toks) keeps fresh ⟨by rw [stab.len]; exact hsize, res, nn, vals_back refs, laid⟩, rfl, q _ place (SrtO.srtd_map g1) stab (I.hok.fresh fresh)⟩
def rSortedX (K : PySem.W.Frag) : List V → Hp → VK → Prop := fun vs H Q => rSortedI K vs H Q ∨ rSortedPT K vs H Q
theorem cr_sortedX {X : Cx} : CallR X (.builtin "sorted") (rSortedX X.K) := fun pins s σ H vs us Q I r h => h.elim (cr_sortedI pins s σ H vs us Q I r) (cr_sortedPT pins s σ H vs us Q I r)
theorem leP_of {p q : Int × Int} (h : SrtO.lexB q p = false) : leP p q = true := by
  have := SrtO.lexB_no.mp h
  unfold leP
  simp
  omega
theorem pairs_key : ∀ {ws : List W} {ps : List (Int × Int)} {xs : List V}, optAll pairW1 ws = some ps → RWs κ ρ H xs ws → ∃ k : V → Int × Int, xs.map k = ps ∧ ∀ x ∈ xs, RW κ ρ H x (.imm (pairD (k x))) := fun {ws ps xs} h q => by
  classical
  have one : ∀ {ws : List W} {ps : List (Int × Int)} {xs : List V}, optAll pairW1 ws = some ps → RWs κ ρ H xs ws → xs.length = ps.length ∧ ∀ (i : Nat) x p, xs[i]? = some x → ps[i]? = some p → RW κ ρ H x (.imm (pairD p)) := fun {ws} => by
    induction ws with
    | nil => intro ps xs h q; cases h; cases q; exact ⟨rfl, fun i x p e => by simp at e⟩
    | cons w ws ih =>
      intro ps xs h q
      obtain ⟨x, xr, rfl, r, q⟩ := q
      unfold optAll at h
      split at h
      · cases h
      · rename_i p hp
        split at h
        · cases h
        · rename_i ps' hps
          cases h
          obtain ⟨l, ih⟩ := ih hps q
          refine ⟨by simp [l], fun i y p' e e' => ?_⟩
          cases i with
          | zero =>
            cases e; cases e'
            unfold pairW1 at hp
            split at hp
            · cases hp; exact r
            · cases hp
          | succ i => exact ih i y p' (by simpa using e) (by simpa using e')
  -- what a value's pair is does not hang on its place
  have uq : ∀ x (p p' : Int × Int), RW κ ρ H x (.imm (pairD p)) → RW κ ρ H x (.imm (pairD p')) → p = p' := fun x p p' r r' => by
    obtain ⟨a, xs, rfl, h1, z1, z1r, rfl, e1, z2, z2r, rfl, e2, rfl⟩ := r
    obtain ⟨a', xs', ea, h1', y1, y1r, rfl, f1, y2, y2r, rfl, f2, rfl⟩ := r'
    cases ea
    cases e1; cases e2; cases f1; cases f2
    have : ([V.int p.1, V.int p.2] : List V) = [V.int p'.1, V.int p'.2] := by
      rcases h1 with h1 | ⟨_, h1⟩ <;> rcases h1' with h1' | ⟨_, h1'⟩ <;> rw [h1] at h1' <;> simp at h1' <;> simp [h1']
    simp at this
    exact Prod.ext this.1 this.2
  obtain ⟨l, g⟩ := one h q
  refine ⟨fun x => if hx : ∃ p, RW κ ρ H x (.imm (pairD p)) then hx.choose else (0, 0), ?_, fun x hx => ?_⟩
  · refine List.ext_getElem? fun i => ?_
    rw [List.getElem?_map]
    cases hx : xs[i]? with
    | none =>
      have : ps[i]? = none := by
        rw [List.getElem?_eq_none_iff] at hx ⊢
        omega
      rw [this]; rfl
    | some x =>
      have hi := (List.getElem?_eq_some_iff.mp hx).1
      obtain ⟨p, hp⟩ : ∃ p, ps[i]? = some p := ⟨_, List.getElem?_eq_getElem (by omega)⟩
      rw [hp]
      have hr := g i x p hx hp
      have hex : ∃ p, RW κ ρ H x (.imm (pairD p)) := ⟨p, hr⟩
      show some (if hx : ∃ p, RW κ ρ H x (.imm (pairD p)) then hx.choose else (0, 0)) = some p
      rw [dif_pos hex, uq x _ _ hex.choose_spec hr]
  · obtain ⟨i, hi, rfl⟩ := List.getElem_of_mem hx
    obtain ⟨p, hp⟩ : ∃ p, ps[i]? = some p := ⟨_, List.getElem?_eq_getElem (by omega)⟩
    have hex : ∃ p, RW κ ρ H xs[i] (.imm (pairD p)) := ⟨p, g i _ p (List.getElem?_eq_getElem hi) hp⟩
    show RW κ ρ H xs[i] (.imm (pairD (if hx : ∃ p, RW κ ρ H xs[i] (.imm (pairD p)) then hx.choose else (0, 0))))
    rw [dif_pos hex]
    exact hex.choose_spec
theorem rws_of {k : V → Int × Int} : ∀ {ys : List V}, (∀ y ∈ ys, RW κ ρ H y (.imm (pairD (k y)))) → RWs κ ρ H ys ((ys.map k).map fun p => W.imm (pairD p))
  | [], _ => rfl
  | y :: r, h => ⟨y, r, rfl, h y (by simp), rws_of fun z hz => h z (by simp [hz])⟩
theorem sc_sorted (fz : Bool) : SC κ (rSortedX κ.K) (oSorted fz) := fun xw ρ μ H σ vs ws Q s rs p => by
  unfold oSorted at p
  split at p
  · obtain ⟨x, rfl, r1⟩ := rws1 rs
    split at p
    · rename_i xs hx
      obtain ⟨a, vs, rfl, hs, q⟩ := ritems_ok hx s r1
      split at p
      · rename_i ys hy
        unfold sortW at hy
        split at hy
        · rename_i is hi
          cases hy
          left
          refine ⟨a, is, rfl, by rw [← intsW_ok hi q]; exact hs, fun ns' d hp hsrt hd => ?_⟩
          have e : ns' = srtB leI is := srtB_uniq lin_I hp (hsrt.imp fun h => by unfold leI; simpa using h)
          rw [e]
          exact PoE.lst p s (ints_rws _) hd
        · split at hy
          · rename_i ps hps
            cases hy
            right
            obtain ⟨k, hk, hr⟩ := pairs_key hps q
            refine ⟨a, vs, k, rfl, hs, fun x hx => ?_, fun ys d h1 h2 hd => ?_⟩
            · obtain ⟨t, zs, e, ht, z1, z1r, rfl, e1, z2, z2r, rfl, e2, rfl⟩ := hr x hx
              cases e1; cases e2
              exact ⟨t, e, .inl (rd_hid ht)⟩
            · have e : ys.map k = srtB leP ps := by
                refine srtB_uniq lin_P (by rw [← hk]; exact h2.perm.map k) ?_
                refine List.pairwise_map.mpr (h1.imp fun {x y} h => leP_of h)
              refine PoE.lst p s ?_ hd
              have := rws_of (κ := κ) (ρ := ρ) (H := H) (k := k) (ys := ys) fun y hy => hr y (h2.perm.mem_iff.mp hy)
              rw [e] at this
              exact this
          · cases hy
      · exact p.elim
    · exact p.elim
  · exact p.elim
end
section
variable {κ : Kap} {xw : XW} {X : Cx} {e o f tg : Expr} {es : List Expr} {te tb tc : TE} {m mb mc : Me} {ta : TA} {ma : Ma} {pos apos p : Pos}
/-! built-ins by name -/
theorem be_len (c : Cc κ X) (hm : X.mg "len" = none) (ha : BA κ xw X (e :: es) ta ma) (hg : Gl X "len" := by rfl) (he : starEach (e :: es) X.env = (false, eval e X.env) :: starEach es X.env := by rfl) (hpl : (backTo pos (starEach es X.env)).any (·.1) = false := by rfl) :
    BE κ xw X (.Call (.Name "len" p) (e :: es) [] pos) (tCB (fun xs H Q => ∃ x n, xs = [x] ∧ LenV κ.K x H n ∧ Q (.int n) H) ta) (mCB oLen ma) := be_cb (by have := call_len (X := X); rw [c.K] at this; exact this) sc_len hm PySem.boot_len ha hg (by decide) (by decide) he hpl
theorem be_max (c : Cc κ X) (hm : X.mg "max" = none) (ha : BA κ xw X (e :: es) ta ma) (hg : Gl X "max" := by rfl) (he : starEach (e :: es) X.env = (false, eval e X.env) :: starEach es X.env := by rfl) (hpl : (backTo pos (starEach es X.env)).any (·.1) = false := by rfl) :
    BE κ xw X (.Call (.Name "max" p) (e :: es) [] pos) (tCB (fun xs H Q => ∃ i j, xs = [.int i, .int j] ∧ Q (.int (if j > i then j else i)) H) ta) (mCB oMax ma) := be_cb (call_max2 c.calm) sc_max hm (by decide +kernel) ha hg (by decide) (by decide) he hpl
theorem be_min (c : Cc κ X) (hm : X.mg "min" = none) (ha : BA κ xw X (e :: es) ta ma) (hg : Gl X "min" := by rfl) (he : starEach (e :: es) X.env = (false, eval e X.env) :: starEach es X.env := by rfl) (hpl : (backTo pos (starEach es X.env)).any (·.1) = false := by rfl) :
    BE κ xw X (.Call (.Name "min" p) (e :: es) [] pos) (tCB (fun xs H Q => ∃ i j, xs = [.int i, .int j] ∧ Q (.int (if j < i then j else i)) H) ta) (mCB oMin ma) := be_cb (call_min2 c.calm) sc_min hm (by decide +kernel) ha hg (by decide) (by decide) he hpl
theorem be_abs (c : Cc κ X) (hm : X.mg "abs" = none) (ha : BA κ xw X (e :: es) ta ma) (hg : Gl X "abs" := by rfl) (he : starEach (e :: es) X.env = (false, eval e X.env) :: starEach es X.env := by rfl) (hpl : (backTo pos (starEach es X.env)).any (·.1) = false := by rfl) :
    BE κ xw X (.Call (.Name "abs" p) (e :: es) [] pos) (tCB (fun xs H Q => ∃ i, xs = [.int i] ∧ Q (.int (if i < 0 then -i else i)) H) ta) (mCB oAbs ma) := be_cb call_abs sc_abs hm (by decide +kernel) ha hg (by decide) (by decide) he hpl
theorem be_sum (c : Cc κ X) (hm : X.mg "sum" = none) (ha : BA κ xw X (e :: es) ta ma) (hg : Gl X "sum" := by rfl) (he : starEach (e :: es) X.env = (false, eval e X.env) :: starEach es X.env := by rfl) (hpl : (backTo pos (starEach es X.env)).any (·.1) = false := by rfl) :
    BE κ xw X (.Call (.Name "sum" p) (e :: es) [] pos) (tCB (rSum κ.K) ta) (mCB oSum ma) := be_cb (by have := cr_sum (X := X) c.calm; rw [c.K] at this; exact this) sc_sum hm (by decide +kernel) ha hg (by decide) (by decide) he hpl
theorem be_isI (c : Cc κ X) (hm : X.mg "isinstance" = none) (ha : BA κ xw X (e :: es) ta ma) (hg : Gl X "isinstance" := by rfl) (he : starEach (e :: es) X.env = (false, eval e X.env) :: starEach es X.env := by rfl) (hpl : (backTo pos (starEach es X.env)).any (·.1) = false := by rfl) :
    BE κ xw X (.Call (.Name "isinstance" p) (e :: es) [] pos) (tCB (rIsi κ.K) ta) (mCB oIsI ma) := be_cb (by have := call_isi (X := X); rw [c.K] at this; exact this) sc_isI hm (by decide +kernel) ha hg (by decide) (by decide) he hpl
theorem be_sorted (fz : Bool) (c : Cc κ X) (hm : X.mg "sorted" = none) (ha : BA κ xw X (e :: es) ta ma) (hg : Gl X "sorted" := by rfl) (he : starEach (e :: es) X.env = (false, eval e X.env) :: starEach es X.env := by rfl) (hpl : (backTo pos (starEach es X.env)).any (·.1) = false := by rfl) :
    BE κ xw X (.Call (.Name "sorted" p) (e :: es) [] pos) (tCB (rSortedX κ.K) ta) (mCB (oSorted fz) ma) := be_cb (by have := cr_sortedX (X := X); rw [c.K] at this; exact this) (sc_sorted fz) hm (by decide +kernel) ha hg (by decide) (by decide) he hpl
theorem be_int1 (c : Cc κ X) (hm : X.mg "int" = none) (ha : BA κ xw X (e :: es) ta ma) (hg : Gl X "int" := by rfl) (he : starEach (e :: es) X.env = (false, eval e X.env) :: starEach es X.env := by rfl) (hpl : (backTo pos (starEach es X.env)).any (·.1) = false := by rfl) :
    BE κ xw X (.Call (.Name "int" p) (e :: es) [] pos) (tCB (fun xs H Q => (∃ i, xs = [.int i] ∧ Q (.int i) H) ∨ ∃ k, xs = [.bl k] ∧ Q (.int (if k then 1 else 0)) H) ta) (mCB oInt1 ma) := be_ty call_int1 sc_int1 hm (by decide +kernel) ha hg (by decide) (by decide) he hpl
theorem be_str1 (c : Cc κ X) (hm : X.mg "str" = none) (ha : BA κ xw X (e :: es) ta ma) (hg : Gl X "str" := by rfl) (he : starEach (e :: es) X.env = (false, eval e X.env) :: starEach es X.env := by rfl) (hpl : (backTo pos (starEach es X.env)).any (·.1) = false := by rfl) :
    BE κ xw X (.Call (.Name "str" p) (e :: es) [] pos) (tCB (fun xs H Q => ∃ i, xs = [.int i] ∧ i.natAbs.log2 < 1920 ∧ Q (.str (toString i)) H) ta) (mCB oStr1 ma) := be_ty call_str_int sc_str1 hm (by decide +kernel) ha hg (by decide) (by decide) he hpl
theorem be_list (fz : Bool) (c : Cc κ X) (hm : X.mg "list" = none) (ha : BA κ xw X (e :: es) ta ma) (hg : Gl X "list" := by rfl) (he : starEach (e :: es) X.env = (false, eval e X.env) :: starEach es X.env := by rfl) (hpl : (backTo pos (starEach es X.env)).any (·.1) = false := by rfl) :
    BE κ xw X (.Call (.Name "list" p) (e :: es) [] pos) (tCB (fun xs H Q => ∃ p ys, xs = [.ref p] ∧ (SqL κ.K H p ys ∨ SqT κ.K H p ys) ∧ ∀ l, H l = none → Q (.ref l) (upd H l (.lst ys))) ta) (mCB (oList fz) ma) := be_ty (by have := call_list_of (X := X); rw [c.K] at this; exact this) (sc_list fz) hm (by decide +kernel) ha hg (by decide) (by decide) he hpl
theorem be_tuple (c : Cc κ X) (hm : X.mg "tuple" = none) (ha : BA κ xw X (e :: es) ta ma) (hg : Gl X "tuple" := by rfl) (he : starEach (e :: es) X.env = (false, eval e X.env) :: starEach es X.env := by rfl) (hpl : (backTo pos (starEach es X.env)).any (·.1) = false := by rfl) :
    BE κ xw X (.Call (.Name "tuple" p) (e :: es) [] pos) (tCB (fun xs H Q => ∃ p ys, xs = [.ref p] ∧ ((SqL κ.K H p ys ∧ ∀ l, H l = none → Q (.ref l) (upd H l (.tup ys))) ∨ (SqT κ.K H p ys ∧ Q (.ref p) H))) ta) (mCB oTuple ma) := be_ty (by have := call_tuple_of (X := X); rw [c.K] at this; exact this) sc_tuple hm (by decide +kernel) ha hg (by decide) (by decide) he hpl
end
end Gx
namespace Gx
open PySem PySem.Spec PyProof.Rows L2
/-! ### the law's end -/
/-- what the law's own def promises -/
def spLaw (K : PySem.W.Frag) (n : Nat) : Sp := fun vs H Q _ => ∃ (a : Addr) (ns : List Int), vs = [.ref a] ∧ SqL K H a (ns.map V.int) ∧ ns.length ≤ n ∧ ∀ H', Q (.bl true) H'
theorem law_imp {κ : Kap} {P : Program} {w : World} {mg : Str → Option Value} {base : Heap} {k n q : Nat} {f : Addr} {fd : FuncData} {ps : List Str} {g : Fg} (hq : q = 1) (h : ∀ ns : List Int, ns.length ≤ n → ∃ μ, g [.imm (.scr ns)] [] = .ok (.imm (.bl true)) μ) (F : FnOk P w κ.K mg base CX0 k f fd ps (spG κ q g)) :
    FnOk P w κ.K mg base CX0 k f fd ps (spLaw κ.K n) := F.imp fun vs H Q E ⟨a, ns, e, hS, hl, hk⟩ => by
  subst e; subst hq
  obtain ⟨μ, hμ⟩ := h ns hl
  refine ⟨[], [], [.imm (.scr ns)], ⟨List.nodup_nil, rfl, fun n a f mo e => by simp at e⟩, RWs.cons ⟨a, rfl, ?_⟩ RWs.nil, rfl, ?_⟩
  · have e : hid [] H = H := funext fun b => by unfold hid; rw [if_neg (by simp)]
    rw [e]
    exact hS
  · rw [hμ]
    intro ρ' H' v _ _ r
    cases r
    exact hk H'
end Gx

namespace Gx
open PySem PySem.Spec PyProof.Rows L2
/-! ### running the programs: one step each -/
section
variable {E E1 : Env} {μ μ1 : Store} {m mb mc : Me} {n n' : Mt} {ma : Ma} {a b : Ms} {w w2 : W} {g : Op2}
theorem x_var {i : Nat} (h : E[i]? = some (some w)) : mVar i E μ = .ok w μ := by unfold mVar; rw [h]
@[simp] theorem bind_ok {α β : Type} {x : α} {f : α → Store → Rs β} : (Rs.ok x μ).bind f = f x μ := Eq.trans rfl rfl
@[simp] theorem fl_ok {α : Type} {x : α} {f : α → Store → Fl} : (Rs.ok x μ).fl E f = f x μ := Eq.trans rfl rfl
@[simp] theorem fin_ok {α : Type} {x : α} : (Rs.ok x μ).fin = .ok x μ := Eq.trans rfl rfl
theorem x_seq (h : a E μ = .nx E1 μ1) : mSeq a b E μ = b E1 μ1 := by unfold mSeq; rw [h]
theorem x_seqR {μ2 : Store} (h : a E μ = .rt w μ2) : mSeq a b E μ = .rt w μ2 := by unfold mSeq; rw [h]
theorem retr_of {w : W} {d : D} {μ2 : Store} {r : Rs W} (h : r = .ok w μ2) (ht : μ2.take μ.length = μ) (hd : deepN none μ.length μ2 fuelR w = some d) : retr μ r = .ok (.imm d) μ := by
  subst h; unfold retr; simp only; rw [if_pos ht, hd]
theorem retr_imm {d : D} {j : Store} {r : Rs W} (h : r = .ok (.imm d) (μ ++ j)) : retr μ r = .ok (.imm d) μ := retr_of h (by simp) rfl
theorem retr_imm0 {d : D} {r : Rs W} (h : r = .ok (.imm d) μ) : retr μ r = .ok (.imm d) μ := retr_of h (by simp) rfl
theorem optAll_imm {ds : List D} {ex : Option Nat} {base k : Nat} {μ : Store} : optAll (deepN ex base μ k) (ds.map W.imm) = some ds := by
  induction ds with
  | nil => rfl
  | cons d r ih =>
    rw [List.map_cons]
    unfold optAll
    rw [show deepN ex base μ k (.imm d) = some d by cases k <;> rfl, ih]
theorem deep_loc {ds : List D} {i base k : Nat} {μ : Store} (hb : base ≤ i) (h : μ[i]? = some (.lst (ds.map W.imm))) : deepN none base μ (k + 1) (.loc i) = some (.lst ds) := by
  unfold deepN
  rw [if_neg (by simp; omega), h]
  show (match optAll (deepN none base μ k) (ds.map W.imm) with | some ds => some (D.lst ds) | none => none) = _
  rw [optAll_imm]
theorem retr_loc {ds : List D} {j : Store} {i : Nat} {r : Rs W} (h : r = .ok (.loc i) (μ ++ j)) (hb : μ.length ≤ i) (hj : (μ ++ j)[i]? = some (.lst (ds.map W.imm))) : retr μ r = .ok (.imm (.lst ds)) μ :=
  retr_of h (by simp) (deep_loc hb hj)
@[simp] theorem getNew {x : MO} {j : Store} : (μ ++ x :: j)[μ.length]? = some x := by simp
@[simp] theorem setNew {x y : MO} {j : Store} : (μ ++ x :: j).set μ.length y = μ ++ y :: j := by simp
/-- loops -/
theorem forL_nil {gd : Gd} {tg : Mg} : forL gd tg a [] E μ = .nx E μ := rfl
theorem forL_step {gd : Gd} {tg : Mg} {ws : List W} {E2 : Env} {μ2 : Store} (h1 : tg w E = some E1) (h2 : a E1 μ = .nx E2 μ2) (h3 : chk gd μ2 = true) : forL gd tg a (w :: ws) E μ = forL gd tg a ws E2 μ2 := by
  rw [forL, h1]; simp only; rw [h2]; simp only; rw [if_pos h3]
theorem forL_rt {gd : Gd} {tg : Mg} {ws : List W} {v : W} {μ2 : Store} (h1 : tg w E = some E1) (h2 : a E1 μ = .rt v μ2) : forL gd tg a (w :: ws) E μ = .rt v μ2 := by
  rw [forL, h1]; simp only; rw [h2]
theorem forL_bk {gd : Gd} {tg : Mg} {ws : List W} {E2 : Env} {μ2 : Store} (h1 : tg w E = some E1) (h2 : a E1 μ = .bk E2 μ2) : forL gd tg a (w :: ws) E μ = .nx E2 μ2 := by
  rw [forL, h1]; simp only; rw [h2]
theorem forL_ct {gd : Gd} {tg : Mg} {ws : List W} {E2 : Env} {μ2 : Store} (h1 : tg w E = some E1) (h2 : a E1 μ = .ct E2 μ2) (h3 : chk gd μ2 = true) : forL gd tg a (w :: ws) E μ = forL gd tg a ws E2 μ2 := by
  rw [forL, h1]; simp only; rw [h2]; simp only; rw [if_pos h3]
/-- a loop by the states it goes through -/
theorem forL_inv {gd : Gd} {tg : Mg} (Inv : List W → Env → Store → Prop) (step : ∀ w ws E μ, Inv (w :: ws) E μ → ∃ E1 E2 μ2, tg w E = some E1 ∧ (a E1 μ = .nx E2 μ2 ∨ a E1 μ = .ct E2 μ2) ∧ chk gd μ2 = true ∧ Inv ws E2 μ2) : ∀ ws E μ, Inv ws E μ → ∃ E' μ', forL gd tg a ws E μ = .nx E' μ' ∧ Inv [] E' μ'
  | [], E, μ, h => ⟨E, μ, rfl, h⟩
  | w :: ws, E, μ, h => by
    obtain ⟨E1, E2, μ2, h1, h2, h3, h4⟩ := step w ws E μ h
    obtain ⟨E', μ', e, i⟩ := forL_inv Inv step ws E2 μ2 h4
    rcases h2 with h2 | h2
    · exact ⟨E', μ', by rw [forL_step h1 h2 h3]; exact e, i⟩
    · exact ⟨E', μ', by rw [forL_ct h1 h2 h3]; exact e, i⟩
end
end Gx

namespace Gx
open PySem PySem.Spec PyProof.Rows L2
section
variable {E E1 : Env} {μ μ1 : Store} {m mb mc mo mi me : Me} {c n n' : Mt} {ma : Ma} {a b : Ms} {w w2 : W} {o o' : Op2} {tg : Mg} {gs : Mgs} {mit : Mi} {i k : Nat}
/-! ### what is left to do, by name -/
def vget (x : Option (Option W)) (μ : Store) : Rs W := match x with
  | some (some w) => .ok w μ
  | _ => .bad
theorem g_var : mVar i E μ = vget E[i]? μ := Eq.trans rfl rfl
theorem g_vget : vget (some (some w)) μ = .ok w μ := Eq.trans rfl rfl
theorem g_c {d : D} : mC d E μ = .ok (.imm d) μ := Eq.trans rfl rfl
def kOp2 (o : Op2) (w : W) : W → Store → Rs W := fun w2 μ => o w w2 μ
def kOp (o : Op2) (mb : Me) (E : Env) : W → Store → Rs W := fun w μ => (mb E μ).bind (kOp2 o w)
theorem g_op : mOp o m mb E μ = (m E μ).bind (kOp o mb E) := Eq.trans rfl rfl
theorem g_kOp : kOp o mb E w μ = (mb E μ).bind (kOp2 o w) := Eq.trans rfl rfl
theorem g_kOp2 : kOp2 o w w2 μ = o w w2 μ := Eq.trans rfl rfl
def kNeg : W → Store → Rs W := fun w μ1 => match oNeg w with
  | .ok a _ => .ok a μ1
  | .ex _ _ => .bad
  | .bad => .bad
theorem g_neg : mUn oNeg m E μ = (m E μ).bind kNeg := Eq.trans rfl rfl
theorem g_kNeg {i : Int} : kNeg (.imm (.int i)) μ = .ok (.imm (.int (-i))) μ := Eq.trans rfl rfl
def kCons2 (w : W) : List W → Store → Rs (List W) := fun ws μ => .ok (w :: ws) μ
def kCons (mr : Ma) (E : Env) : W → Store → Rs (List W) := fun w μ => (mr E μ).bind (kCons2 w)
theorem g_nil : mNil E μ = .ok [] μ := Eq.trans rfl rfl
theorem g_cons : mCons m ma E μ = (m E μ).bind (kCons ma E) := Eq.trans rfl rfl
theorem g_kCons : kCons ma E w μ = (ma E μ).bind (kCons2 w) := Eq.trans rfl rfl
theorem g_kCons2 {ws : List W} : kCons2 w ws μ = .ok (w :: ws) μ := Eq.trans rfl rfl
def kTup : List W → Store → Rs W := fun ws μ1 => if ws.length ≤ cap then .ok (mkT ws) μ1 else .bad
def kLst (fz : Bool) : List W → Store → Rs W := fun ws μ1 => if ws.length ≤ cap then mkL fz ws μ1 else .bad
theorem g_tup : mTup ma E μ = (ma E μ).bind kTup := Eq.trans rfl rfl
theorem g_lst {fz : Bool} : mLst fz ma E μ = (ma E μ).bind (kLst fz) := Eq.trans rfl rfl
theorem g_kTup {ws : List W} (h : ws.length ≤ 1000) : kTup ws μ = .ok (mkT ws) μ := if_pos (Nat.le_trans h (by decide))
theorem g_kLst {ws : List W} {fz : Bool} (h : ws.length ≤ 1000) : kLst fz ws μ = mkL fz ws μ := if_pos (Nat.le_trans h (by decide))
theorem g_mkLf {ws : List W} : mkL false ws μ = .ok (.loc μ.length) (μ ++ [.lst ws]) := by unfold mkL; rfl
def kMkL (x : Option (List D)) (ws : List W) (μ : Store) : Rs W := match x with
  | some ds => .ok (.imm (.lst ds)) μ
  | none => .ok (.loc μ.length) (μ ++ [.lst ws])
theorem g_mkLt {ws : List W} : mkL true ws μ = kMkL (immAll ws) ws μ := by unfold mkL kMkL; cases immAll ws <;> rfl
theorem g_kMkL {ws : List W} {ds : List D} : kMkL (some ds) ws μ = .ok (.imm (.lst ds)) μ := Eq.trans rfl rfl
def kMkT (x : Option (List D)) (ws : List W) : W := match x with
  | some ds => .imm (.tup ds)
  | none => .tup ws
theorem g_mkT {ws : List W} : mkT ws = kMkT (immAll ws) ws := by unfold mkT kMkT; cases immAll ws <;> rfl
theorem g_kMkT {ws : List W} {ds : List D} : kMkT (some ds) ws = .imm (.tup ds) := Eq.trans rfl rfl
theorem g_immI {ds : List D} : immAll (ds.map W.imm) = some ds := immAll_imm ds
theorem g_immN : immAll [] = some [] := Eq.trans rfl rfl
def optCons {α : Type} (a : α) : Option (List α) → Option (List α)
  | some r => some (a :: r)
  | none => none
theorem g_immC {d : D} {r : List W} : immAll (.imm d :: r) = optCons d (immAll r) := by
  rw [immAll]; cases immAll r <;> rfl
theorem g_optCons {α : Type} {a : α} {r : List α} : optCons a (some r) = some (a :: r) := Eq.trans rfl rfl
theorem g_dnew : mDNew E μ = .ok (.loc μ.length) (μ ++ [.dct []]) := Eq.trans rfl rfl
/-! tests -/
def kB : W → Store → Rs Bool := fun w μ1 => match w with
  | .imm (.bl b) => .ok b μ1
  | _ => .bad
theorem g_b : mB m E μ = (m E μ).bind kB := Eq.trans rfl rfl
theorem g_kB {b : Bool} : kB (.imm (.bl b)) μ = .ok b μ := Eq.trans rfl rfl
def kTru : W → Store → Rs Bool := fun w μ1 => match truth μ1 w with
  | some b => .ok b μ1
  | none => .bad
theorem g_tru : mTru m E μ = (m E μ).bind kTru := Eq.trans rfl rfl
theorem g_kTruB {b : Bool} : kTru (.imm (.bl b)) μ = .ok b μ := Eq.trans rfl rfl
theorem g_kTruI {i : Int} : kTru (.imm (.int i)) μ = .ok (i != 0) μ := Eq.trans rfl rfl
theorem g_kTruN : kTru (.imm .non) μ = .ok false μ := Eq.trans rfl rfl
theorem g_kTruL {ds : List D} : kTru (.imm (.lst ds)) μ = .ok (!ds.isEmpty) μ := by
  show (match truth μ (.imm (.lst ds)) with | some b => Rs.ok b μ | none => .bad) = _
  rw [show truth μ (.imm (.lst ds)) = some (!(ds.map W.imm).isEmpty) from rfl]
  cases ds <;> rfl
theorem g_kTruS {ns : List Int} : kTru (.imm (.scr ns)) μ = .ok (!ns.isEmpty) μ := by
  show (match truth μ (.imm (.scr ns)) with | some b => Rs.ok b μ | none => .bad) = _
  rw [show truth μ (.imm (.scr ns)) = some (!(ns.map fun n => W.imm (.int n)).isEmpty) from rfl]
  cases ns <;> rfl
def kTruL (x : Option MO) (μ : Store) : Rs Bool := match x with
  | some (.lst ws) => .ok (!ws.isEmpty) μ
  | _ => .bad
theorem g_kTruLoc : kTru (.loc i) μ = kTruL μ[i]? μ := by
  show (match truth μ (.loc i) with | some b => Rs.ok b μ | none => .bad) = _
  simp only [truth, ritems, litems]
  cases h : μ[i]? with
  | none => rfl
  | some mo => cases mo <;> rfl
theorem g_kTruL2 {ws : List W} : kTruL (some (.lst ws)) μ = .ok (!ws.isEmpty) μ := Eq.trans rfl rfl
def kNot : Bool → Store → Rs Bool := fun b μ => .ok (!b) μ
theorem g_not : mNot n E μ = (n E μ).bind kNot := Eq.trans rfl rfl
theorem g_kNot {b : Bool} : kNot b μ = .ok (!b) μ := Eq.trans rfl rfl
def kAnd (n' : Mt) (E : Env) : Bool → Store → Rs Bool := fun c μ1 => if c = true then n' E μ1 else .ok false μ1
def kOr (n' : Mt) (E : Env) : Bool → Store → Rs Bool := fun c μ1 => if c = true then .ok true μ1 else n' E μ1
theorem g_and : mAnd n n' E μ = (n E μ).bind (kAnd n' E) := Eq.trans rfl rfl
theorem g_or : mOr n n' E μ = (n E μ).bind (kOr n' E) := Eq.trans rfl rfl
theorem g_andT : kAnd n' E true μ = n' E μ := Eq.trans rfl rfl
theorem g_andF : kAnd n' E false μ = .ok false μ := Eq.trans rfl rfl
theorem g_orT : kOr n' E true μ = .ok true μ := Eq.trans rfl rfl
theorem g_orF : kOr n' E false μ = n' E μ := Eq.trans rfl rfl
def kNotV : W → Store → Rs W := fun w μ1 => match asB w with
  | some b => .ok (.imm (.bl (!b))) μ1
  | none => .bad
def kAndV (mb : Me) (E : Env) : W → Store → Rs W := fun w μ1 => match asB w with
  | some true => mb E μ1
  | some false => .ok (.imm (.bl false)) μ1
  | none => .bad
def kOrV (mb : Me) (E : Env) : W → Store → Rs W := fun w μ1 => match asB w with
  | some true => .ok (.imm (.bl true)) μ1
  | some false => mb E μ1
  | none => .bad
theorem g_notV : mNotV m E μ = (m E μ).bind kNotV := Eq.trans rfl rfl
theorem g_andV : mAndV m mb E μ = (m E μ).bind (kAndV mb E) := Eq.trans rfl rfl
theorem g_orV : mOrV m mb E μ = (m E μ).bind (kOrV mb E) := Eq.trans rfl rfl
theorem g_kNotV {b : Bool} : kNotV (.imm (.bl b)) μ = .ok (.imm (.bl (!b))) μ := Eq.trans rfl rfl
theorem g_kAndVT : kAndV mb E (.imm (.bl true)) μ = mb E μ := Eq.trans rfl rfl
theorem g_kAndVF : kAndV mb E (.imm (.bl false)) μ = .ok (.imm (.bl false)) μ := Eq.trans rfl rfl
theorem g_kOrVT : kOrV mb E (.imm (.bl true)) μ = .ok (.imm (.bl true)) μ := Eq.trans rfl rfl
theorem g_kOrVF : kOrV mb E (.imm (.bl false)) μ = mb E μ := Eq.trans rfl rfl
def kIfE (a b : Me) (E : Env) : Bool → Store → Rs W := fun k μ1 => if k = true then a E μ1 else b E μ1
theorem g_if : mIf n m mb E μ = (n E μ).bind (kIfE m mb E) := Eq.trans rfl rfl
theorem g_kIfT : kIfE m mb E true μ = m E μ := Eq.trans rfl rfl
theorem g_kIfF : kIfE m mb E false μ = mb E μ := Eq.trans rfl rfl
def kIsN : W → Store → Rs W := fun w μ1 => .ok (.imm (.bl (isNonW w))) μ1
def kNotN : W → Store → Rs W := fun w μ1 => .ok (.imm (.bl (!isNonW w))) μ1
theorem g_isN : mIsN m E μ = (m E μ).bind kIsN := Eq.trans rfl rfl
theorem g_notN : mNotN m E μ = (m E μ).bind kNotN := Eq.trans rfl rfl
theorem g_kIsN0 : kIsN (.imm .non) μ = .ok (.imm (.bl true)) μ := Eq.trans rfl rfl
theorem g_kIsNI {i : Int} : kIsN (.imm (.int i)) μ = .ok (.imm (.bl false)) μ := Eq.trans rfl rfl
theorem g_kIsNT {ds : List D} : kIsN (.imm (.tup ds)) μ = .ok (.imm (.bl false)) μ := Eq.trans rfl rfl
theorem g_kNotN0 : kNotN (.imm .non) μ = .ok (.imm (.bl false)) μ := Eq.trans rfl rfl
theorem g_kNotNI {i : Int} : kNotN (.imm (.int i)) μ = .ok (.imm (.bl true)) μ := Eq.trans rfl rfl
theorem g_kNotNT {ds : List D} : kNotN (.imm (.tup ds)) μ = .ok (.imm (.bl true)) μ := Eq.trans rfl rfl
def kCh3 (o' : Op2) (w2 : W) : W → Store → Rs W := fun w3 μ => o' w2 w3 μ
def kCh2 (o' : Op2) (mc : Me) (E : Env) (w2 : W) : W → Store → Rs W := fun k μ3 => match asB k with
  | some true => (mc E μ3).bind (kCh3 o' w2)
  | some false => .ok (.imm (.bl false)) μ3
  | none => .bad
def kCh1 (o o' : Op2) (mc : Me) (E : Env) (w : W) : W → Store → Rs W := fun w2 μ => (o w w2 μ).bind (kCh2 o' mc E w2)
def kCh (o o' : Op2) (mb mc : Me) (E : Env) : W → Store → Rs W := fun w μ => (mb E μ).bind (kCh1 o o' mc E w)
theorem g_chain : mChain o o' m mb mc E μ = (m E μ).bind (kCh o o' mb mc E) := Eq.trans rfl rfl
theorem g_kCh : kCh o o' mb mc E w μ = (mb E μ).bind (kCh1 o o' mc E w) := Eq.trans rfl rfl
theorem g_kCh1 : kCh1 o o' mc E w w2 μ = (o w w2 μ).bind (kCh2 o' mc E w2) := Eq.trans rfl rfl
theorem g_kCh2T : kCh2 o' mc E w2 (.imm (.bl true)) μ = (mc E μ).bind (kCh3 o' w2) := Eq.trans rfl rfl
theorem g_kCh2F : kCh2 o' mc E w2 (.imm (.bl false)) μ = .ok (.imm (.bl false)) μ := Eq.trans rfl rfl
theorem g_kCh3 {w3 : W} : kCh3 o' w2 w3 μ = o' w2 w3 μ := Eq.trans rfl rfl
/-! operations upon ints -/
theorem g_add {fz : Bool} {i j : Int} : oAdd fz (.imm (.int i)) (.imm (.int j)) μ = .ok (.imm (.int (i + j))) μ := Eq.trans rfl rfl
theorem g_addLL {fz : Bool} {a b : List D} (h : a.length + b.length ≤ 100000) : oAdd fz (.imm (.lst a)) (.imm (.lst b)) μ = mkL fz (a.map W.imm ++ b.map W.imm) μ := by
  show (if (a.map W.imm).length + (b.map W.imm).length ≤ cap then _ else _) = _
  rw [if_pos (by simp only [List.length_map]; exact Nat.le_trans h (by decide))]
theorem g_sub {i j : Int} : oSub (.imm (.int i)) (.imm (.int j)) μ = .ok (.imm (.int (i - j))) μ := Eq.trans rfl rfl
theorem g_lt {i j : Int} : oLt (.imm (.int i)) (.imm (.int j)) μ = .ok (.imm (.bl (decide (i < j)))) μ := Eq.trans rfl rfl
theorem g_le {i j : Int} : oLe (.imm (.int i)) (.imm (.int j)) μ = .ok (.imm (.bl (decide (i ≤ j)))) μ := Eq.trans rfl rfl
theorem g_gt {i j : Int} : oGt (.imm (.int i)) (.imm (.int j)) μ = .ok (.imm (.bl (decide (j < i)))) μ := Eq.trans rfl rfl
theorem g_ge {i j : Int} : oGe (.imm (.int i)) (.imm (.int j)) μ = .ok (.imm (.bl (decide (j ≤ i)))) μ := Eq.trans rfl rfl
theorem g_mul {i j : Int} (h : mulOk i j = true) : oMul (.imm (.int i)) (.imm (.int j)) μ = .ok (.imm (.int (i * j))) μ := if_pos h
theorem mulOk_l {i j : Int} (h1 : -1000000000000000000 ≤ i) (h2 : i ≤ 1000000000000000000) : mulOk i j = true := by unfold mulOk; simp; left; omega
theorem mulOk_r {i j : Int} (h1 : -1000000000000000000 ≤ j) (h2 : j ≤ 1000000000000000000) : mulOk i j = true := by unfold mulOk; simp; right; omega
theorem g_div {i j : Int} (h : 0 < j ∧ j ≤ 1000000000) : oDiv (.imm (.int i)) (.imm (.int j)) μ = .ok (.imm (.int (i / j))) μ := by
  show (if divOk i j = true then Rs.ok (W.imm (D.int (i.fdiv j))) μ else .bad) = _
  rw [if_pos (by unfold divOk; simp; omega), Int.fdiv_eq_ediv_of_nonneg _ (Int.le_of_lt h.1)]
theorem g_mod {i j : Int} (h : 0 < j) : oMod (.imm (.int i)) (.imm (.int j)) μ = .ok (.imm (.int (i % j))) μ := by
  show (if decide (j ≠ 0) = true then Rs.ok (W.imm (D.int (i.fmod j))) μ else .bad) = _
  rw [if_pos (by simp; omega), Int.fmod_eq_emod_of_nonneg _ (Int.le_of_lt h)]
theorem g_pow10_18 : oPow (.imm (.int 10)) (.imm (.int 18)) μ = .ok (.imm (.int 1000000000000000000)) μ := by
  show (if powOk 10 18 = true then Rs.ok (W.imm (D.int (10 ^ (18 : Int).toNat))) μ else .bad) = _
  rw [if_pos (by decide)]; rfl
theorem g_pow10_9 : oPow (.imm (.int 10)) (.imm (.int 9)) μ = .ok (.imm (.int 1000000000)) μ := by
  show (if powOk 10 9 = true then Rs.ok (W.imm (D.int (10 ^ (9 : Int).toNat))) μ else .bad) = _
  rw [if_pos (by decide)]; rfl
theorem g_max {i j : Int} : oMax [.imm (.int i), .imm (.int j)] μ = .ok (.imm (.int (max i j))) μ := by
  show Rs.ok (W.imm (D.int (if j > i then j else i))) μ = _
  rw [show (if j > i then j else i) = max i j by omega]
theorem g_min {i j : Int} : oMin [.imm (.int i), .imm (.int j)] μ = .ok (.imm (.int (min i j))) μ := by
  show Rs.ok (W.imm (D.int (if j < i then j else i))) μ = _
  rw [show (if j < i then j else i) = min i j by omega]
/-! calls by value, len -/
theorem g_cb {g : OpA} : mCB g ma E μ = (ma E μ).bind g := Eq.trans rfl rfl
theorem g_lenL {ds : List D} : oLen [.imm (.lst ds)] μ = .ok (.imm (.int ds.length)) μ := by
  show (match lenW μ (.imm (.lst ds)) with | some i => Rs.ok (W.imm (D.int i)) μ | none => .bad) = _
  rw [show lenW μ (.imm (.lst ds)) = some ((ds.map W.imm).length : Int) from rfl, List.length_map]
theorem g_lenS {ns : List Int} : oLen [.imm (.scr ns)] μ = .ok (.imm (.int ns.length)) μ := by
  show (match lenW μ (.imm (.scr ns)) with | some i => Rs.ok (W.imm (D.int i)) μ | none => .bad) = _
  rw [show lenW μ (.imm (.scr ns)) = some ((ns.map fun n => W.imm (.int n)).length : Int) from rfl, List.length_map]
theorem g_lenT {ds : List D} : oLen [.imm (.tup ds)] μ = .ok (.imm (.int ds.length)) μ := by
  show (match lenW μ (.imm (.tup ds)) with | some i => Rs.ok (W.imm (D.int i)) μ | none => .bad) = _
  rw [show lenW μ (.imm (.tup ds)) = some ((ds.map W.imm).length : Int) from rfl, List.length_map]
def kLenL (x : Option MO) (μ : Store) : Rs W := match x with
  | some (.lst ws) => .ok (.imm (.int ws.length)) μ
  | _ => .bad
theorem g_lenLoc : oLen [.loc i] μ = kLenL μ[i]? μ := by
  show (match lenW μ (.loc i) with | some i => Rs.ok (W.imm (D.int i)) μ | none => .bad) = _
  simp only [lenW, ritems, litems]
  cases h : μ[i]? with
  | none => rfl
  | some mo => cases mo <;> rfl
theorem g_kLenL {ws : List W} : kLenL (some (.lst ws)) μ = .ok (.imm (.int ws.length)) μ := Eq.trans rfl rfl
theorem g_listL {fz : Bool} {ds : List D} : oList fz [.imm (.lst ds)] μ = mkL fz (ds.map W.imm) μ := Eq.trans rfl rfl
def kListL (fz : Bool) (x : Option MO) (μ : Store) : Rs W := match x with
  | some (.lst ws) => mkL fz ws μ
  | _ => .bad
theorem g_listLoc {fz : Bool} : oList fz [.loc i] μ = kListL fz μ[i]? μ := by
  show (match seqW μ (.loc i) with | some xs => mkL fz xs μ | none => .bad) = _
  simp only [seqW, ritems, litems]
  cases h : μ[i]? with
  | none => rfl
  | some mo => cases mo <;> rfl
theorem g_kListL {fz : Bool} {ws : List W} : kListL fz (some (.lst ws)) μ = mkL fz ws μ := Eq.trans rfl rfl
theorem g_isI {w : W} {k t : Nat} (h : kindW μ w = some k) (hk : k ≤ 6 ∧ t ≤ 5) : oIsI [w, .imm (.ty t)] μ = .ok (.imm (.bl (isK k t))) μ := by
  show (match kindW μ w with | some k => if k ≤ 6 ∧ t ≤ 5 then Rs.ok (W.imm (D.bl (isK k t))) μ else .bad | none => .bad) = _
  rw [h]; simp only; rw [if_pos hk]
theorem g_isIB {b : Bool} {t : Nat} (ht : t ≤ 5) : oIsI [.imm (.bl b), .imm (.ty t)] μ = .ok (.imm (.bl (isK 1 t))) μ := g_isI rfl ⟨by decide, ht⟩
theorem g_isII {i : Int} {t : Nat} (ht : t ≤ 5) : oIsI [.imm (.int i), .imm (.ty t)] μ = .ok (.imm (.bl (isK 0 t))) μ := g_isI rfl ⟨by decide, ht⟩
theorem g_isIL {ds : List D} {t : Nat} (ht : t ≤ 5) : oIsI [.imm (.lst ds), .imm (.ty t)] μ = .ok (.imm (.bl (isK 4 t))) μ := g_isI rfl ⟨by decide, ht⟩
theorem g_isIT {ds : List D} {t : Nat} (ht : t ≤ 5) : oIsI [.imm (.tup ds), .imm (.ty t)] μ = .ok (.imm (.bl (isK 3 t))) μ := g_isI rfl ⟨by decide, ht⟩
theorem g_isIN {t : Nat} (ht : t ≤ 5) : oIsI [.imm .non, .imm (.ty t)] μ = .ok (.imm (.bl (isK 6 t))) μ := g_isI rfl ⟨by decide, ht⟩
/-! subscripts -/
theorem atW_nat {ws : List W} {k : Nat} {w : W} (h : ws[k]? = some w) : atW ws (k : Int) = some w := by
  have hk := (List.getElem?_eq_some_iff.mp h).1
  unfold atW
  rw [show L2.ixN ws.length (k : Int) = some k by unfold L2.ixN; simp; omega]
  exact h
def kIx (x : Option D) (μ : Store) : Rs W := match x with
  | some d => .ok (.imm d) μ
  | none => .bad
def kIxW (x : Option W) (μ : Store) : Rs W := match x with
  | some d => .ok d μ
  | none => .bad
theorem g_kIx {d : D} : kIx (some d) μ = .ok (.imm d) μ := Eq.trans rfl rfl
theorem g_kIxW : kIxW (some w) μ = .ok w μ := Eq.trans rfl rfl
theorem atW_pos {ws : List W} {z : Int} (h : 0 ≤ z) : atW ws z = ws[z.toNat]? := by
  unfold atW L2.ixN
  rw [if_pos h]
  by_cases hk : z < (ws.length : Int)
  · rw [if_pos hk]; rfl
  · rw [if_neg hk, List.getElem?_eq_none_iff.mpr (by omega)]; rfl
theorem g_ixL {ds : List D} {z : Int} (h : 0 ≤ z) : oIx (.imm (.lst ds)) (.imm (.int z)) μ = kIx ds[z.toNat]? μ := by
  show (match atW (ds.map W.imm) z with | some w => Rs.ok w μ | none => .bad) = _
  rw [atW_pos h, List.getElem?_map]; cases ds[z.toNat]? <;> rfl
theorem g_ixT {ds : List D} {z : Int} (h : 0 ≤ z) : oIx (.imm (.tup ds)) (.imm (.int z)) μ = kIx ds[z.toNat]? μ := by
  show (match atW (ds.map W.imm) z with | some w => Rs.ok w μ | none => .bad) = _
  rw [atW_pos h, List.getElem?_map]; cases ds[z.toNat]? <;> rfl
theorem g_ixS {ns : List Int} {z : Int} (h : 0 ≤ z) : oIx (.imm (.scr ns)) (.imm (.int z)) μ = kIx (ns[z.toNat]?.map D.int) μ := by
  show (match atW (ns.map fun n => W.imm (.int n)) z with | some w => Rs.ok w μ | none => .bad) = _
  rw [atW_pos h, List.getElem?_map]; cases ns[z.toNat]? <;> rfl
def kIxL (x : Option MO) (z : Int) (μ : Store) : Rs W := match x with
  | some (.lst ws) => kIxW ws[z.toNat]? μ
  | _ => oIx (.imm .non) (.imm .non) μ
theorem g_kIxL {ws : List W} {z : Int} : kIxL (some (.lst ws)) z μ = kIxW ws[z.toNat]? μ := Eq.trans rfl rfl
theorem g_ixLoc {ws : List W} {z : Int} (hm : μ[i]? = some (.lst ws)) (h : 0 ≤ z) : oIx (.loc i) (.imm (.int z)) μ = kIxW ws[z.toNat]? μ := by
  have : ixK μ (.loc i) (.imm (.int z)) = .lst ws z := by simp only [ixK, ditems, hm, ritems, litems, keyD]
  unfold oIx
  rw [this]; simp only; rw [atW_pos h]; cases ws[z.toNat]? <;> rfl
/-! statements -/
def Fl.thn (f : Fl) (b : Ms) : Fl := match f with
  | .nx E μ => b E μ
  | f => f
theorem g_seq : mSeq a b E μ = (a E μ).thn b := by unfold mSeq Fl.thn; cases a E μ <;> rfl
theorem g_thn : (Fl.nx E μ).thn b = b E μ := Eq.trans rfl rfl
theorem g_thnR : (Fl.rt w μ).thn b = .rt w μ := Eq.trans rfl rfl
theorem g_thnB : (Fl.bk E μ).thn b = .bk E μ := Eq.trans rfl rfl
theorem g_thnC : (Fl.ct E μ).thn b = .ct E μ := Eq.trans rfl rfl
def kA2 (x : Option Env) (μ : Store) : Fl := match x with
  | some E1 => .nx E1 μ
  | none => .bad
def kAsg (g : Mg) (E : Env) : W → Store → Fl := fun w μ => kA2 (g w E) μ
theorem g_asg : mAsg m tg E μ = (m E μ).fl E (kAsg tg E) := Eq.trans rfl rfl
theorem g_kAsg : kAsg tg E w μ = kA2 (tg w E) μ := Eq.trans rfl rfl
theorem g_kA2 : kA2 (some E1) μ = .nx E1 μ := Eq.trans rfl rfl
theorem g_gN : mgN i w E = some (E.set i (some w)) := Eq.trans rfl rfl
theorem g_gT {ds : List D} (h : ds.length = k) : mgT k gs (.imm (.tup ds)) E = gs (ds.map W.imm) E := by
  show (if (ds.map W.imm).length = k then _ else _) = _
  rw [if_pos (by rw [List.length_map]; exact h)]
def oBindE (x : Option Env) (gs : Mgs) (r : List W) : Option Env := match x with
  | some E1 => gs r E1
  | none => none
theorem g_gC {r : List W} : mgCons tg gs (w :: r) E = oBindE (tg w E) gs r := by unfold mgCons oBindE; rfl
theorem g_oBindE {r : List W} : oBindE (some E) gs r = gs r E := Eq.trans rfl rfl
theorem g_gNil : mgNil [] E = some E := Eq.trans rfl rfl
def kDrop (E : Env) : W → Store → Fl := fun _ μ1 => .nx E μ1
def kRet : W → Store → Fl := fun w μ1 => .rt w μ1
theorem g_drop : mDrop m E μ = (m E μ).fl E (kDrop E) := Eq.trans rfl rfl
theorem g_kDrop : kDrop E w μ = .nx E μ := Eq.trans rfl rfl
theorem g_ret : mRet m E μ = (m E μ).fl E kRet := Eq.trans rfl rfl
theorem g_kRet : kRet w μ = .rt w μ := Eq.trans rfl rfl
theorem g_retN : mRetN E μ = .rt (.imm .non) μ := Eq.trans rfl rfl
theorem g_skip : mSkip E μ = .nx E μ := Eq.trans rfl rfl
theorem g_brk : mBreak E μ = .bk E μ := Eq.trans rfl rfl
theorem g_cnt : mCont E μ = .ct E μ := Eq.trans rfl rfl
def kIfS (a b : Ms) (E : Env) : Bool → Store → Fl := fun k μ1 => if k = true then a E μ1 else b E μ1
theorem g_ifS : mIfS n a b E μ = (n E μ).fl E (kIfS a b E) := Eq.trans rfl rfl
theorem g_kIfST : kIfS a b E true μ = a E μ := Eq.trans rfl rfl
theorem g_kIfSF : kIfS a b E false μ = b E μ := Eq.trans rfl rfl
def kRun (f : Fl) : Rs W := match f with
  | .nx _ μ' => .ok (.imm .non) μ'
  | .rt w μ' => .ok w μ'
  | _ => .bad
theorem g_run {nl : Nat} {ws : List W} : runBody nl a ws μ = kRun (a (ws.map some ++ List.replicate (nl - ws.length) none) μ) := Eq.trans rfl rfl
theorem g_kRunN : kRun (.nx E μ) = .ok (.imm .non) μ := Eq.trans rfl rfl
theorem g_kRunR : kRun (.rt w μ) = .ok w μ := Eq.trans rfl rfl
/-! loops -/
def kFor (tg : Mg) (body : Ms) (E : Env) : List W × Gd → Store → Fl := fun p μ1 => forL p.2 tg body p.1 E μ1
theorem g_for : mFor mit tg a E μ = (mit E μ).fl E (kFor tg a E) := Eq.trans rfl rfl
theorem g_kFor {ws : List W} {gd : Gd} : kFor tg a E (ws, gd) μ = forL gd tg a ws E μ := Eq.trans rfl rfl
def kSrc : W → Store → Rs (List W × Gd) := fun w μ1 => match srcW μ1 w with
  | some q => .ok q μ1
  | none => .bad
theorem g_src : mSrc m E μ = (m E μ).bind kSrc := Eq.trans rfl rfl
theorem g_kSrcL {ds : List D} : kSrc (.imm (.lst ds)) μ = .ok (ds.map W.imm, []) μ := Eq.trans rfl rfl
theorem g_kSrcT {ds : List D} : kSrc (.imm (.tup ds)) μ = .ok (ds.map W.imm, []) μ := Eq.trans rfl rfl
theorem g_kSrcS {ns : List Int} : kSrc (.imm (.scr ns)) μ = .ok (ns.map fun n => W.imm (.int n), []) μ := Eq.trans rfl rfl
def kSrcL (i : Nat) (x : Option MO) (μ : Store) : Rs (List W × Gd) := match x with
  | some (.lst ws) => .ok (ws, [(i, .lst ws)]) μ
  | _ => .bad
theorem g_kSrcLoc : kSrc (.loc i) μ = kSrcL i μ[i]? μ := by
  unfold kSrc; simp only [srcW, sqK, lsrc]
  cases h : μ[i]? with
  | none => rfl
  | some mo => cases mo <;> rfl
theorem g_kSrcL2 {ws : List W} : kSrcL i (some (.lst ws)) μ = .ok (ws, [(i, .lst ws)]) μ := Eq.trans rfl rfl
def kFV (i : Nat) (tg : Mg) (body : Ms) (E : Env) (μ : Store) (x : Option (Option W)) : Fl := match x with
  | some (some (.imm (.dct kvs))) => noEx (forL [] tg body ((kvs.map fun p => (p.1, W.imm p.2)).map fun p => kW p.1) E μ)
  | some (some (.loc n)) => match μ[n]? with
    | some (.dct kvs) => noEx (forL [] tg body (kvs.map fun p => kW p.1) E (μ.set n (.fdct kvs)))
    | some (.fdct kvs) => noEx (forL [] tg body (kvs.map fun p => kW p.1) E μ)
    | _ => mFor (mSrc (mVar i)) tg body E μ
  | _ => mFor (mSrc (mVar i)) tg body E μ
theorem g_forV : mForV i tg a E μ = kFV i tg a E μ E[i]? := Eq.trans rfl rfl
theorem g_kFVL {ds : List D} : kFV i tg a E μ (some (some (.imm (.lst ds)))) = mFor (mSrc (mVar i)) tg a E μ := Eq.trans rfl rfl
theorem g_kFVT {ds : List D} : kFV i tg a E μ (some (some (.imm (.tup ds)))) = mFor (mSrc (mVar i)) tg a E μ := Eq.trans rfl rfl
theorem g_kFVS {ns : List Int} : kFV i tg a E μ (some (some (.imm (.scr ns)))) = mFor (mSrc (mVar i)) tg a E μ := Eq.trans rfl rfl
def kFVM (i : Nat) (tg : Mg) (body : Ms) (E : Env) (μ : Store) (n : Nat) (x : Option MO) : Fl := match x with
  | some (.dct kvs) => noEx (forL [] tg body (kvs.map fun p => kW p.1) E (μ.set n (.fdct kvs)))
  | some (.fdct kvs) => noEx (forL [] tg body (kvs.map fun p => kW p.1) E μ)
  | _ => mFor (mSrc (mVar i)) tg body E μ
theorem g_kFVloc {j : Nat} : kFV i tg a E μ (some (some (.loc j))) = kFVM i tg a E μ j μ[j]? := Eq.trans rfl rfl
theorem g_kFVM {ws : List W} {j : Nat} : kFVM i tg a E μ j (some (.lst ws)) = mFor (mSrc (mVar i)) tg a E μ := Eq.trans rfl rfl
def kR1 : List W → Store → Rs (List W × Gd) := fun ws μ1 => match ws with
  | [.imm (.int j)] => if in62 j = true then .ok (rangeW 0 j.toNat, []) μ1 else .bad
  | _ => .bad
def kR2 : List W → Store → Rs (List W × Gd) := fun ws μ1 => match ws with
  | [.imm (.int i), .imm (.int j)] => if (in62 i && in62 j) = true then .ok (rangeW i (j - i).toNat, []) μ1 else .bad
  | _ => .bad
theorem g_range1 : mRange1 ma E μ = (ma E μ).bind kR1 := Eq.trans rfl rfl
theorem g_range2 : mRange2 ma E μ = (ma E μ).bind kR2 := Eq.trans rfl rfl
theorem g_kR1 {j : Int} (h : -1000000000000000000 ≤ j ∧ j ≤ 1000000000000000000) : kR1 [.imm (.int j)] μ = .ok (rangeW 0 j.toNat, []) μ := if_pos (by unfold in62; simp; omega)
theorem g_kR2 {i j : Int} (h : -1000000000000000000 ≤ i ∧ i ≤ 1000000000000000000) (h' : -1000000000000000000 ≤ j ∧ j ≤ 1000000000000000000) : kR2 [.imm (.int i), .imm (.int j)] μ = .ok (rangeW i (j - i).toNat, []) μ := if_pos (by unfold in62; simp; omega)
theorem rangeW_z {lo : Int} : rangeW lo 0 = [] := Eq.trans rfl rfl
theorem rangeW_s {lo : Int} {k : Nat} : rangeW lo (k + 1) = .imm (.int lo) :: rangeW (lo + 1) k := by
  unfold rangeW
  rw [List.range_succ_eq_map, List.map_cons, List.map_map]
  simp only [Int.natCast_zero, Int.add_zero]
  congr 1
  refine List.map_congr_left fun j _ => ?_
  simp only [Function.comp]
  congr 2
  omega
/-! methods of lists -/
def kBM (k : Nat) (g : OpM) (ma : Ma) (E : Env) : W → Store → Rs W := fun w μ1 => if tyK μ1 w = k then (ma E μ1).bind (g w) else .bad
theorem g_bm {g : OpM} : mBM k g m ma E μ = (m E μ).bind (kBM k g ma E) := Eq.trans rfl rfl
theorem g_kBM {g : OpM} (h : tyK μ w = k) : kBM k g ma E w μ = (ma E μ).bind (g w) := if_pos h
def kBML (k : Nat) (g : OpM) (ma : Ma) (E : Env) (i : Nat) (x : Option MO) (μ : Store) : Rs W := match x with
  | some (.lst _) => if k = 4 then (ma E μ).bind (g (.loc i)) else .bad
  | some (.dct _) => if k = 5 then (ma E μ).bind (g (.loc i)) else .bad
  | _ => if k = 9 then (ma E μ).bind (g (.loc i)) else .bad
theorem g_kBMloc {g : OpM} : kBM k g ma E (.loc i) μ = kBML k g ma E i μ[i]? μ := by
  unfold kBM tyK kBML
  simp only [eq_comm]
  cases h : μ[i]? with
  | none => rfl
  | some mo => cases mo <;> rfl
theorem g_kBML4 {g : OpM} {ws : List W} : kBML 4 g ma E i (some (.lst ws)) μ = (ma E μ).bind (g (.loc i)) := Eq.trans rfl rfl
theorem g_kBML5 {g : OpM} {ws : List (Key × W)} : kBML 5 g ma E i (some (.dct ws)) μ = (ma E μ).bind (g (.loc i)) := Eq.trans rfl rfl
def kApp (i : Nat) (w : W) (x : Option MO) (μ : Store) : Rs W := match x with
  | some (.lst xs) => if xs.length < cap then .ok (.imm .non) (μ.set i (.lst (xs ++ [w]))) else .bad
  | _ => .bad
theorem g_append : oAppend (.loc i) [w] μ = kApp i w μ[i]? μ := by
  unfold oAppend onL kApp
  cases h : μ[i]? with
  | none => simp only [h]
  | some mo => cases mo <;> simp only [h]
theorem g_kApp {ws : List W} (hl : ws.length < 100000) : kApp i w (some (.lst ws)) μ = .ok (.imm .non) (μ.set i (.lst (ws ++ [w]))) := if_pos (Nat.lt_of_lt_of_le hl (by decide))
theorem g_extend {ws : List W} {ds : List D} (h : μ[i]? = some (.lst ws)) (hl : ws.length + ds.length ≤ 100000) : oExtend (.loc i) [.imm (.lst ds)] μ = .ok (.imm .non) (μ.set i (.lst (ws ++ ds.map W.imm))) := by
  unfold oExtend onL; simp only [h, litems]; rw [if_pos (by rw [List.length_map]; exact Nat.le_trans hl (by decide))]
def kIns (i : Nat) (z : Int) (w : W) (x : Option MO) (μ : Store) : Rs W := match x with
  | some (.lst xs) => if xs.length < cap ∧ 0 ≤ z ∧ z < 2 ^ 63 then .ok (.imm .non) (μ.set i (.lst (xs.take z.toNat ++ [w] ++ xs.drop z.toNat))) else .bad
  | _ => .bad
theorem g_insert {z : Int} : oInsert (.loc i) [.imm (.int z), w] μ = kIns i z w μ[i]? μ := by
  unfold oInsert onL kIns
  cases h : μ[i]? with
  | none => simp only [h]
  | some mo => cases mo <;> simp only [h]
theorem g_kIns {ws : List W} {z : Int} (hl : ws.length < 100000) (hz : 0 ≤ z ∧ z ≤ 1000000) : kIns i z w (some (.lst ws)) μ = .ok (.imm .non) (μ.set i (.lst (ws.take z.toNat ++ [w] ++ ws.drop z.toNat))) := if_pos ⟨Nat.lt_of_lt_of_le hl (by decide), hz.1, by omega⟩
/-! calls -/
def kCall (k : Nat) (G : Fg) : List W → Store → Rs W := fun ws μ1 => if ws.length = k then (G ws μ1).fin else .bad
theorem g_call {G : Fg} : mCall k G ma E μ = (ma E μ).bind (kCall k G) := Eq.trans rfl rfl
theorem g_kCall {G : Fg} {ws : List W} (h : ws.length = k) : kCall k G ws μ = (G ws μ).fin := if_pos h
theorem g_retr : mRetr m E μ = retr μ (m E μ) := Eq.trans rfl rfl
theorem g_retrL : mRetrL m E μ = retrL μ (m E μ) := Eq.trans rfl rfl
theorem g_retrI {d : D} : retr μ (.ok (.imm d) μ) = .ok (.imm d) μ := retr_imm0 rfl
theorem retr_fin {r : Rs W} {d : D} (h : retr μ r = .ok (.imm d) μ) : retr μ r.fin = .ok (.imm d) μ := by
  cases r with
  | ex c μ' => exact absurd h (by unfold retr; simp)
  | _ => exact h
end
end Gx

namespace Gx
open PySem PySem.Spec PyProof.Rows L2
section
variable {E E1 : Env} {μ μ1 : Store} {m mb mc mo mi me : Me} {c n n' : Mt} {ma : Ma} {a b : Ms} {w w2 : W} {o o' : Op2} {tg : Mg} {gs : Mgs} {mit : Mi} {i k : Nat}
theorem optAll_plain {α : Type} {f : α → Option PyData} (h : ∀ d e, f d = some e → e.plain = true) : ∀ {ds : List α} {es : List PyData}, optAll f ds = some es → PyData.plainAll es = true
  | [], es, q => by cases q; rfl
  | d :: r, es, q => by
    unfold optAll at q
    split at q
    · cases q
    · rename_i x hx
      split at q
      · cases q
      · rename_i y hy
        cases q
        simp only [PyData.plainAll, h _ _ hx, optAll_plain h hy, Bool.and_self]
theorem ints_plain : ∀ ns : List Int, PyData.plainAll (ns.map PyData.int) = true
  | [] => rfl
  | n :: r => by simp only [List.map_cons, PyData.plainAll, ints_plain r]; rfl
theorem pyD_plain : ∀ (k : Nat) (d : D) (e : PyData), pyD k d = some e → e.plain = true
  | 0, d, e, h => by
    cases d <;> simp only [pyD] at h <;> cases h <;> rfl
  | k + 1, d, e, h => by
    cases d with
    | tup ds =>
      simp only [pyD] at h
      split at h
      · rename_i es he; cases h; simp only [PyData.plain]; exact optAll_plain (pyD_plain k) he
      · cases h
    | lst ds =>
      simp only [pyD] at h
      split at h
      · rename_i es he; cases h; simp only [PyData.plain]; exact optAll_plain (pyD_plain k) he
      · cases h
    | scr ns => simp only [pyD] at h; cases h; simp only [PyData.plain]; exact ints_plain ns
    | _ => simp only [pyD] at h; cases h <;> rfl
theorem pyW_plain : ∀ (k : Nat) (μ : Store) (w : W) (e : PyData), pyW k μ w = some e → e.plain = true
  | 0, μ, w, e, h => by
    cases w with
    | imm d => simp only [pyW] at h; exact pyD_plain _ _ _ h
    | _ => simp only [pyW] at h; cases h
  | k + 1, μ, w, e, h => by
    cases w with
    | imm d => simp only [pyW] at h; exact pyD_plain _ _ _ h
    | tup ws =>
      simp only [pyW] at h
      split at h
      · rename_i es he; cases h; simp only [PyData.plain]; exact optAll_plain (pyW_plain k μ) he
      · cases h
    | loc n =>
      simp only [pyW] at h
      split at h
      · split at h
        · rename_i es he; cases h; simp only [PyData.plain]; exact optAll_plain (pyW_plain k μ) he
        · cases h
      · cases h
theorem oEq_same {e : PyData} (h : pyW fuelD μ w = some e) (h2 : pyW fuelD μ w2 = some e) : oEq w w2 μ = .ok (.imm (.bl true)) μ := by
  unfold oEq; rw [h, h2]; simp only; rw [PySem.SeqAt.eqv_refl_plain e (pyW_plain _ _ _ _ h)]
theorem optAll_pyW {ds : List D} {k : Nat} : optAll (pyW k μ) (ds.map W.imm) = optAll (pyD k) ds := by
  induction ds with
  | nil => rfl
  | cons d r ih =>
    rw [List.map_cons]
    unfold optAll
    rw [ih, show pyW k μ (.imm d) = pyD k d by cases k <;> rfl]
theorem pyW_loc {ds : List D} {k : Nat} (h : μ[i]? = some (.lst (ds.map W.imm))) : pyW (k + 1) μ (.loc i) = pyD (k + 1) (.lst ds) := by
  simp only [pyW, h, optAll_pyW, pyD]
theorem pyW_imm {d : D} {k : Nat} : pyW k μ (.imm d) = pyD k d := by cases k <;> rfl
/-- what can be compared: no deeper than k -/
def cmpD : Nat → D → Bool
  | _, .non => true
  | _, .bl _ => true
  | _, .int _ => true
  | _, .str _ => true
  | k + 1, .tup ds => ds.all (cmpD k)
  | k + 1, .lst ds => ds.all (cmpD k)
  | _ + 1, .scr _ => true
  | _, _ => false
theorem optAll_some {α β : Type} {f : α → Option β} : ∀ {ds : List α}, (∀ d ∈ ds, ∃ e, f d = some e) → ∃ es, optAll f ds = some es
  | [], _ => ⟨[], rfl⟩
  | d :: r, h => by
    obtain ⟨x, hx⟩ := h d (by simp)
    obtain ⟨y, hy⟩ := optAll_some (f := f) (ds := r) fun d hd => h d (by simp [hd])
    exact ⟨x :: y, by unfold optAll; rw [hx, hy]⟩
theorem cmpD_ok : ∀ (k : Nat) (d : D), cmpD k d = true → ∃ e, pyD k d = some e
  | 0, d, h => by cases d <;> first | exact ⟨_, rfl⟩ | (simp only [cmpD] at h; cases h)
  | k + 1, d, h => by
    cases d with
    | tup ds =>
      simp only [cmpD, List.all_eq_true] at h
      obtain ⟨es, he⟩ := optAll_some fun d hd => cmpD_ok k d (h d hd)
      exact ⟨_, by simp only [pyD, he]; rfl⟩
    | lst ds =>
      simp only [cmpD, List.all_eq_true] at h
      obtain ⟨es, he⟩ := optAll_some fun d hd => cmpD_ok k d (h d hd)
      exact ⟨_, by simp only [pyD, he]; rfl⟩
    | _ => first | exact ⟨_, rfl⟩ | (simp only [cmpD] at h; cases h)
theorem oEq_refl {d : D} (h : cmpD fuelD d = true) : oEq (.imm d) (.imm d) μ = .ok (.imm (.bl true)) μ := by
  obtain ⟨e, he⟩ := cmpD_ok _ _ h
  exact oEq_same (by rw [pyW_imm]; exact he) (by rw [pyW_imm]; exact he)
theorem oEq_locR {ds : List D} (h : cmpD fuelD (.lst ds) = true) (hm : μ[i]? = some (.lst (ds.map W.imm))) : oEq (.imm (.lst ds)) (.loc i) μ = .ok (.imm (.bl true)) μ := by
  obtain ⟨e, he⟩ := cmpD_ok _ _ h
  exact oEq_same (by rw [pyW_imm]; exact he) (by rw [show fuelD = 8 + 1 from rfl, pyW_loc hm]; exact he)
theorem oEq_locL {ds : List D} (h : cmpD fuelD (.lst ds) = true) (hm : μ[i]? = some (.lst (ds.map W.imm))) : oEq (.loc i) (.imm (.lst ds)) μ = .ok (.imm (.bl true)) μ := by
  obtain ⟨e, he⟩ := cmpD_ok _ _ h
  exact oEq_same (by rw [show fuelD = 8 + 1 from rfl, pyW_loc hm]; exact he) (by rw [pyW_imm]; exact he)
theorem g_eqI {i j : Int} : oEq (.imm (.int i)) (.imm (.int j)) μ = .ok (.imm (.bl (decide (i = j)))) μ := by
  show Rs.ok (W.imm (D.bl (PyData.eqv (.int i) (.int j)))) μ = _
  rw [show PyData.eqv (.int i) (.int j) = decide (i = j) by simp only [PyData.eqv]; by_cases h : i = j <;> simp [h]]
theorem g_eqB {i j : Bool} : oEq (.imm (.bl i)) (.imm (.bl j)) μ = .ok (.imm (.bl (decide (i = j)))) μ := by
  show Rs.ok (W.imm (D.bl (PyData.eqv (.bool i) (.bool j)))) μ = _
  rw [show PyData.eqv (.bool i) (.bool j) = decide (i = j) by simp only [PyData.eqv]; by_cases h : i = j <;> simp [h]]
theorem g_eqS {i j : Str} : oEq (.imm (.str i)) (.imm (.str j)) μ = .ok (.imm (.bl (decide (i = j)))) μ := by
  show Rs.ok (W.imm (D.bl (PyData.eqv (.str i) (.str j)))) μ = _
  rw [show PyData.eqv (.str i) (.str j) = decide (i = j) by simp only [PyData.eqv]; by_cases h : i = j <;> simp [h]]
theorem g_eqNN : oEq (.imm .non) (.imm .non) μ = .ok (.imm (.bl true)) μ := oEq_refl rfl
theorem g_eqNI {i : Int} : oEq (.imm .non) (.imm (.int i)) μ = .ok (.imm (.bl false)) μ := by
  show Rs.ok (W.imm (D.bl (PyData.eqv .none (.int i)))) μ = _
  rw [show PyData.eqv .none (.int i) = false by simp [PyData.eqv]]
theorem g_eqIN {i : Int} : oEq (.imm (.int i)) (.imm .non) μ = .ok (.imm (.bl false)) μ := by
  show Rs.ok (W.imm (D.bl (PyData.eqv (.int i) .none))) μ = _
  rw [show PyData.eqv (.int i) .none = false by simp [PyData.eqv]]
theorem g_neI {i j : Int} : oNe (.imm (.int i)) (.imm (.int j)) μ = .ok (.imm (.bl (!decide (i = j)))) μ := by
  show Rs.ok (W.imm (D.bl (!PyData.eqv (.int i) (.int j)))) μ = _
  rw [show PyData.eqv (.int i) (.int j) = decide (i = j) by simp only [PyData.eqv]; by_cases h : i = j <;> simp [h]]
theorem g_neB {i j : Bool} : oNe (.imm (.bl i)) (.imm (.bl j)) μ = .ok (.imm (.bl (!decide (i = j)))) μ := by
  show Rs.ok (W.imm (D.bl (!PyData.eqv (.bool i) (.bool j)))) μ = _
  rw [show PyData.eqv (.bool i) (.bool j) = decide (i = j) by simp only [PyData.eqv]; by_cases h : i = j <;> simp [h]]
theorem g_neS {i j : Str} : oNe (.imm (.str i)) (.imm (.str j)) μ = .ok (.imm (.bl (!decide (i = j)))) μ := by
  show Rs.ok (W.imm (D.bl (!PyData.eqv (.str i) (.str j)))) μ = _
  rw [show PyData.eqv (.str i) (.str j) = decide (i = j) by simp only [PyData.eqv]; by_cases h : i = j <;> simp [h]]
def kIxM (x : Option MO) (i : Nat) (z : Int) (μ : Store) : Rs W := match x with
  | some (.lst ws) => kIxW ws[z.toNat]? μ
  | _ => oIx (.loc i) (.imm (.int z)) μ
theorem g_ixM {z : Int} (h : 0 ≤ z) : oIx (.loc i) (.imm (.int z)) μ = kIxM μ[i]? i z μ := by
  cases hm : μ[i]? with
  | none => rfl
  | some mo => cases mo with
    | lst ws => exact g_ixLoc hm h
    | _ => rfl
theorem g_kIxM {ws : List W} {z : Int} : kIxM (some (.lst ws)) i z μ = kIxW ws[z.toNat]? μ := Eq.trans rfl rfl
end
/-- the digits lie below their sizes -/
def Bd : List Int → List Int → Prop
  | [], ds => ds = []
  | s :: ss, ds => ∃ d r, ds = d :: r ∧ 0 ≤ d ∧ d < s ∧ Bd ss r
theorem bd_of : ∀ (ss ds : List Int), ds.length = ss.length → (∀ (i : Nat) (s d : Int), ss[i]? = some s → ds[i]? = some d → 0 ≤ d ∧ d < s) → Bd ss ds
  | [], ds, hl, _ => List.eq_nil_of_length_eq_zero (by simpa using hl)
  | s :: ss, [], hl, _ => by simp at hl
  | s :: ss, d :: ds, hl, h => ⟨d, ds, rfl, (h 0 s d rfl rfl).1, (h 0 s d rfl rfl).2, bd_of ss ds (by simpa using hl) fun i s d e e' => h (i + 1) s d (by simpa using e) (by simpa using e')⟩
end Gx
namespace Gx
/-- a statement goes on to a state of which P holds -/
def StepTo (f : Fl) (P : Env → Store → Prop) : Prop := ∃ E2 μ2, (f = .nx E2 μ2 ∨ f = .ct E2 μ2) ∧ P E2 μ2
theorem step_nx {f : Fl} {P : Env → Store → Prop} {E2 : Env} {μ2 : Store} (h : f = .nx E2 μ2) (p : P E2 μ2) : StepTo f P := ⟨E2, μ2, .inl h, p⟩
theorem step_ct {f : Fl} {P : Env → Store → Prop} {E2 : Env} {μ2 : Store} (h : f = .ct E2 μ2) (p : P E2 μ2) : StepTo f P := ⟨E2, μ2, .inr h, p⟩
theorem forI {a : Ms} {gd : Gd} {tg : Mg} (Inv : List W → Env → Store → Prop) (step : ∀ w ws E μ, Inv (w :: ws) E μ → ∃ E1, tg w E = some E1 ∧ StepTo (a E1 μ) fun E2 μ2 => chk gd μ2 = true ∧ Inv ws E2 μ2) {ws : List W} {E : Env} {μ : Store} (h : Inv ws E μ) : ∃ E' μ', forL gd tg a ws E μ = .nx E' μ' ∧ Inv [] E' μ' :=
  forL_inv Inv (fun w ws E μ h => by
    obtain ⟨E1, h1, E2, μ2, h2, h3, h4⟩ := step w ws E μ h
    exact ⟨E1, E2, μ2, h1, h2, h3, h4⟩) ws E μ h
/-- over a range: by the number that comes next -/
theorem forR {a : Ms} {gd : Gd} {i : Nat} {hi : Int} (Inv : Int → Env → Store → Prop) (step : ∀ (k : Int) E μ, k < hi → Inv k E μ → StepTo (a (E.set i (some (.imm (.int k)))) μ) fun E2 μ2 => chk gd μ2 = true ∧ Inv (k + 1) E2 μ2) : ∀ {n : Nat} {lo : Int} {E : Env} {μ : Store}, n = (hi - lo).toNat → Inv lo E μ → ∃ E' μ' k, forL gd (mgN i) a (rangeW lo n) E μ = .nx E' μ' ∧ Inv k E' μ' ∧ (lo ≤ hi → k = hi) ∧ (hi ≤ lo → k = lo)
  | 0, lo, E, μ, hn, h => ⟨E, μ, lo, rfl, h, fun h1 => by omega, fun _ => rfl⟩
  | n + 1, lo, E, μ, hn, h => by
    obtain ⟨E2, μ2, h2, h3, h4⟩ := step lo E μ (by omega) h
    obtain ⟨E', μ', k, e, h5, h6, h7⟩ := forR Inv step (n := n) (lo := lo + 1) (by omega) h4
    refine ⟨E', μ', k, ?_, h5, fun _ => h6 (by omega), fun _ => by omega⟩
    rw [rangeW_s]
    rcases h2 with h2 | h2
    · rw [forL_step g_gN h2 h3]; exact e
    · rw [forL_ct g_gN h2 h3]; exact e
end Gx
namespace Gx
theorem g_isK_0_0 : isK 0 0 = true := by decide
theorem g_isK_0_1 : isK 0 1 = false := by decide
theorem g_isK_0_2 : isK 0 2 = false := by decide
theorem g_isK_0_3 : isK 0 3 = false := by decide
theorem g_isK_0_4 : isK 0 4 = false := by decide
theorem g_isK_0_5 : isK 0 5 = false := by decide
theorem g_isK_1_0 : isK 1 0 = true := by decide
theorem g_isK_1_1 : isK 1 1 = true := by decide
theorem g_isK_1_2 : isK 1 2 = false := by decide
theorem g_isK_1_3 : isK 1 3 = false := by decide
theorem g_isK_1_4 : isK 1 4 = false := by decide
theorem g_isK_1_5 : isK 1 5 = false := by decide
theorem g_isK_2_0 : isK 2 0 = false := by decide
theorem g_isK_2_1 : isK 2 1 = false := by decide
theorem g_isK_2_2 : isK 2 2 = true := by decide
theorem g_isK_2_3 : isK 2 3 = false := by decide
theorem g_isK_2_4 : isK 2 4 = false := by decide
theorem g_isK_2_5 : isK 2 5 = false := by decide
theorem g_isK_3_0 : isK 3 0 = false := by decide
theorem g_isK_3_1 : isK 3 1 = false := by decide
theorem g_isK_3_2 : isK 3 2 = false := by decide
theorem g_isK_3_3 : isK 3 3 = true := by decide
theorem g_isK_3_4 : isK 3 4 = false := by decide
theorem g_isK_3_5 : isK 3 5 = false := by decide
theorem g_isK_4_0 : isK 4 0 = false := by decide
theorem g_isK_4_1 : isK 4 1 = false := by decide
theorem g_isK_4_2 : isK 4 2 = false := by decide
theorem g_isK_4_3 : isK 4 3 = false := by decide
theorem g_isK_4_4 : isK 4 4 = true := by decide
theorem g_isK_4_5 : isK 4 5 = false := by decide
theorem g_isK_5_0 : isK 5 0 = false := by decide
theorem g_isK_5_1 : isK 5 1 = false := by decide
theorem g_isK_5_2 : isK 5 2 = false := by decide
theorem g_isK_5_3 : isK 5 3 = false := by decide
theorem g_isK_5_4 : isK 5 4 = false := by decide
theorem g_isK_5_5 : isK 5 5 = true := by decide
theorem g_isK_6_0 : isK 6 0 = false := by decide
theorem g_isK_6_1 : isK 6 1 = false := by decide
theorem g_isK_6_2 : isK 6 2 = false := by decide
theorem g_isK_6_3 : isK 6 3 = false := by decide
theorem g_isK_6_4 : isK 6 4 = false := by decide
theorem g_isK_6_5 : isK 6 5 = false := by decide
end Gx

namespace Gx
open PySem PySem.Spec PyProof.Rows L2
section
variable {E E1 : Env} {μ μ1 : Store} {m mb mc mo mi me : Me} {c n n' : Mt} {ma : Ma} {a b : Ms} {w w2 : W} {o o' : Op2} {tg : Mg} {gs : Mgs} {mit : Mi} {i k : Nat}
/-! ### the last item -/
theorem ixN_neg {n : Nat} {z : Int} (h : z < 0) (h2 : 0 ≤ (n : Int) + z) : L2.ixN n z = some ((n : Int) + z).toNat := by
  unfold L2.ixN
  rw [if_neg (by omega)]
  first | rw [if_pos (by omega)] | skip
  first | rfl | rw [Int.add_comm] | (congr 1; rw [Int.add_comm])
theorem atW_last {ws : List W} (h : ws[ws.length - 1]? = some w) : atW ws (-1) = some w := by
  have hl := (List.getElem?_eq_some_iff.mp h).1
  unfold atW
  rw [ixN_neg (by omega) (by omega)]
  show ws[((ws.length : Int) + -1).toNat]? = some w
  rw [show ((ws.length : Int) + -1).toNat = ws.length - 1 by omega]
  exact h
theorem ix_lastLoc {ws : List W} (hm : μ[i]? = some (.lst (ws ++ [w]))) : oIx (.loc i) (.imm (.int (-1))) μ = .ok w μ := by
  have : ixK μ (.loc i) (.imm (.int (-1))) = .lst (ws ++ [w]) (-1) := by simp only [ixK, ditems, hm, ritems, litems, keyD]
  unfold oIx
  rw [this]; simp only
  rw [atW_last (w := w) (by simp)]
theorem ix_lastL {ds : List D} {d : D} : oIx (.imm (.lst (ds ++ [d]))) (.imm (.int (-1))) μ = .ok (.imm d) μ := by
  show (match atW ((ds ++ [d]).map W.imm) (-1) with | some w => Rs.ok w μ | none => .bad) = _
  rw [atW_last (w := .imm d) (by simp)]
theorem put_last {ws : List W} {x : W} (hm : μ[i]? = some (.lst (ws ++ [w]))) : putIx (.loc i) (.imm (.int (-1))) x μ = some (μ.set i (.lst (ws ++ [x]))) := by
  unfold putIx
  simp only [hm]
  rw [ixN_neg (by omega) (by simp; omega)]
  simp only
  rw [show (((ws ++ [w]).length : Int) + -1).toNat = ws.length by simp; omega]
  simp
theorem put_at {ws : List W} {x : W} {z : Int} (hm : μ[i]? = some (.lst ws)) (h : 0 ≤ z) (h2 : z < ws.length) : putIx (.loc i) (.imm (.int z)) x μ = some (μ.set i (.lst (ws.set z.toNat x))) := by
  unfold putIx
  simp only [hm]
  rw [show L2.ixN ws.length z = some z.toNat by unfold L2.ixN; rw [if_pos h, if_pos h2]]
/-! ### o[i] = e, o.f = e -/
def kPut4 (E : Env) (x : Option Store) : Fl := match x with
  | some μ4 => .nx E μ4
  | none => .bad
def kPut3 (E : Env) (w x : W) : W → Store → Fl := fun iw μ3 => kPut4 E (putIx w iw x μ3)
def kPut2 (E : Env) (mi : Me) (x : W) : W → Store → Fl := fun w μ2 => (mi E μ2).fl E (kPut3 E w x)
def kPut1 (E : Env) (mo mi : Me) : W → Store → Fl := fun x μ1 => (mo E μ1).fl E (kPut2 E mi x)
theorem g_put : mPutIx mo mi me E μ = (me E μ).fl E (kPut1 E mo mi) := Eq.trans rfl rfl
theorem g_kPut1 : kPut1 E mo mi w μ = (mo E μ).fl E (kPut2 E mi w) := Eq.trans rfl rfl
theorem g_kPut2 : kPut2 E mi w w2 μ = (mi E μ).fl E (kPut3 E w2 w) := Eq.trans rfl rfl
theorem g_kPut3 {x : W} : kPut3 E w x w2 μ = kPut4 E (putIx w w2 x μ) := Eq.trans rfl rfl
theorem g_kPut4 : kPut4 E (some μ) = .nx E μ := Eq.trans rfl rfl
/-! ### extend, sum, sorted -/
def kExt (i : Nat) (x : Option MO) (ds : List D) (μ : Store) : Rs W := match x with
  | some (.lst xs) => if xs.length + ds.length ≤ cap then .ok (.imm .non) (μ.set i (.lst (xs ++ ds.map W.imm))) else .bad
  | _ => .bad
theorem g_ext {ds : List D} : oExtend (.loc i) [.imm (.lst ds)] μ = kExt i μ[i]? ds μ := by
  unfold oExtend onL kExt
  cases h : μ[i]? with
  | none => simp only [h]
  | some mo => cases mo <;> simp only [h, litems, List.length_map]
theorem g_kExt {ws : List W} {ds : List D} (hl : ws.length + ds.length ≤ 100000) : kExt i (some (.lst ws)) ds μ = .ok (.imm .non) (μ.set i (.lst (ws ++ ds.map W.imm))) := if_pos (Nat.le_trans hl (by decide))
theorem g_sum {is : List Int} : oSum [.imm (.lst (is.map D.int))] μ = .ok (.imm (.int is.sum)) μ := by
  show (match intsW ((is.map D.int).map W.imm) with | some is => Rs.ok (W.imm (D.int is.sum)) μ | none => .bad) = _
  rw [List.map_map]
  rw [show is.map (W.imm ∘ D.int) = is.map fun i => W.imm (.int i) from rfl, intsW_map]
theorem pairW_map {α : Type} {f : α → D} {g : α → Int × Int} (h : ∀ x, f x = pairD (g x)) : ∀ l : List α, optAll pairW1 ((l.map f).map W.imm) = some (l.map g)
  | [] => rfl
  | x :: r => by
    simp only [List.map_cons]
    unfold optAll
    rw [pairW_map h r, h x]
    rfl
theorem intsW_pairs {p : Int × Int} {r : List W} : intsW (.imm (pairD p) :: r) = none := rfl
theorem sorted_pairs {fz : Bool} {ps : List (Int × Int)} : oSorted fz [.imm (.lst (ps.map pairD))] μ = mkL fz ((srtB leP ps).map fun p => W.imm (pairD p)) μ := by
  show (match sortW ((ps.map pairD).map W.imm) with | some ys => mkL fz ys μ | none => .bad) = _
  cases ps with
  | nil => rfl
  | cons p r =>
    unfold sortW
    have e := pairW_map (f := pairD) (g := fun p => p) (fun _ => rfl) (p :: r)
    rw [e]
    simp only [List.map_cons, intsW_pairs, List.map_id']
theorem sorted_ints {fz : Bool} {is : List Int} : oSorted fz [.imm (.lst (is.map D.int))] μ = mkL fz ((srtB leI is).map fun i => W.imm (.int i)) μ := by
  show (match sortW ((is.map D.int).map W.imm) with | some ys => mkL fz ys μ | none => .bad) = _
  unfold sortW
  rw [List.map_map, show is.map (W.imm ∘ D.int) = is.map fun i => W.imm (.int i) from rfl, intsW_map]
/-! ### a comprehension whose parts leave the store alone -/
theorem compL_pure {gd : Gd} {mt : Mt} {E0 : Env} {k : Nat} {f : W → Option W} (hg : ∀ (μ : Store) x, chk gd μ = true → chk gd (μ.set k x) = true) : ∀ (ws acc : List W) (μ : Store), chk gd μ = true → μ[k]? = some (.lst acc) → acc.length + ws.length ≤ 1000000 →
    (∀ w ∈ ws, ∃ E1, tg w E0 = some E1 ∧ ∀ μ, chk gd μ = true → match f w with
      | none => mt E1 μ = .ok false μ
      | some y => mt E1 μ = .ok true μ ∧ me E1 μ = .ok y μ) → compL gd tg mt me E0 k ws μ = .ok () (μ.set k (.lst (acc ++ ws.filterMap f)))
  | [], acc, μ, hc, hk, hl, h => by
    unfold compL
    have : μ.set k (.lst acc) = μ := by
      refine List.ext_getElem? fun j => ?_
      rw [List.getElem?_set]
      split
      · rename_i e
        subst e
        have hlt := (List.getElem?_eq_some_iff.mp hk).1
        rw [if_pos hlt, hk]
      · rfl
    rw [List.filterMap_nil, List.append_nil, this]
  | w :: ws, acc, μ, hc, hk, hl, h => by
    obtain ⟨E1, h1, h2⟩ := h w (by simp)
    have h2 := h2 μ hc
    have hlt := (List.getElem?_eq_some_iff.mp hk).1
    unfold compL
    rw [h1]; simp only
    cases hf : f w with
    | none =>
      rw [hf] at h2
      rw [h2]; simp only
      rw [if_pos hc, compL_pure hg ws acc μ hc hk (by simp at hl; omega) fun w hw => h w (by simp [hw])]
      simp [hf]
    | some y =>
      rw [hf] at h2
      rw [h2.1]; simp only
      rw [h2.2]; simp only [hk]
      have hc2 := hg μ (.lst (acc ++ [y])) hc
      rw [if_pos ⟨Nat.lt_of_lt_of_le (by simp at hl; omega : acc.length < 1000000) (by decide), hc2⟩]
      rw [compL_pure hg ws (acc ++ [y]) (μ.set k (.lst (acc ++ [y]))) hc2 (by rw [List.getElem?_set]; simp [hlt]) (by simp at hl ⊢; omega) fun w hw => h w (by simp [hw])]
      simp [hf]
/-- .. over data, as data -/
theorem lc_data {mt : Mt} {vs : List Nat} {ds : List D} {f : D → Option D} (hi : mit E μ = .ok (ds.map W.imm, []) μ) (hl : ds.length ≤ 1000000)
    (h : ∀ d ∈ ds, ∃ E1, tg (.imm d) (wipeW E vs) = some E1 ∧ ∀ μ, match f d with
      | none => mt E1 μ = .ok false μ
      | some y => mt E1 μ = .ok true μ ∧ me E1 μ = .ok (.imm y) μ) : retr μ (mLc mit tg mt me vs E μ) = .ok (.imm (.lst (ds.filterMap f))) μ := by
  have e : mLc mit tg mt me vs E μ = .ok (.loc μ.length) (μ ++ [.lst ((ds.filterMap f).map W.imm)]) := by
    unfold mLc
    rw [hi]
    simp only [bind_ok]
    rw [compL_pure (f := fun w => match w with | .imm d => (f d).map W.imm | _ => none) (acc := []) (fun _ _ _ => rfl) _ _ rfl (by simp) (by simpa using hl)]
    · simp only [bind_ok, List.nil_append, setNew]
      congr 3
      rw [List.filterMap_map, List.map_filterMap]
      rfl
    · intro w hw
      obtain ⟨d, hd, rfl⟩ := List.mem_map.mp hw
      obtain ⟨E1, h1, h2⟩ := h d hd
      refine ⟨E1, h1, fun μ _ => ?_⟩
      have := h2 μ
      cases hf : f d with
      | none => rw [hf] at this; simpa [hf] using this
      | some y => rw [hf] at this; simpa [hf] using this
  exact retr_loc e (Nat.le_refl _) (by simp)
end
/-! ### loops over a list that stands for another -/
section
variable {a b : Ms} {c : Mt} {gd : Gd} {tg : Mg} {α : Type} {f : α → W}
theorem forD (Inv : List α → Env → Store → Prop) (step : ∀ x r E μ, Inv (x :: r) E μ → ∃ E1, tg (f x) E = some E1 ∧ StepTo (a E1 μ) fun E2 μ2 => chk gd μ2 = true ∧ Inv r E2 μ2) : ∀ {l : List α} {E : Env} {μ : Store}, Inv l E μ → ∃ E' μ', forL gd tg a (l.map f) E μ = .nx E' μ' ∧ Inv [] E' μ'
  | [], E, μ, h => ⟨E, μ, rfl, h⟩
  | x :: r, E, μ, h => by
    obtain ⟨E1, h1, E2, μ2, h2, h3, h4⟩ := step x r E μ h
    obtain ⟨E', μ', e, i⟩ := forD Inv step h4
    refine ⟨E', μ', ?_, i⟩
    rcases h2 with h2 | h2
    · rw [List.map_cons, forL_step h1 h2 h3]; exact e
    · rw [List.map_cons, forL_ct h1 h2 h3]; exact e
/-- .. that may end with a return -/
theorem forDR (Inv : List α → Env → Store → Prop) (P : W → Store → Prop) (step : ∀ x r E μ, Inv (x :: r) E μ → ∃ E1, tg (f x) E = some E1 ∧ ((StepTo (a E1 μ) fun E2 μ2 => chk gd μ2 = true ∧ Inv r E2 μ2) ∨ ∃ v μ2, a E1 μ = .rt v μ2 ∧ P v μ2)) : ∀ {l : List α} {E : Env} {μ : Store}, Inv l E μ → (∃ E' μ', forL gd tg a (l.map f) E μ = .nx E' μ' ∧ Inv [] E' μ') ∨ ∃ v μ', forL gd tg a (l.map f) E μ = .rt v μ' ∧ P v μ'
  | [], E, μ, h => .inl ⟨E, μ, rfl, h⟩
  | x :: r, E, μ, h => by
    obtain ⟨E1, h1, ⟨E2, μ2, h2, h3, h4⟩ | ⟨v, μ2, h2, h3⟩⟩ := step x r E μ h
    · have e : forL gd tg a ((x :: r).map f) E μ = forL gd tg a (r.map f) E2 μ2 := by
        rcases h2 with h2 | h2
        · rw [List.map_cons, forL_step h1 h2 h3]
        · rw [List.map_cons, forL_ct h1 h2 h3]
      rw [e]
      exact forDR Inv P step h4
    · exact .inr ⟨v, μ2, by rw [List.map_cons, forL_rt h1 h2], h3⟩
/-- while -/
theorem whileI (Inv : Nat → Env → Store → Prop) (Post : Env → Store → Prop) (step : ∀ k E μ, Inv k E μ → (∃ μ1, c E μ = .ok false μ1 ∧ Post E μ1) ∨ ∃ μ1, c E μ = .ok true μ1 ∧ StepTo (b E μ1) fun E2 μ2 => ∃ j, j < k ∧ Inv j E2 μ2) : ∀ {fuel k : Nat} {E : Env} {μ : Store}, k < fuel → Inv k E μ → ∃ E' μ', whileL c b fuel E μ = .nx E' μ' ∧ Post E' μ'
  | 0, k, E, μ, hk, _ => by omega
  | fuel + 1, k, E, μ, hk, h => by
    rcases step k E μ h with ⟨μ1, h1, h2⟩ | ⟨μ1, h1, E2, μ2, h2, j, hj, h3⟩
    · refine ⟨E, μ1, ?_, h2⟩
      unfold whileL; rw [h1]; rfl
    · obtain ⟨E', μ', e, p⟩ := whileI Inv Post step (fuel := fuel) (k := j) (by omega) h3
      refine ⟨E', μ', ?_, p⟩
      rw [← e]
      conv => lhs; unfold whileL
      rw [h1]
      rcases h2 with h2 | h2
      · simp only [fl_ok, if_true, h2]
      · simp only [fl_ok, if_true, h2]
end
end Gx

namespace Gx
open PySem PySem.Spec PyProof.Rows L2
section
variable {E E1 : Env} {μ μ1 : Store} {m mb mc mo mi me : Me} {c n n' : Mt} {ma : Ma} {a b : Ms} {w w2 : W} {i k : Nat}
/-! ### name op= e -/
def kAug2 (i : Nat) (f : Int → Int → Int) (E : Env) (x : Int) : W → Store → Fl := fun w μ1 => match w with
  | .imm (.int y) => .nx (E.set i (some (.imm (.int (f x y))))) μ1
  | _ => .bad
def kAug1 (i : Nat) (f : Int → Int → Int) (m : Me) (E : Env) (x : Option (Option W)) (μ : Store) : Fl := match x with
  | some (some (.imm (.int x))) => (m E μ).fl E (kAug2 i f E x)
  | _ => .bad
theorem g_aug {f : Int → Int → Int} : mAug i f m E μ = kAug1 i f m E E[i]? μ := Eq.trans rfl rfl
theorem g_kAug1 {f : Int → Int → Int} {x : Int} : kAug1 i f m E (some (some (.imm (.int x)))) μ = (m E μ).fl E (kAug2 i f E x) := Eq.trans rfl rfl
theorem g_kAug2 {f : Int → Int → Int} {x y : Int} : kAug2 i f E x (.imm (.int y)) μ = .nx (E.set i (some (.imm (.int (f x y))))) μ := Eq.trans rfl rfl
/-! ### != of what is the same -/
theorem oNe_same {e : PyData} (h : pyW fuelD μ w = some e) (h2 : pyW fuelD μ w2 = some e) : oNe w w2 μ = .ok (.imm (.bl false)) μ := by
  unfold oNe; rw [h, h2]; simp only; rw [PySem.SeqAt.eqv_refl_plain e (pyW_plain _ _ _ _ h)]; rfl
theorem oNe_refl {d : D} (h : cmpD fuelD d = true) : oNe (.imm d) (.imm d) μ = .ok (.imm (.bl false)) μ := by
  obtain ⟨e, he⟩ := cmpD_ok _ _ h
  exact oNe_same (by rw [pyW_imm]; exact he) (by rw [pyW_imm]; exact he)
theorem oNe_locR {ds : List D} (h : cmpD fuelD (.lst ds) = true) (hm : μ[i]? = some (.lst (ds.map W.imm))) : oNe (.imm (.lst ds)) (.loc i) μ = .ok (.imm (.bl false)) μ := by
  obtain ⟨e, he⟩ := cmpD_ok _ _ h
  exact oNe_same (by rw [pyW_imm]; exact he) (by rw [show fuelD = 8 + 1 from rfl, pyW_loc hm]; exact he)
end
end Gx

namespace Gx
open PySem PySem.Spec PyProof.Rows L2
/-! ### a list, whoever holds it: data or an object of the store -/
def SrcP (w : W) (ws : List W) (μ : Store) : Prop := (∃ ds, w = .imm (.lst ds) ∧ ws = ds.map W.imm) ∨ ∃ i, w = .loc i ∧ μ[i]? = some (.lst ws)
theorem srcP_imm {ds : List D} {μ : Store} : SrcP (.imm (.lst ds)) (ds.map W.imm) μ := .inl ⟨ds, rfl, rfl⟩
theorem srcP_loc {i : Nat} {ws : List W} {μ : Store} (h : μ[i]? = some (.lst ws)) : SrcP (.loc i) ws μ := .inr ⟨i, rfl, h⟩
section
variable {w : W} {ws : List W} {μ : Store} {E : Env} {tg : Mg} {a : Ms} {m : Me} {i : Nat}
theorem SrcP.app (h : SrcP w ws μ) (j : Store) : SrcP w ws (μ ++ j) := by
  rcases h with h | ⟨i, rfl, h⟩
  · exact .inl h
  · exact .inr ⟨i, rfl, by rw [List.getElem?_append_left (List.getElem?_eq_some_iff.mp h).1]; exact h⟩
theorem SrcP.len (h : SrcP w ws μ) : oLen [w] μ = .ok (.imm (.int ws.length)) μ := by
  rcases h with ⟨ds, rfl, rfl⟩ | ⟨i, rfl, h⟩
  · rw [g_lenL, List.length_map]
  · rw [g_lenLoc, h]; rfl
theorem SrcP.ix (h : SrcP w ws μ) {z : Int} (hz : 0 ≤ z) : oIx w (.imm (.int z)) μ = kIxW ws[z.toNat]? μ := by
  rcases h with ⟨ds, rfl, rfl⟩ | ⟨i, rfl, h⟩
  · rw [g_ixL hz, List.getElem?_map]; cases ds[z.toNat]? <;> rfl
  · rw [g_ixM hz, h]; rfl
theorem SrcP.isI (h : SrcP w ws μ) {t : Nat} (ht : t ≤ 5) : oIsI [w, .imm (.ty t)] μ = .ok (.imm (.bl (isK 4 t))) μ := by
  rcases h with ⟨ds, rfl, rfl⟩ | ⟨i, rfl, h⟩
  · exact g_isIL ht
  · exact g_isI (by unfold kindW; simp only [h]) ⟨by decide, ht⟩
theorem SrcP.list (h : SrcP w ws μ) {fz : Bool} : oList fz [w] μ = mkL fz ws μ := by
  rcases h with ⟨ds, rfl, rfl⟩ | ⟨i, rfl, h⟩
  · exact g_listL
  · rw [g_listLoc, h]; rfl
/-- what must stay as it is while it is gone through -/
def srcGd (w : W) (ws : List W) : Gd := match w with
  | .loc i => [(i, .lst ws)]
  | _ => []
theorem SrcP.gd (h : SrcP w ws μ) : chk (srcGd w ws) μ = true := by
  rcases h with ⟨ds, rfl, rfl⟩ | ⟨i, rfl, h⟩
  · rfl
  · simp [srcGd, chk, h]
theorem SrcP.src (h : SrcP w ws μ) : kSrc w μ = .ok (ws, srcGd w ws) μ := by
  rcases h with ⟨ds, rfl, rfl⟩ | ⟨i, rfl, h⟩
  · rfl
  · rw [g_kSrcLoc, h]; rfl
theorem SrcP.fv (h : SrcP w ws μ) (hE : E[i]? = some (some w)) : kFV i tg a E μ (some (some w)) = forL (srcGd w ws) tg a ws E μ := by
  have e : mFor (mSrc (mVar i)) tg a E μ = forL (srcGd w ws) tg a ws E μ := by
    rw [g_for, g_src, g_var, hE, g_vget, bind_ok, h.src, fl_ok, g_kFor]
  rcases h with ⟨ds, rfl, rfl⟩ | ⟨k, rfl, h⟩
  · exact e
  · rw [g_kFVloc, h]; exact e
end
/-! ### a fresh object that a call gives -/
theorem retrL_loc {μ j : Store} {i : Nat} {ds : List D} {r : Rs W} (h : r = .ok (.loc i) (μ ++ j)) (hb : μ.length ≤ i) (hj : (μ ++ j)[i]? = some (.lst (ds.map W.imm))) : retrL μ r = .ok (.loc μ.length) (μ ++ [.lst (ds.map W.imm)]) := by
  subst h
  have he : ∀ ds : List D, optAll (deepN (some i) μ.length (μ ++ j) fuelR) (ds.map W.imm) = some ds := fun ds => optAll_imm
  simp only [retrL]
  rw [if_pos ⟨by simp, hb⟩, hj]
  simp only [he]
theorem retrL_fin {μ : Store} {r : Rs W} {w : W} {μ2 : Store} (h : retrL μ r = .ok w μ2) : retrL μ r.fin = .ok w μ2 := by
  cases r with
  | ex c μ' => exact absurd h (by simp [retrL])
  | _ => exact h
end Gx
namespace Gx
theorem g_pow10_20 {μ : Store} : oPow (.imm (.int 10)) (.imm (.int 20)) μ = .ok (.imm (.int 100000000000000000000)) μ := by
  show (if powOk 10 20 = true then Rs.ok (W.imm (D.int (10 ^ (20 : Int).toNat))) μ else .bad) = _
  rw [if_pos (by decide)]; rfl
end Gx

namespace Gx
open PySem PySem.Spec PyProof.Rows L2
section
variable {κ : Kap} {xw : XW} {X : Cx} {e : Expr} {te : TE} {m : Me} {E : Env} {μ : Store} {w : W} {pos : Pos}
/-! ### xs[::-1] -/
def kRev (fz : Bool) : W → Store → Rs W := fun w μ1 => match ritems μ1 w with
  | some ws => mkL fz ws.reverse μ1
  | none => .bad
def mRev (fz : Bool) (m : Me) : Me := fun E μ => (m E μ).bind (kRev fz)
theorem se_rev (fz : Bool) (h : SE κ xw te m) : SE κ xw (tRevL κ.K te) (mRev fz m) := fun ρ μ H σ E Q s e p =>
  h.bind s e p fun w μ1 ρ1 H1 v l s1 e1 rv p1 => by
    unfold kRev at p1
    split at p1
    · rename_i ws hw
      obtain ⟨a, xs, rfl, hx, q⟩ := ritems_ok hw s1 rv
      exact ⟨a, xs, rfl, hx, fun b hb => PoE.lst p1 s1 q.rev hb⟩
    · exact p1.elim
theorem be_rev (fz : Bool) {k : Nat} {p1 p2 p3 : Pos} (c : Cc κ X) (he : BE κ xw X e te m) : BE κ xw X (.Subscript e (.Slice none none (some (.UnaryOp .USub (.Constant (.int 1) k p1) p2)) p3) pos) (tRevL κ.K te) (mRev fz m) := ⟨by rw [← c.K]; exact pe_revL he.p, se_rev fz he.s⟩
theorem g_rev {fz : Bool} : mRev fz m E μ = (m E μ).bind (kRev fz) := Eq.trans rfl rfl
theorem g_kRevL {fz : Bool} {ds : List D} : kRev fz (.imm (.lst ds)) μ = mkL fz (ds.map W.imm).reverse μ := Eq.trans rfl rfl
theorem kRev_src {fz : Bool} {ws : List W} (h : SrcP w ws μ) : kRev fz w μ = mkL fz ws.reverse μ := by
  rcases h with ⟨ds, rfl, rfl⟩ | ⟨i, rfl, h⟩
  · rfl
  · unfold kRev; simp only [ritems, litems, h]
end
end Gx

namespace Gx
open PySem PySem.Spec PyProof.Rows L2
section
variable {w w2 : W} {ws ws2 : List W} {μ : Store} {i : Nat}
theorem SrcP.litems (h : SrcP w ws μ) : Gx.litems μ w = some ws := by
  rcases h with ⟨ds, rfl, rfl⟩ | ⟨i, rfl, h⟩
  · rfl
  · simp only [Gx.litems, h]
theorem SrcP.ritems (h : SrcP w ws μ) : Gx.ritems μ w = some ws := by
  rcases h with ⟨ds, rfl, rfl⟩ | ⟨i, rfl, h⟩
  · rfl
  · simp only [Gx.ritems, Gx.litems, h]
theorem SrcP.add (h : SrcP w ws μ) (h2 : SrcP w2 ws2 μ) (hl : ws.length + ws2.length ≤ 100000) {fz : Bool} : oAdd fz w w2 μ = mkL fz (ws ++ ws2) μ := by
  have e1 := h.litems
  have e2 := h2.litems
  have hc : ws.length + ws2.length ≤ cap := Nat.le_trans hl (by decide)
  rcases h with ⟨ds, rfl, rfl⟩ | ⟨i, rfl, h⟩ <;> rcases h2 with ⟨ds2, rfl, rfl⟩ | ⟨i2, rfl, h2⟩ <;> (unfold oAdd; simp only [e1, e2]; rw [if_pos hc])
theorem SrcP.sorted {ps : List (Int × Int)} (h : SrcP w (ps.map fun p => W.imm (pairD p)) μ) {fz : Bool} : oSorted fz [w] μ = mkL fz ((srtB leP ps).map fun p => W.imm (pairD p)) μ := by
  have e := sorted_pairs (fz := fz) (ps := ps) (μ := μ)
  rw [← e]
  have e1 := h.ritems
  have e2 : Gx.ritems μ (.imm (.lst (ps.map pairD))) = some (ps.map fun p => W.imm (pairD p)) := by
    show some ((ps.map pairD).map W.imm) = _
    rw [List.map_map]; rfl
  unfold oSorted
  simp only [e1, e2]
theorem pyW_src {ds : List D} (h : SrcP w (ds.map W.imm) μ) : pyW fuelD μ w = pyD fuelD (.lst ds) := by
  rcases h with ⟨ds2, rfl, e⟩ | ⟨i, rfl, h⟩
  · rw [pyW_imm]
    have : ds2 = ds := by
      have := congrArg immAll e
      rw [immAll_imm, immAll_imm] at this
      exact (Option.some.inj this).symm
    rw [this]
  · exact pyW_loc h
theorem SrcP.eqSame {ds : List D} (h : SrcP w (ds.map W.imm) μ) (h2 : SrcP w2 (ds.map W.imm) μ) (hc : cmpD fuelD (.lst ds) = true) : oEq w w2 μ = .ok (.imm (.bl true)) μ := by
  obtain ⟨e, he⟩ := cmpD_ok _ _ hc
  exact oEq_same (by rw [pyW_src h]; exact he) (by rw [pyW_src h2]; exact he)
theorem SrcP.neSame {ds : List D} (h : SrcP w (ds.map W.imm) μ) (h2 : SrcP w2 (ds.map W.imm) μ) (hc : cmpD fuelD (.lst ds) = true) : oNe w w2 μ = .ok (.imm (.bl false)) μ := by
  obtain ⟨e, he⟩ := cmpD_ok _ _ hc
  exact oNe_same (by rw [pyW_src h]; exact he) (by rw [pyW_src h2]; exact he)
theorem optAll_len {α β : Type} {f : α → Option β} : ∀ {ds : List α} {es : List β}, optAll f ds = some es → es.length = ds.length
  | [], es, h => by cases h; rfl
  | d :: r, es, h => by
    unfold optAll at h
    split at h
    · cases h
    · split at h
      · cases h
      · rename_i ys hy
        cases h
        simp [optAll_len hy]
/-- xs != [] -/
theorem SrcP.neNil {ds : List D} (h : SrcP w (ds.map W.imm) μ) (hc : cmpD fuelD (.lst ds) = true) : oNe w (.imm (.lst [])) μ = .ok (.imm (.bl (!ds.isEmpty))) μ := by
  obtain ⟨e, he⟩ := cmpD_ok _ _ hc
  have h1 := pyW_src h
  rw [he] at h1
  have h2 : pyW fuelD μ (.imm (.lst [])) = some (.list []) := rfl
  unfold oNe
  rw [h1, h2]
  simp only
  simp only [show fuelD = 8 + 1 from rfl, pyD] at he
  split at he
  · rename_i es hes
    cases he
    have hl := optAll_len hes
    cases es with
    | nil =>
      cases ds with
      | nil => simp [PyData.eqv, PyData.eqvAll]
      | cons d r => simp at hl
    | cons x r =>
      cases ds with
      | nil => simp at hl
      | cons d r => simp [PyData.eqv, PyData.eqvAll]
  · cases he
end
end Gx
namespace Gx
section
variable {μ : Store} {i : Nat}
def kClr (i : Nat) (x : Option MO) (μ : Store) : Rs W := match x with
  | some (.lst _) => .ok (.imm .non) (μ.set i (.lst []))
  | _ => .bad
theorem g_clear : oClear (.loc i) [] μ = kClr i μ[i]? μ := by
  unfold oClear onL kClr
  cases h : μ[i]? with
  | none => simp only [h]
  | some mo => cases mo <;> simp only [h]
theorem g_kClr {ws : List W} : kClr i (some (.lst ws)) μ = .ok (.imm .non) (μ.set i (.lst [])) := Eq.trans rfl rfl
end
end Gx

namespace Gx
open PySem PySem.Spec PyProof.Rows L2
section
variable {E : Env} {μ : Store} {me : Me} {tg : Mg} {mit : Mi} {i : Nat}
theorem g_immLoc {r : List W} : immAll (.loc i :: r) = none := Eq.trans rfl rfl
theorem g_kMkLn {ws : List W} : kMkL none ws μ = .ok (.loc μ.length) (μ ++ [.lst ws]) := Eq.trans rfl rfl
theorem chk_set_ne {gd : Gd} {k : Nat} : (∀ p ∈ gd, p.1 ≠ k) → ∀ (μ : Store) x, chk gd μ = true → chk gd (μ.set k x) = true := fun h => by
  induction gd with
  | nil => intro _ _ _; rfl
  | cons p r ih =>
    obtain ⟨n, mo⟩ := p
    intro μ x hc
    simp only [chk, Bool.and_eq_true, decide_eq_true_eq] at hc ⊢
    refine ⟨?_, ih (fun p hp => h p (by simp [hp])) μ x hc.2⟩
    rw [List.getElem?_set_ne (fun e => h (n, mo) (by simp) e.symm)]
    exact hc.1
/-- a comprehension over a list that may change, as data -/
theorem lc_src {mt : Mt} {vs : List Nat} {ds : List D} {f : D → Option D} {w : W} (hs : SrcP w (ds.map W.imm) μ) (hi : mit E μ = .ok (ds.map W.imm, srcGd w (ds.map W.imm)) μ) (hl : ds.length ≤ 1000000)
    (h : ∀ d ∈ ds, ∃ E1, tg (.imm d) (wipeW E vs) = some E1 ∧ ∀ μ, match f d with
      | none => mt E1 μ = .ok false μ
      | some y => mt E1 μ = .ok true μ ∧ me E1 μ = .ok (.imm y) μ) : retr μ (mLc mit tg mt me vs E μ) = .ok (.imm (.lst (ds.filterMap f))) μ := by
  have hne : ∀ p ∈ srcGd w (ds.map W.imm), p.1 ≠ μ.length := fun p hp => by
    rcases hs with ⟨ds2, rfl, e⟩ | ⟨i, rfl, h⟩
    · simp [srcGd] at hp
    · simp [srcGd] at hp
      subst hp
      have := (List.getElem?_eq_some_iff.mp h).1
      exact Nat.ne_of_lt this
  have e : mLc mit tg mt me vs E μ = .ok (.loc μ.length) (μ ++ [.lst ((ds.filterMap f).map W.imm)]) := by
    unfold mLc
    rw [hi]
    simp only [bind_ok]
    rw [compL_pure (f := fun w => match w with | .imm d => (f d).map W.imm | _ => none) (acc := []) (chk_set_ne hne) _ _ ((hs.app _).gd) (by simp) (by simpa using hl)]
    · simp only [bind_ok, List.nil_append, setNew]
      congr 3
      rw [List.filterMap_map, List.map_filterMap]
      rfl
    · intro w hw
      obtain ⟨d, hd, rfl⟩ := List.mem_map.mp hw
      obtain ⟨E1, h1, h2⟩ := h d hd
      refine ⟨E1, h1, fun μ _ => ?_⟩
      have := h2 μ
      cases hf : f d with
      | none => rw [hf] at this; simpa [hf] using this
      | some y => rw [hf] at this; simpa [hf] using this
  exact retr_loc e (Nat.le_refl _) (by simp)
end
end Gx

namespace Gx
open PySem PySem.Spec PyProof.Rows L2
section
variable {E : Env} {μ : Store} {m : Me} {ml mh : Mo} {w : W} {i : Nat}
/-! ### x[lo:hi] -/
def kSl3 (fz : Bool) (w : W) (lo : Option Int) (hi : Option Int) (μ : Store) : Rs W := oSl fz w lo hi μ
def kSl2 (fz : Bool) (mh : Mo) (E : Env) (w : W) (lo : Option Int) (μ : Store) : Rs W := (mh E μ).bind (kSl3 fz w lo)
def kSl1 (fz : Bool) (ml mh : Mo) (E : Env) (w : W) (μ : Store) : Rs W := (ml E μ).bind (kSl2 fz mh E w)
theorem g_sl {fz : Bool} : mSl fz m ml mh E μ = (m E μ).bind (kSl1 fz ml mh E) := Eq.trans rfl rfl
theorem g_kSl1 {fz : Bool} : kSl1 fz ml mh E w μ = (ml E μ).bind (kSl2 fz mh E w) := Eq.trans rfl rfl
theorem g_kSl2 {fz : Bool} {lo : Option Int} : kSl2 fz mh E w lo μ = (mh E μ).bind (kSl3 fz w lo) := Eq.trans rfl rfl
theorem g_kSl3 {fz : Bool} {lo hi : Option Int} : kSl3 fz w lo hi μ = oSl fz w lo hi μ := Eq.trans rfl rfl
theorem g_noP : mNoP E μ = .ok none μ := Eq.trans rfl rfl
def kPart : W → Store → Rs (Option Int) := fun w μ1 => match w with
  | .imm (.int i) => .ok (some i) μ1
  | _ => .bad
theorem g_part : mPart m E μ = (m E μ).bind kPart := Eq.trans rfl rfl
theorem g_kPart {i : Int} : kPart (.imm (.int i)) μ = .ok (some i) μ := Eq.trans rfl rfl
theorem cutG_map {α β : Type} (f : α → β) (xs : List α) (lo hi : Option Int) : cutG (xs.map f) lo hi = (cutG xs lo hi).map f := by
  unfold cutG
  rw [List.length_map, List.map_take, List.map_drop]
theorem cutG_from {α : Type} {xs : List α} {z : Int} (h : 0 ≤ z) : cutG xs (some z) none = xs.drop z.toNat := by
  unfold cutG HT.sIx
  simp only
  rw [if_neg (by omega), List.take_of_length_le (by simp)]
  by_cases hc : z.toNat ≤ xs.length
  · rw [Nat.min_eq_left hc]
  · rw [Nat.min_eq_right (by omega), List.drop_of_length_le (Nat.le_refl _), List.drop_of_length_le (by omega)]
theorem cutG_to {α : Type} {xs : List α} {z : Int} (h : 0 ≤ z) : cutG xs none (some z) = xs.take z.toNat := by
  unfold cutG HT.sIx
  simp only [List.drop_zero, Nat.sub_zero]
  rw [if_neg (by omega)]
  by_cases hc : z.toNat ≤ xs.length
  · rw [Nat.min_eq_left hc]
  · rw [Nat.min_eq_right (by omega), List.take_of_length_le (Nat.le_refl _), List.take_of_length_le (by omega)]
theorem cutG_fromTo {α : Type} {xs : List α} {y z : Int} (h : 0 ≤ y) (h2 : 0 ≤ z) : cutG xs (some y) (some z) = (xs.take z.toNat).drop y.toNat := by
  unfold cutG HT.sIx
  simp only
  rw [if_neg (by omega), if_neg (by omega), List.drop_take]
  by_cases hc : y.toNat ≤ xs.length
  · rw [Nat.min_eq_left hc]
    by_cases hd : z.toNat ≤ xs.length
    · rw [Nat.min_eq_left hd]
    · rw [Nat.min_eq_right (by omega), List.take_of_length_le (by simp), List.take_of_length_le (by simp; omega)]
  · rw [Nat.min_eq_right (Nat.le_of_lt (Nat.lt_of_not_le hc)), List.drop_of_length_le (Nat.le_refl _), List.drop_of_length_le (Nat.le_of_lt (Nat.lt_of_not_le hc))]
    simp
theorem cutG_last {α : Type} {xs : List α} : cutG xs (some (-1)) none = xs.drop (xs.length - 1) := by
  unfold cutG HT.sIx
  simp only
  rw [if_pos (by omega), List.take_of_length_le (by simp)]
  congr 1
  omega
theorem cutG_butLast {α : Type} {xs : List α} : cutG xs none (some (-1)) = xs.take (xs.length - 1) := by
  unfold cutG HT.sIx
  simp only [List.drop_zero, Nat.sub_zero]
  rw [if_pos (by omega)]
  congr 1
  omega
theorem slL {fz : Bool} {ds : List D} {lo hi : Option Int} : oSl fz (.imm (.lst ds)) lo hi μ = mkL fz ((cutG ds lo hi).map W.imm) μ := by rw [← cutG_map]; rfl
theorem slT {fz : Bool} {ds : List D} {lo hi : Option Int} : oSl fz (.imm (.tup ds)) lo hi μ = .ok (.imm (.tup (cutG ds lo hi))) μ := by
  show Rs.ok (mkT (cutG (ds.map W.imm) lo hi)) μ = _
  rw [cutG_map, g_mkT, immAll_imm]
  rfl
theorem SrcP.sl {fz : Bool} {ws : List W} {lo hi : Option Int} (h : SrcP w ws μ) : oSl fz w lo hi μ = mkL fz (cutG ws lo hi) μ := by
  unfold oSl
  rw [h.ritems]
theorem g_slLf {fz : Bool} {ds : List D} {z : Int} (h : 0 ≤ z) : oSl fz (.imm (.lst ds)) (some z) none μ = mkL fz ((ds.drop z.toNat).map W.imm) μ := by rw [slL, cutG_from h]
theorem g_slLt {fz : Bool} {ds : List D} {z : Int} (h : 0 ≤ z) : oSl fz (.imm (.lst ds)) none (some z) μ = mkL fz ((ds.take z.toNat).map W.imm) μ := by rw [slL, cutG_to h]
theorem g_slLft {fz : Bool} {ds : List D} {y z : Int} (h : 0 ≤ y ∧ 0 ≤ z) : oSl fz (.imm (.lst ds)) (some y) (some z) μ = mkL fz (((ds.take z.toNat).drop y.toNat).map W.imm) μ := by rw [slL, cutG_fromTo h.1 h.2]
theorem g_slTf {fz : Bool} {ds : List D} {z : Int} (h : 0 ≤ z) : oSl fz (.imm (.tup ds)) (some z) none μ = .ok (.imm (.tup (ds.drop z.toNat))) μ := by rw [slT, cutG_from h]
theorem g_slTt {fz : Bool} {ds : List D} {z : Int} (h : 0 ≤ z) : oSl fz (.imm (.tup ds)) none (some z) μ = .ok (.imm (.tup (ds.take z.toNat))) μ := by rw [slT, cutG_to h]
theorem g_slTft {fz : Bool} {ds : List D} {y z : Int} (h : 0 ≤ y ∧ 0 ≤ z) : oSl fz (.imm (.tup ds)) (some y) (some z) μ = .ok (.imm (.tup ((ds.take z.toNat).drop y.toNat))) μ := by rw [slT, cutG_fromTo h.1 h.2]
theorem g_slTb {fz : Bool} {ds : List D} : oSl fz (.imm (.tup ds)) none (some (-1)) μ = .ok (.imm (.tup (ds.take (ds.length - 1)))) μ := by rw [slT, cutG_butLast]
end
end Gx

namespace Gx
open PySem PySem.Spec PyProof.Rows L2
/-! ### a def that calls itself: by depth -/
theorem fn_bad {κ : Kap} {P : Program} {w : World} {mg : Str → Option Value} {base : Heap} {k n : Nat} {f : Addr} {fd : FuncData} {ps : List Str} : FnOk P w κ.K mg base CX0 k f fd ps (spG κ n fun _ _ => .bad) :=
  ⟨fun _ _ _ _ ⟨_, _, _, _, _, _, h⟩ => h.elim, fun _ _ _ _ _ _ _ _ _ _ _ _ _ ⟨_, _, _, _, _, _, h⟩ => h.elim⟩
end Gx

namespace Gx
open PySem PySem.Spec PyProof.Rows L2
/-! ### sorted of facts: tuples of a number, a text and numbers -/
def encD (d : D) : PyData := (pyD fuelD d).getD .none
def leD (a b : D) : Bool := PySem.W.dataLe false encD a b
def srtD (ds : List D) : List D := ds.mergeSort leD
def isIntD : D → Bool
  | .int _ => true
  | _ => false
def factB : D → Bool
  | .tup (.int _ :: .str _ :: r) => r.all isIntD
  | _ => false
def oSortedX (fz : Bool) : OpA := fun ws μ => match ws with
  | [w] => match (ritems μ w).bind immAll with
    | some ds => if (ds.all factB && !ds.isEmpty) = true then mkL fz ((srtD ds).map W.imm) μ else oSorted fz ws μ
    | none => oSorted fz ws μ
  | _ => .bad
theorem optAll_ints {k : Nat} : ∀ {r : List D}, r.all isIntD = true → ∃ is : List Int, r = is.map D.int ∧ optAll (pyD k) r = some (is.map PyData.int)
  | [], _ => ⟨[], rfl, rfl⟩
  | d :: r, h => by
    rw [List.all_cons, Bool.and_eq_true] at h
    obtain ⟨is, e, e2⟩ := optAll_ints (k := k) h.2
    cases d with
    | int i =>
      refine ⟨i :: is, by rw [e]; rfl, ?_⟩
      rw [optAll, show pyD k (.int i) = some (.int i) by cases k <;> rfl, e2]
      rfl
    | _ => cases h.1
theorem factB_enc {d : D} (h : factB d = true) : ∃ (i : Int) (s : Str) (is : List Int), d = .tup (.int i :: .str s :: is.map D.int) ∧ pyD fuelD d = some (.tuple (.int i :: .str s :: is.map PyData.int)) := by
  unfold factB at h
  split at h
  · rename_i i s r
    obtain ⟨is, e, e2⟩ := optAll_ints (k := 8) h
    refine ⟨i, s, is, by rw [e], ?_⟩
    show (match optAll (pyD 8) (.int i :: .str s :: r) with | some es => some (PyData.tuple es) | none => none) = _
    rw [optAll, optAll, e2]
    rfl
  · cases h
theorem alike_intsAll : ∀ xs ys : List Int, PySem.W.alikeAll (xs.map .int) (ys.map .int) = true := PySem.W.alike_ints
theorem fact_alike {a b : D} (ha : factB a = true) (hb : factB b = true) : PySem.W.alike (encD a) (encD b) = true := by
  obtain ⟨i, s, is, _, e⟩ := factB_enc ha
  obtain ⟨j, t, js, _, e2⟩ := factB_enc hb
  unfold encD
  rw [e, e2]
  show PySem.W.alike (.tuple _) (.tuple _) = true
  simp only [PySem.W.alike, PySem.W.alikeAll, alike_intsAll, Bool.and_self]
def rSortedD (κ : Kap) : List V → Hp → VK → Prop := fun vs H Q => ∃ (a : Addr) (ps : List (V × PyData)), vs = [V.ref a] ∧ SqL κ.K H a (ps.map (·.1)) ∧ (∀ p ∈ ps, Dp κ.K H p.1 p.2 ∧ p.2.depth ≤ 60) ∧
  PySem.W.AllAlike (ps.map (·.2)) ∧ PySem.W.Sortable (ps.map (·.2)) ∧ ∀ l, H l = none → Q (.ref l) (upd H l (.lst ((ps.mergeSort (PySem.W.dataLe false (fun p : V × PyData => p.2))).map (·.1))))
theorem each_of {P : V × PyData → Prop} : ∀ {ps : List (V × PyData)} {its : List Value}, Vals (ps.map (·.1)) its → (∀ p ∈ ps, P p) → PySem.W.EachIs (fun u p => RelV p.1 u ∧ P p) its ps
  | [], [], _, _ => .nil
  | p :: ps, [], h, _ => by cases h
  | [], u :: us, h, _ => by cases h
  | p :: ps, u :: us, h, hp => by
    cases h with
    | cons r t => exact .cons ⟨r, hp p (by simp)⟩ (each_of t fun q hq => hp q (by simp [hq]))
theorem vals_each : ∀ {ps : List (V × PyData)} {its : List Value}, PySem.W.EachIs (fun u (p : V × PyData) => RelV p.1 u) its ps → Vals (ps.map (·.1)) its
  | [], [], _ => .nil
  | p :: ps, [], h => by cases h
  | [], u :: us, h => by cases h
  | p :: ps, u :: us, h => by
    cases h with
    | cons r t => exact .cons r (vals_each t)
theorem cr_sortedD {κ : Kap} {X : Cx} (hK : X.K = κ.K) (hu : X.A.units + 64 < cLine) : CallR X (.builtin "sorted") (rSortedD κ) := by
  intro pins s σ H vs us Q I r h
  obtain ⟨a, ps, rfl, hs, hp, hal, hk, q⟩ := h
  rw [← hK] at hs
  obtain ⟨its, rv, hl, hz⟩ := I.list hs
  obtain ⟨u, rfl, ru⟩ := vals1 r
  obtain rfl : u = Value.ref a := ru
  have e := each_of (P := fun p => Dp X.K H p.1 p.2) rv fun p m => by rw [hK]; exact (hp p m).1
  refine PySem.W.sorted_data (R := fun u p => RelV p.1 u) (enc := fun p : V × PyData => p.2) hl.isList (e.mono fun _ _ z => z.1) (e.mono fun u p z => Dp.reads I p.2 p.1 u z.2 z.1) hal hk (by simpa using hz)
    (fun b hb => by have := (hp b hb).2; omega) fun out hlen hout => ?_
  obtain ⟨n, hn⟩ := sortedAll_at s.heap its out.toArray
  refine ⟨.ref (s.heap.objs.size + 1), upd H (s.heap.objs.size + 1) (.lst ((ps.mergeSort (PySem.W.dataLe false (fun p : V × PyData => p.2))).map (·.1))), I.laid (t' := s.toks) (fun b o e => sortedAll_old e) (Nat.le_succ _) ⟨?_, out, n, vals_each hout, hn⟩, rfl, q _ (I.hok.fresh (Nat.le_succ _))⟩
  rw [List.length_map, List.length_mergeSort]
  simpa using hz
def rSortedY (κ : Kap) : List V → Hp → VK → Prop := fun vs H Q => rSortedX κ.K vs H Q ∨ rSortedD κ vs H Q
theorem cr_sortedY {κ : Kap} {X : Cx} (hK : X.K = κ.K) (hu : X.A.units + 64 < cLine) : CallR X (.builtin "sorted") (rSortedY κ) := fun pins s σ H vs us Q I r h => h.elim (fun h => cr_sortedX pins s σ H vs us Q I r (by rw [hK]; exact h)) (cr_sortedD hK hu pins s σ H vs us Q I r)
section
variable {κ : Kap} {xw : XW} {ρ : Lo} {H : Hp} {σ : L2.St} {E : Env} {μ : Store}
theorem rds_zip : ∀ {xs : List V} {ds : List D} {Hx : Hp}, RDs κ Hx xs ds → (xs.zip ds).map (·.1) = xs ∧ (xs.zip ds).map (·.2) = ds ∧ ∀ t ∈ xs.zip ds, RD κ Hx t.1 t.2
  | xs, [], Hx, h => by
    have : xs = [] := h
    subst this
    simp
  | xs, d :: ds, Hx, h => by
    obtain ⟨x, r, rfl, h1, h2⟩ := h
    obtain ⟨a, b, c⟩ := rds_zip h2
    refine ⟨by rw [List.zip_cons_cons, List.map_cons, a], by rw [List.zip_cons_cons, List.map_cons, b], fun t ht => ?_⟩
    rw [List.zip_cons_cons] at ht
    rcases List.mem_cons.mp ht with rfl | ht
    · exact h1
    · exact c t ht
theorem rws_pairs : ∀ {T : List (V × D)}, (∀ t ∈ T, RD κ (hid ρ H) t.1 t.2) → RWs κ ρ H (T.map (·.1)) ((T.map (·.2)).map W.imm)
  | [], _ => RWs.nil
  | t :: T, h => RWs.cons (h t (by simp)) (rws_pairs fun q hq => h q (by simp [hq]))
theorem sc_sortedX (fz : Bool) : SC κ (rSortedY κ) (oSortedX fz) := fun xw ρ μ H σ vs ws Q s rs p => by
  unfold oSortedX at p
  split at p
  · rename_i w
    split at p
    · rename_i ds hds
      split at p
      · rename_i hf
        right
        obtain ⟨x, rfl, rx⟩ := rws1 rs
        rw [Bool.and_eq_true] at hf
        cases hr : ritems μ w with
        | none => rw [hr] at hds; cases hds
        | some wl =>
          rw [hr] at hds
          obtain ⟨a, xs, rfl, ha, q⟩ := ritems_ok hr s rx
          rw [immAll_map hds] at q
          have qd := q.toD
          obtain ⟨z1, z2, z3⟩ := rds_zip qd
          have hfa := List.all_eq_true.mp hf.1
          have hT : ∀ t ∈ xs.zip ds, factB t.2 = true := fun t ht => hfa _ (by rw [← z2]; exact List.mem_map.mpr ⟨t, ht, rfl⟩)
          have em : ((xs.zip ds).map fun t => (t.1, encD t.2)).map (·.1) = xs := by rw [List.map_map]; exact z1
          refine ⟨a, (xs.zip ds).map fun t => (t.1, encD t.2), rfl, by rw [em]; exact ha, fun p hp => ?_, ?_, ?_, fun l hl => ?_⟩
          · obtain ⟨t, ht, rfl⟩ := List.mem_map.mp hp
            obtain ⟨i, s', is, _, e⟩ := factB_enc (hT t ht)
            have hpy := pyD_ok _ _ _ _ (z3 t ht) e
            have e3 : encD t.2 = .tuple (.int i :: .str s' :: is.map PyData.int) := by unfold encD; rw [e]; rfl
            exact ⟨by rw [e3]; exact hpy.dp, by rw [e3]; exact Nat.le_trans hpy.le (by decide)⟩
          · intro d hd d' hd'
            simp only [List.map_map, List.mem_map, Function.comp] at hd hd'
            obtain ⟨t, ht, rfl⟩ := hd
            obtain ⟨t', ht', rfl⟩ := hd'
            exact fact_alike (hT t ht) (hT t' ht')
          · refine .inl fun d hd => ?_
            simp only [List.map_map, List.mem_map, Function.comp] at hd
            obtain ⟨t, ht, rfl⟩ := hd
            obtain ⟨i, s', is, _, e⟩ := factB_enc (hT t ht)
            exact ⟨.int i, _, by unfold encD; rw [e]; rfl⟩
          · have e1 : (((xs.zip ds).map fun t => (t.1, encD t.2)).mergeSort (PySem.W.dataLe false (fun p : V × PyData => p.2))) = ((xs.zip ds).mergeSort fun a b => leD a.2 b.2).map fun t => (t.1, encD t.2) :=
              (List.map_mergeSort (f := fun t : V × D => (t.1, encD t.2)) fun a _ b _ => rfl).symm
            have e2 : srtD ds = ((xs.zip ds).mergeSort fun a b => leD a.2 b.2).map (·.2) := by
              unfold srtD
              conv => lhs; rw [← z2]
              exact (List.map_mergeSort (f := fun t : V × D => t.2) fun a _ b _ => rfl).symm
            rw [e1, List.map_map]
            rw [e2] at p
            exact PoE.lst p s (rws_pairs (T := (xs.zip ds).mergeSort fun a b => leD a.2 b.2) fun t ht => z3 t (List.mem_mergeSort.mp ht)) hl
      · exact .inl (sc_sorted fz xw ρ μ H σ vs _ Q s rs p)
    · exact .inl (sc_sorted fz xw ρ μ H σ vs _ Q s rs p)
  · exact p.elim
end
section
variable {κ : Kap} {xw : XW} {X : Cx} {e o f tg : Expr} {es : List Expr} {ta : TA} {ma : Ma} {pos apos p : Pos}
theorem be_sortedX (fz : Bool) (c : Cc κ X) (hm : X.mg "sorted" = none) (ha : BA κ xw X (e :: es) ta ma) (hg : Gl X "sorted" := by rfl) (he : starEach (e :: es) X.env = (false, eval e X.env) :: starEach es X.env := by rfl) (hpl : (backTo pos (starEach es X.env)).any (·.1) = false := by rfl) :
    BE κ xw X (.Call (.Name "sorted" p) (e :: es) [] pos) (tCB (rSortedY κ) ta) (mCB (oSortedX fz) ma) := be_cb (cr_sortedY c.K c.hu) (sc_sortedX fz) hm (by decide +kernel) ha hg (by decide) (by decide) he hpl
end
/-! what it is -/
section
variable {μ : Store}
theorem sortedX_facts {fz : Bool} {w : W} {ds : List D} (hs : SrcP w (ds.map W.imm) μ) (h : ∀ d ∈ ds, factB d = true) : oSortedX fz [w] μ = mkL fz ((srtD ds).map W.imm) μ := by
  unfold oSortedX
  simp only [hs.ritems, Option.bind_some, immAll_imm]
  cases ds with
  | nil =>
    rw [if_neg (by simp)]
    unfold oSorted
    simp only [hs.ritems, List.map_nil]
    simp [sortW, intsW, srtB, srtD]
  | cons d r => rw [if_pos (by rw [Bool.and_eq_true]; exact ⟨List.all_eq_true.mpr h, rfl⟩)]
theorem factB_int {i : Int} : factB (.int i) = false := rfl
theorem factB_pair {p : Int × Int} : factB (pairD p) = false := rfl
theorem sortedX_ints {fz : Bool} {is : List Int} {w : W} (hs : SrcP w ((is.map D.int).map W.imm) μ) : oSortedX fz [w] μ = mkL fz ((srtB leI is).map fun i => W.imm (.int i)) μ := by
  have e : oSortedX fz [w] μ = oSorted fz [w] μ := by
    unfold oSortedX
    simp only [hs.ritems, Option.bind_some, immAll_imm]
    rw [if_neg (by cases is <;> simp [factB])]
  rw [e]
  unfold oSorted
  simp only [hs.ritems]
  unfold sortW
  rw [show (is.map D.int).map W.imm = is.map fun i => W.imm (.int i) by simp, intsW_map]
theorem sortedX_pairs {fz : Bool} {ps : List (Int × Int)} {w : W} (hs : SrcP w (ps.map fun p => W.imm (pairD p)) μ) : oSortedX fz [w] μ = mkL fz ((srtB leP ps).map fun p => W.imm (pairD p)) μ := by
  have e : oSortedX fz [w] μ = oSorted fz [w] μ := by
    have hs2 : SrcP w ((ps.map pairD).map W.imm) μ := by rw [List.map_map]; exact hs
    unfold oSortedX
    simp only [hs2.ritems, Option.bind_some, immAll_imm]
    rw [if_neg (by cases ps <;> simp [factB, pairD])]
  rw [e]
  exact hs.sorted
end
end Gx

namespace Gx
open PySem PySem.Spec PyProof.Rows L2
section
variable {κ : Kap} {xw : XW} {ρ ρ1 ρ' : Lo} {H H1 H' : Hp} {σ : L2.St} {E : Env} {μ μ1 μ' : Store} {te tb : TE} {ta : TA} {m mb : Me} {ma : Ma}
/-! ### {k: v, ..}, the keys written -/
def mergeG (kvs more : List (Key × W)) : List (Key × W) := more.foldl (fun acc kv => putG acc kv.1 kv.2) kvs
theorem mergeG_ok : ∀ {more : List (Key × W)} {zs : List (Key × V)} {kvs : List (Key × W)} {ys : List (Key × V)}, RWk κ ρ H zs more → RWk κ ρ H ys kvs → RWk κ ρ H (mergeK ys zs) (mergeG kvs more)
  | [], zs, kvs, ys, q, r => by cases q; exact r
  | (k, w) :: more, zs, kvs, ys, ⟨x, zr, e, p, q⟩, r => by
    subst e
    have h := mergeG_ok q (putG_ok (k := k) p r)
    exact h
def dispL : List (Key × Me) → Env → Store → Rs (List (Key × W))
  | [], _, μ => .ok [] μ
  | (k, m) :: r, E, μ => (m E μ).bind fun w μ1 => (dispL r E μ1).bind fun kvs μ2 => .ok ((k, w) :: kvs) μ2
def mDisp (ps : List (Key × Me)) : Me := fun E μ => (dispL ps E (μ ++ [.dct []])).bind fun kvs μ2 => if μ2[μ.length]? = some (.dct []) ∧ kvs.length ≤ 15 then .ok (.loc μ.length) (μ2.set μ.length (.dct (mergeG [] kvs))) else .bad
def SPs (κ : Kap) (xw : XW) (trs : List (TE × TE)) (ps : List (Key × Me)) : Prop := ∀ ρ μ H σ E (Q : List (V × V) → Hp → Prop), SR κ ρ μ H → RE κ ρ H σ E → Po κ xw (fun ρ' H' b a => ∃ zs, b = zs.map (fun kv : Key × V => (kV kv.1, kv.2)) ∧ RWk κ ρ' H' zs a) ρ H σ (dispL ps E μ) Q → tPairs trs σ H Q
theorem sps_nil : SPs κ xw [] [] := fun ρ μ H σ E Q s e p => p ρ H [] Le.refl s ⟨[], rfl, rfl⟩
theorem sps_cons {k : Key} {trs : List (TE × TE)} {ps : List (Key × Me)} (hm : SE κ xw te m) (hr : SPs κ xw trs ps) : SPs κ xw ((tC (kV k), te) :: trs) ((k, m) :: ps) := fun ρ μ H σ E Q s e p =>
  hm.bind s e p fun w μ1 ρ1 H1 v l s1 e1 rv p1 => hr ρ1 μ1 H1 σ E _ s1 e1 (by
    cases hd : dispL ps E μ1 with
    | ok kvs μ2 =>
      rw [hd] at p1
      intro ρ2 H2 b l2 s2 ⟨zs, hb, hz⟩
      exact p1 ρ2 H2 _ l2 s2 ⟨(k, v) :: zs, by rw [hb]; rfl, ⟨v, zs, rfl, rv.mono l2, hz⟩⟩
    | ex c μ2 => rw [hd] at p1; exact p1
    | bad => rw [hd] at p1; exact p1)
theorem se_disp {trs : List (TE × TE)} {ps : List (Key × Me)} (h : SPs κ xw trs ps) : SE κ xw (tDisp trs) (mDisp ps) := fun ρ μ H σ E Q s e p D hD => by
  have lD : Le ρ H (ρ ++ [(D, false)]) (upd H D (.dK [])) := Le.lay hD
  have sD : SR κ (ρ ++ [(D, false)]) (μ ++ [.dct []]) (upd H D (.dK [])) := s.lay (mo := .dct []) hD ⟨[], upd_same, rfl⟩
  refine h _ _ _ σ E _ sD (e.mono lD) ?_
  unfold mDisp at p
  cases hd : dispL ps E (μ ++ [.dct []]) with
  | bad => rw [hd] at p; exact p
  | ex c μ2 => rw [hd] at p; exact fun ρ2 H2 l2 s2 => p ρ2 H2 (lD.trans l2) s2
  | ok kvs μ2 =>
    rw [hd] at p
    simp only [Rs.bind] at p
    intro ρ2 H2 b l2 s2 ⟨zs, hb, hz⟩
    split at p
    · rename_i hc
      obtain ⟨f', hn, _⟩ := l2.pre _ _ _ (loc_new (p := D) (f := false) s)
      have hl' := s2.live hn hc.1 rfl
      obtain ⟨⟨ys, ha, qs⟩, _⟩ := s2.ob _ D _ _ hn hc.1
      cases qs
      refine ⟨ha, zs, hb, by rw [hz.length]; exact hc.2, ?_⟩
      refine p ρ2 _ _ ((lD.trans l2).trans (Le.put hl')) (s2.put hl' rfl ⟨_, upd_same, ?_⟩) ⟨D, f', hn, rfl⟩
      exact (mergeG_ok (kvs := []) (ys := []) hz rfl).mono (Le.put hl')
    · exact p.elim
structure BP (κ : Kap) (xw : XW) (X : Cx) (pos : Pos) (keys : List (Option Expr)) (values : List Expr) (trs : List (TE × TE)) (ps : List (Key × Me)) : Prop where
  p : PPs X pos keys values trs
  s : SPs κ xw trs ps
theorem bp_nil {X : Cx} {pos : Pos} : BP κ xw X pos [] [] [] [] := ⟨pps_nil, sps_nil⟩
theorem bp_str {X : Cx} {pos kp : Pos} {x : Str} {j} {v : Expr} {ks : List (Option Expr)} {vs : List Expr} {trs : List (TE × TE)} {ps : List (Key × Me)} (hv : BE κ xw X v te m) (hr : BP κ xw X pos ks vs trs ps) :
    BP κ xw X pos (some (.Constant (.str x) j kp) :: ks) (v :: vs) ((tC (kV (.inr x)), te) :: trs) ((.inr x, m) :: ps) := ⟨pps_cons pe_str hv.p hr.p, sps_cons hv.s hr.s⟩
theorem bp_int {X : Cx} {pos kp : Pos} {x : Int} {j} {v : Expr} {ks : List (Option Expr)} {vs : List Expr} {trs : List (TE × TE)} {ps : List (Key × Me)} (hv : BE κ xw X v te m) (hr : BP κ xw X pos ks vs trs ps) :
    BP κ xw X pos (some (.Constant (.int x) j kp) :: ks) (v :: vs) ((tC (kV (.inl x)), te) :: trs) ((.inl x, m) :: ps) := ⟨pps_cons pe_int hv.p hr.p, sps_cons hv.s hr.s⟩
theorem be_disp {X : Cx} {pos : Pos} {keys : List (Option Expr)} {values : List Expr} {trs : List (TE × TE)} {ps : List (Key × Me)} (h : BP κ xw X pos keys values trs ps) (hall : keys.all (·.isSome) = true := by rfl) (hl : keys.length = values.length := by rfl) (h0 : keys ≠ [] := by (intro z; cases z))
    (h15 : keys.length ≤ 15 := by decide) : BE κ xw X (.Dict keys values pos) (tDisp trs) (mDisp ps) := ⟨pe_disp h.p hall hl h0 h15, se_disp h.s⟩
/-! ### range with a step -/
def rangeWC (lo c : Int) (k : Nat) : List W := (List.range k).map fun (i : Nat) => W.imm (.int (lo + i * c))
theorem jok_rangeC {lo c : Int} {k : Nat} : JOk κ ρ H (Itc lo c k) (rangeWC lo c k) [] where
  go := fun i ρ' μ' H' w l s _ hw => by
    unfold rangeWC at hw
    rw [List.getElem?_map] at hw
    by_cases hi : i < k
    · rw [List.getElem?_range hi] at hw
      cases hw
      refine ⟨hi, fun x H2 hy => ?_⟩
      obtain ⟨e1, e2⟩ := hy
      rw [e1, e2]
      exact ⟨Le.refl, s, rfl⟩
    · rw [List.getElem?_eq_none (by simpa using Nat.le_of_not_lt hi)] at hw
      cases hw
  stop := fun i ρ' μ' H' l s _ hl => by
    unfold rangeWC at hl
    show k ≤ i
    simpa using hl
def rangeOk (i j c : Int) : Bool := decide (c ≠ 0) && decide (c.natAbs < 1073741824) && Builtin.Range.small i j c
def kR3 : List W → Store → Rs (List W × Gd) := fun ws μ1 => match ws with
  | [.imm (.int i), .imm (.int j), .imm (.int c)] => if rangeOk i j c = true then .ok (rangeWC i c (Builtin.Range.rangeSize i j c).toNat, []) μ1 else .bad
  | _ => .bad
def mRange3 (ma : Ma) : Mi := fun E μ => (ma E μ).bind kR3
theorem si_range3 (ha : SA κ xw ta ma) : SI κ xw (iRng3 ta) (mRange3 ma) := fun ρ μ H σ E R s e p => by
  refine ha ρ μ H σ E _ s e ?_
  unfold mRange3 at p
  cases hm : ma E μ with
  | bad => rw [hm] at p; exact p
  | ex c μ1 => rw [hm] at p; exact p
  | ok ws μ1 =>
    rw [hm] at p
    simp only [Rs.bind] at p
    intro ρ1 H1 vs l1 s1 rs
    unfold kR3 at p
    split at p
    · rename_i hq
      split at hq
      · rename_i i j c
        split at hq
        · rename_i hc
          cases hq
          obtain ⟨x, xr, rfl, hx, h2⟩ := rs
          obtain ⟨y, yr, rfl, hy, h3⟩ := h2
          obtain ⟨z, zr, rfl, hz, h4⟩ := h3
          cases hx; cases hy; cases hz; cases h4
          unfold rangeOk at hc
          simp only [Bool.and_eq_true, decide_eq_true_eq] at hc
          have hn : Builtin.Range.rangeSize i j c = ((Builtin.Range.rangeSize i j c).toNat : Int) := rangeSize_toNat i j c
          exact ⟨i, j, c, _, rfl, ⟨hc.1.1, hc.1.2, hc.2, hn⟩, p ρ1 H1 _ l1 s1 jok_rangeC rfl⟩
        · cases hq
      · cases hq
    · rename_i hq
      split at hq
      · split at hq <;> cases hq
      · cases hq
    · exact p.elim
theorem bi_range3 {X : Cx} {tg a b c : Expr} {p pos : Pos} (hm : X.mg "range" = none) (ha : BA κ xw X [a, b, c] ta ma) (hg : Gl X "range" := by rfl)
    (hs : starEach [a, b, c] X.env = (false, eval a X.env) :: starEach [b, c] X.env := by rfl) (hpl : (backTo pos (starEach [b, c] X.env)).any (·.1) = false := by rfl) : BI κ xw X tg (.Call (.Name "range" p) [a, b, c] [] pos) (iRng3 ta) (mRange3 ma) :=
  ⟨pi_range3 hg hm ha.p hs hpl, si_range3 ha.s⟩
/-! ### list of a dict: its keys -/
def oListX (fz : Bool) : OpA := fun ws μ => match ws with
  | [w] => match seqW μ w with
    | some xs => mkL fz xs μ
    | none => match ditems μ w with
      | some kvs => mkL fz (kvs.map fun p => kW p.1) μ
      | none => .bad
  | _ => .bad
def rListX (K : PySem.W.Frag) : List V → Hp → VK → Prop := fun xs H Q => (∃ p ys, xs = [.ref p] ∧ (SqL K H p ys ∨ SqT K H p ys) ∧ ∀ l, H l = none → Q (.ref l) (upd H l (.lst ys))) ∨ (∃ (a : Addr) (kvs : List (Key × V)), xs = [.ref a] ∧ Rd H a (.dK kvs) ∧ ∀ p, H p = none → Q (.ref p) (upd H p (.lst (kvs.map fun kv => kV kv.1))))
theorem keys_rws : ∀ {kvs : List (Key × W)} {ys : List (Key × V)}, RWk κ ρ H ys kvs → RWs κ ρ H (ys.map fun kv => kV kv.1) (kvs.map fun p => kW p.1)
  | [], _, q => by cases q; exact RWs.nil
  | (k, w) :: r, _, ⟨x, xr, e, p, q⟩ => by subst e; exact RWs.cons (kW_ok k) (keys_rws q)
theorem sc_listX (fz : Bool) : SC κ (rListX κ.K) (oListX fz) := fun xw ρ μ H σ vs ws Q s rs p => by
  unfold oListX at p
  split at p
  · split at p
    · rename_i w xs hx
      exact .inl (sc_list fz xw ρ μ H σ vs _ Q s rs (by unfold oList; simp only [hx]; exact p))
    · split at p
      · rename_i kvs hk
        obtain ⟨x, rfl, r1⟩ := rws1 rs
        obtain ⟨a, ys, rfl, ha, q⟩ := ditems_ok hk s r1
        exact .inr ⟨a, ys, rfl, ha, fun l hl => PoE.lst p s (keys_rws q) hl⟩
      · exact p.elim
  · exact p.elim
/-! ### max of a list of numbers -/
def maxI (i : Int) (r : List Int) : Int := r.foldl max i
theorem maxI_ge : ∀ (r : List Int) (i : Int), i ≤ maxI i r ∧ ∀ j ∈ r, j ≤ maxI i r
  | [], i => ⟨Int.le_refl _, by simp⟩
  | k :: r, i => by
    obtain ⟨h1, h2⟩ := maxI_ge r (max i k)
    refine ⟨Int.le_trans (Int.le_max_left _ _) h1, fun j hj => ?_⟩
    rcases List.mem_cons.mp hj with rfl | hj
    · exact Int.le_trans (Int.le_max_right _ _) h1
    · exact h2 j hj
theorem maxI_mem : ∀ (r : List Int) (i : Int), maxI i r = i ∨ maxI i r ∈ r
  | [], i => .inl rfl
  | k :: r, i => by
    rcases maxI_mem r (max i k) with h | h
    · show maxI (max i k) r = i ∨ _
      rw [show maxI i (k :: r) = maxI (max i k) r from rfl, h]
      rcases Int.le_total i k with q | q
      · right; rw [Int.max_eq_right q]; simp
      · left; exact Int.max_eq_left q
    · right; exact List.mem_cons_of_mem _ h
def oMax1 : OpA := fun ws μ => match ws with
  | [w] => match (ritems μ w).bind intsW with
    | some (i :: r) => .ok (.imm (.int (maxI i r))) μ
    | _ => .bad
  | _ => .bad
theorem sc_max1 : SC κ (rMax κ.K) oMax1 := fun xw ρ μ H σ vs ws Q s rs p => by
  unfold oMax1 at p
  split at p
  · split at p
    · rename_i w _ i r hr
      obtain ⟨x, rfl, r1⟩ := rws1 rs
      cases hw : ritems μ w with
      | none => rw [hw] at hr; cases hr
      | some wl =>
        rw [hw] at hr
        obtain ⟨a, xs, rfl, ha, q⟩ := ritems_ok hw s r1
        have e := intsW_ok hr q
        subst e
        refine ⟨a, i :: r, rfl, ha, by simp, fun mx h1 h2 => ?_⟩
        have e : mx = maxI i r := by
          obtain ⟨g1, g2⟩ := maxI_ge r i
          have a1 : mx ≤ maxI i r := by rcases List.mem_cons.mp h1 with rfl | h; exact g1; exact g2 _ h
          have a2 : maxI i r ≤ mx := by rcases maxI_mem r i with h | h; rw [h]; exact h2 i (by simp); exact h2 _ (by simp [h])
          omega
        rw [e]
        exact p ρ H _ Le.refl s rfl
    · exact p.elim
  · exact p.elim
end
section
variable {κ : Kap} {xw : XW} {X : Cx} {e o f tg : Expr} {es : List Expr} {ta : TA} {ma : Ma} {pos apos p : Pos}
theorem be_listX (fz : Bool) (c : Cc κ X) (hm : X.mg "list" = none) (ha : BA κ xw X (e :: es) ta ma) (hg : Gl X "list" := by rfl) (he : starEach (e :: es) X.env = (false, eval e X.env) :: starEach es X.env := by rfl) (hpl : (backTo pos (starEach es X.env)).any (·.1) = false := by rfl) :
    BE κ xw X (.Call (.Name "list" p) (e :: es) [] pos) (tCB (rListX κ.K) ta) (mCB (oListX fz) ma) :=
  be_ty (fun pins s σ H vs us Q I r h => h.elim (fun h => call_list_of pins s σ H vs us Q I r (by rw [c.K]; exact h)) (fun h => call_listD c.calm pins s σ H vs us Q I r h)) (sc_listX fz) hm (by decide +kernel) ha hg (by decide) (by decide) he hpl
theorem be_max1 (c : Cc κ X) (hm : X.mg "max" = none) (ha : BA κ xw X (e :: es) ta ma) (hg : Gl X "max" := by rfl) (he : starEach (e :: es) X.env = (false, eval e X.env) :: starEach es X.env := by rfl) (hpl : (backTo pos (starEach es X.env)).any (·.1) = false := by rfl) :
    BE κ xw X (.Call (.Name "max" p) (e :: es) [] pos) (tCB (rMax κ.K) ta) (mCB oMax1 ma) := be_cb (by have := cr_max (X := X) c.calm; rw [c.K] at this; exact this) sc_max1 hm (by decide +kernel) ha hg (by decide) (by decide) he hpl
end
/-! ### what they are -/
section
variable {E : Env} {μ : Store} {m : Me} {ma : Ma} {w : W} {i : Nat}
def kDisp (μ : Store) : List (Key × W) → Store → Rs W := fun kvs μ2 => if μ2[μ.length]? = some (.dct []) ∧ kvs.length ≤ 15 then .ok (.loc μ.length) (μ2.set μ.length (.dct (mergeG [] kvs))) else .bad
theorem g_disp {ps : List (Key × Me)} : mDisp ps E μ = (dispL ps E (μ ++ [.dct []])).bind (kDisp μ) := Eq.trans rfl rfl
def kDL1 (k : Key) (w : W) : List (Key × W) → Store → Rs (List (Key × W)) := fun kvs μ2 => .ok ((k, w) :: kvs) μ2
def kDL (k : Key) (r : List (Key × Me)) (E : Env) : W → Store → Rs (List (Key × W)) := fun w μ1 => (dispL r E μ1).bind (kDL1 k w)
theorem g_dispN : dispL [] E μ = .ok [] μ := Eq.trans rfl rfl
theorem g_dispC {k : Key} {r : List (Key × Me)} : dispL ((k, m) :: r) E μ = (m E μ).bind (kDL k r E) := Eq.trans rfl rfl
theorem g_kDL {k : Key} {r : List (Key × Me)} : kDL k r E w μ = (dispL r E μ).bind (kDL1 k w) := Eq.trans rfl rfl
theorem g_kDL1 {k : Key} {kvs : List (Key × W)} : kDL1 k w kvs μ = .ok ((k, w) :: kvs) μ := Eq.trans rfl rfl
theorem g_kDisp0 {kvs : List (Key × W)} (h : kvs.length ≤ 15) : kDisp μ kvs (μ ++ [.dct []]) = .ok (.loc μ.length) (μ ++ [.dct (mergeG [] kvs)]) := by
  unfold kDisp
  rw [if_pos ⟨by simp, h⟩]
  simp
theorem kDisp_at {μ2 : Store} {kvs : List (Key × W)} (h : kvs.length ≤ 15) (h2 : μ2[μ.length]? = some (.dct [])) : kDisp μ kvs μ2 = .ok (.loc μ.length) (μ2.set μ.length (.dct (mergeG [] kvs))) := by
  unfold kDisp
  rw [if_pos ⟨h2, h⟩]
theorem g_range3 : mRange3 ma E μ = (ma E μ).bind kR3 := Eq.trans rfl rfl
theorem size_up {i j c : Int} (hc : 0 < c) : Builtin.Range.rangeSize i j c = if i < j then (j - i - 1) / c + 1 else 0 := by
  unfold Builtin.Range.rangeSize
  rw [if_pos hc]
theorem fits {i : Int} (h : -9000000000 ≤ i ∧ i ≤ 9000000000) : Builtin.Range.rangeFitsLong i = true := by
  unfold Builtin.Range.rangeFitsLong
  simp only [Bool.and_eq_true, decide_eq_true_eq]
  omega
theorem rangeOk_up {i j c : Int} (hi : -1000000000 ≤ i ∧ i ≤ 1000000000) (hj : -1000000000 ≤ j ∧ j ≤ 1000000000) (hc : 0 < c ∧ c ≤ 1000000000) : rangeOk i j c = true := by
  have h2 : 0 ≤ Builtin.Range.rangeSize i j c ∧ Builtin.Range.rangeSize i j c ≤ 2000000001 := by
    rw [size_up hc.1]
    split
    · have := Int.ediv_nonneg (a := j - i - 1) (b := c) (by omega) (by omega)
      have := Int.ediv_le_self (a := j - i - 1) c (by omega)
      omega
    · omega
  unfold rangeOk Builtin.Range.small
  rw [fits (by omega), fits (by omega), fits (by omega), fits (by omega), if_pos hc.1, fits (by omega)]
  simp only [Bool.and_true, Bool.or_true, Bool.and_eq_true, decide_eq_true_eq]
  omega
theorem g_kR3 {i j c : Int} (hi : -1000000000 ≤ i ∧ i ≤ 1000000000) (hj : -1000000000 ≤ j ∧ j ≤ 1000000000) (hc : 0 < c ∧ c ≤ 1000000000) : kR3 [.imm (.int i), .imm (.int j), .imm (.int c)] μ = .ok (rangeWC i c (Builtin.Range.rangeSize i j c).toNat, []) μ := if_pos (rangeOk_up hi hj hc)
theorem g_listXL {fz : Bool} {ds : List D} : oListX fz [.imm (.lst ds)] μ = mkL fz (ds.map W.imm) μ := Eq.trans rfl rfl
def kListX (fz : Bool) (x : Option MO) (μ : Store) : Rs W := match x with
  | some (.lst ws) => mkL fz ws μ
  | some (.dct kvs) => mkL fz (kvs.map fun p => kW p.1) μ
  | some (.fdct kvs) => mkL fz (kvs.map fun p => kW p.1) μ
  | _ => .bad
theorem g_listXLoc {fz : Bool} : oListX fz [.loc i] μ = kListX fz μ[i]? μ := by
  show (match seqW μ (.loc i) with | some xs => mkL fz xs μ | none => match ditems μ (.loc i) with | some kvs => mkL fz (kvs.map fun p : Key × W => kW p.1) μ | none => .bad) = _
  unfold seqW ritems litems ditems kListX titems
  simp only []
  generalize μ[i]? = x
  cases x with
  | none => rfl
  | some mo => cases mo <;> rfl
theorem g_kListXL {fz : Bool} {ws : List W} : kListX fz (some (.lst ws)) μ = mkL fz ws μ := Eq.trans rfl rfl
theorem g_kListXD {fz : Bool} {kvs : List (Key × W)} : kListX fz (some (.dct kvs)) μ = mkL fz (kvs.map fun p => kW p.1) μ := Eq.trans rfl rfl
theorem g_kListXF {fz : Bool} {kvs : List (Key × W)} : kListX fz (some (.fdct kvs)) μ = mkL fz (kvs.map fun p => kW p.1) μ := Eq.trans rfl rfl
theorem g_listXD {fz : Bool} {kvs : List (Key × D)} : oListX fz [.imm (.dct kvs)] μ = mkL fz (kvs.map fun p => kW p.1) μ := by
  show mkL fz ((kvs.map fun p : Key × D => (p.1, W.imm p.2)).map fun p : Key × W => kW p.1) μ = _
  rw [List.map_map]
  rfl
theorem SrcP.listX {ws : List W} (h : SrcP w ws μ) {fz : Bool} : oListX fz [w] μ = mkL fz ws μ := by
  show (match seqW μ w with | some xs => mkL fz xs μ | none => _) = _
  unfold seqW
  rw [h.ritems]
theorem SrcP.max1 {k : Int} {is : List Int} (h : SrcP w (((k :: is).map D.int).map W.imm) μ) : oMax1 [w] μ = .ok (.imm (.int (maxI k is))) μ := by
  have e : (((k :: is).map D.int).map W.imm) = (k :: is).map fun i => W.imm (.int i) := by simp
  unfold oMax1
  simp only [h.ritems, Option.bind_some]
  rw [e, intsW_map]
end
end Gx

namespace Gx
open PySem PySem.Spec PyProof.Rows L2
/-! ### xs[lo:hi:st] of a list -/
def pickG {α : Type} (xs : List α) (lo hi st : Option Int) : List α := (sliceRange (sliceBounds lo hi st xs.length).1 (sliceBounds lo hi st xs.length).2.1 (sliceBounds lo hi st xs.length).2.2).filterMap (xs[·]?)
theorem pickG_map {α β : Type} (f : α → β) (xs : List α) (lo hi st : Option Int) : pickG (xs.map f) lo hi st = (pickG xs lo hi st).map f := by
  unfold pickG
  rw [List.length_map, List.map_filterMap]
  congr 1
  funext i
  simp
theorem slicePick_arr (items : List Value) (lo hi st : Option Int) : slicePick items.toArray lo hi st = (pickG items lo hi st).toArray := by
  unfold slicePick pickG
  simp
def tSlSt (K : PySem.W.Frag) (te : TE) (tl th ts : TO) : TE := fun σ H Q => te σ H fun x H1 => tl σ H1 fun lo H2 => th σ H2 fun hi H3 => ts σ H3 fun st H4 => ∃ a xs, x = .ref a ∧ SqL K H4 a xs ∧ st ≠ some 0 ∧ ∀ p, H4 p = none → Q (.ref p) (upd H4 p (.lst (pickG xs lo hi st)))
theorem vals_pick {xs : List V} {us : List Value} (r : Vals xs us) (lo hi st : Option Int) : Vals (pickG xs lo hi st) (pickG us lo hi st) := by
  unfold pickG
  rw [r.length]
  generalize sliceRange _ _ _ = is
  induction is with
  | nil => exact .nil
  | cons i is ih =>
    rw [List.filterMap_cons, List.filterMap_cons]
    cases hx : xs[i]? with
    | none =>
      have : us[i]? = none := by
        rw [List.getElem?_eq_none_iff] at hx ⊢
        rw [← r.length]; exact hx
      rw [this]
      exact ih
    | some x =>
      obtain ⟨u, hu, ru⟩ := r.get hx
      rw [hu]
      exact .cons ru ih
theorem pickG_len {α : Type} (xs : List α) (lo hi st : Option Int) (h0 : st ≠ some 0) : (pickG xs lo hi st).length ≤ xs.length := by
  unfold pickG
  refine Nat.le_trans (List.length_filterMap_le _ _) ?_
  refine sliceRange_length_le _ _ _ _ ?_ ?_
  · intro hc
    unfold sliceBounds at hc ⊢
    cases lo <;> cases hi <;> simp only [] at hc ⊢ <;> simp only [hc, if_true] <;> refine ⟨?_, ?_⟩ <;> (repeat' split) <;> omega
  · intro hc
    unfold sliceBounds at hc ⊢
    cases lo <;> cases hi <;> simp only [] at hc ⊢ <;> simp only [hc, if_false] <;> refine ⟨?_, ?_⟩ <;> (repeat' split) <;> omega
theorem pe_slSt {X : Cx} {e : Expr} {te : TE} {lo hi : Option Expr} {st : Expr} {tl th ts : TO} {p3 pos : Pos} (he : PE X e te) (hl : PO X lo tl) (hh : PO X hi th) (hs : PO X (some st) ts)
    (hops : ∀ (a : Addr) (b : Addr), subscripted (.Slice lo hi (some st) p3) false (.ref a) (.ref b) = operate [.ref a, .ref b] (getItem (.ref a) (.ref b)) := by with_unfolding_all (intros; rfl)) :
    PE X (.Subscript e (.Slice lo hi (some st) p3) pos) (tSlSt X.K te tl th ts) := by
  refine ⟨fun pins s σ H Q I h => ?_⟩
  refine Subscript_ (thn (he.run pins s σ H _ I h) fun v s1 ⟨x, H1, I1, r1, q1⟩ => ?_)
  refine wpAny_Slice (thn (hl.run pins s1 σ H1 _ I1 q1) fun vl s2 ⟨l, H2, I2, pl, q2⟩ => ?_)
  refine thn (hh.run pins s2 σ H2 _ I2 q2) fun vu s3 ⟨u, H3, I3, pu, q3⟩ => ?_
  refine thn (hs.run pins s3 σ H3 _ I3 q3) fun vs s4 ⟨o, H4, I4, ps, q4⟩ => ?_
  obtain ⟨a, xs, ex, hx, h0, q⟩ := q4
  subst ex
  cases r1
  have I5 : Inv X pins σ H4 { s4 with heap := s4.heap.push { cls := .type "slice", data := .fields #[vl, vu, vs] } } := I4.kept (t' := s4.toks) fun b ob q => Heap.get?_push_of_some _ q
  obtain ⟨its, r, ht, hz⟩ := I5.list hx
  have hlen := r.length
  show wpAny (model X.prog X.w) X.A (subscriptTail e (.Slice lo hi (some st) p3) (.ref a) (.ref s4.heap.objs.size)) (EP X pins σ Q) X.xe { s4 with heap := s4.heap.push { cls := .type "slice", data := .fields #[vl, vu, vs] } }
  refine tail_any (ops := [.ref a, .ref s4.heap.objs.size]) ht.isList.typeIs (PySem.slot_list_getitem.lookup) ?_ (hops _ _)
  refine wpAny_getItem_list_slice ht.isList (Heap.IsSliceOf.new _ vl vu vs) pl pu ps h0 ?_ (by rw [List.size_toArray]; omega)
  rw [slicePick_arr]
  refine ⟨.ref _, _, I5.laid (t' := s4.toks) (o := .lst (pickG xs l u o)) (fun b ob q => Heap.get?_push_of_some _ q) (Nat.le_refl _) ?_, rfl, q _ (I5.hok.fresh (Nat.le_refl _))⟩
  exact ⟨Nat.le_trans (pickG_len xs l u o h0) hz, _, 0, vals_pick r l u o, Heap.get?_push_size _ rfl⟩
section
variable {κ : Kap} {xw : XW} {ρ ρ1 ρ' : Lo} {H H1 H' : Hp} {σ : L2.St} {E : Env} {μ μ1 μ' : Store} {te tb : TE} {ta : TA} {m mb : Me} {ma : Ma} {w : W}
theorem rws_pick {xs : List V} {ws : List W} (q : RWs κ ρ H xs ws) (lo hi st : Option Int) : RWs κ ρ H (pickG xs lo hi st) (pickG ws lo hi st) := by
  unfold pickG
  rw [q.length]
  generalize sliceRange _ _ _ = is
  induction is with
  | nil => exact RWs.nil
  | cons i is ih =>
    rw [List.filterMap_cons, List.filterMap_cons]
    cases hw : ws[i]? with
    | none =>
      have : xs[i]? = none := by
        rw [List.getElem?_eq_none_iff] at hw ⊢
        rw [q.length]; exact hw
      rw [this]
      exact ih
    | some w =>
      obtain ⟨v, hv, r⟩ := q.get hw
      rw [hv]
      exact RWs.cons r ih
def kSt4 (fz : Bool) (w : W) (lo hi : Option Int) : Option Int → Store → Rs W := fun st μ => match ritems μ w with
  | some ws => if st ≠ some 0 then mkL fz (pickG ws lo hi st) μ else .bad
  | none => .bad
def kSt3 (fz : Bool) (ms : Mo) (E : Env) (w : W) (lo : Option Int) : Option Int → Store → Rs W := fun hi μ => (ms E μ).bind (kSt4 fz w lo hi)
def kSt2 (fz : Bool) (mh ms : Mo) (E : Env) (w : W) : Option Int → Store → Rs W := fun lo μ => (mh E μ).bind (kSt3 fz ms E w lo)
def kSt1 (fz : Bool) (ml mh ms : Mo) (E : Env) : W → Store → Rs W := fun w μ => (ml E μ).bind (kSt2 fz mh ms E w)
def mSlSt (fz : Bool) (m : Me) (ml mh ms : Mo) : Me := fun E μ => (m E μ).bind (kSt1 fz ml mh ms E)
theorem se_slSt (fz : Bool) {tl th ts : TO} {ml mh ms : Mo} (ha : SE κ xw te m) (hl : SOo κ xw tl ml) (hh : SOo κ xw th mh) (hs : SOo κ xw ts ms) : SE κ xw (tSlSt κ.K te tl th ts) (mSlSt fz m ml mh ms) := fun ρ μ H σ E Q s e p =>
  ha.bind s e p fun w μ1 ρ1 H1 v l s1 e1 rv p1 => hl.bind s1 e1 p1 fun lo μ2 ρ2 H2 l2 s2 e2 p2 => hh.bind s2 e2 p2 fun hi μ3 ρ3 H3 l3 s3 e3 p3 => hs.bind s3 e3 p3 fun st μ4 ρ4 H4 l4 s4 e4 p4 => by
    have rv4 := ((rv.mono l2).mono l3).mono l4
    unfold kSt4 at p4
    split at p4
    · rename_i ws hw
      split at p4
      · rename_i h0
        obtain ⟨a, xs, rfl, hx, q⟩ := ritems_ok hw s4 rv4
        exact ⟨a, xs, rfl, hx, h0, fun l hl => PoE.lst p4 s4 (rws_pick q lo hi st) hl⟩
      · exact p4.elim
    · exact p4.elim
theorem be_slSt (fz : Bool) {X : Cx} {e st : Expr} {pos : Pos} {lo hi : Option Expr} {p2} {tl th ts : TO} {ml mh ms : Mo} (c : Cc κ X) (ha : BE κ xw X e te m) (hl : BO κ xw X lo tl ml) (hh : BO κ xw X hi th mh) (hs : BO κ xw X (some st) ts ms)
    (hops : ∀ (a : Addr) (b : Addr), subscripted (.Slice lo hi (some st) p2) false (.ref a) (.ref b) = operate [.ref a, .ref b] (getItem (.ref a) (.ref b)) := by with_unfolding_all (intros; rfl)) :
    BE κ xw X (.Subscript e (.Slice lo hi (some st) p2) pos) (tSlSt κ.K te tl th ts) (mSlSt fz m ml mh ms) := ⟨by rw [← c.K]; exact pe_slSt ha.p hl.p hh.p hs.p hops, se_slSt fz ha.s hl.s hh.s hs.s⟩
theorem g_slSt {fz : Bool} {ml mh ms : Mo} : mSlSt fz m ml mh ms E μ = (m E μ).bind (kSt1 fz ml mh ms E) := Eq.trans rfl rfl
theorem g_kSt1 {fz : Bool} {ml mh ms : Mo} : kSt1 fz ml mh ms E w μ = (ml E μ).bind (kSt2 fz mh ms E w) := Eq.trans rfl rfl
theorem g_kSt2 {fz : Bool} {mh ms : Mo} {lo : Option Int} : kSt2 fz mh ms E w lo μ = (mh E μ).bind (kSt3 fz ms E w lo) := Eq.trans rfl rfl
theorem g_kSt3 {fz : Bool} {ms : Mo} {lo hi : Option Int} : kSt3 fz ms E w lo hi μ = (ms E μ).bind (kSt4 fz w lo hi) := Eq.trans rfl rfl
theorem g_kSt4L {fz : Bool} {ds : List D} {lo hi : Option Int} {st : Int} (h : st ≠ 0) : kSt4 fz (.imm (.lst ds)) lo hi (some st) μ = mkL fz ((pickG ds lo hi (some st)).map W.imm) μ := by
  unfold kSt4
  simp only [ritems, litems]
  rw [if_pos (by simpa using h), pickG_map]
theorem SrcP.slSt {fz : Bool} {ws : List W} {lo hi : Option Int} {st : Int} (hs : SrcP w ws μ) (h : st ≠ 0) : kSt4 fz w lo hi (some st) μ = mkL fz (pickG ws lo hi (some st)) μ := by
  unfold kSt4
  simp only [hs.ritems]
  rw [if_pos (by simpa using h)]
theorem pickG_sub {α : Type} (xs : List α) (lo hi st : Option Int) : ∀ x ∈ pickG xs lo hi st, x ∈ xs := fun x hx => by
  unfold pickG at hx
  obtain ⟨i, _, h⟩ := List.mem_filterMap.mp hx
  exact List.mem_of_getElem? h
end
end Gx

namespace Gx
open PySem PySem.Spec PyProof.Rows L2
/-! ### what is seen as data in a store -/
mutual
def See (μ : Store) : W → D → Prop
  | w, .tup ds => w = .imm (.tup ds) ∨ ∃ ws, w = .tup ws ∧ Sees μ ws ds
  | w, .lst ds => w = .imm (.lst ds) ∨ ∃ n ws, w = .loc n ∧ μ[n]? = some (.lst ws) ∧ Sees μ ws ds
  | w, d => w = .imm d
def Sees (μ : Store) : List W → List D → Prop
  | ws, [] => ws = []
  | ws, d :: ds => ∃ w r, ws = w :: r ∧ See μ w d ∧ Sees μ r ds
end
section
variable {μ : Store} {w w1 w2 : W} {ws : List W} {ds : List D} {E : Env} {ma : Ma}
theorem see_imm (d : D) : See μ (.imm d) d := by
  cases d <;> first | exact .inl rfl | rfl
theorem sees_imm : ∀ ds : List D, Sees μ (ds.map W.imm) ds
  | [] => rfl
  | d :: ds => ⟨_, _, rfl, see_imm d, sees_imm ds⟩
theorem Sees.len : ∀ {ds : List D} {ws : List W}, Sees μ ws ds → ws.length = ds.length
  | [], _, h => by cases h; rfl
  | d :: ds, _, ⟨w, r, e, h1, h2⟩ => by subst e; rw [List.length_cons, List.length_cons, Sees.len h2]
theorem see_loc {n : Nat} (h : μ[n]? = some (.lst (ds.map W.imm))) : See μ (.loc n) (.lst ds) := .inr ⟨n, _, rfl, h, sees_imm ds⟩
theorem see_locs {n : Nat} (h : μ[n]? = some (.lst ws)) (hs : Sees μ ws ds) : See μ (.loc n) (.lst ds) := .inr ⟨n, _, rfl, h, hs⟩
theorem See.ofSrc (h : SrcP w (ds.map W.imm) μ) : See μ w (.lst ds) := by
  rcases h with ⟨ds2, rfl, e⟩ | ⟨i, rfl, h⟩
  · have : ds = ds2 := by
      have := congrArg immAll e
      rw [immAll_imm, immAll_imm] at this
      exact Option.some.inj this
    subst this
    exact .inl rfl
  · exact see_loc h
/-- as it stands: a tuple, a list -/
theorem See.tupP (h : See μ w (.tup ds)) : ∃ ws, titems w = some ws ∧ Sees μ ws ds ∧ kindW μ w = some 3 ∧ isNonW w = false ∧ lsrc μ w = none ∧ ritems μ w = none := by
  rcases h with rfl | ⟨ws, rfl, h⟩
  · exact ⟨_, rfl, sees_imm ds, rfl, rfl, rfl, rfl⟩
  · exact ⟨ws, rfl, h, rfl, rfl, rfl, rfl⟩
theorem See.lstP (h : See μ w (.lst ds)) : ∃ ws gd, lsrc μ w = some (ws, gd) ∧ chk gd μ = true ∧ Sees μ ws ds ∧ kindW μ w = some 4 ∧ isNonW w = false ∧ ritems μ w = some ws := by
  rcases h with rfl | ⟨n, ws, rfl, hm, h⟩
  · exact ⟨_, _, rfl, rfl, sees_imm ds, rfl, rfl, rfl⟩
  · exact ⟨ws, [(n, .lst ws)], by simp only [lsrc, hm], by simp [chk, hm], h, by simp only [kindW, hm], rfl, by simp only [ritems, litems, hm]⟩
theorem titems_mkT (ws : List W) : titems (mkT ws) = some ws := by
  unfold mkT
  split
  · rename_i ds h
    rw [immAll_map h]
    rfl
  · rfl
def kZip : List W → Store → Rs (List W × Gd) := fun ws μ1 => match ws with
  | [w, w'] => match lsrc μ1 w, lsrc μ1 w' with
    | some (xs, gd), some (ys, gd') => .ok (zipW xs ys, gd ++ gd') μ1
    | _, _ => match titems w, titems w' with
      | some xs, some ys => .ok (zipW xs ys, []) μ1
      | _, _ => .bad
  | _ => .bad
theorem g_zip : mZip ma E μ = (ma E μ).bind kZip := Eq.trans rfl rfl
theorem kZip_lst {xs ys : List W} {g1 g2 : Gd} (h1 : lsrc μ w1 = some (xs, g1)) (h2 : lsrc μ w2 = some (ys, g2)) : kZip [w1, w2] μ = .ok (zipW xs ys, g1 ++ g2) μ := by
  unfold kZip; simp only [h1, h2]
theorem kZip_tup {xs ys : List W} (a1 : lsrc μ w1 = none) (h1 : titems w1 = some xs) (h2 : titems w2 = some ys) : kZip [w1, w2] μ = .ok (zipW xs ys, []) μ := by
  unfold kZip; simp only [a1, h1, h2]
theorem kIsN_not (h : isNonW w = false) : kIsN w μ = .ok (.imm (.bl false)) μ := by
  show Rs.ok (W.imm (D.bl (isNonW w))) μ = _
  rw [h]
theorem oLen_of {n : Int} (h : lenW μ w = some n) : oLen [w] μ = .ok (.imm (.int n)) μ := by
  show (match lenW μ w with | some i => Rs.ok (W.imm (D.int i)) μ | none => .bad) = _
  rw [h]
theorem lenW_r {ws : List W} (h : ritems μ w = some ws) : lenW μ w = some (ws.length : Int) := by unfold lenW; simp only [h]
theorem lenW_t {ws : List W} (h : ritems μ w = none) (h2 : titems w = some ws) : lenW μ w = some (ws.length : Int) := by unfold lenW; simp only [h, h2]
/-- what may be compared by a walk -/
def likeD : Nat → D → Bool
  | 0, _ => false
  | _ + 1, .non => true
  | _ + 1, .bl _ => true
  | _ + 1, .int _ => true
  | _ + 1, .str _ => true
  | n + 1, .tup ds => ds.all (likeD n)
  | n + 1, .lst ds => ds.all (likeD n)
  | _ + 1, _ => false
end
end Gx

namespace Gx
open PySem PySem.Spec PyProof.Rows L2
section
variable {E : Env} {μ : Store} {me : Me} {mt : Mt} {tg : Mg} {mit : Mi} {gd : Gd} {vs : List Nat} {α : Type}
/-! ### comprehensions whose parts leave the store alone, over anything -/
theorem chk_app1 {mo : MO} (h : chk gd μ = true) : chk gd (μ ++ [mo]) = true := chk_app_store μ [mo] gd h
theorem compL_map {E0 : Env} {g : α → W} {f : α → Option W} (hc : chk gd μ = true) : ∀ (l : List α) (acc : List W), acc.length + l.length ≤ 1000000 →
    (∀ x ∈ l, ∃ E1, tg (g x) E0 = some E1 ∧ ∀ a, match f x with
      | none => mt E1 (μ ++ [.lst a]) = .ok false (μ ++ [.lst a])
      | some y => mt E1 (μ ++ [.lst a]) = .ok true (μ ++ [.lst a]) ∧ me E1 (μ ++ [.lst a]) = .ok y (μ ++ [.lst a])) →
    compL gd tg mt me E0 μ.length (l.map g) (μ ++ [.lst acc]) = .ok () (μ ++ [.lst (acc ++ l.filterMap f)])
  | [], acc, _, _ => by simp [compL]
  | x :: l, acc, hl, h => by
    obtain ⟨E1, h1, h2⟩ := h x (by simp)
    have h3 := h2 acc
    have hacc : acc.length < cap := by have : cap = 16000000 := rfl; simp at hl; omega
    rw [List.map_cons, compL]
    rw [h1]
    simp only
    cases hf : f x with
    | none =>
      rw [hf] at h3
      simp only at h3
      rw [h3]
      simp only
      rw [if_pos (chk_app1 hc), compL_map hc l acc (by simp at hl; omega) fun z hz => h z (by simp [hz]), List.filterMap_cons, hf]
    | some y =>
      rw [hf] at h3
      simp only at h3
      rw [h3.1]
      simp only
      rw [h3.2]
      simp only [getNew, setNew]
      rw [if_pos ⟨hacc, chk_app1 hc⟩, compL_map hc l (acc ++ [y]) (by simp at hl ⊢; omega) fun z hz => h z (by simp [hz]), List.filterMap_cons, hf]
      simp
theorem lc_map {g : α → W} {f : α → Option W} {l : List α} (hi : mit E μ = .ok (l.map g, gd) μ) (hc : chk gd μ = true) (hl : l.length ≤ 1000000)
    (h : ∀ x ∈ l, ∃ E1, tg (g x) (wipeW E vs) = some E1 ∧ ∀ a, match f x with
      | none => mt E1 (μ ++ [.lst a]) = .ok false (μ ++ [.lst a])
      | some y => mt E1 (μ ++ [.lst a]) = .ok true (μ ++ [.lst a]) ∧ me E1 (μ ++ [.lst a]) = .ok y (μ ++ [.lst a])) :
    mLc mit tg mt me vs E μ = .ok (.loc μ.length) (μ ++ [.lst (l.filterMap f)]) := by
  unfold mLc
  rw [hi]
  simp only [bind_ok]
  rw [compL_map hc l [] (by simpa using hl) h]
  simp
/-- .. as data -/
theorem lc_mapD {g : α → W} {f : α → Option D} {l : List α} (hi : mit E μ = .ok (l.map g, gd) μ) (hc : chk gd μ = true) (hl : l.length ≤ 1000000)
    (h : ∀ x ∈ l, ∃ E1, tg (g x) (wipeW E vs) = some E1 ∧ ∀ μ, match f x with
      | none => mt E1 μ = .ok false μ
      | some y => mt E1 μ = .ok true μ ∧ me E1 μ = .ok (.imm y) μ) :
    retr μ (mLc mit tg mt me vs E μ) = .ok (.imm (.lst (l.filterMap f))) μ := by
  have e := lc_map (vs := vs) (me := me) (mt := mt) (tg := tg) (f := fun x => (f x).map W.imm) hi hc hl fun x hx => by
    obtain ⟨E1, h1, h2⟩ := h x hx
    refine ⟨E1, h1, fun a => ?_⟩
    have := h2 (μ ++ [.lst a])
    cases hf : f x with
    | none => rw [hf] at this; simpa [hf] using this
    | some y => rw [hf] at this; simpa [hf] using this
  refine retr_loc e (Nat.le_refl _) ?_
  rw [getNew, List.map_filterMap]
end
end Gx

namespace Gx
open PySem PySem.Spec PyProof.Rows L2
section
variable {E E1 : Env} {μ μ1 : Store} {m mb mc mo mi me : Me} {ma : Ma} {a b : Ms} {w w2 x : W} {G : Fg} {i j k c : Nat}
/-! ### places beyond a store's end -/
theorem getN {l : Store} {k : Nat} : (μ ++ l)[μ.length + k]? = l[k]? := by
  rw [List.getElem?_append_right (Nat.le_add_right _ _), Nat.add_sub_cancel_left]
theorem setN {l : Store} {k : Nat} {y : MO} : (μ ++ l).set (μ.length + k) y = μ ++ l.set k y := by
  rw [List.set_append_right _ _ (Nat.le_add_right _ _), Nat.add_sub_cancel_left]
/-! ### o.f -/
def kFld (c i : Nat) : W → Store → Rs W := fun w μ => oFld c i w μ
def kFldO (c i : Nat) (o : Option MO) (μ : Store) : Rs W := match o with
  | some (.ins c' ws) => if c' = c then kIxW ws[i]? μ else .bad
  | _ => .bad
theorem g_fld : mFld c i m E μ = (m E μ).bind (kFld c i) := Eq.trans rfl rfl
theorem g_kFldLoc : kFld c i (.loc j) μ = kFldO c i μ[j]? μ := by
  unfold kFld oFld oitems kFldO
  simp only []
  generalize μ[j]? = o
  cases o with
  | none => rfl
  | some mo => cases mo with
    | ins c' ws =>
      simp only []
      split
      · cases ws[i]? <;> rfl
      · rfl
    | _ => rfl
theorem g_kFldO {ws : List W} : kFldO c i (some (.ins c ws)) μ = kIxW ws[i]? μ := if_pos rfl
/-! ### o.f = e -/
def kPF3 (E : Env) (o : Option Store) : Fl := match o with
  | some μ3 => .nx E μ3
  | none => .bad
def kPF2 (c i : Nat) (E : Env) (x : W) : W → Store → Fl := fun w μ2 => kPF3 E (putFld c i w x μ2)
def kPF1 (c i : Nat) (mo : Me) (E : Env) : W → Store → Fl := fun x μ1 => (mo E μ1).fl E (kPF2 c i E x)
def kPFO (c i n : Nat) (x : W) (μ : Store) (o : Option MO) : Option Store := match o with
  | some (.ins c' ws) => if c' = c then (match setAt ws i x with
    | some ws' => some (μ.set n (.ins c ws'))
    | none => none) else none
  | _ => none
theorem g_putFld : mPutFld c i mo me E μ = (me E μ).fl E (kPF1 c i mo E) := Eq.trans rfl rfl
theorem g_kPF1 : kPF1 c i mo E x μ = (mo E μ).fl E (kPF2 c i E x) := Eq.trans rfl rfl
theorem g_kPF2 : kPF2 c i E x (.loc j) μ = kPF3 E (kPFO c i j x μ μ[j]?) := Eq.trans rfl rfl
theorem g_kPF3 : kPF3 E (some μ) = .nx E μ := Eq.trans rfl rfl
theorem g_kPFO {ws : List W} (h : i < ws.length) : kPFO c i j x μ (some (.ins c ws)) = some (μ.set j (.ins c (ws.set i x))) := by
  unfold kPFO setAt
  simp only [if_true, h]
theorem kPFO_new {ws : List W} (h : i = ws.length) : kPFO c i j x μ (some (.ins c ws)) = some (μ.set j (.ins c (ws ++ [x]))) := by
  unfold kPFO setAt
  simp only [if_true, h, Nat.lt_irrefl, if_false]
theorem g_kPFOn {ws : List W} (h : ws.length = i) : kPFO c i j x μ (some (.ins c ws)) = some (μ.set j (.ins c (ws ++ [x]))) := kPFO_new h.symm
/-! ### o.m(..) -/
def kMeth3 (k : Nat) (G : Fg) (w : W) : List W → Store → Rs W := fun ws μ2 => if ws.length + 1 = k then (G (w :: ws) μ2).fin else .bad
def kMeth1 (c k : Nat) (G : Fg) (ma : Ma) (E : Env) : W → Store → Rs W := fun w μ1 => match oitems μ1 w with
  | some (c', _) => if c' = c then (ma E μ1).bind (kMeth3 k G w) else .bad
  | none => .bad
def kMethO (c k : Nat) (G : Fg) (ma : Ma) (E : Env) (j : Nat) (μ : Store) (o : Option MO) : Rs W := match o with
  | some (.ins c' _) => if c' = c then (ma E μ).bind (kMeth3 k G (.loc j)) else .bad
  | _ => .bad
theorem g_meth : mMeth c k G mo ma E μ = (mo E μ).bind (kMeth1 c k G ma E) := Eq.trans rfl rfl
theorem g_kMeth1 : kMeth1 c k G ma E (.loc j) μ = kMethO c k G ma E j μ μ[j]? := by
  unfold kMeth1 oitems kMethO
  simp only []
  generalize μ[j]? = o
  cases o with
  | none => rfl
  | some mo => cases mo <;> rfl
theorem g_kMethO {ws : List W} : kMethO c k G ma E j μ (some (.ins c ws)) = (ma E μ).bind (kMeth3 k G (.loc j)) := if_pos rfl
theorem g_kMeth3 {ws : List W} (h : ws.length + 1 = k) : kMeth3 k G w ws μ = (G (w :: ws) μ).fin := if_pos h
/-! ### C(..) -/
def kMake2 (μ1 : Store) (r : Rs W) : Rs W := match r with
  | .ok (.imm .non) μ2 => .ok (.loc μ1.length) μ2
  | _ => .bad
def kMake (c k : Nat) (G : Fg) : List W → Store → Rs W := fun ws μ1 => if ws.length + 1 = k then kMake2 μ1 (G (.loc μ1.length :: ws) (μ1 ++ [.ins c []])) else .bad
theorem g_make : mMake c k G ma E μ = (ma E μ).bind (kMake c k G) := by
  unfold mMake kMake kMake2
  congr 1
theorem g_kMake {ws : List W} (h : ws.length + 1 = k) : kMake c k G ws μ = kMake2 μ (G (.loc μ.length :: ws) (μ ++ [.ins c []])) := if_pos h
theorem g_kMake2 : kMake2 μ (.ok (.imm .non) μ1) = .ok (.loc μ.length) μ1 := Eq.trans rfl rfl
/-! ### o.f += e -/
def kAF3 (c i : Nat) (E : Env) (w : W) (x : Int) : W → Store → Fl := fun y μ2 => match y with
  | .imm (.int z) => kPF3 E (putFld c i w (.imm (.int (x + z))) μ2)
  | _ => .bad
def kAF2 (c i : Nat) (me : Me) (E : Env) (w : W) (μ1 : Store) (r : Rs W) : Fl := match r with
  | .ok (.imm (.int x)) _ => (me E μ1).fl E (kAF3 c i E w x)
  | _ => .bad
def kAF1 (c i : Nat) (me : Me) (E : Env) : W → Store → Fl := fun w μ1 => kAF2 c i me E w μ1 (kFld c i w μ1)
theorem g_augFld : mAugFld c i mo me E μ = (mo E μ).fl E (kAF1 c i me E) := by
  unfold mAugFld kAF1 kAF2 kAF3 kPF3 kFld
  rfl
theorem g_kAF1 : kAF1 c i me E w μ = kAF2 c i me E w μ (kFld c i w μ) := Eq.trans rfl rfl
theorem g_kAF2 {z : Int} : kAF2 c i me E w μ (.ok (.imm (.int z)) μ1) = (me E μ).fl E (kAF3 c i E w z) := Eq.trans rfl rfl
theorem g_kAF3 {z y : Int} : kAF3 c i E (.loc j) z (.imm (.int y)) μ = kPF3 E (kPFO c i j (.imm (.int (z + y))) μ μ[j]?) := Eq.trans rfl rfl
/-! ### pop -/
def kPop2 (i : Nat) (xs : List W) (μ : Store) (o : Option W) : Rs W := match o with
  | some y => .ok y (μ.set i (.lst xs.dropLast))
  | none => .bad
def kPop (i : Nat) (o : Option MO) (μ : Store) : Rs W := match o with
  | some (.lst xs) => kPop2 i xs μ xs[xs.length - 1]?
  | _ => .bad
theorem kPop_gen (i : Nat) (o : Option MO) (μ : Store) : (match o with
    | some (.lst xs) => (match xs[xs.length - 1]? with
      | some y => Rs.ok y (μ.set i (.lst xs.dropLast))
      | none => .bad)
    | _ => .bad) = kPop i o μ := by
  cases o with
  | none => rfl
  | some mo => cases mo with
    | lst xs => unfold kPop kPop2; cases xs[xs.length - 1]? <;> rfl
    | _ => rfl
theorem g_pop : oPop (.loc i) [] μ = kPop i μ[i]? μ := Eq.trans (by
  unfold oPop onL
  rfl) (kPop_gen i μ[i]? μ)
theorem kPop_snoc {ws : List W} : kPop i (some (.lst (ws ++ [w]))) μ = .ok w (μ.set i (.lst ws)) := by
  unfold kPop
  simp only [List.length_append, List.length_singleton, Nat.add_sub_cancel]
  rw [List.getElem?_append_right (Nat.le_refl _), Nat.sub_self]
  simp [kPop2]
/-! ### d.get(k, x), k in d, d[k] -/
def kDG3 (w : W) (k : W) : W → Store → Rs W := fun x μ3 => match ditems μ3 w, keyD k with
  | some kvs, some kk => .ok ((valG kvs kk).getD x) μ3
  | _, _ => .bad
def kDG2 (mx : Me) (E : Env) (w : W) : W → Store → Rs W := fun k μ2 => (mx E μ2).bind (kDG3 w k)
def kDG1 (mk mx : Me) (E : Env) : W → Store → Rs W := fun w μ1 => match ditems μ1 w with
  | some _ => (mk E μ1).bind (kDG2 mx E w)
  | none => .bad
theorem g_dget2 {mk mx : Me} : mDGet2 mo mk mx E μ = (mo E μ).bind (kDG1 mk mx E) := Eq.trans rfl rfl
theorem ditems_loc {kvs : List (Key × W)} (h : μ[i]? = some (.dct kvs)) : ditems μ (.loc i) = some kvs := by simp only [ditems, h]
theorem ditems_f {kvs : List (Key × W)} (h : μ[i]? = some (.fdct kvs)) : ditems μ (.loc i) = some kvs := by simp only [ditems, h]
theorem ditems_imm {kvs : List (Key × D)} : ditems μ (.imm (.dct kvs)) = some (kvs.map fun p => (p.1, W.imm p.2)) := rfl
theorem kDG1_of {mk mx : Me} {kvs : List (Key × W)} (h : ditems μ w = some kvs) : kDG1 mk mx E w μ = (mk E μ).bind (kDG2 mx E w) := by
  unfold kDG1
  simp only [h]
theorem g_kDG2 {mx : Me} : kDG2 mx E w w2 μ = (mx E μ).bind (kDG3 w w2) := Eq.trans rfl rfl
theorem kDG3_of {kvs : List (Key × W)} {kk : Key} (h : ditems μ w = some kvs) (hk : keyD w2 = some kk) : kDG3 w w2 x μ = .ok ((valG kvs kk).getD x) μ := by
  unfold kDG3
  simp only [h, hk]
theorem oIn_dict {kvs : List (Key × W)} {kk : Key} (h : ditems μ w = some kvs) (hk : keyD w2 = some kk) : oIn w2 w μ = .ok (.imm (.bl (hasG kvs kk))) μ := by
  unfold oIn memW
  simp only [h, hk]
theorem oNotIn_dict {kvs : List (Key × W)} {kk : Key} (h : ditems μ w = some kvs) (hk : keyD w2 = some kk) : oNotIn w2 w μ = .ok (.imm (.bl (!hasG kvs kk))) μ := by
  unfold oNotIn memW
  simp only [h, hk]
theorem oIx_dict {kvs : List (Key × W)} {kk : Key} (h : ditems μ w = some kvs) (hk : keyD w2 = some kk) (hv : valG kvs kk = some x) : oIx w w2 μ = .ok x μ := by
  unfold oIx ixK
  simp only [h, hk, hv]
theorem putIx_dict {kvs : List (Key × W)} {kk : Key} (h : μ[i]? = some (.dct kvs)) (hk : keyD w2 = some kk) (hl : kvs.length ≤ 1000000) : putIx (.loc i) w2 x μ = some (μ.set i (.dct (putG kvs kk x))) := by
  unfold putIx
  simp only [h, hk]
  rw [if_pos (Nat.lt_of_le_of_lt hl (by decide))]
/-! ### what a call leaves -/
theorem retr_same {d : D} (h : μ1.length = μ.length) : retr μ (.ok (.imm d) μ1) = .ok (.imm d) μ1 := by
  have hd : deepN none μ.length μ1 fuelR (.imm d) = some d := rfl
  unfold retr
  simp only [hd]
  rw [List.take_of_length_le (Nat.le_of_eq h)]
  split
  · rename_i e; rw [e]
  · rfl
/-! ### enumerate -/
def kEnum : List W → Store → Rs (List W × Gd) := fun ws μ1 => match ws with
  | [w] => match lsrc μ1 w with
    | some (xs, gd) => .ok (enumW 0 xs, gd) μ1
    | none => .bad
  | _ => .bad
theorem g_enum : mEnum ma E μ = (ma E μ).bind kEnum := Eq.trans rfl rfl
theorem g_kEnumL {ds : List D} : kEnum [.imm (.lst ds)] μ = .ok (enumW 0 (ds.map W.imm), []) μ := Eq.trans rfl rfl
theorem kEnum_loc {ws : List W} (h : μ[i]? = some (.lst ws)) : kEnum [.loc i] μ = .ok (enumW 0 ws, [(i, .lst ws)]) μ := by
  unfold kEnum
  simp only [lsrc, h]
theorem oOk_bl {b : Bool} : asB (.imm (.bl b)) = some b := rfl
end
end Gx

namespace Gx
open PySem PySem.Spec PyProof.Rows L2
section
variable {E : Env} {μ : Store} {tg : Mg} {a : Ms} {i j : Nat}
/-! ### for k in d -/
theorem kFV_imm {kvs : List (Key × D)} (hE : E[i]? = some (some (.imm (.dct kvs)))) : mForV i tg a E μ = noEx (forL [] tg a (kvs.map fun p => kW p.1) E μ) := by
  unfold mForV
  rw [hE]
  simp only [List.map_map]
  rfl
theorem kFV_dct {kvs : List (Key × W)} (hE : E[i]? = some (some (.loc j))) (hm : μ[j]? = some (.dct kvs)) : mForV i tg a E μ = noEx (forL [] tg a (kvs.map fun p => kW p.1) E (μ.set j (.fdct kvs))) := by
  unfold mForV
  rw [hE]
  simp only [hm]
theorem kFV_fdct {kvs : List (Key × W)} (hE : E[i]? = some (some (.loc j))) (hm : μ[j]? = some (.fdct kvs)) : mForV i tg a E μ = noEx (forL [] tg a (kvs.map fun p => kW p.1) E μ) := by
  unfold mForV
  rw [hE]
  simp only [hm]
theorem g_noExN : noEx (.nx E μ) = .nx E μ := Eq.trans rfl rfl
theorem g_noExR {w : W} : noEx (.rt w μ) = .rt w μ := Eq.trans rfl rfl
def kFVI (i : Nat) (tg : Mg) (a : Ms) (E : Env) (μ : Store) (kvs : List (Key × D)) : Fl := noEx (forL [] tg a (kvs.map fun p => kW p.1) E μ)
theorem g_kFVD {kvs : List (Key × D)} : kFV i tg a E μ (some (some (.imm (.dct kvs)))) = noEx (forL [] tg a (kvs.map fun p => kW p.1) E μ) := by
  unfold kFV
  simp only [List.map_map]
  rfl
end
end Gx

namespace Gx
open PySem PySem.Spec PyProof.Rows L2

/-! ### exceptions: what a def promises that may raise -/
/-- an exception's wish by its class's number -/
abbrev xwW (κ : Kap) (W : WX) : XW := fun c σ H => W (.ref (κ c)) none σ H
def PoCX (κ : Kap) (ρ : Lo) (H : Hp) (r : Rs W) (Q : VK) (E : XK) : Prop := match r with
  | .ok w μ' => ∀ ρ' H' v, Le ρ H ρ' H' → SR κ ρ' μ' H' → RW κ ρ' H' v w → Q v H'
  | .ex c μ' => ∀ ρ' H', Le ρ H ρ' H' → SR κ ρ' μ' H' → E (.ref (κ c)) none H'
  | .bad => False
def spX (κ : Kap) (n : Nat) (G : Fg) : Sp := fun vs H Q E => ∃ ρ μ ws, SR κ ρ μ H ∧ RWs κ ρ H vs ws ∧ ws.length = n ∧ PoCX κ ρ H (G ws μ) Q E
def runBodyX (nl : Nat) (m : Ms) (ws : List W) (μ : Store) : Rs W := match m (ws.map some ++ List.replicate (nl - ws.length) none) μ with
  | .nx _ μ' => .ok (.imm .non) μ'
  | .rt w μ' => .ok w μ'
  | .ex c _ μ' => .ex c μ'
  | _ => .bad
section
variable {κ : Kap} {Wx : WX} {xw : XW} {ρ ρ1 ρ2 ρ' : Lo} {H H1 H2 H' : Hp} {σ : L2.St} {E : Env} {μ μ1 μ2 μ' : Store} {te tb tc : TE} {ta : TA} {m mb mc : Me} {ma : Ma} {t u : TS} {a b : Ms}
theorem spX_len {N : Nat} {G : Fg} {vs : List V} {H : Hp} {Q : VK} {E : XK} (h : spX κ N G vs H Q E) : vs.length = N := by
  obtain ⟨ρ, μ, ws, _, q, e, _⟩ := h
  rw [q.length, e]
theorem fn_okX {P : Program} {w : World} {mg : Str → Option Value} {base : Heap} {x qual : Str} {st : Stmt} {f : Addr} {fd : FuncData} {N ps : List Str} {k : Nat} {m : Ms} (F : Fun κ.K x qual st f fd) (S : FnScope N ps (defScope st))
    (hbody : ∀ (cdv : Value) (A : Around) (outer : List PySem.Env) (s : Shared) (H : Hp) (E : XK), Room k (A.deeper (envOfC qual (defScope st) s.heap.objs.size f cdv)) →
      ∃ t, PSs (cxOf (L2.CX P w) P w κ.K mg base N qual (defScope st) f cdv A outer s H E) (defBody st) t ∧ SS κ (xwW κ fun cls d _ H => E cls d H) t m) :
    FnOk P w κ.K mg base (L2.CX P w) (k + 1) f fd ps (spX κ ps.length (runBodyX N.length m)) := by
  refine F.okX S (fun vs H Q E h => spX_len h) fun cdv A outer s H vs Q E hr h => ?_
  obtain ⟨t, hp, hs⟩ := hbody cdv A outer s H E hr
  refine ⟨t, hp, ?_⟩
  obtain ⟨ρ, μ, ws, sr, q, hl, p⟩ := h
  refine hs ρ μ H _ _ _ sr (re_start (N := N) q) ?_
  unfold PoCX runBodyX at p
  cases hm : m (ws.map some ++ List.replicate (N.length - ws.length) none) μ with
  | nx E1 μ1 => rw [hm] at p; exact fun ρ' H' σ' l s' e' => p ρ' H' _ l s' rfl
  | rt w' μ1 => rw [hm] at p; exact p
  | bk E1 μ1 => rw [hm] at p; exact p.elim
  | ct E1 μ1 => rw [hm] at p; exact p.elim
  | ex c E1 μ1 => rw [hm] at p; exact fun ρ' H' σ' l s' e' => p ρ' H' l s'
  | bad => rw [hm] at p; exact p.elim
theorem fn_okBX {P : Program} {w : World} {mg : Str → Option Value} {base : Heap} {x qual : Str} {st : Stmt} {f : Addr} {fd : FuncData} {N ps : List Str} {k : Nat} {m : Ms} (F : Fun κ.K x qual st f fd) (S : FnScope N ps (defScope st))
    (hbody : ∀ (cdv : Value) (A : Around) (outer : List PySem.Env) (s : Shared) (H : Hp) (E : XK), Room k (A.deeper (envOfC qual (defScope st) s.heap.objs.size f cdv)) → Cc κ (cxOf (L2.CX P w) P w κ.K mg base N qual (defScope st) f cdv A outer s H E) →
      Takes (cxOf (L2.CX P w) P w κ.K mg base N qual (defScope st) f cdv A outer s H E) (fun cls d _ H => E cls d H) →
      ∃ t, BSs κ (xwW κ fun cls d _ H => E cls d H) (cxOf (L2.CX P w) P w κ.K mg base N qual (defScope st) f cdv A outer s H E) (defBody st) t m) :
    FnOk P w κ.K mg base (L2.CX P w) (k + 1) f fd ps (spX κ ps.length (runBodyX N.length m)) :=
  fn_okX F S fun cdv A outer s H E hr => by
    obtain ⟨t, h⟩ := hbody cdv A outer s H E hr ⟨rfl, by have := hr.un; show (A.deeper (envOfC qual (defScope st) s.heap.objs.size f cdv)).units + 64 < cLine; omega, rfl, passes_of rfl, S.nd⟩ (takes_of rfl rfl rfl rfl)
    exact ⟨t, h.p, h.s⟩

/-! ### calls that may raise -/
def mCallX (k : Nat) (G : Fg) (ma : Ma) : Me := fun E μ => (ma E μ).bind fun ws μ1 => if ws.length = k then G ws μ1 else .bad
theorem PoCX.of {Q : VK} {r : Rs W} (p : PoE κ (xwW κ Wx') ρ H σ r Q) : PoCX κ ρ H r Q (WE Wx' σ) := by
  cases r with
  | ok w μ' => exact p
  | ex c μ' => exact p
  | bad => exact p.elim
theorem se_callX {k : Nat} {G : Fg} (ha : SA κ (xwW κ Wx) ta ma) : SE κ (xwW κ Wx) (tCallS (spX κ k G) (WE Wx) ta) (mCallX k G ma) := fun ρ μ H σ E Q s e p =>
  ha.bind s e p fun ws μ1 ρ1 H1 vs l s1 e1 rs p1 => by
    split at p1
    · rename_i hl
      exact ⟨ρ1, μ1, ws, s1, rs, hl, PoCX.of p1⟩
    · exact p1.elim
def tMethE (C : Addr) (m : Str) (sp : Sp) (E : L2.St → XK) (ta : TE) (t : TA) : TE := fun σ H Q => ta σ H fun x H1 => ∃ a dx fs, x = .ref a ∧ H1 a = some (.ins C dx fs) ∧ fs.lookup m = none ∧
  t σ H1 fun vs H2 => sp (x :: vs) H2 Q (E σ)
def mMethX (c k : Nat) (G : Fg) (mo : Me) (ma : Ma) : Me := fun E μ => (mo E μ).bind fun w μ1 => match oitems μ1 w with
  | some (c', _) => if c' = c then (ma E μ1).bind fun ws μ2 => if ws.length + 1 = k then G (w :: ws) μ2 else .bad else .bad
  | none => .bad
theorem se_methX {c k : Nat} {f : Str} {G : Fg} (hf : f ∉ nm c) (ho : SE κ (xwW κ Wx) te m) (ha : SA κ (xwW κ Wx) ta ma) : SE κ (xwW κ Wx) (tMethE (κ c) f (spX κ k G) (WE Wx) te ta) (mMethX c k G m ma) := fun ρ μ H σ E Q s e p =>
  ho.bind s e p fun w μ1 ρ1 H1 v l s1 e1 rv p1 => by
    split at p1
    · rename_i c' ws' hw
      split at p1
      · rename_i hc
        subst hc
        obtain ⟨a, dx, xs, rfl, hx, hl, q⟩ := oitems_ok hw s1 rv
        refine ⟨a, dx, _, rfl, hx, zip_lookup_none hf, ha.bind s1 e1 p1 fun ws μ2 ρ2 H2 vs l2 s2 e2 rs p2 => ?_⟩
        split at p2
        · rename_i hl
          exact ⟨ρ2, μ2, w :: ws, s2, RWs.cons (rv.mono l2) rs, hl, PoCX.of p2⟩
        · exact p2.elim
      · exact p1.elim
    · exact p1.elim
def tMakeE (C : Addr) (sp : Sp) (E : L2.St → XK) (t : TA) : TE := fun σ H Q => t σ H fun vs H1 => ∀ x dx, H1 x = none → H1 dx = none → dx ≠ x →
  sp (.ref x :: vs) (upd (upd H1 dx (.own x)) x (.ins C dx [])) (fun v H2 => v = .non ∧ Q (.ref x) H2) (E σ)
def mMakeX (c k : Nat) (G : Fg) (ma : Ma) : Me := fun E μ => (ma E μ).bind fun ws μ1 => if ws.length + 1 = k then (match G (.loc μ1.length :: ws) (μ1 ++ [.ins c []]) with
  | .ok (.imm .non) μ2 => .ok (.loc μ1.length) μ2
  | .ex e μ2 => .ex e μ2
  | _ => .bad) else .bad
theorem se_makeX {c k : Nat} {G : Fg} (ha : SA κ (xwW κ Wx) ta ma) : SE κ (xwW κ Wx) (tMakeE (κ c) (spX κ k G) (WE Wx) ta) (mMakeX c k G ma) := fun ρ μ H σ E Q s e p =>
  ha.bind s e p fun ws μ1 ρ1 H1 vs l s1 e1 rs p1 => by
    split at p1
    · rename_i hl
      intro x dx hx hdx hne
      have hx' : upd H1 dx (.own x) x = none := by rw [upd_ne (Ne.symm hne)]; exact hx
      have l1 : Le ρ1 H1 ρ1 (upd H1 dx (.own x)) := Le.new hdx
      have l2 : Le ρ1 (upd H1 dx (.own x)) (ρ1 ++ [(x, false)]) (upd (upd H1 dx (.own x)) x (.ins (κ c) dx [])) := Le.lay hx'
      have s2 : SR κ (ρ1 ++ [(x, false)]) (μ1 ++ [.ins c []]) (upd (upd H1 dx (.own x)) x (.ins (κ c) dx [])) :=
        (s1.new hdx).lay (mo := .ins c []) hx' ⟨dx, [], by rw [upd_same]; simp, by simp, rfl⟩
      have ll := l1.trans l2
      refine ⟨_, _, .loc μ1.length :: ws, s2, RWs.cons ⟨x, false, loc_new s1, rfl⟩ (RWs.mono ll _ _ rs), hl, ?_⟩
      cases hG : G (.loc μ1.length :: ws) (μ1 ++ [.ins c []]) with
      | bad => rw [hG] at p1; exact p1.elim
      | ex c' μ2 => rw [hG] at p1; exact fun ρ' H' l' s' => p1 ρ' H' (ll.trans l') s'
      | ok w μ2 =>
        rw [hG] at p1
        cases w with
        | imm d =>
          cases d with
          | non =>
            intro ρ' H' v l' s' r
            cases r
            obtain ⟨f', hf', _⟩ := l'.pre μ1.length x false (loc_new s1)
            exact ⟨rfl, p1 ρ' H' _ (ll.trans l') s' ⟨x, f', hf', rfl⟩⟩
          | _ => exact p1.elim
        | _ => exact p1.elim
    · exact p1.elim
end
/-! the rules -/
section
variable {X : Cx} {CX : CXT} {k : Nat} {f C : Addr} {fd : FuncData} {ps : List Str} {sp : Sp} {Es : L2.St → XK} {x m : Str} {p pos apos : Pos} {e o : Expr} {es : List Expr} {ta : TE} {t : TA}
theorem pe_call0S (F : FnOk X.prog X.w X.K X.mg X.base CX k f fd ps sp) (hr : Room k X.A) (hg : Gl X x) (hm : X.mg x = some (.ref f)) (hk : PySem.W.keepIn X.K (.ref f) = true) (hb : Binds X.K fd ps []) (hx : ∀ σ, PassesAt CX X σ (Es σ))
    (hdb : (x == ("__debug__" : Str)) = false := by decide) : PE X (.Call (.Name x p) [] [] pos) (tCallS sp Es tNil) := by
  refine ⟨fun pins s σ H Q I h => ?_⟩
  refine wpAny_Call_Name_kw (ld_glob I hg hm ?_ hdb)
  exact PySem.W.callWith_K0 I.kIn hk (run_fnS (us := []) F hr hb (hx σ) I .nil h)
theorem pe_methE {pl : Sem Bool} (he : PE X o ta) (c : Cls X.K C) (hm : Meth X.K C m f) (F : FnOk X.prog X.w X.K X.mg X.base CX k f fd ps sp) (hr : Room k X.A) (hb : Binds X.K fd ps []) (hx : ∀ σ, PassesAt CX X σ (Es σ)) (ha : PA X (e :: es) t)
    (hst : starEach (e :: es) X.env = (false, eval e X.env) :: starEach es X.env := by rfl) (hpl : (backTo pos (starEach es X.env)).any (·.1) = false := by rfl)
    (ht : eval (.Call (.Attribute o m apos) (e :: es) [] pos) X.env = (do
      let ov ← eval o X.env
      standAt apos.atName
      let (f, first) ← holding [ov] (getMethod ov m pl)
      callWith pos f first (backTo pos (starEach (e :: es) X.env)) (backToKw pos (keywordEach [] X.env))) := by rfl) :
    PE X (.Call (.Attribute o m apos) (e :: es) [] pos) (tMethE C m sp Es ta t) := by
  refine ⟨fun pins s σ H Q I h => ?_⟩
  refine PySem.W.methodCall_KW (pl := pl) (thn (he.run pins s σ H _ I h) fun u s1 ⟨x, H1, I1, rx, a, dx, fs, ex, ea, l, q⟩ => ?_) ht
  subst ex
  obtain rfl : u = Value.ref a := rx
  refine getmeth_ok I1 ea c hm l ?_
  refine PySem.W.callWith_K (first := [.ref a]) (h₀ := X.base) I.ok.mod.kin hm.kp (thn (ha.run pos pins s1 σ H1 _ I1 q) fun us s2 ⟨vs, H2, I2, r, q2⟩ => ⟨I2.kIn, ?_⟩) hst hpl
  exact run_fnS (us := .ref a :: us) (vs := .ref a :: vs) F hr hb (hx σ) I2 (.cons rfl r) q2
theorem pe_meth0E {pl : Sem Bool} (he : PE X o ta) (c : Cls X.K C) (hm : Meth X.K C m f) (F : FnOk X.prog X.w X.K X.mg X.base CX k f fd ps sp) (hr : Room k X.A) (hb : Binds X.K fd ps []) (hx : ∀ σ, PassesAt CX X σ (Es σ))
    (ht : eval (.Call (.Attribute o m apos) [] [] pos) X.env = (do
      let ov ← eval o X.env
      standAt apos.atName
      let (f, first) ← holding [ov] (getMethod ov m pl)
      callWith pos f first (backTo pos (starEach [] X.env)) (backToKw pos (keywordEach [] X.env))) := by rfl) :
    PE X (.Call (.Attribute o m apos) [] [] pos) (tMethE C m sp Es ta tNil) := by
  refine ⟨fun pins s σ H Q I h => ?_⟩
  refine PySem.W.methodCall_KW (pl := pl) (thn (he.run pins s σ H _ I h) fun u s1 ⟨x, H1, I1, rx, a, dx, fs, ex, ea, l, q⟩ => ?_) ht
  subst ex
  obtain rfl : u = Value.ref a := rx
  refine getmeth_ok I1 ea c hm l ?_
  exact PySem.W.callWith_K0 (first := [.ref a]) I1.kIn hm.kp (run_fnS (us := [.ref a]) (vs := [.ref a]) F hr hb (hx σ) I1 (.cons rfl .nil) q)
theorem run_makeE {pins : List (Addr × Obj)} {σ : L2.St} {H : Hp} {s : Shared} {Q : VK} {us : List Value} {vs : List V} (M : Mk X.K C f) (F : FnOk X.prog X.w X.K X.mg X.base CX k f fd ps sp) (hr : Room (k + 1) X.A) (hb : Binds X.K fd ps [])
    (hx : PassesAt CX X σ (Es σ)) (I : Inv X pins σ H s) (r : Vals vs us)
    (h : ∀ x dx, H x = none → H dx = none → dx ≠ x → sp (.ref x :: vs) (upd (upd H dx (.own x)) x (.ins C dx [])) (fun v H2 => v = .non ∧ Q (.ref x) H2) (Es σ)) :
    wpAny (model X.prog X.w) X.A (call (.ref C) us) (EP X pins σ Q) X.xe s := by
  have hq := h (s.heap.objs.size + 1) s.heap.objs.size (I.hok.fresh (Nat.le_succ _)) (I.hok.fresh (Nat.le_refl _)) (Nat.ne_of_lt (Nat.lt_succ_self _))
  have I2 := Inv.made (C := C) I
  have r2 : Vals (V.ref (s.heap.objs.size + 1) :: vs) (Value.ref (s.heap.objs.size + 1) :: us) := .cons rfl r
  have hl : (Value.ref (s.heap.objs.size + 1) :: us).length = ps.length := by
    have e := r2.length
    rw [F.len _ _ _ _ hq] at e
    exact e.symm
  have hb2 := hb _ (Value.ref (s.heap.objs.size + 1) :: us) I2.kIn (by rw [List.append_nil]; exact hl)
  rw [List.append_nil] at hb2
  refine wpAny_call (make_map (f := f) I.kIn M.makes M.init (beq_iff_eq.mp M.fn) (codeAny_mono (F.run _ X.stack _ _ ⟨Value.ref (s.heap.objs.size + 1) :: us, []⟩ (Value.ref (s.heap.objs.size + 1) :: us) _ _ (Es σ) (hr.make C us [])
    (I2.env0.make C us []) hb2 r2 hq) fun r s' hq' => ?_))
  cases r with
  | error e => exact hx pins _ _ e s' I2 hq'
  | ok fl =>
    cases fl with
    | ret u =>
      obtain ⟨v, H', I3, rv, ev, q3⟩ := I2.after hq'
      subst ev
      exact ⟨rv, ⟨V.ref (s.heap.objs.size + 1), H', I3, rfl, q3⟩⟩
    | next => exact False.elim hq'
    | brk => exact False.elim hq'
    | cont => exact False.elim hq'
theorem pe_makeE (M : Mk X.K C f) (F : FnOk X.prog X.w X.K X.mg X.base CX k f fd ps sp) (hr : Room (k + 1) X.A) (hg : Gl X x) (hm : X.mg x = some (.ref C)) (hb : Binds X.K fd ps []) (hx : ∀ σ, PassesAt CX X σ (Es σ))
    (ha : PA X (e :: es) t) (hdb : (x == ("__debug__" : Str)) = false := by decide) (he : starEach (e :: es) X.env = (false, eval e X.env) :: starEach es X.env := by rfl) (hpl : (backTo pos (starEach es X.env)).any (·.1) = false := by rfl) :
    PE X (.Call (.Name x p) (e :: es) [] pos) (tMakeE C sp Es t) := by
  refine ⟨fun pins s σ H Q I h => ?_⟩
  refine wpAny_Call_Name_kw (ld_glob I hg hm ?_ hdb)
  refine PySem.W.callWith_K (h₀ := X.base) I.ok.mod.kin M.kp (thn (ha.run pos pins s σ H _ I h) fun us s1 ⟨vs, H1, I1, r, q⟩ => ⟨I1.kIn, ?_⟩) he hpl
  exact run_makeE M F hr hb (hx σ) I1 r q
theorem peImp {X : Cx} {e : Expr} {t t' : TE} (h : PE X e t) (i : ∀ σ H Q, t' σ H Q → t σ H Q) : PE X e t' := ⟨fun pins s σ H Q I q => h.run pins s σ H Q I (i σ H Q q)⟩
theorem pssImp {X : Cx} {ss : List Stmt} {t t' : TS} (h : PSs X ss t) (i : ∀ D σ H, t' D σ H → t D σ H) : PSs X ss t' := ⟨fun pins s σ H D I q => h.run pins s σ H D I (i D σ H q)⟩
end
end Gx

namespace Gx
open PySem PySem.Spec PyProof.Rows L2

/-! ### calls that may raise, side by side -/
theorem Cc.tr {κ : Kap} {X : Cx} (c : Cc κ X) {pn : List (Addr × Obj)} {xe : Value → Shared → Prop} (h : PassesOwn (model X.prog X.w) X.A X.env xe) : Cc κ (X.tr pn xe) := ⟨c.K, c.hu, c.calm, h, c.nd⟩
section
variable {κ : Kap} {Wx : WX} {xw : XW} {X : Cx} {e o f : Expr} {es : List Expr} {te tb tc : TE} {m mb mc : Me} {ta : TA} {ma : Ma} {pos apos p : Pos} {x : Str} {k j : Nat} {g C : Addr} {fd : FuncData} {ps : List Str} {G : Fg}
theorem be_callX (c : Cc κ X) (tk : Takes X Wx) (F : FnOk X.prog X.w κ.K X.mg X.base (L2.CX X.prog X.w) k g fd ps (spX κ ps.length G)) (hr : Room k X.A) (hm : X.mg x = some (.ref g)) (hk : PySem.W.keepIn κ.K (.ref g) = true) (hb : Binds κ.K fd ps []) (ha : BA κ (xwW κ Wx) X (e :: es) ta ma)
    (hg : Gl X x := by rfl) (hdb : (x == ("__debug__" : Str)) = false := by decide) (he : starEach (e :: es) X.env = (false, eval e X.env) :: starEach es X.env := by rfl) (hpl : (backTo pos (starEach es X.env)).any (·.1) = false := by rfl) :
    BE κ (xwW κ Wx) X (.Call (.Name x p) (e :: es) [] pos) (tCallS (spX κ ps.length G) (WE Wx) ta) (mCallX ps.length G ma) :=
  ⟨pe_callS (CX := L2.CX X.prog X.w) (by rw [c.K]; exact F) hr hg hm (by rw [c.K]; exact hk) (by rw [c.K]; exact hb) (passAt tk) ha.p hdb he hpl, se_callX ha.s⟩
theorem be_callX0 (c : Cc κ X) (tk : Takes X Wx) (F : FnOk X.prog X.w κ.K X.mg X.base (L2.CX X.prog X.w) k g fd ps (spX κ ps.length G)) (hr : Room k X.A) (hm : X.mg x = some (.ref g)) (hk : PySem.W.keepIn κ.K (.ref g) = true) (hb : Binds κ.K fd ps [])
    (hg : Gl X x := by rfl) (hdb : (x == ("__debug__" : Str)) = false := by decide) :
    BE κ (xwW κ Wx) X (.Call (.Name x p) [] [] pos) (tCallS (spX κ ps.length G) (WE Wx) tNil) (mCallX ps.length G mNil) :=
  ⟨pe_call0S (CX := L2.CX X.prog X.w) (by rw [c.K]; exact F) hr hg hm (by rw [c.K]; exact hk) (by rw [c.K]; exact hb) (passAt tk) hdb, se_callX sa_nil⟩
theorem be_methX {pl : Sem Bool} {mn : Str} (c : Cc κ X) (tk : Takes X Wx) (hO : OwnC κ j) (F : FnOk X.prog X.w κ.K X.mg X.base (L2.CX X.prog X.w) k g fd ps (spX κ ps.length G)) (hr : Room k X.A) (hm : Meth κ.K (κ j) mn g) (hb : Binds κ.K fd ps []) (ho : BE κ (xwW κ Wx) X o te m) (ha : BA κ (xwW κ Wx) X (e :: es) ta ma)
    (hf : mn ∉ nm j := by decide +kernel)
    (hst : starEach (e :: es) X.env = (false, eval e X.env) :: starEach es X.env := by rfl) (hpl : (backTo pos (starEach es X.env)).any (·.1) = false := by rfl)
    (ht : eval (.Call (.Attribute o mn apos) (e :: es) [] pos) X.env = (do
      let ov ← eval o X.env
      standAt apos.atName
      let (f, first) ← holding [ov] (getMethod ov mn pl)
      callWith pos f first (backTo pos (starEach (e :: es) X.env)) (backToKw pos (keywordEach [] X.env))) := by rfl) :
    BE κ (xwW κ Wx) X (.Call (.Attribute o mn apos) (e :: es) [] pos) (tMethE (κ j) mn (spX κ ps.length G) (WE Wx) te ta) (mMethX j ps.length G m ma) :=
  ⟨pe_methE (CX := L2.CX X.prog X.w) ho.p (by rw [c.K]; exact hO.cl) (by rw [c.K]; exact hm) (by rw [c.K]; exact F) hr (by rw [c.K]; exact hb) (passAt tk) ha.p hst hpl ht, se_methX hf ho.s ha.s⟩
theorem be_methX0 {pl : Sem Bool} {mn : Str} (c : Cc κ X) (tk : Takes X Wx) (hO : OwnC κ j) (F : FnOk X.prog X.w κ.K X.mg X.base (L2.CX X.prog X.w) k g fd ps (spX κ ps.length G)) (hr : Room k X.A) (hm : Meth κ.K (κ j) mn g) (hb : Binds κ.K fd ps []) (ho : BE κ (xwW κ Wx) X o te m)
    (hf : mn ∉ nm j := by decide +kernel)
    (ht : eval (.Call (.Attribute o mn apos) [] [] pos) X.env = (do
      let ov ← eval o X.env
      standAt apos.atName
      let (f, first) ← holding [ov] (getMethod ov mn pl)
      callWith pos f first (backTo pos (starEach [] X.env)) (backToKw pos (keywordEach [] X.env))) := by rfl) :
    BE κ (xwW κ Wx) X (.Call (.Attribute o mn apos) [] [] pos) (tMethE (κ j) mn (spX κ ps.length G) (WE Wx) te tNil) (mMethX j ps.length G m mNil) :=
  ⟨pe_meth0E (CX := L2.CX X.prog X.w) ho.p (by rw [c.K]; exact hO.cl) (by rw [c.K]; exact hm) (by rw [c.K]; exact F) hr (by rw [c.K]; exact hb) (passAt tk) ht, se_methX hf ho.s sa_nil⟩
theorem be_makeX (c : Cc κ X) (tk : Takes X Wx) (M : Mk κ.K (κ j) g) (F : FnOk X.prog X.w κ.K X.mg X.base (L2.CX X.prog X.w) k g fd ps (spX κ ps.length G)) (hr : Room (k + 1) X.A) (hm : X.mg x = some (.ref (κ j))) (hb : Binds κ.K fd ps []) (ha : BA κ (xwW κ Wx) X (e :: es) ta ma)
    (hg : Gl X x := by rfl) (hdb : (x == ("__debug__" : Str)) = false := by decide) (he : starEach (e :: es) X.env = (false, eval e X.env) :: starEach es X.env := by rfl) (hpl : (backTo pos (starEach es X.env)).any (·.1) = false := by rfl) :
    BE κ (xwW κ Wx) X (.Call (.Name x p) (e :: es) [] pos) (tMakeE (κ j) (spX κ ps.length G) (WE Wx) ta) (mMakeX j ps.length G ma) :=
  ⟨pe_makeE (CX := L2.CX X.prog X.w) (by rw [c.K]; exact M) (by rw [c.K]; exact F) hr hg hm (by rw [c.K]; exact hb) (passAt tk) ha.p hdb he hpl, se_makeX ha.s⟩
end
/-- nothing is let out -/
abbrev wF : WX := fun _ _ _ _ => False
theorem takesF {X : Cx} : Takes X wF := takes0

/-! ### raise -/
/-- an own exception class as the top has written it -/
structure ExD (K : PySem.W.Frag) (mg : Str → Option Value) (x : Str) (C : Addr) : Prop where
  g : mg x = some (.ref C)
  ex : PySem.W.excIn K C [.type "ValueError", .type "Exception", .type "BaseException", .type "object"] "ValueError.__new__" = true
  kp : PySem.W.keepIn K (.ref C) = true
  sb : PySem.W.subIn K (.ref C) (.type "BaseException") = some true
  ty : PySem.W.typeIn K (.ref C) = some (.type "type")
def mRaise (c : Nat) : Ms := fun E μ => .ex c E μ
section
variable {κ : Kap} {Wx : WX} {xw : XW} {X : Cx} {x : Str} {i : Nat}
theorem bs_raise {m : Str} {j : Nat} {p p2 pos pos' : Pos} (c : Cc κ X) (tk : Takes X Wx) (D : ExD κ.K X.mg x (κ i)) (hg : Gl X x := by rfl) (hdb : (x == ("__debug__" : Str)) = false := by decide) :
    BS κ (xwW κ Wx) X (.Raise (some (.Call (.Name x p) [.Constant (.str m) j p2] [] pos)) none pos') (fun _ σ H => Wx (.ref (κ i)) none σ H) (mRaise i) :=
  ⟨ps_raise c.calm tk (pmk_own PySem.F.excBase_ValueError (by rw [c.K]; exact D.ex) D.g (by rw [c.K]; exact D.kp) (raises_own (by rw [c.K]; exact D.sb) (by rw [c.K]; exact D.ty)) hg hdb),
   fun ρ μ H σ E D s e p => p ρ H σ Le.refl s e⟩
end

/-! ### try .. except LandError as e: s = [isinstance(e, ..), ..] -/
/-- isinstance of the classes in order: ValueError, then the nine -/
def saidL (c : Nat) : List Bool := [true, c == 11, c == 12, c == 13, c == 14, c == 15, c == 16, c == 17, c == 18, c == 19]
def mTry (cs : List Nat) (s i : Nat) (m : Ms) : Ms := fun E μ => match m E μ with
  | .ex c E1 μ1 => if c ∈ cs ∧ i < E1.length then .nx ((E1.set s (some (.imm (.lst ((saidL c).map Gx.D.bl))))).set i none) μ1 else .bad
  | f => f
def mTryB (s : Nat) (m : Ms) : Ms := fun E μ => match m E μ with
  | .ex _ E1 μ1 => .nx (E1.set s (some (.imm (.bl true)))) μ1
  | f => f
/-- what isinstance must know: of a raised class D -/
structure ExI (K : PySem.W.Frag) (D : Addr) (L : Addr) (T : Nat → Addr) (c : Nat) : Prop where
  C : ExcC K D
  l : PySem.W.exmOne K (.ref D) (.ref L) = some true
  v : PySem.W.kitOne K (.ref D) (.type "ValueError") = some true
  t : ∀ i, 11 ≤ i → i ≤ 19 → PySem.W.kitOne K (.ref D) (.ref (T i)) = some (c == i)
section
variable {κ : Kap} {Wx : WX} {xw : XW} {X : Cx} {x n : Str} {L : Addr} {body : List Stmt} {s i : Nat} {tb : WX → TS} {m : Ms}
def tIs (i : Nat) (a : Addr) (b : Bool) : TE := fun σ H Q => σ[i]? = some (some (.ref a)) ∧ Q (.bl b) H
theorem pe_isE {a D : Addr} {oe : Obj} {pn : List (Addr × Obj)} {cv : Value} {c : V} {f : Expr} {b : Bool} {pos p1 p2 : Pos} (C : ExcC X.K D) (hz : Zc (.ref D) none oe) (hf : ∃ vs, oe.data = .fields vs) (hcv : ∀ u, RelV c u → u = cv) (hk : PySem.W.kitOne X.K (.ref D) cv = some b)
    (hi : X.N[i]? = some n) (hv : Vis X.env.scope n) (hc : PE (X.suite a ((a, oe) :: pn)) f (tC c)) (hm : X.mg "isinstance" = none) (hg : Gl X "isinstance") (hd : (n == ("__debug__" : Str)) = false) (hcd : (n == ("__classdict__" : Str)) = false)
    (he : starEach [.Name n p1, f] X.env = (false, eval (.Name n p1) X.env) :: starEach [f] X.env) (he2 : starEach [f] X.env = (false, eval f X.env) :: starEach [] X.env) (hpl : (backTo pos (starEach [f] X.env)).any (·.1) = false) :
    PE (X.suite a ((a, oe) :: pn)) (.Call (.Name "isinstance" p2) [.Name n p1, f] [] pos) (tIs i a b) :=
  peImp (pe_callB (X := X.suite a ((a, oe) :: pn)) (call_isE C hz hf) hg hm (by decide +kernel) (pa_cons (pe_var (X := X.suite a ((a, oe) :: pn)) hi hv hd hcd) (pa_cons hc pa_nil he2) he) (by decide) (by decide) he hpl) fun σ H Q h => ⟨.ref a, h.1, c, cv, b, rfl, hcv, hk, h.2⟩
def tIss (i : Nat) (a : Addr) (bs : List Bool) : TA := fun σ H Q => σ[i]? = some (some (.ref a)) ∧ Q (bs.map V.bl) H
theorem paImp {X : Cx} {es : List Expr} {t t' : TA} (h : PA X es t) (i : ∀ σ H Q, t' σ H Q → t σ H Q) : PA X es t' := ⟨fun pos pins s σ H Q I q => h.run pos pins s σ H Q I (i σ H Q q)⟩
theorem pa_isN {X : Cx} {i : Nat} {a : Addr} : PA X [] (tIss i a []) := paImp (pa_nil (X := X)) fun σ H Q h => h.2
theorem pa_isC {X : Cx} {i : Nat} {a : Addr} {b : Bool} {bs : List Bool} {e : Expr} {es : List Expr} (h : PE X e (tIs i a b)) (hr : PA X es (tIss i a bs)) (hs : starEach (e :: es) X.env = (false, eval e X.env) :: starEach es X.env) : PA X (e :: es) (tIss i a (b :: bs)) :=
  paImp (pa_cons h hr hs) fun σ H Q q => ⟨q.1, q.1, q.2⟩
/-- s = [isinstance(..), ..] in the suite -/
def tSaid (i s : Nat) (a : Addr) (bs : List Bool) : TS := fun D σ H => σ[i]? = some (some (.ref a)) ∧ ∀ l, H l = none → D.nx (σ.set s (some (.ref l))) (upd H l (.lst (bs.map V.bl)))
theorem ps_said {X : Cx} {i s : Nat} {a : Addr} {bs : List Bool} {es : List Expr} {y : Str} {p1 p2 p3 : Pos} (h : PA X es (tIss i a bs)) (hb : bs.length ≤ 20) (hN : X.N.Nodup) (hi : X.N[s]? = some y) (hx : Loc X.env.scope y)
    (hs : swapsWith (.List es p2) (some (.Name y p1)) p3.line X.env = pure false) (hf : X.fn y = true ∨ X.env.scope.names.lookup y = some .local) : PSs X [.Assign [.Name y p1] (.List es p2) p3] (tSaid i s a bs) :=
  pssImp (pss_one (ps_set hN hi hx (pe_lst h) hs hf)) fun D σ H q => ⟨q.1, by rw [List.length_map]; exact Nat.le_trans hb (by decide), fun l hl => q.2 l hl⟩
/-- the suite by the class that was raised: one of cs -/
def tsAs (κ : Kap) (cs : List Nat) (i s : Nat) : Addr → Value → Option Addr → TS := fun a cls d D σ H => ∃ c, (c ∈ cs ∧ cls = .ref (κ c) ∧ d = none) ∧ tSaid i s a (saidL c) D σ H
theorem pssEx {X : Cx} {ss : List Stmt} {α : Sort _} {P : α → Prop} {t : α → TS} (h : ∀ c, P c → PSs X ss (t c)) : PSs X ss (fun D σ H => ∃ c, P c ∧ t c D σ H) := ⟨fun pins s σ H D I ⟨c, p, q⟩ => (h c p).run pins s σ H D I q⟩
theorem ss_tryAs {cs : List Nat} (hL : ∀ c ∈ cs, PySem.W.exmOne κ.K (.ref (κ c)) (.ref L) = some true) (hb : ∀ W : WX, SS κ (xwW κ W) (tb W) m) (hsi : s ≠ i) :
    SS κ xw (fun D σ H => tb (wAs κ.K (.ref L) i (tsAs κ cs i s) Wx D) D σ H) (mTry cs s i m) := fun ρ μ H σ E Dd sr e p => by
  refine hb _ ρ μ H σ E Dd sr e ?_
  unfold mTry at p
  cases hm : m E μ with
  | nx E' μ' => rw [hm] at p; exact p
  | bk E' μ' => rw [hm] at p; exact p
  | ct E' μ' => rw [hm] at p; exact p
  | rt w μ' => rw [hm] at p; exact p
  | bad => rw [hm] at p; exact p
  | ex c E' μ' =>
    rw [hm] at p
    simp only [] at p
    split at p
    · rename_i hc
      obtain ⟨hc, hi⟩ := hc
      intro ρ' H' σ' l s' e'
      refine ⟨true, hL c hc, fun _ a ha => ⟨c, ⟨hc, rfl, rfl⟩, ?_, fun l' hl' => ?_⟩, fun z => Bool.noConfusion z⟩
      · rw [List.getElem?_set_self (by rw [e'.len]; exact hi)]
      · refine p ρ' (upd H' l' _) _ (l.trans (Le.new hl')) (s'.new hl') ?_
        have e2 := e'.sim (Le.new (o := .lst ((saidL c).map V.bl)) hl').s
        have r : RW κ ρ' (upd H' l' (.lst ((saidL c).map V.bl))) (.ref l') (.imm (.lst ((saidL c).map Gx.D.bl))) := by
          refine ⟨l', _, rfl, by rw [hid_out (fun z => s'.fresh hl' (mem_fst z)), upd_same], ?_⟩
          have all : ∀ (H : Hp) (bs : List Bool), RDs κ H (bs.map V.bl) (bs.map Gx.D.bl) := fun H bs => by
            induction bs with
            | nil => rfl
            | cons b r ih => exact ⟨_, _, rfl, rfl, ih⟩
          exact all _ _
        have e3 := (e2.set (i := s) r)
        refine ⟨by simp [e3.len, e2.len], fun j u hj => ?_⟩
        by_cases hji : j = i
        · subst hji
          have hl2 : j < (E'.set s (some (.imm (.lst ((saidL c).map Gx.D.bl))))).length := by rw [List.length_set]; exact hi
          rw [List.getElem?_set_self hl2] at hj
          cases hj
        · rw [List.getElem?_set_ne (Ne.symm hji)] at hj
          rw [List.getElem?_set_ne (Ne.symm hji)]
          obtain ⟨v, hv, rv⟩ := e3.at_ j u hj
          refine ⟨v, ?_, rv⟩
          by_cases hjs : j = s
          · subst hjs
            have h1 : j < σ'.length := by
              have := (List.getElem?_eq_some_iff.mp hv).1
              rwa [List.length_set] at this
            rw [List.getElem?_set_self (by rw [List.length_set]; exact h1)]
            rw [List.getElem?_set_self h1] at hv
            exact hv
          · rw [List.getElem?_set_ne (Ne.symm hjs)] at hv
            rw [List.getElem?_set_ne (Ne.symm hjs), List.getElem?_set_ne (Ne.symm hji)]
            exact hv
    · exact p.elim
/-- what the names say -/
structure ErrN (κ : Kap) (mg : Str → Option Value) : Prop where
  l : mg "LandError" = some (.ref (κ 10))
  t11 : mg "BadTerm" = some (.ref (κ 11))
  t12 : mg "BadFact" = some (.ref (κ 12))
  t13 : mg "BadLine" = some (.ref (κ 13))
  t14 : mg "NoFolk" = some (.ref (κ 14))
  t15 : mg "NoField" = some (.ref (κ 15))
  t16 : mg "NoFact" = some (.ref (κ 16))
  t17 : mg "NoStand" = some (.ref (κ 17))
  t18 : mg "Told" = some (.ref (κ 18))
  t19 : mg "Full" = some (.ref (κ 19))
  v : mg "ValueError" = none
  i : mg "isinstance" = none
/-- isinstance(n, y), y the class i -/
theorem pe_isD {c i : Nat} {a : Addr} {oe : Obj} {pn : List (Addr × Obj)} {y : Str} {pos p1 p2 p3 : Pos} {k : Nat} (hK : X.K = κ.K) (I : ExI κ.K (κ c) L κ.cls c) (hz : Zc (.ref (κ c)) none oe) (hf : ∃ vs, oe.data = .fields vs) (hmi : X.mg "isinstance" = none) (h1 : 11 ≤ i) (h2 : i ≤ 19) (hy : X.mg y = some (.ref (κ i)))
    (hi : X.N[k]? = some n) (hv : Vis X.env.scope n) (hgy : Gl X y) (hg : Gl X "isinstance") (hd : (n == ("__debug__" : Str)) = false) (hcd : (n == ("__classdict__" : Str)) = false) (hdy : (y == ("__debug__" : Str)) = false)
    (he : starEach [.Name n p1, .Name y p3] X.env = (false, eval (.Name n p1) X.env) :: starEach [.Name y p3] X.env) (he2 : starEach [.Name y p3] X.env = (false, eval (.Name y p3) X.env) :: starEach [] X.env) (hpl : (backTo pos (starEach [.Name y p3] X.env)).any (·.1) = false) :
    PE (X.suite a ((a, oe) :: pn)) (.Call (.Name "isinstance" p2) [.Name n p1, .Name y p3] [] pos) (tIs k a (c == i)) :=
  pe_isE (cv := .ref (κ i)) (c := .ref (κ i)) (by rw [hK]; exact I.C) hz hf (fun u r => r) (by rw [hK]; exact I.t i h1 h2) hi hv (pe_glob (X := X.suite a ((a, oe) :: pn)) hgy hy rfl hdy) hmi hg hd hcd he he2 hpl
theorem pe_isV {c : Nat} {a : Addr} {oe : Obj} {pn : List (Addr × Obj)} {pos p1 p2 p3 : Pos} {k : Nat} (hK : X.K = κ.K) (I : ExI κ.K (κ c) L κ.cls c) (hz : Zc (.ref (κ c)) none oe) (hf : ∃ vs, oe.data = .fields vs) (hmi : X.mg "isinstance" = none) (hy : X.mg "ValueError" = none)
    (hi : X.N[k]? = some n) (hv : Vis X.env.scope n) (hgy : Gl X "ValueError") (hg : Gl X "isinstance") (hd : (n == ("__debug__" : Str)) = false) (hcd : (n == ("__classdict__" : Str)) = false)
    (he : starEach [.Name n p1, .Name "ValueError" p3] X.env = (false, eval (.Name n p1) X.env) :: starEach [.Name "ValueError" p3] X.env) (he2 : starEach [.Name "ValueError" p3] X.env = (false, eval (.Name "ValueError" p3) X.env) :: starEach [] X.env) (hpl : (backTo pos (starEach [.Name "ValueError" p3] X.env)).any (·.1) = false) :
    PE (X.suite a ((a, oe) :: pn)) (.Call (.Name "isinstance" p2) [.Name n p1, .Name "ValueError" p3] [] pos) (tIs k a true) :=
  pe_isE (cv := .type "ValueError") (c := .ty "ValueError") (by rw [hK]; exact I.C) hz hf (fun u r => r) (by rw [hK]; exact I.v) hi hv (pe_bltn (X := X.suite a ((a, oe) :: pn)) hgy hy (by decide +kernel) rfl (by decide) (by decide)) hmi hg hd hcd he he2 hpl
/-- try: body, except LandError as n: y = [isinstance(n, ..), ..] -/
theorem bs_tryAs {cs : List Nat} (s i : Nat) {n y : Str} {p0 p1 p2 p3 pa pb : Pos}
    {q1 q2 q3 q4 q5 q6 q7 q8 q9 q10 r1 r2 r3 r4 r5 r6 r7 r8 r9 r10 u1 u2 u3 u4 u5 u6 u7 u8 u9 u10 v1 v2 v3 v4 v5 v6 v7 v8 v9 v10 : Pos}
    (c : Cc κ X) (N : ErrN κ X.mg) (hI : ∀ d ∈ cs, ExI κ.K (κ d) (κ 10) κ.cls d)
    (hb : ∀ (W : WX) (pn : List (Addr × Obj)) (xe : Value → Shared → Prop), Takes (X.tr pn xe) W → Cc κ (X.tr pn xe) → BSs κ (xwW κ W) (X.tr pn xe) body (tb W) m)
    (hs : X.stack = X.env :: X.outer := by rfl) (hf : X.env.frame = some X.env.locals := by rfl) (hi : X.N[i]? = some n := by rfl) (hln : X.env.kindOf n = some .local := by rfl) (hsi : s ≠ i := by decide)
    (hyi : X.N[s]? = some y := by rfl) (hyl : X.env.scope.names.lookup y = some .local := by rfl) (hlN : X.env.scope.names.lookup n = some .local := by rfl) (hd : (n == ("__debug__" : Str)) = false := by decide) (hcd : (n == ("__classdict__" : Str)) = false := by decide)
    (hgi : Gl X "isinstance" := by rfl) (hgl : Gl X "LandError" := by rfl) (hgv : Gl X "ValueError" := by rfl) (g1 : Gl X "BadTerm" := by rfl) (g2 : Gl X "BadFact" := by rfl) (g3 : Gl X "BadLine" := by rfl) (g4 : Gl X "NoFolk" := by rfl) (g5 : Gl X "NoField" := by rfl) (g6 : Gl X "NoFact" := by rfl) (g7 : Gl X "NoStand" := by rfl) (g8 : Gl X "Told" := by rfl) (g9 : Gl X "Full" := by rfl) :
    BS κ xw X (.Try body [.ExceptHandler (some (.Name "LandError" p0)) (some n) [.Assign [.Name y p1] (.List
      [.Call (.Name "isinstance" q1) [.Name n r1, .Name "ValueError" u1] [] v1, .Call (.Name "isinstance" q2) [.Name n r2, .Name "BadTerm" u2] [] v2, .Call (.Name "isinstance" q3) [.Name n r3, .Name "BadFact" u3] [] v3, .Call (.Name "isinstance" q4) [.Name n r4, .Name "BadLine" u4] [] v4,
       .Call (.Name "isinstance" q5) [.Name n r5, .Name "NoFolk" u5] [] v5, .Call (.Name "isinstance" q6) [.Name n r6, .Name "NoField" u6] [] v6, .Call (.Name "isinstance" q7) [.Name n r7, .Name "NoFact" u7] [] v7, .Call (.Name "isinstance" q8) [.Name n r8, .Name "NoStand" u8] [] v8,
       .Call (.Name "isinstance" q9) [.Name n r9, .Name "Told" u9] [] v9, .Call (.Name "isinstance" q10) [.Name n r10, .Name "Full" u10] [] v10] p2) p3] pa] [] [] pb)
      (fun D σ H => tb (wAs κ.K (.ref (κ 10)) i (tsAs κ cs i s) wF D) D σ H) (mTry cs s i m) := by
  refine ⟨?_, ss_tryAs (fun d hd => (hI d hd).l) (fun W => ?_) hsi⟩
  · rw [← c.K]
    refine ps_try_as hs hf c.nd hi hln ⟨hgl, by decide, .inl N.l⟩ takes0 (fun W pn xe tk ps => (hb W pn xe tk (c.tr ps)).p) fun a oe cls d pn hz hfl => pssEx fun e he => ?_
    obtain ⟨he, rfl, rfl⟩ := he
    have I := hI e he
    have V : Vis X.env.scope n := .inl hlN
    exact ps_said (X := X.suite a ((a, oe) :: pn))
      (pa_isC (pe_isV c.K I hz hfl N.i N.v hi V hgv hgi hd hcd rfl rfl rfl) (pa_isC (pe_isD c.K I hz hfl N.i (by decide) (by decide) N.t11 hi V g1 hgi hd hcd (by decide) rfl rfl rfl) (pa_isC (pe_isD c.K I hz hfl N.i (by decide) (by decide) N.t12 hi V g2 hgi hd hcd (by decide) rfl rfl rfl)
      (pa_isC (pe_isD c.K I hz hfl N.i (by decide) (by decide) N.t13 hi V g3 hgi hd hcd (by decide) rfl rfl rfl) (pa_isC (pe_isD c.K I hz hfl N.i (by decide) (by decide) N.t14 hi V g4 hgi hd hcd (by decide) rfl rfl rfl) (pa_isC (pe_isD c.K I hz hfl N.i (by decide) (by decide) N.t15 hi V g5 hgi hd hcd (by decide) rfl rfl rfl)
      (pa_isC (pe_isD c.K I hz hfl N.i (by decide) (by decide) N.t16 hi V g6 hgi hd hcd (by decide) rfl rfl rfl) (pa_isC (pe_isD c.K I hz hfl N.i (by decide) (by decide) N.t17 hi V g7 hgi hd hcd (by decide) rfl rfl rfl) (pa_isC (pe_isD c.K I hz hfl N.i (by decide) (by decide) N.t18 hi V g8 hgi hd hcd (by decide) rfl rfl rfl)
      (pa_isC (pe_isD c.K I hz hfl N.i (by decide) (by decide) N.t19 hi V g9 hgi hd hcd (by decide) rfl rfl rfl) pa_isN rfl) rfl) rfl) rfl) rfl) rfl) rfl) rfl) rfl) rfl) (by simp [saidL]) c.nd hyi (.inl hyl) rfl (.inr hyl)
  · refine (hb W [] (fun e s₁ => wpAny (model X.prog X.w) X.A (noteFrame e X.env) (fun _ s₂ => wpAny (model X.prog X.w) X.A (setFlight e none) (fun _ _ => True) (fun _ _ => True) s₂) (fun _ _ => True) s₁) (fun u s' xx => ?_) (c.tr PassesOwn.looking)).s
    obtain ⟨a, B, sI, pins', σ', H', cls, d, rfl, J', nb, up, sky, na, os, ag, w⟩ := xx
    have sky' : Sky B (X.env :: X.outer) a (Zc cls d) X.env.locals s'.heap := by rw [← hs]; exact sky
    exact Sky.land Zc.steady (by rw [J'.ok.frames]; exact congrArg some hs) hf sky' fun _ _ _ => trivial
end
end Gx

namespace Gx
open PySem PySem.Spec PyProof.Rows L2

/-! ### what the top has written of the exceptions' classes -/
theorem kit_ref {K : PySem.W.Frag} {D C : Addr} {b : Bool} (hd : PySem.W.hasDictIn K C = true) (ht : PySem.W.typeIn K (.ref C) = some (.type "type")) (hs : PySem.W.subIn K (.ref D) (.ref D) = some true) (h : PySem.W.subIn K (.ref D) (.ref C) = some b) : PySem.W.kitOne K (.ref D) (.ref C) = some b := by
  obtain ⟨cd, hc, _⟩ := PySem.W.any_some hd
  unfold PySem.W.kitOne PySem.W.kitCls
  by_cases e : D = C
  · subst e
    rw [if_pos (by simp)]
    rw [hs] at h
    exact h
  · rw [if_neg (by simpa using e)]
    have e2 : ((PySem.W.clsIn K C).isSome && PySem.W.typeIn K (.ref C) == some (.type "type")) = true := by rw [hc, ht] <;> rfl
    show (if ((PySem.W.clsIn K C).isSome && PySem.W.typeIn K (.ref C) == some (.type "type")) = true then PySem.W.subIn K (.ref D) (.ref C) else none) = some b
    rw [if_pos e2]
    exact h
theorem kit_ty {K : PySem.W.Frag} {D : Addr} {T : String} {b : Bool} (hm : PySem.W.kitMeta T = true) (h : PySem.W.subIn K (.ref D) (.type T) = some b) : PySem.W.kitOne K (.ref D) (.type T) = some b := by
  unfold PySem.W.kitOne PySem.W.kitCls
  rw [if_neg (by simp)]
  show (if PySem.W.kitMeta T = true then PySem.W.subIn K (.ref D) (.type T) else none) = some b
  rw [if_pos hm]
  exact h
/-- a class: its attribute table, its type -/
structure ExT (K : PySem.W.Frag) (C : Addr) : Prop where
  hd : PySem.W.hasDictIn K C = true
  ty : PySem.W.typeIn K (.ref C) = some (.type "type")
theorem exI_mk {κ : Kap} {c : Nat} (C : ExcC κ.K (κ c)) (hL : ExT κ.K (κ 10)) (h11 : ExT κ.K (κ 11)) (h12 : ExT κ.K (κ 12)) (h13 : ExT κ.K (κ 13)) (h14 : ExT κ.K (κ 14)) (h15 : ExT κ.K (κ 15)) (h16 : ExT κ.K (κ 16)) (h17 : ExT κ.K (κ 17)) (h18 : ExT κ.K (κ 18)) (h19 : ExT κ.K (κ 19))
    (hB : PySem.W.subIn κ.K (.ref (κ 10)) (.type "BaseException") = some true) (hV : PySem.W.subIn κ.K (.ref (κ c)) (.type "ValueError") = some true) (sL : PySem.W.subIn κ.K (.ref (κ c)) (.ref (κ 10)) = some true)
    (hs : PySem.W.subIn κ.K (.ref (κ c)) (.ref (κ c)) = some true)
    (s11 : PySem.W.subIn κ.K (.ref (κ c)) (.ref (κ 11)) = some (c == 11)) (s12 : PySem.W.subIn κ.K (.ref (κ c)) (.ref (κ 12)) = some (c == 12)) (s13 : PySem.W.subIn κ.K (.ref (κ c)) (.ref (κ 13)) = some (c == 13)) (s14 : PySem.W.subIn κ.K (.ref (κ c)) (.ref (κ 14)) = some (c == 14)) (s15 : PySem.W.subIn κ.K (.ref (κ c)) (.ref (κ 15)) = some (c == 15))
    (s16 : PySem.W.subIn κ.K (.ref (κ c)) (.ref (κ 16)) = some (c == 16)) (s17 : PySem.W.subIn κ.K (.ref (κ c)) (.ref (κ 17)) = some (c == 17)) (s18 : PySem.W.subIn κ.K (.ref (κ c)) (.ref (κ 18)) = some (c == 18)) (s19 : PySem.W.subIn κ.K (.ref (κ c)) (.ref (κ 19)) = some (c == 19)) : ExI κ.K (κ c) (κ 10) κ.cls c where
  C := C
  l := PySem.W.exm_ref hB hL.hd hL.ty sL
  v := kit_ty (by decide +kernel) hV
  t := fun i h1 h2 => by
    have h : i = 11 ∨ i = 12 ∨ i = 13 ∨ i = 14 ∨ i = 15 ∨ i = 16 ∨ i = 17 ∨ i = 18 ∨ i = 19 := by omega
    rcases h with h | h | h | h | h | h | h | h | h <;> subst h
    · exact kit_ref h11.hd h11.ty hs s11
    · exact kit_ref h12.hd h12.ty hs s12
    · exact kit_ref h13.hd h13.ty hs s13
    · exact kit_ref h14.hd h14.ty hs s14
    · exact kit_ref h15.hd h15.ty hs s15
    · exact kit_ref h16.hd h16.ty hs s16
    · exact kit_ref h17.hd h17.ty hs s17
    · exact kit_ref h18.hd h18.ty hs s18
    · exact kit_ref h19.hd h19.ty hs s19
end Gx

namespace Gx
open PySem PySem.Spec PyProof.Rows L2
section
variable {E E1 : Env} {μ μ1 : Store} {m mb mc mo mi me : Me} {ma : Ma} {a b : Ms} {w w2 x : W} {G : Fg} {i j k c s e : Nat} {cs : List Nat}
/-! ### exceptions, step by step -/
theorem g_bindX {α β : Type} {f : α → Store → Rs β} : (Rs.ex c μ).bind f = .ex c μ := Eq.trans rfl rfl
theorem g_flX {α : Type} {f : α → Store → Fl} : (Rs.ex c μ : Rs α).fl E f = .ex c E μ := Eq.trans rfl rfl
theorem g_retrX : retr μ (.ex c μ1) = .ex c μ1 := Eq.trans rfl rfl
theorem g_retrLX : retrL μ (.ex c μ1) = .ex c μ1 := Eq.trans rfl rfl
theorem g_thnX : (Fl.ex c E μ).thn b = .ex c E μ := Eq.trans rfl rfl
theorem g_raise : mRaise c E μ = .ex c E μ := Eq.trans rfl rfl
def kRunX (f : Fl) : Rs W := match f with
  | .nx _ μ' => .ok (.imm .non) μ'
  | .rt w μ' => .ok w μ'
  | .ex c _ μ' => .ex c μ'
  | _ => .bad
theorem g_runX {nl : Nat} {ws : List W} : runBodyX nl a ws μ = kRunX (a (ws.map some ++ List.replicate (nl - ws.length) none) μ) := Eq.trans rfl rfl
theorem g_kRunXN : kRunX (.nx E μ) = .ok (.imm .non) μ := Eq.trans rfl rfl
theorem g_kRunXR : kRunX (.rt w μ) = .ok w μ := Eq.trans rfl rfl
theorem g_kRunXX : kRunX (.ex c E μ) = .ex c μ := Eq.trans rfl rfl
def kCallX (k : Nat) (G : Fg) : List W → Store → Rs W := fun ws μ1 => if ws.length = k then G ws μ1 else .bad
theorem g_callX : mCallX k G ma E μ = (ma E μ).bind (kCallX k G) := Eq.trans rfl rfl
theorem g_kCallX {ws : List W} (h : ws.length = k) : kCallX k G ws μ = G ws μ := if_pos h
def kMethX3 (k : Nat) (G : Fg) (w : W) : List W → Store → Rs W := fun ws μ2 => if ws.length + 1 = k then G (w :: ws) μ2 else .bad
def kMethX1 (c k : Nat) (G : Fg) (ma : Ma) (E : Env) : W → Store → Rs W := fun w μ1 => match oitems μ1 w with
  | some (c', _) => if c' = c then (ma E μ1).bind (kMethX3 k G w) else .bad
  | none => .bad
def kMethXO (c k : Nat) (G : Fg) (ma : Ma) (E : Env) (j : Nat) (μ : Store) (o : Option MO) : Rs W := match o with
  | some (.ins c' _) => if c' = c then (ma E μ).bind (kMethX3 k G (.loc j)) else .bad
  | _ => .bad
theorem g_methX : mMethX c k G mo ma E μ = (mo E μ).bind (kMethX1 c k G ma E) := Eq.trans rfl rfl
theorem g_kMethX1 : kMethX1 c k G ma E (.loc j) μ = kMethXO c k G ma E j μ μ[j]? := by
  unfold kMethX1 oitems kMethXO
  simp only []
  generalize μ[j]? = o
  cases o with
  | none => rfl
  | some mo => cases mo <;> rfl
theorem g_kMethXO {ws : List W} : kMethXO c k G ma E j μ (some (.ins c ws)) = (ma E μ).bind (kMethX3 k G (.loc j)) := if_pos rfl
theorem g_kMethX3 {ws : List W} (h : ws.length + 1 = k) : kMethX3 k G w ws μ = G (w :: ws) μ := if_pos h
def kMakeX2 (μ1 : Store) (r : Rs W) : Rs W := match r with
  | .ok (.imm .non) μ2 => .ok (.loc μ1.length) μ2
  | .ex e μ2 => .ex e μ2
  | _ => .bad
def kMakeX (c k : Nat) (G : Fg) : List W → Store → Rs W := fun ws μ1 => if ws.length + 1 = k then kMakeX2 μ1 (G (.loc μ1.length :: ws) (μ1 ++ [.ins c []])) else .bad
theorem g_makeX : mMakeX c k G ma E μ = (ma E μ).bind (kMakeX c k G) := by
  unfold mMakeX kMakeX kMakeX2
  congr 1
theorem g_kMakeX {ws : List W} (h : ws.length + 1 = k) : kMakeX c k G ws μ = kMakeX2 μ (G (.loc μ.length :: ws) (μ ++ [.ins c []])) := if_pos h
theorem g_kMakeX2 : kMakeX2 μ (.ok (.imm .non) μ1) = .ok (.loc μ.length) μ1 := Eq.trans rfl rfl
theorem g_kMakeX2X : kMakeX2 μ (.ex c μ1) = .ex c μ1 := Eq.trans rfl rfl
def kTry (cs : List Nat) (s i : Nat) (f : Fl) : Fl := match f with
  | .ex c E1 μ1 => if c ∈ cs ∧ i < E1.length then .nx ((E1.set s (some (.imm (.lst ((saidL c).map D.bl))))).set i none) μ1 else .bad
  | f => f
theorem g_try : mTry cs s i a E μ = kTry cs s i (a E μ) := by
  unfold mTry kTry
  cases a E μ <;> rfl
theorem g_kTryN : kTry cs s i (.nx E μ) = .nx E μ := Eq.trans rfl rfl
theorem g_kTryR : kTry cs s i (.rt w μ) = .rt w μ := Eq.trans rfl rfl
theorem kTry_ex (h : c ∈ cs) (hi : i < E.length) : kTry cs s i (.ex c E μ) = .nx ((E.set s (some (.imm (.lst ((saidL c).map D.bl))))).set i none) μ := if_pos ⟨h, hi⟩
theorem forL_ex {gd : Gd} {tg : Mg} {ws : List W} {E2 : Env} {μ2 : Store} (h1 : tg w E = some E1) (h2 : a E1 μ = .ex c E2 μ2) : forL gd tg a (w :: ws) E μ = .ex c E2 μ2 := by
  rw [forL, h1]; simp only; rw [h2]
theorem noEx_of {f : Fl} (h : ∀ c E μ, f ≠ .ex c E μ) : noEx f = f := by
  cases f with
  | ex c E μ => exact absurd rfl (h c E μ)
  | _ => rfl
end
end Gx

namespace Gx
open PySem PySem.Spec PyProof.Rows L2

/-! ### d.values(): the view, list(..) of it, x in it -/
section
variable {X : Cx} {o : Expr} {td : TE} {p pos apos mpos : Pos}
/-- the view is made -/
theorem vals_view {pins : List (Addr × Obj)} {s : Shared} {σ : L2.St} {H : Hp} {Q : Value → Shared → Prop} {T : V → Hp → Prop} (hd : PE X o td) (hbase : attributeBase o "values" X.env (eval o X.env) = eval o X.env) (hline : (apos.endLine == mpos.line) = true) (I : Inv X pins σ H s) (h : td σ H T)
    (k : ∀ x H1, T x H1 → ∃ a kvs, x = .ref a ∧ Rd H1 a (.dK kvs) ∧ ∀ s1 vs ep, Inv X pins σ H1 s1 → KV kvs vs → kvs.length ≤ sizeLine → s1.heap.DictAt (mixKind X.prog X.w) a vs ep → Q (.ref s1.heap.objs.size) { s1 with heap := s1.heap.push { cls := .type "dict_values", data := .fields #[.ref a] } }) :
    wpAny (model X.prog X.w) X.A (eval (.Call (.Attribute o "values" apos) [] [] mpos) X.env) Q X.xe s := by
  refine wpAny_Call_method0_late hbase hline (thn (hd.run pins s σ H _ I h) fun v s1 ⟨x, H1, I1, r1, tx⟩ => ?_)
  obtain ⟨a, kvs, ex, ha, q⟩ := k x H1 tx
  subst ex
  obtain rfl : v = Value.ref a := r1
  obtain ⟨hz, hsys, vs, rel, dof⟩ := dk_rd I1.hok ha
  obtain ⟨ep, dat⟩ := dof.dictAt
  have dat' := dat
  obtain ⟨ob, es, ho, ex, hdat, hko, hpr, hnd⟩ := dat'
  refine ⟨"dict", "dict.values", F.plainAttrs_dict, F.slot_dict_values, F.type_dict_values, ⟨ob, ho, ex.1⟩, fun b e => ?_, Calls.callWith_builtin rfl (PySem.evalArgs_none ?_)⟩
  · cases e
    exact ⟨ob, ho, ex.2.1⟩
  exact call_meetsIn F.slot_dict_values ⟨ob, ho, ex.1⟩ F.entry_dict_values (F.args_dict_values_1 _) (meets_dict_values (mixKind X.prog X.w) a hsys) ⟨⟨vs, dof⟩, q s1 vs ep I1 rel hz dat⟩
def tListVals (td : TE) : TE := fun σ H Q => td σ H fun x H1 => ∃ a kvs, x = .ref a ∧ Rd H1 a (.dK kvs) ∧ ∀ l, H1 l = none → Q (.ref l) (upd H1 l (.lst (kvs.map (·.2))))
theorem pe_listVals (hc : X.calm = true) (hg : Gl X "list") (hm : X.mg "list" = none) (hd : PE X o td) (hbase : attributeBase o "values" X.env (eval o X.env) = eval o X.env := by rfl) (hline : (apos.endLine == mpos.line) = true := by rfl)
    (na : starEach [Expr.Call (.Attribute o "values" apos) [] [] mpos] X.env = (false, eval (Expr.Call (.Attribute o "values" apos) [] [] mpos) X.env) :: starEach [] X.env := by rfl) :
    PE X (.Call (.Name "list" p) [.Call (.Attribute o "values" apos) [] [] mpos] [] pos) (tListVals td) := by
  refine ⟨fun pins s σ H Q I h => ?_⟩
  refine Call_ (ld_blt I hg hm boot_list (PyProof.Rows.callWith_type1 (args_cons (vals_view hd hbase hline I h fun x H1 ⟨a, kvs, ex, ha, q⟩ => ⟨a, kvs, ex, ha, fun s1 vs ep I1 rel hz dat => args_nil ?_⟩) na) na))
  have dat1 : (s1.heap.push { cls := .type "dict_values", data := .fields #[.ref a] }).DictAt (mixKind X.prog X.w) a vs ep := dat.keep fun b u e => Heap.get?_push_of_some _ e
  have hl : kvs.length = vs.length := Paired.length rel
  have I2 : Inv X pins σ H1 { s1 with heap := s1.heap.push { cls := .type "dict_values", data := .fields #[.ref a] } } := I1.kept (t' := s1.toks) fun b u e => Heap.get?_push_of_some _ e
  refine PySem.W.kdl_call (s := { s1 with heap := s1.heap.push { cls := .type "dict_values", data := .fields #[.ref a] } }) (PySem.W.kdl_values (knd := mixKind X.prog X.w) (r := s1.heap.objs.size) (d := a) (kvs := vs) (ep := ep)) (I1.ok.hd hc) ⟨⟨_, Heap.get?_push_size _ rfl, rfl, rfl⟩, dat1⟩ (by rw [← hl]; exact hz) fun h' tk acc' c' hk hS hacc => ?_
  refine ⟨.ref _, upd H1 _ (.lst (kvs.map (·.2))), I2.laid hk (Nat.le_refl _) (show ObjOk X.prog X.w _ _ _ (.lst (kvs.map (·.2))) from ⟨?_, acc'.toList, c', ?_, ?_⟩), rfl, q _ (I2.hok.fresh (Nat.le_refl _))⟩
  · rw [List.length_map]; exact hz
  · have el : acc'.toList.length = acc'.size := by simp
    refine vals_of_at (by rw [List.length_map, el, hacc.1, hl]) fun j x w h1 h2 => ?_
    obtain ⟨k, hky⟩ := hacc.2 j w (by rw [← Array.getElem?_toList]; exact h2)
    obtain ⟨y, hy, ry⟩ := KV.at' rel hky
    rw [List.getElem?_map, hy] at h1
    cases h1
    exact ry
  · rw [Array.toArray_toList]; exact hS
end
/-! x in d.values() -/
open PySem.SeqAt in
theorem lookup_values_contains : typeLookup (.type "dict_values") "__contains__" = pure none := by first | decide +kernel | rfl | (rw [typeLookup_type, builtinLookup_eq_fast]; kernel_rfl)
theorem entry_contains_iter : entryFor table "proto.contains_iter" = some Builtin.«proto.contains_iter» := entryFor_of_fast (by kernel_rfl)
theorem plain_contains_iter : plainId "proto.contains_iter" = true := by decide +kernel
section
open PySem.SeqAt
variable {prog : Program} {w : World} {A : Around} {Ia : Addr} {fp wr : List Addr} {n : Nat} {P : Nat → Value → Prop} {St : Nat → Heap → Prop}
theorem contains_iterW (Wk : Walks prog w A.in1 Ia fp wr n P St) (x : Value) (e : Nat → Bool) (h0 : Heap) (he : ∀ i v (s' : Shared), P i v → (∀ b o, b ∉ wr → h0.get? b = some o → s'.heap.get? b = some o) → EqAt A.in1 s' v x (e i)) {R : Result → Shared → Prop} :
    ∀ (k i : Nat) (s : Shared), n = i + k → St i s.heap → (∀ b o, b ∉ wr → h0.get? b = some o → s.heap.get? b = some o) → (∀ h' tk, (∀ b o, b ∉ wr → h0.get? b = some o → h'.get? b = some o) → R (.ok (.ret (.bool ((List.range' i k).any e)))) { s with heap := h', toks := tk }) →
      codeAny (model prog w) A (.builtin "proto.contains_iter" ⟨[.ref Ia, x], []⟩) R s
  | 0, i, s, hk, st, kp, hR => by
    refine codeAny_builtin entry_contains_iter ?_
    rw [Around.under_plainId plain_contains_iter _]
    unfold Builtin.«proto.contains_iter»
    refine wpAny_bind (Wk.done s _ _ (by rw [hk]; exact st) fun h' tk hk' => ?_)
    refine wpAny_bind (wpAny_rule ?_)
    exact wpAny_pure (hR h' tk fun b o hb hq => hk' b o hb (kp b o hb hq))
  | k + 1, i, s, hk, st, kp, hR => by
    refine codeAny_builtin entry_contains_iter ?_
    rw [Around.under_plainId plain_contains_iter _]
    unfold Builtin.«proto.contains_iter»
    refine wpAny_bind (Wk.item i s _ _ (by omega) st fun v h' tk pv st' hk' => ?_)
    have kp' : ∀ b o, b ∉ wr → h0.get? b = some o → h'.get? b = some o := fun b o hb hq => hk' b o hb (kp b o hb hq)
    refine wpAny_bind (he i v { s with heap := h', toks := tk } pv kp' prog w _ _ ?_)
    have hr : ∀ h' tk, (∀ b o, b ∉ wr → h0.get? b = some o → h'.get? b = some o) → R (.ok (.ret (.bool (e i || (List.range' (i + 1) k).any e)))) { s with heap := h', toks := tk } := fun h2 tk2 z => by
      have := hR h2 tk2 z
      rwa [List.range'_succ, List.any_cons] at this
    cases hb : e i with
    | true =>
      rw [hb] at hr
      rw [if_pos rfl]
      refine wpAny_bind (wpAny_rule ?_)
      exact wpAny_pure (hr h' tk kp')
    | false =>
      rw [hb] at hr
      rw [if_neg Bool.false_ne_true]
      exact wpAny_pure ⟨plainId_quiet plain_contains_iter _, contains_iterW Wk x e h0 he k (i + 1) { s with heap := h', toks := tk } (by omega) st' kp' fun h2 tk2 z => hr h2 tk2 z⟩
end
theorem isPys_get {K : PySem.W.Frag} {H : Hp} {k : Nat} : ∀ {vs : List V} {ds : List PyData} {i : Nat} {v : V}, IsPys K H k vs ds → vs[i]? = some v → ∃ d, ds[i]? = some d ∧ IsPy K H k v d
  | v0 :: vs, ds, i, v, h, e => by
    obtain ⟨hd, hp, hl⟩ := h
    cases hd with
    | cons h1 h2 =>
      simp only [PyData.plainAll, Bool.and_eq_true] at hp
      simp only [PyData.depthAll] at hl
      cases i with
      | zero =>
        cases e
        exact ⟨_, rfl, h1, hp.1, Nat.le_trans (Nat.le_max_left _ _) hl⟩
      | succ i =>
        obtain ⟨d, hd, q⟩ := isPys_get (i := i) ⟨h2, hp.2, Nat.le_trans (Nat.le_max_right _ _) hl⟩ (by simpa using e)
        exact ⟨d, by simpa using hd, q⟩
  | [], _, i, v, _, e => by simp at e
theorem isPys_len {K : PySem.W.Frag} {H : Hp} {k : Nat} : ∀ {vs : List V} {ds : List PyData}, IsPys K H k vs ds → vs.length = ds.length
  | [], ds, h => by
    obtain ⟨hd, _, _⟩ := h
    cases hd
    rfl
  | v :: vs, ds, h => by
    obtain ⟨hd, hp, hl⟩ := h
    cases hd with
    | cons h1 h2 =>
      simp only [PyData.plainAll, Bool.and_eq_true] at hp
      simp only [PyData.depthAll] at hl
      rw [List.length_cons, List.length_cons, isPys_len ⟨h2, hp.2, Nat.le_trans (Nat.le_max_right _ _) hl⟩]
def eqAtI (xs : List PyData) (d : PyData) (i : Nat) : Bool := match xs[i]? with
  | some y => PyData.eqv y d
  | none => false
theorem any_range (d : PyData) : ∀ (xs : List PyData) (pre : List PyData), (List.range' pre.length xs.length).any (eqAtI (pre ++ xs) d) = inPy xs d
  | [], pre => rfl
  | x :: r, pre => by
    have ih := any_range d r (pre ++ [x])
    rw [List.length_append, List.length_singleton, List.append_assoc, List.singleton_append] at ih
    rw [List.length_cons, List.range'_succ, List.any_cons, ih]
    have : eqAtI (pre ++ x :: r) d pre.length = PyData.eqv x d := by
      unfold eqAtI
      rw [List.getElem?_append_right (Nat.le_refl _), Nat.sub_self]
      rfl
    rw [this]
    rfl
def tInVals (K : PySem.W.Frag) (neg : Bool) (ty td : TE) : TE := fun σ H Q => ty σ H fun y H1 => td σ H1 fun x H2 => ∃ a kvs d xs, x = .ref a ∧ Rd H2 a (.dK kvs) ∧ IsPy K H2 fuelD y d ∧ IsPys K H2 fuelD (kvs.map (·.2)) xs ∧ Q (.bl (if neg then !inPy xs d else inPy xs d)) H2
section
open PySem.SeqAt
variable {X : Cx} {a o : Expr} {ty td : TE} {apos mpos : Pos}
theorem contains_view {pins : List (Addr × Obj)} {s1 : Shared} {σ : L2.St} {H : Hp} {E : Value → Shared → Prop} {Q : Bool → Shared → Prop} {d : Addr} {kvs : List (Key × V)} {vs : List (Key × Value)} {ep : Nat} {y : V} {v : Value} {dy : PyData} {xs : List PyData}
    (hc : X.calm = true) (hu : X.A.units + 64 < cLine) (I : Inv X pins σ H s1) (rel : KV kvs vs) (dat : s1.heap.DictAt (mixKind X.prog X.w) d vs ep) (ry : RelV y v) (hy : IsPy X.K H fuelD y dy) (hx : IsPys X.K H fuelD (kvs.map (·.2)) xs)
    (hQ : ∀ h' tk, (∀ b o, s1.heap.get? b = some o → h'.get? b = some o) → Q (inPy xs dy) { s1 with heap := h', toks := tk }) :
    wpAny (model X.prog X.w) X.A (contains (.ref s1.heap.objs.size) v) Q E { s1 with heap := s1.heap.push { cls := .type "dict_values", data := .fields #[.ref d] } } := by
  have hT : Shared.TypeIs { s1 with heap := s1.heap.push { cls := .type "dict_values", data := .fields #[.ref d] } } (.ref s1.heap.objs.size) "dict_values" := ⟨_, Heap.get?_push_size _ rfl, rfl⟩
  obtain ⟨bs, rd⟩ := Dp.reads I dy y v hy.dp ry
  have hl : kvs.length = vs.length := Paired.length rel
  have hl2 : kvs.length = xs.length := by rw [← isPys_len hx, List.length_map]
  unfold contains
  refine wpAny_holding ?_
  rw [stdlibNamesSay?_of_typeIs hT]
  refine wpAny_bind (wpAny_specialOf hT lookup_values_contains ?_)
  rw [if_neg (by decide)]
  refine wpAny_bind (wpAny_callSpecialUnlessNone?_none hT lookup_values_contains ?_)
  refine wpAny_bind (wpAny_rule ?_)
  have dat1 : (s1.heap.push { cls := .type "dict_values", data := .fields #[.ref d] }).DictAt (mixKind X.prog X.w) d vs ep := dat.keep fun b u e => Heap.get?_push_of_some _ e
  refine wpAny_bind (wpAny_tryCatch (wpAny_pyIter_values ⟨_, Heap.get?_push_size _ rfl, rfl, rfl⟩ dat1 ?_))
  have I2 : (s1.heap.push { cls := .type "dict_values", data := .fields #[.ref d] }).objs.size = s1.heap.objs.size + 1 := Heap.size_push _ _
  have hlt : d < s1.heap.objs.size := dat.lt_size
  have Wk := Walks.dictValues (prog := X.prog) (w := X.w) (knd := mixKind X.prog X.w) (A := X.A.in1) (I.ok.hd hc) (s1.heap.objs.size + 1) d (Nat.ne_of_lt (Nat.lt_succ_of_lt hlt)) vs ep
  have k2 : ∀ b u, b ∉ [s1.heap.objs.size + 1] → s1.heap.get? b = some u → ((s1.heap.push { cls := .type "dict_values", data := .fields #[.ref d] }).push { cls := .type "dict_valueiterator", data := .fields #[.ref d, .int 0 0, .int vs.length 0, .int ep 0] }).get? b = some u := fun b u _ e => Heap.get?_push_of_some _ (Heap.get?_push_of_some _ e)
  have nw : ∀ b u, s1.heap.get? b = some u → b ∉ [s1.heap.objs.size + 1] := fun b u e hm => by
    have := Heap.lt_size e
    rw [List.mem_singleton.mp hm] at this
    exact absurd this (Nat.not_lt.mpr (Nat.le_succ _))
  show wpAny _ _ (_ >>= _) _ _ _
  refine wpAny_bind (wpAny_runValue ?_)
  rw [I2]
  refine contains_iterW Wk v (eqAtI xs dy) s1.heap (fun i u s' ⟨k, hk⟩ kp => ?_) vs.length 0 _ (Nat.zero_add _).symm ⟨⟨_, by rw [← I2]; exact Heap.get?_push_size _ rfl, rfl, rfl⟩, dat1.keep fun b u e => Heap.get?_push_of_some _ e⟩ (fun b o hb e => k2 b o hb e) (fun h' tk kp => ?_)
  · obtain ⟨z, hz, rz⟩ := KV.at' rel hk
    obtain ⟨dz, hdz, pz⟩ := isPys_get (i := i) (v := z) hx (by rw [List.getElem?_map, hz]; rfl)
    obtain ⟨cs, rdz⟩ := Dp.reads I dz z u pz.dp rz
    have e1 : eqAtI xs dy i = PyData.eqv dz dy := by unfold eqAtI; rw [hdz]
    rw [e1]
    have kp2 : ∀ b o, s1.heap.get? b = some o → s'.heap.get? b = some o := fun b o e => kp b o (nw b o e) e
    refine eqAt_plain dz dy X.A.in1 s' u v _ _ (Reads.keeps kp2 rdz) (Reads.keeps kp2 rd) pz.pl hy.pl ?_
    have h1 := pz.le
    have h2 : fuelD = 9 := rfl
    have h3 : min dz.depth dy.depth ≤ dz.depth := Nat.min_le_left _ _
    show X.A.units + 1 + min dz.depth dy.depth < cLine
    exact Nat.lt_of_le_of_lt (Nat.add_le_add_left (Nat.le_trans h3 h1) _) (by rw [h2]; omega)
  · have e2 := any_range dy xs []
    rw [List.length_nil, List.nil_append, ← hl2, hl] at e2
    show wpAny _ _ (pure _) _ _ _
    rw [e2]
    exact wpAny_pure (hQ h' tk fun b o e => kp b o (nw b o e) e)
theorem pc_inVals (hc : X.calm = true) (hu : X.A.units + 64 < cLine) (ha : PE X a ty) (hd : PE X o td) (hbase : attributeBase o "values" X.env (eval o X.env) = eval o X.env := by rfl) (hline : (apos.endLine == mpos.line) = true := by rfl) :
    PC X .In a (.Call (.Attribute o "values" apos) [] [] mpos) (tInVals X.K false ty td) := by
  refine ⟨fun pins s σ H Q I h => ?_⟩
  refine thn (ha.run pins s σ H _ I h) fun v s0 ⟨y, H1, I1, ry, q1⟩ => ?_
  refine vals_view hd hbase hline I1 q1 fun x H2 ⟨b, kvs, d, xs, ex, hb, hy, hx, q⟩ => ⟨b, kvs, ex, hb, fun s1 vs ep I2 rel hz dat => ?_⟩
  show wpAny _ _ (contains _ _ >>= _) _ _ _
  refine wpAny_bind (contains_view hc hu I2 rel dat ry hy hx fun h' tk kp => wpAny_pure ⟨.bl _, H2, I2.kept (t' := tk) kp, rfl, q⟩)
theorem pc_notInVals (hc : X.calm = true) (hu : X.A.units + 64 < cLine) (ha : PE X a ty) (hd : PE X o td) (hbase : attributeBase o "values" X.env (eval o X.env) = eval o X.env := by rfl) (hline : (apos.endLine == mpos.line) = true := by rfl) :
    PC X .NotIn a (.Call (.Attribute o "values" apos) [] [] mpos) (tInVals X.K true ty td) := by
  refine ⟨fun pins s σ H Q I h => ?_⟩
  refine thn (ha.run pins s σ H _ I h) fun v s0 ⟨y, H1, I1, ry, q1⟩ => ?_
  refine vals_view hd hbase hline I1 q1 fun x H2 ⟨b, kvs, d, xs, ex, hb, hy, hx, q⟩ => ⟨b, kvs, ex, hb, fun s1 vs ep I2 rel hz dat => ?_⟩
  show wpAny _ _ (contains _ _ >>= _) _ _ _
  refine wpAny_bind (contains_view hc hu I2 rel dat ry hy hx fun h' tk kp => wpAny_pure ⟨.bl _, H2, I2.kept (t' := tk) kp, rfl, q⟩)
end
/-! what they compute -/
section
variable {κ : Kap} {xw : XW} {ρ : Lo} {H : Hp} {σ : L2.St} {E : Env} {μ : Store} {te tb : TE} {m mb : Me}
def dvals (μ : Store) (w : W) : Option (List W) := match ditems μ w with
  | some kvs => some (kvs.map (·.2))
  | none => none
def kListV (fz : Bool) : W → Store → Rs W := fun w μ1 => match dvals μ1 w with
  | some ws => mkL fz ws μ1
  | none => .bad
def mListV (fz : Bool) (mo : Me) : Me := fun E μ => (mo E μ).bind (kListV fz)
theorem RWk.vals {α : Type} : ∀ {kvs : List (α × W)} {ys : List (α × V)}, RWk κ ρ H ys kvs → RWs κ ρ H (ys.map (·.2)) (kvs.map (·.2))
  | [], _, q => by cases q; rfl
  | (k, w) :: r, _, ⟨x, xr, e, p, q⟩ => by subst e; exact ⟨x, _, rfl, p, RWk.vals q⟩
theorem se_listV (fz : Bool) (h : SE κ xw te m) : SE κ xw (tListVals te) (mListV fz m) := fun ρ μ H σ E Q s e p =>
  h.bind s e p fun w μ1 ρ1 H1 v l s1 e1 rv p1 => by
    unfold kListV dvals at p1
    cases hk : ditems μ1 w with
    | none => rw [hk] at p1; exact p1.elim
    | some kvs =>
      rw [hk] at p1
      obtain ⟨a, ys, rfl, hr, q⟩ := ditems_ok hk s1 rv
      exact ⟨a, ys, rfl, hr, fun l hl => PoE.lst (xw := xw) (σ := σ) p1 s1 q.vals hl⟩
def inVals (μ : Store) (x c : W) : Option Bool := match dvals μ c with
  | some ws => match pyW fuelD μ x, optAll (pyW fuelD μ) ws with
    | some d, some xs => some (inPy xs d)
    | _, _ => none
  | none => none
def kInV2 (neg : Bool) (x : W) : W → Store → Rs W := fun c μ1 => match inVals μ1 x c with
  | some b => .ok (.imm (.bl (if neg then !b else b))) μ1
  | none => .bad
def kInV1 (neg : Bool) (mo : Me) (E : Env) : W → Store → Rs W := fun x μ1 => (mo E μ1).bind (kInV2 neg x)
def mInV (neg : Bool) (ma mo : Me) : Me := fun E μ => (ma E μ).bind (kInV1 neg mo E)
theorem pyWs_ok (s : SR κ ρ μ H) : ∀ {ws : List W} {xs : List V} {es : List PyData}, RWs κ ρ H xs ws → optAll (pyW fuelD μ) ws = some es → IsPys κ.K H fuelD xs es
  | [], _, es, q, h => by cases q; cases h; exact ⟨.nil, rfl, by simp [PyData.depthAll]⟩
  | w :: r, _, es, ⟨x, xr, e, p, q⟩, h => by
    subst e
    unfold optAll at h
    split at h
    · cases h
    · rename_i b hb
      split at h
      · cases h
      · rename_i bs hbs
        cases h
        exact isPys_cons (pyW_ok s fuelD w x b p hb) (pyWs_ok s q hbs)
theorem se_inV (neg : Bool) (h : SE κ xw te m) (h2 : SE κ xw tb mb) : SE κ xw (tInVals κ.K neg te tb) (mInV neg m mb) := fun ρ μ H σ E Q s e p =>
  h.bind s e p fun w μ1 ρ1 H1 v l s1 e1 rv p1 => h2.bind s1 e1 p1 fun w2 μ2 ρ2 H2 v2 l2 s2 e2 rv2 p2 => by
    unfold kInV2 inVals dvals at p2
    cases hk : ditems μ2 w2 with
    | none => rw [hk] at p2; exact p2.elim
    | some kvs =>
      rw [hk] at p2
      simp only [] at p2
      split at p2
      · rename_i b hb
        split at hb
        · rename_i d xs hd hx
          cases hb
          obtain ⟨a, ys, rfl, hr, q⟩ := ditems_ok hk s2 rv2
          exact ⟨a, ys, d, xs, rfl, hr, pyW_ok s2 _ _ _ _ (rv.mono l2) hd, pyWs_ok s2 q.vals hx, p2 ρ2 H2 _ Le.refl s2 rfl⟩
        · cases hb
      · exact p2.elim
theorem g_listV {fz : Bool} : mListV fz m E μ = (m E μ).bind (kListV fz) := Eq.trans rfl rfl
theorem g_inV {neg : Bool} : mInV neg m mb E μ = (m E μ).bind (kInV1 neg mb E) := Eq.trans rfl rfl
theorem g_kInV1 {neg : Bool} {w : W} : kInV1 neg m E w μ = (m E μ).bind (kInV2 neg w) := Eq.trans rfl rfl
theorem kListV_of {fz : Bool} {w : W} {kvs : List (Key × W)} (h : ditems μ w = some kvs) : kListV fz w μ = mkL fz (kvs.map (·.2)) μ := by
  unfold kListV dvals
  simp only [h]
theorem kInV2_of {neg : Bool} {x c : W} {kvs : List (Key × W)} {d : PyData} {xs : List PyData} (h : ditems μ c = some kvs) (hd : pyW fuelD μ x = some d) (hx : optAll (pyW fuelD μ) (kvs.map (·.2)) = some xs) : kInV2 neg x c μ = .ok (.imm (.bl (if neg then !inPy xs d else inPy xs d))) μ := by
  unfold kInV2 inVals dvals
  simp only [h, hd, hx]
end
section
variable {κ : Kap} {xw : XW} {X : Cx} {e o : Expr} {te tb : TE} {m mb : Me} {pos apos mpos p : Pos}
theorem be_listV (fz : Bool) (c : Cc κ X) (hm : X.mg "list" = none) (ho : BE κ xw X o te m) (hg : Gl X "list" := by rfl) (hbase : attributeBase o "values" X.env (eval o X.env) = eval o X.env := by rfl) (hline : (apos.endLine == mpos.line) = true := by rfl)
    (na : starEach [Expr.Call (.Attribute o "values" apos) [] [] mpos] X.env = (false, eval (Expr.Call (.Attribute o "values" apos) [] [] mpos) X.env) :: starEach [] X.env := by rfl) :
    BE κ xw X (.Call (.Name "list" p) [.Call (.Attribute o "values" apos) [] [] mpos] [] pos) (tListVals te) (mListV fz m) := ⟨pe_listVals c.calm hg hm ho.p hbase hline na, se_listV fz ho.s⟩
theorem be_inV (c : Cc κ X) (ha : BE κ xw X e te m) (ho : BE κ xw X o tb mb) (hbase : attributeBase o "values" X.env (eval o X.env) = eval o X.env := by rfl) (hline : (apos.endLine == mpos.line) = true := by rfl)
    (hm : behindInMarks .In (.Call (.Attribute o "values" apos) [] [] mpos) = false := by with_unfolding_all rfl) : BE κ xw X (.Compare e [.In] [.Call (.Attribute o "values" apos) [] [] mpos] pos) (tInVals κ.K false te tb) (mInV false m mb) := ⟨pe_cmp (by rw [← c.K]; exact pc_inVals c.calm c.hu ha.p ho.p hbase hline) hm, se_inV false ha.s ho.s⟩
theorem bt_inV (c : Cc κ X) (ha : BE κ xw X e te m) (ho : BE κ xw X o tb mb) (hbase : attributeBase o "values" X.env (eval o X.env) = eval o X.env := by rfl) (hline : (apos.endLine == mpos.line) = true := by rfl)
    (hm : behindInMarks .In (.Call (.Attribute o "values" apos) [] [] mpos) = false := by with_unfolding_all rfl) : BT κ xw X (.Compare e [.In] [.Call (.Attribute o "values" apos) [] [] mpos] pos) (tB (tInVals κ.K false te tb)) (mB (mInV false m mb)) := ⟨pt_cmp (by rw [← c.K]; exact pc_inVals c.calm c.hu ha.p ho.p hbase hline) hm, st_B (se_inV false ha.s ho.s)⟩
theorem be_notInV (c : Cc κ X) (ha : BE κ xw X e te m) (ho : BE κ xw X o tb mb) (hbase : attributeBase o "values" X.env (eval o X.env) = eval o X.env := by rfl) (hline : (apos.endLine == mpos.line) = true := by rfl)
    (hm : behindInMarks .NotIn (.Call (.Attribute o "values" apos) [] [] mpos) = false := by with_unfolding_all rfl) : BE κ xw X (.Compare e [.NotIn] [.Call (.Attribute o "values" apos) [] [] mpos] pos) (tInVals κ.K true te tb) (mInV true m mb) := ⟨pe_cmp (by rw [← c.K]; exact pc_notInVals c.calm c.hu ha.p ho.p hbase hline) hm, se_inV true ha.s ho.s⟩
theorem bt_notInV (c : Cc κ X) (ha : BE κ xw X e te m) (ho : BE κ xw X o tb mb) (hbase : attributeBase o "values" X.env (eval o X.env) = eval o X.env := by rfl) (hline : (apos.endLine == mpos.line) = true := by rfl)
    (hm : behindInMarks .NotIn (.Call (.Attribute o "values" apos) [] [] mpos) = false := by with_unfolding_all rfl) : BT κ xw X (.Compare e [.NotIn] [.Call (.Attribute o "values" apos) [] [] mpos] pos) (tB (tInVals κ.K true te tb)) (mB (mInV true m mb)) := ⟨pt_cmp (by rw [← c.K]; exact pc_notInVals c.calm c.hu ha.p ho.p hbase hline) hm, st_B (se_inV true ha.s ho.s)⟩
end
end Gx

namespace Gx
open PySem PySem.Spec PyProof.Rows L2

/-! ### a dict of texts that the module has written: d[k], k not in d -/
def shapes : List (Str × Str) := [("bar", "pu"), ("enter", "fp"), ("fall", "f"), ("grant", "fpp"), ("hand", "fp"), ("leave", "f"), ("sue", "fp"), ("walk", "ff"), ("win", "f"), ("yes", "f")]
def EntOk (P : Params) : List DictEntry → List (Str × Str) → Prop
  | [], [] => True
  | e :: r, p :: q => (∃ t, e.key = .str p.1 t ∧ e.hash = PyData.keyHash P p.1) ∧ (∃ t, e.val = .str p.2 t) ∧ EntOk P r q
  | _, _ => False
theorem EntOk.lit {P : Params} : ∀ {es : List DictEntry} {l : List (Str × Str)}, EntOk P es l → PySem.W.KeysLit P es
  | [], _, _ => trivial
  | e :: r, p :: q, ⟨⟨t, h1, h2⟩, _, h3⟩ => ⟨⟨p.1, t, h1, h2⟩, h3.lit⟩
  | _ :: _, [], h => h.elim
theorem EntOk.find {P : Params} (x : Str) : ∀ {es : List DictEntry} {l : List (Str × Str)}, EntOk P es l → (match l.lookup x with
    | some v => ∃ e t, es.find? (·.key.isStr x) = some e ∧ e.val = .str v t
    | none => es.find? (·.key.isStr x) = none ∧ es.any (·.refKey) = false)
  | [], [], _ => ⟨rfl, rfl⟩
  | e :: r, p :: q, ⟨⟨t, h1, _⟩, ⟨t2, h2⟩, h3⟩ => by
    have ih := EntOk.find x h3
    have hk : e.key.isStr x = decide (p.1 = x) := by
      rw [h1]
      show (p.1 == x) = _
      rfl
    rw [List.lookup_cons, List.find?_cons, hk]
    by_cases c : p.1 = x
    · rw [show (x == p.1) = true from by simp [c], decide_eq_true c]
      exact ⟨e, t2, rfl, h2⟩
    · rw [show (x == p.1) = false from by simp [Ne.symm c], decide_eq_false c]
      simp only []
      cases hl : List.lookup x q with
      | some v => rw [hl] at ih; exact ih
      | none =>
        rw [hl] at ih
        refine ⟨ih.1, ?_⟩
        rw [List.any_cons, ih.2]
        unfold DictEntry.refKey
        rw [h1]
        rfl
  | [], _ :: _, h => h.elim
  | _ :: _, [], h => h.elim
structure ShT (K : PySem.W.Frag) (P : Params) (mg : Str → Option Value) : Prop where
  ex : ∃ SH es n, mg "SHAPES" = some (.ref SH) ∧ K.lookup SH = some ⟨.type "dict", none, .dict es n, #[]⟩ ∧ (SH == sysModules) = false ∧ EntOk P es.toList shapes
theorem ent_nsIn {K : PySem.W.Frag} {P : Params} {SH : Addr} {es : Array DictEntry} {n : Nat} {l : List (Str × Str)} (hl : K.lookup SH = some ⟨.type "dict", none, .dict es n, #[]⟩) (h : EntOk P es.toList l) (x : Str) : match l.lookup x with
    | some v => ∃ t, PySem.W.nsIn K SH x = some (some (.str v t))
    | none => PySem.W.nsIn K SH x = some none := by
  have := h.find x
  unfold PySem.W.nsIn
  rw [hl]
  cases hx : l.lookup x with
  | some v =>
    rw [hx] at this
    obtain ⟨e, t, h1, h2⟩ := this
    refine ⟨t, ?_⟩
    simp only []
    rw [h1]
    simp only []
    rw [h2]
  | none =>
    rw [hx] at this
    obtain ⟨h1, h2⟩ := this
    simp only []
    rw [h1]
    simp only []
    rw [h2]
    rfl
noncomputable def ShT.adr {K : PySem.W.Frag} {P : Params} {mg : Str → Option Value} (T : ShT K P mg) : Addr := Classical.choose T.ex
theorem ShT.at' {K : PySem.W.Frag} {P : Params} {mg : Str → Option Value} (T : ShT K P mg) : ∃ es n, mg "SHAPES" = some (.ref T.adr) ∧ K.lookup T.adr = some ⟨.type "dict", none, .dict es n, #[]⟩ ∧ (T.adr == sysModules) = false ∧ EntOk P es.toList shapes := Classical.choose_spec T.ex
section
variable {X : Cx} {b : Expr} {tb : TE} {pos p : Pos}
def rIxSh (a : Addr) : R2 := fun x y H Q => ∃ z v, x = .ref a ∧ y = .str z ∧ shapes.lookup z = some v ∧ Q (.str v) H
theorem pe_ixSh {K : PySem.W.Frag} (hK : X.K = K) (T : ShT K X.w.params X.mg) (hg : Gl X "SHAPES") (hb : PE X b tb) (hs : PlainIx b) : PE X (.Subscript (.Name "SHAPES" p) b pos) (tOp (rIxSh T.adr) (tC (.ref T.adr)) tb) := by
  obtain ⟨es, n, hm, hl, low, ent⟩ := T.at'
  refine pe_ix (r := rIxSh T.adr) (fun value slice pins s σ H x y v u Q I rx ry h hs => ?_) (pe_glob hg hm (v := .ref T.adr) rfl) hb hs
  obtain ⟨z, r, rfl, rfl, hz, q⟩ := h
  have := ent_nsIn hl ent z
  rw [hz] at this
  obtain ⟨tk, hn⟩ := this
  exact ix_kdict value slice pins s σ H _ _ v u Q I rx ry ⟨T.adr, z, .str r, rfl, rfl, ⟨es, n, _, by rw [hK]; exact hl, ent.lit, by rw [hK]; exact hn, ⟨tk, rfl⟩⟩, q⟩ hs
def tNotSh (tb : TE) : TE := fun σ H Q => tb σ H fun y H1 => ∃ z, y = .str z ∧ Q (.bl (!(shapes.lookup z).isSome)) H1
theorem pc_notSh {K : PySem.W.Frag} (hK : X.K = K) (T : ShT K X.w.params X.mg) (hg : Gl X "SHAPES") (hb : PE X b tb) : PC X .NotIn b (.Name "SHAPES" p) (tNotSh tb) := by
  obtain ⟨es, n, hm, hl, low, ent⟩ := T.at'
  refine ⟨fun pins s σ H Q I h => ?_⟩
  refine thn (hb.run pins s σ H _ I h) fun v s1 ⟨y, H1, I1, ry, z, ey, q⟩ => ld_glob I1 hg hm ?_
  subst ey
  obtain ⟨t, rfl⟩ := ry
  have hm2 := PySem.W.mapOf_K (prog := X.prog) (w := X.w) I1.kIn (by rw [hK]; exact hl) ent.lit
  refine wpAny_notIn_of (strKind_is X.prog X.w z t) low hm2 ?_
  have := ent_nsIn hl ent z
  cases hz : shapes.lookup z with
  | some r =>
    rw [hz] at this q
    obtain ⟨tk, hn⟩ := this
    rw [PySem.W.find_K hl hn]
    exact ⟨.bl _, H1, I1.tok _, rfl, q⟩
  | none =>
    rw [hz] at this q
    rw [PySem.W.find_K hl this]
    exact ⟨.bl _, H1, I1.tok _, rfl, q⟩
end
section
variable {κ : Kap} {xw : XW} {ρ : Lo} {H : Hp} {σ : L2.St} {E : Env} {μ : Store} {tb : TE} {mb : Me} {X : Cx} {b : Expr} {pos p : Pos}
def kIxSh : W → Store → Rs W := fun w μ => match w with
  | .imm (.str z) => match shapes.lookup z with
    | some v => .ok (.imm (.str v)) μ
    | none => .bad
  | _ => .bad
def mIxSh (mb : Me) : Me := fun E μ => (mb E μ).bind kIxSh
def kNotSh : W → Store → Rs W := fun w μ => match w with
  | .imm (.str z) => .ok (.imm (.bl (!(shapes.lookup z).isSome))) μ
  | _ => .bad
def mNotSh (mb : Me) : Me := fun E μ => (mb E μ).bind kNotSh
theorem se_ixSh {a : Addr} (h : SE κ xw tb mb) : SE κ xw (tOp (rIxSh a) (tC (.ref a)) tb) (mIxSh mb) := fun ρ μ H σ E Q s e p =>
  h.bind s e p fun w μ1 ρ1 H1 v l s1 e1 rv p1 => by
    unfold kIxSh at p1
    split at p1
    · rename_i z
      split at p1
      · rename_i r hr
        cases rv
        exact ⟨z, r, rfl, rfl, hr, p1 ρ1 H1 _ Le.refl s1 rfl⟩
      · exact p1.elim
    · exact p1.elim
theorem se_notSh (h : SE κ xw tb mb) : SE κ xw (tNotSh tb) (mNotSh mb) := fun ρ μ H σ E Q s e p =>
  h.bind s e p fun w μ1 ρ1 H1 v l s1 e1 rv p1 => by
    unfold kNotSh at p1
    split at p1
    · rename_i z
      cases rv
      exact ⟨z, rfl, p1 ρ1 H1 _ Le.refl s1 rfl⟩
    · exact p1.elim
theorem be_ixSh (c : Cc κ X) (T : ShT κ.K X.w.params X.mg) (hb : BE κ xw X b tb mb) (hg : Gl X "SHAPES" := by rfl) (hs : PlainIx b := by intro _ _; rfl) : BE κ xw X (.Subscript (.Name "SHAPES" p) b pos) (tOp (rIxSh T.adr) (tC (.ref T.adr)) tb) (mIxSh mb) := ⟨pe_ixSh c.K T hg hb.p hs, se_ixSh hb.s⟩
theorem be_notSh (c : Cc κ X) (T : ShT κ.K X.w.params X.mg) (hb : BE κ xw X b tb mb) (hg : Gl X "SHAPES" := by rfl) (hm : behindInMarks .NotIn (.Name "SHAPES" p) = false := by with_unfolding_all rfl) : BE κ xw X (.Compare b [.NotIn] [.Name "SHAPES" p] pos) (tNotSh tb) (mNotSh mb) := ⟨pe_cmp (pc_notSh c.K T hg hb.p) hm, se_notSh hb.s⟩
theorem bt_notSh (c : Cc κ X) (T : ShT κ.K X.w.params X.mg) (hb : BE κ xw X b tb mb) (hg : Gl X "SHAPES" := by rfl) (hm : behindInMarks .NotIn (.Name "SHAPES" p) = false := by with_unfolding_all rfl) : BT κ xw X (.Compare b [.NotIn] [.Name "SHAPES" p] pos) (tB (tNotSh tb)) (mB (mNotSh mb)) := ⟨pt_cmp (pc_notSh c.K T hg hb.p) hm, st_B (se_notSh hb.s)⟩
theorem g_ixSh : mIxSh mb E μ = (mb E μ).bind kIxSh := Eq.trans rfl rfl
theorem g_notSh : mNotSh mb E μ = (mb E μ).bind kNotSh := Eq.trans rfl rfl
theorem g_kNotSh {z : Str} : kNotSh (.imm (.str z)) μ = .ok (.imm (.bl (!(shapes.lookup z).isSome))) μ := Eq.trans rfl rfl
theorem kIxSh_of {z v : Str} (h : shapes.lookup z = some v) : kIxSh (.imm (.str z)) μ = .ok (.imm (.str v)) μ := by
  unfold kIxSh
  simp only [h]
end
end Gx

namespace Gx
open PySem PySem.Spec PyProof.Rows L2

/-! ### max(xs, default=d) -/
theorem foldl_max (ns : List Int) (i : Int) : ns.foldl max i = maxI i ns := rfl
theorem depth_ints : ∀ ns : List Int, PyData.depthAll (ns.map PyData.int) ≤ 1
  | [] => by simp [PyData.depthAll]
  | n :: r => by
    have := depth_ints r
    simp only [List.map_cons, PyData.depthAll, PyData.depth]
    omega
def maxDf (d : Int) : List Int → Int
  | [] => d
  | i :: r => maxI i r
section
variable {X : Cx} {a b : Expr} {ta tb : TE} {p pos kp : Pos}
def tMaxDf (K : PySem.W.Frag) (ta tb : TE) : TE := fun σ H Q => ta σ H fun x H1 => tb σ H1 fun y H2 => ∃ (l : Addr) (ns : List Int) (d : Int), x = .ref l ∧ SqL K H2 l (ns.map V.int) ∧ y = .int d ∧ Q (.int (maxDf d ns)) H2
theorem reads_ints {h : Heap} : ∀ {ns : List Int} {us : List Value}, Vals (ns.map V.int) us → ReadsAll h us (ns.map PyData.int) []
  | [], _, r => by cases r; exact .nil
  | n :: ns, _, r => by
    cases r with
    | cons r1 r2 =>
      obtain ⟨t, rfl⟩ := r1
      exact ReadsAll.cons (as := []) (bs := []) (Reads.int n t) (reads_ints r2)
theorem pe_maxDf (hc : X.calm = true) (hu : X.A.units + 64 < cLine) (hg : Gl X "max") (hm : X.mg "max" = none) (ha : PE X a ta) (hb : PE X b tb)
    (he : starEach [a] X.env = (false, eval a X.env) :: starEach [] X.env := by rfl) : PE X (.Call (.Name "max" p) [a] [⟨some "default", b, kp⟩] pos) (tMaxDf X.K ta tb) := by
  refine ⟨fun pins s σ H Q I h => ?_⟩
  refine wpAny_Call_Name_kw (ld_blt I hg hm (u := .builtin "max") (by first | rfl | decide +kernel) ?_ (by first | decide +kernel | decide) (by first | decide +kernel | decide))
  refine callWith_kw (env := X.env) (args_cons (thn (ha.run pins s σ H _ I h) fun v s1 ⟨x, H1, I1, r1, q1⟩ => args_nil (kws_cons (thn (hb.run pins s1 σ H1 _ I1 q1) fun u s2 ⟨y, H2, I2, r2, l, ns, d, ex, hs, ey, q⟩ => kws_nil ?_))) he) (by rw [he]; rfl) (by rw [he]; rfl)
  subst ex
  subst ey
  obtain rfl : v = Value.ref l := r1
  obtain ⟨t0, rfl⟩ := r2
  obtain ⟨its, rv, hl, _⟩ := I2.list hs
  have hl' := hl.isList
  have hal : PySem.W.AlikeAll (ns.map PyData.int) := by
    refine ⟨fun x hx y hy => ?_, fun x hx => ?_⟩
    · obtain ⟨i, _, rfl⟩ := List.mem_map.mp hx
      obtain ⟨j, _, rfl⟩ := List.mem_map.mp hy
      rfl
    · obtain ⟨i, _, rfl⟩ := List.mem_map.mp hx
      intro z; cases z
  have hdep := depth_ints ns
  refine PySem.W.max_list_default (A := X.A) (I2.ok.hd hc) hl' (reads_ints (h := s2.heap) (us := its.toArray.toList) (by simpa using rv)) hal (by omega) (fun hz h' tk hk => ?_) fun y ys i v h' tk bs hxs hv hr hk => ?_
  · have : ns = [] := by
      cases ns with
      | nil => rfl
      | cons n r => simp at hz
    subst this
    exact ⟨.int d, H2, I2.kept (t' := tk) hk, ⟨_, rfl⟩, q⟩
  · cases ns with
    | nil => simp at hxs
    | cons n r =>
      rw [List.map_cons] at hxs
      cases hxs
      rw [PySem.W.maxD_ints, foldl_max] at hr
      cases hr with
      | int _ t => exact ⟨.int _, H2, I2.kept (t' := tk) hk, ⟨t, rfl⟩, q⟩
end
section
variable {κ : Kap} {xw : XW} {ρ : Lo} {H : Hp} {σ : L2.St} {E : Env} {μ : Store} {te tb : TE} {m mb : Me} {X : Cx} {a b : Expr} {p pos kp : Pos}
def kMaxD2 (w : W) : W → Store → Rs W := fun w2 μ => match (ritems μ w).bind intsW, w2 with
  | some ns, .imm (.int d) => .ok (.imm (.int (maxDf d ns))) μ
  | _, _ => .bad
def kMaxD1 (mb : Me) (E : Env) : W → Store → Rs W := fun w μ => (mb E μ).bind (kMaxD2 w)
def mMaxD (ma mb : Me) : Me := fun E μ => (ma E μ).bind (kMaxD1 mb E)
theorem se_maxD (h : SE κ xw te m) (h2 : SE κ xw tb mb) : SE κ xw (tMaxDf κ.K te tb) (mMaxD m mb) := fun ρ μ H σ E Q s e p =>
  h.bind s e p fun w μ1 ρ1 H1 v l s1 e1 rv p1 => h2.bind s1 e1 p1 fun w2 μ2 ρ2 H2 v2 l2 s2 e2 rv2 p2 => by
    unfold kMaxD2 at p2
    split at p2
    · rename_i ns d hn
      cases hw : ritems μ2 w with
      | none => rw [hw] at hn; cases hn
      | some wl =>
        rw [hw] at hn
        obtain ⟨a, xs, rfl, ha, q⟩ := ritems_ok hw s2 (rv.mono l2)
        have e := intsW_ok hn q
        subst e
        cases rv2
        exact ⟨a, ns, d, rfl, ha, rfl, p2 ρ2 H2 _ Le.refl s2 rfl⟩
    · exact p2.elim
theorem be_maxD (c : Cc κ X) (hm : X.mg "max" = none) (ha : BE κ xw X a te m) (hb : BE κ xw X b tb mb) (hg : Gl X "max" := by rfl) (he : starEach [a] X.env = (false, eval a X.env) :: starEach [] X.env := by rfl) :
    BE κ xw X (.Call (.Name "max" p) [a] [⟨some "default", b, kp⟩] pos) (tMaxDf κ.K te tb) (mMaxD m mb) := ⟨by rw [← c.K]; exact pe_maxDf c.calm c.hu hg hm ha.p hb.p he, se_maxD ha.s hb.s⟩
theorem g_maxD : mMaxD m mb E μ = (m E μ).bind (kMaxD1 mb E) := Eq.trans rfl rfl
theorem g_kMaxD1 {w : W} : kMaxD1 mb E w μ = (mb E μ).bind (kMaxD2 w) := Eq.trans rfl rfl
theorem intsW_il : ∀ ns : List Int, intsW ((ns.map D.int).map W.imm) = some ns
  | [] => rfl
  | n :: r => by rw [List.map_cons, List.map_cons]; unfold intsW; rw [intsW_il r]
theorem g_kMaxD2 {ns : List Int} {d : Int} : kMaxD2 (.imm (.lst (ns.map D.int))) (.imm (.int d)) μ = .ok (.imm (.int (maxDf d ns))) μ := by
  unfold kMaxD2
  simp only [ritems, litems, Option.bind_some, intsW_il]
end
end Gx

namespace Gx
open PySem PySem.Spec PyProof.Rows L2

/-! ### list(range(..)) -/
def rgVC (i c : Int) (n : Nat) : List V := (List.range n).map fun k => V.int (i + (k : Nat) * c)
theorem vals_rgC {i c : Int} {n : Nat} {acc : Array Value} (h : ItemsOf (fun k v => ∃ t, v = .int (i + k * c) t) acc n) : Vals (rgVC i c n) acc.toList := by
  have e : acc.toList.length = n := by rw [Array.length_toList]; exact h.1
  unfold rgVC
  rw [← e]
  refine vals_of_get acc.toList _ fun j u hj => ?_
  obtain ⟨t, rfl⟩ := h.2 j u (by rw [← hj, Array.getElem?_toList])
  exact ⟨t, rfl⟩
section
variable {X : Cx} {e : Expr} {es : List Expr} {ta : TA} {p p2 pos pos2 : Pos}
def tListR (ta : TA) : TE := fun σ H Q => ta σ H fun vs H1 => ∃ i j c n, (vs = [.int i, .int j] ∧ c = 1 ∨ vs = [.int i, .int j, .int c]) ∧ RgC i j c n ∧ n ≤ 2 ^ 24 ∧ ∀ q, H1 q = none → Q (.ref q) (upd H1 q (.lst (rgVC i c n)))
theorem pe_listR (hc : X.calm = true) (hg : Gl X "list") (hm : X.mg "list" = none) (hg2 : Gl X "range") (hm2 : X.mg "range" = none) (ha : PA X (e :: es) ta)
    (he : starEach (e :: es) X.env = (false, eval e X.env) :: starEach es X.env := by rfl) (hpl : (backTo pos2 (starEach es X.env)).any (·.1) = false := by rfl)
    (na : starEach [Expr.Call (.Name "range" p2) (e :: es) [] pos2] X.env = (false, eval (Expr.Call (.Name "range" p2) (e :: es) [] pos2) X.env) :: starEach [] X.env := by rfl) :
    PE X (.Call (.Name "list" p) [.Call (.Name "range" p2) (e :: es) [] pos2] [] pos) (tListR ta) := by
  refine ⟨fun pins s σ H Q I h => ?_⟩
  refine Call_ (ld_blt I hg hm boot_list (PyProof.Rows.callWith_type1 (args_cons (Call_ (ld_blt I hg2 hm2 boot_range (PyProof.Rows.callWith_type1 (thn (ha.run pos2 pins s σ H _ I h) fun us s1 ⟨vs, H1, I1, r1, i, j, c, n, hv, ⟨c0, c1, c2, c3⟩, hn, q⟩ => ?_) he hpl))) na) na))
  have fin : ∀ (t u v : Tok) (tk : Nat), wpAny (model X.prog X.w) X.A (spliced (backTo pos (starEach [] X.env))) (fun vs s2 => wpAny (model X.prog X.w) X.A (call (.type "list") (.ref s1.heap.objs.size :: vs)) (EP X pins σ Q) X.xe s2) X.xe
      { s1 with heap := s1.heap.push { cls := .type "range", data := .fields #[.int i t, .int j u, .int c v] }, toks := tk } := fun t u v tk => by
    have I2 : Inv X pins σ H1 { s1 with heap := s1.heap.push { cls := .type "range", data := .fields #[.int i t, .int j u, .int c v] }, toks := tk } := I1.kept (t' := tk) fun b o e => Heap.get?_push_of_some _ e
    refine args_nil ?_
    refine call_list_range (n := n) (I1.ok.hd hc) (IsRange.new ..) c2 c3 hn fun h' tk acc c' hk e' hi => ?_
    refine ⟨.ref _, upd H1 _ (.lst (rgVC i c n)), I2.laid hk (Nat.le_refl _) (show ObjOk X.prog X.w _ _ _ (.lst (rgVC i c n)) from ⟨?_, acc.toList, c', vals_rgC hi, ?_⟩), rfl, q _ (I2.hok.fresh (Nat.le_refl _))⟩
    · unfold rgVC
      rw [List.length_map, List.length_range, sizeLine_eq]
      exact hn
    · rw [Array.toArray_toList]; exact e'
  rcases hv with ⟨hv, rfl⟩ | hv
  · subst hv
    obtain ⟨u1, u2, rfl, ⟨t, rfl⟩, ⟨t', rfl⟩⟩ := vals2 r1
    exact call_range_2 (fin _ _ _ _)
  · subst hv
    cases r1 with
    | cons r rr =>
      obtain ⟨u1, u2, rfl, ⟨t', rfl⟩, ⟨t'', rfl⟩⟩ := vals2 rr
      obtain ⟨t, rfl⟩ := r
      exact call_range_3 c0 (fin _ _ _ _) (.inl (PyProof.noPylong_small c1))
end
section
variable {κ : Kap} {xw : XW} {ρ : Lo} {H : Hp} {σ : L2.St} {E : Env} {μ : Store} {ta : TA} {ma : Ma} {X : Cx} {e : Expr} {es : List Expr} {p p2 pos pos2 : Pos}
/-- how many items -/
def rgN (i j c : Int) : Nat := (Builtin.Range.rangeSize i j c).toNat
def rgOk (i j c : Int) : Bool := decide (c ≠ 0) && decide (c.natAbs < 1073741824) && Builtin.Range.small i j c && decide (Builtin.Range.rangeSize i j c = (rgN i j c : Int)) && decide (rgN i j c ≤ 16777216)
theorem rgOk_C {i j c : Int} (h : rgOk i j c = true) : RgC i j c (rgN i j c) ∧ rgN i j c ≤ 2 ^ 24 := by
  unfold rgOk at h
  simp only [Bool.and_eq_true, decide_eq_true_eq] at h
  exact ⟨⟨h.1.1.1.1, h.1.1.1.2, h.1.1.2, h.1.2⟩, h.2⟩
def kListR (fz : Bool) : List W → Store → Rs W := fun ws μ => match ws with
  | [.imm (.int i), .imm (.int j)] => if rgOk i j 1 = true then mkL fz (rangeWC i 1 (rgN i j 1)) μ else .bad
  | [.imm (.int i), .imm (.int j), .imm (.int c)] => if rgOk i j c = true then mkL fz (rangeWC i c (rgN i j c)) μ else .bad
  | _ => .bad
def mListR (fz : Bool) (ma : Ma) : Me := fun E μ => (ma E μ).bind (kListR fz)
theorem rgVC_rws {i c : Int} {n : Nat} : RWs κ ρ H (rgVC i c n) (rangeWC i c n) := by
  unfold rgVC rangeWC
  induction (List.range n) with
  | nil => exact RWs.nil
  | cons k r ih => exact RWs.cons rfl ih
theorem se_listR (fz : Bool) (h : SA κ xw ta ma) : SE κ xw (tListR ta) (mListR fz ma) := fun ρ μ H σ E Q s e p =>
  h.bind s e p fun ws μ1 ρ1 H1 vs l s1 e1 rs p1 => by
    unfold kListR at p1
    split at p1
    · rename_i i j
      split at p1
      · rename_i hok
        obtain ⟨x, y, rfl, rx, ry⟩ := rws2 rs
        cases rx; cases ry
        obtain ⟨h1, h2⟩ := rgOk_C hok
        exact ⟨i, j, 1, _, .inl ⟨rfl, rfl⟩, h1, h2, fun q hq => PoE.lst (xw := xw) (σ := σ) p1 s1 rgVC_rws hq⟩
      · exact p1.elim
    · rename_i i j c
      split at p1
      · rename_i hok
        obtain ⟨x, r, rfl, rx, rr⟩ := rs
        obtain ⟨y, z, rfl, ry, rz⟩ := rws2 rr
        cases rx; cases ry; cases rz
        obtain ⟨h1, h2⟩ := rgOk_C hok
        exact ⟨i, j, c, _, .inr rfl, h1, h2, fun q hq => PoE.lst (xw := xw) (σ := σ) p1 s1 rgVC_rws hq⟩
      · exact p1.elim
    · exact p1.elim
theorem be_listR (fz : Bool) (c : Cc κ X) (hm : X.mg "list" = none) (hm2 : X.mg "range" = none) (ha : BA κ xw X (e :: es) ta ma) (hg : Gl X "list" := by rfl) (hg2 : Gl X "range" := by rfl)
    (he : starEach (e :: es) X.env = (false, eval e X.env) :: starEach es X.env := by rfl) (hpl : (backTo pos2 (starEach es X.env)).any (·.1) = false := by rfl)
    (na : starEach [Expr.Call (.Name "range" p2) (e :: es) [] pos2] X.env = (false, eval (Expr.Call (.Name "range" p2) (e :: es) [] pos2) X.env) :: starEach [] X.env := by rfl) :
    BE κ xw X (.Call (.Name "list" p) [.Call (.Name "range" p2) (e :: es) [] pos2] [] pos) (tListR ta) (mListR fz ma) := ⟨pe_listR c.calm hg hm hg2 hm2 ha.p he hpl na, se_listR fz ha.s⟩
theorem g_listR {fz : Bool} : mListR fz ma E μ = (ma E μ).bind (kListR fz) := Eq.trans rfl rfl
theorem rgOk_1 {i j : Int} (h0 : 0 ≤ i) (h1 : i ≤ j) (h2 : j ≤ 16000000) : rgOk i j 1 = true ∧ rgN i j 1 = (j - i).toNat := by
  have e : Builtin.Range.rangeSize i j 1 = j - i := by
    have := rangeSize_nat i j
    omega
  have e2 : rgN i j 1 = (j - i).toNat := by unfold rgN; rw [e]
  refine ⟨?_, e2⟩
  unfold rgOk
  rw [small_one (by omega) (by omega) (by omega) (by omega), e2, e]
  simp
  omega
theorem kListR2 {fz : Bool} {i j : Int} (h0 : 0 ≤ i) (h1 : i ≤ j) (h2 : j ≤ 16000000) : kListR fz [.imm (.int i), .imm (.int j)] μ = mkL fz (rangeW i (j - i).toNat) μ := by
  obtain ⟨a, b⟩ := rgOk_1 h0 h1 h2
  show (if rgOk i j 1 = true then mkL fz (rangeWC i 1 (rgN i j 1)) μ else .bad) = _
  rw [if_pos a, b]
  congr 1
  unfold rangeWC rangeW
  simp
end
/-! ### dict(d) -/
section
variable {κ : Kap} {xw : XW} {ρ : Lo} {H : Hp} {σ : L2.St} {E : Env} {μ : Store} {X : Cx} {e o f tg : Expr} {es : List Expr} {ta : TA} {ma : Ma} {pos apos p : Pos}
def oDict : OpA := fun ws μ => match ws with
  | [w] => match ditems μ w with
    | some kvs => .ok (.loc μ.length) (μ ++ [.dct kvs])
    | none => .bad
  | _ => .bad
def rDictD : List V → Hp → VK → Prop := fun xs H Q => ∃ (a : Addr) (kvs : List (Key × V)), xs = [.ref a] ∧ Rd H a (.dK kvs) ∧ ∀ p, H p = none → Q (.ref p) (upd H p (.dK kvs))
theorem sc_dict : SC κ rDictD oDict := fun xw ρ μ H σ vs ws Q s rs p => by
  unfold oDict at p
  split at p
  · rename_i w
    obtain ⟨x, rfl, r1⟩ := rws1 rs
    cases hk : ditems μ w with
    | none => rw [hk] at p; exact p.elim
    | some kvs =>
      rw [hk] at p
      obtain ⟨a, ys, rfl, hr, q⟩ := ditems_ok hk s r1
      exact ⟨a, ys, rfl, hr, fun l hl => PoE.dct (xw := xw) (σ := σ) p s q hl⟩
  · exact p.elim
theorem be_dict (c : Cc κ X) (hm : X.mg "dict" = none) (ha : BA κ xw X (e :: es) ta ma) (hg : Gl X "dict" := by rfl) (he : starEach (e :: es) X.env = (false, eval e X.env) :: starEach es X.env := by rfl) (hpl : (backTo pos (starEach es X.env)).any (·.1) = false := by rfl) :
    BE κ xw X (.Call (.Name "dict" p) (e :: es) [] pos) (tCB rDictD ta) (mCB oDict ma) := be_ty (r := rDictD) call_dictD sc_dict hm (by decide +kernel) ha hg (by decide) (by decide) he hpl
theorem g_dict {w : W} {kvs : List (Key × W)} (h : ditems μ w = some kvs) : oDict [w] μ = .ok (.loc μ.length) (μ ++ [.dct kvs]) := by
  unfold oDict
  simp only [h]
end
end Gx

namespace Gx
open PySem PySem.Spec PyProof.Rows L2

/-! ### texts: join, split, startswith, int(text) -/
def strsW : List W → Option (List Str)
  | [] => some []
  | .imm (.str s) :: r => match strsW r with
    | some ss => some (s :: ss)
    | none => none
  | _ => none
section
variable {κ : Kap} {xw : XW} {ρ : Lo} {H : Hp} {σ : L2.St} {E : Env} {μ : Store} {te tb : TE} {m mb : Me} {X : Cx} {e o : Expr} {es : List Expr} {ta : TA} {ma : Ma} {pos apos p : Pos} {w : W}
theorem strsW_ok : ∀ {ws : List W} {ss : List Str} {xs : List V}, strsW ws = some ss → RWs κ ρ H xs ws → xs = ss.map V.str
  | [], _, _, h, q => by cases h; cases q; rfl
  | .imm (.str s) :: r, ss, _, h, ⟨x, xr, e, p, q⟩ => by
    unfold strsW at h
    split at h
    · rename_i ss' h'
      cases h
      subst e
      cases p
      rw [strsW_ok h' q]
      rfl
    · cases h
  | .imm .non :: _, _, _, h, _ => by unfold strsW at h; cases h
  | .imm (.bl _) :: _, _, _, h, _ => by unfold strsW at h; cases h
  | .imm (.int _) :: _, _, _, h, _ => by unfold strsW at h; cases h
  | .imm (.tup _) :: _, _, _, h, _ => by unfold strsW at h; cases h
  | .imm (.lst _) :: _, _, _, h, _ => by unfold strsW at h; cases h
  | .imm (.dct _) :: _, _, _, h, _ => by unfold strsW at h; cases h
  | .imm (.obj _ _) :: _, _, _, h, _ => by unfold strsW at h; cases h
  | .imm (.scr _) :: _, _, _, h, _ => by unfold strsW at h; cases h
  | .imm (.ty _) :: _, _, _, h, _ => by unfold strsW at h; cases h
  | .loc _ :: _, _, _, h, _ => by unfold strsW at h; cases h
  | .tup _ :: _, _, _, h, _ => by unfold strsW at h; cases h
theorem strs_rws : ∀ ss : List Str, RWs κ ρ H (ss.map V.str) (ss.map fun s => W.imm (.str s))
  | [] => RWs.nil
  | s :: r => RWs.cons rfl (strs_rws r)
def kJoin2 (a : Str) : W → Store → Rs W := fun w μ => match (litems μ w).bind strsW with
  | some ys => if (ys.map (·.length)).sum + ys.length * a.length ≤ 16777216 then .ok (.imm (.str (Txt.join a ys))) μ else .bad
  | none => .bad
def kJoin1 (me : Me) (E : Env) : W → Store → Rs W := fun w μ => match w with
  | .imm (.str a) => (me E μ).bind (kJoin2 a)
  | _ => .bad
def mJoin (mo me : Me) : Me := fun E μ => (mo E μ).bind (kJoin1 me E)
def rJoinT (K : PySem.W.Frag) : V → List V → Hp → VK → Prop := fun x xs H Q => ∃ a p, ∃ ys : List Str, x = .str a ∧ xs = [.ref p] ∧ (SqL K H p (ys.map V.str) ∨ SqT K H p (ys.map V.str)) ∧ (ys.map (·.length)).sum + ys.length * a.length ≤ 16777216 ∧ Q (.str (Txt.join a ys)) H
theorem se_join (h : SE κ xw te m) (h2 : SE κ xw tb mb) : SE κ xw (tM1 (rJoinT κ.K) te tb) (mJoin m mb) := fun ρ μ H σ E Q s e p =>
  h.bind s e p fun w μ1 ρ1 H1 v l s1 e1 rv p1 => by
    unfold kJoin1 at p1
    split at p1
    · rename_i a
      cases rv
      refine ⟨⟨a, rfl⟩, h2.bind s1 e1 p1 fun w2 μ2 ρ2 H2 v2 l2 s2 e2 rv2 p2 => ?_⟩
      unfold kJoin2 at p2
      cases hw : litems μ2 w2 with
      | none => rw [hw] at p2; exact p2.elim
      | some wl =>
        rw [hw, Option.bind_some] at p2
        cases hs : strsW wl with
        | none => rw [hs] at p2; exact p2.elim
        | some ys =>
          rw [hs] at p2
          simp only [] at p2
          split at p2
          · rename_i hc
            obtain ⟨b, xs, rfl, ha, q⟩ := litems_ok hw s2 rv2
            have e := strsW_ok hs q
            subst e
            exact ⟨a, b, ys, rfl, rfl, .inl (.inl (.inl ha)), hc, p2 ρ2 H2 _ Le.refl s2 rfl⟩
          · exact p2.elim
    · exact p1.elim
def kSplit2 (fz : Bool) (a : Str) : W → Store → Rs W := fun w μ => match w with
  | .imm (.str b) => if (b.length == 0) = false ∧ a.length + 2 ≤ cap then mkL fz ((Txt.split a b).map fun s => W.imm (.str s)) μ else .bad
  | _ => .bad
def kSplit1 (fz : Bool) (me : Me) (E : Env) : W → Store → Rs W := fun w μ => match w with
  | .imm (.str a) => (me E μ).bind (kSplit2 fz a)
  | _ => .bad
def mSplit (fz : Bool) (mo me : Me) : Me := fun E μ => (mo E μ).bind (kSplit1 fz me E)
def rSplitT : V → List V → Hp → VK → Prop := fun x xs H Q => ∃ a b, x = .str a ∧ xs = [.str b] ∧ (b.length == 0) = false ∧ a.length + 2 ≤ sizeLine ∧ rNewStrs (Txt.split a b) H Q
theorem se_split (fz : Bool) (h : SE κ xw te m) (h2 : SE κ xw tb mb) : SE κ xw (tM1 rSplitT te tb) (mSplit fz m mb) := fun ρ μ H σ E Q s e p =>
  h.bind s e p fun w μ1 ρ1 H1 v l s1 e1 rv p1 => by
    unfold kSplit1 at p1
    split at p1
    · rename_i a
      cases rv
      refine ⟨⟨a, rfl⟩, h2.bind s1 e1 p1 fun w2 μ2 ρ2 H2 v2 l2 s2 e2 rv2 p2 => ?_⟩
      unfold kSplit2 at p2
      split at p2
      · rename_i b
        split at p2
        · rename_i hc
          cases rv2
          exact ⟨a, b, rfl, rfl, hc.1, cap_line hc.2, fun q hq => PoE.lst (xw := xw) (σ := σ) p2 s2 (strs_rws _) hq⟩
        · exact p2.elim
      · exact p2.elim
    · exact p1.elim
theorem be_join (c : Cc κ X) (ho : BE κ xw X o te m) (he : BE κ xw X e tb mb) (hs : starEach [e] X.env = [(false, eval e X.env)] := by rfl) (hbase : attributeBase o "join" X.env (eval o X.env) = eval o X.env := by rfl) (hline : (apos.endLine == pos.line) = true := by rfl) :
    BE κ xw X (.Call (.Attribute o "join" apos) [e] [] pos) (tM1 (rJoinT κ.K) te tb) (mJoin m mb) := ⟨by rw [← c.K]; exact pe_join ho.p he.p hs hbase hline, se_join ho.s he.s⟩
theorem be_split (fz : Bool) (ho : BE κ xw X o te m) (he : BE κ xw X e tb mb) (hs : starEach [e] X.env = [(false, eval e X.env)] := by rfl) (hbase : attributeBase o "split" X.env (eval o X.env) = eval o X.env := by rfl) (hline : (apos.endLine == pos.line) = true := by rfl) :
    BE κ xw X (.Call (.Attribute o "split" apos) [e] [] pos) (tM1 rSplitT te tb) (mSplit fz m mb) := ⟨pe_split ho.p he.p hs hbase hline, se_split fz ho.s he.s⟩
/-- int(x) of an int, a bool, a text -/
def oIntX : OpA := fun ws μ => match ws with
  | [.imm (.str a)] => match PySem.intText? a with
    | some n => if a.length ≤ 640 then .ok (.imm (.int n)) μ else .bad
    | none => .bad
  | _ => oInt1 ws μ
def rIntX : List V → Hp → VK → Prop := fun xs H Q => ((∃ i, xs = [.int i] ∧ Q (.int i) H) ∨ ∃ k, xs = [.bl k] ∧ Q (.int (if k then 1 else 0)) H) ∨ ∃ a n, xs = [.str a] ∧ PySem.intText? a = some n ∧ a.length ≤ 640 ∧ Q (.int n) H
theorem call_intX {X : Cx} : CallR X (.type "int") rIntX := fun pins s σ H xs us Q I r h => h.elim (call_int1 pins s σ H xs us Q I r) (call_int_str pins s σ H xs us Q I r)
theorem sc_intX : SC κ rIntX oIntX := fun xw ρ μ H σ vs ws Q s rs p => by
  unfold oIntX at p
  split at p
  · rename_i a
    split at p
    · rename_i n hn
      split at p
      · rename_i hc
        obtain ⟨x, rfl, r1⟩ := rws1 rs
        cases r1
        exact .inr ⟨a, n, rfl, hn, hc, p ρ H _ Le.refl s rfl⟩
      · exact p.elim
    · exact p.elim
  · exact .inl (sc_int1 xw ρ μ H σ vs ws Q s rs p)
theorem be_intX (c : Cc κ X) (hm : X.mg "int" = none) (ha : BA κ xw X (e :: es) ta ma) (hg : Gl X "int" := by rfl) (he : starEach (e :: es) X.env = (false, eval e X.env) :: starEach es X.env := by rfl) (hpl : (backTo pos (starEach es X.env)).any (·.1) = false := by rfl) :
    BE κ xw X (.Call (.Name "int" p) (e :: es) [] pos) (tCB rIntX ta) (mCB oIntX ma) := be_ty (r := rIntX) call_intX sc_intX hm (by decide +kernel) ha hg (by decide) (by decide) he hpl
/-- x.startswith(y) -/
def kStarts2 (a : Str) : W → Store → Rs W := fun w μ => match w with
  | .imm (.str b) => .ok (.imm (.bl (Txt.startswith a b))) μ
  | _ => .bad
def kStarts1 (me : Me) (E : Env) : W → Store → Rs W := fun w μ => match w with
  | .imm (.str a) => (me E μ).bind (kStarts2 a)
  | _ => .bad
def mStarts (mo me : Me) : Me := fun E μ => (mo E μ).bind (kStarts1 me E)
def rStarts : V → List V → Hp → VK → Prop := fun x xs H Q => ∃ a b, x = .str a ∧ xs = [.str b] ∧ Q (.bl (Txt.startswith a b)) H
theorem se_starts (h : SE κ xw te m) (h2 : SE κ xw tb mb) : SE κ xw (tM1 rStarts te tb) (mStarts m mb) := fun ρ μ H σ E Q s e p =>
  h.bind s e p fun w μ1 ρ1 H1 v l s1 e1 rv p1 => by
    unfold kStarts1 at p1
    split at p1
    · rename_i a
      cases rv
      refine ⟨⟨a, rfl⟩, h2.bind s1 e1 p1 fun w2 μ2 ρ2 H2 v2 l2 s2 e2 rv2 p2 => ?_⟩
      unfold kStarts2 at p2
      split at p2
      · rename_i b
        cases rv2
        exact ⟨a, b, rfl, rfl, p2 ρ2 H2 _ Le.refl s2 rfl⟩
      · exact p2.elim
    · exact p1.elim
theorem be_starts (ho : BE κ xw X o te m) (he : BE κ xw X e tb mb) (hs : starEach [e] X.env = [(false, eval e X.env)] := by rfl) (hbase : attributeBase o "startswith" X.env (eval o X.env) = eval o X.env := by rfl) (hline : (apos.endLine == pos.line) = true := by rfl) :
    BE κ xw X (.Call (.Attribute o "startswith" apos) [e] [] pos) (tM1 rStarts te tb) (mStarts m mb) := ⟨pe_m1 F.slot_str_startswith F.type_str_startswith mt_startswith ho.p he.p hs hbase hline, se_starts ho.s he.s⟩
theorem g_join : mJoin m mb E μ = (m E μ).bind (kJoin1 mb E) := Eq.trans rfl rfl
theorem g_kJoin1 {a : Str} : kJoin1 mb E (.imm (.str a)) μ = (mb E μ).bind (kJoin2 a) := Eq.trans rfl rfl
theorem strsW_map : ∀ ss : List Str, strsW ((ss.map D.str).map W.imm) = some ss
  | [] => rfl
  | s :: r => by rw [List.map_cons, List.map_cons]; unfold strsW; rw [strsW_map r]
theorem kJoin2_of {a : Str} {ys : List Str} (h : (ys.map (·.length)).sum + ys.length * a.length ≤ 16777216) : kJoin2 a (.imm (.lst (ys.map D.str))) μ = .ok (.imm (.str (Txt.join a ys))) μ := by
  unfold kJoin2
  simp only [litems, Option.bind_some, strsW_map]
  exact if_pos h
theorem g_split {fz : Bool} : mSplit fz m mb E μ = (m E μ).bind (kSplit1 fz mb E) := Eq.trans rfl rfl
theorem g_kSplit1 {fz : Bool} {a : Str} : kSplit1 fz mb E (.imm (.str a)) μ = (mb E μ).bind (kSplit2 fz a) := Eq.trans rfl rfl
theorem kSplit2_of {fz : Bool} {a b : Str} (hb : (b.length == 0) = false) (h : a.length ≤ 1000000) : kSplit2 fz a (.imm (.str b)) μ = mkL fz (((Txt.split a b).map D.str).map W.imm) μ := by
  have e : ((Txt.split a b).map D.str).map W.imm = (Txt.split a b).map fun s => W.imm (.str s) := by rw [List.map_map]; rfl
  rw [e]
  exact if_pos ⟨hb, by unfold cap; omega⟩
theorem g_starts : mStarts m mb E μ = (m E μ).bind (kStarts1 mb E) := Eq.trans rfl rfl
theorem g_kStarts1 {a : Str} : kStarts1 mb E (.imm (.str a)) μ = (mb E μ).bind (kStarts2 a) := Eq.trans rfl rfl
theorem g_kStarts2 {a b : Str} : kStarts2 a (.imm (.str b)) μ = .ok (.imm (.bl (Txt.startswith a b))) μ := Eq.trans rfl rfl
end
end Gx

namespace Gx
open PySem PySem.Spec PyProof.Rows L2

/-! ### zip of a tuple and a text -/
def ItzTS (K : PySem.W.Frag) (a : Addr) (x : Str) (n : Nat) : It :=
  ⟨fun i H => ∃ (xs : List V) (v : V) (c : Nat), SqT K H a xs ∧ n = min xs.length x.cps.size ∧ xs[i]? = some v ∧ x.cps[i]? = some c,
    fun i H v H' => ∃ T u c, v = .ref T ∧ H T = none ∧ H' = upd H T (.tup [u, .str ⟨#[c]⟩]) ∧ (∀ xs, SqT K H a xs → xs[i]? = some u) ∧ x.cps[i]? = some c,
    fun i H => ∃ xs : List V, SqT K H a xs ∧ n = min xs.length x.cps.size ∧ n ≤ i⟩
theorem sep_of {z TI TO i1 i2 a : Addr} (D : ZipApart z TI TO i1 i2 a a) : ZipSep2 z TI TO i1 i2 [i1, a] [i2] where
  TIz := D.TIz
  TOz := D.TOz
  TITO := D.TITO
  TIi1 := D.TIi1
  mem1 := by simp
  zf1 := by simp [D.i1z.symm, D.l1z.symm]
  Tf1 := by simp [D.TOi1, D.l1TO.symm]
  TIi2 := D.TIi2
  mem2 := by simp
  zf2 := by simp [D.i2z.symm]
  Tf2 := by simp [D.TOi2]
  sep1_2 := by simp [D.i12]
  sep2_1 := by simp [D.i12.symm, D.l1i2.symm]
theorem turn_zipTS {P : Program} {w : World} {K : PySem.W.Frag} {elts : List Expr} {kk : Nat} {tpos : Pos} {a z TI TO i1 i2 : Addr} {x : Str} {n : Nat} {t : Tok} (D : ZipApart z TI TO i1 i2 a a) :
    Turn P w K (.Tuple elts kk tpos) (ItzTS K a x n) [z, TI, TO, i1, i2] z (fun i h => i ≤ n ∧ IsZip h z TI TO .none ∧ IsPair h TI (.ref i1) (.ref i2) ∧ (∃ x y, IsPair h TO x y) ∧ h.IsTupleIter i1 a i ∧ h.IsStrIter i2 "str_ascii_iterator" x t i) where
  mem := by simp
  obj := fun i h st c hc => by
    obtain ⟨_, hz, hTI, ⟨x, y, hTO⟩, ⟨o1, e1, _, d1⟩, ⟨o2, e2, _, d2⟩⟩ := st
    have e' : c = z ∨ c = TI ∨ c = TO ∨ c = i1 ∨ c = i2 := by simpa using hc
    rcases e' with q | q | q | q | q
    · rw [q]; exact ⟨_, hz, fun v q => nomatch q⟩
    · rw [q]; exact ⟨_, hTI, fun v q => nomatch q⟩
    · rw [q]; exact ⟨_, hTO, fun v q => nomatch q⟩
    · rw [q]; exact ⟨o1, e1, fun v q => by rw [d1] at q; cases q⟩
    · rw [q]; exact ⟨o2, e2, fun v q => by rw [d2] at q; cases q⟩
  keep := fun i h h' st k => by
    obtain ⟨hi, hz, hTI, ⟨x, y, hTO⟩, h1, h2⟩ := st
    exact ⟨hi, k z (by simp) _ hz, k TI (by simp) _ hTI, ⟨x, y, k TO (by simp) _ hTO⟩, h1.at fun o q => k i1 (by simp) o q, let ⟨o, ho, r⟩ := h2; ⟨o, k i2 (by simp) o ho, r⟩⟩
  item := by
    intro X hP hw hK hc i pins s σ H E I hf st hg
    subst hP hw hK
    obtain ⟨hi, hz, hTI, ⟨x0, y0, hTO⟩, h1, h2⟩ := st
    obtain ⟨xs, v, c, hqx, hn, hx, hcx⟩ := hg
    obtain ⟨its, rv, p, _⟩ := I.tuple hqx
    obtain ⟨u, hu, ru⟩ := rv.get hx
    have hzl : z < s.heap.objs.size := Heap.lt_size hz
    have hlt1 : i < its.toArray.size := by
      have := (List.getElem?_eq_some_iff.mp hu).1
      simpa using this
    have hlt2 : i < x.cps.size := (Array.getElem?_eq_some_iff.mp hcx).1
    have D1 := Draws.tuple (prog := X.prog) (w := X.w) (A := X.A.in1) (I.ok.hd hc) i1 a D.l1i1 its.toArray
    have D2 := Draws.strAscii (prog := X.prog) (w := X.w) (A := X.A.in1) (I.ok.hd hc) i2 x t
    refine wpAny_pyNext_zipD2_item (sep_of D) D1 D2 hz hTI hTO ⟨h1, p⟩ h2 hlt1 hlt2 fun x1 x2 h' tk px1 px2 z' TO' h1' h2' hT hsz hk => ?_
    have ex1 : x1 = u := by
      have q : its.toArray[i]? = some x1 := px1
      rw [List.getElem?_toArray, hu] at q
      exact (Option.some.inj q).symm
    subst ex1
    obtain ⟨c', tk2, hc', rfl⟩ := px2
    rw [hcx] at hc'
    cases hc'
    refine ⟨_, rfl, wpAny_letOwnedTupleGo_zip (s := { s with heap := h', toks := tk }) z' fun h'' z'' sb => ?_⟩
    have hT2 : h''.get? s.heap.objs.size = some { cls := .type "tuple", data := .seq #[x1, .str ⟨#[c]⟩ tk2] } := (sb.2 _ (Nat.ne_of_gt hzl)).trans hT
    have new : ObjOk X.prog X.w (upd H s.heap.objs.size (.tup [v, .str ⟨#[c]⟩])) h'' s.heap.objs.size (.tup [v, .str ⟨#[c]⟩]) :=
      ⟨by show 2 ≤ sizeLine; decide, [x1, .str ⟨#[c]⟩ tk2], .cons ru (.cons ⟨tk2, rfl⟩ .nil), ⟨_, hT2, rfl, _, rfl⟩⟩
    have I1 : Inv X pins σ (upd H s.heap.objs.size (.tup [v, .str ⟨#[c]⟩])) { s with heap := h'', toks := tk } :=
      I.turnedNew (t' := tk) (ch := [z, TI, TO, i1, i2]) (fun c o hb q => (sb.2 c (fun q' => hb (by simp [q']))).trans (hk c o (fun q' => hb (by simp [q'])) (fun q' => hb (by simp [q'])) (fun q' => hb (by simp [q'])) (fun q' => hb (by simp [q'])) q)) hf (Nat.le_refl _) new
    refine ⟨.ref s.heap.objs.size, _, I1, rfl, ⟨_, v, c, rfl, I.hok.fresh (Nat.le_refl _), rfl, fun l hl => by rw [I.tuple_inj hl hqx]; exact hx, hcx⟩, ⟨?_, z'', ?_, ⟨x1, .str ⟨#[c]⟩ tk2, ?_⟩, ?_, ?_⟩, fun c hcm => ?_⟩
    · have b1 : i < xs.length := (List.getElem?_eq_some_iff.mp hx).1
      show i + 1 ≤ n
      omega
    · exact (sb.2 _ D.TIz).trans (hk _ _ D.TIz D.TITO D.TIi1 D.TIi2 hTI)
    · exact (sb.2 _ D.TOz).trans TO'
    · exact h1'.1.at fun o q => (sb.2 _ D.i1z).trans q
    · obtain ⟨o, ho, r⟩ := h2'
      exact ⟨o, (sb.2 _ D.i2z).trans ho, r⟩
    · have hlt : c < s.heap.objs.size := by
        have e' : c = z ∨ c = TI ∨ c = TO ∨ c = i1 ∨ c = i2 := by simpa using hcm
        rcases e' with q | q | q | q | q
        · rw [q]; exact hzl
        · rw [q]; exact Heap.lt_size hTI
        · rw [q]; exact Heap.lt_size hTO
        · rw [q]; obtain ⟨_, e1, _⟩ := h1; exact Heap.lt_size e1
        · rw [q]; obtain ⟨_, e2, _⟩ := h2; exact Heap.lt_size e2
      rw [upd_ne (Nat.ne_of_lt hlt)]
      exact (hf c hcm).1
  done := by
    intro X hP hw hK hc i pins s σ H E I hf st hg
    subst hP hw hK
    obtain ⟨hi, hz, hTI, ⟨x0, y0, hTO⟩, h1, h2⟩ := st
    obtain ⟨xs, hqx, hn, hni⟩ := hg
    have hl1 : i ≤ xs.length := by omega
    have hl2 : i ≤ x.cps.size := by omega
    have hend : i = xs.length ∨ i = x.cps.size := by omega
    obtain ⟨its, rv, p, _⟩ := I.tuple hqx
    have l1 := rv.length
    have D1 := Draws.tuple (prog := X.prog) (w := X.w) (A := X.A.in1) (I.ok.hd hc) i1 a D.l1i1 its.toArray
    have D2 := Draws.strAscii (prog := X.prog) (w := X.w) (A := X.A.in1) (I.ok.hd hc) i2 x t
    have e1 : its.toArray.size = xs.length := by rw [List.size_toArray, l1]
    exact wpAny_pyNext_zipD2_end (sep_of D) D1 D2 hz hTI hTO ⟨h1, p⟩ h2 (by rw [e1]; exact hl1) hl2 (by rw [e1]; exact hend) fun h' tk hk => ⟨rfl, I.turnedL (t' := tk) (ch := [z, TI, TO, i1, i2]) (fun c o hb q =>
      hk c o (fun q' => hb (by simp [q'])) (fun q' => hb (by simp [q'])) (fun q' => hb (by simp [q'])) (fun q' => hb (by simp [q'])) q) hf⟩
  self := fun A i s Q E st h => wpAny_pyIter_zip st.2.1 h
abbrev zTS1 (h : Heap) (l1 : Addr) : Heap := h.push { cls := .type "tuple_iterator", data := .fields #[.ref l1, .int 0 0] }
abbrev zTS2 (h : Heap) (l1 : Addr) (x : Str) (t : Tok) : Heap := (zTS1 h l1).push { cls := .type "str_ascii_iterator", data := .fields #[.str x t, .int 0 0] }
abbrev zTS3 (h : Heap) (l1 : Addr) (x : Str) (t : Tok) : Heap := (zTS2 h l1 x t).push { cls := .type "tuple", data := .seq #[.ref h.objs.size, .ref (zTS1 h l1).objs.size] }
abbrev zTS4 (h : Heap) (l1 : Addr) (x : Str) (t : Tok) : Heap := (zTS3 h l1 x t).push { cls := .type "tuple", data := .seq #[.none, .none] }
abbrev zTS5 (h : Heap) (l1 : Addr) (x : Str) (t : Tok) : Heap := (zTS4 h l1 x t).push { cls := .type "zip", data := .fields #[.none, .bool false, .bool false, .ref (zTS2 h l1 x t).objs.size, .ref (zTS3 h l1 x t).objs.size] }
theorem meets_zipTS_new (l1 : Addr) (x : Str) (t : Tok) (hx : x.cps.all (· < 128) = true) (xs : Array Value) :
    Meets (Builtin.«zip.__new__» ⟨[.type "zip", .ref l1, .str x t], []⟩) (fun _ R s => s.heap.IsTuple l1 xs ∧
      R (.ok (.ret (.ref (zTS4 s.heap l1 x t).objs.size))) { s with heap := zTS5 s.heap l1 x t }) :=
  .of_wp fun prog w A R s h => by
    obtain ⟨hp, g, d, tk, os⟩ := s; obtain ⟨hl1, h⟩ := h
    have hsub := sub_zip
    have hL1 : Heap.IsTuple (Shared.heap ⟨hp, g, d, tk, os⟩) l1 xs := hl1
    wp_walk using wpAny_pyIter_tuple hL1, wpAny_pyIter_ascii hx
    exact ⟨_, rfl, h⟩
section
variable {prog : Program} {w : World} {A : Around} {E : Value → Shared → Prop} {s : Shared}
theorem call_zipTS {l1 : Addr} {x : Str} {t : Tok} {xs : Array Value} {Q : Value → Shared → Prop} (hx : x.cps.all (· < 128) = true) (hl1 : s.heap.IsTuple l1 xs)
    (h : ∀ h', IsZip h' (s.heap.objs.size + 4) (s.heap.objs.size + 2) (s.heap.objs.size + 3) .none → IsPair h' (s.heap.objs.size + 2) (.ref s.heap.objs.size) (.ref (s.heap.objs.size + 1)) →
      IsPair h' (s.heap.objs.size + 3) .none .none → h'.IsTupleIter s.heap.objs.size l1 0 → h'.IsStrIter (s.heap.objs.size + 1) "str_ascii_iterator" x t 0 → h'.objs.size = s.heap.objs.size + 5 →
      (∀ c o, s.heap.get? c = some o → h'.get? c = some o) → Q (.ref (s.heap.objs.size + 4)) { s with heap := h' }) :
    wpAny (model prog w) A (call (.type "zip") [.ref l1, .str x t]) Q E s := by
  refine callType_new F.called_zip (by decide) (F.typeCall_zip_2 _ _) (F.newCall_zip_2 _ _) (fun obj => F.args_object_init_3 obj _ _) F.entry_zip_new
    (meets_zipTS_new l1 x t hx xs) ⟨hl1, ?_⟩
  have z1 : (zTS1 s.heap l1).objs.size = s.heap.objs.size + 1 := Heap.size_push ..
  have z2 : (zTS2 s.heap l1 x t).objs.size = s.heap.objs.size + 2 := by rw [Heap.size_push, z1]
  have z3 : (zTS3 s.heap l1 x t).objs.size = s.heap.objs.size + 3 := by rw [Heap.size_push, z2]
  have z4 : (zTS4 s.heap l1 x t).objs.size = s.heap.objs.size + 4 := by rw [Heap.size_push, z3]
  have z5 : (zTS5 s.heap l1 x t).objs.size = s.heap.objs.size + 5 := by rw [Heap.size_push, z4]
  have g5 : (zTS5 s.heap l1 x t).get? (zTS4 s.heap l1 x t).objs.size = some _ := Heap.get?_push_size _ rfl
  have g4 : (zTS5 s.heap l1 x t).get? (zTS3 s.heap l1 x t).objs.size = some _ := Heap.get?_push_of_some _ (Heap.get?_push_size _ rfl)
  have g3 : (zTS5 s.heap l1 x t).get? (zTS2 s.heap l1 x t).objs.size = some _ := Heap.get?_push_of_some _ (Heap.get?_push_of_some _ (Heap.get?_push_size _ rfl))
  have g2 : (zTS5 s.heap l1 x t).get? (zTS1 s.heap l1).objs.size = some _ := Heap.get?_push_of_some _ (Heap.get?_push_of_some _ (Heap.get?_push_of_some _ (Heap.get?_push_size _ rfl)))
  have g1 : (zTS5 s.heap l1 x t).get? s.heap.objs.size = some _ := Heap.get?_push_of_some _ (Heap.get?_push_of_some _ (Heap.get?_push_of_some _ (Heap.get?_push_of_some _ (Heap.get?_push_size _ rfl))))
  show _ ∧ _
  rw [z2, z3, z4] at g5
  rw [z1, z2] at g3
  rw [z3] at g4
  rw [z1] at g2
  rw [z4]
  exact ⟨⟨_, g5, rfl⟩, h _ g5 g3 g4 ⟨_, g1, rfl, rfl⟩ ⟨_, g2, rfl, rfl⟩ z5 fun c o x =>
    Heap.get?_push_of_some _ (Heap.get?_push_of_some _ (Heap.get?_push_of_some _ (Heap.get?_push_of_some _ (Heap.get?_push_of_some _ x))))⟩
end
def iZipS (K : PySem.W.Frag) (ta : TA) : TI := fun σ H R => ta σ H fun vs H1 => ∃ a x xs, vs = [.ref a, .str x] ∧ SqT K H1 a xs ∧ x.cps.all (· < 128) = true ∧ R (ItzTS K a x (min xs.length x.cps.size)) H1
theorem pi_zipS {X : Cx} {e e2 : Expr} {ta : TA} {p pos tpos : Pos} {elts : List Expr} {kk : Nat} (hg : Gl X "zip") (hm : X.mg "zip" = none) (ha : PA X [e, e2] ta)
    (hs : starEach [e, e2] X.env = (false, eval e X.env) :: starEach [e2] X.env := by rfl) (hpl : (backTo pos (starEach [e2] X.env)).any (·.1) = false := by rfl) :
    PI X (.Tuple elts kk tpos) (.Call (.Name "zip" p) [e, e2] [] pos) (iZipS X.K ta) := by
  refine ⟨fun pins s σ H R I h => ?_⟩
  refine Call_ (ld_blt I hg hm PyProof.Rows.boot_zip (PyProof.Rows.callWith_type1 (thn (ha.run pos pins s σ H _ I h) fun us s1 ⟨vs, H1, I1, r1, q1⟩ => ?_) hs hpl))
  obtain ⟨a, x, xs, ex, hqx, hx, q⟩ := q1
  subst ex
  obtain ⟨u1, u2, rfl, r, r'⟩ := vals2 r1
  cases r
  obtain ⟨t, rfl⟩ := r'
  have fresh5 : ∀ c, c ∈ [s1.heap.objs.size + 4, s1.heap.objs.size + 2, s1.heap.objs.size + 3, s1.heap.objs.size, s1.heap.objs.size + 1] → FpOk X pins H1 c := fun c hcm => by
    have e' : c = s1.heap.objs.size + 4 ∨ c = s1.heap.objs.size + 2 ∨ c = s1.heap.objs.size + 3 ∨ c = s1.heap.objs.size ∨ c = s1.heap.objs.size + 1 := by simpa using hcm
    have hle : s1.heap.objs.size ≤ c := by
      rcases e' with z | z | z | z | z
      · rw [z]; exact Nat.le_add_right _ _
      · rw [z]; exact Nat.le_add_right _ _
      · rw [z]; exact Nat.le_add_right _ _
      · rw [z]; exact Nat.le_refl _
      · rw [z]; exact Nat.le_add_right _ _
    exact I1.fpOk hle (I1.hok.fresh hle)
  obtain ⟨its, rv, p1, _⟩ := I1.tuple hqx
  obtain ⟨o1, ho1, _⟩ := id p1
  refine call_zipTS hx (show s1.heap.IsTuple a its.toArray from p1) fun h' hz hTI hTO h1 h2 hsz hk => wpAny_pyIter_zip hz ?_
  have I2 : Inv X pins σ H1 { s1 with heap := h' } := I1.kept (t' := s1.toks) hk
  exact ⟨s1.heap.objs.size + 4, [s1.heap.objs.size + 4, s1.heap.objs.size + 2, s1.heap.objs.size + 3, s1.heap.objs.size, s1.heap.objs.size + 1], _, _, H1, rfl, I2, turn_zipTS (PySem.W.ktu_apart s1.heap.objs.size a a (Heap.lt_size ho1) (Heap.lt_size ho1)), ⟨Nat.zero_le _, hz, hTI, ⟨_, _, hTO⟩, h1, h2⟩, fresh5, q⟩
/-! what it computes -/
section
variable {κ : Kap} {xw : XW} {ρ : Lo} {H : Hp} {σ : L2.St} {E : Env} {μ : Store} {ta : TA} {ma : Ma} {X : Cx}
def signsW (x : Str) : List W := x.cps.toList.map fun c => W.imm (.str ⟨#[c]⟩)
theorem jok_zipS {a : Addr} {ws : List W} {xs : List V} {x : Str} (ha : Rd (hid ρ H) a (.tup xs)) (q : RWs κ ρ H xs ws) : JOk κ ρ H (ItzTS κ.K a x (min xs.length x.cps.size)) (zipW ws (signsW x)) [] where
  go := fun i ρ' μ' H' w l s c hw => by
    obtain ⟨x0, y0, h0, h1, rfl⟩ := zipW_get hw
    have hx : SqT κ.K H' a xs := .inl (rd_hid (rd_tup (simH_of l.ex) ha))
    obtain ⟨v, hxi, r⟩ := q.get h0
    unfold signsW at h1
    rw [List.getElem?_map] at h1
    obtain ⟨cp, hcp, rfl⟩ := Option.map_eq_some_iff.mp h1
    have hc : x.cps[i]? = some cp := by rw [← hcp, Array.getElem?_toList]
    refine ⟨⟨xs, v, cp, hx, rfl, hxi, hc⟩, fun z H'' hz => ?_⟩
    obtain ⟨T, u', c', rfl, hT, rfl, h2, h3⟩ := hz
    have e1 := h2 xs hx
    rw [hxi] at e1
    cases e1
    rw [hc] at h3
    cases h3
    exact pair_new s hT (r.mono l) rfl
  stop := fun i ρ' μ' H' l s c hw => by
    rw [zipW_len] at hw
    have hs : (signsW x).length = x.cps.size := by simp [signsW]
    have hl := q.length
    rw [hs] at hw
    exact ⟨xs, .inl (rd_hid (rd_tup (simH_of l.ex) ha)), rfl, by omega⟩
def kZipS : List W → Store → Rs (List W × Gd) := fun ws μ1 => match ws with
  | [w, .imm (.str x)] => match titems w with
    | some xs => if x.cps.all (· < 128) = true then .ok (zipW xs (signsW x), []) μ1 else .bad
    | none => .bad
  | _ => .bad
def mZipS (ma : Ma) : Mi := fun E μ => (ma E μ).bind kZipS
theorem si_zipS (ha : SA κ xw ta ma) : SI κ xw (iZipS κ.K ta) (mZipS ma) := fun ρ μ H σ E R s e p => by
  unfold mZipS at p
  refine ha.apply s e ?_
  cases hm : ma E μ with
  | bad => rw [hm] at p; exact p
  | ex c μ1 => rw [hm] at p; exact p
  | ok ws μ1 =>
    rw [hm] at p
    simp only [Rs.bind] at p
    intro ρ1 H1 vs l1 s1 r1
    unfold kZipS at p
    split at p
    · rename_i q μ2 heq
      split at heq
      · rename_i w x
        split at heq
        · rename_i xs hl
          split at heq
          · rename_i hx
            cases heq
            obtain ⟨v1, v2, rfl, r, r'⟩ := rws2 r1
            obtain ⟨a, zs, rfl, hx', q⟩ := titems_ok hl r
            have e2 : v2 = V.str x := r'
            subst e2
            exact ⟨a, x, zs, rfl, .inl (rd_hid hx'), hx, p ρ1 H1 _ l1 s1 (jok_zipS hx' q) rfl⟩
          · cases heq
        · cases heq
      · cases heq
    · rename_i c μ2 heq
      split at heq
      · split at heq
        · split at heq <;> cases heq
        · cases heq
      · cases heq
    · exact p.elim
theorem bi_zipS {e f : Expr} {p pos tpos : Pos} {elts : List Expr} {kk : Nat} (c : Cc κ X) (hm : X.mg "zip" = none) (ha : BA κ xw X [e, f] ta ma) (hg : Gl X "zip" := by rfl) (hs : starEach [e, f] X.env = (false, eval e X.env) :: starEach [f] X.env := by rfl) (hpl : (backTo pos (starEach [f] X.env)).any (·.1) = false := by rfl) : BI κ xw X (.Tuple elts kk tpos) (.Call (.Name "zip" p) [e, f] [] pos) (iZipS κ.K ta) (mZipS ma) := ⟨by rw [← c.K]; exact pi_zipS hg hm ha.p hs hpl, si_zipS ha.s⟩
theorem g_zipS : mZipS ma E μ = (ma E μ).bind kZipS := Eq.trans rfl rfl
theorem kZipS_of {w : W} {xs : List W} {x : Str} (h : titems w = some xs) (hx : x.cps.all (· < 128) = true) : kZipS [w, .imm (.str x)] μ = .ok (zipW xs (signsW x), []) μ := by
  unfold kZipS; simp only [h, hx, if_true]
end
end Gx

namespace Gx
open PySem PySem.Spec PyProof.Rows L2

/-! ### len(d) -/
def rLenD (K : PySem.W.Frag) : List V → Hp → VK → Prop := fun xs H Q => (∃ x n, xs = [x] ∧ LenV K x H n ∧ Q (.int n) H) ∨ ∃ (a : Addr) (kvs : List (Key × V)), xs = [.ref a] ∧ Rd H a (.dK kvs) ∧ Q (.int kvs.length) H
theorem call_lenD0 {X : Cx} : CallR X (.builtin "len") (fun xs H Q => ∃ (a : Addr) (kvs : List (Key × V)), xs = [.ref a] ∧ Rd H a (.dK kvs) ∧ Q (.int kvs.length) H) := by
  intro pins s σ H xs us Q I r h
  obtain ⟨a, kvs, rfl, ha, q⟩ := h
  obtain ⟨u, rfl, r1⟩ := vals1 r
  cases r1
  exact d_len I ha fun t s' I' => ⟨.int kvs.length, H, I', ⟨t, rfl⟩, q⟩
theorem call_lenD {X : Cx} : CallR X (.builtin "len") (rLenD X.K) := CallR.or call_len call_lenD0
def oLenD : OpA := fun ws μ => match ws with
  | [w] => match ditems μ w with
    | some kvs => .ok (.imm (.int kvs.length)) μ
    | none => oLen [w] μ
  | _ => .bad
section
variable {κ : Kap} {xw : XW} {ρ : Lo} {H : Hp} {σ : L2.St} {E : Env} {μ : Store} {te tb : TE} {m mb : Me} {X : Cx} {e o : Expr} {es : List Expr} {ta : TA} {ma : Ma} {pos apos p : Pos} {w : W}
theorem sc_lenD : SC κ (rLenD κ.K) oLenD := fun xw ρ μ H σ vs ws Q s rs p => by
  unfold oLenD at p
  split at p
  · rename_i w
    split at p
    · rename_i kvs hd
      obtain ⟨x, rfl, r⟩ := rws1 rs
      obtain ⟨a, ys, rfl, ha, q⟩ := ditems_ok hd s r
      exact .inr ⟨a, ys, rfl, ha, p ρ H _ Le.refl s (by rw [q.length]; exact rfl)⟩
    · exact .inl (sc_len xw ρ μ H σ vs _ Q s rs p)
  · exact p.elim
theorem be_lenD (c : Cc κ X) (hm : X.mg "len" = none) (ha : BA κ xw X (e :: es) ta ma) (hg : Gl X "len" := by rfl) (he : starEach (e :: es) X.env = (false, eval e X.env) :: starEach es X.env := by rfl) (hpl : (backTo pos (starEach es X.env)).any (·.1) = false := by rfl) :
    BE κ xw X (.Call (.Name "len" p) (e :: es) [] pos) (tCB (rLenD κ.K) ta) (mCB oLenD ma) := be_cb (by have := call_lenD (X := X); rw [c.K] at this; exact this) sc_lenD hm PySem.boot_len ha hg (by decide) (by decide) he hpl
theorem oLenD_of {kvs : List (Key × W)} (h : ditems μ w = some kvs) : oLenD [w] μ = .ok (.imm (.int kvs.length)) μ := by
  unfold oLenD
  simp only [h]
end
end Gx

namespace Gx
open PySem PySem.Spec PyProof.Rows L2

/-! ### try: body, except LandError: y = True -/
def mTryC (cs : List Nat) (s : Nat) (m : Ms) : Ms := fun E μ => match m E μ with
  | .ex c E1 μ1 => if c ∈ cs then .nx (E1.set s (some (.imm (.bl true)))) μ1 else .bad
  | f => f
def kTryC (cs : List Nat) (s : Nat) (f : Fl) : Fl := match f with
  | .ex c E1 μ1 => if c ∈ cs then .nx (E1.set s (some (.imm (.bl true)))) μ1 else .bad
  | f => f
def tsB (κ : Kap) (cs : List Nat) (s : Nat) : Addr → Value → Option Addr → TS := fun _ cls d D σ H => ∃ c, (c ∈ cs ∧ cls = .ref (κ c) ∧ d = none) ∧ D.nx (σ.set s (some (.bl true))) H
section
variable {κ : Kap} {Wx : WX} {xw : XW} {X : Cx} {x n : Str} {L : Addr} {body : List Stmt} {s i : Nat} {tb : WX → TS} {m : Ms}
theorem ss_tryC {cs : List Nat} (hL : ∀ c ∈ cs, PySem.W.exmOne κ.K (.ref (κ c)) (.ref L) = some true) (hb : ∀ W : WX, SS κ (xwW κ W) (tb W) m) :
    SS κ xw (fun D σ H => tb (wOnly κ.K (.ref L) (tsB κ cs s) Wx D) D σ H) (mTryC cs s m) := fun ρ μ H σ E Dd sr e p => by
  refine hb _ ρ μ H σ E Dd sr e ?_
  unfold mTryC at p
  cases hm : m E μ with
  | nx E' μ' => rw [hm] at p; exact p
  | bk E' μ' => rw [hm] at p; exact p
  | ct E' μ' => rw [hm] at p; exact p
  | rt w μ' => rw [hm] at p; exact p
  | bad => rw [hm] at p; exact p
  | ex c E' μ' =>
    rw [hm] at p
    simp only [] at p
    split at p
    · rename_i hc
      intro ρ' H' σ' l s' e'
      refine ⟨true, hL c hc, fun _ a ha => ⟨c, ⟨hc, rfl, rfl⟩, ?_⟩, fun z => Bool.noConfusion z⟩
      have r : RW κ ρ' H' (.bl true) (.imm (.bl true)) := rfl
      exact p ρ' H' _ l s' (e'.set r)
    · exact p.elim
theorem bs_tryB {cs : List Nat} (s : Nat) {y : Str} {p0 p1 p2 p3 pa pb : Pos} {j : Nat}
    (c : Cc κ X) (N : X.mg "LandError" = some (.ref (κ 10))) (hI : ∀ d ∈ cs, PySem.W.exmOne κ.K (.ref (κ d)) (.ref (κ 10)) = some true)
    (hb : ∀ (W : WX) (pn : List (Addr × Obj)) (xe : Value → Shared → Prop), Takes (X.tr pn xe) W → Cc κ (X.tr pn xe) → BSs κ (xwW κ W) (X.tr pn xe) body (tb W) m)
    (hs : X.stack = X.env :: X.outer := by rfl) (hf : X.env.frame = some X.env.locals := by rfl)
    (hyi : X.N[s]? = some y := by rfl) (hyl : X.env.scope.names.lookup y = some .local := by rfl) (hgl : Gl X "LandError" := by rfl) :
    BS κ xw X (.Try body [.ExceptHandler (some (.Name "LandError" p0)) none [.Assign [.Name y p1] (.Constant (.bool true) j p2) p3] pa] [] [] pb)
      (fun D σ H => tb (wOnly κ.K (.ref (κ 10)) (tsB κ cs s) wF D) D σ H) (mTryC cs s m) := by
  refine ⟨?_, ss_tryC hI (fun W => ?_)⟩
  · rw [← c.K]
    refine ps_try_only hs hf ⟨hgl, by decide, .inl N⟩ takes0 (fun W pn xe tk ps => (hb W pn xe tk (c.tr ps)).p) fun a oe cls d pn hz hfl => pssEx fun e he => ?_
    exact pssImp (pss_one (ps_set c.nd hyi (.inl hyl) (pe_bl (X := X.suite a ((a, oe) :: pn))) rfl (.inr hyl))) fun D σ H q => q
  · refine (hb W [] (fun e s₁ => wpAny (model X.prog X.w) X.A (noteFrame e X.env) (fun _ s₂ => wpAny (model X.prog X.w) X.A (setFlight e none) (fun _ _ => True) (fun _ _ => True) s₂) (fun _ _ => True) s₁) (fun u s' xx => ?_) (c.tr PassesOwn.looking)).s
    obtain ⟨a, B, sI, pins', σ', H', cls, d, rfl, J', nb, up, sky, na, os, ag, w⟩ := xx
    have sky' : Sky B (X.env :: X.outer) a (Zc cls d) X.env.locals s'.heap := by rw [← hs]; exact sky
    exact Sky.land Zc.steady (by rw [J'.ok.frames]; exact congrArg some hs) hf sky' fun _ _ _ => trivial
end
/-! ### a list of objects that are changed later on: no freezing -/
section
variable {κ : Kap} {xw : XW} {X : Cx} {e o f tg : Expr} {es : List Expr} {te tb tc : TE} {m mb mc : Me} {tt tu : TT} {n n' : Mt} {ta : TA} {ma : Ma} {pos apos : Pos} {ti : TI} {mi : Mi} {g : TG} {mg : Mg} {gs : TGs} {mgs : Mgs} {ts ts' : List Nat} {t u : TS} {a b : Ms} {st : Stmt} {sts stt : List Stmt}
theorem BS.setLcR {i : Nat} (h : BS κ xw X st (tAsg te (gName i)) (mAsg (mRetrL m) (mgN i))) (hm : SE κ xw te m) : BS κ xw X st (tAsg te (gName i)) (mAsg m (mgN i)) := ⟨h.p, ss_asg hm (sg_name i)⟩
theorem bs_setLcR (i : Nat) {y : Str} {py : Pos} {elt tg iter : Expr} {ifs : List Expr} {scope : Scope} {spos : Pos} (own : List (Str × Nat)) (N' : List Str) (sc' : Scope) (c : Cc κ X) (hi : BI κ xw X tg iter ti mi)
    (hg : ∀ (s : Shared) (H : Hp) (C : Addr) (cl : List (Str × Addr)) (fp : List Addr), Cc κ (X.blk s H scope (compEnvC scope cl C X.env) fp) → BG κ (X.blk s H scope (compEnvC scope cl C X.env) fp) tg g mg ts)
    (ht : ∀ (s : Shared) (H : Hp) (C : Addr) (cl : List (Str × Addr)) (fp : List Addr), Cc κ (X.blk s H scope (compEnvC scope cl C X.env) fp) → BTs κ xN (X.blk s H scope (compEnvC scope cl C X.env) fp) ifs tt n)
    (he : ∀ (s : Shared) (H : Hp) (C : Addr) (cl : List (Str × Addr)) (fp : List Addr), Cc κ (X.blk s H scope (compEnvC scope cl C X.env) fp) → BE κ xN (X.blk s H scope (compEnvC scope cl C X.env) fp) elt te m)
    (hy : X.N[i]? = some y := by rfl) (hyl : X.env.scope.names.lookup y = some .local := by rfl) (hk : X.env.scope.kind = .function := by rfl) (hl : (py.line == pos.line) = true := by rfl)
    (hna : (scope.names.any fun (n, k) => n == y && (k == .local || k == .cell)) = false := by decide +kernel)
    (hN' : X.N = N' := by rfl) (hsc : X.env.scope = sc' := by rfl) (ok : blkC N' sc' scope own = true := by decide +kernel) (hv : ∀ i ∈ ts, i ∈ own.map (·.2) := by decide)
    (hs : ∀ x, foldedSetIterable iter X.env x = pure x := by intro _; rfl) :
    BS κ xw X (.Assign [.Name y py] (.ListComp elt [⟨tg, iter, ifs, 0⟩] scope pos) spos) (tAsg (tLc ti g tt te (own.map (·.2))) (gName i)) (mAsg (mLc mi mg n m (own.map (·.2))) (mgN i)) :=
  (bs_setLc i own N' sc' c hi hg ht he hy hyl hk hl hna hN' hsc ok hv hs).setLcR (se_lc hi.s (hg X.s_0 (fun _ => none) 0 [] [] (c.blk ..)).s hv (ht X.s_0 (fun _ => none) 0 [] [] (c.blk ..)).s (he X.s_0 (fun _ => none) 0 [] [] (c.blk ..)).s)
end
/-! ### what it is -/
theorem g_tryC {cs : List Nat} {s : Nat} {a : Ms} {E : Env} {μ : Store} : mTryC cs s a E μ = kTryC cs s (a E μ) := by
  unfold mTryC kTryC
  cases a E μ <;> rfl
theorem kTryC_nx {cs : List Nat} {s : Nat} {E : Env} {μ : Store} : kTryC cs s (.nx E μ) = .nx E μ := Eq.trans rfl rfl
theorem kTryC_rt {cs : List Nat} {s : Nat} {w : W} {μ : Store} : kTryC cs s (.rt w μ) = .rt w μ := Eq.trans rfl rfl
theorem kTryC_ex {cs : List Nat} {s c : Nat} {E : Env} {μ : Store} (h : c ∈ cs) : kTryC cs s (.ex c E μ) = .nx (E.set s (some (.imm (.bl true)))) μ := if_pos h
end Gx

/-! sorted(set(xs)) of a list of numbers, any number of them -/
namespace Gx
open PySem PySem.Spec PyProof.Rows L2
section
variable {P : Program} {w : World} {A : Around} {E : Value → Shared → Prop} {s : Shared}
/-- the empty set, as it is made -/
abbrev so0 (w : World) : Obj := { cls := .type "set", dict := none, data := .set #[] 0 (.fresh 0 0 (!w.params.followText "set-order")) }
/-- what a set made of these numbers is -/
abbrev SetGot (P : Program) (w : World) (ns : List Int) (g : Heap) (S : Addr) (h' : Heap) : Prop := ∃ c, c ≤ ns.length ∧ SetR w h' S (fun j => decide (j ∈ ns)) c ∧ ∀ b o, g.get? b = some o → h'.get? b = some o
set_option maxHeartbeats 3200000 in
theorem setOfL {l : Addr} {xs : Array Value} (ns : List Int) {Q : Value → Shared → Prop} (h0 : A.handled = none) (hl : s.heap.IsList l xs) (hx : IntsAre xs.toList ns) (hb : ns.length + 1 < scanBound)
    (hQ : ∀ (h' : Heap) (tk : Nat), SetGot P w ns s.heap s.heap.objs.size h' → Q (.ref s.heap.objs.size) { s with heap := h', toks := tk }) :
    wpAny (model P w) A (call (.type "set") [.ref l]) Q E s := by
  have hsz : xs.size = ns.length := by have := IntsAre.length hx; rwa [Array.length_toList] at this
  obtain ⟨cc, rest, mro⟩ := F.called_set.mro
  have made := F.called_set.made
  have sub := F.called_set.sub
  have k1 := F.called_set.notType
  have k2 := F.called_set.canCreate
  have k3 := F.typeCall_set_1 (.ref l)
  refine wpAny_call (codeAny_of_tree (show wpAny _ _ (callAny (.type "set") _) _ _ _ from wpAny_pure ⟨Code.quiet_builtin _ (by decide +kernel), codeAny_builtin F.entry_type_call ?_⟩))
  rw [Around.under_plain (weight_type_call_type "set" [.ref l] []) rfl]
  repeat (any_goals (first | assumption | wp_step))
  refine codeAny_mono (code_set_led1 (.ref l) (E := E) (Q₁ := fun x t => x = .ref s.heap.objs.size ∧ t = { s with heap := s.heap.push (so0 w) }) ⟨rfl, rfl⟩) fun r t hr => ?_
  cases r with
  | error e => exact hr
  | ok f =>
    cases f with
    | ret x =>
      obtain ⟨rfl, rfl⟩ := hr
      have g0 : (s.heap.push (so0 w)).get? s.heap.objs.size = some (so0 w) := Heap.get?_push_size _ rfl
      have ty : Shared.TypeIs { s with heap := s.heap.push (so0 w) } (.ref s.heap.objs.size) "set" := ⟨_, g0, rfl⟩
      have k4 := F.called_set.init.lookup
      have k5 := F.called_set.init.bind (.ref s.heap.objs.size)
      repeat (any_goals (first | assumption | wp_step))
      refine codeAny_mono (codeAny_call_builtin (R := wants (fun r t => r = .none ∧ ∃ h' tk, t = { s with heap := h', toks := tk } ∧ SetGot P w ns s.heap s.heap.objs.size h') E) F.called_set.init.plain F.entry_set_init (check_set_init_1 ty ?_)) fun r2 t2 hr2 => ?_
      · obtain ⟨⟨ocls, odict, odata, oslots⟩, hol, hcl, nl, hdl⟩ := hl
        obtain rfl : ocls = _ := hcl
        obtain rfl : odata = _ := hdl
        have gl : (s.heap.push (so0 w)).get? l = some { cls := .type "list", dict := odict, data := .seq xs nl, slots := oslots } := Heap.get?_push_of_some _ hol
        have s1 := F.sub_list_set
        have s2 := F.sub_list_frozenset
        have s3 : (Value.type "list" == Value.type "dict") = false := by decide
        have il : (s.heap.push (so0 w)).IsList l xs := ⟨_, gl, rfl, nl, rfl⟩
        unfold Builtin.«set.__init__» noKeywords Builtin.Frozenset.updateFrom
        generalize e0 : pyIter = PI
        wp_walk
        subst e0
        refine wpAny_pyIter_list il (wpAny_bind (wpAny_runValue ?_))
        have lS : l < s.heap.objs.size := Heap.lt_size hol
        have z1 : (s.heap.push (so0 w)).objs.size = s.heap.objs.size + 1 := Heap.size_push ..
        have n1 : l ≠ (s.heap.push (so0 w)).objs.size := z1 ▸ Nat.ne_of_lt (Nat.lt_succ_of_lt lS)
        have n2 : s.heap.objs.size ∉ [(s.heap.push (so0 w)).objs.size, l] := by
          rw [z1]
          intro h
          rcases List.mem_cons.mp h with h | h
          · exact Nat.ne_of_lt (Nat.lt_succ_self _) h
          · exact Nat.ne_of_gt lS (List.mem_singleton.mp h)
        have n3 : A.in1.in1.in1.handled = none := by simp [h0]
        refine set_update_ints ((Walks.list n3 _ l n1 xs).toS) s.heap.objs.size n2 ns hsz hb (fun i v hv => ?val) (xs.size - 0) 0 _ (by omega) (Nat.zero_le _) ⟨⟨_, Heap.get?_push_size _ rfl, rfl, rfl⟩, il.push _⟩ ?new ?fin
        case val =>
          have hi : i < ns.length := hsz ▸ (Array.getElem?_eq_some_iff.mp hv).1
          obtain ⟨t, e⟩ := IntsAre.int_at hx i v (by rw [Array.getElem?_toList]; exact hv)
          refine ⟨ns[i], t, List.getElem?_eq_getElem hi, e.trans ?_⟩
          rw [List.getD_eq_getElem?_getD, List.getElem?_eq_getElem hi]; rfl
        case new => exact ⟨0, Nat.le_refl 0, setR_new_at (Heap.get?_push_of_some _ g0)⟩
        case fin =>
          intro t c m cn hS
          obtain ⟨h', gg, dd, tk, oo⟩ := t
          obtain rfl : gg = s.gens := m.gens
          obtain rfl : dd = s.drawn := m.drawn
          obtain rfl : oo = s.os := m.os
          show wpAny _ _ _ _ _ _
          refine wpAny_pure (show wpAny _ _ (ret Value.none) _ _ _ from wpAny_pure ⟨rfl, h', tk, rfl, c, hsz ▸ cn, hS, fun b o e => m.heap b o ?_ (Heap.get?_push_of_some _ (Heap.get?_push_of_some _ e))⟩)
          have hb0 : b < s.heap.objs.size := Heap.lt_size e
          rw [z1]
          intro h
          rcases List.mem_cons.mp h with h | h
          · exact Nat.ne_of_lt hb0 h
          · exact Nat.ne_of_lt (Nat.lt_succ_of_lt hb0) (List.mem_singleton.mp h)
      · cases r2 with
        | error e => exact hr2
        | ok f2 =>
          cases f2 with
          | ret r =>
            obtain ⟨rfl, h', tk, rfl, got⟩ := hr2
            repeat (any_goals (first | assumption | wp_step))
            exact hQ _ _ got
          | _ => exact hr2.elim
    | _ => exact hr.elim
/-- sorted(found), any number of members -/
theorem sortedOfSet {a : Addr} {S : Int → Bool} {n : Nat} {Q : Value → Shared → Prop} (R : SetR w s.heap a S n) (h0 : A.handled = none)
    (hQ : ∀ t p (out : Array Value) (c : Nat) (ns : List Int), (∀ b o, s.heap.get? b = some o → t.heap.get? b = some o) → t.gens = s.gens → t.os = s.os → s.heap.objs.size ≤ p → t.heap.get? p = some (seqObj "list" out c) →
      IntsAre out.toList ns → ns.Pairwise (· < ·) → (∀ k, k ∈ ns ↔ S k = true) → ns.length ≤ sizeLine → Q (.ref p) t) : wpAny (model P w) A (call (.builtin "sorted") [.ref a]) Q E s := by
  obtain ⟨o, es, ep, tb, ho, hex, hd, g, nd, hm, hb, hf, hn, hr, hl⟩ := R
  refine Calls.call_function_entry kind_sorted plain_sorted entry_sorted (args_sorted1 _) (show wpAny _ _ (Builtin.«sorted» _) _ _ _ from ?_)
  unfold Builtin.«sorted»
  refine wpAny_bind (m := checkCount "sorted" 1 1 _) (wpAny_pure (wpAny_bind (collect_set (A := A.in1) h0 ⟨o, ho, hex.1, hd⟩ hf hb hr hl fun t vs kp hz hg hos pm => ?_)))
  have lv : vs.length ≤ sizeLine := by
    rw [pm.length_eq, List.length_map, Array.length_toList]
    exact fits_of_scanBound hb
  have iv : IntsAre vs (vs.map Builtin.Re.reRawOf) := ints_of vs fun v hv => by
    obtain ⟨e, he, q⟩ := List.mem_map.mp (pm.mem_iff.mp hv)
    obtain ⟨k, tk, e2, _⟩ := g e he
    exact ⟨k, tk, q.symm.trans e2⟩
  have pk : (vs.map Builtin.Re.reRawOf).Perm (es.toList.map keyOf) := by
    have := pm.map Builtin.Re.reRawOf
    rwa [List.map_map] at this
  refine wpAny_bind (wpAny_newList ?_ lv)
  have gL : (t.heap.push (seqObj "list" vs.toArray 0)).get? t.heap.objs.size = some (seqObj "list" vs.toArray 0) := Heap.get?_push_size _ rfl
  refine wpAny_bind (wpAny_holding (wpAny_call_entry slot_list_sort ⟨_, gL, rfl⟩ entry_list_sort (SrtO.list_sort_ord SrtO.swo_int gL lv (fun h2 => SrtO.ints_sortable iv h2) fun out q1 q2 => ⟨_, rfl, ?_⟩) (args_list_sort _)))
  obtain ⟨c1, c2, c3⟩ := SrtO.ints_out iv q1 q2
  obtain ⟨ep2, hep⟩ := sortedHeap_at (vs := vs) (out := out.toArray) gL
  have pn : (out.map SrtO.iv).Perm (es.toList.map keyOf) := c2.trans pk
  refine wpAny_pure ⟨_, rfl, hQ _ t.heap.objs.size out.toArray ep2 _ (fun b u e => ?_) hg hos hz hep c1 (lt_of_le_nodup _ c3 (pn.nodup_iff.mpr nd)) (fun k => by rw [pn.mem_iff, ← hm k]) (by rw [c2.length_eq, List.length_map]; exact lv)⟩
  have lt := Heap.lt_size (kp b u e)
  refine (sortedHeap_old (Nat.ne_of_lt lt) (by rw [size_push']; exact Nat.lt_succ_of_lt lt)).trans ?_
  exact Heap.get?_push_of_some _ (kp b u e)
end
section
variable {X : Cx} {e : Expr} {te : TE} {p p2 q pos : Pos}
def tSortSet (K : PySem.W.Frag) (te : TE) : TE := fun σ H Q => te σ H fun x H1 => ∃ (l : Addr) (ns : List Int), x = .ref l ∧ SqL K H1 l (ns.map V.int) ∧ ns.length ≤ 4000 ∧
  ∀ (out : List Int) (r : Addr), out.Pairwise (· < ·) → (∀ k, k ∈ out ↔ k ∈ ns) → H1 r = none → Q (.ref r) (upd H1 r (.lst (out.map V.int)))
theorem pe_sortSet (hc : X.calm = true) (g1 : Gl X "sorted") (m1 : X.mg "sorted" = none) (g2 : Gl X "set") (m2 : X.mg "set" = none) (he : PE X e te)
    (na : starEach [e] X.env = (false, eval e X.env) :: starEach [] X.env := by rfl)
    (nb : starEach [Expr.Call (.Name "set" p2) [e] [] q] X.env = (false, eval (Expr.Call (.Name "set" p2) [e] [] q) X.env) :: starEach [] X.env := by rfl) :
    PE X (.Call (.Name "sorted" p) [.Call (.Name "set" p2) [e] [] q] [] pos) (tSortSet X.K te) := by
  refine ⟨fun pins s σ H Q I h => ?_⟩
  refine Call_ (ld_blt I g1 m1 boot_sorted (PyProof.Rows.callWith_builtin1 (PyProof.Rows.args_cons ?_ nb) rfl rfl))
  refine Call_ (ld_blt I g2 m2 PyProof.Rows.boot_set (PyProof.Rows.callWith_type1 (PyProof.Rows.args_cons (thn (he.run pins s σ H _ I h) fun v s1 ⟨x, H1, I1, r1, q1⟩ => PyProof.Rows.args_nil ?_) na) na rfl))
  obtain ⟨l, ns, rfl, hq, hl, hQ⟩ := q1
  cases r1
  obtain ⟨its, rv, pl, hz⟩ := I1.list hq
  have h0 := I1.ok.hd hc
  refine setOfL (P := X.prog) (s := s1) ns h0 pl.isList (by simpa using ints_of_vals rv) (by unfold scanBound; omega) fun h' tk ⟨c, cn, R, k⟩ => PyProof.Rows.args_nil ?_
  refine sortedOfSet (s := { s1 with heap := h', toks := tk }) R h0 fun t r out c2 os kp hg hos hr gr io sr hm ln => ?_
  have ka : ∀ b u, s1.heap.get? b = some u → t.heap.get? b = some u := fun b u hb => kp b u (k b u hb)
  have hs : s1.heap.objs.size ≤ h'.objs.size := by
    have ⟨o, _, _, _, ho, _⟩ := R
    exact Nat.le_of_lt (Heap.lt_size ho)
  have hr1 : s1.heap.objs.size ≤ r := Nat.le_trans hs hr
  have hn : H1 r = none := I1.hok.fresh hr1
  have lo : (os.map V.int).length ≤ sizeLine := by rw [List.length_map]; exact ln
  have J : Inv X pins σ (upd H1 r (.lst (os.map V.int))) t := by
    have J := I1.call' (ch := []) (s' := t) hos (Un.laid ka hr1 hn) (I1.hok.laid ka hr1 (show ObjOk X.prog X.w _ _ _ (.lst (os.map V.int)) from ⟨lo, out.toList, c2, vals_of_ints io, gr⟩)) (by rw [hg]; exact I1.bare) (fun _ z => nomatch z)
    exact J
  exact ⟨.ref r, _, J, rfl, hQ os r sr (fun k => by rw [hm k, decide_eq_true_eq]) hn⟩
end
/-! what it computes -/
def insU (x : Int) : List Int → List Int
  | [] => [x]
  | y :: r => if x < y then x :: y :: r else if x = y then y :: r else y :: insU x r
/-- the numbers in order, each once -/
def stI (ns : List Int) : List Int := ns.foldr insU []
theorem insU_mem (x k : Int) : ∀ l, k ∈ insU x l ↔ k = x ∨ k ∈ l
  | [] => by simp [insU]
  | y :: r => by
    unfold insU
    split
    · simp
    · split
      · rename_i h; subst h; simp
      · simp only [List.mem_cons, insU_mem x k r]
        exact ⟨fun h => by rcases h with h | h | h <;> simp [h], fun h => by rcases h with h | h | h <;> simp [h]⟩
theorem stI_mem (k : Int) : ∀ ns, k ∈ stI ns ↔ k ∈ ns
  | [] => by simp [stI]
  | x :: r => by
    show k ∈ insU x (stI r) ↔ _
    rw [insU_mem, stI_mem k r, List.mem_cons]
theorem insU_srt (x : Int) : ∀ l : List Int, l.Pairwise (· < ·) → (insU x l).Pairwise (· < ·)
  | [], _ => List.pairwise_singleton _ _
  | y :: r, h => by
    obtain ⟨h1, h2⟩ := List.pairwise_cons.mp h
    unfold insU
    split
    · rename_i c
      exact List.pairwise_cons.mpr ⟨fun z hz => by rcases List.mem_cons.mp hz with rfl | hz; exact c; have := h1 z hz; omega, h⟩
    · split
      · exact h
      · rename_i c1 c2
        exact List.pairwise_cons.mpr ⟨fun z hz => by rcases (insU_mem x z r).mp hz with rfl | hz; omega; exact h1 z hz, insU_srt x r h2⟩
theorem stI_srt : ∀ ns, (stI ns).Pairwise (· < ·)
  | [] => List.Pairwise.nil
  | x :: r => insU_srt x (stI r) (stI_srt r)
theorem lt_uniq : ∀ {a b : List Int}, a.Pairwise (· < ·) → b.Pairwise (· < ·) → (∀ k, k ∈ a ↔ k ∈ b) → a = b
  | [], [], _, _, _ => rfl
  | [], y :: b, _, _, h => absurd ((h y).mpr (by simp)) (by simp)
  | x :: a, [], _, _, h => absurd ((h x).mp (by simp)) (by simp)
  | x :: a, y :: b, ha, hb, h => by
    obtain ⟨a1, a2⟩ := List.pairwise_cons.mp ha
    obtain ⟨b1, b2⟩ := List.pairwise_cons.mp hb
    have e : x = y := by
      rcases List.mem_cons.mp ((h x).mp (by simp)) with e | e
      · exact e
      · rcases List.mem_cons.mp ((h y).mpr (by simp)) with e2 | e2
        · exact e2.symm
        · have := b1 x e; have := a1 y e2; omega
    subst e
    rw [lt_uniq a2 b2 fun k => ⟨fun hk => by
      rcases List.mem_cons.mp ((h k).mp (by simp [hk])) with e | e
      · have := a1 k hk; omega
      · exact e, fun hk => by
      rcases List.mem_cons.mp ((h k).mpr (by simp [hk])) with e | e
      · have := b1 k hk; omega
      · exact e⟩]
theorem stI_uniq {a b : List Int} (h : ∀ k, k ∈ a ↔ k ∈ b) : stI a = stI b := lt_uniq (stI_srt a) (stI_srt b) fun k => by rw [stI_mem, stI_mem, h]
section
variable {κ : Kap} {xw : XW} {ρ : Lo} {H : Hp} {σ : L2.St} {E : Env} {μ : Store} {te : TE} {m : Me}
def kSortSet (fz : Bool) : W → Store → Rs W := fun w μ1 => match (ritems μ1 w).bind intsW with
  | some is => if is.length ≤ 4000 then mkL fz ((stI is).map fun i => W.imm (.int i)) μ1 else .bad
  | none => .bad
def mSortSet (fz : Bool) (me : Me) : Me := fun E μ => (me E μ).bind (kSortSet fz)
theorem se_sortSet (fz : Bool) (h : SE κ xw te m) : SE κ xw (tSortSet κ.K te) (mSortSet fz m) := fun ρ μ H σ E Q s e p =>
  h.bind s e p fun w μ1 ρ1 H1 v l s1 e1 rv p1 => by
    unfold kSortSet at p1
    cases hk : ritems μ1 w with
    | none => rw [hk] at p1; exact p1.elim
    | some ws =>
      rw [hk, Option.bind_some] at p1
      cases hi : intsW ws with
      | none => rw [hi] at p1; exact p1.elim
      | some is =>
        rw [hi] at p1
        simp only [] at p1
        split at p1
        · rename_i hl
          obtain ⟨a, xs, rfl, hr, q⟩ := ritems_ok hk s1 rv
          obtain rfl := intsW_ok hi q
          refine ⟨a, is, rfl, hr, hl, fun out r so mo hn => ?_⟩
          rw [lt_uniq so (stI_srt is) fun k => by rw [mo, stI_mem]]
          exact PoE.lst (xw := xw) (σ := σ) p1 s1 (ints_rws _) hn
        · exact p1.elim
theorem g_sortSet {fz : Bool} : mSortSet fz m E μ = (m E μ).bind (kSortSet fz) := Eq.trans rfl rfl
theorem g_kSortSet {fz : Bool} {is : List Int} (h : is.length ≤ 4000) : kSortSet fz (.imm (.lst (is.map D.int))) μ = mkL fz ((stI is).map fun i => W.imm (.int i)) μ := by
  unfold kSortSet
  have : ritems μ (.imm (.lst (is.map D.int))) = some ((is.map D.int).map W.imm) := rfl
  rw [this, Option.bind_some, intsW_il]
  exact if_pos h
end
section
variable {κ : Kap} {xw : XW} {X : Cx} {e : Expr} {te : TE} {m : Me} {pos p p2 q : Pos}
theorem be_sortSet (fz : Bool) (c : Cc κ X) (m1 : X.mg "sorted" = none) (m2 : X.mg "set" = none) (he : BE κ xw X e te m) (g1 : Gl X "sorted" := by rfl) (g2 : Gl X "set" := by rfl)
    (na : starEach [e] X.env = (false, eval e X.env) :: starEach [] X.env := by rfl)
    (nb : starEach [Expr.Call (.Name "set" p2) [e] [] q] X.env = (false, eval (Expr.Call (.Name "set" p2) [e] [] q) X.env) :: starEach [] X.env := by rfl) :
    BE κ xw X (.Call (.Name "sorted" p) [.Call (.Name "set" p2) [e] [] q] [] pos) (tSortSet κ.K te) (mSortSet fz m) := ⟨by rw [← c.K]; exact pe_sortSet c.calm g1 m1 g2 m2 he.p na nb, se_sortSet fz he.s⟩
end
end Gx

/-! sorted(d) of a dict whose keys are numbers, any number of them -/
namespace Gx
open PySem PySem.Spec PyProof.Rows L2
def rSortedDI : List V → Hp → VK → Prop := fun xs H Q => ∃ (a : Addr) (kvs : List (Key × V)) (ks : List Int), xs = [.ref a] ∧ Rd H a (.dK kvs) ∧ kvs.map (·.1) = ks.map Sum.inl ∧
  ∀ (ys : List Int) (p : Addr), ys.Perm ks → ys.Pairwise (· ≤ ·) → H p = none → Q (.ref p) (upd H p (.lst (ys.map V.int)))
theorem cr_sortedDI {X : Cx} (hc : X.calm = true) : CallR X (.builtin "sorted") rSortedDI := by
  rintro pins s σ H xs us Q I r ⟨a, kvs, ks, rfl, hd, hks, hQ⟩
  obtain ⟨u, rfl, ru⟩ := vals1 r
  cases ru
  obtain ⟨hz, lo, vs, rel, dd⟩ := dk_rd I.hok hd
  obtain ⟨ep, dat⟩ := dd.dictAt
  have ek : vs.map (·.1) = ks.map Sum.inl := rel.keys.symm.trans hks
  have el : vs.length = ks.length := by simpa using congrArg List.length ek
  have ez : vs.length ≤ sizeLine := (Paired.length rel) ▸ hz
  refine Calls.call_function_entry PyProof.Rows.kind_sorted PyProof.Rows.plain_sorted PyProof.Rows.entry_sorted (PyProof.Rows.args_sorted1 _) (show wpAny _ _ (Builtin.«sorted» _) _ _ _ from ?_)
  unfold Builtin.«sorted»
  refine wpAny_bind (m := checkCount "sorted" 1 1 _) (wpAny_pure (wpAny_bind (PySem.W.kdu_collect (A := X.A.in1) (PySem.W.kdl_dict (knd := mixKind X.prog X.w) (kvs := vs) (ep := ep) lo) (I.ok.hd hc) dat ez fun h' tk acc hk hacc => ?_)))
  have la : acc.toList.length = ks.length := by rw [Array.length_toList, hacc.1, el]
  have iv : IntsAre acc.toList ks := ints_each la fun j v e => by
    obtain ⟨k, x, e1, e2⟩ := hacc.2 j v (by rw [← Array.getElem?_toList]; exact e)
    have e3 : (ks.map (Sum.inl : Int → Key))[j]? = some k := by rw [← ek, List.getElem?_map, e1]; rfl
    obtain ⟨y, e4, rfl⟩ : ∃ y, ks[j]? = some y ∧ Sum.inl y = k := by
      rw [List.getElem?_map] at e3
      exact Option.map_eq_some_iff.mp e3
    rcases keyIs_shape (show keyIs (Sum.inl y) v = true from e2) with ⟨i, t, q1, q2⟩ | ⟨z, t, q1, q2⟩
    · cases q1
      exact ⟨y, t, e4, q2⟩
    · cases q1
  have lv : acc.toList.length ≤ sizeLine := by rw [la, ← el]; exact ez
  have I1 : Inv X pins σ H { s with heap := h', toks := tk } := I.kept hk
  refine wpAny_bind (wpAny_newList ?_ lv)
  have gL : (h'.push (seqObj "list" acc.toList.toArray 0)).get? h'.objs.size = some (seqObj "list" acc.toList.toArray 0) := Heap.get?_push_size _ rfl
  refine show wpAny _ _ _ _ _ { s with heap := h'.push (seqObj "list" acc.toList.toArray 0), toks := tk } from wpAny_bind (wpAny_holding (wpAny_call_entry slot_list_sort ⟨_, gL, rfl⟩ entry_list_sort (SrtO.list_sort_ord (s := { s with heap := h'.push (seqObj "list" acc.toList.toArray 0), toks := tk }) SrtO.swo_int gL lv (fun h2 => SrtO.ints_sortable iv h2) fun out q1 q2 => ⟨_, rfl, ?_⟩) (args_list_sort _)))
  obtain ⟨c1, c2, c3⟩ := SrtO.ints_out iv q1 q2
  obtain ⟨ep2, hep⟩ := sortedHeap_at (vs := acc.toList) (out := out.toArray) gL
  have hn : H h'.objs.size = none := I1.hok.fresh (Nat.le_refl _)
  have lo2 : ((out.map SrtO.iv).map V.int).length ≤ sizeLine := by rw [List.length_map, c2.length_eq, ← la]; exact lv
  have kp : ∀ b u, h'.get? b = some u → (sortedHeap (h'.push (seqObj "list" acc.toList.toArray 0)) h'.objs.size acc.toList out.toArray).get? b = some u := fun b u e => by
    have lt := Heap.lt_size e
    exact (sortedHeap_old (Nat.ne_of_lt lt) (by rw [size_push']; exact Nat.lt_succ_of_lt lt)).trans (Heap.get?_push_of_some _ e)
  refine wpAny_pure ⟨_, rfl, .ref h'.objs.size, upd H h'.objs.size (.lst ((out.map SrtO.iv).map V.int)), ?_, rfl, hQ _ _ c2 c3 hn⟩
  exact I1.laid (t' := tk) kp (Nat.le_refl _) (show ObjOk X.prog X.w _ _ _ (.lst ((out.map SrtO.iv).map V.int)) from ⟨lo2, out, ep2, vals_of_ints c1, hep⟩)
/-! what it computes -/
section
variable {κ : Kap} {xw : XW} {ρ : Lo} {H : Hp} {σ : L2.St} {E : Env} {μ : Store}
def intKs : List (Key × W) → Option (List Int)
  | [] => some []
  | (.inl k, _) :: r => match intKs r with
    | some is => some (k :: is)
    | none => none
  | _ => none
theorem intKs_ok : ∀ {kvs : List (Key × W)} {is : List Int} {ys : List (Key × V)}, intKs kvs = some is → RWk κ ρ H ys kvs → ys.map (·.1) = is.map Sum.inl
  | [], _, _, h, q => by cases h; cases q; rfl
  | (.inl k, w) :: r, is, _, h, ⟨x, xr, e, p, q⟩ => by
    subst e
    unfold intKs at h
    split at h
    · rename_i is' h'
      cases h
      rw [List.map_cons, intKs_ok h' q]
      rfl
    · cases h
  | (.inr _, _) :: r, _, _, h, _ => by cases h
def oSortD (fz : Bool) : OpA := fun ws μ => match ws with
  | [w] => match (ditems μ w).bind intKs with
    | some is => mkL fz ((srtB leI is).map fun i => W.imm (.int i)) μ
    | none => .bad
  | _ => .bad
theorem sc_sortD (fz : Bool) : SC κ rSortedDI (oSortD fz) := fun xw ρ μ H σ vs ws Q s rs p => by
  unfold oSortD at p
  split at p
  · obtain ⟨x, rfl, rx⟩ := rws1 rs
    split at p
    · rename_i is hi
      obtain ⟨kvs, hk, hi⟩ := Option.bind_eq_some_iff.mp hi
      obtain ⟨a, ys, rfl, hr, q⟩ := ditems_ok hk s rx
      refine ⟨a, ys, is, rfl, hr, intKs_ok hi q, fun ns' d hp hsrt hd => ?_⟩
      have e : ns' = srtB leI is := srtB_uniq lin_I hp (hsrt.imp fun h => by unfold leI; simpa using h)
      rw [e]
      exact PoE.lst p s (ints_rws _) hd
    · exact p.elim
  · exact p.elim
theorem oSortD_of {fz : Bool} {w : W} {kvs : List (Key × W)} {is : List Int} (h : ditems μ w = some kvs) (hi : intKs kvs = some is) : oSortD fz [w] μ = mkL fz ((srtB leI is).map fun i => W.imm (.int i)) μ := by
  unfold oSortD
  simp only [h, Option.bind_some, hi]
end
section
variable {κ : Kap} {xw : XW} {X : Cx} {e : Expr} {es : List Expr} {ta : TA} {ma : Ma} {pos p : Pos}
theorem be_sortD (fz : Bool) (c : Cc κ X) (hm : X.mg "sorted" = none) (ha : BA κ xw X (e :: es) ta ma) (hg : Gl X "sorted" := by rfl) (he : starEach (e :: es) X.env = (false, eval e X.env) :: starEach es X.env := by rfl) (hpl : (backTo pos (starEach es X.env)).any (·.1) = false := by rfl) :
    BE κ xw X (.Call (.Name "sorted" p) (e :: es) [] pos) (tCB rSortedDI ta) (mCB (oSortD fz) ma) := be_cb (cr_sortedDI c.calm) (sc_sortD fz) hm (by decide +kernel) ha hg (by decide) (by decide) he hpl
end
end Gx

/-! d[k] += e, xs[i] += e of numbers -/
namespace Gx
open PySem PySem.Spec PyProof.Rows L2
section
variable {κ : Kap} {xw : XW} {ρ : Lo} {H : Hp} {σ : L2.St} {E : Env} {μ : Store} {te to ti : TE} {m mo mi : Me}
/-- the number that stands there -/
def augV (lst : Bool) (w iw : W) (μ : Store) : Option Int := if lst then (match ritems μ w, iw with
    | some ws, .imm (.int z) => if 0 ≤ z then (match atW ws z with
      | some (.imm (.int x)) => some x
      | _ => none) else none
    | _, _ => none) else (match ditems μ w, keyD iw with
    | some kvs, some k => (match valG kvs k with
      | some (.imm (.int x)) => some x
      | _ => none)
    | _, _ => none)
/-- the same kind of thing is put as was read -/
def augK (lst : Bool) (w : W) (μ : Store) : Bool := match w with
  | .loc n => (match μ[n]? with
    | some (.lst _) => lst
    | some (.dct _) => !lst
    | _ => false)
  | _ => false
def kAug4 (E : Env) (x : Option Store) : Fl := match x with
  | some μ => .nx E μ
  | none => .bad
def kAugX3 (lst : Bool) (E : Env) (w iw : W) (x : Int) : W → Store → Fl := fun y μ3 => match y with
  | .imm (.int z) => if augK lst w μ3 = true then kAug4 E (putIx w iw (.imm (.int (x + z))) μ3) else .bad
  | _ => .bad
def kAugX2 (lst : Bool) (E : Env) (me : Me) (w : W) : W → Store → Fl := fun iw μ2 => match augV lst w iw μ2 with
  | some x => (me E μ2).fl E (kAugX3 lst E w iw x)
  | none => .bad
def kAugX1 (lst : Bool) (E : Env) (mi me : Me) : W → Store → Fl := fun w μ1 => (mi E μ1).fl E (kAugX2 lst E me w)
def mAugIx (lst : Bool) (mo mi me : Me) : Ms := fun E μ => (mo E μ).fl E (kAugX1 lst E mi me)
theorem augK_l {lst : Bool} {w : W} {μ : Store} (h : augK lst w μ = true) : ∃ n, w = .loc n ∧ ((lst = true ∧ ∃ ws, μ[n]? = some (.lst ws)) ∨ (lst = false ∧ ∃ kvs, μ[n]? = some (.dct kvs))) := by
  unfold augK at h
  split at h
  · rename_i n
    split at h
    · exact ⟨n, rfl, .inl ⟨h, _, by assumption⟩⟩
    · exact ⟨n, rfl, .inr ⟨by simpa using h, _, by assumption⟩⟩
    · cases h
  · cases h
theorem ss_augD (ho : SE κ xw to mo) (hi : SE κ xw ti mi) (hm : SE κ xw te m) : SS κ xw (sDAug to ti te rAdd) (mAugIx false mo mi m) := fun ρ μ H σ E D s e p =>
  ho.bindS s e p fun w μ1 ρ1 H1 vw l1 s1 e1 rw1 p1 => hi.bindS s1 e1 p1 fun iw μ2 ρ2 H2 vi l2 s2 e2 ri p2 => by
    unfold kAugX2 augV at p2
    rw [if_neg Bool.false_ne_true] at p2
    split at p2
    · rename_i x hx
      split at hx
      · rename_i kvs k hk hkd
        split at hx
        · rename_i x' hv
          cases hx
          obtain ⟨a, ys, rfl, ha, q⟩ := ditems_ok hk s2 (rw1.mono l2)
          have hv' := valG_ok (k := k) q
          rw [hv] at hv'
          obtain ⟨v, hv1, hv2⟩ := hv'
          cases hv2
          refine ⟨a, _, rfl, .inl ⟨ys, k, ha, keyD_ok hkd ri, hv1.symm⟩, ?_⟩
          refine hm.bindS s2 e2 p2 fun y μ3 ρ3 H3 vy l3 s3 e3 ry p3 => ?_
          unfold kAugX3 at p3
          split at p3
          · rename_i z
            cases ry
            split at p3
            · rename_i hK
              obtain ⟨n, rfl, hh⟩ := augK_l hK
              rcases hh with ⟨h, _⟩ | ⟨_, kvs3, h3⟩
              · cases h
              · refine ⟨_, _, rfl, rfl, ?_⟩
                have hput : putIx (.loc n) iw (.imm (.int (x + z))) μ3 = if kvs3.length < cap then some (μ3.set n (.dct (putG kvs3 k (.imm (.int (x + z)))))) else none := by
                  unfold putIx
                  simp only [h3, hkd]
                rw [hput] at p3
                by_cases hc : kvs3.length < cap
                · rw [if_pos hc] at p3
                  obtain ⟨a', f, hl, ea⟩ := (rw1.mono l2).mono l3
                  cases ea
                  have hl' := s3.live hl h3 rfl
                  obtain ⟨⟨ys3, ha3, qs⟩, _⟩ := s3.ob _ _ _ _ hl h3
                  exact ⟨_, .inl ⟨ys3, k, ha3, keyD_ok hkd (ri.mono l3), by rw [qs.length]; exact cap_lt hc, rfl⟩, p3 ρ3 _ σ (Le.put hl') (s3.put hl' rfl ⟨_, upd_same, (putG_ok (show RW κ ρ3 H3 (.int _) (.imm (.int _)) from rfl) qs).mono (Le.put hl')⟩) (e3.mono (Le.put hl'))⟩
                · rw [if_neg hc] at p3
                  exact p3.elim
            · exact p3.elim
          · exact p3.elim
        · cases hx
      · cases hx
    · exact p2.elim
/-- xs[i], by values -/
def rGetL (K : PySem.W.Frag) : V → V → Hp → VK → Prop := fun x y H Q => ∃ (p : Addr) (xs : List V) (i : Int) (v : V), x = .ref p ∧ y = .int i ∧ SqL K H p xs ∧ atI xs i = some v ∧ 0 ≤ i ∧ Q v H
theorem get_list0 {X : Cx} : PGet X (rGetL X.K) := fun pins s σ H o i ov iv Q I ro ri h => by
  obtain ⟨p, xs, k, v, rfl, rfl, hq, he, h0, q⟩ := h
  cases ro
  obtain ⟨t, rfl⟩ := ri
  obtain ⟨its, r, pl, hz⟩ := I.list hq
  obtain ⟨j, a1, a2, a3, a4, a5⟩ := atI_get he
  obtain ⟨w, ew, rw1⟩ := r.get a2
  have hl := r.length
  have hn := line63
  have hj : k.toNat = j := by
    rw [seqIndex_of h0 a5] at a1
    exact Option.some.inj a1
  exact wpAny_getItem_list (x := w) pl.isList h0 (by omega) (by rw [hj]; simpa using ew) ⟨v, H, I, rw1, q⟩
theorem ss_augL (ho : SE κ xw to mo) (hi : SE κ xw ti mi) (hm : SE κ xw te m) : SS κ xw (tAugS to ti te (rGetL κ.K) (ipI fun i j => i + j) rSetL) (mAugIx true mo mi m) := fun ρ μ H σ E D s e p =>
  ho.bindS s e p fun w μ1 ρ1 H1 vw l1 s1 e1 rw1 p1 => hi.bindS s1 e1 p1 fun iw μ2 ρ2 H2 vi l2 s2 e2 ri p2 => by
    unfold kAugX2 augV at p2
    rw [if_pos rfl] at p2
    split at p2
    · rename_i x hx
      split at hx
      · rename_i ws iz hk
        split at hx
        · rename_i h0
          split at hx
          · rename_i x' hv
            cases hx
            obtain ⟨a, xs, rfl, ha, q⟩ := ritems_ok hk s2 (rw1.mono l2)
            obtain ⟨v, hv1, hv2⟩ := atW_ok q hv
            cases hv2
            refine ⟨a, xs, iz, _, rfl, ri, ha, hv1, h0, ?_⟩
            refine hm.bindS s2 e2 p2 fun y μ3 ρ3 H3 vy l3 s3 e3 ry p3 => ?_
            unfold kAugX3 at p3
            split at p3
            · rename_i z
              cases ry
              split at p3
              · rename_i hK
                obtain ⟨n, rfl, hh⟩ := augK_l hK
                rcases hh with ⟨_, ws3, h3⟩ | ⟨h, _⟩
                · refine ⟨_, _, rfl, rfl, ?_⟩
                  have hput : putIx (.loc n) (.imm (.int iz)) (.imm (.int (x + z))) μ3 = match ixN ws3.length iz with | some j => some (μ3.set n (.lst (ws3.set j (.imm (.int (x + z)))))) | none => none := by
                    unfold putIx
                    simp only [h3]
                    try rfl
                  rw [hput] at p3
                  cases hj : ixN ws3.length iz with
                  | none => rw [hj] at p3; exact p3.elim
                  | some j =>
                    rw [hj] at p3
                    obtain ⟨a', f, hl, ea⟩ := (rw1.mono l2).mono l3
                    cases ea
                    have hl' := s3.live hl h3 rfl
                    obtain ⟨⟨ys3, ha3, qs⟩, _⟩ := s3.ob _ _ _ _ hl h3
                    cases ri
                    exact ⟨a, ys3, iz, j, rfl, rfl, ha3, by rw [qs.length]; exact hj, p3 ρ3 _ σ (Le.put hl') (s3.put hl' rfl ⟨_, upd_same, (qs.set j (show RW κ ρ3 H3 (.int _) (.imm (.int _)) from rfl)).mono (Le.put hl')⟩) (e3.mono (Le.put hl'))⟩
                · cases h
              · exact p3.elim
            · exact p3.elim
          · cases hx
        · cases hx
      · cases hx
    · exact p2.elim
theorem g_augIx {lst : Bool} : mAugIx lst mo mi m E μ = (mo E μ).fl E (kAugX1 lst E mi m) := Eq.trans rfl rfl
theorem g_kAugX1 {lst : Bool} {w : W} : kAugX1 lst E mi m w μ = (mi E μ).fl E (kAugX2 lst E m w) := Eq.trans rfl rfl
theorem g_kAug4 : kAug4 E (some μ) = .nx E μ := Eq.trans rfl rfl
theorem kAugX2_of {lst : Bool} {w iw : W} {x : Int} (h : augV lst w iw μ = some x) : kAugX2 lst E m w iw μ = (m E μ).fl E (kAugX3 lst E w iw x) := by
  unfold kAugX2
  rw [h]
theorem kAugX3_of {lst : Bool} {w iw : W} {x z : Int} {μ' : Store} (h : augK lst w μ = true) (hp : putIx w iw (.imm (.int (x + z))) μ = some μ') : kAugX3 lst E w iw x (.imm (.int z)) μ = .nx E μ' := by
  unfold kAugX3
  simp only []
  rw [if_pos h, hp]
  rfl
theorem augV_dct {n : Nat} {iw : W} {kvs : List (Key × W)} {k : Key} {x : Int} (h : μ[n]? = some (.dct kvs)) (hk : keyD iw = some k) (hv : valG kvs k = some (.imm (.int x))) : augV false (.loc n) iw μ = some x := by
  unfold augV
  rw [if_neg Bool.false_ne_true]
  simp only [ditems, h, hk, hv]
theorem augV_lst {n : Nat} {ws : List W} {z x : Int} (h : μ[n]? = some (.lst ws)) (h0 : 0 ≤ z) (hv : atW ws z = some (.imm (.int x))) : augV true (.loc n) (.imm (.int z)) μ = some x := by
  unfold augV
  rw [if_pos rfl]
  simp only [ritems, litems, h, hv, if_pos h0]
theorem augK_dct {n : Nat} {kvs : List (Key × W)} (h : μ[n]? = some (.dct kvs)) : augK false (.loc n) μ = true := by
  unfold augK
  simp only [h]
  rfl
theorem augK_lst {n : Nat} {ws : List W} (h : μ[n]? = some (.lst ws)) : augK true (.loc n) μ = true := by
  unfold augK
  simp only [h]
end
section
variable {κ : Kap} {xw : XW} {X : Cx} {e f o : Expr} {te tb tc : TE} {m mb mc : Me} {pos tpos : Pos}
theorem bs_augD (c : Cc κ X) (ho : BE κ xw X o te m) (hi : BE κ xw X f tb mb) (he : BE κ xw X e tc mc)
    (ha : ∀ ov iv new, augStore f ov iv new = (do holding [new, ov, iv] (setItem ov iv new); release [new, ov, iv] []; pure .next) := by intros; rfl) :
    BS κ xw X (.AugAssign (.Subscript o f tpos) .Add e pos) (sDAug te tb tc rAdd) (mAugIx false m mb mc) := ⟨ps_daug (by have := c.hu; omega) ho.p hi.p he.p in_add ha, ss_augD ho.s hi.s he.s⟩
theorem bs_augL (c : Cc κ X) (ho : BE κ xw X o te m) (hi : BE κ xw X f tb mb) (he : BE κ xw X e tc mc)
    (ha : ∀ ov iv new, augStore f ov iv new = (do holding [new, ov, iv] (setItem ov iv new); release [new, ov, iv] []; pure .next) := by intros; rfl) :
    BS κ xw X (.AugAssign (.Subscript o f tpos) .Add e pos) (tAugS te tb tc (rGetL κ.K) (ipI fun i j => i + j) rSetL) (mAugIx true m mb mc) := ⟨by rw [← c.K]; exact ps_augS ho.p hi.p get_list0 he.p ip_add set_list ha, ss_augL ho.s hi.s he.s⟩
end
end Gx

/-! xs.pop(i) of a list -/
namespace Gx
open PySem PySem.Spec PyProof.Rows L2
section
variable {κ : Kap} {xw : XW} {ρ : Lo} {H : Hp} {σ : L2.St} {E : Env} {μ : Store} {te tb : TE} {m mb : Me}
theorem idx_ok {i : Int} {n : Nat} (h0 : 0 ≤ i) (h1 : i < n) : seqIndex? i n = some i.toNat := by
  unfold seqIndex?
  simp
  omega
def oPopAt : OpM := fun w ws μ => onL w μ fun n xs => match ws with
  | [.imm (.int i)] => if 0 ≤ i ∧ i < xs.length ∧ i < 2 ^ 63 then (match xs[i.toNat]? with
    | some y => .ok y (μ.set n (.lst (xs.take i.toNat ++ xs.drop (i.toNat + 1))))
    | none => .bad) else .bad
  | _ => .bad
theorem sm_popAt : SM κ rPopAt oPopAt := fun xw ρ μ H σ x w vs ws Q s r rs p => by
  obtain ⟨n, l, xs, us, rfl, hx, q, p, k⟩ := onL_ok s r p
  split at p
  · rename_i i _
    split at p
    · rename_i hc
      split at p
      · rename_i y hy
        obtain ⟨z, rfl, rz⟩ := rws1 rs
        cases rz
        obtain ⟨v, hv, rv⟩ := q.get hy
        have hd := (q.take i.toNat).app (q.drop (i.toNat + 1))
        obtain ⟨le, s2⟩ := k _ _ hd
        refine ⟨l, xs, i, i.toNat, v, rfl, rfl, hx, by omega, hc.2.2, idx_ok hc.1 (by rw [q.length]; exact hc.2.1), hv, ?_⟩
        rw [List.eraseIdx_eq_take_drop_succ]
        exact p ρ _ _ le s2 (rv.mono le)
      · exact p.elim
    · exact p.elim
  · exact p.elim
end
section
variable {μ : Store} {i : Nat}
theorem oPopAt_of {ws : List W} {z : Int} {w : W} (h : μ[i]? = some (.lst ws)) (h0 : 0 ≤ z) (h1 : z < ws.length) (h2 : z < 9000000000) (hw : ws[z.toNat]? = some w) : oPopAt (.loc i) [.imm (.int z)] μ = .ok w (μ.set i (.lst (ws.take z.toNat ++ ws.drop (z.toNat + 1)))) := by
  unfold oPopAt onL
  simp only [h]
  rw [if_pos ⟨h0, h1, by omega⟩, hw]
end
section
variable {κ : Kap} {xw : XW} {X : Cx} {e o : Expr} {es : List Expr} {te : TE} {ta : TA} {m : Me} {ma : Ma} {apos pos : Pos}
theorem be_popAt {cpos : Pos} (c : Cc κ X) (ho : BE κ xw X o te m) (ha : BA κ xw X (e :: es) ta ma)
    (hbase : attributeBase o "pop" X.env (eval o X.env) = eval o X.env := by rfl)
    (hfew : ((backTo cpos (starEach (e :: es) X.env)).all (fun x => !x.1) && (backToKw cpos (keywordEach [] X.env)).all (fun x => x.1.isSome)
      && decide ((e :: es).length + ([] : List Keyword).length + (if ([] : List Keyword).isEmpty then 0 else 1) < 30)) = true := by rfl)
    (hline : (apos.endLine == cpos.line) = true := by rfl) (hst : starEach (e :: es) X.env = (false, eval e X.env) :: starEach es X.env := by rfl) (hplain : (backTo cpos (starEach es X.env)).any (·.1) = false := by rfl) :
    BE κ xw X (.Call (.Attribute o "pop" apos) (e :: es) [] cpos) (tBM κ.K (tyN 4) rPopAt te ta) (mBM 4 oPopAt m ma) := be_bm c (by decide) PySem.F.plainAttrs_list PySem.F.slot_list_pop PySem.F.type_list_pop mt_popAt sm_popAt ho ha hbase hfew hline hst hplain
end
end Gx

/-! dict(ps) of a list of pairs whose keys are numbers -/
namespace Gx
open PySem PySem.Spec PyProof.Rows L2
def rDictP (K : PySem.W.Frag) : List V → Hp → VK → Prop := fun xs H Q => ∃ (a : Addr) (ps : List Addr) (kvs : List (Key × V)), xs = [.ref a] ∧ SqL K H a (ps.map V.ref) ∧ Paired (fun p kv => SqT K H p [kV kv.1, kv.2]) ps kvs ∧
    ∀ p, H p = none → Q (.ref p) (upd H p (.dK (mergeK [] kvs)))
section
variable {κ : Kap} {xw : XW} {ρ : Lo} {H : Hp} {σ : L2.St} {E : Env} {μ : Store}
def pairKW (w : W) : Option (Key × W) := match titems w with
  | some [.imm (.int k), x] => some (Sum.inl k, x)
  | _ => none
def pairsKW : List W → Option (List (Key × W))
  | [] => some []
  | w :: r => match pairKW w, pairsKW r with
    | some p, some q => some (p :: q)
    | _, _ => none
theorem pairsKW_ok : ∀ {ws : List W} {kvs : List (Key × W)} {xs : List V}, pairsKW ws = some kvs → RWs κ ρ H xs ws → ∃ (ps : List Addr) (zs : List (Key × V)), xs = ps.map V.ref ∧ Paired (fun p kv => SqT κ.K H p [kV kv.1, kv.2]) ps zs ∧ RWk κ ρ H zs kvs
  | [], _, _, h, q => by cases h; cases q; exact ⟨[], [], rfl, .nil, rfl⟩
  | w :: r, kvs, xs, h, q => by
    obtain ⟨x, xr, rfl, rx, rr⟩ := q
    unfold pairsKW at h
    split at h
    · rename_i p q' h1 h2
      cases h
      obtain ⟨ps, zs, rfl, h3, h4⟩ := pairsKW_ok h2 rr
      unfold pairKW at h1
      split at h1
      · rename_i k y ht
        cases h1
        obtain ⟨a, ys, rfl, hsq, hrw⟩ := titems_sq ht rx
        obtain ⟨v1, v2, rfl, r1, r2⟩ := rws2 hrw
        cases r1
        exact ⟨a :: ps, (Sum.inl k, v2) :: zs, rfl, .cons hsq h3, ⟨v2, zs, rfl, r2, h4⟩⟩
      · cases h1
    · cases h
def oDictP : OpA := fun ws μ => match ws with
  | [w] => match (ritems μ w).bind pairsKW with
    | some kvs => .ok (.loc μ.length) (μ ++ [.dct (mergeG [] kvs)])
    | none => .bad
  | _ => .bad
theorem sc_dictP : SC κ (rDictP κ.K) oDictP := fun xw ρ μ H σ vs ws Q s rs p => by
  unfold oDictP at p
  split at p
  · rename_i w
    obtain ⟨x, rfl, r1⟩ := rws1 rs
    split at p
    · rename_i kvs hk
      obtain ⟨ws, hw, hk⟩ := Option.bind_eq_some_iff.mp hk
      obtain ⟨a, xs, rfl, hsq, q⟩ := ritems_ok hw s r1
      obtain ⟨ps, zs, rfl, h3, h4⟩ := pairsKW_ok hk q
      exact ⟨a, ps, zs, rfl, hsq, h3, fun l hl => PoE.dct (xw := xw) (σ := σ) p s (mergeG_ok h4 (rfl : RWk κ ρ H [] [])) hl⟩
    · exact p.elim
  · exact p.elim
end
section
variable {κ : Kap} {xw : XW} {X : Cx} {e : Expr} {es : List Expr} {ta : TA} {ma : Ma} {pos p : Pos}
theorem be_dictP (c : Cc κ X) (hm : X.mg "dict" = none) (ha : BA κ xw X (e :: es) ta ma) (hg : Gl X "dict" := by rfl) (he : starEach (e :: es) X.env = (false, eval e X.env) :: starEach es X.env := by rfl) (hpl : (backTo pos (starEach es X.env)).any (·.1) = false := by rfl) :
    BE κ xw X (.Call (.Name "dict" p) (e :: es) [] pos) (tCB (rDictP κ.K) ta) (mCB oDictP ma) := be_ty (r := rDictP κ.K) (by have := call_dictP (X := X) c.calm; rw [c.K] at this; exact this) sc_dictP hm (by decide +kernel) ha hg (by decide) (by decide) he hpl
end
section
variable {μ : Store}
/-- new keys, one after another -/
theorem hasG_none {α β : Type} [DecidableEq α] {k : α} : ∀ {l : List (α × β)}, k ∉ l.map (·.1) → hasG l k = false
  | [], _ => rfl
  | p :: r, h => by
    unfold hasG
    rw [if_neg (fun e => h (by simp [e]))]
    exact hasG_none fun h2 => h (by simp [h2])
theorem mergeG_new : ∀ {more kvs : List (Key × W)}, ((kvs ++ more).map (·.1)).Nodup → mergeG kvs more = kvs ++ more
  | [], kvs, _ => by simp [mergeG]
  | p :: r, kvs, h => by
    have hp : p.1 ∉ kvs.map (·.1) := fun hm => by
      rw [List.map_append, List.nodup_append] at h
      exact h.2.2 _ hm p.1 (by simp) rfl
    have e : putG kvs p.1 p.2 = kvs ++ [p] := by
      unfold putG
      rw [hasG_none hp]
      rfl
    show mergeG (putG kvs p.1 p.2) r = _
    rw [e, mergeG_new (by simpa using h)]
    simp
theorem g_dictP {w : W} {ws : List W} {kvs : List (Key × W)} (h : ritems μ w = some ws) (hk : pairsKW ws = some kvs) (hn : (kvs.map (·.1)).Nodup) : oDictP [w] μ = .ok (.loc μ.length) (μ ++ [.dct kvs]) := by
  unfold oDictP
  simp only [h, Option.bind_some, hk]
  rw [mergeG_new (by simpa using hn)]
  rfl
end
/-- the scope of the comprehension that a def's i-th statement assigns, as it is set up within the def -/
def lcSc (s : Stmt) (i : Nat) : Scope := match (defBody s)[i]? with
  | some (.Assign _ (.ListComp _ _ sc _) _) => { sc with names := sc.names.map fun (n, k) => if (k == .free && (defScope s).kind == .function && (defScope s).names.lookup n == some .cell) then (n, .cell) else (n, k) }
  | _ => defScope s
end Gx

namespace Gx
open PySem PySem.Spec PyProof.Rows L2
/-! ### <= of facts -/
def oLeX : Op2 := fun w1 w2 μ => match w1, w2 with
  | .imm d, .imm e => if (factB d && factB e) = true then .ok (.imm (.bl (leD d e))) μ else oLe (.imm d) (.imm e) μ
  | w1, w2 => oLe w1 w2 μ
def rLeD (K : PySem.W.Frag) : R2 := fun x y H Q => ∃ d e, (Dp K H x d ∧ d.depth ≤ 60) ∧ (Dp K H y e ∧ e.depth ≤ 60) ∧ PySem.W.alike d e = true ∧ d ≠ .none ∧ Q (.bl (!PySem.W.dataLt e d)) H
def rLeX (K : PySem.W.Frag) : R2 := fun x y H Q => rI0 (fun i j => .bl (decide (i ≤ j))) x y H Q ∨ rLeD K x y H Q
theorem op_leD {X : Cx} (hu : X.A.units + 64 < cLine) : OpR X (compareOp .LtE) (rLeD X.K) := by
  intro pins s σ H x y v u Q I rx ry h
  obtain ⟨d, e, hd, he, ha, hn, q⟩ := h
  obtain ⟨as, r1⟩ := Dp.reads I d x v hd.1 rx
  obtain ⟨bs, r2⟩ := Dp.reads I e y u he.1 ry
  refine PySem.W.le_data r1 r2 ha hn ?_ ⟨.bl _, H, I, rfl, q⟩
  have := hd.2
  have h3 : min d.depth e.depth ≤ d.depth := Nat.min_le_left _ _
  omega
theorem op_leX {X : Cx} (hu : X.A.units + 64 < cLine) : OpR X (compareOp .LtE) (rLeX X.K) := fun pins s σ H x y v u Q I rx ry h => h.elim (op_le pins s σ H x y v u Q I rx ry) (op_leD hu pins s σ H x y v u Q I rx ry)
section
variable {κ : Kap} {xw : XW} {ρ : Lo} {H : Hp} {σ : L2.St} {E : Env} {μ : Store}
theorem sr_leX : SR2 κ (rLeX κ.K) oLeX := fun xw ρ μ H σ x y w1 w2 Q s r1 r2 p => by
  unfold oLeX at p
  split at p
  · rename_i d e
    split at p
    · rename_i hf
      rw [Bool.and_eq_true] at hf
      obtain ⟨i, s', is, e1, e2⟩ := factB_enc hf.1
      obtain ⟨j, t', js, f1, f2⟩ := factB_enc hf.2
      have p1 := pyD_ok _ _ _ _ r1 e2
      have p2 := pyD_ok _ _ _ _ r2 f2
      right
      refine ⟨_, _, ⟨p1.dp, Nat.le_trans p1.le (by decide)⟩, ⟨p2.dp, Nat.le_trans p2.le (by decide)⟩, ?_, (by intro h; cases h), ?_⟩
      · have := fact_alike hf.1 hf.2
        unfold encD at this
        rw [e2, f2] at this
        exact this
      · have e3 : leD d e = !PySem.W.dataLt (.tuple (.int j :: .str t' :: js.map PyData.int)) (.tuple (.int i :: .str s' :: is.map PyData.int)) := by
          have a1 : encD d = .tuple (.int i :: .str s' :: is.map PyData.int) := by unfold encD; rw [e2]; rfl
          have a2 : encD e = .tuple (.int j :: .str t' :: js.map PyData.int) := by unfold encD; rw [f2]; rfl
          show (!PySem.W.dataLt (encD e) (encD d)) = _
          rw [a1, a2]
        rw [← e3]
        exact p ρ H _ Le.refl s rfl
    · exact .inl (sr_le xw ρ μ H σ x y _ _ Q s r1 r2 p)
  · exact .inl (sr_le xw ρ μ H σ x y _ _ Q s r1 r2 p)
end
theorem c_leX {κ : Kap} {X : Cx} (c : Cc κ X) : CR2 κ X .LtE (rLeX κ.K) oLeX := ⟨by rw [← c.K]; exact op_leX c.hu, sr_leX, by decide, by decide⟩
theorem leX_fact {d e : D} {μ : Store} (h : factB d = true) (h2 : factB e = true) : oLeX (.imm d) (.imm e) μ = .ok (.imm (.bl (leD d e))) μ := by
  show (if (factB d && factB e) = true then Rs.ok (W.imm (D.bl (leD d e))) μ else oLe (.imm d) (.imm e) μ) = _
  rw [h, h2, Bool.and_self, if_pos rfl]
theorem leX_int {i j : Int} {μ : Store} : oLeX (.imm (.int i)) (.imm (.int j)) μ = .ok (.imm (.bl (decide (i ≤ j)))) μ := rfl
end Gx

namespace Gx
open PySem PySem.Spec PyProof.Rows L2
/-! ### != of dicts that are alike -/
def dEqB (μ : Store) (ks ls : List (Key × W)) : Bool := decide (ks.length = ls.length) && ks.all fun p => match valG ls p.1 with
  | some u => (match pyW fuelD μ p.2, pyW fuelD μ u with
    | some d, some e => PyData.eqv d e
    | _, _ => false)
  | none => false
def oNeX : Op2 := fun w1 w2 μ => match ditems μ w1, ditems μ w2 with
  | some ks, some ls => if dEqB μ ks ls = true then .ok (.imm (.bl false)) μ else .bad
  | _, _ => oNe w1 w2 μ
def rNeDk (K : PySem.W.Frag) : R2 := fun x y H Q => ∃ a b ks ls, x = .ref a ∧ y = .ref b ∧ Rd H a (.dK ks) ∧ Rd H b (.dK ls) ∧ ks.length = ls.length ∧ (∀ p ∈ ks, ∃ u d e, valV ls p.1 = some u ∧ IsPy K H fuelD p.2 d ∧ IsPy K H fuelD u e ∧ PyData.eqv d e = true) ∧ Q (.bl false) H
def rNeX (K : PySem.W.Frag) : R2 := fun x y H Q => rNeP K x y H Q ∨ rNeDk K x y H Q
theorem hits_py {X : Cx} {pins : List (Addr × Obj)} {σ : L2.St} {H : Hp} {s : Shared} (I : Inv X pins σ H s) {A : Around} (hu : A.units + 10 < cLine) {ls : List (Key × V)} {vb : List (Key × Value)} (rb : KV ls vb) {ks : List (Key × V)} {va : List (Key × Value)} (ra : KV ks va) :
    (∀ p ∈ ks, ∃ u d e, valV ls p.1 = some u ∧ IsPy X.K H fuelD p.2 d ∧ IsPy X.K H fuelD u e ∧ PyData.eqv d e = true) → PySem.W.KeqHits A s vb va true := by
  unfold KV at ra
  induction ra with
  | nil => intro _; exact .nil
  | @cons p q ps qs h t k =>
    intro hp
    obtain ⟨h1, h2⟩ := h
    obtain ⟨u, d, e, e1, hd, he, ee⟩ := hp p List.mem_cons_self
    have rr : RelO (some u) (valueAt vb p.1) := by rw [← e1]; exact rb.val p.1
    obtain ⟨y, hy, ry⟩ := rr.some_of
    obtain ⟨key, v⟩ := q
    have h1' : p.1 = key := h1
    rw [h1'] at hy
    obtain ⟨as, r1⟩ := Dp.reads I d p.2 v hd.dp h2
    obtain ⟨bs, r2⟩ := Dp.reads I e u y he.dp ry
    have eq : SeqAt.EqAt A s v y (PyData.eqv d e) := SeqAt.eqAt_plain d e A s v y as bs r1 r2 hd.pl he.pl (by
      have := hd.le
      have h2 : fuelD = 9 := rfl
      have h3 : min d.depth e.depth ≤ d.depth := Nat.min_le_left _ _
      omega)
    rw [ee] at eq
    show PySem.W.KeqHits A s vb ((key, v) :: qs) (true && true)
    exact .hit hy eq (k fun p' hm => hp p' (List.mem_cons_of_mem _ hm))
theorem op_neDk {X : Cx} (hu : X.A.units + 64 < cLine) : OpR X (compareOp .NotEq) (rNeDk X.K) := by
  intro pins s σ H x y v u Q I rx ry h
  obtain ⟨a, b, ks, ls, rfl, rfl, ea, eb, hlen, hp, q⟩ := h
  obtain rfl : v = Value.ref a := rx
  obtain rfl : u = Value.ref b := ry
  obtain ⟨_, ya, va, ra, da⟩ := dk_rd I.hok ea
  obtain ⟨_, yb, vb, rb, db⟩ := dk_rd I.hok eb
  have hl : va.length = vb.length := by rw [← ra.length, ← rb.length]; exact hlen
  exact PySem.W.keq_ne (knd := mixKind X.prog X.w) (r := true) ya yb da db (by omega) (fun _ => hits_py I (A := X.A.in1) (by show X.A.units + 1 + 10 < cLine; omega) rb ra hp) (fin_bl I q (by simp [hl]))
theorem op_neX {X : Cx} (hu : X.A.units + 64 < cLine) : OpR X (compareOp .NotEq) (rNeX X.K) := fun pins s σ H x y v u Q I rx ry h => h.elim (op_neP hu pins s σ H x y v u Q I rx ry) (op_neDk hu pins s σ H x y v u Q I rx ry)
section
variable {κ : Kap} {xw : XW} {ρ ρ1 ρ2 ρ' : Lo} {H H1 H2 H' : Hp} {σ : L2.St} {E : Env} {μ μ1 μ2 μ' : Store} {D : Ends} {t : TS} {b : Ms}
theorem RWk.mem : ∀ {kvs : List (Key × W)} {ys : List (Key × V)}, RWk κ ρ H ys kvs → ∀ p ∈ ys, ∃ w, (p.1, w) ∈ kvs ∧ RW κ ρ H p.2 w
  | [], _, q, p, hp => by cases q; cases hp
  | (k, w) :: r, _, ⟨x, xr, e, h, q⟩, p, hp => by
    subst e
    rcases List.mem_cons.mp hp with rfl | hp
    · exact ⟨w, List.mem_cons_self, h⟩
    · obtain ⟨w', h1, h2⟩ := RWk.mem q p hp
      exact ⟨w', List.mem_cons_of_mem _ h1, h2⟩
theorem sr_neX : SR2 κ (rNeX κ.K) oNeX := fun xw ρ μ H σ x y w1 w2 Q s r1 r2 p => by
  unfold oNeX at p
  split at p
  · rename_i ks ls h1 h2
    split at p
    · rename_i hq
      obtain ⟨a, xs, rfl, ha, qa⟩ := ditems_ok h1 s r1
      obtain ⟨b, ys, rfl, hb, qb⟩ := ditems_ok h2 s r2
      unfold dEqB at hq
      rw [Bool.and_eq_true, decide_eq_true_eq, List.all_eq_true] at hq
      refine .inr ⟨a, b, xs, ys, rfl, rfl, ha, hb, by rw [qa.length, qb.length]; exact hq.1, fun z hz => ?_, p ρ H _ Le.refl s rfl⟩
      obtain ⟨w, hw, rw_⟩ := qa.mem z hz
      have h3 := hq.2 _ hw
      simp only [] at h3
      have h4 := valG_ok (k := z.1) qb
      split at h3
      · rename_i u hu
        rw [hu] at h4
        obtain ⟨v, hv, rv⟩ := h4
        split at h3
        · rename_i d e hd he
          exact ⟨v, d, e, hv, pyW_ok s _ _ _ _ rw_ hd, pyW_ok s _ _ _ _ rv he, h3⟩
        · cases h3
      · cases h3
    · exact p.elim
  · exact .inl (sr_ne xw ρ μ H σ x y _ _ Q s r1 r2 p)
/-! ### for k in d, where d is changed later on -/
mutual
theorem RD.hide {Hx Hy : Hp} {d : Addr} {ys : List (Key × V)} (hb : ∀ b o, b ≠ d → Hx b = some o → Hy b = some o) (hd : Hx d = some (.dK ys)) (hx : ∀ ks, ¬ RDk κ Hx ys ks) : ∀ (e : Gx.D) (v : V), RD κ Hx v e → RD κ Hy v e
  | .non, _, q => q
  | .bl _, _, q => q
  | .int _, _, q => q
  | .str _, _, q => q
  | .tup ds, v, ⟨a, xs, e, r, q⟩ => ⟨a, xs, e, by
      have ne : a ≠ d := by rintro rfl; rcases r with r | ⟨o, r⟩ <;> rw [hd] at r <;> cases r
      rcases r with r | ⟨o, r⟩
      · exact .inl (hb _ _ ne r)
      · exact .inr ⟨o, hb _ _ ne r⟩, RDs.hide hb hd hx ds xs q⟩
  | .lst ds, v, ⟨a, xs, e, r, q⟩ => ⟨a, xs, e, hb _ _ (by rintro rfl; rw [hd] at r; cases r) r, RDs.hide hb hd hx ds xs q⟩
  | .dct ds, v, ⟨a, xs, e, r, q⟩ => ⟨a, xs, e, by
      have ne : a ≠ d := by
        rintro rfl
        rcases r with r | ⟨o, r⟩ <;> rw [hd] at r <;> cases r
        exact hx ds q
      rcases r with r | ⟨o, r⟩
      · exact .inl (hb _ _ ne r)
      · exact .inr ⟨o, hb _ _ ne r⟩, RDk.hide hb hd hx ds xs q⟩
  | .obj c ds, v, ⟨a, dx, xs, e, r, l, q⟩ => ⟨a, dx, xs, e, hb _ _ (by rintro rfl; rw [hd] at r; cases r) r, l, RDs.hide hb hd hx ds xs q⟩
  | .scr ns, v, ⟨a, e, r⟩ => ⟨a, e, by
    rcases r with (r | ⟨ob, r⟩) | r
    · exact .inl (.inl (hb _ _ (by rintro rfl; rw [hd] at r; cases r) r))
    · exact .inl (.inr ⟨ob, hb _ _ (by rintro rfl; rw [hd] at r; cases r) r⟩)
    · exact .inr r⟩
  | .ty _, _, q => q
theorem RDs.hide {Hx Hy : Hp} {d : Addr} {ys : List (Key × V)} (hb : ∀ b o, b ≠ d → Hx b = some o → Hy b = some o) (hd : Hx d = some (.dK ys)) (hx : ∀ ks, ¬ RDk κ Hx ys ks) : ∀ (ds : List Gx.D) (xs : List V), RDs κ Hx xs ds → RDs κ Hy xs ds
  | [], _, q => q
  | e :: ds, xs, ⟨x, r, e1, p, q⟩ => ⟨x, r, e1, RD.hide hb hd hx e x p, RDs.hide hb hd hx ds r q⟩
theorem RDk.hide {Hx Hy : Hp} {d : Addr} {ys : List (Key × V)} (hb : ∀ b o, b ≠ d → Hx b = some o → Hy b = some o) (hd : Hx d = some (.dK ys)) (hx : ∀ ks, ¬ RDk κ Hx ys ks) : ∀ (ds : List (Key × Gx.D)) (xs : List (Key × V)), RDk κ Hx xs ds → RDk κ Hy xs ds
  | [], _, q => q
  | (k, e) :: ds, xs, ⟨x, r, e1, p, q⟩ => ⟨x, r, e1, ⟨RD.hide hb hd hx e x p.1, p.2⟩, RDk.hide hb hd hx ds r q⟩
end
/-- a place that may change stands among the values -/
def liveW (μ : Store) : W → Bool
  | .loc n => match μ[n]? with
    | some mo => !mo.fz
    | none => false
  | _ => false
theorem not_rdk : ∀ {kvs : List (Key × W)} {ys : List (Key × V)}, SR κ ρ μ H → RWk κ ρ H ys kvs → (kvs.any fun p => liveW μ p.2) = true → ∀ ks, ¬ RDk κ (hid ρ H) ys ks
  | [], _, _, _, h, _ => by simp at h
  | (k, w) :: r, _, s, ⟨x, xr, e, p, q⟩, h, ks => by
    subst e
    intro z
    cases ks with
    | nil => cases z
    | cons c cs =>
      obtain ⟨k2, d2⟩ := c
      obtain ⟨x2, r2, e2, ⟨z1, z3⟩, z2⟩ := z
      cases e2
      rw [List.any_cons, Bool.or_eq_true] at h
      rcases h with h | h
      · unfold liveW at h
        simp only [] at h
        split at h
        · rename_i m
          split at h
          · rename_i mo hm
            obtain ⟨a, f, hl, rfl⟩ := p
            obtain ⟨_, hf⟩ := s.ob m a f mo hl hm
            have hn : hid ρ H a = none := by
              unfold hid
              rw [if_pos]
              rw [hf, show mo.fz = false by simpa using h] at hl
              exact List.mem_of_getElem? hl
            cases d2 with
            | non => cases z1
            | bl _ => cases z1
            | int _ => cases z1
            | str _ => cases z1
            | tup _ => obtain ⟨a', xs, e3, z4, _⟩ := z1; cases e3; rcases z4 with z4 | ⟨o, z4⟩ <;> rw [hn] at z4 <;> cases z4
            | lst _ => obtain ⟨a', xs, e3, z4, _⟩ := z1; cases e3; rw [hn] at z4; cases z4
            | dct _ => obtain ⟨a', xs, e3, z4, _⟩ := z1; cases e3; rcases z4 with z4 | ⟨o, z4⟩ <;> rw [hn] at z4 <;> cases z4
            | obj _ _ => obtain ⟨a', dx, xs, e3, z4, _⟩ := z1; cases e3; rw [hn] at z4; cases z4
            | scr _ => cases z3
            | ty _ => cases z1
          · cases h
        · cases h
      · exact not_rdk s q h _ z2
section
variable {d : Addr} {n : Nat} {ys : List (Key × V)} {kvs : List (Key × W)}
theorem hid_thaw (hl : ρ[n]? = some (d, true)) {b : Addr} {o : HO} (hb : b ≠ d) (h : hid ρ H b = some o) : hid (ρ.set n (d, false)) H b = some o := by
  obtain ⟨h1, h2⟩ := hid_some h
  rw [hid_out]
  · exact h2
  · intro hm
    obtain ⟨j, hj, ej⟩ := List.getElem_of_mem hm
    by_cases hn : j = n
    · subst hn
      rw [List.getElem_set_self] at ej
      cases ej
      exact hb rfl
    · rw [List.getElem_set_ne (Ne.symm hn)] at ej
      exact h1 (ej ▸ List.getElem_mem _)
mutual
theorem RW.thaw (hl : ρ[n]? = some (d, true)) (hd : hid ρ H d = some (.dK ys)) (hx : ∀ ks, ¬ RDk κ (hid ρ H) ys ks) : ∀ (w : W) (v : V), RW κ ρ H v w → RW κ (ρ.set n (d, false)) H v w
  | .imm e, v, q => RD.hide (fun b o hb h => hid_thaw hl hb h) hd hx e v q
  | .loc m, v, ⟨a, f, e, e'⟩ => by
    have hn : n < ρ.length := (List.getElem?_eq_some_iff.mp hl).1
    by_cases hm : m = n
    · subst hm
      rw [hl] at e
      cases e
      exact ⟨d, false, List.getElem?_set_self hn, e'⟩
    · exact ⟨a, f, by rw [List.getElem?_set_ne (Ne.symm hm)]; exact e, e'⟩
  | .tup ws, v, ⟨a, xs, e, r, q⟩ => ⟨a, xs, e, by
      have ne : a ≠ d := by rintro rfl; rcases r with r | ⟨o, r⟩ <;> rw [hd] at r <;> cases r
      rcases r with r | ⟨o, r⟩
      · exact .inl (hid_thaw hl ne r)
      · exact .inr ⟨o, hid_thaw hl ne r⟩, RWs.thaw hl hd hx ws xs q⟩
theorem RWs.thaw (hl : ρ[n]? = some (d, true)) (hd : hid ρ H d = some (.dK ys)) (hx : ∀ ks, ¬ RDk κ (hid ρ H) ys ks) : ∀ (ws : List W) (xs : List V), RWs κ ρ H xs ws → RWs κ (ρ.set n (d, false)) H xs ws
  | [], _, q => q
  | w :: ws, xs, ⟨x, r, e, p, q⟩ => ⟨x, r, e, RW.thaw hl hd hx w x p, RWs.thaw hl hd hx ws r q⟩
end
theorem RWk.thaw (hl : ρ[n]? = some (d, true)) (hd : hid ρ H d = some (.dK ys)) (hx : ∀ ks, ¬ RDk κ (hid ρ H) ys ks) : ∀ (ws : List (Key × W)) (xs : List (Key × V)), RWk κ ρ H xs ws → RWk κ (ρ.set n (d, false)) H xs ws
  | [], _, q => q
  | (k, w) :: ws, xs, ⟨x, r, e, p, q⟩ => ⟨x, r, e, p.thaw hl hd hx, RWk.thaw hl hd hx ws r q⟩
theorem SR.thaw (s : SR κ ρ μ H) (hl : ρ[n]? = some (d, true)) (hm : μ[n]? = some (.fdct kvs)) (hd : H d = some (.dK ys)) (q : RWk κ ρ H ys kvs) (hv : (kvs.any fun p => liveW μ p.2) = true) (ho : (d, false) ∉ ρ) :
    SR κ (ρ.set n (d, false)) (μ.set n (.dct kvs)) H ∧ ∀ σ E, RE κ ρ H σ E → RE κ (ρ.set n (d, false)) H σ E := by
  have hx := not_rdk s q hv
  have hd' : hid ρ H d = some (.dK ys) := by rw [hid_out ho]; exact hd
  have hn : n < ρ.length := (List.getElem?_eq_some_iff.mp hl).1
  refine ⟨⟨?_, by rw [List.length_set, List.length_set]; exact s.len, fun m a f mo e1 e2 => ?_⟩, fun σ E e => ⟨e.len, fun i w hi => let ⟨v, h1, h2⟩ := e.at_ i w hi; ⟨v, h1, h2.thaw hl hd' hx⟩⟩⟩
  · rw [List.map_set]
    have : (ρ.map (·.1)).set n d = ρ.map (·.1) := by
      refine List.ext_getElem? fun j => ?_
      by_cases hj : j = n
      · subst hj
        rw [List.getElem?_set_self (by rw [List.length_map]; exact hn), List.getElem?_map, hl]
        rfl
      · rw [List.getElem?_set_ne (Ne.symm hj)]
    rw [this]
    exact s.nd
  · by_cases hmn : m = n
    · subst hmn
      rw [List.getElem?_set_self hn] at e1
      cases e1
      rw [List.getElem?_set_self (by rw [← s.len]; exact hn)] at e2
      cases e2
      exact ⟨⟨ys, hd, RWk.thaw hl hd' hx _ _ q⟩, rfl⟩
    · rw [List.getElem?_set_ne (Ne.symm hmn)] at e1 e2
      obtain ⟨r, hf⟩ := s.ob m a f mo e1 e2
      refine ⟨?_, hf⟩
      cases mo with
      | lst ws => obtain ⟨xs, h1, h2⟩ := r; exact ⟨xs, h1, h2.thaw hl hd' hx⟩
      | dct ws => obtain ⟨xs, h1, h2⟩ := r; exact ⟨xs, h1, RWk.thaw hl hd' hx _ _ h2⟩
      | fdct ws => obtain ⟨xs, h1, h2⟩ := r; exact ⟨xs, h1, RWk.thaw hl hd' hx _ _ h2⟩
      | ins c ws => obtain ⟨dx, xs, h1, h0, h2⟩ := r; exact ⟨dx, xs, h1, h0, h2.thaw hl hd' hx⟩
end
def unfz (n : Nat) : Fl → Fl
  | .nx E μ => match μ[n]? with
    | some (.fdct kvs) => if (kvs.any fun p => liveW μ p.2) = true then .nx E (μ.set n (.dct kvs)) else .bad
    | _ => .bad
  | _ => .bad
def mForW (i : Nat) (tg : Mg) (body : Ms) : Ms := fun E μ => match E[i]? with
  | some (some (.loc n)) => match μ[n]? with
    | some (.dct kvs) => if kvs.isEmpty = true then .nx E μ else unfz n (forL [] tg body (kvs.map fun p => kW p.1) E (μ.set n (.fdct kvs)))
    | _ => mForV i tg body E μ
  | _ => mForV i tg body E μ
theorem PoS.thaw {fl : Fl} {d : Addr} {od : Obj} {n : Nat} {ys : List (Key × V)} (hl : ρ1[n]? = some (d, true)) (hd : hid ρ1 H1 d = some (.frz od (.dK ys))) (hL : ∀ ρ' H', Le ρ1 H1 ρ' H' → Le ρ H (ρ'.set n (d, false)) (upd H' d (.dK ys))) (p : PoS κ xw ρ H (unfz n fl) D) : PoS κ xw ρ1 H1 fl (lockD D d od (.dK ys)) := by
  cases fl with
  | nx E' μ' =>
    unfold unfz at p
    simp only [] at p
    split at p
    · rename_i kvs hm
      split at p
      · rename_i hv
        intro ρ' H' σ' l s e
        obtain ⟨g1, g2⟩ := hid_some (l.ex _ _ hd)
        obtain ⟨f', h1, h2⟩ := l.pre n d true hl
        have hf' : f' = true := h2 rfl
        subst hf'
        have s2 : SR κ ρ' μ' (upd H' d (.dK ys)) := s.sim (sim_unlock g2) (fun n a e => upd_ne (by
          rintro rfl
          exact g1 (List.mem_of_getElem? e)))
        have e2 := e.sim (LeS.sim (ρ := ρ') (sim_unlock g2))
        obtain ⟨⟨ys2, hr, q2⟩, _⟩ := s2.ob n d _ _ h1 hm
        have hu : upd H' d (.dK ys) d = some (.dK ys) := upd_same
        have hys : ys2 = ys := by
          rcases hr with hr | ⟨o, hr⟩
          · rw [hu] at hr; cases hr; rfl
          · rw [hu] at hr; cases hr
        subst hys
        obtain ⟨s3, e3⟩ := s2.thaw h1 hm hu q2 hv g1
        exact ⟨g2, p _ _ σ' (hL ρ' H' l) s3 (e3 _ _ e2)⟩
      · exact p.elim
    · exact p.elim
  | _ => exact p.elim
theorem ss_forW {i : Nat} {g : TG} {tg : Mg} {ts : List Nat} (hg : SG κ g tg ts) (hb : SS κ xw t b) : SS κ xw (tForV κ.K i g t) (mForW i tg b) := fun ρ μ H σ E D s e p => by
  unfold mForW at p
  split at p
  · rename_i k hE
    split at p
    · rename_i kvs hm
      obtain ⟨v, hv, d, f, hl, rfl⟩ := e.at_ i _ hE
      have hl' := s.live hl hm rfl
      obtain ⟨⟨ys, hd, q⟩, _⟩ := s.ob _ d _ _ hl hm
      right
      left
      refine ⟨d, .dK ys, hd, trivial, fun od => ?_⟩
      refine ⟨.ref d, hv, d, od, rfl, .inl ⟨ys, upd_same, ?_⟩⟩
      split at p
      · rename_i hk
        have hk0 : kvs = [] := List.isEmpty_iff.mp hk
        subst hk0
        cases q
        refine ⟨fun i m σ' H' => i = 0 ∧ σ' = σ ∧ H' = upd H d (.frz od (.dK [])), ⟨0, rfl, rfl, rfl⟩, ?_⟩
        rintro i m σ' H' ⟨rfl, rfl, rfl⟩
        have hback : upd (upd H d (.frz od (.dK []))) d (.dK []) = H := by
          funext b
          by_cases hb : b = d
          · subst hb; rw [upd_same, hd]
          · rw [upd_ne hb, upd_ne hb]
        exact .inl ⟨⟨upd_same, Nat.zero_le _⟩, upd_same, by rw [hback]; exact p ρ H _ Le.refl s e⟩
      · obtain ⟨le, s1⟩ := SR.freeze (o := .frz od (.dK ys)) s hl' hm hd q (.inr ⟨od, upd_same⟩)
        have hk : k < ρ.length := (List.getElem?_eq_some_iff.mp hl).1
        have hv1 : hid (ρ.set k (d, true)) (upd H d (.frz od (.dK ys))) d = some (.frz od (.dK ys)) := by
          rw [hid_out, upd_same]
          intro hmem
          obtain ⟨j, hj, ej⟩ := List.getElem_of_mem hmem
          have e1 : (ρ.set k (d, true))[j]? = some (d, false) := by rw [List.getElem?_eq_getElem hj, ej]
          by_cases hn : j = k
          · subst hn
            rw [List.getElem?_set_self hk] at e1
            cases e1
          · rw [List.getElem?_set_ne (Ne.symm hn)] at e1
            exact hn (nd_flag s.nd e1 hl')
        refine for_core (D := lockD D d od (.dK ys)) hg hb s1 (e.mono le) (jok_keys hv1 (RWk.mono le _ _ q)) rfl (PoS.thaw (n := k) (List.getElem?_set_self hk) hv1 (fun ρ' H' l => ⟨fun n a f e0 => ?_, fun b u eb => ?_⟩) p)
        · obtain ⟨f', h1, h2⟩ := (le.trans l).pre n a f e0
          by_cases hn : n = k
          · subst hn
            rw [hl'] at e0
            cases e0
            exact ⟨false, List.getElem?_set_self (List.getElem?_eq_some_iff.mp h1).1, fun z => z⟩
          · exact ⟨f', by rw [List.getElem?_set_ne (Ne.symm hn)]; exact h1, h2⟩
        · have hbd : b ≠ d := by
            rintro rfl
            exact (hid_some eb).1 (List.mem_of_getElem? hl')
          have h3 := (le.trans l).ex b u eb
          obtain ⟨f', h1, h2⟩ := l.pre k d true (List.getElem?_set_self hk)
          have hf' : f' = true := h2 rfl
          subst hf'
          have h4 := hid_thaw h1 hbd h3
          obtain ⟨j1, j2⟩ := hid_some h4
          rw [hid_out j1, upd_ne hbd]
          exact j2
    · exact ss_forV hg hb ρ μ H σ E D s e p
  · exact ss_forV hg hb ρ μ H σ E D s e p
end
theorem c_neX {κ : Kap} {X : Cx} (c : Cc κ X) : CR2 κ X .NotEq (rNeX κ.K) oNeX := ⟨by rw [← c.K]; exact op_neX c.hu, sr_neX, by decide, by decide⟩
section
variable {κ : Kap} {xw : XW} {X : Cx} {tg : Expr} {g : TG} {mg : Mg} {ts : List Nat} {sts : List Stmt} {t : TS} {a : Ms} {pos : Pos}
theorem bs_forW (i : Nat) {x : Str} {npos : Pos} (c : Cc κ X) (hg : BG κ X tg g mg ts) (hb : BSs κ xw X sts t a) (hN : X.N[i]? = some x := by rfl) (hv : Vis X.env.scope x := by first | exact Or.inl rfl | exact Or.inr (Or.inl rfl) | exact Or.inr (Or.inr rfl)) (hd : (x == ("__debug__" : Str)) = false := by decide)
    (hcd : (x == ("__classdict__" : Str)) = false := by decide) (hs : ∀ y, foldedSetIterable (.Name x npos) X.env y = pure y := by intro _; rfl) : BS κ xw X (.For tg (.Name x npos) sts [] pos) (tForV κ.K i g t) (mForW i mg a) := ⟨by rw [← c.K]; exact ps_forV c.ps c.calm (pe_var hN hv hd hcd) hg.p hb.p hs, ss_forW hg.s hb.s⟩
end
section
variable {E : Env} {μ : Store} {tg : Mg} {a : Ms} {i j : Nat} {kvs ls : List (Key × W)} {w w2 : W}
theorem kFW_nil (hE : E[i]? = some (some (.loc j))) (hm : μ[j]? = some (.dct [])) : mForW i tg a E μ = .nx E μ := by
  unfold mForW
  rw [hE]
  simp only [hm]
  rfl
theorem kFW_dct (hE : E[i]? = some (some (.loc j))) (hm : μ[j]? = some (.dct kvs)) (hk : kvs ≠ []) : mForW i tg a E μ = unfz j (forL [] tg a (kvs.map fun p => kW p.1) E (μ.set j (.fdct kvs))) := by
  unfold mForW
  rw [hE]
  simp only [hm]
  rw [if_neg (by simpa using hk)]
theorem kFW_imm {d : D} (hE : E[i]? = some (some (.imm d))) : mForW i tg a E μ = mForV i tg a E μ := by
  unfold mForW
  rw [hE]
theorem unfz_nx (hm : μ[j]? = some (.fdct kvs)) (hv : (kvs.any fun p => liveW μ p.2) = true) : unfz j (.nx E μ) = .nx E (μ.set j (.dct kvs)) := by
  unfold unfz
  simp only [hm]
  rw [if_pos hv]
theorem neX_dict (h1 : ditems μ w = some kvs) (h2 : ditems μ w2 = some ls) (h : dEqB μ kvs ls = true) : oNeX w w2 μ = .ok (.imm (.bl false)) μ := by
  unfold oNeX
  rw [h1, h2]
  simp only []
  rw [if_pos h]
theorem neX_oNe (h1 : ditems μ w = none) : oNeX w w2 μ = oNe w w2 μ := by
  unfold oNeX
  rw [h1]
def kFW (i : Nat) (tg : Mg) (body : Ms) (E : Env) (μ : Store) (x : Option (Option W)) : Fl := match x with
  | some (some (.loc n)) => (match μ[n]? with
    | some (.dct kvs) => if kvs.isEmpty = true then .nx E μ else unfz n (forL [] tg body (kvs.map fun p => kW p.1) E (μ.set n (.fdct kvs)))
    | _ => mForV i tg body E μ)
  | _ => mForV i tg body E μ
theorem g_forW : mForW i tg a E μ = kFW i tg a E μ E[i]? := Eq.trans rfl rfl
theorem g_kFWi {d : D} : kFW i tg a E μ (some (some (.imm d))) = mForV i tg a E μ := Eq.trans rfl rfl
end
end Gx

namespace Gx
open PySem PySem.Spec PyProof.Rows L2
/-! ### a comprehension over the keys of a dict that stands as data -/
section
variable {κ : Kap} {xw : XW} {ρ ρ1 ρ2 ρ' : Lo} {H H1 H2 H' : Hp} {σ : L2.St} {E : Env} {μ μ1 μ2 μ' : Store} {te : TE} {tt : TT} {m : Me} {n : Mt}
theorem compL_noex {gd : Gd} {tg : Mg} {n : Mt} {m : Me} {E0 : Env} {k : Nat} : ∀ (ws : List W) (μ : Store) (c : Nat) (μ2 : Store), compL gd tg n m E0 k ws μ ≠ .ex c μ2 := by
  intro ws
  induction ws with
  | nil => intro μ c μ2 h; cases h
  | cons w ws ih =>
    intro μ c μ2 h
    unfold compL at h
    split at h
    · cases h
    · split at h
      · split at h
        · split at h
          · split at h
            · exact ih _ _ _ h
            · cases h
          · cases h
        · cases h
      · split at h
        · exact ih _ _ _ h
        · cases h
      · cases h
theorem lc_coreJ {J : It} {ws : List W} {gd : Gd} {g : TG} {tg : Mg} {ts vs : List Nat} {Q : V → Hp → Prop} (hg : SG κ g tg ts) (hv : ∀ i ∈ ts, i ∈ vs) (ht : ST κ xN tt n) (he : SE κ xN te m) (s1 : SR κ ρ1 μ1 H1) (e : RE κ ρ1 H1 σ E) (j1 : JOk κ ρ1 H1 J ws gd) (c1 : chk gd μ1 = true)
    (p : PoE κ xw ρ1 H1 σ ((compL gd tg n m (wipeW E vs) μ1.length ws (μ1 ++ [.lst []])).bind fun _ μ2 => .ok (.loc μ1.length) μ2) Q) :
    tLc (fun _ _ R => R J H1) g tt te vs σ H1 Q := by
  intro D hD
  have lD : Le ρ1 H1 (ρ1 ++ [(D, false)]) (upd H1 D (.lst [])) := Le.lay hD
  have sD : SR κ (ρ1 ++ [(D, false)]) (μ1 ++ [.lst []]) (upd H1 D (.lst [])) := s1.lay (mo := .lst []) hD ⟨[], upd_same, rfl⟩
  have pU : PoU κ (ρ1 ++ [(D, false)]) (upd H1 D (.lst [])) (compL gd tg n m (wipeW E vs) μ1.length ws (μ1 ++ [.lst []])) (fun H' => Q (.ref D) H') := by
    cases hc : compL gd tg n m (wipeW E vs) μ1.length ws (μ1 ++ [.lst []]) with
    | bad => rw [hc] at p; exact p
    | ex c μ2 => exact absurd hc (compL_noex _ _ _ _)
    | ok x μ2 =>
      rw [hc] at p
      intro ρ' H' l' s'
      refine p ρ' H' _ (lD.trans l') s' ?_
      obtain ⟨f', e', _⟩ := l'.pre μ1.length D false (loc_new s1)
      exact ⟨D, f', e', rfl⟩
  refine ⟨fun i k H' => k = ws.length - i ∧ i ≤ ws.length ∧ ∃ ρ' μ', Le (ρ1 ++ [(D, false)]) (upd H1 D (.lst [])) ρ' H' ∧ SR κ ρ' μ' H' ∧ chk gd μ' = true ∧ PoU κ ρ' H' (compL gd tg n m (wipeW E vs) μ1.length (ws.drop i) μ') (fun H' => Q (.ref D) H'),
    ⟨ws.length, by simp, Nat.zero_le _, _, _, Le.refl, sD, chk_app_store μ1 _ gd c1, pU⟩, ?_⟩
  rintro i k H2 ⟨rfl, hi', ρ2, μ2, l2, s2, c2, p2⟩
  by_cases hlt : i < ws.length
  · rw [drop_cons hlt] at p2
    unfold compL at p2
    obtain ⟨go, yld⟩ := j1.go i ρ2 μ2 H2 ws[i] (lD.trans l2) s2 c2 (List.getElem?_eq_getElem hlt)
    refine .inr ⟨go, fun H' => ∃ ρ' μ', Le (ρ1 ++ [(D, false)]) (upd H1 D (.lst [])) ρ' H' ∧ SR κ ρ' μ' H' ∧ chk gd μ' = true ∧ PoU κ ρ' H' (compL gd tg n m (wipeW E vs) μ1.length (ws.drop (i + 1)) μ') (fun H' => Q (.ref D) H'), fun H' h => ⟨ws.length - (i + 1), by omega, rfl, hlt, h⟩, fun x H' y => ?_⟩
    obtain ⟨l3, s3, r3⟩ := yld x H' y
    split at p2
    · exact p2.elim
    · rename_i E1 hE
      have e0 : RE κ ρ2 H' (L2.wipe σ vs) (wipeW E vs) := ((e.mono lD).mono (l2.trans l3)).wipe vs
      refine hg ρ2 H' _ _ x _ E1 _ e0 r3 hE fun σ2 e2 k2 => ⟨?_, ?_⟩
      · rw [k2 vs hv]
        refine List.ext_getElem? fun j => ?_
        rw [wipe_at, wipe_at, wipe_length]
        split <;> rfl
      · have p3 := PoU.shift l3 p2
        refine ht ρ2 μ2 H' σ2 E1 _ s3 e2 ?_
        cases hmt : n E1 μ2 with
        | bad => rw [hmt] at p3; exact p3
        | ex c μ3 => rw [hmt] at p3; exact p3.elim
        | ok bb μ3 =>
          rw [hmt] at p3
          intro ρ4 H4 b' l4 s4 eb
          subst eb
          cases b' with
          | false =>
            simp only [] at p3
            split at p3
            · rename_i hc
              rw [if_neg Bool.false_ne_true]
              exact ⟨ρ4, μ3, (l2.trans l3).trans l4, s4, hc, PoU.shift l4 p3⟩
            · exact p3.elim
          | true =>
            simp only [] at p3
            rw [if_pos rfl]
            refine he ρ4 μ3 H4 σ2 E1 _ s4 (e2.mono l4) ?_
            cases hme : m E1 μ3 with
            | bad => rw [hme] at p3; exact p3
            | ex c μ4 => rw [hme] at p3; exact p3.elim
            | ok y μ4 =>
              rw [hme] at p3
              simp only [] at p3
              intro ρ5 H5 v5 l5 s5 r5
              split at p3
              · rename_i acc hk
                split at p3
                · rename_i hc
                  obtain ⟨f', e', _⟩ := (((l2.trans l3).trans l4).trans l5).pre μ1.length D false (loc_new s1)
                  have hl := s5.live e' hk rfl
                  obtain ⟨⟨xs, hx, q⟩, _⟩ := s5.ob _ D _ _ e' hk
                  refine ⟨xs, hx, by rw [q.length]; exact cap_lt hc.1, ρ5, μ4.set μ1.length (.lst (acc ++ [y])), (((l2.trans l3).trans l4).trans l5).trans (Le.put hl), s5.put (mo := .lst (acc ++ [y])) hl rfl ⟨_, upd_same, RWs.mono (Le.put hl) _ _ (q.app (RWs.cons r5 RWs.nil))⟩, hc.2, PoU.shift ((l4.trans l5).trans (Le.put hl)) p3⟩
                · exact p3.elim
              · exact p3.elim
  · have hq : i = ws.length := by omega
    subst hq
    rw [List.drop_length] at p2
    exact .inl ⟨j1.stop _ ρ2 μ2 H2 (lD.trans l2) s2 c2 (Nat.le_refl _), p2 ρ2 H2 Le.refl s2⟩
def mLcK (i : Nat) (tg : Mg) (mt : Mt) (me : Me) (vs : List Nat) : Me := fun E μ => match E[i]? with
  | some (some (.imm (.dct kvs))) => (compL [] tg mt me (wipeW E vs) μ.length (kvs.map fun p => kW p.1) (μ ++ [.lst []])).bind fun _ μ2 => .ok (.loc μ.length) μ2
  | _ => .bad
def tLcK (i : Nat) (g : TG) (tt : TT) (te : TE) (vs : List Nat) : TE := fun σ H Q => tLc (iKeys (tVar i)) g tt te vs σ H Q ∨ tLockE (tLc (iKeys (tVar i)) g tt te vs) σ H Q
theorem se_lcK {i : Nat} {g : TG} {tg : Mg} {ts vs : List Nat} (hg : SG κ g tg ts) (hv : ∀ i ∈ ts, i ∈ vs) (ht : ST κ xN tt n) (he : SE κ xN te m) : SE κ xw (tLcK i g tt te vs) (mLcK i tg n m vs) := fun ρ μ H σ E Q s e p => by
  unfold mLcK at p
  split at p
  · rename_i kvs hE
    obtain ⟨v, hσ, d, ys, rfl, hd, q0⟩ := e.at_ i _ hE
    have q := q0.toW (κ := κ) (ρ := ρ)
    have hk : (kvs.map fun p => kW p.1) = (kvs.map fun p => (p.1, W.imm p.2)).map fun p => kW p.1 := by rw [List.map_map]; rfl
    rw [hk] at p
    rcases hd with hd | ⟨o, hd⟩
    · right
      obtain ⟨h1, h2⟩ := hid_some hd
      refine ⟨d, .dK ys, h2, trivial, fun od => ?_⟩
      refine ⟨.ref d, hσ, d, od, rfl, .inl ⟨ys, upd_same, ?_⟩⟩
      have hv1 : hid ρ (upd H d (.frz od (.dK ys))) d = some (.frz od (.dK ys)) := by rw [hid_out h1, upd_same]
      have ls : LeS ρ H ρ (upd H d (.frz od (.dK ys))) := LeS.sim (sim_lock h2)
      refine lc_coreJ (xw := xw) (Q := fun v H' => H' d = some (.frz od (.dK ys)) ∧ Q v (upd H' d (.dK ys))) hg hv ht he (s.sim (sim_lock h2) fun n a ea => upd_ne ?_) (e.sim ls) (jok_keys hv1 (q.sim ls)) rfl ?_
      · rintro rfl
        exact h1 (List.mem_of_getElem? ea)
      · cases hc : compL [] tg n m (wipeW E vs) μ.length ((kvs.map fun p => (p.1, W.imm p.2)).map fun p => kW p.1) (μ ++ [.lst []]) with
        | bad => rw [hc] at p; exact p
        | ex c μ2 => exact absurd hc (compL_noex _ _ _ _)
        | ok x μ2 =>
          rw [hc] at p
          intro ρ' H' v l' s' r'
          obtain ⟨g1, g2⟩ := hid_some (l'.ex _ _ hv1)
          have s2 : SR κ ρ' μ2 (upd H' d (.dK ys)) := s'.sim (sim_unlock g2) (fun n a e => upd_ne (by
            rintro rfl
            exact g1 (List.mem_of_getElem? e)))
          refine ⟨g2, p ρ' _ v ⟨l'.pre, fun b u eb => ?_⟩ s2 (r'.sim (LeS.sim (sim_unlock g2)))⟩
          by_cases hbd : b = d
          · subst hbd
            rw [hd] at eb
            cases eb
            rw [hid_out g1, upd_same]
          · obtain ⟨k1, k2⟩ := hid_some eb
            have := l'.ex b u (by rw [hid_out k1, upd_ne hbd]; exact k2)
            obtain ⟨j1, j2⟩ := hid_some this
            rw [hid_out j1, upd_ne hbd]
            exact j2
    · left
      exact ⟨.ref d, hσ, d, o, rfl, .inl ⟨ys, (hid_some hd).2, lc_coreJ hg hv ht he s e (jok_keys hd q) rfl p⟩⟩
  · exact p.elim
end
theorem PE.orK {X : Cx} {e : Expr} {t t' : TE} (h : PE X e t) (h' : PE X e t') : PE X e (fun σ H Q => t σ H Q ∨ t' σ H Q) := ⟨fun pins s σ H Q I q => q.elim (h.run pins s σ H Q I) (h'.run pins s σ H Q I)⟩
section
variable {κ : Kap} {xw : XW} {X : Cx} {g : TG} {mg : Mg} {ts : List Nat} {te : TE} {tt : TT} {m : Me} {n : Mt} {pos : Pos}
theorem be_lcK {elt tg : Expr} {ifs : List Expr} {scope : Scope} (i : Nat) {x : Str} {npos : Pos} (own : List (Str × Nat)) (N' : List Str) (sc' : Scope) (c : Cc κ X)
    (hg : ∀ (s : Shared) (H : Hp) (C : Addr) (cl : List (Str × Addr)) (fp : List Addr), Cc κ (X.blk s H scope (compEnvC scope cl C X.env) fp) → BG κ (X.blk s H scope (compEnvC scope cl C X.env) fp) tg g mg ts)
    (ht : ∀ (s : Shared) (H : Hp) (C : Addr) (cl : List (Str × Addr)) (fp : List Addr), Cc κ (X.blk s H scope (compEnvC scope cl C X.env) fp) → BTs κ xN (X.blk s H scope (compEnvC scope cl C X.env) fp) ifs tt n)
    (he : ∀ (s : Shared) (H : Hp) (C : Addr) (cl : List (Str × Addr)) (fp : List Addr), Cc κ (X.blk s H scope (compEnvC scope cl C X.env) fp) → BE κ xN (X.blk s H scope (compEnvC scope cl C X.env) fp) elt te m)
    (hN' : X.N = N' := by rfl) (hsc : X.env.scope = sc' := by rfl) (ok : blkC N' sc' scope own = true := by decide +kernel) (hv : ∀ i ∈ ts, i ∈ own.map (·.2) := by decide)
    (hN : X.N[i]? = some x := by rfl) (hvs : Vis X.env.scope x := by first | exact Or.inl rfl | exact Or.inr (Or.inl rfl) | exact Or.inr (Or.inr rfl)) (hd : (x == ("__debug__" : Str)) = false := by decide)
    (hcd : (x == ("__classdict__" : Str)) = false := by decide) (hs : ∀ y, foldedSetIterable (.Name x npos) X.env y = pure y := by intro _; rfl) :
    BE κ xw X (.ListComp elt [⟨tg, .Name x npos, ifs, 0⟩] scope pos) (tLcK i g tt te (own.map (·.2))) (mLcK i mg n m (own.map (·.2))) :=
  have h := pe_lc (pos := pos) c.calm c.nd (pi_keys (pe_var hN hvs hd hcd)) (blkOk_by (by rw [hN', hsc]; exact ok)) (fun s H C cl fp => (hg s H C cl fp (c.blk ..)).p) (fun s H C cl fp => (ht s H C cl fp (c.blk ..)).p) (fun s H C cl fp => (he s H C cl fp (c.blk ..)).p) hs
  ⟨PE.orK h (pe_lock h),
   se_lcK (hg X.s_0 (fun _ => none) 0 [] [] (c.blk ..)).s hv (ht X.s_0 (fun _ => none) 0 [] [] (c.blk ..)).s (he X.s_0 (fun _ => none) 0 [] [] (c.blk ..)).s⟩
end
theorem lcK_eq {E : Env} {μ : Store} {i : Nat} {tg : Mg} {mt : Mt} {me : Me} {vs : List Nat} {kvs : List (Key × D)} (hE : E[i]? = some (some (.imm (.dct kvs)))) : mLcK i tg mt me vs E μ = (compL [] tg mt me (wipeW E vs) μ.length (kvs.map fun p => kW p.1) (μ ++ [.lst []])).bind fun _ μ2 => .ok (.loc μ.length) μ2 := by
  unfold mLcK
  rw [hE]
end Gx

namespace Gx
open PySem PySem.Spec PyProof.Rows L2
/-! ### try: a body that raises nothing -/
def mTryT (m : Ms) : Ms := fun E μ => noEx (m E μ)
section
variable {κ : Kap} {Wx : WX} {xw xw' : XW} {X : Cx} {body : List Stmt} {h₀ : ExceptHandler} {hs : List ExceptHandler} {t : TS} {m : Ms} {pb : Pos}
theorem PoS.quiet {ρ : Lo} {H : Hp} {D : Ends} {fl : Fl} (p : PoS κ xw ρ H (Gx.noEx fl) D) : PoS κ xw' ρ H fl D := by
  cases fl with
  | ex c E μ => exact p.elim
  | _ => exact p
theorem ss_tryT (h : SS κ xw' t m) : SS κ xw t (mTryT m) := fun ρ μ H σ E D s e p => h ρ μ H σ E D s e (PoS.quiet p)
theorem Cc.nox (c : Cc κ X) : Cc κ X.nox := ⟨c.K, c.hu, c.calm, PassesOwn.never, c.nd⟩
theorem bs_tryT (c : Cc κ X) (hb : Cc κ X.nox → BSs κ xw' X.nox body t m) : BS κ xw X (.Try body (h₀ :: hs) [] [] pb) t (mTryT m) :=
  ⟨ps_try_thru0 (hb c.nox).p, ss_tryT (hb c.nox).s⟩
end
theorem g_tryT {a : Ms} {E : Env} {μ : Store} : mTryT a E μ = noEx (a E μ) := Eq.trans rfl rfl
end Gx

namespace Gx
open PySem PySem.Spec PyProof.Rows L2
/-! ### a, b, .. = a list of the store -/
def mAsgL (k : Nat) (ma : Me) (gs : Mgs) : Ms := fun E μ => (ma E μ).fl E fun w μ1 => match litems μ1 w with
  | some ws => if ws.length = k then (match gs ws E with
    | some E1 => .nx E1 μ1
    | none => .bad) else .bad
  | none => .bad
section
variable {κ : Kap} {xw : XW} {X : Cx} {te : TE} {m : Me} {e : Expr} {es : List Expr} {k : Nat} {gs : TGs} {mgs : Mgs} {ts : List Nat} {pos tpos : Pos}
theorem ss_asgL (ha : SE κ xw te m) (h : SGs κ gs mgs ts) : SS κ xw (tAsg te (gUnl κ.K k gs)) (mAsgL k m mgs) := fun ρ μ H σ E D s e p => ha.bindS s e p fun w μ1 ρ1 H1 v l s1 e1 r p1 => by
  split at p1
  · rename_i ws hw
    split at p1
    · rename_i hl
      split at p1
      · rename_i E1 hE
        obtain ⟨a, xs, rfl, hx, rs⟩ := litems_ok hw s1 r
        exact ⟨a, xs, rfl, .inl (.of hx), by rw [rs.length]; exact hl, h ρ1 H1 σ E xs ws E1 _ e1 rs hE fun σ' e' _ => p1 ρ1 H1 σ' Le.refl s1 e'⟩
      · exact p1.elim
    · exact p1.elim
  · exact p1.elim
theorem bs_asgL {q : Nat} (k : Nat) (c : Cc κ X) (he : BE κ xw X e te m) (h : BGs κ X es gs mgs ts) (hn : (assignEach es X.env).length = k := by rfl) (hst : (assignEach es X.env).findIdx? (·.1) = none := by rfl)
    (hs : swapsWithSole [.Tuple es q tpos] e pos.line X.env = pure false := by rfl) (hw : swappedStores [.Tuple es q tpos] e X.env = pure none := by rfl)
    (h1 : (assignEach [.Tuple es q tpos] X.env).map (·.2) = [assign (.Tuple es q tpos) X.env] := by rfl) :
    BS κ xw X (.Assign [.Tuple es q tpos] e pos) (tAsg te (gUnl κ.K k gs)) (mAsgL k m mgs) :=
  ⟨by rw [← c.K]; exact ps_asg he.p (pg_unl c.calm h.p hn hst) hs hw h1, ss_asgL he.s h.s⟩
end
def kAsgL (k : Nat) (gs : Mgs) (E : Env) : W → Store → Fl := fun w μ1 => match litems μ1 w with
  | some ws => if ws.length = k then (match gs ws E with
    | some E1 => .nx E1 μ1
    | none => .bad) else .bad
  | none => .bad
theorem g_asgL {k : Nat} {m : Me} {gs : Mgs} {E : Env} {μ : Store} : mAsgL k m gs E μ = (m E μ).fl E (kAsgL k gs E) := Eq.trans rfl rfl
theorem kAsgL_of {k : Nat} {gs : Mgs} {E E1 : Env} {w : W} {ws : List W} {μ : Store} (h : litems μ w = some ws) (hl : ws.length = k) (hg : gs ws E = some E1) : kAsgL k gs E w μ = .nx E1 μ := by
  unfold kAsgL
  simp only [h, hl, hg, if_true]
/-! ### a list times a small number -/
def oMulL : Op2 := fun w1 w2 μ => match w2 with
  | .imm (.int k) => match litems μ w1 with
    | some ws => if 0 ≤ k ∧ k ≤ 100 ∧ ws.length ≤ 100 then mkL true (List.replicate k.toNat ws).flatten μ else .bad
    | none => .bad
  | _ => .bad
section
variable {κ : Kap}
theorem RWs.rep {ρ : Lo} {H : Hp} {xs : List V} {ws : List W} (h : RWs κ ρ H xs ws) : ∀ k : Nat, RWs κ ρ H (List.replicate k xs).flatten (List.replicate k ws).flatten
  | 0 => RWs.nil
  | k + 1 => by
    rw [List.replicate_succ, List.replicate_succ, List.flatten_cons, List.flatten_cons]
    exact h.app (RWs.rep h k)
theorem sr_mulL : SR2 κ rRep oMulL := fun xw ρ μ H σ x y w1 w2 Q s r1 r2 p => by
  unfold oMulL at p
  split at p
  · rename_i k
    split at p
    · rename_i ws hw
      split at p
      · rename_i hc
        obtain ⟨l1, xs, rfl, h1, q1⟩ := litems_ok hw s r1
        refine ⟨l1, k, xs, rfl, r2, h1, by omega, by omega, ?_, fun q hq => PoE.lst p s (q1.rep k.toNat) hq⟩
        rw [q1.length]
        have : ws.length * k.toNat ≤ 100 * 100 := Nat.mul_le_mul hc.2.2 (by omega)
        exact cap_line (by unfold cap; omega)
      · exact p.elim
    · exact p.elim
  · exact p.elim
theorem be_mulL {xw : XW} {X : Cx} {e f : Expr} {te tb : TE} {m mb : Me} {pos : Pos} (ha : BE κ xw X e te m) (hb : BE κ xw X f tb mb) : BE κ xw X (.BinOp e .Mult f pos) (tOp rRep te tb) (mOp oMulL m mb) := be_op op_rep sr_mulL ha hb
end
theorem oMulL_of {w : W} {ds : List D} {k : Nat} {μ : Store} (h : SrcP w (ds.map W.imm) μ) (hk : k ≤ 100) (hl : ds.length ≤ 100) : oMulL w (.imm (.int (k : Int))) μ = .ok (.imm (.lst (List.replicate k ds).flatten)) μ := by
  unfold oMulL
  simp only [h.litems]
  rw [if_pos ⟨by omega, by omega, by rw [List.length_map]; exact hl⟩, Int.toNat_natCast]
  have : (List.replicate k (ds.map W.imm)).flatten = ((List.replicate k ds).flatten).map W.imm := by
    rw [List.map_flatten, List.map_replicate]
  rw [this]
  unfold mkL
  rw [immAll_imm]
end Gx

namespace Gx
open PySem PySem.Spec PyProof.Rows L2
/-! ### an exception that leaves a comprehension -/
theorem noteFrame_same {x : Value} {e1 e2 : PySem.Env} (h : e1.frame = e2.frame) : noteFrame x e1 = noteFrame x e2 := by
  unfold noteFrame PySem.frameOf
  simp only [h]
def postE (M : Model) (A : Around) (E : Value → Shared → Prop) (F : Option Addr) (use : Option (Value → Sem Unit)) (Q : Value → Shared → Prop) (acc : Value) (C : Addr) (r : Result) (s' : Shared) : Prop :=
  match r with
  | .ok f => compPost M A E use Q acc C (.ok f) s'
  | .error x => ∃ m, s'.heap.Ns C m ∧ ∀ h', Heap.SameBut C s'.heap h' → ∀ cenv : PySem.Env, cenv.locals = C → cenv.frame = F → wpAny M A (passOn "comprehension.variables-let-go" x cenv : Sem Value) (fun _ _ => False) E { s' with heap := h' }
section
variable {M : Model} {A : Around} {E : Value → Shared → Prop} {s : Shared} {env : PySem.Env}
theorem comp_freeE {e : Expr} {scope : Scope} {pos : Pos} {newAcc first : Sem Value} {g : Comprehension} {gs : List Comprehension} {cl : List (Str × Addr)} {use : Option (Value → Sem Unit)} {Q : Value → Shared → Prop}
    (hcl : clausesOf e = g :: gs) (hs : ∀ x, foldedSetIterable g.iter env x = pure x) (hclos : closureFor scope env = pure cl) (hkind : scope.kind = .function) (hnames : ∀ x ∈ scope.names, x.2 = .local → scope.names.lookup x.1 = some .local)
    (h : wpAny M A first (fun x s₁ => wpAny M A (pyIter x) (fun it s₂ => wpAny M A newAcc (fun acc s₃ => wpAny M A (newFunctionEnv scope env.globals cl [] env.qual none .none (some env)) (fun cenv s₄ =>
      cenv.frame = env.frame ∧ codeAny M A (.compStart e 0 it acc { cenv with scope := relabel scope env }) (postE M A E env.frame use Q acc cenv.locals) s₄) E s₃) E s₂) E s₁) E s) :
    wpAny M A (comprehension e scope env pos newAcc false first use) Q E s := by
  unfold comprehension
  rw [hclos, hcl]
  refine wpAny_bind (wpAny_mono h (fun x s1 h1 => wpAny_bind (wpAny_standAt (wpAny_bind (wpAny_of_eq (hs x) (wpAny_bind (wpAny_holding (wpAny_mono h1 (fun it s2 h2 => wpAny_standIf (wpAny_bind (wpAny_mono h2 (fun acc s3 h3 => wpAny_bind (wpAny_pure (wpAny_bind (wpAny_mono h3 (fun cenv s4 h4 => ?_) fun _ _ z => z)))) fun _ _ z => z))) fun _ _ z => z))))))) fun _ _ z => z)
  dsimp only
  obtain ⟨hfr, h4⟩ := h4
  have loc : ∀ x ∈ (scope.names.filter fun x => (x.2 == .local || x.2 == .cell) && x.1 != (".0" : Str)).reverse, x.2 = .local → Env.kindOf { cenv with scope := relabel scope env } x.1 = some .local := fun x hx hl => lookup_relabel_local (hnames x (List.mem_filter.mp (List.mem_reverse.mp hx)).1 hl)
  refine wpAny_holding (wpAny_bind (wpAny_attempt (wpAny_holding (wpAny_run (codeAny_mono h4 fun r s' hr => ?_)))))
  cases r with
  | ok f =>
    cases use with
    | none =>
      obtain ⟨m, hn, hr⟩ := hr
      exact wpAny_bind (wpAny_holding (wpAny_comp_letGo (cenv := { cenv with scope := relabel scope env }) hkind _ s' m loc hn fun h' m' _ hs' => wpAny_pure (hr h' hs')))
    | some u =>
      refine wpAny_bind (wpAny_rule (wpAny_bind (wpAny_holding (wpAny_mono hr (fun _ s2 hr' => ?_) fun _ _ z => z))))
      obtain ⟨m, hn, hr'⟩ := hr'
      refine wpAny_bind (wpAny_comp_letGo (cenv := { cenv with scope := relabel scope env }) hkind _ s2 m (fun x hx hl => ?_) hn fun h' m' _ hs' => wpAny_pure (hr' h' hs'))
      rcases List.mem_append.mp hx with h1 | h1
      · exact loc x (List.mem_of_mem_drop h1) hl
      · exact loc x (List.mem_of_mem_take h1) hl
  | error x =>
    have hr : ∃ m, s'.heap.Ns cenv.locals m ∧ ∀ h', Heap.SameBut cenv.locals s'.heap h' → ∀ c : PySem.Env, c.locals = cenv.locals → c.frame = env.frame → wpAny M A (passOn "comprehension.variables-let-go" x c : Sem Value) (fun _ _ => False) E { s' with heap := h' } := hr
    obtain ⟨m, hn, hr⟩ := hr
    exact wpAny_bind (wpAny_holding (wpAny_comp_letGo (cenv := { cenv with scope := relabel scope env }) hkind _ s' m loc hn fun h' m' _ hs' => wpAny_mono (hr h' hs' _ rfl hfr) (fun _ _ f => f.elim) fun _ _ z => z))
end
theorem frames_on {h h' base base' : Heap} : ∀ {l : List PySem.Env}, (∀ L o, base.get? L = none → h.get? L = some o → h'.get? L = some o ∧ base'.get? L = none) → h.FunFrames base l → h'.FunFrames base' l
  | [], _, _ => trivial
  | _ :: _, k, ⟨a, ⟨L, o, e1, e2, e3, e4⟩, r⟩ => ⟨a, ⟨L, o, e1, (k L o e2 e3).2, (k L o e2 e3).1, e4⟩, frames_on k r⟩
section
variable {X : Cx} {W : WX} {pins pB : List (Addr × Obj)} {σ3 σ' : L2.St} {H3 H' : Hp} {s3 s5 s' : Shared} {scope : Scope} {ce : PySem.Env} {fp : List Addr} {xe : Value → Shared → Prop} {E : XK} {u acc : Value} {use : Option (Value → Sem Unit)} {Qf : Value → Shared → Prop}
/-- a call's exception goes on through the block -/
theorem blk_pass (tk : Takes X W) (hs : X.stack = X.env :: X.outer) (hf : X.env.frame = some X.env.locals) (hW : ∀ cls d H, E cls d H → W cls d σ3 H) (I3 : Inv X pins σ3 H3 s3) (hL : ce.locals = s3.heap.objs.size) (hcf : ce.frame = X.env.frame)
    (f3 : ∀ b ∈ fp, FpOk X pins H3 b ∧ b < s3.heap.objs.size) (IB : Inv { X.blk s3 H3 scope ce fp with xe := xe } pB σ' H' s5) (c : L2.CX X.prog X.w X.stack H' s5 E u s') :
    notedBy (model X.prog X.w) X.A ce (fun e s'' => postE (model X.prog X.w) X.A X.xe X.env.frame use Qf acc s3.heap.objs.size (.error e) s'') u s' := by
  have x := XE.of_call (W := fun cls d _ H => E cls d H) IB (fun _ _ _ h => h) c
  obtain ⟨a, B, sI, pn', σ2, H2, cls, d, rfl, I2, nb, up, sky, na, os, ag, w⟩ := x
  obtain ⟨a2, B2, _, cls2, d2, ea, fl2, _⟩ := c
  have ea : a = a2 := by injection ea
  subst ea
  have fl : HandSPX.FlyingZ B X.stack a (Zc cls d) s'.heap := by
    obtain ⟨_, _, _, oe2, vs2, T2, oT2, ts2, he2, _, hd2, h12, _, _, hT2, hdT2, h32⟩ := fl2
    rcases sky with ⟨_, _, _, oe, vs, he, _, hd, h1⟩ | fl | ⟨_, _, _, oe, vs, T, oT, ts, he, _, hd, h1, _, _, hT, hdT, h3⟩
    · rw [he] at he2
      cases he2
      rw [hd] at hd2
      cases hd2
      rw [h1] at h12
      cases h12
    · exact fl
    · rw [he] at he2
      cases he2
      rw [hd] at hd2
      cases hd2
      rw [h1] at h12
      cases h12
      rw [hT] at hT2
      cases hT2
      rw [hdT] at hdT2
      cases hdT2
      rw [h3] at h32
      simp [rawInt] at h32
  have hfr : X.A.frames = some (X.env :: X.outer) := by rw [I3.ok.frames, hs]
  -- the block's own variables
  have nC : H2 s3.heap.objs.size = none := by
    have z : H2 ce.locals = none := I2.free
    rw [hL] at z
    exact z
  have fC := I3.fpOk (Nat.le_refl _) nC
  have hCs : s3.heap.objs.size ∉ frs X.stack := by
    rw [hs]
    intro hm
    unfold frs at hm
    rw [List.filterMap_cons, hf] at hm
    rcases List.mem_cons.mp hm with z | z
    · exact fC.2.1 z
    · exact fC.2.2.1 z
  obtain ⟨m, hm, _⟩ := I2.loc
  have hm : sI.heap.Ns ce.locals m := hm
  rw [hL] at hm
  have hm' := hm
  obtain ⟨oC, _, _, hC, _⟩ := hm'
  have hCB : B.get? s3.heap.objs.size = some oC := nb _ _ hC hCs
  rw [hs] at fl
  show wpAny (model X.prog X.w) X.A (noteFrame (.ref a) ce) _ _ s'
  rw [noteFrame_same hcf]
  refine HandSPX.looks_onZ Zc.steady hfr hf fl fun h1 hh up1 => ?_
  refine ⟨m, hm.at fun o e => hh.1 _ _ (nb _ _ e hCs), fun h' sb cenv hcl hcfr => ?_⟩
  obtain ⟨k1, k2, k3, oe, vs, T, oT, ts, he, hz, hd, h1', hnT, hTe, hT, hdT, h3⟩ := hh
  have aC : a ≠ s3.heap.objs.size := fun z => by rw [z, hCB] at k2; cases k2
  have TC : T ≠ s3.heap.objs.size := fun z => by rw [z, hCB] at hnT; cases hnT
  -- the ground without them
  obtain ⟨B', b1, b2⟩ := restrict B fun b => decide (b ≠ s3.heap.objs.size)
  obtain ⟨G, g1, g2⟩ := restrict sI.heap fun b => decide (b ≠ s3.heap.objs.size)
  have b1 : ∀ b, b ≠ s3.heap.objs.size → B'.get? b = B.get? b := fun b hb => b1 b (decide_eq_true hb)
  have b2 : B'.get? s3.heap.objs.size = none := b2 _ (decide_eq_false (fun h => h rfl))
  have g1 : ∀ b, b ≠ s3.heap.objs.size → G.get? b = sI.heap.get? b := fun b hb => g1 b (decide_eq_true hb)
  have g2 : G.get? s3.heap.objs.size = none := g2 _ (decide_eq_false (fun h => h rfl))
  have st' : B'.StaysIn h' := fun b o e => by
    by_cases hb : b = s3.heap.objs.size
    · rw [hb, b2] at e; cases e
    · rw [b1 b hb] at e
      exact (sb.2 b hb).trans (k1 b o e)
  have ff' : h'.FunFrames B' (X.env :: X.outer) := frames_on (fun L o e1 e2 => by
    have hb : L ≠ s3.heap.objs.size := fun z => by rw [z, hCB] at e1; cases e1
    exact ⟨(sb.2 L hb).trans e2, (b1 L hb).trans e1⟩) k3
  have tr' : HandSPX.TracedZ h' B' a (Zc cls d) (rawInt X.env.locals) := ⟨oe, vs, T, oT, ts, (sb.2 a aC).trans he, hz, hd, h1', (b1 T TC).trans hnT, hTe, (sb.2 T TC).trans hT, hdT, h3⟩
  have hh' : HandSPX.HeldZ B' (X.env :: X.outer) a (Zc cls d) X.env.locals h' := ⟨st', (b1 a aC).trans k2, ff', tr'⟩
  have Io : Inv X pins σ3 H2 sI := I3.call' (ch := fp) I2.os I2.base I2.hok I2.bare fun b hb => ⟨(f3 b hb).1.2.2.2.1, (f3 b hb).1.2.1, (f3 b hb).1.2.2.2.2.1, (f3 b hb).1.2.2.2.2.2⟩
  have IG : Inv X pins σ3 H2 { sI with heap := G } := Io.turned (t' := sI.toks) (fun b o hb e => (g1 b hb).trans e) nC fC.2.1 fC.2.2.2.1 fC.2.2.2.2.1 fC.2.2.2.2.2
  unfold PySem.passOn
  refine wpAny_bind (wpAny_field ((sb.2 a aC).trans he) hd h1' ?_)
  rw [if_neg (by simp)]
  rw [hcfr, hf]
  refine wpAny_bind (HandSPX.setFlight_onZ hh' fun h2 hh2 up2 => ?_)
  refine wpAny_throw ?_
  refine tk _ _ ⟨a, B', { sI with heap := G }, pins, σ3, H2, cls, d, rfl, IG, fun b o e hb => ?_, fun b o e hnf => ?_, .inr (.inr ?_), na, os, ag, hW _ _ _ w⟩
  · have hbC : b ≠ s3.heap.objs.size := fun z => by rw [z, g2] at e; cases e
    rw [g1 b hbC] at e
    exact (b1 b hbC).trans (nb b o e hb)
  · have hbC : b ≠ s3.heap.objs.size := fun z => by
      have e : G.get? b = some o := e
      rw [z, g2] at e; cases e
    have e : sI.heap.get? b = some o := (g1 b hbC).symm.trans e
    obtain ⟨sl1, q1⟩ := up b o e hnf
    obtain ⟨sl2, q2⟩ := up1 b _ q1 hnf
    obtain ⟨sl3, q3⟩ := up2 b _ ((sb.2 b hbC).trans q2) hnf
    exact ⟨sl3, q3⟩
  · rw [hs]
    exact hh2
end
/-- the block's context with a wish about exceptions -/
abbrev blkE (X : Cx) (s : Shared) (H : Hp) (scope : Scope) (ce : PySem.Env) (fp : List Addr) (xe : Value → Shared → Prop) : Cx := { X.blk s H scope ce fp with xe := xe }
theorem inv_xe {X : Cx} {pins : List (Addr × Obj)} {σ : L2.St} {H : Hp} {s : Shared} {xe : Value → Shared → Prop} (I : Inv X pins σ H s) : Inv { X with xe := xe } pins σ H s :=
  ⟨⟨I.ok.mod, I.ok.kind, I.ok.glob, I.ok.blt, I.ok.above, I.ok.inj, I.ok.has, I.ok.cab, I.ok.hd, I.ok.frames, I.ok.stk, I.ok.exf, I.ok.bs, I.ok.bsz, I.ok.noex, I.ok.exfs, I.ok.funs, I.ok.frf⟩, I.os, I.bare, I.base, I.loc, I.cell, I.free, I.freeC, I.pin, I.hok, I.len⟩
/-- what the parts of a comprehension are to be in -/
structure InBlk (X : Cx) (W' : XK) (scope : Scope) (s : Shared) (H : Hp) (ce : PySem.Env) (fp : List Addr) (xe : Value → Shared → Prop) : Prop where
  own : PassesOwn (model X.prog X.w) X.A ce xe
  pas : Passes (L2.CX X.prog X.w) (blkE X s H scope ce fp xe) W'
section
variable {X : Cx} {W : WX} {W' : XK}
theorem lc_coreE {pins : List (Addr × Obj)} {s : Shared} {σ : L2.St} {H : Hp} {Q : VK} {elt tg iter : Expr} {ifs : List Expr} {scope : Scope} {own : List (Str × Nat)} {pos pos' : Pos} {wi : TI} {g : TG} {tt : TT} {te : TE} {use : Option (Value → Sem Unit)} {Qf : Value → Shared → Prop}
    (hc : X.calm = true) (hN : X.N.Nodup) (I : Inv X pins σ H s) (tk : Takes X W) (hstk : X.stack = X.env :: X.outer) (hf : X.env.frame = some X.env.locals) (hW : ∀ cls d σ H, W' cls d H → W cls d σ H) (hi : PI X tg iter wi) (ok : BlkOk X.N X.env.scope scope own)
    (hg : ∀ s H C cl fp xe, InBlk X W' scope s H (compEnvC scope cl C X.env) fp xe → PG (blkE X s H scope (compEnvC scope cl C X.env) fp xe) tg g)
    (ht : ∀ s H C cl fp xe, InBlk X W' scope s H (compEnvC scope cl C X.env) fp xe → PTs (blkE X s H scope (compEnvC scope cl C X.env) fp xe) ifs tt)
    (he : ∀ s H C cl fp xe, InBlk X W' scope s H (compEnvC scope cl C X.env) fp xe → PE (blkE X s H scope (compEnvC scope cl C X.env) fp xe) elt te) (hs : ∀ x, foldedSetIterable iter X.env x = pure x)
    (h : tLc wi g tt te (own.map (·.2)) σ H Q)
    (hRR : ∀ D C s' m H', Inv X pins σ H' s' → Q (.ref D) H' → s'.heap.Ns C m → FpOk X pins H' C → compPost (model X.prog X.w) X.A X.xe use Qf (.ref D) C (.ok .next) s') :
    wpAny (model X.prog X.w) X.A (comprehension (.ListComp elt [⟨tg, iter, ifs, 0⟩] scope pos) scope X.env pos' (newList []) false (eval iter X.env) use) Qf X.xe s := by
  have hfree : ∀ y ∈ scope.names, y.2 = .free → ∃ c, X.env.cells.lookup y.1 = some c := fun y hy e => (ok.free y hy e).elim (fun k => I.ok.has _ (.inl k)) fun k => I.ok.has _ (.inr k)
  refine comp_freeE (use := use) rfl hs (closure_ok hfree) ok.kind (fun y hy e => by rw [ok.uniq y hy, e]) (thn (hi.run pins s σ H _ I h) fun _ s1 hx => thn hx fun itv s2 h2 => ?_)
  obtain ⟨it, fp, tn, J, H2, rfl, I2, T, st2, f2, q⟩ := h2
  refine wpAny_newObj_type (newEnv_comp ⟨rfl, ?_⟩) (by show 0 ≤ sizeLine; decide)
  obtain ⟨D, hD⟩ : ∃ D, D = s2.heap.objs.size := ⟨_, rfl⟩
  rw [← hD]
  obtain ⟨W0, ⟨m0, w0⟩, turn⟩ := q D (I2.hok.fresh (Nat.le_of_eq hD.symm))
  obtain ⟨s3, h3⟩ : ∃ s3 : Shared, s3 = { s2 with heap := s2.heap.push { cls := .type "list", data := .seq ([] : List Value).toArray } } := ⟨_, rfl⟩
  obtain ⟨H3, hH3⟩ : ∃ H3, H3 = upd H2 D (.lst []) := ⟨_, rfl⟩
  have h3h : s3.heap = s2.heap.push { cls := .type "list", data := .seq ([] : List Value).toArray } := by rw [h3]
  have I3 : Inv X pins σ H3 s3 := by
    rw [h3, hH3]
    exact I2.laid (t' := s2.toks) (fun b o e => Heap.get?_push_of_some _ e) (Nat.le_of_eq hD.symm) ⟨Nat.zero_le _, [], 0, .nil, by rw [hD]; exact Heap.get?_push_size _ rfl⟩
  have f3 : ∀ b ∈ fp, FpOk X pins H3 b ∧ b < s3.heap.objs.size := fun b hb => by
    obtain ⟨o, e, _⟩ := T.obj _ _ st2 b hb
    have hlt := Heap.lt_size e
    refine ⟨⟨?_, (f2 b hb).2⟩, by rw [h3h, Heap.size_push]; exact Nat.lt_succ_of_lt hlt⟩
    rw [hH3, upd_ne (by rw [hD]; exact Nat.ne_of_lt hlt)]
    exact (f2 b hb).1
  have st3 : tn 0 s3.heap := T.keep _ _ _ st2 fun b _ o e => by rw [h3h]; exact Heap.get?_push_of_some _ e
  obtain ⟨ce, hce⟩ : ∃ ce, ce = compEnvC scope (cellsFrom (s3.heap.objs.size + 1) scope.names (cloFrom X.env.cells scope.names [])) s3.heap.objs.size X.env := ⟨_, rfl⟩
  have cL : ce.locals = s3.heap.objs.size := by rw [hce]; rfl
  have cF : ce.frame = X.env.frame := by rw [hce]; rfl
  obtain ⟨R, hR⟩ : ∃ R, R = postE (model X.prog X.w) X.A X.xe X.env.frame use Qf (.ref D) s3.heap.objs.size := ⟨_, rfl⟩
  obtain ⟨xe, hxe⟩ : ∃ xe, xe = notedBy (model X.prog X.w) X.A ce (fun e s'' => R (.error e) s'') := ⟨_, rfl⟩
  have I4 := block_start I3 ok hN f3
  rw [← hce] at I4
  have I4 : Inv (blkE X s3 H3 scope ce fp xe) [] _ H3 _ := inv_xe I4
  have ib : InBlk X W' scope s3 H3 ce fp xe := ⟨by rw [hxe]; exact PassesOwn.looking, fun pB σ' H' s5 u s' IB c => by
    show xe u s'
    rw [hxe, hR]
    exact blk_pass tk hstk hf (fun cls d H h => hW cls d _ H h) I3 cL cF f3 IB c⟩
  have pg := hg s3 H3 s3.heap.objs.size (cellsFrom (s3.heap.objs.size + 1) scope.names (cloFrom X.env.cells scope.names [])) fp xe (hce ▸ ib)
  have pt := ht s3 H3 s3.heap.objs.size (cellsFrom (s3.heap.objs.size + 1) scope.names (cloFrom X.env.cells scope.names [])) fp xe (hce ▸ ib)
  have pe := he s3 H3 s3.heap.objs.size (cellsFrom (s3.heap.objs.size + 1) scope.names (cloFrom X.env.cells scope.names [])) fp xe (hce ▸ ib)
  rw [← hce] at pg pt pe
  obtain ⟨s4, hs4⟩ : ∃ s4 : Shared, s4 = { s3 with heap := pushCells (s3.heap.push { cls := .type "dict", data := .dict #[] }) scope.names } := ⟨_, rfl⟩
  have goal : codeAny (model X.prog X.w) X.A (.compStart (.ListComp elt [⟨tg, iter, ifs, 0⟩] scope pos) 0 (.ref it) (.ref D) ce) R s4 := by
    rw [← hs4] at I4
    have st4 : tn 0 s4.heap := T.keep _ _ _ st3 fun b _ o e => by rw [hs4]; exact pushCells_keeps _ _ _ _ (Heap.get?_push_of_some _ e)
    rw [← hH3] at w0
    have nfp : ∀ b ∈ fp, H3 b = none := fun b hb => (f3 b hb).1.1
    have stat : ∀ {σ' : L2.St} {H' : Hp} {s' : Shared}, Inv (blkE X s3 H3 scope ce fp xe) [] σ' H' s' → (∀ b ∈ fp, H' b = none) → ∀ b ∈ fp, FpOk (blkE X s3 H3 scope ce fp xe) [] H' b := fun {σ' H' s'} I' hn b hb =>
      ⟨hn b hb, (I'.ok.exf b hb).1, I'.ok.exfs b hb, .inl hb, fun x c e => (I'.ok.exf b hb).2 x c e, fun p hp => absurd (show p ∈ ([] : List (Addr × Obj)) ++ [] from hp) (by simp)⟩
    have loop : codeAny (model X.prog X.w) X.A (.compLoop (.ListComp elt [⟨tg, iter, ifs, 0⟩] scope pos) 0 (.ref it) (.ref D) ce) R s4 := by
      refine compLoop_any (fun n s' => ∃ i H', Inv (blkE X s3 H3 scope ce fp xe) [] (wipe σ (own.map (·.2))) H' s' ∧ tn i s'.heap ∧ (∀ b ∈ fp, H' b = none) ∧ W0 i n H') ?_ m0 ⟨0, H3, I4, st4, nfp, w0⟩
      rintro n s5 ⟨i, H5, I5, st5, n5, w5⟩
      rw [← hxe]
      rcases turn i n H5 w5 with ⟨stop, qq⟩ | ⟨go, Nx, hNx, step⟩
      · refine thnF (T.done (blkE X s3 H3 scope ce fp xe) rfl rfl rfl hc i [] s5 _ H5 (fun _ _ => False) I5 (stat I5 n5) st5 stop) fun r s6 ⟨hr, I6⟩ => ?_
        subst hr
        have I7 : Inv X pins σ H5 s6 := I3.call' (ch := fp) I6.os I6.base I6.hok I6.bare fun b hb => ⟨(f3 b hb).1.2.2.2.1, (f3 b hb).1.2.1, (f3 b hb).1.2.2.2.2.1, (f3 b hb).1.2.2.2.2.2⟩
        have nC : H5 ce.locals = none := I6.free
        obtain ⟨m, hn, _⟩ := I6.loc
        have hn : s6.heap.Ns ce.locals m := hn
        rw [cL] at hn nC
        rw [hR]
        exact hRR D s3.heap.objs.size s6 m H5 I7 qq hn (I3.fpOk (Nat.le_refl _) nC)
      · refine thnF (T.item (blkE X s3 H3 scope ce fp xe) rfl rfl rfl hc i [] s5 _ H5 (fun _ _ => False) I5 (stat I5 n5) st5 go) fun r s6 ⟨u, hr, h6⟩ => ?_
        subst hr
        refine thnF h6 fun _ s7 ⟨x, H7, I7, r7, y7, st7, n7⟩ => ?_
        have I7' := I7.pinned (stat I7 n7) (T.obj _ _ st7)
        refine thn (pg.run _ s7 _ H7 x u _ I7' r7 (step x H7 y7)) fun _ s8 ⟨σ8, H8, I8, hw8, q8⟩ => ?_
        refine thn (pt.run _ s8 σ8 H8 _ I8 q8) fun b s9 ⟨H9, I9, q9⟩ => ?_
        have fin : ∀ {s' : Shared} {H' : Hp}, Inv (blkE X s3 H3 scope ce fp xe) ([] ++ pinsAt fp s7.heap) σ8 H' s' → Nx H' → ∃ m, m < n ∧ ∃ i H', Inv (blkE X s3 H3 scope ce fp xe) [] (wipe σ (own.map (·.2))) H' s' ∧ tn i s'.heap ∧ (∀ b ∈ fp, H' b = none) ∧ W0 i m H' := fun {s' H'} I' nx => by
          obtain ⟨m', hm, w'⟩ := hNx H' nx
          have pin' : ∀ b ∈ fp, ∀ o, s7.heap.get? b = some o → s'.heap.get? b = some o ∧ H' b = none := fun b hb o e =>
            let z := I'.pin (b, o) (List.mem_append_right _ (List.mem_append_right _ (mem_pinsAt hb e)))
            ⟨z.1, z.2.1⟩
          refine ⟨m', hm, i + 1, H', (I'.unpinned (pins := [])).weak (by rw [← hw8, wipe_length]) (fun j v e => (wipe_some (hw8.symm ▸ e)).1), T.keep _ _ _ st7 fun b hb o e => (pin' b hb o e).1, fun b hb => ?_, w'⟩
          obtain ⟨o, e, _⟩ := T.obj _ _ st7 b hb
          exact (pin' b hb o e).2
        cases b with
        | false =>
          simp only [Bool.false_eq_true, if_false] at q9 ⊢
          exact fin I9 q9
        | true =>
          simp only [if_true] at q9 ⊢
          exact thn (pe.run _ s9 σ8 H9 _ I9 q9) fun z s10 ⟨yv, H10, I10, r10, acc, hD10, hz10, nx⟩ => app_ok (X := blkE X s3 H3 scope ce fp xe) I10 hD10 hz10 r10 fun s11 I11 => fin I11 nx
    refine codeAny_compStart_list loop ?_
    exact T.self X.A 0 _ _ _ st4 loop
  rw [hs4, hR, hce] at goal
  rw [h3] at goal
  exact goal
end
/-! ### the program of a comprehension whose element may raise -/
def compLX (gd : Gd) (tg : Mg) (me : Me) (E0 : Env) (k : Nat) : List W → Store → Rs Unit
  | [], μ => .ok () μ
  | w :: ws, μ => match tg w E0 with
    | none => .bad
    | some E1 => match me E1 μ with
      | .ok y μ3 => (match μ3[k]? with
        | some (.lst acc) => if acc.length < cap ∧ chk gd (μ3.set k (.lst (acc ++ [y]))) = true then compLX gd tg me E0 k ws (μ3.set k (.lst (acc ++ [y]))) else .bad
        | _ => .bad)
      | .ex c μ3 => .ex c μ3
      | .bad => .bad
def mLcX (mi : Mi) (tg : Mg) (me : Me) (vs : List Nat) : Me := fun E μ => (mi E μ).bind fun q μ1 => (compLX q.2 tg me (wipeW E vs) μ1.length q.1 (μ1 ++ [.lst []])).bind fun _ μ2 => .ok (.loc μ1.length) μ2
def PoUX (κ : Kap) (w : XK) (ρ : Lo) (H : Hp) (r : Rs Unit) (Q : Hp → Prop) : Prop := match r with
  | .ok _ μ' => ∀ ρ' H', Le ρ H ρ' H' → SR κ ρ' μ' H' → Q H'
  | .ex c μ' => ∀ ρ' H', Le ρ H ρ' H' → SR κ ρ' μ' H' → w (.ref (κ c)) none H'
  | .bad => False
section
variable {κ : Kap} {w : XK} {te : TE} {m : Me}
theorem PoUX.shift {ρ ρ1 : Lo} {H H1 : Hp} {r : Rs Unit} {Q : Hp → Prop} (l : Le ρ H ρ1 H1) (p : PoUX κ w ρ H r Q) : PoUX κ w ρ1 H1 r Q := by
  cases r with
  | ok _ μ' => exact fun ρ' H' l' s => p ρ' H' (l.trans l') s
  | ex c μ' => exact fun ρ' H' l' s => p ρ' H' (l.trans l') s
  | bad => exact p
theorem se_lcX {wi : TI} {mi : Mi} {g : TG} {tg : Mg} {ts vs : List Nat} (hi : SI κ (xwW κ fun cls d _ H => w cls d H) wi mi) (hg : SG κ g tg ts) (hv : ∀ i ∈ ts, i ∈ vs) (he : SE κ (xwW κ fun cls d _ H => w cls d H) te m) : SE κ (xwW κ fun cls d _ H => w cls d H) (tLc wi g tYes te vs) (mLcX mi tg m vs) := fun ρ μ H σ E Q s e p => by
  refine hi ρ μ H σ E _ s e ?_
  unfold mLcX at p
  cases hm : mi E μ with
  | bad => rw [hm] at p; exact p
  | ex c μ1 => rw [hm] at p; exact p
  | ok q μ1 =>
    obtain ⟨ws, gd⟩ := q
    rw [hm] at p
    simp only [Rs.bind] at p
    intro ρ1 H1 J l1 s1 j1 c1 D hD
    have lD : Le ρ1 H1 (ρ1 ++ [(D, false)]) (upd H1 D (.lst [])) := Le.lay hD
    have sD : SR κ (ρ1 ++ [(D, false)]) (μ1 ++ [.lst []]) (upd H1 D (.lst [])) := s1.lay (mo := .lst []) hD ⟨[], upd_same, rfl⟩
    have pU : PoUX κ w (ρ1 ++ [(D, false)]) (upd H1 D (.lst [])) (compLX gd tg m (wipeW E vs) μ1.length ws (μ1 ++ [.lst []])) (fun H' => Q (.ref D) H') := by
      cases hc : compLX gd tg m (wipeW E vs) μ1.length ws (μ1 ++ [.lst []]) with
      | bad => rw [hc] at p; exact p
      | ex c μ2 =>
        rw [hc] at p
        exact fun ρ' H' l' s' => p ρ' H' ((l1.trans lD).trans l') s'
      | ok x μ2 =>
        rw [hc] at p
        intro ρ' H' l' s'
        refine p ρ' H' _ ((l1.trans lD).trans l') s' ?_
        obtain ⟨f', e', _⟩ := l'.pre μ1.length D false (loc_new s1)
        exact ⟨D, f', e', rfl⟩
    refine ⟨fun i k H' => k = ws.length - i ∧ i ≤ ws.length ∧ ∃ ρ' μ', Le (ρ1 ++ [(D, false)]) (upd H1 D (.lst [])) ρ' H' ∧ SR κ ρ' μ' H' ∧ chk gd μ' = true ∧ PoUX κ w ρ' H' (compLX gd tg m (wipeW E vs) μ1.length (ws.drop i) μ') (fun H' => Q (.ref D) H'),
      ⟨ws.length, by simp, Nat.zero_le _, _, _, Le.refl, sD, chk_app_store μ1 _ gd c1, pU⟩, ?_⟩
    rintro i k H2 ⟨rfl, hi', ρ2, μ2, l2, s2, c2, p2⟩
    by_cases hlt : i < ws.length
    · rw [drop_cons hlt] at p2
      unfold compLX at p2
      obtain ⟨go, yld⟩ := j1.go i ρ2 μ2 H2 ws[i] (lD.trans l2) s2 c2 (List.getElem?_eq_getElem hlt)
      refine .inr ⟨go, fun H' => ∃ ρ' μ', Le (ρ1 ++ [(D, false)]) (upd H1 D (.lst [])) ρ' H' ∧ SR κ ρ' μ' H' ∧ chk gd μ' = true ∧ PoUX κ w ρ' H' (compLX gd tg m (wipeW E vs) μ1.length (ws.drop (i + 1)) μ') (fun H' => Q (.ref D) H'), fun H' h => ⟨ws.length - (i + 1), by omega, rfl, hlt, h⟩, fun x H' y => ?_⟩
      obtain ⟨l3, s3, r3⟩ := yld x H' y
      split at p2
      · exact p2.elim
      · rename_i E1 hE
        have e0 : RE κ ρ2 H' (L2.wipe σ vs) (wipeW E vs) := (((e.mono l1).mono lD).mono (l2.trans l3)).wipe vs
        refine hg ρ2 H' _ _ x _ E1 _ e0 r3 hE fun σ2 e2 k2 => ⟨?_, ?_⟩
        · rw [k2 vs hv]
          refine List.ext_getElem? fun j => ?_
          rw [wipe_at, wipe_at, wipe_length]
          split <;> rfl
        · have p3 := PoUX.shift l3 p2
          refine st_yes' (κ := κ) (xw := xN) ρ2 μ2 H' σ2 E1 _ s3 e2 ?_
          intro ρ4 H4 b' l4 s4 eb
          subst eb
          rw [if_pos rfl]
          have p3 := PoUX.shift l4 p3
          refine he ρ4 μ2 H4 σ2 E1 _ s4 (e2.mono l4) ?_
          cases hme : m E1 μ2 with
          | bad => rw [hme] at p3; exact p3
          | ex c μ4 => rw [hme] at p3; exact p3
          | ok y μ4 =>
            rw [hme] at p3
            simp only [] at p3
            intro ρ5 H5 v5 l5 s5 r5
            split at p3
            · rename_i acc hk
              split at p3
              · rename_i hc
                obtain ⟨f', e', _⟩ := (((l2.trans l3).trans l4).trans l5).pre μ1.length D false (loc_new s1)
                have hl := s5.live e' hk rfl
                obtain ⟨⟨xs, hx, q⟩, _⟩ := s5.ob _ D _ _ e' hk
                exact ⟨xs, hx, by rw [q.length]; exact cap_lt hc.1, ρ5, μ4.set μ1.length (.lst (acc ++ [y])), (((l2.trans l3).trans l4).trans l5).trans (Le.put hl), s5.put (mo := .lst (acc ++ [y])) hl rfl ⟨_, upd_same, RWs.mono (Le.put hl) _ _ (q.app (RWs.cons r5 RWs.nil))⟩, hc.2, PoUX.shift (l5.trans (Le.put hl)) p3⟩
              · exact p3.elim
            · exact p3.elim
    · have hii : i = ws.length := by omega
      subst hii
      rw [List.drop_length] at p2
      exact .inl ⟨j1.stop _ ρ2 μ2 H2 (lD.trans l2) s2 c2 (by simp), p2 ρ2 H2 Le.refl s2⟩
end
/-! ### name = [f(..) for .. in ..], f may raise -/
theorem ps_setLcE {X : Cx} {W : WX} {W' : XK} {i : Nat} {y : Str} {py : Pos} {elt tg iter : Expr} {scope : Scope} {own : List (Str × Nat)} {pos spos : Pos} {wi : TI} {g : TG} {te : TE} (hc : X.calm = true) (hN : X.N.Nodup) (hy : X.N[i]? = some y) (hyl : X.env.scope.names.lookup y = some .local)
    (hsw : swapsWith (.ListComp elt [⟨tg, iter, [], 0⟩] scope pos) (some (.Name y py)) spos.line X.env = pure true) (tk : Takes X W) (hstk : X.stack = X.env :: X.outer) (hf : X.env.frame = some X.env.locals) (hW : ∀ cls d σ H, W' cls d H → W cls d σ H) (hi : PI X tg iter wi) (ok : BlkOk X.N X.env.scope scope own)
    (hg : ∀ s H C cl fp xe, InBlk X W' scope s H (compEnvC scope cl C X.env) fp xe → PG (blkE X s H scope (compEnvC scope cl C X.env) fp xe) tg g)
    (he : ∀ s H C cl fp xe, InBlk X W' scope s H (compEnvC scope cl C X.env) fp xe → PE (blkE X s H scope (compEnvC scope cl C X.env) fp xe) elt te) (hs : ∀ x, foldedSetIterable iter X.env x = pure x) :
    PS X (.Assign [.Name y py] (.ListComp elt [⟨tg, iter, [], 0⟩] scope pos) spos) (tAsg (tLc wi g tYes te (own.map (·.2))) (gName i)) := by
  refine ⟨fun pins s σ H D I h => ?_⟩
  rw [exec_Assign_Name_used _ _ _ _ hsw]
  refine wpAny_bind (wpAny_standAt (wpAny_bind ?_))
  show wpAny _ X.A (do let _ ← comprehension (.ListComp elt [⟨tg, iter, [], 0⟩] scope pos) scope X.env (firstIterPos [⟨tg, iter, [], 0⟩] pos) (newList []) false (eval iter X.env) (some (assign (.Name y py) X.env))) _ _ s
  have h : tLc wi g tYes te (own.map (·.2)) σ H (fun x H1 => gName i x σ H1 D.nx) := h
  refine wpAny_bind (thn (lc_coreE (Qf := fun _ s' => SP X pins D .next s') hc hN I tk hstk hf hW hi ok hg (fun _ _ _ _ _ _ _ => pts_nil) he hs h fun L C s' m H' I' q hn f => ?_) fun _ s' hq => wpAny_pure (wpAny_pure hq))
  show wpAny _ _ (assign (.Name y py) X.env (.ref L)) _ _ _
  refine wpAny_assign_Name (store_ok2 (v := V.ref L) I' hN hy (.inl hyl) rfl (fun s2 I2 ⟨a, sb, ha⟩ => ?_) (.inr hyl))
  obtain ⟨f0, f1, f2, f3, f4, f5⟩ := f
  have haC : C ≠ a := ha.elim (fun z => z ▸ f1) fun z => fun e => f4 y a z e.symm
  exact ⟨m, hn.sameBut sb haC, fun h3 sb3 => ⟨_, H', I2.turned (t' := s2.toks) (fun b o hb e => (sb3.2 b hb).trans e) f0 f1 f3 f4 f5, q⟩⟩
section
variable {κ : Kap} {X : Cx} {E : XK} {tg iter : Expr} {ti : TI} {mi : Mi} {g : TG} {mg : Mg} {ts : List Nat} {ta : TA} {ma : Ma} {k : Nat} {gf : Addr} {fd : FuncData} {ps : List Str} {G : Fg} {x : Str} {e : Expr} {es : List Expr}
theorem bs_setLcX (i : Nat) {y : Str} {py p pos spos : Pos} {scope : Scope} (own : List (Str × Nat)) (N' : List Str) (sc' : Scope) (c : Cc κ X) (tk : Takes X (fun cls d _ H => E cls d H)) (hi : BI κ (xwW κ fun cls d _ H => E cls d H) X tg iter ti mi)
    (hg : ∀ s H C cl fp xe, Cc κ (blkE X s H scope (compEnvC scope cl C X.env) fp xe) → BG κ (blkE X s H scope (compEnvC scope cl C X.env) fp xe) tg g mg ts)
    (F : FnOk X.prog X.w κ.K X.mg X.base (L2.CX X.prog X.w) k gf fd ps (spX κ ps.length G)) (hr : Room k X.A) (hm : X.mg x = some (.ref gf)) (hkp : PySem.W.keepIn κ.K (.ref gf) = true) (hb : Binds κ.K fd ps [])
    (ha : ∀ s H C cl fp xe, Cc κ (blkE X s H scope (compEnvC scope cl C X.env) fp xe) → BA κ (xwW κ fun cls d _ H => E cls d H) (blkE X s H scope (compEnvC scope cl C X.env) fp xe) (e :: es) ta ma)
    (hst : X.stack = X.env :: X.outer := by rfl) (hfr : X.env.frame = some X.env.locals := by rfl)
    (hgl : ∀ s H C cl fp xe, Gl (blkE X s H scope (compEnvC scope cl C X.env) fp xe) x := by intros; rfl) (hdb : (x == ("__debug__" : Str)) = false := by decide)
    (hse : ∀ C cl, starEach (e :: es) (compEnvC scope cl C X.env) = (false, eval e (compEnvC scope cl C X.env)) :: starEach es (compEnvC scope cl C X.env) := by intros; rfl) (hpl : ∀ C cl, (backTo p (starEach es (compEnvC scope cl C X.env))).any (·.1) = false := by intros; rfl)
    (hy : X.N[i]? = some y := by rfl) (hyl : X.env.scope.names.lookup y = some .local := by rfl) (hk : X.env.scope.kind = .function := by rfl) (hl : (py.line == pos.line) = true := by rfl)
    (hna : (scope.names.any fun (n, k) => n == y && (k == .local || k == .cell)) = false := by decide +kernel)
    (hN' : X.N = N' := by rfl) (hsc : X.env.scope = sc' := by rfl) (ok : blkC N' sc' scope own = true := by decide +kernel) (hv : ∀ i ∈ ts, i ∈ own.map (·.2) := by decide)
    (hs : ∀ x, foldedSetIterable iter X.env x = pure x := by intro _; rfl) {pn : Pos} :
    BS κ (xwW κ fun cls d _ H => E cls d H) X (.Assign [.Name y py] (.ListComp (.Call (.Name x pn) (e :: es) [] p) [⟨tg, iter, [], 0⟩] scope pos) spos)
      (tAsg (tLc ti g tYes (tCallS (spX κ ps.length G) (WE fun cls d _ H => E cls d H) ta) (own.map (·.2))) (gName i)) (mAsg (mRetr (mLcX mi mg (mRetr (mCallX ps.length G ma)) (own.map (·.2)))) (mgN i)) := by
  have cb : ∀ {s H C cl fp xe}, PassesOwn (model X.prog X.w) X.A (compEnvC scope cl C X.env) xe → Cc κ (blkE X s H scope (compEnvC scope cl C X.env) fp xe) := fun h => ⟨c.K, c.hu, c.calm, h, c.nd⟩
  refine ⟨ps_setLcE (W' := E) c.calm c.nd hy hyl (sw_true hk hyl hl hna) tk hst hfr (fun _ _ _ _ h => h) hi.p (blkOk_by (by rw [hN', hsc]; exact ok)) (fun s H C cl fp xe ib => (hg s H C cl fp xe (cb ib.own)).p) (fun s H C cl fp xe ib => ?_) hs, ?_⟩
  · exact pe_callS (CX := L2.CX X.prog X.w) (X := blkE X s H scope (compEnvC scope cl C X.env) fp xe) (by rw [← c.K] at F; exact F) hr (hgl s H C cl fp xe) hm (by rw [← c.K] at hkp; exact hkp) (by rw [← c.K] at hb; exact hb) (fun σ pins H s e s' I h => ib.pas pins σ H s e s' I h) (ha s H C cl fp xe (cb ib.own)).p hdb (hse C cl) (hpl C cl)
  · exact ss_asg (se_retr (se_lcX hi.s (hg X.s_0 (fun _ => none) 0 [] [] (fun _ _ => False) (cb .never)).s hv (se_retr (se_callX (ha X.s_0 (fun _ => none) 0 [] [] (fun _ _ => False) (cb .never)).s)))) (sg_name i)
end
/-! ### a text times a number -/
theorem op_mulS {X : Cx} : OpR X (binaryOp .Mult) (fun x y H Q => ∃ (a : Str) (k : Int), x = .str a ∧ y = .int k ∧ a.length ≤ 16 ∧ 0 ≤ k ∧ k ≤ 1048576 ∧ Q (.str (Txt.mul a k)) H) := by
  intro pins s σ H x y v u Q I rx ry h
  obtain ⟨a, k, rfl, rfl, h1, h2, h3, q⟩ := h
  obtain ⟨t, rfl⟩ := rx
  obtain ⟨t', rfl⟩ := ry
  exact PySem.W.KXi.mul rfl h1 (by omega) (by omega) fun t' k' _ _ => ⟨.str _, H, I.tok _, ⟨_, rfl⟩, q⟩
def oMulS : Op2 := fun w1 w2 μ => match w1, w2 with
  | .imm (.str a), .imm (.int k) => if a.length ≤ 16 ∧ 0 ≤ k ∧ k ≤ 1048576 then .ok (.imm (.str (Txt.mul a k))) μ else .bad
  | _, _ => .bad
section
variable {κ : Kap}
theorem sr_mulS : SR2 κ (fun x y H Q => ∃ (a : Str) (k : Int), x = .str a ∧ y = .int k ∧ a.length ≤ 16 ∧ 0 ≤ k ∧ k ≤ 1048576 ∧ Q (.str (Txt.mul a k)) H) oMulS := fun xw ρ μ H σ x y w1 w2 Q s r1 r2 p => by
  unfold oMulS at p
  split at p
  · split at p
    · rename_i hc
      exact ⟨_, _, r1, r2, hc.1, hc.2.1, hc.2.2, p ρ H _ Le.refl s rfl⟩
    · exact p.elim
  · exact p.elim
theorem be_mulS {xw : XW} {X : Cx} {e f : Expr} {te tb : TE} {m mb : Me} {pos : Pos} (ha : BE κ xw X e te m) (hb : BE κ xw X f tb mb) : BE κ xw X (.BinOp e .Mult f pos) (tOp (fun x y H Q => ∃ (a : Str) (k : Int), x = .str a ∧ y = .int k ∧ a.length ≤ 16 ∧ 0 ≤ k ∧ k ≤ 1048576 ∧ Q (.str (Txt.mul a k)) H) te tb) (mOp oMulS m mb) := be_op op_mulS sr_mulS ha hb
end
end Gx

namespace Lw
open PySem PySem.Spec PyProof.Rows L2 Gx
/-! ### the text by places -/
def topS (i : Nat) : Stmt := PySem.Challenge.pw_longhold_k12_texts_that_write_no_fact.main.body.getD i (.Pass ⟨0, 0, 0, 0⟩)
abbrev s_law_digits : Stmt := topS 23
abbrev s_law_cell : Stmt := topS 22
abbrev s_law_factline : Stmt := topS 29
abbrev s_law_anyfact : Stmt := topS 27
abbrev s_law_spoilt : Stmt := topS 33
abbrev s_law_number : Stmt := topS 30
abbrev s_law_isfact : Stmt := topS 28
abbrev s_law_reader : Stmt := topS 31
abbrev s_number_of : Stmt := topS 19
abbrev s_is_number : Stmt := topS 16
abbrev s_fits : Stmt := topS 17
abbrev s_is_fact : Stmt := topS 18
abbrev s_fact_of : Stmt := topS 20
abbrev s_law_said : Stmt := topS 32
abbrev s_law_flags : Stmt := topS 26
abbrev s_law_whole : Stmt := topS 24
abbrev s_law_like : Stmt := topS 25
abbrev s_law : Stmt := topS 34
theorem sc_law_digits : FnScope ["_law_cell_here", "_law_sizes", "_law_out", "_law_rest", "_law_size", "_law_one", "_law_k", "_law_two"] ["_law_cell_here", "_law_sizes"] (defScope s_law_digits) := ⟨rfl, rfl, rfl, by decide +kernel, rfl, by decide +kernel, by decide +kernel⟩
theorem sc_law_cell : FnScope ["_law_script", "_law_k"] ["_law_script", "_law_k"] (defScope s_law_cell) := ⟨rfl, rfl, rfl, by decide +kernel, rfl, by decide +kernel, by decide +kernel⟩
theorem sc_law_factline : FnScope ["_law_fact", "_law_part"] ["_law_fact"] (defScope s_law_factline) := ⟨rfl, rfl, rfl, by decide +kernel, rfl, by decide +kernel, by decide +kernel⟩
theorem sc_law_anyfact : FnScope ["_law_cell_here", "_law_row", "_law_words", "_law_word", "_law_day", "_law_one", "_law_two", "_law_three"] ["_law_cell_here"] (defScope s_law_anyfact) := ⟨rfl, rfl, rfl, by decide +kernel, rfl, by decide +kernel, by decide +kernel⟩
theorem sc_law_spoilt : FnScope ["_law_text", "_law_row", "_law_some", "_law_at", "_law_sign", "_law_words", "_law_other"] ["_law_text", "_law_row"] (defScope s_law_spoilt) := ⟨rfl, rfl, rfl, by decide +kernel, rfl, by decide +kernel, by decide +kernel⟩
theorem sc_law_number : FnScope ["_law_text", "_law_sign"] ["_law_text"] (defScope s_law_number) := ⟨rfl, rfl, rfl, by decide +kernel, rfl, by decide +kernel, by decide +kernel⟩
theorem sc_law_isfact : FnScope ["_law_thing", "_law_many", "_law_k"] ["_law_thing"] (defScope s_law_isfact) := ⟨rfl, rfl, rfl, by decide +kernel, rfl, by decide +kernel, by decide +kernel⟩
theorem sc_law_reader : FnScope ["_law_text", "_law_words", "_law_numbers", "_law_fact", "_law_word"] ["_law_text"] (defScope s_law_reader) := ⟨rfl, rfl, rfl, by decide +kernel, rfl, by decide +kernel, by decide +kernel⟩
theorem sc_number_of : FnScope ["text", "sign"] ["text"] (defScope s_number_of) := ⟨rfl, rfl, rfl, by decide +kernel, rfl, by decide +kernel, by decide +kernel⟩
theorem sc_is_number : FnScope ["thing"] ["thing"] (defScope s_is_number) := ⟨rfl, rfl, rfl, by decide +kernel, rfl, by decide +kernel, by decide +kernel⟩
theorem sc_fits : FnScope ["fact", "day", "part", "shape"] ["fact"] (defScope s_fits) := ⟨rfl, rfl, rfl, by decide +kernel, rfl, by decide +kernel, by decide +kernel⟩
theorem sc_is_fact : FnScope ["thing"] ["thing"] (defScope s_is_fact) := ⟨rfl, rfl, rfl, by decide +kernel, rfl, by decide +kernel, by decide +kernel⟩
theorem sc_fact_of : FnScope ["text", "words", "numbers", "fact", "word"] ["text"] (defScope s_fact_of) := ⟨rfl, rfl, rfl, by decide +kernel, rfl, by decide +kernel, by decide +kernel⟩
theorem sc_law_said : FnScope ["_law_text", "_law_said_here", "e"] ["_law_text"] (defScope s_law_said) := ⟨rfl, rfl, rfl, by decide +kernel, rfl, by decide +kernel, by decide +kernel⟩
theorem sc_law_flags : FnScope ["_law_due", "_law_some", "_law_word"] ["_law_due"] (defScope s_law_flags) := ⟨rfl, rfl, rfl, by decide +kernel, rfl, by decide +kernel, by decide +kernel⟩
theorem sc_law_whole : FnScope ["_law_thing"] ["_law_thing"] (defScope s_law_whole) := ⟨rfl, rfl, rfl, by decide +kernel, rfl, by decide +kernel, by decide +kernel⟩
theorem sc_law_like : FnScope ["_law_found", "_law_due", "_law_one", "_law_other"] ["_law_found", "_law_due"] (defScope s_law_like) := ⟨rfl, rfl, rfl, by decide +kernel, rfl, by decide +kernel, by decide +kernel⟩
theorem sc_law : FnScope ["_law_script", "_law_head", "_law_text", "_law_k", "_law_some", "_law_due"] ["_law_script"] (defScope s_law) := ⟨rfl, rfl, rfl, by decide +kernel, rfl, by decide +kernel, by decide +kernel⟩
/-! ### what each def computes -/
def b_law_digits_0 : Ms := mSeq (mDrop (mBM 4 oAppend (mVar 2) (mCons (mOp oMod (mVar 3) (mVar 4)) (mNil))))
  (mAsg (mOp oDiv (mVar 3) (mVar 4)) (mgN 3))
def b_law_digits_1 : Ms := mSeq (mAsg (mOp oMod (mOp (oAdd true) (mOp oMul (mVar 5) (mC (.int 48271))) (mOp oMul (mC (.int 10007)) (mOp (oAdd true) (mVar 6) (mC (.int 1))))) (mC (.int 2147483629))) (mgN 5))
  (mSeq (mAsg (mOp oMod (mOp (oAdd true) (mOp (oAdd true) (mOp oMul (mVar 5) (mVar 5)) (mOp oMul (mC (.int 69621)) (mVar 5))) (mVar 6)) (mC (.int 2147483563))) (mgN 7))
  (mDrop (mBM 4 oAppend (mVar 2) (mCons (mOp oMod (mOp oDiv (mVar 7) (mC (.int 11))) (mOp oIx (mVar 1) (mVar 6))) (mNil)))))
def m_law_digits : Ms := mSeq (mAsg (mLst false (mNil)) (mgN 2))
  (mSeq (mIfS (mB (mOp oGe (mVar 0) (mOp oPow (mC (.int 10)) (mC (.int 18))))) (mSeq (mAsg (mOp oSub (mVar 0) (mOp oPow (mC (.int 10)) (mC (.int 18)))) (mgN 3))
  (mSeq (mForV 1 (mgN 4) (b_law_digits_0))
  (mRet (mVar 2)))) (mSkip))
  (mSeq (mAsg (mOp oMod (mVar 0) (mC (.int 2147483647))) (mgN 5))
  (mSeq (mFor (mRange1 (mCons (mCB oLen (mCons (mVar 1) (mNil))) (mNil))) (mgN 6) (b_law_digits_1))
  (mRet (mVar 2)))))
def g_law_digits : Fg := runBody 8 m_law_digits
def m_law_cell : Ms := mSeq (mIfS (mB (mOp oLt (mVar 1) (mCB oLen (mCons (mVar 0) (mNil))))) (mRet (mOp oIx (mVar 0) (mVar 1))) (mSkip))
  (mRet (mOp (oAdd true) (mC (.int 7)) (mOp oMul (mC (.int 19)) (mVar 1))))
def g_law_cell : Fg := runBody 2 m_law_cell
def m_law_factline : Ms := mRet (mJoin (mC (.str " ")) (mOp (oAdd true) (mLst true (mCons (mOp oIx (mVar 0) (mC (.int 1))) (mCons (mCB oStr1 (mCons (mOp oIx (mVar 0) (mC (.int 0))) (mNil))) (mNil)))) (mRetr (mLc (mSrc (mSl true (mVar 0) (mPart (mC (.int 2))) (mNoP))) (mgN 1) (mYes) (mCB oStr1 (mCons (mVar 1) (mNil))) [1]))))
def g_law_factline : Fg := runBody 2 m_law_factline
def m_law_anyfact : Ms := mSeq (mAsg (mRetr (mCall 2 g_law_digits (mCons (mVar 0) (mCons (mLst true (mCons (mC (.int 10)) (mCons (mC (.int 10000)) (mCons (mC (.int 999)) (mCons (mC (.int 999)) (mCons (mC (.int 998)) (mCons (mC (.int 10000)) (mCons (mC (.int 6)) (mNil))))))))) (mNil))))) (mgN 1))
  (mSeq (mAsg (mLst true (mCons (mC (.str "bar")) (mCons (mC (.str "enter")) (mCons (mC (.str "fall")) (mCons (mC (.str "grant")) (mCons (mC (.str "hand")) (mCons (mC (.str "leave")) (mCons (mC (.str "sue")) (mCons (mC (.str "walk")) (mCons (mC (.str "win")) (mCons (mC (.str "yes")) (mNil)))))))))))) (mgN 2))
  (mSeq (mAsg (mOp oIx (mVar 2) (mOp oIx (mVar 1) (mC (.int 0)))) (mgN 3))
  (mSeq (mAsg (mOp oIx (mVar 1) (mC (.int 1))) (mgN 4))
  (mSeq (mIfS (mB (mOp oEq (mOp oIx (mVar 1) (mC (.int 6))) (mC (.int 0)))) (mAsg (mOp oIx (mTup (mCons (mC (.int 0)) (mCons (mC (.int 9999)) (mNil)))) (mOp oMod (mOp oIx (mVar 1) (mC (.int 2))) (mC (.int 2)))) (mgN 4)) (mSkip))
  (mSeq (mAsg (mOp (oAdd true) (mC (.int 1)) (mOp oIx (mVar 1) (mC (.int 2)))) (mgN 5))
  (mSeq (mAsg (mOp (oAdd true) (mC (.int 1)) (mOp oIx (mVar 1) (mC (.int 3)))) (mgN 6))
  (mSeq (mAsg (mOp (oAdd true) (mC (.int 1)) (mOp oMod (mOp (oAdd true) (mOp (oAdd true) (mOp oIx (mVar 1) (mC (.int 3))) (mC (.int 1))) (mOp oIx (mVar 1) (mC (.int 4)))) (mC (.int 999)))) (mgN 7))
  (mSeq (mIfS (mB (mOp oEq (mVar 3) (mC (.str "bar")))) (mRet (mTup (mCons (mVar 4) (mCons (mVar 3) (mCons (mVar 5) (mCons (mOp (oAdd true) (mOp (oAdd true) (mVar 4) (mC (.int 1))) (mOp oMod (mOp oIx (mVar 1) (mC (.int 5))) (mOp oSub (mC (.int 10000)) (mVar 4)))) (mNil))))))) (mSkip))
  (mSeq (mIfS (mB (mOp oEq (mVar 3) (mC (.str "grant")))) (mRet (mTup (mCons (mVar 4) (mCons (mVar 3) (mCons (mVar 5) (mCons (mVar 6) (mCons (mVar 7) (mNil)))))))) (mSkip))
  (mSeq (mIfS (mB (mOp oEq (mVar 3) (mC (.str "walk")))) (mRet (mTup (mCons (mVar 4) (mCons (mVar 3) (mCons (mVar 6) (mCons (mVar 7) (mNil))))))) (mSkip))
  (mSeq (mIfS (mB (mOp oIn (mVar 3) (mTup (mCons (mC (.str "enter")) (mCons (mC (.str "hand")) (mCons (mC (.str "sue")) (mNil))))))) (mRet (mTup (mCons (mVar 4) (mCons (mVar 3) (mCons (mVar 5) (mCons (mVar 6) (mNil))))))) (mSkip))
  (mRet (mTup (mCons (mVar 4) (mCons (mVar 3) (mCons (mVar 5) (mNil)))))))))))))))))
def g_law_anyfact : Fg := runBody 8 m_law_anyfact
def m_law_spoilt : Ms := mSeq (mAsg (mC (.str " !\"#$&'()*+,-./0123456789:;<=>?@ABCDEFGHIJKLMNOPQRSTUVWXYZ[\\]^_`abcdefghijklmnopqrstuvwxyz{|}~
")) (mgN 2))
  (mSeq (mAsg (mOp oMod (mOp oIx (mVar 1) (mC (.int 1))) (mOp (oAdd true) (mCB oLen (mCons (mVar 0) (mNil))) (mC (.int 1)))) (mgN 3))
  (mSeq (mAsg (mOp oIx (mOp (oAdd true) (mVar 2) (mC (.str " 0123456789 0123456789"))) (mOp oIx (mVar 1) (mC (.int 2)))) (mgN 4))
  (mSeq (mIfS (mB (mOp oLt (mOp oIx (mVar 1) (mC (.int 0))) (mC (.int 2)))) (mRet (mOp (oAdd true) (mOp (oAdd true) (mSl true (mVar 0) (mNoP) (mPart (mVar 3))) (mVar 4)) (mSl true (mVar 0) (mPart (mVar 3)) (mNoP)))) (mSkip))
  (mSeq (mIfS (mB (mOp oLt (mOp oIx (mVar 1) (mC (.int 0))) (mC (.int 4)))) (mRet (mOp (oAdd true) (mOp (oAdd true) (mSl true (mVar 0) (mNoP) (mPart (mVar 3))) (mVar 4)) (mSl true (mVar 0) (mPart (mOp (oAdd true) (mVar 3) (mC (.int 1)))) (mNoP)))) (mSkip))
  (mSeq (mIfS (mB (mOp oEq (mOp oIx (mVar 1) (mC (.int 0))) (mC (.int 4)))) (mRet (mOp (oAdd true) (mSl true (mVar 0) (mNoP) (mPart (mVar 3))) (mSl true (mVar 0) (mPart (mOp (oAdd true) (mVar 3) (mC (.int 1)))) (mNoP)))) (mSkip))
  (mSeq (mAsg (mSplit true (mVar 0) (mC (.str " "))) (mgN 5))
  (mSeq (mAsg (mOp oMod (mOp oIx (mVar 1) (mC (.int 1))) (mCB oLen (mCons (mVar 5) (mNil)))) (mgN 3))
  (mSeq (mAsg (mOp oIx (mLst true (mCons (mC (.str "0")) (mCons (mC (.str "00")) (mCons (mC (.str "01")) (mCons (mC (.str "-1")) (mCons (mC (.str "+1")) (mCons (mC (.str "1000")) (mCons (mC (.str "9999")) (mCons (mC (.str "10000")) (mCons (mC (.str "10001")) (mCons (mOp oMulS (mC (.str "7")) (mC (.int 5000))) (mCons (mC (.str "")) (mCons (mC (.str "yes")) (mCons (mC (.str "bar")) (mCons (mC (.str "1.0")) (mNil)))))))))))))))) (mOp oIx (mVar 1) (mC (.int 3)))) (mgN 6))
  (mSeq (mIfS (mB (mOp oEq (mOp oIx (mVar 1) (mC (.int 0))) (mC (.int 5)))) (mRet (mJoin (mC (.str " ")) (mOp (oAdd true) (mOp (oAdd true) (mSl true (mVar 5) (mNoP) (mPart (mVar 3))) (mSl true (mVar 5) (mPart (mVar 3)) (mPart (mOp (oAdd true) (mVar 3) (mC (.int 1)))))) (mSl true (mVar 5) (mPart (mVar 3)) (mNoP))))) (mSkip))
  (mSeq (mIfS (mB (mOp oEq (mOp oIx (mVar 1) (mC (.int 0))) (mC (.int 6)))) (mRet (mJoin (mC (.str " ")) (mOp (oAdd true) (mSl true (mVar 5) (mNoP) (mPart (mVar 3))) (mSl true (mVar 5) (mPart (mOp (oAdd true) (mVar 3) (mC (.int 1)))) (mNoP))))) (mSkip))
  (mRet (mJoin (mC (.str " ")) (mOp (oAdd true) (mOp (oAdd true) (mSl true (mVar 5) (mNoP) (mPart (mVar 3))) (mLst true (mCons (mVar 6) (mNil)))) (mSl true (mVar 5) (mPart (mOp (oAdd true) (mVar 3) (mC (.int 1)))) (mNoP)))))))))))))))
def g_law_spoilt : Fg := runBody 7 m_law_spoilt
def b_law_number_0 : Ms := mIfS (mB (mOp oNotIn (mVar 1) (mC (.str "0123456789")))) (mRet (mC .non)) (mSkip)
def m_law_number : Ms := mSeq (mForV 0 (mgN 1) (b_law_number_0))
  (mSeq (mIfS (mOr (mB (mOp oEq (mVar 0) (mC (.str "")))) (mOr (mB (mOp oGt (mCB oLen (mCons (mVar 0) (mNil))) (mC (.int 9)))) (mAnd (mB (mOp oEq (mOp oIx (mVar 0) (mC (.int 0))) (mC (.str "0")))) (mB (mOp oNe (mVar 0) (mC (.str "0"))))))) (mRet (mC .non)) (mSkip))
  (mRet (mCB oIntX (mCons (mVar 0) (mNil)))))
def g_law_number : Fg := runBody 2 m_law_number
def b_law_isfact_0 : Ms := mSeq (mIfS (mTru (mCB oIsI (mCons (mOp oIx (mVar 0) (mVar 2)) (mCons (mC (.ty 2)) mNil)))) (mRet (mC (.bl false))) (mSkip))
  (mIfS (mAnd (mB (mOp oEq (mOp oIx (mVar 0) (mC (.int 1))) (mC (.str "bar")))) (mB (mOp oEq (mVar 2) (mC (.int 3))))) (mIfS (mNot (mB (mChain oLt oLe (mOp oIx (mVar 0) (mC (.int 0))) (mOp oIx (mVar 0) (mC (.int 3))) (mC (.int 10000))))) (mRet (mC (.bl false))) (mSkip)) (mIfS (mNot (mB (mChain oLe oLe (mC (.int 1)) (mOp oIx (mVar 0) (mVar 2)) (mC (.int 999))))) (mRet (mC (.bl false))) (mSkip)))
def m_law_isfact : Ms := mSeq (mIfS (mOr (mB (mOp oLt (mCB oLen (mCons (mVar 0) (mNil))) (mC (.int 3)))) (mOr (mTru (mCB oIsI (mCons (mOp oIx (mVar 0) (mC (.int 0))) (mCons (mC (.ty 2)) mNil)))) (mNot (mTru (mCB oIsI (mCons (mOp oIx (mVar 0) (mC (.int 1))) (mCons (mC (.ty 2)) mNil))))))) (mRet (mC (.bl false))) (mSkip))
  (mSeq (mAsg (mDisp ((.inr "bar", mC (.int 2)) :: (.inr "enter", mC (.int 2)) :: (.inr "fall", mC (.int 1)) :: (.inr "grant", mC (.int 3)) :: (.inr "hand", mC (.int 2)) :: (.inr "leave", mC (.int 1)) :: (.inr "sue", mC (.int 2)) :: (.inr "walk", mC (.int 2)) :: (.inr "win", mC (.int 1)) :: (.inr "yes", mC (.int 1)) :: [])) (mgN 1))
  (mSeq (mIfS (mOr (mB (mOp oNotIn (mOp oIx (mVar 0) (mC (.int 1))) (mVar 1))) (mOr (mB (mOp oNe (mCB oLen (mCons (mVar 0) (mNil))) (mOp (oAdd true) (mC (.int 2)) (mOp oIx (mVar 1) (mOp oIx (mVar 0) (mC (.int 1))))))) (mNot (mB (mChain oLe oLe (mC (.int 0)) (mOp oIx (mVar 0) (mC (.int 0))) (mC (.int 9999))))))) (mRet (mC (.bl false))) (mSkip))
  (mSeq (mFor (mRange2 (mCons (mC (.int 2)) (mCons (mCB oLen (mCons (mVar 0) (mNil))) (mNil)))) (mgN 2) (b_law_isfact_0))
  (mSeq (mIfS (mB (mOp oEq (mOp oIx (mVar 0) (mC (.int 1))) (mC (.str "grant")))) (mRet (mOp oNe (mOp oIx (mVar 0) (mC (.int 3))) (mOp oIx (mVar 0) (mC (.int 4))))) (mSkip))
  (mRet (mOrV (mOp oNe (mOp oIx (mVar 0) (mC (.int 1))) (mC (.str "walk"))) (mOp oNe (mOp oIx (mVar 0) (mC (.int 2))) (mOp oIx (mVar 0) (mC (.int 3))))))))))
def g_law_isfact : Fg := runBody 3 m_law_isfact
def m_law_reader : Ms := mSeq (mAsg (mSplit true (mVar 0) (mC (.str " "))) (mgN 1))
  (mSeq (mAsg (mRetr (mLc (mSrc (mSl true (mVar 1) (mPart (mC (.int 1))) (mNoP))) (mgN 4) (mYes) (mRetr (mCall 1 g_law_number (mCons (mVar 4) (mNil)))) [4])) (mgN 2))
  (mSeq (mIfS (mOr (mB (mOp oIn (mC .non) (mVar 2))) (mB (mOp oLt (mCB oLen (mCons (mVar 2) (mNil))) (mC (.int 2))))) (mRet (mC .non)) (mSkip))
  (mSeq (mAsg (mOp (oAdd true) (mTup (mCons (mOp oIx (mVar 2) (mC (.int 0))) (mCons (mOp oIx (mVar 1) (mC (.int 0))) (mNil)))) (mCB oTuple (mCons (mSl true (mVar 2) (mPart (mC (.int 1))) (mNoP)) (mNil)))) (mgN 3))
  (mSeq (mIfS (mNot (mTru (mRetr (mCall 1 g_law_isfact (mCons (mVar 3) (mNil)))))) (mRet (mC .non)) (mSkip))
  (mRet (mVar 3))))))
def g_law_reader : Fg := runBody 5 m_law_reader
def b_number_of_0 : Ms := mIfS (mB (mOp oNotIn (mVar 1) (mC (.str "0123456789")))) (mRaise 13) (mSkip)
def m_number_of : Ms := mSeq (mIfS (mOr (mB (mOp oEq (mVar 0) (mC (.str "")))) (mOr (mB (mOp oGt (mCB oLen (mCons (mVar 0) (mNil))) (mC (.int 6)))) (mAnd (mB (mOp oEq (mOp oIx (mVar 0) (mC (.int 0))) (mC (.str "0")))) (mB (mOp oNe (mVar 0) (mC (.str "0"))))))) (mRaise 13) (mSkip))
  (mSeq (mForV 0 (mgN 1) (b_number_of_0))
  (mRet (mCB oIntX (mCons (mVar 0) (mNil)))))
def g_number_of : Fg := runBodyX 2 m_number_of
def m_is_number : Ms := mRet (mCB oIsI (mCons (mVar 0) (mCons (mC (.ty 0)) mNil)))
def g_is_number : Fg := runBody 1 m_is_number
def b_fits_0 : Ms := mSeq (mIfS (mNot (mTru (mRetr (mCall 1 g_is_number (mCons (mVar 2) (mNil)))))) (mRet (mC (.bl false))) (mSkip))
  (mSeq (mIfS (mAnd (mB (mOp oEq (mVar 3) (mC (.str "u")))) (mOr (mB (mOp oLe (mVar 2) (mVar 1))) (mB (mOp oGt (mVar 2) (mOp (oAdd true) (mC (.int (9999))) (mC (.int 1))))))) (mRet (mC (.bl false))) (mSkip))
  (mIfS (mAnd (mB (mOp oNe (mVar 3) (mC (.str "u")))) (mOr (mB (mOp oLt (mVar 2) (mC (.int 1)))) (mB (mOp oGt (mVar 2) (mC (.int (999))))))) (mRet (mC (.bl false))) (mSkip)))
def m_fits : Ms := mSeq (mAsg (mOp oIx (mVar 0) (mC (.int 0))) (mgN 1))
  (mSeq (mFor (mZipS (mCons (mSl true (mVar 0) (mPart (mC (.int 2))) (mNoP)) (mCons (mIxSh (mOp oIx (mVar 0) (mC (.int 1)))) (mNil)))) (mgT 2 (mgCons (mgN 2) (mgCons (mgN 3) (mgNil)))) (b_fits_0))
  (mRet (mC (.bl true))))
def g_fits : Fg := runBody 4 m_fits
def m_is_fact : Ms := mSeq (mIfS (mOr (mB (mOp oLt (mCB oLen (mCons (mVar 0) (mNil))) (mC (.int 2)))) (mOr (mNot (mTru (mRetr (mCall 1 g_is_number (mCons (mOp oIx (mVar 0) (mC (.int 0))) (mNil)))))) (mTru (mRetr (mCall 1 g_is_number (mCons (mOp oIx (mVar 0) (mC (.int 1))) (mNil))))))) (mRet (mC (.bl false))) (mSkip))
  (mSeq (mIfS (mOr (mB (mOp oLt (mOp oIx (mVar 0) (mC (.int 0))) (mC (.int 0)))) (mOr (mB (mOp oGt (mOp oIx (mVar 0) (mC (.int 0))) (mC (.int (9999))))) (mB (mNotSh (mOp oIx (mVar 0) (mC (.int 1))))))) (mRet (mC (.bl false))) (mSkip))
  (mSeq (mIfS (mOr (mB (mOp oNe (mCB oLen (mCons (mVar 0) (mNil))) (mOp (oAdd true) (mCB oLen (mCons (mIxSh (mOp oIx (mVar 0) (mC (.int 1)))) (mNil))) (mC (.int 2))))) (mNot (mTru (mRetr (mCall 1 g_fits (mCons (mVar 0) (mNil))))))) (mRet (mC (.bl false))) (mSkip))
  (mSeq (mIfS (mB (mOp oEq (mOp oIx (mVar 0) (mC (.int 1))) (mC (.str "grant")))) (mRet (mOp oNe (mOp oIx (mVar 0) (mC (.int 3))) (mOp oIx (mVar 0) (mC (.int 4))))) (mSkip))
  (mSeq (mIfS (mB (mOp oEq (mOp oIx (mVar 0) (mC (.int 1))) (mC (.str "walk")))) (mRet (mOp oNe (mOp oIx (mVar 0) (mC (.int 2))) (mOp oIx (mVar 0) (mC (.int 3))))) (mSkip))
  (mRet (mC (.bl true)))))))
def g_is_fact : Fg := runBody 1 m_is_fact
def m_fact_of : Ms := mSeq (mAsg (mSplit true (mVar 0) (mC (.str " "))) (mgN 1))
  (mSeq (mAsg (mRetr (mLcX (mSrc (mSl true (mVar 1) (mPart (mC (.int 1))) (mNoP))) (mgN 4) (mRetr (mCallX 1 g_number_of (mCons (mVar 4) (mNil)))) [4])) (mgN 2))
  (mSeq (mAsg (mCB oTuple (mCons (mOp (oAdd true) (mOp (oAdd true) (mSl true (mVar 2) (mNoP) (mPart (mC (.int 1)))) (mSl true (mVar 1) (mNoP) (mPart (mC (.int 1))))) (mSl true (mVar 2) (mPart (mC (.int 1))) (mNoP))) (mNil))) (mgN 3))
  (mSeq (mIfS (mOr (mB (mOp oLt (mCB oLen (mCons (mVar 2) (mNil))) (mC (.int 1)))) (mNot (mTru (mRetr (mCall 1 g_is_fact (mCons (mVar 3) (mNil))))))) (mRaise 13) (mSkip))
  (mRet (mVar 3)))))
def g_fact_of : Fg := runBodyX 5 m_fact_of
def m_law_said : Ms := mSeq (mAsg (mLst true (mNil)) (mgN 1))
  (mSeq (mTry [13] 1 2 (mDrop (mRetr (mCallX 1 g_fact_of (mCons (mVar 0) (mNil))))))
  (mRet (mVar 1)))
def g_law_said : Fg := runBody 3 m_law_said
def m_law_flags : Ms := mSeq (mAsg (mLst true (mCons (mC (.str "BadTerm")) (mCons (mC (.str "BadFact")) (mCons (mC (.str "BadLine")) (mCons (mC (.str "NoFolk")) (mCons (mC (.str "NoField")) (mCons (mC (.str "NoFact")) (mCons (mC (.str "NoStand")) (mCons (mC (.str "Told")) (mCons (mC (.str "Full")) (mNil))))))))))) (mgN 1))
  (mSeq (mIfS (mB (mOp oEq (mVar 0) (mC (.str "")))) (mRet (mLst true (mNil))) (mSkip))
  (mRet (mOp (oAdd true) (mLst true (mCons (mC (.bl true)) (mNil))) (mRetr (mLc (mSrc (mVar 1)) (mgN 2) (mYes) (mOp oEq (mVar 2) (mVar 0)) [2])))))
def g_law_flags : Fg := runBody 3 m_law_flags
def m_law_whole : Ms := mRet (mAndV (mCB oIsI (mCons (mVar 0) (mCons (mC (.ty 0)) mNil))) (mNotV (mCB oIsI (mCons (mVar 0) (mCons (mC (.ty 1)) mNil)))))
def g_law_whole : Fg := runBody 1 m_law_whole
def b_law_like_0 (G : Fg) : Ms := mIfS (mNot (mTru (mRetr (mCall 2 G (mCons (mVar 2) (mCons (mVar 3) (mNil))))))) (mRet (mC (.bl false))) (mSkip)
def m_law_like (G : Fg) : Ms := mSeq (mIfS (mB (mIsN (mVar 1))) (mRet (mIsN (mVar 0))) (mSkip))
  (mSeq (mIfS (mTru (mCB oIsI (mCons (mVar 1) (mCons (mC (.ty 1)) mNil)))) (mRet (mAndV (mCB oIsI (mCons (mVar 0) (mCons (mC (.ty 1)) mNil))) (mOp oEq (mVar 0) (mVar 1)))) (mSkip))
  (mSeq (mIfS (mTru (mCB oIsI (mCons (mVar 1) (mCons (mC (.ty 0)) mNil)))) (mRet (mAndV (mRetr (mCall 1 g_law_whole (mCons (mVar 0) (mNil)))) (mOp oEq (mVar 0) (mVar 1)))) (mSkip))
  (mSeq (mIfS (mTru (mCB oIsI (mCons (mVar 1) (mCons (mC (.ty 2)) mNil)))) (mRet (mAndV (mCB oIsI (mCons (mVar 0) (mCons (mC (.ty 2)) mNil))) (mOp oEq (mVar 0) (mVar 1)))) (mSkip))
  (mSeq (mIfS (mOr (mB (mOp oNe (mCB oIsI (mCons (mVar 1) (mCons (mC (.ty 3)) mNil))) (mCB oIsI (mCons (mVar 0) (mCons (mC (.ty 3)) mNil))))) (mB (mOp oNe (mCB oIsI (mCons (mVar 1) (mCons (mC (.ty 4)) mNil))) (mCB oIsI (mCons (mVar 0) (mCons (mC (.ty 4)) mNil)))))) (mRet (mC (.bl false))) (mSkip))
  (mSeq (mIfS (mB (mOp oNe (mCB oLen (mCons (mVar 0) (mNil))) (mCB oLen (mCons (mVar 1) (mNil))))) (mRet (mC (.bl false))) (mSkip))
  (mSeq (mFor (mZip (mCons (mVar 0) (mCons (mVar 1) (mNil)))) (mgT 2 (mgCons (mgN 2) (mgCons (mgN 3) (mgNil)))) ((b_law_like_0 G)))
  (mRet (mC (.bl true)))))))))
def gn_law_like : Nat → Fg
  | 0 => fun _ _ => .bad
  | n + 1 => runBody 4 (m_law_like (gn_law_like n))
def g_law_like : Fg := gn_law_like 8
def b_law_0 : Ms := mAsg (mRetr (mCall 2 g_law_spoilt (mCons (mVar 2) (mCons (mRetr (mCall 2 g_law_digits (mCons (mRetr (mCall 2 g_law_cell (mCons (mVar 0) (mCons (mOp (oAdd true) (mC (.int 2)) (mVar 3)) (mNil))))) (mCons (mLst true (mCons (mC (.int 9)) (mCons (mC (.int 840)) (mCons (mC (.int 117)) (mCons (mC (.int 14)) (mNil)))))) (mNil))))) (mNil))))) (mgN 2)
def m_law : Ms := mSeq (mAsg (mRetr (mCall 2 g_law_digits (mCons (mRetr (mCall 2 g_law_cell (mCons (mVar 0) (mCons (mC (.int 1)) (mNil))))) (mCons (mLst true (mCons (mC (.int 5)) (mCons (mC (.int 3)) (mCons (mC (.int 16)) (mNil))))) (mNil))))) (mgN 1))
  (mSeq (mAsg (mRetr (mCall 1 g_law_factline (mCons (mRetr (mCall 1 g_law_anyfact (mCons (mRetr (mCall 2 g_law_cell (mCons (mVar 0) (mCons (mC (.int 0)) (mNil))))) (mNil)))) (mNil)))) (mgN 2))
  (mSeq (mFor (mRange1 (mCons (mOp (oAdd true) (mC (.int 1)) (mOp oIx (mVar 1) (mC (.int 1)))) (mNil))) (mgN 3) (b_law_0))
  (mSeq (mIfS (mB (mOp oEq (mOp oIx (mVar 1) (mC (.int 0))) (mC (.int 0)))) (mSeq (mAsg (mLst true (mCons (mC (.str "")) (mCons (mC (.str " ")) (mCons (mC (.str "yes")) (mCons (mC (.str "yes 5")) (mCons (mC (.str "yes 5 1 ")) (mCons (mC (.str " yes 5 1")) (mCons (mC (.str "Yes 5 1")) (mCons (mC (.str "bar 5 1 5")) (mCons (mC (.str "bar 5 1 6")) (mCons (mC (.str "grant 5 1 2 2")) (mNil)))))))))))) (mgN 4))
  (mSeq (mAsg (mOp (oAdd true) (mVar 4) (mLst true (mCons (mC (.str "walk 5 3 3")) (mCons (mC (.str "yes 05 1")) (mCons (mC (.str "yes 5 0")) (mCons (mC (.str "yes 10000 1")) (mCons (mC (.str "bar 9999 1 10000")) (mCons (mC (.str "bar 9999 1 10001")) (mNil))))))))) (mgN 4))
  (mAsg (mOp oIx (mVar 4) (mOp oIx (mVar 1) (mC (.int 2)))) (mgN 2)))) (mSkip))
  (mSeq (mAsg (mRetr (mCall 1 g_law_reader (mCons (mVar 2) (mNil)))) (mgN 5))
  (mSeq (mIfS (mB (mIsN (mVar 5))) (mRet (mOp oEq (mRetr (mCall 1 g_law_said (mCons (mVar 2) (mNil)))) (mRetr (mCall 1 g_law_flags (mCons (mC (.str "BadLine")) (mNil)))))) (mSkip))
  (mRet (mRetr (mCall 2 g_law_like (mCons (mRetr (mCallX 1 g_fact_of (mCons (mVar 2) (mNil)))) (mCons (mVar 5) (mNil)))))))))))
def g_law : Fg := runBody 6 m_law
/-! ### what the top has written -/
structure Txt (κ : Kap) (mg : Str → Option Value) (A : Nat → Addr) (F : Nat → FuncData) (w : World) : Prop where
  sh : ShT κ.K w.params mg
  f_law_digits : Fun κ.K "_law_digits" "_law_digits" s_law_digits (A 0) (F 0)
  b_law_digits : Binds κ.K (F 0) ["_law_cell_here", "_law_sizes"] []
  g_law_digits : mg "_law_digits" = some (.ref (A 0))
  f_law_cell : Fun κ.K "_law_cell" "_law_cell" s_law_cell (A 1) (F 1)
  b_law_cell : Binds κ.K (F 1) ["_law_script", "_law_k"] []
  g_law_cell : mg "_law_cell" = some (.ref (A 1))
  f_law_factline : Fun κ.K "_law_factline" "_law_factline" s_law_factline (A 2) (F 2)
  b_law_factline : Binds κ.K (F 2) ["_law_fact"] []
  g_law_factline : mg "_law_factline" = some (.ref (A 2))
  f_law_anyfact : Fun κ.K "_law_anyfact" "_law_anyfact" s_law_anyfact (A 3) (F 3)
  b_law_anyfact : Binds κ.K (F 3) ["_law_cell_here"] []
  g_law_anyfact : mg "_law_anyfact" = some (.ref (A 3))
  f_law_spoilt : Fun κ.K "_law_spoilt" "_law_spoilt" s_law_spoilt (A 4) (F 4)
  b_law_spoilt : Binds κ.K (F 4) ["_law_text", "_law_row"] []
  g_law_spoilt : mg "_law_spoilt" = some (.ref (A 4))
  f_law_number : Fun κ.K "_law_number" "_law_number" s_law_number (A 5) (F 5)
  b_law_number : Binds κ.K (F 5) ["_law_text"] []
  g_law_number : mg "_law_number" = some (.ref (A 5))
  f_law_isfact : Fun κ.K "_law_isfact" "_law_isfact" s_law_isfact (A 6) (F 6)
  b_law_isfact : Binds κ.K (F 6) ["_law_thing"] []
  g_law_isfact : mg "_law_isfact" = some (.ref (A 6))
  f_law_reader : Fun κ.K "_law_reader" "_law_reader" s_law_reader (A 7) (F 7)
  b_law_reader : Binds κ.K (F 7) ["_law_text"] []
  g_law_reader : mg "_law_reader" = some (.ref (A 7))
  f_number_of : Fun κ.K "number_of" "number_of" s_number_of (A 8) (F 8)
  b_number_of : Binds κ.K (F 8) ["text"] []
  g_number_of : mg "number_of" = some (.ref (A 8))
  f_is_number : Fun κ.K "is_number" "is_number" s_is_number (A 9) (F 9)
  b_is_number : Binds κ.K (F 9) ["thing"] []
  g_is_number : mg "is_number" = some (.ref (A 9))
  f_fits : Fun κ.K "fits" "fits" s_fits (A 10) (F 10)
  b_fits : Binds κ.K (F 10) ["fact"] []
  g_fits : mg "fits" = some (.ref (A 10))
  f_is_fact : Fun κ.K "is_fact" "is_fact" s_is_fact (A 11) (F 11)
  b_is_fact : Binds κ.K (F 11) ["thing"] []
  g_is_fact : mg "is_fact" = some (.ref (A 11))
  f_fact_of : Fun κ.K "fact_of" "fact_of" s_fact_of (A 12) (F 12)
  b_fact_of : Binds κ.K (F 12) ["text"] []
  g_fact_of : mg "fact_of" = some (.ref (A 12))
  f_law_said : Fun κ.K "_law_said" "_law_said" s_law_said (A 13) (F 13)
  b_law_said : Binds κ.K (F 13) ["_law_text"] []
  g_law_said : mg "_law_said" = some (.ref (A 13))
  f_law_flags : Fun κ.K "_law_flags" "_law_flags" s_law_flags (A 14) (F 14)
  b_law_flags : Binds κ.K (F 14) ["_law_due"] []
  g_law_flags : mg "_law_flags" = some (.ref (A 14))
  f_law_whole : Fun κ.K "_law_whole" "_law_whole" s_law_whole (A 15) (F 15)
  b_law_whole : Binds κ.K (F 15) ["_law_thing"] []
  g_law_whole : mg "_law_whole" = some (.ref (A 15))
  f_law_like : Fun κ.K "_law_like" "_law_like" s_law_like (A 16) (F 16)
  b_law_like : Binds κ.K (F 16) ["_law_found", "_law_due"] []
  g_law_like : mg "_law_like" = some (.ref (A 16))
  f_law : Fun κ.K "law" "law" s_law (A 17) (F 17)
  b_law : Binds κ.K (F 17) ["_law_script"] []
  g_law : mg "law" = some (.ref (A 17))
  z_ValueError : mg "ValueError" = none
  z_bool : mg "bool" = none
  z_int : mg "int" = none
  z_isinstance : mg "isinstance" = none
  z_len : mg "len" = none
  z_list : mg "list" = none
  z_range : mg "range" = none
  z_str : mg "str" = none
  z_tuple : mg "tuple" = none
  z_zip : mg "zip" = none
  x_BadLine : ExD κ.K mg "BadLine" (κ 13)
  en : ErrN κ mg
  ei : ∀ c ∈ ([13] : List Nat), ExI κ.K (κ c) (κ 10) κ.cls c
  c_FIGURES : ∃ u, mg "FIGURES" = some u ∧ RelV (.str "0123456789") u
  c_LAST : ∃ u, mg "LAST" = some u ∧ RelV (.int (9999)) u
  c_MOST : ∃ u, mg "MOST" = some u ∧ RelV (.int (999)) u
section
variable {P : Program} {w : World} {κ : Kap} {mg : Str → Option Value} {base : Heap} {A : Nat → Addr} {F : Nat → FuncData}
theorem ok_law_digits (T : Txt κ mg A F w) : FnOk P w κ.K mg base CX0 1 (A 0) (F 0) ["_law_cell_here", "_law_sizes"] (spG κ ["_law_cell_here", "_law_sizes"].length g_law_digits) :=
  fn_okB T.f_law_digits sc_law_digits fun cdv A_ outer s H E hr c => ⟨_, bss_cons (bs_set 2 c (be_lst false (ba_nil)))
    (bss_cons (bs_if (bt_cmp c_ge (be_var 0) (be_pow (be_int) (be_int))) (bss_cons (bs_set 3 c (be_sub (be_var 0) (be_pow (be_int) (be_int))))
    (bss_cons (bs_forV 1 c (bg_name 4 c) (bss_cons (bs_expr (be_append c (be_var 2) (ba_cons (be_mod (be_var 3) (be_var 4)) (ba_nil))))
    (bss_one (bs_set 3 c (be_div (be_var 3) (be_var 4))))))
    (bss_one (bs_ret (be_var 2))))) (bss_nil))
    (bss_cons (bs_set 5 c (be_mod (be_var 0) (be_int)))
    (bss_cons (bs_for c (bi_range1 T.z_range (ba_cons (be_len c T.z_len (ba_cons (be_var 1) (ba_nil))) (ba_nil))) (bg_name 6 c) (bss_cons (bs_set 5 c (be_mod (be_add true c (be_mul (be_var 5) (be_int)) (be_mul (be_int) (be_add true c (be_var 6) (be_int)))) (be_int)))
    (bss_cons (bs_set 7 c (be_mod (be_add true c (be_add true c (be_mul (be_var 5) (be_var 5)) (be_mul (be_int) (be_var 5))) (be_var 6)) (be_int)))
    (bss_one (bs_expr (be_append c (be_var 2) (ba_cons (be_mod (be_div (be_var 7) (be_int)) (be_ix c (be_var 1) (be_var 6))) (ba_nil))))))))
    (bss_one (bs_ret (be_var 2))))))⟩
theorem ok_law_cell (T : Txt κ mg A F w) : FnOk P w κ.K mg base CX0 1 (A 1) (F 1) ["_law_script", "_law_k"] (spG κ ["_law_script", "_law_k"].length g_law_cell) :=
  fn_okB T.f_law_cell sc_law_cell fun cdv A_ outer s H E hr c => ⟨_, bss_cons (bs_if (bt_cmp c_lt (be_var 1) (be_len c T.z_len (ba_cons (be_var 0) (ba_nil)))) (bss_one (bs_ret (be_ix c (be_var 0) (be_var 1)))) (bss_nil))
    (bss_one (bs_ret (be_add true c (be_int) (be_mul (be_int) (be_var 1)))))⟩
theorem ok_law_factline (T : Txt κ mg A F w) : FnOk P w κ.K mg base CX0 1 (A 2) (F 2) ["_law_fact"] (spG κ ["_law_fact"].length g_law_factline) :=
  fn_okB T.f_law_factline sc_law_factline fun cdv A_ outer s H E hr c => ⟨_, bss_one (bs_ret (be_join c (be_str) (be_add true c (be_lst true (ba_cons (be_ix c (be_var 0) (be_int)) (ba_cons (be_str1 c T.z_str (ba_cons (be_ix c (be_var 0) (be_int)) (ba_nil))) (ba_nil)))) (be_retr (be_lc [("_law_part", 1)] ["_law_fact", "_law_part"] (defScope s_law_factline) c (bi_seq c (be_sl true c (be_var 0) (bo_some (be_int)) (bo_none))) (fun _ _ _ _ _ c => bg_name 1 c) (fun _ _ _ _ _ c => bts_nil) (fun _ _ _ _ _ c => be_str1 c T.z_str (ba_cons (be_var 1) (ba_nil))))))))⟩
theorem ok_law_anyfact (T : Txt κ mg A F w) : FnOk P w κ.K mg base CX0 2 (A 3) (F 3) ["_law_cell_here"] (spG κ ["_law_cell_here"].length g_law_anyfact) :=
  fn_okB T.f_law_anyfact sc_law_anyfact fun cdv A_ outer s H E hr c => ⟨_, bss_cons (bs_set 1 c (be_retr (be_call c (ok_law_digits T) (hr.mono (by decide)) T.g_law_digits T.f_law_digits.kp T.b_law_digits (ba_cons (be_var 0) (ba_cons (be_lst true (ba_cons (be_int) (ba_cons (be_int) (ba_cons (be_int) (ba_cons (be_int) (ba_cons (be_int) (ba_cons (be_int) (ba_cons (be_int) (ba_nil))))))))) (ba_nil))))))
    (bss_cons (bs_set 2 c (be_lst true (ba_cons (be_str) (ba_cons (be_str) (ba_cons (be_str) (ba_cons (be_str) (ba_cons (be_str) (ba_cons (be_str) (ba_cons (be_str) (ba_cons (be_str) (ba_cons (be_str) (ba_cons (be_str) (ba_nil)))))))))))))
    (bss_cons (bs_set 3 c (be_ix c (be_var 2) (be_ix c (be_var 1) (be_int))))
    (bss_cons (bs_set 4 c (be_ix c (be_var 1) (be_int)))
    (bss_cons (bs_if (bt_cmp (c_eq c) (be_ix c (be_var 1) (be_int)) (be_int)) (bss_one (bs_set 4 c (be_ix c (be_tup (ba_cons (be_int) (ba_cons (be_int) (ba_nil)))) (be_mod (be_ix c (be_var 1) (be_int)) (be_int))))) (bss_nil))
    (bss_cons (bs_set 5 c (be_add true c (be_int) (be_ix c (be_var 1) (be_int))))
    (bss_cons (bs_set 6 c (be_add true c (be_int) (be_ix c (be_var 1) (be_int))))
    (bss_cons (bs_set 7 c (be_add true c (be_int) (be_mod (be_add true c (be_add true c (be_ix c (be_var 1) (be_int)) (be_int)) (be_ix c (be_var 1) (be_int))) (be_int))))
    (bss_cons (bs_if (bt_cmp (c_eq c) (be_var 3) (be_str)) (bss_one (bs_ret (be_tup (ba_cons (be_var 4) (ba_cons (be_var 3) (ba_cons (be_var 5) (ba_cons (be_add true c (be_add true c (be_var 4) (be_int)) (be_mod (be_ix c (be_var 1) (be_int)) (be_sub (be_int) (be_var 4)))) (ba_nil)))))))) (bss_nil))
    (bss_cons (bs_if (bt_cmp (c_eq c) (be_var 3) (be_str)) (bss_one (bs_ret (be_tup (ba_cons (be_var 4) (ba_cons (be_var 3) (ba_cons (be_var 5) (ba_cons (be_var 6) (ba_cons (be_var 7) (ba_nil))))))))) (bss_nil))
    (bss_cons (bs_if (bt_cmp (c_eq c) (be_var 3) (be_str)) (bss_one (bs_ret (be_tup (ba_cons (be_var 4) (ba_cons (be_var 3) (ba_cons (be_var 6) (ba_cons (be_var 7) (ba_nil)))))))) (bss_nil))
    (bss_cons (bs_if (bt_in c (be_var 3) (be_tup (ba_cons (be_str) (ba_cons (be_str) (ba_cons (be_str) (ba_nil)))))) (bss_one (bs_ret (be_tup (ba_cons (be_var 4) (ba_cons (be_var 3) (ba_cons (be_var 5) (ba_cons (be_var 6) (ba_nil)))))))) (bss_nil))
    (bss_one (bs_ret (be_tup (ba_cons (be_var 4) (ba_cons (be_var 3) (ba_cons (be_var 5) (ba_nil))))))))))))))))))⟩
theorem ok_law_spoilt (T : Txt κ mg A F w) : FnOk P w κ.K mg base CX0 1 (A 4) (F 4) ["_law_text", "_law_row"] (spG κ ["_law_text", "_law_row"].length g_law_spoilt) :=
  fn_okB T.f_law_spoilt sc_law_spoilt fun cdv A_ outer s H E hr c => ⟨_, bss_cons (bs_set 2 c (be_str))
    (bss_cons (bs_set 3 c (be_mod (be_ix c (be_var 1) (be_int)) (be_add true c (be_len c T.z_len (ba_cons (be_var 0) (ba_nil))) (be_int))))
    (bss_cons (bs_set 4 c (be_ix c (be_add true c (be_var 2) (be_str)) (be_ix c (be_var 1) (be_int))))
    (bss_cons (bs_if (bt_cmp c_lt (be_ix c (be_var 1) (be_int)) (be_int)) (bss_one (bs_ret (be_add true c (be_add true c (be_sl true c (be_var 0) (bo_none) (bo_some (be_var 3))) (be_var 4)) (be_sl true c (be_var 0) (bo_some (be_var 3)) (bo_none))))) (bss_nil))
    (bss_cons (bs_if (bt_cmp c_lt (be_ix c (be_var 1) (be_int)) (be_int)) (bss_one (bs_ret (be_add true c (be_add true c (be_sl true c (be_var 0) (bo_none) (bo_some (be_var 3))) (be_var 4)) (be_sl true c (be_var 0) (bo_some (be_add true c (be_var 3) (be_int))) (bo_none))))) (bss_nil))
    (bss_cons (bs_if (bt_cmp (c_eq c) (be_ix c (be_var 1) (be_int)) (be_int)) (bss_one (bs_ret (be_add true c (be_sl true c (be_var 0) (bo_none) (bo_some (be_var 3))) (be_sl true c (be_var 0) (bo_some (be_add true c (be_var 3) (be_int))) (bo_none))))) (bss_nil))
    (bss_cons (bs_set 5 c (be_split true (be_var 0) (be_str)))
    (bss_cons (bs_set 3 c (be_mod (be_ix c (be_var 1) (be_int)) (be_len c T.z_len (ba_cons (be_var 5) (ba_nil)))))
    (bss_cons (bs_set 6 c (be_ix c (be_lst true (ba_cons (be_str) (ba_cons (be_str) (ba_cons (be_str) (ba_cons (be_str) (ba_cons (be_str) (ba_cons (be_str) (ba_cons (be_str) (ba_cons (be_str) (ba_cons (be_str) (ba_cons (be_mulS (be_str) (be_int)) (ba_cons (be_str) (ba_cons (be_str) (ba_cons (be_str) (ba_cons (be_str) (ba_nil)))))))))))))))) (be_ix c (be_var 1) (be_int))))
    (bss_cons (bs_if (bt_cmp (c_eq c) (be_ix c (be_var 1) (be_int)) (be_int)) (bss_one (bs_ret (be_join c (be_str) (be_add true c (be_add true c (be_sl true c (be_var 5) (bo_none) (bo_some (be_var 3))) (be_sl true c (be_var 5) (bo_some (be_var 3)) (bo_some (be_add true c (be_var 3) (be_int))))) (be_sl true c (be_var 5) (bo_some (be_var 3)) (bo_none)))))) (bss_nil))
    (bss_cons (bs_if (bt_cmp (c_eq c) (be_ix c (be_var 1) (be_int)) (be_int)) (bss_one (bs_ret (be_join c (be_str) (be_add true c (be_sl true c (be_var 5) (bo_none) (bo_some (be_var 3))) (be_sl true c (be_var 5) (bo_some (be_add true c (be_var 3) (be_int))) (bo_none)))))) (bss_nil))
    (bss_one (bs_ret (be_join c (be_str) (be_add true c (be_add true c (be_sl true c (be_var 5) (bo_none) (bo_some (be_var 3))) (be_lst true (ba_cons (be_var 6) (ba_nil)))) (be_sl true c (be_var 5) (bo_some (be_add true c (be_var 3) (be_int))) (bo_none))))))))))))))))⟩
theorem ok_law_number (T : Txt κ mg A F w) : FnOk P w κ.K mg base CX0 1 (A 5) (F 5) ["_law_text"] (spG κ ["_law_text"].length g_law_number) :=
  fn_okB T.f_law_number sc_law_number fun cdv A_ outer s H E hr c => ⟨_, bss_cons (bs_forV 0 c (bg_name 1 c) (bss_one (bs_if (bt_notIn c (be_var 1) (be_str)) (bss_one (bs_ret (be_non))) (bss_nil))))
    (bss_cons (bs_if ((bw_or (bt_cmp (c_eq c) (be_var 0) (be_str)) (bw_or (bt_cmp c_gt (be_len c T.z_len (ba_cons (be_var 0) (ba_nil))) (be_int)) (bw_or1 ((bw_and (bt_cmp (c_eq c) (be_ix c (be_var 0) (be_int)) (be_str)) (bw_and1 (bt_cmp (c_ne c) (be_var 0) (be_str)))).t)))).t) (bss_one (bs_ret (be_non))) (bss_nil))
    (bss_one (bs_ret (be_intX c T.z_int (ba_cons (be_var 0) (ba_nil))))))⟩
theorem ok_law_isfact (T : Txt κ mg A F w) : FnOk P w κ.K mg base CX0 1 (A 6) (F 6) ["_law_thing"] (spG κ ["_law_thing"].length g_law_isfact) :=
  fn_okB T.f_law_isfact sc_law_isfact fun cdv A_ outer s H E hr c => ⟨_, bss_cons (bs_if ((bw_or (bt_cmp c_lt (be_len c T.z_len (ba_cons (be_var 0) (ba_nil))) (be_int)) (bw_or (bt_tru c (be_isI c T.z_isinstance (ba_cons (be_ix c (be_var 0) (be_int)) (ba_cons (be_tyN 2 T.z_str (by decide +kernel)) ba_nil)))) (bw_or1 (be_not (bt_tru c (be_isI c T.z_isinstance (ba_cons (be_ix c (be_var 0) (be_int)) (ba_cons (be_tyN 2 T.z_str (by decide +kernel)) ba_nil)))))))).t) (bss_one (bs_ret (be_bl))) (bss_nil))
    (bss_cons (bs_set 1 c (be_disp (bp_str (be_int) (bp_str (be_int) (bp_str (be_int) (bp_str (be_int) (bp_str (be_int) (bp_str (be_int) (bp_str (be_int) (bp_str (be_int) (bp_str (be_int) (bp_str (be_int) (bp_nil)))))))))))))
    (bss_cons (bs_if ((bw_or (bt_notIn c (be_ix c (be_var 0) (be_int)) (be_var 1)) (bw_or (bt_cmp (c_ne c) (be_len c T.z_len (ba_cons (be_var 0) (ba_nil))) (be_add true c (be_int) (be_ix c (be_var 1) (be_ix c (be_var 0) (be_int))))) (bw_or1 (be_not (bt_chain c_le c_le (be_int) (be_ix c (be_var 0) (be_int)) (be_int)))))).t) (bss_one (bs_ret (be_bl))) (bss_nil))
    (bss_cons (bs_for c (bi_range2 T.z_range (ba_cons (be_int) (ba_cons (be_len c T.z_len (ba_cons (be_var 0) (ba_nil))) (ba_nil)))) (bg_name 2 c) (bss_cons (bs_if (bt_tru c (be_isI c T.z_isinstance (ba_cons (be_ix c (be_var 0) (be_var 2)) (ba_cons (be_tyN 2 T.z_str (by decide +kernel)) ba_nil)))) (bss_one (bs_ret (be_bl))) (bss_nil))
    (bss_one (bs_if ((bw_and (bt_cmp (c_eq c) (be_ix c (be_var 0) (be_int)) (be_str)) (bw_and1 (bt_cmp (c_eq c) (be_var 2) (be_int)))).t) (bss_one (bs_if (be_not (bt_chain c_lt c_le (be_ix c (be_var 0) (be_int)) (be_ix c (be_var 0) (be_int)) (be_int))) (bss_one (bs_ret (be_bl))) (bss_nil))) (bss_one (bs_if (be_not (bt_chain c_le c_le (be_int) (be_ix c (be_var 0) (be_var 2)) (be_int))) (bss_one (bs_ret (be_bl))) (bss_nil)))))))
    (bss_cons (bs_if (bt_cmp (c_eq c) (be_ix c (be_var 0) (be_int)) (be_str)) (bss_one (bs_ret (be_cmp (c_ne c) (be_ix c (be_var 0) (be_int)) (be_ix c (be_var 0) (be_int))))) (bss_nil))
    (bss_one (bs_ret (be_or (be_cmp (c_ne c) (be_ix c (be_var 0) (be_int)) (be_str)) (be_one (be_cmp (c_ne c) (be_ix c (be_var 0) (be_int)) (be_ix c (be_var 0) (be_int)))))))))))⟩
theorem ok_law_reader (T : Txt κ mg A F w) : FnOk P w κ.K mg base CX0 2 (A 7) (F 7) ["_law_text"] (spG κ ["_law_text"].length g_law_reader) :=
  fn_okB T.f_law_reader sc_law_reader fun cdv A_ outer s H E hr c => ⟨_, bss_cons (bs_set 1 c (be_split true (be_var 0) (be_str)))
    (bss_cons (bs_setLcD 2 [("_law_word", 4)] ["_law_text", "_law_words", "_law_numbers", "_law_fact", "_law_word"] (defScope s_law_reader) c (bi_seq c (be_sl true c (be_var 1) (bo_some (be_int)) (bo_none))) (fun _ _ _ _ _ c => bg_name 4 c) (fun _ _ _ _ _ c => bts_nil) (fun _ _ _ _ _ c => be_retr (be_call c (ok_law_number T) (hr.mono (by decide)) T.g_law_number T.f_law_number.kp T.b_law_number (ba_cons (be_var 4) (ba_nil)))))
    (bss_cons (bs_if ((bw_or (bt_in c (be_non) (be_var 2)) (bw_or1 (bt_cmp c_lt (be_len c T.z_len (ba_cons (be_var 2) (ba_nil))) (be_int)))).t) (bss_one (bs_ret (be_non))) (bss_nil))
    (bss_cons (bs_set 3 c (be_add true c (be_tup (ba_cons (be_ix c (be_var 2) (be_int)) (ba_cons (be_ix c (be_var 1) (be_int)) (ba_nil)))) (be_tuple c T.z_tuple (ba_cons (be_sl true c (be_var 2) (bo_some (be_int)) (bo_none)) (ba_nil)))))
    (bss_cons (bs_if (be_not (bt_tru c (be_retr (be_call c (ok_law_isfact T) (hr.mono (by decide)) T.g_law_isfact T.f_law_isfact.kp T.b_law_isfact (ba_cons (be_var 3) (ba_nil)))))) (bss_one (bs_ret (be_non))) (bss_nil))
    (bss_one (bs_ret (be_var 3)))))))⟩
theorem ok_number_of (T : Txt κ mg A F w) : FnOk P w κ.K mg base (L2.CX P w) 1 (A 8) (F 8) ["text"] (spX κ ["text"].length g_number_of) :=
  fn_okBX T.f_number_of sc_number_of fun cdv A_ outer s H E hr c tk => ⟨_, bss_cons (bs_if ((bw_or (bt_cmp (c_eq c) (be_var 0) (be_str)) (bw_or (bt_cmp c_gt (be_len c T.z_len (ba_cons (be_var 0) (ba_nil))) (be_int)) (bw_or1 ((bw_and (bt_cmp (c_eq c) (be_ix c (be_var 0) (be_int)) (be_str)) (bw_and1 (bt_cmp (c_ne c) (be_var 0) (be_str)))).t)))).t) (bss_one (bs_raise c tk T.x_BadLine)) (bss_nil))
    (bss_cons (bs_forV 0 c (bg_name 1 c) (bss_one (bs_if (bt_notIn c (be_var 1) (be_glob (v := .str "0123456789") (d := .str "0123456789") (by rfl) T.c_FIGURES (fun _ _ => rfl))) (bss_one (bs_raise c tk T.x_BadLine)) (bss_nil))))
    (bss_one (bs_ret (be_intX c T.z_int (ba_cons (be_var 0) (ba_nil))))))⟩
theorem ok_is_number (T : Txt κ mg A F w) : FnOk P w κ.K mg base CX0 1 (A 9) (F 9) ["thing"] (spG κ ["thing"].length g_is_number) :=
  fn_okB T.f_is_number sc_is_number fun cdv A_ outer s H E hr c => ⟨_, bss_one (bs_ret (be_isI c T.z_isinstance (ba_cons (be_var 0) (ba_cons (be_tyN 0 T.z_int (by decide +kernel)) ba_nil))))⟩
theorem ok_fits (T : Txt κ mg A F w) : FnOk P w κ.K mg base CX0 2 (A 10) (F 10) ["fact"] (spG κ ["fact"].length g_fits) :=
  fn_okB T.f_fits sc_fits fun cdv A_ outer s H E hr c => ⟨_, bss_cons (bs_set 1 c (be_ix c (be_var 0) (be_int)))
    (bss_cons (bs_for c (bi_zipS c T.z_zip (ba_cons (be_sl true c (be_var 0) (bo_some (be_int)) (bo_none)) (ba_cons (be_ixSh c T.sh (be_ix c (be_var 0) (be_int))) (ba_nil)))) (bg_tup 2 c (bgs_cons (bg_name 2 c) (bgs_cons (bg_name 3 c) (bgs_nil)))) (bss_cons (bs_if (be_not (bt_tru c (be_retr (be_call c (ok_is_number T) (hr.mono (by decide)) T.g_is_number T.f_is_number.kp T.b_is_number (ba_cons (be_var 2) (ba_nil)))))) (bss_one (bs_ret (be_bl))) (bss_nil))
    (bss_cons (bs_if ((bw_and (bt_cmp (c_eq c) (be_var 3) (be_str)) (bw_and1 ((bw_or (bt_cmp c_le (be_var 2) (be_var 1)) (bw_or1 (bt_cmp c_gt (be_var 2) (be_add true c (be_glob (v := .int (9999)) (d := .int (9999)) (by rfl) T.c_LAST (fun _ _ => rfl)) (be_int))))).t))).t) (bss_one (bs_ret (be_bl))) (bss_nil))
    (bss_one (bs_if ((bw_and (bt_cmp (c_ne c) (be_var 3) (be_str)) (bw_and1 ((bw_or (bt_cmp c_lt (be_var 2) (be_int)) (bw_or1 (bt_cmp c_gt (be_var 2) (be_glob (v := .int (999)) (d := .int (999)) (by rfl) T.c_MOST (fun _ _ => rfl))))).t))).t) (bss_one (bs_ret (be_bl))) (bss_nil))))))
    (bss_one (bs_ret (be_bl))))⟩
theorem ok_is_fact (T : Txt κ mg A F w) : FnOk P w κ.K mg base CX0 3 (A 11) (F 11) ["thing"] (spG κ ["thing"].length g_is_fact) :=
  fn_okB T.f_is_fact sc_is_fact fun cdv A_ outer s H E hr c => ⟨_, bss_cons (bs_if ((bw_or (bt_cmp c_lt (be_len c T.z_len (ba_cons (be_var 0) (ba_nil))) (be_int)) (bw_or (be_not (bt_tru c (be_retr (be_call c (ok_is_number T) (hr.mono (by decide)) T.g_is_number T.f_is_number.kp T.b_is_number (ba_cons (be_ix c (be_var 0) (be_int)) (ba_nil)))))) (bw_or1 (bt_tru c (be_retr (be_call c (ok_is_number T) (hr.mono (by decide)) T.g_is_number T.f_is_number.kp T.b_is_number (ba_cons (be_ix c (be_var 0) (be_int)) (ba_nil)))))))).t) (bss_one (bs_ret (be_bl))) (bss_nil))
    (bss_cons (bs_if ((bw_or (bt_cmp c_lt (be_ix c (be_var 0) (be_int)) (be_int)) (bw_or (bt_cmp c_gt (be_ix c (be_var 0) (be_int)) (be_glob (v := .int (9999)) (d := .int (9999)) (by rfl) T.c_LAST (fun _ _ => rfl))) (bw_or1 (bt_notSh c T.sh (be_ix c (be_var 0) (be_int)))))).t) (bss_one (bs_ret (be_bl))) (bss_nil))
    (bss_cons (bs_if ((bw_or (bt_cmp (c_ne c) (be_len c T.z_len (ba_cons (be_var 0) (ba_nil))) (be_add true c (be_len c T.z_len (ba_cons (be_ixSh c T.sh (be_ix c (be_var 0) (be_int))) (ba_nil))) (be_int))) (bw_or1 (be_not (bt_tru c (be_retr (be_call c (ok_fits T) (hr.mono (by decide)) T.g_fits T.f_fits.kp T.b_fits (ba_cons (be_var 0) (ba_nil)))))))).t) (bss_one (bs_ret (be_bl))) (bss_nil))
    (bss_cons (bs_if (bt_cmp (c_eq c) (be_ix c (be_var 0) (be_int)) (be_str)) (bss_one (bs_ret (be_cmp (c_ne c) (be_ix c (be_var 0) (be_int)) (be_ix c (be_var 0) (be_int))))) (bss_nil))
    (bss_cons (bs_if (bt_cmp (c_eq c) (be_ix c (be_var 0) (be_int)) (be_str)) (bss_one (bs_ret (be_cmp (c_ne c) (be_ix c (be_var 0) (be_int)) (be_ix c (be_var 0) (be_int))))) (bss_nil))
    (bss_one (bs_ret (be_bl)))))))⟩
theorem ok_fact_of (T : Txt κ mg A F w) : FnOk P w κ.K mg base (L2.CX P w) 4 (A 12) (F 12) ["text"] (spX κ ["text"].length g_fact_of) :=
  fn_okBX T.f_fact_of sc_fact_of fun cdv A_ outer s H E hr c tk => ⟨_, bss_cons (bs_set 1 c (be_split true (be_var 0) (be_str)))
    (bss_cons (bs_setLcX 2 [("word", 4)] ["text", "words", "numbers", "fact", "word"] (defScope s_fact_of) c tk (bi_seq c (be_sl true c (be_var 1) (bo_some (be_int)) (bo_none))) (fun _ _ _ _ _ _ c => bg_name 4 c) (ok_number_of T) (hr.mono (by decide)) T.g_number_of T.f_number_of.kp T.b_number_of (fun _ _ _ _ _ _ c => ba_cons (be_var 4) (ba_nil)))
    (bss_cons (bs_set 3 c (be_tuple c T.z_tuple (ba_cons (be_add true c (be_add true c (be_sl true c (be_var 2) (bo_none) (bo_some (be_int))) (be_sl true c (be_var 1) (bo_none) (bo_some (be_int)))) (be_sl true c (be_var 2) (bo_some (be_int)) (bo_none))) (ba_nil))))
    (bss_cons (bs_if ((bw_or (bt_cmp c_lt (be_len c T.z_len (ba_cons (be_var 2) (ba_nil))) (be_int)) (bw_or1 (be_not (bt_tru c (be_retr (be_call c (ok_is_fact T) (hr.mono (by decide)) T.g_is_fact T.f_is_fact.kp T.b_is_fact (ba_cons (be_var 3) (ba_nil)))))))).t) (bss_one (bs_raise c tk T.x_BadLine)) (bss_nil))
    (bss_one (bs_ret (be_var 3))))))⟩
theorem ok_law_said (T : Txt κ mg A F w) : FnOk P w κ.K mg base CX0 5 (A 13) (F 13) ["_law_text"] (spG κ ["_law_text"].length g_law_said) :=
  fn_okB T.f_law_said sc_law_said fun cdv A_ outer s H E hr c => ⟨_, bss_cons (bs_set 1 c (be_lst true (ba_nil)))
    (bss_cons (bs_tryAs (cs := [13]) 1 2 c T.en T.ei (fun Wx pn xe tk c => (bss_one (bs_expr (be_retr (be_callX c tk (ok_fact_of T) (hr.mono (by decide)) T.g_fact_of T.f_fact_of.kp T.b_fact_of (ba_cons (be_var 0) (ba_nil))))))))
    (bss_one (bs_ret (be_var 1))))⟩
theorem ok_law_flags (T : Txt κ mg A F w) : FnOk P w κ.K mg base CX0 1 (A 14) (F 14) ["_law_due"] (spG κ ["_law_due"].length g_law_flags) :=
  fn_okB T.f_law_flags sc_law_flags fun cdv A_ outer s H E hr c => ⟨_, bss_cons (bs_set 1 c (be_lst true (ba_cons (be_str) (ba_cons (be_str) (ba_cons (be_str) (ba_cons (be_str) (ba_cons (be_str) (ba_cons (be_str) (ba_cons (be_str) (ba_cons (be_str) (ba_cons (be_str) (ba_nil))))))))))))
    (bss_cons (bs_if (bt_cmp (c_eq c) (be_var 0) (be_str)) (bss_one (bs_ret (be_lst true (ba_nil)))) (bss_nil))
    (bss_one (bs_ret (be_add true c (be_lst true (ba_cons (be_bl) (ba_nil))) (be_retr (be_lc [("_law_word", 2)] ["_law_due", "_law_some", "_law_word"] (defScope s_law_flags) c (bi_seq c (be_var 1)) (fun _ _ _ _ _ c => bg_name 2 c) (fun _ _ _ _ _ c => bts_nil) (fun _ _ _ _ _ c => be_cmp (c_eq c) (be_var 2) (be_var 0))))))))⟩
theorem ok_law_whole (T : Txt κ mg A F w) : FnOk P w κ.K mg base CX0 1 (A 15) (F 15) ["_law_thing"] (spG κ ["_law_thing"].length g_law_whole) :=
  fn_okB T.f_law_whole sc_law_whole fun cdv A_ outer s H E hr c => ⟨_, bss_one (bs_ret (be_and (be_isI c T.z_isinstance (ba_cons (be_var 0) (ba_cons (be_tyN 0 T.z_int (by decide +kernel)) ba_nil))) (be_one (be_notV (be_isI c T.z_isinstance (ba_cons (be_var 0) (ba_cons (be_tyN 1 T.z_bool (by decide +kernel)) ba_nil)))))))⟩
theorem okn_law_like (T : Txt κ mg A F w) : ∀ n : Nat, FnOk P w κ.K mg base CX0 (1 + n) (A 16) (F 16) ["_law_found", "_law_due"] (spG κ ["_law_found", "_law_due"].length (gn_law_like n))
  | 0 => fn_bad
  | n + 1 => have ih := okn_law_like T n
    fn_okB T.f_law_like sc_law_like fun cdv A_ outer s H E hr c => ⟨_, bss_cons (bs_if (bt_isN (be_var 1)) (bss_one (bs_ret (be_isN (be_var 0)))) (bss_nil))
    (bss_cons (bs_if (bt_tru c (be_isI c T.z_isinstance (ba_cons (be_var 1) (ba_cons (be_tyN 1 T.z_bool (by decide +kernel)) ba_nil)))) (bss_one (bs_ret (be_and (be_isI c T.z_isinstance (ba_cons (be_var 0) (ba_cons (be_tyN 1 T.z_bool (by decide +kernel)) ba_nil))) (be_one (be_cmp (c_eq c) (be_var 0) (be_var 1)))))) (bss_nil))
    (bss_cons (bs_if (bt_tru c (be_isI c T.z_isinstance (ba_cons (be_var 1) (ba_cons (be_tyN 0 T.z_int (by decide +kernel)) ba_nil)))) (bss_one (bs_ret (be_and (be_retr (be_call c (ok_law_whole T) (hr.mono (Nat.le_trans (m := 1) (by decide) (Nat.le_add_right _ _))) T.g_law_whole T.f_law_whole.kp T.b_law_whole (ba_cons (be_var 0) (ba_nil)))) (be_one (be_cmp (c_eq c) (be_var 0) (be_var 1)))))) (bss_nil))
    (bss_cons (bs_if (bt_tru c (be_isI c T.z_isinstance (ba_cons (be_var 1) (ba_cons (be_tyN 2 T.z_str (by decide +kernel)) ba_nil)))) (bss_one (bs_ret (be_and (be_isI c T.z_isinstance (ba_cons (be_var 0) (ba_cons (be_tyN 2 T.z_str (by decide +kernel)) ba_nil))) (be_one (be_cmp (c_eq c) (be_var 0) (be_var 1)))))) (bss_nil))
    (bss_cons (bs_if ((bw_or (bt_cmp (c_ne c) (be_isI c T.z_isinstance (ba_cons (be_var 1) (ba_cons (be_tyN 3 T.z_tuple (by decide +kernel)) ba_nil))) (be_isI c T.z_isinstance (ba_cons (be_var 0) (ba_cons (be_tyN 3 T.z_tuple (by decide +kernel)) ba_nil)))) (bw_or1 (bt_cmp (c_ne c) (be_isI c T.z_isinstance (ba_cons (be_var 1) (ba_cons (be_tyN 4 T.z_list (by decide +kernel)) ba_nil))) (be_isI c T.z_isinstance (ba_cons (be_var 0) (ba_cons (be_tyN 4 T.z_list (by decide +kernel)) ba_nil)))))).t) (bss_one (bs_ret (be_bl))) (bss_nil))
    (bss_cons (bs_if (bt_cmp (c_ne c) (be_len c T.z_len (ba_cons (be_var 0) (ba_nil))) (be_len c T.z_len (ba_cons (be_var 1) (ba_nil)))) (bss_one (bs_ret (be_bl))) (bss_nil))
    (bss_cons (bs_for c (bi_zip c T.z_zip (ba_cons (be_var 0) (ba_cons (be_var 1) (ba_nil)))) (bg_tup 2 c (bgs_cons (bg_name 2 c) (bgs_cons (bg_name 3 c) (bgs_nil)))) (bss_one (bs_if (be_not (bt_tru c (be_retr (be_call c ih (hr.mono (Nat.le_refl _)) T.g_law_like T.f_law_like.kp T.b_law_like (ba_cons (be_var 2) (ba_cons (be_var 3) (ba_nil))))))) (bss_one (bs_ret (be_bl))) (bss_nil))))
    (bss_one (bs_ret (be_bl)))))))))⟩
theorem ok_law_like (T : Txt κ mg A F w) : FnOk P w κ.K mg base CX0 9 (A 16) (F 16) ["_law_found", "_law_due"] (spG κ ["_law_found", "_law_due"].length g_law_like) := okn_law_like T 8
theorem ok_law (T : Txt κ mg A F w) : FnOk P w κ.K mg base CX0 10 (A 17) (F 17) ["_law_script"] (spG κ ["_law_script"].length g_law) :=
  fn_okB T.f_law sc_law fun cdv A_ outer s H E hr c => ⟨_, bss_cons (bs_set 1 c (be_retr (be_call c (ok_law_digits T) (hr.mono (by decide)) T.g_law_digits T.f_law_digits.kp T.b_law_digits (ba_cons (be_retr (be_call c (ok_law_cell T) (hr.mono (by decide)) T.g_law_cell T.f_law_cell.kp T.b_law_cell (ba_cons (be_var 0) (ba_cons (be_int) (ba_nil))))) (ba_cons (be_lst true (ba_cons (be_int) (ba_cons (be_int) (ba_cons (be_int) (ba_nil))))) (ba_nil))))))
    (bss_cons (bs_set 2 c (be_retr (be_call c (ok_law_factline T) (hr.mono (by decide)) T.g_law_factline T.f_law_factline.kp T.b_law_factline (ba_cons (be_retr (be_call c (ok_law_anyfact T) (hr.mono (by decide)) T.g_law_anyfact T.f_law_anyfact.kp T.b_law_anyfact (ba_cons (be_retr (be_call c (ok_law_cell T) (hr.mono (by decide)) T.g_law_cell T.f_law_cell.kp T.b_law_cell (ba_cons (be_var 0) (ba_cons (be_int) (ba_nil))))) (ba_nil)))) (ba_nil)))))
    (bss_cons (bs_for c (bi_range1 T.z_range (ba_cons (be_add true c (be_int) (be_ix c (be_var 1) (be_int))) (ba_nil))) (bg_name 3 c) (bss_one (bs_set 2 c (be_retr (be_call c (ok_law_spoilt T) (hr.mono (by decide)) T.g_law_spoilt T.f_law_spoilt.kp T.b_law_spoilt (ba_cons (be_var 2) (ba_cons (be_retr (be_call c (ok_law_digits T) (hr.mono (by decide)) T.g_law_digits T.f_law_digits.kp T.b_law_digits (ba_cons (be_retr (be_call c (ok_law_cell T) (hr.mono (by decide)) T.g_law_cell T.f_law_cell.kp T.b_law_cell (ba_cons (be_var 0) (ba_cons (be_add true c (be_int) (be_var 3)) (ba_nil))))) (ba_cons (be_lst true (ba_cons (be_int) (ba_cons (be_int) (ba_cons (be_int) (ba_cons (be_int) (ba_nil)))))) (ba_nil))))) (ba_nil))))))))
    (bss_cons (bs_if (bt_cmp (c_eq c) (be_ix c (be_var 1) (be_int)) (be_int)) (bss_cons (bs_set 4 c (be_lst true (ba_cons (be_str) (ba_cons (be_str) (ba_cons (be_str) (ba_cons (be_str) (ba_cons (be_str) (ba_cons (be_str) (ba_cons (be_str) (ba_cons (be_str) (ba_cons (be_str) (ba_cons (be_str) (ba_nil)))))))))))))
    (bss_cons (bs_set 4 c (be_add true c (be_var 4) (be_lst true (ba_cons (be_str) (ba_cons (be_str) (ba_cons (be_str) (ba_cons (be_str) (ba_cons (be_str) (ba_cons (be_str) (ba_nil))))))))))
    (bss_one (bs_set 2 c (be_ix c (be_var 4) (be_ix c (be_var 1) (be_int))))))) (bss_nil))
    (bss_cons (bs_set 5 c (be_retr (be_call c (ok_law_reader T) (hr.mono (by decide)) T.g_law_reader T.f_law_reader.kp T.b_law_reader (ba_cons (be_var 2) (ba_nil)))))
    (bss_cons (bs_if (bt_isN (be_var 5)) (bss_one (bs_ret (be_cmp (c_eq c) (be_retr (be_call c (ok_law_said T) (hr.mono (by decide)) T.g_law_said T.f_law_said.kp T.b_law_said (ba_cons (be_var 2) (ba_nil)))) (be_retr (be_call c (ok_law_flags T) (hr.mono (by decide)) T.g_law_flags T.f_law_flags.kp T.b_law_flags (ba_cons (be_str) (ba_nil))))))) (bss_nil))
    (bss_one (bs_ret (be_retr (be_call c (ok_law_like T) (hr.mono (by decide)) T.g_law_like T.f_law_like.kp T.b_law_like (ba_cons (be_retr (be_callX (Wx := wF) c takesF (ok_fact_of T) (hr.mono (by decide)) T.g_fact_of T.f_fact_of.kp T.b_fact_of (ba_cons (be_var 2) (ba_nil)))) (ba_cons (be_var 5) (ba_nil))))))))))))⟩
end
end Lw

local macro_rules | `(tactic| simp_arith [$xs,*] $[$loc:location]?) => `(tactic| simp only [Gx.g_var, Gx.g_vget, Gx.g_c, Gx.g_op, Gx.g_kOp, Gx.g_kOp2, Gx.g_neg, Gx.g_kNeg, Gx.g_nil, Gx.g_cons, Gx.g_kCons, Gx.g_kCons2, Gx.g_tup, Gx.g_lst, Gx.g_kTup, Gx.g_kLst, Gx.g_mkLf, Gx.g_mkLt, Gx.g_kMkL, Gx.g_mkT, Gx.g_kMkT, Gx.g_immI, Gx.g_immN, Gx.g_immC, Gx.g_optCons, Gx.g_dnew, Gx.g_b, Gx.g_kB, Gx.g_tru, Gx.g_kTruB, Gx.g_kTruI, Gx.g_kTruN, Gx.g_kTruL, Gx.g_kTruS, Gx.g_kTruLoc, Gx.g_kTruL2, Gx.g_not, Gx.g_kNot, Gx.g_and, Gx.g_or, Gx.g_andT, Gx.g_andF, Gx.g_orT, Gx.g_orF, Gx.g_notV, Gx.g_andV, Gx.g_orV, Gx.g_kNotV, Gx.g_kAndVT, Gx.g_kAndVF, Gx.g_kOrVT, Gx.g_kOrVF, Gx.g_if, Gx.g_kIfT, Gx.g_kIfF, Gx.g_isN, Gx.g_notN, Gx.g_kIsN0, Gx.g_kIsNI, Gx.g_kIsNT, Gx.g_kNotN0, Gx.g_kNotNI, Gx.g_kNotNT, Gx.g_chain, Gx.g_kCh, Gx.g_kCh1, Gx.g_kCh2T, Gx.g_kCh2F, Gx.g_kCh3, Gx.g_add, Gx.g_addLL, Gx.g_sub, Gx.g_lt, Gx.g_le, Gx.g_gt, Gx.g_ge, Gx.g_mul, Gx.g_div, Gx.g_mod, Gx.g_pow10_18, Gx.g_pow10_9, Gx.g_max, Gx.g_min, Gx.g_cb, Gx.g_lenL, Gx.g_lenS, Gx.g_lenT, Gx.g_lenLoc, Gx.g_kLenL, Gx.g_listL, Gx.g_listLoc, Gx.g_kListL, Gx.g_isIB, Gx.g_isII, Gx.g_isIL, Gx.g_isIT, Gx.g_isIN, Gx.g_kIx, Gx.g_kIxW, Gx.g_ixL, Gx.g_ixT, Gx.g_ixS, Gx.g_seq, Gx.g_thn, Gx.g_thnR, Gx.g_thnB, Gx.g_thnC, Gx.g_asg, Gx.g_kAsg, Gx.g_kA2, Gx.g_gN, Gx.g_gT, Gx.g_gC, Gx.g_oBindE, Gx.g_gNil, Gx.g_drop, Gx.g_kDrop, Gx.g_ret, Gx.g_kRet, Gx.g_retN, Gx.g_skip, Gx.g_brk, Gx.g_cnt, Gx.g_ifS, Gx.g_kIfST, Gx.g_kIfSF, Gx.g_run, Gx.g_kRunN, Gx.g_kRunR, Gx.g_for, Gx.g_kFor, Gx.g_src, Gx.g_kSrcL, Gx.g_kSrcT, Gx.g_kSrcS, Gx.g_kSrcLoc, Gx.g_kSrcL2, Gx.g_forV, Gx.g_kFVL, Gx.g_kFVT, Gx.g_kFVS, Gx.g_kFVloc, Gx.g_kFVM, Gx.g_range1, Gx.g_range2, Gx.g_kR1, Gx.g_kR2, Gx.g_bm, Gx.g_kBMloc, Gx.g_kBML4, Gx.g_kBML5, Gx.g_append, Gx.g_kApp, Gx.g_insert, Gx.g_kIns, Gx.g_call, Gx.g_kCall, Gx.g_retr, Gx.g_retrL, Gx.g_retrI, Gx.g_eqI, Gx.g_eqB, Gx.g_eqS, Gx.g_eqNN, Gx.g_eqNI, Gx.g_eqIN, Gx.g_neI, Gx.g_neB, Gx.g_neS, Gx.g_ixM, Gx.g_kIxM, Gx.g_isK_0_0, Gx.g_isK_0_1, Gx.g_isK_0_2, Gx.g_isK_0_3, Gx.g_isK_0_4, Gx.g_isK_0_5, Gx.g_isK_1_0, Gx.g_isK_1_1, Gx.g_isK_1_2, Gx.g_isK_1_3, Gx.g_isK_1_4, Gx.g_isK_1_5, Gx.g_isK_2_0, Gx.g_isK_2_1, Gx.g_isK_2_2, Gx.g_isK_2_3, Gx.g_isK_2_4, Gx.g_isK_2_5, Gx.g_isK_3_0, Gx.g_isK_3_1, Gx.g_isK_3_2, Gx.g_isK_3_3, Gx.g_isK_3_4, Gx.g_isK_3_5, Gx.g_isK_4_0, Gx.g_isK_4_1, Gx.g_isK_4_2, Gx.g_isK_4_3, Gx.g_isK_4_4, Gx.g_isK_4_5, Gx.g_isK_5_0, Gx.g_isK_5_1, Gx.g_isK_5_2, Gx.g_isK_5_3, Gx.g_isK_5_4, Gx.g_isK_5_5, Gx.g_isK_6_0, Gx.g_isK_6_1, Gx.g_isK_6_2, Gx.g_isK_6_3, Gx.g_isK_6_4, Gx.g_isK_6_5, Gx.g_put, Gx.g_kPut1, Gx.g_kPut2, Gx.g_kPut3, Gx.g_kPut4, Gx.g_ext, Gx.g_kExt, Gx.g_sum, Gx.g_aug, Gx.g_kAug1, Gx.g_kAug2, Gx.g_pow10_20, Gx.g_rev, Gx.g_kRevL, Gx.g_clear, Gx.g_kClr, Gx.g_immLoc, Gx.g_kMkLn, Gx.g_sl, Gx.g_kSl1, Gx.g_kSl2, Gx.g_kSl3, Gx.g_noP, Gx.g_part, Gx.g_kPart, Gx.g_slLf, Gx.g_slLt, Gx.g_slLft, Gx.g_slTf, Gx.g_slTt, Gx.g_slTft, Gx.g_slTb, Gx.g_disp, Gx.g_dispN, Gx.g_dispC, Gx.g_kDL, Gx.g_kDL1, Gx.g_kDisp0, Gx.g_range3, Gx.g_kR3, Gx.g_listXL, Gx.g_listXLoc, Gx.g_kListXL, Gx.g_kListXD, Gx.g_kListXF, Gx.g_listXD, Gx.g_slSt, Gx.g_kSt1, Gx.g_kSt2, Gx.g_kSt3, Gx.g_kSt4L, Gx.g_zip, Gx.g_fld, Gx.g_kFldLoc, Gx.g_kFldO, Gx.g_putFld, Gx.g_kPF1, Gx.g_kPF2, Gx.g_kPF3, Gx.g_kPFO, Gx.g_kPFOn, Gx.g_meth, Gx.g_kMeth1, Gx.g_kMethO, Gx.g_kMeth3, Gx.g_make, Gx.g_kMake, Gx.g_kMake2, Gx.g_augFld, Gx.g_kAF1, Gx.g_kAF2, Gx.g_kAF3, Gx.g_pop, Gx.g_dget2, Gx.g_kDG2, Gx.g_enum, Gx.g_kEnumL, Gx.g_noExN, Gx.g_noExR, Gx.g_kFVD, Gx.g_bindX, Gx.g_flX, Gx.g_retrX, Gx.g_retrLX, Gx.g_thnX, Gx.g_raise, Gx.g_runX, Gx.g_kRunXN, Gx.g_kRunXR, Gx.g_kRunXX, Gx.g_callX, Gx.g_kCallX, Gx.g_methX, Gx.g_kMethX1, Gx.g_kMethXO, Gx.g_kMethX3, Gx.g_makeX, Gx.g_kMakeX, Gx.g_kMakeX2, Gx.g_kMakeX2X, Gx.g_try, Gx.g_kTryN, Gx.g_kTryR, Gx.g_listV, Gx.g_inV, Gx.g_kInV1, Gx.g_ixSh, Gx.g_notSh, Gx.g_kNotSh, Gx.g_maxD, Gx.g_kMaxD1, Gx.g_kMaxD2, Gx.g_listR, Gx.g_dict, Gx.g_join, Gx.g_kJoin1, Gx.g_split, Gx.g_kSplit1, Gx.g_starts, Gx.g_kStarts1, Gx.g_kStarts2, Gx.g_zipS, Gx.g_tryC, Gx.g_sortSet, Gx.g_kSortSet, Gx.g_augIx, Gx.g_kAugX1, Gx.g_kAug4, Gx.g_dictP, Gx.g_forW, Gx.g_kFWi, Gx.g_tryT, Gx.g_asgL, Gx.bind_ok, Gx.fl_ok, Gx.fin_ok, Gx.getNew, Gx.setNew, List.getElem?_cons_zero, List.getElem?_cons_succ, List.set_cons_zero, List.set_cons_succ, List.map_cons, List.map_nil, List.cons_append, List.nil_append, List.append_assoc, List.replicate_succ, List.replicate_zero, List.length_cons, List.length_nil, List.length_map, Nat.reduceAdd, Nat.reduceSub, Nat.reduceLeDiff, Nat.reduceLT, Int.reduceToNat, Int.reduceLT, Int.reduceLE, Int.reduceNeg, Nat.le_refl, and_self, true_and, and_true, Bool.not_true, Bool.not_false, decide_true, decide_false, $xs,*] $[$loc:location]?)

namespace Lw
open PySem Gx
def cell (ns : List Int) (k : Nat) : Int := match ns[k]? with
  | some x => x
  | none => 7 + 19 * k
theorem v_cell (ns : List Int) (z : Int) (hz : 0 ≤ z) (hz2 : z ≤ 1000000) (μ : Store) : g_law_cell [.imm (.scr ns), .imm (.int z)] μ = .ok (.imm (.int (cell ns z.toNat))) μ := by
  unfold g_law_cell m_law_cell
  by_cases h : z < ns.length
  · simp_arith [h, decide_true]
    have h' : z.toNat < ns.length := by omega
    simp_arith [hz, List.getElem?_eq_getElem h', Option.map_some]
    simp only [cell, List.getElem?_eq_getElem h']
  · simp_arith [h, decide_false]
    have h' : ns[z.toNat]? = none := List.getElem?_eq_none_iff.mpr (by omega)
    simp only [cell, h']
    simp_arith [mulOk_l]
    rw [Int.toNat_of_nonneg hz]
def digA : Int → List Int → List Int
  | _, [] => []
  | r, s :: t => r % s :: digA (r / s) t
def step1 (one : Int) (k : Nat) : Int := (one * 48271 + 10007 * ((k : Int) + 1)) % 2147483629
def step2 (one : Int) (k : Nat) : Int := (one * one + 69621 * one + k) % 2147483563
def digB : Int → Nat → List Int → List Int
  | _, _, [] => []
  | one, k, s :: t => step2 (step1 one k) k / 11 % s :: digB (step1 one k) (k + 1) t
def digits (h : Int) (sizes : List Int) : List Int := if 1000000000000000000 ≤ h then digA (h - 1000000000000000000) sizes else digB (h % 2147483647) 0 sizes
theorem digA_len : ∀ (r : Int) (sizes : List Int), (digA r sizes).length = sizes.length
  | _, [] => rfl
  | r, s :: t => by unfold digA; simp [digA_len _ t]
theorem digB_len : ∀ (one : Int) (k : Nat) (sizes : List Int), (digB one k sizes).length = sizes.length
  | _, _, [] => rfl
  | one, k, s :: t => by unfold digB; simp [digB_len _ _ t]
theorem digits_len (h : Int) (sizes : List Int) : (digits h sizes).length = sizes.length := by unfold digits; split; exact digA_len _ _; exact digB_len _ _ _
theorem digA_bd : ∀ (sizes : List Int) (r : Int) (i : Nat) (s d : Int), (∀ s ∈ sizes, 0 < s) → sizes[i]? = some s → (digA r sizes)[i]? = some d → 0 ≤ d ∧ d < s
  | [], r, i, s, d, h, e, e' => by simp at e
  | s0 :: t, r, 0, s, d, h, e, e' => by
    unfold digA at e'
    simp at e e'
    subst e; subst e'
    have := h s0 (by simp)
    exact ⟨Int.emod_nonneg _ (by omega), Int.emod_lt_of_pos _ this⟩
  | s0 :: t, r, i + 1, s, d, h, e, e' => by
    unfold digA at e'
    exact digA_bd t _ i s d (fun s hs => h s (by simp [hs])) (by simpa using e) (by simpa using e')
theorem digB_bd : ∀ (sizes : List Int) (one : Int) (k i : Nat) (s d : Int), (∀ s ∈ sizes, 0 < s) → sizes[i]? = some s → (digB one k sizes)[i]? = some d → 0 ≤ d ∧ d < s
  | [], _, _, i, s, d, h, e, e' => by simp at e
  | s0 :: t, one, k, 0, s, d, h, e, e' => by
    unfold digB at e'
    simp at e e'
    subst e; subst e'
    have := h s0 (by simp)
    exact ⟨Int.emod_nonneg _ (by omega), Int.emod_lt_of_pos _ this⟩
  | s0 :: t, one, k, i + 1, s, d, h, e, e' => by
    unfold digB at e'
    exact digB_bd t _ _ i s d (fun s hs => h s (by simp [hs])) (by simpa using e) (by simpa using e')
theorem digits_bd {sizes : List Int} {h : Int} {i : Nat} {s d : Int} (hp : ∀ s ∈ sizes, 0 < s) (e : sizes[i]? = some s) (e' : (digits h sizes)[i]? = some d) : 0 ≤ d ∧ d < s := by
  unfold digits at e'
  split at e'
  · exact digA_bd _ _ i s d hp e e'
  · exact digB_bd _ _ _ i s d hp e e'
abbrev il (ds : List Int) : List D := ds.map D.int
abbrev iw (ds : List Int) : List W := ds.map fun d => W.imm (.int d)
theorem iw_map (ds : List Int) : (il ds).map W.imm = iw ds := by simp [il, iw]
theorem v_digA (h0 : W) (szW : W) (μ : Store) : ∀ (sizes : List Int) (hp : ∀ s ∈ sizes, 0 < s ∧ s ≤ 1000000000) (acc : List W) (r : Int) (x4 x5 x6 x7 : Option W), acc.length + sizes.length ≤ 1000 → ∃ E',
    forL [] (mgN 4) b_law_digits_0 (iw sizes) [some h0, some szW, some (.loc μ.length), some (.imm (.int r)), x4, x5, x6, x7] (μ ++ [.lst acc])
      = .nx ([some h0, some szW, some (.loc μ.length)] ++ E') (μ ++ [.lst (acc ++ iw (digA r sizes))])
  | [], hp, acc, r, x4, x5, x6, x7, hl => ⟨[some (.imm (.int r)), x4, x5, x6, x7], by simp [forL, digA]⟩
  | s :: t, hp, acc, r, x4, x5, x6, x7, hl => by
    obtain ⟨h1, h2⟩ := hp s (by simp)
    obtain ⟨E', ih⟩ := v_digA h0 szW μ t (fun s hs => hp s (by simp [hs])) (acc ++ [.imm (.int (r % s))]) (r / s) (some (.imm (.int s))) x5 x6 x7 (by simp at hl ⊢; omega)
    have hl' : acc.length < 100000 := by simp at hl; omega
    refine ⟨E', ?_⟩
    rw [show iw (s :: t) = .imm (.int s) :: iw t from rfl, forL_step (E2 := [some h0, some szW, some (.loc μ.length), some (.imm (.int (r / s))), some (.imm (.int s)), x5, x6, x7]) (μ2 := μ ++ [.lst (acc ++ [.imm (.int (r % s))])]) g_gN ?_ rfl]
    · rw [ih]; simp [digA]
    · simp_arith [b_law_digits_0, h1, h2, hl']
theorem step1_bd (one : Int) (k : Nat) : -1000000000000000000 ≤ step1 one k ∧ step1 one k ≤ 1000000000000000000 := by
  unfold step1
  have h1 := Int.emod_nonneg (one * 48271 + 10007 * ((k : Int) + 1)) (b := 2147483629) (by omega)
  have h2 := Int.emod_lt_of_pos (one * 48271 + 10007 * ((k : Int) + 1)) (b := 2147483629) (by omega)
  omega
theorem v_digB (h0 : W) (x3 x4 : Option W) (μ : Store) (all : List Int) (hp : ∀ s ∈ all, 0 < s ∧ s ≤ 1000000000) (hl : all.length ≤ 1000) : ∀ (sizes : List Int) (k : Nat) (he : all.drop k = sizes) (acc : List W) (one : Int) (x6 x7 : Option W), acc.length = k → ∃ E',
    forL [] (mgN 6) b_law_digits_1 (rangeW (k : Int) sizes.length) [some h0, some (.imm (.lst (il all))), some (.loc μ.length), x3, x4, some (.imm (.int one)), x6, x7] (μ ++ [.lst acc])
      = .nx ([some h0, some (.imm (.lst (il all))), some (.loc μ.length)] ++ E') (μ ++ [.lst (acc ++ iw (digB one k sizes))])
  | [], k, he, acc, one, x6, x7, ha => ⟨[x3, x4, some (.imm (.int one)), x6, x7], by simp [forL, digB, rangeW_z]⟩
  | s :: t, k, he, acc, one, x6, x7, ha => by
    have hk : all[k]? = some s := by
      have := congrArg (·[0]?) he
      simpa [List.getElem?_drop] using this
    have hs : s ∈ all := List.mem_of_getElem? hk
    obtain ⟨h1, h2⟩ := hp s hs
    have hkl := (List.getElem?_eq_some_iff.mp hk).1
    have ht : all.drop (k + 1) = t := by
      have := congrArg List.tail he
      simpa [List.tail_drop] using this
    obtain ⟨E', ih⟩ := v_digB h0 x3 x4 μ all hp hl t (k + 1) ht (acc ++ [.imm (.int (step2 (step1 one k) k / 11 % s))]) (step1 one k) (some (.imm (.int k))) (some (.imm (.int (step2 (step1 one k) k)))) (by simp [ha])
    have hl' : acc.length < 100000 := by omega
    refine ⟨E', ?_⟩
    obtain ⟨b1, b2⟩ := step1_bd one k
    have hix : (il all)[k]? = some (.int s) := by rw [List.getElem?_map, hk]; rfl
    rw [List.length_cons, rangeW_s, forL_step (E2 := [some h0, some (.imm (.lst (il all))), some (.loc μ.length), x3, x4, some (.imm (.int (step1 one k))), some (.imm (.int k)), some (.imm (.int (step2 (step1 one k) k)))]) (μ2 := μ ++ [.lst (acc ++ [.imm (.int (step2 (step1 one k) k / 11 % s))])]) g_gN ?_ rfl]
    · rw [show ((k : Int) + 1) = ((k + 1 : Nat) : Int) by omega, ih]; simp [digB]
    · have e1 : (one * 48271 + 10007 * ((k : Int) + 1)) % 2147483629 = step1 one k := rfl
      have e2 : (step1 one k * step1 one k + 69621 * step1 one k + k) % 2147483563 = step2 (step1 one k) k := rfl
      simp_arith [b_law_digits_1, h1, h2, hl', mulOk_l, mulOk_r, e1, b1, b2, e2, Int.natCast_nonneg, Int.toNat_natCast, hix]
theorem v_digits (h : Int) (sizes : List Int) (hp : ∀ s ∈ sizes, 0 < s ∧ s ≤ 1000000000) (hl : sizes.length ≤ 1000) (μ : Store) : retr μ (g_law_digits [.imm (.int h), .imm (.lst (il sizes))] μ) = .ok (.imm (.lst (il (digits h sizes)))) μ := by
  unfold digits
  by_cases hb : 1000000000000000000 ≤ h
  · obtain ⟨E', e⟩ := v_digA (.imm (.int h)) (.imm (.lst (il sizes))) μ sizes hp [] (h - 1000000000000000000) none none none none (by simpa using hl)
    have h2 : g_law_digits [.imm (.int h), .imm (.lst (il sizes))] μ = .ok (.loc μ.length) (μ ++ [.lst (iw (digA (h - 1000000000000000000) sizes))]) := by
      unfold g_law_digits m_law_digits
      simp_arith [decide_eq_true hb, iw_map, e]
    rw [if_pos hb]
    exact retr_loc h2 (Nat.le_refl _) (by rw [iw_map]; simp)
  · obtain ⟨E', e⟩ := v_digB (.imm (.int h)) none none μ sizes hp hl sizes 0 rfl [] (h % 2147483647) none none rfl
    have h2 : g_law_digits [.imm (.int h), .imm (.lst (il sizes))] μ = .ok (.loc μ.length) (μ ++ [.lst (iw (digB (h % 2147483647) 0 sizes))]) := by
      unfold g_law_digits m_law_digits
      have hl2 : -1000000000000000000 ≤ (sizes.length : Int) ∧ (sizes.length : Int) ≤ 1000000000000000000 := by omega
      simp only [Int.natCast_zero] at e
      simp_arith [decide_eq_false hb, hl2, Int.toNat_natCast, e]
    rw [if_neg hb]
    exact retr_loc h2 (Nat.le_refl _) (by rw [iw_map]; simp)
theorem r_digits (h : Int) (sizes : List Int) (hp : ∀ s ∈ sizes, 0 < s ∧ s ≤ 1000000000) (hl : sizes.length ≤ 1000) (μ : Store) : retr μ (g_law_digits [.imm (.int h), .imm (.lst (sizes.map D.int))] μ).fin = .ok (.imm (.lst ((digits h sizes).map D.int))) μ := retr_fin (v_digits h sizes hp hl μ)
theorem digits_Bd (h : Int) (sizes : List Int) (hp : ∀ s ∈ sizes, 0 < s) : Bd sizes (digits h sizes) := bd_of _ _ (digits_len _ _) fun i s d e e' => digits_bd hp e e'
/-- the digits of a cell, below 5 sizes .. -/
theorem r_dig (h : Int) (sizes : List Int) (hp : sizes.all (fun s => decide (0 < s) && decide (s ≤ 1000000000)) = true) (hl : sizes.length ≤ 1000) : ∃ ds, Bd sizes ds ∧ ∀ μ, retr μ (g_law_digits [.imm (.int h), .imm (.lst (sizes.map D.int))] μ).fin = .ok (.imm (.lst (ds.map D.int))) μ := by
  have hp' : ∀ s ∈ sizes, 0 < s ∧ s ≤ 1000000000 := fun s hs => by
    have := List.all_eq_true.mp hp s hs
    simpa using this
  exact ⟨_, digits_Bd h sizes fun s hs => (hp' s hs).1, fun μ => r_digits h sizes hp' hl μ⟩
end Lw

namespace Lw
open PySem Gx
theorem we_grant_grant : decide (("grant" : Str) = "grant") = true := by decide
theorem we_grant_enter : decide (("grant" : Str) = "enter") = false := by decide
theorem we_grant_leave : decide (("grant" : Str) = "leave") = false := by decide
theorem we_grant_hand : decide (("grant" : Str) = "hand") = false := by decide
theorem we_grant_yes : decide (("grant" : Str) = "yes") = false := by decide
theorem we_grant_sue : decide (("grant" : Str) = "sue") = false := by decide
theorem we_grant_win : decide (("grant" : Str) = "win") = false := by decide
theorem we_grant_fall : decide (("grant" : Str) = "fall") = false := by decide
theorem we_grant_bar : decide (("grant" : Str) = "bar") = false := by decide
theorem we_grant_walk : decide (("grant" : Str) = "walk") = false := by decide
theorem we_enter_grant : decide (("enter" : Str) = "grant") = false := by decide
theorem we_enter_enter : decide (("enter" : Str) = "enter") = true := by decide
theorem we_enter_leave : decide (("enter" : Str) = "leave") = false := by decide
theorem we_enter_hand : decide (("enter" : Str) = "hand") = false := by decide
theorem we_enter_yes : decide (("enter" : Str) = "yes") = false := by decide
theorem we_enter_sue : decide (("enter" : Str) = "sue") = false := by decide
theorem we_enter_win : decide (("enter" : Str) = "win") = false := by decide
theorem we_enter_fall : decide (("enter" : Str) = "fall") = false := by decide
theorem we_enter_bar : decide (("enter" : Str) = "bar") = false := by decide
theorem we_enter_walk : decide (("enter" : Str) = "walk") = false := by decide
theorem we_leave_grant : decide (("leave" : Str) = "grant") = false := by decide
theorem we_leave_enter : decide (("leave" : Str) = "enter") = false := by decide
theorem we_leave_leave : decide (("leave" : Str) = "leave") = true := by decide
theorem we_leave_hand : decide (("leave" : Str) = "hand") = false := by decide
theorem we_leave_yes : decide (("leave" : Str) = "yes") = false := by decide
theorem we_leave_sue : decide (("leave" : Str) = "sue") = false := by decide
theorem we_leave_win : decide (("leave" : Str) = "win") = false := by decide
theorem we_leave_fall : decide (("leave" : Str) = "fall") = false := by decide
theorem we_leave_bar : decide (("leave" : Str) = "bar") = false := by decide
theorem we_leave_walk : decide (("leave" : Str) = "walk") = false := by decide
theorem we_hand_grant : decide (("hand" : Str) = "grant") = false := by decide
theorem we_hand_enter : decide (("hand" : Str) = "enter") = false := by decide
theorem we_hand_leave : decide (("hand" : Str) = "leave") = false := by decide
theorem we_hand_hand : decide (("hand" : Str) = "hand") = true := by decide
theorem we_hand_yes : decide (("hand" : Str) = "yes") = false := by decide
theorem we_hand_sue : decide (("hand" : Str) = "sue") = false := by decide
theorem we_hand_win : decide (("hand" : Str) = "win") = false := by decide
theorem we_hand_fall : decide (("hand" : Str) = "fall") = false := by decide
theorem we_hand_bar : decide (("hand" : Str) = "bar") = false := by decide
theorem we_hand_walk : decide (("hand" : Str) = "walk") = false := by decide
theorem we_yes_grant : decide (("yes" : Str) = "grant") = false := by decide
theorem we_yes_enter : decide (("yes" : Str) = "enter") = false := by decide
theorem we_yes_leave : decide (("yes" : Str) = "leave") = false := by decide
theorem we_yes_hand : decide (("yes" : Str) = "hand") = false := by decide
theorem we_yes_yes : decide (("yes" : Str) = "yes") = true := by decide
theorem we_yes_sue : decide (("yes" : Str) = "sue") = false := by decide
theorem we_yes_win : decide (("yes" : Str) = "win") = false := by decide
theorem we_yes_fall : decide (("yes" : Str) = "fall") = false := by decide
theorem we_yes_bar : decide (("yes" : Str) = "bar") = false := by decide
theorem we_yes_walk : decide (("yes" : Str) = "walk") = false := by decide
theorem we_sue_grant : decide (("sue" : Str) = "grant") = false := by decide
theorem we_sue_enter : decide (("sue" : Str) = "enter") = false := by decide
theorem we_sue_leave : decide (("sue" : Str) = "leave") = false := by decide
theorem we_sue_hand : decide (("sue" : Str) = "hand") = false := by decide
theorem we_sue_yes : decide (("sue" : Str) = "yes") = false := by decide
theorem we_sue_sue : decide (("sue" : Str) = "sue") = true := by decide
theorem we_sue_win : decide (("sue" : Str) = "win") = false := by decide
theorem we_sue_fall : decide (("sue" : Str) = "fall") = false := by decide
theorem we_sue_bar : decide (("sue" : Str) = "bar") = false := by decide
theorem we_sue_walk : decide (("sue" : Str) = "walk") = false := by decide
theorem we_win_grant : decide (("win" : Str) = "grant") = false := by decide
theorem we_win_enter : decide (("win" : Str) = "enter") = false := by decide
theorem we_win_leave : decide (("win" : Str) = "leave") = false := by decide
theorem we_win_hand : decide (("win" : Str) = "hand") = false := by decide
theorem we_win_yes : decide (("win" : Str) = "yes") = false := by decide
theorem we_win_sue : decide (("win" : Str) = "sue") = false := by decide
theorem we_win_win : decide (("win" : Str) = "win") = true := by decide
theorem we_win_fall : decide (("win" : Str) = "fall") = false := by decide
theorem we_win_bar : decide (("win" : Str) = "bar") = false := by decide
theorem we_win_walk : decide (("win" : Str) = "walk") = false := by decide
theorem we_fall_grant : decide (("fall" : Str) = "grant") = false := by decide
theorem we_fall_enter : decide (("fall" : Str) = "enter") = false := by decide
theorem we_fall_leave : decide (("fall" : Str) = "leave") = false := by decide
theorem we_fall_hand : decide (("fall" : Str) = "hand") = false := by decide
theorem we_fall_yes : decide (("fall" : Str) = "yes") = false := by decide
theorem we_fall_sue : decide (("fall" : Str) = "sue") = false := by decide
theorem we_fall_win : decide (("fall" : Str) = "win") = false := by decide
theorem we_fall_fall : decide (("fall" : Str) = "fall") = true := by decide
theorem we_fall_bar : decide (("fall" : Str) = "bar") = false := by decide
theorem we_fall_walk : decide (("fall" : Str) = "walk") = false := by decide
theorem we_bar_grant : decide (("bar" : Str) = "grant") = false := by decide
theorem we_bar_enter : decide (("bar" : Str) = "enter") = false := by decide
theorem we_bar_leave : decide (("bar" : Str) = "leave") = false := by decide
theorem we_bar_hand : decide (("bar" : Str) = "hand") = false := by decide
theorem we_bar_yes : decide (("bar" : Str) = "yes") = false := by decide
theorem we_bar_sue : decide (("bar" : Str) = "sue") = false := by decide
theorem we_bar_win : decide (("bar" : Str) = "win") = false := by decide
theorem we_bar_fall : decide (("bar" : Str) = "fall") = false := by decide
theorem we_bar_bar : decide (("bar" : Str) = "bar") = true := by decide
theorem we_bar_walk : decide (("bar" : Str) = "walk") = false := by decide
theorem we_walk_grant : decide (("walk" : Str) = "grant") = false := by decide
theorem we_walk_enter : decide (("walk" : Str) = "enter") = false := by decide
theorem we_walk_leave : decide (("walk" : Str) = "leave") = false := by decide
theorem we_walk_hand : decide (("walk" : Str) = "hand") = false := by decide
theorem we_walk_yes : decide (("walk" : Str) = "yes") = false := by decide
theorem we_walk_sue : decide (("walk" : Str) = "sue") = false := by decide
theorem we_walk_win : decide (("walk" : Str) = "win") = false := by decide
theorem we_walk_fall : decide (("walk" : Str) = "fall") = false := by decide
theorem we_walk_bar : decide (("walk" : Str) = "bar") = false := by decide
theorem we_walk_walk : decide (("walk" : Str) = "walk") = true := by decide
end Lw

namespace Lw
open PySem Gx
/-- a part of a thing: a number or a text -/
def Pt (d : D) : Prop := (∃ i, d = .int i) ∨ (∃ s, d = .str s)
def partOk (a : Int) (u : Bool) : D → Bool
  | .int p => if u then decide (a < p) && decide (p ≤ 10000) else decide (1 ≤ p) && decide (p ≤ 999)
  | _ => false
def sgn (c : Nat) : Str := ⟨#[c]⟩
def fitsB (a : Int) : List D → List Nat → Bool
  | d :: ds, c :: cs => partOk a (decide (sgn c = "u")) d && fitsB a ds cs
  | _, _ => true
theorem v_num {d : D} (h : Pt d) (μ : Store) : g_is_number [.imm d] μ = .ok (.imm (.bl (match d with | .int _ => true | _ => false))) μ := by
  rcases h with ⟨i, rfl⟩ | ⟨s, rfl⟩
  · unfold g_is_number m_is_number
    simp_arith []
  · unfold g_is_number m_is_number
    have k : oIsI [.imm (.str s), .imm (.ty 0)] μ = .ok (.imm (.bl (isK 2 0))) μ := g_isI rfl ⟨by decide, by decide⟩
    simp_arith [k]
theorem fits_step {a : Int} {c : Nat} {d : D} (h : Pt d) (x0 : Option W) (μ : Store) : b_fits_0 [x0, (some (.imm (.int (a)))), (some (.imm (d))), (some (.imm (.str (sgn c))))] μ = if partOk a (decide (sgn c = "u")) d then .nx [x0, (some (.imm (.int (a)))), (some (.imm (d))), (some (.imm (.str (sgn c))))] μ else .rt (.imm (.bl false)) μ := by
  have hn := fun μ => v_num h μ
  rcases h with ⟨p, rfl⟩ | ⟨s, rfl⟩
  · rcases Bool.eq_false_or_eq_true (decide (sgn c = "u")) with hu | hu
    · by_cases h1 : p ≤ a
      · have e1 := decide_eq_true h1
        have e2 : partOk a true (.int p) = false := by simp [partOk]; omega
        unfold b_fits_0
        simp_arith [hn, hu, e1, e2, Bool.false_eq_true, if_false]
      · by_cases h2 : 9999 + 1 < p
        · have e1 := decide_eq_false h1
          have e3 := decide_eq_true h2
          have e2 : partOk a true (.int p) = false := by simp [partOk]; omega
          unfold b_fits_0
          simp_arith [hn, hu, e1, e2, e3, Bool.false_eq_true, if_false]
        · have e1 := decide_eq_false h1
          have e3 := decide_eq_false h2
          have e2 : partOk a true (.int p) = true := by simp [partOk]; omega
          unfold b_fits_0
          simp_arith [hn, hu, e1, e2, e3, if_true]
    · by_cases h1 : p < 1
      · have e1 := decide_eq_true h1
        have e2 : partOk a false (.int p) = false := by simp [partOk]; omega
        unfold b_fits_0
        simp_arith [hn, hu, e1, e2, Bool.false_eq_true, if_false]
      · by_cases h2 : 999 < p
        · have e1 := decide_eq_false h1
          have e3 := decide_eq_true h2
          have e2 : partOk a false (.int p) = false := by simp [partOk]; omega
          unfold b_fits_0
          simp_arith [hn, hu, e1, e2, e3, Bool.false_eq_true, if_false]
        · have e1 := decide_eq_false h1
          have e3 := decide_eq_false h2
          have e2 : partOk a false (.int p) = true := by simp [partOk]; omega
          unfold b_fits_0
          simp_arith [hn, hu, e1, e2, e3, if_true]
  · have e2 : partOk a (decide (sgn c = "u")) (.str s) = false := rfl
    unfold b_fits_0
    simp_arith [hn, e2, Bool.false_eq_true, if_false]
theorem fits_loop {a : Int} {μ : Store} {a0 : Option W} : ∀ (ds : List D) (cs : List Nat) (x2 x3 : Option W), (∀ d ∈ ds, Pt d) →
    (fitsB a ds cs = true → ∃ y2 y3, forL [] (mgT 2 (mgCons (mgN 2) (mgCons (mgN 3) mgNil))) b_fits_0 (zipW (ds.map W.imm) (cs.map fun c => W.imm (.str (sgn c)))) [a0, (some (.imm (.int (a)))), x2, x3] μ = .nx [a0, (some (.imm (.int (a)))), y2, y3] μ) ∧
    (fitsB a ds cs = false → forL [] (mgT 2 (mgCons (mgN 2) (mgCons (mgN 3) mgNil))) b_fits_0 (zipW (ds.map W.imm) (cs.map fun c => W.imm (.str (sgn c)))) [a0, (some (.imm (.int (a)))), x2, x3] μ = .rt (.imm (.bl false)) μ)
  | [], cs, x2, x3, _ => ⟨fun _ => ⟨x2, x3, by cases cs <;> rfl⟩, fun h => by simp [fitsB] at h⟩
  | d :: ds, [], x2, x3, _ => ⟨fun _ => ⟨x2, x3, rfl⟩, fun h => by simp [fitsB] at h⟩
  | d :: ds, c :: cs, x2, x3, hP => by
    have hd := hP d (by simp)
    have ih := fits_loop (a := a) (μ := μ) (a0 := a0) ds cs (some (.imm (d))) (some (.imm (.str (sgn c)))) fun d hd => hP d (by simp [hd])
    have hs := fits_step (a := a) (c := c) hd a0 μ
    have ez : zipW ((d :: ds).map W.imm) ((c :: cs).map fun c => W.imm (.str (sgn c))) = W.imm (.tup [d, .str (sgn c)]) :: zipW (ds.map W.imm) (cs.map fun c => W.imm (.str (sgn c))) := by
      show mkT [W.imm d, W.imm (.str (sgn c))] :: _ = _
      rfl
    rw [ez]
    rcases Bool.eq_false_or_eq_true (partOk a (decide (sgn c = "u")) d) with hp | hp
    · rw [hp, if_pos rfl] at hs
      rw [forL_step (E1 := [a0, (some (.imm (.int (a)))), (some (.imm (d))), (some (.imm (.str (sgn c))))]) (by rfl) hs rfl]
      have : fitsB a (d :: ds) (c :: cs) = fitsB a ds cs := by simp [fitsB, hp]
      rw [this]
      exact ih
    · rw [hp] at hs
      have : fitsB a (d :: ds) (c :: cs) = false := by simp [fitsB, hp]
      rw [this]
      refine ⟨fun h => Bool.noConfusion h, fun _ => ?_⟩
      rw [forL_rt (E1 := [a0, (some (.imm (.int (a)))), (some (.imm (d))), (some (.imm (.str (sgn c))))]) (by rfl) (by rw [hs]; rfl)]
end Lw

namespace Lw
open PySem Gx
/-- what a fact is -/
def neqB (w : Str) : List D → Bool
  | [x, y] => if w = "walk" then decide (x ≠ y) else true
  | [_, x, y] => if w = "grant" then decide (x ≠ y) else true
  | _ => true
def isFactB : List D → Bool
  | .int a :: .str w :: rest => match shapes.lookup w with
    | none => false
    | some sh => decide (0 ≤ a) && decide (a ≤ 9999) && decide (rest.length = sh.cps.size) && fitsB a rest sh.cps.toList && neqB w rest
  | _ => false
/-- the words -/
theorem shape_cases (w : Str) : shapes.lookup w = none ∨ (w = "bar" ∧ shapes.lookup w = some "pu") ∨ (w = "enter" ∧ shapes.lookup w = some "fp") ∨ (w = "fall" ∧ shapes.lookup w = some "f") ∨ (w = "grant" ∧ shapes.lookup w = some "fpp") ∨ (w = "hand" ∧ shapes.lookup w = some "fp") ∨
    (w = "leave" ∧ shapes.lookup w = some "f") ∨ (w = "sue" ∧ shapes.lookup w = some "fp") ∨ (w = "walk" ∧ shapes.lookup w = some "ff") ∨ (w = "win" ∧ shapes.lookup w = some "f") ∨ (w = "yes" ∧ shapes.lookup w = some "f") := by
  by_cases h1 : w = "bar"
  · subst h1; exact .inr (.inl ⟨rfl, by rfl⟩)
  by_cases h2 : w = "enter"
  · subst h2; exact .inr (.inr (.inl ⟨rfl, by rfl⟩))
  by_cases h3 : w = "fall"
  · subst h3; exact .inr (.inr (.inr (.inl ⟨rfl, by rfl⟩)))
  by_cases h4 : w = "grant"
  · subst h4; exact .inr (.inr (.inr (.inr (.inl ⟨rfl, by rfl⟩))))
  by_cases h5 : w = "hand"
  · subst h5; exact .inr (.inr (.inr (.inr (.inr (.inl ⟨rfl, by rfl⟩)))))
  by_cases h6 : w = "leave"
  · subst h6; exact .inr (.inr (.inr (.inr (.inr (.inr (.inl ⟨rfl, by rfl⟩))))))
  by_cases h7 : w = "sue"
  · subst h7; exact .inr (.inr (.inr (.inr (.inr (.inr (.inr (.inl ⟨rfl, by rfl⟩)))))))
  by_cases h8 : w = "walk"
  · subst h8; exact .inr (.inr (.inr (.inr (.inr (.inr (.inr (.inr (.inl ⟨rfl, by rfl⟩))))))))
  by_cases h9 : w = "win"
  · subst h9; exact .inr (.inr (.inr (.inr (.inr (.inr (.inr (.inr (.inr (.inl ⟨rfl, by rfl⟩)))))))))
  by_cases h10 : w = "yes"
  · subst h10; exact .inr (.inr (.inr (.inr (.inr (.inr (.inr (.inr (.inr (.inr ⟨rfl, by rfl⟩)))))))))
  left
  unfold shapes
  simp only [List.lookup]
  have b : ∀ z : Str, w ≠ z → (w == z) = false := fun z h => beq_false_of_ne h
  simp only [b _ h1, b _ h2, b _ h3, b _ h4, b _ h5, b _ h6, b _ h7, b _ h8, b _ h9, b _ h10]
theorem shape_ok {w v : Str} (h : shapes.lookup w = some v) : v.cps.all (· < 128) = true ∧ 1 ≤ v.cps.size ∧ v.cps.size ≤ 3 ∧ (v.cps.size = 3 → w = "grant") ∧ (w = "grant" → v.cps.size = 3) ∧ (w = "walk" → v.cps.size = 2) := by
  rcases shape_cases w with h1 | h1 | h1 | h1 | h1 | h1 | h1 | h1 | h1 | h1 | h1
  · rw [h1] at h; cases h
  all_goals
    obtain ⟨rfl, h2⟩ := h1
    rw [h2] at h
    cases h
    decide +kernel
theorem signsW_eq (x : Str) : signsW x = x.cps.toList.map fun c => W.imm (.str (sgn c)) := rfl
theorem v_fits {a : Int} {w v : Str} {rest : List D} (hv : shapes.lookup w = some v) (hP : ∀ d ∈ rest, Pt d) (μ : Store) : g_fits [.imm (.tup (.int a :: .str w :: rest))] μ = .ok (.imm (.bl (fitsB a rest v.cps.toList))) μ := by
  obtain ⟨h1, _⟩ := shape_ok hv
  have hl := fits_loop (a := a) (μ := μ) (a0 := (some (.imm (.tup (.int a :: .str w :: rest))))) rest v.cps.toList none none hP
  have hz : ∀ μ, kZipS [.imm (.tup rest), .imm (.str v)] μ = .ok (zipW (rest.map W.imm) (v.cps.toList.map fun c => W.imm (.str (sgn c))), []) μ := fun μ => by
    rw [← signsW_eq]
    exact kZipS_of (show titems (.imm (.tup rest)) = some (rest.map W.imm) from rfl) h1
  have h2 : ∀ μ, kIxSh (.imm (.str w)) μ = .ok (.imm (.str v)) μ := fun μ => kIxSh_of hv
  have h3 : ∀ μ, oSl true (.imm (.tup (.int a :: .str w :: rest))) (some 2) none μ = .ok (.imm (.tup rest)) μ := fun μ => g_slTf (by decide)
  unfold g_fits m_fits
  rcases Bool.eq_false_or_eq_true (fitsB a rest v.cps.toList) with hb | hb
  · obtain ⟨y2, y3, e⟩ := hl.1 hb
    simp_arith [h2, h3, hz, e, hb]
  · have e := hl.2 hb
    simp_arith [h2, h3, hz, e, hb]
theorem part_int {a : Int} {u : Bool} {d : D} (h : partOk a u d = true) : ∃ p, d = .int p := by
  cases d with
  | int p => exact ⟨p, rfl⟩
  | _ => cases h
theorem eqBl {b : Bool} : (if b = true then Rs.ok (W.imm (.bl true)) μ else Rs.ok (W.imm (.bl false)) μ) = .ok (.imm (.bl b)) μ := by cases b <;> rfl
theorem v_isfact (ds : List D) (hP : ∀ d ∈ ds, Pt d) (μ : Store) : g_is_fact [.imm (.tup ds)] μ = .ok (.imm (.bl (isFactB ds))) μ := by
  match ds, hP with
  | [], _ =>
    have q : decide (((0 : Nat) : Int) < 2) = true := by decide
    have e : isFactB [] = false := rfl
    unfold g_is_fact m_is_fact
    simp_arith [q, e]
  | [d], _ =>
    have q : decide (((1 : Nat) : Int) < 2) = true := by decide
    have e : isFactB [d] = false := by cases d <;> rfl
    unfold g_is_fact m_is_fact
    simp_arith [q, e]
  | d0 :: d1 :: rest, hP =>
    have hl : decide (((rest.length + 1 + 1 : Nat) : Int) < 2) = false := decide_eq_false (by omega)
    have n0 := fun μ => v_num (hP d0 (by simp)) μ
    have n1 := fun μ => v_num (hP d1 (by simp)) μ
    rcases hP d0 (by simp) with ⟨a, rfl⟩ | ⟨s, rfl⟩
    case inr =>
      have e : isFactB (.str s :: d1 :: rest) = false := rfl
      unfold g_is_fact m_is_fact
      simp_arith [n0, hl, e]
    rcases hP d1 (by simp) with ⟨b, rfl⟩ | ⟨w, rfl⟩
    case inl =>
      have e : isFactB (.int a :: .int b :: rest) = false := rfl
      unfold g_is_fact m_is_fact
      simp_arith [n0, n1, hl, e]
    by_cases a0 : a < 0
    · have e1 := decide_eq_true a0
      have e2 : isFactB (.int a :: .str w :: rest) = false := by
        simp only [isFactB]
        cases shapes.lookup w with
        | none => rfl
        | some sh => simp [show ¬ 0 ≤ a by omega]
      unfold g_is_fact m_is_fact
      simp_arith [n0, n1, hl, e1, e2]
    by_cases a1 : 9999 < a
    · have e0 := decide_eq_false a0
      have e1 := decide_eq_true a1
      have e2 : isFactB (.int a :: .str w :: rest) = false := by
        simp only [isFactB]
        cases shapes.lookup w with
        | none => rfl
        | some sh => simp [show ¬ a ≤ 9999 by omega]
      unfold g_is_fact m_is_fact
      simp_arith [n0, n1, hl, e0, e1, e2]
    have e0 := decide_eq_false a0
    have e1 := decide_eq_false a1
    cases hv : shapes.lookup w with
    | none =>
      have e2 : isFactB (.int a :: .str w :: rest) = false := by simp only [isFactB, hv]
      have e3 : (!(shapes.lookup w).isSome) = true := by rw [hv]; rfl
      unfold g_is_fact m_is_fact
      simp_arith [n0, n1, hl, e0, e1, e2, e3]
    | some v =>
      have e3 : (!(shapes.lookup w).isSome) = false := by rw [hv]; rfl
      have h2 : ∀ μ, kIxSh (.imm (.str w)) μ = .ok (.imm (.str v)) μ := fun μ => kIxSh_of hv
      obtain ⟨hs1, hs2, hs3, hs4, hs5, hs6⟩ := shape_ok hv
      have hlen : ∀ μ, oLen [.imm (.str v)] μ = .ok (.imm (.int v.cps.size)) μ := fun μ => oLen_of (by
        have hc : v.length ≤ cap := Nat.le_trans hs3 (by decide)
        have e : lenW μ (.imm (.str v)) = if v.length ≤ cap then some (v.length : Int) else none := rfl
        rw [e, if_pos hc]; rfl)
      have hf := fun μ => v_fits (a := a) (w := w) (rest := rest) hv (fun d hd => hP d (by simp [hd])) μ
      by_cases hr : rest.length = v.cps.size
      · have e4 : decide (((rest.length + 1 + 1 : Nat) : Int) = (v.cps.size : Int) + 2) = true := decide_eq_true (by omega)
        rcases Bool.eq_false_or_eq_true (fitsB a rest v.cps.toList) with hb | hb
        · have e2 : isFactB (.int a :: .str w :: rest) = neqB w rest := by
            simp only [isFactB, hv]
            rw [hb]
            simp [show 0 ≤ a by omega, show a ≤ 9999 by omega, hr]
          rw [e2]
          by_cases hg : w = "grant"
          · subst hg
            have := hs5 rfl
            rcases rest with _ | ⟨x, _ | ⟨y, _ | ⟨z, _ | ⟨t, r⟩⟩⟩⟩
            case cons.cons.cons.nil =>
              have hv' : v = "fpp" := by
                have : shapes.lookup ("grant" : Str) = some "fpp" := by rfl
                rw [this] at hv; cases hv; rfl
              subst hv'
              have hbb : fitsB a [x, y, z] ("fpp" : Str).cps.toList = true := hb
              rw [show ("fpp" : Str).cps.toList = [102, 112, 112] from by decide +kernel] at hbb
              simp only [fitsB, Bool.and_eq_true] at hbb
              obtain ⟨p, rfl⟩ := part_int hbb.1
              obtain ⟨q, rfl⟩ := part_int hbb.2.1
              obtain ⟨r, rfl⟩ := part_int hbb.2.2.1
              have e5 : neqB "grant" [.int p, .int q, .int r] = !decide (q = r) := by simp [neqB]
              rw [e5]
              have e6 : (decide (("grant" : Str) = "grant")) = true := decide_eq_true rfl
              simp only [List.length_cons, List.length_nil] at e4 hl
              unfold g_is_fact m_is_fact
              simp_arith [n0, n1, hl, e0, e1, e3, h2, hlen, e4, hf, hb, e6]
            all_goals
              exfalso
              simp only [List.length_cons, List.length_nil] at hr
              omega
          · have q1 := decide_eq_false hg
            by_cases hw : w = "walk"
            · subst hw
              have := hs6 rfl
              rcases rest with _ | ⟨x, _ | ⟨y, _ | ⟨z, r⟩⟩⟩
              case cons.cons.nil =>
                have hv' : v = "ff" := by
                  have : shapes.lookup ("walk" : Str) = some "ff" := by rfl
                  rw [this] at hv; cases hv; rfl
                subst hv'
                have hbb : fitsB a [x, y] ("ff" : Str).cps.toList = true := hb
                rw [show ("ff" : Str).cps.toList = [102, 102] from by decide +kernel] at hbb
                simp only [fitsB, Bool.and_eq_true] at hbb
                obtain ⟨p, rfl⟩ := part_int hbb.1
                obtain ⟨q, rfl⟩ := part_int hbb.2.1
                have e5 : neqB "walk" [.int p, .int q] = !decide (p = q) := by simp [neqB]
                rw [e5]
                have e6 : (decide (("walk" : Str) = "walk")) = true := decide_eq_true rfl
                simp only [List.length_cons, List.length_nil] at e4 hl
                unfold g_is_fact m_is_fact
                simp_arith [n0, n1, hl, e0, e1, e3, h2, hlen, e4, hf, hb, q1, e6]
              all_goals
                exfalso
                simp only [List.length_cons, List.length_nil] at hr
                omega
            · have q2 := decide_eq_false hw
              have e5 : neqB w rest = true := by
                unfold neqB
                split
                · rw [if_neg hw]
                · rw [if_neg hg]
                · rfl
              rw [e5]
              unfold g_is_fact m_is_fact
              simp_arith [n0, n1, hl, e0, e1, e3, h2, hlen, e4, hf, hb, q1, q2]
        · have e2 : isFactB (.int a :: .str w :: rest) = false := by
            simp only [isFactB, hv]
            rw [hb]
            simp
          unfold g_is_fact m_is_fact
          simp_arith [n0, n1, hl, e0, e1, e2, e3, h2, hlen, e4, hf, hb]
      · have e4 : decide (((rest.length + 1 + 1 : Nat) : Int) = (v.cps.size : Int) + 2) = false := decide_eq_false (by omega)
        have e2 : isFactB (.int a :: .str w :: rest) = false := by
          simp only [isFactB, hv]
          simp [hr]
        unfold g_is_fact m_is_fact
        simp_arith [n0, n1, hl, e0, e1, e2, e3, h2, hlen, e4]
end Lw

namespace Lw
open PySem Gx
def fitsL (a : Int) (w : Str) : Nat → List D → Bool
  | _, [] => true
  | k, d :: ds => partOk a (decide (w = "bar") && decide (k = 3)) d && fitsL a w (k + 1) ds
theorem strI {d : D} (h : Pt d) (μ : Store) : oIsI [.imm d, .imm (.ty 2)] μ = .ok (.imm (.bl (match d with | .str _ => true | _ => false))) μ := by
  rcases h with ⟨i, rfl⟩ | ⟨s, rfl⟩
  · exact g_isI (k := 0) rfl ⟨by decide, by decide⟩
  · exact g_isI (k := 2) rfl ⟨by decide, by decide⟩
theorem lfits_step {a : Int} {w : Str} {all : List D} {d : D} {k : Nat} (h : Pt d) (hk : (D.int a :: D.str w :: all)[k]? = some d) (x1 : Option W) (μ : Store) :
    b_law_isfact_0 [(some (.imm (.tup (.int a :: .str w :: all)))), x1, (some (.imm (.int ((k : Int)))))] μ = if partOk a (decide (w = "bar") && decide (k = 3)) d then .nx [(some (.imm (.tup (.int a :: .str w :: all)))), x1, (some (.imm (.int ((k : Int)))))] μ else .rt (.imm (.bl false)) μ := by
  have hn := fun μ => strI h μ
  have hx : ∀ μ, oIx (.imm (.tup (.int a :: .str w :: all))) (.imm (.int (k : Int))) μ = .ok (.imm d) μ := fun μ => by
    rw [g_ixT (by omega)]
    rw [show ((k : Int)).toNat = k from by omega, hk]
    rfl
  rcases h with ⟨p, rfl⟩ | ⟨s, rfl⟩
  · rcases Bool.eq_false_or_eq_true (decide (w = "bar")) with hw | hw
    · by_cases h3 : k = 3
      · subst h3
        have hx3 : ∀ μ, oIx (.imm (.tup (.int a :: .str w :: all))) (.imm (.int 3)) μ = .ok (.imm (.int p)) μ := fun μ => hx μ
        have q3 : decide (((3 : Nat) : Int) = 3) = true := rfl
        have q4 : decide ((3 : Nat) = 3) = true := rfl
        rcases Bool.eq_false_or_eq_true (decide (a < p)) with q1 | q1 <;> rcases Bool.eq_false_or_eq_true (decide (p ≤ 10000)) with q2 | q2
        all_goals
          have e2 := show partOk a true (.int p) = (decide (a < p) && decide (p ≤ 10000)) from rfl
          rw [q1, q2] at e2
          unfold b_law_isfact_0
          simp_arith [hn, hx, hx3, hw, q1, q2, q3, q4, Bool.and_true, Bool.and_false, e2, if_true, Bool.false_eq_true, if_false]
      · have q3 : decide ((k : Int) = 3) = false := decide_eq_false (by omega)
        have q4 : decide (k = 3) = false := decide_eq_false h3
        rcases Bool.eq_false_or_eq_true (decide (1 ≤ p)) with q1 | q1 <;> rcases Bool.eq_false_or_eq_true (decide (p ≤ 999)) with q2 | q2
        all_goals
          have e2 := show partOk a false (.int p) = (decide (1 ≤ p) && decide (p ≤ 999)) from rfl
          rw [q1, q2] at e2
          unfold b_law_isfact_0
          simp_arith [hn, hx, hw, q1, q2, q3, q4, Bool.and_true, Bool.and_false, e2, if_true, Bool.false_eq_true, if_false]
    · rcases Bool.eq_false_or_eq_true (decide (1 ≤ p)) with q1 | q1 <;> rcases Bool.eq_false_or_eq_true (decide (p ≤ 999)) with q2 | q2
      all_goals
        have e2 := show partOk a false (.int p) = (decide (1 ≤ p) && decide (p ≤ 999)) from rfl
        rw [q1, q2] at e2
        unfold b_law_isfact_0
        simp_arith [hn, hx, hw, q1, q2, Bool.false_and, Bool.and_true, Bool.and_false, e2, if_true, Bool.false_eq_true, if_false]
  · have e2 : ∀ u, partOk a u (.str s) = false := fun _ => rfl
    unfold b_law_isfact_0
    simp_arith [hn, hx, e2, Bool.false_eq_true, if_false]
theorem lfits_loop {a : Int} {w : Str} {all : List D} {μ : Store} {x1 : Option W} : ∀ (ds : List D) (k : Nat) (x2 : Option W), (∀ d ∈ ds, Pt d) → (∀ j : Nat, (D.int a :: D.str w :: all)[k + j]? = ds[j]?) →
    (fitsL a w k ds = true → ∃ y2, forL [] (mgN 2) b_law_isfact_0 (rangeW (k : Int) ds.length) [(some (.imm (.tup (.int a :: .str w :: all)))), x1, x2] μ = .nx [(some (.imm (.tup (.int a :: .str w :: all)))), x1, y2] μ) ∧
    (fitsL a w k ds = false → forL [] (mgN 2) b_law_isfact_0 (rangeW (k : Int) ds.length) [(some (.imm (.tup (.int a :: .str w :: all)))), x1, x2] μ = .rt (.imm (.bl false)) μ)
  | [], k, x2, _, _ => ⟨fun _ => ⟨x2, rfl⟩, fun h => by simp [fitsL] at h⟩
  | d :: ds, k, x2, hP, hj => by
    have hd := hP d (by simp)
    have hk := hj 0
    simp only [Nat.add_zero, List.getElem?_cons_zero] at hk
    have ih := lfits_loop (a := a) (w := w) (all := all) (μ := μ) (x1 := x1) ds (k + 1) (some (.imm (.int ((k : Int))))) (fun d hd => hP d (by simp [hd])) fun j => by
      have := hj (j + 1)
      rw [List.getElem?_cons_succ] at this
      rw [← this]
      congr 1
      omega
    have hs := lfits_step hd hk x1 μ
    have er : rangeW (k : Int) (d :: ds).length = .imm (.int (k : Int)) :: rangeW ((k + 1 : Nat) : Int) ds.length := by
      rw [List.length_cons]
      exact rangeW_s
    rw [er]
    rcases Bool.eq_false_or_eq_true (partOk a (decide (w = "bar") && decide (k = 3)) d) with hp | hp
    · rw [hp, if_pos rfl] at hs
      rw [forL_step (E1 := [(some (.imm (.tup (.int a :: .str w :: all)))), x1, (some (.imm (.int ((k : Int)))))]) (by rfl) hs rfl]
      have : fitsL a w k (d :: ds) = fitsL a w (k + 1) ds := by simp only [fitsL, hp, Bool.true_and]
      rw [this]
      exact ih
    · rw [hp] at hs
      have : fitsL a w k (d :: ds) = false := by simp only [fitsL, hp, Bool.false_and]
      rw [this]
      refine ⟨fun h => Bool.noConfusion h, fun _ => ?_⟩
      rw [forL_rt (E1 := [(some (.imm (.tup (.int a :: .str w :: all)))), x1, (some (.imm (.int ((k : Int)))))]) (by rfl) (by rw [hs]; rfl)]
theorem fits_same {a : Int} {w v : Str} {rest : List D} (hv : shapes.lookup w = some v) (hr : rest.length = v.cps.size) : fitsL a w 2 rest = fitsB a rest v.cps.toList := by
  have u1 : decide (sgn 117 = ("u" : Str)) = true := by decide +kernel
  have u2 : decide (sgn 112 = ("u" : Str)) = false := by decide +kernel
  have u3 : decide (sgn 102 = ("u" : Str)) = false := by decide +kernel
  have e1 : ("pu" : Str).cps.toList = [112, 117] := by decide +kernel
  have e2 : ("fp" : Str).cps.toList = [102, 112] := by decide +kernel
  have e3 : ("f" : Str).cps.toList = [102] := by decide +kernel
  have e4 : ("fpp" : Str).cps.toList = [102, 112, 112] := by decide +kernel
  have e5 : ("ff" : Str).cps.toList = [102, 102] := by decide +kernel
  have hr' : rest.length = v.cps.toList.length := by rw [hr]; simp
  rcases shape_cases w with h1 | h1 | h1 | h1 | h1 | h1 | h1 | h1 | h1 | h1 | h1
  · rw [h1] at hv; cases hv
  all_goals
    obtain ⟨rfl, h2⟩ := h1
    rw [h2] at hv
    cases hv
    first | rw [e1] at hr' ⊢ | rw [e2] at hr' ⊢ | rw [e3] at hr' ⊢ | rw [e4] at hr' ⊢ | rw [e5] at hr' ⊢
    have q1 : decide (("bar" : Str) = "bar") = true := rfl
    rcases rest with _ | ⟨x, _ | ⟨y, _ | ⟨z, _ | ⟨t, r⟩⟩⟩⟩ <;> first | (exfalso; simp only [List.length_cons, List.length_nil] at hr'; omega) | skip
  · simp [fitsL, fitsB, u1, u2]
  all_goals
    have q : ∀ s : Str, s ≠ "bar" → decide (s = "bar") = false := fun s h => decide_eq_false h
    simp only [fitsL, fitsB, u1, u2, u3, q _ (show ("enter" : Str) ≠ "bar" by decide +kernel), q _ (show ("fall" : Str) ≠ "bar" by decide +kernel), q _ (show ("grant" : Str) ≠ "bar" by decide +kernel), q _ (show ("hand" : Str) ≠ "bar" by decide +kernel), q _ (show ("leave" : Str) ≠ "bar" by decide +kernel), q _ (show ("sue" : Str) ≠ "bar" by decide +kernel), q _ (show ("walk" : Str) ≠ "bar" by decide +kernel), q _ (show ("win" : Str) ≠ "bar" by decide +kernel), q _ (show ("yes" : Str) ≠ "bar" by decide +kernel), Bool.false_and]
def manyG : List ((Int ⊕ Str) × W) := [(.inr "bar", .imm (.int 2)), (.inr "enter", .imm (.int 2)), (.inr "fall", .imm (.int 1)), (.inr "grant", .imm (.int 3)), (.inr "hand", .imm (.int 2)), (.inr "leave", .imm (.int 1)), (.inr "sue", .imm (.int 2)), (.inr "walk", .imm (.int 2)), (.inr "win", .imm (.int 1)), (.inr "yes", .imm (.int 1))]
theorem many_eq : mergeG [] manyG = manyG := by rfl
theorem many_has (w : Str) : hasG manyG (.inr w) = (shapes.lookup w).isSome := by
  rcases shape_cases w with h1 | h1 | h1 | h1 | h1 | h1 | h1 | h1 | h1 | h1 | h1
  · rw [h1]
    have b : ∀ z v : Str, shapes.lookup z = some v → ¬ ((.inr z : Int ⊕ Str) = .inr w) := fun z v h e => by
      cases e
      rw [h1] at h
      cases h
    unfold manyG hasG
    simp only [hasG, if_neg (b "bar" _ rfl), if_neg (b "enter" _ rfl), if_neg (b "fall" _ rfl), if_neg (b "grant" _ rfl), if_neg (b "hand" _ rfl), if_neg (b "leave" _ rfl), if_neg (b "sue" _ rfl), if_neg (b "walk" _ rfl), if_neg (b "win" _ rfl), if_neg (b "yes" _ rfl)]
    rfl
  all_goals
    obtain ⟨rfl, h2⟩ := h1
    rw [h2]
    decide +kernel
theorem many_val {w v : Str} (h : shapes.lookup w = some v) : valG manyG (.inr w) = some (.imm (.int (v.cps.size : Int))) := by
  rcases shape_cases w with h1 | h1 | h1 | h1 | h1 | h1 | h1 | h1 | h1 | h1 | h1
  · rw [h1] at h; cases h
  all_goals
    obtain ⟨rfl, h2⟩ := h1
    rw [h2] at h
    cases h
    rfl
theorem v_lisfact (ds : List D) (hP : ∀ d ∈ ds, Pt d) (μ : Store) : retr μ (g_law_isfact [.imm (.tup ds)] μ).fin = .ok (.imm (.bl (isFactB ds))) μ := by
  refine retr_fin ?_
  match ds, hP with
  | [], _ =>
    have q : decide (((0 : Nat) : Int) < 3) = true := by decide
    have e : isFactB [] = false := rfl
    refine retr_imm0 ?_
    unfold g_law_isfact m_law_isfact
    simp_arith [q, e]
  | [d], _ =>
    have q : decide (((1 : Nat) : Int) < 3) = true := by decide
    have e : isFactB [d] = false := by cases d <;> rfl
    refine retr_imm0 ?_
    unfold g_law_isfact m_law_isfact
    simp_arith [q, e]
  | [d0, d1], _ =>
    have q : decide (((2 : Nat) : Int) < 3) = true := by decide
    have e : isFactB [d0, d1] = false := by
      cases d0 with
      | int a => cases d1 with
        | str w =>
          simp only [isFactB]
          cases hv : shapes.lookup w with
          | none => rfl
          | some sh =>
            have := (shape_ok hv).2.1
            simp [show ¬ (0 = sh.cps.size) by omega]
        | _ => rfl
      | _ => rfl
    refine retr_imm0 ?_
    unfold g_law_isfact m_law_isfact
    simp_arith [q, e]
  | d0 :: d1 :: d2 :: rest, hP =>
    have hl : decide (((rest.length + 1 + 1 + 1 : Nat) : Int) < 3) = false := decide_eq_false (by omega)
    have n0 := fun μ => strI (hP d0 (by simp)) μ
    have n1 := fun μ => strI (hP d1 (by simp)) μ
    rcases hP d0 (by simp) with ⟨a, rfl⟩ | ⟨s, rfl⟩
    case inr =>
      have e : isFactB (.str s :: d1 :: d2 :: rest) = false := rfl
      refine retr_imm0 ?_
      unfold g_law_isfact m_law_isfact
      simp_arith [n0, hl, e]
    rcases hP d1 (by simp) with ⟨b, rfl⟩ | ⟨w, rfl⟩
    case inl =>
      have e : isFactB (.int a :: .int b :: d2 :: rest) = false := rfl
      refine retr_imm0 ?_
      unfold g_law_isfact m_law_isfact
      simp_arith [n0, n1, hl, e]
    have hd : ∀ μ : Store, ditems (μ ++ [MO.dct manyG]) (.loc μ.length) = some manyG := fun μ => ditems_loc getNew
    have hni : ∀ μ : Store, oNotIn (.imm (.str w)) (.loc μ.length) (μ ++ [MO.dct manyG]) = .ok (.imm (.bl (!(shapes.lookup w).isSome))) (μ ++ [MO.dct manyG]) := fun μ => by
      rw [oNotIn_dict (hd μ) rfl, many_has]
    have me : mergeG [] [(.inr "bar", W.imm (.int 2)), (.inr "enter", W.imm (.int 2)), (.inr "fall", W.imm (.int 1)), (.inr "grant", W.imm (.int 3)), (.inr "hand", W.imm (.int 2)), (.inr "leave", W.imm (.int 1)), (.inr "sue", W.imm (.int 2)), (.inr "walk", W.imm (.int 2)), (.inr "win", W.imm (.int 1)), (.inr "yes", W.imm (.int 1))] = manyG := many_eq
    have h15 : (10 : Nat) ≤ 15 := by decide
    refine retr_imm (j := [MO.dct manyG]) ?_
    cases hv : shapes.lookup w with
    | none =>
      have e2 : isFactB (.int a :: .str w :: d2 :: rest) = false := by simp only [isFactB, hv]
      have e3 : (!(shapes.lookup w).isSome) = true := by rw [hv]; rfl
      rw [e2]
      unfold g_law_isfact m_law_isfact
      simp_arith [n0, n1, hl, me, h15, hni, e3]
    | some v =>
      have e3 : (!(shapes.lookup w).isSome) = false := by rw [hv]; rfl
      have hx : ∀ μ : Store, oIx (.loc μ.length) (.imm (.str w)) (μ ++ [MO.dct manyG]) = .ok (.imm (.int v.cps.size)) (μ ++ [MO.dct manyG]) := fun μ => oIx_dict (hd μ) rfl (many_val hv)
      obtain ⟨hs1, hs2, hs3, hs4, hs5, hs6⟩ := shape_ok hv
      by_cases hr : (d2 :: rest).length = v.cps.size
      case neg =>
        have e4 : decide (((rest.length + 1 + 1 + 1 : Nat) : Int) = 2 + (v.cps.size : Int)) = false := decide_eq_false (by simp only [List.length_cons] at hr; omega)
        have e2 : isFactB (.int a :: .str w :: d2 :: rest) = false := by
          simp only [isFactB, hv]
          simp only [hr, decide_false, Bool.and_false, Bool.false_and]
        rw [e2]
        unfold g_law_isfact m_law_isfact
        simp_arith [n0, n1, hl, me, h15, hni, e3, hx, e4]
      have e4 : decide (((rest.length + 1 + 1 + 1 : Nat) : Int) = 2 + (v.cps.size : Int)) = true := decide_eq_true (by simp only [List.length_cons] at hr; omega)
      by_cases a0 : 0 ≤ a
      case neg =>
        have e1 := decide_eq_false a0
        have e2 : isFactB (.int a :: .str w :: d2 :: rest) = false := by
          simp only [isFactB, hv]
          simp only [a0, decide_false, Bool.false_and]
        rw [e2]
        unfold g_law_isfact m_law_isfact
        simp_arith [n0, n1, hl, me, h15, hni, e3, hx, e4, e1]
      have e0 := decide_eq_true a0
      by_cases a1 : a ≤ 9999
      case neg =>
        have e1 := decide_eq_false a1
        have e2 : isFactB (.int a :: .str w :: d2 :: rest) = false := by
          simp only [isFactB, hv]
          simp only [a1, decide_false, Bool.false_and, Bool.and_false]
        rw [e2]
        unfold g_law_isfact m_law_isfact
        simp_arith [n0, n1, hl, me, h15, hni, e3, hx, e4, e0, e1]
      have e1 := decide_eq_true a1
      have hloop := lfits_loop (a := a) (w := w) (all := d2 :: rest) (μ := μ ++ [MO.dct manyG]) (x1 := some (.loc μ.length)) (d2 :: rest) 2 none (fun d hd => hP d (by simp at hd ⊢; simp [hd])) fun j => by
        rw [show 2 + j = j + 1 + 1 by omega, List.getElem?_cons_succ, List.getElem?_cons_succ]
      rw [fits_same hv hr] at hloop
      simp only [List.length_cons, show ((2 : Nat) : Int) = 2 from rfl] at hloop
      have hrange : ∀ μ : Store, kR2 [.imm (.int 2), .imm (.int ((rest.length + 1 + 1 + 1 : Nat) : Int))] μ = .ok (rangeW 2 (d2 :: rest).length, []) μ := fun μ => by
        have hr2 : rest.length ≤ 2 := by simp only [List.length_cons] at hr; omega
        rw [g_kR2 ⟨by omega, by omega⟩ ⟨by omega, by omega⟩]
        rw [show (((rest.length + 1 + 1 + 1 : Nat) : Int) - 2).toNat = (d2 :: rest).length by simp only [List.length_cons]; omega]
      rcases Bool.eq_false_or_eq_true (fitsB a (d2 :: rest) v.cps.toList) with hb | hb
      case inr =>
        have e2 : isFactB (.int a :: .str w :: d2 :: rest) = false := by
          simp only [isFactB, hv, hb, Bool.and_false, Bool.false_and]
        rw [e2]
        have e := hloop.2 hb
        unfold g_law_isfact m_law_isfact
        simp_arith [n0, n1, hl, me, h15, hni, e3, hx, e4, e0, e1, hrange, e]
      have e2 : isFactB (.int a :: .str w :: d2 :: rest) = neqB w (d2 :: rest) := by
        simp only [isFactB, hv, hb]
        rw [decide_eq_true a0, decide_eq_true a1, decide_eq_true hr]
        simp only [Bool.true_and]
      rw [e2]
      obtain ⟨y2, e⟩ := hloop.1 hb
      by_cases hg : w = "grant"
      · subst hg
        have := hs5 rfl
        rcases rest with _ | ⟨y, _ | ⟨z, _ | ⟨t, r⟩⟩⟩
        case cons.cons.nil =>
          have hv' : v = "fpp" := by
            have : shapes.lookup ("grant" : Str) = some "fpp" := by rfl
            rw [this] at hv; cases hv; rfl
          subst hv'
          have hbb : fitsB a [d2, y, z] ("fpp" : Str).cps.toList = true := hb
          rw [show ("fpp" : Str).cps.toList = [102, 112, 112] from by decide +kernel] at hbb
          simp only [fitsB, Bool.and_eq_true] at hbb
          obtain ⟨p, rfl⟩ := part_int hbb.1
          obtain ⟨q, rfl⟩ := part_int hbb.2.1
          obtain ⟨r, rfl⟩ := part_int hbb.2.2.1
          have e5 : neqB "grant" [.int p, .int q, .int r] = !decide (q = r) := by simp [neqB]
          rw [e5]
          have e6 : (decide (("grant" : Str) = "grant")) = true := decide_eq_true rfl
          simp only [List.length_cons, List.length_nil, Nat.zero_add, Nat.reduceAdd] at e4 hl hrange e
          unfold g_law_isfact m_law_isfact
          simp_arith [n0, n1, hl, me, h15, hni, e3, hx, e4, e0, e1, hrange, e, e6]
        all_goals
          exfalso
          simp only [List.length_cons, List.length_nil] at hr
          omega
      · have q1 := decide_eq_false hg
        by_cases hw : w = "walk"
        · subst hw
          have := hs6 rfl
          rcases rest with _ | ⟨y, _ | ⟨z, r⟩⟩
          case cons.nil =>
            have hv' : v = "ff" := by
              have : shapes.lookup ("walk" : Str) = some "ff" := by rfl
              rw [this] at hv; cases hv; rfl
            subst hv'
            have hbb : fitsB a [d2, y] ("ff" : Str).cps.toList = true := hb
            rw [show ("ff" : Str).cps.toList = [102, 102] from by decide +kernel] at hbb
            simp only [fitsB, Bool.and_eq_true] at hbb
            obtain ⟨p, rfl⟩ := part_int hbb.1
            obtain ⟨q, rfl⟩ := part_int hbb.2.1
            have e5 : neqB "walk" [.int p, .int q] = !decide (p = q) := by simp [neqB]
            rw [e5]
            have e6 : (decide (("walk" : Str) = "walk")) = true := decide_eq_true rfl
            simp only [List.length_cons, List.length_nil, Nat.zero_add, Nat.reduceAdd] at e4 hl hrange e
            unfold g_law_isfact m_law_isfact
            simp_arith [n0, n1, hl, me, h15, hni, e3, hx, e4, e0, e1, hrange, e, q1, e6]
          all_goals
            exfalso
            simp only [List.length_cons, List.length_nil] at hr
            omega
        · have q2 := decide_eq_false hw
          have e5 : neqB w (d2 :: rest) = true := by
            unfold neqB
            split
            · rw [if_neg hw]
            · rw [if_neg hg]
            · rfl
          rw [e5]
          unfold g_law_isfact m_law_isfact
          simp_arith [n0, n1, hl, me, h15, hni, e3, hx, e4, e0, e1, hrange, e, q1, q2]
end Lw

namespace Lw
open PySem Gx
/-- what befalls a field -/
inductive Ev where
  | grant (g t : Int) | enter (a : Int) | leave | hand (a : Int) | yes | sue (a : Int) | win | fall
/-- a fact -/
inductive Fa where
  | ev (day field : Int) (e : Ev) | bar (day one til : Int) | walk (day over to : Int)
def Ev.D (day field : Int) : Ev → D
  | .grant g t => .tup [.int day, .str "grant", .int field, .int g, .int t]
  | .enter a => .tup [.int day, .str "enter", .int field, .int a]
  | .leave => .tup [.int day, .str "leave", .int field]
  | .hand a => .tup [.int day, .str "hand", .int field, .int a]
  | .yes => .tup [.int day, .str "yes", .int field]
  | .sue a => .tup [.int day, .str "sue", .int field, .int a]
  | .win => .tup [.int day, .str "win", .int field]
  | .fall => .tup [.int day, .str "fall", .int field]
theorem Ev.day0 (day field : Int) (e : Ev) : ∃ r, e.D day field = .tup (.int day :: r) := by cases e <;> exact ⟨_, rfl⟩
def Fa.D : Fa → D
  | .ev day field e => e.D day field
  | .bar day one til => .tup [.int day, .str "bar", .int one, .int til]
  | .walk day over to => .tup [.int day, .str "walk", .int over, .int to]
def Fa.day : Fa → Int
  | .ev d _ _ => d
  | .bar d _ _ => d
  | .walk d _ _ => d
def Ev.Ok (folk : List Int) : Ev → Prop
  | .grant g t => g ∈ folk ∧ t ∈ folk ∧ g ≠ t
  | .enter a => a ∈ folk
  | .hand a => a ∈ folk
  | .sue a => a ∈ folk
  | _ => True
theorem Fa.fact : ∀ f : Fa, factB f.D = true
  | .ev _ _ e => by cases e <;> rfl
  | .bar _ _ _ => rfl
  | .walk _ _ _ => rfl
theorem Fa.like : ∀ (f : Fa) (n : Nat), likeD (n + 2) f.D = true
  | .ev _ _ e, n => by cases e <;> rfl
  | .bar _ _ _, n => rfl
  | .walk _ _ _, n => rfl
theorem Fa.cmp : ∀ (f : Fa) (n : Nat), cmpD (n + 1) f.D = true
  | .ev _ _ e, n => by cases e <;> cases n <;> rfl
  | .bar _ _ _, n => by cases n <;> rfl
  | .walk _ _ _, n => by cases n <;> rfl
/-- a fact within the bounds -/
def nOk (x : Int) : Prop := 1 ≤ x ∧ x ≤ 999
def Ev.Good : Ev → Prop
  | .grant g t => nOk g ∧ nOk t ∧ g ≠ t
  | .enter a => nOk a
  | .hand a => nOk a
  | .sue a => nOk a
  | _ => True
def Fa.Good : Fa → Prop
  | .ev d f e => 0 ≤ d ∧ d ≤ 9999 ∧ nOk f ∧ e.Good
  | .bar d o t => 0 ≤ d ∧ d ≤ 9999 ∧ nOk o ∧ d < t ∧ t ≤ 10000
  | .walk d o t => 0 ≤ d ∧ d ≤ 9999 ∧ nOk o ∧ nOk t ∧ o ≠ t
/-- its parts -/
def Fa.ds (f : Fa) : List Gx.D := match f.D with
  | .tup ds => ds
  | _ => []
theorem Fa.tup (f : Fa) : f.D = .tup f.ds := by
  unfold Fa.ds
  cases f with
  | ev d x e => cases e <;> rfl
  | bar _ _ _ => rfl
  | walk _ _ _ => rfl
theorem Fa.len (f : Fa) : 3 ≤ f.ds.length ∧ f.ds.length ≤ 5 := by
  cases f with
  | ev d x e => cases e <;> simp [Fa.ds, Fa.D, Ev.D]
  | bar _ _ _ => simp [Fa.ds, Fa.D]
  | walk _ _ _ => simp [Fa.ds, Fa.D]
end Lw

namespace Lw
open PySem Gx
theorem in3_enter (μ : Store) : oIn (.imm (.str "enter")) (.imm (.tup [.str "enter", .str "hand", .str "sue"])) μ = .ok (.imm (.bl true)) μ := rfl
theorem in3_hand (μ : Store) : oIn (.imm (.str "hand")) (.imm (.tup [.str "enter", .str "hand", .str "sue"])) μ = .ok (.imm (.bl true)) μ := rfl
theorem in3_sue (μ : Store) : oIn (.imm (.str "sue")) (.imm (.tup [.str "enter", .str "hand", .str "sue"])) μ = .ok (.imm (.bl true)) μ := rfl
theorem in3_win (μ : Store) : oIn (.imm (.str "win")) (.imm (.tup [.str "enter", .str "hand", .str "sue"])) μ = .ok (.imm (.bl false)) μ := rfl
theorem in3_yes (μ : Store) : oIn (.imm (.str "yes")) (.imm (.tup [.str "enter", .str "hand", .str "sue"])) μ = .ok (.imm (.bl false)) μ := rfl
theorem in3_leave (μ : Store) : oIn (.imm (.str "leave")) (.imm (.tup [.str "enter", .str "hand", .str "sue"])) μ = .ok (.imm (.bl false)) μ := rfl
theorem in3_fall (μ : Store) : oIn (.imm (.str "fall")) (.imm (.tup [.str "enter", .str "hand", .str "sue"])) μ = .ok (.imm (.bl false)) μ := rfl
theorem mod999 {r x : Int} (hr : 0 ≤ r ∧ r ≤ 998) (hx : 0 ≤ x ∧ x ≤ 997) : 0 ≤ (r + 1 + x) % 999 ∧ (r + 1 + x) % 999 ≤ 998 ∧ (r + 1 + x) % 999 ≠ r := by omega
theorem v_anyfact (c : Int) : ∃ f : Fa, f.Good ∧ ∀ μ, retr μ (g_law_anyfact [.imm (.int c)] μ).fin = .ok (.imm f.D) μ := by
  obtain ⟨ds, hb, hdg⟩ := r_dig c [10, 10000, 999, 999, 998, 10000, 6] (by decide) (by decide)
  obtain ⟨r0, _, rfl, a0, b0, r1, _, rfl, a1, b1, r2, _, rfl, a2, b2, r3, _, rfl, a3, b3, r4, _, rfl, a4, b4, r5, _, rfl, a5, b5, r6, _, rfl, a6, b6, rfl⟩ := hb
  simp only [List.map_cons, List.map_nil] at hdg
  obtain ⟨m1, m2, m3⟩ := mod999 (r := r3) (x := r4) ⟨a3, by omega⟩ ⟨a4, by omega⟩
  -- the day
  have hday : ∃ day : Int, 0 ≤ day ∧ day ≤ 9999 ∧ ∀ (w : Option W) (μ : Store),
      kIfS (mAsg (mOp oIx (mTup (mCons (mC (.int 0)) (mCons (mC (.int 9999)) (mNil)))) (mOp oMod (mOp oIx (mVar 1) (mC (.int 2))) (mC (.int 2)))) (mgN 4)) (mSkip) [(some (.imm (.int (c)))), (some (.imm (.lst [.int r0, .int r1, .int r2, .int r3, .int r4, .int r5, .int r6]))), (some (.imm (.lst [.str "bar", .str "enter", .str "fall", .str "grant", .str "hand", .str "leave", .str "sue", .str "walk", .str "win", .str "yes"]))), w, (some (.imm (.int (r1)))), none, none, none] (decide (r6 = 0)) μ = .nx [(some (.imm (.int (c)))), (some (.imm (.lst [.int r0, .int r1, .int r2, .int r3, .int r4, .int r5, .int r6]))), (some (.imm (.lst [.str "bar", .str "enter", .str "fall", .str "grant", .str "hand", .str "leave", .str "sue", .str "walk", .str "win", .str "yes"]))), w, (some (.imm (.int (day)))), none, none, none] μ := by
    by_cases h6 : r6 = 0
    · have q := decide_eq_true h6
      have : r2 % 2 = 0 ∨ r2 % 2 = 1 := by omega
      rcases this with h2 | h2
      · exact ⟨0, by omega, by omega, fun w μ => by simp_arith [q, h2]⟩
      · exact ⟨9999, by omega, by omega, fun w μ => by simp_arith [q, h2]⟩
    · have q := decide_eq_false h6
      exact ⟨r1, a1, by omega, fun w μ => by simp_arith [q]⟩
  obtain ⟨day, d0, d1, hday⟩ := hday
  have hp : (0 : Int) < 10000 - day := by omega
  have hr : r0 = 0 ∨ r0 = 1 ∨ r0 = 2 ∨ r0 = 3 ∨ r0 = 4 ∨ r0 = 5 ∨ r0 = 6 ∨ r0 = 7 ∨ r0 = 8 ∨ r0 = 9 := by omega
  have n1 : nOk (1 + r2) := ⟨by omega, by omega⟩
  have n2 : nOk (1 + r3) := ⟨by omega, by omega⟩
  have n3 : nOk (1 + (r3 + 1 + r4) % 999) := ⟨by omega, by omega⟩
  have x1 := Int.emod_nonneg r5 (b := 10000 - day) (by omega)
  have x2 := Int.emod_lt_of_pos r5 (b := 10000 - day) hp
  rcases hr with rfl | rfl | rfl | rfl | rfl | rfl | rfl | rfl | rfl | rfl
  · refine ⟨.bar day (1 + r2) (day + 1 + r5 % (10000 - day)), ⟨d0, d1, n1, by omega, by omega⟩, fun μ => retr_fin (retr_imm0 ?_)⟩
    unfold g_law_anyfact m_law_anyfact
    simp_arith [hdg, hday, hp, we_grant_grant, we_grant_enter, we_grant_leave, we_grant_hand, we_grant_yes, we_grant_sue, we_grant_win, we_grant_fall, we_grant_bar, we_grant_walk, we_enter_grant, we_enter_enter, we_enter_leave, we_enter_hand, we_enter_yes, we_enter_sue, we_enter_win, we_enter_fall, we_enter_bar, we_enter_walk, we_leave_grant, we_leave_enter, we_leave_leave, we_leave_hand, we_leave_yes, we_leave_sue, we_leave_win, we_leave_fall, we_leave_bar, we_leave_walk, we_hand_grant, we_hand_enter, we_hand_leave, we_hand_hand, we_hand_yes, we_hand_sue, we_hand_win, we_hand_fall, we_hand_bar, we_hand_walk, we_yes_grant, we_yes_enter, we_yes_leave, we_yes_hand, we_yes_yes, we_yes_sue, we_yes_win, we_yes_fall, we_yes_bar, we_yes_walk, we_sue_grant, we_sue_enter, we_sue_leave, we_sue_hand, we_sue_yes, we_sue_sue, we_sue_win, we_sue_fall, we_sue_bar, we_sue_walk, we_win_grant, we_win_enter, we_win_leave, we_win_hand, we_win_yes, we_win_sue, we_win_win, we_win_fall, we_win_bar, we_win_walk, we_fall_grant, we_fall_enter, we_fall_leave, we_fall_hand, we_fall_yes, we_fall_sue, we_fall_win, we_fall_fall, we_fall_bar, we_fall_walk, we_bar_grant, we_bar_enter, we_bar_leave, we_bar_hand, we_bar_yes, we_bar_sue, we_bar_win, we_bar_fall, we_bar_bar, we_bar_walk, we_walk_grant, we_walk_enter, we_walk_leave, we_walk_hand, we_walk_yes, we_walk_sue, we_walk_win, we_walk_fall, we_walk_bar, we_walk_walk, Fa.D]
  · refine ⟨.ev day (1 + r2) (.enter (1 + r3)), ⟨d0, d1, n1, n2⟩, fun μ => retr_fin (retr_imm0 ?_)⟩
    unfold g_law_anyfact m_law_anyfact
    simp_arith [hdg, hday, hp, we_grant_grant, we_grant_enter, we_grant_leave, we_grant_hand, we_grant_yes, we_grant_sue, we_grant_win, we_grant_fall, we_grant_bar, we_grant_walk, we_enter_grant, we_enter_enter, we_enter_leave, we_enter_hand, we_enter_yes, we_enter_sue, we_enter_win, we_enter_fall, we_enter_bar, we_enter_walk, we_leave_grant, we_leave_enter, we_leave_leave, we_leave_hand, we_leave_yes, we_leave_sue, we_leave_win, we_leave_fall, we_leave_bar, we_leave_walk, we_hand_grant, we_hand_enter, we_hand_leave, we_hand_hand, we_hand_yes, we_hand_sue, we_hand_win, we_hand_fall, we_hand_bar, we_hand_walk, we_yes_grant, we_yes_enter, we_yes_leave, we_yes_hand, we_yes_yes, we_yes_sue, we_yes_win, we_yes_fall, we_yes_bar, we_yes_walk, we_sue_grant, we_sue_enter, we_sue_leave, we_sue_hand, we_sue_yes, we_sue_sue, we_sue_win, we_sue_fall, we_sue_bar, we_sue_walk, we_win_grant, we_win_enter, we_win_leave, we_win_hand, we_win_yes, we_win_sue, we_win_win, we_win_fall, we_win_bar, we_win_walk, we_fall_grant, we_fall_enter, we_fall_leave, we_fall_hand, we_fall_yes, we_fall_sue, we_fall_win, we_fall_fall, we_fall_bar, we_fall_walk, we_bar_grant, we_bar_enter, we_bar_leave, we_bar_hand, we_bar_yes, we_bar_sue, we_bar_win, we_bar_fall, we_bar_bar, we_bar_walk, we_walk_grant, we_walk_enter, we_walk_leave, we_walk_hand, we_walk_yes, we_walk_sue, we_walk_win, we_walk_fall, we_walk_bar, we_walk_walk, in3_enter, Fa.D, Ev.D]
  · refine ⟨.ev day (1 + r2) .fall, ⟨d0, d1, n1, trivial⟩, fun μ => retr_fin (retr_imm0 ?_)⟩
    unfold g_law_anyfact m_law_anyfact
    simp_arith [hdg, hday, hp, we_grant_grant, we_grant_enter, we_grant_leave, we_grant_hand, we_grant_yes, we_grant_sue, we_grant_win, we_grant_fall, we_grant_bar, we_grant_walk, we_enter_grant, we_enter_enter, we_enter_leave, we_enter_hand, we_enter_yes, we_enter_sue, we_enter_win, we_enter_fall, we_enter_bar, we_enter_walk, we_leave_grant, we_leave_enter, we_leave_leave, we_leave_hand, we_leave_yes, we_leave_sue, we_leave_win, we_leave_fall, we_leave_bar, we_leave_walk, we_hand_grant, we_hand_enter, we_hand_leave, we_hand_hand, we_hand_yes, we_hand_sue, we_hand_win, we_hand_fall, we_hand_bar, we_hand_walk, we_yes_grant, we_yes_enter, we_yes_leave, we_yes_hand, we_yes_yes, we_yes_sue, we_yes_win, we_yes_fall, we_yes_bar, we_yes_walk, we_sue_grant, we_sue_enter, we_sue_leave, we_sue_hand, we_sue_yes, we_sue_sue, we_sue_win, we_sue_fall, we_sue_bar, we_sue_walk, we_win_grant, we_win_enter, we_win_leave, we_win_hand, we_win_yes, we_win_sue, we_win_win, we_win_fall, we_win_bar, we_win_walk, we_fall_grant, we_fall_enter, we_fall_leave, we_fall_hand, we_fall_yes, we_fall_sue, we_fall_win, we_fall_fall, we_fall_bar, we_fall_walk, we_bar_grant, we_bar_enter, we_bar_leave, we_bar_hand, we_bar_yes, we_bar_sue, we_bar_win, we_bar_fall, we_bar_bar, we_bar_walk, we_walk_grant, we_walk_enter, we_walk_leave, we_walk_hand, we_walk_yes, we_walk_sue, we_walk_win, we_walk_fall, we_walk_bar, we_walk_walk, in3_fall, Fa.D, Ev.D]
  · refine ⟨.ev day (1 + r2) (.grant (1 + r3) (1 + (r3 + 1 + r4) % 999)), ⟨d0, d1, n1, n2, n3, by omega⟩, fun μ => retr_fin (retr_imm0 ?_)⟩
    unfold g_law_anyfact m_law_anyfact
    simp_arith [hdg, hday, hp, we_grant_grant, we_grant_enter, we_grant_leave, we_grant_hand, we_grant_yes, we_grant_sue, we_grant_win, we_grant_fall, we_grant_bar, we_grant_walk, we_enter_grant, we_enter_enter, we_enter_leave, we_enter_hand, we_enter_yes, we_enter_sue, we_enter_win, we_enter_fall, we_enter_bar, we_enter_walk, we_leave_grant, we_leave_enter, we_leave_leave, we_leave_hand, we_leave_yes, we_leave_sue, we_leave_win, we_leave_fall, we_leave_bar, we_leave_walk, we_hand_grant, we_hand_enter, we_hand_leave, we_hand_hand, we_hand_yes, we_hand_sue, we_hand_win, we_hand_fall, we_hand_bar, we_hand_walk, we_yes_grant, we_yes_enter, we_yes_leave, we_yes_hand, we_yes_yes, we_yes_sue, we_yes_win, we_yes_fall, we_yes_bar, we_yes_walk, we_sue_grant, we_sue_enter, we_sue_leave, we_sue_hand, we_sue_yes, we_sue_sue, we_sue_win, we_sue_fall, we_sue_bar, we_sue_walk, we_win_grant, we_win_enter, we_win_leave, we_win_hand, we_win_yes, we_win_sue, we_win_win, we_win_fall, we_win_bar, we_win_walk, we_fall_grant, we_fall_enter, we_fall_leave, we_fall_hand, we_fall_yes, we_fall_sue, we_fall_win, we_fall_fall, we_fall_bar, we_fall_walk, we_bar_grant, we_bar_enter, we_bar_leave, we_bar_hand, we_bar_yes, we_bar_sue, we_bar_win, we_bar_fall, we_bar_bar, we_bar_walk, we_walk_grant, we_walk_enter, we_walk_leave, we_walk_hand, we_walk_yes, we_walk_sue, we_walk_win, we_walk_fall, we_walk_bar, we_walk_walk, Fa.D, Ev.D]
  · refine ⟨.ev day (1 + r2) (.hand (1 + r3)), ⟨d0, d1, n1, n2⟩, fun μ => retr_fin (retr_imm0 ?_)⟩
    unfold g_law_anyfact m_law_anyfact
    simp_arith [hdg, hday, hp, we_grant_grant, we_grant_enter, we_grant_leave, we_grant_hand, we_grant_yes, we_grant_sue, we_grant_win, we_grant_fall, we_grant_bar, we_grant_walk, we_enter_grant, we_enter_enter, we_enter_leave, we_enter_hand, we_enter_yes, we_enter_sue, we_enter_win, we_enter_fall, we_enter_bar, we_enter_walk, we_leave_grant, we_leave_enter, we_leave_leave, we_leave_hand, we_leave_yes, we_leave_sue, we_leave_win, we_leave_fall, we_leave_bar, we_leave_walk, we_hand_grant, we_hand_enter, we_hand_leave, we_hand_hand, we_hand_yes, we_hand_sue, we_hand_win, we_hand_fall, we_hand_bar, we_hand_walk, we_yes_grant, we_yes_enter, we_yes_leave, we_yes_hand, we_yes_yes, we_yes_sue, we_yes_win, we_yes_fall, we_yes_bar, we_yes_walk, we_sue_grant, we_sue_enter, we_sue_leave, we_sue_hand, we_sue_yes, we_sue_sue, we_sue_win, we_sue_fall, we_sue_bar, we_sue_walk, we_win_grant, we_win_enter, we_win_leave, we_win_hand, we_win_yes, we_win_sue, we_win_win, we_win_fall, we_win_bar, we_win_walk, we_fall_grant, we_fall_enter, we_fall_leave, we_fall_hand, we_fall_yes, we_fall_sue, we_fall_win, we_fall_fall, we_fall_bar, we_fall_walk, we_bar_grant, we_bar_enter, we_bar_leave, we_bar_hand, we_bar_yes, we_bar_sue, we_bar_win, we_bar_fall, we_bar_bar, we_bar_walk, we_walk_grant, we_walk_enter, we_walk_leave, we_walk_hand, we_walk_yes, we_walk_sue, we_walk_win, we_walk_fall, we_walk_bar, we_walk_walk, in3_hand, Fa.D, Ev.D]
  · refine ⟨.ev day (1 + r2) .leave, ⟨d0, d1, n1, trivial⟩, fun μ => retr_fin (retr_imm0 ?_)⟩
    unfold g_law_anyfact m_law_anyfact
    simp_arith [hdg, hday, hp, we_grant_grant, we_grant_enter, we_grant_leave, we_grant_hand, we_grant_yes, we_grant_sue, we_grant_win, we_grant_fall, we_grant_bar, we_grant_walk, we_enter_grant, we_enter_enter, we_enter_leave, we_enter_hand, we_enter_yes, we_enter_sue, we_enter_win, we_enter_fall, we_enter_bar, we_enter_walk, we_leave_grant, we_leave_enter, we_leave_leave, we_leave_hand, we_leave_yes, we_leave_sue, we_leave_win, we_leave_fall, we_leave_bar, we_leave_walk, we_hand_grant, we_hand_enter, we_hand_leave, we_hand_hand, we_hand_yes, we_hand_sue, we_hand_win, we_hand_fall, we_hand_bar, we_hand_walk, we_yes_grant, we_yes_enter, we_yes_leave, we_yes_hand, we_yes_yes, we_yes_sue, we_yes_win, we_yes_fall, we_yes_bar, we_yes_walk, we_sue_grant, we_sue_enter, we_sue_leave, we_sue_hand, we_sue_yes, we_sue_sue, we_sue_win, we_sue_fall, we_sue_bar, we_sue_walk, we_win_grant, we_win_enter, we_win_leave, we_win_hand, we_win_yes, we_win_sue, we_win_win, we_win_fall, we_win_bar, we_win_walk, we_fall_grant, we_fall_enter, we_fall_leave, we_fall_hand, we_fall_yes, we_fall_sue, we_fall_win, we_fall_fall, we_fall_bar, we_fall_walk, we_bar_grant, we_bar_enter, we_bar_leave, we_bar_hand, we_bar_yes, we_bar_sue, we_bar_win, we_bar_fall, we_bar_bar, we_bar_walk, we_walk_grant, we_walk_enter, we_walk_leave, we_walk_hand, we_walk_yes, we_walk_sue, we_walk_win, we_walk_fall, we_walk_bar, we_walk_walk, in3_leave, Fa.D, Ev.D]
  · refine ⟨.ev day (1 + r2) (.sue (1 + r3)), ⟨d0, d1, n1, n2⟩, fun μ => retr_fin (retr_imm0 ?_)⟩
    unfold g_law_anyfact m_law_anyfact
    simp_arith [hdg, hday, hp, we_grant_grant, we_grant_enter, we_grant_leave, we_grant_hand, we_grant_yes, we_grant_sue, we_grant_win, we_grant_fall, we_grant_bar, we_grant_walk, we_enter_grant, we_enter_enter, we_enter_leave, we_enter_hand, we_enter_yes, we_enter_sue, we_enter_win, we_enter_fall, we_enter_bar, we_enter_walk, we_leave_grant, we_leave_enter, we_leave_leave, we_leave_hand, we_leave_yes, we_leave_sue, we_leave_win, we_leave_fall, we_leave_bar, we_leave_walk, we_hand_grant, we_hand_enter, we_hand_leave, we_hand_hand, we_hand_yes, we_hand_sue, we_hand_win, we_hand_fall, we_hand_bar, we_hand_walk, we_yes_grant, we_yes_enter, we_yes_leave, we_yes_hand, we_yes_yes, we_yes_sue, we_yes_win, we_yes_fall, we_yes_bar, we_yes_walk, we_sue_grant, we_sue_enter, we_sue_leave, we_sue_hand, we_sue_yes, we_sue_sue, we_sue_win, we_sue_fall, we_sue_bar, we_sue_walk, we_win_grant, we_win_enter, we_win_leave, we_win_hand, we_win_yes, we_win_sue, we_win_win, we_win_fall, we_win_bar, we_win_walk, we_fall_grant, we_fall_enter, we_fall_leave, we_fall_hand, we_fall_yes, we_fall_sue, we_fall_win, we_fall_fall, we_fall_bar, we_fall_walk, we_bar_grant, we_bar_enter, we_bar_leave, we_bar_hand, we_bar_yes, we_bar_sue, we_bar_win, we_bar_fall, we_bar_bar, we_bar_walk, we_walk_grant, we_walk_enter, we_walk_leave, we_walk_hand, we_walk_yes, we_walk_sue, we_walk_win, we_walk_fall, we_walk_bar, we_walk_walk, in3_sue, Fa.D, Ev.D]
  · refine ⟨.walk day (1 + r3) (1 + (r3 + 1 + r4) % 999), ⟨d0, d1, n2, n3, by omega⟩, fun μ => retr_fin (retr_imm0 ?_)⟩
    unfold g_law_anyfact m_law_anyfact
    simp_arith [hdg, hday, hp, we_grant_grant, we_grant_enter, we_grant_leave, we_grant_hand, we_grant_yes, we_grant_sue, we_grant_win, we_grant_fall, we_grant_bar, we_grant_walk, we_enter_grant, we_enter_enter, we_enter_leave, we_enter_hand, we_enter_yes, we_enter_sue, we_enter_win, we_enter_fall, we_enter_bar, we_enter_walk, we_leave_grant, we_leave_enter, we_leave_leave, we_leave_hand, we_leave_yes, we_leave_sue, we_leave_win, we_leave_fall, we_leave_bar, we_leave_walk, we_hand_grant, we_hand_enter, we_hand_leave, we_hand_hand, we_hand_yes, we_hand_sue, we_hand_win, we_hand_fall, we_hand_bar, we_hand_walk, we_yes_grant, we_yes_enter, we_yes_leave, we_yes_hand, we_yes_yes, we_yes_sue, we_yes_win, we_yes_fall, we_yes_bar, we_yes_walk, we_sue_grant, we_sue_enter, we_sue_leave, we_sue_hand, we_sue_yes, we_sue_sue, we_sue_win, we_sue_fall, we_sue_bar, we_sue_walk, we_win_grant, we_win_enter, we_win_leave, we_win_hand, we_win_yes, we_win_sue, we_win_win, we_win_fall, we_win_bar, we_win_walk, we_fall_grant, we_fall_enter, we_fall_leave, we_fall_hand, we_fall_yes, we_fall_sue, we_fall_win, we_fall_fall, we_fall_bar, we_fall_walk, we_bar_grant, we_bar_enter, we_bar_leave, we_bar_hand, we_bar_yes, we_bar_sue, we_bar_win, we_bar_fall, we_bar_bar, we_bar_walk, we_walk_grant, we_walk_enter, we_walk_leave, we_walk_hand, we_walk_yes, we_walk_sue, we_walk_win, we_walk_fall, we_walk_bar, we_walk_walk, Fa.D, Ev.D]
  · refine ⟨.ev day (1 + r2) .win, ⟨d0, d1, n1, trivial⟩, fun μ => retr_fin (retr_imm0 ?_)⟩
    unfold g_law_anyfact m_law_anyfact
    simp_arith [hdg, hday, hp, we_grant_grant, we_grant_enter, we_grant_leave, we_grant_hand, we_grant_yes, we_grant_sue, we_grant_win, we_grant_fall, we_grant_bar, we_grant_walk, we_enter_grant, we_enter_enter, we_enter_leave, we_enter_hand, we_enter_yes, we_enter_sue, we_enter_win, we_enter_fall, we_enter_bar, we_enter_walk, we_leave_grant, we_leave_enter, we_leave_leave, we_leave_hand, we_leave_yes, we_leave_sue, we_leave_win, we_leave_fall, we_leave_bar, we_leave_walk, we_hand_grant, we_hand_enter, we_hand_leave, we_hand_hand, we_hand_yes, we_hand_sue, we_hand_win, we_hand_fall, we_hand_bar, we_hand_walk, we_yes_grant, we_yes_enter, we_yes_leave, we_yes_hand, we_yes_yes, we_yes_sue, we_yes_win, we_yes_fall, we_yes_bar, we_yes_walk, we_sue_grant, we_sue_enter, we_sue_leave, we_sue_hand, we_sue_yes, we_sue_sue, we_sue_win, we_sue_fall, we_sue_bar, we_sue_walk, we_win_grant, we_win_enter, we_win_leave, we_win_hand, we_win_yes, we_win_sue, we_win_win, we_win_fall, we_win_bar, we_win_walk, we_fall_grant, we_fall_enter, we_fall_leave, we_fall_hand, we_fall_yes, we_fall_sue, we_fall_win, we_fall_fall, we_fall_bar, we_fall_walk, we_bar_grant, we_bar_enter, we_bar_leave, we_bar_hand, we_bar_yes, we_bar_sue, we_bar_win, we_bar_fall, we_bar_bar, we_bar_walk, we_walk_grant, we_walk_enter, we_walk_leave, we_walk_hand, we_walk_yes, we_walk_sue, we_walk_win, we_walk_fall, we_walk_bar, we_walk_walk, in3_win, Fa.D, Ev.D]
  · refine ⟨.ev day (1 + r2) .yes, ⟨d0, d1, n1, trivial⟩, fun μ => retr_fin (retr_imm0 ?_)⟩
    unfold g_law_anyfact m_law_anyfact
    simp_arith [hdg, hday, hp, we_grant_grant, we_grant_enter, we_grant_leave, we_grant_hand, we_grant_yes, we_grant_sue, we_grant_win, we_grant_fall, we_grant_bar, we_grant_walk, we_enter_grant, we_enter_enter, we_enter_leave, we_enter_hand, we_enter_yes, we_enter_sue, we_enter_win, we_enter_fall, we_enter_bar, we_enter_walk, we_leave_grant, we_leave_enter, we_leave_leave, we_leave_hand, we_leave_yes, we_leave_sue, we_leave_win, we_leave_fall, we_leave_bar, we_leave_walk, we_hand_grant, we_hand_enter, we_hand_leave, we_hand_hand, we_hand_yes, we_hand_sue, we_hand_win, we_hand_fall, we_hand_bar, we_hand_walk, we_yes_grant, we_yes_enter, we_yes_leave, we_yes_hand, we_yes_yes, we_yes_sue, we_yes_win, we_yes_fall, we_yes_bar, we_yes_walk, we_sue_grant, we_sue_enter, we_sue_leave, we_sue_hand, we_sue_yes, we_sue_sue, we_sue_win, we_sue_fall, we_sue_bar, we_sue_walk, we_win_grant, we_win_enter, we_win_leave, we_win_hand, we_win_yes, we_win_sue, we_win_win, we_win_fall, we_win_bar, we_win_walk, we_fall_grant, we_fall_enter, we_fall_leave, we_fall_hand, we_fall_yes, we_fall_sue, we_fall_win, we_fall_fall, we_fall_bar, we_fall_walk, we_bar_grant, we_bar_enter, we_bar_leave, we_bar_hand, we_bar_yes, we_bar_sue, we_bar_win, we_bar_fall, we_bar_bar, we_bar_walk, we_walk_grant, we_walk_enter, we_walk_leave, we_walk_hand, we_walk_yes, we_walk_sue, we_walk_win, we_walk_fall, we_walk_bar, we_walk_walk, in3_yes, Fa.D, Ev.D]
end Lw

namespace Lw
open PySem Gx
/-- a number as a text -/
def numS (n : Nat) : Str := Str.ofString (toString ((n : Nat) : Int))
theorem numS_tl (n : Nat) : (numS n).cps.toList = TL.numL n := TL.tl_num n
theorem str1 (n : Nat) (h : n < 1000000) (μ : Store) : oStr1 [.imm (.int (n : Int))] μ = .ok (.imm (.str (numS n))) μ := by
  have e : oStr1 [.imm (.int (n : Int))] μ = if (n : Int).natAbs.log2 < 1920 then .ok (.imm (.str (numS n))) μ else .bad := rfl
  rw [e, if_pos]
  rw [Int.natAbs_natCast]
  by_cases h0 : n = 0
  · subst h0; decide
  · have := (Nat.log2_lt h0 (k := 20)).mpr (by omega)
    omega
theorem numL_head : ∀ n : Nat, n ≠ 0 → ∃ c r, TL.numL n = c :: r ∧ c ≠ 48
  | n, h0 => by
    by_cases h : n < 10
    · exact ⟨48 + n, [], TL.numL_lt h, by omega⟩
    · obtain ⟨c, r, e, hc⟩ := numL_head (n / 10) (by omega)
      exact ⟨c, r ++ [48 + n % 10], by rw [TL.numL_step (by omega), e]; rfl, hc⟩
theorem fig_cps : ("0123456789" : Str).cps.toList = [48, 49, 50, 51, 52, 53, 54, 55, 56, 57] := by decide +kernel
theorem in_fig {c : Nat} (h : 48 ≤ c ∧ c ≤ 57) (μ : Store) : oNotIn (.imm (.str ⟨#[c]⟩)) (.imm (.str "0123456789")) μ = .ok (.imm (.bl false)) μ := by
  have e : oNotIn (.imm (.str ⟨#[c]⟩)) (.imm (.str "0123456789")) μ = .ok (.imm (.bl (!decide (c ∈ ("0123456789" : Str).cps.toList)))) μ := rfl
  rw [e, fig_cps, decide_eq_true (by simp; omega)]
  rfl
theorem num_loop {x0 : Option W} {μ : Store} : ∀ (l : List Nat) (x1 : Option W), (∀ c ∈ l, 48 ≤ c ∧ c ≤ 57) → ∃ y, forL [] (mgN 1) b_number_of_0 (l.map fun c => W.imm (.str ⟨#[c]⟩)) [x0, x1] μ = .nx [x0, y] μ
  | [], x1, _ => ⟨x1, rfl⟩
  | c :: l, x1, h => by
    obtain ⟨y, e⟩ := num_loop (x0 := x0) (μ := μ) l (some (.imm (.str ⟨#[c]⟩))) fun c hc => h c (by simp [hc])
    refine ⟨y, ?_⟩
    have hc := fun μ => in_fig (h c (by simp)) μ
    rw [List.map_cons, forL_step (E1 := [x0, (some (.imm (.str ⟨#[c]⟩)))]) (E2 := [x0, (some (.imm (.str ⟨#[c]⟩)))]) (μ2 := μ) (by rfl) (by simp_arith [b_number_of_0, hc]) rfl, e]
theorem all_dig (n : Nat) : ∀ c ∈ TL.numL n, 48 ≤ c ∧ c ≤ 57 := fun c hc => by
  have := TL.numL_digits n c hc
  exact this
theorem v_number (n : Nat) (h : n < 1000000) (μ : Store) : g_number_of [.imm (.str (numS n))] μ = .ok (.imm (.int n)) μ := by
  have hl : (TL.numL n).length ≤ 6 := TL.numL_len (by decide) (by omega)
  have hlen : (numS n).length = (TL.numL n).length := by rw [TL.len_tl]; rw [show TL.tl (numS n) = TL.numL n from numS_tl n]
  have h1 : decide (numS n = ("" : Str)) = false := decide_eq_false fun e => by
    have := numS_tl n
    rw [e] at this
    exact TL.numL_ne n (this.symm.trans (by decide +kernel))
  have h2 : ∀ μ, oLen [.imm (.str (numS n))] μ = .ok (.imm (.int (numS n).length)) μ := fun μ => oLen_of (by
    have hc : (numS n).length ≤ cap := by rw [hlen]; exact Nat.le_trans hl (by decide)
    have e : lenW μ (.imm (.str (numS n))) = if (numS n).length ≤ cap then some ((numS n).length : Int) else none := rfl
    rw [e, if_pos hc])
  have h3 : decide ((6 : Int) < ((numS n).length : Int)) = false := decide_eq_false (by rw [hlen]; omega)
  have hi : ∀ μ, oIntX [.imm (.str (numS n))] μ = .ok (.imm (.int n)) μ := fun μ => by
    have e := TL.int_num (n := n) (by omega)
    have e2 : oIntX [.imm (.str (numS n))] μ = match PySem.intText? (numS n) with
      | some m => if (numS n).length ≤ 640 then .ok (.imm (.int m)) μ else .bad
      | none => .bad := rfl
    have e' : PySem.intText? (numS n) = some (n : Int) := e
    rw [e2, e']
    exact if_pos (by rw [hlen]; omega)
  obtain ⟨y, hloop⟩ := num_loop (x0 := (some (.imm (.str (numS n))))) (μ := μ) (TL.numL n) none (all_dig n)
  have hsrc : ∀ μ, kSrc (.imm (.str (numS n))) μ = .ok ((TL.numL n).map fun c => W.imm (.str ⟨#[c]⟩), []) μ := fun μ => by
    rw [← numS_tl]
    rfl
  have hfv : ∀ E' : Gx.Env, kFV 0 (mgN 1) b_number_of_0 E' μ (some (some (.imm (.str (numS n))))) = mFor (mSrc (mVar 0)) (mgN 1) b_number_of_0 E' μ := fun E' => rfl
  have hix : ∀ c r, TL.numL n = c :: r → ∀ μ, oIx (.imm (.str (numS n))) (.imm (.int 0)) μ = .ok (.imm (.str ⟨#[c]⟩)) μ := fun c r e μ => by
    have e2 : oIx (.imm (.str (numS n))) (.imm (.int 0)) μ = if (numS n).length ≤ cap then (match L2.atI (numS n).cps.toList 0 with
      | some c => .ok (.imm (.str ⟨#[c]⟩)) μ
      | none => .bad) else .bad := rfl
    have e3 : L2.atI (c :: r) 0 = some c := by
      unfold L2.atI L2.ixN
      simp
    rw [e2, if_pos (by rw [hlen]; exact Nat.le_trans hl (by decide)), numS_tl, e, e3]
  refine (show g_number_of [.imm (.str (numS n))] μ = kRunX (m_number_of _ μ) from rfl).trans ?_
  unfold m_number_of
  by_cases h0 : n = 0
  · subst h0
    have e0 : numS 0 = "0" := by decide +kernel
    have hx := hix 48 [] (by decide +kernel)
    have e1 : decide ((⟨#[48]⟩ : Str) = "0") = true := by decide +kernel
    have e2 : decide (numS 0 = "0") = true := decide_eq_true e0
    simp_arith [h1, h2, h3, hx, e1, e2, hfv, hsrc, hloop, hi]
  · obtain ⟨c, r, e, hc⟩ := numL_head n h0
    have hx := hix c r e
    have e1 : decide ((⟨#[c]⟩ : Str) = "0") = false := decide_eq_false fun q => by
      have : (⟨#[c]⟩ : Str).cps.toList = ("0" : Str).cps.toList := by rw [q]
      rw [show ("0" : Str).cps.toList = [48] from by decide +kernel] at this
      simp at this
      exact hc this
    simp_arith [h1, h2, h3, hx, e1, hfv, hsrc, hloop, hi]
/-- words parted by blanks -/
theorem joinL_len (S : List Nat) : ∀ ps : List (List Nat), (TL.joinL S ps).length ≤ (ps.map (·.length)).sum + ps.length * S.length
  | [] => Nat.zero_le _
  | [p] => by show p.length ≤ _; simp
  | p :: q :: r => by
    have ih := joinL_len S (q :: r)
    show (p ++ (S ++ TL.joinL S (q :: r))).length ≤ _
    rw [List.length_append, List.length_append, List.map_cons, List.sum_cons, List.length_cons]
    rw [Nat.add_mul]
    omega
def blank : Str := " "
theorem blank_tl : TL.tl blank = [32] := by decide +kernel
theorem join_len (ws : List Str) : (Txt.join blank ws).length ≤ (ws.map (·.length)).sum + ws.length := by
  rw [TL.len_tl, TL.join_eq, TL.tl_join]
  have := joinL_len (TL.tl blank) (ws.map TL.tl)
  rw [blank_tl] at this ⊢
  rw [List.map_map, List.length_map] at this
  have e : ws.map ((fun x : List Nat => x.length) ∘ TL.tl) = ws.map (·.length) := List.map_congr_left fun w _ => (TL.len_tl w).symm
  rw [e] at this
  simpa using this
theorem r_join (ws : List Str) (h : (ws.map (·.length)).sum + ws.length ≤ 1000000) (μ : Store) : kJoin2 " " (.imm (.lst (ws.map D.str))) μ = .ok (.imm (.str (Txt.join blank ws))) μ :=
  kJoin2_of (by rw [show (Str.ofString " ").length = 1 from by decide +kernel]; omega)
theorem r_split (ws : List Str) (h0 : ws ≠ []) (h : (ws.map (·.length)).sum + ws.length ≤ 1000000) (hp : ∀ p ∈ ws, 32 ∉ TL.tl p) (μ : Store) : kSplit2 true (Txt.join blank ws) (.imm (.str " ")) μ = .ok (.imm (.lst (ws.map D.str))) μ := by
  have e := TL.split_join (y := blank) (s := 32) (S := []) blank_tl (by decide +kernel) h0 hp
  rw [kSplit2_of (by decide +kernel) (Nat.le_trans (join_len ws) h)]
  rw [show Str.ofString " " = blank from rfl, e]
  rw [g_mkLt, g_immI]; rfl
end Lw

namespace Lw
open PySem Gx
theorem like_loop {G : Fg} {gd : Gd} {a0 a1 : Option W} {μ : Store} (hg : chk gd μ = true) : ∀ (ds : List D) (xs ys : List W) (x2 x3 : Option W), Sees μ xs ds → Sees μ ys ds → (∀ d ∈ ds, ∀ x y, See μ x d → See μ y d → G [x, y] μ = .ok (.imm (.bl true)) μ) →
    ∃ y2 y3, forL gd (mgT 2 (mgCons (mgN 2) (mgCons (mgN 3) mgNil))) (b_law_like_0 G) (zipW xs ys) [a0, a1, x2, x3] μ = .nx [a0, a1, y2, y3] μ
  | [], xs, ys, x2, x3, h1, h2, hG => by
    cases h1; cases h2
    exact ⟨x2, x3, rfl⟩
  | d :: ds, _, _, x2, x3, ⟨x, xr, e1, h1, h1r⟩, ⟨y, yr, e2, h2, h2r⟩, hG => by
    subst e1; subst e2
    obtain ⟨y2, y3, ih⟩ := like_loop hg ds xr yr (some x) (some y) h1r h2r fun d hd => hG d (by simp [hd])
    refine ⟨y2, y3, ?_⟩
    rw [show zipW (x :: xr) (y :: yr) = mkT [x, y] :: zipW xr yr from rfl]
    rw [forL_step (E1 := [a0, a1, some x, some y]) (E2 := [a0, a1, some x, some y]) (μ2 := μ) ?_ ?_ hg, ih]
    · unfold mgT
      rw [titems_mkT]
      rfl
    · have := hG d (by simp) x y h1 h2
      simp_arith [b_law_like_0, this]
theorem v_like (μ : Store) : ∀ (n : Nat) (d : D) (w1 w2 : W), likeD n d = true → See μ w1 d → See μ w2 d → gn_law_like n [w1, w2] μ = .ok (.imm (.bl true)) μ
  | 0, d, w1, w2, h, _, _ => by cases d <;> cases h
  | n + 1, .non, w1, w2, h, h1, h2 => by
    have e1 : w1 = .imm .non := h1
    have e2 : w2 = .imm .non := h2
    subst e1; subst e2
    unfold gn_law_like m_law_like
    simp_arith []
  | n + 1, .bl b, w1, w2, h, h1, h2 => by
    have e1 : w1 = .imm (.bl b) := h1
    have e2 : w2 = .imm (.bl b) := h2
    subst e1; subst e2
    unfold gn_law_like m_law_like
    simp_arith [kIsN_not (show isNonW (.imm (.bl b)) = false from rfl), decide_true]
  | n + 1, .int b, w1, w2, h, h1, h2 => by
    have e1 : w1 = .imm (.int b) := h1
    have e2 : w2 = .imm (.int b) := h2
    subst e1; subst e2
    unfold gn_law_like m_law_like
    simp_arith [g_law_whole, m_law_whole, decide_true]
  | n + 1, .str b, w1, w2, h, h1, h2 => by
    have e1 : w1 = .imm (.str b) := h1
    have e2 : w2 = .imm (.str b) := h2
    subst e1; subst e2
    unfold gn_law_like m_law_like
    have k : ∀ t : Nat, t ≤ 5 → oIsI [.imm (.str b), .imm (.ty t)] μ = .ok (.imm (.bl (isK 2 t))) μ := fun t ht => g_isI rfl ⟨by decide, ht⟩
    simp_arith [kIsN_not (show isNonW (.imm (.str b)) = false from rfl), decide_true, k 0 (by decide), k 1 (by decide), k 2 (by decide)]
  | n + 1, .tup ds, w1, w2, h, h1, h2 => by
    obtain ⟨xs, t1, s1, k1, n1, l1, r1⟩ := h1.tupP
    obtain ⟨ys, t2, s2, k2, n2, l2, r2⟩ := h2.tupP
    have hl := List.all_eq_true.mp (show ds.all (likeD n) = true from h)
    have q1 : ∀ t : Nat, t ≤ 5 → oIsI [w1, .imm (.ty t)] μ = .ok (.imm (.bl (isK 3 t))) μ := fun t ht => g_isI k1 ⟨by decide, ht⟩
    have q2 : ∀ t : Nat, t ≤ 5 → oIsI [w2, .imm (.ty t)] μ = .ok (.imm (.bl (isK 3 t))) μ := fun t ht => g_isI k2 ⟨by decide, ht⟩
    have z1 := oLen_of (lenW_t r1 t1)
    have z2 := oLen_of (lenW_t r2 t2)
    rw [s1.len] at z1
    rw [s2.len] at z2
    have z3 := kZip_tup l1 t1 t2
    obtain ⟨y2, y3, e⟩ := like_loop (G := gn_law_like n) (gd := []) (a0 := some w1) (a1 := some w2) (μ := μ) rfl ds xs ys none none s1 s2 fun d hd x y hx hy => v_like μ n d x y (hl d hd) hx hy
    unfold gn_law_like m_law_like
    simp_arith [kIsN_not n2, q1 0 (by decide), q1 1 (by decide), q1 2 (by decide), q1 3 (by decide), q1 4 (by decide), q2 0 (by decide), q2 1 (by decide), q2 2 (by decide), q2 3 (by decide), q2 4 (by decide), z1, z2, decide_true, oNe_refl (show cmpD fuelD (.bl true) = true from rfl), oNe_refl (show cmpD fuelD (.bl false) = true from rfl), z3, e]
  | n + 1, .lst ds, w1, w2, h, h1, h2 => by
    obtain ⟨xs, g1, l1, c1, s1, k1, n1, r1⟩ := h1.lstP
    obtain ⟨ys, g2, l2, c2, s2, k2, n2, r2⟩ := h2.lstP
    have hl := List.all_eq_true.mp (show ds.all (likeD n) = true from h)
    have q1 : ∀ t : Nat, t ≤ 5 → oIsI [w1, .imm (.ty t)] μ = .ok (.imm (.bl (isK 4 t))) μ := fun t ht => g_isI k1 ⟨by decide, ht⟩
    have q2 : ∀ t : Nat, t ≤ 5 → oIsI [w2, .imm (.ty t)] μ = .ok (.imm (.bl (isK 4 t))) μ := fun t ht => g_isI k2 ⟨by decide, ht⟩
    have z1 := oLen_of (lenW_r r1)
    have z2 := oLen_of (lenW_r r2)
    rw [s1.len] at z1
    rw [s2.len] at z2
    have z3 := kZip_lst l1 l2
    obtain ⟨y2, y3, e⟩ := like_loop (G := gn_law_like n) (gd := g1 ++ g2) (a0 := some w1) (a1 := some w2) (μ := μ) (by rw [chk_app, c1, c2]; rfl) ds xs ys none none s1 s2 fun d hd x y hx hy => v_like μ n d x y (hl d hd) hx hy
    unfold gn_law_like m_law_like
    simp_arith [kIsN_not n2, q1 0 (by decide), q1 1 (by decide), q1 2 (by decide), q1 3 (by decide), q1 4 (by decide), q2 0 (by decide), q2 1 (by decide), q2 2 (by decide), q2 3 (by decide), q2 4 (by decide), z1, z2, decide_true, oNe_refl (show cmpD fuelD (.bl true) = true from rfl), oNe_refl (show cmpD fuelD (.bl false) = true from rfl), z3, e]
/-- two that are seen alike -/
theorem r_like {μ : Store} {w1 w2 : W} {d : D} (h : likeD 8 d = true) (h1 : See μ w1 d) (h2 : See μ w2 d) : g_law_like [w1, w2] μ = .ok (.imm (.bl true)) μ := v_like μ 8 d w1 w2 h h1 h2
end Lw

namespace Lw
open PySem Gx
def errNames : List Str := ["BadTerm", "BadFact", "BadLine", "NoFolk", "NoField", "NoFact", "NoStand", "Told", "Full"]
theorem oEq_strs {a b : Str} {μ : Store} : oEq (.imm (.str a)) (.imm (.str b)) μ = .ok (.imm (.bl (decide (a = b)))) μ := g_eqS
theorem v_flags (s : Str) (hs : s ≠ "") (μ : Store) : retr μ (g_law_flags [.imm (.str s)] μ).fin = .ok (.imm (.lst (.bl true :: errNames.map fun n => D.bl (decide (n = s))))) μ := by
  have hd : decide (s = ("" : Str)) = false := decide_eq_false hs
  have e := fun μ => lc_data (mit := mSrc (mVar 1)) (E := [(some (.imm (.str s))), (some (.imm (.lst (errNames.map D.str)))), none]) (μ := μ) (tg := mgN 2) (mt := mYes) (me := mOp oEq (mVar 2) (mVar 0)) (vs := [2]) (ds := errNames.map D.str)
    (f := fun d => match d with | .str n => some (.bl (decide (n = s))) | _ => none) (by simp_arith []) (by decide) fun d hd => by
      obtain ⟨n, _, rfl⟩ := List.mem_map.mp hd
      exact ⟨_, rfl, fun μ => ⟨rfl, by simp_arith [wipeW]⟩⟩
  have e2 : (errNames.map D.str).filterMap (fun d => match d with | .str n => some (D.bl (decide (n = s))) | _ => none) = errNames.map fun n => D.bl (decide (n = s)) := by
    rw [List.filterMap_map, ← List.filterMap_eq_map]
    rfl
  refine retr_fin (retr_imm0 ?_)
  unfold g_law_flags m_law_flags
  rw [e2] at e
  have e3 := e μ
  unfold errNames at e3 ⊢
  simp only [List.map_cons, List.map_nil] at e3 ⊢
  simp_arith [hd, e3]
theorem v_flags0 (μ : Store) : retr μ (g_law_flags [.imm (.str "")] μ).fin = .ok (.imm (.lst [])) μ := by
  refine retr_fin (retr_imm0 ?_)
  unfold g_law_flags m_law_flags
  have hd : decide (("" : Str) = ("" : Str)) = true := decide_eq_true rfl
  simp_arith [hd]
def errName : Nat → Str
  | 11 => "BadTerm"
  | 12 => "BadFact"
  | 13 => "BadLine"
  | 14 => "NoFolk"
  | 15 => "NoField"
  | 16 => "NoFact"
  | 17 => "NoStand"
  | 18 => "Told"
  | _ => "Full"
theorem flags_said : ∀ c : Nat, 11 ≤ c → c ≤ 19 → (D.bl true :: errNames.map fun n => D.bl (decide (n = errName c))) = (saidL c).map D.bl ∧ errName c ≠ "" := fun c h1 h2 => by
  have h : c = 11 ∨ c = 12 ∨ c = 13 ∨ c = 14 ∨ c = 15 ∨ c = 16 ∨ c = 17 ∨ c = 18 ∨ c = 19 := by omega
  rcases h with h | h | h | h | h | h | h | h | h <;> subst h <;> exact ⟨by decide +kernel, by decide +kernel⟩
theorem r_flags (c : Nat) (h1 : 11 ≤ c) (h2 : c ≤ 19) (μ : Store) : retr μ (g_law_flags [.imm (.str (errName c))] μ).fin = .ok (.imm (.lst ((saidL c).map D.bl))) μ := by
  obtain ⟨e, h⟩ := flags_said c h1 h2
  rw [v_flags _ h, e]
theorem cmp_said (c : Nat) : cmpD fuelD (.lst ((saidL c).map D.bl)) = true := rfl
theorem neq_said (c : Nat) (μ : Store) : oNe (.imm (.lst ((saidL c).map D.bl))) (.imm (.lst ((saidL c).map D.bl))) μ = .ok (.imm (.bl false)) μ := oNe_refl (cmp_said c)
theorem eq_said (c : Nat) (μ : Store) : oEq (.imm (.lst ((saidL c).map D.bl))) (.imm (.lst ((saidL c).map D.bl))) μ = .ok (.imm (.bl true)) μ := oEq_refl (cmp_said c)
end Lw

namespace Lw
open PySem Gx
/-! ### figures -/
theorem numL_ge : ∀ (k n : Nat), 10 ^ k ≤ n → k < (TL.numL n).length
  | 0, n, _ => by
    have := TL.numL_ne n
    cases h : TL.numL n with
    | nil => exact absurd h this
    | cons a b => simp
  | k + 1, n, h => by
    have h1 : 10 ≤ n := by
      have : 10 ^ (k + 1) = 10 ^ k * 10 := Nat.pow_succ 10 k
      have : 1 ≤ 10 ^ k := Nat.one_le_pow _ _ (by decide)
      omega
    have h2 := numL_ge k (n / 10) (by
      have : 10 ^ (k + 1) = 10 ^ k * 10 := Nat.pow_succ 10 k
      omega)
    rw [TL.numL_step h1, List.length_append, List.length_singleton]
    omega
theorem dig_num : ∀ (k : Nat) (l : List Nat), l.length = k + 1 → (∀ c ∈ l, 48 ≤ c ∧ c ≤ 57) → (l = [48] ∨ l.head? ≠ some 48) → ∃ n, TL.numL n = l
  | 0, l, hl, hd, _ => by
    match l, hl with
    | [c], _ =>
      have := hd c (by simp)
      exact ⟨c - 48, by rw [TL.numL_lt (by omega)]; congr 1; omega⟩
  | k + 1, l, hl, hd, hz => by
    have hne : l ≠ [] := by intro h; rw [h] at hl; cases hl
    have hsp : l = l.dropLast ++ [l.getLast hne] := (List.dropLast_concat_getLast hne).symm
    have hdl : l.dropLast.length = k + 1 := by rw [List.length_dropLast]; omega
    have hz2 : l.head? ≠ some 48 := by
      rcases hz with h | h
      · rw [h] at hl; cases hl
      · exact h
    have hh : l.dropLast.head? ≠ some 48 := by
      intro h
      apply hz2
      rw [hsp, List.head?_append, h]
      rfl
    obtain ⟨m, hm⟩ := dig_num k l.dropLast hdl (fun c hc => hd c (List.dropLast_subset l hc)) (.inr hh)
    have hc := hd (l.getLast hne) (List.getLast_mem hne)
    have hm0 : m ≠ 0 := fun h => by
      rw [h, TL.numL_lt (by decide)] at hm
      exact hh (by rw [← hm]; rfl)
    refine ⟨10 * m + (l.getLast hne - 48), ?_⟩
    rw [TL.numL_step (by omega), show (10 * m + (l.getLast hne - 48)) / 10 = m by omega, hm, show 48 + (10 * m + (l.getLast hne - 48)) % 10 = l.getLast hne by omega]
    exact hsp.symm
/-- what a text is, as a number of at most K figures -/
theorem cases_num (K : Nat) (s : Str) : s = "" ∨ K < s.length ∨ (∃ c r, TL.tl s = 48 :: c :: r) ∨ (∃ c ∈ TL.tl s, ¬ (48 ≤ c ∧ c ≤ 57)) ∨ ∃ n, n < 10 ^ K ∧ s = numS n := by
  by_cases h1 : s = ""
  · exact .inl h1
  by_cases h2 : K < s.length
  · exact .inr (.inl h2)
  by_cases h4 : ∀ c ∈ TL.tl s, 48 ≤ c ∧ c ≤ 57
  · have hl : (TL.tl s).length = (TL.tl s).length - 1 + 1 := by
      have : TL.tl s ≠ [] := fun h => h1 (TL.ext_tl (h.trans (by decide +kernel)))
      have : 0 < (TL.tl s).length := List.length_pos_iff.mpr this
      omega
    by_cases h5 : TL.tl s = [48] ∨ (TL.tl s).head? ≠ some 48
    · obtain ⟨n, hn⟩ := dig_num _ _ hl h4 h5
      refine .inr (.inr (.inr (.inr ⟨n, ?_, TL.ext_tl (hn.symm.trans (numS_tl n).symm)⟩)))
      rcases Nat.lt_or_ge n (10 ^ K) with h | h
      · exact h
      · have := numL_ge K n h
        rw [hn, ← TL.len_tl] at this
        omega
    · have h6 : TL.tl s ≠ [48] := fun h => h5 (.inl h)
      have h7 : (TL.tl s).head? = some 48 := by
        cases hd : decide ((TL.tl s).head? = some 48) with
        | true => exact of_decide_eq_true hd
        | false => exact absurd (.inr (of_decide_eq_false hd)) h5
      refine .inr (.inr (.inl ?_))
      match hq : TL.tl s with
      | [] => rw [hq] at h7; cases h7
      | [a] => rw [hq] at h7 h6; cases h7; exact absurd rfl h6
      | a :: c :: r => rw [hq] at h7; cases h7; exact ⟨c, r, rfl⟩
  · refine .inr (.inr (.inr (.inl ?_)))
    exact Classical.byContradiction fun hn => h4 fun c hc => Classical.byContradiction fun h => hn ⟨c, hc, h⟩
/-! ### one word read as a number -/
theorem out_fig {c : Nat} (h : ¬ (48 ≤ c ∧ c ≤ 57)) (μ : Store) : oNotIn (.imm (.str ⟨#[c]⟩)) (.imm (.str "0123456789")) μ = .ok (.imm (.bl true)) μ := by
  have e : oNotIn (.imm (.str ⟨#[c]⟩)) (.imm (.str "0123456789")) μ = .ok (.imm (.bl (!decide (c ∈ ("0123456789" : Str).cps.toList)))) μ := rfl
  rw [e, fig_cps, decide_eq_false (by simp; omega)]
  rfl
theorem loop_bad {x0 : Option W} {μ : Store} : ∀ (l : List Nat) (x1 : Option W), (∃ c ∈ l, ¬ (48 ≤ c ∧ c ≤ 57)) → ∃ y, forL [] (mgN 1) b_number_of_0 (l.map fun c => W.imm (.str ⟨#[c]⟩)) [x0, x1] μ = .ex 13 [x0, y] μ
  | [], x1, h => by obtain ⟨c, hc, _⟩ := h; cases hc
  | c :: l, x1, h => by
    by_cases hc : 48 ≤ c ∧ c ≤ 57
    · obtain ⟨y, e⟩ := loop_bad (x0 := x0) (μ := μ) l (some (.imm (.str ⟨#[c]⟩))) (by
        obtain ⟨d, hd, h2⟩ := h
        rcases List.mem_cons.mp hd with rfl | hd
        · exact absurd hc h2
        · exact ⟨d, hd, h2⟩)
      refine ⟨y, ?_⟩
      have hc := fun μ => in_fig hc μ
      rw [List.map_cons, forL_step (E1 := [x0, (some (.imm (.str ⟨#[c]⟩)))]) (E2 := [x0, (some (.imm (.str ⟨#[c]⟩)))]) (μ2 := μ) (by rfl) (by simp_arith [b_number_of_0, hc]) rfl, e]
    · refine ⟨(some (.imm (.str ⟨#[c]⟩))), ?_⟩
      have hc := fun μ => out_fig hc μ
      rw [List.map_cons]
      exact forL_ex (E1 := [x0, (some (.imm (.str ⟨#[c]⟩)))]) (by rfl) (by simp_arith [b_number_of_0, hc])
theorem lloop {x0 : Option W} {μ : Store} : ∀ (l : List Nat) (x1 : Option W), (∀ c ∈ l, 48 ≤ c ∧ c ≤ 57) → ∃ y, forL [] (mgN 1) b_law_number_0 (l.map fun c => W.imm (.str ⟨#[c]⟩)) [x0, x1] μ = .nx [x0, y] μ
  | [], x1, _ => ⟨x1, rfl⟩
  | c :: l, x1, h => by
    obtain ⟨y, e⟩ := lloop (x0 := x0) (μ := μ) l (some (.imm (.str ⟨#[c]⟩))) fun c hc => h c (by simp [hc])
    refine ⟨y, ?_⟩
    have hc := fun μ => in_fig (h c (by simp)) μ
    rw [List.map_cons, forL_step (E1 := [x0, (some (.imm (.str ⟨#[c]⟩)))]) (E2 := [x0, (some (.imm (.str ⟨#[c]⟩)))]) (μ2 := μ) (by rfl) (by simp_arith [b_law_number_0, hc]) rfl, e]
theorem forL_rt {gd : Gd} {tg : Mg} {a : Ms} {w v : W} {ws : List W} {E E1 : Gx.Env} {μ μ2 : Store} (h1 : tg w E = some E1) (h2 : a E1 μ = .rt v μ2) : forL gd tg a (w :: ws) E μ = .rt v μ2 := by
  rw [forL, h1]; simp only; rw [h2]
theorem lloop_bad {x0 : Option W} {μ : Store} : ∀ (l : List Nat) (x1 : Option W), (∃ c ∈ l, ¬ (48 ≤ c ∧ c ≤ 57)) → forL [] (mgN 1) b_law_number_0 (l.map fun c => W.imm (.str ⟨#[c]⟩)) [x0, x1] μ = .rt (.imm .non) μ
  | [], x1, h => by obtain ⟨c, hc, _⟩ := h; cases hc
  | c :: l, x1, h => by
    by_cases hc : 48 ≤ c ∧ c ≤ 57
    · have e := lloop_bad (x0 := x0) (μ := μ) l (some (.imm (.str ⟨#[c]⟩))) (by
        obtain ⟨d, hd, h2⟩ := h
        rcases List.mem_cons.mp hd with rfl | hd
        · exact absurd hc h2
        · exact ⟨d, hd, h2⟩)
      have hc := fun μ => in_fig hc μ
      rw [List.map_cons, forL_step (E1 := [x0, (some (.imm (.str ⟨#[c]⟩)))]) (E2 := [x0, (some (.imm (.str ⟨#[c]⟩)))]) (μ2 := μ) (by rfl) (by simp_arith [b_law_number_0, hc]) rfl, e]
    · have hc := fun μ => out_fig hc μ
      rw [List.map_cons]
      exact forL_rt (E1 := [x0, (some (.imm (.str ⟨#[c]⟩)))]) (by rfl) (by simp_arith [b_law_number_0, hc])
end Lw

namespace Lw
open PySem Gx
theorem str_len {s : Str} (hl : s.length ≤ 200000) (μ : Store) : oLen [.imm (.str s)] μ = .ok (.imm (.int s.length)) μ := oLen_of (by
  have e : lenW μ (.imm (.str s)) = if s.length ≤ cap then some (s.length : Int) else none := rfl
  rw [e, if_pos (by unfold cap; omega)])
theorem str_0 {s : Str} {c : Nat} {r : List Nat} (hl : s.length ≤ 200000) (h : TL.tl s = c :: r) (μ : Store) : oIx (.imm (.str s)) (.imm (.int 0)) μ = .ok (.imm (.str ⟨#[c]⟩)) μ := by
  have e2 : oIx (.imm (.str s)) (.imm (.int 0)) μ = if s.length ≤ cap then (match L2.atI s.cps.toList 0 with
    | some c => .ok (.imm (.str ⟨#[c]⟩)) μ
    | none => .bad) else .bad := rfl
  have e3 : L2.atI (c :: r) 0 = some c := by
    unfold L2.atI L2.ixN
    simp
  have h : s.cps.toList = c :: r := h
  rw [e2, if_pos (by unfold cap; omega), h, e3]
theorem sign_0 {c : Nat} : decide ((⟨#[c]⟩ : Str) = "0") = decide (c = 48) := by
  by_cases h : c = 48
  · rw [h]
    decide +kernel
  · rw [decide_eq_false h, decide_eq_false]
    intro q
    have : (⟨#[c]⟩ : Str).cps.toList = ("0" : Str).cps.toList := by rw [q]
    rw [show ("0" : Str).cps.toList = [48] from by decide +kernel] at this
    simp at this
    exact h this
theorem numS_0 : numS 0 = "0" := by decide +kernel
theorem int_num {n : Nat} (h : n < 1000000000) (μ : Store) : oIntX [.imm (.str (numS n))] μ = .ok (.imm (.int n)) μ := by
  have hl : (TL.numL n).length ≤ 9 := TL.numL_len (by decide) (by omega)
  have hlen : (numS n).length = (TL.numL n).length := by rw [TL.len_tl]; rw [show TL.tl (numS n) = TL.numL n from numS_tl n]
  have e := TL.int_num (n := n) (by omega)
  have e2 : oIntX [.imm (.str (numS n))] μ = match PySem.intText? (numS n) with
    | some m => if (numS n).length ≤ 640 then .ok (.imm (.int m)) μ else .bad
    | none => .bad := rfl
  have e' : PySem.intText? (numS n) = some (n : Int) := e
  rw [e2, e']
  exact if_pos (by rw [hlen]; omega)
theorem str_ne {s : Str} (h : s ≠ "") : ∃ c r, TL.tl s = c :: r := by
  cases hq : TL.tl s with
  | nil => exact absurd (TL.ext_tl (hq.trans (by decide +kernel))) h
  | cons c r => exact ⟨c, r, rfl⟩
/-- no number of six figures -/
theorem v_numX {s : Str} (hl : s.length ≤ 200000) (h : ¬ ∃ n, n < 1000000 ∧ s = numS n) (μ : Store) : g_number_of [.imm (.str s)] μ = .ex 13 μ := by
  have h2 := fun μ => str_len hl μ
  have hsrc : ∀ μ, kSrc (.imm (.str s)) μ = .ok ((TL.tl s).map fun c => W.imm (.str ⟨#[c]⟩), []) μ := fun μ => rfl
  have hfv : ∀ E' : Gx.Env, kFV 0 (mgN 1) b_number_of_0 E' μ (some (some (.imm (.str s)))) = mFor (mSrc (mVar 0)) (mgN 1) b_number_of_0 E' μ := fun E' => rfl
  refine (show g_number_of [.imm (.str s)] μ = kRunX (m_number_of [(some (.imm (.str s))), none] μ) from rfl).trans ?_
  unfold m_number_of
  by_cases e0 : s = ""
  · have q := decide_eq_true e0
    simp_arith [q]
  have q0 := decide_eq_false e0
  by_cases e1 : 6 < s.length
  · have q1 : decide ((6 : Int) < (s.length : Int)) = true := decide_eq_true (by omega)
    simp_arith [q0, h2, q1]
  have q1 : decide ((6 : Int) < (s.length : Int)) = false := decide_eq_false (by omega)
  obtain ⟨c, r, hc⟩ := str_ne e0
  have hx := fun μ => str_0 hl hc μ
  by_cases e2 : c = 48
  · have q2 : decide ((⟨#[c]⟩ : Str) = "0") = true := by rw [sign_0]; exact decide_eq_true e2
    have q3 : decide (s = "0") = false := decide_eq_false fun z => h ⟨0, by decide, z.trans numS_0.symm⟩
    simp_arith [q0, h2, q1, hx, q2, q3]
  · have q2 : decide ((⟨#[c]⟩ : Str) = "0") = false := by rw [sign_0]; exact decide_eq_false e2
    have hbad : ∃ c ∈ TL.tl s, ¬ (48 ≤ c ∧ c ≤ 57) := by
      rcases cases_num 6 s with z | z | ⟨c', r', z⟩ | z | ⟨n, z1, z2⟩
      · exact absurd z e0
      · exact absurd z e1
      · rw [hc] at z
        exact absurd (List.cons.inj z).1 e2
      · exact z
      · exact absurd ⟨n, z1, z2⟩ h
    obtain ⟨y, hloop⟩ := loop_bad (x0 := (some (.imm (.str s)))) (μ := μ) (TL.tl s) none hbad
    simp_arith [q0, h2, q1, hx, q2, hfv, hsrc, hloop]
/-- the law's own reading of a number -/
theorem v_lnum {s : Str} (hl : s.length ≤ 200000) (μ : Store) : (∀ n, n < 1000000000 → s = numS n → g_law_number [.imm (.str s)] μ = .ok (.imm (.int n)) μ) ∧ ((¬ ∃ n, n < 1000000000 ∧ s = numS n) → g_law_number [.imm (.str s)] μ = .ok (.imm .non) μ) := by
  have h2 := fun μ => str_len hl μ
  have hsrc : ∀ μ, kSrc (.imm (.str s)) μ = .ok ((TL.tl s).map fun c => W.imm (.str ⟨#[c]⟩), []) μ := fun μ => rfl
  have hfv : ∀ E' : Gx.Env, kFV 0 (mgN 1) b_law_number_0 E' μ (some (some (.imm (.str s)))) = mFor (mSrc (mVar 0)) (mgN 1) b_law_number_0 E' μ := fun E' => rfl
  have hrun : g_law_number [.imm (.str s)] μ = kRun (m_law_number [(some (.imm (.str s))), none] μ) := rfl
  rw [hrun]
  unfold m_law_number
  by_cases hbad : ∃ c ∈ TL.tl s, ¬ (48 ≤ c ∧ c ≤ 57)
  · have hloop := lloop_bad (x0 := (some (.imm (.str s)))) (μ := μ) (TL.tl s) none hbad
    refine ⟨fun n hn hs => ?_, fun _ => by simp_arith [hfv, hsrc, hloop]⟩
    obtain ⟨c, h1, h3⟩ := hbad
    rw [hs] at h1
    exact absurd (all_dig n c (by rw [← numS_tl]; exact h1)) h3
  have hdig : ∀ c ∈ TL.tl s, 48 ≤ c ∧ c ≤ 57 := fun c hc => Classical.byContradiction fun z => hbad ⟨c, hc, z⟩
  obtain ⟨y, hloop⟩ := lloop (x0 := (some (.imm (.str s)))) (μ := μ) (TL.tl s) none hdig
  by_cases e0 : s = ""
  · have q := decide_eq_true e0
    refine ⟨fun n hn hs => ?_, fun _ => by simp_arith [hfv, hsrc, hloop, q]⟩
    have := TL.numL_ne n
    rw [← numS_tl, ← hs, e0] at this
    exact absurd (by decide +kernel) this
  have q0 := decide_eq_false e0
  by_cases e1 : 9 < s.length
  · have q1 : decide ((9 : Int) < (s.length : Int)) = true := decide_eq_true (by omega)
    refine ⟨fun n hn hs => ?_, fun _ => by simp_arith [hfv, hsrc, hloop, q0, h2, q1]⟩
    have h3 : (TL.numL n).length ≤ 9 := TL.numL_len (by decide) (by omega)
    have h4 : s.length = (TL.numL n).length := by rw [TL.len_tl, hs]; rw [show TL.tl (numS n) = TL.numL n from numS_tl n]
    omega
  have q1 : decide ((9 : Int) < (s.length : Int)) = false := decide_eq_false (by omega)
  obtain ⟨c, r, hc⟩ := str_ne e0
  have hx := fun μ => str_0 hl hc μ
  by_cases e2 : c = 48
  · have q2 : decide ((⟨#[c]⟩ : Str) = "0") = true := by rw [sign_0]; exact decide_eq_true e2
    by_cases e3 : s = "0"
    · have q3 := decide_eq_true e3
      have hi := fun μ => int_num (n := 0) (by decide) μ
      rw [numS_0, ← e3] at hi
      have hg : kRun (mSeq (mForV 0 (mgN 1) (b_law_number_0)) (mSeq (mIfS (mOr (mB (mOp oEq (mVar 0) (mC (.str "")))) (mOr (mB (mOp oGt (mCB oLen (mCons (mVar 0) (mNil))) (mC (.int 9)))) (mAnd (mB (mOp oEq (mOp oIx (mVar 0) (mC (.int 0))) (mC (.str "0")))) (mB (mOp oNe (mVar 0) (mC (.str "0"))))))) (mRet (mC .non)) (mSkip)) (mRet (mCB oIntX (mCons (mVar 0) (mNil))))) [(some (.imm (.str s))), none] μ) = .ok (.imm (.int ((0 : Nat) : Int))) μ := by
        simp_arith [hfv, hsrc, hloop, q0, h2, q1, hx, q2, q3, hi]
      refine ⟨fun n hn hs => ?_, fun hno => absurd ⟨0, by decide, e3.trans numS_0.symm⟩ hno⟩
      have : n = 0 := by
        have h5 : TL.numL n = TL.numL 0 := by rw [← numS_tl, ← numS_tl, ← hs, numS_0, e3]
        by_cases hz : n = 0
        · exact hz
        · obtain ⟨c', r', h6, h7⟩ := numL_head n hz
          rw [h5, TL.numL_lt (by decide)] at h6
          exact absurd (List.cons.inj h6).1.symm h7
      subst this
      exact hg
    · have q3 := decide_eq_false e3
      refine ⟨fun n hn hs => ?_, fun _ => by simp_arith [hfv, hsrc, hloop, q0, h2, q1, hx, q2, q3]⟩
      by_cases hz : n = 0
      · rw [hz, numS_0] at hs
        exact absurd hs e3
      · obtain ⟨c', r', h6, h7⟩ := numL_head n hz
        rw [← numS_tl, ← hs] at h6
        have h6 : TL.tl s = c' :: r' := h6
        rw [hc] at h6
        exact absurd ((List.cons.inj h6).1.symm.trans e2) h7
  · have q2 : decide ((⟨#[c]⟩ : Str) = "0") = false := by rw [sign_0]; exact decide_eq_false e2
    obtain ⟨n, hn, hs⟩ : ∃ n, n < 1000000000 ∧ s = numS n := by
      rcases cases_num 9 s with z | z | ⟨c', r', z⟩ | z | ⟨n, z1, z2⟩
      · exact absurd z e0
      · exact absurd z e1
      · rw [hc] at z
        exact absurd (List.cons.inj z).1 e2
      · exact absurd z hbad
      · exact ⟨n, z1, z2⟩
    have hi := fun μ => int_num hn μ
    rw [← hs] at hi
    refine ⟨fun n' hn' hs' => ?_, fun hno => absurd ⟨n, hn, hs⟩ hno⟩
    have hi' := fun μ => int_num hn' μ
    rw [← hs'] at hi'
    simp_arith [hfv, hsrc, hloop, q0, h2, q1, hx, q2, hi']
end Lw

namespace Lw
open PySem Gx
/-! ### a text at its blanks -/
theorem spl_sum : ∀ (L acc : List Nat), ((TL.spl [32] 0 acc L).map List.length).sum + (TL.spl [32] 0 acc L).length = acc.length + L.length + 1 ∧ TL.spl [32] 0 acc L ≠ []
  | [], acc => by rw [TL.spl_nil]; simp
  | c :: r, acc => by
    cases h : TL.pre [32] (c :: r) with
    | true =>
      obtain ⟨h1, _⟩ := spl_sum r []
      rw [TL.spl_hit h]
      show ((acc :: TL.spl [32] 0 [] r).map List.length).sum + (acc :: TL.spl [32] 0 [] r).length = _ ∧ _
      refine ⟨?_, by simp⟩
      rw [List.map_cons, List.sum_cons, List.length_cons, List.length_cons]
      simp only [List.length_nil] at h1
      omega
    | false =>
      obtain ⟨h1, h2⟩ := spl_sum r (acc ++ [c])
      rw [TL.spl_miss h]
      refine ⟨?_, h2⟩
      rw [List.length_append, List.length_singleton] at h1
      rw [h1, List.length_cons]
      omega
theorem words_of (s : Str) (hl : s.length ≤ 200000) : ∃ w0 ws, (∀ μ, kSplit2 true s (.imm (.str " ")) μ = .ok (.imm (.lst ((w0 :: ws).map D.str))) μ) ∧ ((w0 :: ws).map (·.length)).sum + (w0 :: ws).length = s.length + 1 := by
  have e := TL.split_spl s blank (by rw [blank_tl]; simp) (TL.kind_ok (by decide +kernel))
  rw [blank_tl] at e
  obtain ⟨h1, h2⟩ := spl_sum (TL.tl s) []
  rw [← e] at h1 h2
  have hsum : ((Txt.split s blank).map (·.length)).sum + (Txt.split s blank).length = s.length + 1 := by
    rw [List.length_map, List.map_map] at h1
    have : (Txt.split s blank).map (List.length ∘ TL.tl) = (Txt.split s blank).map (·.length) := List.map_congr_left fun w _ => (TL.len_tl w).symm
    rw [this] at h1
    rw [h1, TL.len_tl]
    simp
  match hq : Txt.split s blank with
  | [] => rw [hq] at h2; exact absurd rfl h2
  | w0 :: ws =>
    refine ⟨w0, ws, fun μ => ?_, by rw [← hq]; exact hsum⟩
    rw [kSplit2_of (by decide +kernel) (by omega), show Txt.split s (" " : Str) = w0 :: ws from hq]
    unfold mkL
    rw [immAll_imm]
theorem len_mem {w : Str} {ws : List Str} (h : w ∈ ws) : w.length ≤ (ws.map (·.length)).sum := by
  induction ws with
  | nil => cases h
  | cons x r ih =>
    rw [List.map_cons, List.sum_cons]
    rcases List.mem_cons.mp h with rfl | h
    · omega
    · have := ih h; omega
/-! ### a comprehension whose element may raise -/
theorem compX_ok {tg : Mg} {me : Me} {E0 : Gx.Env} {μ : Store} {α : Type} {g : α → W} {f : α → D} : ∀ (l : List α) (acc : List W), acc.length + l.length ≤ 1000000 → (∀ x ∈ l, ∃ E1, tg (g x) E0 = some E1 ∧ ∀ a, me E1 (μ ++ [.lst a]) = .ok (.imm (f x)) (μ ++ [.lst a])) →
    ∀ k : List W → Store → Rs Unit, (∀ ws, k ws (μ ++ [.lst (acc ++ (l.map f).map W.imm)]) = compLX [] tg me E0 μ.length ws (μ ++ [.lst (acc ++ (l.map f).map W.imm)])) → ∀ ws, compLX [] tg me E0 μ.length (l.map g ++ ws) (μ ++ [.lst acc]) = k ws (μ ++ [.lst (acc ++ (l.map f).map W.imm)])
  | [], acc, _, _, k, hk, ws => by
    rw [hk]
    simp
  | x :: l, acc, hl, h, k, hk, ws => by
    obtain ⟨E1, h1, h2⟩ := h x (by simp)
    rw [List.map_cons, List.cons_append]
    unfold compLX
    rw [h1]
    simp only [h2]
    rw [getNew]
    simp only
    rw [if_pos ⟨by simp only [List.length_cons] at hl; unfold cap; omega, rfl⟩, setNew]
    have e : acc ++ ((x :: l).map f).map W.imm = (acc ++ [W.imm (f x)]) ++ (l.map f).map W.imm := by simp
    rw [e] at hk ⊢
    exact compX_ok l (acc ++ [.imm (f x)]) (by simp only [List.length_cons] at hl; simp; omega) (fun y hy => h y (by simp [hy])) k hk ws
theorem lcX_all {mi : Mi} {tg : Mg} {me : Me} {vs : List Nat} {E : Gx.Env} {μ : Store} {α : Type} {g : α → W} {f : α → D} {l : List α} (hi : mi E μ = .ok (l.map g, []) μ) (hl : l.length ≤ 1000000) (h : ∀ x ∈ l, ∃ E1, tg (g x) (wipeW E vs) = some E1 ∧ ∀ a, me E1 (μ ++ [.lst a]) = .ok (.imm (f x)) (μ ++ [.lst a])) :
    retr μ (mLcX mi tg me vs E μ) = .ok (.imm (.lst (l.map f))) μ := by
  have e : mLcX mi tg me vs E μ = .ok (.loc μ.length) (μ ++ [.lst ((l.map f).map W.imm)]) := by
    unfold mLcX
    rw [hi]
    show (compLX [] tg me (wipeW E vs) μ.length (l.map g) (μ ++ [.lst []])).bind _ = _
    have := compX_ok (μ := μ) l [] (by simpa using hl) h (fun ws s => compLX [] tg me (wipeW E vs) μ.length ws s) (fun ws => rfl) []
    rw [List.append_nil, List.nil_append] at this
    rw [this]
    rfl
  exact retr_loc e (Nat.le_refl _) getNew
theorem lcX_ex {mi : Mi} {tg : Mg} {me : Me} {vs : List Nat} {E E2 : Gx.Env} {μ : Store} {α : Type} {g : α → W} {f : α → D} {l : List α} {x : α} {l2 : List W} {c : Nat} (hi : mi E μ = .ok (l.map g ++ g x :: l2, []) μ) (hl : l.length ≤ 1000000) (h : ∀ x ∈ l, ∃ E1, tg (g x) (wipeW E vs) = some E1 ∧ ∀ a, me E1 (μ ++ [.lst a]) = .ok (.imm (f x)) (μ ++ [.lst a]))
    (h1 : tg (g x) (wipeW E vs) = some E2) (h2 : ∀ a, me E2 (μ ++ [.lst a]) = .ex c (μ ++ [.lst a])) : ∃ a, mLcX mi tg me vs E μ = .ex c (μ ++ [.lst a]) := by
  refine ⟨(l.map f).map W.imm, ?_⟩
  unfold mLcX
  rw [hi]
  show (compLX [] tg me (wipeW E vs) μ.length (l.map g ++ g x :: l2) (μ ++ [.lst []])).bind _ = _
  have := compX_ok (μ := μ) l [] (by simpa using hl) h (fun ws s => compLX [] tg me (wipeW E vs) μ.length ws s) (fun ws => rfl) (g x :: l2)
  rw [List.nil_append] at this
  rw [this]
  unfold compLX
  rw [h1]
  simp only [h2]
  rfl
end Lw

namespace Lw
open PySem Gx
/-! ### the program's reading of a text -/
def goodW (s : Str) : Prop := ∃ n, n < 1000000 ∧ s = numS n
theorem pt_fact (w : Str) (a : Nat) (ns : List Nat) : ∀ d ∈ (D.int (a : Int) :: .str w :: ns.map fun n : Nat => D.int (n : Int)), Pt d := fun d hd => by
  rcases List.mem_cons.mp hd with rfl | hd
  · exact .inl ⟨_, rfl⟩
  · rcases List.mem_cons.mp hd with rfl | hd
    · exact .inr ⟨_, rfl⟩
    · obtain ⟨n, _, rfl⟩ := List.mem_map.mp hd
      exact .inl ⟨_, rfl⟩
def iD (n : Nat) : D := .int (n : Int)
section
open Classical
/-- words that are numbers, up to the first that is none -/
theorem words_cut : ∀ ws : List Str, (∃ ns : List Nat, (∀ n ∈ ns, n < 1000000) ∧ ws = ns.map numS) ∨ ∃ (ns : List Nat) (x : Str) (r : List Str), (∀ n ∈ ns, n < 1000000) ∧ ws = ns.map numS ++ x :: r ∧ ¬ goodW x
  | [] => .inl ⟨[], by simp, rfl⟩
  | w :: ws => by
    by_cases h : goodW w
    · obtain ⟨n, hn, hs⟩ := h
      rcases words_cut ws with ⟨ns, h1, h2⟩ | ⟨ns, x, r, h1, h2, h3⟩
      · exact .inl ⟨n :: ns, fun m hm => by rcases List.mem_cons.mp hm with rfl | hm; exact hn; exact h1 m hm, by rw [h2, hs]; rfl⟩
      · exact .inr ⟨n :: ns, x, r, fun m hm => by rcases List.mem_cons.mp hm with rfl | hm; exact hn; exact h1 m hm, by rw [h2, hs]; rfl, h3⟩
    · exact .inr ⟨[], w, ws, by simp, rfl, h⟩
end
theorem addL2 {a b : List D} {μ : Store} (h : a.length + b.length ≤ 100000) : oAdd true (.imm (.lst a)) (.imm (.lst b)) μ = .ok (.imm (.lst (a ++ b))) μ := by
  rw [g_addLL h, ← List.map_append, g_mkLt, g_immI]
  rfl
section
variable {s : Str} {w0 : Str} {ws : List Str}
/-- all its numbers are numbers -/
theorem fact_ok (hsp : ∀ μ, kSplit2 true s (.imm (.str " ")) μ = .ok (.imm (.lst ((w0 :: ws).map D.str))) μ) {ns : List Nat} (hns : ∀ n ∈ ns, n < 1000000) (hw : ws = ns.map numS) (hl : ns.length ≤ 40000) (μ : Store) :
    (∀ a r, ns = a :: r → isFactB (iD a :: .str w0 :: r.map iD) = true → g_fact_of [.imm (.str s)] μ = .ok (.imm (.tup (iD a :: .str w0 :: r.map iD))) μ) ∧ ((∀ a r, ns = a :: r → isFactB (iD a :: .str w0 :: r.map iD) = false) → g_fact_of [.imm (.str s)] μ = .ex 13 μ) := by
  obtain ⟨A, hA⟩ : ∃ A, A = (w0 :: ws).map D.str := ⟨_, rfl⟩
  simp only [← hA] at hsp
  have hA1 : ∀ μ, oSl true (.imm (.lst A)) (some 1) none μ = .ok (.imm (.lst (ws.map D.str))) μ := fun μ => by
    rw [hA, g_slLf (by decide), g_mkLt, g_immI]; rfl
  have h2 : ∀ μ, oSl true (.imm (.lst A)) none (some 1) μ = .ok (.imm (.lst [.str w0])) μ := fun μ => by rw [hA, g_slLt (by decide), g_mkLt, g_immI]; rfl
  clear hA
  have hnum : ∀ μ, retr μ (mLcX (mSrc (mSl true (mVar 1) (mPart (mC (.int 1))) (mNoP))) (mgN 4) (mRetr (mCallX 1 g_number_of (mCons (mVar 4) (mNil)))) [4] [(some (.imm (.str s))), (some (.imm (.lst A))), none, none, none] μ) = .ok (.imm (.lst (ns.map iD))) μ := fun μ => by
    refine lcX_all (g := fun n : Nat => W.imm (.str (numS n))) (f := iD) (l := ns) ?_ (by omega) fun n hn => ⟨[(some (.imm (.str s))), (some (.imm (.lst A))), none, none, (some (.imm (.str (numS n))))], rfl, fun a => ?_⟩
    · simp_arith [hA1]
      rw [hw, List.map_map, List.map_map]
      rfl
    · have h1 := fun μ => v_number n (hns n hn) μ
      simp_arith [h1]
      rfl
  have hrun : g_fact_of [.imm (.str s)] μ = kRunX (m_fact_of [(some (.imm (.str s))), none, none, none, none] μ) := rfl
  rw [hrun]
  unfold m_fact_of
  have h1 : ∀ μ, oSl true (.imm (.lst (ns.map iD))) none (some 1) μ = .ok (.imm (.lst ((ns.map iD).take 1))) μ := fun μ => by rw [g_slLt (by decide), g_mkLt, g_immI]; rfl
  have h3 : ∀ μ, oSl true (.imm (.lst (ns.map iD))) (some 1) none μ = .ok (.imm (.lst ((ns.map iD).drop 1))) μ := fun μ => by rw [g_slLf (by decide), g_mkLt, g_immI]; rfl
  have h4 : ∀ μ, oAdd true (.imm (.lst ((ns.map iD).take 1))) (.imm (.lst [.str w0])) μ = .ok (.imm (.lst ((ns.map iD).take 1 ++ [.str w0]))) μ := fun μ => addL2 (by simp; omega)
  have h5 : ∀ μ, oAdd true (.imm (.lst ((ns.map iD).take 1 ++ [.str w0]))) (.imm (.lst ((ns.map iD).drop 1))) μ = .ok (.imm (.lst ((ns.map iD).take 1 ++ [.str w0] ++ (ns.map iD).drop 1))) μ := fun μ => addL2 (by simp; omega)
  have h6 : ∀ (ds : List D) μ, oTuple [.imm (.lst ds)] μ = .ok (.imm (.tup ds)) μ := fun ds μ => by
    have e : oTuple [.imm (.lst ds)] μ = .ok (mkT (ds.map W.imm)) μ := rfl
    rw [e]
    unfold mkT
    rw [immAll_imm]
  have hlen : ∀ μ, oLen [.imm (.lst (ns.map iD))] μ = .ok (.imm (.int (ns.length : Int))) μ := fun μ => by rw [SrcP.len srcP_imm, List.length_map, List.length_map]
  cases ns with
  | nil =>
    refine ⟨fun a r e => (by cases e), fun _ => ?_⟩
    have h8 : decide (((([] : List Nat).length : Nat) : Int) < 1) = true := by decide
    generalize ([] : List Nat).map iD = B at *
    generalize B.take 1 ++ [.str w0] ++ B.drop 1 = B3 at *
    generalize B.take 1 ++ [.str w0] = B2 at *
    generalize B.take 1 = B1 at *
    generalize B.drop 1 = B0 at *
    generalize ((([] : List Nat).length : Nat) : Int) = zz at *
    simp_arith [mSplit, kSplit1, hsp, hnum, h1, h2, h3, h4, h5, h6, hlen, h8]
  | cons a r =>
    have hds : ((a :: r).map iD).take 1 ++ [.str w0] ++ ((a :: r).map iD).drop 1 = iD a :: .str w0 :: r.map iD := by simp
    have h7 : ∀ μ, retr μ (g_is_fact [.imm (.tup (iD a :: .str w0 :: r.map iD))] μ).fin = .ok (.imm (.bl (isFactB (iD a :: .str w0 :: r.map iD)))) μ := fun μ => retr_fin (retr_imm0 (v_isfact _ (pt_fact w0 a r) μ))
    have h8 : decide ((((a :: r).length : Nat) : Int) < 1) = false := decide_eq_false (by simp; omega)
    rw [hds] at h5
    generalize (a :: r).map iD = B at *
    generalize B.take 1 ++ [.str w0] = B2 at *
    generalize B.take 1 = B1 at *
    generalize B.drop 1 = B0 at *
    generalize (((a :: r).length : Nat) : Int) = zz at *
    refine ⟨fun a' r' e hf => ?_, fun hf => ?_⟩
    · cases e
      rw [hf] at h7
      generalize iD a :: .str w0 :: r.map iD = C at *
      simp_arith [mSplit, kSplit1, hsp, hnum, h1, h2, h3, h4, h5, h6, hlen, h8, h7]
    · rw [hf a r rfl] at h7
      clear hf
      generalize iD a :: .str w0 :: r.map iD = C at *
      simp_arith [mSplit, kSplit1, hsp, hnum, h1, h2, h3, h4, h5, h6, hlen, h8, h7]
/-- one is none -/
theorem fact_bad (hsp : ∀ μ, kSplit2 true s (.imm (.str " ")) μ = .ok (.imm (.lst ((w0 :: ws).map D.str))) μ) {ns : List Nat} {x : Str} {r : List Str} (hns : ∀ n ∈ ns, n < 1000000) (hw : ws = ns.map numS ++ x :: r) (hx : ¬ goodW x) (hxl : x.length ≤ 200000) (hl : ns.length ≤ 40000) (μ : Store) :
    ∃ a, g_fact_of [.imm (.str s)] μ = .ex 13 (μ ++ [.lst a]) := by
  obtain ⟨A, hA⟩ : ∃ A, A = (w0 :: ws).map D.str := ⟨_, rfl⟩
  simp only [← hA] at hsp
  have hA1 : ∀ μ, oSl true (.imm (.lst A)) (some 1) none μ = .ok (.imm (.lst (ws.map D.str))) μ := fun μ => by
    rw [hA, g_slLf (by decide), g_mkLt, g_immI]; rfl
  clear hA
  have hmi : mSrc (mSl true (mVar 1) (mPart (mC (.int 1))) (mNoP)) [(some (.imm (.str s))), (some (.imm (.lst A))), none, none, none] μ = .ok (ns.map (fun n : Nat => W.imm (.str (numS n))) ++ W.imm (.str x) :: (r.map D.str).map W.imm, []) μ := by
    simp_arith [hA1]
    rw [hw]
    simp [List.map_append, List.map_map]
  have hnx := fun μ => v_numX hxl hx μ
  obtain ⟨a, hex⟩ : ∃ a, mLcX (mSrc (mSl true (mVar 1) (mPart (mC (.int 1))) (mNoP))) (mgN 4) (mRetr (mCallX 1 g_number_of (mCons (mVar 4) (mNil)))) [4] [(some (.imm (.str s))), (some (.imm (.lst A))), none, none, none] μ = .ex 13 (μ ++ [.lst a]) := by
    have hok : ∀ n ∈ ns, ∃ E1, mgN 4 (W.imm (.str (numS n))) (wipeW [(some (.imm (.str s))), (some (.imm (.lst A))), none, none, none] [4]) = some E1 ∧ ∀ a, mRetr (mCallX 1 g_number_of (mCons (mVar 4) (mNil))) E1 (μ ++ [.lst a]) = .ok (.imm (iD n)) (μ ++ [.lst a]) := fun n hn => ⟨[(some (.imm (.str s))), (some (.imm (.lst A))), none, none, (some (.imm (.str (numS n))))], rfl, fun a => by
      have h1 := fun μ => v_number n (hns n hn) μ
      simp_arith [h1]
      rfl⟩
    refine ⟨(ns.map iD).map W.imm, ?_⟩
    unfold mLcX
    rw [hmi]
    show (compLX [] _ _ (wipeW _ _) μ.length (ns.map (fun n : Nat => W.imm (.str (numS n))) ++ W.imm (.str x) :: (r.map D.str).map W.imm) (μ ++ [.lst []])).bind _ = _
    have := compX_ok (μ := μ) ns [] (by simp; omega) hok (fun ws s' => compLX [] (mgN 4) (mRetr (mCallX 1 g_number_of (mCons (mVar 4) (mNil)))) (wipeW [(some (.imm (.str s))), (some (.imm (.lst A))), none, none, none] [4]) μ.length ws s') (fun ws => rfl) (W.imm (.str x) :: (r.map D.str).map W.imm)
    rw [List.nil_append] at this
    rw [this]
    unfold compLX
    have h9 : mgN 4 (W.imm (.str x)) (wipeW [(some (.imm (.str s))), (some (.imm (.lst A))), none, none, none] [4]) = some [(some (.imm (.str s))), (some (.imm (.lst A))), none, none, (some (.imm (.str x)))] := rfl
    have h10 : ∀ τ, mRetr (mCallX 1 g_number_of (mCons (mVar 4) (mNil))) [(some (.imm (.str s))), (some (.imm (.lst A))), none, none, (some (.imm (.str x)))] τ = .ex 13 τ := fun τ => by
      simp_arith [hnx]
      try rfl
    rw [h9]
    simp only [h10]
    rfl
  refine ⟨a, ?_⟩
  have hrun : g_fact_of [.imm (.str s)] μ = kRunX (m_fact_of [(some (.imm (.str s))), none, none, none, none] μ) := rfl
  rw [hrun]
  unfold m_fact_of
  have hex2 : retr μ (mLcX (mSrc (mSl true (mVar 1) (mPart (mC (.int 1))) (mNoP))) (mgN 4) (mRetr (mCallX 1 g_number_of (mCons (mVar 4) (mNil)))) [4] [(some (.imm (.str s))), (some (.imm (.lst A))), none, none, none] μ) = .ex 13 (μ ++ [.lst a]) := by rw [hex]; rfl
  simp_arith [mSplit, kSplit1, hsp, hex2]
end
end Lw

namespace Lw
open PySem Gx
/-! ### the law's own reading -/
theorem fits_small {a : Int} : ∀ (rest : List D) (cs : List Nat), fitsB a rest cs = true → rest.length = cs.length → ∀ p, D.int p ∈ rest → p ≤ 10000
  | [], _, _, _, p, hp => by cases hp
  | d :: r, [], _, hl, _, _ => by simp at hl
  | d :: r, c :: cs, h, hl, p, hp => by
    simp only [fitsB, Bool.and_eq_true] at h
    rcases List.mem_cons.mp hp with rfl | hp
    · have h1 : (if decide (sgn c = "u") = true then decide (a < p) && decide (p ≤ 10000) else decide (1 ≤ p) && decide (p ≤ 999)) = true := h.1
      split at h1 <;> simp only [Bool.and_eq_true, decide_eq_true_eq] at h1 <;> omega
    · exact fits_small r cs h.2 (by simpa using hl) p hp
theorem fact_small {a : Int} {w : Str} {rest : List D} (h : isFactB (.int a :: .str w :: rest) = true) : a ≤ 9999 ∧ (∀ p, D.int p ∈ rest → p ≤ 10000) ∧ rest ≠ [] := by
  simp only [isFactB] at h
  cases hv : shapes.lookup w with
  | none => rw [hv] at h; cases h
  | some v =>
    rw [hv] at h
    simp only [Bool.and_eq_true, decide_eq_true_eq] at h
    obtain ⟨⟨⟨⟨h1, h2⟩, h3⟩, h4⟩, _⟩ := h
    refine ⟨h2, fits_small rest _ h4 (by rw [h3]; simp), fun hr => ?_⟩
    rw [hr] at h3
    rcases shape_cases w with e | ⟨_, e⟩ | ⟨_, e⟩ | ⟨_, e⟩ | ⟨_, e⟩ | ⟨_, e⟩ | ⟨_, e⟩ | ⟨_, e⟩ | ⟨_, e⟩ | ⟨_, e⟩ | ⟨_, e⟩ <;> rw [hv] at e <;> first | (cases e; done) | (cases e; revert h3; decide +kernel)
def NoI (d : D) : Prop := d = .non ∨ ∃ n : Nat, d = iD n
def noPy : D → PyData
  | .int i => .int i
  | _ => .none
theorem pyD_no (n : Nat) : ∀ ds : List D, (∀ d ∈ ds, NoI d) → optAll (pyD n) ds = some (ds.map noPy)
  | [], _ => rfl
  | x :: r, h => by
    have ih := pyD_no n r fun d hd => h d (by simp [hd])
    have hx : pyD n x = some (noPy x) := by
      rcases h x (by simp) with rfl | ⟨m, rfl⟩ <;> cases n <;> rfl
    rw [optAll, hx, ih]
    rfl
theorem inPy_no : ∀ ds : List D, (∀ d ∈ ds, NoI d) → inPy (ds.map noPy) .none = decide (D.non ∈ ds)
  | [], _ => rfl
  | x :: r, h => by
    have ih := inPy_no r fun d hd => h d (by simp [hd])
    unfold inPy at ih ⊢
    rw [List.map_cons, List.any_cons, ih]
    rcases h x (by simp) with rfl | ⟨m, rfl⟩
    · rw [decide_eq_true (List.mem_cons_self)]
      rfl
    · have e : PyData.eqv (noPy (iD m)) .none = false := rfl
      rw [e, Bool.false_or]
      congr 1
      rw [List.mem_cons]
      apply propext
      exact ⟨fun h => .inr h, fun h => h.elim (fun h => by cases h) id⟩
theorem in_no {ds : List D} (hd : ∀ d ∈ ds, NoI d) (μ : Store) : oIn (.imm .non) (.imm (.lst ds)) μ = .ok (.imm (.bl (decide (D.non ∈ ds)))) μ := by
  have h1 := pyW_src (srcP_imm (ds := ds) (μ := μ))
  have h2 : pyD fuelD (.lst ds) = some (.list (ds.map noPy)) := by
    show (match optAll (pyD 8) ds with | some es => some (PyData.list es) | none => none) = _
    rw [pyD_no 8 ds hd]
  rw [h2] at h1
  have hm : memW μ (.imm .non) (.imm (.lst ds)) = some (decide (D.non ∈ ds)) := by
    unfold memW
    rw [show ditems μ (.imm (.lst ds)) = none from rfl, h1]
    show some (inPy _ _) = _
    rw [← inPy_no ds hd]
  unfold oIn
  rw [hm]
section
open Classical
/-- what the law reads of a word -/
noncomputable def lnumD (s : Str) : D := if h : ∃ n, n < 1000000000 ∧ s = numS n then iD h.choose else .non
theorem lnum_is {s : Str} (hl : s.length ≤ 200000) (μ : Store) : g_law_number [.imm (.str s)] μ = .ok (.imm (lnumD s)) μ := by
  unfold lnumD
  by_cases h : ∃ n, n < 1000000000 ∧ s = numS n
  · rw [dif_pos h]
    exact (v_lnum hl μ).1 _ h.choose_spec.1 h.choose_spec.2
  · rw [dif_neg h]
    exact (v_lnum hl μ).2 h
theorem lnum_no (s : Str) : NoI (lnumD s) := by
  unfold lnumD
  by_cases h : ∃ n, n < 1000000000 ∧ s = numS n
  · rw [dif_pos h]
    exact .inr ⟨_, rfl⟩
  · rw [dif_neg h]
    exact .inl rfl
theorem lnum_ints : ∀ ws : List Str, D.non ∉ ws.map lnumD → ∃ ns : List Nat, ws = ns.map numS ∧ ws.map lnumD = ns.map iD
  | [], _ => ⟨[], rfl, rfl⟩
  | w :: ws, h => by
    obtain ⟨ns, h1, h2⟩ := lnum_ints ws fun hm => h (by simp [hm])
    by_cases hx : ∃ n, n < 1000000000 ∧ w = numS n
    · have e : lnumD w = iD hx.choose := by unfold lnumD; rw [dif_pos hx]
      refine ⟨hx.choose :: ns, ?_, ?_⟩
      · rw [List.map_cons, ← h1, ← hx.choose_spec.2]
      · rw [List.map_cons, List.map_cons, e, h2]
    · have e : lnumD w = .non := by unfold lnumD; rw [dif_neg hx]
      exact absurd (by rw [List.map_cons, e]; exact List.mem_cons_self) h
theorem numS_inj {a b : Nat} (h : numS a = numS b) (ha : a < 1000000000) (hb : b < 1000000000) : a = b := by
  have h1 := int_num ha []
  have h2 := int_num hb []
  rw [h, h2] at h1
  have := D.int.inj (W.imm.inj (Rs.ok.inj h1).1)
  omega
end
/-- the reader -/
theorem v_reader {s w0 : Str} {ws : List Str} (hsp : ∀ μ, kSplit2 true s (.imm (.str " ")) μ = .ok (.imm (.lst ((w0 :: ws).map D.str))) μ) (hwl : ∀ w ∈ ws, w.length ≤ 200000) (hl : ws.length ≤ 40000) (μ : Store) :
    (∃ a r, ws = (a :: r).map numS ∧ isFactB (iD a :: .str w0 :: r.map iD) = true ∧ retr μ (g_law_reader [.imm (.str s)] μ).fin = .ok (.imm (.tup (iD a :: .str w0 :: r.map iD))) μ) ∨
    ((∀ a r, ws = (a :: r).map numS → (∀ n ∈ a :: r, n < 1000000) → isFactB (iD a :: .str w0 :: r.map iD) = false) ∧ retr μ (g_law_reader [.imm (.str s)] μ).fin = .ok (.imm .non) μ) := by
  obtain ⟨A, hA⟩ : ∃ A, A = (w0 :: ws).map D.str := ⟨_, rfl⟩
  simp only [← hA] at hsp
  have hA1 : ∀ μ, oSl true (.imm (.lst A)) (some 1) none μ = .ok (.imm (.lst (ws.map D.str))) μ := fun μ => by
    rw [hA, g_slLf (by decide), g_mkLt, g_immI]; rfl
  have hA0 : ∀ μ, oIx (.imm (.lst A)) (.imm (.int 0)) μ = .ok (.imm (.str w0)) μ := fun μ => by
    rw [hA, g_ixL (by decide)]; rfl
  clear hA
  have hnum : ∀ μ, retr μ (mLc (mSrc (mSl true (mVar 1) (mPart (mC (.int 1))) (mNoP))) (mgN 4) (mYes) (mRetr (mCall 1 g_law_number (mCons (mVar 4) (mNil)))) [4] [(some (.imm (.str s))), (some (.imm (.lst A))), none, none, none] μ) = .ok (.imm (.lst (ws.map lnumD))) μ := fun μ => by
    have e := lc_mapD (mit := mSrc (mSl true (mVar 1) (mPart (mC (.int 1))) (mNoP))) (E := [(some (.imm (.str s))), (some (.imm (.lst A))), none, none, none]) (μ := μ) (tg := mgN 4) (mt := mYes) (me := mRetr (mCall 1 g_law_number (mCons (mVar 4) (mNil)))) (vs := [4]) (gd := [])
      (g := fun w : Str => W.imm (.str w)) (f := fun w : Str => some (lnumD w)) (l := ws) (by
        simp_arith [hA1]
        rw [List.map_map]; rfl) rfl (by omega) fun w hw => ⟨[(some (.imm (.str s))), (some (.imm (.lst A))), none, none, (some (.imm (.str w)))], rfl, fun μ => ⟨rfl, by
          have h1 := fun μ => lnum_is (hwl w hw) μ
          have hr : ∀ d μ, retr μ (.ok (.imm d) μ) = .ok (.imm d) μ := fun d μ => retr_imm0 rfl
          simp_arith [h1, hr]⟩⟩
    rw [e, ← List.filterMap_eq_map]
    rfl
  have hno : ∀ d ∈ ws.map lnumD, NoI d := fun d hd => by
    obtain ⟨w, _, rfl⟩ := List.mem_map.mp hd
    exact lnum_no w
  have hin := fun μ => in_no hno μ
  have hlen : ∀ μ, oLen [.imm (.lst (ws.map lnumD))] μ = .ok (.imm (.int (ws.length : Int))) μ := fun μ => by rw [SrcP.len srcP_imm, List.length_map, List.length_map]
  have hrun : g_law_reader [.imm (.str s)] μ = kRun (m_law_reader [(some (.imm (.str s))), none, none, none, none] μ) := rfl
  by_cases hn : D.non ∈ ws.map lnumD
  · rw [decide_eq_true hn] at hin
    refine .inr ⟨fun a r hw hs => ?_, ?_⟩
    · obtain ⟨w, hw1, hw2⟩ := List.mem_map.mp hn
      rw [hw] at hw1
      obtain ⟨n, hn1, rfl⟩ := List.mem_map.mp hw1
      have hx : ∃ m, m < 1000000000 ∧ numS n = numS m := ⟨n, by have := hs n hn1; omega, rfl⟩
      unfold lnumD at hw2
      rw [dif_pos hx] at hw2
      cases hw2
    · refine retr_fin (retr_imm0 ?_)
      rw [hrun]
      unfold m_law_reader
      generalize ws.map lnumD = B at *
      simp_arith [mSplit, kSplit1, hsp, hnum, hin]
  · rw [decide_eq_false hn] at hin
    obtain ⟨ns, e1, e2⟩ := lnum_ints ws hn
    rw [e2] at hnum hlen hin
    match ns, e1, e2 with
    | [], e1, e2 =>
      have q : decide ((ws.length : Int) < 2) = true := decide_eq_true (by rw [e1]; simp)
      refine .inr ⟨fun a r hw hs => (by rw [e1] at hw; cases hw), retr_fin (retr_imm0 ?_)⟩
      rw [hrun]
      unfold m_law_reader
      generalize ([] : List Nat).map iD = B at *
      generalize (ws.length : Int) = zz at *
      simp_arith [mSplit, kSplit1, hsp, hnum, hin, hlen, q]
    | [x], e1, e2 =>
      have q : decide ((ws.length : Int) < 2) = true := decide_eq_true (by rw [e1]; simp)
      refine .inr ⟨fun a r hw hs => ?_, retr_fin (retr_imm0 ?_)⟩
      · rw [e1] at hw
        cases r with
        | cons b r => exact absurd (congrArg List.length hw) (by simp)
        | nil =>
          cases hf : isFactB (iD a :: .str w0 :: ([] : List Nat).map iD) with
          | false => rfl
          | true => exact absurd rfl (fact_small hf).2.2
      · rw [hrun]
        unfold m_law_reader
        generalize ([x] : List Nat).map iD = B at *
        generalize (ws.length : Int) = zz at *
        simp_arith [mSplit, kSplit1, hsp, hnum, hin, hlen, q]
    | a :: b :: r, e1, e2 =>
      have q : decide ((ws.length : Int) < 2) = false := decide_eq_false (by rw [e1]; simp; omega)
      have h0 : ∀ μ, oIx (.imm (.lst ((a :: b :: r).map iD))) (.imm (.int 0)) μ = .ok (.imm (iD a)) μ := fun μ => by rw [g_ixL (by decide)]; rfl
      have h1 : ∀ μ, oSl true (.imm (.lst ((a :: b :: r).map iD))) (some 1) none μ = .ok (.imm (.lst ((b :: r).map iD))) μ := fun μ => by rw [g_slLf (by decide), g_mkLt, g_immI]; rfl
      have h6 : ∀ (ds : List D) μ, oTuple [.imm (.lst ds)] μ = .ok (.imm (.tup ds)) μ := fun ds μ => by
        have e : oTuple [.imm (.lst ds)] μ = .ok (mkT (ds.map W.imm)) μ := rfl
        rw [e]
        unfold mkT
        rw [immAll_imm]
      have ha : ∀ μ, oAdd true (.imm (.tup [iD a, .str w0])) (.imm (.tup ((b :: r).map iD))) μ = .ok (.imm (.tup (iD a :: .str w0 :: (b :: r).map iD))) μ := fun μ => by
        have e : oAdd true (.imm (.tup [iD a, .str w0])) (.imm (.tup ((b :: r).map iD))) μ = if ([iD a, D.str w0].map W.imm).length + (((b :: r).map iD).map W.imm).length ≤ cap then .ok (mkT ([iD a, D.str w0].map W.imm ++ ((b :: r).map iD).map W.imm)) μ else .bad := rfl
        have hlr : r.length + 2 ≤ 40000 := by rw [e1] at hl; simp at hl; omega
        rw [e, if_pos (by simp only [List.length_map, List.length_cons, List.length_nil]; unfold cap; omega)]
        congr 1
        rw [← List.map_append]
        unfold mkT
        rw [immAll_imm]
        rfl
      have h7 : ∀ μ, retr μ (g_law_isfact [.imm (.tup (iD a :: .str w0 :: (b :: r).map iD))] μ).fin = .ok (.imm (.bl (isFactB (iD a :: .str w0 :: (b :: r).map iD)))) μ := fun μ => v_lisfact _ (pt_fact w0 a (b :: r)) μ
      cases hf : isFactB (iD a :: .str w0 :: (b :: r).map iD) with
      | true =>
        rw [hf] at h7
        refine .inl ⟨a, b :: r, e1, hf, retr_fin (retr_imm0 ?_)⟩
        rw [hrun]
        unfold m_law_reader
        clear hf
        generalize (a :: b :: r).map iD = B at *
        generalize (b :: r).map iD = B2 at *
        generalize (ws.length : Int) = zz at *
        generalize iD a = ia at *
        simp_arith [mSplit, kSplit1, hsp, hnum, hin, hlen, q, h0, hA0, h1, h6, ha, h7]
      | false =>
        rw [hf] at h7
        refine .inr ⟨fun a' r' hw hs => ?_, retr_fin (retr_imm0 ?_)⟩
        · rw [e1] at hw
          have hlt : ∀ n ∈ a :: b :: r, n < 1000000000 ∨ True := fun _ _ => .inr trivial
          have hinj : ∀ (x y : List Nat), x.map numS = y.map numS → (∀ n ∈ y, n < 1000000) → (∀ n ∈ x, D.non ≠ lnumD (numS n)) → x = y := by
            intro x
            induction x with
            | nil => intro y hxy _ _; cases y with
              | nil => rfl
              | cons _ _ => cases hxy
            | cons p x ih =>
              intro y hxy hy hx
              cases y with
              | nil => cases hxy
              | cons p' y =>
                rw [List.map_cons, List.map_cons] at hxy
                obtain ⟨h1, h2⟩ := List.cons.inj hxy
                have hp' := hy p' (by simp)
                have hpp : p = p' := by
                  rcases Nat.lt_or_ge p 1000000000 with h | h
                  · exact numS_inj h1 h (by omega)
                  · have h5 : TL.numL p = TL.numL p' := by rw [← numS_tl, ← numS_tl, h1]
                    have h6 := numL_ge 9 p h
                    have h7 : (TL.numL p').length ≤ 6 := TL.numL_len (by decide) hp'
                    rw [h5] at h6
                    omega
                rw [hpp, ih y h2 (fun n hn => hy n (by simp [hn])) (fun n hn => hx n (by simp [hn]))]
          have := hinj _ _ hw hs (fun n hn hq => ‹D.non ∉ List.map lnumD ws› (by
            rw [e1]
            exact List.mem_map.mpr ⟨numS n, List.mem_map.mpr ⟨n, hn, rfl⟩, hq.symm⟩))
          cases this
          exact hf
        · rw [hrun]
          unfold m_law_reader
          clear hf
          generalize (a :: b :: r).map iD = B at *
          generalize (b :: r).map iD = B2 at *
          generalize (ws.length : Int) = zz at *
          generalize iD a = ia at *
          simp_arith [mSplit, kSplit1, hsp, hnum, hin, hlen, q, h0, hA0, h1, h6, ha, h7]
end Lw

namespace Lw
open PySem Gx
theorem addT {a b : List D} {μ : Store} (h : a.length + b.length ≤ 1000) : oAdd true (.imm (.tup a)) (.imm (.tup b)) μ = .ok (.imm (.tup (a ++ b))) μ := by
  have e : oAdd true (.imm (.tup a)) (.imm (.tup b)) μ = if (a.map W.imm).length + (b.map W.imm).length ≤ cap then .ok (mkT (a.map W.imm ++ b.map W.imm)) μ else .bad := rfl
  rw [e, if_pos (by simp only [List.length_map]; unfold cap; omega)]
  congr 1
  rw [← List.map_append]
  unfold mkT
  rw [immAll_imm]
theorem addL {a b : List D} {μ : Store} (h : a.length + b.length ≤ 1000) : oAdd true (.imm (.lst a)) (.imm (.lst b)) μ = .ok (.imm (.lst (a ++ b))) μ := by
  have e : oAdd true (.imm (.lst a)) (.imm (.lst b)) μ = if (a.map W.imm).length + (b.map W.imm).length ≤ cap then mkL true (a.map W.imm ++ b.map W.imm) μ else .bad := rfl
  rw [e, if_pos (by simp only [List.length_map]; unfold cap; omega), ← List.map_append, g_mkLt, g_immI]
  rfl
/-- a number as data -/
def nD (n : Nat) : D := .int (n : Int)
/-- how a fact reads -/
structure FaT (f : Fa) (a : Nat) (w : Str) (ns : List Nat) : Prop where
  ds : f.ds = nD a :: .str w :: ns.map nD
  a : a < 1000000
  small : ∀ n ∈ ns, n < 1000000
  few : ns.length ≤ 3
  wl : w.length ≤ 10
  w32 : 32 ∉ TL.tl w
  ok : isFactB f.ds = true
theorem cast_nat {x : Int} (h : 0 ≤ x) : ∃ n : Nat, x = (n : Int) := ⟨x.toNat, by omega⟩
theorem sgn_u : decide (sgn 117 = ("u" : Str)) = true ∧ decide (sgn 112 = ("u" : Str)) = false ∧ decide (sgn 102 = ("u" : Str)) = false := ⟨by decide +kernel, by decide +kernel, by decide +kernel⟩
theorem cps_shape : ("pu" : Str).cps.toList = [112, 117] ∧ ("fp" : Str).cps.toList = [102, 112] ∧ ("f" : Str).cps.toList = [102] ∧ ("fpp" : Str).cps.toList = [102, 112, 112] ∧ ("ff" : Str).cps.toList = [102, 102] := ⟨by decide +kernel, by decide +kernel, by decide +kernel, by decide +kernel, by decide +kernel⟩
theorem cps_size : ("pu" : Str).cps.size = 2 ∧ ("fp" : Str).cps.size = 2 ∧ ("f" : Str).cps.size = 1 ∧ ("fpp" : Str).cps.size = 3 ∧ ("ff" : Str).cps.size = 2 := ⟨by decide +kernel, by decide +kernel, by decide +kernel, by decide +kernel, by decide +kernel⟩
theorem shapes_bar : shapes.lookup ("bar" : Str) = some "pu" := rfl
theorem shapes_enter : shapes.lookup ("enter" : Str) = some "fp" := rfl
theorem shapes_fall : shapes.lookup ("fall" : Str) = some "f" := rfl
theorem shapes_grant : shapes.lookup ("grant" : Str) = some "fpp" := rfl
theorem shapes_hand : shapes.lookup ("hand" : Str) = some "fp" := rfl
theorem shapes_leave : shapes.lookup ("leave" : Str) = some "f" := rfl
theorem shapes_sue : shapes.lookup ("sue" : Str) = some "fp" := rfl
theorem shapes_walk : shapes.lookup ("walk" : Str) = some "ff" := rfl
theorem shapes_win : shapes.lookup ("win" : Str) = some "f" := rfl
theorem shapes_yes : shapes.lookup ("yes" : Str) = some "f" := rfl
theorem partN {a x : Int} (h : nOk x) : partOk a false (.int x) = true := by simp [partOk]; exact h
theorem Fa.isFact {f : Fa} (h : f.Good) : isFactB f.ds = true := by
  obtain ⟨u1, u2, u3⟩ := sgn_u
  obtain ⟨e1, e2, e3, e4, e5⟩ := cps_shape
  obtain ⟨z1, z2, z3, z4, z5⟩ := cps_size
  cases f with
  | bar d o t =>
    obtain ⟨h1, h2, h3, h4, h5⟩ := h
    simp [Fa.ds, Fa.D, isFactB, shapes_bar, e1, z1, fitsB, u1, u2, partN h3, neqB, partOk, h1, h2, h4, h5]
    exact ⟨h3, .inl (by decide +kernel)⟩
  | walk d o t =>
    obtain ⟨h1, h2, h3, h4, h5⟩ := h
    simp [Fa.ds, Fa.D, isFactB, shapes_walk, e5, z5, fitsB, u3, partN h3, partN h4, neqB, h1, h2, h5]
  | ev d x e =>
    obtain ⟨h1, h2, h3, h4⟩ := h
    cases e with
    | grant g t =>
      obtain ⟨g1, g2, g3⟩ := h4
      simp [Fa.ds, Fa.D, Ev.D, isFactB, shapes_grant, e4, z4, fitsB, u2, u3, partN h3, partN g1, partN g2, neqB, h1, h2, g3]
    | enter a =>
      simp [Fa.ds, Fa.D, Ev.D, isFactB, shapes_enter, e2, z2, fitsB, u2, u3, partN h3, partN (x := a) h4, neqB, h1, h2]
      exact .inl (by decide +kernel)
    | hand a =>
      simp [Fa.ds, Fa.D, Ev.D, isFactB, shapes_hand, e2, z2, fitsB, u2, u3, partN h3, partN (x := a) h4, neqB, h1, h2]
      exact .inl (by decide +kernel)
    | sue a =>
      simp [Fa.ds, Fa.D, Ev.D, isFactB, shapes_sue, e2, z2, fitsB, u2, u3, partN h3, partN (x := a) h4, neqB, h1, h2]
      exact .inl (by decide +kernel)
    | leave => simp [Fa.ds, Fa.D, Ev.D, isFactB, shapes_leave, e3, z3, fitsB, u2, u3, partN h3, neqB, h1, h2]
    | yes => simp [Fa.ds, Fa.D, Ev.D, isFactB, shapes_yes, e3, z3, fitsB, u2, u3, partN h3, neqB, h1, h2]
    | win => simp [Fa.ds, Fa.D, Ev.D, isFactB, shapes_win, e3, z3, fitsB, u2, u3, partN h3, neqB, h1, h2]
    | fall => simp [Fa.ds, Fa.D, Ev.D, isFactB, shapes_fall, e3, z3, fitsB, u2, u3, partN h3, neqB, h1, h2]
theorem w32_bar : (Str.length "bar" ≤ 10) ∧ 32 ∉ TL.tl ("bar" : Str) := by decide +kernel
theorem Fa.read {f : Fa} (h : f.Good) : ∃ a w ns, FaT f a w ns := by
  have hf := Fa.isFact h
  cases f with
  | bar d o t =>
    obtain ⟨h1, h2, h3, h4, h5⟩ := h
    obtain ⟨d, rfl⟩ := cast_nat h1
    obtain ⟨o, rfl⟩ := cast_nat (x := o) (by have := h3.1; omega)
    obtain ⟨t, rfl⟩ := cast_nat (x := t) (by omega)
    exact ⟨d, "bar", [o, t], rfl, by omega, by have := h3.2; simp; omega, by simp, by decide +kernel, by decide +kernel, hf⟩
  | walk d o t =>
    obtain ⟨h1, h2, h3, h4, h5⟩ := h
    obtain ⟨d, rfl⟩ := cast_nat h1
    obtain ⟨o, rfl⟩ := cast_nat (x := o) (by have := h3.1; omega)
    obtain ⟨t, rfl⟩ := cast_nat (x := t) (by have := h4.1; omega)
    exact ⟨d, "walk", [o, t], rfl, by omega, by have := h3.2; have := h4.2; simp; omega, by simp, by decide +kernel, by decide +kernel, hf⟩
  | ev d x e =>
    obtain ⟨h1, h2, h3, h4⟩ := h
    obtain ⟨d, rfl⟩ := cast_nat h1
    obtain ⟨x, rfl⟩ := cast_nat (x := x) (by have := h3.1; omega)
    have hx := h3.2
    cases e with
    | grant g t =>
      obtain ⟨g1, g2, g3⟩ := h4
      obtain ⟨g, rfl⟩ := cast_nat (x := g) (by have := g1.1; omega)
      obtain ⟨t, rfl⟩ := cast_nat (x := t) (by have := g2.1; omega)
      exact ⟨d, "grant", [x, g, t], rfl, by omega, by have := g1.2; have := g2.2; simp; omega, by simp, by decide +kernel, by decide +kernel, hf⟩
    | enter a =>
      have h4 : nOk a := h4
      obtain ⟨a, rfl⟩ := cast_nat (x := a) (by have := h4.1; omega)
      exact ⟨d, "enter", [x, a], rfl, by omega, by have := h4.2; simp; omega, by simp, by decide +kernel, by decide +kernel, hf⟩
    | hand a =>
      have h4 : nOk a := h4
      obtain ⟨a, rfl⟩ := cast_nat (x := a) (by have := h4.1; omega)
      exact ⟨d, "hand", [x, a], rfl, by omega, by have := h4.2; simp; omega, by simp, by decide +kernel, by decide +kernel, hf⟩
    | sue a =>
      have h4 : nOk a := h4
      obtain ⟨a, rfl⟩ := cast_nat (x := a) (by have := h4.1; omega)
      exact ⟨d, "sue", [x, a], rfl, by omega, by have := h4.2; simp; omega, by simp, by decide +kernel, by decide +kernel, hf⟩
    | leave => exact ⟨d, "leave", [x], rfl, by omega, by simp; omega, by simp, by decide +kernel, by decide +kernel, hf⟩
    | yes => exact ⟨d, "yes", [x], rfl, by omega, by simp; omega, by simp, by decide +kernel, by decide +kernel, hf⟩
    | win => exact ⟨d, "win", [x], rfl, by omega, by simp; omega, by simp, by decide +kernel, by decide +kernel, hf⟩
    | fall => exact ⟨d, "fall", [x], rfl, by omega, by simp; omega, by simp, by decide +kernel, by decide +kernel, hf⟩
/-- the text of a fact -/
def lineW (a : Nat) (w : Str) (ns : List Nat) : List Str := w :: (a :: ns).map numS
theorem numS_len {n : Nat} (h : n < 1000000) : (numS n).length ≤ 6 := by
  rw [TL.len_tl, show TL.tl (numS n) = TL.numL n from numS_tl n]
  exact TL.numL_len (by decide) (by omega)
theorem sum_len : ∀ l : List Nat, (∀ n ∈ l, n < 1000000) → ((l.map numS).map (·.length)).sum ≤ 6 * l.length
  | [], _ => Nat.zero_le _
  | n :: l, h => by
    have := sum_len l fun n hn => h n (by simp [hn])
    have := numS_len (h n (by simp))
    simp only [List.map_cons, List.sum_cons, List.length_cons]
    omega
theorem FaT.all {f : Fa} {a : Nat} {w : Str} {ns : List Nat} (h : FaT f a w ns) : ∀ n ∈ a :: ns, n < 1000000 := fun n hn => by
  rcases List.mem_cons.mp hn with rfl | hn
  · exact h.a
  · exact h.small n hn
theorem FaT.len {f : Fa} {a : Nat} {w : Str} {ns : List Nat} (h : FaT f a w ns) : ((lineW a w ns).map (·.length)).sum + (lineW a w ns).length ≤ 1000000 := by
  have h1 := sum_len (a :: ns) h.all
  have h2 := h.few
  have h3 := h.wl
  unfold lineW
  rw [List.map_cons, List.sum_cons, List.length_cons, List.length_map]
  simp only [List.length_cons] at h1 ⊢
  omega
theorem FaT.free {f : Fa} {a : Nat} {w : Str} {ns : List Nat} (h : FaT f a w ns) : ∀ p ∈ lineW a w ns, 32 ∉ TL.tl p := fun p hp => by
  unfold lineW at hp
  rcases List.mem_cons.mp hp with rfl | hp
  · exact h.w32
  · obtain ⟨n, _, rfl⟩ := List.mem_map.mp hp
    rw [show TL.tl (numS n) = TL.numL n from numS_tl n]
    exact TL.numL_free (.inl (by decide))
theorem numsD (l : List Nat) (E : Gx.Env) (mit : Mi) (gd : Gd) (tg : Nat) (hi : ∀ μ, mit E μ = .ok ((l.map nD).map W.imm, []) μ) (hl : l.length ≤ 100) (hs : ∀ n ∈ l, n < 1000000) (ht : tg < E.length) (μ : Store) :
    retr μ (mLc mit (mgN tg) mYes (mCB oStr1 (mCons (mVar tg) mNil)) [tg] E μ) = .ok (.imm (.lst ((l.map numS).map D.str))) μ := by
  have e := lc_mapD (mit := mit) (E := E) (μ := μ) (tg := mgN tg) (mt := mYes) (me := mCB oStr1 (mCons (mVar tg) mNil)) (vs := [tg]) (gd := []) (g := fun n : Nat => W.imm (nD n)) (f := fun n : Nat => some (.str (numS n))) (l := l)
    (by rw [hi, List.map_map]; rfl) rfl (by omega) fun n hn => ⟨((wipeW E [tg]).set tg (some (.imm (nD n)))), rfl, fun μ => ⟨rfl, by
      have h1 : ((wipeW E [tg]).set tg (some (.imm (nD n))))[tg]? = some (some (.imm (nD n))) := by
        rw [List.getElem?_set_self]
        unfold wipeW
        simp only [List.foldl_cons, List.foldl_nil, List.length_set]
        exact ht
      have h2 := str1 n (hs n hn) μ
      have h3 : mVar tg ((wipeW E [tg]).set tg (some (.imm (nD n)))) μ = .ok (.imm (nD n)) μ := by
        unfold mVar
        rw [h1]
      unfold mCB mCons mNil
      rw [h3]
      exact h2⟩⟩
  rw [e]
  congr 3
  rw [List.map_map, ← List.filterMap_eq_map]
  rfl
end Lw

namespace Lw
open PySem Gx
variable {f : Fa} {a : Nat} {w : Str} {ns : List Nat}
theorem v_factline (h : FaT f a w ns) (μ : Store) : retr μ (g_law_factline [.imm (.tup (nD a :: .str w :: ns.map nD))] μ).fin = .ok (.imm (.str (Txt.join blank (lineW a w ns)))) μ := by
  have hs := str1 a h.a
  have hl := numsD ns [(some (.imm (.tup (nD a :: .str w :: ns.map nD)))), none] (mSrc (mSl true (mVar 0) (mPart (mC (.int 2))) (mNoP))) [] 1 (fun μ => by
    have h3 : oSl true (.imm (.tup (nD a :: .str w :: ns.map nD))) (some 2) none μ = .ok (.imm (.tup (ns.map nD))) μ := g_slTf (by decide)
    simp_arith [h3]) (by have := h.few; omega) h.small (by simp)
  have ha : ∀ μ, oAdd true (.imm (.lst [.str w, .str (numS a)])) (.imm (.lst ((ns.map numS).map D.str))) μ = .ok (.imm (.lst ((lineW a w ns).map D.str))) μ := fun μ => by
    rw [addL (by have := h.few; simp; omega)]; rfl
  have hj := r_join (lineW a w ns) h.len
  refine retr_fin (retr_imm0 ?_)
  unfold g_law_factline m_law_factline nD at *
  simp_arith [hs, hl, ha, mJoin, kJoin1, hj]
end Lw

namespace Lw
open PySem Gx
theorem strAdd {a b : Str} (h : a.length + b.length ≤ 100000) (μ : Store) : oAdd true (.imm (.str a)) (.imm (.str b)) μ = .ok (.imm (.str (a ++ b))) μ := by
  show (if a.length + b.length ≤ cap then Rs.ok (W.imm (D.str (a ++ b))) μ else .bad) = _
  rw [if_pos (by unfold cap; omega)]
theorem strApp_len (a b : Str) : (a ++ b).length = a.length + b.length := by
  show (a.cps ++ b.cps).size = _
  rw [Array.size_append]
  rfl
end Lw

namespace Lw
open PySem Gx
/-! ### a text spoilt is a text -/
theorem cut_len (z : Str) (lo hi : Option Int) : (L2.cutS z lo hi).length ≤ z.length := by
  have e : (L2.cutS z lo hi).length = ((z.cps.toList.drop (HT.sIx z.length 0 lo)).take (HT.sIx z.length z.length hi - HT.sIx z.length 0 lo)).length := by
    rw [TL.len_tl]
    unfold L2.cutS
    show (List.toArray _).toList.length = _
    rfl
  rw [e, List.length_take, List.length_drop, TL.len_tl]
  have : z.cps.toList.length = (TL.tl z).length := rfl
  omega
theorem sl_str {s : Str} {lo hi : Option Int} (hl : s.length ≤ 200000) (μ : Store) : oSl true (.imm (.str s)) lo hi μ = .ok (.imm (.str (L2.cutS s lo hi))) μ := by
  have e : oSl true (.imm (.str s)) lo hi μ = if s.length ≤ cap then .ok (.imm (.str (L2.cutS s lo hi))) μ else .bad := rfl
  rw [e, if_pos (by unfold cap; omega)]
theorem ix_str {s : Str} {z : Int} (hl : s.length ≤ 200000) (h0 : 0 ≤ z) (h1 : z < s.length) : ∃ c, ∀ μ, oIx (.imm (.str s)) (.imm (.int z)) μ = .ok (.imm (.str ⟨#[c]⟩)) μ := by
  have e2 : ∀ μ, oIx (.imm (.str s)) (.imm (.int z)) μ = if s.length ≤ cap then (match L2.atI s.cps.toList z with
    | some c => .ok (.imm (.str ⟨#[c]⟩)) μ
    | none => .bad) else .bad := fun μ => rfl
  have hz : z.toNat < s.cps.toList.length := by
    have : s.length = s.cps.toList.length := TL.len_tl s
    omega
  have e3 : L2.atI s.cps.toList z = some s.cps.toList[z.toNat] := by
    unfold L2.atI L2.ixN
    have : (s.cps.toList.length : Int) = s.length := by rw [show s.length = s.cps.toList.length from TL.len_tl s]
    simp only [this]
    rw [if_pos h0, if_pos h1]
    simp [hz]
  refine ⟨s.cps.toList[z.toNat], fun μ => ?_⟩
  rw [e2, if_pos (by unfold cap; omega), e3]
theorem sum_take (l : List Str) (k : Nat) : ((l.take k).map (·.length)).sum + ((l.drop k).map (·.length)).sum = (l.map (·.length)).sum := by
  rw [← List.sum_append, ← List.map_append, List.take_append_drop]
theorem addS {a b : Str} (h : a.length + b.length ≤ 200000) (μ : Store) : oAdd true (.imm (.str a)) (.imm (.str b)) μ = .ok (.imm (.str (a ++ b))) μ := by
  show (if a.length + b.length ≤ cap then Rs.ok (W.imm (D.str (a ++ b))) μ else .bad) = _
  rw [if_pos (by unfold cap; omega)]
theorem one_len (c : Nat) : (⟨#[c]⟩ : Str).length = 1 := rfl
def others (t : Str) : List Str := ["0", "00", "01", "-1", "+1", "1000", "9999", "10000", "10001", t, "", "yes", "bar", "1.0"]
theorem lit_small : ∀ x ∈ (["0", "00", "01", "-1", "+1", "1000", "9999", "10000", "10001", "", "yes", "bar", "1.0"] : List Str), x.length ≤ 5000 := by decide +kernel
theorem others_len {t : Str} (h : t.length ≤ 5000) : ∀ x ∈ others t, x.length ≤ 5000 := by
  intro x hx
  unfold others at hx
  by_cases hq : x = t
  · rw [hq]; exact h
  · refine lit_small x ?_
    simp only [List.mem_cons, List.not_mem_nil, or_false, hq, false_or] at hx ⊢
    exact hx
theorem mul_len {n : Int} (h0 : 0 ≤ n) (h1 : n ≤ 5000) : (Txt.mul "7" n).length ≤ 5000 := by
  have := PyProof.Rows.len_mul "7" n
  rw [show ("7" : Str).length = 1 from by decide +kernel] at this
  split at this <;> omega
end Lw

namespace Lw
open PySem Gx
def SM : Str := " !\"#$&'()*+,-./0123456789:;<=>?@ABCDEFGHIJKLMNOPQRSTUVWXYZ[\\]^_`abcdefghijklmnopqrstuvwxyz{|}~\n"
theorem SM_len : SM.length + (" 0123456789 0123456789" : Str).length = 117 := by decide +kernel
theorem v_spoilt {s : Str} (hl : s.length ≤ 40000) {r0 r1 r2 r3 : Int} (h0 : 0 ≤ r0 ∧ r0 < 9) (h1 : 0 ≤ r1) (h2 : 0 ≤ r2 ∧ r2 < 117) (h3 : 0 ≤ r3 ∧ r3 < 14) (μ : Store) :
    ∃ s' : Str, s'.length ≤ 2 * s.length + 5010 ∧ retr μ (g_law_spoilt [.imm (.str s), .imm (.lst [.int r0, .int r1, .int r2, .int r3])] μ).fin = .ok (.imm (.str s')) μ := by
  obtain ⟨R, hR⟩ : ∃ R, R = D.lst [.int r0, .int r1, .int r2, .int r3] := ⟨_, rfl⟩
  have i0 : ∀ μ, oIx (.imm R) (.imm (.int 0)) μ = .ok (.imm (.int r0)) μ := fun μ => by rw [hR]; rfl
  have i1 : ∀ μ, oIx (.imm R) (.imm (.int 1)) μ = .ok (.imm (.int r1)) μ := fun μ => by rw [hR]; rfl
  have i2 : ∀ μ, oIx (.imm R) (.imm (.int 2)) μ = .ok (.imm (.int r2)) μ := fun μ => by rw [hR]; rfl
  have i3 : ∀ μ, oIx (.imm R) (.imm (.int 3)) μ = .ok (.imm (.int r3)) μ := fun μ => by rw [hR]; rfl
  rw [← hR]
  clear hR
  have hlen := fun μ => str_len (s := s) (by omega) μ
  obtain ⟨at_, hat⟩ : ∃ at_ : Nat, r1 % ((s.length : Int) + 1) = (at_ : Int) := ⟨(r1 % ((s.length : Int) + 1)).toNat, by have := Int.emod_nonneg r1 (b := (s.length : Int) + 1) (by omega); omega⟩
  have hm1 : ∀ τ, oMod (.imm (.int r1)) (.imm (.int ((s.length : Int) + 1))) τ = .ok (.imm (.int (at_ : Int))) τ := fun τ => by rw [g_mod (by omega), hat]
  have hSM := SM_len
  have hadd := fun τ => addS (a := SM) (b := " 0123456789 0123456789") (by omega) τ
  obtain ⟨c, hc⟩ := ix_str (s := SM ++ " 0123456789 0123456789") (z := r2) (by rw [strApp_len]; omega) h2.1 (by rw [strApp_len]; omega)
  have hsl := fun lo hi μ => sl_str (s := s) (lo := lo) (hi := hi) (by omega) μ
  have hcl := fun lo hi => cut_len s lo hi
  have hone := one_len c
  obtain ⟨sg, hsg⟩ : ∃ sg : Str, sg = ⟨#[c]⟩ := ⟨_, rfl⟩
  rw [← hsg] at hc hone
  have front : ∀ T : Ms, mSeq (mAsg (mC (.str SM)) (mgN 2)) (mSeq (mAsg (mOp oMod (mOp oIx (mVar 1) (mC (.int 1))) (mOp (oAdd true) (mCB oLen (mCons (mVar 0) (mNil))) (mC (.int 1)))) (mgN 3))
      (mSeq (mAsg (mOp oIx (mOp (oAdd true) (mVar 2) (mC (.str " 0123456789 0123456789"))) (mOp oIx (mVar 1) (mC (.int 2)))) (mgN 4)) T)) [(some (.imm (.str s))), (some (.imm (R))), none, none, none, none, none] μ = T [(some (.imm (.str s))), (some (.imm (R))), (some (.imm (.str SM))), (some (.imm (.int ((at_ : Int))))), (some (.imm (.str sg))), none, none] μ := fun T => by
    generalize hq : SM = sm at *
    rw [x_seq (E1 := [(some (.imm (.str s))), (some (.imm (R))), (some (.imm (.str sm))), none, none, none, none]) (μ1 := μ) (by rfl)]
    rw [x_seq (E1 := [(some (.imm (.str s))), (some (.imm (R))), (some (.imm (.str sm))), (some (.imm (.int ((at_ : Int))))), none, none, none]) (μ1 := μ) (by simp_arith [i1, hlen, hm1])]
    rw [x_seq (E1 := [(some (.imm (.str s))), (some (.imm (R))), (some (.imm (.str sm))), (some (.imm (.int ((at_ : Int))))), (some (.imm (.str sg))), none, none]) (μ1 := μ) (by simp_arith [hadd, i2, hc])]
  have key : ∃ s' : Str, s'.length ≤ 2 * s.length + 5010 ∧ kRun (m_law_spoilt [(some (.imm (.str s))), (some (.imm (R))), none, none, none, none, none] μ) = .ok (.imm (.str s')) μ := by
    show ∃ s' : Str, s'.length ≤ 2 * s.length + 5010 ∧ kRun ((mSeq (mAsg (mC (.str SM)) (mgN 2)) (mSeq (mAsg (mOp oMod (mOp oIx (mVar 1) (mC (.int 1))) (mOp (oAdd true) (mCB oLen (mCons (mVar 0) (mNil))) (mC (.int 1)))) (mgN 3))
      (mSeq (mAsg (mOp oIx (mOp (oAdd true) (mVar 2) (mC (.str " 0123456789 0123456789"))) (mOp oIx (mVar 1) (mC (.int 2)))) (mgN 4)) ((mSeq (mIfS (mB (mOp oLt (mOp oIx (mVar 1) (mC (.int 0))) (mC (.int 2)))) (mRet (mOp (oAdd true) (mOp (oAdd true) (mSl true (mVar 0) (mNoP) (mPart (mVar 3))) (mVar 4)) (mSl true (mVar 0) (mPart (mVar 3)) (mNoP)))) (mSkip))
  (mSeq (mIfS (mB (mOp oLt (mOp oIx (mVar 1) (mC (.int 0))) (mC (.int 4)))) (mRet (mOp (oAdd true) (mOp (oAdd true) (mSl true (mVar 0) (mNoP) (mPart (mVar 3))) (mVar 4)) (mSl true (mVar 0) (mPart (mOp (oAdd true) (mVar 3) (mC (.int 1)))) (mNoP)))) (mSkip))
  (mSeq (mIfS (mB (mOp oEq (mOp oIx (mVar 1) (mC (.int 0))) (mC (.int 4)))) (mRet (mOp (oAdd true) (mSl true (mVar 0) (mNoP) (mPart (mVar 3))) (mSl true (mVar 0) (mPart (mOp (oAdd true) (mVar 3) (mC (.int 1)))) (mNoP)))) (mSkip))
  (mSeq (mAsg (mSplit true (mVar 0) (mC (.str " "))) (mgN 5))
  (mSeq (mAsg (mOp oMod (mOp oIx (mVar 1) (mC (.int 1))) (mCB oLen (mCons (mVar 5) (mNil)))) (mgN 3))
  (mSeq (mAsg (mOp oIx (mLst true (mCons (mC (.str "0")) (mCons (mC (.str "00")) (mCons (mC (.str "01")) (mCons (mC (.str "-1")) (mCons (mC (.str "+1")) (mCons (mC (.str "1000")) (mCons (mC (.str "9999")) (mCons (mC (.str "10000")) (mCons (mC (.str "10001")) (mCons (mOp oMulS (mC (.str "7")) (mC (.int 5000))) (mCons (mC (.str "")) (mCons (mC (.str "yes")) (mCons (mC (.str "bar")) (mCons (mC (.str "1.0")) (mNil)))))))))))))))) (mOp oIx (mVar 1) (mC (.int 3)))) (mgN 6))
  (mSeq (mIfS (mB (mOp oEq (mOp oIx (mVar 1) (mC (.int 0))) (mC (.int 5)))) (mRet (mJoin (mC (.str " ")) (mOp (oAdd true) (mOp (oAdd true) (mSl true (mVar 5) (mNoP) (mPart (mVar 3))) (mSl true (mVar 5) (mPart (mVar 3)) (mPart (mOp (oAdd true) (mVar 3) (mC (.int 1)))))) (mSl true (mVar 5) (mPart (mVar 3)) (mNoP))))) (mSkip))
  (mSeq (mIfS (mB (mOp oEq (mOp oIx (mVar 1) (mC (.int 0))) (mC (.int 6)))) (mRet (mJoin (mC (.str " ")) (mOp (oAdd true) (mSl true (mVar 5) (mNoP) (mPart (mVar 3))) (mSl true (mVar 5) (mPart (mOp (oAdd true) (mVar 3) (mC (.int 1)))) (mNoP))))) (mSkip))
  (mRet (mJoin (mC (.str " ")) (mOp (oAdd true) (mOp (oAdd true) (mSl true (mVar 5) (mNoP) (mPart (mVar 3))) (mLst true (mCons (mVar 6) (mNil)))) (mSl true (mVar 5) (mPart (mOp (oAdd true) (mVar 3) (mC (.int 1)))) (mNoP))))))))))))))))) [(some (.imm (.str s))), (some (.imm (R))), none, none, none, none, none] μ) = .ok (.imm (.str s')) μ
    rw [front]
    clear front hadd hc hSM
    generalize SM = sm at *
    obtain ⟨c1, hc1⟩ : ∃ c1, c1 = L2.cutS s none (some (at_ : Int)) := ⟨_, rfl⟩
    obtain ⟨c2, hc2⟩ : ∃ c2, c2 = L2.cutS s (some (at_ : Int)) none := ⟨_, rfl⟩
    obtain ⟨c3, hc3⟩ : ∃ c3, c3 = L2.cutS s (some ((at_ : Int) + 1)) none := ⟨_, rfl⟩
    have l1 : c1.length ≤ s.length := by rw [hc1]; exact hcl _ _
    have l2 : c2.length ≤ s.length := by rw [hc2]; exact hcl _ _
    have l3 : c3.length ≤ s.length := by rw [hc3]; exact hcl _ _
    have e1 : ∀ μ, oSl true (.imm (.str s)) none (some (at_ : Int)) μ = .ok (.imm (.str c1)) μ := fun μ => by rw [hc1]; exact hsl _ _ μ
    have e2 : ∀ μ, oSl true (.imm (.str s)) (some (at_ : Int)) none μ = .ok (.imm (.str c2)) μ := fun μ => by rw [hc2]; exact hsl _ _ μ
    have e3 : ∀ μ, oSl true (.imm (.str s)) (some ((at_ : Int) + 1)) none μ = .ok (.imm (.str c3)) μ := fun μ => by rw [hc3]; exact hsl _ _ μ
    clear hc1 hc2 hc3 hsl hcl
    have a1 := fun μ => addS (a := c1) (b := sg) (by omega) μ
    have al1 := strApp_len c1 sg
    by_cases q2 : r0 < 2
    · have q := decide_eq_true q2
      have a2 := fun μ => addS (a := c1 ++ sg) (b := c2) (by omega) μ
      exact ⟨c1 ++ sg ++ c2, by rw [strApp_len]; omega, by simp_arith [i0, q, e1, e2, a1, a2]⟩
    have q2 := decide_eq_false q2
    by_cases q4 : r0 < 4
    · have q := decide_eq_true q4
      have a2 := fun μ => addS (a := c1 ++ sg) (b := c3) (by omega) μ
      exact ⟨c1 ++ sg ++ c3, by rw [strApp_len]; omega, by simp_arith [i0, q2, q, e1, e3, a1, a2]⟩
    have q4 := decide_eq_false q4
    by_cases q5 : r0 = 4
    · have q := decide_eq_true q5
      have a2 := fun μ => addS (a := c1) (b := c3) (by omega) μ
      exact ⟨c1 ++ c3, by rw [strApp_len]; omega, by simp_arith [i0, q2, q4, q, e1, e3, a2]⟩
    have q5 := decide_eq_false q5
    clear a1 al1 e1 e2 e3
    obtain ⟨w0, ws0, hsp, hsum⟩ := words_of s (by omega)
    obtain ⟨ws, hws⟩ : ∃ ws, ws = w0 :: ws0 := ⟨_, rfl⟩
    rw [← hws] at hsum
    simp only [← hws] at hsp
    have hwl : 1 ≤ ws.length := by rw [hws]; simp
    clear hws
    have hlw : ∀ μ, oLen [.imm (.lst (ws.map D.str))] μ = .ok (.imm (.int (ws.length : Int))) μ := fun μ => by rw [SrcP.len srcP_imm, List.length_map, List.length_map]
    obtain ⟨k, hk⟩ : ∃ k : Nat, r1 % (ws.length : Int) = (k : Int) := ⟨(r1 % (ws.length : Int)).toNat, by have := Int.emod_nonneg r1 (b := (ws.length : Int)) (by omega); omega⟩
    have hm2 : ∀ τ, oMod (.imm (.int r1)) (.imm (.int (ws.length : Int))) τ = .ok (.imm (.int (k : Int))) τ := fun τ => by rw [g_mod (by omega), hk]
    obtain ⟨t7, ht7⟩ : ∃ t7, t7 = Txt.mul "7" 5000 := ⟨_, rfl⟩
    have hl7 : t7.length ≤ 5000 := by rw [ht7]; exact mul_len (by decide) (by decide)
    have hmul : ∀ τ, oMulS (.imm (.str "7")) (.imm (.int 5000)) τ = .ok (.imm (.str t7)) τ := fun τ => by
      rw [ht7]
      show (if ("7" : Str).length ≤ 16 ∧ (0 : Int) ≤ 5000 ∧ (5000 : Int) ≤ 1048576 then Rs.ok (W.imm (D.str (Txt.mul "7" 5000))) τ else .bad) = _
      rw [if_pos ⟨by decide +kernel, by decide, by decide⟩]
    clear ht7
    obtain ⟨o, ho⟩ : ∃ o, (others t7)[r3.toNat]? = some o := ⟨_, List.getElem?_eq_getElem (by show r3.toNat < 14; omega)⟩
    have hol := others_len hl7 o (List.mem_of_getElem? ho)
    have hio : ∀ τ, oIx (.imm (.lst [.str "0", .str "00", .str "01", .str "-1", .str "+1", .str "1000", .str "9999", .str "10000", .str "10001", .str t7, .str "", .str "yes", .str "bar", .str "1.0"])) (.imm (.int r3)) τ = .ok (.imm (.str o)) τ := fun τ => by
      rw [g_ixL h3.1, show ([.str "0", .str "00", .str "01", .str "-1", .str "+1", .str "1000", .str "9999", .str "10000", .str "10001", .str t7, .str "", .str "yes", .str "bar", .str "1.0"] : List D) = (others t7).map D.str from rfl, List.getElem?_map, ho]
      rfl
    have s1 : ∀ μ, oSl true (.imm (.lst (ws.map D.str))) none (some (k : Int)) μ = .ok (.imm (.lst ((ws.take k).map D.str))) μ := fun μ => by
      rw [g_slLt (by omega), Int.toNat_natCast, ← List.map_take]
      unfold mkL
      rw [immAll_imm]
    have s2 : ∀ μ, oSl true (.imm (.lst (ws.map D.str))) (some (k : Int)) none μ = .ok (.imm (.lst ((ws.drop k).map D.str))) μ := fun μ => by
      rw [g_slLf (by omega), Int.toNat_natCast, ← List.map_drop]
      unfold mkL
      rw [immAll_imm]
    have s3 : ∀ μ, oSl true (.imm (.lst (ws.map D.str))) (some ((k : Int) + 1)) none μ = .ok (.imm (.lst ((ws.drop (k + 1)).map D.str))) μ := fun μ => by
      rw [g_slLf (by omega), show ((k : Int) + 1).toNat = k + 1 by omega, ← List.map_drop]
      unfold mkL
      rw [immAll_imm]
    have s4 : ∀ μ, oSl true (.imm (.lst (ws.map D.str))) (some (k : Int)) (some ((k : Int) + 1)) μ = .ok (.imm (.lst (((ws.take (k + 1)).drop k).map D.str))) μ := fun μ => by
      rw [g_slLft ⟨by omega, by omega⟩, show ((k : Int) + 1).toNat = k + 1 by omega, Int.toNat_natCast, ← List.map_take, ← List.map_drop]
      unfold mkL
      rw [immAll_imm]
    have t1 := sum_take ws k
    have t2 := sum_take ws (k + 1)
    have t3 := sum_take (ws.take (k + 1)) k
    have n1 : (ws.take k).length ≤ ws.length := by rw [List.length_take]; omega
    have n2 : (ws.drop k).length ≤ ws.length := by rw [List.length_drop]; omega
    have n3 : (ws.drop (k + 1)).length ≤ ws.length := by rw [List.length_drop]; omega
    have n4 : ((ws.take (k + 1)).drop k).length ≤ 1 := by rw [List.length_drop, List.length_take]; omega
    have n5 : (ws.take k).length + (ws.drop k).length = ws.length := by rw [← List.length_append, List.take_append_drop]
    have n6 : (ws.take k).length + (ws.drop (k + 1)).length ≤ ws.length := by rw [List.length_take, List.length_drop]; omega
    obtain ⟨A, hA⟩ : ∃ A, A = ws.take k := ⟨_, rfl⟩
    obtain ⟨B, hB⟩ : ∃ B, B = ws.drop k := ⟨_, rfl⟩
    obtain ⟨C, hC⟩ : ∃ C, C = ws.drop (k + 1) := ⟨_, rfl⟩
    obtain ⟨O, hO⟩ : ∃ O, O = (ws.take (k + 1)).drop k := ⟨_, rfl⟩
    rw [← hA] at t1 n1 n5 n6
    rw [← hB] at t1 n2 n5
    rw [← hC] at t2 n3 n6
    rw [← hO] at t3 n4
    simp only [← hA] at s1
    simp only [← hB] at s2
    simp only [← hC] at s3
    simp only [← hO] at s4
    clear hA hB hC hO
    have jn := fun (l : List Str) (h : (l.map (·.length)).sum + l.length ≤ 1000000) μ => r_join l h μ
    have mid : ∀ T : Ms, mSeq (mAsg (mSplit true (mVar 0) (mC (.str " "))) (mgN 5)) (mSeq (mAsg (mOp oMod (mOp oIx (mVar 1) (mC (.int 1))) (mCB oLen (mCons (mVar 5) (mNil)))) (mgN 3))
        (mSeq (mAsg (mOp oIx (mLst true (mCons (mC (.str "0")) (mCons (mC (.str "00")) (mCons (mC (.str "01")) (mCons (mC (.str "-1")) (mCons (mC (.str "+1")) (mCons (mC (.str "1000")) (mCons (mC (.str "9999")) (mCons (mC (.str "10000")) (mCons (mC (.str "10001")) (mCons (mOp oMulS (mC (.str "7")) (mC (.int 5000))) (mCons (mC (.str "")) (mCons (mC (.str "yes")) (mCons (mC (.str "bar")) (mCons (mC (.str "1.0")) (mNil)))))))))))))))) (mOp oIx (mVar 1) (mC (.int 3)))) (mgN 6)) T)) [(some (.imm (.str s))), (some (.imm (R))), (some (.imm (.str sm))), (some (.imm (.int ((at_ : Int))))), (some (.imm (.str sg))), none, none] μ = T [(some (.imm (.str s))), (some (.imm (R))), (some (.imm (.str sm))), (some (.imm (.int ((k : Int))))), (some (.imm (.str sg))), (some (.imm (.lst (ws.map D.str)))), (some (.imm (.str o)))] μ := fun T => by
      generalize ws.map D.str = WS at *
      rw [x_seq (E1 := [(some (.imm (.str s))), (some (.imm (R))), (some (.imm (.str sm))), (some (.imm (.int ((at_ : Int))))), (some (.imm (.str sg))), (some (.imm (.lst WS))), none]) (μ1 := μ) (by simp_arith [mSplit, kSplit1, hsp])]
      rw [x_seq (E1 := [(some (.imm (.str s))), (some (.imm (R))), (some (.imm (.str sm))), (some (.imm (.int ((k : Int))))), (some (.imm (.str sg))), (some (.imm (.lst WS))), none]) (μ1 := μ) (by simp_arith [i1, hlw, hm2])]
      rw [x_seq (E1 := [(some (.imm (.str s))), (some (.imm (R))), (some (.imm (.str sm))), (some (.imm (.int ((k : Int))))), (some (.imm (.str sg))), (some (.imm (.lst WS))), (some (.imm (.str o)))]) (μ1 := μ) (by simp_arith [hmul, i3, hio])]
    rw [x_seq (E1 := [(some (.imm (.str s))), (some (.imm (R))), (some (.imm (.str sm))), (some (.imm (.int ((at_ : Int))))), (some (.imm (.str sg))), none, none]) (μ1 := μ) (by simp_arith [i0, q2])]
    rw [x_seq (E1 := [(some (.imm (.str s))), (some (.imm (R))), (some (.imm (.str sm))), (some (.imm (.int ((at_ : Int))))), (some (.imm (.str sg))), none, none]) (μ1 := μ) (by simp_arith [i0, q4])]
    rw [x_seq (E1 := [(some (.imm (.str s))), (some (.imm (R))), (some (.imm (.str sm))), (some (.imm (.int ((at_ : Int))))), (some (.imm (.str sg))), none, none]) (μ1 := μ) (by simp_arith [i0, q5])]
    rw [mid]
    clear mid
    have p1 : ∀ μ, oAdd true (.imm (.lst (A.map D.str))) (.imm (.lst (O.map D.str))) μ = .ok (.imm (.lst ((A ++ O).map D.str))) μ := fun μ => by rw [addL2 (by simp; omega), List.map_append]
    have p2 : ∀ μ, oAdd true (.imm (.lst ((A ++ O).map D.str))) (.imm (.lst (B.map D.str))) μ = .ok (.imm (.lst ((A ++ O ++ B).map D.str))) μ := fun μ => by rw [addL2 (by simp; omega), ← List.map_append]
    have p3 : ∀ μ, oAdd true (.imm (.lst (A.map D.str))) (.imm (.lst (C.map D.str))) μ = .ok (.imm (.lst ((A ++ C).map D.str))) μ := fun μ => by rw [addL2 (by simp; omega), List.map_append]
    have p4 : ∀ μ, oAdd true (.imm (.lst (A.map D.str))) (.imm (.lst [.str o])) μ = .ok (.imm (.lst ((A ++ [o]).map D.str))) μ := fun μ => by rw [addL2 (by simp; omega), List.map_append]; rfl
    have p5 : ∀ μ, oAdd true (.imm (.lst ((A ++ [o]).map D.str))) (.imm (.lst (C.map D.str))) μ = .ok (.imm (.lst ((A ++ [o] ++ C).map D.str))) μ := fun μ => by rw [addL2 (by simp; omega), ← List.map_append]
    generalize ws.map D.str = WS at *
    generalize A.map D.str = A' at *
    generalize B.map D.str = B' at *
    generalize C.map D.str = C' at *
    generalize O.map D.str = O' at *
    by_cases c5 : r0 = 5
    · have q := decide_eq_true c5
      have hb : ((A ++ O ++ B).map (·.length)).sum + (A ++ O ++ B).length ≤ 2 * s.length + 5010 := by
        simp only [List.map_append, List.sum_append, List.length_append]
        omega
      have hj := fun μ => jn (A ++ O ++ B) (by omega) μ
      refine ⟨Txt.join blank (A ++ O ++ B), Nat.le_trans (join_len _) hb, ?_⟩
      generalize Txt.join blank (A ++ O ++ B) = J at *
      generalize (A ++ O ++ B).map D.str = V at *
      generalize (A ++ O).map D.str = V2 at *
      simp_arith [i0, q, s1, s4, s2, p1, p2, mJoin, kJoin1, hj]
    have q6 := decide_eq_false c5
    by_cases c6 : r0 = 6
    · have q := decide_eq_true c6
      have hb : ((A ++ C).map (·.length)).sum + (A ++ C).length ≤ 2 * s.length + 5010 := by
        simp only [List.map_append, List.sum_append, List.length_append]
        omega
      have hj := fun μ => jn (A ++ C) (by omega) μ
      refine ⟨Txt.join blank (A ++ C), Nat.le_trans (join_len _) hb, ?_⟩
      generalize Txt.join blank (A ++ C) = J at *
      generalize (A ++ C).map D.str = V at *
      simp_arith [i0, q6, q, s1, s3, p3, mJoin, kJoin1, hj]
    have q7 := decide_eq_false c6
    have hb : ((A ++ [o] ++ C).map (·.length)).sum + (A ++ [o] ++ C).length ≤ 2 * s.length + 5010 := by
      simp only [List.map_append, List.sum_append, List.length_append, List.map_cons, List.map_nil, List.sum_cons, List.sum_nil, List.length_cons, List.length_nil]
      omega
    have hj := fun μ => jn (A ++ [o] ++ C) (by omega) μ
    refine ⟨Txt.join blank (A ++ [o] ++ C), Nat.le_trans (join_len _) hb, ?_⟩
    generalize Txt.join blank (A ++ [o] ++ C) = J at *
    generalize (A ++ [o] ++ C).map D.str = V at *
    generalize (A ++ [o]).map D.str = V2 at *
    simp_arith [i0, q6, q7, s1, s3, p4, p5, mJoin, kJoin1, hj]
  obtain ⟨s', hs, hk⟩ := key
  refine ⟨s', hs, retr_fin (retr_imm0 ?_)⟩
  exact (show g_law_spoilt [.imm (.str s), .imm R] μ = kRun (m_law_spoilt [(some (.imm (.str s))), (some (.imm (R))), none, none, none, none, none] μ) from rfl).trans hk
end Lw

namespace Lw
open PySem Gx
def menu : List Str := ["", " ", "yes", "yes 5", "yes 5 1 ", " yes 5 1", "Yes 5 1", "bar 5 1 5", "bar 5 1 6", "grant 5 1 2 2", "walk 5 3 3", "yes 05 1", "yes 5 0", "yes 10000 1", "bar 9999 1 10000", "bar 9999 1 10001"]
theorem menu_len : ∀ x ∈ menu, x.length ≤ 100 := by decide +kernel
/-- what is asked of a text -/
theorem k12_end {cs : List Int} {s : Str} (hl : s.length ≤ 39000) (R : D) (x3 x4 : Option W) (μ : Store) : ∃ μ', kRun (((mSeq (mAsg (mRetr (mCall 1 g_law_reader (mCons (mVar 2) (mNil)))) (mgN 5))
  (mSeq (mIfS (mB (mIsN (mVar 5))) (mRet (mOp oEq (mRetr (mCall 1 g_law_said (mCons (mVar 2) (mNil)))) (mRetr (mCall 1 g_law_flags (mCons (mC (.str "BadLine")) (mNil)))))) (mSkip))
  (mRet (mRetr (mCall 2 g_law_like (mCons (mRetr (mCallX 1 g_fact_of (mCons (mVar 2) (mNil)))) (mCons (mVar 5) (mNil))))))))) [(some (.imm (.scr cs))), (some (.imm (R))), (some (.imm (.str s))), x3, x4, none] μ) = .ok (.imm (.bl true)) μ' := by
  obtain ⟨w0, ws, hsp, hsum⟩ := words_of s (by omega)
  rw [List.map_cons, List.sum_cons, List.length_cons] at hsum
  have hwl : ∀ w ∈ ws, w.length ≤ 200000 := fun w hw => by have := len_mem hw; omega
  rcases v_reader hsp hwl (by omega) μ with ⟨a, r, hw, hf, hr⟩ | ⟨hno, hr⟩
  · have hsm := fact_small hf
    have ha : a < 1000000 := by have := hsm.1; omega
    have hr' : ∀ n ∈ r, n < 1000000 := fun n hn => by
      have := hsm.2.1 (n : Int) (List.mem_map.mpr ⟨n, hn, rfl⟩)
      omega
    have hlr : (a :: r).length ≤ 40000 := by
      have : ws.length = (a :: r).length := by rw [hw, List.length_map]
      omega
    have hfo := (fact_ok hsp (ns := a :: r) (fun n hn => by rcases List.mem_cons.mp hn with rfl | hn; exact ha; exact hr' n hn) hw hlr μ).1 a r rfl hf
    have lk := r_like (μ := μ) (d := .tup (iD a :: .str w0 :: r.map iD)) (by
      show (iD a :: .str w0 :: r.map iD).all _ = true
      rw [List.all_eq_true]
      intro d hd
      rcases pt_fact w0 a r d hd with ⟨i, rfl⟩ | ⟨t, rfl⟩ <;> rfl) (see_imm _) (see_imm _)
    have hrm : ∀ d μ, retr μ (.ok (.imm d) μ) = .ok (.imm d) μ := fun d μ => retr_imm0 rfl
    refine ⟨μ, ?_⟩
    generalize iD a :: .str w0 :: r.map iD = C at *
    simp_arith [hr, hfo, lk, hrm]
  · have hex : ∃ J, g_fact_of [.imm (.str s)] μ = .ex 13 (μ ++ J) := by
      rcases words_cut ws with ⟨ns, h1, h2⟩ | ⟨ns, x, r, h1, h2, h3⟩
      · have hln : ns.length ≤ 40000 := by
          have : ws.length = ns.length := by rw [h2, List.length_map]
          omega
        refine ⟨[], ?_⟩
        rw [List.append_nil]
        refine (fact_ok hsp h1 h2 hln μ).2 fun a r hq => ?_
        rw [hq] at h2 h1
        exact hno a r h2 h1
      · have hln : ns.length ≤ 40000 := by
          have : ws.length = ns.length + (r.length + 1) := by rw [h2, List.length_append, List.length_map, List.length_cons]
          omega
        obtain ⟨a, e⟩ := fact_bad hsp h1 h2 h3 (hwl x (by rw [h2]; simp)) hln μ
        exact ⟨_, e⟩
    obtain ⟨J, hex⟩ := hex
    have hsaid : retr μ (g_law_said [.imm (.str s)] μ).fin = .ok (.imm (.lst ((saidL 13).map D.bl))) μ := by
      refine retr_fin (retr_imm (j := J) ?_)
      have hx := fun E hi => kTry_ex (c := 13) (cs := [13]) (s := 1) (i := 2) (E := E) (μ := μ ++ J) (by decide) hi
      have hex2 : retr μ (.ex 13 (μ ++ J)) = .ex 13 (μ ++ J) := rfl
      refine (show g_law_said [.imm (.str s)] μ = kRun (m_law_said [(some (.imm (.str s))), none, none] μ) from rfl).trans ?_
      unfold m_law_said
      simp_arith [hex, hex2]
      rw [hx _ (by simp)]
      simp_arith [decide_true]
    have hfl := r_flags 13 (by decide) (by decide) μ
    rw [show errName 13 = "BadLine" from rfl] at hfl
    have hq := eq_said 13 μ
    refine ⟨μ, ?_⟩
    generalize (saidL 13).map D.bl = sl at *
    simp_arith [hr, hsaid, hfl, hq]
theorem law_true (cs : List Int) (hns : cs.length ≤ 63) : ∃ μ', g_law [.imm (.scr cs)] [] = .ok (.imm (.bl true)) μ' := by
  have hc1 := fun μ => v_cell cs 1 (by decide) (by decide) μ
  have hc0 := fun μ => v_cell cs 0 (by decide) (by decide) μ
  obtain ⟨rs, hbd, hdg⟩ := r_dig (cell cs 1) [5, 3, 16] (by decide) (by decide)
  obtain ⟨h0, _, rfl, a0, b0, h1, _, rfl, a1, b1, h2, _, rfl, a2, b2, rfl⟩ := hbd
  simp only [List.map_cons, List.map_nil] at hdg
  obtain ⟨R, hR⟩ : ∃ R, R = D.lst [.int h0, .int h1, .int h2] := ⟨_, rfl⟩
  have i0 : ∀ μ, oIx (.imm R) (.imm (.int 0)) μ = .ok (.imm (.int h0)) μ := fun μ => by rw [hR]; rfl
  have i1 : ∀ μ, oIx (.imm R) (.imm (.int 1)) μ = .ok (.imm (.int h1)) μ := fun μ => by rw [hR]; rfl
  have i2 : ∀ μ, oIx (.imm R) (.imm (.int 2)) μ = .ok (.imm (.int h2)) μ := fun μ => by rw [hR]; rfl
  rw [← hR] at hdg
  clear hR
  obtain ⟨f, hfg, hany⟩ := v_anyfact (cell cs 0)
  obtain ⟨a, w, ns, ht⟩ := Fa.read hfg
  have hfl := fun μ => v_factline ht μ
  have htup : f.D = .tup (nD a :: .str w :: ns.map nD) := by rw [f.tup, ht.ds]
  rw [htup] at hany
  have hln : (Txt.join blank (lineW a w ns)).length ≤ 100 := by
    refine Nat.le_trans (join_len _) ?_
    have h1 := sum_len (a :: ns) ht.all
    have h2 := ht.few
    have h3 := ht.wl
    unfold lineW
    rw [List.map_cons, List.sum_cons, List.length_cons, List.length_map]
    simp only [List.length_cons] at h1 ⊢
    omega
  generalize Txt.join blank (lineW a w ns) = t0 at *
  have hrm : ∀ d μ, retr μ (.ok (.imm d) μ) = .ok (.imm d) μ := fun d μ => retr_imm0 rfl
  obtain ⟨c1, hcc⟩ : ∃ c1 : Nat, 1 + h1 = (c1 : Int) := ⟨(1 + h1).toNat, by omega⟩
  obtain ⟨E2, μ2, k2, e2, ⟨_, kn, t, x3, hkk, hkl, htl, hE, hst⟩, _, _⟩ := forR (a := b_law_0) (gd := []) (i := 3) (hi := (c1 : Int))
    (fun k E st => 0 ≤ k ∧ ∃ (kn : Nat) (t : Str) (x3 : Option W), k = (kn : Int) ∧ kn ≤ 3 ∧ t.length + 5010 ≤ 5110 * 2 ^ kn ∧ E = [(some (.imm (.scr cs))), (some (.imm (R))), (some (.imm (.str t))), x3, none, none] ∧ st = [])
    (fun k E st hk hx => by
      obtain ⟨hk0, kn, t, x3, hkk, hkl, htl, hE, hst⟩ := hx
      subst hE; subst hkk; subst hst
      have hk3 : kn < 3 := by omega
      have hp : 5110 * 2 ^ kn ≤ 20440 := by
        rcases (show kn = 0 ∨ kn = 1 ∨ kn = 2 by omega) with rfl | rfl | rfl <;> decide
      have hc := fun μ => v_cell cs (2 + (kn : Int)) (by omega) (by omega) μ
      obtain ⟨rs, hbd, hdg⟩ := r_dig (cell cs (2 + (kn : Int)).toNat) [9, 840, 117, 14] (by decide) (by decide)
      obtain ⟨q0, _, rfl, a0, b0, q1, _, rfl, a1, b1, q2, _, rfl, a2, b2, q3, _, rfl, a3, b3, rfl⟩ := hbd
      simp only [List.map_cons, List.map_nil] at hdg
      obtain ⟨t', hl', hs'⟩ := v_spoilt (s := t) (by omega) ⟨a0, b0⟩ a1 ⟨a2, b2⟩ ⟨a3, b3⟩ []
      refine step_nx (E2 := [(some (.imm (.scr cs))), (some (.imm (R))), (some (.imm (.str t'))), (some (.imm (.int ((kn : Int))))), none, none]) (μ2 := []) ?_ ⟨rfl, by omega, kn + 1, t', (some (.imm (.int ((kn : Int))))), by push_cast; rfl, by omega, by rw [Nat.pow_succ]; omega, rfl, rfl⟩
      show b_law_0 [(some (.imm (.scr cs))), (some (.imm (R))), (some (.imm (.str t))), (some (.imm (.int ((kn : Int))))), none, none] [] = _
      generalize D.lst [.int q0, .int q1, .int q2, .int q3] = Q at *
      simp_arith [b_law_0, hc, hrm, hdg, hs'])
    (n := c1) (lo := 0) (E := [(some (.imm (.scr cs))), (some (.imm (R))), (some (.imm (.str t0))), none, none, none]) (μ := []) (by omega) ⟨by decide, 0, t0, none, rfl, by omega, by simp; omega, rfl, rfl⟩
  subst hE; subst hst
  have hp : 5110 * 2 ^ kn ≤ 40880 := by
    rcases (show kn = 0 ∨ kn = 1 ∨ kn = 2 ∨ kn = 3 by omega) with rfl | rfl | rfl | rfl <;> decide
  have hr : ∀ τ, kR1 [.imm (.int (c1 : Int))] τ = .ok (rangeW 0 c1, []) τ := fun τ => by rw [g_kR1 (by omega), Int.toNat_natCast]
  obtain ⟨m, hm⟩ : ∃ m, menu[h2.toNat]? = some m := ⟨_, List.getElem?_eq_getElem (by show h2.toNat < 16; omega)⟩
  have hml := menu_len m (List.mem_of_getElem? hm)
  have hadd : ∀ τ, oAdd true (.imm (.lst [.str "", .str " ", .str "yes", .str "yes 5", .str "yes 5 1 ", .str " yes 5 1", .str "Yes 5 1", .str "bar 5 1 5", .str "bar 5 1 6", .str "grant 5 1 2 2"])) (.imm (.lst [.str "walk 5 3 3", .str "yes 05 1", .str "yes 5 0", .str "yes 10000 1", .str "bar 9999 1 10000", .str "bar 9999 1 10001"])) τ = .ok (.imm (.lst (menu.map D.str))) τ := fun τ => by
    rw [addL2 (by simp)]
    rfl
  have him : ∀ τ, oIx (.imm (.lst (menu.map D.str))) (.imm (.int h2)) τ = .ok (.imm (.str m)) τ := fun τ => by
    rw [g_ixL a2, List.getElem?_map, hm]
    rfl
  refine (show ∃ μ', kRun (m_law [(some (.imm (.scr cs))), none, none, none, none, none] []) = .ok (.imm (.bl true)) μ' from ?_).imp fun μ' h => (show g_law [.imm (.scr cs)] [] = kRun (m_law [(some (.imm (.scr cs))), none, none, none, none, none] []) from rfl).trans h
  unfold m_law
  rw [x_seq (E1 := [(some (.imm (.scr cs))), (some (.imm (R))), none, none, none, none]) (μ1 := []) (by simp_arith [hc1, hrm, hdg])]
  rw [x_seq (E1 := [(some (.imm (.scr cs))), (some (.imm (R))), (some (.imm (.str t0))), none, none, none]) (μ1 := []) (by
    generalize nD a :: .str w :: ns.map nD = ft at *
    simp_arith [hc0, hrm, hany, hfl])]
  rw [x_seq (E1 := [(some (.imm (.scr cs))), (some (.imm (R))), (some (.imm (.str t))), x3, none, none]) (μ1 := []) (by simp_arith [i1, hcc, hr, e2])]
  by_cases hz : h0 = 0
  · have q := decide_eq_true hz
    rw [x_seq (E1 := [(some (.imm (.scr cs))), (some (.imm (R))), (some (.imm (.str m))), x3, (some (.imm (.lst (menu.map D.str)))), none]) (μ1 := []) (by
      generalize menu.map D.str = MN at *
      simp_arith [i0, q, hadd, i2, him])]
    exact k12_end (by omega) R x3 (some (.imm (.lst (menu.map D.str)))) []
  · have q := decide_eq_false hz
    rw [x_seq (E1 := [(some (.imm (.scr cs))), (some (.imm (R))), (some (.imm (.str t))), x3, none, none]) (μ1 := []) (by simp_arith [i0, q])]
    exact k12_end (by omega) R x3 none []
end Lw

namespace Lw
open PySem PySem.Spec PyProof.Rows L2 Gx
theorem all_mk {l : PySem.W.OpenLaw} {w : World} {K : PySem.W.Frag} {h : Heap} {mg : Str → Option Value} {fa f0 f1 f2 f3 f4 f5 f6 f7 f8 f9 f10 f11 f12 f13 f14 f15 f16 f17 E10 E11 E12 E13 E14 E15 E16 E17 E18 E19 SH : Addr} (X : K.In h) (G : h.Ns mainGlobals mg) (hfa : mg "law" = some (.ref fa))
    {od0 an0 od1 an1 od2 an2 od3 an3 od4 an4 od5 an5 od6 an6 od7 an7 od8 an8 od9 an9 od10 an10 od11 an11 od12 an12 od13 an13 od14 an14 od15 an15 od16 an16 od17 an17 : Option Addr} {sl0 sl1 sl2 sl3 sl4 sl5 sl6 sl7 sl8 sl9 sl10 sl11 sl12 sl13 sl14 sl15 sl16 sl17 : Array (Option Value)} {oc0 kV0 dc0 pm0 cd0 ct0 oc1 kV1 dc1 pm1 cd1 ct1 oc2 kV2 dc2 pm2 cd2 ct2 oc3 kV3 dc3 pm3 cd3 ct3 oc4 kV4 dc4 pm4 cd4 ct4 oc5 kV5 dc5 pm5 cd5 ct5 oc6 kV6 dc6 pm6 cd6 ct6 oc7 kV7 dc7 pm7 cd7 ct7 oc8 kV8 dc8 pm8 cd8 ct8 oc9 kV9 dc9 pm9 cd9 ct9 oc10 kV10 dc10 pm10 cd10 ct10 oc11 kV11 dc11 pm11 cd11 ct11 oc12 kV12 dc12 pm12 cd12 ct12 oc13 kV13 dc13 pm13 cd13 ct13 oc14 kV14 dc14 pm14 cd14 ct14 oc15 kV15 dc15 pm15 cd15 ct15 oc16 kV16 dc16 pm16 cd16 ct16 oc17 kV17 dc17 pm17 cd17 ct17 : Value} {tk_FIGURES tk_LAST tk_MOST : Tok} {esSh : Array DictEntry} {nSh : Nat}
    (a0 : PySem.W.nsIn K mainGlobals "_law_digits" = some (some (.ref f0)))
    (l0 : K.lookup f0 = some ⟨oc0, od0, .func (PySem.W.fnOf "_law_digits" "_law_digits" (defArgs s_law_digits) (defBody s_law_digits) (defScope s_law_digits) .none kV0 dc0 pm0 an0 cd0 ct0), sl0⟩)
    (c0 : PySem.W.codeIn K cd0 "_law_digits" = true)
    (k0 : PySem.W.keepIn K (.ref f0) = true)
    (a1 : PySem.W.nsIn K mainGlobals "_law_cell" = some (some (.ref f1)))
    (l1 : K.lookup f1 = some ⟨oc1, od1, .func (PySem.W.fnOf "_law_cell" "_law_cell" (defArgs s_law_cell) (defBody s_law_cell) (defScope s_law_cell) .none kV1 dc1 pm1 an1 cd1 ct1), sl1⟩)
    (c1 : PySem.W.codeIn K cd1 "_law_cell" = true)
    (k1 : PySem.W.keepIn K (.ref f1) = true)
    (a2 : PySem.W.nsIn K mainGlobals "_law_factline" = some (some (.ref f2)))
    (l2 : K.lookup f2 = some ⟨oc2, od2, .func (PySem.W.fnOf "_law_factline" "_law_factline" (defArgs s_law_factline) (defBody s_law_factline) (defScope s_law_factline) .none kV2 dc2 pm2 an2 cd2 ct2), sl2⟩)
    (c2 : PySem.W.codeIn K cd2 "_law_factline" = true)
    (k2 : PySem.W.keepIn K (.ref f2) = true)
    (a3 : PySem.W.nsIn K mainGlobals "_law_anyfact" = some (some (.ref f3)))
    (l3 : K.lookup f3 = some ⟨oc3, od3, .func (PySem.W.fnOf "_law_anyfact" "_law_anyfact" (defArgs s_law_anyfact) (defBody s_law_anyfact) (defScope s_law_anyfact) .none kV3 dc3 pm3 an3 cd3 ct3), sl3⟩)
    (c3 : PySem.W.codeIn K cd3 "_law_anyfact" = true)
    (k3 : PySem.W.keepIn K (.ref f3) = true)
    (a4 : PySem.W.nsIn K mainGlobals "_law_spoilt" = some (some (.ref f4)))
    (l4 : K.lookup f4 = some ⟨oc4, od4, .func (PySem.W.fnOf "_law_spoilt" "_law_spoilt" (defArgs s_law_spoilt) (defBody s_law_spoilt) (defScope s_law_spoilt) .none kV4 dc4 pm4 an4 cd4 ct4), sl4⟩)
    (c4 : PySem.W.codeIn K cd4 "_law_spoilt" = true)
    (k4 : PySem.W.keepIn K (.ref f4) = true)
    (a5 : PySem.W.nsIn K mainGlobals "_law_number" = some (some (.ref f5)))
    (l5 : K.lookup f5 = some ⟨oc5, od5, .func (PySem.W.fnOf "_law_number" "_law_number" (defArgs s_law_number) (defBody s_law_number) (defScope s_law_number) .none kV5 dc5 pm5 an5 cd5 ct5), sl5⟩)
    (c5 : PySem.W.codeIn K cd5 "_law_number" = true)
    (k5 : PySem.W.keepIn K (.ref f5) = true)
    (a6 : PySem.W.nsIn K mainGlobals "_law_isfact" = some (some (.ref f6)))
    (l6 : K.lookup f6 = some ⟨oc6, od6, .func (PySem.W.fnOf "_law_isfact" "_law_isfact" (defArgs s_law_isfact) (defBody s_law_isfact) (defScope s_law_isfact) .none kV6 dc6 pm6 an6 cd6 ct6), sl6⟩)
    (c6 : PySem.W.codeIn K cd6 "_law_isfact" = true)
    (k6 : PySem.W.keepIn K (.ref f6) = true)
    (a7 : PySem.W.nsIn K mainGlobals "_law_reader" = some (some (.ref f7)))
    (l7 : K.lookup f7 = some ⟨oc7, od7, .func (PySem.W.fnOf "_law_reader" "_law_reader" (defArgs s_law_reader) (defBody s_law_reader) (defScope s_law_reader) .none kV7 dc7 pm7 an7 cd7 ct7), sl7⟩)
    (c7 : PySem.W.codeIn K cd7 "_law_reader" = true)
    (k7 : PySem.W.keepIn K (.ref f7) = true)
    (a8 : PySem.W.nsIn K mainGlobals "number_of" = some (some (.ref f8)))
    (l8 : K.lookup f8 = some ⟨oc8, od8, .func (PySem.W.fnOf "number_of" "number_of" (defArgs s_number_of) (defBody s_number_of) (defScope s_number_of) .none kV8 dc8 pm8 an8 cd8 ct8), sl8⟩)
    (c8 : PySem.W.codeIn K cd8 "number_of" = true)
    (k8 : PySem.W.keepIn K (.ref f8) = true)
    (a9 : PySem.W.nsIn K mainGlobals "is_number" = some (some (.ref f9)))
    (l9 : K.lookup f9 = some ⟨oc9, od9, .func (PySem.W.fnOf "is_number" "is_number" (defArgs s_is_number) (defBody s_is_number) (defScope s_is_number) .none kV9 dc9 pm9 an9 cd9 ct9), sl9⟩)
    (c9 : PySem.W.codeIn K cd9 "is_number" = true)
    (k9 : PySem.W.keepIn K (.ref f9) = true)
    (a10 : PySem.W.nsIn K mainGlobals "fits" = some (some (.ref f10)))
    (l10 : K.lookup f10 = some ⟨oc10, od10, .func (PySem.W.fnOf "fits" "fits" (defArgs s_fits) (defBody s_fits) (defScope s_fits) .none kV10 dc10 pm10 an10 cd10 ct10), sl10⟩)
    (c10 : PySem.W.codeIn K cd10 "fits" = true)
    (k10 : PySem.W.keepIn K (.ref f10) = true)
    (a11 : PySem.W.nsIn K mainGlobals "is_fact" = some (some (.ref f11)))
    (l11 : K.lookup f11 = some ⟨oc11, od11, .func (PySem.W.fnOf "is_fact" "is_fact" (defArgs s_is_fact) (defBody s_is_fact) (defScope s_is_fact) .none kV11 dc11 pm11 an11 cd11 ct11), sl11⟩)
    (c11 : PySem.W.codeIn K cd11 "is_fact" = true)
    (k11 : PySem.W.keepIn K (.ref f11) = true)
    (a12 : PySem.W.nsIn K mainGlobals "fact_of" = some (some (.ref f12)))
    (l12 : K.lookup f12 = some ⟨oc12, od12, .func (PySem.W.fnOf "fact_of" "fact_of" (defArgs s_fact_of) (defBody s_fact_of) (defScope s_fact_of) .none kV12 dc12 pm12 an12 cd12 ct12), sl12⟩)
    (c12 : PySem.W.codeIn K cd12 "fact_of" = true)
    (k12 : PySem.W.keepIn K (.ref f12) = true)
    (a13 : PySem.W.nsIn K mainGlobals "_law_said" = some (some (.ref f13)))
    (l13 : K.lookup f13 = some ⟨oc13, od13, .func (PySem.W.fnOf "_law_said" "_law_said" (defArgs s_law_said) (defBody s_law_said) (defScope s_law_said) .none kV13 dc13 pm13 an13 cd13 ct13), sl13⟩)
    (c13 : PySem.W.codeIn K cd13 "_law_said" = true)
    (k13 : PySem.W.keepIn K (.ref f13) = true)
    (a14 : PySem.W.nsIn K mainGlobals "_law_flags" = some (some (.ref f14)))
    (l14 : K.lookup f14 = some ⟨oc14, od14, .func (PySem.W.fnOf "_law_flags" "_law_flags" (defArgs s_law_flags) (defBody s_law_flags) (defScope s_law_flags) .none kV14 dc14 pm14 an14 cd14 ct14), sl14⟩)
    (c14 : PySem.W.codeIn K cd14 "_law_flags" = true)
    (k14 : PySem.W.keepIn K (.ref f14) = true)
    (a15 : PySem.W.nsIn K mainGlobals "_law_whole" = some (some (.ref f15)))
    (l15 : K.lookup f15 = some ⟨oc15, od15, .func (PySem.W.fnOf "_law_whole" "_law_whole" (defArgs s_law_whole) (defBody s_law_whole) (defScope s_law_whole) .none kV15 dc15 pm15 an15 cd15 ct15), sl15⟩)
    (c15 : PySem.W.codeIn K cd15 "_law_whole" = true)
    (k15 : PySem.W.keepIn K (.ref f15) = true)
    (a16 : PySem.W.nsIn K mainGlobals "_law_like" = some (some (.ref f16)))
    (l16 : K.lookup f16 = some ⟨oc16, od16, .func (PySem.W.fnOf "_law_like" "_law_like" (defArgs s_law_like) (defBody s_law_like) (defScope s_law_like) .none kV16 dc16 pm16 an16 cd16 ct16), sl16⟩)
    (c16 : PySem.W.codeIn K cd16 "_law_like" = true)
    (k16 : PySem.W.keepIn K (.ref f16) = true)
    (a17 : PySem.W.nsIn K mainGlobals "law" = some (some (.ref f17)))
    (l17 : K.lookup f17 = some ⟨oc17, od17, .func (PySem.W.fnOf "law" "law" (defArgs s_law) (defBody s_law) (defScope s_law) .none kV17 dc17 pm17 an17 cd17 ct17), sl17⟩)
    (c17 : PySem.W.codeIn K cd17 "law" = true)
    (k17 : PySem.W.keepIn K (.ref f17) = true)
    (z_ValueError : PySem.W.nsIn K mainGlobals "ValueError" = some none)
    (z_bool : PySem.W.nsIn K mainGlobals "bool" = some none)
    (z_int : PySem.W.nsIn K mainGlobals "int" = some none)
    (z_isinstance : PySem.W.nsIn K mainGlobals "isinstance" = some none)
    (z_len : PySem.W.nsIn K mainGlobals "len" = some none)
    (z_list : PySem.W.nsIn K mainGlobals "list" = some none)
    (z_range : PySem.W.nsIn K mainGlobals "range" = some none)
    (z_str : PySem.W.nsIn K mainGlobals "str" = some none)
    (z_tuple : PySem.W.nsIn K mainGlobals "tuple" = some none)
    (z_zip : PySem.W.nsIn K mainGlobals "zip" = some none)
    (aE10 : PySem.W.nsIn K mainGlobals "LandError" = some (some (.ref E10)))
    (tE10 : PySem.W.typeIn K (.ref E10) = some (.type "type"))
    (hE10 : PySem.W.hasDictIn K E10 = true)
    (aE11 : PySem.W.nsIn K mainGlobals "BadTerm" = some (some (.ref E11)))
    (tE11 : PySem.W.typeIn K (.ref E11) = some (.type "type"))
    (hE11 : PySem.W.hasDictIn K E11 = true)
    (aE12 : PySem.W.nsIn K mainGlobals "BadFact" = some (some (.ref E12)))
    (tE12 : PySem.W.typeIn K (.ref E12) = some (.type "type"))
    (hE12 : PySem.W.hasDictIn K E12 = true)
    (aE13 : PySem.W.nsIn K mainGlobals "BadLine" = some (some (.ref E13)))
    (tE13 : PySem.W.typeIn K (.ref E13) = some (.type "type"))
    (hE13 : PySem.W.hasDictIn K E13 = true)
    (aE14 : PySem.W.nsIn K mainGlobals "NoFolk" = some (some (.ref E14)))
    (tE14 : PySem.W.typeIn K (.ref E14) = some (.type "type"))
    (hE14 : PySem.W.hasDictIn K E14 = true)
    (aE15 : PySem.W.nsIn K mainGlobals "NoField" = some (some (.ref E15)))
    (tE15 : PySem.W.typeIn K (.ref E15) = some (.type "type"))
    (hE15 : PySem.W.hasDictIn K E15 = true)
    (aE16 : PySem.W.nsIn K mainGlobals "NoFact" = some (some (.ref E16)))
    (tE16 : PySem.W.typeIn K (.ref E16) = some (.type "type"))
    (hE16 : PySem.W.hasDictIn K E16 = true)
    (aE17 : PySem.W.nsIn K mainGlobals "NoStand" = some (some (.ref E17)))
    (tE17 : PySem.W.typeIn K (.ref E17) = some (.type "type"))
    (hE17 : PySem.W.hasDictIn K E17 = true)
    (aE18 : PySem.W.nsIn K mainGlobals "Told" = some (some (.ref E18)))
    (tE18 : PySem.W.typeIn K (.ref E18) = some (.type "type"))
    (hE18 : PySem.W.hasDictIn K E18 = true)
    (aE19 : PySem.W.nsIn K mainGlobals "Full" = some (some (.ref E19)))
    (tE19 : PySem.W.typeIn K (.ref E19) = some (.type "type"))
    (hE19 : PySem.W.hasDictIn K E19 = true)
    (xE13 : PySem.W.excIn K E13 [.type "ValueError", .type "Exception", .type "BaseException", .type "object"] "ValueError.__new__" = true)
    (kE13 : PySem.W.keepIn K (.ref E13) = true)
    (bE13 : PySem.W.subIn K (.ref E13) (.type "BaseException") = some true)
    (gaE13 : PySem.W.findIn K (.ref E13) "__getattribute__" = some (some (.builtin "BaseException.__getattribute__")))
    (ggE13 : PySem.W.findIn K (.ref E13) "__getattr__" = some none)
    (clE13 : PySem.W.findIn K (.ref E13) "__class__" = some (some (.builtin "object.__class__")))
    (moE13 : PySem.W.mroIn K E13 (.type "object") = some true)
    (vE13 : PySem.W.subIn K (.ref E13) (.type "ValueError") = some true)
    (sE13_10 : PySem.W.subIn K (.ref E13) (.ref E10) = some true)
    (sE13_11 : PySem.W.subIn K (.ref E13) (.ref E11) = some false)
    (sE13_12 : PySem.W.subIn K (.ref E13) (.ref E12) = some false)
    (sE13_13 : PySem.W.subIn K (.ref E13) (.ref E13) = some true)
    (sE13_14 : PySem.W.subIn K (.ref E13) (.ref E14) = some false)
    (sE13_15 : PySem.W.subIn K (.ref E13) (.ref E15) = some false)
    (sE13_16 : PySem.W.subIn K (.ref E13) (.ref E16) = some false)
    (sE13_17 : PySem.W.subIn K (.ref E13) (.ref E17) = some false)
    (sE13_18 : PySem.W.subIn K (.ref E13) (.ref E18) = some false)
    (sE13_19 : PySem.W.subIn K (.ref E13) (.ref E19) = some false)
    (bE : PySem.W.subIn K (.ref E10) (.type "BaseException") = some true)
    (snE : PySem.W.specialIn K (.builtin "object.__class__") "__get__" = some (some (.builtin "getset_descriptor.__get__")))
    (tkE : PySem.W.takesIn K (.builtin "object.__class__") = some true)
    (y_FIGURES : PySem.W.nsIn K mainGlobals "FIGURES" = some (some (.str "0123456789" tk_FIGURES)))
    (y_LAST : PySem.W.nsIn K mainGlobals "LAST" = some (some (.int (9999) tk_LAST)))
    (y_MOST : PySem.W.nsIn K mainGlobals "MOST" = some (some (.int (999) tk_MOST)))
    (aSh : PySem.W.nsIn K mainGlobals "SHAPES" = some (some (.ref SH)))
    (lSh : K.lookup SH = some ⟨.type "dict", none, .dict esSh nSh, #[]⟩)
    (lowS : (SH == sysModules) = false)
    (eSh : EntOk w.params esSh.toList shapes) :
    ∃ fd : FuncData, (∀ (s : Shared) (v : Value), BindsTo s fd ⟨[v], []⟩ [("_law_script", v)]) ∧ ∀ base : Heap, K.In base → base.Ns mainGlobals mg → FnOk l.prog w K mg base CX0 10 fa fd ["_law_script"] (spLaw K 63) := by
  have e := hfa.symm.trans (PySem.W.mg_of X G a17)
  cases e
  have F0 := fun_mk (st := s_law_digits) l0 c0 k0
  have b0 := F0.binds (ps := ["_law_cell_here", "_law_sizes"]) fun _ _ _ _ _ _ us hl => match us, hl with | [_, _], _ => rfl
  have F1 := fun_mk (st := s_law_cell) l1 c1 k1
  have b1 := F1.binds (ps := ["_law_script", "_law_k"]) fun _ _ _ _ _ _ us hl => match us, hl with | [_, _], _ => rfl
  have F2 := fun_mk (st := s_law_factline) l2 c2 k2
  have b2 := F2.binds (ps := ["_law_fact"]) fun _ _ _ _ _ _ us hl => match us, hl with | [_], _ => rfl
  have F3 := fun_mk (st := s_law_anyfact) l3 c3 k3
  have b3 := F3.binds (ps := ["_law_cell_here"]) fun _ _ _ _ _ _ us hl => match us, hl with | [_], _ => rfl
  have F4 := fun_mk (st := s_law_spoilt) l4 c4 k4
  have b4 := F4.binds (ps := ["_law_text", "_law_row"]) fun _ _ _ _ _ _ us hl => match us, hl with | [_, _], _ => rfl
  have F5 := fun_mk (st := s_law_number) l5 c5 k5
  have b5 := F5.binds (ps := ["_law_text"]) fun _ _ _ _ _ _ us hl => match us, hl with | [_], _ => rfl
  have F6 := fun_mk (st := s_law_isfact) l6 c6 k6
  have b6 := F6.binds (ps := ["_law_thing"]) fun _ _ _ _ _ _ us hl => match us, hl with | [_], _ => rfl
  have F7 := fun_mk (st := s_law_reader) l7 c7 k7
  have b7 := F7.binds (ps := ["_law_text"]) fun _ _ _ _ _ _ us hl => match us, hl with | [_], _ => rfl
  have F8 := fun_mk (st := s_number_of) l8 c8 k8
  have b8 := F8.binds (ps := ["text"]) fun _ _ _ _ _ _ us hl => match us, hl with | [_], _ => rfl
  have F9 := fun_mk (st := s_is_number) l9 c9 k9
  have b9 := F9.binds (ps := ["thing"]) fun _ _ _ _ _ _ us hl => match us, hl with | [_], _ => rfl
  have F10 := fun_mk (st := s_fits) l10 c10 k10
  have b10 := F10.binds (ps := ["fact"]) fun _ _ _ _ _ _ us hl => match us, hl with | [_], _ => rfl
  have F11 := fun_mk (st := s_is_fact) l11 c11 k11
  have b11 := F11.binds (ps := ["thing"]) fun _ _ _ _ _ _ us hl => match us, hl with | [_], _ => rfl
  have F12 := fun_mk (st := s_fact_of) l12 c12 k12
  have b12 := F12.binds (ps := ["text"]) fun _ _ _ _ _ _ us hl => match us, hl with | [_], _ => rfl
  have F13 := fun_mk (st := s_law_said) l13 c13 k13
  have b13 := F13.binds (ps := ["_law_text"]) fun _ _ _ _ _ _ us hl => match us, hl with | [_], _ => rfl
  have F14 := fun_mk (st := s_law_flags) l14 c14 k14
  have b14 := F14.binds (ps := ["_law_due"]) fun _ _ _ _ _ _ us hl => match us, hl with | [_], _ => rfl
  have F15 := fun_mk (st := s_law_whole) l15 c15 k15
  have b15 := F15.binds (ps := ["_law_thing"]) fun _ _ _ _ _ _ us hl => match us, hl with | [_], _ => rfl
  have F16 := fun_mk (st := s_law_like) l16 c16 k16
  have b16 := F16.binds (ps := ["_law_found", "_law_due"]) fun _ _ _ _ _ _ us hl => match us, hl with | [_, _], _ => rfl
  have F17 := fun_mk (st := s_law) l17 c17 k17
  have b17 := F17.binds (ps := ["_law_script"]) fun _ _ _ _ _ _ us hl => match us, hl with | [_], _ => rfl
  let κ : Kap := ⟨fun i => match i with | 10 => E10 | 11 => E11 | 12 => E12 | 13 => E13 | 14 => E14 | 15 => E15 | 16 => E16 | 17 => E17 | 18 => E18 | 19 => E19 | _ => 0, K⟩
  let A : Nat → Addr := fun i => match i with | 0 => f0 | 1 => f1 | 2 => f2 | 3 => f3 | 4 => f4 | 5 => f5 | 6 => f6 | 7 => f7 | 8 => f8 | 9 => f9 | 10 => f10 | 11 => f11 | 12 => f12 | 13 => f13 | 14 => f14 | 15 => f15 | 16 => f16 | 17 => fa | _ => 0
  let F : Nat → FuncData := fun i => match i with | 0 => PySem.W.fnOf "_law_digits" "_law_digits" (defArgs s_law_digits) (defBody s_law_digits) (defScope s_law_digits) .none kV0 dc0 pm0 an0 cd0 ct0 | 1 => PySem.W.fnOf "_law_cell" "_law_cell" (defArgs s_law_cell) (defBody s_law_cell) (defScope s_law_cell) .none kV1 dc1 pm1 an1 cd1 ct1 | 2 => PySem.W.fnOf "_law_factline" "_law_factline" (defArgs s_law_factline) (defBody s_law_factline) (defScope s_law_factline) .none kV2 dc2 pm2 an2 cd2 ct2 | 3 => PySem.W.fnOf "_law_anyfact" "_law_anyfact" (defArgs s_law_anyfact) (defBody s_law_anyfact) (defScope s_law_anyfact) .none kV3 dc3 pm3 an3 cd3 ct3 | 4 => PySem.W.fnOf "_law_spoilt" "_law_spoilt" (defArgs s_law_spoilt) (defBody s_law_spoilt) (defScope s_law_spoilt) .none kV4 dc4 pm4 an4 cd4 ct4 | 5 => PySem.W.fnOf "_law_number" "_law_number" (defArgs s_law_number) (defBody s_law_number) (defScope s_law_number) .none kV5 dc5 pm5 an5 cd5 ct5 | 6 => PySem.W.fnOf "_law_isfact" "_law_isfact" (defArgs s_law_isfact) (defBody s_law_isfact) (defScope s_law_isfact) .none kV6 dc6 pm6 an6 cd6 ct6 | 7 => PySem.W.fnOf "_law_reader" "_law_reader" (defArgs s_law_reader) (defBody s_law_reader) (defScope s_law_reader) .none kV7 dc7 pm7 an7 cd7 ct7 | 8 => PySem.W.fnOf "number_of" "number_of" (defArgs s_number_of) (defBody s_number_of) (defScope s_number_of) .none kV8 dc8 pm8 an8 cd8 ct8 | 9 => PySem.W.fnOf "is_number" "is_number" (defArgs s_is_number) (defBody s_is_number) (defScope s_is_number) .none kV9 dc9 pm9 an9 cd9 ct9 | 10 => PySem.W.fnOf "fits" "fits" (defArgs s_fits) (defBody s_fits) (defScope s_fits) .none kV10 dc10 pm10 an10 cd10 ct10 | 11 => PySem.W.fnOf "is_fact" "is_fact" (defArgs s_is_fact) (defBody s_is_fact) (defScope s_is_fact) .none kV11 dc11 pm11 an11 cd11 ct11 | 12 => PySem.W.fnOf "fact_of" "fact_of" (defArgs s_fact_of) (defBody s_fact_of) (defScope s_fact_of) .none kV12 dc12 pm12 an12 cd12 ct12 | 13 => PySem.W.fnOf "_law_said" "_law_said" (defArgs s_law_said) (defBody s_law_said) (defScope s_law_said) .none kV13 dc13 pm13 an13 cd13 ct13 | 14 => PySem.W.fnOf "_law_flags" "_law_flags" (defArgs s_law_flags) (defBody s_law_flags) (defScope s_law_flags) .none kV14 dc14 pm14 an14 cd14 ct14 | 15 => PySem.W.fnOf "_law_whole" "_law_whole" (defArgs s_law_whole) (defBody s_law_whole) (defScope s_law_whole) .none kV15 dc15 pm15 an15 cd15 ct15 | 16 => PySem.W.fnOf "_law_like" "_law_like" (defArgs s_law_like) (defBody s_law_like) (defScope s_law_like) .none kV16 dc16 pm16 an16 cd16 ct16 | 17 => PySem.W.fnOf "law" "law" (defArgs s_law) (defBody s_law) (defScope s_law) .none kV17 dc17 pm17 an17 cd17 ct17 | _ => PySem.W.fnOf "law" "law" (defArgs s_law) (defBody s_law) (defScope s_law) .none kV17 dc17 pm17 an17 cd17 ct17
  have lowSh : (SH == sysModules) = false := lowS
  have I13 : ExI κ.K (κ 13) (κ 10) κ.cls 13 := exI_mk ⟨gaE13, ggE13, bE13, hE13, clE13, snE, tkE, moE13⟩ ⟨hE10, tE10⟩ ⟨hE11, tE11⟩ ⟨hE12, tE12⟩ ⟨hE13, tE13⟩ ⟨hE14, tE14⟩ ⟨hE15, tE15⟩ ⟨hE16, tE16⟩ ⟨hE17, tE17⟩ ⟨hE18, tE18⟩ ⟨hE19, tE19⟩ bE vE13 sE13_10 sE13_13 sE13_11 sE13_12 sE13_13 sE13_14 sE13_15 sE13_16 sE13_17 sE13_18 sE13_19
  have ei : ∀ c ∈ ([13] : List Nat), ExI κ.K (κ c) (κ 10) κ.cls c := by
    intro c hc
    simp only [List.mem_cons, List.not_mem_nil, or_false] at hc
    subst hc
    exact I13
  have T : Txt κ mg A F w := ⟨⟨SH, esSh, nSh, PySem.W.mg_of X G aSh, lSh, lowSh, eSh⟩, F0, b0, PySem.W.mg_of X G a0, F1, b1, PySem.W.mg_of X G a1, F2, b2, PySem.W.mg_of X G a2, F3, b3, PySem.W.mg_of X G a3, F4, b4, PySem.W.mg_of X G a4, F5, b5, PySem.W.mg_of X G a5, F6, b6, PySem.W.mg_of X G a6, F7, b7, PySem.W.mg_of X G a7, F8, b8, PySem.W.mg_of X G a8, F9, b9, PySem.W.mg_of X G a9, F10, b10, PySem.W.mg_of X G a10, F11, b11, PySem.W.mg_of X G a11, F12, b12, PySem.W.mg_of X G a12, F13, b13, PySem.W.mg_of X G a13, F14, b14, PySem.W.mg_of X G a14, F15, b15, PySem.W.mg_of X G a15, F16, b16, PySem.W.mg_of X G a16, F17, b17, PySem.W.mg_of X G a17, PySem.W.mg_none_of X G z_ValueError, PySem.W.mg_none_of X G z_bool, PySem.W.mg_none_of X G z_int, PySem.W.mg_none_of X G z_isinstance, PySem.W.mg_none_of X G z_len, PySem.W.mg_none_of X G z_list, PySem.W.mg_none_of X G z_range, PySem.W.mg_none_of X G z_str, PySem.W.mg_none_of X G z_tuple, PySem.W.mg_none_of X G z_zip, ⟨PySem.W.mg_of X G aE13, xE13, kE13, bE13, tE13⟩, ⟨PySem.W.mg_of X G aE10, PySem.W.mg_of X G aE11, PySem.W.mg_of X G aE12, PySem.W.mg_of X G aE13, PySem.W.mg_of X G aE14, PySem.W.mg_of X G aE15, PySem.W.mg_of X G aE16, PySem.W.mg_of X G aE17, PySem.W.mg_of X G aE18, PySem.W.mg_of X G aE19, PySem.W.mg_none_of X G z_ValueError, PySem.W.mg_none_of X G z_isinstance⟩, ei, ⟨_, PySem.W.mg_of X G y_FIGURES, ⟨_, rfl⟩⟩, ⟨_, PySem.W.mg_of X G y_LAST, ⟨_, rfl⟩⟩, ⟨_, PySem.W.mg_of X G y_MOST, ⟨_, rfl⟩⟩⟩
  exact ⟨_, fun s v => .of_eq rfl, fun base _ _ => law_imp (κ := κ) rfl law_true (ok_law (base := base) T)⟩
end Lw
namespace Hd
open PySem PySem.Spec PyProof.Rows L2 Lw
noncomputable section
structure FnA where
  a : Addr
  name : Str
  qual : Str
  params : Arguments
  body : List Stmt
  scope : Scope
def fO (K : PySem.W.Frag) (a : Addr) : He.FnV := match K.lookup a with
  | some ⟨_, _, .func fd, _⟩ => some (fd.name, fd.qualname, fd.params, fd.body, fd.scope, fd.globals, fd.closure, fd.defaults, fd.builtins)
  | _ => none
def cO (K : PySem.W.Frag) (a : Addr) (x : Str) : Bool := match K.lookup a with
  | some ⟨_, _, .func fd, _⟩ => PySem.W.codeIn K fd.code x
  | _ => false
def FnA.val (d : FnA) : He.FnV := some (d.name, d.qual, d.params, .stmts d.body, d.scope, mainGlobals, [], .none, builtinsNs)
theorem fO_ok {K : PySem.W.Frag} {d : FnA} (e : fO K d.a = d.val) (c : cO K d.a d.qual = true) :
    ∃ oc od osl kV doc pm an cdv ct, K.lookup d.a = some ⟨oc, od, .func (PySem.W.fnOf d.name d.qual d.params d.body d.scope .none kV doc pm an cdv ct), osl⟩ ∧ PySem.W.codeIn K cdv d.qual = true := by
  unfold fO at e
  unfold cO at c
  cases q : K.lookup d.a with
  | none => rw [q] at c; cases c
  | some o =>
    obtain ⟨oc, od, dt, osl⟩ := o
    rw [q] at c e
    cases dt with
    | func fd =>
      obtain ⟨n1, n2, n3, n4, n5, n6, n7, n8, n9, n10, n11, n12, n13, n14, n15⟩ := fd
      have e2 : (some (n1, n2, n3, n4, n5, n6, n7, n8, n15) : He.FnV) = some (d.name, d.qual, d.params, .stmts d.body, d.scope, mainGlobals, [], .none, builtinsNs) := e
      simp only [Option.some.injEq, Prod.mk.injEq] at e2
      obtain ⟨h1, h2, h3, h4, h5, h6, h7, h8, h9⟩ := e2
      subst h1 h2 h3 h4 h5 h6 h7 h8 h9
      exact ⟨oc, od, osl, n9, n10, n11, n12, n13, n14, rfl, c⟩
    | _ => cases c
def keyS : Value → Option Str
  | .str x _ => some x
  | _ => none
def kvs (K : PySem.W.Frag) (a : Addr) : Option (List (Option Str × Value)) := match K.lookup a with
  | some ⟨_, _, .dict es _, _⟩ => some (es.toList.map fun e => (keyS e.key, e.val))
  | _ => none
def findS (L : List (Str × Value)) (x : Str) : Option Value := (L.find? fun p => p.1 == x).map (·.2)
theorem find_es (x : Str) : ∀ {es : List DictEntry} {L : List (Str × Value)}, (es.map fun e => (keyS e.key, e.val)) = (L.map fun p => (some p.1, p.2)) → (match es.find? (·.key.isStr x) with | some e => some (some e.val) | none => if es.any (·.refKey) then none else some none) = some (findS L x)
  | [], [], _ => rfl
  | [], p :: L, h => by cases h
  | e :: es, [], h => by cases h
  | e :: es, p :: L, h => by
    have h1 : (keyS e.key, e.val) :: (es.map fun e => (keyS e.key, e.val)) = (some p.1, p.2) :: (L.map fun p => (some p.1, p.2)) := h
    injection h1 with h2 h3
    obtain ⟨h4, h5⟩ := Prod.mk.inj h2
    have ih := find_es x h3
    obtain ⟨eh, ek, ev⟩ := e
    simp only at h4 h5
    subst h5
    unfold keyS at h4
    split at h4
    · rename_i y t
      have h6 := Option.some.inj h4
      subst h6
      have hk : ({ hash := eh, key := .str p.1 t, val := p.2 } : DictEntry).key.isStr x = (p.1 == x) := rfl
      rw [List.find?_cons, hk]
      unfold findS
      rw [List.find?_cons]
      cases p.1 == x with
      | true => rfl
      | false =>
        simp only [List.any_cons]
        exact ih
    · cases h4
theorem kvs_ns {K : PySem.W.Frag} {a : Addr} {L : List (Str × Value)} (h : kvs K a = some (L.map fun p => (some p.1, p.2))) (x : Str) : PySem.W.nsIn K a x = some (findS L x) := by
  unfold kvs at h
  unfold PySem.W.nsIn
  split at h
  · rename_i q
    rw [q]
    exact find_es x (Option.some.inj h)
  · cases h
def mroO (K : PySem.W.Frag) (C : Addr) : Option (List Value × Addr) := match K.lookup C with
  | some ⟨_, _, .cls cd, _⟩ => some (cd.mro, cd.ns)
  | _ => none
def findL (L : List (Str × Value)) (x : Str) : Option (Option Value) := match findS L x with
  | some v => some (some v)
  | none => some (fastBuiltinOwn "object" x)
theorem find_of {K : PySem.W.Frag} {C n : Addr} {L : List (Str × Value)} (h1 : mroO K C = some ([.ref C, .type "object"], n)) (h2 : kvs K n = some (L.map fun p => (some p.1, p.2))) (x : Str) : PySem.W.findIn K (.ref C) x = findL L x := by
  unfold mroO at h1
  unfold PySem.W.findIn
  split at h1
  · rename_i a b cd d q
    dsimp only
    rw [q]
    obtain ⟨e1, e2⟩ := Prod.mk.inj (Option.some.inj h1)
    dsimp only
    rw [e1]
    unfold PySem.W.alongIn PySem.W.ownIn
    dsimp only
    rw [q]
    dsimp only
    rw [e2, kvs_ns h2 x]
    unfold findL
    cases findS L x with
    | some v => rfl
    | none =>
      dsimp only
      unfold PySem.W.alongIn PySem.W.ownIn
      dsimp only
      cases fastBuiltinOwn "object" x with
      | some v => rfl
      | none =>
        dsimp only
        unfold PySem.W.alongIn
        rfl
  · cases h1
def entO (e : DictEntry) : Option (Str × Int × Str) := match e.key, e.val with
  | .str x _, .str v _ => some (x, e.hash, v)
  | _, _ => none
def shO (K : PySem.W.Frag) (a : Addr) : Option (List (Option (Str × Int × Str))) := match K.lookup a with
  | some ⟨.type c, none, .dict es _, sl⟩ => (match decide (c = "dict") && (sl.isEmpty && !(a == sysModules)) with
    | true => some (es.toList.map entO)
    | false => none)
  | _ => none
def fn0 : List FnA := [⟨183, "_law_digits", "_law_digits", defArgs s_law_digits, defBody s_law_digits, defScope s_law_digits⟩,
  ⟨176, "_law_cell", "_law_cell", defArgs s_law_cell, defBody s_law_cell, defScope s_law_cell⟩,
  ⟨221, "_law_factline", "_law_factline", defArgs s_law_factline, defBody s_law_factline, defScope s_law_factline⟩,
  ⟨209, "_law_anyfact", "_law_anyfact", defArgs s_law_anyfact, defBody s_law_anyfact, defScope s_law_anyfact⟩,
  ⟨247, "_law_spoilt", "_law_spoilt", defArgs s_law_spoilt, defBody s_law_spoilt, defScope s_law_spoilt⟩,
  ⟨228, "_law_number", "_law_number", defArgs s_law_number, defBody s_law_number, defScope s_law_number⟩,
  ⟨216, "_law_isfact", "_law_isfact", defArgs s_law_isfact, defBody s_law_isfact, defScope s_law_isfact⟩,
  ⟨233, "_law_reader", "_law_reader", defArgs s_law_reader, defBody s_law_reader, defScope s_law_reader⟩,
  ⟨164, "number_of", "number_of", defArgs s_number_of, defBody s_number_of, defScope s_number_of⟩,
  ⟨143, "is_number", "is_number", defArgs s_is_number, defBody s_is_number, defScope s_is_number⟩,
  ⟨150, "fits", "fits", defArgs s_fits, defBody s_fits, defScope s_fits⟩,
  ⟨157, "is_fact", "is_fact", defArgs s_is_fact, defBody s_is_fact, defScope s_is_fact⟩,
  ⟨169, "fact_of", "fact_of", defArgs s_fact_of, defBody s_fact_of, defScope s_fact_of⟩,
  ⟨240, "_law_said", "_law_said", defArgs s_law_said, defBody s_law_said, defScope s_law_said⟩,
  ⟨202, "_law_flags", "_law_flags", defArgs s_law_flags, defBody s_law_flags, defScope s_law_flags⟩,
  ⟨190, "_law_whole", "_law_whole", defArgs s_law_whole, defBody s_law_whole, defScope s_law_whole⟩,
  ⟨197, "_law_like", "_law_like", defArgs s_law_like, defBody s_law_like, defScope s_law_like⟩,
  ⟨254, "law", "law", defArgs s_law, defBody s_law, defScope s_law⟩]
def fns : List (List FnA) := [fn0]
def fc0 : List (PySem.W.Frag → Bool) := [fun K => PySem.W.keepIn K (.ref 183),
  fun K => PySem.W.keepIn K (.ref 176),
  fun K => PySem.W.keepIn K (.ref 221),
  fun K => PySem.W.keepIn K (.ref 209),
  fun K => PySem.W.keepIn K (.ref 247),
  fun K => PySem.W.keepIn K (.ref 228),
  fun K => PySem.W.keepIn K (.ref 216),
  fun K => PySem.W.keepIn K (.ref 233),
  fun K => PySem.W.keepIn K (.ref 164),
  fun K => PySem.W.keepIn K (.ref 143),
  fun K => PySem.W.keepIn K (.ref 150),
  fun K => PySem.W.keepIn K (.ref 157),
  fun K => PySem.W.keepIn K (.ref 169),
  fun K => PySem.W.keepIn K (.ref 240),
  fun K => PySem.W.keepIn K (.ref 202),
  fun K => PySem.W.keepIn K (.ref 190),
  fun K => PySem.W.keepIn K (.ref 197),
  fun K => PySem.W.keepIn K (.ref 254),
  fun K => decide (PySem.W.typeIn K (.ref 24) = some (.type "type")),
  fun K => PySem.W.hasDictIn K 24]
def fc1 : List (PySem.W.Frag → Bool) := [fun K => decide (PySem.W.typeIn K (.ref 37) = some (.type "type")),
  fun K => PySem.W.hasDictIn K 37,
  fun K => decide (PySem.W.typeIn K (.ref 49) = some (.type "type")),
  fun K => PySem.W.hasDictIn K 49,
  fun K => decide (PySem.W.typeIn K (.ref 61) = some (.type "type")),
  fun K => PySem.W.hasDictIn K 61,
  fun K => decide (PySem.W.typeIn K (.ref 73) = some (.type "type")),
  fun K => PySem.W.hasDictIn K 73,
  fun K => decide (PySem.W.typeIn K (.ref 85) = some (.type "type")),
  fun K => PySem.W.hasDictIn K 85,
  fun K => decide (PySem.W.typeIn K (.ref 97) = some (.type "type")),
  fun K => PySem.W.hasDictIn K 97,
  fun K => decide (PySem.W.typeIn K (.ref 109) = some (.type "type")),
  fun K => PySem.W.hasDictIn K 109,
  fun K => decide (PySem.W.typeIn K (.ref 121) = some (.type "type")),
  fun K => PySem.W.hasDictIn K 121,
  fun K => decide (PySem.W.typeIn K (.ref 133) = some (.type "type")),
  fun K => PySem.W.hasDictIn K 133,
  fun K => PySem.W.excIn K 61 [.type "ValueError", .type "Exception", .type "BaseException", .type "object"] "ValueError.__new__",
  fun K => PySem.W.keepIn K (.ref 61)]
def fc2 : List (PySem.W.Frag → Bool) := [fun K => decide (PySem.W.subIn K (.ref 61) (.type "BaseException") = some true),
  fun K => decide (PySem.W.findIn K (.ref 61) "__getattribute__" = some (some (.builtin "BaseException.__getattribute__"))),
  fun K => decide (PySem.W.findIn K (.ref 61) "__getattr__" = some none),
  fun K => decide (PySem.W.findIn K (.ref 61) "__class__" = some (some (.builtin "object.__class__"))),
  fun K => decide (PySem.W.mroIn K 61 (.type "object") = some true),
  fun K => decide (PySem.W.subIn K (.ref 61) (.type "ValueError") = some true),
  fun K => decide (PySem.W.subIn K (.ref 61) (.ref 24) = some true),
  fun K => decide (PySem.W.subIn K (.ref 61) (.ref 37) = some false),
  fun K => decide (PySem.W.subIn K (.ref 61) (.ref 49) = some false),
  fun K => decide (PySem.W.subIn K (.ref 61) (.ref 61) = some true),
  fun K => decide (PySem.W.subIn K (.ref 61) (.ref 73) = some false),
  fun K => decide (PySem.W.subIn K (.ref 61) (.ref 85) = some false),
  fun K => decide (PySem.W.subIn K (.ref 61) (.ref 97) = some false),
  fun K => decide (PySem.W.subIn K (.ref 61) (.ref 109) = some false),
  fun K => decide (PySem.W.subIn K (.ref 61) (.ref 121) = some false),
  fun K => decide (PySem.W.subIn K (.ref 61) (.ref 133) = some false),
  fun K => decide (PySem.W.subIn K (.ref 24) (.type "BaseException") = some true),
  fun K => decide (PySem.W.specialIn K (.builtin "object.__class__") "__get__" = some (some (.builtin "getset_descriptor.__get__"))),
  fun K => decide (PySem.W.takesIn K (.builtin "object.__class__") = some true)]
def fcs : List (List (PySem.W.Frag → Bool)) := [fc0, fc1, fc2]
def ad0 : List Addr := [3, 136, 24, 23, 37, 36, 49, 48, 61, 60, 73, 72, 85, 84, 97, 96, 109, 108, 121, 120]
def ad1 : List Addr := [133, 132, 183, 182, 176, 175, 221, 220, 209, 208, 247, 246, 228, 227, 216, 215, 233, 232, 164, 163]
def ad2 : List Addr := [143, 142, 150, 149, 157, 156, 169, 168, 240, 239, 202, 201, 190, 189, 197, 196, 254, 253]
def ads : List Addr := ad0 ++ (ad1 ++ (ad2))
def gl0 : List (Str × Value) := [("__name__", .str "law_longhold_k12_texts_that_write_no_fact" 428), ("__doc__", .none), ("__package__", .none), ("__loader__", .builtin "__main__.__loader__#opaque"), ("__spec__", .none), ("__annotations__", .ref 6), ("__builtins__", .ref 4), ("__file__", .str "/claim/cut.py" 172), ("__cached__", .none), ("LandError", .ref 24), ("BadTerm", .ref 37), ("BadFact", .ref 49), ("BadLine", .ref 61), ("NoFolk", .ref 73), ("NoField", .ref 85), ("NoFact", .ref 97), ("NoStand", .ref 109), ("Told", .ref 121), ("Full", .ref 133), ("LAST", .int (9999) 353)]
def gl1 : List (Str × Value) := [("MOST", .int (999) 355), ("SHAPES", .ref 136), ("FIGURES", .str "0123456789" 388), ("is_number", .ref 143), ("fits", .ref 150), ("is_fact", .ref 157), ("number_of", .ref 164), ("fact_of", .ref 169), ("_law_cell", .ref 176), ("_law_digits", .ref 183), ("_law_whole", .ref 190), ("_law_like", .ref 197), ("_law_flags", .ref 202), ("_law_anyfact", .ref 209), ("_law_isfact", .ref 216), ("_law_factline", .ref 221), ("_law_number", .ref 228), ("_law_reader", .ref 233), ("_law_said", .ref 240), ("_law_spoilt", .ref 247)]
def gl2 : List (Str × Value) := [("law", .ref 254)]
def gl : List (Str × Value) := gl0 ++ (gl1 ++ (gl2))
def dicts : List (Addr × List (Str × Value)) := [(3, gl)]
def clss : List (Addr × List Value × Addr) := []
abbrev Al : Type := Bool × List (List He.FnV) × List (Option (List (Option Str × Value))) × List (Option (List Value × Addr)) × Option (List (Option (Str × Int × Str)))
def obsK (K : PySem.W.Frag) : Al := ((fcs.all fun l => l.all fun b => b K) && fns.all fun l => l.all fun d => cO K d.a d.qual, fns.map fun l => l.map fun d => fO K d.a, dicts.map fun p => kvs K p.1, clss.map fun p => mroO K p.1, shO K 136)
def valK (w : World) : Al := (true, fns.map fun l => l.map FnA.val, dicts.map fun p => some (p.2.map fun p => (some p.1, p.2)), clss.map fun p => some p.2, some (Gx.shapes.map fun p => some (p.1, PyData.keyHash w.params p.1, p.2)))
def Says (w : World) (K : PySem.W.Frag) : Prop := obsK K = valK w
abbrev hk : PySem.W.Hook where
  α := Al
  obs := fun s => obsK (He.frG s.heap.get? ads)
  val := valK
  says := fun w h => ∃ K : PySem.W.Frag, K.In h ∧ Says w K
  of := fun _ _ e => ⟨_, He.frG_in, e⟩
  keeps := fun _ _ _ ⟨K, hK, c⟩ k => ⟨K, PySem.W.Frag.In.keeps hK k, c⟩
def ob (s : PySem.W.SharedT) : Al := obsK (He.frG (HandSHeadRun.getT s) ads)
theorem ob_eq (s : PySem.W.SharedT) : ob s = hk.obs s.abs := by
  have e : HandSHeadRun.getT s = s.abs.heap.get? := funext (HandSHeadRun.getT_eq s)
  unfold ob
  rw [e]
section
variable {w : World} {K : PySem.W.Frag} (c : Says w K)
include c
theorem fact (i j : Nat) {l : List (PySem.W.Frag → Bool)} {b : PySem.W.Frag → Bool} (hl : fcs[i]? = some l := by rfl) (hb : l[j]? = some b := by rfl) : b K = true := by
  have c1 := (He.ba (show ((fcs.all fun l => l.all fun b => b K) && fns.all fun l => l.all fun d => cO K d.a d.qual) = true from congrArg (fun z : Al => z.1) c)).1
  exact List.all_eq_true.mp (List.all_eq_true.mp c1 l (List.mem_of_getElem? hl)) b (List.mem_of_getElem? hb)
theorem def_ (i j : Nat) {l : List FnA} {d : FnA} (hl : fns[i]? = some l) (hb : l[j]? = some d) :
    ∃ oc od osl kV doc pm an cdv ct, K.lookup d.a = some ⟨oc, od, .func (PySem.W.fnOf d.name d.qual d.params d.body d.scope .none kV doc pm an cdv ct), osl⟩ ∧ PySem.W.codeIn K cdv d.qual = true := by
  have c2 := (He.ba (show ((fcs.all fun l => l.all fun b => b K) && fns.all fun l => l.all fun d => cO K d.a d.qual) = true from congrArg (fun z : Al => z.1) c)).2
  have e : (fns.map fun l => l.map fun d => fO K d.a) = fns.map fun l => l.map FnA.val := congrArg (fun z : Al => z.2.1) c
  have e2 : (fns.map fun l => l.map fun d => fO K d.a)[i]? = (fns.map fun l => l.map FnA.val)[i]? := by rw [e]
  rw [List.getElem?_map, List.getElem?_map, hl] at e2
  have e3 : (l.map fun d => fO K d.a)[j]? = (l.map FnA.val)[j]? := by rw [show (l.map fun d => fO K d.a) = l.map FnA.val from Option.some.inj e2]
  rw [List.getElem?_map, List.getElem?_map, hb] at e3
  exact fO_ok (Option.some.inj e3) (List.all_eq_true.mp (List.all_eq_true.mp c2 l (List.mem_of_getElem? hl)) d (List.mem_of_getElem? hb))
theorem dict_ (i : Nat) {p : Addr × List (Str × Value)} (h : dicts[i]? = some p) : kvs K p.1 = some (p.2.map fun p => (some p.1, p.2)) := by
  have e : (dicts.map fun p => kvs K p.1) = dicts.map fun p => some (p.2.map fun p => (some p.1, p.2)) := congrArg (fun z : Al => z.2.2.1) c
  have e2 : (dicts.map fun p => kvs K p.1)[i]? = (dicts.map fun p => some (p.2.map fun p => (some p.1, p.2)))[i]? := by rw [e]
  rw [List.getElem?_map, List.getElem?_map, h] at e2
  exact Option.some.inj e2
theorem cls_ (i : Nat) {p : Addr × List Value × Addr} (h : clss[i]? = some p) : mroO K p.1 = some p.2 := by
  have e : (clss.map fun p => mroO K p.1) = clss.map fun p => some p.2 := congrArg (fun z : Al => z.2.2.2.1) c
  have e2 : (clss.map fun p => mroO K p.1)[i]? = (clss.map fun p => some p.2)[i]? := by rw [e]
  rw [List.getElem?_map, List.getElem?_map, h] at e2
  exact Option.some.inj e2
theorem glob (x : Str) (v : Value) (h : decide (findS gl x = some v) = true) : PySem.W.nsIn K mainGlobals x = some (some v) := (kvs_ns (dict_ c 0 (p := (3, gl)) rfl) x).trans (congrArg some (of_decide_eq_true h))
theorem free (x : Str) (h : decide (findS gl x = none) = true) : PySem.W.nsIn K mainGlobals x = some none := (kvs_ns (dict_ c 0 (p := (3, gl)) rfl) x).trans (congrArg some (of_decide_eq_true h))
end
theorem ent_ok {P : Params} : ∀ {l : List DictEntry} {ps : List (Str × Str)}, l.map entO = (ps.map fun p => some (p.1, PyData.keyHash P p.1, p.2)) → Gx.EntOk P l ps
  | [], [], _ => trivial
  | e :: r, [], h => by cases h
  | [], p :: q, h => by cases h
  | e :: r, p :: q, h => by
    have h1 : entO e :: r.map entO = some (p.1, PyData.keyHash P p.1, p.2) :: (q.map fun p => some (p.1, PyData.keyHash P p.1, p.2)) := h
    injection h1 with h2 h3
    unfold entO at h2
    split at h2
    · rename_i x t v u q1 q2
      have h4 := Option.some.inj h2
      obtain ⟨h5, h6⟩ := Prod.mk.inj h4
      obtain ⟨h7, h8⟩ := Prod.mk.inj h6
      exact ⟨⟨t, by rw [q1, h5], by rw [h7]⟩, ⟨u, by rw [q2, h8]⟩, ent_ok h3⟩
    · cases h2
theorem sh_ok {w : World} {K : PySem.W.Frag} (c : Says w K) : ∃ es n, K.lookup 136 = some ⟨.type "dict", none, .dict es n, #[]⟩ ∧ (136 == sysModules) = false ∧ Gx.EntOk w.params es.toList Gx.shapes := by
  have c3 : shO K 136 = some (Gx.shapes.map fun p => some (p.1, PyData.keyHash w.params p.1, p.2)) := congrArg (fun z : Al => z.2.2.2.2) c
  unfold shO at c3
  split at c3
  · rename_i cc es n sl q
    split at c3
    · rename_i d
      obtain ⟨d1, d2⟩ := He.ba d
      obtain ⟨d3, d4⟩ := He.ba d2
      have e1 := of_decide_eq_true d1
      subst e1
      have e2 : sl = #[] := by simpa using d3
      subst e2
      exact ⟨es, n, q, by simpa using d4, ent_ok (Option.some.inj c3)⟩
    · cases c3
  · cases c3

def nm0 : List PySem.Str := ["LandError", "BadTerm", "BadFact", "BadLine", "NoFolk", "NoField", "NoFact", "NoStand", "Told", "Full", "LAST", "MOST", "SHAPES", "FIGURES", "is_number", "fits", "is_fact", "number_of", "fact_of", "_law_cell"]
def nm1 : List PySem.Str := ["_law_digits", "_law_whole", "_law_like", "_law_flags", "_law_anyfact", "_law_isfact", "_law_factline", "_law_number", "_law_reader", "_law_said", "_law_spoilt"]
def names : List PySem.Str := nm0 ++ (nm1)
abbrev R : PySem.W.OpenRow := PySem.W.OpenLaw.row PySem.Challenge.rw_longhold_k12_texts_that_write_no_fact
theorem run0 (w : World) : HandSHeadRun.RunEq R (PySem.W.view R.prog [34]) hk ob 40000 names (w.withFollow "special-get-raises" false) := by
  intro os
  kernel_rfl
theorem run1 (w : World) : HandSHeadRun.RunEq R (PySem.W.view R.prog [34]) hk ob 40000 names (w.withFollow "special-get-raises" true) := by
  intro os
  kernel_rfl
theorem run (w : World) : HandSHeadRun.RunEq R (PySem.W.view R.prog [34]) hk ob 40000 names w := PySem.W.byRow2 "special-get-raises" (P := fun w => HandSHeadRun.RunEq R (PySem.W.view R.prog [34]) hk ob 40000 names w) run0 run1 w
theorem facts {w : World} {K : PySem.W.Frag} {h : Heap} {mg : Str → Option Value} {fa : Addr} (X : K.In h) (G : h.Ns mainGlobals mg) (hfa : mg ("law" : Str) = some (.ref fa)) (c : Says w K) :
    ∃ fd : FuncData, (∀ (s : Shared) (v : Value), BindsTo s fd ⟨[v], []⟩ [("_law_script", v)]) ∧ ∀ base : Heap, K.In base → base.Ns mainGlobals mg → FnOk (PySem.Challenge.rw_longhold_k12_texts_that_write_no_fact).prog w K mg base CX0 10 fa fd ["_law_script"] (Gx.spLaw K 63) := by
  obtain ⟨oc0, od0, sl0, kV0, dc0, pm0, an0, cd0, ct0, l0, c0⟩ := def_ c 0 0 rfl rfl
  obtain ⟨oc1, od1, sl1, kV1, dc1, pm1, an1, cd1, ct1, l1, c1⟩ := def_ c 0 1 rfl rfl
  obtain ⟨oc2, od2, sl2, kV2, dc2, pm2, an2, cd2, ct2, l2, c2⟩ := def_ c 0 2 rfl rfl
  obtain ⟨oc3, od3, sl3, kV3, dc3, pm3, an3, cd3, ct3, l3, c3⟩ := def_ c 0 3 rfl rfl
  obtain ⟨oc4, od4, sl4, kV4, dc4, pm4, an4, cd4, ct4, l4, c4⟩ := def_ c 0 4 rfl rfl
  obtain ⟨oc5, od5, sl5, kV5, dc5, pm5, an5, cd5, ct5, l5, c5⟩ := def_ c 0 5 rfl rfl
  obtain ⟨oc6, od6, sl6, kV6, dc6, pm6, an6, cd6, ct6, l6, c6⟩ := def_ c 0 6 rfl rfl
  obtain ⟨oc7, od7, sl7, kV7, dc7, pm7, an7, cd7, ct7, l7, c7⟩ := def_ c 0 7 rfl rfl
  obtain ⟨oc8, od8, sl8, kV8, dc8, pm8, an8, cd8, ct8, l8, c8⟩ := def_ c 0 8 rfl rfl
  obtain ⟨oc9, od9, sl9, kV9, dc9, pm9, an9, cd9, ct9, l9, c9⟩ := def_ c 0 9 rfl rfl
  obtain ⟨oc10, od10, sl10, kV10, dc10, pm10, an10, cd10, ct10, l10, c10⟩ := def_ c 0 10 rfl rfl
  obtain ⟨oc11, od11, sl11, kV11, dc11, pm11, an11, cd11, ct11, l11, c11⟩ := def_ c 0 11 rfl rfl
  obtain ⟨oc12, od12, sl12, kV12, dc12, pm12, an12, cd12, ct12, l12, c12⟩ := def_ c 0 12 rfl rfl
  obtain ⟨oc13, od13, sl13, kV13, dc13, pm13, an13, cd13, ct13, l13, c13⟩ := def_ c 0 13 rfl rfl
  obtain ⟨oc14, od14, sl14, kV14, dc14, pm14, an14, cd14, ct14, l14, c14⟩ := def_ c 0 14 rfl rfl
  obtain ⟨oc15, od15, sl15, kV15, dc15, pm15, an15, cd15, ct15, l15, c15⟩ := def_ c 0 15 rfl rfl
  obtain ⟨oc16, od16, sl16, kV16, dc16, pm16, an16, cd16, ct16, l16, c16⟩ := def_ c 0 16 rfl rfl
  obtain ⟨oc17, od17, sl17, kV17, dc17, pm17, an17, cd17, ct17, l17, c17⟩ := def_ c 0 17 rfl rfl
  obtain ⟨esSh, nSh, lSh, lowS, eSh⟩ := sh_ok c
  exact Lw.all_mk (l := PySem.Challenge.rw_longhold_k12_texts_that_write_no_fact) X G hfa
    (glob c "_law_digits" (.ref 183) (by k_qdec))
    l0
    c0
    (fact c 0 0)
    (glob c "_law_cell" (.ref 176) (by k_qdec))
    l1
    c1
    (fact c 0 1)
    (glob c "_law_factline" (.ref 221) (by k_qdec))
    l2
    c2
    (fact c 0 2)
    (glob c "_law_anyfact" (.ref 209) (by k_qdec))
    l3
    c3
    (fact c 0 3)
    (glob c "_law_spoilt" (.ref 247) (by k_qdec))
    l4
    c4
    (fact c 0 4)
    (glob c "_law_number" (.ref 228) (by k_qdec))
    l5
    c5
    (fact c 0 5)
    (glob c "_law_isfact" (.ref 216) (by k_qdec))
    l6
    c6
    (fact c 0 6)
    (glob c "_law_reader" (.ref 233) (by k_qdec))
    l7
    c7
    (fact c 0 7)
    (glob c "number_of" (.ref 164) (by k_qdec))
    l8
    c8
    (fact c 0 8)
    (glob c "is_number" (.ref 143) (by k_qdec))
    l9
    c9
    (fact c 0 9)
    (glob c "fits" (.ref 150) (by k_qdec))
    l10
    c10
    (fact c 0 10)
    (glob c "is_fact" (.ref 157) (by k_qdec))
    l11
    c11
    (fact c 0 11)
    (glob c "fact_of" (.ref 169) (by k_qdec))
    l12
    c12
    (fact c 0 12)
    (glob c "_law_said" (.ref 240) (by k_qdec))
    l13
    c13
    (fact c 0 13)
    (glob c "_law_flags" (.ref 202) (by k_qdec))
    l14
    c14
    (fact c 0 14)
    (glob c "_law_whole" (.ref 190) (by k_qdec))
    l15
    c15
    (fact c 0 15)
    (glob c "_law_like" (.ref 197) (by k_qdec))
    l16
    c16
    (fact c 0 16)
    (glob c "law" (.ref 254) (by k_qdec))
    l17
    c17
    (fact c 0 17)
    (free c "ValueError" (by k_qdec))
    (free c "bool" (by k_qdec))
    (free c "int" (by k_qdec))
    (free c "isinstance" (by k_qdec))
    (free c "len" (by k_qdec))
    (free c "list" (by k_qdec))
    (free c "range" (by k_qdec))
    (free c "str" (by k_qdec))
    (free c "tuple" (by k_qdec))
    (free c "zip" (by k_qdec))
    (glob c "LandError" (.ref 24) (by k_qdec))
    (of_decide_eq_true (fact c 0 18))
    (fact c 0 19)
    (glob c "BadTerm" (.ref 37) (by k_qdec))
    (of_decide_eq_true (fact c 1 0))
    (fact c 1 1)
    (glob c "BadFact" (.ref 49) (by k_qdec))
    (of_decide_eq_true (fact c 1 2))
    (fact c 1 3)
    (glob c "BadLine" (.ref 61) (by k_qdec))
    (of_decide_eq_true (fact c 1 4))
    (fact c 1 5)
    (glob c "NoFolk" (.ref 73) (by k_qdec))
    (of_decide_eq_true (fact c 1 6))
    (fact c 1 7)
    (glob c "NoField" (.ref 85) (by k_qdec))
    (of_decide_eq_true (fact c 1 8))
    (fact c 1 9)
    (glob c "NoFact" (.ref 97) (by k_qdec))
    (of_decide_eq_true (fact c 1 10))
    (fact c 1 11)
    (glob c "NoStand" (.ref 109) (by k_qdec))
    (of_decide_eq_true (fact c 1 12))
    (fact c 1 13)
    (glob c "Told" (.ref 121) (by k_qdec))
    (of_decide_eq_true (fact c 1 14))
    (fact c 1 15)
    (glob c "Full" (.ref 133) (by k_qdec))
    (of_decide_eq_true (fact c 1 16))
    (fact c 1 17)
    (fact c 1 18)
    (fact c 1 19)
    (of_decide_eq_true (fact c 2 0))
    (of_decide_eq_true (fact c 2 1))
    (of_decide_eq_true (fact c 2 2))
    (of_decide_eq_true (fact c 2 3))
    (of_decide_eq_true (fact c 2 4))
    (of_decide_eq_true (fact c 2 5))
    (of_decide_eq_true (fact c 2 6))
    (of_decide_eq_true (fact c 2 7))
    (of_decide_eq_true (fact c 2 8))
    (of_decide_eq_true (fact c 2 9))
    (of_decide_eq_true (fact c 2 10))
    (of_decide_eq_true (fact c 2 11))
    (of_decide_eq_true (fact c 2 12))
    (of_decide_eq_true (fact c 2 13))
    (of_decide_eq_true (fact c 2 14))
    (of_decide_eq_true (fact c 2 15))
    (of_decide_eq_true (fact c 2 16))
    (of_decide_eq_true (fact c 2 17))
    (of_decide_eq_true (fact c 2 18))
    (glob c "FIGURES" (.str "0123456789" 388) (by k_qdec))
    (glob c "LAST" (.int (9999) 353) (by k_qdec))
    (glob c "MOST" (.int (999) 355) (by k_qdec))
    (glob c "SHAPES" (.ref 136) (by k_qdec))
    lSh
    lowS
    eSh
end
end Hd
open PySem PySem.W PySem.Calls PyProof.Rows
set_option maxHeartbeats 0 in
theorem PySem.Challenge.cw_longhold_k12_texts_that_write_no_fact_holds : PySem.Challenge.rw_longhold_k12_texts_that_write_no_fact.Holds := by
  w_on; o_law
  refine HandSHeadRun.head_any (r := OpenLaw.row PySem.Challenge.rw_longhold_k12_texts_that_write_no_fact) (q := view (OpenLaw.row PySem.Challenge.rw_longhold_k12_texts_that_write_no_fact).prog [34]) (H := Hd.hk) (ob := Hd.ob) (M := 40000) (loose := Hd.names) (d := HandSHeadRun.topDef (OpenLaw.row PySem.Challenge.rw_longhold_k12_texts_that_write_no_fact).prog 34) (kwd := []) Hd.ob_eq (by kernel_rfl) (fun s => by kernel_rfl) Hd.run (by kernel_rfl) (by kernel_rfl) (by kernel_rfl) (by rfl) (by first | assumption | decide +kernel) (by decide +kernel) ⟨rfl, rfl, rfl, rfl, rfl, by decide +kernel⟩ ?hw ?hc
  case hw => w_witness2
  case hc =>
    refine L2.walk_ofE (l := PySem.Challenge.rw_longhold_k12_texts_that_write_no_fact) (n := 63) (k := 10) (x := "_law_script") (CX := L2.CX0) rfl (by decide) (by kernel_rfl) ⟨rfl, by decide, by decide⟩ ?F (fun _ _ _ _ z => z)
    intro w mg fa h Y G hmg0
    obtain ⟨K, KX, c⟩ := Y
    have hmg : mg ("law" : PySem.Str) = some (.ref fa) := by
      have e : (HandSHeadRun.topDef (OpenLaw.row PySem.Challenge.rw_longhold_k12_texts_that_write_no_fact).prog 34).name = ("law" : PySem.Str) := by kernel_rfl
      rw [← e]
      exact hmg0
    obtain ⟨fd, hb, hF⟩ := Hd.facts (w := w) KX G hmg c
    exact ⟨K, fd, Gx.spLaw K 63, KX, hb, fun H a ns hl _ hS => ⟨a, ns, rfl, hS, hl, fun _ => rfl⟩, hF⟩
#print axioms PySem.Challenge.cw_longhold_k12_texts_that_write_no_fact_holds
