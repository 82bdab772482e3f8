import PyProof.Rows.All
import Wide.All
import OpenK.AllK
import Wide.FinOn
import HandS.ForMost
import HandS.ForExc
import HandS.WideBits
import HandS.Wide
import HandS.IsInst
import HandS.Deep
import HandS.Defaults
import HandS.TupAny
import HandS.Style
import HandS.Zip
import HandS.Conv
import HandS.Iter
import KE.DataCmp
import HandS.WideMore
import HandS.Ends
import HandS.HeadEnd
import HandS.Head0
import HandS.Head1
import HandS.Head2
import HandS.HeadHook1
import HandS.HeadHook2
import KE.SortData
import PySem.Challenge.RW_halfpace_k13_figures_put_together
set_option Elab.async false
set_option linter.all false
set_option maxRecDepth 100000
set_option maxHeartbeats 4000000
/-! DL1: data as trees over the hand layer: values D, cells that are changed in place, what a reading asks in their words. -/
namespace DL
open PySem PySem.Spec L2

/-- a value as a tree; ref k: the k-th cell (a thing that is changed in place); glo a: a written thing -/
inductive D where
  | non | bl (b : Bool) | int (i : Int) | str (x : Str)
  | tup (ds : List D) | lst (ds : List D) | dct (kvs : List (D × D))
  | obj (C : Addr) (fs : List (Str × D))
  | ref (k : Nat) | glo (a : Addr) | ty (n : String) | scr (ns : List Int)
/-- what stands in a cell -/
inductive Cell where
  | lst (ds : List D) | dct (kvs : List (D × D)) | ins (C : Addr) (fs : List (Str × D)) | bag
  /-- it stands still from now on -/
  | frz (d : D)
abbrev SD := List (Option D)
abbrev MC := List Cell
/-- an exception: its class, its fields -/
structure Exc where
  C : Addr
  fs : List (Str × D)
abbrev QD := D → MC → Prop
abbrev WD := Exc → SD → MC → Prop
abbrev TD := WD → SD → MC → QD → Prop
abbrev TDT := WD → SD → MC → (Bool → MC → Prop) → Prop
abbrev TDA := WD → SD → MC → (List D → MC → Prop) → Prop
structure EndsD where
  nx : SD → MC → Prop
  rt : QD
  bk : SD → MC → Prop := fun _ _ => False
  ct : SD → MC → Prop := fun _ _ => False
abbrev TDS := WD → EndsD → SD → MC → Prop

/-- a written list, a written tuple -/
def KL (K : PySem.W.Frag) (a : Addr) (xs : List V) : Prop :=
  ∃ (o : Obj) (its : Array Value) (n : Nat), K.lookup a = some o ∧ o.cls = .type "list" ∧ o.dict = none ∧ o.data = .seq its n ∧ its.size ≤ sizeLine ∧ Vals xs its.toList
def KT (K : PySem.W.Frag) (a : Addr) (xs : List V) : Prop :=
  ∃ (o : Obj) (its : Array Value) (n : Nat), K.lookup a = some o ∧ o.cls = .type "tuple" ∧ o.data = .seq its n ∧ its.size ≤ sizeLine ∧ Vals xs its.toList

/-- a dict's key -/
def kD : D → Option Key
  | .int i => some (.inl i)
  | .str x => some (.inr x)
  | _ => none
def kDs : List D → Option (List Key)
  | [] => some []
  | d :: ds => match kD d, kDs ds with
    | some k, some ks => some (k :: ks)
    | _, _ => none

mutual
/-- v is d, a thing that stands still -/
inductive Fz (K : PySem.W.Frag) (G : Hp) : V → D → Prop
  | non : Fz K G .non .non
  | bl (b : Bool) : Fz K G (.bl b) (.bl b)
  | int (i : Int) : Fz K G (.int i) (.int i)
  | str (x : Str) : Fz K G (.str x) (.str x)
  | tup {a : Addr} {xs : List V} {ds : List D} : G a = some (.tup xs) → FzL K G xs ds → Fz K G (.ref a) (.tup ds)
  | lst {a : Addr} {xs : List V} {ds : List D} : G a = some (.lst xs) → FzL K G xs ds → Fz K G (.ref a) (.lst ds)
  | dct {a : Addr} {xs : List (Key × V)} {ds : List (D × D)} : G a = some (.dK xs) → FzK K G xs ds → Fz K G (.ref a) (.dct ds)
  | dctT {a : Addr} {xs : List (List Key × V)} {ds : List (D × D)} : G a = some (.dT xs) → FzKT K G xs ds → Fz K G (.ref a) (.dct ds)
  | obj {a C dx : Addr} {xs : List (Str × V)} {ds : List (Str × D)} : G a = some (.ins C dx xs) → FzF K G xs ds → Fz K G (.ref a) (.obj C ds)
  | glo (a : Addr) : Fz K G (.ref a) (.glo a)
  | ty (n : String) : Fz K G (.ty n) (.ty n)
  | scr {a : Addr} {ns : List Int} : (∃ ob, G a = some (.frz ob (.lst (ns.map V.int)))) ∨ KL K a (ns.map V.int) → Fz K G (.ref a) (.scr ns)
inductive FzL (K : PySem.W.Frag) (G : Hp) : List V → List D → Prop
  | nil : FzL K G [] []
  | cons {v : V} {d : D} {vs : List V} {ds : List D} : Fz K G v d → FzL K G vs ds → FzL K G (v :: vs) (d :: ds)
inductive FzK (K : PySem.W.Frag) (G : Hp) : List (Key × V) → List (D × D) → Prop
  | nil : FzK K G [] []
  | cons {k : Key} {v : V} {kd d : D} {vs : List (Key × V)} {ds : List (D × D)} : kD kd = some k → Fz K G v d → FzK K G vs ds → FzK K G ((k, v) :: vs) ((kd, d) :: ds)
inductive FzKT (K : PySem.W.Frag) (G : Hp) : List (List Key × V) → List (D × D) → Prop
  | nil : FzKT K G [] []
  | cons {k : List Key} {v : V} {kd : List D} {d : D} {vs : List (List Key × V)} {ds : List (D × D)} : kDs kd = some k → Fz K G v d → FzKT K G vs ds → FzKT K G ((k, v) :: vs) ((.tup kd, d) :: ds)
inductive FzF (K : PySem.W.Frag) (G : Hp) : List (Str × V) → List (Str × D) → Prop
  | nil : FzF K G [] []
  | cons {x : Str} {v : V} {d : D} {vs : List (Str × V)} {ds : List (Str × D)} : Fz K G v d → FzF K G vs ds → FzF K G ((x, v) :: vs) ((x, d) :: ds)
end
/-- v is d: it stands still, or it is a cell (r tells where the cells lie) -/
inductive Rp (K : PySem.W.Frag) (G : Hp) (r : List Addr) : V → D → Prop
  | fz {v : V} {d : D} : Fz K G v d → Rp K G r v d
  | ref {k : Nat} {a : Addr} : r[k]? = some a → Rp K G r (.ref a) (.ref k)
inductive RpL (K : PySem.W.Frag) (G : Hp) (r : List Addr) : List V → List D → Prop
  | nil : RpL K G r [] []
  | cons {v : V} {d : D} {vs : List V} {ds : List D} : Rp K G r v d → RpL K G r vs ds → RpL K G r (v :: vs) (d :: ds)
inductive RpK (K : PySem.W.Frag) (G : Hp) (r : List Addr) : List (Key × V) → List (D × D) → Prop
  | nil : RpK K G r [] []
  | cons {k : Key} {v : V} {kd d : D} {vs : List (Key × V)} {ds : List (D × D)} : kD kd = some k → Rp K G r v d → RpK K G r vs ds → RpK K G r ((k, v) :: vs) ((kd, d) :: ds)
inductive RpKT (K : PySem.W.Frag) (G : Hp) (r : List Addr) : List (List Key × V) → List (D × D) → Prop
  | nil : RpKT K G r [] []
  | cons {k : List Key} {v : V} {kd : List D} {d : D} {vs : List (List Key × V)} {ds : List (D × D)} : kDs kd = some k → Rp K G r v d → RpKT K G r vs ds → RpKT K G r ((k, v) :: vs) ((.tup kd, d) :: ds)
inductive RpF (K : PySem.W.Frag) (G : Hp) (r : List Addr) : List (Str × V) → List (Str × D) → Prop
  | nil : RpF K G r [] []
  | cons {x : Str} {v : V} {d : D} {vs : List (Str × V)} {ds : List (Str × D)} : Rp K G r v d → RpF K G r vs ds → RpF K G r ((x, v) :: vs) ((x, d) :: ds)

/-- G grows -/
def GE (G G' : Hp) : Prop := ∀ a o, G a = some o → G' a = some o
theorem GE.refl (G : Hp) : GE G G := fun _ _ h => h
theorem GE.trans {G G1 G2 : Hp} (a : GE G G1) (b : GE G1 G2) : GE G G2 := fun _ _ h => b _ _ (a _ _ h)
/-- r' begins as r -/
def PX (r r' : List Addr) : Prop := ∀ (k : Nat) (a : Addr), r[k]? = some a → r'[k]? = some a
theorem PX.refl (r : List Addr) : PX r r := fun _ _ h => h
theorem PX.trans {r r1 r2 : List Addr} (a : PX r r1) (b : PX r1 r2) : PX r r2 := fun _ _ h => b _ _ (a _ _ h)
theorem PX.app (r s : List Addr) : PX r (r ++ s) := fun k a h => by
  rw [List.getElem?_append_left (List.getElem?_eq_some_iff.mp h).1]; exact h

section
variable {K : PySem.W.Frag} {G G' : Hp} {r r' : List Addr}
mutual
theorem Fz.mono (g : GE G G') : ∀ {v : V} {d : D}, Fz K G v d → Fz K G' v d
  | _, _, .non => .non
  | _, _, .bl b => .bl b
  | _, _, .int i => .int i
  | _, _, .str x => .str x
  | _, _, .tup h t => .tup (g _ _ h) (FzL.mono g t)
  | _, _, .lst h t => .lst (g _ _ h) (FzL.mono g t)
  | _, _, .dct h t => .dct (g _ _ h) (FzK.mono g t)
  | _, _, .dctT h t => .dctT (g _ _ h) (FzKT.mono g t)
  | _, _, .obj h t => .obj (g _ _ h) (FzF.mono g t)
  | _, _, .glo a => .glo a
  | _, _, .ty n => .ty n
  | _, _, .scr (.inl ⟨ob, h⟩) => .scr (.inl ⟨ob, g _ _ h⟩)
  | _, _, .scr (.inr h) => .scr (.inr h)
theorem FzL.mono (g : GE G G') : ∀ {v : List V} {d : List D}, FzL K G v d → FzL K G' v d
  | _, _, .nil => .nil
  | _, _, .cons h t => .cons (Fz.mono g h) (FzL.mono g t)
theorem FzK.mono (g : GE G G') : ∀ {v : List (Key × V)} {d : List (D × D)}, FzK K G v d → FzK K G' v d
  | _, _, .nil => .nil
  | _, _, .cons e h t => .cons e (Fz.mono g h) (FzK.mono g t)
theorem FzKT.mono (g : GE G G') : ∀ {v : List (List Key × V)} {d : List (D × D)}, FzKT K G v d → FzKT K G' v d
  | _, _, .nil => .nil
  | _, _, .cons e h t => .cons e (Fz.mono g h) (FzKT.mono g t)
theorem FzF.mono (g : GE G G') : ∀ {v : List (Str × V)} {d : List (Str × D)}, FzF K G v d → FzF K G' v d
  | _, _, .nil => .nil
  | _, _, .cons h t => .cons (Fz.mono g h) (FzF.mono g t)
end
theorem Rp.mono (g : GE G G') (p : PX r r') {v : V} {d : D} : Rp K G r v d → Rp K G' r' v d
  | .fz h => .fz (h.mono g)
  | .ref h => .ref (p _ _ h)
theorem RpL.mono (g : GE G G') (p : PX r r') : ∀ {v : List V} {d : List D}, RpL K G r v d → RpL K G' r' v d
  | _, _, .nil => .nil
  | _, _, .cons h t => .cons (h.mono g p) (RpL.mono g p t)
theorem RpK.mono (g : GE G G') (p : PX r r') : ∀ {v : List (Key × V)} {d : List (D × D)}, RpK K G r v d → RpK K G' r' v d
  | _, _, .nil => .nil
  | _, _, .cons e h t => .cons e (h.mono g p) (RpK.mono g p t)
theorem RpKT.mono (g : GE G G') (p : PX r r') : ∀ {v : List (List Key × V)} {d : List (D × D)}, RpKT K G r v d → RpKT K G' r' v d
  | _, _, .nil => .nil
  | _, _, .cons e h t => .cons e (h.mono g p) (RpKT.mono g p t)
theorem RpF.mono (g : GE G G') (p : PX r r') : ∀ {v : List (Str × V)} {d : List (Str × D)}, RpF K G r v d → RpF K G' r' v d
  | _, _, .nil => .nil
  | _, _, .cons h t => .cons (h.mono g p) (RpF.mono g p t)
theorem FzL.rp : ∀ {v : List V} {d : List D}, FzL K G v d → RpL K G r v d
  | _, _, .nil => .nil
  | _, _, .cons h t => .cons (.fz h) t.rp
theorem FzK.rp : ∀ {v : List (Key × V)} {d : List (D × D)}, FzK K G v d → RpK K G r v d
  | _, _, .nil => .nil
  | _, _, .cons e h t => .cons e (.fz h) t.rp
theorem FzKT.rp : ∀ {v : List (List Key × V)} {d : List (D × D)}, FzKT K G v d → RpKT K G r v d
  | _, _, .nil => .nil
  | _, _, .cons e h t => .cons e (.fz h) t.rp
theorem FzF.rp : ∀ {v : List (Str × V)} {d : List (Str × D)}, FzF K G v d → RpF K G r v d
  | _, _, .nil => .nil
  | _, _, .cons h t => .cons (.fz h) t.rp
/-- no cell -/
def isRef : D → Bool
  | .ref _ => true
  | _ => false
def noRef (ds : List D) : Bool := ds.all fun d => !isRef d
theorem Rp.toFz {v : V} {d : D} (h : Rp K G r v d) (e : isRef d = false) : Fz K G v d := by
  cases h with
  | fz h => exact h
  | ref _ => cases e
theorem RpL.toFz : ∀ {v : List V} {d : List D}, RpL K G r v d → noRef d = true → FzL K G v d
  | _, _, .nil, _ => .nil
  | _, _, .cons h t, e => by
    unfold noRef at e
    rw [List.all_cons, Bool.and_eq_true] at e
    exact .cons (h.toFz (by simpa using e.1)) (RpL.toFz t e.2)
theorem Rp.int_inv {v : V} {i : Int} (h : Rp K G r v (.int i)) : v = .int i := by cases h with | fz h => cases h; rfl
theorem Rp.bl_inv {v : V} {i : Bool} (h : Rp K G r v (.bl i)) : v = .bl i := by cases h with | fz h => cases h; rfl
theorem Rp.str_inv {v : V} {i : Str} (h : Rp K G r v (.str i)) : v = .str i := by cases h with | fz h => cases h; rfl
theorem Rp.non_inv {v : V} (h : Rp K G r v .non) : v = .non := by cases h with | fz h => cases h; rfl
theorem Rp.glo_inv {v : V} {a : Addr} (h : Rp K G r v (.glo a)) : v = .ref a := by cases h with | fz h => cases h; rfl
theorem Rp.ty_inv {v : V} {a : String} (h : Rp K G r v (.ty a)) : v = .ty a := by cases h with | fz h => cases h; rfl
end
end DL
set_option Elab.async false
set_option linter.all false
set_option maxRecDepth 100000
set_option maxHeartbeats 4000000
namespace DL
open PySem PySem.Spec L2

/-! ### cells, the state's relation -/
def bagV (x y z : Int) : Prop := 0 ≤ x ∧ 0 ≤ y ∧ y < 2147483647 ∧ 0 ≤ z
def CellOk (K : PySem.W.Frag) (G : Hp) (r : List Addr) (H : Hp) (a : Addr) : Cell → Prop
  | .lst ds => ∃ vs, H a = some (.lst vs) ∧ FzL K G vs ds
  | .dct kvs => (∃ vs, H a = some (.dK vs) ∧ FzK K G vs kvs) ∨ (∃ vs, H a = some (.dT vs) ∧ FzKT K G vs kvs)
  | .ins C fs => ∃ dx vs, H a = some (.ins C dx vs) ∧ RpF K G r vs fs
  | .frz d => Fz K G (.ref a) d ∧ ∃ o, H a = some o ∧ (Mut (some o) ∨ ∃ ob u, o = .frz ob u)
  | .bag => ∃ (x y z : Int) (l : Addr) (ns : List Int), H a = some (.lst [.int x, .int y, .int z, .ref l]) ∧ G l = some (.lst (ns.map V.int)) ∧ bagV x y z ∧ ∀ n ∈ ns, 0 ≤ n

/-- a dict -/
def DctO : HO → Prop
  | .dK _ => True
  | .dT _ => True
  | _ => False
/-- stands so, or (a dict) is locked meanwhile -/
def StO (H : Hp) (a : Addr) (o : HO) : Prop := H a = some o ∨ (DctO o ∧ ∃ ob, H a = some (.frz ob o))
def isFrz : Cell → Bool
  | .frz _ => true
  | _ => false
structure SR (K : PySem.W.Frag) (G : Hp) (r : List Addr) (H : Hp) (M : MC) : Prop where
  sub : ∀ a o, G a = some o → StO H a o
  len : r.length = M.length
  nd : r.Nodup
  cell : ∀ (k : Nat) (a : Addr) (c : Cell), r[k]? = some a → M[k]? = some c → CellOk K G r H a c
  off : ∀ (k : Nat) (a : Addr) (c : Cell), r[k]? = some a → M[k]? = some c → isFrz c = false → G a = none
/-- the slots -/
def SlR (K : PySem.W.Frag) (G : Hp) (r : List Addr) (σ : St) (sd : SD) : Prop :=
  σ.length = sd.length ∧ ∀ (i : Nat) (d : D), sd[i]? = some (some d) → ∃ v, σ[i]? = some (some v) ∧ Rp K G r v d
/-- from one state to a later one -/
structure Ext (G : Hp) (r : List Addr) (H : Hp) (G' : Hp) (r' : List Addr) (H' : Hp) : Prop where
  ge : GE G G'
  keep : ∀ a o, H a = some o → a ∉ r → H' a = some o
  cell : ∀ a, a ∈ r' → a ∈ r ∨ H a = none
  froz : ∀ a o, G' a = some o → G a = some o ∨ H a = none ∨ a ∈ r
/-- an exception lies so -/
def ExcR (K : PySem.W.Frag) (G : Hp) (r : List Addr) (H : Hp) (cls : Value) (d : Option Addr) (e : Exc) : Prop :=
  cls = .ref e.C ∧ ((e.fs = [] ∧ d = none) ∨ ∃ dd xs, d = some dd ∧ H dd = some (.xd xs) ∧ RpF K G r xs e.fs)

section
variable {K : PySem.W.Frag} {G G' G2 : Hp} {r r' r2 : List Addr} {H H' H2 : Hp} {M M' : MC} {a p : Addr} {o : HO} {c : Cell} {σ σ' : St} {sd sd' : SD}

theorem Ext.refl (G : Hp) (r : List Addr) (H : Hp) : Ext G r H G r H := ⟨GE.refl _, fun _ _ h _ => h, fun _ h => .inl h, fun _ _ h => .inl h⟩
theorem Ext.trans (x : Ext G r H G' r' H') (y : Ext G' r' H' G2 r2 H2) : Ext G r H G2 r2 H2 where
  ge := x.ge.trans y.ge
  keep := fun a o e n => by
    refine y.keep a o (x.keep a o e n) fun m => ?_
    rcases x.cell a m with z | z
    · exact n z
    · rw [e] at z; cases z
  cell := fun a m => by
    rcases y.cell a m with z | z
    · exact x.cell a z
    · by_cases n : a ∈ r
      · exact .inl n
      · refine .inr ?_
        cases e : H a with
        | none => rfl
        | some o => rw [x.keep a o e n] at z; cases z
  froz := fun a o e => by
    have back : H' a = none → H a = none ∨ a ∈ r := fun z => by
      by_cases n : a ∈ r
      · exact .inr n
      · refine .inl ?_
        cases e : H a with
        | none => rfl
        | some o => rw [x.keep a o e n] at z; cases z
    rcases y.froz a o e with z | z | z
    · exact x.froz a o z
    · exact .inr (back z)
    · rcases x.cell a z with z | z
      · exact .inr (.inr z)
      · exact .inr (.inl z)

theorem CellOk.mono (g : GE G G') (q : PX r r') (e : ∀ o, H a = some o → H' a = some o) : ∀ {c : Cell}, CellOk K G r H a c → CellOk K G' r' H' a c
  | .lst ds, ⟨vs, h, t⟩ => ⟨vs, e _ h, t.mono g⟩
  | .dct kvs, .inl ⟨vs, h, t⟩ => .inl ⟨vs, e _ h, t.mono g⟩
  | .dct kvs, .inr ⟨vs, h, t⟩ => .inr ⟨vs, e _ h, t.mono g⟩
  | .ins C fs, ⟨dx, vs, h, t⟩ => ⟨dx, vs, e _ h, t.mono g q⟩
  | .frz d, ⟨h, o, ho, m⟩ => ⟨h.mono g, o, e _ ho, m⟩
  | .bag, ⟨x, y, z, l, ns, h, hl, t⟩ => ⟨x, y, z, l, ns, e _ h, g _ _ hl, t⟩
theorem CellOk.some_ : ∀ {c : Cell}, CellOk K G r H a c → ∃ o, H a = some o
  | .lst ds, ⟨vs, h, t⟩ => ⟨_, h⟩
  | .dct kvs, .inl ⟨vs, h, t⟩ => ⟨_, h⟩
  | .dct kvs, .inr ⟨vs, h, t⟩ => ⟨_, h⟩
  | .ins C fs, ⟨dx, vs, h, t⟩ => ⟨_, h⟩
  | .bag, ⟨x, y, z, l, ns, h, hl, t⟩ => ⟨_, h⟩
  | .frz d, ⟨h, o, ho, m⟩ => ⟨_, ho⟩
theorem SR.get (S : SR K G r H M) {k : Nat} (h : r[k]? = some a) : ∃ c, M[k]? = some c ∧ CellOk K G r H a c := by
  have h1 : k < M.length := by rw [← S.len]; exact (List.getElem?_eq_some_iff.mp h).1
  exact ⟨M[k], List.getElem?_eq_getElem h1, S.cell k a _ h (List.getElem?_eq_getElem h1)⟩
theorem SR.addr (S : SR K G r H M) {k : Nat} (h : M[k]? = some c) : ∃ a, r[k]? = some a ∧ CellOk K G r H a c := by
  have h1 : k < r.length := by rw [S.len]; exact (List.getElem?_eq_some_iff.mp h).1
  exact ⟨r[k], List.getElem?_eq_getElem h1, S.cell k _ c (List.getElem?_eq_getElem h1) h⟩
theorem SR.some_ (S : SR K G r H M) (h : a ∈ r) : ∃ o, H a = some o := by
  obtain ⟨k, hk⟩ := List.getElem?_of_mem h
  obtain ⟨c, _, hc⟩ := S.get hk
  exact hc.some_
theorem SR.new_r (S : SR K G r H M) (h : H p = none) : p ∉ r := fun m => by
  obtain ⟨o, e⟩ := S.some_ m
  rw [h] at e; cases e
theorem SR.new_G (S : SR K G r H M) (h : H p = none) : G p = none := by
  cases e : G p with
  | none => rfl
  | some o =>
    rcases S.sub p o e with z | ⟨_, _, z⟩ <;> (rw [h] at z; cases z)
theorem rd_keep (e : ∀ o, H a = some o → H' a = some o) {u : HO} (x : StO H a u) : StO H' a u := by
  rcases x with x | ⟨d, o, x⟩
  · exact .inl (e _ x)
  · exact .inr ⟨d, o, e _ x⟩
theorem GE.upd (h : G p = none) : GE G (upd G p o) := fun b u e => by rw [upd_ne (ne_of_none e h)]; exact e
/-- a new thing that stands still -/
theorem SR.laid (S : SR K G r H M) (h : H p = none) : SR K (upd G p o) r (upd H p o) M := by
  have hg := S.new_G h
  have hr := S.new_r h
  refine ⟨fun b u e => ?_, S.len, S.nd, fun k b c hk hc => ?_, fun k b c hk hc hf => ?_⟩
  · by_cases hb : b = p
    · subst hb; rw [upd_same] at e; cases e; exact .inl upd_same
    · rw [upd_ne hb] at e
      exact rd_keep (fun o' e' => by rw [upd_ne hb]; exact e') (S.sub b u e)
  · exact (S.cell k b c hk hc).mono (GE.upd hg) (PX.refl _) fun o' e' => by rw [upd_ne (ne_of_none e' h)]; exact e'
  · rw [upd_ne (show b ≠ p from fun z => hr (by rw [← z]; exact List.mem_of_getElem? hk))]; exact S.off k b c hk hc hf
theorem Ext.laid (S : SR K G r H M) (h : H p = none) : Ext G r H (upd G p o) r (upd H p o) := by
  refine ⟨GE.upd (S.new_G h), fun b u e _ => by rw [upd_ne (ne_of_none e h)]; exact e, fun b hb => .inl hb, fun b u e => ?_⟩
  by_cases hb : b = p
  · subst hb; exact .inr (.inl h)
  · rw [upd_ne hb] at e; exact .inl e
/-- a thing that stands still, or does not matter, of which nothing is said -/
theorem SR.other (S : SR K G r H M) (h : H p = none) : SR K G r (upd H p o) M := by
  refine ⟨fun b u e => ?_, S.len, S.nd, fun k b c hk hc => ?_, S.off⟩
  · exact rd_keep (fun o' e' => by rw [upd_ne (ne_of_none e' h)]; exact e') (S.sub b u e)
  · exact (S.cell k b c hk hc).mono (GE.refl _) (PX.refl _) fun o' e' => by rw [upd_ne (ne_of_none e' h)]; exact e'
theorem Ext.other (h : H p = none) : Ext G r H G r (upd H p o) :=
  ⟨GE.refl _, fun b u e _ => by rw [upd_ne (ne_of_none e h)]; exact e, fun b hb => .inl hb, fun b u e => .inl e⟩
/-- a new cell -/
theorem SR.push (S : SR K G r H M) (h : H p = none) (hc : CellOk K G (r ++ [p]) (upd H p o) p c) : SR K G (r ++ [p]) (upd H p o) (M ++ [c]) := by
  have hg := S.new_G h
  have hr := S.new_r h
  refine ⟨fun b u e => ?_, by simp [S.len], ?_, fun k b c' hk hc' => ?_, fun k b c' hk hc' hf => ?_⟩
  · exact rd_keep (fun o' e' => by rw [upd_ne (ne_of_none e' h)]; exact e') (S.sub b u e)
  · refine List.nodup_append.mpr ⟨S.nd, by simp, fun x hx y hy => ?_⟩
    simp only [List.mem_singleton] at hy
    rintro rfl
    exact hr (hy ▸ hx)
  · by_cases hl : k < r.length
    · rw [List.getElem?_append_left hl] at hk
      rw [List.getElem?_append_left (by rw [← S.len]; exact hl)] at hc'
      exact (S.cell k b c' hk hc').mono (GE.refl _) (PX.app _ _) fun o' e' => by rw [upd_ne (ne_of_none e' h)]; exact e'
    · have e1 : k = r.length := by
        have := (List.getElem?_eq_some_iff.mp hk).1
        simp at this; omega
      subst e1
      rw [List.getElem?_append_right (Nat.le_refl _)] at hk
      rw [List.getElem?_append_right (by rw [S.len]; exact Nat.le_refl _)] at hc'
      simp at hk
      simp [S.len] at hc'
      subst hk hc'
      exact hc
  · by_cases hl : k < r.length
    · rw [List.getElem?_append_left hl] at hk
      rw [List.getElem?_append_left (by rw [← S.len]; exact hl)] at hc'
      exact S.off k b c' hk hc' hf
    · have e1 : k = r.length := by
        have := (List.getElem?_eq_some_iff.mp hk).1
        simp at this; omega
      subst e1
      rw [List.getElem?_append_right (Nat.le_refl _)] at hk
      simp at hk
      subst hk; exact hg
theorem Ext.push (h : H p = none) : Ext G r H G (r ++ [p]) (upd H p o) := by
  refine ⟨GE.refl _, fun b u e _ => by rw [upd_ne (ne_of_none e h)]; exact e, fun b hb => ?_, fun b u e => .inl e⟩
  rcases List.mem_append.mp hb with hb | hb
  · exact .inl hb
  · simp only [List.mem_singleton] at hb
    subst hb; exact .inr h
theorem nodup_at {r : List Addr} (hn : r.Nodup) {i j : Nat} {x : Addr} (a : r[i]? = some x) (b : r[j]? = some x) : i = j := by
  obtain ⟨h1, e1⟩ := List.getElem?_eq_some_iff.mp a
  obtain ⟨h2, e2⟩ := List.getElem?_eq_some_iff.mp b
  exact (List.getElem_inj hn).mp (e1.trans e2.symm)
/-- a cell is changed -/
theorem SR.write (S : SR K G r H M) {k : Nat} {c0 : Cell} (hk : r[k]? = some a) (h0 : M[k]? = some c0) (hf : isFrz c0 = false) (hc : CellOk K G r (upd H a o) a c) (hf' : isFrz c = false) : SR K G r (upd H a o) (M.set k c) := by
  have hg := S.off k a c0 hk h0 hf
  refine ⟨fun b u e => ?_, by simp [S.len], S.nd, fun j b c' hj hc' => ?_, fun j b c' hj hc' hf2 => ?_⟩
  · exact rd_keep (fun o' e' => by rw [upd_ne (ne_of_none e hg)]; exact e') (S.sub b u e)
  · by_cases hjk : j = k
    · subst hjk
      have hl : j < M.length := by rw [← S.len]; exact (List.getElem?_eq_some_iff.mp hk).1
      rw [List.getElem?_set_self hl] at hc'
      rw [hk] at hj
      cases hj; cases hc'; exact hc
    · rw [List.getElem?_set_ne (Ne.symm hjk)] at hc'
      have hb : b ≠ a := fun z => hjk (nodup_at S.nd (z ▸ hj) hk)
      exact (S.cell j b c' hj hc').mono (GE.refl _) (PX.refl _) fun o' e' => by rw [upd_ne hb]; exact e'
  · by_cases hjk : j = k
    · subst hjk
      rw [hk] at hj
      cases hj; exact hg
    · rw [List.getElem?_set_ne (Ne.symm hjk)] at hc'
      exact S.off j b c' hj hc' hf2
/-- a cell's list stands still from now on -/
theorem SR.freeze (S : SR K G r H M) {k : Nat} {ds : List D} {vs : List V} (hk : r[k]? = some a) (h0 : M[k]? = some (.lst ds)) (hh : H a = some (.lst vs)) (t : FzL K G vs ds) : SR K (upd G a (.lst vs)) r H (M.set k (.frz (.lst ds))) := by
  have hg := S.off k a _ hk h0 rfl
  have ge : GE G (upd G a (.lst vs)) := GE.upd hg
  refine ⟨fun b u e => ?_, by simp [S.len], S.nd, fun j b c' hj hc' => ?_, fun j b c' hj hc' hf2 => ?_⟩
  · by_cases hb : b = a
    · subst hb; rw [upd_same] at e; cases e; exact .inl hh
    · rw [upd_ne hb] at e
      exact S.sub b u e
  · by_cases hjk : j = k
    · subst hjk
      have hl : j < M.length := by rw [← S.len]; exact (List.getElem?_eq_some_iff.mp hk).1
      rw [List.getElem?_set_self hl] at hc'
      rw [hk] at hj
      cases hj; cases hc'
      exact ⟨.lst upd_same (t.mono ge), _, hh, .inl trivial⟩
    · rw [List.getElem?_set_ne (Ne.symm hjk)] at hc'
      exact (S.cell j b c' hj hc').mono ge (PX.refl _) fun _ e' => e'
  · by_cases hjk : j = k
    · subst hjk
      have hl : j < M.length := by rw [← S.len]; exact (List.getElem?_eq_some_iff.mp hk).1
      rw [List.getElem?_set_self hl] at hc'
      cases hc'; cases hf2
    · rw [List.getElem?_set_ne (Ne.symm hjk)] at hc'
      have hb : b ≠ a := fun z => hjk (nodup_at S.nd (z ▸ hj) hk)
      rw [upd_ne hb]
      exact S.off j b c' hj hc' hf2
theorem Ext.freeze (S : SR K G r H M) {k : Nat} {c0 : Cell} (hk : r[k]? = some a) (h0 : M[k]? = some c0) (hf : isFrz c0 = false) : Ext G r H (upd G a o) r H := by
  refine ⟨GE.upd (S.off k a c0 hk h0 hf), fun _ _ e _ => e, fun b hb => .inl hb, fun b u e => ?_⟩
  by_cases hb : b = a
  · subst hb; exact .inr (.inr (List.mem_of_getElem? hk))
  · rw [upd_ne hb] at e; exact .inl e
theorem Ext.write {k : Nat} (hk : r[k]? = some a) : Ext G r H G r (upd H a o) :=
  ⟨GE.refl _, fun b u e n => by rw [upd_ne (show b ≠ a from fun z => n (by rw [z]; exact List.mem_of_getElem? hk))]; exact e, fun b hb => .inl hb, fun b u e => .inl e⟩

theorem SlR.mono (g : GE G G') (q : PX r r') (h : SlR K G r σ sd) : SlR K G' r' σ sd :=
  ⟨h.1, fun i d e => let ⟨v, e1, e2⟩ := h.2 i d e; ⟨v, e1, e2.mono g q⟩⟩
theorem SlR.set (h : SlR K G r σ sd) {v : V} {d : D} (i : Nat) (e : Rp K G r v d) : SlR K G r (σ.set i (some v)) (sd.set i (some d)) := by
  refine ⟨by simp [h.1], fun j d' e' => ?_⟩
  by_cases hj : j = i
  · subst hj
    have hl : j < sd.length := by simpa using (List.getElem?_eq_some_iff.mp e').1
    rw [List.getElem?_set_self hl] at e'
    cases e'
    exact ⟨v, List.getElem?_set_self (by rw [h.1]; exact hl), e⟩
  · rw [List.getElem?_set_ne (Ne.symm hj)] at e'
    obtain ⟨v', e1, e2⟩ := h.2 j d' e'
    exact ⟨v', by rw [List.getElem?_set_ne (Ne.symm hj)]; exact e1, e2⟩
theorem SlR.get (h : SlR K G r σ sd) {i : Nat} {d : D} (e : sd[i]? = some (some d)) : ∃ v, σ[i]? = some (some v) ∧ Rp K G r v d := h.2 i d e
end

/-! ### readings in the words of data -/
section
variable (K : PySem.W.Frag) (Wx : WX)
/-- what is wanted of exceptions -/
def LW (G : Hp) (r : List Addr) (H : Hp) (Wd : WD) : Prop := ∀ e sd' M', Wd e sd' M' → ∀ G' r' H' σ' cls d, Ext G r H G' r' H' → PX r r' → SR K G' r' H' M' → SlR K G' r' σ' sd' → ExcR K G' r' H' cls d e → Wx cls d σ' H'
/-- a continuation in words of data stands for one in words of the heap -/
def KQ (G : Hp) (r : List Addr) (H : Hp) (Qd : QD) (Q : VK) : Prop := ∀ d M', Qd d M' → ∀ G' r' H' v, Ext G r H G' r' H' → PX r r' → SR K G' r' H' M' → Rp K G' r' v d → Q v H'
def KT_ (G : Hp) (r : List Addr) (H : Hp) (Qd : Bool → MC → Prop) (Q : Bool → Hp → Prop) : Prop := ∀ b M', Qd b M' → ∀ G' r' H', Ext G r H G' r' H' → PX r r' → SR K G' r' H' M' → Q b H'
def KA (G : Hp) (r : List Addr) (H : Hp) (Qd : List D → MC → Prop) (Q : List V → Hp → Prop) : Prop := ∀ ds M', Qd ds M' → ∀ G' r' H' vs, Ext G r H G' r' H' → PX r r' → SR K G' r' H' M' → RpL K G' r' vs ds → Q vs H'
def KS (G : Hp) (r : List Addr) (H : Hp) (Qd : SD → MC → Prop) (Q : St → Hp → Prop) : Prop := ∀ sd' M', Qd sd' M' → ∀ G' r' H' σ', Ext G r H G' r' H' → PX r r' → SR K G' r' H' M' → SlR K G' r' σ' sd' → Q σ' H'
def LiftE (t : TD) : TE := fun σ H Q => ∃ G r sd M Wd Qd, SR K G r H M ∧ SlR K G r σ sd ∧ LW K Wx G r H Wd ∧ t Wd sd M Qd ∧ KQ K G r H Qd Q
def LiftT (t : TDT) : TT := fun σ H Q => ∃ G r sd M Wd Qd, SR K G r H M ∧ SlR K G r σ sd ∧ LW K Wx G r H Wd ∧ t Wd sd M Qd ∧ KT_ K G r H Qd Q
def LiftA (t : TDA) : TA := fun σ H Q => ∃ G r sd M Wd Qd, SR K G r H M ∧ SlR K G r σ sd ∧ LW K Wx G r H Wd ∧ t Wd sd M Qd ∧ KA K G r H Qd Q
structure KEnds (G : Hp) (r : List Addr) (H : Hp) (Dd : EndsD) (Dn : Ends) : Prop where
  nx : KS K G r H Dd.nx Dn.nx
  rt : KQ K G r H Dd.rt Dn.rt
  bk : KS K G r H Dd.bk Dn.bk
  ct : KS K G r H Dd.ct Dn.ct
def LiftS (t : TDS) : TS := fun Dn σ H => ∃ G r sd M Wd Dd, SR K G r H M ∧ SlR K G r σ sd ∧ LW K Wx G r H Wd ∧ t Wd Dd sd M ∧ KEnds K G r H Dd Dn
end
section
variable {K : PySem.W.Frag} {Wx : WX} {G G' : Hp} {r r' : List Addr} {H H' : Hp} {Qd : QD} {Q : VK}
theorem LW.ext {Wd : WD} (h : LW K Wx G r H Wd) (x : Ext G r H G' r' H') (q : PX r r') : LW K Wx G' r' H' Wd :=
  fun e sd' M' w G2 r2 H2 σ2 cls d x2 q2 => h e sd' M' w G2 r2 H2 σ2 cls d (x.trans x2) (q.trans q2)
theorem KQ.ext (h : KQ K G r H Qd Q) (x : Ext G r H G' r' H') (q : PX r r') : KQ K G' r' H' Qd Q :=
  fun d M' w G2 r2 H2 v x2 q2 => h d M' w G2 r2 H2 v (x.trans x2) (q.trans q2)
theorem KT_.ext {Qd : Bool → MC → Prop} {Q : Bool → Hp → Prop} (h : KT_ K G r H Qd Q) (x : Ext G r H G' r' H') (q : PX r r') : KT_ K G' r' H' Qd Q :=
  fun d M' w G2 r2 H2 x2 q2 => h d M' w G2 r2 H2 (x.trans x2) (q.trans q2)
theorem KA.ext {Qd : List D → MC → Prop} {Q : List V → Hp → Prop} (h : KA K G r H Qd Q) (x : Ext G r H G' r' H') (q : PX r r') : KA K G' r' H' Qd Q :=
  fun d M' w G2 r2 H2 v x2 q2 => h d M' w G2 r2 H2 v (x.trans x2) (q.trans q2)
theorem KS.ext {Qd : SD → MC → Prop} {Q : St → Hp → Prop} (h : KS K G r H Qd Q) (x : Ext G r H G' r' H') (q : PX r r') : KS K G' r' H' Qd Q :=
  fun d M' w G2 r2 H2 v x2 q2 => h d M' w G2 r2 H2 v (x.trans x2) (q.trans q2)
theorem KEnds.ext {Dd : EndsD} {Dn : Ends} (h : KEnds K G r H Dd Dn) (x : Ext G r H G' r' H') (q : PX r r') : KEnds K G' r' H' Dd Dn :=
  ⟨h.nx.ext x q, h.rt.ext x q, h.bk.ext x q, h.ct.ext x q⟩
/-- at once -/
theorem KQ.now {d : D} {M : MC} {v : V} (h : KQ K G r H Qd Q) (w : Qd d M) (S : SR K G r H M) (e : Rp K G r v d) : Q v H := h d M w G r H v (Ext.refl _ _ _) (PX.refl _) S e
theorem KS.now {Qd : SD → MC → Prop} {Q : St → Hp → Prop} {sd : SD} {M : MC} {σ : St} (h : KS K G r H Qd Q) (w : Qd sd M) (S : SR K G r H M) (e : SlR K G r σ sd) : Q σ H := h sd M w G r H σ (Ext.refl _ _ _) (PX.refl _) S e
theorem KT_.now {Qd : Bool → MC → Prop} {Q : Bool → Hp → Prop} {b : Bool} {M : MC} (h : KT_ K G r H Qd Q) (w : Qd b M) (S : SR K G r H M) : Q b H := h b M w G r H (Ext.refl _ _ _) (PX.refl _) S
theorem KA.now {Qd : List D → MC → Prop} {Q : List V → Hp → Prop} {ds : List D} {M : MC} {vs : List V} (h : KA K G r H Qd Q) (w : Qd ds M) (S : SR K G r H M) (e : RpL K G r vs ds) : Q vs H := h ds M w G r H vs (Ext.refl _ _ _) (PX.refl _) S e
end
/-- a weaker reading -/
theorem PE_imp {X : Cx} {e : Expr} {t t' : TE} (h : PE X e t) (i : ∀ σ H Q, t' σ H Q → t σ H Q) : PE X e t' := ⟨fun pins s σ H Q I w => h.run pins s σ H Q I (i σ H Q w)⟩
theorem PT_imp {X : Cx} {e : Expr} {t t' : TT} (h : PT X e t) (i : ∀ σ H Q, t' σ H Q → t σ H Q) : PT X e t' := ⟨fun pins s σ H Q I w => h.run pins s σ H Q I (i σ H Q w)⟩
theorem PW_imp {X : Cx} {e : Expr} {t t' : TT} (h : PW X e t) (i : ∀ σ H Q, t' σ H Q → t σ H Q) : PW X e t' := ⟨fun wh pins s σ H Q I w => h.run wh pins s σ H Q I (i σ H Q w)⟩
theorem PA_imp {X : Cx} {e : List Expr} {t t' : TA} (h : PA X e t) (i : ∀ σ H Q, t' σ H Q → t σ H Q) : PA X e t' := ⟨fun pos pins s σ H Q I w => h.run pos pins s σ H Q I (i σ H Q w)⟩
theorem PS_imp {X : Cx} {e : Stmt} {t t' : TS} (h : PS X e t) (i : ∀ Dn σ H, t' Dn σ H → t Dn σ H) : PS X e t' := ⟨fun pins s σ H Dn I w => h.run pins s σ H Dn I (i Dn σ H w)⟩
theorem PSs_imp {X : Cx} {e : List Stmt} {t t' : TS} (h : PSs X e t) (i : ∀ Dn σ H, t' Dn σ H → t Dn σ H) : PSs X e t' := ⟨fun pins s σ H Dn I w => h.run pins s σ H Dn I (i Dn σ H w)⟩
end DL
set_option Elab.async false
set_option linter.all false
set_option maxRecDepth 100000
set_option maxHeartbeats 4000000
namespace DL
open PySem PySem.Spec L2

/-! ### what a value is as a list, a tuple, plain data -/
def seqL (M : MC) : D → Option (List D)
  | .lst ds => some ds
  | .ref k => match M[k]? with
    | some (.lst ds) => some ds
    | some (.frz (.lst ds)) => some ds
    | _ => none
  | _ => none
def seqT : D → Option (List D)
  | .tup ds => some ds
  | _ => none
mutual
def pd : D → Option PyData
  | .non => some .none
  | .bl b => some (.bool b)
  | .int i => some (.int i)
  | .str x => some (.str x)
  | .tup ds => match pdL ds with
    | some ps => some (.tuple ps)
    | none => none
  | .lst ds => match pdL ds with
    | some ps => some (.list ps)
    | none => none
  | _ => none
def pdL : List D → Option (List PyData)
  | [] => some []
  | d :: ds => match pd d, pdL ds with
    | some p, some ps => some (p :: ps)
    | _, _ => none
end
/-- plain data, a cell's too -/
def pdM (M : MC) (d : D) : Option PyData := match seqL M d with
  | some ds => match pdL ds with
    | some ps => some (.list ps)
    | none => none
  | none => pd d
/-- a new list: a cell, or one that stands still -/
def mkL (fresh : Bool) (ds : List D) (M : MC) (Q : QD) : Prop := if fresh = true then Q (.ref M.length) (M ++ [.lst ds]) else Q (.lst ds) M

section
variable {K : PySem.W.Frag} {G : Hp} {r : List Addr} {H : Hp} {M : MC} {x : V} {d : D} {Qd : QD} {Q : VK}
theorem SR.readL {a : Addr} {xs : List V} (S : SR K G r H M) (h : G a = some (.lst xs)) : H a = some (.lst xs) := by
  rcases S.sub a _ h with z | ⟨z, _⟩
  · exact z
  · exact z.elim
theorem SR.readT {a : Addr} {xs : List V} (S : SR K G r H M) (h : G a = some (.tup xs)) : H a = some (.tup xs) := by
  rcases S.sub a _ h with z | ⟨z, _⟩
  · exact z
  · exact z.elim
theorem SR.readI {a C dx : Addr} {fs : List (Str × V)} (S : SR K G r H M) (h : G a = some (.ins C dx fs)) : H a = some (.ins C dx fs) := by
  rcases S.sub a _ h with z | ⟨z, _⟩
  · exact z
  · exact z.elim
theorem SR.readS {a : Addr} {ob : Obj} {u : HO} (S : SR K G r H M) (h : G a = some (.frz ob u)) : H a = some (.frz ob u) := by
  rcases S.sub a _ h with z | ⟨z, _⟩
  · exact z
  · exact z.elim
theorem SR.list (S : SR K G r H M) {ds : List D} (h : Rp K G r x d) (e : seqL M d = some ds) : ∃ a vs, x = .ref a ∧ H a = some (.lst vs) ∧ FzL K G vs ds := by
  cases h with
  | fz h => cases h with
    | lst hg t => cases e; exact ⟨_, _, rfl, S.readL hg, t⟩
    | _ => cases e
  | ref hk =>
    dsimp only [seqL] at e
    split at e
    · rename_i ds' hc
      cases e
      obtain ⟨vs, h1, h2⟩ := S.cell _ _ _ hk hc
      exact ⟨_, _, rfl, h1, h2⟩
    · rename_i ds' hc
      cases e
      obtain ⟨h1, _⟩ := S.cell _ _ _ hk hc
      cases h1 with
      | lst hg t => exact ⟨_, _, rfl, S.readL hg, t⟩
    · cases e
theorem SR.tuple (S : SR K G r H M) {ds : List D} (h : Rp K G r x d) (e : seqT d = some ds) : ∃ a vs, x = .ref a ∧ H a = some (.tup vs) ∧ FzL K G vs ds := by
  cases h with
  | fz h => cases h with
    | tup hg t => cases e; exact ⟨_, _, rfl, S.readT hg, t⟩
    | _ => cases e
  | ref _ => cases e
theorem RpL.length : ∀ {vs : List V} {ds : List D}, RpL K G r vs ds → vs.length = ds.length
  | _, _, .nil => rfl
  | _, _, .cons _ t => by rw [List.length_cons, List.length_cons, RpL.length t]
theorem RpL.append : ∀ {vs ws : List V} {ds es : List D}, RpL K G r vs ds → RpL K G r ws es → RpL K G r (vs ++ ws) (ds ++ es)
  | _, _, _, _, .nil, s => s
  | _, _, _, _, .cons h t, s => .cons h (RpL.append t s)
theorem RpL.get : ∀ {vs : List V} {ds : List D} {i : Nat} {d : D}, RpL K G r vs ds → ds[i]? = some d → ∃ v, vs[i]? = some v ∧ Rp K G r v d
  | _, _, _, _, .nil, e => by simp at e
  | _, _, 0, _, .cons h _, e => by simp at e; subst e; exact ⟨_, rfl, h⟩
  | _, _, i + 1, d, .cons _ t, e => by
    obtain ⟨v, h1, h2⟩ := RpL.get (i := i) (d := d) t (by simpa using e)
    exact ⟨v, by simpa using h1, h2⟩
theorem FzL.length : ∀ {vs : List V} {ds : List D}, FzL K G vs ds → vs.length = ds.length
  | _, _, .nil => rfl
  | _, _, .cons _ t => by rw [List.length_cons, List.length_cons, FzL.length t]
theorem FzL.append : ∀ {vs ws : List V} {ds es : List D}, FzL K G vs ds → FzL K G ws es → FzL K G (vs ++ ws) (ds ++ es)
  | _, _, _, _, .nil, s => s
  | _, _, _, _, .cons h t, s => .cons h (FzL.append t s)
theorem FzL.get : ∀ {vs : List V} {ds : List D} {i : Nat} {d : D}, FzL K G vs ds → ds[i]? = some d → ∃ v, vs[i]? = some v ∧ Fz K G v d
  | _, _, _, _, .nil, e => by simp at e
  | _, _, 0, _, .cons h _, e => by simp at e; subst e; exact ⟨_, rfl, h⟩
  | _, _, i + 1, d, .cons _ t, e => by
    obtain ⟨v, h1, h2⟩ := FzL.get (i := i) (d := d) t (by simpa using e)
    exact ⟨v, by simpa using h1, h2⟩
theorem FzL.drop : ∀ {vs : List V} {ds : List D} (n : Nat), FzL K G vs ds → FzL K G (vs.drop n) (ds.drop n)
  | _, _, 0, h => h
  | _, _, _ + 1, .nil => .nil
  | _, _, n + 1, .cons _ t => FzL.drop n t
theorem FzL.take : ∀ {vs : List V} {ds : List D} (n : Nat), FzL K G vs ds → FzL K G (vs.take n) (ds.take n)
  | _, _, 0, _ => .nil
  | _, _, _ + 1, .nil => .nil
  | _, _, n + 1, .cons h t => .cons h (FzL.take n t)
theorem FzL.set {v : V} {d : D} (h : Fz K G v d) : ∀ {vs : List V} {ds : List D} (n : Nat), FzL K G vs ds → FzL K G (vs.set n v) (ds.set n d)
  | _, _, _, .nil => .nil
  | _, _, 0, .cons _ t => .cons h t
  | _, _, n + 1, .cons q t => .cons q (FzL.set h n t)
theorem FzL.reverse : ∀ {vs : List V} {ds : List D}, FzL K G vs ds → FzL K G vs.reverse ds.reverse
  | _, _, .nil => .nil
  | _, _, .cons h t => by rw [List.reverse_cons, List.reverse_cons]; exact (FzL.reverse t).append (.cons h .nil)
theorem FzL.replicate {vs : List V} {ds : List D} (h : FzL K G vs ds) : ∀ n : Nat, FzL K G (List.replicate n vs).flatten (List.replicate n ds).flatten
  | 0 => .nil
  | n + 1 => by rw [List.replicate_succ, List.replicate_succ, List.flatten_cons, List.flatten_cons]; exact h.append (FzL.replicate h n)
theorem FzL.ints : ∀ ns : List Int, FzL K G (ns.map V.int) (ns.map D.int)
  | [] => .nil
  | n :: ns => .cons (.int n) (FzL.ints ns)
theorem FzL.strs : ∀ ns : List Str, FzL K G (ns.map V.str) (ns.map D.str)
  | [] => .nil
  | n :: ns => .cons (.str n) (FzL.strs ns)
theorem FzL.ints_inv : ∀ {ns : List Int} {vs : List V}, FzL K G vs (ns.map D.int) → vs = ns.map V.int
  | [], _, h => by cases h; rfl
  | n :: ns, _, h => by
    cases h with
    | cons h1 h2 => cases h1; rw [FzL.ints_inv h2]; rfl
theorem FzL.bls_inv : ∀ {ns : List Bool} {vs : List V}, FzL K G vs (ns.map D.bl) → vs = ns.map V.bl
  | [], _, h => by cases h; rfl
  | n :: ns, _, h => by
    cases h with
    | cons h1 h2 => cases h1; rw [FzL.bls_inv h2]; rfl
theorem FzL.strs_inv : ∀ {ns : List Str} {vs : List V}, FzL K G vs (ns.map D.str) → vs = ns.map V.str
  | [], _, h => by cases h; rfl
  | n :: ns, _, h => by
    cases h with
    | cons h1 h2 => cases h1; rw [FzL.strs_inv h2]; rfl
/-- a new list has come to p -/
theorem KQ.newL {p : Addr} {vs : List V} {ds : List D} {fresh : Bool} (k : KQ K G r H Qd Q) (S : SR K G r H M) (hp : H p = none) (t : FzL K G vs ds) (w : mkL fresh ds M Qd) : Q (.ref p) (upd H p (.lst vs)) := by
  unfold mkL at w
  cases fresh with
  | true =>
    rw [if_pos rfl] at w
    refine k _ _ w G (r ++ [p]) _ _ (Ext.push hp) (PX.app _ _) (S.push hp ⟨vs, upd_same, t⟩) (.ref ?_)
    rw [← S.len]; simp
  | false =>
    rw [if_neg (by decide)] at w
    have g : GE G (upd G p (.lst vs)) := GE.upd (S.new_G hp)
    exact k _ _ w (upd G p (.lst vs)) r _ _ (Ext.laid S hp) (PX.refl _) (S.laid hp) (.fz (.lst upd_same (t.mono g)))
theorem KQ.newT {p : Addr} {vs : List V} {ds : List D} (k : KQ K G r H Qd Q) (S : SR K G r H M) (hp : H p = none) (t : FzL K G vs ds) (w : Qd (.tup ds) M) : Q (.ref p) (upd H p (.tup vs)) := by
  have g : GE G (upd G p (.tup vs)) := GE.upd (S.new_G hp)
  exact k _ _ w (upd G p (.tup vs)) r _ _ (Ext.laid S hp) (PX.refl _) (S.laid hp) (.fz (.tup upd_same (t.mono g)))
theorem KQ.int {i : Int} (k : KQ K G r H Qd Q) (S : SR K G r H M) (w : Qd (.int i) M) : Q (.int i) H := k.now w S (.fz (.int i))
theorem KQ.bl {i : Bool} (k : KQ K G r H Qd Q) (S : SR K G r H M) (w : Qd (.bl i) M) : Q (.bl i) H := k.now w S (.fz (.bl i))
theorem KQ.str {i : Str} (k : KQ K G r H Qd Q) (S : SR K G r H M) (w : Qd (.str i) M) : Q (.str i) H := k.now w S (.fz (.str i))
mutual
theorem Fz.dp (S : SR K G r H M) : ∀ {d : D} {x : V} {p : PyData}, Fz K G x d → pd d = some p → Dp K H x p
  | .non, _, _, h, e => by cases h; cases e; exact .non
  | .bl b, _, _, h, e => by cases h; cases e; exact .bl b
  | .int i, _, _, h, e => by cases h; cases e; exact .int i
  | .str x, _, _, h, e => by cases h; cases e; exact .str x
  | .tup ds, _, p, h, e => by
    cases h with
    | tup hg t =>
      unfold pd at e
      split at e
      · rename_i ps q
        cases e
        exact .tup (SqT.of (S.readT hg)) (FzL.dp S t q)
      · cases e
  | .lst ds, _, p, h, e => by
    cases h with
    | lst hg t =>
      unfold pd at e
      split at e
      · rename_i ps q
        cases e
        exact .lst (SqL.of (S.readL hg)) (FzL.dp S t q)
      · cases e
  | .dct _, _, _, _, e => by cases e
  | .obj _ _, _, _, _, e => by cases e
  | .ref _, _, _, _, e => by cases e
  | .glo _, _, _, _, e => by cases e
  | .ty _, _, _, _, e => by cases e
  | .scr _, _, _, _, e => by cases e
theorem FzL.dp (S : SR K G r H M) : ∀ {ds : List D} {xs : List V} {ps : List PyData}, FzL K G xs ds → pdL ds = some ps → DpAll K H xs ps
  | [], _, _, h, e => by cases h; cases e; exact .nil
  | d :: ds, _, _, h, e => by
    cases h with
    | cons h1 h2 =>
      unfold pdL at e
      split at e
      · rename_i p ps q1 q2
        cases e
        exact .cons (Fz.dp S h1 q1) (FzL.dp S h2 q2)
      · cases e
end
theorem Rp.dpM (S : SR K G r H M) {p : PyData} (h : Rp K G r x d) (e : pdM M d = some p) : Dp K H x p := by
  unfold pdM at e
  split at e
  · rename_i ds q
    split at e
    · rename_i ps q2
      cases e
      obtain ⟨a, vs, rfl, h1, h2⟩ := S.list h q
      exact .lst (SqL.of h1) (FzL.dp S h2 q2)
    · cases e
  · cases h with
    | fz h => exact Fz.dp S h e
    | ref _ => cases e
end

/-! ### operators -/
abbrev OD := D → D → MC → QD → Prop
def rOpD (K : PySem.W.Frag) (w : OD) : R2 := fun x y H Q => ∃ G r M dx dy Qd, SR K G r H M ∧ Rp K G r x dx ∧ Rp K G r y dy ∧ w dx dy M Qd ∧ KQ K G r H Qd Q
def wAdd (fresh : Bool) : OD := fun x y M Q => match x, y with
  | .int i, .int j => Q (.int (i + j)) M
  | .str a, .str b => a.length + b.length ≤ sizeLine ∧ Q (.str (a ++ b)) M
  | .tup a, .tup b => a.length + b.length ≤ sizeLine ∧ Q (.tup (a ++ b)) M
  | x, y => match seqL M x, seqL M y with
    | some a, some b => a.length + b.length ≤ sizeLine ∧ mkL fresh (a ++ b) M Q
    | _, _ => False
def wSub : OD := fun x y M Q => match x, y with
  | .int i, .int j => Q (.int (i - j)) M
  | _, _ => False
def wMul (fresh : Bool) : OD := fun x y M Q => match x, y with
  | .int i, .int j => PySem.IntMulOk i j ∧ Q (.int (i * j)) M
  | x, .int k => match seqL M x with
    | some a => (-(2 ^ 63) ≤ k ∧ k < 2 ^ 63 ∧ a.length * k.toNat ≤ sizeLine) ∧ mkL fresh (List.replicate k.toNat a).flatten M Q
    | none => False
  | _, _ => False
def wFDiv : OD := fun x y M Q => match x, y with
  | .int i, .int j => CDivW i j ∧ Q (.int (i / j)) M
  | _, _ => False
def wMod : OD := fun x y M Q => match x, y with
  | .int i, .int j => 0 < j ∧ Q (.int (i % j)) M
  | _, _ => False
def wPow : OD := fun x y M Q => match x, y with
  | .int i, .int j => CPow i j ∧ Q (.int (i ^ j.toNat)) M
  | _, _ => False
def dBin (w : OD) (ta tb : TD) : TD := fun W sd M Q => ta W sd M fun x M1 => tb W sd M1 fun y M2 => w x y M2 Q
section
variable {X : Cx} {a b : Expr} {op : Operator} {pos : Pos} {ta tb : TD} {w : OD} {Wx : WX}
theorem d_bin (ho : OpR X (binaryOp op) (rOpD X.K w)) (ha : PE X a (LiftE X.K Wx ta)) (hb : PE X b (LiftE X.K Wx tb)) : PE X (.BinOp a op b pos) (LiftE X.K Wx (dBin w ta tb)) := by
  refine PE_imp (pe_op ho ha hb) fun σ H Q ⟨G, r, sd, M, Wd, Qd, S, L, lw, t, k⟩ => ?_
  refine ⟨G, r, sd, M, Wd, _, S, L, lw, t, fun x M1 t1 G1 r1 H1 v x1 p1 S1 rx => ?_⟩
  refine ⟨G1, r1, sd, M1, Wd, _, S1, L.mono x1.ge p1, lw.ext x1 p1, t1, fun y M2 t2 G2 r2 H2 u x2 p2 S2 ry => ?_⟩
  exact ⟨G2, r2, M2, x, y, Qd, S2, rx.mono x2.ge p2, ry, t2, k.ext (x1.trans x2) (p1.trans p2)⟩
theorem opd_add (fresh : Bool) : OpR X (binaryOp .Add) (rOpD X.K (wAdd fresh)) := by
  rintro pins s σ H x y v u Q I rx ry ⟨G, r, M, dx, dy, Qd, S, hx, hy, t, k⟩
  unfold wAdd at t
  split at t
  · obtain rfl := hx.int_inv; obtain rfl := hy.int_inv
    exact op_add pins s σ H _ _ v u Q I rx ry ⟨_, _, rfl, rfl, k.int S t⟩
  · obtain rfl := hx.str_inv; obtain rfl := hy.str_inv
    exact op_add_str pins s σ H _ _ v u Q I rx ry ⟨_, _, rfl, rfl, t.1, k.str S t.2⟩
  · rename_i a b
    obtain ⟨p, vs, rfl, h1, t1⟩ := S.tuple hx rfl
    obtain ⟨q, ws, rfl, h2, t2⟩ := S.tuple hy rfl
    refine op_catA pins s σ H _ _ v u Q I rx ry ⟨p, q, vs, ws, rfl, rfl, SqT.of h1, SqT.of h2, by rw [t1.length, t2.length]; exact t.1, fun e => ?_, fun e1 e2 => ?_, fun _ _ z hz => k.newT S hz (t1.append t2) t.2⟩
    · have e' : a = [] := List.eq_nil_of_length_eq_zero (by rw [← t1.length, e]; rfl)
      subst e'
      exact k.now t.2 S hy
    · have e' : b = [] := List.eq_nil_of_length_eq_zero (by rw [← t2.length, e2]; rfl)
      subst e'
      rw [List.append_nil] at t
      exact k.now t.2 S hx
  · split at t
    · rename_i a b e1 e2
      obtain ⟨p, vs, rfl, h1, t1⟩ := S.list hx e1
      obtain ⟨q, ws, rfl, h2, t2⟩ := S.list hy e2
      exact op_cat pins s σ H _ _ v u Q I rx ry ⟨p, q, vs, ws, rfl, rfl, h1, h2, by rw [t1.length, t2.length]; exact t.1, fun z hz => k.newL S hz (t1.append t2) t.2⟩
    · exact t.elim
theorem opd_sub : OpR X (binaryOp .Sub) (rOpD X.K wSub) := by
  rintro pins s σ H x y v u Q I rx ry ⟨G, r, M, dx, dy, Qd, S, hx, hy, t, k⟩
  unfold wSub at t
  split at t
  · obtain rfl := hx.int_inv; obtain rfl := hy.int_inv
    exact op_sub pins s σ H _ _ v u Q I rx ry ⟨_, _, rfl, rfl, k.int S t⟩
  · exact t.elim
theorem opd_mul (fresh : Bool) : OpR X (binaryOp .Mult) (rOpD X.K (wMul fresh)) := by
  rintro pins s σ H x y v u Q I rx ry ⟨G, r, M, dx, dy, Qd, S, hx, hy, t, k⟩
  unfold wMul at t
  split at t
  · rename_i i j
    obtain rfl := hx.int_inv; obtain rfl := hy.int_inv
    obtain ⟨t1, rfl⟩ := rx
    obtain ⟨t2, rfl⟩ := ry
    exact PyProof.Rows.mul_int ⟨.int _, H, I.tok _, ⟨_, rfl⟩, k.int S t.2⟩ t.1
  · split at t
    · rename_i a e1
      obtain rfl := hy.int_inv
      obtain ⟨p, vs, rfl, h1, t1⟩ := S.list hx e1
      exact op_rep pins s σ H _ _ v u Q I rx ry ⟨p, _, vs, rfl, rfl, h1, t.1.1, t.1.2.1, by rw [t1.length]; exact t.1.2.2, fun z hz => k.newL S hz (t1.replicate _) t.2⟩
    · exact t.elim
  · exact t.elim
theorem opd_fdiv : OpR X (binaryOp .FloorDiv) (rOpD X.K wFDiv) := by
  rintro pins s σ H x y v u Q I rx ry ⟨G, r, M, dx, dy, Qd, S, hx, hy, t, k⟩
  unfold wFDiv at t
  split at t
  · obtain rfl := hx.int_inv; obtain rfl := hy.int_inv
    exact op_fdivW pins s σ H _ _ v u Q I rx ry ⟨_, _, rfl, rfl, t.1, k.int S t.2⟩
  · exact t.elim
theorem opd_mod : OpR X (binaryOp .Mod) (rOpD X.K wMod) := by
  rintro pins s σ H x y v u Q I rx ry ⟨G, r, M, dx, dy, Qd, S, hx, hy, t, k⟩
  unfold wMod at t
  split at t
  · obtain rfl := hx.int_inv; obtain rfl := hy.int_inv
    exact op_mod pins s σ H _ _ v u Q I rx ry ⟨_, _, rfl, rfl, t.1, k.int S t.2⟩
  · exact t.elim
theorem opd_pow : OpR X (binaryOp .Pow) (rOpD X.K wPow) := by
  rintro pins s σ H x y v u Q I rx ry ⟨G, r, M, dx, dy, Qd, S, hx, hy, t, k⟩
  unfold wPow at t
  split at t
  · obtain rfl := hx.int_inv; obtain rfl := hy.int_inv
    exact op_pow pins s σ H _ _ v u Q I rx ry ⟨_, _, rfl, rfl, t.1, k.int S t.2⟩
  · exact t.elim
end

/-! ### comparisons -/
/-- a flat thing as a value -/
def flV : D → Option V
  | .non => some .non
  | .bl b => some (.bl b)
  | .int i => some (.int i)
  | .str x => some (.str x)
  | _ => none
def scalD (x y : D) : Option Bool := match flV x, flV y with
  | some u, some v => if scal u v = true then some (decide (u = v)) else none
  | _, _ => none
def xb (neg b : Bool) : Bool := if neg = true then !b else b
def wEq (neg : Bool) : OD := fun x y M Q => match scalD x y with
  | some b => Q (.bl (xb neg b)) M
  | none => match pdM M x, pdM M y with
    | some p, some q => (SeqAt.shaped p = true ∧ SeqAt.shaped q = true) ∧ Q (.bl (xb neg (PyData.eqv p q))) M
    | _, _ => False
def wOrd (f : Int → Int → Bool) (g : Str → Str → Bool) : OD := fun x y M Q => match x, y with
  | .int i, .int j => Q (.bl (f i j)) M
  | .str i, .str j => Q (.bl (g i j)) M
  | _, _ => False
def wLt : OD := wOrd (fun i j => decide (i < j)) (fun i j => decide (i.cps.toList < j.cps.toList))
def wLe : OD := wOrd (fun i j => decide (i ≤ j)) (fun i j => !decide (j.cps.toList < i.cps.toList))
def wGt : OD := wOrd (fun i j => decide (j < i)) (fun i j => decide (j.cps.toList < i.cps.toList))
def wGe : OD := wOrd (fun i j => decide (j ≤ i)) (fun i j => !decide (i.cps.toList < j.cps.toList))
def isNonD : D → Bool
  | .non => true
  | _ => false
def wIs (neg : Bool) : OD := fun x y M Q => match y with
  | .non => Q (.bl (xb neg (isNonD x))) M
  | _ => False
/-- == of flat things -/
def flatD (d : D) : Bool := (flV d).isSome
def eqFl (x y : D) : Bool := match flV x, flV y with
  | some u, some v => eqV u v
  | _, _ => false
def seqA (M : MC) (d : D) : Option (List D) := match seqL M d with
  | some ds => some ds
  | none => seqT d
def dctM (M : MC) : D → Option (List (D × D))
  | .dct kvs => some kvs
  | .ref k => match M[k]? with
    | some (.dct kvs) => some kvs
    | some (.frz (.dct kvs)) => some kvs
    | _ => none
  | _ => none
def wIn (neg : Bool) : OD := fun x y M Q => match seqA M y with
  | some ds => if (flatD x && ds.all flatD) = true then Q (.bl (xb neg (ds.any fun z => eqFl z x))) M
    else match pdM M x, seqL M y, pdM M y with
      | some p, some _, some (.list ps) => (SeqAt.shaped p = true ∧ SeqAt.shaped (.list ps) = true) ∧ Q (.bl (xb neg (ps.any fun z => PyData.eqv z p))) M
      | _, _, _ => False
  | none => match x, y with
    | .str a, .str b => match a.cps.toList with
      | [c] => Q (.bl (xb neg (decide (c ∈ b.cps.toList)))) M
      | _ => Q (.bl (xb neg (!(Builtin.Str.occurrences b a 0 b.length 1).isEmpty))) M
    | _, _ => False
section
variable {K : PySem.W.Frag} {G : Hp} {r : List Addr} {H : Hp} {M : MC} {x y : V} {d e : D}
theorem Rp.flv (h : Rp K G r x d) {v : V} (e : flV d = some v) : x = v ∧ flatV x = true := by
  cases h with
  | fz h => cases h <;> cases e <;> exact ⟨rfl, rfl⟩
  | ref _ => cases e
theorem Rp.flat (h : Rp K G r x d) (e : flatD d = true) : flatV x = true := by
  unfold flatD at e
  cases q : flV d with
  | none => rw [q] at e; cases e
  | some v => exact (h.flv q).2
theorem Rp.eqfl (h : Rp K G r x d) (h' : Rp K G r y e) (e1 : flatD d = true) (e2 : flatD e = true) : eqV x y = eqFl d e := by
  unfold flatD at e1 e2
  unfold eqFl
  cases q : flV d with
  | none => rw [q] at e1; cases e1
  | some v =>
    cases q2 : flV e with
    | none => rw [q2] at e2; cases e2
    | some w => rw [(h.flv q).1, (h'.flv q2).1]
theorem FzL.flat : ∀ {ds : List D} {xs : List V}, FzL K G xs ds → ds.all flatD = true → xs.all flatV = true
  | _, _, .nil, _ => rfl
  | _, _, .cons h t, e => by
    rw [List.all_cons, Bool.and_eq_true] at e
    rw [List.all_cons, Rp.flat (r := []) (.fz h) e.1, FzL.flat t e.2]; rfl
theorem FzL.anyfl (hx : Rp K G r x d) (fd : flatD d = true) : ∀ {ds : List D} {xs : List V}, FzL K G xs ds → ds.all flatD = true → (xs.any fun y => eqV y x) = ds.any fun z => eqFl z d
  | _, _, .nil, _ => rfl
  | _, _, .cons h t, e => by
    rw [List.all_cons, Bool.and_eq_true] at e
    rw [List.any_cons, List.any_cons, Rp.eqfl (.fz h) hx e.1 fd, FzL.anyfl hx fd t e.2]
end
section
variable {X : Cx} {a b : Expr} {op : CmpOp} {pos : Pos} {ta tb : TD} {w : OD} {Wx : WX}
theorem scal_ok {K : PySem.W.Frag} {G : Hp} {r : List Addr} {dx dy : D} {x y : V} {c : Bool} (e : scalD dx dy = some c) (hx : Rp K G r x dx) (hy : Rp K G r y dy) : scal x y = true ∧ decide (x = y) = c := by
  unfold scalD at e
  split at e
  · rename_i u v e1 e2
    split at e
    · rename_i h
      cases e
      rw [(hx.flv e1).1, (hy.flv e2).1]
      exact ⟨h, rfl⟩
    · cases e
  · cases e
theorem opd_eq (hu : X.A.units + 64 < cLine) : OpR X (compareOp .Eq) (rOpD X.K (wEq false)) := by
  rintro pins s σ H x y v u Q I rx ry ⟨G, r, M, dx, dy, Qd, S, hx, hy, t, k⟩
  unfold wEq at t
  split at t
  · rename_i c e
    obtain ⟨h1, h2⟩ := scal_ok e hx hy
    exact op_eq pins s σ H _ _ v u Q I rx ry ⟨h1, by rw [h2]; exact k.bl S t⟩
  · split at t
    · rename_i p q e1 e2
      exact op_eqD hu pins s σ H _ _ v u Q I rx ry ⟨p, q, hx.dpM S e1, hy.dpM S e2, t.1.1, t.1.2, k.bl S t.2⟩
    · exact t.elim
theorem opd_ne (hu : X.A.units + 64 < cLine) : OpR X (compareOp .NotEq) (rOpD X.K (wEq true)) := by
  rintro pins s σ H x y v u Q I rx ry ⟨G, r, M, dx, dy, Qd, S, hx, hy, t, k⟩
  unfold wEq at t
  split at t
  · rename_i c e
    obtain ⟨h1, h2⟩ := scal_ok e hx hy
    exact op_ne pins s σ H _ _ v u Q I rx ry ⟨h1, by rw [h2]; exact k.bl S t⟩
  · split at t
    · rename_i p q e1 e2
      exact op_neD hu pins s σ H _ _ v u Q I rx ry ⟨p, q, hx.dpM S e1, hy.dpM S e2, t.1.1, t.1.2, k.bl S t.2⟩
    · exact t.elim
theorem opd_lt : OpR X (compareOp .Lt) (rOpD X.K wLt) := by
  rintro pins s σ H x y v u Q I rx ry ⟨G, r, M, dx, dy, Qd, S, hx, hy, t, k⟩
  unfold wLt wOrd at t
  split at t
  · obtain rfl := hx.int_inv; obtain rfl := hy.int_inv
    exact op_lt pins s σ H _ _ v u Q I rx ry ⟨_, _, rfl, rfl, k.bl S t⟩
  · obtain rfl := hx.str_inv; obtain rfl := hy.str_inv
    exact op_lt_str pins s σ H _ _ v u Q I rx ry ⟨_, _, rfl, rfl, k.bl S t⟩
  · exact t.elim
theorem opd_le : OpR X (compareOp .LtE) (rOpD X.K wLe) := by
  rintro pins s σ H x y v u Q I rx ry ⟨G, r, M, dx, dy, Qd, S, hx, hy, t, k⟩
  unfold wLe wOrd at t
  split at t
  · obtain rfl := hx.int_inv; obtain rfl := hy.int_inv
    exact op_le pins s σ H _ _ v u Q I rx ry ⟨_, _, rfl, rfl, k.bl S t⟩
  · obtain rfl := hx.str_inv; obtain rfl := hy.str_inv
    exact op_le_str pins s σ H _ _ v u Q I rx ry ⟨_, _, rfl, rfl, k.bl S t⟩
  · exact t.elim
theorem opd_gt : OpR X (compareOp .Gt) (rOpD X.K wGt) := by
  rintro pins s σ H x y v u Q I rx ry ⟨G, r, M, dx, dy, Qd, S, hx, hy, t, k⟩
  unfold wGt wOrd at t
  split at t
  · obtain rfl := hx.int_inv; obtain rfl := hy.int_inv
    exact op_gt pins s σ H _ _ v u Q I rx ry ⟨_, _, rfl, rfl, k.bl S t⟩
  · obtain rfl := hx.str_inv; obtain rfl := hy.str_inv
    exact op_gt_str pins s σ H _ _ v u Q I rx ry ⟨_, _, rfl, rfl, k.bl S t⟩
  · exact t.elim
theorem opd_ge : OpR X (compareOp .GtE) (rOpD X.K wGe) := by
  rintro pins s σ H x y v u Q I rx ry ⟨G, r, M, dx, dy, Qd, S, hx, hy, t, k⟩
  unfold wGe wOrd at t
  split at t
  · obtain rfl := hx.int_inv; obtain rfl := hy.int_inv
    exact op_ge pins s σ H _ _ v u Q I rx ry ⟨_, _, rfl, rfl, k.bl S t⟩
  · obtain rfl := hx.str_inv; obtain rfl := hy.str_inv
    exact op_ge_str pins s σ H _ _ v u Q I rx ry ⟨_, _, rfl, rfl, k.bl S t⟩
  · exact t.elim
theorem Rp.isNon {K : PySem.W.Frag} {G : Hp} {r : List Addr} {x : V} {d : D} (h : Rp K G r x d) : decide (x = V.non) = isNonD d := by
  cases h with
  | fz h => cases h <;> simp [isNonD]
  | ref _ => simp [isNonD]
theorem opd_is : OpR X (compareOp .Is) (rOpD X.K (wIs false)) := by
  rintro pins s σ H x y v u Q I rx ry ⟨G, r, M, dx, dy, Qd, S, hx, hy, t, k⟩
  unfold wIs at t
  split at t
  · obtain rfl := hy.non_inv
    exact op_isN pins s σ H _ _ v u Q I rx ry ⟨rfl, by rw [hx.isNon]; exact k.bl S t⟩
  · exact t.elim
theorem opd_isnot : OpR X (compareOp .IsNot) (rOpD X.K (wIs true)) := by
  rintro pins s σ H x y v u Q I rx ry ⟨G, r, M, dx, dy, Qd, S, hx, hy, t, k⟩
  unfold wIs at t
  split at t
  · obtain rfl := hy.non_inv
    exact op_notN pins s σ H _ _ v u Q I rx ry ⟨rfl, by rw [hx.isNon]; exact k.bl S t⟩
  · exact t.elim
theorem Rp.refD {K : PySem.W.Frag} {G : Hp} {r : List Addr} {H : Hp} {M : MC} {y : V} {dy : D} {ds : List D} (S : SR K G r H M) (hy : Rp K G r y dy) (e : seqA M dy = some ds) : ∃ a vs, y = .ref a ∧ (SqL K H a vs ∨ SqT K H a vs) ∧ FzL K G vs ds := by
  unfold seqA at e
  split at e
  · rename_i ds' e1
    cases e
    obtain ⟨a, vs, h1, h2, h3⟩ := S.list hy e1
    exact ⟨a, vs, h1, .inl (SqL.of h2), h3⟩
  · obtain ⟨a, vs, h1, h2, h3⟩ := S.tuple hy e
    exact ⟨a, vs, h1, .inr (SqT.of h2), h3⟩
theorem str_one {a : Str} {c : Nat} (e : a.cps.toList = [c]) : a = ⟨#[c]⟩ := by
  obtain ⟨⟨l⟩⟩ := a
  simp only at e
  rw [e]
theorem opd_in (hu : X.A.units + 65 < cLine) : OpR X (compareOp .In) (rOpD X.K (wIn false)) := by
  rintro pins s σ H x y v u Q I rx ry ⟨G, r, M, dx, dy, Qd, S, hx, hy, t, k⟩
  unfold wIn at t
  split at t
  · rename_i ds e1
    split at t
    · rename_i fl
      rw [Bool.and_eq_true] at fl
      obtain ⟨a, vs, rfl, h2, h3⟩ := Rp.refD S hy e1
      refine op_in_seq pins s σ H _ _ v u Q I rx ry ⟨a, vs, rfl, h2, hx.flat fl.1, h3.flat fl.2, ?_⟩
      rw [if_neg (by decide), inV, FzL.anyfl hx fl.1 h3 fl.2]
      exact k.bl S t
    · split at t
      · rename_i p e2 ps q1 q2 q3
        exact op_inD hu pins s σ H _ _ v u Q I rx ry ⟨p, ps, hx.dpM S q1, hy.dpM S q3, t.1.1, t.1.2, k.bl S t.2⟩
      · exact t.elim
  · split at t
    · obtain rfl := hx.str_inv; obtain rfl := hy.str_inv
      split at t
      · rename_i c e
        exact op_in_sign pins s σ H _ _ v u Q I rx ry ⟨c, _, by rw [str_one e], rfl, k.bl S t⟩
      · exact op_in_str pins s σ H _ _ v u Q I rx ry ⟨_, _, rfl, rfl, k.bl S t⟩
    · exact t.elim
theorem opd_notin (hu : X.A.units + 65 < cLine) : OpR X (compareOp .NotIn) (rOpD X.K (wIn true)) := by
  rintro pins s σ H x y v u Q I rx ry ⟨G, r, M, dx, dy, Qd, S, hx, hy, t, k⟩
  unfold wIn at t
  split at t
  · rename_i ds e1
    split at t
    · rename_i fl
      rw [Bool.and_eq_true] at fl
      obtain ⟨a, vs, rfl, h2, h3⟩ := Rp.refD S hy e1
      refine op_notIn_seq pins s σ H _ _ v u Q I rx ry ⟨a, vs, rfl, h2, hx.flat fl.1, h3.flat fl.2, ?_⟩
      rw [if_pos rfl, inV, FzL.anyfl hx fl.1 h3 fl.2]
      exact k.bl S t
    · split at t
      · rename_i p e2 ps q1 q2 q3
        exact op_notInD hu pins s σ H _ _ v u Q I rx ry ⟨p, ps, hx.dpM S q1, hy.dpM S q3, t.1.1, t.1.2, k.bl S t.2⟩
      · exact t.elim
  · split at t
    · obtain rfl := hx.str_inv; obtain rfl := hy.str_inv
      split at t
      · rename_i c e
        exact op_notIn_sign pins s σ H _ _ v u Q I rx ry ⟨c, _, by rw [str_one e], rfl, k.bl S t⟩
      · exact op_notin_str pins s σ H _ _ v u Q I rx ry ⟨_, _, rfl, rfl, k.bl S t⟩
    · exact t.elim
end
end DL
set_option Elab.async false
set_option linter.all false
set_option maxRecDepth 100000
set_option maxHeartbeats 4000000
namespace DL
open PySem PySem.Spec L2

/-! ### promises in words of data -/
abbrev DSp := List D → MC → QD → (Exc → MC → Prop) → Prop
section
variable (K : PySem.W.Frag)
def KE (G : Hp) (r : List Addr) (H : Hp) (Ed : Exc → MC → Prop) (E : XK) : Prop := ∀ e M', Ed e M' → ∀ G' r' H' cls d, Ext G r H G' r' H' → PX r r' → SR K G' r' H' M' → ExcR K G' r' H' cls d e → E cls d H'
def LiftSp (sp : DSp) : Sp := fun vs H Q E => ∃ G r M ds Qd Ed, SR K G r H M ∧ RpL K G r vs ds ∧ sp ds M Qd Ed ∧ KQ K G r H Qd Q ∧ KE K G r H Ed E
end
/-- a def (or a method) keeps the promise sp, wherever no repr is under way -/
structure FnD (P : Program) (w : World) (K : PySem.W.Frag) (mg : Str → Option Value) (base : Heap) (k : Nat) (f : Addr) (fd : FuncData) (ps : List Str) (sp : DSp) : Prop where
  len : ∀ ds M Q E, sp ds M Q E → ds.length = ps.length
  run : ∀ (A : Around) (outer : List Env) (s : Shared) (H : Hp) (args : Args) (us : List Value) (vs : List V) (Q : VK) (E : XK), Room k A → A.guards = some [] → Env0 P w K mg base A outer s H → BindsTo s fd args (ps.zip us) → Vals vs us → LiftSp K sp vs H Q E →
    codeAny (model P w) A (.call (.ref f) args) (CR (L2.CX P w) outer P w H s Q E) s

/-! ### the cells that a callee sees -/
def nrT (n : Nat) : D → Bool
  | .ref k => decide (k < n)
  | _ => true
def nrC (n : Nat) : Cell → Bool
  | .ins _ fs => fs.all fun p => nrT n p.2
  | _ => true
def shiftD (n L : Nat) : D → D
  | .ref k => if k < n then .ref k else .ref (k - n + L)
  | d => d
def callOut (n : Nat) (M : MC) (Q : QD) : QD := fun d M1 => (n ≤ M1.length ∧ M1.all (nrC n) = true) ∧ Q (shiftD n M.length d) (M1.take n ++ (M.drop n ++ M1.drop n))
def callX (n : Nat) (M : MC) (E : Exc → MC → Prop) : Exc → MC → Prop := fun e M1 => (n ≤ M1.length ∧ M1.all (nrC n) = true ∧ e.fs.all (fun p => nrT n p.2) = true) ∧ E e (M1.take n ++ (M.drop n ++ M1.drop n))
def callD (n : Nat) (sp : DSp) (ds : List D) (M : MC) (Q : QD) (E : Exc → MC → Prop) : Prop :=
  (n ≤ M.length ∧ (M.take n).all (nrC n) = true ∧ ds.all (nrT n) = true) ∧ sp ds (M.take n) (callOut n M Q) (callX n M E)
section
variable {K : PySem.W.Frag} {G G' : Hp} {r r1 : List Addr} {H H' : Hp} {M M1 : MC} {n : Nat}
/-- what does not lean on the cells from n on -/
theorem Rp.low {r r' : List Addr} (hr : ∀ (k : Nat) (a : Addr), k < n → r[k]? = some a → r'[k]? = some a) {v : V} {d : D} (h : Rp K G r v d) (e : nrT n d = true) : Rp K G r' v d := by
  cases h with
  | fz h => exact .fz h
  | ref hk => exact .ref (hr _ _ (of_decide_eq_true e) hk)
theorem RpL.low {r r' : List Addr} (hr : ∀ (k : Nat) (a : Addr), k < n → r[k]? = some a → r'[k]? = some a) : ∀ {vs : List V} {ds : List D}, RpL K G r vs ds → ds.all (nrT n) = true → RpL K G r' vs ds
  | _, _, .nil, _ => .nil
  | _, _, .cons h t, e => by
    rw [List.all_cons, Bool.and_eq_true] at e
    exact .cons (h.low hr e.1) (RpL.low hr t e.2)
theorem RpF.low {r r' : List Addr} (hr : ∀ (k : Nat) (a : Addr), k < n → r[k]? = some a → r'[k]? = some a) : ∀ {vs : List (Str × V)} {ds : List (Str × D)}, RpF K G r vs ds → ds.all (fun p => nrT n p.2) = true → RpF K G r' vs ds
  | _, _, .nil, _ => .nil
  | _, _, .cons h t, e => by
    rw [List.all_cons, Bool.and_eq_true] at e
    exact .cons (h.low hr e.1) (RpF.low hr t e.2)
theorem CellOk.low {r r' : List Addr} (hr : ∀ (k : Nat) (a : Addr), k < n → r[k]? = some a → r'[k]? = some a) {a : Addr} : ∀ {c : Cell}, CellOk K G r H a c → nrC n c = true → CellOk K G r' H a c
  | .lst ds, h, _ => h
  | .dct kvs, h, _ => h
  | .ins C fs, ⟨dx, vs, h, t⟩, e => ⟨dx, vs, h, t.low hr e⟩
  | .frz d, h, _ => h
  | .bag, h, _ => h
theorem SR.take (S : SR K G r H M) (hn : n ≤ M.length) (hc : (M.take n).all (nrC n) = true) : SR K G (r.take n) H (M.take n) := by
  have at_ : ∀ {k : Nat} {a : Addr}, (r.take n)[k]? = some a → k < n ∧ r[k]? = some a := fun {k a} h => by
    have h1 := (List.getElem?_eq_some_iff.mp h).1
    rw [List.length_take] at h1
    rw [List.getElem?_take_of_lt (by omega)] at h
    exact ⟨by omega, h⟩
  refine ⟨S.sub, by rw [List.length_take, List.length_take, S.len], S.nd.sublist (List.take_sublist _ _), fun k a c h h' => ?_, fun k a c h h' hf => ?_⟩
  · obtain ⟨h1, h2⟩ := at_ h
    have hm := List.all_eq_true.mp hc c (List.mem_of_getElem? h')
    rw [List.getElem?_take_of_lt h1] at h'
    exact (S.cell k a c h2 h').low (fun j b hj e => by rw [List.getElem?_take_of_lt hj]; exact e) hm
  · obtain ⟨h1, h2⟩ := at_ h
    rw [List.getElem?_take_of_lt h1] at h'
    exact S.off k a c h2 h' hf
/-- behind a callee -/
theorem SR.back (S : SR K G r H M) (hn : n ≤ M.length) (x : Ext G (r.take n) H G' r1 H') (p : PX (r.take n) r1) (S1 : SR K G' r1 H' M1) (hn1 : n ≤ M1.length) (hc : M1.all (nrC n) = true) :
    SR K G' (r ++ r1.drop n) H' (M1.take n ++ (M.drop n ++ M1.drop n)) ∧ Ext G r H G' (r ++ r1.drop n) H' := by
  have hrl : n ≤ r.length := by rw [S.len]; exact hn
  have h1l : n ≤ r1.length := by rw [S1.len]; exact hn1
  have low : ∀ (k : Nat) (a : Addr), k < n → r1[k]? = some a → r[k]? = some a := fun k a hk e => by
    have hkr : k < r.length := by omega
    have e1 : (r.take n)[k]? = some r[k] := by rw [List.getElem?_take_of_lt hk]; exact List.getElem?_eq_getElem hkr
    have e2 := p k _ e1
    rw [e] at e2
    cases e2
    exact List.getElem?_eq_getElem hkr
  have newr : ∀ a, a ∈ r1.drop n → H a = none := fun a ha => by
    obtain ⟨j, hj⟩ := List.getElem?_of_mem ha
    rw [List.getElem?_drop] at hj
    rcases x.cell a (List.mem_of_getElem? hj) with z | z
    · obtain ⟨i, hi⟩ := List.getElem?_of_mem z
      have hil : i < n := by
        have := (List.getElem?_eq_some_iff.mp hi).1
        rw [List.length_take] at this; omega
      have := nodup_at S1.nd (p i a hi) hj
      omega
    · exact z
  have oldr : ∀ a, a ∈ r → H a ≠ none := fun a ha z => by
    obtain ⟨o, e⟩ := S.some_ ha
    rw [z] at e; cases e
  have hrel : ∀ (k : Nat) (a : Addr), k < n → r1[k]? = some a → (r ++ r1.drop n)[k]? = some a := fun k a hk e => PX.app _ _ k a (low k a hk e)
  have lenM : (M1.take n ++ (M.drop n ++ M1.drop n)).length = (r ++ r1.drop n).length := by
    simp only [List.length_append, List.length_take, List.length_drop, S.len, S1.len]
    omega
  have cellcase : ∀ (k : Nat) (a : Addr) (c : Cell), (r ++ r1.drop n)[k]? = some a → (M1.take n ++ (M.drop n ++ M1.drop n))[k]? = some c →
      (∃ j, r1[j]? = some a ∧ M1[j]? = some c) ∨ (n ≤ k ∧ r[k]? = some a ∧ M[k]? = some c) := fun k a c h h' => by
    have lt : (M1.take n).length = n := by rw [List.length_take]; omega
    by_cases k1 : k < n
    · refine .inl ⟨k, ?_, ?_⟩
      · rw [List.getElem?_append_left (by omega)] at h
        have hkr : k < r.length := by omega
        have e1 : (r.take n)[k]? = some a := by rw [List.getElem?_take_of_lt k1]; exact h
        exact p k _ e1
      · rw [List.getElem?_append_left (by omega), List.getElem?_take_of_lt k1] at h'
        exact h'
    · rw [List.getElem?_append_right (by omega), lt] at h'
      by_cases k2 : k < M.length
      · refine .inr ⟨by omega, ?_, ?_⟩
        · rw [List.getElem?_append_left (by rw [S.len]; exact k2)] at h
          exact h
        · rw [List.getElem?_append_left (by rw [List.length_drop]; omega), List.getElem?_drop] at h'
          rw [show n + (k - n) = k by omega] at h'
          exact h'
      · refine .inl ⟨k - M.length + n, ?_, ?_⟩
        · rw [List.getElem?_append_right (by rw [S.len]; omega), List.getElem?_drop, S.len] at h
          rw [show n + (k - M.length) = k - M.length + n by omega] at h
          exact h
        · rw [List.getElem?_append_right (by rw [List.length_drop]; omega), List.length_drop, List.getElem?_drop] at h'
          rw [show n + (k - n - (M.length - n)) = k - M.length + n by omega] at h'
          exact h'
  have notlow : ∀ (k : Nat) (a : Addr), n ≤ k → r[k]? = some a → a ∉ r.take n := fun k a hk e m => by
    obtain ⟨i, hi⟩ := List.getElem?_of_mem m
    have hil : i < n := by
      have := (List.getElem?_eq_some_iff.mp hi).1
      rw [List.length_take] at this; omega
    rw [List.getElem?_take_of_lt hil] at hi
    have := nodup_at S.nd hi e
    omega
  refine ⟨⟨S1.sub, lenM.symm, ?_, fun k a c h h' => ?_, fun k a c h h' hf => ?_⟩, ⟨x.ge, fun a o e m => x.keep a o e fun z => m (List.mem_of_mem_take z), fun a m => ?_, fun a o e => ?_⟩⟩
  · refine List.nodup_append.mpr ⟨S.nd, S1.nd.sublist (List.drop_sublist _ _), fun a ha b hb => ?_⟩
    rintro rfl
    exact oldr a ha (newr a hb)
  · rcases cellcase k a c h h' with ⟨j, h1, h2⟩ | ⟨hk, h1, h2⟩
    · exact (S1.cell j a c h1 h2).low hrel (List.all_eq_true.mp hc c (List.mem_of_getElem? h2))
    · exact (S.cell k a c h1 h2).mono x.ge (PX.app _ _) fun o e => x.keep a o e (notlow k a hk h1)
  · rcases cellcase k a c h h' with ⟨j, h1, h2⟩ | ⟨hk, h1, h2⟩
    · exact S1.off j a c h1 h2 hf
    · cases e : G' a with
      | none => rfl
      | some o =>
        rcases x.froz a o e with z | z | z
        · rw [S.off k a c h1 h2 hf] at z; cases z
        · exact (oldr a (List.mem_of_getElem? h1) z).elim
        · exact (notlow k a hk h1 z).elim
  · rcases List.mem_append.mp m with m | m
    · exact .inl m
    · exact .inr (newr a m)
  · rcases x.froz a o e with z | z | z
    · exact .inl z
    · exact .inr (.inl z)
    · exact .inr (.inr (List.mem_of_mem_take z))
theorem Rp.shift (S : SR K G r H M) (hn : n ≤ M.length) (p : PX (r.take n) r1) (h1l : n ≤ r1.length) {v : V} {d : D} (h : Rp K G' r1 v d) : Rp K G' (r ++ r1.drop n) v (shiftD n M.length d) := by
  have hrl : n ≤ r.length := by rw [S.len]; exact hn
  cases h with
  | fz h =>
    refine .fz ?_
    cases h <;> first
      | exact .non | exact .bl _ | exact .int _ | exact .str _ | exact .glo _ | exact .ty _ | exact .scr ‹_›
      | exact .tup ‹_› ‹_› | exact .lst ‹_› ‹_› | exact .dct ‹_› ‹_› | exact .dctT ‹_› ‹_› | exact .obj ‹_› ‹_›
  | @ref k a hk =>
    show Rp K G' _ _ (if k < n then D.ref k else D.ref (k - n + M.length))
    by_cases k1 : k < n
    · rw [if_pos k1]
      refine .ref ?_
      have hkr : k < r.length := by omega
      have e1 : (r.take n)[k]? = some r[k] := by rw [List.getElem?_take_of_lt k1]; exact List.getElem?_eq_getElem hkr
      have e2 := p k _ e1
      rw [hk] at e2
      cases e2
      rw [List.getElem?_append_left hkr]
      exact List.getElem?_eq_getElem hkr
    · rw [if_neg k1]
      refine .ref ?_
      rw [List.getElem?_append_right (by rw [S.len]; omega), List.getElem?_drop, S.len]
      rw [show n + (k - n + M.length - M.length) = k by omega]
      exact hk
/-- the promise of a callee that sees the first n cells -/
theorem LiftSp.of {sp : DSp} {ds : List D} {vs : List V} {Qd : QD} {Q : VK} {Ed : Exc → MC → Prop} {E : XK} (S : SR K G r H M) (t : RpL K G r vs ds) (k : KQ K G r H Qd Q) (ke : KE K G r H Ed E) (c : callD n sp ds M Qd Ed) : LiftSp K sp vs H Q E := by
  obtain ⟨⟨h1, h2, h3⟩, c⟩ := c
  refine ⟨G, r.take n, M.take n, ds, _, _, S.take h1 h2, t.low (fun j b hj e => by rw [List.getElem?_take_of_lt hj]; exact e) h3, c, ?_, ?_⟩
  · intro d M1 ⟨⟨q1, q2⟩, q⟩ G' r1 H' v x p S1 hv
    obtain ⟨S2, x2⟩ := S.back h1 x p S1 q1 q2
    exact k _ _ q G' _ H' v x2 (PX.app _ _) S2 (hv.shift S h1 p (by rw [S1.len]; exact q1))
  · intro e M1 ⟨⟨q1, q2, q3⟩, q⟩ G' r1 H' cls d x p S1 he
    obtain ⟨S2, x2⟩ := S.back h1 x p S1 q1 q2
    refine ke _ _ q G' _ H' cls d x2 (PX.app _ _) S2 ⟨he.1, ?_⟩
    rcases he.2 with z | ⟨dd, xs, e1, e2, e3⟩
    · exact .inl z
    · refine .inr ⟨dd, xs, e1, e2, e3.low (fun j a hj e => ?_) q3⟩
      have hrl : n ≤ r.length := by rw [S.len]; exact h1
      have hjr : j < r.length := by omega
      have e1 : (r.take n)[j]? = some r[j] := by rw [List.getElem?_take_of_lt hj]; exact List.getElem?_eq_getElem hjr
      have e2 := p j _ e1
      rw [e] at e2
      cases e2
      rw [List.getElem?_append_left hjr]
      exact List.getElem?_eq_getElem hjr
end

/-! ### a body keeps the promise -/
def startD (N : List Str) (ds : List D) : SD := ds.map some ++ List.replicate (N.length - ds.length) none
/-- what a body hands back: its own cells are let go, but a cell that is handed back itself -/
def retOut (n : Nat) (d : D) (M : MC) : Option (D × MC) := match d with
  | .ref k => if k < n then some (.ref k, M.take n) else match M[k]? with
    | some c => some (.ref n, M.take n ++ [c])
    | none => none
  | d => some (d, M.take n)
def retD (n : Nat) (Q : QD) : QD := fun d M => (n ≤ M.length ∧ M.all (nrC n) = true) ∧ match retOut n d M with
  | some p => Q p.1 p.2
  | none => False
def raiD (n : Nat) (E : Exc → MC → Prop) : WD := fun e _ M => (n ≤ M.length ∧ M.all (nrC n) = true ∧ e.fs.all (fun p => nrT n p.2) = true) ∧ E e (M.take n)
section
variable {K : PySem.W.Frag} {G G' : Hp} {r r' : List Addr} {H H' : Hp} {M M' : MC} {n : Nat}
theorem SR.ret (S : SR K G r H M) (p : PX r r') (x : Ext G r H G' r' H') (S' : SR K G' r' H' M') (hn : n = M.length) (h1 : n ≤ M'.length) (h2 : M'.all (nrC n) = true) :
    SR K G' r H' (M'.take n) ∧ Ext G r H G' r H' := by
  subst hn
  have e : r'.take M.length = r := by
    apply List.ext_getElem?
    intro i
    by_cases hi : i < M.length
    · rw [List.getElem?_take_of_lt hi]
      have hr : i < r.length := by rw [S.len]; exact hi
      rw [List.getElem?_eq_getElem hr]
      exact p i _ (List.getElem?_eq_getElem hr)
    · rw [List.getElem?_eq_none (by rw [List.length_take]; omega), List.getElem?_eq_none (by rw [S.len]; omega)]
  have S2 := S'.take h1 (List.all_eq_true.mpr fun c hc => List.all_eq_true.mp h2 c (List.mem_of_mem_take hc))
  rw [e] at S2
  exact ⟨S2, ⟨x.ge, x.keep, fun a m => .inl m, x.froz⟩⟩
theorem SR.retC (S : SR K G r H M) (p : PX r r') (x : Ext G r H G' r' H') (S' : SR K G' r' H' M') (hn : n = M.length) (h1 : n ≤ M'.length) (h2 : M'.all (nrC n) = true) {k : Nat} {c : Cell} {a : Addr} (hk : n ≤ k) (ha : r'[k]? = some a) (hc : M'[k]? = some c) :
    SR K G' (r ++ [a]) H' (M'.take n ++ [c]) ∧ Ext G r H G' (r ++ [a]) H' := by
  obtain ⟨S2, x2⟩ := S.ret p x S' hn h1 h2
  have har : a ∉ r := fun m => by
    obtain ⟨i, hi⟩ := List.getElem?_of_mem m
    have := nodup_at S'.nd (p i a hi) ha
    have := (List.getElem?_eq_some_iff.mp hi).1
    rw [S.len] at this
    omega
  have hH : H a = none := by
    rcases x.cell a (List.mem_of_getElem? ha) with z | z
    · exact (har z).elim
    · exact z
  have hrl : r.length = n := by rw [S.len, hn]
  have hml : (M'.take n).length = n := by rw [List.length_take]; omega
  have low : ∀ (j : Nat) (b : Addr), j < n → r'[j]? = some b → (r ++ [a])[j]? = some b := fun j b hj e => by
    have hjr : j < r.length := by omega
    have e2 := p j _ (List.getElem?_eq_getElem hjr)
    rw [e] at e2
    cases e2
    rw [List.getElem?_append_left hjr]
    exact List.getElem?_eq_getElem hjr
  refine ⟨⟨S2.sub, by simp [S2.len], ?_, fun j b c' h h' => ?_, fun j b c' h h' hf => ?_⟩, ⟨x.ge, x.keep, fun b m => ?_, x.froz⟩⟩
  · refine List.nodup_append.mpr ⟨S.nd, by simp, fun b hb y hy => ?_⟩
    simp only [List.mem_singleton] at hy
    subst hy
    rintro rfl
    exact har hb
  · by_cases hj : j < n
    · rw [List.getElem?_append_left (by omega)] at h h'
      exact (S2.cell j b c' h h').mono (GE.refl _) (PX.app _ _) fun _ e => e
    · rw [List.getElem?_append_right (by omega)] at h h'
      have e0 : j = n := by
        have := (List.getElem?_eq_some_iff.mp h).1
        simp at this; omega
      subst e0
      simp [hrl] at h
      simp [hml] at h'
      subst h h'
      exact (S'.cell k a c ha hc).low low (List.all_eq_true.mp h2 c (List.mem_of_getElem? hc))
  · by_cases hj : j < n
    · rw [List.getElem?_append_left (by omega)] at h h'
      exact S2.off j b c' h h' hf
    · rw [List.getElem?_append_right (by omega)] at h h'
      have e0 : j = n := by
        have := (List.getElem?_eq_some_iff.mp h).1
        simp at this; omega
      subst e0
      simp [hrl] at h
      simp [hml] at h'
      subst h h'
      exact S'.off k a c ha hc hf
  · rcases List.mem_append.mp m with m | m
    · exact .inl m
    · simp only [List.mem_singleton] at m
      subst m; exact .inr hH
theorem KQ.ret {Qd : QD} {Q : VK} (S : SR K G r H M) (k : KQ K G r H Qd Q) : KQ K G r H (retD M.length Qd) Q := by
  intro d M' ⟨⟨h1, h2⟩, q⟩ G' r' H' v x p S' hv
  obtain ⟨S2, x2⟩ := S.ret p x S' rfl h1 h2
  cases hv with
  | fz h =>
    have e : retOut M.length d M' = some (d, M'.take M.length) := by cases h <;> rfl
    rw [e] at q
    exact k _ _ q G' r H' v x2 (PX.refl _) S2 (.fz h)
  | @ref j a hj =>
    unfold retOut at q
    dsimp only at q
    by_cases hl : j < M.length
    · rw [if_pos hl] at q
      refine k _ _ q G' r H' _ x2 (PX.refl _) S2 (.ref ?_)
      have hr : j < r.length := by rw [S.len]; exact hl
      have e2 := p j _ (List.getElem?_eq_getElem hr)
      rw [hj] at e2
      cases e2
      exact List.getElem?_eq_getElem hr
    · rw [if_neg hl] at q
      cases hc : M'[j]? with
      | none => rw [hc] at q; exact q.elim
      | some c =>
        rw [hc] at q
        obtain ⟨S3, x3⟩ := S.retC p x S' rfl h1 h2 (Nat.le_of_not_lt hl) hj hc
        refine k _ _ q G' _ H' _ x3 (PX.app _ _) S3 (.ref ?_)
        rw [← S.len]; simp
theorem start_rel {N : List Str} {vs : List V} {ds : List D} (t : RpL K G r vs ds) : SlR K G r (L2.start N vs) (startD N ds) := by
  have hl := t.length
  refine ⟨by unfold L2.start startD; simp [hl], fun i d e => ?_⟩
  unfold startD at e
  have hi : i < ds.length := by
    by_cases hi : i < ds.length
    · exact hi
    · rw [List.getElem?_append_right (by simpa using hi), List.getElem?_replicate] at e
      split at e <;> cases e
  rw [List.getElem?_append_left (by simpa using hi), List.getElem?_map] at e
  cases q : ds[i]? with
  | none => rw [q] at e; cases e
  | some d' =>
    rw [q] at e
    cases e
    obtain ⟨v, h1, h2⟩ := t.get q
    refine ⟨v, ?_, h2⟩
    unfold L2.start
    rw [List.getElem?_append_left (by simpa using (List.getElem?_eq_some_iff.mp h1).1), List.getElem?_map, h1]
    rfl
end
section
variable {P : Program} {w : World} {K : PySem.W.Frag} {mg : Str → Option Value} {base : Heap}
open PyProof.Rows in
/-- THE RULE for a def: its body's reading in words of data -/
theorem fnD_of {f : Addr} {name qual : Str} {params : Arguments} {body : List Stmt} {scope : Scope} {dV kV doc pm cdv ct oc : Value} {an od : Option Addr} {osl : Array (Option Value)} {N ps : List Str} {k : Nat} {sp : DSp} {t : TDS}
    (lk : K.lookup f = some ⟨oc, od, .func (PySem.W.fnOf name qual params body scope dV kV doc pm an cdv ct), osl⟩) (hcd : PySem.W.codeIn K cdv qual = true) (S : FnScope N ps scope)
    (len : ∀ ds M Q E, sp ds M Q E → ds.length = ps.length)
    (hb : ∀ (A : Around) (outer : List Env) (s : Shared) (H : Hp) (E : XK), Room k (A.deeper (envOfC qual scope s.heap.objs.size f cdv)) → A.guards = some [] →
      PSs (cxOf (L2.CX P w) P w K mg base N qual scope f cdv A outer s H E) body (LiftS K (fun cls d _ H' => E cls d H') t))
    (hr : ∀ ds M Q E, sp ds M Q E → t (raiD M.length E) { nx := fun _ M' => retD M.length Q .non M', rt := retD M.length Q } (startD N ds) M) :
    FnD P w K mg base (k + 1) f (PySem.W.fnOf name qual params body scope dV kV doc pm an cdv ct) ps sp := by
  refine ⟨len, fun A outer s H args us vs Q E room gd e0 hbind rv ⟨G, r, M, ds, Qd, Ed, SS, rd, hsp, kq, ke⟩ => ?_⟩
  have hl : vs.length = ps.length := by rw [rd.length]; exact len _ _ _ _ hsp
  have KX : K.In s.heap := e0.mod.kin.keeps fun b o e => (e0.bs b o e).1
  have lim : s.heap.NoLimit := e0.mod.nolimit.keeps fun b o e => (e0.bs b o e).1
  have hkind : ∀ y ∈ ps.zip us, scope.names.lookup y.1 = some .local ∨ (scope.names.lookup y.1 = some .cell ∧ ((cellsFrom (s.heap.objs.size + 1) scope.names []).lookup y.1).isSome = true) := by
    rintro ⟨n, v⟩ hy
    rcases S.par n (List.of_mem_zip hy).1 with q | q
    · exact .inl q
    · exact .inr ⟨q, PySem.W.cellsFrom_some _ _ _ (.inl q)⟩
  refine codeAny_call_function room.depth (KX _ _ lk) rfl S.co S.gen rfl (PySem.W.codeRec_of KX hcd) (hbind _ _ _ _ ?_)
  refine wpAny_newFunctionEnv_cells S.kind hkind fun env he s1 x => ?_
  subst he
  refine ⟨lim.keeps x.toInCall.keep, codeAny_func ?_⟩
  have I := inv_start (CX := L2.CX P w) (E := E) (cd := cdv) (f := f) (qual := qual) S room.hd e0 hl rv x
  have main := (hb A outer s H E (room.deeper _) gd).run [] s1 (L2.start N vs) H { nx := fun _ H' => Q .non H', rt := Q } I ⟨G, r, startD N ds, M, raiD M.length Ed, _, SS, start_rel rd, ?_, hr ds M Qd Ed hsp, ?_⟩
  · refine wpAny_mono main (fun fl s' hs => ?_) fun _ _ z => z
    cases fl with
    | ret u =>
      obtain ⟨v, σ', H', J, rv', q⟩ := hs
      exact ⟨v, H', J.os, J.bare, J.base, J.hok, rv', q⟩
    | next =>
      obtain ⟨σ', H', J, q⟩ := hs
      exact ⟨.non, H', J.os, J.bare, J.base, J.hok, rfl, q⟩
    | brk => obtain ⟨_, _, _, q⟩ := hs; exact False.elim q
    | cont => obtain ⟨_, _, _, q⟩ := hs; exact False.elim q
  · intro e sd' M' ⟨⟨h1, h2, h3⟩, q⟩ G' r' H' σ' cls d x p S' _ he
    obtain ⟨S2, x2⟩ := SS.ret p x S' rfl h1 h2
    refine ke e _ q G' r H' cls d x2 (PX.refl _) S2 ⟨he.1, ?_⟩
    rcases he.2 with z | ⟨dd, xs, e1, e2, e3⟩
    · exact .inl z
    · refine .inr ⟨dd, xs, e1, e2, e3.low (fun j b hj e => ?_) h3⟩
      have hjr : j < r.length := by rw [SS.len]; exact hj
      have e2 := p j _ (List.getElem?_eq_getElem hjr)
      rw [e] at e2
      cases e2
      exact List.getElem?_eq_getElem hjr
  · refine ⟨fun sd' M' q G' r' H' σ' x p S' _ => ?_, kq.ret SS, fun _ _ z => False.elim z, fun _ _ z => False.elim z⟩
    exact kq.ret SS .non M' q G' r' H' .non x p S' (.fz .non)
end
end DL
set_option Elab.async false
set_option linter.all false
set_option maxRecDepth 100000
set_option maxHeartbeats 4000000
namespace DL
open PySem PySem.Spec L2

/-! ### names, constants, tests, displays -/
def dVar (i : Nat) : TD := fun _ sd M Q => match sd[i]? with
  | some (some d) => Q d M
  | _ => False
/-- a name as a value that is handed on: its list stands still from now on -/
def dVal (i : Nat) : TD := fun _ sd M Q => match sd[i]? with
  | some (some (.ref k)) => (match M[k]? with
    | some (.lst ds) => Q (.lst ds) (M.set k (.frz (.lst ds)))
    | some (.frz d) => Q d M
    | some .bag => Q (.ref k) M
    | some (.ins _ _) => Q (.ref k) M
    | _ => False)
  | some (some d) => Q d M
  | _ => False
def dC (d : D) : TD := fun _ _ M Q => Q d M
def dB (t : TD) : TDT := fun W sd M Q => t W sd M fun d M1 => match d with
  | .bl b => Q b M1
  | _ => False
def dCh (w w' : OD) (ta tb tc : TD) : TD := fun W sd M Q => ta W sd M fun x M1 => tb W sd M1 fun y M2 => w x y M2 fun z M3 => match z with
  | .bl true => tc W sd M3 fun u M4 => w' y u M4 Q
  | .bl false => Q (.bl false) M3
  | _ => False
def dAnd (t u : TDT) : TDT := fun W sd M Q => t W sd M fun c M1 => if c = true then u W sd M1 Q else Q false M1
def dOr (t u : TDT) : TDT := fun W sd M Q => t W sd M fun c M1 => if c = true then Q true M1 else u W sd M1 Q
def dNot (t : TDT) : TDT := fun W sd M Q => t W sd M fun c M1 => Q (!c) M1
def dAndV (ta tb : TD) : TD := fun W sd M Q => ta W sd M fun x M1 => match x with
  | .bl true => tb W sd M1 Q
  | .bl false => Q (.bl false) M1
  | _ => False
def dOrV (ta tb : TD) : TD := fun W sd M Q => ta W sd M fun x M1 => match x with
  | .bl false => tb W sd M1 Q
  | .bl true => Q (.bl true) M1
  | _ => False
def dNotV (ta : TD) : TD := fun W sd M Q => ta W sd M fun x M1 => match x with
  | .bl b => Q (.bl (!b)) M1
  | _ => False
def dNeg (ta : TD) : TD := fun W sd M Q => ta W sd M fun x M1 => match x with
  | .int i => Q (.int (-i)) M1
  | _ => False
def dIf (c : TDT) (ta tb : TD) : TD := fun W sd M Q => c W sd M fun b M1 => if b = true then ta W sd M1 Q else tb W sd M1 Q
def dNil : TDA := fun _ _ M Q => Q [] M
def dCons (ta : TD) (tr : TDA) : TDA := fun W sd M Q => ta W sd M fun x M1 => tr W sd M1 fun xs M2 => Q (x :: xs) M2
def dTup (ta : TDA) : TD := fun W sd M Q => ta W sd M fun ds M1 => (ds.length ≤ sizeLine ∧ noRef ds = true) ∧ Q (.tup ds) M1
def dLst (fresh : Bool) (ta : TDA) : TD := fun W sd M Q => ta W sd M fun ds M1 => (ds.length ≤ sizeLine ∧ noRef ds = true) ∧ mkL fresh ds M1 Q
/-- a list that has just been made stands still from now on -/
def frzTop (n : Nat) (Q : QD) : QD := fun d M => match d with
  | .ref k => if k < n then Q (.ref k) M else (k + 1 = M.length ∧ (M.take k).all (nrC k) = true) ∧ match M[k]? with
    | some (.lst ds) => Q (.lst ds) (M.take k)
    | _ => False
  | d => Q d M
def dFrz (t : TD) : TD := fun W sd M Q => t W sd M (frzTop M.length Q)

section
variable {X : Cx} {Wx : WX} {a b c e : Expr} {es : List Expr} {pos : Pos} {ta tb tc : TD} {tl : TDA} {u v : TDT} {i : Nat} {x : Str}
theorem d_var (hN : X.N[i]? = some x) (hv : Vis X.env.scope x) (hd : (x == ("__debug__" : Str)) = false) (hcd : (x == ("__classdict__" : Str)) = false) : PE X (.Name x pos) (LiftE X.K Wx (dVar i)) := by
  refine PE_imp (pe_var hN hv hd hcd) fun σ H Q ⟨G, r, sd, M, Wd, Qd, S, L, lw, t, k⟩ => ?_
  unfold dVar at t
  split at t
  · rename_i d e1
    obtain ⟨v, h1, h2⟩ := L.get e1
    exact ⟨v, h1, k.now t S h2⟩
  · exact t.elim
theorem d_val (hN : X.N[i]? = some x) (hv : Vis X.env.scope x) (hd : (x == ("__debug__" : Str)) = false) (hcd : (x == ("__classdict__" : Str)) = false) : PE X (.Name x pos) (LiftE X.K Wx (dVal i)) := by
  refine PE_imp (pe_var hN hv hd hcd) fun σ H Q ⟨G, r, sd, M, Wd, Qd, S, L, lw, t, k⟩ => ?_
  unfold dVal at t
  split at t
  · rename_i j e1
    obtain ⟨v, h1, h2⟩ := L.get e1
    refine ⟨v, h1, ?_⟩
    cases h2 with
    | fz h => cases h
    | @ref _ p hp =>
      split at t
      · rename_i ds e2
        obtain ⟨vs, h3, h4⟩ := S.cell _ _ _ hp e2
        have S2 := S.freeze hp e2 h3 h4
        exact k _ _ t _ _ _ _ (Ext.freeze S hp e2 rfl) (PX.refl _) S2 (.fz (.lst upd_same (h4.mono (GE.upd (S.off _ _ _ hp e2 rfl)))))
      · rename_i d e2
        obtain ⟨h3, _⟩ := S.cell _ _ _ hp e2
        exact k.now t S (.fz h3)
      · exact k.now t S (.ref hp)
      · exact k.now t S (.ref hp)
      · exact t.elim
  · rename_i d hno e1
    obtain ⟨v, h1, h2⟩ := L.get e1
    exact ⟨v, h1, k.now t S h2⟩
  · exact t.elim
theorem d_const {d : D} {v : V} (h : PE X e (tC v)) (hd : ∀ G, Fz X.K G v d) : PE X e (LiftE X.K Wx (dC d)) :=
  PE_imp h fun σ H Q ⟨G, r, sd, M, Wd, Qd, S, L, lw, t, k⟩ => KQ.now k t S (.fz (hd G))
theorem d_cmp {op : CmpOp} {w : OD} (ho : OpR X (compareOp op) (rOpD X.K w)) (ha : PE X a (LiftE X.K Wx ta)) (hb : PE X b (LiftE X.K Wx tb)) (hm : behindInMarks op b = false) : PE X (.Compare a [op] [b] pos) (LiftE X.K Wx (dBin w ta tb)) := by
  refine PE_imp (pe_cmpR ho ha hb hm) fun σ H Q ⟨G, r, sd, M, Wd, Qd, S, L, lw, t, k⟩ => ?_
  refine ⟨G, r, sd, M, Wd, _, S, L, lw, t, fun x M1 t1 G1 r1 H1 v x1 p1 S1 rx => ?_⟩
  refine ⟨G1, r1, sd, M1, Wd, _, S1, L.mono x1.ge p1, lw.ext x1 p1, t1, fun y M2 t2 G2 r2 H2 u x2 p2 S2 ry => ?_⟩
  exact ⟨G2, r2, M2, x, y, Qd, S2, rx.mono x2.ge p2, ry, t2, k.ext (x1.trans x2) (p1.trans p2)⟩
theorem dt_of (h : PE X e (LiftE X.K Wx ta)) (he : ∀ whole, isTrue e X.env whole = (do let v ← whole; standAt e.pos; holding [v] (truthy v))) : PT X e (LiftT X.K Wx (dB ta)) := by
  refine PT_imp (pt_val h he) fun σ H Q ⟨G, r, sd, M, Wd, Qd, S, L, lw, t, k⟩ => ?_
  refine ⟨G, r, sd, M, Wd, _, S, L, lw, t, fun d M1 t1 G1 r1 H1 v x1 p1 S1 rx => ?_⟩
  split at t1
  · obtain rfl := rx.bl_inv
    exact ⟨_, rfl, (k.ext x1 p1).now t1 S1⟩
  · exact t1.elim
theorem dt_cmp {op : CmpOp} {w : OD} (ho : OpR X (compareOp op) (rOpD X.K w)) (ha : PE X a (LiftE X.K Wx ta)) (hb : PE X b (LiftE X.K Wx tb)) (hm : behindInMarks op b = false) : PT X (.Compare a [op] [b] pos) (LiftT X.K Wx (dB (dBin w ta tb))) := by
  refine PT_imp (pt_cmpR ho ha hb hm) fun σ H Q ⟨G, r, sd, M, Wd, Qd, S, L, lw, t, k⟩ => ?_
  refine ⟨G, r, sd, M, Wd, _, S, L, lw, t, fun x M1 t1 G1 r1 H1 v x1 p1 S1 rx => ?_⟩
  refine ⟨G1, r1, sd, M1, Wd, _, S1, L.mono x1.ge p1, lw.ext x1 p1, t1, fun y M2 t2 G2 r2 H2 u x2 p2 S2 ry => ?_⟩
  refine ⟨G2, r2, M2, x, y, _, S2, rx.mono x2.ge p2, ry, t2, fun d M3 t3 G3 r3 H3 v3 x3 p3 S3 r3' => ?_⟩
  split at t3
  · obtain rfl := r3'.bl_inv
    exact ⟨_, rfl, (k.ext ((x1.trans x2).trans x3) ((p1.trans p2).trans p3)).now t3 S3⟩
  · exact t3.elim
theorem d_chain {op op' : CmpOp} {w w' : OD} (ho : OpR X (compareOp op) (rOpD X.K w)) (ho' : OpR X (compareOp op') (rOpD X.K w')) (ha : PE X a (LiftE X.K Wx ta)) (hb : PE X b (LiftE X.K Wx tb)) (hc : PE X c (LiftE X.K Wx tc)) (hm : lastMarks [op, op'] [b, c] = false) :
    PE X (.Compare a [op, op'] [b, c] pos) (LiftE X.K Wx (dCh w w' ta tb tc)) := by
  refine PE_imp (pe_chain ho ho' ha hb hc hm) fun σ H Q ⟨G, r, sd, M, Wd, Qd, S, L, lw, t, k⟩ => ?_
  refine ⟨G, r, sd, M, Wd, _, S, L, lw, t, fun x M1 t1 G1 r1 H1 v x1 p1 S1 rx => ?_⟩
  refine ⟨G1, r1, sd, M1, Wd, _, S1, L.mono x1.ge p1, lw.ext x1 p1, t1, fun y M2 t2 G2 r2 H2 u x2 p2 S2 ry => ?_⟩
  refine ⟨G2, r2, M2, x, y, _, S2, rx.mono x2.ge p2, ry, t2, fun d M3 t3 G3 r3 H3 v3 x3 p3 S3 r3' => ?_⟩
  have x03 := (x1.trans x2).trans x3
  have p03 := (p1.trans p2).trans p3
  split at t3
  · obtain rfl := r3'.bl_inv
    refine ⟨true, rfl, ?_⟩
    rw [if_pos rfl]
    refine ⟨G3, r3, sd, M3, Wd, _, S3, L.mono x03.ge p03, lw.ext x03 p03, t3, fun z M4 t4 G4 r4 H4 v4 x4 p4 S4 r4' => ?_⟩
    exact ⟨G4, r4, M4, y, z, Qd, S4, (ry.mono x3.ge p3).mono x4.ge p4, r4', t4, k.ext (x03.trans x4) (p03.trans p4)⟩
  · obtain rfl := r3'.bl_inv
    refine ⟨false, rfl, ?_⟩
    rw [if_neg (by decide)]
    exact (k.ext x03 p03).now t3 S3 r3'
  · exact t3.elim
theorem dt_chain {op op' : CmpOp} {w w' : OD} (ho : OpR X (compareOp op) (rOpD X.K w)) (ho' : OpR X (compareOp op') (rOpD X.K w')) (ha : PE X a (LiftE X.K Wx ta)) (hb : PE X b (LiftE X.K Wx tb)) (hc : PE X c (LiftE X.K Wx tc)) (hm : lastMarks [op, op'] [b, c] = false) :
    PT X (.Compare a [op, op'] [b, c] pos) (LiftT X.K Wx (dB (dCh w w' ta tb tc))) := by
  refine PT_imp (pt_chain ho ho' ha hb hc hm) fun σ H Q ⟨G, r, sd, M, Wd, Qd, S, L, lw, t, k⟩ => ?_
  refine ⟨G, r, sd, M, Wd, _, S, L, lw, t, fun x M1 t1 G1 r1 H1 v x1 p1 S1 rx => ?_⟩
  refine ⟨G1, r1, sd, M1, Wd, _, S1, L.mono x1.ge p1, lw.ext x1 p1, t1, fun y M2 t2 G2 r2 H2 u x2 p2 S2 ry => ?_⟩
  refine ⟨G2, r2, M2, x, y, _, S2, rx.mono x2.ge p2, ry, t2, fun d M3 t3 G3 r3 H3 v3 x3 p3 S3 r3' => ?_⟩
  have x03 := (x1.trans x2).trans x3
  have p03 := (p1.trans p2).trans p3
  split at t3
  · obtain rfl := r3'.bl_inv
    refine ⟨true, rfl, ?_⟩
    rw [if_pos rfl]
    refine ⟨G3, r3, sd, M3, Wd, _, S3, L.mono x03.ge p03, lw.ext x03 p03, t3, fun z M4 t4 G4 r4 H4 v4 x4 p4 S4 r4' => ?_⟩
    refine ⟨G4, r4, M4, y, z, _, S4, (ry.mono x3.ge p3).mono x4.ge p4, r4', t4, fun d5 M5 t5 G5 r5 H5 v5 x5 p5 S5 r5' => ?_⟩
    split at t5
    · obtain rfl := r5'.bl_inv
      exact ⟨_, rfl, (k.ext ((x03.trans x4).trans x5) ((p03.trans p4).trans p5)).now t5 S5⟩
    · exact t5.elim
  · obtain rfl := r3'.bl_inv
    refine ⟨false, rfl, ?_⟩
    rw [if_neg (by decide)]
    exact ⟨_, rfl, (k.ext x03 p03).now t3 S3⟩
  · exact t3.elim
theorem dw_and1 (ha : PT X a (LiftT X.K Wx u)) : PW X (.BoolOp .And [a] pos) (LiftT X.K Wx u) := pw_and1 ha
theorem dw_or1 (ha : PT X a (LiftT X.K Wx u)) : PW X (.BoolOp .Or [a] pos) (LiftT X.K Wx u) := pw_or1 ha
theorem dw_and (ha : PT X a (LiftT X.K Wx u)) (hb : PW X (.BoolOp .And (b :: es) pos) (LiftT X.K Wx v)) : PW X (.BoolOp .And (a :: b :: es) pos) (LiftT X.K Wx (dAnd u v)) := by
  refine PW_imp (pw_and ha hb) fun σ H Q ⟨G, r, sd, M, Wd, Qd, S, L, lw, t, k⟩ => ?_
  refine ⟨G, r, sd, M, Wd, _, S, L, lw, t, fun c M1 t1 G1 r1 H1 x1 p1 S1 => ?_⟩
  cases c with
  | true =>
    rw [if_pos rfl] at t1 ⊢
    exact ⟨G1, r1, sd, M1, Wd, Qd, S1, L.mono x1.ge p1, lw.ext x1 p1, t1, k.ext x1 p1⟩
  | false =>
    rw [if_neg (by decide)] at t1 ⊢
    exact (k.ext x1 p1).now t1 S1
theorem dw_or (ha : PT X a (LiftT X.K Wx u)) (hb : PW X (.BoolOp .Or (b :: es) pos) (LiftT X.K Wx v)) : PW X (.BoolOp .Or (a :: b :: es) pos) (LiftT X.K Wx (dOr u v)) := by
  refine PW_imp (pw_or ha hb) fun σ H Q ⟨G, r, sd, M, Wd, Qd, S, L, lw, t, k⟩ => ?_
  refine ⟨G, r, sd, M, Wd, _, S, L, lw, t, fun c M1 t1 G1 r1 H1 x1 p1 S1 => ?_⟩
  cases c with
  | true =>
    rw [if_pos rfl] at t1 ⊢
    exact (k.ext x1 p1).now t1 S1
  | false =>
    rw [if_neg (by decide)] at t1 ⊢
    exact ⟨G1, r1, sd, M1, Wd, Qd, S1, L.mono x1.ge p1, lw.ext x1 p1, t1, k.ext x1 p1⟩
theorem dt_not (ha : PT X a (LiftT X.K Wx u)) : PT X (.UnaryOp .Not a pos) (LiftT X.K Wx (dNot u)) := by
  refine PT_imp (pt_not ha) fun σ H Q ⟨G, r, sd, M, Wd, Qd, S, L, lw, t, k⟩ => ?_
  exact ⟨G, r, sd, M, Wd, _, S, L, lw, t, fun c M1 t1 G1 r1 H1 x1 p1 S1 => (k.ext x1 p1).now t1 S1⟩
theorem d_and (ha : PE X a (LiftE X.K Wx ta)) (hb : PE X (.BoolOp .And (b :: es) pos) (LiftE X.K Wx tb)) : PE X (.BoolOp .And (a :: b :: es) pos) (LiftE X.K Wx (dAndV ta tb)) := by
  refine PE_imp (pe_and ha hb) fun σ H Q ⟨G, r, sd, M, Wd, Qd, S, L, lw, t, k⟩ => ?_
  refine ⟨G, r, sd, M, Wd, _, S, L, lw, t, fun c M1 t1 G1 r1 H1 v x1 p1 S1 rv => ?_⟩
  split at t1
  · obtain rfl := rv.bl_inv
    refine ⟨true, rfl, ?_⟩
    rw [if_pos rfl]
    exact ⟨G1, r1, sd, M1, Wd, Qd, S1, L.mono x1.ge p1, lw.ext x1 p1, t1, k.ext x1 p1⟩
  · obtain rfl := rv.bl_inv
    refine ⟨false, rfl, ?_⟩
    rw [if_neg (by decide)]
    exact (k.ext x1 p1).now t1 S1 rv
  · exact t1.elim
theorem d_or (ha : PE X a (LiftE X.K Wx ta)) (hb : PE X (.BoolOp .Or (b :: es) pos) (LiftE X.K Wx tb)) : PE X (.BoolOp .Or (a :: b :: es) pos) (LiftE X.K Wx (dOrV ta tb)) := by
  refine PE_imp (pe_or ha hb) fun σ H Q ⟨G, r, sd, M, Wd, Qd, S, L, lw, t, k⟩ => ?_
  refine ⟨G, r, sd, M, Wd, _, S, L, lw, t, fun c M1 t1 G1 r1 H1 v x1 p1 S1 rv => ?_⟩
  split at t1
  · obtain rfl := rv.bl_inv
    refine ⟨false, rfl, ?_⟩
    rw [if_neg (by decide)]
    exact ⟨G1, r1, sd, M1, Wd, Qd, S1, L.mono x1.ge p1, lw.ext x1 p1, t1, k.ext x1 p1⟩
  · obtain rfl := rv.bl_inv
    refine ⟨true, rfl, ?_⟩
    rw [if_pos rfl]
    exact (k.ext x1 p1).now t1 S1 rv
  · exact t1.elim
theorem d_not (ha : PE X a (LiftE X.K Wx ta)) : PE X (.UnaryOp .Not a pos) (LiftE X.K Wx (dNotV ta)) := by
  refine PE_imp (pe_not ha) fun σ H Q ⟨G, r, sd, M, Wd, Qd, S, L, lw, t, k⟩ => ?_
  refine ⟨G, r, sd, M, Wd, _, S, L, lw, t, fun c M1 t1 G1 r1 H1 v x1 p1 S1 rv => ?_⟩
  split at t1
  · obtain rfl := rv.bl_inv
    exact ⟨_, rfl, (k.ext x1 p1).bl S1 t1⟩
  · exact t1.elim
theorem d_neg (ha : PE X a (LiftE X.K Wx ta)) : PE X (.UnaryOp .USub a pos) (LiftE X.K Wx (dNeg ta)) := by
  refine PE_imp (pe_un un_neg ha) fun σ H Q ⟨G, r, sd, M, Wd, Qd, S, L, lw, t, k⟩ => ?_
  refine ⟨G, r, sd, M, Wd, _, S, L, lw, t, fun c M1 t1 G1 r1 H1 v x1 p1 S1 rv => ?_⟩
  split at t1
  · obtain rfl := rv.int_inv
    exact ⟨_, rfl, (k.ext x1 p1).int S1 t1⟩
  · exact t1.elim
theorem d_ifExp (hc : PT X c (LiftT X.K Wx u)) (ha : PE X a (LiftE X.K Wx ta)) (hb : PE X b (LiftE X.K Wx tb)) : PE X (.IfExp c a b pos) (LiftE X.K Wx (dIf u ta tb)) := by
  refine PE_imp (pe_ifExp hc ha hb) fun σ H Q ⟨G, r, sd, M, Wd, Qd, S, L, lw, t, k⟩ => ?_
  refine ⟨G, r, sd, M, Wd, _, S, L, lw, t, fun c M1 t1 G1 r1 H1 x1 p1 S1 => ?_⟩
  cases c with
  | true =>
    rw [if_pos rfl] at t1 ⊢
    exact ⟨G1, r1, sd, M1, Wd, Qd, S1, L.mono x1.ge p1, lw.ext x1 p1, t1, k.ext x1 p1⟩
  | false =>
    rw [if_neg (by decide)] at t1 ⊢
    exact ⟨G1, r1, sd, M1, Wd, Qd, S1, L.mono x1.ge p1, lw.ext x1 p1, t1, k.ext x1 p1⟩
theorem da_nil : PA X [] (LiftA X.K Wx dNil) := PA_imp pa_nil fun σ H Q ⟨G, r, sd, M, Wd, Qd, S, L, lw, t, k⟩ => KA.now k t S .nil
theorem da_cons (ha : PE X a (LiftE X.K Wx ta)) (hr : PA X es (LiftA X.K Wx tl)) (hs : starEach (a :: es) X.env = (false, eval a X.env) :: starEach es X.env) : PA X (a :: es) (LiftA X.K Wx (dCons ta tl)) := by
  refine PA_imp (pa_cons ha hr hs) fun σ H Q ⟨G, r, sd, M, Wd, Qd, S, L, lw, t, k⟩ => ?_
  refine ⟨G, r, sd, M, Wd, _, S, L, lw, t, fun c M1 t1 G1 r1 H1 v x1 p1 S1 rv => ?_⟩
  refine ⟨G1, r1, sd, M1, Wd, _, S1, L.mono x1.ge p1, lw.ext x1 p1, t1, fun cs M2 t2 G2 r2 H2 vs x2 p2 S2 rvs => ?_⟩
  exact (k.ext (x1.trans x2) (p1.trans p2)).now t2 S2 (.cons (rv.mono x2.ge p2) rvs)
theorem d_tup {z} (h : PA X es (LiftA X.K Wx tl)) : PE X (.Tuple es z pos) (LiftE X.K Wx (dTup tl)) := by
  refine PE_imp (pe_tup h) fun σ H Q ⟨G, r, sd, M, Wd, Qd, S, L, lw, t, k⟩ => ?_
  refine ⟨G, r, sd, M, Wd, _, S, L, lw, t, fun ds M1 t1 G1 r1 H1 vs x1 p1 S1 rv => ?_⟩
  exact ⟨by rw [rv.length]; exact t1.1.1, fun p hp => (k.ext x1 p1).newT S1 hp (rv.toFz t1.1.2) t1.2⟩
theorem d_lst (fresh : Bool) (h : PA X es (LiftA X.K Wx tl)) : PE X (.List es pos) (LiftE X.K Wx (dLst fresh tl)) := by
  refine PE_imp (pe_lst h) fun σ H Q ⟨G, r, sd, M, Wd, Qd, S, L, lw, t, k⟩ => ?_
  refine ⟨G, r, sd, M, Wd, _, S, L, lw, t, fun ds M1 t1 G1 r1 H1 vs x1 p1 S1 rv => ?_⟩
  exact ⟨by rw [rv.length]; exact t1.1.1, fun p hp => (k.ext x1 p1).newL S1 hp (rv.toFz t1.1.2) t1.2⟩
theorem d_frz (h : PE X e (LiftE X.K Wx ta)) : PE X e (LiftE X.K Wx (dFrz ta)) := by
  refine PE_imp h fun σ H Q ⟨G, r, sd, M, Wd, Qd, S, L, lw, t, k⟩ => ?_
  refine ⟨G, r, sd, M, Wd, _, S, L, lw, t, fun d M1 t1 G1 r1 H1 v x1 p1 S1 rv => ?_⟩
  cases rv with
  | fz h =>
    have t2 : Qd d M1 := by cases h <;> exact t1
    exact (k.ext x1 p1).now t2 S1 (.fz h)
  | @ref j p hp =>
    have t2 : if j < M.length then Qd (.ref j) M1 else (j + 1 = M1.length ∧ (M1.take j).all (nrC j) = true) ∧ match M1[j]? with
      | some (.lst ds) => Qd (.lst ds) (M1.take j)
      | _ => False := t1
    by_cases hj : j < M.length
    · rw [if_pos hj] at t2
      exact (k.ext x1 p1).now t2 S1 (.ref hp)
    · rw [if_neg hj] at t2
      obtain ⟨⟨e1, e2⟩, t2⟩ := t2
      split at t2
      · rename_i ds hc
        obtain ⟨vs, h3, h4⟩ := S1.cell _ _ _ hp hc
        have S2 := S1.freeze hp hc h3 h4
        have hx := Ext.freeze (o := .lst vs) S1 hp hc rfl
        have hlow : (M1.set j (.frz (.lst ds))).take j = M1.take j := by
          rw [List.take_set]
          exact List.set_eq_of_length_le (by rw [List.length_take]; omega)
        have hl : (M1.set j (.frz (.lst ds))).length = M1.length := List.length_set ..
        have S3 := S2.take (n := j) (by rw [hl]; omega) (by rw [hlow]; exact e2)
        rw [hlow] at S3
        have p3 : PX r (r1.take j) := fun i q hi => by
          have := (List.getElem?_eq_some_iff.mp hi).1
          rw [S.len] at this
          rw [List.getElem?_take_of_lt (by omega)]
          exact p1 i q hi
        have x3 : Ext G r H (upd G1 p (.lst vs)) (r1.take j) H1 := by
          have x4 := x1.trans hx
          exact ⟨x4.ge, x4.keep, fun a m => x4.cell a (List.mem_of_mem_take m), x4.froz⟩
        exact k _ _ t2 _ _ _ _ x3 p3 S3 (.fz (.lst upd_same (h4.mono (GE.upd (S1.off _ _ _ hp hc rfl)))))
      · exact t2.elim
end
end DL
set_option Elab.async false
set_option linter.all false
set_option maxRecDepth 100000
set_option maxHeartbeats 4000000
namespace DL
open PySem PySem.Spec L2

/-! ### shapes of argument lists -/
def isStar : Expr → Bool
  | .Starred _ _ => true
  | _ => false
theorem star_cons {e : Expr} {es : List Expr} {env : Env} (h : isStar e = false) : starEach (e :: es) env = (false, eval e env) :: starEach es env := by
  cases e <;> first | rfl | cases h
def noStar : List Expr → Bool
  | [] => true
  | e :: es => !isStar e && noStar es
theorem star_none {env : Env} {pos : Pos} : ∀ {es : List Expr}, noStar es = true → (backTo pos (starEach es env)).any (·.1) = false
  | [], _ => rfl
  | e :: es, h => by
    unfold noStar at h
    rw [Bool.and_eq_true, Bool.not_eq_true'] at h
    rw [star_cons h.1]
    show (false || (backTo pos (starEach es env)).any (·.1)) = false
    rw [star_none h.2]; rfl
theorem noStar_cons {e : Expr} {es : List Expr} (h : noStar (e :: es) = true) : isStar e = false ∧ noStar es = true := by
  unfold noStar at h
  rw [Bool.and_eq_true, Bool.not_eq_true'] at h
  exact h

/-! ### calls of the text's defs -/
def dCall (n : Nat) (sp : DSp) (ta : TDA) : TD := fun W sd M Q => ta W sd M fun ds M1 => callD n sp ds M1 Q fun e M2 => W e sd M2
/-- lists in cells lent for a call -/
def lendD (M : MC) : D → D
  | .ref k => match M[k]? with
    | some (.lst ds) => .lst ds
    | some (.frz d) => d
    | _ => .ref k
  | d => d
def dLend (sp : DSp) (ta : TDA) : TD := fun W sd M Q => ta W sd M fun ds M1 => noRef (ds.map (lendD M1)) = true ∧ sp (ds.map (lendD M1)) [] (fun d M2 => (M2 = [] ∧ flatD d = true) ∧ Q d M1) fun _ _ => False
/-- a def that stands at the module's name x -/
structure EntFn (X : Cx) (x : Str) (sp : DSp) : Prop where
  ex : ∃ f fd ps k, FnD X.prog X.w X.K X.mg X.base k f fd ps sp ∧ Room k X.A ∧ X.mg x = some (.ref f) ∧ PySem.W.keepIn X.K (.ref f) = true ∧ Binds X.K fd ps []
  gd : X.A.guards = some []
section
variable {X : Cx} {Wx : WX} {x : Str} {p pos : Pos} {e : Expr} {es : List Expr} {ta : TDA} {n : Nat} {sp : DSp}
/-- a callee runs -/
theorem run_fnD {pins : List (Addr × Obj)} {σ : St} {H : Hp} {s : Shared} {Q : VK} {us : List Value} {vs : List V} {f : Addr} {fd : FuncData} {ps : List Str} {k : Nat} (tk : Takes X Wx) (F : FnD X.prog X.w X.K X.mg X.base k f fd ps sp) (hr : Room k X.A) (gd : X.A.guards = some [])
    (hb : Binds X.K fd ps []) (I : Inv X pins σ H s) (r : Vals vs us) (hl : vs.length = ps.length) (h : LiftSp X.K sp vs H Q fun cls d H' => Wx cls d σ H') : wpAny (model X.prog X.w) X.A (call (.ref f) us) (EP X pins σ Q) X.xe s := by
  have hl2 : (us ++ []).length = ps.length := by rw [List.append_nil, ← r.length]; exact hl
  have hbt := hb s us I.kIn hl2
  rw [List.append_nil] at hbt
  refine wpAny_call (codeAny_mono (F.run X.A X.stack s H ⟨us, []⟩ us vs Q _ hr gd I.env0 hbt r h) fun res s' hq => ?_)
  cases res with
  | error e => exact tk e s' (XE.of_call I (fun _ _ _ z => z) hq)
  | ok fl =>
    cases fl with
    | ret u => exact I.after hq
    | next => exact False.elim hq
    | brk => exact False.elim hq
    | cont => exact False.elim hq
theorem LiftSp.len {K : PySem.W.Frag} {vs : List V} {H : Hp} {Q : VK} {E : XK} {ps : List Str} (hlen : ∀ ds M Q E, sp ds M Q E → ds.length = ps.length) (h : LiftSp K sp vs H Q E) : vs.length = ps.length := by
  obtain ⟨G, r, M, ds, Qd, Ed, S, rd, hsp, _, _⟩ := h
  rw [rd.length]; exact hlen _ _ _ _ hsp
theorem d_callG {t : TD} (tk : Takes X Wx) (E : EntFn X x sp) (hg : Gl X x) (hdb : (x == ("__debug__" : Str)) = false) (hs : noStar (e :: es) = true) (ha : PA X (e :: es) (LiftA X.K Wx ta))
    (hc : ∀ σ H Q, LiftE X.K Wx t σ H Q → LiftA X.K Wx ta σ H fun vs H1 => LiftSp X.K sp vs H1 Q fun cls d H' => Wx cls d σ H') : PE X (.Call (.Name x p) (e :: es) [] pos) (LiftE X.K Wx t) := by
  obtain ⟨⟨f, fd, ps, k, F, hr, hm, hk, hb⟩, gd⟩ := E
  obtain ⟨h1, h2⟩ := noStar_cons hs
  refine ⟨fun pins s σ H Q I h => ?_⟩
  refine wpAny_Call_Name_kw (ld_glob I hg hm ?_ hdb)
  refine PySem.W.callWith_K (h₀ := X.base) I.ok.mod.kin hk (thn (ha.run pos pins s σ H _ I (hc σ H Q h)) fun us s1 ⟨vs, H1, I1, rv, q⟩ => ⟨I1.kIn, ?_⟩) (star_cons h1) (star_none h2)
  exact run_fnD tk F hr gd hb I1 rv (LiftSp.len F.len q) q
theorem d_call0G {t : TD} (tk : Takes X Wx) (E : EntFn X x sp) (hg : Gl X x) (hdb : (x == ("__debug__" : Str)) = false)
    (hc : ∀ σ H Q, LiftE X.K Wx t σ H Q → LiftSp X.K sp [] H Q fun cls d H' => Wx cls d σ H') : PE X (.Call (.Name x p) [] [] pos) (LiftE X.K Wx t) := by
  obtain ⟨⟨f, fd, ps, k, F, hr, hm, hk, hb⟩, gd⟩ := E
  refine ⟨fun pins s σ H Q I h => ?_⟩
  refine wpAny_Call_Name_kw (ld_glob I hg hm ?_ hdb)
  have q := hc σ H Q h
  exact PySem.W.callWith_K0 I.kIn hk (run_fnD (us := []) tk F hr gd hb I .nil (LiftSp.len F.len q) q)
theorem LW.toE {K : PySem.W.Frag} {G : Hp} {r : List Addr} {H : Hp} {Wd : WD} {σ : St} {sd : SD} (lw : LW K Wx G r H Wd) (L : SlR K G r σ sd) : KE K G r H (fun e M2 => Wd e sd M2) fun cls d H' => Wx cls d σ H' :=
  fun e M2 w G' r' H' cls d x p S he => lw e sd M2 w G' r' H' σ cls d x p S (L.mono x.ge p) he
theorem d_call (tk : Takes X Wx) (E : EntFn X x sp) (hg : Gl X x) (hdb : (x == ("__debug__" : Str)) = false) (hs : noStar (e :: es) = true) (ha : PA X (e :: es) (LiftA X.K Wx ta)) : PE X (.Call (.Name x p) (e :: es) [] pos) (LiftE X.K Wx (dCall n sp ta)) := by
  refine d_callG tk E hg hdb hs ha fun σ H Q ⟨G, r, sd, M, Wd, Qd, S, L, lw, t, k⟩ => ?_
  refine ⟨G, r, sd, M, Wd, _, S, L, lw, t, fun ds M1 t1 G1 r1 H1 vs x1 p1 S1 rv => ?_⟩
  exact LiftSp.of S1 rv (k.ext x1 p1) ((lw.ext x1 p1).toE (L.mono x1.ge p1)) t1
theorem d_call0 (tk : Takes X Wx) (E : EntFn X x sp) (hg : Gl X x) (hdb : (x == ("__debug__" : Str)) = false) : PE X (.Call (.Name x p) [] [] pos) (LiftE X.K Wx (dCall n sp dNil)) := by
  refine d_call0G tk E hg hdb fun σ H Q ⟨G, r, sd, M, Wd, Qd, S, L, lw, t, k⟩ => ?_
  exact LiftSp.of S .nil k (lw.toE L) t
/-- what is lent stands still while the call lasts -/
def lendG (G : Hp) (r : List Addr) (H : Hp) : Hp := fun b => match G b with
  | some o => some o
  | none => if b ∈ r then (match H b with
    | some (.lst vs) => some (.lst vs)
    | _ => none) else none
theorem lend_ok {K : PySem.W.Frag} {G : Hp} {r : List Addr} {H : Hp} {M : MC} (S : SR K G r H M) : SR K (lendG G r H) [] H [] ∧ GE G (lendG G r H) := by
  refine ⟨⟨fun b o e => ?_, rfl, List.nodup_nil, fun k a c h => by simp at h, fun k a c h => by simp at h⟩, fun b o e => ?_⟩
  · unfold lendG at e
    split at e
    · rename_i o' e1
      cases e
      exact S.sub b _ e1
    · split at e
      · split at e
        · rename_i vs e2
          cases e
          exact .inl e2
        · cases e
      · cases e
  · unfold lendG
    rw [e]
theorem lend_rp {K : PySem.W.Frag} {G : Hp} {r : List Addr} {H : Hp} {M : MC} (S : SR K G r H M) {v : V} {d : D} (h : Rp K G r v d) (e : isRef (lendD M d) = false) : Rp K (lendG G r H) [] v (lendD M d) := by
  have g := (lend_ok S).2
  cases h with
  | fz h =>
    have e1 : lendD M d = d := by cases h <;> rfl
    rw [e1]
    exact .fz (h.mono g)
  | @ref k a hk =>
    unfold lendD at e ⊢
    dsimp only at e ⊢
    split
    · rename_i ds hc
      obtain ⟨vs, h1, h2⟩ := S.cell _ _ _ hk hc
      refine .fz (.lst ?_ (h2.mono g))
      have hn := S.off _ _ _ hk hc rfl
      unfold lendG
      rw [hn]
      simp only
      rw [if_pos (List.mem_of_getElem? hk), h1]
    · rename_i d hc
      obtain ⟨h1, _⟩ := S.cell _ _ _ hk hc
      exact .fz (h1.mono g)
    · rename_i h1 h2
      split at e
      · rename_i ds hc; exact (h1 _ hc).elim
      · rename_i d hc; exact (h2 _ hc).elim
      · cases e
theorem lend_rps {K : PySem.W.Frag} {G : Hp} {r : List Addr} {H : Hp} {M : MC} (S : SR K G r H M) : ∀ {vs : List V} {ds : List D}, RpL K G r vs ds → noRef (ds.map (lendD M)) = true → RpL K (lendG G r H) [] vs (ds.map (lendD M))
  | _, _, .nil, _ => .nil
  | _, _, .cons h t, e => by
    unfold noRef at e
    rw [List.map_cons, List.all_cons, Bool.and_eq_true, Bool.not_eq_true'] at e
    exact .cons (lend_rp S h e.1) (lend_rps S t e.2)
theorem d_lend (tk : Takes X Wx) (E : EntFn X x sp) (hg : Gl X x) (hdb : (x == ("__debug__" : Str)) = false) (hs : noStar (e :: es) = true) (ha : PA X (e :: es) (LiftA X.K Wx ta)) : PE X (.Call (.Name x p) (e :: es) [] pos) (LiftE X.K Wx (dLend sp ta)) := by
  refine d_callG tk E hg hdb hs ha fun σ H Q ⟨G, r, sd, M, Wd, Qd, S, L, lw, t, k⟩ => ?_
  refine ⟨G, r, sd, M, Wd, _, S, L, lw, t, fun ds M1 ⟨nr, t1⟩ G1 r1 H1 vs x1 p1 S1 rv => ?_⟩
  have k1 := k.ext x1 p1
  refine ⟨lendG G1 r1 H1, [], [], _, _, _, (lend_ok S1).1, lend_rps S1 rv nr, t1, ?_, fun e M' z => z.elim⟩
  intro d M2 ⟨⟨e1, fl⟩, q⟩ G2 r2 H2 v x2 p2 S2 hv
  have kp : ∀ a o, H1 a = some o → H2 a = some o := fun a o e => x2.keep a o e (by simp)
  have S3 : SR X.K G1 r1 H2 M1 := ⟨fun a o e => rd_keep (kp a) (S1.sub a o e), S1.len, S1.nd, fun j a c hj hc => (S1.cell j a c hj hc).mono (GE.refl _) (PX.refl _) (kp a), S1.off⟩
  have x3 : Ext G1 r1 H1 G1 r1 H2 := ⟨GE.refl _, fun a o e _ => kp a o e, fun a m => .inl m, fun a o e => .inl e⟩
  refine k1 d M1 q G1 r1 H2 v x3 (PX.refl _) S3 ?_
  cases hv with
  | fz h => cases h <;> first | exact .fz .non | exact .fz (.bl _) | exact .fz (.int _) | exact .fz (.str _) | cases fl
  | ref _ => cases fl
end

/-! ### built-in functions -/
abbrev OA := List D → MC → QD → Prop
def rCallD (K : PySem.W.Frag) (w : OA) : List V → Hp → VK → Prop := fun vs H Q => ∃ G r M ds Qd, SR K G r H M ∧ RpL K G r vs ds ∧ w ds M Qd ∧ KQ K G r H Qd Q
def dCB (w : OA) (ta : TDA) : TD := fun W sd M Q => ta W sd M fun ds M1 => w ds M1 Q
section
variable {X : Cx} {Wx : WX} {x : Str} {p pos : Pos} {e : Expr} {es : List Expr} {ta : TDA} {w : OA} {id T : String}
theorem lift_cb (σ : St) (H : Hp) (Q : VK) (h : LiftE X.K Wx (dCB w ta) σ H Q) : tCB (rCallD X.K w) (LiftA X.K Wx ta) σ H Q := by
  obtain ⟨G, r, sd, M, Wd, Qd, S, L, lw, t, k⟩ := h
  exact ⟨G, r, sd, M, Wd, _, S, L, lw, t, fun ds M1 t1 G1 r1 H1 vs x1 p1 S1 rv => ⟨G1, r1, M1, ds, Qd, S1, rv, t1, k.ext x1 p1⟩⟩
theorem d_callB (hc : CallR X (.builtin id) (rCallD X.K w)) (hg : Gl X x) (hm : X.mg x = none) (hv : bootBuiltins x = some (.builtin id)) (ha : PA X (e :: es) (LiftA X.K Wx ta)) (hn : x ≠ "__name__") (hdb : (x == ("__debug__" : Str)) = false) (hs : noStar (e :: es) = true) :
    PE X (.Call (.Name x p) (e :: es) [] pos) (LiftE X.K Wx (dCB w ta)) := by
  obtain ⟨h1, h2⟩ := noStar_cons hs
  exact PE_imp (pe_callB hc hg hm hv ha hn hdb (star_cons h1) (star_none h2)) lift_cb
theorem d_callTy (hc : CallR X (.type T) (rCallD X.K w)) (hg : Gl X x) (hm : X.mg x = none) (hv : bootBuiltins x = some (.type T)) (ha : PA X (e :: es) (LiftA X.K Wx ta)) (hn : x ≠ "__name__") (hdb : (x == ("__debug__" : Str)) = false) (hs : noStar (e :: es) = true) :
    PE X (.Call (.Name x p) (e :: es) [] pos) (LiftE X.K Wx (dCB w ta)) := by
  obtain ⟨h1, h2⟩ := noStar_cons hs
  exact PE_imp (pe_callTy hc hg hm hv ha hn hdb (star_cons h1) (star_none h2)) lift_cb
end
/-- one argument, two arguments -/
theorem RpL.one {K : PySem.W.Frag} {G : Hp} {r : List Addr} {vs : List V} {d : D} (h : RpL K G r vs [d]) : ∃ v, vs = [v] ∧ Rp K G r v d := by
  cases h with
  | cons h t => cases t; exact ⟨_, rfl, h⟩
theorem RpL.two {K : PySem.W.Frag} {G : Hp} {r : List Addr} {vs : List V} {d e : D} (h : RpL K G r vs [d, e]) : ∃ v u, vs = [v, u] ∧ Rp K G r v d ∧ Rp K G r u e := by
  cases h with
  | cons h t =>
    obtain ⟨u, rfl, h2⟩ := t.one
    exact ⟨_, u, rfl, h, h2⟩
def wLen : OA := fun ds M Q => match ds with
  | [d] => (match seqA M d with
    | some xs => Q (.int xs.length) M
    | none => match d with
      | .str z => z.length ≤ sizeLine ∧ Q (.int z.length) M
      | .scr ns => Q (.int ns.length) M
      | _ => False)
  | _ => False
def wAbs : OA := fun ds M Q => match ds with
  | [.int i] => Q (.int (if i < 0 then -i else i)) M
  | _ => False
def wMax : OA := fun ds M Q => match ds with
  | [.int i, .int j] => Q (.int (if j > i then j else i)) M
  | _ => False
def wMin : OA := fun ds M Q => match ds with
  | [.int i, .int j] => Q (.int (if j < i then j else i)) M
  | _ => False
def wList (fresh : Bool) : OA := fun ds M Q => match ds with
  | [d] => (match seqA M d with
    | some xs => mkL fresh xs M Q
    | none => False)
  | _ => False
def wTuple : OA := fun ds M Q => match ds with
  | [d] => (match seqA M d with
    | some xs => Q (.tup xs) M
    | none => False)
  | _ => False
def intsD : List D → Option (List Int)
  | [] => some []
  | .int i :: ds => (intsD ds).map (i :: ·)
  | _ :: _ => none
def blsD : List D → Option (List Bool)
  | [] => some []
  | .bl i :: ds => (blsD ds).map (i :: ·)
  | _ :: _ => none
theorem intsD_eq : ∀ {ds : List D} {ns : List Int}, intsD ds = some ns → ds = ns.map D.int
  | [], ns, e => by cases e; rfl
  | .int i :: ds, ns, e => by
    unfold intsD at e
    cases q : intsD ds with
    | none => rw [q] at e; cases e
    | some ms => rw [q] at e; cases e; rw [intsD_eq q]; rfl
  | .non :: _, _, e => by cases e
  | .bl _ :: _, _, e => by cases e
  | .str _ :: _, _, e => by cases e
  | .tup _ :: _, _, e => by cases e
  | .lst _ :: _, _, e => by cases e
  | .dct _ :: _, _, e => by cases e
  | .obj _ _ :: _, _, e => by cases e
  | .ref _ :: _, _, e => by cases e
  | .glo _ :: _, _, e => by cases e
  | .ty _ :: _, _, e => by cases e
  | .scr _ :: _, _, e => by cases e
theorem blsD_eq : ∀ {ds : List D} {ns : List Bool}, blsD ds = some ns → ds = ns.map D.bl
  | [], ns, e => by cases e; rfl
  | .bl i :: ds, ns, e => by
    unfold blsD at e
    cases q : blsD ds with
    | none => rw [q] at e; cases e
    | some ms => rw [q] at e; cases e; rw [blsD_eq q]; rfl
  | .non :: _, _, e => by cases e
  | .int _ :: _, _, e => by cases e
  | .str _ :: _, _, e => by cases e
  | .tup _ :: _, _, e => by cases e
  | .lst _ :: _, _, e => by cases e
  | .dct _ :: _, _, e => by cases e
  | .obj _ _ :: _, _, e => by cases e
  | .ref _ :: _, _, e => by cases e
  | .glo _ :: _, _, e => by cases e
  | .ty _ :: _, _, e => by cases e
  | .scr _ :: _, _, e => by cases e
def wSum : OA := fun ds M Q => match ds with
  | [d] => (match seqL M d with
    | some xs => (match intsD xs with
      | some ns => Q (.int ns.sum) M
      | none => False)
    | none => False)
  | _ => False
def wAll : OA := fun ds M Q => match ds with
  | [d] => (match seqL M d with
    | some xs => (match blsD xs with
      | some ns => Q (.bl (ns.all id)) M
      | none => False)
    | none => False)
  | _ => False
def wAny : OA := fun ds M Q => match ds with
  | [d] => (match seqL M d with
    | some xs => (match blsD xs with
      | some ns => Q (.bl (ns.any id)) M
      | none => False)
    | none => False)
  | _ => False
def wInt : OA := fun ds M Q => match ds with
  | [.int i] => Q (.int i) M
  | [.bl b] => Q (.int (if b then 1 else 0)) M
  | [.str a] => ∃ n, (PySem.intText? a = some n ∧ a.length ≤ 640) ∧ Q (.int n) M
  | _ => False
section
variable {X : Cx}
theorem Rp.scr_inv {K : PySem.W.Frag} {G : Hp} {r : List Addr} {H : Hp} {M : MC} (S : SR K G r H M) {v : V} {ns : List Int} (h : Rp K G r v (.scr ns)) : ∃ a, v = .ref a ∧ SqL K H a (ns.map V.int) := by
  cases h with
  | fz h => cases h with
    | scr z =>
      rcases z with ⟨ob, z⟩ | z
      · exact ⟨_, rfl, .inl (.inr ⟨ob, S.readS z⟩)⟩
      · exact ⟨_, rfl, .inr z⟩
theorem cd_len : CallR X (.builtin "len") (rCallD X.K wLen) := by
  rintro pins s σ H vs us Q I rv ⟨G, r, M, ds, Qd, S, rd, t, k⟩
  unfold wLen at t
  split at t
  · rename_i d
    obtain ⟨v, rfl, hv⟩ := rd.one
    split at t
    · rename_i xs e
      obtain ⟨a, ws, rfl, h2, h3⟩ := Rp.refD S hv e
      refine call_len_seq pins s σ H _ us Q I rv ⟨a, ws, rfl, h2, ?_⟩
      rw [h3.length]
      exact k.int S t
    · split at t
      · obtain rfl := hv.str_inv
        exact call_len_str pins s σ H _ us Q I rv ⟨_, rfl, t.1, k.int S t.2⟩
      · obtain ⟨a, rfl, h2⟩ := hv.scr_inv S
        refine call_len_seq pins s σ H _ us Q I rv ⟨a, _, rfl, .inl h2, ?_⟩
        rw [List.length_map]
        exact k.int S t
      · exact t.elim
  · exact t.elim
theorem cd_abs : CallR X (.builtin "abs") (rCallD X.K wAbs) := by
  rintro pins s σ H vs us Q I rv ⟨G, r, M, ds, Qd, S, rd, t, k⟩
  unfold wAbs at t
  split at t
  · obtain ⟨v, rfl, hv⟩ := rd.one
    obtain rfl := hv.int_inv
    exact call_abs pins s σ H _ us Q I rv ⟨_, rfl, k.int S t⟩
  · exact t.elim
theorem cd_max (hc : X.calm = true) : CallR X (.builtin "max") (rCallD X.K wMax) := by
  rintro pins s σ H vs us Q I rv ⟨G, r, M, ds, Qd, S, rd, t, k⟩
  unfold wMax at t
  split at t
  · obtain ⟨v, u, rfl, hv, hu⟩ := rd.two
    obtain rfl := hv.int_inv
    obtain rfl := hu.int_inv
    exact call_max2 hc pins s σ H _ us Q I rv ⟨_, _, rfl, k.int S t⟩
  · exact t.elim
theorem cd_min (hc : X.calm = true) : CallR X (.builtin "min") (rCallD X.K wMin) := by
  rintro pins s σ H vs us Q I rv ⟨G, r, M, ds, Qd, S, rd, t, k⟩
  unfold wMin at t
  split at t
  · obtain ⟨v, u, rfl, hv, hu⟩ := rd.two
    obtain rfl := hv.int_inv
    obtain rfl := hu.int_inv
    exact call_min2 hc pins s σ H _ us Q I rv ⟨_, _, rfl, k.int S t⟩
  · exact t.elim
theorem cd_list (fresh : Bool) : CallR X (.type "list") (rCallD X.K (wList fresh)) := by
  rintro pins s σ H vs us Q I rv ⟨G, r, M, ds, Qd, S, rd, t, k⟩
  unfold wList at t
  split at t
  · rename_i d
    obtain ⟨v, rfl, hv⟩ := rd.one
    split at t
    · rename_i xs e
      obtain ⟨a, ws, rfl, h2, h3⟩ := Rp.refD S hv e
      exact call_list_of pins s σ H _ us Q I rv ⟨a, ws, rfl, h2, fun l hl => k.newL S hl h3 t⟩
    · exact t.elim
  · exact t.elim
theorem cd_tuple : CallR X (.type "tuple") (rCallD X.K wTuple) := by
  rintro pins s σ H vs us Q I rv ⟨G, r, M, ds, Qd, S, rd, t, k⟩
  unfold wTuple at t
  split at t
  · rename_i d
    obtain ⟨v, rfl, hv⟩ := rd.one
    split at t
    · rename_i xs e
      unfold seqA at e
      split at e
      · rename_i ys e1
        cases e
        obtain ⟨a, ws, rfl, h2, h3⟩ := S.list hv e1
        exact call_tuple_of pins s σ H _ us Q I rv ⟨a, ws, rfl, .inl ⟨SqL.of h2, fun l hl => k.newT S hl h3 t⟩⟩
      · obtain ⟨a, ws, rfl, h2, h3⟩ := S.tuple hv e
        refine call_tuple_of pins s σ H _ us Q I rv ⟨a, ws, rfl, .inr ⟨SqT.of h2, ?_⟩⟩
        refine k.now (d := .tup xs) t S ?_
        cases hv with
        | fz h => cases h with
          | tup hg tt => cases e; exact .fz (.tup hg tt)
          | _ => cases e
        | ref _ => cases e
    · exact t.elim
  · exact t.elim
theorem cd_sum (hc : X.calm = true) : CallR X (.builtin "sum") (rCallD X.K wSum) := by
  rintro pins s σ H vs us Q I rv ⟨G, r, M, ds, Qd, S, rd, t, k⟩
  unfold wSum at t
  split at t
  · obtain ⟨v, rfl, hv⟩ := rd.one
    split at t
    · rename_i xs e
      split at t
      · rename_i ns e2
        obtain ⟨a, ws, rfl, h2, h3⟩ := S.list hv e
        rw [intsD_eq e2] at h3
        rw [h3.ints_inv] at h2
        exact cr_sum hc pins s σ H _ us Q I rv ⟨a, ns, rfl, SqL.of h2, k.int S t⟩
      · exact t.elim
    · exact t.elim
  · exact t.elim
theorem cd_all (hc : X.calm = true) : CallR X (.builtin "all") (rCallD X.K wAll) := by
  rintro pins s σ H vs us Q I rv ⟨G, r, M, ds, Qd, S, rd, t, k⟩
  unfold wAll at t
  split at t
  · obtain ⟨v, rfl, hv⟩ := rd.one
    split at t
    · rename_i xs e
      split at t
      · rename_i ns e2
        obtain ⟨a, ws, rfl, h2, h3⟩ := S.list hv e
        rw [blsD_eq e2] at h3
        rw [h3.bls_inv] at h2
        exact cr_all hc pins s σ H _ us Q I rv ⟨a, ns, rfl, SqL.of h2, k.bl S t⟩
      · exact t.elim
    · exact t.elim
  · exact t.elim
theorem cd_any (hc : X.calm = true) : CallR X (.builtin "any") (rCallD X.K wAny) := by
  rintro pins s σ H vs us Q I rv ⟨G, r, M, ds, Qd, S, rd, t, k⟩
  unfold wAny at t
  split at t
  · obtain ⟨v, rfl, hv⟩ := rd.one
    split at t
    · rename_i xs e
      split at t
      · rename_i ns e2
        obtain ⟨a, ws, rfl, h2, h3⟩ := S.list hv e
        rw [blsD_eq e2] at h3
        rw [h3.bls_inv] at h2
        exact cr_any hc pins s σ H _ us Q I rv ⟨a, ns, rfl, SqL.of h2, k.bl S t⟩
      · exact t.elim
    · exact t.elim
  · exact t.elim
theorem cd_int : CallR X (.type "int") (rCallD X.K wInt) := by
  rintro pins s σ H vs us Q I rv ⟨G, r, M, ds, Qd, S, rd, t, k⟩
  unfold wInt at t
  split at t
  · obtain ⟨v, rfl, hv⟩ := rd.one
    obtain rfl := hv.int_inv
    exact call_int1 pins s σ H _ us Q I rv (.inl ⟨_, rfl, k.int S t⟩)
  · obtain ⟨v, rfl, hv⟩ := rd.one
    obtain rfl := hv.bl_inv
    exact call_int1 pins s σ H _ us Q I rv (.inr ⟨_, rfl, k.int S t⟩)
  · obtain ⟨v, rfl, hv⟩ := rd.one
    obtain rfl := hv.str_inv
    obtain ⟨n, t1, t2⟩ := t
    exact call_int_str pins s σ H _ us Q I rv ⟨_, n, rfl, t1.1, t1.2, k.int S t2⟩
  · exact t.elim
end

/-! ### subscripts, slices -/
def wIx : OD := fun x y M Q => match seqA M x, y with
  | some ds, .int i => (match atI ds i with
    | some d => Q d M
    | none => False)
  | none, .int i => (match x with
    | .str z => z.length ≤ sizeLine ∧ (match atI z.cps.toList i with
      | some c => Q (.str ⟨#[c]⟩) M
      | none => False)
    | _ => False)
  | _, _ => False
theorem FzL.atI {K : PySem.W.Frag} {G : Hp} {vs : List V} {ds : List D} {i : Int} {d : D} (t : FzL K G vs ds) (h : L2.atI ds i = some d) : ∃ v, L2.atI vs i = some v ∧ Fz K G v d := by
  unfold L2.atI at h ⊢
  rw [t.length]
  cases e : ixN ds.length i with
  | none => rw [e] at h; cases h
  | some j =>
    rw [e] at h
    obtain ⟨v, h1, h2⟩ := t.get (show ds[j]? = some d from h)
    exact ⟨v, h1, h2⟩
section
variable {X : Cx} {Wx : WX} {a b e : Expr} {pos p2 : Pos} {ta tb : TD} {lo hi : Option Expr}
theorem ixd_all : IxR X (rOpD X.K wIx) := by
  rintro value slice pins s σ H x y v u Q I rx ry ⟨G, r, M, dx, dy, Qd, S, hx, hy, t, k⟩ hs
  unfold wIx at t
  split at t
  · rename_i ds i e
    obtain rfl := hy.int_inv
    split at t
    · rename_i d e2
      unfold seqA at e
      split at e
      · rename_i ys e1
        cases e
        obtain ⟨a, ws, rfl, h2, h3⟩ := S.list hx e1
        obtain ⟨w, q1, q2⟩ := h3.atI e2
        exact ix_list value slice pins s σ H _ _ v u Q I rx ry ⟨a, ws, _, w, rfl, rfl, SqL.of h2, q1, k.now t S (.fz q2)⟩ hs
      · obtain ⟨a, ws, rfl, h2, h3⟩ := S.tuple hx e
        obtain ⟨w, q1, q2⟩ := h3.atI e2
        exact ix_tup value slice pins s σ H _ _ v u Q I rx ry ⟨a, ws, _, w, rfl, rfl, SqT.of h2, q1, k.now t S (.fz q2)⟩ hs
    · exact t.elim
  · rename_i i e
    obtain rfl := hy.int_inv
    split at t
    · rename_i z
      obtain rfl := hx.str_inv
      obtain ⟨t1, t2⟩ := t
      split at t2
      · rename_i c e2
        exact ix_str value slice pins s σ H _ _ v u Q I rx ry ⟨_, _, c, rfl, rfl, t1, e2, k.str S t2⟩ hs
      · exact t2.elim
    · exact t.elim
  · exact t.elim
def isSlice : Expr → Bool
  | .Slice _ _ _ _ => true
  | _ => false
theorem plainIx {b : Expr} (h : isSlice b = false) : PlainIx b := by
  intro o i
  cases b <;> first | rfl | cases h
theorem d_ix (ha : PE X a (LiftE X.K Wx ta)) (hb : PE X b (LiftE X.K Wx tb)) (h : isSlice b = false) : PE X (.Subscript a b pos) (LiftE X.K Wx (dBin wIx ta tb)) := by
  refine PE_imp (pe_ix ixd_all ha hb (plainIx h)) fun σ H Q ⟨G, r, sd, M, Wd, Qd, S, L, lw, t, k⟩ => ?_
  refine ⟨G, r, sd, M, Wd, _, S, L, lw, t, fun x M1 t1 G1 r1 H1 v x1 p1 S1 rx => ?_⟩
  refine ⟨G1, r1, sd, M1, Wd, _, S1, L.mono x1.ge p1, lw.ext x1 p1, t1, fun y M2 t2 G2 r2 H2 u x2 p2 S2 ry => ?_⟩
  exact ⟨G2, r2, M2, x, y, Qd, S2, rx.mono x2.ge p2, ry, t2, k.ext (x1.trans x2) (p1.trans p2)⟩
def cutD (xs : List D) (lo hi : Option Int) : List D := (xs.drop (HT.sIx xs.length 0 lo)).take (HT.sIx xs.length xs.length hi - HT.sIx xs.length 0 lo)
def wSl (fresh : Bool) (x : D) (lo hi : Option Int) (M : MC) (Q : QD) : Prop := match seqL M x with
  | some ds => mkL fresh (cutD ds lo hi) M Q
  | none => match x with
    | .tup ds => Q (.tup (cutD ds lo hi)) M
    | .str z => z.length ≤ sizeLine ∧ Q (.str (cutS z lo hi)) M
    | .scr ns => mkL fresh (cutD (ns.map .int) lo hi) M Q
    | _ => False
theorem FzL.cut {K : PySem.W.Frag} {G : Hp} {vs : List V} {ds : List D} (t : FzL K G vs ds) (lo hi : Option Int) : FzL K G (cutV vs lo hi) (cutD ds lo hi) := by
  unfold cutV cutD
  rw [t.length]
  exact (t.drop _).take _
def rSlD (K : PySem.W.Frag) (fresh : Bool) : V → Option Int → Option Int → Hp → VK → Prop := fun x lo hi H Q => ∃ G r M d Qd, SR K G r H M ∧ Rp K G r x d ∧ wSl fresh d lo hi M Qd ∧ KQ K G r H Qd Q
theorem sld_all (fresh : Bool) : L2.SlR X (rSlD X.K fresh) := by
  rintro pins s σ H x v vl vu lo hi sl Q I rx hs pl pu ⟨G, r, M, d, Qd, S, hx, t, k⟩
  unfold wSl at t
  split at t
  · rename_i ds e
    obtain ⟨a, ws, rfl, h2, h3⟩ := S.list hx e
    exact sl_list pins s σ H _ v vl vu lo hi sl Q I rx hs pl pu ⟨a, ws, rfl, SqL.of h2, fun p hp => k.newL S hp (h3.cut lo hi) t⟩
  · split at t
    · rename_i ds e1
      obtain ⟨a, ws, rfl, h2, h3⟩ := S.tuple hx rfl
      refine sl_tupA pins s σ H _ v vl vu lo hi sl Q I rx hs pl pu ⟨a, ws, rfl, SqT.of h2, fun q => ?_, fun _ p hp => k.newT S hp (h3.cut lo hi) t⟩
      have e : cutD ds lo hi = ds := by
        unfold cutD
        rw [h3.length] at q
        rw [q.1, q.2, List.drop_zero, Nat.sub_zero, List.take_length]
      rw [e] at t
      exact k.now t S hx
    · obtain rfl := hx.str_inv
      exact sl_str pins s σ H _ v vl vu lo hi sl Q I rx hs pl pu ⟨_, rfl, t.1, k.str S t.2⟩
    · obtain ⟨a, rfl, h2⟩ := hx.scr_inv S
      exact sl_list pins s σ H _ v vl vu lo hi sl Q I rx hs pl pu ⟨a, _, rfl, h2, fun p hp => k.newL S hp ((FzL.ints _).cut lo hi) t⟩
    · exact t.elim
abbrev TDO := WD → SD → MC → (Option Int → MC → Prop) → Prop
def dNoPart : TDO := fun _ _ M Q => Q none M
def dPart (t : TD) : TDO := fun W sd M Q => t W sd M fun d M1 => match d with
  | .int i => Q (some i) M1
  | _ => False
def LiftO (K : PySem.W.Frag) (Wx : WX) (t : TDO) : TO := fun σ H Q => ∃ G r sd M Wd Qd, SR K G r H M ∧ SlR K G r σ sd ∧ LW K Wx G r H Wd ∧ t Wd sd M Qd ∧ ∀ o M', Qd o M' → ∀ G' r' H', Ext G r H G' r' H' → PX r r' → SR K G' r' H' M' → Q o H'
theorem do_none : PO X none (LiftO X.K Wx dNoPart) := ⟨fun pins s σ H Q I ⟨G, r, sd, M, Wd, Qd, S, L, lw, t, k⟩ => po_none.run pins s σ H Q I (k _ _ t G r H (Ext.refl _ _ _) (PX.refl _) S)⟩
theorem do_some (h : PE X e (LiftE X.K Wx ta)) : PO X (some e) (LiftO X.K Wx (dPart ta)) := ⟨fun pins s σ H Q I ⟨G, r, sd, M, Wd, Qd, S, L, lw, t, k⟩ => (po_some h).run pins s σ H Q I
  ⟨G, r, sd, M, Wd, _, S, L, lw, t, fun d M1 t1 G1 r1 H1 v x1 p1 S1 rv => by
    split at t1
    · obtain rfl := rv.int_inv
      exact ⟨_, rfl, k _ _ t1 G1 r1 H1 x1 p1 S1⟩
    · exact t1.elim⟩⟩
def dSl (fresh : Bool) (te : TD) (tl th : TDO) : TD := fun W sd M Q => te W sd M fun x M1 => tl W sd M1 fun l M2 => th W sd M2 fun h M3 => wSl fresh x l h M3 Q
theorem d_slice {tl th : TDO} (fresh : Bool) (he : PE X e (LiftE X.K Wx ta)) (hl : PO X lo (LiftO X.K Wx tl)) (hh : PO X hi (LiftO X.K Wx th)) : PE X (.Subscript e (.Slice lo hi none p2) pos) (LiftE X.K Wx (dSl fresh ta tl th)) := by
  refine PE_imp (pe_slice (sld_all fresh) he hl hh) fun σ H Q ⟨G, r, sd, M, Wd, Qd, S, L, lw, t, k⟩ => ?_
  refine ⟨G, r, sd, M, Wd, _, S, L, lw, t, fun x M1 t1 G1 r1 H1 v x1 p1 S1 rx => ?_⟩
  refine ⟨G1, r1, sd, M1, Wd, _, S1, L.mono x1.ge p1, lw.ext x1 p1, t1, fun l M2 t2 G2 r2 H2 x2 p2 S2 => ?_⟩
  have x02 := x1.trans x2
  have p02 := p1.trans p2
  refine ⟨G2, r2, sd, M2, Wd, _, S2, L.mono x02.ge p02, lw.ext x02 p02, t2, fun h M3 t3 G3 r3 H3 x3 p3 S3 => ?_⟩
  exact ⟨G3, r3, M3, x, Qd, S3, (rx.mono x2.ge p2).mono x3.ge p3, t3, k.ext (x02.trans x3) (p02.trans p3)⟩
def wRev (fresh : Bool) (x : D) (M : MC) (Q : QD) : Prop := match seqL M x with
  | some ds => mkL fresh ds.reverse M Q
  | none => False
def dRev (fresh : Bool) (te : TD) : TD := fun W sd M Q => te W sd M fun x M1 => wRev fresh x M1 Q
theorem d_rev (fresh : Bool) {k : Nat} {q1 q2 q3 : Pos} (he : PE X e (LiftE X.K Wx ta)) : PE X (.Subscript e (.Slice none none (some (.UnaryOp .USub (.Constant (.int 1) k q1) q2)) q3) pos) (LiftE X.K Wx (dRev fresh ta)) := by
  refine PE_imp (pe_revL he) fun σ H Q ⟨G, r, sd, M, Wd, Qd, S, L, lw, t, kq⟩ => ?_
  refine ⟨G, r, sd, M, Wd, _, S, L, lw, t, fun x M1 t1 G1 r1 H1 v x1 p1 S1 rx => ?_⟩
  unfold wRev at t1
  split at t1
  · rename_i ds e
    obtain ⟨a, ws, rfl, h2, h3⟩ := S1.list rx e
    exact ⟨a, ws, rfl, SqL.of h2, fun p hp => (kq.ext x1 p1).newL S1 hp h3.reverse t1⟩
  · exact t1.elim
end
end DL
set_option Elab.async false
set_option linter.all false
set_option maxRecDepth 100000
set_option maxHeartbeats 4000000
namespace DL
open PySem PySem.Spec L2

/-! ### what is walked -/
/-- the walk J yields ds, while chk stands -/
structure ItOk (K : PySem.W.Frag) (G0 : Hp) (r0 : List Addr) (J : It) (ds : List D) (chk : MC → Prop) : Prop where
  go : ∀ (i : Nat) (d : D), ds[i]? = some d → ∀ G r H M, GE G0 G → PX r0 r → SR K G r H M → chk M → J.go i H ∧ ∀ x H', J.yld i H x H' → ∃ G', Ext G r H G' r H' ∧ SR K G' r H' M ∧ Fz K G' x d
  stop : ∀ G r H M, GE G0 G → PX r0 r → SR K G r H M → chk M → J.stop ds.length H
theorem ItOk.ext {K : PySem.W.Frag} {G0 G1 : Hp} {r0 r1 : List Addr} {J : It} {ds : List D} {chk : MC → Prop} (h : ItOk K G0 r0 J ds chk) (g : GE G0 G1) (p : PX r0 r1) : ItOk K G1 r1 J ds chk :=
  ⟨fun i d e G r H M g1 p1 => h.go i d e G r H M (g.trans g1) (p.trans p1), fun G r H M g1 p1 => h.stop G r H M (g.trans g1) (p.trans p1)⟩
abbrev TDI := WD → SD → MC → (List D → (MC → Prop) → MC → Prop) → Prop
def LiftI (K : PySem.W.Frag) (Wx : WX) (t : TDI) : TI := fun σ H R => ∃ G r sd M Wd Qd, SR K G r H M ∧ SlR K G r σ sd ∧ LW K Wx G r H Wd ∧ t Wd sd M Qd ∧
  ∀ ds chk M', Qd ds chk M' → ∀ G' r' H', Ext G r H G' r' H' → PX r r' → SR K G' r' H' M' → ∀ J, ItOk K G' r' J ds chk → R J H'
section
variable {X : Cx} {Wx : WX} {tg e a b : Expr} {ta tb : TD} {tl : TDA} {p pos : Pos} {x : Str}
theorem itok_list {K : PySem.W.Frag} {G0 : Hp} {r0 : List Addr} {a : Addr} {vs : List V} {ds : List D} (h : G0 a = some (.lst vs)) (t : FzL K G0 vs ds) : ItOk K G0 r0 (Itl K a) ds fun _ => True := by
  refine ⟨fun i d e G r H M g p S _ => ?_, fun G r H M g p S _ => ?_⟩
  · have hH := S.readL (g _ _ h)
    obtain ⟨v, h1, h2⟩ := t.get e
    refine ⟨⟨vs, v, SqL.of hH, h1⟩, fun y H' ⟨q1, q2⟩ => ?_⟩
    subst q1
    refine ⟨G, Ext.refl _ _ _, S, ?_⟩
    have := q2 vs (SqL.of hH)
    rw [h1] at this
    cases this
    exact h2.mono g
  · exact ⟨vs, SqL.of (S.readL (g _ _ h)), Nat.le_of_eq t.length⟩
theorem itok_tup {K : PySem.W.Frag} {G0 : Hp} {r0 : List Addr} {a : Addr} {vs : List V} {ds : List D} (h : G0 a = some (.tup vs)) (t : FzL K G0 vs ds) : ItOk K G0 r0 (Itt K a) ds fun _ => True := by
  refine ⟨fun i d e G r H M g p S _ => ?_, fun G r H M g p S _ => ?_⟩
  · have hH := S.readT (g _ _ h)
    obtain ⟨v, h1, h2⟩ := t.get e
    refine ⟨⟨vs, v, SqT.of hH, h1⟩, fun y H' ⟨q1, q2⟩ => ?_⟩
    subst q1
    refine ⟨G, Ext.refl _ _ _, S, ?_⟩
    have := q2 vs (SqT.of hH)
    rw [h1] at this
    cases this
    exact h2.mono g
  · exact ⟨vs, SqT.of (S.readT (g _ _ h)), Nat.le_of_eq t.length⟩
theorem itok_cell {K : PySem.W.Frag} {G0 : Hp} {r0 : List Addr} {a : Addr} {k : Nat} {ds : List D} (h : r0[k]? = some a) : ItOk K G0 r0 (Itl K a) ds fun M => M[k]? = some (.lst ds) := by
  refine ⟨fun i d e G r H M g p S c => ?_, fun G r H M g p S c => ?_⟩
  · obtain ⟨vs, hH, t⟩ := S.cell k a _ (p _ _ h) c
    obtain ⟨v, h1, h2⟩ := t.get e
    refine ⟨⟨vs, v, SqL.of hH, h1⟩, fun y H' ⟨q1, q2⟩ => ?_⟩
    subst q1
    refine ⟨G, Ext.refl _ _ _, S, ?_⟩
    have := q2 vs (SqL.of hH)
    rw [h1] at this
    cases this
    exact h2
  · obtain ⟨vs, hH, t⟩ := S.cell k a _ (p _ _ h) c
    exact ⟨vs, SqL.of hH, Nat.le_of_eq t.length⟩
theorem itok_scr {K : PySem.W.Frag} {G0 : Hp} {r0 : List Addr} {a : Addr} {ns : List Int} (h : (∃ ob, G0 a = some (.frz ob (.lst (ns.map V.int)))) ∨ KL K a (ns.map V.int)) : ItOk K G0 r0 (Itl K a) (ns.map D.int) fun _ => True := by
  have sq : ∀ {G r H M}, GE G0 G → SR K G r H M → SqL K H a (ns.map V.int) := fun g S => by
    rcases h with ⟨ob, h⟩ | h
    · exact .inl (.inr ⟨ob, S.readS (g _ _ h)⟩)
    · exact .inr h
  refine ⟨fun i d e G r H M g p S _ => ?_, fun G r H M g p S _ => ?_⟩
  · rw [List.getElem?_map] at e
    cases q : ns[i]? with
    | none => rw [q] at e; cases e
    | some z =>
      rw [q] at e
      cases e
      have h1 : (ns.map V.int)[i]? = some (V.int z) := by rw [List.getElem?_map, q]; rfl
      refine ⟨⟨_, _, sq g S, h1⟩, fun y H' ⟨q1, q2⟩ => ?_⟩
      subst q1
      refine ⟨G, Ext.refl _ _ _, S, ?_⟩
      have := q2 _ (sq g S)
      rw [h1] at this
      cases this
      exact .int z
  · exact ⟨_, sq g S, by rw [List.length_map, List.length_map]; exact Nat.le_refl _⟩
def ranD (lo : Int) (n : Nat) : List D := (List.range n).map fun (i : Nat) => D.int (lo + (i : Int))
theorem ranD_get (lo : Int) (n i : Nat) : (ranD lo n)[i]? = if i < n then some (D.int (lo + (i : Int))) else none := by
  unfold ranD
  rw [List.getElem?_map]
  by_cases h : i < n
  · rw [if_pos h, List.getElem?_range h]; rfl
  · rw [if_neg h, List.getElem?_eq_none (by simpa using h)]; rfl
theorem ranD_length (lo : Int) (n : Nat) : (ranD lo n).length = n := by unfold ranD; simp
theorem itok_range {K : PySem.W.Frag} {G0 : Hp} {r0 : List Addr} {lo : Int} {n : Nat} : ItOk K G0 r0 (Itr lo n) (ranD lo n) fun _ => True := by
  refine ⟨fun i d e G r H M g p S _ => ?_, fun G r H M g p S _ => ?_⟩
  · rw [ranD_get] at e
    split at e
    · rename_i h
      cases e
      refine ⟨h, fun y H' ⟨q1, q2⟩ => ?_⟩
      subst q1 q2
      exact ⟨G, Ext.refl _ _ _, S, .int _⟩
    · cases e
  · show n ≤ (ranD lo n).length
    rw [ranD_length]; exact Nat.le_refl _
def signsD (z : Str) : List D := z.cps.toList.map fun c => D.str ⟨#[c]⟩
theorem itok_str {K : PySem.W.Frag} {G0 : Hp} {r0 : List Addr} {z : Str} : ItOk K G0 r0 (Its z) (signsD z) fun _ => True := by
  refine ⟨fun i d e G r H M g p S _ => ?_, fun G r H M g p S _ => ?_⟩
  · unfold signsD at e
    rw [List.getElem?_map] at e
    cases q : z.cps.toList[i]? with
    | none => rw [q] at e; cases e
    | some c =>
      rw [q] at e
      cases e
      have hl := (List.getElem?_eq_some_iff.mp q).1
      refine ⟨(show i < z.cps.size from by simpa using hl), fun y H' ⟨q1, c', q2, q3⟩ => ?_⟩
      subst q1 q3
      have : z.cps[i]? = some c := by simpa using q
      rw [this] at q2
      cases q2
      exact ⟨G, Ext.refl _ _ _, S, .str _⟩
  · show z.cps.size ≤ (signsD z).length
    unfold signsD
    rw [List.length_map, Array.length_toList]
    exact Nat.le_refl _
/-- enumerate -/
def enumD (ds : List D) : List D := ds.zipIdx.map fun p => D.tup [.int (p.2 : Nat), p.1]
theorem enumD_get {ds : List D} {i : Nat} {q : D} (h : (enumD ds)[i]? = some q) : ∃ d, ds[i]? = some d ∧ q = .tup [.int (i : Nat), d] := by
  unfold enumD at h
  rw [List.getElem?_map, List.getElem?_zipIdx] at h
  cases e : ds[i]? with
  | none => rw [e] at h; cases h
  | some d =>
    rw [e] at h
    cases h
    exact ⟨d, rfl, by simp⟩
theorem enumD_length (ds : List D) : (enumD ds).length = ds.length := by unfold enumD; simp
theorem itok_enum {K : PySem.W.Frag} {G0 : Hp} {r0 : List Addr} {a : Addr} {ds : List D} {chk : MC → Prop}
    (src : ∀ G r H M, GE G0 G → PX r0 r → SR K G r H M → chk M → ∃ vs, H a = some (.lst vs) ∧ FzL K G vs ds) : ItOk K G0 r0 (Ite K a) (enumD ds) chk := by
  refine ⟨fun i q e G r H M g p S c => ?_, fun G r H M g p S c => ?_⟩
  · obtain ⟨d, e1, rfl⟩ := enumD_get e
    obtain ⟨vs, hH, t⟩ := src G r H M g p S c
    obtain ⟨v, h1, h2⟩ := t.get e1
    refine ⟨⟨vs, v, SqL.of hH, h1⟩, fun y H' ⟨T, x, q1, q2, q3, q4⟩ => ?_⟩
    subst q1 q3
    have := q4 vs (SqL.of hH)
    rw [h1] at this
    cases this
    have ge : GE G (upd G T (.tup [.int (i : Nat), v])) := GE.upd (S.new_G q2)
    exact ⟨_, Ext.laid S q2, S.laid q2, .tup upd_same (.cons (.int _) (.cons (h2.mono ge) .nil))⟩
  · obtain ⟨vs, hH, t⟩ := src G r H M g p S c
    exact ⟨vs, SqL.of hH, by rw [enumD_length, t.length]; exact Nat.le_refl _⟩
/-- zip of two lists, of two tuples -/
def zipD (xs ys : List D) : List D := (xs.zip ys).map fun p => D.tup [p.1, p.2]
theorem zipD_get {xs ys : List D} {i : Nat} {q : D} (h : (zipD xs ys)[i]? = some q) : ∃ x y, xs[i]? = some x ∧ ys[i]? = some y ∧ q = .tup [x, y] := by
  unfold zipD at h
  rw [List.getElem?_map] at h
  cases e : (xs.zip ys)[i]? with
  | none => rw [e] at h; cases h
  | some p =>
    rw [e] at h
    cases h
    obtain ⟨h1, h2⟩ := List.getElem?_zip_eq_some.mp e
    exact ⟨_, _, h1, h2, rfl⟩
theorem itok_zip {K : PySem.W.Frag} {G0 : Hp} {r0 : List Addr} {a b : Addr} {ds es : List D} {chk : MC → Prop}
    (src : ∀ G r H M, GE G0 G → PX r0 r → SR K G r H M → chk M → ∃ vs ws, H a = some (.lst vs) ∧ FzL K G vs ds ∧ H b = some (.lst ws) ∧ FzL K G ws es) : ItOk K G0 r0 (Itz K a b) (zipD ds es) chk := by
  refine ⟨fun i q e G r H M g p S c => ?_, fun G r H M g p S c => ?_⟩
  · obtain ⟨d, d', e1, e2, rfl⟩ := zipD_get e
    obtain ⟨vs, ws, hH, t, hH2, t2⟩ := src G r H M g p S c
    obtain ⟨v, h1, h2⟩ := t.get e1
    obtain ⟨v', h1', h2'⟩ := t2.get e2
    refine ⟨⟨vs, ws, v, v', SqL.of hH, SqL.of hH2, h1, h1'⟩, fun y H' ⟨T, x, x', q1, q2, q3, q4, q5⟩ => ?_⟩
    subst q1 q3
    have z := q4 vs (SqL.of hH)
    rw [h1] at z
    cases z
    have z := q5 ws (SqL.of hH2)
    rw [h1'] at z
    cases z
    have ge : GE G (upd G T (.tup [v, v'])) := GE.upd (S.new_G q2)
    exact ⟨_, Ext.laid S q2, S.laid q2, .tup upd_same (.cons (h2.mono ge) (.cons (h2'.mono ge) .nil))⟩
  · obtain ⟨vs, ws, hH, t, hH2, t2⟩ := src G r H M g p S c
    refine ⟨vs, ws, SqL.of hH, SqL.of hH2, ?_⟩
    rw [t.length, t2.length]
    unfold zipD
    rw [List.length_map, List.length_zip]
    omega
theorem itok_zipT {K : PySem.W.Frag} {G0 : Hp} {r0 : List Addr} {a b : Addr} {ds es : List D} {vs ws : List V} (ha : G0 a = some (.tup vs)) (t : FzL K G0 vs ds) (hb : G0 b = some (.tup ws)) (t2 : FzL K G0 ws es) : ItOk K G0 r0 (RZ.ItzT K a b) (zipD ds es) fun _ => True := by
  refine ⟨fun i q e G r H M g p S c => ?_, fun G r H M g p S c => ?_⟩
  · obtain ⟨d, d', e1, e2, rfl⟩ := zipD_get e
    have hH := S.readT (g _ _ ha)
    have hH2 := S.readT (g _ _ hb)
    obtain ⟨v, h1, h2⟩ := t.get e1
    obtain ⟨v', h1', h2'⟩ := t2.get e2
    refine ⟨⟨vs, ws, v, v', SqT.of hH, SqT.of hH2, h1, h1'⟩, fun y H' ⟨T, x, x', q1, q2, q3, q4, q5⟩ => ?_⟩
    subst q1 q3
    have z := q4 vs (SqT.of hH)
    rw [h1] at z
    cases z
    have z := q5 ws (SqT.of hH2)
    rw [h1'] at z
    cases z
    have ge : GE G (upd G T (.tup [v, v'])) := GE.upd (S.new_G q2)
    exact ⟨_, Ext.laid S q2, S.laid q2, .tup upd_same (.cons ((h2.mono g).mono ge) (.cons ((h2'.mono g).mono ge) .nil))⟩
  · refine ⟨vs, ws, SqT.of (S.readT (g _ _ ha)), SqT.of (S.readT (g _ _ hb)), ?_⟩
    rw [t.length, t2.length]
    unfold zipD
    rw [List.length_map, List.length_zip]
    omega
/-- the items of a value that is walked by itself -/
def wIter (d : D) (M : MC) (Q : List D → (MC → Prop) → MC → Prop) : Prop := match d with
  | .lst ds => Q ds (fun _ => True) M
  | .tup ds => Q ds (fun _ => True) M
  | .str z => Q (signsD z) (fun _ => True) M
  | .scr ns => Q (List.map (fun (z : Int) => D.int z) ns) (fun _ => True) M
  | .ref k => (match M[k]? with
    | some (.lst ds) => Q ds (fun M => M[k]? = some (.lst ds)) M
    | some (.frz (.lst ds)) => Q ds (fun _ => True) M
    | some (.frz (.tup ds)) => Q ds (fun _ => True) M
    | _ => False)
  | _ => False
def dIter (t : TD) : TDI := fun W sd M Q => t W sd M fun d M1 => wIter d M1 Q
theorem di_seq (ha : PE X e (LiftE X.K Wx ta)) : PI X tg e (LiftI X.K Wx (dIter ta)) := by
  refine ⟨fun pins s σ H R I ⟨G, r, sd, M, Wd, Qd, S, L, lw, t, k⟩ => ?_⟩
  refine thn (ha.run pins s σ H (fun v H1 => ∃ G1 r1 M1 d, Ext G r H G1 r1 H1 ∧ PX r r1 ∧ SR X.K G1 r1 H1 M1 ∧ Rp X.K G1 r1 v d ∧ wIter d M1 Qd) I ⟨G, r, sd, M, Wd, _, S, L, lw, t, fun d M1 t1 G1 r1 H1 v x1 p1 S1 rv => ⟨G1, r1, M1, d, x1, p1, S1, rv, t1⟩⟩) fun u s1 ⟨v, H1, I1, rvu, G1, r1, M1, d, x1, p1, S1, rv, t1⟩ => ?_
  have lst : ∀ {a : Addr} {vs : List V} {u : Value} {J : It}, RelV (.ref a) u → H1 a = some (.lst vs) → R (Itl X.K a) H1 → wpAny (model X.prog X.w) X.A (pyIter u) (PIE X pins σ tg R) X.xe s1 := fun {a vs u J} ru hH q => by
    cases ru
    obtain ⟨its, rw_, p, hz⟩ := I1.list (SqL.of (K := X.K) hH)
    exact wpAny_pyIter_list p.isList (pi_one (tk := s1.toks) I1 _ (turn_list a _) ⟨_, Heap.get?_push_size _ rfl, rfl, rfl⟩ q)
  unfold wIter at t1
  split at t1
  · cases rv with
    | fz h => cases h with
      | lst hg tt => exact lst (J := Itl X.K 0) rvu (S1.readL hg) (k _ _ _ t1 G1 r1 H1 x1 p1 S1 _ (itok_list hg tt))
  · cases rv with
    | fz h => cases h with
      | @tup a vs ds hg tt =>
        cases rvu
        obtain ⟨its, rw_, p, hz⟩ := I1.tuple (SqT.of (K := X.K) (S1.readT hg))
        exact wpAny_pyIter_tuple (show s1.heap.IsTuple a its.toArray from p) (pi_one (tk := s1.toks) I1 _ (turn_tuple a _) ⟨_, Heap.get?_push_size _ rfl, rfl, rfl⟩ (k _ _ _ t1 G1 r1 H1 x1 p1 S1 _ (itok_tup hg tt)))
  · rename_i z
    obtain rfl := rv.str_inv
    obtain ⟨t, rfl⟩ := rvu
    have q := k _ _ _ t1 G1 r1 H1 x1 p1 S1 _ itok_str
    cases ha : z.cps.all (· < 128)
    · exact wpAny_pyIter_wide ha (pi_one (tk := s1.toks) I1 _ (turn_str _ z t "str_iterator" (.inr rfl)) ⟨_, Heap.get?_push_size _ rfl, rfl, rfl⟩ q)
    · exact wpAny_pyIter_ascii ha (pi_one (tk := s1.toks) I1 _ (turn_str _ z t "str_ascii_iterator" (.inl rfl)) ⟨_, Heap.get?_push_size _ rfl, rfl, rfl⟩ q)
  · rename_i ns
    cases rv with
    | fz h => cases h with
      | @scr a _ hg =>
        have sq : SqL X.K H1 a (ns.map V.int) := by
          rcases hg with ⟨ob, hg⟩ | hg
          · exact .inl (.inr ⟨ob, S1.readS hg⟩)
          · exact .inr hg
        cases rvu
        obtain ⟨its, rw_, p, hz⟩ := I1.list sq
        exact wpAny_pyIter_list p.isList (pi_one (tk := s1.toks) I1 _ (turn_list a _) ⟨_, Heap.get?_push_size _ rfl, rfl, rfl⟩ (k _ _ _ t1 G1 r1 H1 x1 p1 S1 _ (itok_scr hg)))
  · rename_i j
    cases rv with
    | fz h => cases h
    | @ref _ a hj =>
      split at t1
      · rename_i ds hc
        obtain ⟨vs, h1, h2⟩ := S1.cell _ _ _ hj hc
        exact lst (J := Itl X.K 0) rvu h1 (k _ _ _ t1 G1 r1 H1 x1 p1 S1 _ (itok_cell hj))
      · rename_i ds hc
        obtain ⟨h1, _⟩ := S1.cell _ _ _ hj hc
        cases h1 with
        | lst hg tt => exact lst (J := Itl X.K 0) rvu (S1.readL hg) (k _ _ _ t1 G1 r1 H1 x1 p1 S1 _ (itok_list hg tt))
      · rename_i ds hc
        obtain ⟨h1, _⟩ := S1.cell _ _ _ hj hc
        cases h1 with
        | tup hg tt =>
          cases rvu
          obtain ⟨its, rw_, p, hz⟩ := I1.tuple (SqT.of (K := X.K) (S1.readT hg))
          exact wpAny_pyIter_tuple (show s1.heap.IsTuple a its.toArray from p) (pi_one (tk := s1.toks) I1 _ (turn_tuple a _) ⟨_, Heap.get?_push_size _ rfl, rfl, rfl⟩ (k _ _ _ t1 G1 r1 H1 x1 p1 S1 _ (itok_tup hg tt)))
      · exact t1.elim
  · exact t1.elim
def inR (i : Int) : Prop := -(2 ^ 62) ≤ i ∧ i < 2 ^ 62
/-- range(n), range(a, b) -/
def rng1Q (Q : List D → (MC → Prop) → MC → Prop) (ds : List D) (M1 : MC) : Prop := match ds with
  | [.int j] => inR j ∧ Q (ranD 0 j.toNat) (fun _ => True) M1
  | _ => False
def rng2Q (Q : List D → (MC → Prop) → MC → Prop) (ds : List D) (M1 : MC) : Prop := match ds with
  | [.int i, .int j] => (inR i ∧ inR j) ∧ Q (ranD i (j - i).toNat) (fun _ => True) M1
  | _ => False
def dRng1 (tl : TDA) : TDI := fun W sd M Q => tl W sd M (rng1Q Q)
def dRng2 (tl : TDA) : TDI := fun W sd M Q => tl W sd M (rng2Q Q)
theorem di_range1 (hg : Gl X "range") (hm : X.mg "range" = none) (h : PA X [a] (LiftA X.K Wx tl)) (hs : isStar a = false) : PI X tg (.Call (.Name "range" p) [a] [] pos) (LiftI X.K Wx (dRng1 tl)) := by
  have hi := pi_range1 (tg := tg) (p := p) (pos := pos) hg hm h (star_cons hs)
  refine ⟨fun pins s σ H R I ⟨G, r, sd, M, Wd, Qd, S, L, lw, t, k⟩ => hi.run pins s σ H R I ⟨G, r, sd, M, Wd, _, S, L, lw, t, fun ds M1 t1 G1 r1 H1 vs x1 p1 S1 rv => ?_⟩⟩
  unfold rng1Q at t1
  split at t1
  · obtain ⟨v, rfl, hv⟩ := rv.one
    obtain rfl := hv.int_inv
    exact ⟨_, rfl, t1.1.1, t1.1.2, k _ _ _ t1.2 G1 r1 H1 x1 p1 S1 _ itok_range⟩
  · exact t1.elim
theorem di_range2 (hg : Gl X "range") (hm : X.mg "range" = none) (h : PA X [a, b] (LiftA X.K Wx tl)) (hs : noStar [a, b] = true) : PI X tg (.Call (.Name "range" p) [a, b] [] pos) (LiftI X.K Wx (dRng2 tl)) := by
  have hst := noStar_cons hs
  have hst2 := noStar_cons hst.2
  have hi := pi_range2 (tg := tg) (p := p) (pos := pos) hg hm h (by rw [star_cons hst.1, star_cons hst2.1]; rfl) (star_cons hst2.1)
  refine ⟨fun pins s σ H R I ⟨G, r, sd, M, Wd, Qd, S, L, lw, t, k⟩ => hi.run pins s σ H R I ⟨G, r, sd, M, Wd, _, S, L, lw, t, fun ds M1 t1 G1 r1 H1 vs x1 p1 S1 rv => ?_⟩⟩
  unfold rng2Q at t1
  split at t1
  · obtain ⟨v, u, rfl, hv, hu⟩ := rv.two
    obtain rfl := hv.int_inv
    obtain rfl := hu.int_inv
    exact ⟨_, _, rfl, ⟨t1.1.1.1, t1.1.1.2, t1.1.2.1, t1.1.2.2⟩, k _ _ _ t1.2 G1 r1 H1 x1 p1 S1 _ itok_range⟩
  · exact t1.elim
end
end DL
set_option Elab.async false
set_option linter.all false
set_option maxRecDepth 100000
set_option maxHeartbeats 4000000
namespace DL
open PySem PySem.Spec L2

/-! ### targets -/
abbrev TDG := D → WD → SD → MC → (SD → MC → Prop) → Prop
abbrev TDGs := List D → WD → SD → MC → (SD → MC → Prop) → Prop
theorem wipe_get (σ : St) (vs : List Nat) (j : Nat) : (wipe σ vs)[j]? = if j ∈ vs then (if j < σ.length then some none else none) else σ[j]? := by
  induction vs with
  | nil => simp [wipe]
  | cons v vs ih =>
    unfold wipe
    by_cases hv : v = j
    · subst hv
      by_cases hl : v < σ.length
      · rw [List.getElem?_set_self (by rw [wipe_length]; exact hl)]
        simp [hl]
      · rw [List.getElem?_eq_none (by rw [List.length_set, wipe_length]; omega)]
        simp [hl]
    · rw [List.getElem?_set_ne hv, ih]
      have : (j ∈ v :: vs) ↔ j ∈ vs := by simp [Ne.symm hv]
      simp only [this]
theorem wipe_set (σ : St) (vs : List Nat) (i : Nat) (x : Option V) (h : i ∈ vs) : wipe (σ.set i x) vs = wipe σ vs := by
  apply List.ext_getElem?
  intro j
  rw [wipe_get, wipe_get]
  by_cases hj : j ∈ vs
  · rw [if_pos hj, if_pos hj, List.length_set]
  · rw [if_neg hj, if_neg hj, List.getElem?_set_ne (fun (e : i = j) => hj (by rw [← e]; exact h))]
def wipeD (sd : SD) : List Nat → SD
  | [] => sd
  | v :: vs => (wipeD sd vs).set v none
theorem wipeD_length (sd : SD) : ∀ vs : List Nat, (wipeD sd vs).length = sd.length
  | [] => rfl
  | v :: vs => by unfold wipeD; rw [List.length_set, wipeD_length sd vs]
theorem SlR.wipe {K : PySem.W.Frag} {G : Hp} {r : List Addr} {σ : St} {sd : SD} (h : SlR K G r σ sd) : ∀ vs : List Nat, SlR K G r (L2.wipe σ vs) (wipeD sd vs)
  | [] => h
  | v :: vs => by
    have ih := SlR.wipe h vs
    refine ⟨by rw [wipe_length, wipeD_length]; exact h.1, fun i d e => ?_⟩
    unfold wipeD at e
    by_cases hv : v = i
    · subst hv
      by_cases hl : v < (wipeD sd vs).length
      · rw [List.getElem?_set_self hl] at e; cases e
      · rw [List.getElem?_eq_none (by simpa using hl)] at e; cases e
    · rw [List.getElem?_set_ne hv] at e
      obtain ⟨x, h1, h2⟩ := ih.2 i d e
      refine ⟨x, ?_, h2⟩
      unfold L2.wipe
      rw [List.getElem?_set_ne hv]
      exact h1
def LiftG (K : PySem.W.Frag) (Wx : WX) (vs : List Nat) (t : TDG) : TG := fun v σ H Q => ∃ G r sd M Wd Qd d, SR K G r H M ∧ SlR K G r σ sd ∧ LW K Wx G r H Wd ∧ Rp K G r v d ∧ t d Wd sd M Qd ∧
  ∀ sd' M', Qd sd' M' → ∀ G' r' H' σ', Ext G r H G' r' H' → PX r r' → SR K G' r' H' M' → SlR K G' r' σ' sd' → wipe σ' vs = wipe σ vs → Q σ' H'
def LiftGs (K : PySem.W.Frag) (Wx : WX) (vs : List Nat) (t : TDGs) : TGs := fun v σ H Q => ∃ G r sd M Wd Qd d, SR K G r H M ∧ SlR K G r σ sd ∧ LW K Wx G r H Wd ∧ RpL K G r v d ∧ t d Wd sd M Qd ∧
  ∀ sd' M', Qd sd' M' → ∀ G' r' H' σ', Ext G r H G' r' H' → PX r r' → SR K G' r' H' M' → SlR K G' r' σ' sd' → wipe σ' vs = wipe σ vs → Q σ' H'
theorem PG_imp {X : Cx} {e : Expr} {t t' : TG} (h : PG X e t) (i : ∀ v σ H Q, t' v σ H Q → t v σ H Q) : PG X e t' := ⟨fun pins s σ H v u Q I r w => h.run pins s σ H v u Q I r (i v σ H Q w)⟩
theorem PGs_imp {X : Cx} {e : List Expr} {t t' : TGs} (h : PGs X e t) (i : ∀ v σ H Q, t' v σ H Q → t v σ H Q) : PGs X e t' := ⟨fun pins s σ H v u Q I r w => h.run pins s σ H v u Q I r (i v σ H Q w)⟩
def gNm (i : Nat) : TDG := fun d _ sd M Q => Q (sd.set i (some d)) M
def gNo : TDGs := fun ds _ sd M Q => match ds with
  | [] => Q sd M
  | _ => False
def gCo (t : TDG) (u : TDGs) : TDGs := fun ds W sd M Q => match ds with
  | d :: r => t d W sd M fun sd1 M1 => u r W sd1 M1 Q
  | _ => False
def gTp (n : Nat) (t : TDGs) : TDG := fun d W sd M Q => match d with
  | .tup ds => ds.length = n ∧ t ds W sd M Q
  | _ => False
section
variable {X : Cx} {Wx : WX} {e : Expr} {es : List Expr} {pos : Pos} {i k : Nat} {x : Str} {vs : List Nat} {t : TDG} {u : TDGs}
theorem g_name (hN : X.N.Nodup) (hi : X.N[i]? = some x) (hx : Loc X.env.scope x) (hf : X.fn x = true ∨ X.env.scope.names.lookup x = some .local) (hm : i ∈ vs) : PG X (.Name x pos) (LiftG X.K Wx vs (gNm i)) :=
  PG_imp (pg_name hN hi hx hf) fun v σ H Q ⟨G, r, sd, M, Wd, Qd, d, S, L, lw, rv, t, k⟩ => k _ _ t G r H _ (Ext.refl _ _ _) (PX.refl _) S (L.set i rv) (wipe_set σ vs i _ hm)
theorem gs_nil : PGs X [] (LiftGs X.K Wx vs gNo) :=
  PGs_imp pgs_nil fun v σ H Q ⟨G, r, sd, M, Wd, Qd, d, S, L, lw, rv, t, k⟩ => by
    unfold gNo at t
    split at t
    · cases rv
      exact ⟨rfl, k _ _ t G r H _ (Ext.refl _ _ _) (PX.refl _) S L rfl⟩
    · exact t.elim
theorem gs_cons (h1 : PG X e (LiftG X.K Wx vs t)) (h2 : PGs X es (LiftGs X.K Wx vs u)) (hs : (assignEach (e :: es) X.env).map (·.2) = assign e X.env :: (assignEach es X.env).map (·.2)) : PGs X (e :: es) (LiftGs X.K Wx vs (gCo t u)) :=
  PGs_imp (pgs_cons h1 h2 hs) fun v σ H Q ⟨G, r, sd, M, Wd, Qd, d, S, L, lw, rv, t, k⟩ => by
    unfold gCo at t
    split at t
    · cases rv with
      | cons r1 rr =>
        refine ⟨_, _, rfl, G, r, sd, M, Wd, _, _, S, L, lw, r1, t, fun sd1 M1 t1 G1 r1' H1 σ1 x1 p1 S1 L1 w1 => ?_⟩
        exact ⟨G1, r1', sd1, M1, Wd, _, _, S1, L1, lw.ext x1 p1, rr.mono x1.ge p1, t1, fun sd2 M2 t2 G2 r2 H2 σ2 x2 p2 S2 L2 w2 => k _ _ t2 _ _ _ _ (x1.trans x2) (p1.trans p2) S2 L2 (w2.trans w1)⟩
    · exact t.elim
theorem g_tup {n : Nat} (hc : X.calm = true) (h : PGs X es (LiftGs X.K Wx vs u)) (hn : (assignEach es X.env).length = n) (hst : (assignEach es X.env).findIdx? (·.1) = none) : PG X (.Tuple es k pos) (LiftG X.K Wx vs (gTp n u)) :=
  PG_imp (pg_tup hc h hn hst) fun v σ H Q ⟨G, r, sd, M, Wd, Qd, d, S, L, lw, rv, t, k⟩ => by
    unfold gTp at t
    split at t
    · cases rv with
      | fz hf =>
        cases hf with
        | tup hg tt =>
          refine ⟨_, _, rfl, SqT.of (S.readT hg), ?_, ?_⟩
          · rw [tt.length]; exact t.1
          · exact ⟨G, r, sd, M, Wd, Qd, _, S, L, lw, tt.rp, t.2, k⟩
    · exact t.elim
end

/-! ### statements -/
def dNext : TDS := fun _ Z sd M => Z.nx sd M
def dSeq (t u : TDS) : TDS := fun W Z sd M => t W { Z with nx := u W Z } sd M
def dBrk : TDS := fun _ Z sd M => Z.bk sd M
def dCnt : TDS := fun _ Z sd M => Z.ct sd M
def dExpr (te : TD) : TDS := fun W Z sd M => te W sd M fun _ M1 => Z.nx sd M1
def dRet (te : TD) : TDS := fun W Z sd M => te W sd M Z.rt
def dRetN : TDS := fun _ Z _ M => Z.rt .non M
def dIfS (c : TDT) (t u : TDS) : TDS := fun W Z sd M => c W sd M fun b M1 => if b = true then t W Z sd M1 else u W Z sd M1
def dAsg (te : TD) (g : TDG) : TDS := fun W Z sd M => te W sd M fun d M1 => g d W sd M1 Z.nx
def dPar (i j : Nat) (ta : TDA) : TDS := fun W Z sd M => ta W sd M fun ds M1 => match ds with
  | [x, y] => Z.nx ((sd.set i (some x)).set j (some y)) M1
  | _ => False
def dPar3 (i j l : Nat) (ta : TDA) : TDS := fun W Z sd M => ta W sd M fun ds M1 => match ds with
  | [x, y, z] => Z.nx (((sd.set i (some x)).set j (some y)).set l (some z)) M1
  | _ => False
def dAug (i : Nat) (te : TD) (w : OD) : TDS := fun W Z sd M => match sd[i]? with
  | some (some x) => te W sd M fun y M1 => w x y M1 fun z M2 => Z.nx (sd.set i (some z)) M2
  | _ => False
def dNever : TDS := fun _ _ _ _ => False
def dWhile (c : TDT) (tb : TDS) : TDS := fun W Z sd M => ∃ J : Nat → SD → MC → Prop, (∃ m, J m sd M) ∧ ∀ m sd M, J m sd M →
  c W sd M fun b M1 => if b = true then tb W { Z with nx := fun sd M => ∃ m', m' < m ∧ J m' sd M, ct := fun sd M => ∃ m', m' < m ∧ J m' sd M, bk := Z.nx } sd M1 else Z.nx sd M1
/-- what remains of a loop over ds -/
def loopD (g : TDG) (tb : TDS) (chk : MC → Prop) (W : WD) (Z : EndsD) : List D → SD → MC → Prop
  | [], sd, M => chk M ∧ Z.nx sd M
  | d :: ds, sd, M => chk M ∧ g d W sd M fun sd1 M1 => tb W { Z with nx := loopD g tb chk W Z ds, ct := loopD g tb chk W Z ds, bk := Z.nx } sd1 M1
def dFor (wi : TDI) (g : TDG) (tb : TDS) : TDS := fun W Z sd M => wi W sd M fun ds chk M1 => loopD g tb chk W Z ds sd M1

section
variable {X : Cx} {Wx : WX} {e c : Expr} {st : Stmt} {rest body orelse : List Stmt} {pos : Pos} {t u : TDS} {te : TD} {tl : TDA} {tc : TDT}
theorem s_nil : PSs X [] (LiftS X.K Wx dNext) := PSs_imp pss_nil fun Dn σ H ⟨G, r, sd, M, Wd, Z, S, L, lw, t, k⟩ => k.nx.now t S L
theorem s_cons (h1 : PS X st (LiftS X.K Wx t)) (h2 : PSs X rest (LiftS X.K Wx u)) : PSs X (st :: rest) (LiftS X.K Wx (dSeq t u)) :=
  PSs_imp (pss_cons h1 h2) fun Dn σ H ⟨G, r, sd, M, Wd, Z, S, L, lw, t, k⟩ =>
    ⟨G, r, sd, M, Wd, _, S, L, lw, t, ⟨fun sd1 M1 t1 G1 r1 H1 σ1 x1 p1 S1 L1 => ⟨G1, r1, sd1, M1, Wd, Z, S1, L1, lw.ext x1 p1, t1, k.ext x1 p1⟩, k.rt, k.bk, k.ct⟩⟩
theorem s_one (h1 : PS X st (LiftS X.K Wx t)) : PSs X [st] (LiftS X.K Wx t) := pss_one h1
theorem s_pass : PS X (.Pass pos) (LiftS X.K Wx dNext) := PS_imp ps_pass fun Dn σ H ⟨G, r, sd, M, Wd, Z, S, L, lw, t, k⟩ => k.nx.now t S L
theorem s_brk : PS X (.Break pos) (LiftS X.K Wx dBrk) := PS_imp ps_break fun Dn σ H ⟨G, r, sd, M, Wd, Z, S, L, lw, t, k⟩ => k.bk.now t S L
theorem s_cnt : PS X (.Continue pos) (LiftS X.K Wx dCnt) := PS_imp ps_continue fun Dn σ H ⟨G, r, sd, M, Wd, Z, S, L, lw, t, k⟩ => k.ct.now t S L
theorem s_doc {x : Str} {j pos pos'} : PS X (.Expr (.Constant (.str x) j pos) pos') (LiftS X.K Wx dNext) := PS_imp ps_doc fun Dn σ H ⟨G, r, sd, M, Wd, Z, S, L, lw, t, k⟩ => k.nx.now t S L
theorem s_never : PS X st (LiftS X.K Wx dNever) := PS_imp ps_never fun Dn σ H ⟨G, r, sd, M, Wd, Z, S, L, lw, t, k⟩ => t.elim
theorem s_expr (he : PE X e (LiftE X.K Wx te)) (hs : swapsWith e none pos.line X.env = pure false) : PS X (.Expr e pos) (LiftS X.K Wx (dExpr te)) :=
  PS_imp (ps_expr he hs) fun Dn σ H ⟨G, r, sd, M, Wd, Z, S, L, lw, t, k⟩ =>
    ⟨G, r, sd, M, Wd, _, S, L, lw, t, fun d M1 t1 G1 r1 H1 v x1 p1 S1 rv => (k.nx.ext x1 p1).now t1 S1 (L.mono x1.ge p1)⟩
theorem s_ret (he : PE X e (LiftE X.K Wx te)) : PS X (.Return (some e) pos) (LiftS X.K Wx (dRet te)) :=
  PS_imp (ps_ret he) fun Dn σ H ⟨G, r, sd, M, Wd, Z, S, L, lw, t, k⟩ => ⟨G, r, sd, M, Wd, _, S, L, lw, t, k.rt⟩
theorem s_retN : PS X (.Return none pos) (LiftS X.K Wx dRetN) := PS_imp ps_retN fun Dn σ H ⟨G, r, sd, M, Wd, Z, S, L, lw, t, k⟩ => k.rt.now t S (.fz .non)
theorem s_if (hc : PT X c (LiftT X.K Wx tc)) (ha : PSs X body (LiftS X.K Wx t)) (hb : PSs X orelse (LiftS X.K Wx u)) : PS X (.If c body orelse pos) (LiftS X.K Wx (dIfS tc t u)) :=
  PS_imp (ps_if hc ha hb) fun Dn σ H ⟨G, r, sd, M, Wd, Z, S, L, lw, t, k⟩ =>
    ⟨G, r, sd, M, Wd, _, S, L, lw, t, fun b M1 t1 G1 r1 H1 x1 p1 S1 => by
      cases b with
      | true =>
        rw [if_pos rfl] at t1 ⊢
        exact ⟨G1, r1, sd, M1, Wd, Z, S1, L.mono x1.ge p1, lw.ext x1 p1, t1, k.ext x1 p1⟩
      | false =>
        rw [if_neg (by decide)] at t1 ⊢
        exact ⟨G1, r1, sd, M1, Wd, Z, S1, L.mono x1.ge p1, lw.ext x1 p1, t1, k.ext x1 p1⟩⟩
theorem s_asg {tg : Expr} {g : TDG} {vs : List Nat} (he : PE X e (LiftE X.K Wx te)) (hg : PG X tg (LiftG X.K Wx vs g)) (hs : swapsWithSole [tg] e pos.line X.env = pure false) (hw : swappedStores [tg] e X.env = pure none) (h1 : (assignEach [tg] X.env).map (·.2) = [assign tg X.env]) :
    PS X (.Assign [tg] e pos) (LiftS X.K Wx (dAsg te g)) :=
  PS_imp (ps_asg he hg hs hw h1) fun Dn σ H ⟨G, r, sd, M, Wd, Z, S, L, lw, t, k⟩ =>
    ⟨G, r, sd, M, Wd, _, S, L, lw, t, fun d M1 t1 G1 r1 H1 v x1 p1 S1 rv => ⟨G1, r1, sd, M1, Wd, _, d, S1, L.mono x1.ge p1, lw.ext x1 p1, rv, t1, fun sd2 M2 t2 G2 r2 H2 σ2 x2 p2 S2 L2 _ => k.nx _ _ t2 _ _ _ _ (x1.trans x2) (p1.trans p2) S2 L2⟩⟩
theorem s_set {i : Nat} {x : Str} {pos' : Pos} (hN : X.N.Nodup) (hi : X.N[i]? = some x) (hx : Loc X.env.scope x) (he : PE X e (LiftE X.K Wx te)) (hs : swapsWith e (some (.Name x pos')) pos.line X.env = pure false) (hf : X.fn x = true ∨ X.env.scope.names.lookup x = some .local) :
    PS X (.Assign [.Name x pos'] e pos) (LiftS X.K Wx (dAsg te (gNm i))) :=
  PS_imp (ps_set hN hi hx he hs hf) fun Dn σ H ⟨G, r, sd, M, Wd, Z, S, L, lw, t, k⟩ =>
    ⟨G, r, sd, M, Wd, _, S, L, lw, t, fun d M1 t1 G1 r1 H1 v x1 p1 S1 rv => (k.nx.ext x1 p1).now t1 S1 ((L.mono x1.ge p1).set i rv)⟩
theorem s_par {i j : Nat} {x y : Str} {a b : Expr} {px py pt : Pos} {kt k2 pt2} (hc : X.calm = true) (hN : X.N.Nodup) (hi : X.N[i]? = some x) (hj : X.N[j]? = some y) (hij : i ≠ j)
    (hx : X.env.scope.names.lookup x = some .local) (hy : X.env.scope.names.lookup y = some .local) (ha : PA X [a, b] (LiftA X.K Wx tl))
    (hw : swappedStores [.Tuple [.Name x px, .Name y py] kt pt] (.Tuple [a, b] k2 pt2) X.env = pure (some [x, y])) :
    PS X (.Assign [.Tuple [.Name x px, .Name y py] kt pt] (.Tuple [a, b] k2 pt2) pos) (LiftS X.K Wx (dPar i j tl)) :=
  PS_imp (ps_par hc hN hi hj hij hx hy ha hw) fun Dn σ H ⟨G, r, sd, M, Wd, Z, S, L, lw, t, k⟩ =>
    ⟨G, r, sd, M, Wd, _, S, L, lw, t, fun d M1 t1 G1 r1 H1 v x1 p1 S1 rv => by
      split at t1
      · obtain ⟨v, u, rfl, hv, hu⟩ := rv.two
        exact ⟨_, _, rfl, (k.nx.ext x1 p1).now t1 S1 (((L.mono x1.ge p1).set i hv).set j hu)⟩
      · exact t1.elim⟩
theorem s_aug {i : Nat} {x : Str} {op : Operator} {pos' : Pos} {w : OD} (hN : X.N.Nodup) (hi : X.N[i]? = some x) (hx : Loc X.env.scope x) (he : PE X e (LiftE X.K Wx te)) (ho : OpR X (inplaceOp op) (rOpD X.K w)) (hf : X.fn x = true ∨ X.env.scope.names.lookup x = some .local) :
    PS X (.AugAssign (.Name x pos') op e pos) (LiftS X.K Wx (dAug i te w)) :=
  PS_imp (ps_aug hN hi hx he (ti := rOpD X.K w) (fun pins s σ H x y v u Q I r1 r2 h => ho pins s σ H x y v u Q I r1 r2 h) hf) fun Dn σ H ⟨G, r, sd, M, Wd, Z, S, L, lw, t, k⟩ => by
    unfold dAug at t
    split at t
    · rename_i d e1
      obtain ⟨v, h1, h2⟩ := L.get e1
      refine ⟨v, h1, G, r, sd, M, Wd, _, S, L, lw, t, fun y M1 t1 G1 r1 H1 v1 x1 p1 S1 rv => ?_⟩
      refine ⟨G1, r1, M1, d, y, _, S1, h2.mono x1.ge p1, rv, t1, fun z M2 t2 G2 r2 H2 v2 x2 p2 S2 rz => ?_⟩
      exact (k.nx.ext (x1.trans x2) (p1.trans p2)).now t2 S2 ((L.mono (x1.trans x2).ge (p1.trans p2)).set i rz)
    · exact t.elim
theorem s_while {c : Expr} (hp : PassesOwn (model X.prog X.w) X.A X.env X.xe) (hc : PT X c (LiftT X.K Wx tc)) (hb : PSs X body (LiftS X.K Wx t)) : PS X (.While c body [] pos) (LiftS X.K Wx (dWhile tc t)) := by
  refine PS_imp (ps_while hp hc hb) fun Dn σ H ⟨G, r, sd, M, Wd, Z, S, L, lw, ⟨J, ⟨m0, j0⟩, step⟩, k⟩ => ?_
  refine ⟨fun m σ H => ∃ G' r' sd' M', SR X.K G' r' H M' ∧ SlR X.K G' r' σ sd' ∧ LW X.K Wx G' r' H Wd ∧ KEnds X.K G' r' H Z Dn ∧ J m sd' M', ⟨m0, G, r, sd, M, S, L, lw, k, j0⟩, ?_⟩
  rintro m σ1 H1 ⟨G1, r1, sd1, M1, S1, L1, lw1, k1, j1⟩
  refine ⟨G1, r1, sd1, M1, Wd, _, S1, L1, lw1, step _ _ _ j1, fun b M2 t2 G2 r2 H2 x2 p2 S2 => ?_⟩
  cases b with
  | true =>
    rw [if_pos rfl] at t2 ⊢
    refine ⟨_, fun σ' H' h => h, G2, r2, sd1, M2, Wd, _, S2, L1.mono x2.ge p2, lw1.ext x2 p2, t2, ?_⟩
    have go : KS X.K G2 r2 H2 (fun sd M => ∃ m', m' < m ∧ J m' sd M) (fun σ' H' => ∃ m', m' < m ∧ ∃ G' r' sd' M', SR X.K G' r' H' M' ∧ SlR X.K G' r' σ' sd' ∧ LW X.K Wx G' r' H' Wd ∧ KEnds X.K G' r' H' Z Dn ∧ J m' sd' M') :=
      fun sd3 M3 ⟨m', hm, j3⟩ G3 r3 H3 σ3 x3 p3 S3 L3 => ⟨m', hm, G3, r3, sd3, M3, S3, L3, lw1.ext (x2.trans x3) (p2.trans p3), k1.ext (x2.trans x3) (p2.trans p3), j3⟩
    exact ⟨go, k1.rt.ext x2 p2, k1.nx.ext x2 p2, go⟩
  | false =>
    rw [if_neg (by decide)] at t2 ⊢
    exact (k1.nx.ext x2 p2).now t2 S2 (L1.mono x2.ge p2)
theorem s_for {tg iter : Expr} {wi : TDI} {g : TDG} {vs : List Nat} (hp : PassesOwn (model X.prog X.w) X.A X.env X.xe) (hc : X.calm = true) (hi : PI X tg iter (LiftI X.K Wx wi)) (hg : PG X tg (LiftG X.K Wx vs g)) (hb : PSs X body (LiftS X.K Wx t))
    (hs : ∀ x, foldedSetIterable iter X.env x = pure x) : PS X (.For tg iter body [] pos) (LiftS X.K Wx (dFor wi g t)) := by
  refine PS_imp (ps_for hp hc hi hg hb hs) fun Dn σ H ⟨G, r, sd, M, Wd, Z, S, L, lw, w, k⟩ => ?_
  refine ⟨G, r, sd, M, Wd, _, S, L, lw, w, fun ds chk M1 t1 G1 r1 H1 x1 p1 S1 J ok => ?_⟩
  refine ⟨fun i m σ H => ∃ G' r' sd' M', SR X.K G' r' H M' ∧ SlR X.K G' r' σ sd' ∧ GE G1 G' ∧ PX r1 r' ∧ LW X.K Wx G' r' H Wd ∧ KEnds X.K G' r' H Z Dn ∧ m = ds.length - i ∧ i ≤ ds.length ∧ loopD g t chk Wd Z (ds.drop i) sd' M',
    ⟨ds.length, G1, r1, sd, M1, S1, L.mono x1.ge p1, GE.refl _, PX.refl _, lw.ext x1 p1, k.ext x1 p1, rfl, Nat.zero_le _, t1⟩, ?_⟩
  rintro i m σ2 H2 ⟨G2, r2, sd2, M2, S2, L2, g2, p2, lw2, k2, rfl, hi, q⟩
  by_cases hlt : i < ds.length
  · rw [List.drop_eq_getElem_cons hlt] at q
    obtain ⟨hc, q⟩ := q
    obtain ⟨go, yl⟩ := ok.go i ds[i] (List.getElem?_eq_getElem hlt) G2 r2 H2 M2 g2 p2 S2 hc
    refine .inr ⟨go, _, fun σ' H' h => h, fun x H3 y => ?_⟩
    obtain ⟨G3, x3, S3, f3⟩ := yl x H3 y
    refine ⟨G3, r2, sd2, M2, Wd, _, ds[i], S3, L2.mono x3.ge (PX.refl _), lw2.ext x3 (PX.refl _), .fz f3, q, fun sd4 M4 t4 G4 r4 H4 σ4 x4 p4 S4 L4 _ => ?_⟩
    refine ⟨G4, r4, sd4, M4, Wd, _, S4, L4, lw2.ext (x3.trans x4) p4, t4, ?_⟩
    have go : KS X.K G4 r4 H4 (loopD g t chk Wd Z (ds.drop (i + 1))) (fun σ' H' => ∃ m', m' < ds.length - i ∧ ∃ G' r' sd' M', SR X.K G' r' H' M' ∧ SlR X.K G' r' σ' sd' ∧ GE G1 G' ∧ PX r1 r' ∧ LW X.K Wx G' r' H' Wd ∧ KEnds X.K G' r' H' Z Dn ∧ m' = ds.length - (i + 1) ∧ i + 1 ≤ ds.length ∧ loopD g t chk Wd Z (ds.drop (i + 1)) sd' M') :=
      fun sd5 M5 q5 G5 r5 H5 σ5 x5 p5 S5 L5 => ⟨ds.length - (i + 1), by omega, G5, r5, sd5, M5, S5, L5, g2.trans ((x3.trans x4).trans x5).ge, p2.trans (p4.trans p5), lw2.ext ((x3.trans x4).trans x5) (p4.trans p5), k2.ext ((x3.trans x4).trans x5) (p4.trans p5), rfl, hlt, q5⟩
    exact ⟨go, k2.rt.ext (x3.trans x4) p4, k2.nx.ext (x3.trans x4) p4, go⟩
  · have e0 : i = ds.length := by omega
    subst e0
    rw [List.drop_length] at q
    exact .inl ⟨ok.stop G2 r2 H2 M2 g2 p2 S2 q.1, k2.nx.now q.2 S2 L2⟩
end
end DL
set_option Elab.async false
set_option linter.all false
set_option maxRecDepth 100000
set_option maxHeartbeats 4000000
namespace DL
open PySem PySem.Spec L2

/-! ### a thing that is being made beside the state -/
section
variable {K : PySem.W.Frag} {G G' G2 : Hp} {r r' r2 : List Addr} {H H' H2 : Hp} {M M' : MC} {D : Addr} {o : HO}
theorem SR.without (S : SR K G r H M) (h1 : D ∉ r) (h2 : G D = none) : SR K G r (fun a => if a = D then none else H a) M := by
  refine ⟨fun b u e => ?_, S.len, S.nd, fun k b c hk hc => ?_, S.off⟩
  · have hb : b ≠ D := fun z => by rw [z, h2] at e; cases e
    exact rd_keep (fun o' e' => by rw [if_neg hb]; exact e') (S.sub b u e)
  · have hb : b ≠ D := fun z => h1 (z ▸ List.mem_of_getElem? hk)
    exact (S.cell k b c hk hc).mono (GE.refl _) (PX.refl _) fun o' e' => by rw [if_neg hb]; exact e'
theorem upd_without (o : HO) : upd (fun a => if a = D then none else H a) D o = upd H D o := by
  funext a
  unfold upd
  by_cases h : a = D
  · simp [h]
  · simp [h]
theorem upd_same_fn {o : HO} (h : H D = some o) : upd H D o = H := by
  funext a
  unfold upd
  by_cases e : a = D
  · simp [e, h]
  · simp [e]
theorem SR.off0 (S : SR K G r H M) (h1 : D ∉ r) (h2 : G D = none) : SR K G r (upd H D o) M := by
  have := (S.without h1 h2).other (p := D) (o := o) (by simp)
  rwa [upd_without] at this
theorem SR.adoptG (S : SR K G r H M) (h1 : D ∉ r) (h2 : G D = none) (h : H D = some o) : SR K (upd G D o) r H M := by
  have := (S.without h1 h2).laid (p := D) (o := o) (by simp)
  rwa [upd_without, upd_same_fn h] at this
theorem SR.adoptR {vs : List V} {ds : List DL.D} (S : SR K G r H M) (h1 : D ∉ r) (h2 : G D = none) (h : H D = some (.lst vs)) (t : FzL K G vs ds) : SR K G (r ++ [D]) H (M ++ [.lst ds]) := by
  have := (S.without h1 h2).push (p := D) (o := .lst vs) (c := .lst ds) (by simp) ⟨vs, upd_same, t⟩
  rwa [upd_without, upd_same_fn h] at this
theorem Ext.beside (x : Ext G r H G' r' H') (h : H D = none) : Ext G r H G' r' (upd H' D o) :=
  ⟨x.ge, fun a u e n => by rw [upd_ne (ne_of_none e h)]; exact x.keep a u e n, x.cell, x.froz⟩
theorem Ext.besideG (x : Ext G r H G' r' H') (h : H D = none) (h2 : G' D = none) : Ext G r H (upd G' D o) r' H' := by
  refine ⟨x.ge.trans (GE.upd h2), x.keep, x.cell, fun b u e => ?_⟩
  by_cases hb : b = D
  · subst hb; exact .inr (.inl h)
  · rw [upd_ne hb] at e; exact x.froz b u e
theorem Ext.besideR (x : Ext G r H G' r' H') (h : H D = none) : Ext G r H G' (r' ++ [D]) H' := by
  refine ⟨x.ge, x.keep, fun b m => ?_, x.froz⟩
  rcases List.mem_append.mp m with m | m
  · exact x.cell b m
  · simp only [List.mem_singleton] at m
    subst m; exact .inr h
/-- it is not touched from inside -/
theorem Ext.apart (x : Ext G r H G' r' H') (h : H D = some o) (h1 : D ∉ r) (h2 : G D = none) : H' D = some o ∧ D ∉ r' ∧ G' D = none := by
  refine ⟨x.keep _ _ h h1, fun m => ?_, ?_⟩
  · rcases x.cell _ m with z | z
    · exact h1 z
    · rw [h] at z; cases z
  · cases e : G' D with
    | none => rfl
    | some u =>
      rcases x.froz _ _ e with z | z | z
      · rw [h2] at z; cases z
      · rw [h] at z; cases z
      · exact (h1 z).elim
end
theorem FzL.snoc {K : PySem.W.Frag} {G : Hp} {v : V} {d : D} (h : Fz K G v d) : ∀ {vs : List V} {ds : List D}, FzL K G vs ds → FzL K G (vs ++ [v]) (ds ++ [d])
  | _, _, .nil => .cons h .nil
  | _, _, .cons a t => .cons a (FzL.snoc h t)

/-! ### list comprehensions -/
def noX : WX := fun _ _ _ _ => False
def noW : WD := fun _ _ _ => False
def lcLoop (g : TDG) (tt : TDT) (te : TD) (chk : MC → Prop) (fin : List D → MC → Prop) (sd : SD) : List D → List D → MC → Prop
  | [], acc, M => chk M ∧ fin acc M
  | d :: ds, acc, M => chk M ∧ g d noW sd M fun sd1 M1 => tt noW sd1 M1 fun b M2 =>
      if b = true then te noW sd1 M2 fun y M3 => (isRef y = false ∧ acc.length < sizeLine) ∧ lcLoop g tt te chk fin sd ds (acc ++ [y]) M3 else lcLoop g tt te chk fin sd ds acc M2
def dLc (fresh : Bool) (wi : TDI) (g : TDG) (tt : TDT) (te : TD) (vs : List Nat) : TD := fun W sd M Q => wi W sd M fun ds chk M1 => lcLoop g tt te chk (fun acc M => mkL fresh acc M Q) (wipeD sd vs) ds [] M1
def dYes : TDT := fun _ _ M Q => Q true M
theorem PTs_imp {X : Cx} {e : List Expr} {t t' : TT} (h : PTs X e t) (i : ∀ σ H Q, t' σ H Q → t σ H Q) : PTs X e t' := ⟨fun pins s σ H Q I w => h.run pins s σ H Q I (i σ H Q w)⟩
theorem wipe_wipe (σ : St) (vs : List Nat) : wipe (wipe σ vs) vs = wipe σ vs := by
  apply List.ext_getElem?
  intro j
  rw [wipe_get, wipe_get, wipe_length]
  by_cases hj : j ∈ vs
  · rw [if_pos hj, if_pos hj]
  · rw [if_neg hj, if_neg hj]
theorem lift_lc {X : Cx} {Wx : WX} {fresh : Bool} {wi : TDI} {g : TDG} {tt : TDT} {te : TD} {vs : List Nat} (σ : St) (H : Hp) (Q : VK) (h : LiftE X.K Wx (dLc fresh wi g tt te vs) σ H Q) :
    tLc (LiftI X.K Wx wi) (LiftG X.K noX vs g) (LiftT X.K noX tt) (LiftE X.K noX te) vs σ H Q := by
  obtain ⟨G, r, sd, M, Wd, Qd, S, L, lw, w, k⟩ := h
  refine ⟨G, r, sd, M, Wd, _, S, L, lw, w, fun ds chk M1 t1 G1 r1 H1 x1 p1 S1 J ok Dn hD => ?_⟩
  refine ⟨fun i m H2 => ∃ G2 r2 M2 acc us, SR X.K G2 r2 H2 M2 ∧ Ext G1 r1 H1 G2 r2 H2 ∧ PX r1 r2 ∧ H2 Dn = some (.lst us) ∧ Dn ∉ r2 ∧ G2 Dn = none ∧ FzL X.K G2 us acc ∧ m = ds.length - i ∧ i ≤ ds.length ∧ lcLoop g tt te chk (fun acc M => mkL fresh acc M Qd) (wipeD sd vs) (ds.drop i) acc M2,
    ⟨ds.length, G1, r1, M1, [], [], S1.other hD, Ext.other hD, PX.refl _, upd_same, S1.new_r hD, S1.new_G hD, .nil, rfl, Nat.zero_le _, t1⟩, ?_⟩
  rintro i m H2 ⟨G2, r2, M2, acc, us, S2, x2, p2, hu, hr, hG, ta, rfl, hi, q⟩
  by_cases hlt : i < ds.length
  · rw [List.drop_eq_getElem_cons hlt] at q
    obtain ⟨hc, q⟩ := q
    obtain ⟨go, yl⟩ := ok.go i ds[i] (List.getElem?_eq_getElem hlt) G2 r2 H2 M2 x2.ge p2 S2 hc
    refine .inr ⟨go, _, fun H' h => h, fun x H3 y => ?_⟩
    obtain ⟨G3, x3, S3, f3⟩ := yl x H3 y
    obtain ⟨hu3, hr3, hG3⟩ := x3.apart hu hr hG
    have L3 : SlR X.K G3 r2 (wipe σ vs) (wipeD sd vs) := ((L.mono x1.ge p1).mono (x2.trans x3).ge p2).wipe vs
    refine ⟨G3, r2, wipeD sd vs, M2, noW, _, ds[i], S3, L3, fun e sd' M' z => z.elim, .fz f3, q, fun sd4 M4 t4 G4 r4 H4 σ4 x4 p4 S4 L4 w4 => ?_⟩
    obtain ⟨hu4, hr4, hG4⟩ := x4.apart hu3 hr3 hG3
    refine ⟨by rw [w4, wipe_wipe], G4, r4, sd4, M4, noW, _, S4, L4, fun e sd' M' z => z.elim, t4, fun b M5 t5 G5 r5 H5 x5 p5 S5 => ?_⟩
    obtain ⟨hu5, hr5, hG5⟩ := x5.apart hu4 hr4 hG4
    cases b with
    | true =>
      rw [if_pos rfl] at t5 ⊢
      refine ⟨G5, r5, sd4, M5, noW, _, S5, L4.mono x5.ge p5, fun e sd' M' z => z.elim, t5, fun y' M6 ⟨⟨hy, ha⟩, t6⟩ G6 r6 H6 v6 x6 p6 S6 r6' => ?_⟩
      obtain ⟨hu6, hr6, hG6⟩ := x6.apart hu5 hr5 hG5
      have X6 := (x2.trans (x3.trans (x4.trans (x5.trans x6))))
      refine ⟨us, hu6, by rw [(ta.mono (GE.refl _)).length]; exact ha, ds.length - (i + 1), by omega, G6, r6, M6, acc ++ [y'], us ++ [v6], S6.off0 hr6 hG6, X6.beside hD, p2.trans (p4.trans (p5.trans p6)), upd_same, hr6, hG6, ?_, rfl, hlt, t6⟩
      exact (ta.mono (x3.trans (x4.trans (x5.trans x6))).ge).snoc (r6'.toFz hy)
    | false =>
      rw [if_neg (by decide)] at t5 ⊢
      exact ⟨ds.length - (i + 1), by omega, G5, r5, M5, acc, us, S5, x2.trans (x3.trans (x4.trans x5)), p2.trans (p4.trans p5), hu5, hr5, hG5, ta.mono (x3.trans (x4.trans x5)).ge, rfl, hlt, t5⟩
  · have e0 : i = ds.length := by omega
    subst e0
    rw [List.drop_length] at q
    refine .inl ⟨ok.stop G2 r2 H2 M2 x2.ge p2 S2 q.1, ?_⟩
    have q := q.2
    unfold mkL at q
    cases fresh with
    | true =>
      rw [if_pos rfl] at q
      refine k _ _ q G2 (r2 ++ [Dn]) H2 _ (x1.trans (x2.besideR hD)) ((p1.trans p2).trans (PX.app _ _)) (S2.adoptR hr hG hu ta) (.ref ?_)
      rw [← S2.len]; simp
    | false =>
      rw [if_neg (by decide)] at q
      exact k _ _ q (upd G2 Dn (.lst us)) r2 H2 _ (x1.trans (x2.besideG hD hG)) (p1.trans p2) (S2.adoptG hr hG hu) (.fz (.lst upd_same (ta.mono (GE.upd hG))))
section
variable {X : Cx} {Wx : WX} {fresh : Bool} {elt tg iter c : Expr} {ifs : List Expr} {scope : Scope} {own : List (Str × Nat)} {pos spos py : Pos} {wi : TDI} {g : TDG} {tt : TDT} {te : TD} {i : Nat} {y : Str}
theorem ts_nil : PTs X [] (LiftT X.K Wx dYes) := PTs_imp pts_nil fun σ H Q ⟨G, r, sd, M, Wd, Qd, S, L, lw, t, k⟩ => k.now t S
theorem ts_one (h : PT X c (LiftT X.K Wx tt)) : PTs X [c] (LiftT X.K Wx tt) := pts_one h
theorem d_lc (hc : X.calm = true) (hN : X.N.Nodup) (hi : PI X tg iter (LiftI X.K Wx wi)) (ok : BlkOk X.N X.env.scope scope own)
    (hg : ∀ (s : Shared) (H : Hp) (C : Addr) (cl : List (Str × Addr)) (fp : List Addr), PG (X.blk s H scope (compEnvC scope cl C X.env) fp) tg (LiftG X.K noX (own.map (·.2)) g))
    (ht : ∀ (s : Shared) (H : Hp) (C : Addr) (cl : List (Str × Addr)) (fp : List Addr), PTs (X.blk s H scope (compEnvC scope cl C X.env) fp) ifs (LiftT X.K noX tt))
    (he : ∀ (s : Shared) (H : Hp) (C : Addr) (cl : List (Str × Addr)) (fp : List Addr), PE (X.blk s H scope (compEnvC scope cl C X.env) fp) elt (LiftE X.K noX te))
    (hs : ∀ x, foldedSetIterable iter X.env x = pure x) : PE X (.ListComp elt [⟨tg, iter, ifs, 0⟩] scope pos) (LiftE X.K Wx (dLc fresh wi g tt te (own.map (·.2)))) :=
  PE_imp (pe_lc hc hN hi ok hg ht he hs) lift_lc
theorem s_setLc (hc : X.calm = true) (hN : X.N.Nodup) (hy : X.N[i]? = some y) (hyl : X.env.scope.names.lookup y = some .local)
    (hsw : swapsWith (.ListComp elt [⟨tg, iter, ifs, 0⟩] scope pos) (some (.Name y py)) spos.line X.env = pure true) (hi : PI X tg iter (LiftI X.K Wx wi)) (ok : BlkOk X.N X.env.scope scope own)
    (hg : ∀ (s : Shared) (H : Hp) (C : Addr) (cl : List (Str × Addr)) (fp : List Addr), PG (X.blk s H scope (compEnvC scope cl C X.env) fp) tg (LiftG X.K noX (own.map (·.2)) g))
    (ht : ∀ (s : Shared) (H : Hp) (C : Addr) (cl : List (Str × Addr)) (fp : List Addr), PTs (X.blk s H scope (compEnvC scope cl C X.env) fp) ifs (LiftT X.K noX tt))
    (he : ∀ (s : Shared) (H : Hp) (C : Addr) (cl : List (Str × Addr)) (fp : List Addr), PE (X.blk s H scope (compEnvC scope cl C X.env) fp) elt (LiftE X.K noX te))
    (hs : ∀ x, foldedSetIterable iter X.env x = pure x) : PS X (.Assign [.Name y py] (.ListComp elt [⟨tg, iter, ifs, 0⟩] scope pos) spos) (LiftS X.K Wx (dAsg (dLc fresh wi g tt te (own.map (·.2))) (gNm i))) :=
  PS_imp (ps_setLc hc hN hy hyl hsw hi ok hg ht he hs) fun Dn σ H ⟨G, r, sd, M, Wd, Z, S, L, lw, t, k⟩ =>
    lift_lc σ H _ ⟨G, r, sd, M, Wd, _, S, L, lw, t, fun d M1 t1 G1 r1 H1 v x1 p1 S1 rv => (k.nx.ext x1 p1).now t1 S1 ((L.mono x1.ge p1).set i rv)⟩
end

/-! ### methods of lists -/
abbrev OM := D → List D → MC → QD → Prop
def rMtD (K : PySem.W.Frag) (w : OM) : V → List V → Hp → VK → Prop := fun x vs H Q => ∃ G r M d ds Qd, SR K G r H M ∧ Rp K G r x d ∧ RpL K G r vs ds ∧ w d ds M Qd ∧ KQ K G r H Qd Q
def tyD (T : String) (d : D) (M : MC) : Bool := match d with
  | .str _ => T == "str"
  | .int _ => T == "int"
  | .lst _ => T == "list"
  | .scr _ => T == "list"
  | .ref k => (match M[k]? with
    | some (.lst _) => T == "list"
    | some (.frz (.lst _)) => T == "list"
    | some (.frz (.scr _)) => T == "list"
    | _ => false)
  | _ => false
def dBM (T : String) (w : OM) (to : TD) (ta : TDA) : TD := fun W sd M Q => to W sd M fun d M1 => tyD T d M1 = true ∧ ta W sd M1 fun ds M2 => w d ds M2 Q
theorem tyD_ok {K : PySem.W.Frag} {G : Hp} {r : List Addr} {H : Hp} {M : MC} {T : String} {d : D} {v : V} (S : SR K G r H M) (h : Rp K G r v d) (e : tyD T d M = true) : tyV K T v H := by
  have lst : ∀ {a : Addr} {xs : List V}, SqL K H a xs → T = "list" → tyV K T (.ref a) H := fun q z => .inl ⟨z, _, q⟩
  have scr : ∀ {a : Addr} {ns : List Int}, ((∃ ob, G a = some (.frz ob (.lst (ns.map V.int)))) ∨ KL K a (ns.map V.int)) → T = "list" → tyV K T (.ref a) H := fun hg z => by
    rcases hg with ⟨ob, hg⟩ | hg
    · exact lst (.inl (.inr ⟨ob, S.readS hg⟩)) z
    · exact lst (.inr hg) z
  unfold tyD at e
  split at e
  · obtain rfl := h.str_inv
    exact beq_iff_eq.mp e
  · obtain rfl := h.int_inv
    exact beq_iff_eq.mp e
  · cases h with
    | fz h => cases h with
      | lst hg t => exact lst (SqL.of (S.readL hg)) (beq_iff_eq.mp e)
  · cases h with
    | fz h => cases h with
      | scr hg => exact scr hg (beq_iff_eq.mp e)
  · cases h with
    | fz h => cases h
    | ref hk =>
      split at e
      · rename_i ds hc
        obtain ⟨vs, h1, h2⟩ := S.cell _ _ _ hk hc
        exact lst (SqL.of h1) (beq_iff_eq.mp e)
      · rename_i ds hc
        obtain ⟨h1, _⟩ := S.cell _ _ _ hk hc
        cases h1 with
        | lst hg t => exact lst (SqL.of (S.readL hg)) (beq_iff_eq.mp e)
      · rename_i ds hc
        obtain ⟨h1, _⟩ := S.cell _ _ _ hk hc
        cases h1 with
        | scr hg => exact scr hg (beq_iff_eq.mp e)
      · cases e
  · cases e
/-- a list cell that is changed -/
def upL (k : Nat) (M : MC) (f : List D → Option (List D)) (q : List D → MC → Prop) : Prop := match M[k]? with
  | some (.lst ds) => (match f ds with
    | some es => q ds (M.set k (.lst es))
    | none => False)
  | _ => False
theorem up_ok {K : PySem.W.Frag} {G : Hp} {r : List Addr} {H : Hp} {M : MC} {a : Addr} {k : Nat} {ds es : List D} {vs us : List V} (S : SR K G r H M) (hk : r[k]? = some a) (hc : M[k]? = some (.lst ds)) (t : FzL K G us es) :
    SR K G r (upd H a (.lst us)) (M.set k (.lst es)) ∧ Ext G r H G r (upd H a (.lst us)) :=
  ⟨S.write hk hc rfl ⟨us, upd_same, t⟩ rfl, Ext.write hk⟩
def wAppend : OM := fun x ds M Q => match x, ds with
  | .ref k, [y] => (match M[k]? with
    | some (.lst xs) => (isRef y = false ∧ xs.length < sizeLine) ∧ Q .non (M.set k (.lst (xs ++ [y])))
    | _ => False)
  | _, _ => False
def wExtend : OM := fun x ds M Q => match x, ds with
  | .ref k, [y] => (match M[k]?, seqL M y with
    | some (.lst xs), some ys => xs.length + ys.length ≤ sizeLine ∧ Q .non (M.set k (.lst (xs ++ ys)))
    | _, _ => False)
  | _, _ => False
def wPop : OM := fun x ds M Q => match x, ds with
  | .ref k, [] => (match M[k]? with
    | some (.lst xs) => (match xs[xs.length - 1]? with
      | some y => Q y (M.set k (.lst xs.dropLast))
      | none => False)
    | _ => False)
  | .ref k, [.int i] => (match M[k]? with
    | some (.lst xs) => (-(2 ^ 63) ≤ i ∧ i < 2 ^ 63) ∧ (match PySem.seqIndex? i xs.length with
      | some j => (match xs[j]? with
        | some y => Q y (M.set k (.lst (xs.eraseIdx j)))
        | none => False)
      | none => False)
    | _ => False)
  | _, _ => False
theorem FzL.dropLast {K : PySem.W.Frag} {G : Hp} : ∀ {vs : List V} {ds : List D}, FzL K G vs ds → FzL K G vs.dropLast ds.dropLast
  | _, _, .nil => .nil
  | _, _, .cons a .nil => .nil
  | _, _, .cons a (.cons b t) => .cons a (FzL.dropLast (.cons b t))
theorem FzL.eraseIdx {K : PySem.W.Frag} {G : Hp} : ∀ (j : Nat) {vs : List V} {ds : List D}, FzL K G vs ds → FzL K G (vs.eraseIdx j) (ds.eraseIdx j)
  | _, _, _, .nil => .nil
  | 0, _, _, .cons a t => t
  | j + 1, _, _, .cons a t => .cons a (FzL.eraseIdx j t)
theorem Rp.refA {K : PySem.W.Frag} {G : Hp} {r : List Addr} {v : V} {k : Nat} (h : Rp K G r v (.ref k)) : ∃ a, v = .ref a ∧ r[k]? = some a := by
  cases h with
  | fz h => cases h
  | ref h => exact ⟨_, rfl, h⟩
section
variable {X : Cx}
theorem md_append : MtR X "list.append" (rMtD X.K wAppend) := by
  rintro pins s σ H x xs v us Q I rx rs ⟨G, r, M, d, ds, Qd, S, hx, hs, t, k⟩
  unfold wAppend at t
  split at t
  · obtain ⟨a, rfl, ha⟩ := hx.refA
    obtain ⟨y, rfl, hy⟩ := hs.one
    split at t
    · rename_i ws hc
      obtain ⟨vs, h1, h2⟩ := S.cell _ _ _ ha hc
      obtain ⟨⟨t1, t2⟩, t3⟩ := t
      have tt := h2.snoc (hy.toFz t1)
      refine mt_append pins s σ H _ _ v us Q I rx rs ⟨a, vs, y, rfl, rfl, h1, by rw [h2.length]; exact t2, ?_⟩
      exact k _ _ t3 _ _ _ _ (Ext.write ha) (PX.refl _) (S.write ha hc rfl ⟨_, upd_same, tt⟩ rfl) (.fz .non)
    · exact t.elim
  · exact t.elim
theorem md_extend : MtR X "list.extend" (rMtD X.K wExtend) := by
  rintro pins s σ H x xs v us Q I rx rs ⟨G, r, M, d, ds, Qd, S, hx, hs, t, k⟩
  unfold wExtend at t
  split at t
  · obtain ⟨a, rfl, ha⟩ := hx.refA
    obtain ⟨y, rfl, hy⟩ := hs.one
    split at t
    · rename_i ws ys hc e
      obtain ⟨vs, h1, h2⟩ := S.cell _ _ _ ha hc
      obtain ⟨b, zs, rfl, h3, h4⟩ := S.list hy e
      have tt : FzL X.K G (vs ++ zs) (ws ++ ys) := h2.append h4
      refine mt_extend pins s σ H _ _ v us Q I rx rs ⟨a, b, vs, zs, rfl, rfl, h1, h3, by rw [h2.length, h4.length]; exact t.1, ?_⟩
      exact k _ _ t.2 _ _ _ _ (Ext.write ha) (PX.refl _) (S.write ha hc rfl ⟨_, upd_same, tt⟩ rfl) (.fz .non)
    · exact t.elim
  · exact t.elim
theorem md_pop : MtR X "list.pop" (rMtD X.K wPop) := by
  rintro pins s σ H x xs v us Q I rx rs ⟨G, r, M, d, ds, Qd, S, hx, hs, t, k⟩
  unfold wPop at t
  split at t
  · obtain ⟨a, rfl, ha⟩ := hx.refA
    cases hs
    split at t
    · rename_i ws hc
      obtain ⟨vs, h1, h2⟩ := S.cell _ _ _ ha hc
      split at t
      · rename_i y e
        obtain ⟨u, e1, e2⟩ := h2.get e
        refine mt_pop pins s σ H _ _ v us Q I rx rs ⟨a, vs, u, rfl, rfl, h1, by rw [h2.length]; exact e1, ?_⟩
        exact k _ _ t _ _ _ _ (Ext.write ha) (PX.refl _) (S.write ha hc rfl ⟨_, upd_same, h2.dropLast⟩ rfl) (.fz e2)
      · exact t.elim
    · exact t.elim
  · rename_i i
    obtain ⟨a, rfl, ha⟩ := hx.refA
    obtain ⟨y, rfl, hy⟩ := hs.one
    obtain rfl := hy.int_inv
    split at t
    · rename_i ws hc
      obtain ⟨vs, h1, h2⟩ := S.cell _ _ _ ha hc
      obtain ⟨⟨t1, t2⟩, t3⟩ := t
      split at t3
      · rename_i j hj
        split at t3
        · rename_i y e
          obtain ⟨u, e1, e2⟩ := h2.get e
          refine mt_popAt pins s σ H _ _ v us Q I rx rs ⟨a, vs, i, j, u, rfl, rfl, h1, t1, t2, by rw [h2.length]; exact hj, e1, ?_⟩
          exact k _ _ t3 _ _ _ _ (Ext.write ha) (PX.refl _) (S.write ha hc rfl ⟨_, upd_same, h2.eraseIdx j⟩ rfl) (.fz e2)
        · exact t3.elim
      · exact t3.elim
    · exact t.elim
  · exact t.elim
end
section
variable {X : Cx} {Wx : WX} {o e : Expr} {es : List Expr} {to : TD} {t : TDA} {name : Str} {apos cpos : Pos} {T id : String} {w : OM}
theorem lift_bm (σ : St) (H : Hp) (Q : VK) (h : LiftE X.K Wx (dBM T w to t) σ H Q) : tBM X.K T (rMtD X.K w) (LiftE X.K Wx to) (LiftA X.K Wx t) σ H Q := by
  obtain ⟨G, r, sd, M, Wd, Qd, S, L, lw, t, k⟩ := h
  refine ⟨G, r, sd, M, Wd, _, S, L, lw, t, fun d M1 t1 G1 r1 H1 v x1 p1 S1 rv => ⟨tyD_ok S1 rv t1.1, G1, r1, sd, M1, Wd, _, S1, L.mono x1.ge p1, lw.ext x1 p1, t1.2, fun ds M2 t2 G2 r2 H2 vs x2 p2 S2 rs => ?_⟩⟩
  exact ⟨G2, r2, M2, d, ds, Qd, S2, rv.mono x2.ge p2, rs, t2, k.ext (x1.trans x2) (p1.trans p2)⟩
theorem d_bm (pa : PlainAttrs T) (slot : Slot T name id) (hty : typeOf (.builtin id) = pure (.type "method_descriptor")) (hm : MtR X id (rMtD X.K w)) (ho : PE X o (LiftE X.K Wx to)) (ha : PA X (e :: es) (LiftA X.K Wx t))
    (hbase : attributeBase o name X.env (eval o X.env) = eval o X.env)
    (hfew : ((backTo cpos (starEach (e :: es) X.env)).all (fun x => !x.1) && (backToKw cpos (keywordEach [] X.env)).all (fun x => x.1.isSome)
      && decide ((e :: es).length + ([] : List Keyword).length + (if ([] : List Keyword).isEmpty then 0 else 1) < 30)) = true)
    (hline : (apos.endLine == cpos.line) = true) (hs : starEach (e :: es) X.env = (false, eval e X.env) :: starEach es X.env) (hplain : (backTo cpos (starEach es X.env)).any (·.1) = false) :
    PE X (.Call (.Attribute o name apos) (e :: es) [] cpos) (LiftE X.K Wx (dBM T w to t)) :=
  PE_imp (pe_bm pa slot hty hm ho ha hbase hfew hline hs hplain) lift_bm
def dBM0 (T : String) (w : OM) (to : TD) : TD := fun W sd M Q => to W sd M fun d M1 => tyD T d M1 = true ∧ w d [] M1 Q
theorem d_bm0 (pa : PlainAttrs T) (slot : Slot T name id) (hty : typeOf (.builtin id) = pure (.type "method_descriptor")) (hm : MtR X id (rMtD X.K w)) (ho : PE X o (LiftE X.K Wx to))
    (hbase : attributeBase o name X.env (eval o X.env) = eval o X.env) (hline : (apos.endLine == cpos.line) = true) :
    PE X (.Call (.Attribute o name apos) [] [] cpos) (LiftE X.K Wx (dBM0 T w to)) :=
  PE_imp (pe_bm0 pa slot hty hm ho hbase hline) fun σ H Q ⟨G, r, sd, M, Wd, Qd, S, L, lw, t, k⟩ =>
    ⟨G, r, sd, M, Wd, _, S, L, lw, t, fun d M1 t1 G1 r1 H1 v x1 p1 S1 rv => ⟨tyD_ok S1 rv t1.1, G1, r1, M1, d, [], Qd, S1, rv, .nil, t1.2, k.ext x1 p1⟩⟩
end

/-! ### o[i] = v of lists -/
def wSet : D → D → D → MC → (MC → Prop) → Prop := fun o i v M Q => match o, i with
  | .ref k, .int j => (match M[k]? with
    | some (.lst xs) => isRef v = false ∧ (match ixN xs.length j with
      | some n => Q (M.set k (.lst (xs.set n v)))
      | none => False)
    | _ => False)
  | _, _ => False
def rSetD (K : PySem.W.Frag) (w : D → D → D → MC → (MC → Prop) → Prop) : V → V → V → Hp → (Hp → Prop) → Prop := fun o i v H Q => ∃ G r M do_ di dv Qd, SR K G r H M ∧ Rp K G r o do_ ∧ Rp K G r i di ∧ Rp K G r v dv ∧ w do_ di dv M Qd ∧
  ∀ M', Qd M' → ∀ G' r' H', Ext G r H G' r' H' → PX r r' → SR K G' r' H' M' → Q H'
theorem setd : PSet X (rSetD X.K wSet) := by
  rintro pins s σ H o i v ov iv u Q I ro ri rv ⟨G, r, M, do_, di, dv, Qd, S, ho, hi, hv, t, k⟩
  unfold wSet at t
  split at t
  · obtain ⟨a, rfl, ha⟩ := ho.refA
    obtain rfl := hi.int_inv
    split at t
    · rename_i xs hc
      obtain ⟨vs, h1, h2⟩ := S.cell _ _ _ ha hc
      obtain ⟨t1, t2⟩ := t
      split at t2
      · rename_i n hn
        refine set_list pins s σ H _ _ v ov iv u Q I ro ri rv ⟨a, vs, _, n, rfl, rfl, h1, by rw [h2.length]; exact hn, ?_⟩
        exact k _ t2 _ _ _ (Ext.write ha) (PX.refl _) (S.write ha hc rfl ⟨_, upd_same, h2.set (hv.toFz t1) n⟩ rfl)
      · exact t2.elim
    · exact t.elim
  · exact t.elim
def gSb (to ti : TD) (w : D → D → D → MC → (MC → Prop) → Prop) : TDG := fun v W sd M Q => to W sd M fun o M1 => ti W sd M1 fun i M2 => w o i v M2 fun M3 => Q sd M3
theorem plainTg {i : Expr} (h : isSlice i = false) (v : Value) (o : Expr) (pos : Pos) (env : Env) : assign (.Subscript o i pos) env v = (do
      let ov ← holding [v] (eval o env)
      let iv ← holding [v, ov] (eval i env)
      standAt pos
      holding [v, ov, iv] (setItem ov iv v)
      release [v, ov, iv] []) := by
  cases i <;> first | rfl | cases h
theorem plainAu {i : Expr} (h : isSlice i = false) (ov iv new : Value) : augStore i ov iv new = (do holding [new, ov, iv] (setItem ov iv new); release [new, ov, iv] []; pure .next) := by
  cases i <;> first | rfl | cases h
section
variable {X : Cx} {Wx : WX} {o i e : Expr} {to ti te : TD} {pos tpos : Pos} {vs : List Nat} {w : D → D → D → MC → (MC → Prop) → Prop}
theorem g_sub (ho : PE X o (LiftE X.K Wx to)) (hi : PE X i (LiftE X.K Wx ti)) (hw : PSet X (rSetD X.K w)) (hn : isSlice i = false) : PG X (.Subscript o i pos) (LiftG X.K Wx vs (gSb to ti w)) :=
  PG_imp (pg_sub ho hi hw fun v => plainTg hn v o pos X.env) fun v σ H Q ⟨G, r, sd, M, Wd, Qd, d, S, L, lw, rv, t, k⟩ => by
    refine ⟨G, r, sd, M, Wd, _, S, L, lw, t, fun d1 M1 t1 G1 r1 H1 v1 x1 p1 S1 rv1 => ?_⟩
    refine ⟨G1, r1, sd, M1, Wd, _, S1, L.mono x1.ge p1, lw.ext x1 p1, t1, fun d2 M2 t2 G2 r2 H2 v2 x2 p2 S2 rv2 => ?_⟩
    refine ⟨G2, r2, M2, d1, d2, d, _, S2, rv1.mono x2.ge p2, rv2, rv.mono (x1.trans x2).ge (p1.trans p2), t2, fun M3 t3 G3 r3 H3 x3 p3 S3 => ?_⟩
    exact k _ _ t3 _ _ _ _ ((x1.trans x2).trans x3) ((p1.trans p2).trans p3) S3 (L.mono ((x1.trans x2).trans x3).ge ((p1.trans p2).trans p3)) rfl
end
/-! ### o[i] op= e of lists -/
def wGetL : OD := fun o i M Q => match o, i with
  | .ref k, .int j => (match M[k]? with
    | some (.lst xs) => (match atI xs j with
      | some d => Q d M
      | none => False)
    | _ => False)
  | _, _ => False
theorem getd {X : Cx} : PGet X (rOpD X.K wGetL) := by
  rintro pins s σ H o i ov iv Q I ro ri ⟨G, r, M, do_, di, Qd, S, ho, hi, t, k⟩
  unfold wGetL at t
  split at t
  · rename_i kk idx
    obtain ⟨a, rfl, ha⟩ := ho.refA
    obtain rfl := hi.int_inv
    split at t
    · rename_i xs hc
      obtain ⟨vs, h1, h2⟩ := S.cell _ _ _ ha hc
      split at t
      · rename_i d e
        obtain ⟨v, e1, e2⟩ := h2.atI e
        cases ro
        obtain ⟨tk, rfl⟩ := ri
        obtain ⟨its, rr, pl, hz⟩ := I.list (SqL.of (K := X.K) h1)
        obtain ⟨j, q1, q2, q3, q4, q5⟩ := atI_get e1
        obtain ⟨w, ew, rw'⟩ := rr.get q2
        have hl := rr.length
        have hn := line63
        have fin : EP X pins σ Q w s := ⟨v, H, I, rw', k.now t S (.fz e2)⟩
        by_cases h0 : 0 ≤ idx
        · have hj : idx.toNat = j := by
            rw [seqIndex_of h0 q5] at q1
            exact Option.some.inj q1
          exact PySem.wpAny_getItem_list pl.isList h0 (by omega) (by rw [hj]; simpa using ew) fin
        · have hj : (idx + (its.toArray.size : Int)).toNat = j := by
            rw [seqIndex_neg (by omega) q4] at q1
            rw [List.size_toArray, ← hl]
            exact Option.some.inj q1
          exact PySem.wpAny_getItem_list_neg pl.isList (by omega) (by rw [List.size_toArray]; omega) (by omega) (by rw [hj]; simpa using ew) fin
      · exact t.elim
    · exact t.elim
  · exact t.elim
def dAugS (to ti te : TD) (w : OD) : TDS := fun W Z sd M => to W sd M fun o M1 => ti W sd M1 fun i M2 => wGetL o i M2 fun x M3 => te W sd M3 fun y M4 => w x y M4 fun z M5 => wSet o i z M5 fun M6 => Z.nx sd M6
theorem s_augS {X : Cx} {Wx : WX} {o i e : Expr} {to ti te : TD} {op : Operator} {pos tpos : Pos} {w : OD} (ho : PE X o (LiftE X.K Wx to)) (hi : PE X i (LiftE X.K Wx ti)) (he : PE X e (LiftE X.K Wx te)) (hop : OpR X (inplaceOp op) (rOpD X.K w)) (hn : isSlice i = false) :
    PS X (.AugAssign (.Subscript o i tpos) op e pos) (LiftS X.K Wx (dAugS to ti te w)) := by
  refine PS_imp (ps_augS ho hi getd he (tip := rOpD X.K w) (fun pins s σ H x y v u Q I r1 r2 h => hop pins s σ H x y v u Q I r1 r2 h) setd fun ov iv new => plainAu hn ov iv new) fun Dn σ H ⟨G, r, sd, M, Wd, Z, S, L, lw, t, k⟩ => ?_
  refine ⟨G, r, sd, M, Wd, _, S, L, lw, t, fun d1 M1 t1 G1 r1 H1 v1 x1 p1 S1 rv1 => ?_⟩
  refine ⟨G1, r1, sd, M1, Wd, _, S1, L.mono x1.ge p1, lw.ext x1 p1, t1, fun d2 M2 t2 G2 r2 H2 v2 x2 p2 S2 rv2 => ?_⟩
  have X2 := x1.trans x2
  have P2 := p1.trans p2
  refine ⟨G2, r2, M2, d1, d2, _, S2, rv1.mono x2.ge p2, rv2, t2, fun d3 M3 t3 G3 r3 H3 v3 x3 p3 S3 rv3 => ?_⟩
  have X3 := X2.trans x3
  have P3 := P2.trans p3
  refine ⟨G3, r3, sd, M3, Wd, _, S3, L.mono X3.ge P3, lw.ext X3 P3, t3, fun d4 M4 t4 G4 r4 H4 v4 x4 p4 S4 rv4 => ?_⟩
  refine ⟨G4, r4, M4, d3, d4, _, S4, rv3.mono x4.ge p4, rv4, t4, fun d5 M5 t5 G5 r5 H5 v5 x5 p5 S5 rv5 => ?_⟩
  have x35 := (x3.trans x4).trans x5
  have p35 := (p3.trans p4).trans p5
  refine ⟨G5, r5, M5, d1, d2, d5, _, S5, (rv1.mono x2.ge p2).mono x35.ge p35, rv2.mono x35.ge p35, rv5, t5, fun M6 t6 G6 r6 H6 x6 p6 S6 => ?_⟩
  exact k.nx _ _ t6 _ _ _ _ ((X2.trans x35).trans x6) ((P2.trans p35).trans p6) S6 (L.mono ((X2.trans x35).trans x6).ge ((P2.trans p35).trans p6))
end DL
set_option Elab.async false
set_option linter.all false
set_option maxRecDepth 100000
set_option maxHeartbeats 4000000
namespace DL
open PySem PySem.Spec L2

/-! ### isinstance, repr, truth -/
def tyN (M : MC) (d : D) : Option String := match d with
  | .non => some "NoneType"
  | .bl _ => some "bool"
  | .int _ => some "int"
  | .str _ => some "str"
  | .scr _ => some "list"
  | d => match seqL M d with
    | some _ => some "list"
    | none => match d with
      | .tup _ => some "tuple"
      | _ => none
theorem tyN_ok {K : PySem.W.Frag} {G : Hp} {r : List Addr} {H : Hp} {M : MC} {d : D} {v : V} {n : String} (S : SR K G r H M) (h : Rp K G r v d) (e : tyN M d = some n) : TyX K H v (.type n) := by
  unfold tyN at e
  split at e
  · cases e; obtain rfl := h.non_inv; exact .base .non
  · cases e; obtain rfl := h.bl_inv; exact .base (.bl _)
  · cases e; obtain rfl := h.int_inv; exact .base (.int _)
  · cases e; obtain rfl := h.str_inv; exact .base (.str _)
  · cases e
    cases h with
    | fz h => cases h with
      | scr hg =>
        rcases hg with ⟨ob, hg⟩ | ⟨o, its, n, h1, h2, _⟩
        · exact .base (.frz (S.readS hg))
        · exact .kList h1 h2
  · split at e
    · rename_i ds q
      cases e
      obtain ⟨a, vs, rfl, h1, _⟩ := S.list h q
      exact .base (.lst h1)
    · split at e
      · cases e
        obtain ⟨a, vs, rfl, h1, _⟩ := S.tuple h rfl
        exact .base (.tup h1)
      · cases e
def tysD : List D → Option (List String)
  | [] => some []
  | .ty n :: r => match tysD r with
    | some ns => some (n :: ns)
    | none => none
  | _ :: _ => none
def kitS (t : String) : List String → Option Bool
  | [] => some false
  | n :: r => match kitB t n with
    | some true => some true
    | some false => kitS t r
    | none => none
theorem kitS_ok {K : PySem.W.Frag} {t : String} : ∀ {ns : List String} {b : Bool}, kitS t ns = some b → PySem.W.kitAny K (.type t) (ns.map Value.type) = some b
  | [], _, e => e
  | n :: r, b, e => by
    unfold kitS at e
    split at e
    · rename_i q
      cases e
      exact kitAny_cons (kit_ty q) (fun z => by cases z) (fun _ => rfl)
    · rename_i q
      exact kitAny_cons (kit_ty q) (fun _ => kitS_ok e) (fun z => by cases z)
    · cases e
theorem tysD_ok {K : PySem.W.Frag} {G : Hp} : ∀ {cs : List D} {vs : List V} {ns : List String}, FzL K G vs cs → tysD cs = some ns → Paired ClsV vs (ns.map Value.type)
  | [], _, _, .nil, e => by cases e; exact .nil
  | .ty n :: r, _, _, .cons h tl, e => by
    cases h
    unfold tysD at e
    split at e
    · rename_i ns q
      cases e
      exact .cons (.ty n) (tysD_ok tl q)
    · cases e
  | .non :: _, _, _, _, e => by cases e
  | .bl _ :: _, _, _, _, e => by cases e
  | .int _ :: _, _, _, _, e => by cases e
  | .str _ :: _, _, _, _, e => by cases e
  | .tup _ :: _, _, _, _, e => by cases e
  | .lst _ :: _, _, _, _, e => by cases e
  | .dct _ :: _, _, _, _, e => by cases e
  | .obj _ _ :: _, _, _, _, e => by cases e
  | .ref _ :: _, _, _, _, e => by cases e
  | .glo _ :: _, _, _, _, e => by cases e
  | .scr _ :: _, _, _, _, e => by cases e
def wIsi : OA := fun ds M Q => match ds with
  | [x, .ty n] => (match tyN M x with
    | some t => (match kitB t n with
      | some b => Q (.bl b) M
      | none => False)
    | none => False)
  | [x, .tup cs] => (match tyN M x, tysD cs with
    | some t, some ns => (match kitS t ns with
      | some b => Q (.bl b) M
      | none => False)
    | _, _ => False)
  | _ => False
def okShow (p : PyData) : Prop := p.showable = true ∧ p.shown.length ≤ sizeLine ∧ p.hasDict = false ∧ p.depth ≤ 60
def wRepr : OA := fun ds M Q => match ds with
  | [x] => (match pdM M x with
    | some p => okShow p ∧ Q (.str p.shown) M
    | none => False)
  | _ => False
section
variable {X : Cx}
theorem cd_isi : CallR X (.builtin "isinstance") (rCallD X.K wIsi) := by
  rintro pins s σ H vs us Q I rv ⟨G, r, M, ds, Qd, S, rd, t, k⟩
  unfold wIsi at t
  split at t
  · rename_i x n
    obtain ⟨v, u, rfl, hv, hu⟩ := rd.two
    obtain rfl := hu.ty_inv
    split at t
    · rename_i ty e1
      split at t
      · rename_i b e2
        exact call_isi pins s σ H _ us Q I rv ⟨v, .ty n, _, _, b, rfl, .ty n, tyN_ok S hv e1, kit_ty e2, k.bl S t⟩
      · exact t.elim
    · exact t.elim
  · rename_i x cs
    obtain ⟨v, u, rfl, hv, hu⟩ := rd.two
    split at t
    · rename_i ty ns e1 e2
      split at t
      · rename_i b e3
        obtain ⟨a, ws, rfl, h1, h2⟩ := S.tuple hu rfl
        exact call_isiT pins s σ H _ us Q I rv ⟨v, a, ws, _, _, b, rfl, h1, tysD_ok h2 e2, tyN_ok S hv e1, kitS_ok e3, k.bl S t⟩
      · exact t.elim
    · exact t.elim
  · exact t.elim
theorem cd_repr (gd : X.A.guards = some []) (hu : X.A.units + 64 < cLine) : CallR X (.builtin "repr") (rCallD X.K wRepr) := by
  rintro pins s σ H vs us Q I rv ⟨G, r, M, ds, Qd, S, rd, t, k⟩
  unfold wRepr at t
  split at t
  · obtain ⟨v, rfl, hv⟩ := rd.one
    split at t
    · rename_i p e
      obtain ⟨⟨s1, s2, s3, s4⟩, t⟩ := t
      have hd := hv.dpM S e
      obtain ⟨u, rfl, ru⟩ := vals1 rv
      obtain ⟨as, rr⟩ := Dp.reads I p v u hd ru
      have fin : ∀ {h' : Heap} {tt tk : Tok}, (∀ b o, s.heap.get? b = some o → h'.get? b = some o) → EP X pins σ Q (.str p.shown tt) { s with heap := h', toks := tk } := fun {h' tt tk} kp =>
        ⟨.str p.shown, H, I.kept (t' := tk) kp, ⟨_, rfl⟩, k.str S t⟩
      cases rr with
      | none => exact PySem.P.repr_of_none (fin fun _ _ e => e)
      | bool b => exact PySem.P.repr_of_bool (fin fun _ _ e => e)
      | int i tk => exact PySem.P.repr_of_int (by simpa [PyData.showable] using s1) (fin fun _ _ e => e)
      | str x tk => exact PySem.P.repr_of_str (fin fun _ _ e => e) s2
      | list h1 h2 h3 h4 => exact repr_of_reads' (.list h1 h2 h3 h4) s1 (PyData.noDict_hsm s3) gd (by omega) (fun _ _ e => e) (fun h' u tk kp => fin kp) s2
      | tuple h1 h2 h3 h4 => exact repr_of_reads' (.tuple h1 h2 h3 h4) s1 (PyData.noDict_hsm s3) gd (by omega) (fun _ _ e => e) (fun h' u tk kp => fin kp) s2
      | dict h1 h2 h3 h4 h5 => cases s3
    · exact t.elim
  · exact t.elim
end
def wTru : D → MC → (Bool → MC → Prop) → Prop := fun d M Q => match d with
  | .non => Q false M
  | .bl b => Q b M
  | .int i => Q (i != 0) M
  | .str z => z.length ≤ sizeLine ∧ Q ((z.length : Int) != 0) M
  | .scr ns => Q (!ns.isEmpty) M
  | d => match seqA M d with
    | some ds => Q (!ds.isEmpty) M
    | none => False
def dTru (t : TD) : TDT := fun W sd M Q => t W sd M fun d M1 => wTru d M1 Q
theorem FzL.isEmpty {K : PySem.W.Frag} {G : Hp} {vs : List V} {ds : List D} (t : FzL K G vs ds) : ds.isEmpty = vs.isEmpty := by
  cases t <;> rfl
theorem dt_tru {X : Cx} {Wx : WX} {e : Expr} {ta : TD} (h : PE X e (LiftE X.K Wx ta)) (he : ∀ whole, isTrue e X.env whole = (do let v ← whole; standAt e.pos; holding [v] (truthy v))) : PT X e (LiftT X.K Wx (dTru ta)) := by
  refine PT_imp (pt_truth h he) fun σ H Q ⟨G, r, sd, M, Wd, Qd, S, L, lw, t, k⟩ => ?_
  refine ⟨G, r, sd, M, Wd, _, S, L, lw, t, fun d M1 t1 G1 r1 H1 v x1 p1 S1 rx => ?_⟩
  have k1 := k.ext x1 p1
  unfold wTru at t1
  split at t1
  · obtain rfl := rx.non_inv; exact ⟨_, rfl, k1.now t1 S1⟩
  · obtain rfl := rx.bl_inv; exact ⟨_, rfl, k1.now t1 S1⟩
  · obtain rfl := rx.int_inv; exact ⟨_, rfl, k1.now t1 S1⟩
  · obtain rfl := rx.str_inv; exact ⟨_, ⟨t1.1, rfl⟩, k1.now t1.2 S1⟩
  · rename_i ns
    obtain ⟨a, rfl, h2⟩ := rx.scr_inv S1
    exact ⟨_, .inl ⟨_, h2, rfl⟩, by rw [show (!(ns.map V.int).isEmpty) = !ns.isEmpty by cases ns <;> rfl]; exact k1.now t1 S1⟩
  · split at t1
    · rename_i ds e
      obtain ⟨a, ws, rfl, h2, h3⟩ := Rp.refD S1 rx e
      rw [h3.isEmpty] at t1
      rcases h2 with h2 | h2
      · exact ⟨_, .inl ⟨_, h2, rfl⟩, k1.now t1 S1⟩
      · exact ⟨_, .inr (.inl ⟨_, h2, rfl⟩), k1.now t1 S1⟩
    · exact t1.elim
end DL
set_option Elab.async false
set_option linter.all false
set_option maxRecDepth 100000
set_option maxHeartbeats 400000
namespace DL
open PySem PySem.Spec L2

/-! ### order of data; list(range(..)); enumerate, zip -/
def alikeOk (p q : PyData) : Prop := PySem.W.alike p q = true ∧ p ≠ .none ∧ p.depth ≤ 60
def wOrdA (f : PyData → PyData → Bool) (w : OD) : OD := fun x y M Q => match x with
  | .tup _ => (match pdM M x, pdM M y with
    | some p, some q => alikeOk p q ∧ Q (.bl (f p q)) M
    | _, _ => False)
  | .lst _ => (match pdM M x, pdM M y with
    | some p, some q => alikeOk p q ∧ Q (.bl (f p q)) M
    | _, _ => False)
  | x => w x y M Q
section
variable {X : Cx}
theorem ordA {op : CmpOp} {f : PyData → PyData → Bool} {w : OD} (h : OpR X (compareOp op) (rOpD X.K w))
    (hd : ∀ {s : Shared} {a b : Value} {p q : PyData} {as bs : List Addr} {Q : Value → Shared → Prop}, Reads s.heap a p as → Reads s.heap b q bs → alikeOk p q → Q (.bool (f p q)) s → wpAny (model X.prog X.w) X.A (compareOp op a b) Q X.xe s) :
    OpR X (compareOp op) (rOpD X.K (wOrdA f w)) := by
  rintro pins s σ H x y v u Q I rx ry ⟨G, r, M, dx, dy, Qd, S, hx, hy, t, k⟩
  have data : ∀ {p q : PyData}, pdM M dx = some p → pdM M dy = some q → alikeOk p q → Qd (.bl (f p q)) M → wpAny (model X.prog X.w) X.A (compareOp op v u) (EP X pins σ Q) X.xe s := fun e1 e2 ok q => by
    obtain ⟨as, r1⟩ := Dp.reads I _ x v (hx.dpM S e1) rx
    obtain ⟨bs, r2⟩ := Dp.reads I _ y u (hy.dpM S e2) ry
    exact hd r1 r2 ok ⟨.bl _, H, I, rfl, k.bl S q⟩
  unfold wOrdA at t
  split at t
  · split at t
    · rename_i p q e1 e2
      exact data e1 e2 t.1 t.2
    · exact t.elim
  · split at t
    · rename_i p q e1 e2
      exact data e1 e2 t.1 t.2
    · exact t.elim
  · exact h pins s σ H x y v u Q I rx ry ⟨G, r, M, _, dy, Qd, S, hx, hy, t, k⟩
def wLtA : OD := wOrdA PySem.W.dataLt wLt
def wGtA : OD := wOrdA (fun p q => PySem.W.dataLt q p) wGt
def wLeA : OD := wOrdA (fun p q => !PySem.W.dataLt q p) wLe
def wGeA : OD := wOrdA (fun p q => !PySem.W.dataLt p q) wGe
theorem opd_ltA (hu : X.A.units + 65 < cLine) : OpR X (compareOp .Lt) (rOpD X.K wLtA) :=
  ordA opd_lt fun r1 r2 ok q => PySem.W.lt_data r1 r2 ok.1 ok.2.1 (Nat.lt_of_le_of_lt (Nat.add_le_add_left (Nat.le_trans (Nat.min_le_left _ _) ok.2.2) _) (by omega)) q
theorem opd_gtA (hu : X.A.units + 65 < cLine) : OpR X (compareOp .Gt) (rOpD X.K wGtA) :=
  ordA opd_gt fun r1 r2 ok q => PySem.W.gt_data r1 r2 ok.1 ok.2.1 (Nat.lt_of_le_of_lt (Nat.add_le_add_left (Nat.le_trans (Nat.min_le_left _ _) ok.2.2) _) (by omega)) q
theorem opd_leA (hu : X.A.units + 65 < cLine) : OpR X (compareOp .LtE) (rOpD X.K wLeA) :=
  ordA opd_le fun r1 r2 ok q => PySem.W.le_data r1 r2 ok.1 ok.2.1 (Nat.lt_of_le_of_lt (Nat.add_le_add_left (Nat.le_trans (Nat.min_le_left _ _) ok.2.2) _) (by omega)) q
theorem opd_geA (hu : X.A.units + 65 < cLine) : OpR X (compareOp .GtE) (rOpD X.K wGeA) :=
  ordA opd_ge fun r1 r2 ok q => PySem.W.ge_data r1 r2 ok.1 ok.2.1 (Nat.lt_of_le_of_lt (Nat.add_le_add_left (Nat.le_trans (Nat.min_le_left _ _) ok.2.2) _) (by omega)) q
end
/-- list(range(..)) -/
def ranI (a b : Int) : List Int := (List.range (b - a).toNat).map fun i => a + (i : Nat)
theorem rgV_eq (a b : Int) : rgV a b = (ranI a b).map V.int := by unfold rgV ranI; rw [List.map_map]; rfl
def rgOk (a b : Int) : Prop := (-(2 ^ 62) ≤ a ∧ a < 2 ^ 62) ∧ (-(2 ^ 62) ≤ b ∧ b < 2 ^ 62) ∧ (b - a).toNat ≤ 2 ^ 24
def kRg1 (fr : Bool) (Q : QD) : List D → MC → Prop := fun ds M => match ds with
  | [.int n] => rgOk 0 n ∧ mkL fr ((ranI 0 n).map D.int) M Q
  | _ => False
def kRg2 (fr : Bool) (Q : QD) : List D → MC → Prop := fun ds M => match ds with
  | [.int i, .int j] => rgOk i j ∧ mkL fr ((ranI i j).map D.int) M Q
  | _ => False
def dLr1 (fr : Bool) (ta : TD) : TD := fun W sd M Q => dCons ta dNil W sd M (kRg1 fr Q)
def dLr2 (fr : Bool) (ta tb : TD) : TD := fun W sd M Q => dCons ta (dCons tb dNil) W sd M (kRg2 fr Q)
section
variable {X : Cx} {Wx : WX} {a b e : Expr} {ta tb : TD} {p pos p2 pos2 : Pos}
theorem d_lr1 (fr : Bool) (hc : X.calm = true) (hg : Gl X "list") (hm : X.mg "list" = none) (hg2 : Gl X "range") (hm2 : X.mg "range" = none) (ha : PE X a (LiftE X.K Wx ta)) (na : isStar a = false) :
    PE X (.Call (.Name "list" p) [.Call (.Name "range" p2) [a] [] pos2] [] pos) (LiftE X.K Wx (dLr1 fr ta)) :=
  PE_imp (pe_listRg hc hg hm (prg_1 hg2 hm2 ha (star_cons na)) rfl) fun σ H Q ⟨G, r, sd, M, Wd, Qd, S, L, lw, t, k⟩ => by
    refine ⟨G, r, sd, M, Wd, _, S, L, lw, t, fun d M1 t1 G1 r1 H1 v x1 p1 S1 rv => ?_⟩
    have t1 : kRg1 fr Qd [d] M1 := t1
    unfold kRg1 at t1
    split at t1
    · rename_i n e
      cases e
      obtain rfl := rv.int_inv
      refine ⟨n, rfl, ⟨t1.1.1.1, t1.1.1.2, t1.1.2.1.1, t1.1.2.1.2, t1.1.2.2⟩, fun q hq => ?_⟩
      rw [rgV_eq]
      exact (k.ext x1 p1).newL S1 hq (FzL.ints _) t1.2
    · exact t1.elim
theorem d_lr2 (fr : Bool) (hc : X.calm = true) (hg : Gl X "list") (hm : X.mg "list" = none) (hg2 : Gl X "range") (hm2 : X.mg "range" = none) (ha : PE X a (LiftE X.K Wx ta)) (na : isStar a = false) (hb : PE X b (LiftE X.K Wx tb)) (nb : isStar b = false) :
    PE X (.Call (.Name "list" p) [.Call (.Name "range" p2) [a, b] [] pos2] [] pos) (LiftE X.K Wx (dLr2 fr ta tb)) :=
  PE_imp (pe_listRg hc hg hm (prg_2 hg2 hm2 ha hb (star_cons na) (star_cons nb) (by rw [star_cons nb]; rfl)) rfl) fun σ H Q ⟨G, r, sd, M, Wd, Qd, S, L, lw, t, k⟩ => by
    refine ⟨G, r, sd, M, Wd, _, S, L, lw, t, fun d M1 t1 G1 r1 H1 v x1 p1 S1 rv => ?_⟩
    refine ⟨G1, r1, sd, M1, Wd, _, S1, L.mono x1.ge p1, lw.ext x1 p1, t1, fun d2 M2 t2 G2 r2 H2 v2 x2 p2 S2 rv2 => ?_⟩
    have t2 : kRg2 fr Qd [d, d2] M2 := t2
    unfold kRg2 at t2
    split at t2
    · rename_i i j e
      cases e
      obtain rfl := rv.int_inv
      obtain rfl := rv2.int_inv
      refine ⟨i, j, rfl, rfl, ⟨t2.1.1.1, t2.1.1.2, t2.1.2.1.1, t2.1.2.1.2, t2.1.2.2⟩, fun q hq => ?_⟩
      rw [rgV_eq]
      exact (k.ext (x1.trans x2) (p1.trans p2)).newL S2 hq (FzL.ints _) t2.2
    · exact t2.elim
end
/-- enumerate of a list -/
def kEn (QI : List D → (MC → Prop) → MC → Prop) : List D → MC → Prop := fun ds M => match ds with
  | [.lst xs] => QI (enumD xs) (fun _ => True) M
  | [.ref k] => (match M[k]? with
    | some (.lst xs) => QI (enumD xs) (fun M => M[k]? = some (.lst xs)) M
    | some (.frz (.lst xs)) => QI (enumD xs) (fun _ => True) M
    | _ => False)
  | _ => False
def dEn (tl : TDA) : TDI := fun W sd M Q => tl W sd M (kEn Q)
/-- zip of two lists, or of two tuples -/
def kZp (QI : List D → (MC → Prop) → MC → Prop) : List D → MC → Prop := fun ds M => match ds with
  | [.lst xs, .lst ys] => QI (zipD xs ys) (fun _ => True) M
  | [.tup xs, .tup ys] => QI (zipD xs ys) (fun _ => True) M
  | _ => False
def dZp (tl : TDA) : TDI := fun W sd M Q => tl W sd M (kZp Q)
section
variable {X : Cx} {Wx : WX} {a b : Expr} {tl : TDA} {p pos tpos : Pos} {elts : List Expr} {kk : Nat}
theorem di_enum (hg : Gl X "enumerate") (hm : X.mg "enumerate" = none) (h : PA X [a] (LiftA X.K Wx tl)) (hs : isStar a = false) : PI X (.Tuple elts kk tpos) (.Call (.Name "enumerate" p) [a] [] pos) (LiftI X.K Wx (dEn tl)) := by
  have hi := pi_enum (elts := elts) (kk := kk) (tpos := tpos) (p := p) (pos := pos) hg hm h (star_cons hs)
  refine ⟨fun pins s σ H R I ⟨G, r, sd, M, Wd, Qd, S, L, lw, t, k⟩ => hi.run pins s σ H R I ⟨G, r, sd, M, Wd, _, S, L, lw, t, fun ds M1 t1 G1 r1 H1 vs x1 p1 S1 rv => ?_⟩⟩
  unfold kEn at t1
  split at t1
  · obtain ⟨v, rfl, hv⟩ := rv.one
    cases hv with
    | fz h => cases h with
      | @lst a vs ds hg tt =>
        exact ⟨a, vs, rfl, SqL.of (S1.readL hg), k _ _ _ t1 G1 r1 H1 x1 p1 S1 _ (itok_enum fun G r H M g _ S _ => ⟨vs, S.readL (g _ _ hg), tt.mono g⟩)⟩
  · obtain ⟨v, rfl, hv⟩ := rv.one
    obtain ⟨a, rfl, ha⟩ := hv.refA
    split at t1
    · rename_i xs hc
      obtain ⟨vs, h1, h2⟩ := S1.cell _ _ _ ha hc
      refine ⟨a, vs, rfl, SqL.of h1, k _ _ _ t1 G1 r1 H1 x1 p1 S1 _ (itok_enum fun G r H M g p S c => ?_)⟩
      obtain ⟨ws, h3, h4⟩ := S.cell _ _ _ (p _ _ ha) c
      exact ⟨ws, h3, h4⟩
    · rename_i xs hc
      obtain ⟨h1, _⟩ := S1.cell _ _ _ ha hc
      cases h1 with
      | lst hg tt =>
        exact ⟨_, _, rfl, SqL.of (S1.readL hg), k _ _ _ t1 G1 r1 H1 x1 p1 S1 _ (itok_enum fun G r H M g _ S _ => ⟨_, S.readL (g _ _ hg), tt.mono g⟩)⟩
    · exact t1.elim
  · exact t1.elim
theorem di_zip (hg : Gl X "zip") (hm : X.mg "zip" = none) (h : PA X [a, b] (LiftA X.K Wx tl)) (hs : noStar [a, b] = true) : PI X (.Tuple elts kk tpos) (.Call (.Name "zip" p) [a, b] [] pos) (LiftI X.K Wx (dZp tl)) := by
  obtain ⟨s1, s2⟩ := noStar_cons hs
  have hi := RZ.pi_zipA (elts := elts) (kk := kk) (tpos := tpos) (p := p) (pos := pos) hg hm h (star_cons s1) (star_none s2)
  refine ⟨fun pins s σ H R I ⟨G, r, sd, M, Wd, Qd, S, L, lw, t, k⟩ => hi.run pins s σ H R I ⟨G, r, sd, M, Wd, _, S, L, lw, t, fun ds M1 t1 G1 r1 H1 vs x1 p1 S1 rv => ?_⟩⟩
  unfold kZp at t1
  split at t1
  · obtain ⟨v, u, rfl, hv, hu⟩ := rv.two
    cases hv with
    | fz h => cases h with
      | @lst a vs ds hg tt =>
        cases hu with
        | fz h => cases h with
          | @lst b ws es hg2 tt2 =>
            exact ⟨a, b, vs, ws, rfl, .inl ⟨SqL.of (S1.readL hg), SqL.of (S1.readL hg2), k _ _ _ t1 G1 r1 H1 x1 p1 S1 _ (itok_zip fun G r H M g _ S _ => ⟨vs, ws, S.readL (g _ _ hg), tt.mono g, S.readL (g _ _ hg2), tt2.mono g⟩)⟩⟩
  · obtain ⟨v, u, rfl, hv, hu⟩ := rv.two
    cases hv with
    | fz h => cases h with
      | @tup a vs ds hg tt =>
        cases hu with
        | fz h => cases h with
          | @tup b ws es hg2 tt2 =>
            exact ⟨a, b, vs, ws, rfl, .inr ⟨SqT.of (S1.readT hg), SqT.of (S1.readT hg2), k _ _ _ t1 G1 r1 H1 x1 p1 S1 _ (itok_zipT hg tt hg2 tt2)⟩⟩
  · exact t1.elim
end
end DL
set_option Elab.async false
set_option linter.all false
set_option maxRecDepth 100000
set_option maxHeartbeats 4000000
namespace DL
open PySem PySem.Spec L2

/-! ### a text in numbers: names by their places -/
inductive BO where
  | add (fr : Bool) | sub | mul (fr : Bool) | fdiv | mod | pow
def BO.op : BO → Operator
  | .add _ => .Add | .sub => .Sub | .mul _ => .Mult | .fdiv => .FloorDiv | .mod => .Mod | .pow => .Pow
def BO.w : BO → OD
  | .add fr => wAdd fr | .sub => wSub | .mul fr => wMul fr | .fdiv => wFDiv | .mod => wMod | .pow => wPow
def cmpW : CmpOp → OD
  | .Eq => wEq false | .NotEq => wEq true | .Lt => wLtA | .LtE => wLeA | .Gt => wGtA | .GtE => wGeA | .Is => wIs false | .IsNot => wIs true | .In => wIn false | .NotIn => wIn true
/-- built-in functions and types that are called -/
inductive BI where
  | len | abs | max | min | list | tuple | sum | all | any | int | isi | repr | range | enum | zip
def BI.nm : BI → Str
  | .len => "len" | .abs => "abs" | .max => "max" | .min => "min" | .list => "list" | .tuple => "tuple" | .sum => "sum" | .all => "all" | .any => "any" | .int => "int" | .isi => "isinstance" | .repr => "repr" | .range => "range" | .enum => "enumerate" | .zip => "zip"
def wNo : OA := fun _ _ _ => False
def BI.oa (fr : Bool) : BI → OA
  | .len => wLen | .abs => wAbs | .max => wMax | .min => wMin | .list => wList fr | .tuple => wTuple | .sum => wSum | .all => wAll | .any => wAny | .int => wInt | .isi => wIsi | .repr => wRepr | .range => wNo | .enum => wNo | .zip => wNo
/-- methods -/
inductive Mth where
  | append | extend | pop
def Mth.nm : Mth → Str
  | .append => "append" | .extend => "extend" | .pop => "pop"
def Mth.ty : Mth → String
  | .append => "list" | .extend => "list" | .pop => "list"
def Mth.w : Mth → OM
  | .append => wAppend | .extend => wExtend | .pop => wPop
/-- in-place operators -/
inductive AO where
  | add | sub | mul | fdiv | mod
def AO.op : AO → Operator
  | .add => .Add | .sub => .Sub | .mul => .Mult | .fdiv => .FloorDiv | .mod => .Mod
def wIAdd : OD := fun x y M Q => match x, y with
  | .int i, .int j => Q (.int (i + j)) M
  | .str a, .str b => a.length + b.length ≤ sizeLine ∧ Q (.str (a ++ b)) M
  | .ref k, y => (match M[k]?, seqL M y with
    | some (.lst xs), some ys => xs.length + ys.length ≤ sizeLine ∧ Q (.ref k) (M.set k (.lst (xs ++ ys)))
    | _, _ => False)
  | _, _ => False
def wIMul : OD := fun x y M Q => match x, y with
  | .int i, .int j => CMul i j ∧ Q (.int (i * j)) M
  | _, _ => False
def AO.w : AO → OD
  | .add => wIAdd | .sub => wSub | .mul => wIMul | .fdiv => wFDiv | .mod => wMod
/-- what stands at a name of the module -/
inductive Ent where
  | fn (n : Nat) (sp : DSp) | con (d : D) | ty (n : String) | bi (b : BI)
structure SE where
  N : List Str
  sc : Scope
  G : List (Str × Ent)
  vis : List Nat
  loc : List Nat
  gl : List Nat
def SE.nm (E : SE) (i : Nat) : Str := E.N.getD i ⟨#[]⟩
def SE.gn (E : SE) (k : Nat) : Str := match E.G[k]? with
  | some p => p.1
  | none => ⟨#[]⟩
def SE.en (E : SE) (k : Nat) : Option Ent := match E.G[k]? with
  | some p => some p.2
  | none => none
def SE.inner (E : SE) (own : List (Str × Nat)) (vis gl : List Nat) (sc : Scope) : SE := { E with sc := sc, vis := vis, loc := own.map (·.2), gl := gl }

mutual
inductive Sx where
  | var (i : Nat) | val (i : Nat) | glo (k : Nat)
  | int (i : Int) | bl (b : Bool) | non | str (x : Str)
  | bin (o : BO) (a b : Sx)
  | cmp (o : CmpOp) (a b : Sx) | chn (o o' : CmpOp) (a b c : Sx)
  | bop (o : BoolOp) (as : SxL) | not_ (a : Sx) | neg (a : Sx)
  | ite (c : Tx) (a b : Sx)
  | tup (as : SxL) | lst (fr : Bool) (as : SxL)
  | call (k : Nat) (as : SxL)
  | blt (k : Nat) (fr : Bool) (as : SxL)
  | ix (a b : Sx) | slc (fr : Bool) (a : Sx) (lo hi : SxO) | rev (fr : Bool) (a : Sx)
  | lc (fr : Bool) (own : List (Str × Nat)) (vis gl : List Nat) (g : Tg) (it : Sit) (c : TxO) (elt : Sx)
  | lr1 (kl kr : Nat) (fr : Bool) (a : Sx) | lr2 (kl kr : Nat) (fr : Bool) (a b : Sx)
  | mth (m : Mth) (a : Sx) (as : SxL)
  | frz (a : Sx)
inductive SxO where
  | no | so (a : Sx)
inductive SxL where
  | nil | cons (a : Sx) (r : SxL)
inductive Tx where
  | v (a : Sx) | tr (a : Sx) | cmp (o : CmpOp) (a b : Sx) | chn (o o' : CmpOp) (a b c : Sx)
  | bop (o : BoolOp) (ts : TxL) | not_ (t : Tx)
inductive TxL where
  | one (t : Tx) | cons (t : Tx) (r : TxL)
inductive TxO where
  | no | so (t : Tx)
inductive Sit where
  | seq (a : Sx) | rng1 (k : Nat) (a : Sx) | rng2 (k : Nat) (a b : Sx) | enum (k : Nat) (a : Sx) | zip (k : Nat) (a b : Sx)
inductive Tg where
  | nm (i : Nat) | tup (ts : TgL)
inductive TgL where
  | nil | cons (t : Tg) (r : TgL)
end
mutual
inductive Ss where
  | doc (x : Str) | pass | brk | cnt | ret (a : Sx) | retN | expr (a : Sx) | if_ (c : Tx) (a b : SsL) | whl (c : Tx) (a : SsL) | for_ (g : Tg) (it : Sit) (a : SsL)
  | set (i : Nat) (a : Sx) | unp (g : Tg) (a : Sx) | put (o i a : Sx) | par (i j : Nat) (a b : Sx) | par3 (i j l : Nat) (a b c : Sx) | aug (i : Nat) (o : AO) (a : Sx) | augS (o i : Sx) (op : AO) (a : Sx)
  | setLc (i : Nat) (fr : Bool) (own : List (Str × Nat)) (vis gl : List Nat) (g : Tg) (it : Sit) (c : TxO) (elt : Sx)
  | nev
inductive SsL where
  | nil | cons (s : Ss) (r : SsL)
end

/-! ### what it computes -/
def dNo : TD := fun _ _ _ _ => False
def dNoT : TDT := fun _ _ _ _ => False
def dNoI : TDI := fun _ _ _ _ => False
/-- a call: cells that are handed in are lent -/
def dAuto (sp : DSp) (ta : TDA) : TD := fun W sd M Q => ta W sd M fun ds M1 =>
  if noRef ds = true then callD 0 sp ds M1 Q (fun e M2 => W e sd M2)
  else noRef (ds.map (lendD M1)) = true ∧ sp (ds.map (lendD M1)) [] (fun d M2 => (M2 = [] ∧ flatD d = true) ∧ Q d M1) fun _ _ => False
def TgL.len : TgL → Nat
  | .nil => 0
  | .cons _ r => r.len + 1
mutual
def Tg.rd : Tg → TDG
  | .nm i => gNm i
  | .tup ts => gTp ts.len ts.rd
def TgL.rd : TgL → TDGs
  | .nil => gNo
  | .cons t r => gCo t.rd r.rd
end
mutual
def Sx.rd (en : Nat → Option Ent) : Sx → TD
  | .var i => dVar i
  | .val i => dVal i
  | .glo k => match en k with
    | some (.con d) => dC d
    | some (.ty n) => dC (.ty n)
    | _ => dNo
  | .int i => dC (.int i)
  | .bl b => dC (.bl b)
  | .non => dC .non
  | .str x => dC (.str x)
  | .bin o a b => dBin o.w (a.rd en) (b.rd en)
  | .cmp o a b => dBin (cmpW o) (a.rd en) (b.rd en)
  | .chn o o' a b c => dCh (cmpW o) (cmpW o') (a.rd en) (b.rd en) (c.rd en)
  | .bop o as => as.rdB en o
  | .not_ a => dNotV (a.rd en)
  | .neg a => dNeg (a.rd en)
  | .ite c a b => dIf (c.rd en) (a.rd en) (b.rd en)
  | .tup as => dTup (as.rd en)
  | .lst fr as => dLst fr (as.rd en)
  | .call k as => match en k with
    | some (.fn 0 sp) => dAuto sp (as.rd en)
    | some (.fn (n + 1) sp) => dCall (n + 1) sp (as.rd en)
    | _ => dNo
  | .blt k fr as => match en k with
    | some (.bi b) => dCB (b.oa fr) (as.rd en)
    | _ => dNo
  | .ix a b => dBin wIx (a.rd en) (b.rd en)
  | .slc fr a lo hi => dSl fr (a.rd en) (lo.rd en) (hi.rd en)
  | .rev fr a => dRev fr (a.rd en)
  | .lc fr own _ _ g it c elt => dLc fr (it.rd en) g.rd (c.rd en) (elt.rd en) (own.map (·.2))
  | .lr1 _ _ fr a => dLr1 fr (a.rd en)
  | .lr2 _ _ fr a b => dLr2 fr (a.rd en) (b.rd en)
  | .mth m a as => match as with
    | .nil => dBM0 m.ty m.w (a.rd en)
    | .cons b r => dBM m.ty m.w (a.rd en) (dCons (b.rd en) (r.rd en))
  | .frz a => dFrz (a.rd en)
def SxO.rd (en : Nat → Option Ent) : SxO → TDO
  | .no => dNoPart
  | .so a => dPart (a.rd en)
def SxL.rd (en : Nat → Option Ent) : SxL → TDA
  | .nil => dNil
  | .cons a r => dCons (a.rd en) (r.rd en)
def SxL.rdB (en : Nat → Option Ent) (o : BoolOp) : SxL → TD
  | .nil => dNo
  | .cons a r => match r with
    | .nil => a.rd en
    | .cons b r' => match o with
      | .And => dAndV (a.rd en) (SxL.rdB en o (.cons b r'))
      | .Or => dOrV (a.rd en) (SxL.rdB en o (.cons b r'))
def Tx.rd (en : Nat → Option Ent) : Tx → TDT
  | .v a => dB (a.rd en)
  | .tr a => dTru (a.rd en)
  | .cmp o a b => dB (dBin (cmpW o) (a.rd en) (b.rd en))
  | .chn o o' a b c => dB (dCh (cmpW o) (cmpW o') (a.rd en) (b.rd en) (c.rd en))
  | .bop o ts => ts.rd en o
  | .not_ t => dNot (t.rd en)
def TxL.rd (en : Nat → Option Ent) (o : BoolOp) : TxL → TDT
  | .one t => t.rd en
  | .cons t r => match o with
    | .And => dAnd (t.rd en) (r.rd en o)
    | .Or => dOr (t.rd en) (r.rd en o)
def TxO.rd (en : Nat → Option Ent) : TxO → TDT
  | .no => dYes
  | .so t => t.rd en
def Sit.rd (en : Nat → Option Ent) : Sit → TDI
  | .seq a => dIter (a.rd en)
  | .rng1 _ a => dRng1 (dCons (a.rd en) dNil)
  | .rng2 _ a b => dRng2 (dCons (a.rd en) (dCons (b.rd en) dNil))
  | .enum _ a => dEn (dCons (a.rd en) dNil)
  | .zip _ a b => dZp (dCons (a.rd en) (dCons (b.rd en) dNil))
end
mutual
def Ss.rd (en : Nat → Option Ent) : Ss → TDS
  | .doc _ => dNext
  | .pass => dNext
  | .brk => dBrk
  | .cnt => dCnt
  | .ret a => dRet (a.rd en)
  | .retN => dRetN
  | .expr a => dExpr (a.rd en)
  | .if_ c a b => dIfS (c.rd en) (a.rd en) (b.rd en)
  | .whl c a => dWhile (c.rd en) (a.rd en)
  | .for_ g it a => dFor (it.rd en) g.rd (a.rd en)
  | .set i a => dAsg (a.rd en) (gNm i)
  | .unp g a => dAsg (a.rd en) g.rd
  | .put o i a => dAsg (a.rd en) (gSb (o.rd en) (i.rd en) wSet)
  | .par i j a b => dPar i j (dCons (a.rd en) (dCons (b.rd en) dNil))
  | .par3 i j l a b c => dPar3 i j l (dCons (a.rd en) (dCons (b.rd en) (dCons (c.rd en) dNil)))
  | .aug i o a => dAug i (a.rd en) o.w
  | .augS o i op a => dAugS (o.rd en) (i.rd en) (a.rd en) op.w
  | .setLc i fr own _ _ g it c elt => dAsg (dLc fr (it.rd en) g.rd (c.rd en) (elt.rd en) (own.map (·.2))) (gNm i)
  | .nev => dNever
def SsL.rd (en : Nat → Option Ent) : SsL → TDS
  | .nil => dNext
  | .cons s r => dSeq (s.rd en) (r.rd en)
end
end DL
set_option Elab.async false
set_option linter.all false
set_option maxRecDepth 100000
set_option maxHeartbeats 4000000
namespace DL
open PySem PySem.Spec L2

/-! ### the text that the numbers stand for: positions from e, names from E -/
def noE : Expr := .Constant .none 0 ⟨0, 0, 0, 0⟩
def noS : Stmt := .Pass ⟨0, 0, 0, 0⟩
mutual
def Tg.fix (E : SE) : Tg → Expr → Expr
  | .nm i, e => match e with
    | .Name _ p => .Name (E.nm i) p
    | _ => noE
  | .tup ts, e => match e with
    | .Tuple es k p => .Tuple (ts.fix E es) k p
    | _ => noE
def TgL.fix (E : SE) : TgL → List Expr → List Expr
  | .nil, _ => []
  | .cons t r, es => match es with
    | e :: es => t.fix E e :: r.fix E es
    | _ => [noE]
end
mutual
def Sx.fix (E : SE) : Sx → Expr → Expr
  | .var i, e => match e with
    | .Name _ p => .Name (E.nm i) p
    | _ => noE
  | .val i, e => match e with
    | .Name _ p => .Name (E.nm i) p
    | _ => noE
  | .glo k, e => match e with
    | .Name _ p => .Name (E.gn k) p
    | _ => noE
  | .int i, e => match e with
    | .Constant _ j p => .Constant (.int i) j p
    | _ => noE
  | .bl i, e => match e with
    | .Constant _ j p => .Constant (.bool i) j p
    | _ => noE
  | .non, e => match e with
    | .Constant _ j p => .Constant .none j p
    | _ => noE
  | .str i, e => match e with
    | .Constant _ j p => .Constant (.str i) j p
    | _ => noE
  | .bin o a b, e => match e with
    | .BinOp l _ r p => .BinOp (a.fix E l) o.op (b.fix E r) p
    | _ => noE
  | .cmp o a b, e => match e with
    | .Compare l _ [r] p => .Compare (a.fix E l) [o] [b.fix E r] p
    | _ => noE
  | .chn o o' a b c, e => match e with
    | .Compare l _ [r, u] p => .Compare (a.fix E l) [o, o'] [b.fix E r, c.fix E u] p
    | _ => noE
  | .bop o as, e => match e with
    | .BoolOp _ es p => .BoolOp o (as.fix E es) p
    | _ => noE
  | .not_ a, e => match e with
    | .UnaryOp _ x p => .UnaryOp .Not (a.fix E x) p
    | _ => noE
  | .neg a, e => match e with
    | .UnaryOp _ x p => .UnaryOp .USub (a.fix E x) p
    | _ => noE
  | .ite c a b, e => match e with
    | .IfExp t x y p => .IfExp (c.fix E t) (a.fix E x) (b.fix E y) p
    | _ => noE
  | .tup as, e => match e with
    | .Tuple es k p => .Tuple (as.fix E es) k p
    | _ => noE
  | .lst _ as, e => match e with
    | .List es p => .List (as.fix E es) p
    | _ => noE
  | .call k as, e => match e with
    | .Call (.Name _ p) es [] q => .Call (.Name (E.gn k) p) (as.fix E es) [] q
    | _ => noE
  | .blt k _ as, e => match e with
    | .Call (.Name _ p) es [] q => .Call (.Name (E.gn k) p) (as.fix E es) [] q
    | _ => noE
  | .ix a b, e => match e with
    | .Subscript x y p => .Subscript (a.fix E x) (b.fix E y) p
    | _ => noE
  | .slc _ a lo hi, e => match e with
    | .Subscript x (.Slice l h none p2) p => .Subscript (a.fix E x) (.Slice (lo.fix E l) (hi.fix E h) none p2) p
    | _ => noE
  | .rev _ a, e => match e with
    | .Subscript x (.Slice none none (some (.UnaryOp .USub (.Constant (.int 1) k q1) q2)) q3) p => .Subscript (a.fix E x) (.Slice none none (some (.UnaryOp .USub (.Constant (.int 1) k q1) q2)) q3) p
    | _ => noE
  | .lc _ own vis gl g it c elt, e => match e with
    | .ListComp x [⟨tg, iter, ifs, 0⟩] sc p => .ListComp (elt.fix (E.inner own vis gl sc) x) [⟨g.fix (E.inner own vis gl sc) tg, it.fix E iter, c.fix (E.inner own vis gl sc) ifs, 0⟩] sc p
    | _ => noE
  | .lr1 kl kr _ a, e => match e with
    | .Call (.Name _ p) [.Call (.Name _ p2) [x] [] q2] [] q => .Call (.Name (E.gn kl) p) [.Call (.Name (E.gn kr) p2) [a.fix E x] [] q2] [] q
    | _ => noE
  | .lr2 kl kr _ a b, e => match e with
    | .Call (.Name _ p) [.Call (.Name _ p2) [x, y] [] q2] [] q => .Call (.Name (E.gn kl) p) [.Call (.Name (E.gn kr) p2) [a.fix E x, b.fix E y] [] q2] [] q
    | _ => noE
  | .mth m a as, e => match e with
    | .Call (.Attribute o _ p) es [] q => .Call (.Attribute (a.fix E o) m.nm p) (as.fix E es) [] q
    | _ => noE
  | .frz a, e => a.fix E e
def SxO.fix (E : SE) : SxO → Option Expr → Option Expr
  | .no, _ => none
  | .so a, e => match e with
    | some e => some (a.fix E e)
    | none => some noE
def SxL.fix (E : SE) : SxL → List Expr → List Expr
  | .nil, _ => []
  | .cons a r, es => match es with
    | e :: es => a.fix E e :: r.fix E es
    | _ => [noE]
def Tx.fix (E : SE) : Tx → Expr → Expr
  | .v a, e => a.fix E e
  | .tr a, e => a.fix E e
  | .cmp o a b, e => match e with
    | .Compare l _ [r] p => .Compare (a.fix E l) [o] [b.fix E r] p
    | _ => noE
  | .chn o o' a b c, e => match e with
    | .Compare l _ [r, u] p => .Compare (a.fix E l) [o, o'] [b.fix E r, c.fix E u] p
    | _ => noE
  | .bop o ts, e => match e with
    | .BoolOp _ es p => .BoolOp o (ts.fix E es) p
    | _ => noE
  | .not_ t, e => match e with
    | .UnaryOp _ x p => .UnaryOp .Not (t.fix E x) p
    | _ => noE
def TxL.fix (E : SE) : TxL → List Expr → List Expr
  | .one t, es => match es with
    | e :: _ => [t.fix E e]
    | _ => [noE]
  | .cons t r, es => match es with
    | e :: es => t.fix E e :: r.fix E es
    | _ => [noE]
def TxO.fix (E : SE) : TxO → List Expr → List Expr
  | .no, _ => []
  | .so t, es => match es with
    | e :: _ => [t.fix E e]
    | _ => [noE]
def Sit.fix (E : SE) : Sit → Expr → Expr
  | .seq a, e => a.fix E e
  | .rng1 k a, e => match e with
    | .Call (.Name _ p) [x] [] q => .Call (.Name (E.gn k) p) [a.fix E x] [] q
    | _ => noE
  | .rng2 k a b, e => match e with
    | .Call (.Name _ p) [x, y] [] q => .Call (.Name (E.gn k) p) [a.fix E x, b.fix E y] [] q
    | _ => noE
  | .enum k a, e => match e with
    | .Call (.Name _ p) [x] [] q => .Call (.Name (E.gn k) p) [a.fix E x] [] q
    | _ => noE
  | .zip k a b, e => match e with
    | .Call (.Name _ p) [x, y] [] q => .Call (.Name (E.gn k) p) [a.fix E x, b.fix E y] [] q
    | _ => noE
end
mutual
def Ss.fix (E : SE) : Ss → Stmt → Stmt
  | .doc x, s => match s with
    | .Expr (.Constant _ j p) q => .Expr (.Constant (.str x) j p) q
    | _ => noS
  | .pass, s => match s with
    | .Pass p => .Pass p
    | _ => noS
  | .brk, s => match s with
    | .Break p => .Break p
    | _ => noS
  | .cnt, s => match s with
    | .Continue p => .Continue p
    | _ => noS
  | .ret a, s => match s with
    | .Return (some e) p => .Return (some (a.fix E e)) p
    | _ => noS
  | .retN, s => match s with
    | .Return _ p => .Return none p
    | _ => noS
  | .expr a, s => match s with
    | .Expr e p => .Expr (a.fix E e) p
    | _ => noS
  | .if_ c a b, s => match s with
    | .If t x y p => .If (c.fix E t) (a.fix E x) (b.fix E y) p
    | _ => noS
  | .whl c a, s => match s with
    | .While t x _ p => .While (c.fix E t) (a.fix E x) [] p
    | _ => noS
  | .for_ g it a, s => match s with
    | .For t i x _ p => .For (g.fix E t) (it.fix E i) (a.fix E x) [] p
    | _ => noS
  | .set i a, s => match s with
    | .Assign [.Name _ q] e p => .Assign [.Name (E.nm i) q] (a.fix E e) p
    | _ => noS
  | .unp g a, s => match s with
    | .Assign [t] e p => .Assign [g.fix E t] (a.fix E e) p
    | _ => noS
  | .put o i a, s => match s with
    | .Assign [.Subscript x y q] e p => .Assign [.Subscript (o.fix E x) (i.fix E y) q] (a.fix E e) p
    | _ => noS
  | .par i j a b, s => match s with
    | .Assign [.Tuple [.Name _ q1, .Name _ q2] k1 q3] (.Tuple [x, y] k2 q4) p => .Assign [.Tuple [.Name (E.nm i) q1, .Name (E.nm j) q2] k1 q3] (.Tuple [a.fix E x, b.fix E y] k2 q4) p
    | _ => noS
  | .par3 i j l a b c, s => match s with
    | .Assign [.Tuple [.Name _ q1, .Name _ q2, .Name _ q5] k1 q3] (.Tuple [x, y, z] k2 q4) p => .Assign [.Tuple [.Name (E.nm i) q1, .Name (E.nm j) q2, .Name (E.nm l) q5] k1 q3] (.Tuple [a.fix E x, b.fix E y, c.fix E z] k2 q4) p
    | _ => noS
  | .aug i o a, s => match s with
    | .AugAssign (.Name _ q) _ e p => .AugAssign (.Name (E.nm i) q) o.op (a.fix E e) p
    | _ => noS
  | .augS o i op a, s => match s with
    | .AugAssign (.Subscript x y q) _ e p => .AugAssign (.Subscript (o.fix E x) (i.fix E y) q) op.op (a.fix E e) p
    | _ => noS
  | .setLc i fr own vis gl g it c elt, s => match s with
    | .Assign [.Name _ q] (.ListComp x [⟨tg, iter, ifs, 0⟩] sc p2) p => .Assign [.Name (E.nm i) q] (.ListComp (elt.fix (E.inner own vis gl sc) x) [⟨g.fix (E.inner own vis gl sc) tg, it.fix E iter, c.fix (E.inner own vis gl sc) ifs, 0⟩] sc p2) p
    | _ => noS
  | .nev, s => s
def SsL.fix (E : SE) : SsL → List Stmt → List Stmt
  | .nil, _ => []
  | .cons s r, ss => match ss with
    | x :: xs => s.fix E x :: r.fix E xs
    | _ => [noS]
end

/-! ### what is to be checked -/
def isComp : Expr → Bool
  | .ListComp .. => true | .SetComp .. => true | .DictComp .. => true | _ => false
def isCall0 : Expr → Bool
  | .Call (.Name _ _) [] [] _ => true | _ => false
def BI.cal : BI → Bool
  | .range => false | .enum => false | .zip => false | _ => true
def plainT : Expr → Bool
  | .UnaryOp .Not _ _ => false | .BoolOp .. => false | .IfExp .. => false | .Compare .. => false | _ => true
def isSetE : Expr → Bool
  | .Set .. => true | _ => false
def isDisp : Expr → Bool
  | .Tuple .. => true | .List .. => true | _ => false
def foldT : Expr → Bool
  | .Tuple vs _ _ => vs.all (foldedForSure 8) && vs.all fun e => !isStar e
  | _ => false
def needTup : Sit → Bool
  | .enum _ _ => true | .zip _ _ _ => true | _ => false
def Tg.isTup : Tg → Bool
  | .tup _ => true | _ => false
def lnOk (p q : Pos) : Bool := p.endLine == q.line
def visC (E : SE) (sc : Scope) : Bool :=
  (E.vis.all fun i => match E.N[i]? with
    | some x => !(x == ("__debug__" : Str)) && !(x == ("__classdict__" : Str)) && (match sc.names.lookup x with
      | some .local => true | some .cell => true | some .free => true | _ => false)
    | none => false) &&
  (E.loc.all fun i => match E.N[i]? with
    | some x => (match sc.names.lookup x with
      | some .local => true | some .cell => true | _ => false)
    | none => false) &&
  (E.gl.all fun k => match E.G[k]? with
    | some p => !(p.1 == ("__debug__" : Str)) && (match sc.names.lookup p.1 with
      | some .globalImplicit => true | _ => false)
    | none => false)
/-- the name of a slot is a plain local -/
def plainL (sc : Scope) (x : Str) : Bool := match sc.names.lookup x with
  | some .local => true | _ => false
/-- the name of a slot is captured by a block -/
def cellL (sc : Scope) (x : Str) : Bool := match sc.names.lookup x with
  | some .cell => true | _ => false
mutual
def Tg.ok (E : SE) : Tg → Expr → Bool
  | .nm i, e => match e with
    | .Name _ _ => E.loc.contains i
    | _ => false
  | .tup ts, e => match e with
    | .Tuple es _ _ => ts.ok E es
    | _ => false
def TgL.ok (E : SE) : TgL → List Expr → Bool
  | .nil, es => es.isEmpty
  | .cons t r, es => match es with
    | e :: es => t.ok E e && r.ok E es
    | _ => false
end
mutual
def Sx.ok (E : SE) : Sx → Expr → Bool
  | .var i, e => match e with
    | .Name _ _ => E.vis.contains i
    | _ => false
  | .val i, e => match e with
    | .Name _ _ => E.vis.contains i
    | _ => false
  | .glo k, e => match e with
    | .Name _ _ => E.gl.contains k && (match E.en k with | some (.con _) => true | some (.ty _) => true | _ => false)
    | _ => false
  | .int _, e => match e with
    | .Constant _ _ _ => true
    | _ => false
  | .bl _, e => match e with
    | .Constant _ _ _ => true
    | _ => false
  | .non, e => match e with
    | .Constant _ _ _ => true
    | _ => false
  | .str _, e => match e with
    | .Constant _ _ _ => true
    | _ => false
  | .bin _ a b, e => match e with
    | .BinOp l _ r _ => a.ok E l && b.ok E r
    | _ => false
  | .cmp o a b, e => match e with
    | .Compare l _ [r] _ => a.ok E l && b.ok E r && !isSetE (b.fix E r)
    | _ => false
  | .chn o o' a b c, e => match e with
    | .Compare l _ [r, u] _ => a.ok E l && b.ok E r && c.ok E u && !isSetE (c.fix E u)
    | _ => false
  | .bop o as, e => match e with
    | .BoolOp _ es _ => as.ok E es
    | _ => false
  | .not_ a, e => match e with
    | .UnaryOp _ x _ => a.ok E x
    | _ => false
  | .neg a, e => match e with
    | .UnaryOp _ x _ => a.ok E x
    | _ => false
  | .ite c a b, e => match e with
    | .IfExp t x y _ => c.ok E t && a.ok E x && b.ok E y
    | _ => false
  | .tup as, e => match e with
    | .Tuple es _ _ => as.ok E es
    | _ => false
  | .lst _ as, e => match e with
    | .List es _ => as.ok E es
    | _ => false
  | .call k as, e => match e with
    | .Call (.Name _ _) es [] _ => E.gl.contains k && (match E.en k with | some (.fn _ _) => true | _ => false) && as.ok E es
    | _ => false
  | .blt k _ as, e => match e with
    | .Call (.Name _ _) es [] _ => E.gl.contains k && (match E.en k with | some (.bi b) => b.cal | _ => false) && as.ok E es && !es.isEmpty
    | _ => false
  | .ix a b, e => match e with
    | .Subscript x y _ => a.ok E x && b.ok E y && !isSlice (b.fix E y)
    | _ => false
  | .slc _ a lo hi, e => match e with
    | .Subscript x (.Slice l h none _) _ => a.ok E x && lo.ok E l && hi.ok E h
    | _ => false
  | .rev _ a, e => match e with
    | .Subscript x (.Slice none none (some (.UnaryOp .USub (.Constant (.int 1) _ _) _)) _) _ => a.ok E x
    | _ => false
  | .lc _ own vis gl g it c elt, e => match e with
    | .ListComp x [⟨tg, iter, ifs, 0⟩] sc _ => blkC E.N E.sc sc own && visC (E.inner own vis gl sc) sc && it.ok E iter && !isSetE (it.fix E iter) && (!needTup it || g.isTup) && g.ok (E.inner own vis gl sc) tg && c.ok (E.inner own vis gl sc) ifs && elt.ok (E.inner own vis gl sc) x
    | _ => false
  | .lr1 kl kr _ a, e => match e with
    | .Call (.Name _ _) [.Call (.Name _ _) [x] [] _] [] _ => E.gl.contains kl && E.gl.contains kr && (match E.en kl with | some (.bi .list) => true | _ => false) && (match E.en kr with | some (.bi .range) => true | _ => false) && a.ok E x
    | _ => false
  | .lr2 kl kr _ a b, e => match e with
    | .Call (.Name _ _) [.Call (.Name _ _) [x, y] [] _] [] _ => E.gl.contains kl && E.gl.contains kr && (match E.en kl with | some (.bi .list) => true | _ => false) && (match E.en kr with | some (.bi .range) => true | _ => false) && a.ok E x && b.ok E y
    | _ => false
  | .mth m a as, e => match e with
    | .Call (.Attribute o _ p) es [] q => a.ok E o && as.ok E es && !isCall0 (a.fix E o) && lnOk p q && decide (es.length < 25)
    | _ => false
  | .frz a, e => a.ok E e
def SxO.ok (E : SE) : SxO → Option Expr → Bool
  | .no, e => e.isNone
  | .so a, e => match e with
    | some e => a.ok E e
    | none => false
def SxL.ok (E : SE) : SxL → List Expr → Bool
  | .nil, es => es.isEmpty
  | .cons a r, es => match es with
    | e :: es => a.ok E e && r.ok E es
    | _ => false
def Tx.ok (E : SE) : Tx → Expr → Bool
  | .v a, e => a.ok E e && plainT (a.fix E e)
  | .tr a, e => a.ok E e && plainT (a.fix E e)
  | .cmp o a b, e => match e with
    | .Compare l _ [r] _ => a.ok E l && b.ok E r && !isSetE (b.fix E r)
    | _ => false
  | .chn o o' a b c, e => match e with
    | .Compare l _ [r, u] _ => a.ok E l && b.ok E r && c.ok E u && !isSetE (c.fix E u)
    | _ => false
  | .bop o ts, e => match e with
    | .BoolOp _ es _ => ts.ok E es
    | _ => false
  | .not_ t, e => match e with
    | .UnaryOp _ x _ => t.ok E x
    | _ => false
def TxL.ok (E : SE) : TxL → List Expr → Bool
  | .one t, es => match es with
    | [e] => t.ok E e
    | _ => false
  | .cons t r, es => match es with
    | e :: es => t.ok E e && r.ok E es
    | _ => false
def TxO.ok (E : SE) : TxO → List Expr → Bool
  | .no, es => es.isEmpty
  | .so t, es => match es with
    | [e] => t.ok E e
    | _ => false
def Sit.ok (E : SE) : Sit → Expr → Bool
  | .seq a, e => a.ok E e
  | .rng1 k a, e => match e with
    | .Call (.Name _ _) [x] [] _ => E.gl.contains k && (match E.en k with | some (.bi .range) => true | _ => false) && a.ok E x
    | _ => false
  | .enum k a, e => match e with
    | .Call (.Name _ _) [x] [] _ => E.gl.contains k && (match E.en k with | some (.bi .enum) => true | _ => false) && a.ok E x
    | _ => false
  | .zip k a b, e => match e with
    | .Call (.Name _ _) [x, y] [] _ => E.gl.contains k && (match E.en k with | some (.bi .zip) => true | _ => false) && a.ok E x && b.ok E y
    | _ => false
  | .rng2 k a b, e => match e with
    | .Call (.Name _ _) [x, y] [] _ => E.gl.contains k && (match E.en k with | some (.bi .range) => true | _ => false) && a.ok E x && b.ok E y
    | _ => false
end
mutual
def Ss.ok (E : SE) : Ss → Stmt → Bool
  | .doc _, s => match s with
    | .Expr (.Constant _ _ _) _ => true
    | _ => false
  | .pass, s => match s with
    | .Pass _ => true
    | _ => false
  | .brk, s => match s with
    | .Break _ => true
    | _ => false
  | .cnt, s => match s with
    | .Continue _ => true
    | _ => false
  | .ret a, s => match s with
    | .Return (some e) _ => a.ok E e
    | _ => false
  | .retN, s => match s with
    | .Return _ _ => true
    | _ => false
  | .expr a, s => match s with
    | .Expr e _ => a.ok E e && !isComp (a.fix E e)
    | _ => false
  | .if_ c a b, s => match s with
    | .If t x y _ => c.ok E t && a.ok E x && b.ok E y
    | _ => false
  | .whl c a, s => match s with
    | .While t x _ _ => c.ok E t && a.ok E x
    | _ => false
  | .for_ g it a, s => match s with
    | .For t i x _ _ => (!needTup it || g.isTup) && g.ok E t && it.ok E i && !isSetE (it.fix E i) && a.ok E x
    | _ => false
  | .set i a, s => match s with
    | .Assign [.Name _ q] e p => E.loc.contains i && a.ok E e && (!isComp (a.fix E e) || cellL E.sc (E.nm i))
    | _ => false
  | .unp g a, s => match s with
    | .Assign [t] e _ => g.ok E t && a.ok E e && !isComp (a.fix E e) && (!isDisp (a.fix E e) || foldT (a.fix E e))
    | _ => false
  | .put o i a, s => match s with
    | .Assign [.Subscript x y _] e _ => o.ok E x && i.ok E y && a.ok E e && !isComp (a.fix E e) && !isSlice (i.fix E y)
    | _ => false
  | .par i j a b, s => match s with
    | .Assign [.Tuple [.Name _ q1, .Name _ q2] k1 q3] (.Tuple [x, y] k2 q4) p => a.ok E x && b.ok E y && decide (i ≠ j) && E.loc.contains i && E.loc.contains j && plainL E.sc (E.nm i) && plainL E.sc (E.nm j) && (q1.line == q2.line)
        && !(foldedForSure 8 (a.fix E x) && foldedForSure 8 (b.fix E y)) && !(constantsAlone 8 (a.fix E x) && constantsAlone 8 (b.fix E y))
    | _ => false
  | .par3 i j l a b c, s => match s with
    | .Assign [.Tuple [.Name _ q1, .Name _ q2, .Name _ q5] k1 q3] (.Tuple [x, y, z] k2 q4) p => a.ok E x && b.ok E y && c.ok E z && decide (i ≠ j) && decide (i ≠ l) && decide (j ≠ l) && E.loc.contains i && E.loc.contains j && E.loc.contains l && plainL E.sc (E.nm i) && plainL E.sc (E.nm j) && plainL E.sc (E.nm l) && (q1.line == q2.line) && (q1.line == q5.line)
        && !(foldedForSure 8 (a.fix E x) && (foldedForSure 8 (b.fix E y) && foldedForSure 8 (c.fix E z))) && !(constantsAlone 8 (a.fix E x) && (constantsAlone 8 (b.fix E y) && constantsAlone 8 (c.fix E z)))
    | _ => false
  | .aug i o a, s => match s with
    | .AugAssign (.Name _ _) _ e _ => E.loc.contains i && a.ok E e
    | _ => false
  | .augS o i op a, s => match s with
    | .AugAssign (.Subscript x y _) _ e _ => o.ok E x && i.ok E y && a.ok E e && !isSlice (i.fix E y)
    | _ => false
  | .setLc i fr own vis gl g it c elt, s => match s with
    | .Assign [.Name _ q] (.ListComp x [⟨tg, iter, ifs, 0⟩] sc p2) p => E.loc.contains i && plainL E.sc (E.nm i) && (q.line == p2.line) && !(sc.names.any fun (n, k) => n == E.nm i && (k == .local || k == .cell)) &&
        blkC E.N E.sc sc own && visC (E.inner own vis gl sc) sc && it.ok E iter && !isSetE (it.fix E iter) && (!needTup it || g.isTup) && g.ok (E.inner own vis gl sc) tg && c.ok (E.inner own vis gl sc) ifs && elt.ok (E.inner own vis gl sc) x
    | _ => false
  | .nev, _ => true
def SsL.ok (E : SE) : SsL → List Stmt → Bool
  | .nil, ss => ss.isEmpty
  | .cons s r, ss => match ss with
    | x :: xs => s.ok E x && r.ok E xs
    | _ => false
end
end DL
set_option Elab.async false
set_option linter.all false
set_option maxRecDepth 100000
set_option maxHeartbeats 4000000
namespace DL
open PySem PySem.Spec L2

/-! ### what the numbers say holds of the text -/
def EntOk (X : Cx) (x : Str) : Ent → Prop
  | .fn _ sp => EntFn X x sp
  | .con d => ∃ v u, X.mg x = some u ∧ RelV v u ∧ ∀ G, Fz X.K G v d
  | .ty n => X.mg x = none ∧ bootBuiltins x = some (.type n) ∧ x ≠ "__name__"
  | .bi b => x = b.nm ∧ X.mg x = none
structure KR (sc sc' : Scope) : Prop where
  loc : ∀ x, sc.names.lookup x = some .local → sc'.names.lookup x = some .local
  cell : ∀ x, sc.names.lookup x = some .cell → sc'.names.lookup x = some .cell
  free : ∀ x, sc.names.lookup x = some .free → sc'.names.lookup x = some .free ∨ sc'.names.lookup x = some .cell
  glo : ∀ x, sc.names.lookup x = some .globalImplicit → sc'.names.lookup x = some .globalImplicit
theorem KR.refl (sc : Scope) : KR sc sc := ⟨fun _ h => h, fun _ h => h, fun _ h => .inl h, fun _ h => h⟩
structure SEok (E : SE) (X : Cx) (Wx : WX) : Prop where
  hN : X.N = E.N
  nd : E.N.Nodup
  kr : KR E.sc X.env.scope
  kind : X.env.scope.kind = .function
  vc : visC E E.sc = true
  fc : ∀ x, E.sc.names.lookup x = some .cell → X.fn x = true
  calm : X.calm = true
  un : X.A.units + 65 < cLine
  gd : X.A.guards = some []
  tk : Takes X Wx
  ps : PassesOwn (model X.prog X.w) X.A X.env X.xe
  ent : ∀ (k : Nat) (p : Str × Ent), E.G[k]? = some p → EntOk X p.1 p.2
section
variable {E : SE} {X : Cx} {Wx : WX} {i k : Nat}
theorem SEok.vi (S : SEok E X Wx) (h : E.vis.contains i = true) : X.N[i]? = some (E.nm i) ∧ Vis X.env.scope (E.nm i) ∧ (E.nm i == ("__debug__" : Str)) = false ∧ (E.nm i == ("__classdict__" : Str)) = false := by
  have v := S.vc
  unfold visC at v
  rw [Bool.and_eq_true, Bool.and_eq_true, List.all_eq_true] at v
  have q := v.1.1 i (by simpa using h)
  unfold SE.nm
  rw [S.hN, List.getD_eq_getElem?_getD]
  cases e : E.N[i]? with
  | none => rw [e] at q; cases q
  | some x =>
    rw [e] at q
    simp only [Bool.and_eq_true, Bool.not_eq_true'] at q
    refine ⟨rfl, ?_, q.1.1, q.1.2⟩
    show Vis X.env.scope x
    have q2 := q.2
    split at q2
    · rename_i z; exact .inl (S.kr.loc x z)
    · rename_i z; exact .inr (.inl (S.kr.cell x z))
    · rename_i z
      rcases S.kr.free x z with z | z
      · exact .inr (.inr z)
      · exact .inr (.inl z)
    · cases q2
theorem SEok.lo (S : SEok E X Wx) (h : E.loc.contains i = true) : X.N[i]? = some (E.nm i) ∧ Loc X.env.scope (E.nm i) ∧ (X.fn (E.nm i) = true ∨ X.env.scope.names.lookup (E.nm i) = some .local) := by
  have v := S.vc
  unfold visC at v
  rw [Bool.and_eq_true, Bool.and_eq_true, List.all_eq_true, List.all_eq_true] at v
  have q := v.1.2 i (by simpa using h)
  unfold SE.nm
  rw [S.hN, List.getD_eq_getElem?_getD]
  cases e : E.N[i]? with
  | none => rw [e] at q; cases q
  | some x =>
    rw [e] at q
    dsimp only at q
    split at q
    · rename_i z; exact ⟨rfl, .inl (S.kr.loc x z), .inr (S.kr.loc x z)⟩
    · rename_i z; exact ⟨rfl, .inr (S.kr.cell x z), .inl (S.fc x z)⟩
    · cases q
theorem SEok.gk (S : SEok E X Wx) (h : E.gl.contains k = true) : ∃ en, E.en k = some en ∧ Gl X (E.gn k) ∧ (E.gn k == ("__debug__" : Str)) = false ∧ EntOk X (E.gn k) en := by
  have v := S.vc
  unfold visC at v
  rw [Bool.and_eq_true, Bool.and_eq_true, List.all_eq_true, List.all_eq_true, List.all_eq_true] at v
  have q := v.2 k (by simpa using h)
  unfold SE.gn SE.en
  cases e : E.G[k]? with
  | none => rw [e] at q; cases q
  | some p =>
    rw [e] at q
    simp only [Bool.and_eq_true, Bool.not_eq_true'] at q
    refine ⟨p.2, rfl, ?_, q.1, S.ent k p e⟩
    have q2 := q.2
    split at q2
    · rename_i z; exact S.kr.glo _ z
    · cases q2
theorem SEok.plain (S : SEok E X Wx) {x : Str} (h : plainL E.sc x = true) : X.env.scope.names.lookup x = some .local := by
  unfold plainL at h
  split at h
  · rename_i z; exact S.kr.loc _ z
  · cases h
theorem SEok.cell (S : SEok E X Wx) {x : Str} (h : cellL E.sc x = true) : X.env.scope.names.lookup x = some .cell := by
  unfold cellL at h
  split at h
  · rename_i z; exact S.kr.cell _ z
  · cases h
theorem lookup_relS_free {sc : Scope} : ∀ {names : List (Str × NameKind)} {x : Str}, names.lookup x = some .free →
    (names.map fun (n, k) => if (k == NameKind.free && sc.kind == .function && sc.names.lookup n == some .cell) then (n, NameKind.cell) else (n, k)).lookup x = some .free ∨
    (names.map fun (n, k) => if (k == NameKind.free && sc.kind == .function && sc.names.lookup n == some .cell) then (n, NameKind.cell) else (n, k)).lookup x = some .cell
  | [], _, h => by simp at h
  | (n, k₀) :: r, x, h => by
    have ih := @lookup_relS_free sc r x
    simp only [List.map_cons]
    by_cases hx : (x == n) = true
    · simp only [List.lookup_cons, hx] at h
      cases h
      split
      · right; simp only [List.lookup_cons, hx]
      · left; simp only [List.lookup_cons, hx]
    · have hx : (x == n) = false := by simpa using hx
      simp only [List.lookup_cons, hx] at h
      split <;> (simp only [List.lookup_cons, hx]; exact ih h)
theorem SEok.blk (S : SEok E X Wx) {own : List (Str × Nat)} {vis gl : List Nat} {sc : Scope} (hb : blkC E.N E.sc sc own = true) (hv : visC (E.inner own vis gl sc) sc = true) (s : Shared) (H : Hp) (C : Addr) (cl : List (Str × Addr)) (fp : List Addr) :
    SEok (E.inner own vis gl sc) (X.blk s H sc (compEnvC sc cl C X.env) fp) noX := by
  have bk := blkOk_by hb
  refine ⟨S.hN, S.nd, ⟨fun x h => lookup_relS_keep (by decide) h, fun x h => lookup_relS_keep (by decide) h, fun x h => ?_, fun x h => lookup_relS_keep (by decide) h⟩, bk.kind, hv, fun x h => ?_, S.calm, S.un, S.gd, fun u s' ⟨a, B, sI, pins, σ, H, cls, d, e, I, nb, up, sky, na, os, ag, w⟩ => w, PassesOwn.never, fun k p h => ?_⟩
  · exact lookup_relS_free h
  · have h : sc.names.lookup x = some .cell := h
    show (sc.names.lookup x == some .cell) = true
    rw [h]; decide
  · have z := S.ent k p h
    cases e : p.2 with
    | fn n sp => rw [e] at z; exact ⟨z.ex, z.gd⟩
    | con d => rw [e] at z; exact z
    | ty n => rw [e] at z; exact z
    | bi b => rw [e] at z; exact z
theorem SEok.blkOk (S : SEok E X Wx) {own : List (Str × Nat)} {sc : Scope} (hb : blkC E.N E.sc sc own = true) : BlkOk X.N X.env.scope sc own := by
  have bk := blkOk_by hb
  rw [S.hN]
  refine ⟨bk.kind, bk.uniq, bk.ix, fun y hy e => ?_, bk.own⟩
  rcases bk.free y hy e with z | z
  · exact .inl (S.kr.cell _ z)
  · rcases S.kr.free _ z with z | z
    · exact .inr z
    · exact .inl z
end

/-! ### the operators -/
section
variable {X : Cx}
theorem cmp_ok (hu : X.A.units + 65 < cLine) : ∀ o : CmpOp, OpR X (compareOp o) (rOpD X.K (cmpW o))
  | .Eq => opd_eq (by omega)
  | .NotEq => opd_ne (by omega)
  | .Lt => opd_ltA hu
  | .LtE => opd_leA hu
  | .Gt => opd_gtA hu
  | .GtE => opd_geA hu
  | .Is => opd_is
  | .IsNot => opd_isnot
  | .In => opd_in hu
  | .NotIn => opd_notin hu
theorem bin_ok : ∀ o : BO, OpR X (binaryOp o.op) (rOpD X.K o.w)
  | .add fr => opd_add fr
  | .sub => opd_sub
  | .mul fr => opd_mul fr
  | .fdiv => opd_fdiv
  | .mod => opd_mod
  | .pow => opd_pow
theorem iadd_ok : OpR X (inplaceOp .Add) (rOpD X.K wIAdd) := by
  rintro pins s σ H x y v u Q I rx ry ⟨G, r, M, dx, dy, Qd, S, hx, hy, t, k⟩
  unfold wIAdd at t
  split at t
  · obtain rfl := hx.int_inv
    obtain rfl := hy.int_inv
    exact iop_add pins s σ H _ _ v u Q I rx ry ⟨_, _, rfl, rfl, k.int S t⟩
  · obtain rfl := hx.str_inv
    obtain rfl := hy.str_inv
    exact iop_add_str pins s σ H _ _ v u Q I rx ry ⟨_, _, rfl, rfl, t.1, k.str S t.2⟩
  · obtain ⟨a, rfl, ha⟩ := hx.refA
    split at t
    · rename_i ws ys hc e
      obtain ⟨vs, h1, h2⟩ := S.cell _ _ _ ha hc
      obtain ⟨b, zs, rfl, h3, h4⟩ := S.list hy e
      have tt : FzL X.K G (vs ++ zs) (ws ++ ys) := h2.append h4
      refine iop_ext pins s σ H _ _ v u Q I rx ry ⟨a, b, vs, zs, rfl, rfl, h1, h3, by rw [h2.length, h4.length]; exact t.1, ?_⟩
      exact k _ _ t.2 _ _ _ _ (Ext.write ha) (PX.refl _) (S.write ha hc rfl ⟨_, upd_same, tt⟩ rfl) (.ref ha)
    · exact t.elim
  · exact t.elim
theorem aug_ok : ∀ o : AO, OpR X (inplaceOp o.op) (rOpD X.K o.w)
  | .add => iadd_ok
  | .sub => by
    rintro pins s σ H x y v u Q I rx ry ⟨G, r, M, dx, dy, Qd, S, hx, hy, t, k⟩
    unfold AO.w wSub at t
    dsimp only at t
    split at t
    · obtain rfl := hx.int_inv
      obtain rfl := hy.int_inv
      exact iop_sub pins s σ H _ _ v u Q I rx ry ⟨_, _, rfl, rfl, k.int S t⟩
    · exact t.elim
  | .mul => by
    rintro pins s σ H x y v u Q I rx ry ⟨G, r, M, dx, dy, Qd, S, hx, hy, t, k⟩
    unfold AO.w wIMul at t
    dsimp only at t
    split at t
    · obtain rfl := hx.int_inv
      obtain rfl := hy.int_inv
      exact iop_mul pins s σ H _ _ v u Q I rx ry ⟨_, _, rfl, rfl, t.1, k.int S t.2⟩
    · exact t.elim
  | .fdiv => by
    rintro pins s σ H x y v u Q I rx ry ⟨G, r, M, dx, dy, Qd, S, hx, hy, t, k⟩
    unfold AO.w wFDiv at t
    dsimp only at t
    split at t
    · obtain rfl := hx.int_inv
      obtain rfl := hy.int_inv
      exact iop_fdivW pins s σ H _ _ v u Q I rx ry ⟨_, _, rfl, rfl, t.1, k.int S t.2⟩
    · exact t.elim
  | .mod => by
    rintro pins s σ H x y v u Q I rx ry ⟨G, r, M, dx, dy, Qd, S, hx, hy, t, k⟩
    unfold AO.w wMod at t
    dsimp only at t
    split at t
    · obtain rfl := hx.int_inv
      obtain rfl := hy.int_inv
      exact iop_mod pins s σ H _ _ v u Q I rx ry ⟨_, _, rfl, rfl, t.1, k.int S t.2⟩
    · exact t.elim
end

/-! ### shapes -/
theorem notMarks {op : CmpOp} {b : Expr} (h : isSetE b = false) : behindInMarks op b = false := by
  cases b <;> first | rfl | cases h
theorem notMarks2 {o o' : CmpOp} {b c : Expr} (h : isSetE c = false) : lastMarks [o, o'] [b, c] = false := notMarks h
theorem noFold {e : Expr} {env : Env} (h : isSetE e = false) (x : Value) : foldedSetIterable e env x = pure x := by
  cases e <;> first | rfl | cases h
theorem noSwap {e : Expr} {t : Option Expr} {l : Nat} {env : Env} (h : isComp e = false) : swapsWith e t l env = pure false := by
  cases e <;> first | rfl | cases h
theorem noSwapC {e : Expr} {x : Str} {p : Pos} {l : Nat} {env : Env} (h : env.scope.names.lookup x = some .cell) : swapsWith e (some (.Name x p)) l env = pure false := by
  have k : env.kindOf x = some .cell := h
  have k2 : (env.kindOf x == some NameKind.local) = false := by rw [k]; rfl
  cases e <;> first
    | rfl
    | (unfold swapsWith; simp only [k2, Bool.and_false, Bool.false_and])
theorem plainTest {e : Expr} {env : Env} (h : plainT e = true) (whole : Sem Value) : isTrue e env whole = (do let v ← whole; standAt e.pos; holding [v] (truthy v)) := by
  cases e <;> first
    | rfl
    | cases h
    | (rename_i op _ _; cases op <;> first | rfl | cases h)
theorem noBase {o : Expr} {name : Str} {env : Env} {w : Sem Value} (h : isCall0 o = false) : attributeBase o name env w = w := by
  cases o <;> try rfl
  rename_i f as ks p
  cases f <;> try rfl
  cases as <;> try rfl
  cases ks <;> first | rfl | cases h
theorem as_cons {e : Expr} {es : List Expr} {env : Env} (h : isStar e = false) : assignEach (e :: es) env = (false, assign e env) :: assignEach es env := by
  cases e <;> first | rfl | cases h
theorem star_all {env : Env} {pos : Pos} : ∀ {es : List Expr}, noStar es = true → (backTo pos (starEach es env)).all (fun x => !x.1) = true
  | [], _ => rfl
  | e :: es, h => by
    obtain ⟨h1, h2⟩ := noStar_cons h
    rw [star_cons h1]
    show (true && (backTo pos (starEach es env)).all (fun x => !x.1)) = true
    rw [star_all h2]; rfl
theorem noStores {t e : Expr} {env : Env} (h : isDisp e = false) : swappedStores [t] e env = pure none := by
  unfold swappedStores
  cases t <;> cases e <;> first | rfl | cases h
section
variable {E : SE}
theorem Tg.noStar : ∀ (t : Tg) (e : Expr), isStar (t.fix E e) = false
  | .nm i, e => by unfold Tg.fix; split <;> rfl
  | .tup ts, e => by unfold Tg.fix; split <;> rfl
theorem Sx.noStar : ∀ (a : Sx) (e : Expr), isStar (a.fix E e) = false
  | .frz a, e => by unfold Sx.fix; exact Sx.noStar a e
  | .var i, e => by unfold Sx.fix; split <;> rfl
  | .val i, e => by unfold Sx.fix; split <;> rfl
  | .glo i, e => by unfold Sx.fix; split <;> rfl
  | .int i, e => by unfold Sx.fix; split <;> rfl
  | .bl i, e => by unfold Sx.fix; split <;> rfl
  | .non, e => by unfold Sx.fix; split <;> rfl
  | .str i, e => by unfold Sx.fix; split <;> rfl
  | .bin .., e => by unfold Sx.fix; split <;> rfl
  | .cmp .., e => by unfold Sx.fix; split <;> rfl
  | .chn .., e => by unfold Sx.fix; split <;> rfl
  | .bop .., e => by unfold Sx.fix; split <;> rfl
  | .not_ .., e => by unfold Sx.fix; split <;> rfl
  | .neg .., e => by unfold Sx.fix; split <;> rfl
  | .ite .., e => by unfold Sx.fix; split <;> rfl
  | .tup .., e => by unfold Sx.fix; split <;> rfl
  | .lst .., e => by unfold Sx.fix; split <;> rfl
  | .call .., e => by unfold Sx.fix; split <;> rfl
  | .blt .., e => by unfold Sx.fix; split <;> rfl
  | .ix .., e => by unfold Sx.fix; split <;> rfl
  | .slc .., e => by unfold Sx.fix; split <;> rfl
  | .rev .., e => by unfold Sx.fix; split <;> rfl
  | .lc .., e => by unfold Sx.fix; split <;> rfl
  | .lr1 .., e => by unfold Sx.fix; split <;> rfl
  | .lr2 .., e => by unfold Sx.fix; split <;> rfl
  | .mth .., e => by unfold Sx.fix; split <;> rfl
theorem SxL.noStar : ∀ (as : SxL) (es : List Expr), DL.noStar (as.fix E es) = true
  | .nil, es => rfl
  | .cons a r, es => by
    unfold SxL.fix
    split
    · rename_i e es
      unfold DL.noStar
      rw [Sx.noStar a e, SxL.noStar r es]; rfl
    · rfl
end

/-! ### targets -/
mutual
theorem Tg.sound {E : SE} {X : Cx} {Wx : WX} (S : SEok E X Wx) : ∀ (t : Tg) (e : Expr), t.ok E e = true → PG X (t.fix E e) (LiftG X.K Wx E.loc t.rd)
  | .nm i, e, h => by
    unfold Tg.ok at h
    split at h
    · obtain ⟨h1, h2, h3⟩ := S.lo h
      unfold Tg.fix Tg.rd
      exact g_name (by rw [S.hN]; exact S.nd) h1 h2 h3 (by simpa using h)
    · cases h
  | .tup ts, e, h => by
    unfold Tg.ok at h
    split at h
    · rename_i es k p
      obtain ⟨h1, h2, h3⟩ := TgL.sound S ts es h
      unfold Tg.fix Tg.rd
      exact g_tup S.calm h1 h2 h3
    · cases h
theorem TgL.sound {E : SE} {X : Cx} {Wx : WX} (S : SEok E X Wx) : ∀ (ts : TgL) (es : List Expr), ts.ok E es = true → PGs X (ts.fix E es) (LiftGs X.K Wx E.loc ts.rd) ∧ (assignEach (ts.fix E es) X.env).length = ts.len ∧ (assignEach (ts.fix E es) X.env).findIdx? (·.1) = none
  | .nil, es, h => by
    unfold TgL.fix TgL.rd
    exact ⟨gs_nil, rfl, rfl⟩
  | .cons t r, es, h => by
    unfold TgL.ok at h
    split at h
    · rename_i e es
      rw [Bool.and_eq_true] at h
      obtain ⟨h1, h2, h3⟩ := TgL.sound S r es h.2
      have ac := as_cons (es := r.fix E es) (env := X.env) (Tg.noStar (E := E) t e)
      unfold TgL.fix TgL.rd TgL.len
      refine ⟨gs_cons (Tg.sound S t e h.1) h1 (by rw [ac]; rfl), by rw [ac, List.length_cons, h2], ?_⟩
      rw [ac, List.findIdx?_cons]
      rw [h3]; rfl
    · cases h
end
end DL
set_option Elab.async false
set_option linter.all false
set_option maxRecDepth 100000
set_option maxHeartbeats 4000000
namespace DL
open PySem PySem.Spec L2

theorem d_auto {X : Cx} {Wx : WX} {x : Str} {p pos : Pos} {e : Expr} {es : List Expr} {ta : TDA} {sp : DSp} (tk : Takes X Wx) (E : EntFn X x sp) (hg : Gl X x) (hdb : (x == ("__debug__" : Str)) = false) (hs : noStar (e :: es) = true) (ha : PA X (e :: es) (LiftA X.K Wx ta)) : PE X (.Call (.Name x p) (e :: es) [] pos) (LiftE X.K Wx (dAuto sp ta)) := by
  refine d_callG tk E hg hdb hs ha fun σ H Q ⟨G, r, sd, M, Wd, Qd, S, L, lw, t, k⟩ => ?_
  refine ⟨G, r, sd, M, Wd, _, S, L, lw, t, fun ds M1 t1 G1 r1 H1 vs x1 p1 S1 rv => ?_⟩
  by_cases hn : noRef ds = true
  · rw [if_pos hn] at t1
    exact LiftSp.of S1 rv (k.ext x1 p1) ((lw.ext x1 p1).toE (L.mono x1.ge p1)) t1
  rw [if_neg hn] at t1
  obtain ⟨nr, t1⟩ := t1
  have k1 := k.ext x1 p1
  refine ⟨lendG G1 r1 H1, [], [], _, _, _, (lend_ok S1).1, lend_rps S1 rv nr, t1, ?_, fun e M' z => z.elim⟩
  intro d M2 ⟨⟨e1, fl⟩, q⟩ G2 r2 H2 v x2 p2 S2 hv
  have kp : ∀ a o, H1 a = some o → H2 a = some o := fun a o e => x2.keep a o e (by simp)
  have S3 : SR X.K G1 r1 H2 M1 := ⟨fun a o e => rd_keep (kp a) (S1.sub a o e), S1.len, S1.nd, fun j a c hj hc => (S1.cell j a c hj hc).mono (GE.refl _) (PX.refl _) (kp a), S1.off⟩
  have x3 : Ext G1 r1 H1 G1 r1 H2 := ⟨GE.refl _, fun a o e _ => kp a o e, fun a m => .inl m, fun a o e => .inl e⟩
  refine k1 d M1 q G1 r1 H2 v x3 (PX.refl _) S3 ?_
  cases hv with
  | ref h => cases fl
  | fz h =>
    cases h <;> first
      | exact .fz .non
      | exact .fz (.bl _)
      | exact .fz (.int _)
      | exact .fz (.str _)
      | cases fl
theorem d_auto0 {X : Cx} {Wx : WX} {x : Str} {p pos : Pos} {sp : DSp} (tk : Takes X Wx) (E : EntFn X x sp) (hg : Gl X x) (hdb : (x == ("__debug__" : Str)) = false) : PE X (.Call (.Name x p) [] [] pos) (LiftE X.K Wx (dAuto sp dNil)) := by
  refine d_call0G tk E hg hdb fun σ H Q ⟨G, r, sd, M, Wd, Qd, S, L, lw, t, k⟩ => ?_
  exact LiftSp.of S .nil k (lw.toE L) t
/-- a built-in's call -/
theorem bi_ok {X : Cx} {Wx : WX} {p pos : Pos} {e : Expr} {es : List Expr} {ta : TDA} (fr : Bool) (hc : X.calm = true) (gd : X.A.guards = some []) (hu : X.A.units + 64 < cLine) (b : BI) (hb : b.cal = true) (hg : Gl X b.nm) (hm : X.mg b.nm = none) (ha : PA X (e :: es) (LiftA X.K Wx ta)) (hs : noStar (e :: es) = true) :
    PE X (.Call (.Name b.nm p) (e :: es) [] pos) (LiftE X.K Wx (dCB (b.oa fr) ta)) := by
  cases b with
  | len => exact d_callB cd_len hg hm (by decide +kernel) ha (by decide) (by decide) hs
  | abs => exact d_callB cd_abs hg hm (by decide +kernel) ha (by decide) (by decide) hs
  | max => exact d_callB (cd_max hc) hg hm (by decide +kernel) ha (by decide) (by decide) hs
  | min => exact d_callB (cd_min hc) hg hm (by decide +kernel) ha (by decide) (by decide) hs
  | list => exact d_callTy (cd_list fr) hg hm (by decide +kernel) ha (by decide) (by decide) hs
  | tuple => exact d_callTy cd_tuple hg hm (by decide +kernel) ha (by decide) (by decide) hs
  | sum => exact d_callB (cd_sum hc) hg hm (by decide +kernel) ha (by decide) (by decide) hs
  | all => exact d_callB (cd_all hc) hg hm (by decide +kernel) ha (by decide) (by decide) hs
  | any => exact d_callB (cd_any hc) hg hm (by decide +kernel) ha (by decide) (by decide) hs
  | int => exact d_callTy cd_int hg hm (by decide +kernel) ha (by decide) (by decide) hs
  | isi => exact d_callB cd_isi hg hm (by decide +kernel) ha (by decide) (by decide) hs
  | repr => exact d_callB (cd_repr gd hu) hg hm (by decide +kernel) ha (by decide) (by decide) hs
  | range => cases hb
  | enum => cases hb
  | zip => cases hb
theorem SxL.fix_len {E : SE} : ∀ (as : SxL) (es : List Expr), as.ok E es = true → (as.fix E es).length = es.length
  | .nil, es, h => by
    unfold SxL.ok at h
    unfold SxL.fix
    cases es with
    | nil => rfl
    | cons e es => cases h
  | .cons a r, es, h => by
    unfold SxL.ok at h
    split at h
    · rename_i e es
      rw [Bool.and_eq_true] at h
      unfold SxL.fix
      simp only [List.length_cons]
      rw [SxL.fix_len r es h.2]
    · cases h
theorem Tg.isTupFix {E : SE} {it : Sit} {g : Tg} {tg : Expr} (h : (!needTup it || g.isTup) = true) (ok : g.ok E tg = true) : needTup it = true → ∃ es k p, g.fix E tg = .Tuple es k p := fun n => by
  rw [n] at h
  cases g with
  | nm i => cases h
  | tup ts =>
    unfold Tg.ok at ok
    split at ok
    · unfold Tg.fix; exact ⟨_, _, _, rfl⟩
    · cases ok
theorem no_not {b : Bool} (h : (!b) = true) : b = false := by cases b <;> first | rfl | cases h

mutual
theorem Sx.sound : ∀ (a : Sx) {E : SE} {X : Cx} {Wx : WX} (_ : SEok E X Wx) (e : Expr), a.ok E e = true → PE X (a.fix E e) (LiftE X.K Wx (a.rd E.en))
  | .var i, E, X, Wx, S, e, h => by
    unfold Sx.ok at h
    split at h
    · obtain ⟨h1, h2, h3, h4⟩ := S.vi h
      unfold Sx.fix Sx.rd
      exact d_var h1 h2 h3 h4
    · cases h
  | .val i, E, X, Wx, S, e, h => by
    unfold Sx.ok at h
    split at h
    · obtain ⟨h1, h2, h3, h4⟩ := S.vi h
      unfold Sx.fix Sx.rd
      exact d_val h1 h2 h3 h4
    · cases h
  | .glo k, E, X, Wx, S, e, h => by
    unfold Sx.ok at h
    split at h
    · rw [Bool.and_eq_true] at h
      obtain ⟨en, h1, h2, h3, h4⟩ := S.gk h.1
      have h5 := h.2
      unfold Sx.fix Sx.rd
      rw [h1] at h5 ⊢
      cases en with
      | con d =>
        obtain ⟨v, u, m1, m2, m3⟩ := h4
        exact d_const (pe_glob h2 m1 m2 h3) m3
      | ty n =>
        obtain ⟨m1, m2, m3⟩ := h4
        exact d_const (v := .ty n) (pe_bltn h2 m1 m2 rfl m3 h3) fun G => .ty n
      | fn n sp => cases h5
      | bi b => cases h5
    · cases h
  | .int i, E, X, Wx, S, e, h => by
    unfold Sx.ok at h
    split at h
    · unfold Sx.fix Sx.rd
      exact d_const pe_int fun G => .int i
    · cases h
  | .bl i, E, X, Wx, S, e, h => by
    unfold Sx.ok at h
    split at h
    · unfold Sx.fix Sx.rd
      exact d_const pe_bl fun G => .bl i
    · cases h
  | .non, E, X, Wx, S, e, h => by
    unfold Sx.ok at h
    split at h
    · unfold Sx.fix Sx.rd
      exact d_const pe_non fun G => .non
    · cases h
  | .str i, E, X, Wx, S, e, h => by
    unfold Sx.ok at h
    split at h
    · unfold Sx.fix Sx.rd
      exact d_const pe_str fun G => .str i
    · cases h
  | .bin o a b, E, X, Wx, S, e, h => by
    unfold Sx.ok at h
    split at h
    · rename_i l _ r _
      rw [Bool.and_eq_true] at h
      unfold Sx.fix Sx.rd
      exact d_bin (bin_ok o) (Sx.sound a S l h.1) (Sx.sound b S r h.2)
    · cases h
  | .cmp o a b, E, X, Wx, S, e, h => by
    unfold Sx.ok at h
    split at h
    · rename_i l _ r _
      rw [Bool.and_eq_true, Bool.and_eq_true] at h
      unfold Sx.fix Sx.rd
      exact d_cmp (cmp_ok S.un o) (Sx.sound a S l h.1.1) (Sx.sound b S r h.1.2) (notMarks (no_not h.2))
    · cases h
  | .chn o o' a b c, E, X, Wx, S, e, h => by
    unfold Sx.ok at h
    split at h
    · rename_i l _ r u _
      rw [Bool.and_eq_true, Bool.and_eq_true, Bool.and_eq_true] at h
      unfold Sx.fix Sx.rd
      exact d_chain (cmp_ok S.un o) (cmp_ok S.un o') (Sx.sound a S l h.1.1.1) (Sx.sound b S r h.1.1.2) (Sx.sound c S u h.1.2) (notMarks2 (no_not h.2))
    · cases h
  | .bop o as, E, X, Wx, S, e, h => by
    unfold Sx.ok at h
    split at h
    · rename_i _ es p
      unfold Sx.fix Sx.rd
      exact SxL.soundB as S o es p h
    · cases h
  | .not_ a, E, X, Wx, S, e, h => by
    unfold Sx.ok at h
    split at h
    · rename_i _ x _
      unfold Sx.fix Sx.rd
      exact d_not (Sx.sound a S x h)
    · cases h
  | .neg a, E, X, Wx, S, e, h => by
    unfold Sx.ok at h
    split at h
    · rename_i _ x _
      unfold Sx.fix Sx.rd
      exact d_neg (Sx.sound a S x h)
    · cases h
  | .ite c a b, E, X, Wx, S, e, h => by
    unfold Sx.ok at h
    split at h
    · rename_i t x y _
      rw [Bool.and_eq_true, Bool.and_eq_true] at h
      unfold Sx.fix Sx.rd
      exact d_ifExp (Tx.sound c S t h.1.1) (Sx.sound a S x h.1.2) (Sx.sound b S y h.2)
    · cases h
  | .tup as, E, X, Wx, S, e, h => by
    unfold Sx.ok at h
    split at h
    · rename_i es _ _
      unfold Sx.fix Sx.rd
      exact d_tup (SxL.sound as S es h)
    · cases h
  | .lst fr as, E, X, Wx, S, e, h => by
    unfold Sx.ok at h
    split at h
    · rename_i es _
      unfold Sx.fix Sx.rd
      exact d_lst fr (SxL.sound as S es h)
    · cases h
  | .call k as, E, X, Wx, S, e, h => by
    unfold Sx.ok at h
    split at h
    · rename_i _ p es q
      rw [Bool.and_eq_true, Bool.and_eq_true] at h
      obtain ⟨en, h1, h2, h3, h4⟩ := S.gk h.1.1
      have h5 := h.1.2
      have ha := SxL.sound as S es h.2
      have hs := SxL.noStar (E := E) as es
      unfold Sx.fix Sx.rd
      rw [h1] at h5 ⊢
      cases en with
      | fn n sp =>
        cases as with
        | nil =>
          have e0 : SxL.fix E .nil es = [] := by unfold SxL.fix; rfl
          have e1 : SxL.rd E.en .nil = dNil := by unfold SxL.rd; rfl
          cases n with
          | zero =>
            show PE X (.Call (.Name (E.gn k) p) (SxL.fix E .nil es) [] q) (LiftE X.K Wx (dAuto sp (SxL.rd E.en .nil)))
            rw [e0, e1]; exact d_auto0 S.tk h4 h2 h3
          | succ n =>
            show PE X (.Call (.Name (E.gn k) p) (SxL.fix E .nil es) [] q) (LiftE X.K Wx (dCall (n + 1) sp (SxL.rd E.en .nil)))
            rw [e0, e1]; exact d_call0 S.tk h4 h2 h3
        | cons a r =>
          cases es with
          | nil => have := h.2; unfold SxL.ok at this; cases this
          | cons x xs =>
            have e0 : SxL.fix E (.cons a r) (x :: xs) = Sx.fix E a x :: SxL.fix E r xs := by conv => lhs; unfold SxL.fix
            rw [e0] at ha hs
            cases n with
            | zero =>
              show PE X (.Call (.Name (E.gn k) p) (SxL.fix E (.cons a r) (x :: xs)) [] q) (LiftE X.K Wx (dAuto sp (SxL.rd E.en (.cons a r))))
              rw [e0]; exact d_auto S.tk h4 h2 h3 hs ha
            | succ n =>
              show PE X (.Call (.Name (E.gn k) p) (SxL.fix E (.cons a r) (x :: xs)) [] q) (LiftE X.K Wx (dCall (n + 1) sp (SxL.rd E.en (.cons a r))))
              rw [e0]; exact d_call S.tk h4 h2 h3 hs ha
      | con d => cases h5
      | ty n => cases h5
      | bi b => cases h5
    · cases h
  | .blt k fr as, E, X, Wx, S, e, h => by
    unfold Sx.ok at h
    split at h
    · rename_i _ p es q
      rw [Bool.and_eq_true, Bool.and_eq_true, Bool.and_eq_true] at h
      obtain ⟨en, h1, h2, h3, h4⟩ := S.gk h.1.1.1
      have h5 := h.1.1.2
      have ha := SxL.sound as S es h.1.2
      have hs := SxL.noStar (E := E) as es
      unfold Sx.fix Sx.rd
      rw [h1] at h5 ⊢
      cases en with
      | bi b =>
        obtain ⟨m1, m2⟩ := h4
        cases as with
        | nil =>
          cases es with
          | nil => exact absurd h.2 (by decide)
          | cons x xs => have := h.1.2; unfold SxL.ok at this; cases this
        | cons a r =>
          cases es with
          | nil => have := h.1.2; unfold SxL.ok at this; cases this
          | cons x xs =>
            have e0 : SxL.fix E (.cons a r) (x :: xs) = Sx.fix E a x :: SxL.fix E r xs := by conv => lhs; unfold SxL.fix
            rw [e0] at ha hs
            show PE X (.Call (.Name (E.gn k) p) (SxL.fix E (.cons a r) (x :: xs)) [] q) _
            rw [e0]
            rw [m1] at h2 m2 ⊢
            exact bi_ok fr S.calm S.gd (by have := S.un; omega) b h5 h2 m2 ha hs
      | con d => cases h5
      | ty n => cases h5
      | fn n sp => cases h5
    · cases h
  | .ix a b, E, X, Wx, S, e, h => by
    unfold Sx.ok at h
    split at h
    · rename_i x y _
      rw [Bool.and_eq_true, Bool.and_eq_true] at h
      unfold Sx.fix Sx.rd
      exact d_ix (Sx.sound a S x h.1.1) (Sx.sound b S y h.1.2) (no_not h.2)
    · cases h
  | .slc fr a lo hi, E, X, Wx, S, e, h => by
    unfold Sx.ok at h
    split at h
    · rename_i x l u _ _
      rw [Bool.and_eq_true, Bool.and_eq_true] at h
      unfold Sx.fix Sx.rd
      exact d_slice fr (Sx.sound a S x h.1.1) (SxO.sound lo S l h.1.2) (SxO.sound hi S u h.2)
    · cases h
  | .rev fr a, E, X, Wx, S, e, h => by
    unfold Sx.ok at h
    split at h
    · rename_i x _ _ _ _ _
      unfold Sx.fix Sx.rd
      exact d_rev fr (Sx.sound a S x h)
    · cases h
  | .lc fr own vis gl g it c elt, E, X, Wx, S, e, h => by
    unfold Sx.ok at h
    split at h
    · rename_i x tg iter ifs sc p
      simp only [Bool.and_eq_true] at h
      obtain ⟨⟨⟨⟨⟨⟨⟨h1, h2⟩, h3⟩, h4⟩, ht⟩, h5⟩, h6⟩, h7⟩ := h
      have B := S.blk h1 h2
      unfold Sx.fix Sx.rd
      refine d_lc S.calm (by rw [S.hN]; exact S.nd) (Sit.sound it S (Tg.isTupFix ht h5) iter h3) (S.blkOk h1) (fun s H C cl fp => ?_) (fun s H C cl fp => ?_) (fun s H C cl fp => ?_) (noFold (no_not h4))
      · exact Tg.sound (B s H C cl fp) g tg h5
      · exact TxO.sound c (B s H C cl fp) ifs h6
      · exact Sx.sound elt (B s H C cl fp) x h7
    · cases h
  | .lr1 kl kr fr a, E, X, Wx, S, e, h => by
    unfold Sx.ok at h
    split at h
    · rename_i _ p _ p2 x q2 q
      simp only [Bool.and_eq_true] at h
      obtain ⟨⟨⟨⟨h1, h2⟩, h3⟩, h4⟩, h5⟩ := h
      obtain ⟨en, e1, e2, e3, e4⟩ := S.gk h1
      obtain ⟨en', f1, f2, f3, f4⟩ := S.gk h2
      rw [e1] at h3
      rw [f1] at h4
      cases en with
      | bi b =>
        cases b <;> try cases h3
        cases en' with
        | bi b' =>
          cases b' <;> try cases h4
          obtain ⟨m1, m2⟩ := e4
          obtain ⟨n1, n2⟩ := f4
          unfold Sx.fix Sx.rd
          rw [m1] at e2 m2
          rw [n1] at f2 n2
          show PE X (.Call (.Name (E.gn kl) p) [.Call (.Name (E.gn kr) p2) [a.fix E x] [] q2] [] q) _
          rw [m1, n1]
          exact d_lr1 fr S.calm e2 m2 f2 n2 (Sx.sound a S x h5) (Sx.noStar a x)
        | con d => cases h4
        | ty n => cases h4
        | fn n sp => cases h4
      | con d => cases h3
      | ty n => cases h3
      | fn n sp => cases h3
    · cases h
  | .lr2 kl kr fr a b, E, X, Wx, S, e, h => by
    unfold Sx.ok at h
    split at h
    · rename_i _ p _ p2 x y q2 q
      simp only [Bool.and_eq_true] at h
      obtain ⟨⟨⟨⟨⟨h1, h2⟩, h3⟩, h4⟩, h5⟩, h6⟩ := h
      obtain ⟨en, e1, e2, e3, e4⟩ := S.gk h1
      obtain ⟨en', f1, f2, f3, f4⟩ := S.gk h2
      rw [e1] at h3
      rw [f1] at h4
      cases en with
      | bi bb =>
        cases bb <;> try cases h3
        cases en' with
        | bi b' =>
          cases b' <;> try cases h4
          obtain ⟨m1, m2⟩ := e4
          obtain ⟨n1, n2⟩ := f4
          unfold Sx.fix Sx.rd
          rw [m1] at e2 m2
          rw [n1] at f2 n2
          show PE X (.Call (.Name (E.gn kl) p) [.Call (.Name (E.gn kr) p2) [a.fix E x, b.fix E y] [] q2] [] q) _
          rw [m1, n1]
          exact d_lr2 fr S.calm e2 m2 f2 n2 (Sx.sound a S x h5) (Sx.noStar a x) (Sx.sound b S y h6) (Sx.noStar b y)
        | con d => cases h4
        | ty n => cases h4
        | fn n sp => cases h4
      | con d => cases h3
      | ty n => cases h3
      | fn n sp => cases h3
    · cases h
  | .mth m a as, E, X, Wx, S, e, h => by
    unfold Sx.ok at h
    split at h
    · rename_i o _ p es q
      simp only [Bool.and_eq_true] at h
      obtain ⟨⟨⟨⟨h1, h2⟩, h3⟩, h4⟩, h5⟩ := h
      have ho := Sx.sound a S o h1
      have hb : ∀ {n : Str} {w : Sem Value}, attributeBase (a.fix E o) n X.env w = w := noBase (no_not h3)
      have ha := SxL.sound as S es h2
      have hs := SxL.noStar (E := E) as es
      unfold Sx.fix Sx.rd
      cases as with
      | nil =>
        have e0 : SxL.fix E .nil es = [] := by unfold SxL.fix; rfl
        show PE X (.Call (.Attribute (a.fix E o) m.nm p) (SxL.fix E .nil es) [] q) _
        rw [e0]
        cases m with
        | append => exact d_bm0 PySem.F.plainAttrs_list PySem.F.slot_list_append PySem.F.type_list_append md_append ho hb h4
        | extend => exact d_bm0 PySem.F.plainAttrs_list PySem.F.slot_list_extend PySem.F.type_list_extend md_extend ho hb h4
        | pop => exact d_bm0 PySem.F.plainAttrs_list PySem.F.slot_list_pop PySem.F.type_list_pop md_pop ho hb h4
      | cons b r =>
        cases es with
        | nil => have := h2; unfold SxL.ok at this; cases this
        | cons x xs =>
          have e0 : SxL.fix E (.cons b r) (x :: xs) = Sx.fix E b x :: SxL.fix E r xs := by conv => lhs; unfold SxL.fix
          have e1 : SxL.rd E.en (.cons b r) = dCons (b.rd E.en) (r.rd E.en) := by conv => lhs; unfold SxL.rd
          have e2 := SxL.fix_len (E := E) _ _ h2
          rw [e0] at ha hs e2
          rw [e1] at ha
          obtain ⟨s1, s2⟩ := noStar_cons hs
          show PE X (.Call (.Attribute (a.fix E o) m.nm p) (SxL.fix E (.cons b r) (x :: xs)) [] q) _
          rw [e0]
          have few : ((backTo q (starEach (Sx.fix E b x :: SxL.fix E r xs) X.env)).all (fun x => !x.1) && (backToKw q (keywordEach [] X.env)).all (fun x => x.1.isSome)
              && decide ((Sx.fix E b x :: SxL.fix E r xs).length + ([] : List Keyword).length + (if ([] : List Keyword).isEmpty then 0 else 1) < 30)) = true := by
            rw [star_all hs, e2]
            have h6 : (x :: xs).length < 25 := of_decide_eq_true h5
            show decide ((x :: xs).length + 0 + 0 < 30) = true
            exact decide_eq_true (by omega)
          cases m with
          | append => exact d_bm PySem.F.plainAttrs_list PySem.F.slot_list_append PySem.F.type_list_append md_append ho ha hb few h4 (star_cons s1) (star_none s2)
          | extend => exact d_bm PySem.F.plainAttrs_list PySem.F.slot_list_extend PySem.F.type_list_extend md_extend ho ha hb few h4 (star_cons s1) (star_none s2)
          | pop => exact d_bm PySem.F.plainAttrs_list PySem.F.slot_list_pop PySem.F.type_list_pop md_pop ho ha hb few h4 (star_cons s1) (star_none s2)
    · cases h
  | .frz a, E, X, Wx, S, e, h => by
    unfold Sx.ok at h
    unfold Sx.fix Sx.rd
    exact d_frz (Sx.sound a S e h)
theorem SxO.sound : ∀ (a : SxO) {E : SE} {X : Cx} {Wx : WX} (_ : SEok E X Wx) (e : Option Expr), a.ok E e = true → PO X (a.fix E e) (LiftO X.K Wx (a.rd E.en))
  | .no, E, X, Wx, S, e, h => by
    unfold SxO.fix SxO.rd
    exact do_none
  | .so a, E, X, Wx, S, e, h => by
    unfold SxO.ok at h
    split at h
    · rename_i e
      unfold SxO.fix SxO.rd
      exact do_some (Sx.sound a S e h)
    · cases h
theorem SxL.sound : ∀ (a : SxL) {E : SE} {X : Cx} {Wx : WX} (_ : SEok E X Wx) (es : List Expr), a.ok E es = true → PA X (a.fix E es) (LiftA X.K Wx (a.rd E.en))
  | .nil, E, X, Wx, S, es, h => by
    unfold SxL.fix SxL.rd
    exact da_nil
  | .cons a r, E, X, Wx, S, es, h => by
    unfold SxL.ok at h
    split at h
    · rename_i e es
      rw [Bool.and_eq_true] at h
      unfold SxL.fix SxL.rd
      exact da_cons (Sx.sound a S e h.1) (SxL.sound r S es h.2) (star_cons (Sx.noStar a e))
    · cases h
theorem SxL.soundB : ∀ (a : SxL) {E : SE} {X : Cx} {Wx : WX} (_ : SEok E X Wx) (o : BoolOp) (es : List Expr) (p : Pos), a.ok E es = true → PE X (.BoolOp o (a.fix E es) p) (LiftE X.K Wx (a.rdB E.en o))
  | .nil, E, X, Wx, S, o, es, p, h => by
    unfold SxL.rdB
    exact ⟨fun pins s σ H Q I ⟨G, r, sd, M, Wd, Qd, S, L, lw, t, k⟩ => t.elim⟩
  | .cons a r, E, X, Wx, S, o, es, p, h => by
    unfold SxL.ok at h
    split at h
    · rename_i e es
      rw [Bool.and_eq_true] at h
      cases r with
      | nil =>
        unfold SxL.fix SxL.rdB
        have e0 : SxL.fix E .nil es = [] := by unfold SxL.fix; rfl
        show PE X (.BoolOp o (a.fix E e :: SxL.fix E .nil es) p) _
        rw [e0]
        exact pe_one (Sx.sound a S e h.1)
      | cons b r' =>
        cases es with
        | nil => have := h.2; unfold SxL.ok at this; cases this
        | cons x xs =>
          have e0 : SxL.fix E (.cons b r') (x :: xs) = Sx.fix E b x :: SxL.fix E r' xs := by conv => lhs; unfold SxL.fix
          have ih := SxL.soundB (.cons b r') S o (x :: xs) p h.2
          rw [e0] at ih
          unfold SxL.fix SxL.rdB
          show PE X (.BoolOp o (a.fix E e :: SxL.fix E (.cons b r') (x :: xs)) p) _
          rw [e0]
          cases o with
          | And => exact d_and (Sx.sound a S e h.1) ih
          | Or => exact d_or (Sx.sound a S e h.1) ih
    · cases h
theorem Tx.sound : ∀ (a : Tx) {E : SE} {X : Cx} {Wx : WX} (_ : SEok E X Wx) (e : Expr), a.ok E e = true → PT X (a.fix E e) (LiftT X.K Wx (a.rd E.en))
  | .v a, E, X, Wx, S, e, h => by
    unfold Tx.ok at h
    rw [Bool.and_eq_true] at h
    unfold Tx.fix Tx.rd
    exact dt_of (Sx.sound a S e h.1) (plainTest h.2)
  | .tr a, E, X, Wx, S, e, h => by
    unfold Tx.ok at h
    rw [Bool.and_eq_true] at h
    unfold Tx.fix Tx.rd
    exact dt_tru (Sx.sound a S e h.1) (plainTest h.2)
  | .cmp o a b, E, X, Wx, S, e, h => by
    unfold Tx.ok at h
    split at h
    · rename_i l _ r _
      rw [Bool.and_eq_true, Bool.and_eq_true] at h
      unfold Tx.fix Tx.rd
      exact dt_cmp (cmp_ok S.un o) (Sx.sound a S l h.1.1) (Sx.sound b S r h.1.2) (notMarks (no_not h.2))
    · cases h
  | .chn o o' a b c, E, X, Wx, S, e, h => by
    unfold Tx.ok at h
    split at h
    · rename_i l _ r u _
      rw [Bool.and_eq_true, Bool.and_eq_true, Bool.and_eq_true] at h
      unfold Tx.fix Tx.rd
      exact dt_chain (cmp_ok S.un o) (cmp_ok S.un o') (Sx.sound a S l h.1.1.1) (Sx.sound b S r h.1.1.2) (Sx.sound c S u h.1.2) (notMarks2 (no_not h.2))
    · cases h
  | .bop o ts, E, X, Wx, S, e, h => by
    unfold Tx.ok at h
    split at h
    · rename_i _ es p
      unfold Tx.fix Tx.rd
      exact (TxL.sound ts S o es p h).pt
    · cases h
  | .not_ t, E, X, Wx, S, e, h => by
    unfold Tx.ok at h
    split at h
    · rename_i _ x _
      unfold Tx.fix Tx.rd
      exact dt_not (Tx.sound t S x h)
    · cases h
theorem TxL.sound : ∀ (a : TxL) {E : SE} {X : Cx} {Wx : WX} (_ : SEok E X Wx) (o : BoolOp) (es : List Expr) (p : Pos), a.ok E es = true → PW X (.BoolOp o (a.fix E es) p) (LiftT X.K Wx (a.rd E.en o))
  | .one t, E, X, Wx, S, o, es, p, h => by
    unfold TxL.ok at h
    split at h
    · rename_i e
      unfold TxL.fix TxL.rd
      cases o with
      | And => exact dw_and1 (Tx.sound t S e h)
      | Or => exact dw_or1 (Tx.sound t S e h)
    · cases h
  | .cons t r, E, X, Wx, S, o, es, p, h => by
    unfold TxL.ok at h
    split at h
    · rename_i e es
      rw [Bool.and_eq_true] at h
      have ih := TxL.sound r S o es p h.2
      unfold TxL.fix TxL.rd
      have hr : ∃ b bs, r.fix E es = b :: bs := by
        cases r with
        | one t => unfold TxL.fix; split <;> exact ⟨_, _, rfl⟩
        | cons t r => unfold TxL.fix; split <;> exact ⟨_, _, rfl⟩
      obtain ⟨b, bs, hr⟩ := hr
      show PW X (.BoolOp o (t.fix E e :: r.fix E es) p) _
      rw [hr] at ih ⊢
      cases o with
      | And => exact dw_and (Tx.sound t S e h.1) ih
      | Or => exact dw_or (Tx.sound t S e h.1) ih
    · cases h
theorem TxO.sound : ∀ (a : TxO) {E : SE} {X : Cx} {Wx : WX} (_ : SEok E X Wx) (es : List Expr), a.ok E es = true → PTs X (a.fix E es) (LiftT X.K Wx (a.rd E.en))
  | .no, E, X, Wx, S, es, h => by
    unfold TxO.fix TxO.rd
    exact ts_nil
  | .so t, E, X, Wx, S, es, h => by
    unfold TxO.ok at h
    split at h
    · rename_i e
      unfold TxO.fix TxO.rd
      exact ts_one (Tx.sound t S e h)
    · cases h
theorem Sit.sound : ∀ (a : Sit) {E : SE} {X : Cx} {Wx : WX} (_ : SEok E X Wx) {tg : Expr} (_ : needTup a = true → ∃ es k p, tg = .Tuple es k p) (e : Expr), a.ok E e = true → PI X tg (a.fix E e) (LiftI X.K Wx (a.rd E.en))
  | .seq a, E, X, Wx, S, tg, _, e, h => by
    unfold Sit.ok at h
    unfold Sit.fix Sit.rd
    exact di_seq (Sx.sound a S e h)
  | .rng1 k a, E, X, Wx, S, tg, _, e, h => by
    unfold Sit.ok at h
    split at h
    · rename_i _ p x q
      rw [Bool.and_eq_true, Bool.and_eq_true] at h
      obtain ⟨en, h1, h2, h3, h4⟩ := S.gk h.1.1
      have h5 := h.1.2
      rw [h1] at h5
      cases en with
      | bi b =>
        cases b <;> try cases h5
        obtain ⟨m1, m2⟩ := h4
        unfold Sit.fix Sit.rd
        rw [m1] at h2 m2
        show PI X tg (.Call (.Name (E.gn k) p) [a.fix E x] [] q) _
        rw [m1]
        exact di_range1 h2 m2 (da_cons (Sx.sound a S x h.2) da_nil (star_cons (Sx.noStar a x))) (Sx.noStar a x)
      | con d => cases h5
      | ty n => cases h5
      | fn n sp => cases h5
    · cases h
  | .enum k a, E, X, Wx, S, tg, ht, e, h => by
    obtain ⟨es, kk, tp, rfl⟩ := ht rfl
    unfold Sit.ok at h
    split at h
    · rename_i _ p x q
      rw [Bool.and_eq_true, Bool.and_eq_true] at h
      obtain ⟨en, h1, h2, h3, h4⟩ := S.gk h.1.1
      have h5 := h.1.2
      rw [h1] at h5
      cases en with
      | bi b =>
        cases b <;> try cases h5
        obtain ⟨m1, m2⟩ := h4
        unfold Sit.fix Sit.rd
        rw [m1] at h2 m2
        show PI X _ (.Call (.Name (E.gn k) p) [a.fix E x] [] q) _
        rw [m1]
        exact di_enum h2 m2 (da_cons (Sx.sound a S x h.2) da_nil (star_cons (Sx.noStar a x))) (Sx.noStar a x)
      | con d => cases h5
      | ty n => cases h5
      | fn n sp => cases h5
    · cases h
  | .zip k a b, E, X, Wx, S, tg, ht, e, h => by
    obtain ⟨es, kk, tp, rfl⟩ := ht rfl
    unfold Sit.ok at h
    split at h
    · rename_i _ p x y q
      rw [Bool.and_eq_true, Bool.and_eq_true, Bool.and_eq_true] at h
      obtain ⟨en, h1, h2, h3, h4⟩ := S.gk h.1.1.1
      have h5 := h.1.1.2
      rw [h1] at h5
      cases en with
      | bi b =>
        cases b <;> try cases h5
        obtain ⟨m1, m2⟩ := h4
        unfold Sit.fix Sit.rd
        rw [m1] at h2 m2
        show PI X _ (.Call (.Name (E.gn k) p) [a.fix E x, _] [] q) _
        rw [m1]
        refine di_zip h2 m2 (da_cons (Sx.sound a S x h.1.2) (da_cons (Sx.sound _ S y h.2) da_nil (star_cons (Sx.noStar _ y))) (star_cons (Sx.noStar a x))) ?_
        unfold DL.noStar DL.noStar DL.noStar
        rw [Sx.noStar a x, Sx.noStar _ y]; rfl
      | con d => cases h5
      | ty n => cases h5
      | fn n sp => cases h5
    · cases h
  | .rng2 k a b, E, X, Wx, S, tg, _, e, h => by
    unfold Sit.ok at h
    split at h
    · rename_i _ p x y q
      rw [Bool.and_eq_true, Bool.and_eq_true, Bool.and_eq_true] at h
      obtain ⟨en, h1, h2, h3, h4⟩ := S.gk h.1.1.1
      have h5 := h.1.1.2
      rw [h1] at h5
      cases en with
      | bi b =>
        cases b <;> try cases h5
        obtain ⟨m1, m2⟩ := h4
        unfold Sit.fix Sit.rd
        rw [m1] at h2 m2
        show PI X tg (.Call (.Name (E.gn k) p) [a.fix E x, _] [] q) _
        rw [m1]
        refine di_range2 h2 m2 (da_cons (Sx.sound a S x h.1.2) (da_cons (Sx.sound _ S y h.2) da_nil (star_cons (Sx.noStar _ y))) (star_cons (Sx.noStar a x))) ?_
        unfold DL.noStar DL.noStar DL.noStar
        rw [Sx.noStar a x, Sx.noStar _ y]; rfl
      | con d => cases h5
      | ty n => cases h5
      | fn n sp => cases h5
    · cases h
end
end DL
set_option Elab.async false
set_option linter.all false
set_option maxRecDepth 100000
set_option maxHeartbeats 4000000
namespace DL
open PySem PySem.Spec L2

theorem stores_par {x y : Str} {px py pt pt2 : Pos} {kt k2 : Nat} {a b : Expr} {env : Env} (hk : env.scope.kind = .function) (hx : env.scope.names.lookup x = some .local) (hy : env.scope.names.lookup y = some .local) (hl : (px.line == py.line) = true) (hxy : x ≠ y)
    (ha : isStar a = false) (hb : isStar b = false) (h1 : (foldedForSure 8 a && foldedForSure 8 b) = false) (h2 : (constantsAlone 8 a && constantsAlone 8 b) = false) :
    swappedStores [.Tuple [.Name x px, .Name y py] kt pt] (.Tuple [a, b] k2 pt2) env = pure (some [x, y]) := by
  have hbk : env.blockKind = .function := by unfold Env.blockKind; rw [hk]; rfl
  have kx : env.kindOf x = some .local := hx
  have ky : env.kindOf y = some .local := hy
  have hl' : py.line = px.line := (beq_iff_eq.mp hl).symm
  have nm : ([Expr.Name x px, Expr.Name y py].filterMap fun
    | .Name id pos => if (env.kindOf id == some .local && pos.line == (([Expr.Name x px, Expr.Name y py].head?.map (·.pos.line)).getD 0)) = true then some id else none
    | _ => none) = [x, y] := by
    have e0 : ([Expr.Name x px, Expr.Name y py].head?.map (·.pos.line)).getD 0 = px.line := rfl
    rw [e0]
    simp [kx, ky, hl']
  have dd : ([x, y] : List Str).eraseDups = [x, y] := by
    simp [List.eraseDups_cons, hxy, Ne.symm hxy]
  unfold swappedStores
  simp only [hbk]
  refine (if_neg ?_).trans ((if_neg ?_).trans ((if_neg ?_).trans ((if_neg ?_).trans ((if_neg ?_).trans ?_))))
  · intro q; cases q
  · intro q
    simp only [List.any_cons, List.any_nil, Bool.or_false, Bool.or_eq_true] at q
    rcases q with q | q
    · cases a <;> first | exact absurd q Bool.false_ne_true | exact absurd ha.symm Bool.false_ne_true
    · cases b <;> first | exact absurd q Bool.false_ne_true | exact absurd hb.symm Bool.false_ne_true
  · intro q
    have q' : (([x, y] : List Str).length != 2 || ([x, y] : List Str).eraseDups.length != ([x, y] : List Str).length) = true := by rw [← nm]; exact q
    rw [dd] at q'
    cases q'
  · intro q
    have q' : (foldedForSure 8 a && (foldedForSure 8 b && true)) = true := q
    rw [Bool.and_true, h1] at q'
    cases q'
  · intro q
    have q' : (constantsAlone 8 a && (constantsAlone 8 b && true)) = true := q
    rw [Bool.and_true, h2] at q'
    cases q'
  · exact congrArg (fun n => pure (some n)) nm
theorem nodup_ix {α : Type} : ∀ {N : List α} (_ : N.Nodup) {i j : Nat} (h1 : i < N.length) (h2 : j < N.length), N[i] = N[j] → i = j
  | [], _, _, _, h1, _, _ => absurd h1 (by simp)
  | a :: N, hN, 0, 0, _, _, _ => rfl
  | a :: N, hN, 0, j + 1, _, h2, e => by
    have := (List.nodup_cons.mp hN).1
    simp only [List.getElem_cons_zero, List.getElem_cons_succ] at e
    exact (this (e ▸ List.getElem_mem _)).elim
  | a :: N, hN, i + 1, 0, h1, _, e => by
    have := (List.nodup_cons.mp hN).1
    simp only [List.getElem_cons_zero, List.getElem_cons_succ] at e
    exact (this (e ▸ List.getElem_mem _)).elim
  | a :: N, hN, i + 1, j + 1, h1, h2, e => by
    simp only [List.getElem_cons_succ] at e
    exact congrArg (· + 1) (nodup_ix (List.nodup_cons.mp hN).2 (by simpa using h1) (by simpa using h2) e)
theorem ne_of_nodup {N : List Str} {i j : Nat} {x y : Str} (hN : N.Nodup) (hi : N[i]? = some x) (hj : N[j]? = some y) (h : i ≠ j) : x ≠ y := by
  rintro rfl
  obtain ⟨h1, e1⟩ := List.getElem?_eq_some_iff.mp hi
  obtain ⟨h2, e2⟩ := List.getElem?_eq_some_iff.mp hj
  exact h (nodup_ix hN h1 h2 (e1.trans e2.symm))
theorem stores_par3 {x y z : Str} {px py pz pt pt2 : Pos} {kt k2 : Nat} {a b c : Expr} {env : Env} (hk : env.scope.kind = .function) (hx : env.scope.names.lookup x = some .local) (hy : env.scope.names.lookup y = some .local) (hz : env.scope.names.lookup z = some .local) (hl : (px.line == py.line) = true) (hl2 : (px.line == pz.line) = true) (hxy : x ≠ y) (hxz : x ≠ z) (hyz : y ≠ z)
    (ha : isStar a = false) (hb : isStar b = false) (hc : isStar c = false) (h1 : (foldedForSure 8 a && (foldedForSure 8 b && foldedForSure 8 c)) = false) (h2 : (constantsAlone 8 a && (constantsAlone 8 b && constantsAlone 8 c)) = false) :
    swappedStores [.Tuple [.Name x px, .Name y py, .Name z pz] kt pt] (.Tuple [a, b, c] k2 pt2) env = pure (some [x, y, z]) := by
  have hbk : env.blockKind = .function := by unfold Env.blockKind; rw [hk]; rfl
  have kx : env.kindOf x = some .local := hx
  have ky : env.kindOf y = some .local := hy
  have kz : env.kindOf z = some .local := hz
  have hl' : py.line = px.line := (beq_iff_eq.mp hl).symm
  have hl2' : pz.line = px.line := (beq_iff_eq.mp hl2).symm
  have nm : ([Expr.Name x px, Expr.Name y py, Expr.Name z pz].filterMap fun
    | .Name id pos => if (env.kindOf id == some .local && pos.line == (([Expr.Name x px, Expr.Name y py, Expr.Name z pz].head?.map (·.pos.line)).getD 0)) = true then some id else none
    | _ => none) = [x, y, z] := by
    have e0 : ([Expr.Name x px, Expr.Name y py, Expr.Name z pz].head?.map (·.pos.line)).getD 0 = px.line := rfl
    rw [e0]
    simp [kx, ky, kz, hl', hl2']
  have dd : ([x, y, z] : List Str).eraseDups = [x, y, z] := by
    simp [List.eraseDups_cons, hxy, Ne.symm hxy, hxz, Ne.symm hxz, hyz, Ne.symm hyz]
  unfold swappedStores
  simp only [hbk]
  refine (if_neg ?_).trans ((if_neg ?_).trans ((if_neg ?_).trans ((if_neg ?_).trans ((if_neg ?_).trans ?_))))
  · intro q; cases q
  · intro q
    simp only [List.any_cons, List.any_nil, Bool.or_false, Bool.or_eq_true] at q
    rcases q with q | q | q
    · cases a <;> first | exact absurd q Bool.false_ne_true | exact absurd ha.symm Bool.false_ne_true
    · cases b <;> first | exact absurd q Bool.false_ne_true | exact absurd hb.symm Bool.false_ne_true
    · cases c <;> first | exact absurd q Bool.false_ne_true | exact absurd hc.symm Bool.false_ne_true
  · intro q
    have q' : (([x, y, z] : List Str).length != 3 || ([x, y, z] : List Str).eraseDups.length != ([x, y, z] : List Str).length) = true := by rw [← nm]; exact q
    rw [dd] at q'
    cases q'
  · intro q
    have q' : (foldedForSure 8 a && (foldedForSure 8 b && (foldedForSure 8 c && true))) = true := q
    rw [Bool.and_true, h1] at q'
    cases q'
  · intro q
    have q' : (constantsAlone 8 a && (constantsAlone 8 b && (constantsAlone 8 c && true))) = true := q
    rw [Bool.and_true, h2] at q'
    cases q'
  · exact congrArg (fun n => pure (some n)) nm
section
variable {X : Cx} {tl : TDA} {pos : Pos} {Wx : WX}
theorem s_par3 {i j l : Nat} {x y z : Str} {a b c : Expr} {px py pz pt : Pos} {kt k2 pt2} (hc : X.calm = true) (hN : X.N.Nodup) (hi : X.N[i]? = some x) (hj : X.N[j]? = some y) (hl : X.N[l]? = some z) (hij : i ≠ j) (hil : i ≠ l) (hjl : j ≠ l)
    (hx : X.env.scope.names.lookup x = some .local) (hy : X.env.scope.names.lookup y = some .local) (hz : X.env.scope.names.lookup z = some .local) (ha : PA X [a, b, c] (LiftA X.K Wx tl))
    (hw : swappedStores [.Tuple [.Name x px, .Name y py, .Name z pz] kt pt] (.Tuple [a, b, c] k2 pt2) X.env = pure (some [x, y, z])) :
    PS X (.Assign [.Tuple [.Name x px, .Name y py, .Name z pz] kt pt] (.Tuple [a, b, c] k2 pt2) pos) (LiftS X.K Wx (dPar3 i j l tl)) :=
  PS_imp (ps_par3 hc hN hi hj hl hij hil hjl hx hy hz ha hw) fun Dn σ H ⟨G, r, sd, M, Wd, Z, S, L, lw, t, k⟩ =>
    ⟨G, r, sd, M, Wd, _, S, L, lw, t, fun d M1 t1 G1 r1 H1 v x1 p1 S1 rv => by
      split at t1
      · cases rv with
        | cons hv rv => cases rv with
          | cons hu rv => cases rv with
            | cons hw rv =>
              cases rv
              exact ⟨_, _, _, rfl, (k.nx.ext x1 p1).now t1 S1 ((((L.mono x1.ge p1).set i hv).set j hu).set l hw)⟩
      · exact t1.elim⟩
end
end DL
set_option Elab.async false
set_option linter.all false
set_option maxRecDepth 100000
set_option maxHeartbeats 400000
namespace DL
open PySem PySem.Spec L2
theorem ite_all {α : Type} {c : Prop} [Decidable c] {a b r : α} (h1 : a = r) (h2 : b = r) : (if c then a else b) = r := by split <;> assumption
theorem noStoresF {t e : Expr} {env : Env} (h : (!isDisp e || foldT e) = true) : swappedStores [t] e env = pure none := by
  rw [Bool.or_eq_true] at h
  rcases h with h | h
  · exact noStores (no_not h)
  · unfold foldT at h
    split at h
    · rename_i vs k p
      rw [Bool.and_eq_true] at h
      unfold swappedStores
      cases t <;> first
        | rfl
        | exact ite_all rfl (ite_all rfl (ite_all rfl (if_pos h.1)))
    · cases h
mutual
theorem Ss.sound {E : SE} {X : Cx} {Wx : WX} (S : SEok E X Wx) : ∀ (a : Ss) (s : Stmt), a.ok E s = true → PS X (a.fix E s) (LiftS X.K Wx (a.rd E.en))
  | .doc x, s, h => by
    unfold Ss.ok at h
    split at h
    · unfold Ss.fix Ss.rd
      exact s_doc
    · cases h
  | .pass, s, h => by
    unfold Ss.ok at h
    split at h
    · unfold Ss.fix Ss.rd
      exact s_pass
    · cases h
  | .brk, s, h => by
    unfold Ss.ok at h
    split at h
    · unfold Ss.fix Ss.rd
      exact s_brk
    · cases h
  | .cnt, s, h => by
    unfold Ss.ok at h
    split at h
    · unfold Ss.fix Ss.rd
      exact s_cnt
    · cases h
  | .ret a, s, h => by
    unfold Ss.ok at h
    split at h
    · rename_i e p
      unfold Ss.fix Ss.rd
      exact s_ret (Sx.sound a S e h)
    · cases h
  | .retN, s, h => by
    unfold Ss.ok at h
    split at h
    · unfold Ss.fix Ss.rd
      exact s_retN
    · cases h
  | .expr a, s, h => by
    unfold Ss.ok at h
    split at h
    · rename_i e p
      rw [Bool.and_eq_true] at h
      unfold Ss.fix Ss.rd
      exact s_expr (Sx.sound a S e h.1) (noSwap (no_not h.2))
    · cases h
  | .if_ c a b, s, h => by
    unfold Ss.ok at h
    split at h
    · rename_i t x y p
      rw [Bool.and_eq_true, Bool.and_eq_true] at h
      unfold Ss.fix Ss.rd
      exact s_if (Tx.sound c S t h.1.1) (SsL.sound S a x h.1.2) (SsL.sound S b y h.2)
    · cases h
  | .whl c a, s, h => by
    unfold Ss.ok at h
    split at h
    · rename_i t x y p
      rw [Bool.and_eq_true] at h
      unfold Ss.fix Ss.rd
      exact s_while S.ps (Tx.sound c S t h.1) (SsL.sound S a x h.2)
    · cases h
  | .for_ g it a, s, h => by
    unfold Ss.ok at h
    split at h
    · rename_i t i x y p
      rw [Bool.and_eq_true, Bool.and_eq_true, Bool.and_eq_true, Bool.and_eq_true] at h
      unfold Ss.fix Ss.rd
      exact s_for S.ps S.calm (Sit.sound it S (Tg.isTupFix h.1.1.1.1 h.1.1.1.2) i h.1.1.2) (Tg.sound S g t h.1.1.1.2) (SsL.sound S a x h.2) (noFold (no_not h.1.2))
    · cases h
  | .set i a, s, h => by
    unfold Ss.ok at h
    split at h
    · rename_i _ q e p
      rw [Bool.and_eq_true, Bool.and_eq_true] at h
      obtain ⟨h1, h2, h3⟩ := S.lo h.1.1
      unfold Ss.fix Ss.rd
      refine s_set (by rw [S.hN]; exact S.nd) h1 h2 (Sx.sound a S e h.1.2) ?_ h3
      have h4 := h.2
      rw [Bool.or_eq_true] at h4
      rcases h4 with h4 | h4
      · exact noSwap (no_not h4)
      · exact noSwapC (S.cell h4)
    · cases h
  | .unp g a, s, h => by
    unfold Ss.ok at h
    split at h
    · rename_i t e p
      rw [Bool.and_eq_true, Bool.and_eq_true, Bool.and_eq_true] at h
      unfold Ss.fix Ss.rd
      exact s_asg (Sx.sound a S e h.1.1.2) (Tg.sound S g t h.1.1.1) (noSwap (no_not h.1.2)) (noStoresF h.2) (by rw [as_cons (Tg.noStar g t)]; rfl)
    · cases h
  | .put o i a, s, h => by
    unfold Ss.ok at h
    split at h
    · rename_i x y q e p
      simp only [Bool.and_eq_true] at h
      obtain ⟨⟨⟨⟨h1, h2⟩, h3⟩, h4⟩, h5⟩ := h
      unfold Ss.fix Ss.rd
      exact s_asg (vs := []) (Sx.sound a S e h3) (g_sub (Sx.sound o S x h1) (Sx.sound i S y h2) setd (no_not h5)) (by unfold swapsWithSole; exact noSwap (no_not h4)) (by unfold swappedStores; rfl) rfl
    · cases h
  | .par i j a b, s, h => by
    unfold Ss.ok at h
    split at h
    · rename_i _ q1 _ q2 k1 q3 x y k2 q4 p
      simp only [Bool.and_eq_true] at h
      obtain ⟨⟨⟨⟨⟨⟨⟨⟨⟨h1, h2⟩, h3⟩, h4⟩, h5⟩, h6⟩, h7⟩, h8⟩, h9⟩, h10⟩ := h
      obtain ⟨i1, i2, i3⟩ := S.lo h4
      obtain ⟨j1, j2, j3⟩ := S.lo h5
      have hij : i ≠ j := of_decide_eq_true h3
      unfold Ss.fix Ss.rd
      refine s_par S.calm (by rw [S.hN]; exact S.nd) i1 j1 hij (S.plain h6) (S.plain h7) (da_cons (Sx.sound a S x h1) (da_cons (Sx.sound b S y h2) da_nil (star_cons (Sx.noStar b y))) (star_cons (Sx.noStar a x))) ?_
      exact stores_par S.kind (S.plain h6) (S.plain h7) h8 (ne_of_nodup (by rw [S.hN]; exact S.nd) i1 j1 hij) (Sx.noStar a x) (Sx.noStar b y) (no_not h9) (no_not h10)
    · cases h
  | .par3 i j l a b c, s, h => by
    unfold Ss.ok at h
    split at h
    · rename_i _ q1 _ q2 _ q5 k1 q3 x y z k2 q4 p
      simp only [Bool.and_eq_true] at h
      obtain ⟨⟨⟨⟨⟨⟨⟨⟨⟨⟨⟨⟨⟨⟨⟨h1, h2⟩, h3⟩, h4⟩, h5⟩, h6⟩, h7⟩, h8⟩, h9⟩, h10⟩, h11⟩, h12⟩, h13⟩, h14⟩, h15⟩, h16⟩ := h
      obtain ⟨i1, i2, i3⟩ := S.lo h7
      obtain ⟨j1, j2, j3⟩ := S.lo h8
      obtain ⟨l1, l2, l3⟩ := S.lo h9
      have hij : i ≠ j := of_decide_eq_true h4
      have hil : i ≠ l := of_decide_eq_true h5
      have hjl : j ≠ l := of_decide_eq_true h6
      have nd : X.N.Nodup := by rw [S.hN]; exact S.nd
      unfold Ss.fix Ss.rd
      refine s_par3 S.calm nd i1 j1 l1 hij hil hjl (S.plain h10) (S.plain h11) (S.plain h12) (da_cons (Sx.sound a S x h1) (da_cons (Sx.sound b S y h2) (da_cons (Sx.sound c S z h3) da_nil (star_cons (Sx.noStar c z))) (star_cons (Sx.noStar b y))) (star_cons (Sx.noStar a x))) ?_
      exact stores_par3 S.kind (S.plain h10) (S.plain h11) (S.plain h12) h13 h14 (ne_of_nodup nd i1 j1 hij) (ne_of_nodup nd i1 l1 hil) (ne_of_nodup nd j1 l1 hjl) (Sx.noStar a x) (Sx.noStar b y) (Sx.noStar c z) (no_not h15) (no_not h16)
    · cases h
  | .aug i o a, s, h => by
    unfold Ss.ok at h
    split at h
    · rename_i _ q _ e p
      rw [Bool.and_eq_true] at h
      obtain ⟨h1, h2, h3⟩ := S.lo h.1
      unfold Ss.fix Ss.rd
      exact s_aug (by rw [S.hN]; exact S.nd) h1 h2 (Sx.sound a S e h.2) (aug_ok o) h3
    · cases h
  | .augS o i op a, s, h => by
    unfold Ss.ok at h
    split at h
    · rename_i x y q _ e p
      simp only [Bool.and_eq_true] at h
      obtain ⟨⟨⟨h1, h2⟩, h3⟩, h4⟩ := h
      unfold Ss.fix Ss.rd
      exact s_augS (Sx.sound o S x h1) (Sx.sound i S y h2) (Sx.sound a S e h3) (aug_ok op) (no_not h4)
    · cases h
  | .setLc i fr own vis gl g it c elt, s, h => by
    unfold Ss.ok at h
    split at h
    · rename_i _ q x tg iter ifs sc p2 p
      simp only [Bool.and_eq_true] at h
      obtain ⟨⟨⟨⟨⟨⟨⟨⟨⟨⟨⟨h1, h2⟩, h3⟩, h4⟩, h5⟩, h6⟩, h7⟩, h8⟩, ht⟩, h9⟩, h10⟩, h11⟩ := h
      have B := S.blk h5 h6
      obtain ⟨i1, i2, i3⟩ := S.lo h1
      unfold Ss.fix Ss.rd
      refine s_setLc S.calm (by rw [S.hN]; exact S.nd) i1 (S.plain h2) (sw_true S.kind (S.plain h2) h3 (no_not h4)) (Sit.sound it S (Tg.isTupFix ht h9) iter h7) (S.blkOk h5) (fun s H C cl fp => ?_) (fun s H C cl fp => ?_) (fun s H C cl fp => ?_) (noFold (no_not h8))
      · exact Tg.sound (B s H C cl fp) g tg h9
      · exact TxO.sound c (B s H C cl fp) ifs h10
      · exact Sx.sound elt (B s H C cl fp) x h11
    · cases h
  | .nev, s, h => by
    unfold Ss.fix Ss.rd
    exact s_never
theorem SsL.sound {E : SE} {X : Cx} {Wx : WX} (S : SEok E X Wx) : ∀ (a : SsL) (s : List Stmt), a.ok E s = true → PSs X (a.fix E s) (LiftS X.K Wx (a.rd E.en))
  | .nil, s, h => by
    unfold SsL.fix SsL.rd
    exact s_nil
  | .cons a r, s, h => by
    unfold SsL.ok at h
    split at h
    · rename_i x xs
      rw [Bool.and_eq_true] at h
      unfold SsL.fix SsL.rd
      exact s_cons (Ss.sound S a x h.1) (SsL.sound S r xs h.2)
    · cases h
end
end DL
set_option Elab.async false
set_option linter.all false
set_option maxRecDepth 100000
set_option maxHeartbeats 400000
namespace DL
open PySem PySem.Spec L2 PyProof.Rows

/-! ### the defs of a module -/
section
variable (P : Program) (w : World) (K : PySem.W.Frag) (mg : Str → Option Value) (base : Heap)
/-- at the name x stands a def that keeps sp, given room k -/
structure GFn (x : Str) (k : Nat) (sp : DSp) : Prop where
  ex : ∃ f fd ps, FnD P w K mg base k f fd ps sp ∧ mg x = some (.ref f) ∧ PySem.W.keepIn K (.ref f) = true ∧ Binds K fd ps []
def EntG (k : Nat) (x : Str) : Ent → Prop
  | .fn _ sp => ∃ j, j ≤ k ∧ GFn P w K mg base x j sp
  | .con d => ∃ v u, mg x = some u ∧ RelV v u ∧ ∀ G, Fz K G v d
  | .ty n => mg x = none ∧ bootBuiltins x = some (.type n) ∧ x ≠ "__name__"
  | .bi b => x = b.nm ∧ mg x = none
/-- the table of a def's names: all that stand in it are true -/
def Ents (k : Nat) : List (Str × Ent) → Prop
  | [] => True
  | p :: r => EntG P w K mg base k p.1 p.2 ∧ Ents k r
end
section
variable {P : Program} {w : World} {K : PySem.W.Frag} {mg : Str → Option Value} {base : Heap}
theorem Ents.get {k : Nat} : ∀ {G : List (Str × Ent)}, Ents P w K mg base k G → ∀ (i : Nat) (p : Str × Ent), G[i]? = some p → EntG P w K mg base k p.1 p.2
  | [], _, i, p, e => by simp at e
  | q :: r, h, 0, p, e => by
    rw [List.getElem?_cons_zero] at e
    cases e
    exact h.1
  | q :: r, h, i + 1, p, e => by
    rw [List.getElem?_cons_succ] at e
    exact Ents.get h.2 i p e
/-- the table of a def whose slots all are its own -/
def seOf (N : List Str) (n : Nat) (sc : Scope) (G : List (Str × Ent)) (gl : List Nat) : SE := ⟨N, sc, G, List.range n, List.range n, gl⟩
theorem se_ok {N : List Str} {qual : Str} {scope : Scope} {f : Addr} {cd : Value} {A : Around} {outer : List Env} {s : Shared} {H : Hp} {Ex : XK} {k : Nat} {G : List (Str × Ent)} {n : Nat} {gl : List Nat}
    (nd : N.Nodup) (kind : scope.kind = .function) (hv : visC (seOf N n scope G gl) scope = true) (hr : Room k (A.deeper (envOfC qual scope s.heap.objs.size f cd))) (gd : A.guards = some []) (en : Ents P w K mg base k G) :
    SEok (seOf N n scope G gl) (cxOf (L2.CX P w) P w K mg base N qual scope f cd A outer s H Ex) (fun cls d _ H' => Ex cls d H') where
  hN := rfl
  nd := nd
  kr := KR.refl _
  kind := kind
  vc := hv
  fc := fun _ _ => rfl
  calm := rfl
  un := by have := hr.un; show (A.deeper (envOfC qual scope s.heap.objs.size f cd)).units + 65 < cLine; omega
  gd := gd
  tk := takes_of rfl rfl rfl rfl
  ps := passes_of rfl
  ent := fun i p e => by
    have z := en.get i p e
    cases q : p.2 with
    | fn n sp =>
      rw [q] at z
      obtain ⟨j, hj, ⟨f', fd, ps, F, m, kp, b⟩⟩ := z
      exact ⟨⟨f', fd, ps, j, F, hr.mono hj, m, kp, b⟩, gd⟩
    | con d => rw [q] at z; exact z
    | ty n => rw [q] at z; exact z
    | bi b => rw [q] at z; exact z
/-- THE RULE for a def of the module -/
theorem def_fnd {x : Str} {params : Arguments} {body : List Stmt} {scope : Scope} {f : Addr} {fd : FuncData} {N ps : List Str} {k : Nat} {sp : DSp} {G : List (Str × Ent)} {n : Nat} {gl : List Nat} {b : SsL}
    (F : FunD K x x params body scope [] [] f fd) (S : FnScope N ps scope)
    (hv : visC (seOf N n scope G gl) scope = true) (hok : b.ok (seOf N n scope G gl) body = true) (hfix : b.fix (seOf N n scope G gl) body = body) (en : Ents P w K mg base k G)
    (len : ∀ ds M Q E, sp ds M Q E → ds.length = ps.length)
    (hr : ∀ ds M Q E, sp ds M Q E → (b.rd (seOf N n scope G gl).en) (raiD M.length E) { nx := fun _ M' => retD M.length Q .non M', rt := retD M.length Q } (startD N ds) M) :
    FnD P w K mg base (k + 1) f fd ps sp := by
  obtain ⟨oc, od, dV, kV, doc, pm, an, cdv, ct, osl, e, lk, hcd, _, _⟩ := F.ex
  subst e
  refine fnD_of lk hcd S len (fun A outer s H E room gd => ?_) hr
  have so := SsL.sound (se_ok (qual := x) (f := f) (cd := cdv) (outer := outer) (H := H) (Ex := E) S.nd S.kind hv room gd en) b body hok
  rw [hfix] at so
  exact so
theorem def_gfn {x : Str} {params : Arguments} {body : List Stmt} {scope : Scope} {f : Addr} {fd : FuncData} {N ps : List Str} {k : Nat} {sp : DSp} {G : List (Str × Ent)} {n : Nat} {gl : List Nat} {b : SsL}
    (F : FunD K x x params body scope [] [] f fd) (hm : mg x = some (.ref f)) (S : FnScope N ps scope) (hb : Binds K fd ps [])
    (hv : visC (seOf N n scope G gl) scope = true) (hok : b.ok (seOf N n scope G gl) body = true) (hfix : b.fix (seOf N n scope G gl) body = body) (en : Ents P w K mg base k G)
    (len : ∀ ds M Q E, sp ds M Q E → ds.length = ps.length)
    (hr : ∀ ds M Q E, sp ds M Q E → (b.rd (seOf N n scope G gl).en) (raiD M.length E) { nx := fun _ M' => retD M.length Q .non M', rt := retD M.length Q } (startD N ds) M) :
    GFn P w K mg base x (k + 1) sp :=
  ⟨f, fd, ps, def_fnd F S hv hok hfix en len hr, hm, F.kp, hb⟩
end

/-! ### the law is run -/
section
variable {P : Program} {w : World} {K : PySem.W.Frag} {mg mb : Str → Option Value}
theorem reads_only {H : Hp} {b p : Addr} (only : ∀ c, H c ≠ none → c = p) (ne : b ≠ p) : H b = none := by
  cases e : H b with
  | none => rfl
  | some u => exact (ne (only b (by rw [e]; simp))).elim
theorem law_run {k : Nat} {fl p : Addr} {fd : FuncData} {x : Str} {sp : DSp} {t : Shared} {us : List Value} {zs : List Int} (room : Room k callerA)
    (inK : K.In t.heap) (gl : t.heap.Ns mainGlobals mg) (bl : t.heap.Ns builtinsNs mb) (boots : ∀ y : Str, y ≠ "__name__" → mb y = bootBuiltins y) (nolim : t.heap.NoLimit) (gens : t.gens = #[])
    (obj : t.heap.get? p = some { cls := .type "list", data := .seq us.toArray }) (are : IntsAre us zs) (few : zs.length ≤ sizeLine)
    (bd : ∀ (s : Shared) (u : Value), BindsTo s fd ⟨[u], []⟩ [(x, u)])
    (F : ∀ base : Heap, K.In base → base.Ns mainGlobals mg → FnD P w K mg base k fl fd [x] sp)
    (says : sp [.scr zs] [] (fun d M => (M = [] ∧ d = .bl true)) fun _ _ => False) :
    codeAny (model P w) callerA (.call (.ref fl) ⟨[.ref p], []⟩) (fun r s' => r = .ok (.ret (.bool true)) ∧ OldK t.heap s'.heap ∧ s'.os = t.os ∧ AllBare s'.gens) t := by
  have vals := vals_ints are
  have count := are.length
  suffices key : ∀ H : Hp, (∀ b, H b ≠ none → b = p) → (∀ b u, H b = some u → ∃ o xs, u = .frz o (.lst xs)) → HOk P w H t.heap → (H p ≠ none → K.lookup p = none) →
      ((∃ ob, H p = some (.frz ob (.lst (zs.map V.int)))) ∨ KL K p (zs.map V.int)) →
      codeAny (model P w) callerA (.call (.ref fl) ⟨[.ref p], []⟩) (fun r s' => r = .ok (.ret (.bool true)) ∧ OldK t.heap s'.heap ∧ s'.os = t.os ∧ AllBare s'.gens) t by
    cases z : K.lookup p with
    | some o =>
      have o2 := inK p o z
      rw [obj] at o2
      cases o2
      refine key (fun _ => none) (fun b h => absurd rfl h) (fun b u h => by cases h) (fun b u h => by cases h) (fun h => absurd rfl h) (.inr ⟨_, us.toArray, _, z, rfl, rfl, rfl, ?_, ?_⟩)
      · rw [List.size_toArray, count]; exact few
      · simpa using vals
    | none =>
      refine key (upd (fun _ => none) p (.frz { cls := .type "list", data := .seq us.toArray } (.lst (zs.map V.int)))) (fun b h => ?_) (fun b u h => ?_) (fun b u h => ?_) (fun _ => z) (.inl ⟨_, upd_same⟩)
      · exact Classical.byContradiction fun ne => h (by rw [upd_ne ne])
      · by_cases e : b = p
        · subst e
          rw [upd_same] at h
          cases h
          exact ⟨_, _, rfl⟩
        · rw [upd_ne e] at h; cases h
      · by_cases e : b = p
        · subst e
          rw [upd_same] at h
          cases h
          exact ⟨obj, by rw [List.length_map]; exact few, us, _, vals, obj⟩
        · rw [upd_ne e] at h; cases h
  intro H only kind hok free script
  -- the heap behind the law's own names
  have here : ∀ {b : Addr} {o : Obj}, t.heap.get? b = some o → b ≠ p → (hidT t.heap H).get? b = some o := fun e ne => hidT_get e (reads_only only ne)
  have names : ∀ {b : Addr} {m : Str → Option Value}, t.heap.Ns b m → (hidT t.heap H).Ns b m := by
    rintro b m ⟨o, es, ep, e, dd, rest⟩
    refine ⟨o, es, ep, here e ?_, dd, rest⟩
    rintro rfl
    rw [obj] at e
    cases e
    cases dd
  have inB : K.In (hidT t.heap H) := fun b o e => by
    by_cases ne : b = p
    · subst ne
      cases q : H b with
      | none => exact hidT_get (inK b o e) q
      | some u => rw [free (by rw [q]; simp)] at e; cases e
    · exact here (inK b o e) ne
  obtain ⟨ml, l1, l2⟩ := nolim
  have module : Mod K mg (hidT t.heap H) := ⟨inB, names gl, ⟨mb, names bl, boots⟩, ml, names l1, l2⟩
  have start : Env0 P w K mg (hidT t.heap H) callerA [] t H :=
    ⟨rfl, module, fun b o e => of_hidT e, Nat.le_of_eq (hidT_size _ _), trivial, fun b hb => (List.not_mem_nil (show b ∈ ([] : List Addr) from hb)).elim, hok, .of_eq gens⟩
  have scr : SR K H [] H [] := ⟨fun a o e => .inl e, rfl, List.nodup_nil, fun j a c h => by simp at h, fun j a c h => by simp at h⟩
  have res := (F _ inB (names gl)).run callerA [] t H ⟨[.ref p], []⟩ [.ref p] [.ref p] (fun v _ => v = .bl true) (fun _ _ _ => False) room rfl start (bd t (.ref p)) (.cons rfl .nil)
    ⟨H, [], [], [.scr zs], _, _, scr, .cons (.fz (.scr script)) .nil, says, (fun d M ⟨_, e⟩ G r' H' v _ _ _ rv => by subst e; exact rv.bl_inv), fun _ _ z => z.elim⟩
  refine codeAny_mono res fun r s' out => ?_
  cases r with
  | error e =>
    obtain ⟨_, _, _, _, _, _, _, _, _, _, _, _, z⟩ := out
    exact z.elim
  | ok fin =>
    cases fin with
    | ret u =>
      obtain ⟨v, H', osEq, bare, un, hok2, rel, q⟩ := out
      cases (show v = .bl true from q)
      cases (show u = Value.bool true from rel)
      refine ⟨rfl, OldK.of_keep fun b o e => ?_, osEq, bare⟩
      cases z : H b with
      | none => exact un.keep b o e z (fun m => (List.not_mem_nil (show b ∈ ([] : List Addr) from m)).elim) (by simp)
      | some u =>
        obtain ⟨ob, xs, rfl⟩ := kind b u z
        obtain ⟨g1, _⟩ := hok b _ z
        obtain ⟨g2, _⟩ := hok2 b _ (un.frzs b ob _ z)
        rw [e] at g1
        cases g1
        exact g2
    | next => exact False.elim out
    | brk => exact False.elim out
    | cont => exact False.elim out
/-- what the head leaves to be shown -/
theorem law_walk {l : PySem.W.OpenLaw} {n k : Nat} {q : Program} {loose : List Str} {XP : (Str → Option Value) → Heap → Prop} {YP : World → Heap → Prop} {d : DefRec} {x : Str} (most : l.most = some n) (fits : n ≤ sizeLine) (plain : d.params.defaults = []) (room : Room k callerA)
    (F : ∀ (w : World) (mg : Str → Option Value) (fl : Addr) (h : Heap), YP w h → h.Ns mainGlobals mg → mg d.name = some (.ref fl) →
      ∃ (K : PySem.W.Frag) (fd : FuncData) (sp : DSp), K.In h ∧ (∀ (s : Shared) (u : Value), BindsTo s fd ⟨[u], []⟩ [(x, u)]) ∧
        (∀ zs : List Int, zs.length ≤ n → sp [.scr zs] [] (fun d M => (M = [] ∧ d = .bl true)) fun _ _ => False) ∧
        ∀ base : Heap, K.In base → base.Ns mainGlobals mg → FnD l.prog w K mg base k fl fd [x] sp) :
    PySem.W.WalkO q loose XP YP l.row.toRowW d [] (fun f us => PySem.call f us) := by
  refine Att.attach_call most plain fun w s₀ t mg mb fl o pm cd doc p us zs G Y ho hd hcd at_ obj are few gens => ?_
  obtain ⟨K, fd, sp, inK, bd, says, kept⟩ := F w mg fl _ Y G.T.g at_
  exact law_run room inK G.T.g G.T.b G.T.builtins G.T.nolimit gens obj are (Nat.le_trans few fits) bd kept (says zs few)
end
end DL
set_option Elab.async false
set_option linter.all false
set_option maxRecDepth 100000
set_option maxHeartbeats 400000
set_option autoImplicit false
namespace DL
open PySem PySem.Spec L2

/-! ### stepping through a reading: what is still to come has a name of its own -/
def enOf (G : List (Str × Ent)) : Nat → Option Ent := fun k => match G[k]? with
  | some p => some p.2
  | none => none
section
variable (en : Nat → Option Ent) (W : WD) (Z : EndsD) (sd : SD) (M : MC) (Q : QD) (QB : Bool → MC → Prop) (QA : List D → MC → Prop)
def kDrop : QD := fun _ M => Z.nx sd M
def kIf (a b : SsL) : Bool → MC → Prop := fun c M => if c = true then SsL.rd en a W Z sd M else SsL.rd en b W Z sd M
def kSet (i : Nat) : QD := fun d M => Z.nx (sd.set i (some d)) M
def kUnp (g : Tg) : QD := fun d M => g.rd d W sd M Z.nx
def kPut3 (v o : D) : QD := fun i M => wSet o i v M fun M3 => Z.nx sd M3
def kPut2 (i : Sx) (v : D) : QD := fun o M => Sx.rd en i W sd M (kPut3 Z sd v o)
def kPut (o i : Sx) : QD := fun v M => Sx.rd en o W sd M (kPut2 en W Z sd i v)
def kPar (i j : Nat) : List D → MC → Prop := fun ds M => match ds with
  | [x, y] => Z.nx ((sd.set i (some x)).set j (some y)) M
  | _ => False
def kPar3 (i j l : Nat) : List D → MC → Prop := fun ds M => match ds with
  | [x, y, z] => Z.nx (((sd.set i (some x)).set j (some y)).set l (some z)) M
  | _ => False
def kAug2 (i : Nat) : QD := fun z M => Z.nx (sd.set i (some z)) M
def kAug (i : Nat) (w : OD) (x : D) : QD := fun y M => w x y M (kAug2 Z sd i)
def kAS5 (o i : D) : QD := fun z M => wSet o i z M fun M6 => Z.nx sd M6
def kAS4 (w : OD) (o i x : D) : QD := fun y M => w x y M (kAS5 Z sd o i)
def kAS3 (w : OD) (a : Sx) (o i : D) : QD := fun x M => Sx.rd en a W sd M (kAS4 Z sd w o i x)
def kAS2 (w : OD) (a : Sx) (o : D) : QD := fun i M => wGetL o i M (kAS3 en W Z sd w a o i)
def kAS1 (w : OD) (i a : Sx) : QD := fun o M => Sx.rd en i W sd M (kAS2 en W Z sd w a o)
def kFor (g : Tg) (a : SsL) : List D → (MC → Prop) → MC → Prop := fun ds chk M => loopD g.rd (SsL.rd en a) chk W Z ds sd M
def kB2 (w : OD) (x : D) : QD := fun y M => w x y M Q
def kB1 (w : OD) (b : Sx) : QD := fun x M => Sx.rd en b W sd M (kB2 Q w x)
def kC3 (w' : OD) (y : D) : QD := fun u M => w' y u M Q
def kC2 (w' : OD) (c : Sx) (y : D) : QD := fun z M => match z with
  | .bl true => Sx.rd en c W sd M (kC3 Q w' y)
  | .bl false => Q (.bl false) M
  | _ => False
def kC1 (w w' : OD) (c : Sx) (x : D) : QD := fun y M => w x y M (kC2 en W sd Q w' c y)
def kC0 (w w' : OD) (b c : Sx) : QD := fun x M => Sx.rd en b W sd M (kC1 en W sd Q w w' c x)
def kAV (r : SxL) : QD := fun x M => match x with
  | .bl true => SxL.rdB en .And r W sd M Q
  | .bl false => Q (.bl false) M
  | _ => False
def kOV (r : SxL) : QD := fun x M => match x with
  | .bl false => SxL.rdB en .Or r W sd M Q
  | .bl true => Q (.bl true) M
  | _ => False
def kNV : QD := fun x M => match x with
  | .bl b => Q (.bl (!b)) M
  | _ => False
def kNg : QD := fun x M => match x with
  | .int i => Q (.int (-i)) M
  | _ => False
def kIte (a b : Sx) : Bool → MC → Prop := fun c M => if c = true then Sx.rd en a W sd M Q else Sx.rd en b W sd M Q
def kTup : List D → MC → Prop := fun ds M => (ds.length ≤ sizeLine ∧ noRef ds = true) ∧ Q (.tup ds) M
def kLst (fr : Bool) : List D → MC → Prop := fun ds M => (ds.length ≤ sizeLine ∧ noRef ds = true) ∧ mkL fr ds M Q
def kCs2 (x : D) : List D → MC → Prop := fun xs M => QA (x :: xs) M
def kCs (r : SxL) : QD := fun x M => SxL.rd en r W sd M (kCs2 QA x)
def kOA (w : OA) : List D → MC → Prop := fun ds M => w ds M Q
def kCall (n : Nat) (sp : DSp) : List D → MC → Prop := fun ds M => callD n sp ds M Q fun e M2 => W e sd M2
def kAuto (sp : DSp) : List D → MC → Prop := fun ds M => if noRef ds = true then callD 0 sp ds M Q (fun e M2 => W e sd M2)
  else noRef (ds.map (lendD M)) = true ∧ sp (ds.map (lendD M)) [] (fun d M2 => (M2 = [] ∧ flatD d = true) ∧ Q d M) fun _ _ => False
def kSl3 (fr : Bool) (x : D) (l : Option Int) : Option Int → MC → Prop := fun h M => wSl fr x l h M Q
def kSl2 (fr : Bool) (hi : SxO) (x : D) : Option Int → MC → Prop := fun l M => SxO.rd en hi W sd M (kSl3 Q fr x l)
def kSl1 (fr : Bool) (lo hi : SxO) : QD := fun x M => SxO.rd en lo W sd M (kSl2 en W sd Q fr hi x)
def kPt (QO : Option Int → MC → Prop) : QD := fun d M => match d with
  | .int i => QO (some i) M
  | _ => False
def kRev (fr : Bool) : QD := fun x M => wRev fr x M Q
def kLc (fr : Bool) (g : Tg) (c : TxO) (elt : Sx) (vs : List Nat) : List D → (MC → Prop) → MC → Prop := fun ds chk M => lcLoop g.rd (c.rd en) (elt.rd en) chk (fun acc M => mkL fr acc M Q) (wipeD sd vs) ds [] M
def kM2 (w : OM) (d : D) : List D → MC → Prop := fun ds M => w d ds M Q
def kM1 (T : String) (w : OM) (b : Sx) (r : SxL) : QD := fun d M => tyD T d M = true ∧ Sx.rd en b W sd M (kCs en W sd (kM2 Q w d) r)
def kM0 (T : String) (w : OM) : QD := fun d M => tyD T d M = true ∧ w d [] M Q
def kB : QD := fun d M => match d with
  | .bl b => QB b M
  | _ => False
def kTr : QD := fun d M => wTru d M QB
def kAT (r : TxL) : Bool → MC → Prop := fun c M => if c = true then TxL.rd en .And r W sd M QB else QB false M
def kOT (r : TxL) : Bool → MC → Prop := fun c M => if c = true then QB true M else TxL.rd en .Or r W sd M QB
def kNT : Bool → MC → Prop := fun c M => QB (!c) M
def kIt (QI : List D → (MC → Prop) → MC → Prop) : QD := fun d M => wIter d M QI

-- statements
theorem e_nil : SsL.rd en .nil W Z sd M = Z.nx sd M := rfl
theorem e_cons (s : Ss) (r : SsL) : SsL.rd en (.cons s r) W Z sd M = Ss.rd en s W ⟨SsL.rd en r W Z, Z.rt, Z.bk, Z.ct⟩ sd M := rfl
theorem e_doc (x : Str) : Ss.rd en (.doc x) W Z sd M = Z.nx sd M := rfl
theorem e_pass : Ss.rd en .pass W Z sd M = Z.nx sd M := rfl
theorem e_brk : Ss.rd en .brk W Z sd M = Z.bk sd M := rfl
theorem e_cnt : Ss.rd en .cnt W Z sd M = Z.ct sd M := rfl
theorem e_ret (a : Sx) : Ss.rd en (.ret a) W Z sd M = Sx.rd en a W sd M Z.rt := rfl
theorem e_retN : Ss.rd en .retN W Z sd M = Z.rt .non M := rfl
theorem e_expr (a : Sx) : Ss.rd en (.expr a) W Z sd M = Sx.rd en a W sd M (kDrop Z sd) := rfl
theorem e_kDrop (d : D) : kDrop Z sd d M = Z.nx sd M := rfl
theorem e_if (c : Tx) (a b : SsL) : Ss.rd en (.if_ c a b) W Z sd M = Tx.rd en c W sd M (kIf en W Z sd a b) := rfl
theorem e_kIf1 (a b : SsL) : kIf en W Z sd a b true M = SsL.rd en a W Z sd M := rfl
theorem e_kIf0 (a b : SsL) : kIf en W Z sd a b false M = SsL.rd en b W Z sd M := rfl
theorem e_whl (c : Tx) (a : SsL) : Ss.rd en (.whl c a) W Z sd M = dWhile (c.rd en) (a.rd en) W Z sd M := rfl
theorem e_for (g : Tg) (it : Sit) (a : SsL) : Ss.rd en (.for_ g it a) W Z sd M = Sit.rd en it W sd M (kFor en W Z sd g a) := rfl
theorem e_kFor (g : Tg) (a : SsL) (ds : List D) (chk : MC → Prop) : kFor en W Z sd g a ds chk M = loopD g.rd (SsL.rd en a) chk W Z ds sd M := rfl
theorem e_set (i : Nat) (a : Sx) : Ss.rd en (.set i a) W Z sd M = Sx.rd en a W sd M (kSet Z sd i) := rfl
theorem e_kSet (i : Nat) (d : D) : kSet Z sd i d M = Z.nx (sd.set i (some d)) M := rfl
theorem e_unp (g : Tg) (a : Sx) : Ss.rd en (.unp g a) W Z sd M = Sx.rd en a W sd M (kUnp W Z sd g) := rfl
theorem e_kUnp (g : Tg) (d : D) : kUnp W Z sd g d M = g.rd d W sd M Z.nx := rfl
theorem e_put (o i a : Sx) : Ss.rd en (.put o i a) W Z sd M = Sx.rd en a W sd M (kPut en W Z sd o i) := rfl
theorem e_kPut (o i : Sx) (v : D) : kPut en W Z sd o i v M = Sx.rd en o W sd M (kPut2 en W Z sd i v) := rfl
theorem e_kPut2 (i : Sx) (v o : D) : kPut2 en W Z sd i v o M = Sx.rd en i W sd M (kPut3 Z sd v o) := rfl
theorem e_kPut3 (v o i : D) : kPut3 Z sd v o i M = wSet o i v M fun M3 => Z.nx sd M3 := rfl
theorem e_par (i j : Nat) (a b : Sx) : Ss.rd en (.par i j a b) W Z sd M = Sx.rd en a W sd M (kCs en W sd (kPar Z sd i j) (.cons b .nil)) := rfl
theorem e_kPar (i j : Nat) (x y : D) : kPar Z sd i j [x, y] M = Z.nx ((sd.set i (some x)).set j (some y)) M := rfl
theorem e_par3 (i j l : Nat) (a b c : Sx) : Ss.rd en (.par3 i j l a b c) W Z sd M = Sx.rd en a W sd M (kCs en W sd (kPar3 Z sd i j l) (.cons b (.cons c .nil))) := rfl
theorem e_kPar3 (i j l : Nat) (x y z : D) : kPar3 Z sd i j l [x, y, z] M = Z.nx (((sd.set i (some x)).set j (some y)).set l (some z)) M := rfl
theorem e_aug (i : Nat) (o : AO) (a : Sx) : Ss.rd en (.aug i o a) W Z sd M = (match sd[i]? with
  | some (some x) => Sx.rd en a W sd M (kAug Z sd i o.w x)
  | _ => False) := rfl
theorem e_kAug (i : Nat) (w : OD) (x y : D) : kAug Z sd i w x y M = w x y M (kAug2 Z sd i) := rfl
theorem e_kAug2 (i : Nat) (z : D) : kAug2 Z sd i z M = Z.nx (sd.set i (some z)) M := rfl
theorem e_augS (o i : Sx) (op : AO) (a : Sx) : Ss.rd en (.augS o i op a) W Z sd M = Sx.rd en o W sd M (kAS1 en W Z sd op.w i a) := rfl
theorem e_kAS1 (w : OD) (i a : Sx) (o : D) : kAS1 en W Z sd w i a o M = Sx.rd en i W sd M (kAS2 en W Z sd w a o) := rfl
theorem e_kAS2 (w : OD) (a : Sx) (o i : D) : kAS2 en W Z sd w a o i M = wGetL o i M (kAS3 en W Z sd w a o i) := rfl
theorem e_kAS3 (w : OD) (a : Sx) (o i x : D) : kAS3 en W Z sd w a o i x M = Sx.rd en a W sd M (kAS4 Z sd w o i x) := rfl
theorem e_kAS4 (w : OD) (o i x y : D) : kAS4 Z sd w o i x y M = w x y M (kAS5 Z sd o i) := rfl
theorem e_kAS5 (o i z : D) : kAS5 Z sd o i z M = wSet o i z M fun M6 => Z.nx sd M6 := rfl
theorem e_setLc (i : Nat) (fr : Bool) (own : List (Str × Nat)) (v g0 : List Nat) (g : Tg) (it : Sit) (c : TxO) (elt : Sx) : Ss.rd en (.setLc i fr own v g0 g it c elt) W Z sd M = Sit.rd en it W sd M (kLc en sd (kSet Z sd i) fr g c elt (own.map (·.2))) := rfl
-- expressions
theorem e_var (i : Nat) : Sx.rd en (.var i) W sd M Q = (match sd[i]? with
  | some (some d) => Q d M
  | _ => False) := rfl
theorem e_val (i : Nat) : Sx.rd en (.val i) W sd M Q = dVal i W sd M Q := rfl
theorem e_int (i : Int) : Sx.rd en (.int i) W sd M Q = Q (.int i) M := rfl
theorem e_bl (i : Bool) : Sx.rd en (.bl i) W sd M Q = Q (.bl i) M := rfl
theorem e_non : Sx.rd en .non W sd M Q = Q .non M := rfl
theorem e_str (i : Str) : Sx.rd en (.str i) W sd M Q = Q (.str i) M := rfl
theorem e_glo (k : Nat) : Sx.rd en (.glo k) W sd M Q = (match en k with
  | some (.con d) => Q d M
  | some (.ty n) => Q (.ty n) M
  | _ => False) := by
  show (match en k with | some (.con d) => dC d | some (.ty n) => dC (.ty n) | _ => dNo) W sd M Q = _
  rcases en k with _ | e
  · rfl
  · cases e <;> rfl
theorem e_bin (o : BO) (a b : Sx) : Sx.rd en (.bin o a b) W sd M Q = Sx.rd en a W sd M (kB1 en W sd Q o.w b) := rfl
theorem e_cmp (o : CmpOp) (a b : Sx) : Sx.rd en (.cmp o a b) W sd M Q = Sx.rd en a W sd M (kB1 en W sd Q (cmpW o) b) := rfl
theorem e_kB1 (w : OD) (b : Sx) (x : D) : kB1 en W sd Q w b x M = Sx.rd en b W sd M (kB2 Q w x) := rfl
theorem e_kB2 (w : OD) (x y : D) : kB2 Q w x y M = w x y M Q := rfl
theorem e_chn (o o' : CmpOp) (a b c : Sx) : Sx.rd en (.chn o o' a b c) W sd M Q = Sx.rd en a W sd M (kC0 en W sd Q (cmpW o) (cmpW o') b c) := rfl
theorem e_kC0 (w w' : OD) (b c : Sx) (x : D) : kC0 en W sd Q w w' b c x M = Sx.rd en b W sd M (kC1 en W sd Q w w' c x) := rfl
theorem e_kC1 (w w' : OD) (c : Sx) (x y : D) : kC1 en W sd Q w w' c x y M = w x y M (kC2 en W sd Q w' c y) := rfl
theorem e_kC2t (w' : OD) (c : Sx) (y : D) : kC2 en W sd Q w' c y (.bl true) M = Sx.rd en c W sd M (kC3 Q w' y) := rfl
theorem e_kC2f (w' : OD) (c : Sx) (y : D) : kC2 en W sd Q w' c y (.bl false) M = Q (.bl false) M := rfl
theorem e_kC3 (w' : OD) (y u : D) : kC3 Q w' y u M = w' y u M Q := rfl
theorem e_bop (o : BoolOp) (as : SxL) : Sx.rd en (.bop o as) W sd M Q = SxL.rdB en o as W sd M Q := rfl
theorem e_b1 (o : BoolOp) (a : Sx) : SxL.rdB en o (.cons a .nil) W sd M Q = Sx.rd en a W sd M Q := rfl
theorem e_bA (a b : Sx) (r : SxL) : SxL.rdB en .And (.cons a (.cons b r)) W sd M Q = Sx.rd en a W sd M (kAV en W sd Q (.cons b r)) := rfl
theorem e_bO (a b : Sx) (r : SxL) : SxL.rdB en .Or (.cons a (.cons b r)) W sd M Q = Sx.rd en a W sd M (kOV en W sd Q (.cons b r)) := rfl
theorem e_kAVt (r : SxL) : kAV en W sd Q r (.bl true) M = SxL.rdB en .And r W sd M Q := rfl
theorem e_kAVf (r : SxL) : kAV en W sd Q r (.bl false) M = Q (.bl false) M := rfl
theorem e_kOVt (r : SxL) : kOV en W sd Q r (.bl true) M = Q (.bl true) M := rfl
theorem e_kOVf (r : SxL) : kOV en W sd Q r (.bl false) M = SxL.rdB en .Or r W sd M Q := rfl
theorem e_not (a : Sx) : Sx.rd en (.not_ a) W sd M Q = Sx.rd en a W sd M (kNV Q) := rfl
theorem e_kNV (b : Bool) : kNV Q (.bl b) M = Q (.bl (!b)) M := rfl
theorem e_neg (a : Sx) : Sx.rd en (.neg a) W sd M Q = Sx.rd en a W sd M (kNg Q) := rfl
theorem e_kNg (b : Int) : kNg Q (.int b) M = Q (.int (-b)) M := rfl
theorem e_ite (c : Tx) (a b : Sx) : Sx.rd en (.ite c a b) W sd M Q = Tx.rd en c W sd M (kIte en W sd Q a b) := rfl
theorem e_kIte1 (a b : Sx) : kIte en W sd Q a b true M = Sx.rd en a W sd M Q := rfl
theorem e_kIte0 (a b : Sx) : kIte en W sd Q a b false M = Sx.rd en b W sd M Q := rfl
theorem e_tup (as : SxL) : Sx.rd en (.tup as) W sd M Q = SxL.rd en as W sd M (kTup Q) := rfl
theorem e_kTup (ds : List D) : kTup Q ds M = ((ds.length ≤ sizeLine ∧ noRef ds = true) ∧ Q (.tup ds) M) := rfl
theorem e_lst (fr : Bool) (as : SxL) : Sx.rd en (.lst fr as) W sd M Q = SxL.rd en as W sd M (kLst Q fr) := rfl
theorem e_kLst (fr : Bool) (ds : List D) : kLst Q fr ds M = ((ds.length ≤ sizeLine ∧ noRef ds = true) ∧ mkL fr ds M Q) := rfl
theorem e_mk1 (ds : List D) : mkL true ds M Q = Q (.ref M.length) (M ++ [.lst ds]) := rfl
theorem e_mk0 (ds : List D) : mkL false ds M Q = Q (.lst ds) M := rfl
theorem e_anil : SxL.rd en .nil W sd M QA = QA [] M := rfl
theorem e_acons (a : Sx) (r : SxL) : SxL.rd en (.cons a r) W sd M QA = Sx.rd en a W sd M (kCs en W sd QA r) := rfl
theorem e_kCs (r : SxL) (x : D) : kCs en W sd QA r x M = SxL.rd en r W sd M (kCs2 QA x) := rfl
theorem e_kCs2 (x : D) (xs : List D) : kCs2 QA x xs M = QA (x :: xs) M := rfl
theorem e_call (k : Nat) (as : SxL) : Sx.rd en (.call k as) W sd M Q = (match en k with
  | some (.fn 0 sp) => SxL.rd en as W sd M (kAuto W sd Q sp)
  | some (.fn (n + 1) sp) => SxL.rd en as W sd M (kCall W sd Q (n + 1) sp)
  | _ => False) := by
  show (match en k with | some (.fn 0 sp) => dAuto sp (as.rd en) | some (.fn (n + 1) sp) => dCall (n + 1) sp (as.rd en) | _ => dNo) W sd M Q = _
  rcases en k with _ | e
  · rfl
  · cases e with
    | fn n sp => cases n <;> rfl
    | _ => rfl
theorem e_blt (k : Nat) (fr : Bool) (as : SxL) : Sx.rd en (.blt k fr as) W sd M Q = (match en k with
  | some (.bi b) => SxL.rd en as W sd M (kOA Q (b.oa fr))
  | _ => False) := by
  show (match en k with | some (.bi b) => dCB (b.oa fr) (as.rd en) | _ => dNo) W sd M Q = _
  rcases en k with _ | e
  · rfl
  · cases e <;> rfl
theorem e_kOA (w : OA) (ds : List D) : kOA Q w ds M = w ds M Q := rfl
theorem e_ix (a b : Sx) : Sx.rd en (.ix a b) W sd M Q = Sx.rd en a W sd M (kB1 en W sd Q wIx b) := rfl
theorem e_slc (fr : Bool) (a : Sx) (lo hi : SxO) : Sx.rd en (.slc fr a lo hi) W sd M Q = Sx.rd en a W sd M (kSl1 en W sd Q fr lo hi) := rfl
theorem e_kSl1 (fr : Bool) (lo hi : SxO) (x : D) : kSl1 en W sd Q fr lo hi x M = SxO.rd en lo W sd M (kSl2 en W sd Q fr hi x) := rfl
theorem e_kSl2 (fr : Bool) (hi : SxO) (x : D) (l : Option Int) : kSl2 en W sd Q fr hi x l M = SxO.rd en hi W sd M (kSl3 Q fr x l) := rfl
theorem e_kSl3 (fr : Bool) (x : D) (l h : Option Int) : kSl3 Q fr x l h M = wSl fr x l h M Q := rfl
theorem e_ono (QO : Option Int → MC → Prop) : SxO.rd en .no W sd M QO = QO none M := rfl
theorem e_oso (a : Sx) (QO : Option Int → MC → Prop) : SxO.rd en (.so a) W sd M QO = Sx.rd en a W sd M (kPt QO) := rfl
theorem e_kPt (i : Int) (QO : Option Int → MC → Prop) : kPt QO (.int i) M = QO (some i) M := rfl
theorem e_rev (fr : Bool) (a : Sx) : Sx.rd en (.rev fr a) W sd M Q = Sx.rd en a W sd M (kRev Q fr) := rfl
theorem e_kRev (fr : Bool) (x : D) : kRev Q fr x M = wRev fr x M Q := rfl
theorem e_lc (fr : Bool) (own : List (Str × Nat)) (v g0 : List Nat) (g : Tg) (it : Sit) (c : TxO) (elt : Sx) : Sx.rd en (.lc fr own v g0 g it c elt) W sd M Q = Sit.rd en it W sd M (kLc en sd Q fr g c elt (own.map (·.2))) := rfl
theorem e_kLc (fr : Bool) (g : Tg) (c : TxO) (elt : Sx) (vs : List Nat) (ds : List D) (chk : MC → Prop) : kLc en sd Q fr g c elt vs ds chk M = lcLoop g.rd (c.rd en) (elt.rd en) chk (fun acc M => mkL fr acc M Q) (wipeD sd vs) ds [] M := rfl
theorem e_lr1 (kl kr : Nat) (fr : Bool) (a : Sx) : Sx.rd en (.lr1 kl kr fr a) W sd M Q = Sx.rd en a W sd M (kCs en W sd (kRg1 fr Q) .nil) := rfl
theorem e_lr2 (kl kr : Nat) (fr : Bool) (a b : Sx) : Sx.rd en (.lr2 kl kr fr a b) W sd M Q = Sx.rd en a W sd M (kCs en W sd (kRg2 fr Q) (.cons b .nil)) := rfl
theorem e_kRg1 (fr : Bool) (n : Int) : kRg1 fr Q [.int n] M = (rgOk 0 n ∧ mkL fr ((ranI 0 n).map D.int) M Q) := rfl
theorem e_kRg2 (fr : Bool) (i j : Int) : kRg2 fr Q [.int i, .int j] M = (rgOk i j ∧ mkL fr ((ranI i j).map D.int) M Q) := rfl
theorem e_ien (k : Nat) (a : Sx) (QI : List D → (MC → Prop) → MC → Prop) : Sit.rd en (.enum k a) W sd M QI = Sx.rd en a W sd M (kCs en W sd (kEn QI) .nil) := rfl
theorem e_izp (k : Nat) (a b : Sx) (QI : List D → (MC → Prop) → MC → Prop) : Sit.rd en (.zip k a b) W sd M QI = Sx.rd en a W sd M (kCs en W sd (kZp QI) (.cons b .nil)) := rfl
theorem e_kEnL (xs : List D) (QI : List D → (MC → Prop) → MC → Prop) : kEn QI [.lst xs] M = QI (enumD xs) (fun _ => True) M := rfl
theorem e_kEnR (k : Nat) (QI : List D → (MC → Prop) → MC → Prop) : kEn QI [.ref k] M = (match M[k]? with
    | some (.lst xs) => QI (enumD xs) (fun M => M[k]? = some (.lst xs)) M
    | some (.frz (.lst xs)) => QI (enumD xs) (fun _ => True) M
    | _ => False) := rfl
theorem e_kZpL (xs ys : List D) (QI : List D → (MC → Prop) → MC → Prop) : kZp QI [.lst xs, .lst ys] M = QI (zipD xs ys) (fun _ => True) M := rfl
theorem e_kZpT (xs ys : List D) (QI : List D → (MC → Prop) → MC → Prop) : kZp QI [.tup xs, .tup ys] M = QI (zipD xs ys) (fun _ => True) M := rfl
theorem e_mth (m : Mth) (a b : Sx) (r : SxL) : Sx.rd en (.mth m a (.cons b r)) W sd M Q = Sx.rd en a W sd M (kM1 en W sd Q m.ty m.w b r) := rfl
theorem e_mth0 (m : Mth) (a : Sx) : Sx.rd en (.mth m a .nil) W sd M Q = Sx.rd en a W sd M (kM0 Q m.ty m.w) := rfl
theorem e_kM1 (T : String) (w : OM) (b : Sx) (r : SxL) (d : D) : kM1 en W sd Q T w b r d M = (tyD T d M = true ∧ Sx.rd en b W sd M (kCs en W sd (kM2 Q w d) r)) := rfl
theorem e_kM0 (T : String) (w : OM) (d : D) : kM0 Q T w d M = (tyD T d M = true ∧ w d [] M Q) := rfl
theorem e_kM2 (w : OM) (d : D) (ds : List D) : kM2 Q w d ds M = w d ds M Q := rfl
theorem e_frz (a : Sx) : Sx.rd en (.frz a) W sd M Q = Sx.rd en a W sd M (frzTop M.length Q) := rfl
-- tests
theorem e_tv (a : Sx) : Tx.rd en (.v a) W sd M QB = Sx.rd en a W sd M (kB QB) := rfl
theorem e_ttr (a : Sx) : Tx.rd en (.tr a) W sd M QB = Sx.rd en a W sd M (kTr QB) := rfl
theorem e_tcmp (o : CmpOp) (a b : Sx) : Tx.rd en (.cmp o a b) W sd M QB = Sx.rd en a W sd M (kB1 en W sd (kB QB) (cmpW o) b) := rfl
theorem e_tchn (o o' : CmpOp) (a b c : Sx) : Tx.rd en (.chn o o' a b c) W sd M QB = Sx.rd en a W sd M (kC0 en W sd (kB QB) (cmpW o) (cmpW o') b c) := rfl
theorem e_kB (b : Bool) : kB QB (.bl b) M = QB b M := rfl
theorem e_kTr (d : D) : kTr QB d M = wTru d M QB := rfl
theorem e_trb (b : Bool) : wTru (.bl b) M QB = QB b M := rfl
theorem e_tri (i : Int) : wTru (.int i) M QB = QB (i != 0) M := rfl
theorem e_tbop (o : BoolOp) (ts : TxL) : Tx.rd en (.bop o ts) W sd M QB = TxL.rd en o ts W sd M QB := rfl
theorem e_t1 (o : BoolOp) (t : Tx) : TxL.rd en o (.one t) W sd M QB = Tx.rd en t W sd M QB := rfl
theorem e_tA (t : Tx) (r : TxL) : TxL.rd en .And (.cons t r) W sd M QB = Tx.rd en t W sd M (kAT en W sd QB r) := rfl
theorem e_tO (t : Tx) (r : TxL) : TxL.rd en .Or (.cons t r) W sd M QB = Tx.rd en t W sd M (kOT en W sd QB r) := rfl
theorem e_kATt (r : TxL) : kAT en W sd QB r true M = TxL.rd en .And r W sd M QB := rfl
theorem e_kATf (r : TxL) : kAT en W sd QB r false M = QB false M := rfl
theorem e_kOTt (r : TxL) : kOT en W sd QB r true M = QB true M := rfl
theorem e_kOTf (r : TxL) : kOT en W sd QB r false M = TxL.rd en .Or r W sd M QB := rfl
theorem e_tnot (t : Tx) : Tx.rd en (.not_ t) W sd M QB = Tx.rd en t W sd M (kNT QB) := rfl
theorem e_kNT (b : Bool) : kNT QB b M = QB (!b) M := rfl
theorem e_ono_t : TxO.rd en .no W sd M QB = QB true M := rfl
theorem e_oso_t (t : Tx) : TxO.rd en (.so t) W sd M QB = Tx.rd en t W sd M QB := rfl
-- iterables
theorem e_iseq (a : Sx) (QI : List D → (MC → Prop) → MC → Prop) : Sit.rd en (.seq a) W sd M QI = Sx.rd en a W sd M (kIt QI) := rfl
theorem e_kIt (QI : List D → (MC → Prop) → MC → Prop) (d : D) : kIt QI d M = wIter d M QI := rfl
theorem e_ir1 (k : Nat) (a : Sx) (QI : List D → (MC → Prop) → MC → Prop) : Sit.rd en (.rng1 k a) W sd M QI = Sx.rd en a W sd M (kCs en W sd (rng1Q QI) .nil) := rfl
theorem e_ir2 (k : Nat) (a b : Sx) (QI : List D → (MC → Prop) → MC → Prop) : Sit.rd en (.rng2 k a b) W sd M QI = Sx.rd en a W sd M (kCs en W sd (rng2Q QI) (.cons b .nil)) := rfl
theorem e_r1 (QI : List D → (MC → Prop) → MC → Prop) (j : Int) : rng1Q QI [.int j] M = (inR j ∧ QI (ranD 0 j.toNat) (fun _ => True) M) := rfl
theorem e_r2 (QI : List D → (MC → Prop) → MC → Prop) (i j : Int) : rng2Q QI [.int i, .int j] M = ((inR i ∧ inR j) ∧ QI (ranD i (j - i).toNat) (fun _ => True) M) := rfl
-- operators
theorem o_eqI (i j : Int) : wEq false (.int i) (.int j) M Q = Q (.bl (decide (i = j))) M := by
  have : scalD (.int i) (.int j) = some (decide (i = j)) := by
    show (if scal (.int i) (.int j) = true then some (decide (V.int i = V.int j)) else none) = _
    rw [if_pos (show scal (V.int i) (V.int j) = true from rfl)]
    congr 1
    exact decide_eq_decide.mpr ⟨fun h => by cases h; rfl, fun h => by rw [h]⟩
  unfold wEq
  rw [this]; rfl
theorem o_neI (i j : Int) : wEq true (.int i) (.int j) M Q = Q (.bl (!decide (i = j))) M := by
  have : scalD (.int i) (.int j) = some (decide (i = j)) := by
    show (if scal (.int i) (.int j) = true then some (decide (V.int i = V.int j)) else none) = _
    rw [if_pos (show scal (V.int i) (V.int j) = true from rfl)]
    congr 1
    exact decide_eq_decide.mpr ⟨fun h => by cases h; rfl, fun h => by rw [h]⟩
  unfold wEq
  rw [this]; rfl
theorem o_ltI (i j : Int) : wLtA (.int i) (.int j) M Q = Q (.bl (decide (i < j))) M := rfl
theorem o_leI (i j : Int) : wLeA (.int i) (.int j) M Q = Q (.bl (decide (i ≤ j))) M := rfl
theorem o_gtI (i j : Int) : wGtA (.int i) (.int j) M Q = Q (.bl (decide (j < i))) M := rfl
theorem o_geI (i j : Int) : wGeA (.int i) (.int j) M Q = Q (.bl (decide (j ≤ i))) M := rfl
theorem o_addI (fr : Bool) (i j : Int) : wAdd fr (.int i) (.int j) M Q = Q (.int (i + j)) M := rfl
theorem o_subI (i j : Int) : wSub (.int i) (.int j) M Q = Q (.int (i - j)) M := rfl
theorem o_mulI (fr : Bool) (i j : Int) : wMul fr (.int i) (.int j) M Q = (PySem.IntMulOk i j ∧ Q (.int (i * j)) M) := rfl
theorem o_fdivI (i j : Int) : wFDiv (.int i) (.int j) M Q = (CDivW i j ∧ Q (.int (i / j)) M) := rfl
theorem o_modI (i j : Int) : wMod (.int i) (.int j) M Q = (0 < j ∧ Q (.int (i % j)) M) := rfl
theorem o_powI (i j : Int) : wPow (.int i) (.int j) M Q = (CPow i j ∧ Q (.int (i ^ j.toNat)) M) := rfl
theorem o_iaddI (i j : Int) : wIAdd (.int i) (.int j) M Q = Q (.int (i + j)) M := rfl
def kAt (Q : QD) (M : MC) : Option D → Prop
  | some d => Q d M
  | none => False
theorem e_kAt (d : D) : kAt Q M (some d) = Q d M := rfl
theorem o_ixL (ds : List D) (i : Int) : wIx (.lst ds) (.int i) M Q = kAt Q M (atI ds i) := by
  show (match atI ds i with | some d => Q d M | none => False) = _
  cases atI ds i <;> rfl
theorem o_ixT (ds : List D) (i : Int) : wIx (.tup ds) (.int i) M Q = kAt Q M (atI ds i) := by
  show (match atI ds i with | some d => Q d M | none => False) = _
  cases atI ds i <;> rfl
theorem o_ixR (k : Nat) (i : Int) : wIx (.ref k) (.int i) M Q = (match M[k]? with
  | some (.lst ds) => kAt Q M (atI ds i)
  | some (.frz (.lst ds)) => kAt Q M (atI ds i)
  | _ => False) := by
  unfold wIx seqA seqL
  try dsimp only
  generalize M[k]? = o
  rcases o with _ | c
  · rfl
  · cases c with
    | frz d => cases d <;> first | rfl | (dsimp only; cases atI _ i <;> rfl)
    | lst ds => first | rfl | (dsimp only; cases atI _ i <;> rfl)
    | _ => rfl
def kPl (k : Nat) (v : D) (M : MC) (q : MC → Prop) (ds : List D) : Option Nat → Prop
  | some n => q (M.set k (.lst (ds.set n v)))
  | none => False
theorem e_kPl (k : Nat) (v : D) (q : MC → Prop) (ds : List D) (n : Nat) : kPl k v M q ds (some n) = q (M.set k (.lst (ds.set n v))) := rfl
theorem o_setR (k : Nat) (j : Int) (v : D) (q : MC → Prop) : wSet (.ref k) (.int j) v M q = (match M[k]? with
  | some (.lst ds) => isRef v = false ∧ kPl k v M q ds (ixN ds.length j)
  | _ => False) := by
  unfold wSet
  try dsimp only
  generalize M[k]? = o
  rcases o with _ | c
  · rfl
  · cases c with
    | frz d => cases d <;> first | rfl | (dsimp only; cases ixN _ j <;> rfl)
    | lst ds => first | rfl | (dsimp only; cases ixN _ j <;> rfl)
    | _ => rfl
theorem o_getR (k : Nat) (j : Int) : wGetL (.ref k) (.int j) M Q = (match M[k]? with
  | some (.lst ds) => kAt Q M (atI ds j)
  | _ => False) := by
  unfold wGetL
  try dsimp only
  generalize M[k]? = o
  rcases o with _ | c
  · rfl
  · cases c with
    | frz d => cases d <;> first | rfl | (dsimp only; cases atI _ j <;> rfl)
    | lst ds => first | rfl | (dsimp only; cases atI _ j <;> rfl)
    | _ => rfl
theorem o_lenL (ds : List D) : wLen [.lst ds] M Q = Q (.int ds.length) M := rfl
theorem o_lenT (ds : List D) : wLen [.tup ds] M Q = Q (.int ds.length) M := rfl
theorem o_lenR (k : Nat) : wLen [.ref k] M Q = (match M[k]? with
  | some (.lst ds) => Q (.int ds.length) M
  | some (.frz (.lst ds)) => Q (.int ds.length) M
  | _ => False) := by
  unfold wLen seqA seqL
  try dsimp only
  generalize M[k]? = o
  rcases o with _ | c
  · rfl
  · cases c with
    | frz d => cases d <;> first | rfl | (dsimp only; cases (none : Option Nat) <;> rfl)
    | lst ds => first | rfl | (dsimp only; cases (none : Option Nat) <;> rfl)
    | _ => rfl
theorem o_slL (fr : Bool) (ds : List D) (l h : Option Int) : wSl fr (.lst ds) l h M Q = mkL fr (cutD ds l h) M Q := rfl
theorem o_slS (fr : Bool) (ns : List Int) (l h : Option Int) : wSl fr (.scr ns) l h M Q = mkL fr (cutD (ns.map .int) l h) M Q := rfl
theorem o_slT (fr : Bool) (ds : List D) (l h : Option Int) : wSl fr (.tup ds) l h M Q = Q (.tup (cutD ds l h)) M := rfl
theorem o_revL (fr : Bool) (ds : List D) : wRev fr (.lst ds) M Q = mkL fr ds.reverse M Q := rfl
theorem o_revR (fr : Bool) (k : Nat) : wRev fr (.ref k) M Q = (match M[k]? with
  | some (.lst ds) => mkL fr ds.reverse M Q
  | some (.frz (.lst ds)) => mkL fr ds.reverse M Q
  | _ => False) := by
  unfold wRev seqL
  dsimp only
  generalize M[k]? = o
  rcases o with _ | c
  · rfl
  · cases c with
    | frz d => cases d <;> rfl
    | _ => rfl
theorem o_itL (QI : List D → (MC → Prop) → MC → Prop) (ds : List D) : wIter (.lst ds) M QI = QI ds (fun _ => True) M := rfl
theorem o_itT (QI : List D → (MC → Prop) → MC → Prop) (ds : List D) : wIter (.tup ds) M QI = QI ds (fun _ => True) M := rfl
theorem o_itS (QI : List D → (MC → Prop) → MC → Prop) (z : Str) : wIter (.str z) M QI = QI (signsD z) (fun _ => True) M := rfl
theorem o_itR (QI : List D → (MC → Prop) → MC → Prop) (k : Nat) : wIter (.ref k) M QI = (match M[k]? with
    | some (.lst ds) => QI ds (fun M => M[k]? = some (.lst ds)) M
    | some (.frz (.lst ds)) => QI ds (fun _ => True) M
    | some (.frz (.tup ds)) => QI ds (fun _ => True) M
    | _ => False) := rfl
theorem o_listL (fr : Bool) (ds : List D) : wList fr [.lst ds] M Q = mkL fr ds M Q := rfl
theorem o_listR (fr : Bool) (k : Nat) : wList fr [.ref k] M Q = (match M[k]? with
  | some (.lst ds) => mkL fr ds M Q
  | some (.frz (.lst ds)) => mkL fr ds M Q
  | _ => False) := by
  unfold wList seqA seqL
  dsimp only
  generalize M[k]? = o
  rcases o with _ | c
  · rfl
  · cases c with
    | frz d => cases d <;> rfl
    | _ => rfl
theorem o_addL (fr : Bool) (a b : List D) : wAdd fr (.lst a) (.lst b) M Q = (a.length + b.length ≤ sizeLine ∧ mkL fr (a ++ b) M Q) := rfl
theorem o_mulL (fr : Bool) (a : List D) (k : Int) : wMul fr (.lst a) (.int k) M Q = ((-(2 ^ 63) ≤ k ∧ k < 2 ^ 63 ∧ a.length * k.toNat ≤ sizeLine) ∧ mkL fr (List.replicate k.toNat a).flatten M Q) := rfl
theorem o_app (k : Nat) (y : D) : wAppend (.ref k) [y] M Q = (match M[k]? with
    | some (.lst xs) => (isRef y = false ∧ xs.length < sizeLine) ∧ Q .non (M.set k (.lst (xs ++ [y])))
    | _ => False) := rfl
theorem o_tyL (k : Nat) : tyD "list" (.ref k) M = (match M[k]? with
    | some (.lst _) => true
    | some (.frz (.lst _)) => true
    | some (.frz (.scr _)) => true
    | _ => false) := by
  unfold tyD
  dsimp only
  generalize M[k]? = o
  rcases o with _ | c
  · rfl
  · cases c with
    | frz d => cases d <;> rfl
    | _ => rfl
theorem o_isi (x : D) (n : String) : wIsi [x, .ty n] M Q = (match tyN M x with
    | some t => (match kitB t n with
      | some b => Q (.bl b) M
      | none => False)
    | none => False) := rfl
theorem o_absI (i : Int) : wAbs [.int i] M Q = Q (.int (if i < 0 then -i else i)) M := rfl
theorem o_maxI (i j : Int) : wMax [.int i, .int j] M Q = Q (.int (if j > i then j else i)) M := rfl
theorem o_minI (i j : Int) : wMin [.int i, .int j] M Q = Q (.int (if j < i then j else i)) M := rfl
end
end DL
set_option Elab.async false
set_option linter.all false
set_option maxRecDepth 100000
set_option maxHeartbeats 400000
set_option autoImplicit false
namespace DL
open PySem PySem.Spec L2

/-! ### handing back, calling -/
section
variable (n : Nat) (W : WD) (sd : SD) (M : MC) (Q : QD)
theorem r_int (v : Int) : retD n Q (.int v) M = ((n ≤ M.length ∧ M.all (nrC n) = true) ∧ Q (.int v) (M.take n)) := rfl
theorem r_bl (v : Bool) : retD n Q (.bl v) M = ((n ≤ M.length ∧ M.all (nrC n) = true) ∧ Q (.bl v) (M.take n)) := rfl
theorem r_str (v : Str) : retD n Q (.str v) M = ((n ≤ M.length ∧ M.all (nrC n) = true) ∧ Q (.str v) (M.take n)) := rfl
theorem r_non : retD n Q .non M = ((n ≤ M.length ∧ M.all (nrC n) = true) ∧ Q .non (M.take n)) := rfl
theorem r_lst (v : List D) : retD n Q (.lst v) M = ((n ≤ M.length ∧ M.all (nrC n) = true) ∧ Q (.lst v) (M.take n)) := rfl
theorem r_tup (v : List D) : retD n Q (.tup v) M = ((n ≤ M.length ∧ M.all (nrC n) = true) ∧ Q (.tup v) (M.take n)) := rfl
theorem r_ref (k : Nat) (h : n ≤ k) : retD n Q (.ref k) M = ((n ≤ M.length ∧ M.all (nrC n) = true) ∧ match M[k]? with
  | some c => Q (.ref n) (M.take n ++ [c])
  | none => False) := by
  unfold retD retOut
  dsimp only
  rw [if_neg (by omega)]
  cases M[k]? <;> rfl
theorem f_int (v : Int) : frzTop n Q (.int v) M = Q (.int v) M := rfl
theorem f_bl (v : Bool) : frzTop n Q (.bl v) M = Q (.bl v) M := rfl
theorem f_lst (v : List D) : frzTop n Q (.lst v) M = Q (.lst v) M := rfl
theorem f_tup (v : List D) : frzTop n Q (.tup v) M = Q (.tup v) M := rfl
theorem f_new (l : List D) (h : M.all (nrC M.length) = true) : frzTop M.length Q (.ref M.length) (M ++ [.lst l]) = Q (.lst l) M := by
  have e : (M ++ [Cell.lst l])[M.length]? = some (.lst l) := by simp
  show (if M.length < M.length then _ else (M.length + 1 = (M ++ [Cell.lst l]).length ∧ ((M ++ [Cell.lst l]).take M.length).all (nrC M.length) = true) ∧ match (M ++ [Cell.lst l])[M.length]? with
    | some (.lst ds) => Q (.lst ds) ((M ++ [Cell.lst l]).take M.length)
    | _ => False) = _
  rw [if_neg (Nat.lt_irrefl _), e, List.take_left' rfl]
  dsimp only
  exact propext ⟨fun h => h.2, fun q => ⟨⟨by simp, h⟩, q⟩⟩
/-- promises of defs that touch no cell: an int, a truth value, a new list come back -/
def spI (R : List D → Int → Prop) : DSp := fun ds M Q _ => M = [] ∧ ∃ v, R ds v ∧ Q (.int v) []
def spB (R : List D → Bool → Prop) : DSp := fun ds M Q _ => M = [] ∧ ∃ v, R ds v ∧ Q (.bl v) []
def spF (R : List D → List D → Prop) : DSp := fun ds M Q _ => M = [] ∧ ∃ v, R ds v ∧ Q (.ref 0) [.lst v]
theorem lend_id : ∀ {ds : List D}, noRef ds = true → ds.map (lendD M) = ds
  | [], _ => rfl
  | d :: ds, h => by
    unfold noRef at h
    rw [List.all_cons, Bool.and_eq_true] at h
    rw [List.map_cons, lend_id h.2]
    cases d <;> first | rfl | exact absurd h.1 Bool.false_ne_true
theorem nrT0 : ∀ {ds : List D}, noRef ds = true → ds.all (nrT 0) = true
  | [], _ => rfl
  | d :: ds, h => by
    unfold noRef at h
    rw [List.all_cons, Bool.and_eq_true] at h
    rw [List.all_cons, nrT0 h.2]
    cases d <;> first | rfl | exact absurd h.1 Bool.false_ne_true
theorem c_int (R : List D → Int → Prop) (ds : List D) : kAuto W sd Q (spI R) ds M = (noRef (ds.map (lendD M)) = true ∧ ∃ v, R (ds.map (lendD M)) v ∧ Q (.int v) M) := by
  unfold kAuto
  by_cases h : noRef ds = true
  · rw [if_pos h, lend_id M h]
    refine propext ⟨fun ⟨_, _, v, r, _, q⟩ => ⟨h, v, r, ?_⟩, fun ⟨_, v, r, q⟩ => ⟨⟨Nat.zero_le _, rfl, nrT0 h⟩, rfl, v, r, ⟨Nat.zero_le _, rfl⟩, ?_⟩⟩
    · simpa [shiftD] using q
    · simpa [shiftD] using q
  · rw [if_neg h]
    refine propext ⟨fun ⟨n, _, v, r, _, q⟩ => ⟨n, v, r, q⟩, fun ⟨n, v, r, q⟩ => ⟨n, rfl, v, r, ⟨rfl, rfl⟩, q⟩⟩
theorem c_bl (R : List D → Bool → Prop) (ds : List D) : kAuto W sd Q (spB R) ds M = (noRef (ds.map (lendD M)) = true ∧ ∃ v, R (ds.map (lendD M)) v ∧ Q (.bl v) M) := by
  unfold kAuto
  by_cases h : noRef ds = true
  · rw [if_pos h, lend_id M h]
    refine propext ⟨fun ⟨_, _, v, r, _, q⟩ => ⟨h, v, r, ?_⟩, fun ⟨_, v, r, q⟩ => ⟨⟨Nat.zero_le _, rfl, nrT0 h⟩, rfl, v, r, ⟨Nat.zero_le _, rfl⟩, ?_⟩⟩
    · simpa [shiftD] using q
    · simpa [shiftD] using q
  · rw [if_neg h]
    refine propext ⟨fun ⟨n, _, v, r, _, q⟩ => ⟨n, v, r, q⟩, fun ⟨n, v, r, q⟩ => ⟨n, rfl, v, r, ⟨rfl, rfl⟩, q⟩⟩
theorem c_new (R : List D → List D → Prop) (ds : List D) (h : noRef ds = true) : kAuto W sd Q (spF R) ds M = ∃ v, R ds v ∧ Q (.ref M.length) (M ++ [.lst v]) := by
  unfold kAuto
  rw [if_pos h]
  refine propext ⟨fun ⟨_, _, v, r, _, q⟩ => ⟨v, r, ?_⟩, fun ⟨v, r, q⟩ => ⟨⟨Nat.zero_le _, rfl, nrT0 h⟩, rfl, v, r, ⟨Nat.zero_le _, rfl⟩, ?_⟩⟩
  · simpa [shiftD] using q
  · simpa [shiftD] using q
end

/-! ### the bag of a script -/
def BagOk (b : List D) : Prop := ∃ (x y z : Int) (ns : List Int), b = [.int x, .int y, .int z, .lst (ns.map D.int)] ∧ bagV x y z ∧ ∀ n ∈ ns, 0 ≤ n
section
variable {K : PySem.W.Frag} {G : Hp} {r : List Addr} {H : Hp} {a : Addr}
theorem bag_open (S : SR K G [a] H [.bag]) : ∃ b, BagOk b ∧ SR K G [a] H [.lst b] := by
  obtain ⟨x, y, z, l, ns, h1, h2, h3, h4⟩ := S.cell 0 a .bag rfl rfl
  refine ⟨_, ⟨x, y, z, ns, rfl, h3, h4⟩, S.sub, rfl, S.nd, fun k p c hk hc => ?_, fun k p c hk hc _ => ?_⟩
  · cases k with
    | succ k => simp at hk
    | zero =>
      simp only [List.getElem?_cons_zero, Option.some.injEq] at hk hc
      subst hk hc
      exact ⟨_, h1, .cons (.int _) (.cons (.int _) (.cons (.int _) (.cons (.lst h2 (FzL.ints _)) .nil)))⟩
  · cases k with
    | succ k => simp at hk
    | zero =>
      simp only [List.getElem?_cons_zero, Option.some.injEq] at hk
      subst hk
      exact S.off 0 _ .bag rfl rfl rfl
theorem bag_shut {b : List D} (hb : BagOk b) (S : SR K G [a] H [.lst b]) : SR K G [a] H [.bag] := by
  obtain ⟨x, y, z, ns, rfl, h3, h4⟩ := hb
  obtain ⟨vs, h1, h2⟩ := S.cell 0 a _ rfl rfl
  refine ⟨S.sub, rfl, S.nd, fun k p c hk hc => ?_, fun k p c hk hc _ => ?_⟩
  · cases k with
    | succ k => simp at hk
    | zero =>
      simp only [List.getElem?_cons_zero, Option.some.injEq] at hk hc
      subst hk hc
      cases h2 with
      | cons i1 h2 => cases h2 with
        | cons i2 h2 => cases h2 with
          | cons i3 h2 => cases h2 with
            | cons i4 h2 =>
              cases h2
              cases i1
              cases i2
              cases i3
              cases i4 with
              | lst hg t =>
                rw [FzL.ints_inv t] at hg
                exact ⟨x, y, z, _, ns, h1, hg, h3, h4⟩
  · cases k with
    | succ k => simp at hk
    | zero =>
      simp only [List.getElem?_cons_zero, Option.some.injEq] at hk
      subst hk
      exact S.off 0 _ _ rfl rfl rfl
end
def spTake : DSp := fun ds M Q _ => ∃ many : Int, ds = [.ref 0, .int many] ∧ M = [.bag] ∧ (0 < many ∧ many < 2 ^ 4000) ∧ ∀ v : Int, 0 ≤ v → v < many → Q (.int v) [.bag]
def spTake0 : DSp := fun ds M Q _ => ∃ (many : Int) (b : List D), ds = [.ref 0, .int many] ∧ M = [.lst b] ∧ BagOk b ∧ (0 < many ∧ many < 2 ^ 4000) ∧ ∀ (v : Int) (b' : List D), 0 ≤ v → v < many → BagOk b' → Q (.int v) [.lst b']
def spBag : DSp := fun ds M Q _ => ∃ zs : List Int, ds = [.scr zs] ∧ zs.length ≤ 63 ∧ M = [] ∧ Q (.ref 0) [.bag]
def spBag0 : DSp := fun ds M Q _ => ∃ zs : List Int, ds = [.scr zs] ∧ zs.length ≤ 63 ∧ M = [] ∧ ∀ b, BagOk b → Q (.ref 0) [.lst b]
section
variable {P : Program} {w : World} {K : PySem.W.Frag} {mg : Str → Option Value} {base : Heap} {k : Nat} {x : Str}
theorem GFn.imp {sp sp' : DSp} (h : GFn P w K mg base x k sp) (len : ∀ ds M Q E, sp' ds M Q E → ∃ M2 Q2 E2, sp ds M2 Q2 E2) (i : ∀ vs H Q E, LiftSp K sp' vs H Q E → LiftSp K sp vs H Q E) : GFn P w K mg base x k sp' := by
  obtain ⟨f, fd, ps, F, rest⟩ := h.ex
  refine ⟨f, fd, ps, ⟨fun ds M Q E z => ?_, fun A outer s H args us vs Q E room gd e0 hb rv z => F.run A outer s H args us vs Q E room gd e0 hb rv (i _ _ _ _ z)⟩, rest⟩
  obtain ⟨M2, Q2, E2, q⟩ := len _ _ _ _ z
  exact F.len _ _ _ _ q
theorem take_bag (h : GFn P w K mg base x k spTake0) : GFn P w K mg base x k spTake := by
  refine h.imp (fun ds M Q E ⟨many, h1, h2, h3, h4⟩ => ⟨_, fun _ _ => True, E, many, _, h1, rfl, ⟨0, 0, 0, [], rfl, by unfold bagV; decide, by simp⟩, h3, fun _ _ _ _ _ => trivial⟩) ?_
  rintro vs H Q E ⟨G, r, M, ds, Qd, Ed, S, rd, ⟨many, rfl, rfl, h3, h4⟩, kq, ke⟩
  obtain ⟨a, rfl⟩ : ∃ a, r = [a] := by
    have := S.len
    match r, this with
    | [a], _ => exact ⟨a, rfl⟩
  obtain ⟨b, hb, S2⟩ := bag_open S
  refine ⟨G, [a], [.lst b], _, fun d M1 => ∃ v b', d = .int v ∧ M1 = [.lst b'] ∧ BagOk b' ∧ Qd (.int v) [.bag], fun _ _ => False, S2, rd, ⟨many, b, rfl, rfl, hb, h3, fun v b' h1 h2 h5 => ⟨v, b', rfl, rfl, h5, h4 v h1 h2⟩⟩, ?_, fun _ _ z => z.elim⟩
  rintro d M1 ⟨v, b', rfl, rfl, h5, q⟩ G' r' H' u x1 p1 S1 rv
  have e : r' = [a] := by
    have h0 := p1 0 a rfl
    have := S1.len
    match r', this with
    | [c], _ => cases h0; rfl
  subst e
  exact kq _ _ q G' [a] H' u x1 p1 (bag_shut h5 S1) rv
theorem bag_bag (h : GFn P w K mg base x k spBag0) : GFn P w K mg base x k spBag := by
  refine h.imp (fun ds M Q E ⟨zs, h1, h2, h3, h4⟩ => ⟨M, fun _ _ => True, E, zs, h1, h2, h3, fun _ _ => trivial⟩) ?_
  rintro vs H Q E ⟨G, r, M, ds, Qd, Ed, S, rd, ⟨zs, rfl, h2, rfl, h4⟩, kq, ke⟩
  refine ⟨G, r, [], _, fun d M1 => ∃ b, d = .ref 0 ∧ M1 = [.lst b] ∧ BagOk b, fun _ _ => False, S, rd, ⟨zs, rfl, h2, rfl, fun b hb => ⟨b, rfl, rfl, hb⟩⟩, ?_, fun _ _ z => z.elim⟩
  rintro d M1 ⟨b, rfl, rfl, hb⟩ G' r' H' u x1 p1 S1 rv
  obtain ⟨a, rfl⟩ : ∃ a, r' = [a] := by
    have := S1.len
    match r', this with
    | [a], _ => exact ⟨a, rfl⟩
  exact kq _ _ h4 G' [a] H' u x1 p1 (bag_shut hb S1) rv
end
section
variable (W : WD) (sd : SD) (M : MC) (Q : QD)
theorem c_take (many : Int) : kCall W sd Q 1 spTake [.ref 0, .int many] (.bag :: M) = ((0 < many ∧ many < 2 ^ 4000) ∧ ∀ v : Int, 0 ≤ v → v < many → Q (.int v) (.bag :: M)) := by
  refine propext ⟨fun ⟨_, m, e1, _, h, q⟩ => ?_, fun ⟨h, q⟩ => ⟨⟨by simp, rfl, rfl⟩, many, rfl, rfl, h, fun v h1 h2 => ⟨⟨Nat.le_refl _, rfl⟩, ?_⟩⟩⟩
  · cases e1
    refine ⟨h, fun v h1 h2 => ?_⟩
    have := (q v h1 h2).2
    simpa [shiftD] using this
  · simpa [shiftD] using q v h1 h2
theorem c_bag (zs : List Int) : kAuto W sd Q spBag [.scr zs] [] = (zs.length ≤ 63 ∧ Q (.ref 0) [.bag]) := by
  refine propext ⟨fun ⟨_, zs', e1, h, _, q⟩ => ?_, fun ⟨h, q⟩ => ⟨⟨by simp, rfl, rfl⟩, zs, rfl, h, rfl, ⟨Nat.zero_le _, rfl⟩, ?_⟩⟩
  · cases e1
    exact ⟨h, by simpa [shiftD] using q.2⟩
  · simpa [shiftD] using q
end
end DL
set_option Elab.async false
set_option linter.all false
set_option maxRecDepth 100000
set_option maxHeartbeats 400000
set_option autoImplicit false
namespace DL
open PySem PySem.Spec L2

/-! ### data that may be told -/
mutual
def wid : PyData → Nat
  | .none => 4
  | .bool _ => 5
  | .int _ => 1921
  | .str x => (reprText x).length
  | .list xs => widAll xs + 3
  | .tuple xs => widAll xs + 3
  | .dict _ => 0
def widAll : List PyData → Nat
  | [] => 0
  | x :: xs => wid x + 2 + widAll xs
end
mutual
theorem shown_wid : ∀ p : PyData, p.showable = true → p.hasDict = false → p.shown.length ≤ wid p
  | .none, _, _ => by decide
  | .bool b, _, _ => by cases b <;> decide
  | .int i, h, _ => PyProof.Rows.int_text_len_1921 (by simpa [PyData.showable] using h)
  | .str x, _, _ => Nat.le_refl _
  | .list xs, h, hd => by
    have h1 := listText_len_le (PyData.shownAll xs)
    have h2 := shown_widAll xs (by simpa [PyData.showable] using h) (by simpa [PyData.hasDict] using hd)
    show (listText (PyData.shownAll xs)).length ≤ widAll xs + 3
    omega
  | .tuple xs, h, hd => by
    have h1 := tupleText_len_le (PyData.shownAll xs)
    have h2 := shown_widAll xs (by simpa [PyData.showable] using h) (by simpa [PyData.hasDict] using hd)
    show (tupleText (PyData.shownAll xs)).length ≤ widAll xs + 3
    omega
  | .dict _, _, hd => by cases hd
theorem shown_widAll : ∀ ps : List PyData, PyData.showableAll ps = true → PyData.hasDictAll ps = false → ((PyData.shownAll ps).map (·.length)).sum + 2 * (PyData.shownAll ps).length ≤ widAll ps
  | [], _, _ => Nat.le_refl _
  | p :: ps, h, hd => by
    have h' : p.showable = true ∧ PyData.showableAll ps = true := by simpa [PyData.showableAll] using h
    have hd' : p.hasDict = false ∧ PyData.hasDictAll ps = false := by simpa [PyData.hasDictAll] using hd
    have h1 := shown_wid p h'.1 hd'.1
    have h2 := shown_widAll ps h'.2 hd'.2
    simp only [PyData.shownAll, List.map_cons, List.sum_cons, List.length_cons, widAll]
    omega
end
/-- may be compared; may be told too -/
def eqOk (d : D) : Prop := ∃ p, pd d = some p ∧ SeqAt.shaped p = true
def nice (d : D) : Prop := ∃ p, pd d = some p ∧ SeqAt.shaped p = true ∧ okShow p
theorem nice.eqOk {d : D} (h : nice d) : DL.eqOk d := let ⟨p, h1, h2, _⟩ := h; ⟨p, h1, h2⟩
theorem pd_noRef {d : D} {p : PyData} (h : pd d = some p) : isRef d = false := by
  cases d <;> first | rfl | cases h
theorem pdM_pd {M : MC} {d : D} {p : PyData} (h : pd d = some p) : pdM M d = some p := by
  unfold pdM
  cases d <;> first | exact h | (unfold seqL; unfold pd at h; exact h) | cases h
theorem pdL_ints : ∀ ns : List Int, pdL (ns.map D.int) = some (ns.map PyData.int)
  | [] => by unfold pdL; rfl
  | n :: ns => by
    rw [List.map_cons]
    unfold pdL
    rw [pdL_ints ns]
    unfold pd
    rfl
theorem ints_lay : ∀ ns : List Int, PyData.canLayAll0 (ns.map PyData.int) = true
  | [] => rfl
  | n :: ns => by simp [PyData.canLayAll0, PyData.canLay0, ints_lay ns]
theorem ints_depth : ∀ ns : List Int, PyData.depthAll (ns.map PyData.int) = 0
  | [] => rfl
  | n :: ns => by simp [PyData.depthAll, PyData.depth, ints_depth ns]
theorem eqOk_ints (ns : List Int) : eqOk (.lst (ns.map D.int)) := by
  refine ⟨.list (ns.map .int), ?_, ?_⟩
  · unfold pd
    rw [pdL_ints]
  · unfold SeqAt.shaped
    simp [PyData.canLay0, PyData.depth, ints_lay, ints_depth]
theorem eqOk_int (n : Int) : eqOk (.int n) := ⟨.int n, by unfold pd; rfl, rfl⟩
theorem ints_show : ∀ ns : List Int, (∀ n ∈ ns, n.natAbs.log2 < 1920) → PyData.showableAll (ns.map PyData.int) = true
  | [], _ => rfl
  | n :: ns, h => by simp [PyData.showableAll, PyData.showable, ints_show ns fun m hm => h m (List.mem_cons_of_mem _ hm), h n List.mem_cons_self]
theorem ints_noD : ∀ ns : List Int, PyData.hasDictAll (ns.map PyData.int) = false
  | [] => rfl
  | n :: ns => by simp [PyData.hasDictAll, PyData.hasDict, ints_noD ns]
theorem ints_wid : ∀ ns : List Int, widAll (ns.map PyData.int) = 1923 * ns.length
  | [] => rfl
  | n :: ns => by simp [widAll, wid, ints_wid ns]; omega
theorem nice_ints (ns : List Int) (h : ∀ n ∈ ns, n.natAbs.log2 < 1920) (hl : ns.length ≤ 8000) : nice (.lst (ns.map D.int)) := by
  obtain ⟨p, h1, h2⟩ := eqOk_ints ns
  have e : p = .list (ns.map .int) := by
    unfold pd at h1
    rw [pdL_ints] at h1
    cases h1; rfl
  subst e
  have s1 : (PyData.list (ns.map .int)).showable = true := by simp [PyData.showable, ints_show ns h]
  have s2 : (PyData.list (ns.map .int)).hasDict = false := by simp [PyData.hasDict, ints_noD]
  refine ⟨_, h1, h2, s1, ?_, s2, ?_⟩
  · have := shown_wid _ s1 s2
    have e : wid (.list (ns.map .int)) = 1923 * ns.length + 3 := by simp [wid, ints_wid]
    rw [sizeLine_eq]
    omega
  · simp [PyData.depth, ints_depth]
theorem nice_int (n : Int) (h : n.natAbs.log2 < 1920) : nice (.int n) := by
  have s1 : (PyData.int n).showable = true := by simp [PyData.showable, h]
  refine ⟨.int n, by unfold pd; rfl, rfl, s1, ?_, rfl, Nat.zero_le _⟩
  have := shown_wid _ s1 rfl
  have e : wid (.int n) = 1921 := rfl
  rw [sizeLine_eq]
  omega
/-- a thing is like itself -/
theorem o_eqSelf (neg : Bool) (d : D) (M : MC) (Q : QD) (h : eqOk d) : wEq neg d d M Q = Q (.bl (!neg)) M := by
  obtain ⟨p, h1, h2⟩ := h
  have e0 : ∀ b, xb neg b = if neg then !b else b := fun b => by cases neg <;> rfl
  have e1 : xb neg true = !neg := by cases neg <;> rfl
  unfold wEq
  cases q : scalD d d with
  | some b =>
    have : b = true := by
      unfold scalD at q
      split at q
      · rename_i u v e2 e3
        rw [e2] at e3
        cases e3
        split at q
        · cases q; exact decide_eq_true rfl
        · cases q
      · cases q
    subst this
    dsimp only
    rw [e1]
  | none =>
    rw [pdM_pd h1]
    dsimp only
    rw [SeqAt.eqv_refl p (SeqAt.canLay_of_shaped h2), e1]
    exact propext ⟨fun h => h.2, fun q => ⟨⟨h2, h2⟩, q⟩⟩
theorem o_repr (d : D) (M : MC) (Q : QD) (p : PyData) (h : pd d = some p) : wRepr [d] M Q = (okShow p ∧ Q (.str p.shown) M) := by
  unfold wRepr
  dsimp only
  rw [pdM_pd h]
theorem scal_str (x : Str) : scalD (.str x) (.str x) = some true := by
  show (if scal (.str x) (.str x) = true then some (decide (V.str x = V.str x)) else none) = _
  rw [if_pos (show scal (V.str x) (V.str x) = true from rfl), decide_eq_true rfl]
theorem o_eqS (neg : Bool) (x : Str) (M : MC) (Q : QD) : wEq neg (.str x) (.str x) M Q = Q (.bl (!neg)) M := by
  have e1 : xb neg true = !neg := by cases neg <;> rfl
  unfold wEq
  rw [scal_str]
  dsimp only
  rw [e1]
/-! ### the helpers of every law -/
def b_law_bag : SsL :=
  (.cons (.ret (.lst true (.cons (.int 0) (.cons (.int 1234567891) (.cons (.int 0) (.cons (.lc false [("cell", 1)] [1] [0] (.nm 1) (.seq (.slc false (.var 0) .no (.so (.int 63)))) .no (.blt 0 false (.cons (.var 1) .nil))) .nil))))))
  .nil)
def b_law_take : SsL :=
  (.cons (.if_ (.cmp .Eq (.ix (.var 0) (.int 0)) (.int 0)) (.cons (.set 2 (.int 0))
  (.cons (.if_ (.cmp .Lt (.ix (.var 0) (.int 2)) (.blt 0 false (.cons (.ix (.var 0) (.int 3)) .nil))) (.cons (.set 2 (.ix (.ix (.var 0) (.int 3)) (.ix (.var 0) (.int 2))))
  .nil) .nil)
  (.cons (.augS (.var 0) (.int 2) .add (.int 1))
  (.cons (.if_ (.cmp .GtE (.var 2) (.int 1000000000000000000)) (.cons (.put (.var 0) (.int 0) (.var 2))
  .nil) .nil)
  (.cons (.put (.var 0) (.int 1) (.bin .mod (.bin (.add false) (.bin (.add false) (.bin (.mul false) (.ix (.var 0) (.int 1)) (.int 48271)) (.bin .mod (.var 2) (.int 2147483647))) (.bin (.mul false) (.int 7919) (.ix (.var 0) (.int 2)))) (.int 2147483647)))
  .nil))))) .nil)
  (.cons (.if_ (.cmp .Gt (.ix (.var 0) (.int 0)) (.int 0)) (.cons (.set 3 (.bin .mod (.ix (.var 0) (.int 0)) (.var 1)))
  (.cons (.put (.var 0) (.int 0) (.bin .fdiv (.ix (.var 0) (.int 0)) (.var 1)))
  (.cons (.ret (.var 3))
  .nil))) .nil)
  (.cons (.set 4 (.bin .mod (.bin (.mul false) (.bin (.add false) (.ix (.var 0) (.int 1)) (.int 1)) (.int 39373)) (.int 1000000007)))
  (.cons (.set 5 (.bin .mod (.bin (.mul false) (.bin .mod (.bin (.mul false) (.var 4) (.var 4)) (.int 998244353)) (.int 30011)) (.int 998244353)))
  (.cons (.if_ (.cmp .Gt (.var 1) (.int 1000000)) (.cons (.ret (.bin .mod (.bin (.add false) (.bin (.mul false) (.var 5) (.int 1000000007)) (.var 4)) (.var 1)))
  .nil) .nil)
  (.cons (.ret (.bin .mod (.bin .fdiv (.var 5) (.int 7)) (.var 1)))
  .nil))))))
def b_law_alike : SsL :=
  (.cons (.ret (.bop .And (.cons (.cmp .Eq (.var 0) (.var 1)) (.cons (.cmp .Eq (.blt 0 false (.cons (.var 0) .nil)) (.blt 0 false (.cons (.var 1) .nil))) .nil))))
  .nil)
def spAlike : DSp := spB fun ds v => ∃ d, ds = [d, d] ∧ nice d ∧ v = true
theorem read_alike (en : Nat → Option Ent) (he : en 0 = some (.bi .repr)) (ds : List D) (M : MC) (Q : QD) (E : Exc → MC → Prop) (h : spAlike ds M Q E) :
    (b_law_alike.rd en) (raiD M.length E) { nx := fun _ M' => retD M.length Q .non M', rt := retD M.length Q } (startD ["found", "due"] ds) M := by
  obtain ⟨rfl, v, ⟨d, rfl, n, rfl⟩, q⟩ := h
  obtain ⟨p, h1, h2, h3⟩ := n
  have hr := pd_noRef h1
  show (SsL.rd en b_law_alike) (raiD 0 E) { nx := fun _ M' => retD 0 Q .non M', rt := retD 0 Q } [some d, some d] []
  unfold b_law_alike
  simp only [e_nil, e_cons, e_doc, e_pass, e_brk, e_cnt, e_ret, e_retN, e_expr, e_kDrop, e_if, e_kIf1, e_kIf0, e_whl, e_for, e_kFor, e_set, e_kSet, e_unp, e_kUnp, e_put, e_kPut, e_kPut2, e_kPut3, e_par, e_par3, e_kPar3, e_kPar, e_aug, e_kAug, e_kAug2, e_augS, e_kAS1, e_kAS2, e_kAS3, e_kAS4, e_kAS5, e_setLc, e_var, e_val, e_int, e_bl, e_non, e_str, e_glo, e_bin, e_cmp, e_kB1, e_kB2, e_chn, e_kC0, e_kC1, e_kC2t, e_kC2f, e_kC3, e_bop, e_b1, e_bA, e_bO, e_kAVt, e_kAVf, e_kOVt, e_kOVf, e_not, e_kNV, e_neg, e_kNg, e_ite, e_kIte1, e_kIte0, e_tup, e_kTup, e_lst, e_kLst, e_mk1, e_mk0, e_anil, e_acons, e_kCs, e_kCs2, e_call, e_blt, e_kOA, e_ix, e_slc, e_kSl1, e_kSl2, e_kSl3, e_ono, e_oso, e_kPt, e_rev, e_kRev, e_lc, e_kLc, e_lr1, e_lr2, e_kRg1, e_kRg2, e_ien, e_izp, e_kEnL, e_kEnR, e_kZpL, e_kZpT, e_mth, e_mth0, e_kM1, e_kM0, e_kM2, e_frz, e_tv, e_ttr, e_tcmp, e_tchn, e_kB, e_kTr, e_trb, e_tri, e_tbop, e_t1, e_tA, e_tO, e_kATt, e_kATf, e_kOTt, e_kOTf, e_tnot, e_kNT, e_ono_t, e_oso_t, e_iseq, e_kIt, e_ir1, e_ir2, e_r1, e_r2, o_eqI, o_neI, o_ltI, o_leI, o_gtI, o_geI, o_addI, o_subI, o_mulI, o_fdivI, o_modI, o_powI, o_iaddI, e_kAt, o_ixL, o_ixT, o_ixR, e_kPl, o_setR, o_getR, o_lenL, o_lenT, o_lenR, o_slL, o_slS, o_slT, o_revL, o_revR, o_itL, o_itT, o_itS, o_itR, o_listL, o_listR, o_addL, o_mulL, o_app, o_tyL, o_isi, o_absI, o_maxI, o_minI, List.getElem?_cons_zero, List.getElem?_cons_succ, List.set_cons_zero, List.set_cons_succ, BO.w, cmpW, AO.w, BI.oa, isRef, Mth.ty, Mth.w, Tg.rd, TgL.rd, TgL.len, gNm, gTp, gCo, gNo, List.length_cons, List.length_nil, List.map_cons, List.map_nil, List.nil_append, List.cons_append, List.append_nil, true_and, and_true, Nat.reduceAdd]
  rw [o_eqSelf false d _ _ ⟨p, h1, h2⟩]
  simp only [e_nil, e_cons, e_doc, e_pass, e_brk, e_cnt, e_ret, e_retN, e_expr, e_kDrop, e_if, e_kIf1, e_kIf0, e_whl, e_for, e_kFor, e_set, e_kSet, e_unp, e_kUnp, e_put, e_kPut, e_kPut2, e_kPut3, e_par, e_par3, e_kPar3, e_kPar, e_aug, e_kAug, e_kAug2, e_augS, e_kAS1, e_kAS2, e_kAS3, e_kAS4, e_kAS5, e_setLc, e_var, e_val, e_int, e_bl, e_non, e_str, e_glo, e_bin, e_cmp, e_kB1, e_kB2, e_chn, e_kC0, e_kC1, e_kC2t, e_kC2f, e_kC3, e_bop, e_b1, e_bA, e_bO, e_kAVt, e_kAVf, e_kOVt, e_kOVf, e_not, e_kNV, e_neg, e_kNg, e_ite, e_kIte1, e_kIte0, e_tup, e_kTup, e_lst, e_kLst, e_mk1, e_mk0, e_anil, e_acons, e_kCs, e_kCs2, e_call, e_blt, e_kOA, e_ix, e_slc, e_kSl1, e_kSl2, e_kSl3, e_ono, e_oso, e_kPt, e_rev, e_kRev, e_lc, e_kLc, e_lr1, e_lr2, e_kRg1, e_kRg2, e_ien, e_izp, e_kEnL, e_kEnR, e_kZpL, e_kZpT, e_mth, e_mth0, e_kM1, e_kM0, e_kM2, e_frz, e_tv, e_ttr, e_tcmp, e_tchn, e_kB, e_kTr, e_trb, e_tri, e_tbop, e_t1, e_tA, e_tO, e_kATt, e_kATf, e_kOTt, e_kOTf, e_tnot, e_kNT, e_ono_t, e_oso_t, e_iseq, e_kIt, e_ir1, e_ir2, e_r1, e_r2, o_eqI, o_neI, o_ltI, o_leI, o_gtI, o_geI, o_addI, o_subI, o_mulI, o_fdivI, o_modI, o_powI, o_iaddI, e_kAt, o_ixL, o_ixT, o_ixR, e_kPl, o_setR, o_getR, o_lenL, o_lenT, o_lenR, o_slL, o_slS, o_slT, o_revL, o_revR, o_itL, o_itT, o_itS, o_itR, o_listL, o_listR, o_addL, o_mulL, o_app, o_tyL, o_isi, o_absI, o_maxI, o_minI, List.getElem?_cons_zero, List.getElem?_cons_succ, List.set_cons_zero, List.set_cons_succ, BO.w, cmpW, AO.w, BI.oa, isRef, Mth.ty, Mth.w, Tg.rd, TgL.rd, TgL.len, gNm, gTp, gCo, gNo, List.length_cons, List.length_nil, List.map_cons, List.map_nil, List.nil_append, List.cons_append, List.append_nil, true_and, and_true, Nat.reduceAdd, he, Bool.not_false]
  rw [o_repr d _ _ p h1]
  refine ⟨h3, ?_⟩
  simp only [e_nil, e_cons, e_doc, e_pass, e_brk, e_cnt, e_ret, e_retN, e_expr, e_kDrop, e_if, e_kIf1, e_kIf0, e_whl, e_for, e_kFor, e_set, e_kSet, e_unp, e_kUnp, e_put, e_kPut, e_kPut2, e_kPut3, e_par, e_par3, e_kPar3, e_kPar, e_aug, e_kAug, e_kAug2, e_augS, e_kAS1, e_kAS2, e_kAS3, e_kAS4, e_kAS5, e_setLc, e_var, e_val, e_int, e_bl, e_non, e_str, e_glo, e_bin, e_cmp, e_kB1, e_kB2, e_chn, e_kC0, e_kC1, e_kC2t, e_kC2f, e_kC3, e_bop, e_b1, e_bA, e_bO, e_kAVt, e_kAVf, e_kOVt, e_kOVf, e_not, e_kNV, e_neg, e_kNg, e_ite, e_kIte1, e_kIte0, e_tup, e_kTup, e_lst, e_kLst, e_mk1, e_mk0, e_anil, e_acons, e_kCs, e_kCs2, e_call, e_blt, e_kOA, e_ix, e_slc, e_kSl1, e_kSl2, e_kSl3, e_ono, e_oso, e_kPt, e_rev, e_kRev, e_lc, e_kLc, e_lr1, e_lr2, e_kRg1, e_kRg2, e_ien, e_izp, e_kEnL, e_kEnR, e_kZpL, e_kZpT, e_mth, e_mth0, e_kM1, e_kM0, e_kM2, e_frz, e_tv, e_ttr, e_tcmp, e_tchn, e_kB, e_kTr, e_trb, e_tri, e_tbop, e_t1, e_tA, e_tO, e_kATt, e_kATf, e_kOTt, e_kOTf, e_tnot, e_kNT, e_ono_t, e_oso_t, e_iseq, e_kIt, e_ir1, e_ir2, e_r1, e_r2, o_eqI, o_neI, o_ltI, o_leI, o_gtI, o_geI, o_addI, o_subI, o_mulI, o_fdivI, o_modI, o_powI, o_iaddI, e_kAt, o_ixL, o_ixT, o_ixR, e_kPl, o_setR, o_getR, o_lenL, o_lenT, o_lenR, o_slL, o_slS, o_slT, o_revL, o_revR, o_itL, o_itT, o_itS, o_itR, o_listL, o_listR, o_addL, o_mulL, o_app, o_tyL, o_isi, o_absI, o_maxI, o_minI, List.getElem?_cons_zero, List.getElem?_cons_succ, List.set_cons_zero, List.set_cons_succ, BO.w, cmpW, AO.w, BI.oa, isRef, Mth.ty, Mth.w, Tg.rd, TgL.rd, TgL.len, gNm, gTp, gCo, gNo, List.length_cons, List.length_nil, List.map_cons, List.map_nil, List.nil_append, List.cons_append, List.append_nil, true_and, and_true, Nat.reduceAdd, he]
  rw [o_repr d _ _ p h1]
  refine ⟨h3, ?_⟩
  simp only [e_nil, e_cons, e_doc, e_pass, e_brk, e_cnt, e_ret, e_retN, e_expr, e_kDrop, e_if, e_kIf1, e_kIf0, e_whl, e_for, e_kFor, e_set, e_kSet, e_unp, e_kUnp, e_put, e_kPut, e_kPut2, e_kPut3, e_par, e_par3, e_kPar3, e_kPar, e_aug, e_kAug, e_kAug2, e_augS, e_kAS1, e_kAS2, e_kAS3, e_kAS4, e_kAS5, e_setLc, e_var, e_val, e_int, e_bl, e_non, e_str, e_glo, e_bin, e_cmp, e_kB1, e_kB2, e_chn, e_kC0, e_kC1, e_kC2t, e_kC2f, e_kC3, e_bop, e_b1, e_bA, e_bO, e_kAVt, e_kAVf, e_kOVt, e_kOVf, e_not, e_kNV, e_neg, e_kNg, e_ite, e_kIte1, e_kIte0, e_tup, e_kTup, e_lst, e_kLst, e_mk1, e_mk0, e_anil, e_acons, e_kCs, e_kCs2, e_call, e_blt, e_kOA, e_ix, e_slc, e_kSl1, e_kSl2, e_kSl3, e_ono, e_oso, e_kPt, e_rev, e_kRev, e_lc, e_kLc, e_lr1, e_lr2, e_kRg1, e_kRg2, e_ien, e_izp, e_kEnL, e_kEnR, e_kZpL, e_kZpT, e_mth, e_mth0, e_kM1, e_kM0, e_kM2, e_frz, e_tv, e_ttr, e_tcmp, e_tchn, e_kB, e_kTr, e_trb, e_tri, e_tbop, e_t1, e_tA, e_tO, e_kATt, e_kATf, e_kOTt, e_kOTf, e_tnot, e_kNT, e_ono_t, e_oso_t, e_iseq, e_kIt, e_ir1, e_ir2, e_r1, e_r2, o_eqI, o_neI, o_ltI, o_leI, o_gtI, o_geI, o_addI, o_subI, o_mulI, o_fdivI, o_modI, o_powI, o_iaddI, e_kAt, o_ixL, o_ixT, o_ixR, e_kPl, o_setR, o_getR, o_lenL, o_lenT, o_lenR, o_slL, o_slS, o_slT, o_revL, o_revR, o_itL, o_itT, o_itS, o_itR, o_listL, o_listR, o_addL, o_mulL, o_app, o_tyL, o_isi, o_absI, o_maxI, o_minI, List.getElem?_cons_zero, List.getElem?_cons_succ, List.set_cons_zero, List.set_cons_succ, BO.w, cmpW, AO.w, BI.oa, isRef, Mth.ty, Mth.w, Tg.rd, TgL.rd, TgL.len, gNm, gTp, gCo, gNo, List.length_cons, List.length_nil, List.map_cons, List.map_nil, List.nil_append, List.cons_append, List.append_nil, true_and, and_true, Nat.reduceAdd]
  rw [o_eqS]
  exact ⟨⟨Nat.le_refl _, rfl⟩, q⟩
end DL
set_option Elab.async false
set_option linter.all false
set_option maxRecDepth 100000
set_option maxHeartbeats 400000
set_option autoImplicit false
namespace DL
open PySem PySem.Spec L2

theorem at40 (a b c d : D) : atI [a, b, c, d] 0 = some a := rfl
theorem at41 (a b c d : D) : atI [a, b, c, d] 1 = some b := rfl
theorem at42 (a b c d : D) : atI [a, b, c, d] 2 = some c := rfl
theorem at43 (a b c d : D) : atI [a, b, c, d] 3 = some d := rfl
theorem ix40 : ixN 4 0 = some 0 := rfl
theorem ix41 : ixN 4 1 = some 1 := rfl
theorem ix42 : ixN 4 2 = some 2 := rfl
theorem mul_small {i j : Int} (h : -(2 ^ 64) < i ∧ i < 2 ^ 64) : IntMulOk i j := CMul.ok (.inl h)
theorem mul_smallR {i j : Int} (h : -(2 ^ 64) < j ∧ j < 2 ^ 64) : IntMulOk i j := CMul.ok (.inr h)
theorem log2_lt {n : Int} {k : Nat} (h0 : 0 ≤ n) (h : n < 2 ^ k) (hk : 0 < k) : n.natAbs.log2 < k := by
  by_cases e : n = 0
  · subst e; simpa using hk
  · rw [Nat.log2_lt (by omega)]
    have e2 : ((n.natAbs : Nat) : Int) = n := by omega
    have e3 : ((n.natAbs : Nat) : Int) < ((2 ^ k : Nat) : Int) := by
      rw [e2, Int.natCast_pow]; exact h
    omega
def takeTail : SsL :=
  (.cons (.if_ (.cmp .Gt (.ix (.var 0) (.int 0)) (.int 0)) (.cons (.set 3 (.bin .mod (.ix (.var 0) (.int 0)) (.var 1)))
  (.cons (.put (.var 0) (.int 0) (.bin .fdiv (.ix (.var 0) (.int 0)) (.var 1)))
  (.cons (.ret (.var 3))
  .nil))) .nil)
  (.cons (.set 4 (.bin .mod (.bin (.mul false) (.bin (.add false) (.ix (.var 0) (.int 1)) (.int 1)) (.int 39373)) (.int 1000000007)))
  (.cons (.set 5 (.bin .mod (.bin (.mul false) (.bin .mod (.bin (.mul false) (.var 4) (.var 4)) (.int 998244353)) (.int 30011)) (.int 998244353)))
  (.cons (.if_ (.cmp .Gt (.var 1) (.int 1000000)) (.cons (.ret (.bin .mod (.bin (.add false) (.bin (.mul false) (.var 5) (.int 1000000007)) (.var 4)) (.var 1)))
  .nil) .nil)
  (.cons (.ret (.bin .mod (.bin .fdiv (.var 5) (.int 7)) (.var 1)))
  .nil)))))
theorem take_tail (en : Nat → Option Ent) (W : WD) (Q : QD) (Nx : SD → MC → Prop) (B C : SD → MC → Prop) (c : Option D) (x y z many : Int) (ns : List Int) (hx : 0 ≤ x) (hy : 0 ≤ y) (hy2 : y < 2147483647) (hz : 0 ≤ z) (hns : ∀ n ∈ ns, 0 ≤ n) (hm : 0 < many) (hm2 : many < 2 ^ 4000)
    (hq : ∀ (v : Int) (b' : List D), 0 ≤ v → v < many → BagOk b' → Q (.int v) [.lst b']) :
    (takeTail.rd en) W ⟨Nx, retD 1 Q, B, C⟩ [some (.ref 0), some (.int many), c, none, none, none] [.lst [.int x, .int y, .int z, .lst (ns.map D.int)]] := by
  have cd : CDivW x many := ⟨hm, Nat.lt_of_lt_of_le (log2_lt (Int.le_of_lt hm) hm2 (by decide)) (by decide)⟩
  have fin : ∀ (v x' : Int), 0 ≤ v → v < many → 0 ≤ x' → retD 1 Q (.int v) [.lst [.int x', .int y, .int z, .lst (ns.map D.int)]] := fun v x' h1 h2 h3 =>
    ⟨⟨Nat.le_refl _, rfl⟩, hq v _ h1 h2 ⟨x', y, z, ns, rfl, ⟨h3, hy, hy2, hz⟩, hns⟩⟩
  unfold takeTail
  simp only [e_nil, e_cons, e_doc, e_pass, e_brk, e_cnt, e_ret, e_retN, e_expr, e_kDrop, e_if, e_kIf1, e_kIf0, e_whl, e_for, e_kFor, e_set, e_kSet, e_unp, e_kUnp, e_put, e_kPut, e_kPut2, e_kPut3, e_par, e_par3, e_kPar3, e_kPar, e_aug, e_kAug, e_kAug2, e_augS, e_kAS1, e_kAS2, e_kAS3, e_kAS4, e_kAS5, e_setLc, e_var, e_val, e_int, e_bl, e_non, e_str, e_glo, e_bin, e_cmp, e_kB1, e_kB2, e_chn, e_kC0, e_kC1, e_kC2t, e_kC2f, e_kC3, e_bop, e_b1, e_bA, e_bO, e_kAVt, e_kAVf, e_kOVt, e_kOVf, e_not, e_kNV, e_neg, e_kNg, e_ite, e_kIte1, e_kIte0, e_tup, e_kTup, e_lst, e_kLst, e_mk1, e_mk0, e_anil, e_acons, e_kCs, e_kCs2, e_call, e_blt, e_kOA, e_ix, e_slc, e_kSl1, e_kSl2, e_kSl3, e_ono, e_oso, e_kPt, e_rev, e_kRev, e_lc, e_kLc, e_lr1, e_lr2, e_kRg1, e_kRg2, e_ien, e_izp, e_kEnL, e_kEnR, e_kZpL, e_kZpT, e_mth, e_mth0, e_kM1, e_kM0, e_kM2, e_frz, e_tv, e_ttr, e_tcmp, e_tchn, e_kB, e_kTr, e_trb, e_tri, e_tbop, e_t1, e_tA, e_tO, e_kATt, e_kATf, e_kOTt, e_kOTf, e_tnot, e_kNT, e_ono_t, e_oso_t, e_iseq, e_kIt, e_ir1, e_ir2, e_r1, e_r2, o_eqI, o_neI, o_ltI, o_leI, o_gtI, o_geI, o_addI, o_subI, o_mulI, o_fdivI, o_modI, o_powI, o_iaddI, e_kAt, o_ixL, o_ixT, o_ixR, e_kPl, o_setR, o_getR, o_lenL, o_lenT, o_lenR, o_slL, o_slS, o_slT, o_revL, o_revR, o_itL, o_itT, o_itS, o_itR, o_listL, o_listR, o_addL, o_mulL, o_app, o_tyL, o_isi, o_absI, o_maxI, o_minI, List.getElem?_cons_zero, List.getElem?_cons_succ, List.set_cons_zero, List.set_cons_succ, BO.w, cmpW, AO.w, BI.oa, isRef, Mth.ty, Mth.w, Tg.rd, TgL.rd, TgL.len, gNm, gTp, gCo, gNo, List.length_cons, List.length_nil, List.map_cons, List.map_nil, List.nil_append, List.cons_append, List.append_nil, true_and, and_true, Nat.reduceAdd, at40, at41, at42, at43]
  by_cases h : 0 < x
  · simp only [e_nil, e_cons, e_doc, e_pass, e_brk, e_cnt, e_ret, e_retN, e_expr, e_kDrop, e_if, e_kIf1, e_kIf0, e_whl, e_for, e_kFor, e_set, e_kSet, e_unp, e_kUnp, e_put, e_kPut, e_kPut2, e_kPut3, e_par, e_par3, e_kPar3, e_kPar, e_aug, e_kAug, e_kAug2, e_augS, e_kAS1, e_kAS2, e_kAS3, e_kAS4, e_kAS5, e_setLc, e_var, e_val, e_int, e_bl, e_non, e_str, e_glo, e_bin, e_cmp, e_kB1, e_kB2, e_chn, e_kC0, e_kC1, e_kC2t, e_kC2f, e_kC3, e_bop, e_b1, e_bA, e_bO, e_kAVt, e_kAVf, e_kOVt, e_kOVf, e_not, e_kNV, e_neg, e_kNg, e_ite, e_kIte1, e_kIte0, e_tup, e_kTup, e_lst, e_kLst, e_mk1, e_mk0, e_anil, e_acons, e_kCs, e_kCs2, e_call, e_blt, e_kOA, e_ix, e_slc, e_kSl1, e_kSl2, e_kSl3, e_ono, e_oso, e_kPt, e_rev, e_kRev, e_lc, e_kLc, e_lr1, e_lr2, e_kRg1, e_kRg2, e_ien, e_izp, e_kEnL, e_kEnR, e_kZpL, e_kZpT, e_mth, e_mth0, e_kM1, e_kM0, e_kM2, e_frz, e_tv, e_ttr, e_tcmp, e_tchn, e_kB, e_kTr, e_trb, e_tri, e_tbop, e_t1, e_tA, e_tO, e_kATt, e_kATf, e_kOTt, e_kOTf, e_tnot, e_kNT, e_ono_t, e_oso_t, e_iseq, e_kIt, e_ir1, e_ir2, e_r1, e_r2, o_eqI, o_neI, o_ltI, o_leI, o_gtI, o_geI, o_addI, o_subI, o_mulI, o_fdivI, o_modI, o_powI, o_iaddI, e_kAt, o_ixL, o_ixT, o_ixR, e_kPl, o_setR, o_getR, o_lenL, o_lenT, o_lenR, o_slL, o_slS, o_slT, o_revL, o_revR, o_itL, o_itT, o_itS, o_itR, o_listL, o_listR, o_addL, o_mulL, o_app, o_tyL, o_isi, o_absI, o_maxI, o_minI, List.getElem?_cons_zero, List.getElem?_cons_succ, List.set_cons_zero, List.set_cons_succ, BO.w, cmpW, AO.w, BI.oa, isRef, Mth.ty, Mth.w, Tg.rd, TgL.rd, TgL.len, gNm, gTp, gCo, gNo, List.length_cons, List.length_nil, List.map_cons, List.map_nil, List.nil_append, List.cons_append, List.append_nil, true_and, and_true, Nat.reduceAdd, at40, at41, at42, at43, ix40, h, decide_true]
    refine ⟨hm, cd, ?_⟩
    exact fin _ _ (Int.emod_nonneg _ (by omega)) (Int.emod_lt_of_pos _ hm) (Int.ediv_nonneg hx (by omega))
  · simp only [e_nil, e_cons, e_doc, e_pass, e_brk, e_cnt, e_ret, e_retN, e_expr, e_kDrop, e_if, e_kIf1, e_kIf0, e_whl, e_for, e_kFor, e_set, e_kSet, e_unp, e_kUnp, e_put, e_kPut, e_kPut2, e_kPut3, e_par, e_par3, e_kPar3, e_kPar, e_aug, e_kAug, e_kAug2, e_augS, e_kAS1, e_kAS2, e_kAS3, e_kAS4, e_kAS5, e_setLc, e_var, e_val, e_int, e_bl, e_non, e_str, e_glo, e_bin, e_cmp, e_kB1, e_kB2, e_chn, e_kC0, e_kC1, e_kC2t, e_kC2f, e_kC3, e_bop, e_b1, e_bA, e_bO, e_kAVt, e_kAVf, e_kOVt, e_kOVf, e_not, e_kNV, e_neg, e_kNg, e_ite, e_kIte1, e_kIte0, e_tup, e_kTup, e_lst, e_kLst, e_mk1, e_mk0, e_anil, e_acons, e_kCs, e_kCs2, e_call, e_blt, e_kOA, e_ix, e_slc, e_kSl1, e_kSl2, e_kSl3, e_ono, e_oso, e_kPt, e_rev, e_kRev, e_lc, e_kLc, e_lr1, e_lr2, e_kRg1, e_kRg2, e_ien, e_izp, e_kEnL, e_kEnR, e_kZpL, e_kZpT, e_mth, e_mth0, e_kM1, e_kM0, e_kM2, e_frz, e_tv, e_ttr, e_tcmp, e_tchn, e_kB, e_kTr, e_trb, e_tri, e_tbop, e_t1, e_tA, e_tO, e_kATt, e_kATf, e_kOTt, e_kOTf, e_tnot, e_kNT, e_ono_t, e_oso_t, e_iseq, e_kIt, e_ir1, e_ir2, e_r1, e_r2, o_eqI, o_neI, o_ltI, o_leI, o_gtI, o_geI, o_addI, o_subI, o_mulI, o_fdivI, o_modI, o_powI, o_iaddI, e_kAt, o_ixL, o_ixT, o_ixR, e_kPl, o_setR, o_getR, o_lenL, o_lenT, o_lenR, o_slL, o_slS, o_slT, o_revL, o_revR, o_itL, o_itT, o_itS, o_itR, o_listL, o_listR, o_addL, o_mulL, o_app, o_tyL, o_isi, o_absI, o_maxI, o_minI, List.getElem?_cons_zero, List.getElem?_cons_succ, List.set_cons_zero, List.set_cons_succ, BO.w, cmpW, AO.w, BI.oa, isRef, Mth.ty, Mth.w, Tg.rd, TgL.rd, TgL.len, gNm, gTp, gCo, gNo, List.length_cons, List.length_nil, List.map_cons, List.map_nil, List.nil_append, List.cons_append, List.append_nil, true_and, and_true, Nat.reduceAdd, at40, at41, at42, at43, ix40, h, decide_false]
    refine ⟨mul_smallR (by decide), by decide, ?_⟩
    have f0 : 0 ≤ (y + 1) * 39373 % 1000000007 := Int.emod_nonneg _ (by decide)
    have f1 : (y + 1) * 39373 % 1000000007 < 1000000007 := Int.emod_lt_of_pos _ (by decide)
    generalize (y + 1) * 39373 % 1000000007 = first at f0 f1 ⊢
    refine ⟨mul_small (by omega), by decide, mul_smallR (by decide), by decide, ?_⟩
    have s0 : 0 ≤ first * first % 998244353 * 30011 % 998244353 := Int.emod_nonneg _ (by decide)
    have s1 : first * first % 998244353 * 30011 % 998244353 < 998244353 := Int.emod_lt_of_pos _ (by decide)
    generalize first * first % 998244353 * 30011 % 998244353 = second at s0 s1 ⊢
    by_cases h2 : 1000000 < many
    · simp only [e_nil, e_cons, e_doc, e_pass, e_brk, e_cnt, e_ret, e_retN, e_expr, e_kDrop, e_if, e_kIf1, e_kIf0, e_whl, e_for, e_kFor, e_set, e_kSet, e_unp, e_kUnp, e_put, e_kPut, e_kPut2, e_kPut3, e_par, e_par3, e_kPar3, e_kPar, e_aug, e_kAug, e_kAug2, e_augS, e_kAS1, e_kAS2, e_kAS3, e_kAS4, e_kAS5, e_setLc, e_var, e_val, e_int, e_bl, e_non, e_str, e_glo, e_bin, e_cmp, e_kB1, e_kB2, e_chn, e_kC0, e_kC1, e_kC2t, e_kC2f, e_kC3, e_bop, e_b1, e_bA, e_bO, e_kAVt, e_kAVf, e_kOVt, e_kOVf, e_not, e_kNV, e_neg, e_kNg, e_ite, e_kIte1, e_kIte0, e_tup, e_kTup, e_lst, e_kLst, e_mk1, e_mk0, e_anil, e_acons, e_kCs, e_kCs2, e_call, e_blt, e_kOA, e_ix, e_slc, e_kSl1, e_kSl2, e_kSl3, e_ono, e_oso, e_kPt, e_rev, e_kRev, e_lc, e_kLc, e_lr1, e_lr2, e_kRg1, e_kRg2, e_ien, e_izp, e_kEnL, e_kEnR, e_kZpL, e_kZpT, e_mth, e_mth0, e_kM1, e_kM0, e_kM2, e_frz, e_tv, e_ttr, e_tcmp, e_tchn, e_kB, e_kTr, e_trb, e_tri, e_tbop, e_t1, e_tA, e_tO, e_kATt, e_kATf, e_kOTt, e_kOTf, e_tnot, e_kNT, e_ono_t, e_oso_t, e_iseq, e_kIt, e_ir1, e_ir2, e_r1, e_r2, o_eqI, o_neI, o_ltI, o_leI, o_gtI, o_geI, o_addI, o_subI, o_mulI, o_fdivI, o_modI, o_powI, o_iaddI, e_kAt, o_ixL, o_ixT, o_ixR, e_kPl, o_setR, o_getR, o_lenL, o_lenT, o_lenR, o_slL, o_slS, o_slT, o_revL, o_revR, o_itL, o_itT, o_itS, o_itR, o_listL, o_listR, o_addL, o_mulL, o_app, o_tyL, o_isi, o_absI, o_maxI, o_minI, List.getElem?_cons_zero, List.getElem?_cons_succ, List.set_cons_zero, List.set_cons_succ, BO.w, cmpW, AO.w, BI.oa, isRef, Mth.ty, Mth.w, Tg.rd, TgL.rd, TgL.len, gNm, gTp, gCo, gNo, List.length_cons, List.length_nil, List.map_cons, List.map_nil, List.nil_append, List.cons_append, List.append_nil, true_and, and_true, Nat.reduceAdd, h2, decide_true]
      refine ⟨mul_smallR (by decide), hm, ?_⟩
      exact fin _ _ (Int.emod_nonneg _ (by omega)) (Int.emod_lt_of_pos _ hm) hx
    · simp only [e_nil, e_cons, e_doc, e_pass, e_brk, e_cnt, e_ret, e_retN, e_expr, e_kDrop, e_if, e_kIf1, e_kIf0, e_whl, e_for, e_kFor, e_set, e_kSet, e_unp, e_kUnp, e_put, e_kPut, e_kPut2, e_kPut3, e_par, e_par3, e_kPar3, e_kPar, e_aug, e_kAug, e_kAug2, e_augS, e_kAS1, e_kAS2, e_kAS3, e_kAS4, e_kAS5, e_setLc, e_var, e_val, e_int, e_bl, e_non, e_str, e_glo, e_bin, e_cmp, e_kB1, e_kB2, e_chn, e_kC0, e_kC1, e_kC2t, e_kC2f, e_kC3, e_bop, e_b1, e_bA, e_bO, e_kAVt, e_kAVf, e_kOVt, e_kOVf, e_not, e_kNV, e_neg, e_kNg, e_ite, e_kIte1, e_kIte0, e_tup, e_kTup, e_lst, e_kLst, e_mk1, e_mk0, e_anil, e_acons, e_kCs, e_kCs2, e_call, e_blt, e_kOA, e_ix, e_slc, e_kSl1, e_kSl2, e_kSl3, e_ono, e_oso, e_kPt, e_rev, e_kRev, e_lc, e_kLc, e_lr1, e_lr2, e_kRg1, e_kRg2, e_ien, e_izp, e_kEnL, e_kEnR, e_kZpL, e_kZpT, e_mth, e_mth0, e_kM1, e_kM0, e_kM2, e_frz, e_tv, e_ttr, e_tcmp, e_tchn, e_kB, e_kTr, e_trb, e_tri, e_tbop, e_t1, e_tA, e_tO, e_kATt, e_kATf, e_kOTt, e_kOTf, e_tnot, e_kNT, e_ono_t, e_oso_t, e_iseq, e_kIt, e_ir1, e_ir2, e_r1, e_r2, o_eqI, o_neI, o_ltI, o_leI, o_gtI, o_geI, o_addI, o_subI, o_mulI, o_fdivI, o_modI, o_powI, o_iaddI, e_kAt, o_ixL, o_ixT, o_ixR, e_kPl, o_setR, o_getR, o_lenL, o_lenT, o_lenR, o_slL, o_slS, o_slT, o_revL, o_revR, o_itL, o_itT, o_itS, o_itR, o_listL, o_listR, o_addL, o_mulL, o_app, o_tyL, o_isi, o_absI, o_maxI, o_minI, List.getElem?_cons_zero, List.getElem?_cons_succ, List.set_cons_zero, List.set_cons_succ, BO.w, cmpW, AO.w, BI.oa, isRef, Mth.ty, Mth.w, Tg.rd, TgL.rd, TgL.len, gNm, gTp, gCo, gNo, List.length_cons, List.length_nil, List.map_cons, List.map_nil, List.nil_append, List.cons_append, List.append_nil, true_and, and_true, Nat.reduceAdd, h2, decide_false]
      refine ⟨⟨by decide, by decide⟩, hm, ?_⟩
      exact fin _ _ (Int.emod_nonneg _ (by omega)) (Int.emod_lt_of_pos _ hm) hx
theorem read_take (en : Nat → Option Ent) (he : en 0 = some (.bi .len)) (ds : List D) (M : MC) (Q : QD) (E : Exc → MC → Prop) (h : spTake0 ds M Q E) :
    (b_law_take.rd en) (raiD M.length E) { nx := fun _ M' => retD M.length Q .non M', rt := retD M.length Q } (startD ["bag", "many", "cell", "value", "first", "second"] ds) M := by
  obtain ⟨many, b, rfl, rfl, ⟨x, y, z, ns, rfl, ⟨hx, hy, hy2, hz⟩, hns⟩, ⟨hm, hm2⟩, hq⟩ := h
  show (SsL.rd en b_law_take) (raiD 1 E) { nx := fun _ M' => retD 1 Q .non M', rt := retD 1 Q } [some (.ref 0), some (.int many), none, none, none, none] [.lst [.int x, .int y, .int z, .lst (ns.map D.int)]]
  have tail := fun (c : Option D) (x y z : Int) h1 h2 h3 h4 => take_tail en (raiD 1 E) Q (fun _ M' => retD 1 Q .non M') (fun _ _ => False) (fun _ _ => False) c x y z many ns h1 h2 h3 h4 hns hm hm2 hq
  unfold takeTail at tail
  unfold b_law_take
  simp only [e_nil, e_cons, e_doc, e_pass, e_brk, e_cnt, e_ret, e_retN, e_expr, e_kDrop, e_if, e_kIf1, e_kIf0, e_whl, e_for, e_kFor, e_set, e_kSet, e_unp, e_kUnp, e_put, e_kPut, e_kPut2, e_kPut3, e_par, e_par3, e_kPar3, e_kPar, e_aug, e_kAug, e_kAug2, e_augS, e_kAS1, e_kAS2, e_kAS3, e_kAS4, e_kAS5, e_setLc, e_var, e_val, e_int, e_bl, e_non, e_str, e_glo, e_bin, e_cmp, e_kB1, e_kB2, e_chn, e_kC0, e_kC1, e_kC2t, e_kC2f, e_kC3, e_bop, e_b1, e_bA, e_bO, e_kAVt, e_kAVf, e_kOVt, e_kOVf, e_not, e_kNV, e_neg, e_kNg, e_ite, e_kIte1, e_kIte0, e_tup, e_kTup, e_lst, e_kLst, e_mk1, e_mk0, e_anil, e_acons, e_kCs, e_kCs2, e_call, e_blt, e_kOA, e_ix, e_slc, e_kSl1, e_kSl2, e_kSl3, e_ono, e_oso, e_kPt, e_rev, e_kRev, e_lc, e_kLc, e_lr1, e_lr2, e_kRg1, e_kRg2, e_ien, e_izp, e_kEnL, e_kEnR, e_kZpL, e_kZpT, e_mth, e_mth0, e_kM1, e_kM0, e_kM2, e_frz, e_tv, e_ttr, e_tcmp, e_tchn, e_kB, e_kTr, e_trb, e_tri, e_tbop, e_t1, e_tA, e_tO, e_kATt, e_kATf, e_kOTt, e_kOTf, e_tnot, e_kNT, e_ono_t, e_oso_t, e_iseq, e_kIt, e_ir1, e_ir2, e_r1, e_r2, o_eqI, o_neI, o_ltI, o_leI, o_gtI, o_geI, o_addI, o_subI, o_mulI, o_fdivI, o_modI, o_powI, o_iaddI, e_kAt, o_ixL, o_ixT, o_ixR, e_kPl, o_setR, o_getR, o_lenL, o_lenT, o_lenR, o_slL, o_slS, o_slT, o_revL, o_revR, o_itL, o_itT, o_itS, o_itR, o_listL, o_listR, o_addL, o_mulL, o_app, o_tyL, o_isi, o_absI, o_maxI, o_minI, List.getElem?_cons_zero, List.getElem?_cons_succ, List.set_cons_zero, List.set_cons_succ, BO.w, cmpW, AO.w, BI.oa, isRef, Mth.ty, Mth.w, Tg.rd, TgL.rd, TgL.len, gNm, gTp, gCo, gNo, List.length_cons, List.length_nil, List.map_cons, List.map_nil, List.nil_append, List.cons_append, List.append_nil, true_and, and_true, Nat.reduceAdd, at40, at41, at42, at43]
  by_cases h : x = 0
  · -- cell, then the rest of the first branch
    have rest : ∀ cell : Int, 0 ≤ cell → SsL.rd en (.cons (.augS (.var 0) (.int 2) .add (.int 1))
        (.cons (.if_ (.cmp .GtE (.var 2) (.int 1000000000000000000)) (.cons (.put (.var 0) (.int 0) (.var 2)) .nil) .nil)
        (.cons (.put (.var 0) (.int 1) (.bin .mod (.bin (.add false) (.bin (.add false) (.bin (.mul false) (.ix (.var 0) (.int 1)) (.int 48271)) (.bin .mod (.var 2) (.int 2147483647))) (.bin (.mul false) (.int 7919) (.ix (.var 0) (.int 2)))) (.int 2147483647))) .nil))) (raiD 1 E)
        ⟨SsL.rd en takeTail (raiD 1 E) { nx := fun _ M' => retD 1 Q .non M', rt := retD 1 Q }, retD 1 Q, fun _ _ => False, fun _ _ => False⟩
        [some (.ref 0), some (.int many), some (.int cell), none, none, none] [.lst [.int x, .int y, .int z, .lst (ns.map D.int)]] := by
      intro cell hc
      have md0 : ∀ t : Int, 0 ≤ t % 2147483647 := fun t => Int.emod_nonneg _ (by decide)
      have md1 : ∀ t : Int, t % 2147483647 < 2147483647 := fun t => Int.emod_lt_of_pos _ (by decide)
      unfold takeTail
      simp only [e_nil, e_cons, e_doc, e_pass, e_brk, e_cnt, e_ret, e_retN, e_expr, e_kDrop, e_if, e_kIf1, e_kIf0, e_whl, e_for, e_kFor, e_set, e_kSet, e_unp, e_kUnp, e_put, e_kPut, e_kPut2, e_kPut3, e_par, e_par3, e_kPar3, e_kPar, e_aug, e_kAug, e_kAug2, e_augS, e_kAS1, e_kAS2, e_kAS3, e_kAS4, e_kAS5, e_setLc, e_var, e_val, e_int, e_bl, e_non, e_str, e_glo, e_bin, e_cmp, e_kB1, e_kB2, e_chn, e_kC0, e_kC1, e_kC2t, e_kC2f, e_kC3, e_bop, e_b1, e_bA, e_bO, e_kAVt, e_kAVf, e_kOVt, e_kOVf, e_not, e_kNV, e_neg, e_kNg, e_ite, e_kIte1, e_kIte0, e_tup, e_kTup, e_lst, e_kLst, e_mk1, e_mk0, e_anil, e_acons, e_kCs, e_kCs2, e_call, e_blt, e_kOA, e_ix, e_slc, e_kSl1, e_kSl2, e_kSl3, e_ono, e_oso, e_kPt, e_rev, e_kRev, e_lc, e_kLc, e_lr1, e_lr2, e_kRg1, e_kRg2, e_ien, e_izp, e_kEnL, e_kEnR, e_kZpL, e_kZpT, e_mth, e_mth0, e_kM1, e_kM0, e_kM2, e_frz, e_tv, e_ttr, e_tcmp, e_tchn, e_kB, e_kTr, e_trb, e_tri, e_tbop, e_t1, e_tA, e_tO, e_kATt, e_kATf, e_kOTt, e_kOTf, e_tnot, e_kNT, e_ono_t, e_oso_t, e_iseq, e_kIt, e_ir1, e_ir2, e_r1, e_r2, o_eqI, o_neI, o_ltI, o_leI, o_gtI, o_geI, o_addI, o_subI, o_mulI, o_fdivI, o_modI, o_powI, o_iaddI, e_kAt, o_ixL, o_ixT, o_ixR, e_kPl, o_setR, o_getR, o_lenL, o_lenT, o_lenR, o_slL, o_slS, o_slT, o_revL, o_revR, o_itL, o_itT, o_itS, o_itR, o_listL, o_listR, o_addL, o_mulL, o_app, o_tyL, o_isi, o_absI, o_maxI, o_minI, List.getElem?_cons_zero, List.getElem?_cons_succ, List.set_cons_zero, List.set_cons_succ, BO.w, cmpW, AO.w, BI.oa, isRef, Mth.ty, Mth.w, Tg.rd, TgL.rd, TgL.len, gNm, gTp, gCo, gNo, List.length_cons, List.length_nil, List.map_cons, List.map_nil, List.nil_append, List.cons_append, List.append_nil, true_and, and_true, Nat.reduceAdd, at40, at41, at42, at43, ix40, ix41, ix42]
      by_cases h2 : (1000000000000000000 : Int) ≤ cell
      · simp only [e_nil, e_cons, e_doc, e_pass, e_brk, e_cnt, e_ret, e_retN, e_expr, e_kDrop, e_if, e_kIf1, e_kIf0, e_whl, e_for, e_kFor, e_set, e_kSet, e_unp, e_kUnp, e_put, e_kPut, e_kPut2, e_kPut3, e_par, e_par3, e_kPar3, e_kPar, e_aug, e_kAug, e_kAug2, e_augS, e_kAS1, e_kAS2, e_kAS3, e_kAS4, e_kAS5, e_setLc, e_var, e_val, e_int, e_bl, e_non, e_str, e_glo, e_bin, e_cmp, e_kB1, e_kB2, e_chn, e_kC0, e_kC1, e_kC2t, e_kC2f, e_kC3, e_bop, e_b1, e_bA, e_bO, e_kAVt, e_kAVf, e_kOVt, e_kOVf, e_not, e_kNV, e_neg, e_kNg, e_ite, e_kIte1, e_kIte0, e_tup, e_kTup, e_lst, e_kLst, e_mk1, e_mk0, e_anil, e_acons, e_kCs, e_kCs2, e_call, e_blt, e_kOA, e_ix, e_slc, e_kSl1, e_kSl2, e_kSl3, e_ono, e_oso, e_kPt, e_rev, e_kRev, e_lc, e_kLc, e_lr1, e_lr2, e_kRg1, e_kRg2, e_ien, e_izp, e_kEnL, e_kEnR, e_kZpL, e_kZpT, e_mth, e_mth0, e_kM1, e_kM0, e_kM2, e_frz, e_tv, e_ttr, e_tcmp, e_tchn, e_kB, e_kTr, e_trb, e_tri, e_tbop, e_t1, e_tA, e_tO, e_kATt, e_kATf, e_kOTt, e_kOTf, e_tnot, e_kNT, e_ono_t, e_oso_t, e_iseq, e_kIt, e_ir1, e_ir2, e_r1, e_r2, o_eqI, o_neI, o_ltI, o_leI, o_gtI, o_geI, o_addI, o_subI, o_mulI, o_fdivI, o_modI, o_powI, o_iaddI, e_kAt, o_ixL, o_ixT, o_ixR, e_kPl, o_setR, o_getR, o_lenL, o_lenT, o_lenR, o_slL, o_slS, o_slT, o_revL, o_revR, o_itL, o_itT, o_itS, o_itR, o_listL, o_listR, o_addL, o_mulL, o_app, o_tyL, o_isi, o_absI, o_maxI, o_minI, List.getElem?_cons_zero, List.getElem?_cons_succ, List.set_cons_zero, List.set_cons_succ, BO.w, cmpW, AO.w, BI.oa, isRef, Mth.ty, Mth.w, Tg.rd, TgL.rd, TgL.len, gNm, gTp, gCo, gNo, List.length_cons, List.length_nil, List.map_cons, List.map_nil, List.nil_append, List.cons_append, List.append_nil, true_and, and_true, Nat.reduceAdd, at40, at41, at42, at43, ix40, ix41, ix42, h2, decide_true]
        refine ⟨mul_smallR (by decide), by decide, mul_small (by decide), by decide, ?_⟩
        exact tail (some (.int cell)) _ _ _ hc (md0 _) (md1 _) (by omega)
      · simp only [e_nil, e_cons, e_doc, e_pass, e_brk, e_cnt, e_ret, e_retN, e_expr, e_kDrop, e_if, e_kIf1, e_kIf0, e_whl, e_for, e_kFor, e_set, e_kSet, e_unp, e_kUnp, e_put, e_kPut, e_kPut2, e_kPut3, e_par, e_par3, e_kPar3, e_kPar, e_aug, e_kAug, e_kAug2, e_augS, e_kAS1, e_kAS2, e_kAS3, e_kAS4, e_kAS5, e_setLc, e_var, e_val, e_int, e_bl, e_non, e_str, e_glo, e_bin, e_cmp, e_kB1, e_kB2, e_chn, e_kC0, e_kC1, e_kC2t, e_kC2f, e_kC3, e_bop, e_b1, e_bA, e_bO, e_kAVt, e_kAVf, e_kOVt, e_kOVf, e_not, e_kNV, e_neg, e_kNg, e_ite, e_kIte1, e_kIte0, e_tup, e_kTup, e_lst, e_kLst, e_mk1, e_mk0, e_anil, e_acons, e_kCs, e_kCs2, e_call, e_blt, e_kOA, e_ix, e_slc, e_kSl1, e_kSl2, e_kSl3, e_ono, e_oso, e_kPt, e_rev, e_kRev, e_lc, e_kLc, e_lr1, e_lr2, e_kRg1, e_kRg2, e_ien, e_izp, e_kEnL, e_kEnR, e_kZpL, e_kZpT, e_mth, e_mth0, e_kM1, e_kM0, e_kM2, e_frz, e_tv, e_ttr, e_tcmp, e_tchn, e_kB, e_kTr, e_trb, e_tri, e_tbop, e_t1, e_tA, e_tO, e_kATt, e_kATf, e_kOTt, e_kOTf, e_tnot, e_kNT, e_ono_t, e_oso_t, e_iseq, e_kIt, e_ir1, e_ir2, e_r1, e_r2, o_eqI, o_neI, o_ltI, o_leI, o_gtI, o_geI, o_addI, o_subI, o_mulI, o_fdivI, o_modI, o_powI, o_iaddI, e_kAt, o_ixL, o_ixT, o_ixR, e_kPl, o_setR, o_getR, o_lenL, o_lenT, o_lenR, o_slL, o_slS, o_slT, o_revL, o_revR, o_itL, o_itT, o_itS, o_itR, o_listL, o_listR, o_addL, o_mulL, o_app, o_tyL, o_isi, o_absI, o_maxI, o_minI, List.getElem?_cons_zero, List.getElem?_cons_succ, List.set_cons_zero, List.set_cons_succ, BO.w, cmpW, AO.w, BI.oa, isRef, Mth.ty, Mth.w, Tg.rd, TgL.rd, TgL.len, gNm, gTp, gCo, gNo, List.length_cons, List.length_nil, List.map_cons, List.map_nil, List.nil_append, List.cons_append, List.append_nil, true_and, and_true, Nat.reduceAdd, at40, at41, at42, at43, ix40, ix41, ix42, h2, decide_false]
        refine ⟨mul_smallR (by decide), by decide, mul_small (by decide), by decide, ?_⟩
        exact tail (some (.int cell)) _ _ _ hx (md0 _) (md1 _) (by omega)
    unfold takeTail at rest
    simp only [e_nil, e_cons, e_doc, e_pass, e_brk, e_cnt, e_ret, e_retN, e_expr, e_kDrop, e_if, e_kIf1, e_kIf0, e_whl, e_for, e_kFor, e_set, e_kSet, e_unp, e_kUnp, e_put, e_kPut, e_kPut2, e_kPut3, e_par, e_par3, e_kPar3, e_kPar, e_aug, e_kAug, e_kAug2, e_augS, e_kAS1, e_kAS2, e_kAS3, e_kAS4, e_kAS5, e_setLc, e_var, e_val, e_int, e_bl, e_non, e_str, e_glo, e_bin, e_cmp, e_kB1, e_kB2, e_chn, e_kC0, e_kC1, e_kC2t, e_kC2f, e_kC3, e_bop, e_b1, e_bA, e_bO, e_kAVt, e_kAVf, e_kOVt, e_kOVf, e_not, e_kNV, e_neg, e_kNg, e_ite, e_kIte1, e_kIte0, e_tup, e_kTup, e_lst, e_kLst, e_mk1, e_mk0, e_anil, e_acons, e_kCs, e_kCs2, e_call, e_blt, e_kOA, e_ix, e_slc, e_kSl1, e_kSl2, e_kSl3, e_ono, e_oso, e_kPt, e_rev, e_kRev, e_lc, e_kLc, e_lr1, e_lr2, e_kRg1, e_kRg2, e_ien, e_izp, e_kEnL, e_kEnR, e_kZpL, e_kZpT, e_mth, e_mth0, e_kM1, e_kM0, e_kM2, e_frz, e_tv, e_ttr, e_tcmp, e_tchn, e_kB, e_kTr, e_trb, e_tri, e_tbop, e_t1, e_tA, e_tO, e_kATt, e_kATf, e_kOTt, e_kOTf, e_tnot, e_kNT, e_ono_t, e_oso_t, e_iseq, e_kIt, e_ir1, e_ir2, e_r1, e_r2, o_eqI, o_neI, o_ltI, o_leI, o_gtI, o_geI, o_addI, o_subI, o_mulI, o_fdivI, o_modI, o_powI, o_iaddI, e_kAt, o_ixL, o_ixT, o_ixR, e_kPl, o_setR, o_getR, o_lenL, o_lenT, o_lenR, o_slL, o_slS, o_slT, o_revL, o_revR, o_itL, o_itT, o_itS, o_itR, o_listL, o_listR, o_addL, o_mulL, o_app, o_tyL, o_isi, o_absI, o_maxI, o_minI, List.getElem?_cons_zero, List.getElem?_cons_succ, List.set_cons_zero, List.set_cons_succ, BO.w, cmpW, AO.w, BI.oa, isRef, Mth.ty, Mth.w, Tg.rd, TgL.rd, TgL.len, gNm, gTp, gCo, gNo, List.length_cons, List.length_nil, List.map_cons, List.map_nil, List.nil_append, List.cons_append, List.append_nil, true_and, and_true, Nat.reduceAdd, he, at40, at41, at42, at43, h, decide_true]
    subst h
    by_cases h2 : z < ((ns.map D.int).length : Int)
    · simp only [e_nil, e_cons, e_doc, e_pass, e_brk, e_cnt, e_ret, e_retN, e_expr, e_kDrop, e_if, e_kIf1, e_kIf0, e_whl, e_for, e_kFor, e_set, e_kSet, e_unp, e_kUnp, e_put, e_kPut, e_kPut2, e_kPut3, e_par, e_par3, e_kPar3, e_kPar, e_aug, e_kAug, e_kAug2, e_augS, e_kAS1, e_kAS2, e_kAS3, e_kAS4, e_kAS5, e_setLc, e_var, e_val, e_int, e_bl, e_non, e_str, e_glo, e_bin, e_cmp, e_kB1, e_kB2, e_chn, e_kC0, e_kC1, e_kC2t, e_kC2f, e_kC3, e_bop, e_b1, e_bA, e_bO, e_kAVt, e_kAVf, e_kOVt, e_kOVf, e_not, e_kNV, e_neg, e_kNg, e_ite, e_kIte1, e_kIte0, e_tup, e_kTup, e_lst, e_kLst, e_mk1, e_mk0, e_anil, e_acons, e_kCs, e_kCs2, e_call, e_blt, e_kOA, e_ix, e_slc, e_kSl1, e_kSl2, e_kSl3, e_ono, e_oso, e_kPt, e_rev, e_kRev, e_lc, e_kLc, e_lr1, e_lr2, e_kRg1, e_kRg2, e_ien, e_izp, e_kEnL, e_kEnR, e_kZpL, e_kZpT, e_mth, e_mth0, e_kM1, e_kM0, e_kM2, e_frz, e_tv, e_ttr, e_tcmp, e_tchn, e_kB, e_kTr, e_trb, e_tri, e_tbop, e_t1, e_tA, e_tO, e_kATt, e_kATf, e_kOTt, e_kOTf, e_tnot, e_kNT, e_ono_t, e_oso_t, e_iseq, e_kIt, e_ir1, e_ir2, e_r1, e_r2, o_eqI, o_neI, o_ltI, o_leI, o_gtI, o_geI, o_addI, o_subI, o_mulI, o_fdivI, o_modI, o_powI, o_iaddI, e_kAt, o_ixL, o_ixT, o_ixR, e_kPl, o_setR, o_getR, o_lenL, o_lenT, o_lenR, o_slL, o_slS, o_slT, o_revL, o_revR, o_itL, o_itT, o_itS, o_itR, o_listL, o_listR, o_addL, o_mulL, o_app, o_tyL, o_isi, o_absI, o_maxI, o_minI, List.getElem?_cons_zero, List.getElem?_cons_succ, List.set_cons_zero, List.set_cons_succ, BO.w, cmpW, AO.w, BI.oa, isRef, Mth.ty, Mth.w, Tg.rd, TgL.rd, TgL.len, gNm, gTp, gCo, gNo, List.length_cons, List.length_nil, List.map_cons, List.map_nil, List.nil_append, List.cons_append, List.append_nil, true_and, and_true, Nat.reduceAdd, he, at40, at41, at42, at43, h2, decide_true]
      rw [List.length_map] at h2
      obtain ⟨j, rfl⟩ : ∃ j : Nat, z = (j : Int) := ⟨z.toNat, by omega⟩
      have hj : j < ns.length := by omega
      have e : atI (ns.map D.int) (j : Int) = some (.int ns[j]) := by
        refine atI_nat ?_
        rw [List.getElem?_map, List.getElem?_eq_getElem hj]
        rfl
      rw [e]
      simp only [e_nil, e_cons, e_doc, e_pass, e_brk, e_cnt, e_ret, e_retN, e_expr, e_kDrop, e_if, e_kIf1, e_kIf0, e_whl, e_for, e_kFor, e_set, e_kSet, e_unp, e_kUnp, e_put, e_kPut, e_kPut2, e_kPut3, e_par, e_par3, e_kPar3, e_kPar, e_aug, e_kAug, e_kAug2, e_augS, e_kAS1, e_kAS2, e_kAS3, e_kAS4, e_kAS5, e_setLc, e_var, e_val, e_int, e_bl, e_non, e_str, e_glo, e_bin, e_cmp, e_kB1, e_kB2, e_chn, e_kC0, e_kC1, e_kC2t, e_kC2f, e_kC3, e_bop, e_b1, e_bA, e_bO, e_kAVt, e_kAVf, e_kOVt, e_kOVf, e_not, e_kNV, e_neg, e_kNg, e_ite, e_kIte1, e_kIte0, e_tup, e_kTup, e_lst, e_kLst, e_mk1, e_mk0, e_anil, e_acons, e_kCs, e_kCs2, e_call, e_blt, e_kOA, e_ix, e_slc, e_kSl1, e_kSl2, e_kSl3, e_ono, e_oso, e_kPt, e_rev, e_kRev, e_lc, e_kLc, e_lr1, e_lr2, e_kRg1, e_kRg2, e_ien, e_izp, e_kEnL, e_kEnR, e_kZpL, e_kZpT, e_mth, e_mth0, e_kM1, e_kM0, e_kM2, e_frz, e_tv, e_ttr, e_tcmp, e_tchn, e_kB, e_kTr, e_trb, e_tri, e_tbop, e_t1, e_tA, e_tO, e_kATt, e_kATf, e_kOTt, e_kOTf, e_tnot, e_kNT, e_ono_t, e_oso_t, e_iseq, e_kIt, e_ir1, e_ir2, e_r1, e_r2, o_eqI, o_neI, o_ltI, o_leI, o_gtI, o_geI, o_addI, o_subI, o_mulI, o_fdivI, o_modI, o_powI, o_iaddI, e_kAt, o_ixL, o_ixT, o_ixR, e_kPl, o_setR, o_getR, o_lenL, o_lenT, o_lenR, o_slL, o_slS, o_slT, o_revL, o_revR, o_itL, o_itT, o_itS, o_itR, o_listL, o_listR, o_addL, o_mulL, o_app, o_tyL, o_isi, o_absI, o_maxI, o_minI, List.getElem?_cons_zero, List.getElem?_cons_succ, List.set_cons_zero, List.set_cons_succ, BO.w, cmpW, AO.w, BI.oa, isRef, Mth.ty, Mth.w, Tg.rd, TgL.rd, TgL.len, gNm, gTp, gCo, gNo, List.length_cons, List.length_nil, List.map_cons, List.map_nil, List.nil_append, List.cons_append, List.append_nil, true_and, and_true, Nat.reduceAdd, at40, at41, at42, at43, ix40, ix41, ix42]
      have := rest ns[j] (hns _ (List.getElem_mem _))
      simp only [e_nil, e_cons, e_doc, e_pass, e_brk, e_cnt, e_ret, e_retN, e_expr, e_kDrop, e_if, e_kIf1, e_kIf0, e_whl, e_for, e_kFor, e_set, e_kSet, e_unp, e_kUnp, e_put, e_kPut, e_kPut2, e_kPut3, e_par, e_par3, e_kPar3, e_kPar, e_aug, e_kAug, e_kAug2, e_augS, e_kAS1, e_kAS2, e_kAS3, e_kAS4, e_kAS5, e_setLc, e_var, e_val, e_int, e_bl, e_non, e_str, e_glo, e_bin, e_cmp, e_kB1, e_kB2, e_chn, e_kC0, e_kC1, e_kC2t, e_kC2f, e_kC3, e_bop, e_b1, e_bA, e_bO, e_kAVt, e_kAVf, e_kOVt, e_kOVf, e_not, e_kNV, e_neg, e_kNg, e_ite, e_kIte1, e_kIte0, e_tup, e_kTup, e_lst, e_kLst, e_mk1, e_mk0, e_anil, e_acons, e_kCs, e_kCs2, e_call, e_blt, e_kOA, e_ix, e_slc, e_kSl1, e_kSl2, e_kSl3, e_ono, e_oso, e_kPt, e_rev, e_kRev, e_lc, e_kLc, e_lr1, e_lr2, e_kRg1, e_kRg2, e_ien, e_izp, e_kEnL, e_kEnR, e_kZpL, e_kZpT, e_mth, e_mth0, e_kM1, e_kM0, e_kM2, e_frz, e_tv, e_ttr, e_tcmp, e_tchn, e_kB, e_kTr, e_trb, e_tri, e_tbop, e_t1, e_tA, e_tO, e_kATt, e_kATf, e_kOTt, e_kOTf, e_tnot, e_kNT, e_ono_t, e_oso_t, e_iseq, e_kIt, e_ir1, e_ir2, e_r1, e_r2, o_eqI, o_neI, o_ltI, o_leI, o_gtI, o_geI, o_addI, o_subI, o_mulI, o_fdivI, o_modI, o_powI, o_iaddI, e_kAt, o_ixL, o_ixT, o_ixR, e_kPl, o_setR, o_getR, o_lenL, o_lenT, o_lenR, o_slL, o_slS, o_slT, o_revL, o_revR, o_itL, o_itT, o_itS, o_itR, o_listL, o_listR, o_addL, o_mulL, o_app, o_tyL, o_isi, o_absI, o_maxI, o_minI, List.getElem?_cons_zero, List.getElem?_cons_succ, List.set_cons_zero, List.set_cons_succ, BO.w, cmpW, AO.w, BI.oa, isRef, Mth.ty, Mth.w, Tg.rd, TgL.rd, TgL.len, gNm, gTp, gCo, gNo, List.length_cons, List.length_nil, List.map_cons, List.map_nil, List.nil_append, List.cons_append, List.append_nil, true_and, and_true, Nat.reduceAdd, at40, at41, at42, at43, ix40, ix41, ix42] at this
      exact this
    · simp only [e_nil, e_cons, e_doc, e_pass, e_brk, e_cnt, e_ret, e_retN, e_expr, e_kDrop, e_if, e_kIf1, e_kIf0, e_whl, e_for, e_kFor, e_set, e_kSet, e_unp, e_kUnp, e_put, e_kPut, e_kPut2, e_kPut3, e_par, e_par3, e_kPar3, e_kPar, e_aug, e_kAug, e_kAug2, e_augS, e_kAS1, e_kAS2, e_kAS3, e_kAS4, e_kAS5, e_setLc, e_var, e_val, e_int, e_bl, e_non, e_str, e_glo, e_bin, e_cmp, e_kB1, e_kB2, e_chn, e_kC0, e_kC1, e_kC2t, e_kC2f, e_kC3, e_bop, e_b1, e_bA, e_bO, e_kAVt, e_kAVf, e_kOVt, e_kOVf, e_not, e_kNV, e_neg, e_kNg, e_ite, e_kIte1, e_kIte0, e_tup, e_kTup, e_lst, e_kLst, e_mk1, e_mk0, e_anil, e_acons, e_kCs, e_kCs2, e_call, e_blt, e_kOA, e_ix, e_slc, e_kSl1, e_kSl2, e_kSl3, e_ono, e_oso, e_kPt, e_rev, e_kRev, e_lc, e_kLc, e_lr1, e_lr2, e_kRg1, e_kRg2, e_ien, e_izp, e_kEnL, e_kEnR, e_kZpL, e_kZpT, e_mth, e_mth0, e_kM1, e_kM0, e_kM2, e_frz, e_tv, e_ttr, e_tcmp, e_tchn, e_kB, e_kTr, e_trb, e_tri, e_tbop, e_t1, e_tA, e_tO, e_kATt, e_kATf, e_kOTt, e_kOTf, e_tnot, e_kNT, e_ono_t, e_oso_t, e_iseq, e_kIt, e_ir1, e_ir2, e_r1, e_r2, o_eqI, o_neI, o_ltI, o_leI, o_gtI, o_geI, o_addI, o_subI, o_mulI, o_fdivI, o_modI, o_powI, o_iaddI, e_kAt, o_ixL, o_ixT, o_ixR, e_kPl, o_setR, o_getR, o_lenL, o_lenT, o_lenR, o_slL, o_slS, o_slT, o_revL, o_revR, o_itL, o_itT, o_itS, o_itR, o_listL, o_listR, o_addL, o_mulL, o_app, o_tyL, o_isi, o_absI, o_maxI, o_minI, List.getElem?_cons_zero, List.getElem?_cons_succ, List.set_cons_zero, List.set_cons_succ, BO.w, cmpW, AO.w, BI.oa, isRef, Mth.ty, Mth.w, Tg.rd, TgL.rd, TgL.len, gNm, gTp, gCo, gNo, List.length_cons, List.length_nil, List.map_cons, List.map_nil, List.nil_append, List.cons_append, List.append_nil, true_and, and_true, Nat.reduceAdd, he, at40, at41, at42, at43, ix40, ix41, ix42, h2, decide_false]
      have := rest 0 (by decide)
      simp only [e_nil, e_cons, e_doc, e_pass, e_brk, e_cnt, e_ret, e_retN, e_expr, e_kDrop, e_if, e_kIf1, e_kIf0, e_whl, e_for, e_kFor, e_set, e_kSet, e_unp, e_kUnp, e_put, e_kPut, e_kPut2, e_kPut3, e_par, e_par3, e_kPar3, e_kPar, e_aug, e_kAug, e_kAug2, e_augS, e_kAS1, e_kAS2, e_kAS3, e_kAS4, e_kAS5, e_setLc, e_var, e_val, e_int, e_bl, e_non, e_str, e_glo, e_bin, e_cmp, e_kB1, e_kB2, e_chn, e_kC0, e_kC1, e_kC2t, e_kC2f, e_kC3, e_bop, e_b1, e_bA, e_bO, e_kAVt, e_kAVf, e_kOVt, e_kOVf, e_not, e_kNV, e_neg, e_kNg, e_ite, e_kIte1, e_kIte0, e_tup, e_kTup, e_lst, e_kLst, e_mk1, e_mk0, e_anil, e_acons, e_kCs, e_kCs2, e_call, e_blt, e_kOA, e_ix, e_slc, e_kSl1, e_kSl2, e_kSl3, e_ono, e_oso, e_kPt, e_rev, e_kRev, e_lc, e_kLc, e_lr1, e_lr2, e_kRg1, e_kRg2, e_ien, e_izp, e_kEnL, e_kEnR, e_kZpL, e_kZpT, e_mth, e_mth0, e_kM1, e_kM0, e_kM2, e_frz, e_tv, e_ttr, e_tcmp, e_tchn, e_kB, e_kTr, e_trb, e_tri, e_tbop, e_t1, e_tA, e_tO, e_kATt, e_kATf, e_kOTt, e_kOTf, e_tnot, e_kNT, e_ono_t, e_oso_t, e_iseq, e_kIt, e_ir1, e_ir2, e_r1, e_r2, o_eqI, o_neI, o_ltI, o_leI, o_gtI, o_geI, o_addI, o_subI, o_mulI, o_fdivI, o_modI, o_powI, o_iaddI, e_kAt, o_ixL, o_ixT, o_ixR, e_kPl, o_setR, o_getR, o_lenL, o_lenT, o_lenR, o_slL, o_slS, o_slT, o_revL, o_revR, o_itL, o_itT, o_itS, o_itR, o_listL, o_listR, o_addL, o_mulL, o_app, o_tyL, o_isi, o_absI, o_maxI, o_minI, List.getElem?_cons_zero, List.getElem?_cons_succ, List.set_cons_zero, List.set_cons_succ, BO.w, cmpW, AO.w, BI.oa, isRef, Mth.ty, Mth.w, Tg.rd, TgL.rd, TgL.len, gNm, gTp, gCo, gNo, List.length_cons, List.length_nil, List.map_cons, List.map_nil, List.nil_append, List.cons_append, List.append_nil, true_and, and_true, Nat.reduceAdd, at40, at41, at42, at43, ix40, ix41, ix42] at this
      exact this
  · simp only [e_nil, e_cons, e_doc, e_pass, e_brk, e_cnt, e_ret, e_retN, e_expr, e_kDrop, e_if, e_kIf1, e_kIf0, e_whl, e_for, e_kFor, e_set, e_kSet, e_unp, e_kUnp, e_put, e_kPut, e_kPut2, e_kPut3, e_par, e_par3, e_kPar3, e_kPar, e_aug, e_kAug, e_kAug2, e_augS, e_kAS1, e_kAS2, e_kAS3, e_kAS4, e_kAS5, e_setLc, e_var, e_val, e_int, e_bl, e_non, e_str, e_glo, e_bin, e_cmp, e_kB1, e_kB2, e_chn, e_kC0, e_kC1, e_kC2t, e_kC2f, e_kC3, e_bop, e_b1, e_bA, e_bO, e_kAVt, e_kAVf, e_kOVt, e_kOVf, e_not, e_kNV, e_neg, e_kNg, e_ite, e_kIte1, e_kIte0, e_tup, e_kTup, e_lst, e_kLst, e_mk1, e_mk0, e_anil, e_acons, e_kCs, e_kCs2, e_call, e_blt, e_kOA, e_ix, e_slc, e_kSl1, e_kSl2, e_kSl3, e_ono, e_oso, e_kPt, e_rev, e_kRev, e_lc, e_kLc, e_lr1, e_lr2, e_kRg1, e_kRg2, e_ien, e_izp, e_kEnL, e_kEnR, e_kZpL, e_kZpT, e_mth, e_mth0, e_kM1, e_kM0, e_kM2, e_frz, e_tv, e_ttr, e_tcmp, e_tchn, e_kB, e_kTr, e_trb, e_tri, e_tbop, e_t1, e_tA, e_tO, e_kATt, e_kATf, e_kOTt, e_kOTf, e_tnot, e_kNT, e_ono_t, e_oso_t, e_iseq, e_kIt, e_ir1, e_ir2, e_r1, e_r2, o_eqI, o_neI, o_ltI, o_leI, o_gtI, o_geI, o_addI, o_subI, o_mulI, o_fdivI, o_modI, o_powI, o_iaddI, e_kAt, o_ixL, o_ixT, o_ixR, e_kPl, o_setR, o_getR, o_lenL, o_lenT, o_lenR, o_slL, o_slS, o_slT, o_revL, o_revR, o_itL, o_itT, o_itS, o_itR, o_listL, o_listR, o_addL, o_mulL, o_app, o_tyL, o_isi, o_absI, o_maxI, o_minI, List.getElem?_cons_zero, List.getElem?_cons_succ, List.set_cons_zero, List.set_cons_succ, BO.w, cmpW, AO.w, BI.oa, isRef, Mth.ty, Mth.w, Tg.rd, TgL.rd, TgL.len, gNm, gTp, gCo, gNo, List.length_cons, List.length_nil, List.map_cons, List.map_nil, List.nil_append, List.cons_append, List.append_nil, true_and, and_true, Nat.reduceAdd, at40, at41, at42, at43, h, decide_false]
    have := tail none x y z hx hy hy2 hz
    simp only [e_nil, e_cons, e_doc, e_pass, e_brk, e_cnt, e_ret, e_retN, e_expr, e_kDrop, e_if, e_kIf1, e_kIf0, e_whl, e_for, e_kFor, e_set, e_kSet, e_unp, e_kUnp, e_put, e_kPut, e_kPut2, e_kPut3, e_par, e_par3, e_kPar3, e_kPar, e_aug, e_kAug, e_kAug2, e_augS, e_kAS1, e_kAS2, e_kAS3, e_kAS4, e_kAS5, e_setLc, e_var, e_val, e_int, e_bl, e_non, e_str, e_glo, e_bin, e_cmp, e_kB1, e_kB2, e_chn, e_kC0, e_kC1, e_kC2t, e_kC2f, e_kC3, e_bop, e_b1, e_bA, e_bO, e_kAVt, e_kAVf, e_kOVt, e_kOVf, e_not, e_kNV, e_neg, e_kNg, e_ite, e_kIte1, e_kIte0, e_tup, e_kTup, e_lst, e_kLst, e_mk1, e_mk0, e_anil, e_acons, e_kCs, e_kCs2, e_call, e_blt, e_kOA, e_ix, e_slc, e_kSl1, e_kSl2, e_kSl3, e_ono, e_oso, e_kPt, e_rev, e_kRev, e_lc, e_kLc, e_lr1, e_lr2, e_kRg1, e_kRg2, e_ien, e_izp, e_kEnL, e_kEnR, e_kZpL, e_kZpT, e_mth, e_mth0, e_kM1, e_kM0, e_kM2, e_frz, e_tv, e_ttr, e_tcmp, e_tchn, e_kB, e_kTr, e_trb, e_tri, e_tbop, e_t1, e_tA, e_tO, e_kATt, e_kATf, e_kOTt, e_kOTf, e_tnot, e_kNT, e_ono_t, e_oso_t, e_iseq, e_kIt, e_ir1, e_ir2, e_r1, e_r2, o_eqI, o_neI, o_ltI, o_leI, o_gtI, o_geI, o_addI, o_subI, o_mulI, o_fdivI, o_modI, o_powI, o_iaddI, e_kAt, o_ixL, o_ixT, o_ixR, e_kPl, o_setR, o_getR, o_lenL, o_lenT, o_lenR, o_slL, o_slS, o_slT, o_revL, o_revR, o_itL, o_itT, o_itS, o_itR, o_listL, o_listR, o_addL, o_mulL, o_app, o_tyL, o_isi, o_absI, o_maxI, o_minI, List.getElem?_cons_zero, List.getElem?_cons_succ, List.set_cons_zero, List.set_cons_succ, BO.w, cmpW, AO.w, BI.oa, isRef, Mth.ty, Mth.w, Tg.rd, TgL.rd, TgL.len, gNm, gTp, gCo, gNo, List.length_cons, List.length_nil, List.map_cons, List.map_nil, List.nil_append, List.cons_append, List.append_nil, true_and, and_true, Nat.reduceAdd, at40, at41, at42, at43] at this
    exact this
theorem wipeD_one (sd : SD) (i : Nat) : wipeD sd [i] = sd.set i none := rfl
theorem bag_loop (en : Nat → Option Ent) (he : en 0 = some (.bi .abs)) (fin : List D → MC → Prop) (s0 : Option D) (M : MC) : ∀ (zs acc : List Int), acc.length + zs.length ≤ 63 → (∀ n ∈ acc, 0 ≤ n) → (∀ ms : List Int, (∀ n ∈ ms, 0 ≤ n) → fin (ms.map D.int) M) →
    lcLoop (Tg.rd (.nm 1)) (TxO.rd en .no) (Sx.rd en (.blt 0 false (.cons (.var 1) .nil))) (fun _ => True) fin [s0, none] (zs.map D.int) (acc.map D.int) M
  | [], acc, hl, ha, hf => ⟨trivial, hf acc ha⟩
  | z :: zs, acc, hl, ha, hf => by
    rw [List.map_cons]
    unfold lcLoop
    simp only [e_nil, e_cons, e_doc, e_pass, e_brk, e_cnt, e_ret, e_retN, e_expr, e_kDrop, e_if, e_kIf1, e_kIf0, e_whl, e_for, e_kFor, e_set, e_kSet, e_unp, e_kUnp, e_put, e_kPut, e_kPut2, e_kPut3, e_par, e_par3, e_kPar3, e_kPar, e_aug, e_kAug, e_kAug2, e_augS, e_kAS1, e_kAS2, e_kAS3, e_kAS4, e_kAS5, e_setLc, e_var, e_val, e_int, e_bl, e_non, e_str, e_glo, e_bin, e_cmp, e_kB1, e_kB2, e_chn, e_kC0, e_kC1, e_kC2t, e_kC2f, e_kC3, e_bop, e_b1, e_bA, e_bO, e_kAVt, e_kAVf, e_kOVt, e_kOVf, e_not, e_kNV, e_neg, e_kNg, e_ite, e_kIte1, e_kIte0, e_tup, e_kTup, e_lst, e_kLst, e_mk1, e_mk0, e_anil, e_acons, e_kCs, e_kCs2, e_call, e_blt, e_kOA, e_ix, e_slc, e_kSl1, e_kSl2, e_kSl3, e_ono, e_oso, e_kPt, e_rev, e_kRev, e_lc, e_kLc, e_lr1, e_lr2, e_kRg1, e_kRg2, e_ien, e_izp, e_kEnL, e_kEnR, e_kZpL, e_kZpT, e_mth, e_mth0, e_kM1, e_kM0, e_kM2, e_frz, e_tv, e_ttr, e_tcmp, e_tchn, e_kB, e_kTr, e_trb, e_tri, e_tbop, e_t1, e_tA, e_tO, e_kATt, e_kATf, e_kOTt, e_kOTf, e_tnot, e_kNT, e_ono_t, e_oso_t, e_iseq, e_kIt, e_ir1, e_ir2, e_r1, e_r2, o_eqI, o_neI, o_ltI, o_leI, o_gtI, o_geI, o_addI, o_subI, o_mulI, o_fdivI, o_modI, o_powI, o_iaddI, e_kAt, o_ixL, o_ixT, o_ixR, e_kPl, o_setR, o_getR, o_lenL, o_lenT, o_lenR, o_slL, o_slS, o_slT, o_revL, o_revR, o_itL, o_itT, o_itS, o_itR, o_listL, o_listR, o_addL, o_mulL, o_app, o_tyL, o_isi, o_absI, o_maxI, o_minI, List.getElem?_cons_zero, List.getElem?_cons_succ, List.set_cons_zero, List.set_cons_succ, BO.w, cmpW, AO.w, BI.oa, isRef, Mth.ty, Mth.w, Tg.rd, TgL.rd, TgL.len, gNm, gTp, gCo, gNo, List.length_cons, List.length_nil, List.map_cons, List.map_nil, List.nil_append, List.cons_append, List.append_nil, true_and, and_true, Nat.reduceAdd, he]
    refine ⟨?_, ?_⟩
    · rw [List.length_map, sizeLine_eq]
      rw [List.length_cons] at hl
      omega
    · have := bag_loop en he fin s0 M zs (acc ++ [if z < 0 then -z else z]) (by rw [List.length_append, List.length_cons, List.length_nil]; rw [List.length_cons] at hl; omega) (fun n hn => ?_) hf
      · rw [List.map_append] at this
        exact this
      · rcases List.mem_append.mp hn with h | h
        · exact ha n h
        · simp only [List.mem_singleton] at h
          subst h
          split <;> omega
theorem read_bag (en : Nat → Option Ent) (he : en 0 = some (.bi .abs)) (ds : List D) (M : MC) (Q : QD) (E : Exc → MC → Prop) (h : spBag0 ds M Q E) :
    (b_law_bag.rd en) (raiD M.length E) { nx := fun _ M' => retD M.length Q .non M', rt := retD M.length Q } (startD ["script", "cell"] ds) M := by
  obtain ⟨zs, rfl, hl, rfl, hq⟩ := h
  show (SsL.rd en b_law_bag) (raiD 0 E) { nx := fun _ M' => retD 0 Q .non M', rt := retD 0 Q } [some (.scr zs), none] []
  unfold b_law_bag
  simp only [e_nil, e_cons, e_doc, e_pass, e_brk, e_cnt, e_ret, e_retN, e_expr, e_kDrop, e_if, e_kIf1, e_kIf0, e_whl, e_for, e_kFor, e_set, e_kSet, e_unp, e_kUnp, e_put, e_kPut, e_kPut2, e_kPut3, e_par, e_par3, e_kPar3, e_kPar, e_aug, e_kAug, e_kAug2, e_augS, e_kAS1, e_kAS2, e_kAS3, e_kAS4, e_kAS5, e_setLc, e_var, e_val, e_int, e_bl, e_non, e_str, e_glo, e_bin, e_cmp, e_kB1, e_kB2, e_chn, e_kC0, e_kC1, e_kC2t, e_kC2f, e_kC3, e_bop, e_b1, e_bA, e_bO, e_kAVt, e_kAVf, e_kOVt, e_kOVf, e_not, e_kNV, e_neg, e_kNg, e_ite, e_kIte1, e_kIte0, e_tup, e_kTup, e_lst, e_kLst, e_mk1, e_mk0, e_anil, e_acons, e_kCs, e_kCs2, e_call, e_blt, e_kOA, e_ix, e_slc, e_kSl1, e_kSl2, e_kSl3, e_ono, e_oso, e_kPt, e_rev, e_kRev, e_lc, e_kLc, e_lr1, e_lr2, e_kRg1, e_kRg2, e_ien, e_izp, e_kEnL, e_kEnR, e_kZpL, e_kZpT, e_mth, e_mth0, e_kM1, e_kM0, e_kM2, e_frz, e_tv, e_ttr, e_tcmp, e_tchn, e_kB, e_kTr, e_trb, e_tri, e_tbop, e_t1, e_tA, e_tO, e_kATt, e_kATf, e_kOTt, e_kOTf, e_tnot, e_kNT, e_ono_t, e_oso_t, e_iseq, e_kIt, e_ir1, e_ir2, e_r1, e_r2, o_eqI, o_neI, o_ltI, o_leI, o_gtI, o_geI, o_addI, o_subI, o_mulI, o_fdivI, o_modI, o_powI, o_iaddI, e_kAt, o_ixL, o_ixT, o_ixR, e_kPl, o_setR, o_getR, o_lenL, o_lenT, o_lenR, o_slL, o_slS, o_slT, o_revL, o_revR, o_itL, o_itT, o_itS, o_itR, o_listL, o_listR, o_addL, o_mulL, o_app, o_tyL, o_isi, o_absI, o_maxI, o_minI, List.getElem?_cons_zero, List.getElem?_cons_succ, List.set_cons_zero, List.set_cons_succ, BO.w, cmpW, AO.w, BI.oa, isRef, Mth.ty, Mth.w, Tg.rd, TgL.rd, TgL.len, gNm, gTp, gCo, gNo, List.length_cons, List.length_nil, List.map_cons, List.map_nil, List.nil_append, List.cons_append, List.append_nil, true_and, and_true, Nat.reduceAdd]
  have cut : cutD (zs.map D.int) none (some 63) = zs.map D.int := by
    have e1 : HT.sIx (zs.map D.int).length 0 none = 0 := rfl
    have e2 : HT.sIx (zs.map D.int).length (zs.map D.int).length (some 63) = zs.length := by
      rw [show (63 : Int) = ((63 : Nat) : Int) from rfl, HT.sIx_nat, List.length_map]
      exact Nat.min_eq_right hl
    unfold cutD
    rw [e1, e2, List.drop_zero, Nat.sub_zero]
    exact List.take_of_length_le (by rw [List.length_map]; exact Nat.le_refl _)
  rw [cut]
  simp only [wipeD_one]
  refine bag_loop en he _ _ _ zs [] (by simpa using hl) (by simp) fun ms hms => ?_
  simp only [e_nil, e_cons, e_doc, e_pass, e_brk, e_cnt, e_ret, e_retN, e_expr, e_kDrop, e_if, e_kIf1, e_kIf0, e_whl, e_for, e_kFor, e_set, e_kSet, e_unp, e_kUnp, e_put, e_kPut, e_kPut2, e_kPut3, e_par, e_par3, e_kPar3, e_kPar, e_aug, e_kAug, e_kAug2, e_augS, e_kAS1, e_kAS2, e_kAS3, e_kAS4, e_kAS5, e_setLc, e_var, e_val, e_int, e_bl, e_non, e_str, e_glo, e_bin, e_cmp, e_kB1, e_kB2, e_chn, e_kC0, e_kC1, e_kC2t, e_kC2f, e_kC3, e_bop, e_b1, e_bA, e_bO, e_kAVt, e_kAVf, e_kOVt, e_kOVf, e_not, e_kNV, e_neg, e_kNg, e_ite, e_kIte1, e_kIte0, e_tup, e_kTup, e_lst, e_kLst, e_mk1, e_mk0, e_anil, e_acons, e_kCs, e_kCs2, e_call, e_blt, e_kOA, e_ix, e_slc, e_kSl1, e_kSl2, e_kSl3, e_ono, e_oso, e_kPt, e_rev, e_kRev, e_lc, e_kLc, e_lr1, e_lr2, e_kRg1, e_kRg2, e_ien, e_izp, e_kEnL, e_kEnR, e_kZpL, e_kZpT, e_mth, e_mth0, e_kM1, e_kM0, e_kM2, e_frz, e_tv, e_ttr, e_tcmp, e_tchn, e_kB, e_kTr, e_trb, e_tri, e_tbop, e_t1, e_tA, e_tO, e_kATt, e_kATf, e_kOTt, e_kOTf, e_tnot, e_kNT, e_ono_t, e_oso_t, e_iseq, e_kIt, e_ir1, e_ir2, e_r1, e_r2, o_eqI, o_neI, o_ltI, o_leI, o_gtI, o_geI, o_addI, o_subI, o_mulI, o_fdivI, o_modI, o_powI, o_iaddI, e_kAt, o_ixL, o_ixT, o_ixR, e_kPl, o_setR, o_getR, o_lenL, o_lenT, o_lenR, o_slL, o_slS, o_slT, o_revL, o_revR, o_itL, o_itT, o_itS, o_itR, o_listL, o_listR, o_addL, o_mulL, o_app, o_tyL, o_isi, o_absI, o_maxI, o_minI, List.getElem?_cons_zero, List.getElem?_cons_succ, List.set_cons_zero, List.set_cons_succ, BO.w, cmpW, AO.w, BI.oa, isRef, Mth.ty, Mth.w, Tg.rd, TgL.rd, TgL.len, gNm, gTp, gCo, gNo, List.length_cons, List.length_nil, List.map_cons, List.map_nil, List.nil_append, List.cons_append, List.append_nil, true_and, and_true, Nat.reduceAdd]
  refine ⟨⟨by rw [sizeLine_eq]; decide, rfl⟩, ?_⟩
  rw [r_ref 0 _ _ 0 (Nat.le_refl _)]
  exact ⟨⟨Nat.zero_le _, rfl⟩, hq _ ⟨0, 1234567891, 0, ms, rfl, ⟨by decide, by decide, by decide, by decide⟩, hms⟩⟩
end DL
set_option linter.all false
set_option autoImplicit false
namespace DL
/-! ### figures: the plain law -/
/-- figures from the least, fuel f -/
def le (p : Int) : Nat → Int → List Int
  | 0, _ => []
  | f + 1, n => if n ≤ 0 then [] else n % p :: le p f (n / p)
def figs (n p : Int) : List Int := (le p n.toNat n).reverse
def numOf (l : List Int) (p : Int) : Int := l.foldl (fun a f => a * p + f) 0
def numR (p : Int) : List Int → Int
  | [] => 0
  | f :: r => f + p * numR p r
theorem div_lt {n p : Int} (hn : 0 < n) (hp : 2 ≤ p) : 0 ≤ n / p ∧ n / p < n := by
  have h1 : 0 ≤ n / p := Int.ediv_nonneg (by omega) (by omega)
  have h2 : n / p < n := Int.ediv_lt_of_lt_mul (by omega) (by
    have : n * 2 ≤ n * p := Int.mul_le_mul_of_nonneg_left hp (by omega)
    omega)
  exact ⟨h1, h2⟩
theorem le_fuel {p : Int} (hp : 2 ≤ p) : ∀ (f g : Nat) (n : Int), n.toNat ≤ f → n.toNat ≤ g → le p f n = le p g n
  | 0, 0, n, _, _ => rfl
  | 0, g + 1, n, h, _ => by
    unfold le
    rw [if_pos (by omega)]
  | f + 1, 0, n, _, h => by
    unfold le
    rw [if_pos (by omega)]
  | f + 1, g + 1, n, h1, h2 => by
    unfold le
    by_cases h : n ≤ 0
    · rw [if_pos h, if_pos h]
    · rw [if_neg h, if_neg h]
      obtain ⟨d1, d2⟩ := div_lt (n := n) (p := p) (by omega) hp
      rw [le_fuel hp f g (n / p) (by omega) (by omega)]
theorem le_step {p n : Int} (hp : 2 ≤ p) (hn : 0 < n) : le p n.toNat n = n % p :: le p (n / p).toNat (n / p) := by
  obtain ⟨d1, d2⟩ := div_lt hn hp
  cases e : n.toNat with
  | zero => omega
  | succ f =>
    show (if n ≤ 0 then [] else n % p :: le p f (n / p)) = _
    rw [if_neg (by omega)]
    congr 1
    exact le_fuel hp f (n / p).toNat (n / p) (by omega) (Nat.le_refl _)
theorem le_zero {p n : Int} (hn : n ≤ 0) (f : Nat) : le p f n = [] := by
  cases f with
  | zero => rfl
  | succ f => unfold le; rw [if_pos hn]
theorem numR_le {p : Int} (hp : 2 ≤ p) : ∀ (f : Nat) (n : Int), 0 ≤ n → n.toNat ≤ f → numR p (le p f n) = n
  | 0, n, h0, h => by
    have : n = 0 := by omega
    subst this; rfl
  | f + 1, n, h0, h => by
    unfold le
    by_cases hn : n ≤ 0
    · rw [if_pos hn]
      have : n = 0 := by omega
      subst this; rfl
    · rw [if_neg hn]
      obtain ⟨d1, d2⟩ := div_lt (n := n) (p := p) (by omega) hp
      show n % p + p * numR p (le p f (n / p)) = n
      rw [numR_le hp f (n / p) d1 (by omega)]
      exact Int.emod_add_mul_ediv n p
theorem numOf_rev (l : List Int) (p : Int) : numOf l p = numR p l.reverse := by
  have go : ∀ (r : List Int) (a : Int), List.foldl (fun a f => a * p + f) a r.reverse = numR p r + p ^ r.length * a := by
    intro r
    induction r with
    | nil => intro a; simp [numR]
    | cons f r ih =>
      intro a
      rw [List.reverse_cons, List.foldl_append]
      show List.foldl _ a r.reverse * p + f = _
      rw [ih a, List.length_cons, Int.pow_succ]
      show _ = f + p * numR p r + _
      rw [Int.add_mul, Int.mul_comm (numR p r) p, Int.mul_assoc, Int.mul_assoc, Int.mul_comm a p]
      omega
  have := go l.reverse 0
  rw [List.reverse_reverse, Int.mul_zero, Int.add_zero] at this
  exact this
theorem numOf_figs {n p : Int} (hn : 0 ≤ n) (hp : 2 ≤ p) : numOf (figs n p) p = n := by
  rw [numOf_rev]
  unfold figs
  rw [List.reverse_reverse, numR_le hp _ _ hn (Nat.le_refl _)]
def digs (p : Int) (l : List Int) : Prop := ∀ f ∈ l, 0 ≤ f ∧ f < p
theorem digs_le {p : Int} (hp : 2 ≤ p) : ∀ (f : Nat) (n : Int), digs p (le p f n)
  | 0, n => by intro f hf; cases hf
  | f + 1, n => by
    unfold le
    by_cases hn : n ≤ 0
    · rw [if_pos hn]; intro f hf; cases hf
    · rw [if_neg hn]
      intro g hg
      rcases List.mem_cons.mp hg with h | h
      · subst h
        exact ⟨Int.emod_nonneg _ (by omega), Int.emod_lt_of_pos _ (by omega)⟩
      · exact digs_le hp f _ g h
theorem digs_figs {n p : Int} (hp : 2 ≤ p) : digs p (figs n p) := fun f hf => digs_le hp _ _ f (by unfold figs at hf; simpa using hf)
theorem last_le {p : Int} (hp : 2 ≤ p) : ∀ (f : Nat) (n : Int), 0 < n → n.toNat ≤ f → ∃ x, (le p f n).getLast? = some x ∧ 0 < x
  | 0, n, h0, h => by omega
  | f + 1, n, h0, h => by
    obtain ⟨d1, d2⟩ := div_lt h0 hp
    unfold le
    rw [if_neg (by omega)]
    by_cases hz : n / p ≤ 0
    · rw [le_zero hz]
      refine ⟨n % p, rfl, ?_⟩
      have e : n / p = 0 := by omega
      have := Int.emod_add_mul_ediv n p
      rw [e] at this
      omega
    · obtain ⟨x, h1, h2⟩ := last_le hp f (n / p) (by omega) (by omega)
      refine ⟨x, ?_, h2⟩
      rw [List.getLast?_cons, h1]; rfl
theorem head_figs {n p : Int} (hp : 2 ≤ p) (hn : 0 < n) : ∃ x r, figs n p = x :: r ∧ 0 < x := by
  obtain ⟨x, h1, h2⟩ := last_le hp n.toNat n hn (Nat.le_refl _)
  unfold figs
  have h3 : (le p n.toNat n).reverse.head? = some x := by rw [List.head?_reverse]; exact h1
  cases e : (le p n.toNat n).reverse with
  | nil => rw [e] at h3; cases h3
  | cons y r => rw [e] at h3; cases h3; exact ⟨x, r, rfl, h2⟩
theorem figs_zero {n p : Int} (hn : n ≤ 0) : figs n p = [] := by
  unfold figs; rw [le_zero hn]; rfl
theorem numR_nonneg {p : Int} (hp : 2 ≤ p) : ∀ {l : List Int}, digs p l → 0 ≤ numR p l
  | [], _ => Int.le_refl _
  | f :: r, h => by
    have h1 := (h f List.mem_cons_self).1
    have h2 := numR_nonneg hp (l := r) fun g hg => h g (List.mem_cons_of_mem _ hg)
    show 0 ≤ f + p * numR p r
    have : 0 ≤ p * numR p r := Int.mul_nonneg (by omega) h2
    omega
/-- from the least: zeros at the end drop out -/
theorem le_numR {p : Int} (hp : 2 ≤ p) : ∀ {l : List Int}, digs p l → (l = [] ∨ ∃ x, l.getLast? = some x ∧ 0 < x) → le p (numR p l).toNat (numR p l) = l
  | [], _, _ => rfl
  | f :: r, h, hl => by
    have hf := h f List.mem_cons_self
    have hr : digs p r := fun g hg => h g (List.mem_cons_of_mem _ hg)
    have h2 := numR_nonneg hp hr
    have lr : r = [] ∨ ∃ x, r.getLast? = some x ∧ 0 < x := by
      cases r with
      | nil => exact .inl rfl
      | cons a t =>
        rcases hl with z | ⟨x, h1, h2⟩
        · cases z
        · refine .inr ⟨x, ?_, h2⟩
          rw [List.getLast?_cons] at h1
          cases e : (a :: t).getLast? with
          | none => simp at e
          | some y => rw [e] at h1; exact h1
    have pos : 0 < f + p * numR p r := by
      cases r with
      | nil =>
        rcases hl with z | ⟨x, h1, h3⟩
        · cases z
        · have hx : f = x := by simpa using h1
          show 0 < f + p * 0
          omega
      | cons a t =>
        have ih := le_numR hp hr lr
        have : 0 < numR p (a :: t) := by
          rcases Int.lt_or_eq_of_le h2 with z | z
          · exact z
          · rw [← z] at ih
            cases ih
        have : 1 * 2 ≤ numR p (a :: t) * p := Int.mul_le_mul (by omega) hp (by omega) (by omega)
        rw [Int.mul_comm p]
        omega
    show le p (f + p * numR p r).toNat (f + p * numR p r) = f :: r
    rw [le_step hp pos]
    have e1 : (f + p * numR p r) % p = f := by
      rw [Int.add_mul_emod_self_left]
      exact Int.emod_eq_of_lt hf.1 hf.2
    have e2 : (f + p * numR p r) / p = numR p r := by
      rw [Int.add_mul_ediv_left _ _ (by omega), Int.ediv_eq_zero_of_lt hf.1 hf.2, Int.zero_add]
    rw [e1, e2, le_numR hp hr lr]
theorem numR_zeros {p : Int} (r : List Int) : ∀ k : Nat, numR p (r ++ List.replicate k 0) = numR p r := by
  induction r with
  | nil =>
    intro k
    induction k with
    | zero => rfl
    | succ k ih =>
      rw [List.nil_append] at ih ⊢
      show 0 + p * numR p (List.replicate k 0) = 0
      rw [ih]
      show 0 + p * 0 = 0
      omega
  | cons f r ih =>
    intro k
    show f + p * numR p (r ++ List.replicate k 0) = f + p * numR p r
    rw [ih]
/-- zeros ahead, then a figure that is none -/
theorem figs_drop {p : Int} (hp : 2 ≤ p) {l : List Int} {k : Nat} (h : digs p l) (hz : ∀ j, j < k → l[j]? = some 0) (hk : k ≤ l.length) (hn : k = l.length ∨ ∃ x, l[k]? = some x ∧ x ≠ 0) : figs (numOf l p) p = l.drop k := by
  have e : l = List.replicate k 0 ++ l.drop k := by
    apply List.ext_getElem?
    intro i
    by_cases hi : i < k
    · rw [hz i hi, List.getElem?_append_left (by simpa using hi), List.getElem?_replicate, if_pos hi]
    · rw [List.getElem?_append_right (by simpa using hi), List.getElem?_drop, List.length_replicate]
      congr 1
      omega
  have hd : digs p (l.drop k) := fun f hf => h f (List.mem_of_mem_drop hf)
  rw [numOf_rev]
  have e2 : l.reverse = (l.drop k).reverse ++ List.replicate k 0 := by
    conv => lhs; rw [e]
    rw [List.reverse_append, List.reverse_replicate]
  rw [e2, numR_zeros]
  unfold figs
  rw [le_numR hp (fun f hf => hd f (by simpa using hf)), List.reverse_reverse]
  rcases hn with hn | ⟨x, h1, h2⟩
  · left
    rw [hn, List.drop_length]; rfl
  · right
    refine ⟨x, ?_, ?_⟩
    · rw [List.getLast?_reverse, List.head?_drop]
      exact h1
    · have := (h x (List.mem_of_getElem? h1)).1
      omega
theorem numOf_bound {p : Int} (hp : 2 ≤ p) (hp4 : p ≤ 4) : ∀ (l : List Int), digs p l → numR p l < 2 ^ (2 * l.length)
  | [], _ => by show (0 : Int) < 2 ^ 0; decide
  | f :: r, h => by
    have hf := h f List.mem_cons_self
    have ih := numOf_bound hp hp4 r fun g hg => h g (List.mem_cons_of_mem _ hg)
    have h2 := numR_nonneg hp (l := r) fun g hg => h g (List.mem_cons_of_mem _ hg)
    show f + p * numR p r < 2 ^ (2 * (r.length + 1))
    have e : (2 : Int) ^ (2 * (r.length + 1)) = 2 ^ (2 * r.length) * 4 := by
      rw [show 2 * (r.length + 1) = 2 * r.length + 2 from rfl, Int.pow_add]; rfl
    rw [e]
    have : p * numR p r ≤ 4 * numR p r := Int.mul_le_mul_of_nonneg_right hp4 h2
    omega
theorem le_len {p : Int} (hp : 2 ≤ p) : ∀ (f k : Nat) (n : Int), n < 2 ^ k → (le p f n).length ≤ k
  | 0, k, n, _ => Nat.zero_le _
  | f + 1, k, n, h => by
    unfold le
    by_cases hn : n ≤ 0
    · rw [if_pos hn]; exact Nat.zero_le _
    · rw [if_neg hn]
      cases k with
      | zero => rw [Int.pow_zero] at h; omega
      | succ k =>
        rw [Int.pow_succ] at h
        have : n / p < 2 ^ k := Int.ediv_lt_of_lt_mul (by omega) (by
          have : 2 ^ k * 2 ≤ (2 : Int) ^ k * p := Int.mul_le_mul_of_nonneg_left hp (Int.pow_nonneg (by decide))
          omega)
        have := le_len hp f k (n / p) this
        rw [List.length_cons]
        omega
theorem figs_len {p n : Int} {k : Nat} (hp : 2 ≤ p) (h : n < 2 ^ k) : (figs n p).length ≤ k := by
  unfold figs
  rw [List.length_reverse]
  exact le_len hp _ _ _ h
end DL
set_option linter.all false
set_option autoImplicit false
namespace DL
/-! ### blocks: the plain law -/
/-- blocks from f on, each as great as may be; they end ahead of f' -/
def BLp (p l : Int) : Int → List (Int × Nat) → Int → Prop
  | f, [], f' => f = f'
  | f, (n, L) :: r, f' => n * p ^ L = f ∧ f + p ^ L - 1 ≤ l ∧ (¬ (p ^ (L + 1) ∣ f ∧ f + p ^ (L + 1) - 1 ≤ l)) ∧ BLp p l (f + p ^ L) r f'
theorem BLp.snoc {p l : Int} {n : Int} {L : Nat} : ∀ {xs : List (Int × Nat)} {f f' : Int}, BLp p l f xs f' → n * p ^ L = f' → f' + p ^ L - 1 ≤ l → ¬ (p ^ (L + 1) ∣ f' ∧ f' + p ^ (L + 1) - 1 ≤ l) → BLp p l f (xs ++ [(n, L)]) (f' + p ^ L)
  | [], f, f', h, h1, h2, h3 => by
    cases h
    exact ⟨h1, h2, h3, rfl⟩
  | (m, K) :: xs, f, f', ⟨a, b, c, d⟩, h1, h2, h3 => ⟨a, b, c, BLp.snoc d h1 h2 h3⟩
theorem pow_pos' {p : Int} (hp : 2 ≤ p) (L : Nat) : 1 ≤ p ^ L := by
  have := Int.pow_pos (n := p) (m := L) (by omega)
  omega
theorem pow_mono {p : Int} (hp : 2 ≤ p) {a b : Nat} (h : a ≤ b) : p ^ a ≤ p ^ b := by
  obtain ⟨k, rfl⟩ := Nat.exists_eq_add_of_le h
  rw [Int.pow_add]
  have h1 := pow_pos' hp a
  have h2 := pow_pos' hp k
  have := Int.mul_le_mul_of_nonneg_left (a := 1) (b := p ^ k) (c := p ^ a) h2 (by omega)
  omega
theorem pow_dvd {p : Int} {a b : Nat} (h : a ≤ b) : p ^ a ∣ p ^ b := by
  obtain ⟨j, rfl⟩ := Nat.exists_eq_add_of_le h
  exact ⟨p ^ j, Int.pow_add p a j⟩
theorem lev_uniq {p l f : Int} (hp : 2 ≤ p) {L K : Nat} (h1 : p ^ L ∣ f) (h2 : f + p ^ L - 1 ≤ l) (h3 : ¬ (p ^ (L + 1) ∣ f ∧ f + p ^ (L + 1) - 1 ≤ l)) (k1 : p ^ K ∣ f) (k2 : f + p ^ K - 1 ≤ l) (k3 : ¬ (p ^ (K + 1) ∣ f ∧ f + p ^ (K + 1) - 1 ≤ l)) : L = K := by
  rcases Nat.lt_trichotomy L K with z | z | z
  · refine (h3 ⟨?_, ?_⟩).elim
    · exact Int.dvd_trans (pow_dvd (show L + 1 ≤ K from z)) k1
    · have := pow_mono hp (show L + 1 ≤ K from z)
      omega
  · exact z
  · refine (k3 ⟨?_, ?_⟩).elim
    · exact Int.dvd_trans (pow_dvd (show K + 1 ≤ L from z)) h1
    · have := pow_mono hp (show K + 1 ≤ L from z)
      omega
theorem BLp.uniq {p l : Int} (hp : 2 ≤ p) : ∀ {xs ys : List (Int × Nat)} {f f' g' : Int}, BLp p l f xs f' → BLp p l f ys g' → l < f' → l < g' → xs = ys
  | [], [], _, _, _, _, _, _, _ => rfl
  | [], (m, K) :: ys, f, f', g', h, ⟨a, b, c, d⟩, h1, h2 => by
    cases h
    have := pow_pos' hp K
    omega
  | (m, K) :: ys, [], f, f', g', ⟨a, b, c, d⟩, h, h1, h2 => by
    cases h
    have := pow_pos' hp K
    omega
  | (n, L) :: xs, (m, K) :: ys, f, f', g', ⟨a, b, c, d⟩, ⟨a', b', c', d'⟩, h1, h2 => by
    have e : L = K := lev_uniq hp ⟨n, by rw [← a, Int.mul_comm]⟩ b c ⟨m, by rw [← a', Int.mul_comm]⟩ b' c'
    subst e
    have e2 : n = m := by
      have := pow_pos' hp L
      exact Int.eq_of_mul_eq_mul_right (by omega) (a.trans a'.symm)
    subst e2
    rw [BLp.uniq hp d d' h1 h2]
theorem BLp.len {p l : Int} (hp : 2 ≤ p) : ∀ {xs : List (Int × Nat)} {f f' : Int}, BLp p l f xs f' → (xs.length : Int) ≤ f' - f ∧ f ≤ f' ∧ (f ≤ l + 1 → f' ≤ l + 1)
  | [], f, f', h => by
    cases h
    simp
  | (n, L) :: xs, f, f', ⟨a, b, c, d⟩ => by
    have h1 := pow_pos' hp L
    obtain ⟨i1, i2, i3⟩ := BLp.len hp d
    rw [List.length_cons]
    omega
end DL
set_option linter.all false
set_option autoImplicit false
namespace DL
theorem foldl_acc (p : Int) : ∀ (l : List Int) (a : Int), l.foldl (fun a f => a * p + f) a = a * p ^ l.length + numOf l p
  | [], a => by
    show a = a * p ^ 0 + 0
    rw [Int.pow_zero]; omega
  | x :: r, a => by
    show r.foldl (fun a f => a * p + f) (a * p + x) = a * p ^ (r.length + 1) + r.foldl (fun a f => a * p + f) (0 * p + x)
    rw [foldl_acc p r, foldl_acc p r (0 * p + x), Int.zero_mul, Int.zero_add, Int.add_mul, Int.pow_succ, Int.mul_assoc, Int.mul_comm p, Int.add_assoc]
theorem numOf_cons (p : Int) (x : Int) (r : List Int) : numOf (x :: r) p = x * p ^ r.length + numOf r p := by
  show r.foldl (fun a f => a * p + f) (0 * p + x) = _
  rw [foldl_acc, Int.zero_mul, Int.zero_add]
theorem numOf_app (p : Int) (a b : List Int) : numOf (a ++ b) p = numOf a p * p ^ b.length + numOf b p := by
  unfold numOf
  rw [List.foldl_append]
  exact foldl_acc p b _
theorem numOf_zeros (p : Int) : ∀ k : Nat, numOf (List.replicate k 0) p = 0
  | 0 => rfl
  | k + 1 => by
    rw [List.replicate_succ, numOf_cons, numOf_zeros p k, Int.zero_mul]; rfl
theorem numOf_lim {p : Int} (hp : 2 ≤ p) : ∀ {l : List Int}, digs p l → 0 ≤ numOf l p ∧ numOf l p < p ^ l.length
  | [], _ => ⟨Int.le_refl _, by show (0 : Int) < p ^ 0; rw [Int.pow_zero]; decide⟩
  | x :: r, h => by
    obtain ⟨a, b⟩ := numOf_lim hp (l := r) fun f hf => h f (List.mem_cons_of_mem _ hf)
    obtain ⟨c, d⟩ := h x List.mem_cons_self
    have pk := pow_pos' hp r.length
    rw [numOf_cons, List.length_cons, Int.pow_succ, Int.mul_comm (p ^ r.length)]
    have h1 : 0 ≤ x * p ^ r.length := Int.mul_nonneg c (by omega)
    have h2 : (x + 1) * p ^ r.length ≤ p * p ^ r.length := Int.mul_le_mul_of_nonneg_right (by omega) (by omega)
    rw [Int.add_mul, Int.one_mul] at h2
    omega
theorem lex_num {p : Int} (hp : 2 ≤ p) : ∀ {a b : List Int}, digs p a → digs p b → a.length = b.length → (a < b ↔ numOf a p < numOf b p)
  | [], [], _, _, _ => by
    constructor
    · intro h; exact absurd h (by simp)
    · intro h; exact absurd h (Int.lt_irrefl _)
  | [], _ :: _, _, _, h => absurd h (by simp)
  | _ :: _, [], _, _, h => absurd h (by simp)
  | x :: r, y :: t, ha, hb, hl => by
    have ha' : digs p r := fun f hf => ha f (List.mem_cons_of_mem _ hf)
    have hb' : digs p t := fun f hf => hb f (List.mem_cons_of_mem _ hf)
    have hl' : r.length = t.length := by simpa using hl
    have ih := lex_num hp ha' hb' hl'
    obtain ⟨a1, a2⟩ := numOf_lim hp ha'
    obtain ⟨b1, b2⟩ := numOf_lim hp hb'
    rw [numOf_cons, numOf_cons, List.cons_lt_cons_iff, ih]
    rw [hl'] at a2 ⊢
    have pk := pow_pos' hp t.length
    rcases Int.lt_trichotomy x y with z | z | z
    · have h2 : (x + 1) * p ^ t.length ≤ y * p ^ t.length := Int.mul_le_mul_of_nonneg_right (by omega) (by omega)
      rw [Int.add_mul, Int.one_mul] at h2
      exact ⟨fun _ => by omega, fun _ => .inl z⟩
    · subst z
      exact ⟨fun h => by rcases h with h | h <;> omega, fun h => .inr ⟨rfl, by omega⟩⟩
    · have h2 : (y + 1) * p ^ t.length ≤ x * p ^ t.length := Int.mul_le_mul_of_nonneg_right (by omega) (by omega)
      rw [Int.add_mul, Int.one_mul] at h2
      exact ⟨fun h => by rcases h with h | h <;> omega, fun h => by omega⟩
theorem figs_low {p n : Int} (hp : 2 ≤ p) (hn : 0 < n) : ∃ k, (figs n p).length = k + 1 ∧ p ^ k ≤ n := by
  obtain ⟨x, r, e, hx⟩ := head_figs hp hn
  have h1 := numOf_figs (n := n) (p := p) (by omega) hp
  have hd := digs_figs (n := n) (p := p) hp
  rw [e] at h1 hd
  rw [e]
  obtain ⟨a, b⟩ := numOf_lim hp (l := r) fun f hf => hd f (List.mem_cons_of_mem _ hf)
  have pk := pow_pos' hp r.length
  rw [numOf_cons] at h1
  have h2 : 1 * p ^ r.length ≤ x * p ^ r.length := Int.mul_le_mul_of_nonneg_right (by omega) (by omega)
  exact ⟨r.length, rfl, by omega⟩
theorem figs_lenp {p n : Int} (hp : 2 ≤ p) {k : Nat} (h : n < p ^ k) : (figs n p).length ≤ k := by
  by_cases hn : 0 < n
  · obtain ⟨j, e, hj⟩ := figs_low hp hn
    rw [e]
    refine Classical.byContradiction fun z => ?_
    have := pow_mono hp (show k ≤ j by omega)
    omega
  · rw [figs_zero (by omega)]
    exact Nat.zero_le _
theorem figs_snoc {p n : Int} (hp : 2 ≤ p) (hn : 0 < n) : figs (n / p) p ++ [n % p] = figs n p := by
  unfold figs
  rw [le_step hp hn, List.reverse_cons]
theorem numOf_put {p one other : Int} {k : Nat} (hp : 2 ≤ p) (h1 : 0 ≤ one) (h2 : 0 ≤ other) (h3 : other < p ^ k) : numOf (figs one p ++ List.replicate (k - (figs other p).length) 0 ++ figs other p) p = one * p ^ k + other := by
  have := figs_lenp hp h3
  rw [List.append_assoc, numOf_app, numOf_app, numOf_figs h1 hp, numOf_figs h2 hp, numOf_zeros, Int.zero_mul, Int.zero_add, List.length_append, List.length_replicate]
  rw [show k - (figs other p).length + (figs other p).length = k by omega]
theorem figs_put {p one other : Int} {k : Nat} (hp : 2 ≤ p) (h1 : 0 < one) (h2 : 0 ≤ other) (h3 : other < p ^ k) : figs (one * p ^ k + other) p = figs one p ++ List.replicate (k - (figs other p).length) 0 ++ figs other p := by
  rw [← numOf_put hp (by omega) h2 h3]
  obtain ⟨x, r, e, hx⟩ := head_figs hp h1
  have hd : digs p (figs one p ++ List.replicate (k - (figs other p).length) 0 ++ figs other p) := by
    intro f hf
    rcases List.mem_append.mp hf with hf | hf
    · rcases List.mem_append.mp hf with hf | hf
      · exact digs_figs hp f hf
      · have := List.eq_of_mem_replicate hf
        omega
    · exact digs_figs hp f hf
  refine figs_drop (k := 0) hp hd (fun j hj => absurd hj (by omega)) (Nat.zero_le _) (.inr ⟨x, ?_, by omega⟩)
  rw [e]; rfl
theorem figs_lt {p n m : Int} (hp : 2 ≤ p) (hn : 0 ≤ n) (hm : 0 ≤ m) : n < m ↔ ((figs n p).length < (figs m p).length ∨ (figs n p).length = (figs m p).length ∧ figs n p < figs m p) := by
  have dn := digs_figs (n := n) (p := p) hp
  have dm := digs_figs (n := m) (p := p) hp
  have en := numOf_figs (n := n) (p := p) hn hp
  have em := numOf_figs (n := m) (p := p) hm hp
  have key : ∀ {a b : Int}, 0 ≤ a → 0 ≤ b → (figs a p).length < (figs b p).length → a < b := by
    intro a b ha hb h
    have da := digs_figs (n := a) (p := p) hp
    have ea := numOf_figs (n := a) (p := p) ha hp
    have l1 := (numOf_lim hp da).2
    rw [ea] at l1
    by_cases z : 0 < b
    · obtain ⟨j, e, hj⟩ := figs_low hp z
      have := pow_mono hp (show (figs a p).length ≤ j by omega)
      omega
    · rw [figs_zero (n := b) (by omega)] at h
      exact absurd h (Nat.not_lt_zero _)
  constructor
  · intro h
    rcases Nat.lt_trichotomy (figs n p).length (figs m p).length with z | z | z
    · exact .inl z
    · refine .inr ⟨z, (lex_num hp dn dm z).mpr ?_⟩
      rw [en, em]; exact h
    · have := key hm hn z
      omega
  · rintro (h | ⟨h, h2⟩)
    · exact key hn hm h
    · have := (lex_num hp dn dm h).mp h2
      rw [en, em] at this
      exact this
end DL
set_option Elab.async false
set_option linter.all false
set_option maxRecDepth 100000
set_option maxHeartbeats 400000
set_option autoImplicit false
namespace DL
open PySem PySem.Spec L2
def b_figures_of : SsL :=
  (.cons (.set 2 (.lst true .nil))
  (.cons (.whl (.cmp .Gt (.var 0) (.int 0)) (.cons (.expr (.mth .append (.var 2) (.cons (.bin .mod (.var 0) (.var 1)) .nil)))
  (.cons (.set 0 (.bin .fdiv (.var 0) (.var 1)))
  .nil)))
  (.cons (.ret (.rev true (.var 2)))
  .nil)))
def spFigs : DSp := spF fun ds l => ∃ n p : Int, ds = [.int n, .int p] ∧ (0 ≤ n ∧ n < 2 ^ 4000) ∧ (2 ≤ p ∧ p ≤ 4) ∧ l = (figs n p).map D.int
theorem pow_lt_inv {a b : Nat} (h : (2 : Int) ^ a < 2 ^ b) : a < b := by
  refine Classical.byContradiction fun z => ?_
  have : (2 : Nat) ^ b ≤ 2 ^ a := Nat.pow_le_pow_right (by decide) (by omega)
  have h2 : ((2 ^ a : Nat) : Int) < ((2 ^ b : Nat) : Int) := by rw [Int.natCast_pow, Int.natCast_pow]; exact h
  omega
theorem read_figures_of (en : Nat → Option Ent) (ds : List D) (M : MC) (Q : QD) (E : Exc → MC → Prop) (h : spFigs ds M Q E) :
    (b_figures_of.rd en) (raiD M.length E) { nx := fun _ M' => retD M.length Q .non M', rt := retD M.length Q } (startD ["number", "pace", "found"] ds) M := by
  obtain ⟨rfl, l, ⟨n, p, rfl, ⟨n0, n1⟩, ⟨p2, p4⟩, rfl⟩, q⟩ := h
  show (SsL.rd en b_figures_of) (raiD 0 E) { nx := fun _ M' => retD 0 Q .non M', rt := retD 0 Q } [some (.int n), some (.int p), none] []
  unfold b_figures_of
  simp only [e_nil, e_cons, e_doc, e_pass, e_brk, e_cnt, e_ret, e_retN, e_expr, e_kDrop, e_if, e_kIf1, e_kIf0, e_whl, e_for, e_kFor, e_set, e_kSet, e_unp, e_kUnp, e_put, e_kPut, e_kPut2, e_kPut3, e_par, e_par3, e_kPar3, e_kPar, e_aug, e_kAug, e_kAug2, e_augS, e_kAS1, e_kAS2, e_kAS3, e_kAS4, e_kAS5, e_setLc, e_var, e_val, e_int, e_bl, e_non, e_str, e_glo, e_bin, e_cmp, e_kB1, e_kB2, e_chn, e_kC0, e_kC1, e_kC2t, e_kC2f, e_kC3, e_bop, e_b1, e_bA, e_bO, e_kAVt, e_kAVf, e_kOVt, e_kOVf, e_not, e_kNV, e_neg, e_kNg, e_ite, e_kIte1, e_kIte0, e_tup, e_kTup, e_lst, e_kLst, e_mk1, e_mk0, e_anil, e_acons, e_kCs, e_kCs2, e_call, e_blt, e_kOA, e_ix, e_slc, e_kSl1, e_kSl2, e_kSl3, e_ono, e_oso, e_kPt, e_rev, e_kRev, e_lc, e_kLc, e_lr1, e_lr2, e_kRg1, e_kRg2, e_ien, e_izp, e_kEnL, e_kEnR, e_kZpL, e_kZpT, e_mth, e_mth0, e_kM1, e_kM0, e_kM2, e_frz, e_tv, e_ttr, e_tcmp, e_tchn, e_kB, e_kTr, e_trb, e_tri, e_tbop, e_t1, e_tA, e_tO, e_kATt, e_kATf, e_kOTt, e_kOTf, e_tnot, e_kNT, e_ono_t, e_oso_t, e_iseq, e_kIt, e_ir1, e_ir2, e_r1, e_r2, o_eqI, o_neI, o_ltI, o_leI, o_gtI, o_geI, o_addI, o_subI, o_mulI, o_fdivI, o_modI, o_powI, o_iaddI, e_kAt, o_ixL, o_ixT, o_ixR, e_kPl, o_setR, o_getR, o_lenL, o_lenT, o_lenR, o_slL, o_slS, o_slT, o_revL, o_revR, o_itL, o_itT, o_itS, o_itR, o_listL, o_listR, o_addL, o_mulL, o_app, o_tyL, o_isi, o_absI, o_maxI, o_minI, List.getElem?_cons_zero, List.getElem?_cons_succ, List.set_cons_zero, List.set_cons_succ, BO.w, cmpW, AO.w, BI.oa, isRef, Mth.ty, Mth.w, Tg.rd, TgL.rd, TgL.len, gNm, gTp, gCo, gNo, List.length_cons, List.length_nil, List.map_cons, List.map_nil, List.nil_append, List.cons_append, List.append_nil, true_and, and_true, Nat.reduceAdd]
  refine ⟨⟨by rw [sizeLine_eq]; decide, rfl⟩, ?_⟩
  refine ⟨fun m sd M => ∃ (n' : Int) (acc : List Int), m = n'.toNat ∧ sd = [some (.int n'), some (.int p), some (.ref 0)] ∧ M = [.lst (acc.map D.int)] ∧ 0 ≤ n' ∧ acc ++ le p n'.toNat n' = le p n.toNat n ∧ n' * 2 ^ acc.length ≤ n,
    ⟨n.toNat, n, [], rfl, rfl, rfl, n0, rfl, by simp⟩, ?_⟩
  rintro m sd M ⟨n', acc, rfl, rfl, rfl, h0, he, hb⟩
  simp only [e_nil, e_cons, e_doc, e_pass, e_brk, e_cnt, e_ret, e_retN, e_expr, e_kDrop, e_if, e_kIf1, e_kIf0, e_whl, e_for, e_kFor, e_set, e_kSet, e_unp, e_kUnp, e_put, e_kPut, e_kPut2, e_kPut3, e_par, e_par3, e_kPar3, e_kPar, e_aug, e_kAug, e_kAug2, e_augS, e_kAS1, e_kAS2, e_kAS3, e_kAS4, e_kAS5, e_setLc, e_var, e_val, e_int, e_bl, e_non, e_str, e_glo, e_bin, e_cmp, e_kB1, e_kB2, e_chn, e_kC0, e_kC1, e_kC2t, e_kC2f, e_kC3, e_bop, e_b1, e_bA, e_bO, e_kAVt, e_kAVf, e_kOVt, e_kOVf, e_not, e_kNV, e_neg, e_kNg, e_ite, e_kIte1, e_kIte0, e_tup, e_kTup, e_lst, e_kLst, e_mk1, e_mk0, e_anil, e_acons, e_kCs, e_kCs2, e_call, e_blt, e_kOA, e_ix, e_slc, e_kSl1, e_kSl2, e_kSl3, e_ono, e_oso, e_kPt, e_rev, e_kRev, e_lc, e_kLc, e_lr1, e_lr2, e_kRg1, e_kRg2, e_ien, e_izp, e_kEnL, e_kEnR, e_kZpL, e_kZpT, e_mth, e_mth0, e_kM1, e_kM0, e_kM2, e_frz, e_tv, e_ttr, e_tcmp, e_tchn, e_kB, e_kTr, e_trb, e_tri, e_tbop, e_t1, e_tA, e_tO, e_kATt, e_kATf, e_kOTt, e_kOTf, e_tnot, e_kNT, e_ono_t, e_oso_t, e_iseq, e_kIt, e_ir1, e_ir2, e_r1, e_r2, o_eqI, o_neI, o_ltI, o_leI, o_gtI, o_geI, o_addI, o_subI, o_mulI, o_fdivI, o_modI, o_powI, o_iaddI, e_kAt, o_ixL, o_ixT, o_ixR, e_kPl, o_setR, o_getR, o_lenL, o_lenT, o_lenR, o_slL, o_slS, o_slT, o_revL, o_revR, o_itL, o_itT, o_itS, o_itR, o_listL, o_listR, o_addL, o_mulL, o_app, o_tyL, o_isi, o_absI, o_maxI, o_minI, List.getElem?_cons_zero, List.getElem?_cons_succ, List.set_cons_zero, List.set_cons_succ, BO.w, cmpW, AO.w, BI.oa, isRef, Mth.ty, Mth.w, Tg.rd, TgL.rd, TgL.len, gNm, gTp, gCo, gNo, List.length_cons, List.length_nil, List.map_cons, List.map_nil, List.nil_append, List.cons_append, List.append_nil, true_and, and_true, Nat.reduceAdd]
  by_cases h : 0 < n'
  · simp only [e_nil, e_cons, e_doc, e_pass, e_brk, e_cnt, e_ret, e_retN, e_expr, e_kDrop, e_if, e_kIf1, e_kIf0, e_whl, e_for, e_kFor, e_set, e_kSet, e_unp, e_kUnp, e_put, e_kPut, e_kPut2, e_kPut3, e_par, e_par3, e_kPar3, e_kPar, e_aug, e_kAug, e_kAug2, e_augS, e_kAS1, e_kAS2, e_kAS3, e_kAS4, e_kAS5, e_setLc, e_var, e_val, e_int, e_bl, e_non, e_str, e_glo, e_bin, e_cmp, e_kB1, e_kB2, e_chn, e_kC0, e_kC1, e_kC2t, e_kC2f, e_kC3, e_bop, e_b1, e_bA, e_bO, e_kAVt, e_kAVf, e_kOVt, e_kOVf, e_not, e_kNV, e_neg, e_kNg, e_ite, e_kIte1, e_kIte0, e_tup, e_kTup, e_lst, e_kLst, e_mk1, e_mk0, e_anil, e_acons, e_kCs, e_kCs2, e_call, e_blt, e_kOA, e_ix, e_slc, e_kSl1, e_kSl2, e_kSl3, e_ono, e_oso, e_kPt, e_rev, e_kRev, e_lc, e_kLc, e_lr1, e_lr2, e_kRg1, e_kRg2, e_ien, e_izp, e_kEnL, e_kEnR, e_kZpL, e_kZpT, e_mth, e_mth0, e_kM1, e_kM0, e_kM2, e_frz, e_tv, e_ttr, e_tcmp, e_tchn, e_kB, e_kTr, e_trb, e_tri, e_tbop, e_t1, e_tA, e_tO, e_kATt, e_kATf, e_kOTt, e_kOTf, e_tnot, e_kNT, e_ono_t, e_oso_t, e_iseq, e_kIt, e_ir1, e_ir2, e_r1, e_r2, o_eqI, o_neI, o_ltI, o_leI, o_gtI, o_geI, o_addI, o_subI, o_mulI, o_fdivI, o_modI, o_powI, o_iaddI, e_kAt, o_ixL, o_ixT, o_ixR, e_kPl, o_setR, o_getR, o_lenL, o_lenT, o_lenR, o_slL, o_slS, o_slT, o_revL, o_revR, o_itL, o_itT, o_itS, o_itR, o_listL, o_listR, o_addL, o_mulL, o_app, o_tyL, o_isi, o_absI, o_maxI, o_minI, List.getElem?_cons_zero, List.getElem?_cons_succ, List.set_cons_zero, List.set_cons_succ, BO.w, cmpW, AO.w, BI.oa, isRef, Mth.ty, Mth.w, Tg.rd, TgL.rd, TgL.len, gNm, gTp, gCo, gNo, List.length_cons, List.length_nil, List.map_cons, List.map_nil, List.nil_append, List.cons_append, List.append_nil, true_and, and_true, Nat.reduceAdd, h, decide_true, if_true]
    have big : acc.length < 4000 := by
      refine pow_lt_inv (Int.lt_of_le_of_lt ?_ n1)
      have : 1 * 2 ^ acc.length ≤ n' * 2 ^ acc.length := Int.mul_le_mul_of_nonneg_right (by omega) (Int.pow_nonneg (by decide))
      omega
    obtain ⟨d1, d2⟩ := div_lt (p := p) h p2
    refine ⟨by omega, by rw [List.length_map, sizeLine_eq]; omega, ⟨by omega, ?_⟩, ?_⟩
    · exact Nat.lt_of_lt_of_le (log2_lt (k := 3) (by omega) (by omega) (by decide)) (by decide)
    refine ⟨(n' / p).toNat, by omega, n' / p, acc ++ [n' % p], rfl, rfl, ?_, d1, ?_, ?_⟩
    · rw [List.map_append]; rfl
    · rw [← he, le_step p2 h, List.append_assoc]; rfl
    · rw [List.length_append, List.length_cons, List.length_nil, Int.pow_add]
      have e1 : n' / p * 2 ≤ n' := by
        have := Int.ediv_mul_le n' (b := p) (by omega)
        have : n' / p * 2 ≤ n' / p * p := Int.mul_le_mul_of_nonneg_left p2 d1
        omega
      have e2 : n' / p * 2 * 2 ^ acc.length ≤ n' * 2 ^ acc.length := Int.mul_le_mul_of_nonneg_right e1 (Int.pow_nonneg (by decide))
      have e3 : n' / p * (2 ^ acc.length * 2 ^ (0 + 1)) = n' / p * 2 * 2 ^ acc.length := by
        rw [show (2 : Int) ^ (0 + 1) = 2 from rfl, Int.mul_comm (2 ^ acc.length) 2, Int.mul_assoc]
      omega
  · simp only [e_nil, e_cons, e_doc, e_pass, e_brk, e_cnt, e_ret, e_retN, e_expr, e_kDrop, e_if, e_kIf1, e_kIf0, e_whl, e_for, e_kFor, e_set, e_kSet, e_unp, e_kUnp, e_put, e_kPut, e_kPut2, e_kPut3, e_par, e_par3, e_kPar3, e_kPar, e_aug, e_kAug, e_kAug2, e_augS, e_kAS1, e_kAS2, e_kAS3, e_kAS4, e_kAS5, e_setLc, e_var, e_val, e_int, e_bl, e_non, e_str, e_glo, e_bin, e_cmp, e_kB1, e_kB2, e_chn, e_kC0, e_kC1, e_kC2t, e_kC2f, e_kC3, e_bop, e_b1, e_bA, e_bO, e_kAVt, e_kAVf, e_kOVt, e_kOVf, e_not, e_kNV, e_neg, e_kNg, e_ite, e_kIte1, e_kIte0, e_tup, e_kTup, e_lst, e_kLst, e_mk1, e_mk0, e_anil, e_acons, e_kCs, e_kCs2, e_call, e_blt, e_kOA, e_ix, e_slc, e_kSl1, e_kSl2, e_kSl3, e_ono, e_oso, e_kPt, e_rev, e_kRev, e_lc, e_kLc, e_lr1, e_lr2, e_kRg1, e_kRg2, e_ien, e_izp, e_kEnL, e_kEnR, e_kZpL, e_kZpT, e_mth, e_mth0, e_kM1, e_kM0, e_kM2, e_frz, e_tv, e_ttr, e_tcmp, e_tchn, e_kB, e_kTr, e_trb, e_tri, e_tbop, e_t1, e_tA, e_tO, e_kATt, e_kATf, e_kOTt, e_kOTf, e_tnot, e_kNT, e_ono_t, e_oso_t, e_iseq, e_kIt, e_ir1, e_ir2, e_r1, e_r2, o_eqI, o_neI, o_ltI, o_leI, o_gtI, o_geI, o_addI, o_subI, o_mulI, o_fdivI, o_modI, o_powI, o_iaddI, e_kAt, o_ixL, o_ixT, o_ixR, e_kPl, o_setR, o_getR, o_lenL, o_lenT, o_lenR, o_slL, o_slS, o_slT, o_revL, o_revR, o_itL, o_itT, o_itS, o_itR, o_listL, o_listR, o_addL, o_mulL, o_app, o_tyL, o_isi, o_absI, o_maxI, o_minI, List.getElem?_cons_zero, List.getElem?_cons_succ, List.set_cons_zero, List.set_cons_succ, BO.w, cmpW, AO.w, BI.oa, isRef, Mth.ty, Mth.w, Tg.rd, TgL.rd, TgL.len, gNm, gTp, gCo, gNo, List.length_cons, List.length_nil, List.map_cons, List.map_nil, List.nil_append, List.cons_append, List.append_nil, true_and, and_true, Nat.reduceAdd, h, decide_false, Bool.false_eq_true, if_false]
    have z : n' = 0 := by omega
    subst z
    rw [le_zero (Int.le_refl _), List.append_nil] at he
    rw [r_ref 0 _ _ _ (Nat.zero_le _)]
    subst he
    have e : ((le p n.toNat n).map D.int).reverse = (figs n p).map D.int := by unfold figs; rw [List.map_reverse]
    rw [e]
    exact ⟨⟨Nat.zero_le _, rfl⟩, q⟩
def b_number_of : SsL :=
  (.cons (.set 2 (.int 0))
  (.cons (.for_ (.nm 3) (.seq (.var 0)) (.cons (.set 2 (.bin (.add false) (.bin (.mul false) (.var 2) (.var 1)) (.var 3)))
  .nil))
  (.cons (.ret (.var 2))
  .nil)))
def spNumOf : DSp := spI fun ds v => ∃ (fs : List Int) (p : Int), ds = [.lst (fs.map D.int), .int p] ∧ (2 ≤ p ∧ p ≤ 4) ∧ v = numOf fs p
theorem read_number_of (en : Nat → Option Ent) (ds : List D) (M : MC) (Q : QD) (E : Exc → MC → Prop) (h : spNumOf ds M Q E) :
    (b_number_of.rd en) (raiD M.length E) { nx := fun _ M' => retD M.length Q .non M', rt := retD M.length Q } (startD ["figures", "pace", "number", "figure"] ds) M := by
  obtain ⟨rfl, v, ⟨fs, p, rfl, ⟨p2, p4⟩, rfl⟩, q⟩ := h
  show (SsL.rd en b_number_of) (raiD 0 E) { nx := fun _ M' => retD 0 Q .non M', rt := retD 0 Q } [some (.lst (fs.map D.int)), some (.int p), none, none] []
  unfold b_number_of
  simp only [e_nil, e_cons, e_doc, e_pass, e_brk, e_cnt, e_ret, e_retN, e_expr, e_kDrop, e_if, e_kIf1, e_kIf0, e_whl, e_for, e_kFor, e_set, e_kSet, e_unp, e_kUnp, e_put, e_kPut, e_kPut2, e_kPut3, e_par, e_par3, e_kPar3, e_kPar, e_aug, e_kAug, e_kAug2, e_augS, e_kAS1, e_kAS2, e_kAS3, e_kAS4, e_kAS5, e_setLc, e_var, e_val, e_int, e_bl, e_non, e_str, e_glo, e_bin, e_cmp, e_kB1, e_kB2, e_chn, e_kC0, e_kC1, e_kC2t, e_kC2f, e_kC3, e_bop, e_b1, e_bA, e_bO, e_kAVt, e_kAVf, e_kOVt, e_kOVf, e_not, e_kNV, e_neg, e_kNg, e_ite, e_kIte1, e_kIte0, e_tup, e_kTup, e_lst, e_kLst, e_mk1, e_mk0, e_anil, e_acons, e_kCs, e_kCs2, e_call, e_blt, e_kOA, e_ix, e_slc, e_kSl1, e_kSl2, e_kSl3, e_ono, e_oso, e_kPt, e_rev, e_kRev, e_lc, e_kLc, e_lr1, e_lr2, e_kRg1, e_kRg2, e_ien, e_izp, e_kEnL, e_kEnR, e_kZpL, e_kZpT, e_mth, e_mth0, e_kM1, e_kM0, e_kM2, e_frz, e_tv, e_ttr, e_tcmp, e_tchn, e_kB, e_kTr, e_trb, e_tri, e_tbop, e_t1, e_tA, e_tO, e_kATt, e_kATf, e_kOTt, e_kOTf, e_tnot, e_kNT, e_ono_t, e_oso_t, e_iseq, e_kIt, e_ir1, e_ir2, e_r1, e_r2, o_eqI, o_neI, o_ltI, o_leI, o_gtI, o_geI, o_addI, o_subI, o_mulI, o_fdivI, o_modI, o_powI, o_iaddI, e_kAt, o_ixL, o_ixT, o_ixR, e_kPl, o_setR, o_getR, o_lenL, o_lenT, o_lenR, o_slL, o_slS, o_slT, o_revL, o_revR, o_itL, o_itT, o_itS, o_itR, o_listL, o_listR, o_addL, o_mulL, o_app, o_tyL, o_isi, o_absI, o_maxI, o_minI, List.getElem?_cons_zero, List.getElem?_cons_succ, List.set_cons_zero, List.set_cons_succ, BO.w, cmpW, AO.w, BI.oa, isRef, Mth.ty, Mth.w, Tg.rd, TgL.rd, TgL.len, gNm, gTp, gCo, gNo, List.length_cons, List.length_nil, List.map_cons, List.map_nil, List.nil_append, List.cons_append, List.append_nil, true_and, and_true, Nat.reduceAdd]
  have go : ∀ (rem : List Int) (a : Int) (c : Option D) (Z : EndsD), Z.nx = SsL.rd en (.cons (.ret (.var 2)) .nil) (raiD 0 E) { nx := fun _ M' => retD 0 Q .non M', rt := retD 0 Q } → rem.foldl (fun a f => a * p + f) a = numOf fs p →
      loopD (gNm 3) (SsL.rd en (.cons (.set 2 (.bin (.add false) (.bin (.mul false) (.var 2) (.var 1)) (.var 3))) .nil)) (fun _ => True) (raiD 0 E) Z (rem.map D.int) [some (.lst (fs.map D.int)), some (.int p), some (.int a), c] [] := by
    intro rem
    induction rem with
    | nil =>
      intro a c Z hZ e
      refine ⟨trivial, ?_⟩
      rw [hZ]
      simp only [e_nil, e_cons, e_doc, e_pass, e_brk, e_cnt, e_ret, e_retN, e_expr, e_kDrop, e_if, e_kIf1, e_kIf0, e_whl, e_for, e_kFor, e_set, e_kSet, e_unp, e_kUnp, e_put, e_kPut, e_kPut2, e_kPut3, e_par, e_par3, e_kPar3, e_kPar, e_aug, e_kAug, e_kAug2, e_augS, e_kAS1, e_kAS2, e_kAS3, e_kAS4, e_kAS5, e_setLc, e_var, e_val, e_int, e_bl, e_non, e_str, e_glo, e_bin, e_cmp, e_kB1, e_kB2, e_chn, e_kC0, e_kC1, e_kC2t, e_kC2f, e_kC3, e_bop, e_b1, e_bA, e_bO, e_kAVt, e_kAVf, e_kOVt, e_kOVf, e_not, e_kNV, e_neg, e_kNg, e_ite, e_kIte1, e_kIte0, e_tup, e_kTup, e_lst, e_kLst, e_mk1, e_mk0, e_anil, e_acons, e_kCs, e_kCs2, e_call, e_blt, e_kOA, e_ix, e_slc, e_kSl1, e_kSl2, e_kSl3, e_ono, e_oso, e_kPt, e_rev, e_kRev, e_lc, e_kLc, e_lr1, e_lr2, e_kRg1, e_kRg2, e_ien, e_izp, e_kEnL, e_kEnR, e_kZpL, e_kZpT, e_mth, e_mth0, e_kM1, e_kM0, e_kM2, e_frz, e_tv, e_ttr, e_tcmp, e_tchn, e_kB, e_kTr, e_trb, e_tri, e_tbop, e_t1, e_tA, e_tO, e_kATt, e_kATf, e_kOTt, e_kOTf, e_tnot, e_kNT, e_ono_t, e_oso_t, e_iseq, e_kIt, e_ir1, e_ir2, e_r1, e_r2, o_eqI, o_neI, o_ltI, o_leI, o_gtI, o_geI, o_addI, o_subI, o_mulI, o_fdivI, o_modI, o_powI, o_iaddI, e_kAt, o_ixL, o_ixT, o_ixR, e_kPl, o_setR, o_getR, o_lenL, o_lenT, o_lenR, o_slL, o_slS, o_slT, o_revL, o_revR, o_itL, o_itT, o_itS, o_itR, o_listL, o_listR, o_addL, o_mulL, o_app, o_tyL, o_isi, o_absI, o_maxI, o_minI, List.getElem?_cons_zero, List.getElem?_cons_succ, List.set_cons_zero, List.set_cons_succ, BO.w, cmpW, AO.w, BI.oa, isRef, Mth.ty, Mth.w, Tg.rd, TgL.rd, TgL.len, gNm, gTp, gCo, gNo, List.length_cons, List.length_nil, List.map_cons, List.map_nil, List.nil_append, List.cons_append, List.append_nil, true_and, and_true, Nat.reduceAdd]
      have e : a = numOf fs p := e
      subst e
      exact ⟨⟨Nat.zero_le _, rfl⟩, q⟩
    | cons f r ih =>
      intro a c Z hZ e
      rw [List.map_cons]
      refine ⟨trivial, ?_⟩
      simp only [e_nil, e_cons, e_doc, e_pass, e_brk, e_cnt, e_ret, e_retN, e_expr, e_kDrop, e_if, e_kIf1, e_kIf0, e_whl, e_for, e_kFor, e_set, e_kSet, e_unp, e_kUnp, e_put, e_kPut, e_kPut2, e_kPut3, e_par, e_par3, e_kPar3, e_kPar, e_aug, e_kAug, e_kAug2, e_augS, e_kAS1, e_kAS2, e_kAS3, e_kAS4, e_kAS5, e_setLc, e_var, e_val, e_int, e_bl, e_non, e_str, e_glo, e_bin, e_cmp, e_kB1, e_kB2, e_chn, e_kC0, e_kC1, e_kC2t, e_kC2f, e_kC3, e_bop, e_b1, e_bA, e_bO, e_kAVt, e_kAVf, e_kOVt, e_kOVf, e_not, e_kNV, e_neg, e_kNg, e_ite, e_kIte1, e_kIte0, e_tup, e_kTup, e_lst, e_kLst, e_mk1, e_mk0, e_anil, e_acons, e_kCs, e_kCs2, e_call, e_blt, e_kOA, e_ix, e_slc, e_kSl1, e_kSl2, e_kSl3, e_ono, e_oso, e_kPt, e_rev, e_kRev, e_lc, e_kLc, e_lr1, e_lr2, e_kRg1, e_kRg2, e_ien, e_izp, e_kEnL, e_kEnR, e_kZpL, e_kZpT, e_mth, e_mth0, e_kM1, e_kM0, e_kM2, e_frz, e_tv, e_ttr, e_tcmp, e_tchn, e_kB, e_kTr, e_trb, e_tri, e_tbop, e_t1, e_tA, e_tO, e_kATt, e_kATf, e_kOTt, e_kOTf, e_tnot, e_kNT, e_ono_t, e_oso_t, e_iseq, e_kIt, e_ir1, e_ir2, e_r1, e_r2, o_eqI, o_neI, o_ltI, o_leI, o_gtI, o_geI, o_addI, o_subI, o_mulI, o_fdivI, o_modI, o_powI, o_iaddI, e_kAt, o_ixL, o_ixT, o_ixR, e_kPl, o_setR, o_getR, o_lenL, o_lenT, o_lenR, o_slL, o_slS, o_slT, o_revL, o_revR, o_itL, o_itT, o_itS, o_itR, o_listL, o_listR, o_addL, o_mulL, o_app, o_tyL, o_isi, o_absI, o_maxI, o_minI, List.getElem?_cons_zero, List.getElem?_cons_succ, List.set_cons_zero, List.set_cons_succ, BO.w, cmpW, AO.w, BI.oa, isRef, Mth.ty, Mth.w, Tg.rd, TgL.rd, TgL.len, gNm, gTp, gCo, gNo, List.length_cons, List.length_nil, List.map_cons, List.map_nil, List.nil_append, List.cons_append, List.append_nil, true_and, and_true, Nat.reduceAdd]
      refine ⟨mul_smallR (by omega), ?_⟩
      exact ih (a * p + f) _ Z hZ e
  exact go fs 0 none _ rfl rfl
def b_law_number : SsL :=
  (.cons (.set 2 (.call 0 (.cons (.var 0) (.cons (.int 4) .nil))))
  (.cons (.if_ (.cmp .Eq (.var 2) (.int 0)) (.cons (.ret (.call 0 (.cons (.var 0) (.cons (.int 70) .nil))))
  .nil) .nil)
  (.cons (.if_ (.cmp .Eq (.var 2) (.int 1)) (.cons (.ret (.call 0 (.cons (.var 0) (.cons (.bin (.add false) (.ix (.lst false (.cons (.bin .pow (.int 10) (.int 40)) (.cons (.bin (.mul false) (.bin .pow (.int 10) (.int 40)) (.bin .pow (.int 10) (.int 40))) .nil))) (.call 0 (.cons (.var 0) (.cons (.int 2) .nil)))) (.int 1)) .nil))))
  .nil) .nil)
  (.cons (.set 3 (.int 1))
  (.cons (.for_ (.nm 4) (.rng1 1 (.call 0 (.cons (.var 0) (.cons (.int 64) .nil)))) (.cons (.set 3 (.bin (.mul false) (.var 3) (.var 1)))
  .nil))
  (.cons (.ret (.blt 2 true (.cons (.int 0) (.cons (.bin .sub (.bin (.add false) (.bin (.mul false) (.var 3) (.bin (.add false) (.int 1) (.call 0 (.cons (.var 0) (.cons (.int 3) .nil))))) (.call 0 (.cons (.var 0) (.cons (.int 3) .nil)))) (.int 1)) .nil))))
  .nil))))))
def spNum : DSp := fun ds M Q _ => ∃ p : Int, ds = [.ref 0, .int p] ∧ M = [.bag] ∧ (2 ≤ p ∧ p ≤ 4) ∧ ∀ v : Int, 0 ≤ v → v < 2 ^ 400 → Q (.int v) [.bag]
theorem at20 (a b : D) : atI [a, b] 0 = some a := rfl
theorem at21 (a b : D) : atI [a, b] 1 = some b := rfl
theorem ret1 {Q : QD} {v : Int} (h : Q (.int v) [.bag]) : retD 1 Q (.int v) [.bag] := ⟨⟨Nat.le_refl _, rfl⟩, h⟩
theorem c_num (W : WD) (sd : SD) (Q : QD) (M : MC) (p : Int) : kCall W sd Q 1 spNum [.ref 0, .int p] (.bag :: M) = ((2 ≤ p ∧ p ≤ 4) ∧ ∀ v : Int, 0 ≤ v → v < 2 ^ 400 → Q (.int v) (.bag :: M)) := by
  refine propext ⟨fun ⟨_, m, e1, _, h, q⟩ => ?_, fun ⟨h, q⟩ => ⟨⟨by simp, rfl, rfl⟩, p, rfl, rfl, h, fun v h1 h2 => ⟨⟨Nat.le_refl _, rfl⟩, ?_⟩⟩⟩
  · cases e1
    refine ⟨h, fun v h1 h2 => ?_⟩
    have := (q v h1 h2).2
    simpa [shiftD] using this
  · simpa [shiftD] using q v h1 h2
theorem read_law_number (en : Nat → Option Ent) (h0 : en 0 = some (.fn 1 spTake)) (h2 : en 2 = some (.bi .max)) (ds : List D) (M : MC) (Q : QD) (E : Exc → MC → Prop) (h : spNum ds M Q E) :
    (b_law_number.rd en) (raiD M.length E) { nx := fun _ M' => retD M.length Q .non M', rt := retD M.length Q } (startD ["bag", "pace", "way", "size", "k"] ds) M := by
  obtain ⟨p, rfl, rfl, ⟨p2, p4⟩, q⟩ := h
  show (SsL.rd en b_law_number) (raiD 1 E) { nx := fun _ M' => retD 1 Q .non M', rt := retD 1 Q } [some (.ref 0), some (.int p), none, none, none] [.bag]
  have qs : ∀ v : Int, 0 ≤ v → v < 2 ^ 300 → retD 1 Q (.int v) [.bag] := fun v a b => ret1 (q v a (Int.lt_trans b (by decide)))
  unfold b_law_number
  simp only [e_nil, e_cons, e_doc, e_pass, e_brk, e_cnt, e_ret, e_retN, e_expr, e_kDrop, e_if, e_kIf1, e_kIf0, e_whl, e_for, e_kFor, e_set, e_kSet, e_unp, e_kUnp, e_put, e_kPut, e_kPut2, e_kPut3, e_par, e_par3, e_kPar3, e_kPar, e_aug, e_kAug, e_kAug2, e_augS, e_kAS1, e_kAS2, e_kAS3, e_kAS4, e_kAS5, e_setLc, e_var, e_val, e_int, e_bl, e_non, e_str, e_glo, e_bin, e_cmp, e_kB1, e_kB2, e_chn, e_kC0, e_kC1, e_kC2t, e_kC2f, e_kC3, e_bop, e_b1, e_bA, e_bO, e_kAVt, e_kAVf, e_kOVt, e_kOVf, e_not, e_kNV, e_neg, e_kNg, e_ite, e_kIte1, e_kIte0, e_tup, e_kTup, e_lst, e_kLst, e_mk1, e_mk0, e_anil, e_acons, e_kCs, e_kCs2, e_call, e_blt, e_kOA, e_ix, e_slc, e_kSl1, e_kSl2, e_kSl3, e_ono, e_oso, e_kPt, e_rev, e_kRev, e_lc, e_kLc, e_lr1, e_lr2, e_kRg1, e_kRg2, e_ien, e_izp, e_kEnL, e_kEnR, e_kZpL, e_kZpT, e_mth, e_mth0, e_kM1, e_kM0, e_kM2, e_frz, e_tv, e_ttr, e_tcmp, e_tchn, e_kB, e_kTr, e_trb, e_tri, e_tbop, e_t1, e_tA, e_tO, e_kATt, e_kATf, e_kOTt, e_kOTf, e_tnot, e_kNT, e_ono_t, e_oso_t, e_iseq, e_kIt, e_ir1, e_ir2, e_r1, e_r2, o_eqI, o_neI, o_ltI, o_leI, o_gtI, o_geI, o_addI, o_subI, o_mulI, o_fdivI, o_modI, o_powI, o_iaddI, e_kAt, o_ixL, o_ixT, o_ixR, e_kPl, o_setR, o_getR, o_lenL, o_lenT, o_lenR, o_slL, o_slS, o_slT, o_revL, o_revR, o_itL, o_itT, o_itS, o_itR, o_listL, o_listR, o_addL, o_mulL, o_app, o_tyL, o_isi, o_absI, o_maxI, o_minI, List.getElem?_cons_zero, List.getElem?_cons_succ, List.set_cons_zero, List.set_cons_succ, BO.w, cmpW, AO.w, BI.oa, isRef, Mth.ty, Mth.w, Tg.rd, TgL.rd, TgL.len, gNm, gTp, gCo, gNo, List.length_cons, List.length_nil, List.map_cons, List.map_nil, List.nil_append, List.cons_append, List.append_nil, true_and, and_true, Nat.reduceAdd, h0, c_take]
  refine ⟨⟨by decide, by decide⟩, fun way w0 w1 => ?_⟩
  by_cases e0 : way = 0
  · simp only [e_nil, e_cons, e_doc, e_pass, e_brk, e_cnt, e_ret, e_retN, e_expr, e_kDrop, e_if, e_kIf1, e_kIf0, e_whl, e_for, e_kFor, e_set, e_kSet, e_unp, e_kUnp, e_put, e_kPut, e_kPut2, e_kPut3, e_par, e_par3, e_kPar3, e_kPar, e_aug, e_kAug, e_kAug2, e_augS, e_kAS1, e_kAS2, e_kAS3, e_kAS4, e_kAS5, e_setLc, e_var, e_val, e_int, e_bl, e_non, e_str, e_glo, e_bin, e_cmp, e_kB1, e_kB2, e_chn, e_kC0, e_kC1, e_kC2t, e_kC2f, e_kC3, e_bop, e_b1, e_bA, e_bO, e_kAVt, e_kAVf, e_kOVt, e_kOVf, e_not, e_kNV, e_neg, e_kNg, e_ite, e_kIte1, e_kIte0, e_tup, e_kTup, e_lst, e_kLst, e_mk1, e_mk0, e_anil, e_acons, e_kCs, e_kCs2, e_call, e_blt, e_kOA, e_ix, e_slc, e_kSl1, e_kSl2, e_kSl3, e_ono, e_oso, e_kPt, e_rev, e_kRev, e_lc, e_kLc, e_lr1, e_lr2, e_kRg1, e_kRg2, e_ien, e_izp, e_kEnL, e_kEnR, e_kZpL, e_kZpT, e_mth, e_mth0, e_kM1, e_kM0, e_kM2, e_frz, e_tv, e_ttr, e_tcmp, e_tchn, e_kB, e_kTr, e_trb, e_tri, e_tbop, e_t1, e_tA, e_tO, e_kATt, e_kATf, e_kOTt, e_kOTf, e_tnot, e_kNT, e_ono_t, e_oso_t, e_iseq, e_kIt, e_ir1, e_ir2, e_r1, e_r2, o_eqI, o_neI, o_ltI, o_leI, o_gtI, o_geI, o_addI, o_subI, o_mulI, o_fdivI, o_modI, o_powI, o_iaddI, e_kAt, o_ixL, o_ixT, o_ixR, e_kPl, o_setR, o_getR, o_lenL, o_lenT, o_lenR, o_slL, o_slS, o_slT, o_revL, o_revR, o_itL, o_itT, o_itS, o_itR, o_listL, o_listR, o_addL, o_mulL, o_app, o_tyL, o_isi, o_absI, o_maxI, o_minI, List.getElem?_cons_zero, List.getElem?_cons_succ, List.set_cons_zero, List.set_cons_succ, BO.w, cmpW, AO.w, BI.oa, isRef, Mth.ty, Mth.w, Tg.rd, TgL.rd, TgL.len, gNm, gTp, gCo, gNo, List.length_cons, List.length_nil, List.map_cons, List.map_nil, List.nil_append, List.cons_append, List.append_nil, true_and, and_true, Nat.reduceAdd, h0, c_take, e0, decide_true]
    exact ⟨⟨by decide, by decide⟩, fun v a b => qs v a (Int.lt_trans b (by decide))⟩
  simp only [e_nil, e_cons, e_doc, e_pass, e_brk, e_cnt, e_ret, e_retN, e_expr, e_kDrop, e_if, e_kIf1, e_kIf0, e_whl, e_for, e_kFor, e_set, e_kSet, e_unp, e_kUnp, e_put, e_kPut, e_kPut2, e_kPut3, e_par, e_par3, e_kPar3, e_kPar, e_aug, e_kAug, e_kAug2, e_augS, e_kAS1, e_kAS2, e_kAS3, e_kAS4, e_kAS5, e_setLc, e_var, e_val, e_int, e_bl, e_non, e_str, e_glo, e_bin, e_cmp, e_kB1, e_kB2, e_chn, e_kC0, e_kC1, e_kC2t, e_kC2f, e_kC3, e_bop, e_b1, e_bA, e_bO, e_kAVt, e_kAVf, e_kOVt, e_kOVf, e_not, e_kNV, e_neg, e_kNg, e_ite, e_kIte1, e_kIte0, e_tup, e_kTup, e_lst, e_kLst, e_mk1, e_mk0, e_anil, e_acons, e_kCs, e_kCs2, e_call, e_blt, e_kOA, e_ix, e_slc, e_kSl1, e_kSl2, e_kSl3, e_ono, e_oso, e_kPt, e_rev, e_kRev, e_lc, e_kLc, e_lr1, e_lr2, e_kRg1, e_kRg2, e_ien, e_izp, e_kEnL, e_kEnR, e_kZpL, e_kZpT, e_mth, e_mth0, e_kM1, e_kM0, e_kM2, e_frz, e_tv, e_ttr, e_tcmp, e_tchn, e_kB, e_kTr, e_trb, e_tri, e_tbop, e_t1, e_tA, e_tO, e_kATt, e_kATf, e_kOTt, e_kOTf, e_tnot, e_kNT, e_ono_t, e_oso_t, e_iseq, e_kIt, e_ir1, e_ir2, e_r1, e_r2, o_eqI, o_neI, o_ltI, o_leI, o_gtI, o_geI, o_addI, o_subI, o_mulI, o_fdivI, o_modI, o_powI, o_iaddI, e_kAt, o_ixL, o_ixT, o_ixR, e_kPl, o_setR, o_getR, o_lenL, o_lenT, o_lenR, o_slL, o_slS, o_slT, o_revL, o_revR, o_itL, o_itT, o_itS, o_itR, o_listL, o_listR, o_addL, o_mulL, o_app, o_tyL, o_isi, o_absI, o_maxI, o_minI, List.getElem?_cons_zero, List.getElem?_cons_succ, List.set_cons_zero, List.set_cons_succ, BO.w, cmpW, AO.w, BI.oa, isRef, Mth.ty, Mth.w, Tg.rd, TgL.rd, TgL.len, gNm, gTp, gCo, gNo, List.length_cons, List.length_nil, List.map_cons, List.map_nil, List.nil_append, List.cons_append, List.append_nil, true_and, and_true, Nat.reduceAdd, h0, c_take, e0, decide_false]
  by_cases e1 : way = 1
  · simp only [e_nil, e_cons, e_doc, e_pass, e_brk, e_cnt, e_ret, e_retN, e_expr, e_kDrop, e_if, e_kIf1, e_kIf0, e_whl, e_for, e_kFor, e_set, e_kSet, e_unp, e_kUnp, e_put, e_kPut, e_kPut2, e_kPut3, e_par, e_par3, e_kPar3, e_kPar, e_aug, e_kAug, e_kAug2, e_augS, e_kAS1, e_kAS2, e_kAS3, e_kAS4, e_kAS5, e_setLc, e_var, e_val, e_int, e_bl, e_non, e_str, e_glo, e_bin, e_cmp, e_kB1, e_kB2, e_chn, e_kC0, e_kC1, e_kC2t, e_kC2f, e_kC3, e_bop, e_b1, e_bA, e_bO, e_kAVt, e_kAVf, e_kOVt, e_kOVf, e_not, e_kNV, e_neg, e_kNg, e_ite, e_kIte1, e_kIte0, e_tup, e_kTup, e_lst, e_kLst, e_mk1, e_mk0, e_anil, e_acons, e_kCs, e_kCs2, e_call, e_blt, e_kOA, e_ix, e_slc, e_kSl1, e_kSl2, e_kSl3, e_ono, e_oso, e_kPt, e_rev, e_kRev, e_lc, e_kLc, e_lr1, e_lr2, e_kRg1, e_kRg2, e_ien, e_izp, e_kEnL, e_kEnR, e_kZpL, e_kZpT, e_mth, e_mth0, e_kM1, e_kM0, e_kM2, e_frz, e_tv, e_ttr, e_tcmp, e_tchn, e_kB, e_kTr, e_trb, e_tri, e_tbop, e_t1, e_tA, e_tO, e_kATt, e_kATf, e_kOTt, e_kOTf, e_tnot, e_kNT, e_ono_t, e_oso_t, e_iseq, e_kIt, e_ir1, e_ir2, e_r1, e_r2, o_eqI, o_neI, o_ltI, o_leI, o_gtI, o_geI, o_addI, o_subI, o_mulI, o_fdivI, o_modI, o_powI, o_iaddI, e_kAt, o_ixL, o_ixT, o_ixR, e_kPl, o_setR, o_getR, o_lenL, o_lenT, o_lenR, o_slL, o_slS, o_slT, o_revL, o_revR, o_itL, o_itT, o_itS, o_itR, o_listL, o_listR, o_addL, o_mulL, o_app, o_tyL, o_isi, o_absI, o_maxI, o_minI, List.getElem?_cons_zero, List.getElem?_cons_succ, List.set_cons_zero, List.set_cons_succ, BO.w, cmpW, AO.w, BI.oa, isRef, Mth.ty, Mth.w, Tg.rd, TgL.rd, TgL.len, gNm, gTp, gCo, gNo, List.length_cons, List.length_nil, List.map_cons, List.map_nil, List.nil_append, List.cons_append, List.append_nil, true_and, and_true, Nat.reduceAdd, h0, c_take, e1, decide_true]
    have c40 : CPow 10 40 := ⟨by decide, by decide, by decide⟩
    have i40 : IntMulOk ((10 : Int) ^ (40 : Int).toNat) ((10 : Int) ^ (40 : Int).toNat) := CMulW.ok (by unfold CMulW; decide)
    refine ⟨c40, c40, c40, i40, ⟨by rw [sizeLine_eq]; decide, rfl⟩, ⟨by decide, by decide⟩, fun k k0 k1 => ?_⟩
    have hk : k = 0 ∨ k = 1 := by omega
    rcases hk with rfl | rfl
    · try simp only [e_nil, e_cons, e_doc, e_pass, e_brk, e_cnt, e_ret, e_retN, e_expr, e_kDrop, e_if, e_kIf1, e_kIf0, e_whl, e_for, e_kFor, e_set, e_kSet, e_unp, e_kUnp, e_put, e_kPut, e_kPut2, e_kPut3, e_par, e_par3, e_kPar3, e_kPar, e_aug, e_kAug, e_kAug2, e_augS, e_kAS1, e_kAS2, e_kAS3, e_kAS4, e_kAS5, e_setLc, e_var, e_val, e_int, e_bl, e_non, e_str, e_glo, e_bin, e_cmp, e_kB1, e_kB2, e_chn, e_kC0, e_kC1, e_kC2t, e_kC2f, e_kC3, e_bop, e_b1, e_bA, e_bO, e_kAVt, e_kAVf, e_kOVt, e_kOVf, e_not, e_kNV, e_neg, e_kNg, e_ite, e_kIte1, e_kIte0, e_tup, e_kTup, e_lst, e_kLst, e_mk1, e_mk0, e_anil, e_acons, e_kCs, e_kCs2, e_call, e_blt, e_kOA, e_ix, e_slc, e_kSl1, e_kSl2, e_kSl3, e_ono, e_oso, e_kPt, e_rev, e_kRev, e_lc, e_kLc, e_lr1, e_lr2, e_kRg1, e_kRg2, e_ien, e_izp, e_kEnL, e_kEnR, e_kZpL, e_kZpT, e_mth, e_mth0, e_kM1, e_kM0, e_kM2, e_frz, e_tv, e_ttr, e_tcmp, e_tchn, e_kB, e_kTr, e_trb, e_tri, e_tbop, e_t1, e_tA, e_tO, e_kATt, e_kATf, e_kOTt, e_kOTf, e_tnot, e_kNT, e_ono_t, e_oso_t, e_iseq, e_kIt, e_ir1, e_ir2, e_r1, e_r2, o_eqI, o_neI, o_ltI, o_leI, o_gtI, o_geI, o_addI, o_subI, o_mulI, o_fdivI, o_modI, o_powI, o_iaddI, e_kAt, o_ixL, o_ixT, o_ixR, e_kPl, o_setR, o_getR, o_lenL, o_lenT, o_lenR, o_slL, o_slS, o_slT, o_revL, o_revR, o_itL, o_itT, o_itS, o_itR, o_listL, o_listR, o_addL, o_mulL, o_app, o_tyL, o_isi, o_absI, o_maxI, o_minI, List.getElem?_cons_zero, List.getElem?_cons_succ, List.set_cons_zero, List.set_cons_succ, BO.w, cmpW, AO.w, BI.oa, isRef, Mth.ty, Mth.w, Tg.rd, TgL.rd, TgL.len, gNm, gTp, gCo, gNo, List.length_cons, List.length_nil, List.map_cons, List.map_nil, List.nil_append, List.cons_append, List.append_nil, true_and, and_true, Nat.reduceAdd, h0, c_take, at20, at21]
      exact ⟨⟨by decide, by decide⟩, fun v a b => qs v a (Int.lt_trans b (by decide))⟩
    · try simp only [e_nil, e_cons, e_doc, e_pass, e_brk, e_cnt, e_ret, e_retN, e_expr, e_kDrop, e_if, e_kIf1, e_kIf0, e_whl, e_for, e_kFor, e_set, e_kSet, e_unp, e_kUnp, e_put, e_kPut, e_kPut2, e_kPut3, e_par, e_par3, e_kPar3, e_kPar, e_aug, e_kAug, e_kAug2, e_augS, e_kAS1, e_kAS2, e_kAS3, e_kAS4, e_kAS5, e_setLc, e_var, e_val, e_int, e_bl, e_non, e_str, e_glo, e_bin, e_cmp, e_kB1, e_kB2, e_chn, e_kC0, e_kC1, e_kC2t, e_kC2f, e_kC3, e_bop, e_b1, e_bA, e_bO, e_kAVt, e_kAVf, e_kOVt, e_kOVf, e_not, e_kNV, e_neg, e_kNg, e_ite, e_kIte1, e_kIte0, e_tup, e_kTup, e_lst, e_kLst, e_mk1, e_mk0, e_anil, e_acons, e_kCs, e_kCs2, e_call, e_blt, e_kOA, e_ix, e_slc, e_kSl1, e_kSl2, e_kSl3, e_ono, e_oso, e_kPt, e_rev, e_kRev, e_lc, e_kLc, e_lr1, e_lr2, e_kRg1, e_kRg2, e_ien, e_izp, e_kEnL, e_kEnR, e_kZpL, e_kZpT, e_mth, e_mth0, e_kM1, e_kM0, e_kM2, e_frz, e_tv, e_ttr, e_tcmp, e_tchn, e_kB, e_kTr, e_trb, e_tri, e_tbop, e_t1, e_tA, e_tO, e_kATt, e_kATf, e_kOTt, e_kOTf, e_tnot, e_kNT, e_ono_t, e_oso_t, e_iseq, e_kIt, e_ir1, e_ir2, e_r1, e_r2, o_eqI, o_neI, o_ltI, o_leI, o_gtI, o_geI, o_addI, o_subI, o_mulI, o_fdivI, o_modI, o_powI, o_iaddI, e_kAt, o_ixL, o_ixT, o_ixR, e_kPl, o_setR, o_getR, o_lenL, o_lenT, o_lenR, o_slL, o_slS, o_slT, o_revL, o_revR, o_itL, o_itT, o_itS, o_itR, o_listL, o_listR, o_addL, o_mulL, o_app, o_tyL, o_isi, o_absI, o_maxI, o_minI, List.getElem?_cons_zero, List.getElem?_cons_succ, List.set_cons_zero, List.set_cons_succ, BO.w, cmpW, AO.w, BI.oa, isRef, Mth.ty, Mth.w, Tg.rd, TgL.rd, TgL.len, gNm, gTp, gCo, gNo, List.length_cons, List.length_nil, List.map_cons, List.map_nil, List.nil_append, List.cons_append, List.append_nil, true_and, and_true, Nat.reduceAdd, h0, c_take, at20, at21]
      exact ⟨⟨by decide, by decide⟩, fun v a b => qs v a (Int.lt_trans b (by decide))⟩
  simp only [e_nil, e_cons, e_doc, e_pass, e_brk, e_cnt, e_ret, e_retN, e_expr, e_kDrop, e_if, e_kIf1, e_kIf0, e_whl, e_for, e_kFor, e_set, e_kSet, e_unp, e_kUnp, e_put, e_kPut, e_kPut2, e_kPut3, e_par, e_par3, e_kPar3, e_kPar, e_aug, e_kAug, e_kAug2, e_augS, e_kAS1, e_kAS2, e_kAS3, e_kAS4, e_kAS5, e_setLc, e_var, e_val, e_int, e_bl, e_non, e_str, e_glo, e_bin, e_cmp, e_kB1, e_kB2, e_chn, e_kC0, e_kC1, e_kC2t, e_kC2f, e_kC3, e_bop, e_b1, e_bA, e_bO, e_kAVt, e_kAVf, e_kOVt, e_kOVf, e_not, e_kNV, e_neg, e_kNg, e_ite, e_kIte1, e_kIte0, e_tup, e_kTup, e_lst, e_kLst, e_mk1, e_mk0, e_anil, e_acons, e_kCs, e_kCs2, e_call, e_blt, e_kOA, e_ix, e_slc, e_kSl1, e_kSl2, e_kSl3, e_ono, e_oso, e_kPt, e_rev, e_kRev, e_lc, e_kLc, e_lr1, e_lr2, e_kRg1, e_kRg2, e_ien, e_izp, e_kEnL, e_kEnR, e_kZpL, e_kZpT, e_mth, e_mth0, e_kM1, e_kM0, e_kM2, e_frz, e_tv, e_ttr, e_tcmp, e_tchn, e_kB, e_kTr, e_trb, e_tri, e_tbop, e_t1, e_tA, e_tO, e_kATt, e_kATf, e_kOTt, e_kOTf, e_tnot, e_kNT, e_ono_t, e_oso_t, e_iseq, e_kIt, e_ir1, e_ir2, e_r1, e_r2, o_eqI, o_neI, o_ltI, o_leI, o_gtI, o_geI, o_addI, o_subI, o_mulI, o_fdivI, o_modI, o_powI, o_iaddI, e_kAt, o_ixL, o_ixT, o_ixR, e_kPl, o_setR, o_getR, o_lenL, o_lenT, o_lenR, o_slL, o_slS, o_slT, o_revL, o_revR, o_itL, o_itT, o_itS, o_itR, o_listL, o_listR, o_addL, o_mulL, o_app, o_tyL, o_isi, o_absI, o_maxI, o_minI, List.getElem?_cons_zero, List.getElem?_cons_succ, List.set_cons_zero, List.set_cons_succ, BO.w, cmpW, AO.w, BI.oa, isRef, Mth.ty, Mth.w, Tg.rd, TgL.rd, TgL.len, gNm, gTp, gCo, gNo, List.length_cons, List.length_nil, List.map_cons, List.map_nil, List.nil_append, List.cons_append, List.append_nil, true_and, and_true, Nat.reduceAdd, h0, c_take, e1, decide_false]
  refine ⟨⟨by decide, by decide⟩, fun t t0 t1 => ?_⟩
  try simp only [e_nil, e_cons, e_doc, e_pass, e_brk, e_cnt, e_ret, e_retN, e_expr, e_kDrop, e_if, e_kIf1, e_kIf0, e_whl, e_for, e_kFor, e_set, e_kSet, e_unp, e_kUnp, e_put, e_kPut, e_kPut2, e_kPut3, e_par, e_par3, e_kPar3, e_kPar, e_aug, e_kAug, e_kAug2, e_augS, e_kAS1, e_kAS2, e_kAS3, e_kAS4, e_kAS5, e_setLc, e_var, e_val, e_int, e_bl, e_non, e_str, e_glo, e_bin, e_cmp, e_kB1, e_kB2, e_chn, e_kC0, e_kC1, e_kC2t, e_kC2f, e_kC3, e_bop, e_b1, e_bA, e_bO, e_kAVt, e_kAVf, e_kOVt, e_kOVf, e_not, e_kNV, e_neg, e_kNg, e_ite, e_kIte1, e_kIte0, e_tup, e_kTup, e_lst, e_kLst, e_mk1, e_mk0, e_anil, e_acons, e_kCs, e_kCs2, e_call, e_blt, e_kOA, e_ix, e_slc, e_kSl1, e_kSl2, e_kSl3, e_ono, e_oso, e_kPt, e_rev, e_kRev, e_lc, e_kLc, e_lr1, e_lr2, e_kRg1, e_kRg2, e_ien, e_izp, e_kEnL, e_kEnR, e_kZpL, e_kZpT, e_mth, e_mth0, e_kM1, e_kM0, e_kM2, e_frz, e_tv, e_ttr, e_tcmp, e_tchn, e_kB, e_kTr, e_trb, e_tri, e_tbop, e_t1, e_tA, e_tO, e_kATt, e_kATf, e_kOTt, e_kOTf, e_tnot, e_kNT, e_ono_t, e_oso_t, e_iseq, e_kIt, e_ir1, e_ir2, e_r1, e_r2, o_eqI, o_neI, o_ltI, o_leI, o_gtI, o_geI, o_addI, o_subI, o_mulI, o_fdivI, o_modI, o_powI, o_iaddI, e_kAt, o_ixL, o_ixT, o_ixR, e_kPl, o_setR, o_getR, o_lenL, o_lenT, o_lenR, o_slL, o_slS, o_slT, o_revL, o_revR, o_itL, o_itT, o_itS, o_itR, o_listL, o_listR, o_addL, o_mulL, o_app, o_tyL, o_isi, o_absI, o_maxI, o_minI, List.getElem?_cons_zero, List.getElem?_cons_succ, List.set_cons_zero, List.set_cons_succ, BO.w, cmpW, AO.w, BI.oa, isRef, Mth.ty, Mth.w, Tg.rd, TgL.rd, TgL.len, gNm, gTp, gCo, gNo, List.length_cons, List.length_nil, List.map_cons, List.map_nil, List.nil_append, List.cons_append, List.append_nil, true_and, and_true, Nat.reduceAdd]
  refine ⟨⟨by omega, by omega⟩, ?_⟩
  have fin : ∀ (size : Int) (c : Option D), 1 ≤ size → size ≤ 4 ^ 64 → SsL.rd en (.cons (.ret (.blt 2 true (.cons (.int 0) (.cons (.bin .sub (.bin (.add false) (.bin (.mul false) (.var 3) (.bin (.add false) (.int 1) (.call 0 (.cons (.var 0) (.cons (.int 3) .nil))))) (.call 0 (.cons (.var 0) (.cons (.int 3) .nil)))) (.int 1)) .nil)))) .nil)
      (raiD 1 E) { nx := fun _ M' => retD 1 Q .non M', rt := retD 1 Q } [some (.ref 0), some (.int p), some (.int way), some (.int size), c] [.bag] := by
    intro size c s1 s2
    simp only [e_nil, e_cons, e_doc, e_pass, e_brk, e_cnt, e_ret, e_retN, e_expr, e_kDrop, e_if, e_kIf1, e_kIf0, e_whl, e_for, e_kFor, e_set, e_kSet, e_unp, e_kUnp, e_put, e_kPut, e_kPut2, e_kPut3, e_par, e_par3, e_kPar3, e_kPar, e_aug, e_kAug, e_kAug2, e_augS, e_kAS1, e_kAS2, e_kAS3, e_kAS4, e_kAS5, e_setLc, e_var, e_val, e_int, e_bl, e_non, e_str, e_glo, e_bin, e_cmp, e_kB1, e_kB2, e_chn, e_kC0, e_kC1, e_kC2t, e_kC2f, e_kC3, e_bop, e_b1, e_bA, e_bO, e_kAVt, e_kAVf, e_kOVt, e_kOVf, e_not, e_kNV, e_neg, e_kNg, e_ite, e_kIte1, e_kIte0, e_tup, e_kTup, e_lst, e_kLst, e_mk1, e_mk0, e_anil, e_acons, e_kCs, e_kCs2, e_call, e_blt, e_kOA, e_ix, e_slc, e_kSl1, e_kSl2, e_kSl3, e_ono, e_oso, e_kPt, e_rev, e_kRev, e_lc, e_kLc, e_lr1, e_lr2, e_kRg1, e_kRg2, e_ien, e_izp, e_kEnL, e_kEnR, e_kZpL, e_kZpT, e_mth, e_mth0, e_kM1, e_kM0, e_kM2, e_frz, e_tv, e_ttr, e_tcmp, e_tchn, e_kB, e_kTr, e_trb, e_tri, e_tbop, e_t1, e_tA, e_tO, e_kATt, e_kATf, e_kOTt, e_kOTf, e_tnot, e_kNT, e_ono_t, e_oso_t, e_iseq, e_kIt, e_ir1, e_ir2, e_r1, e_r2, o_eqI, o_neI, o_ltI, o_leI, o_gtI, o_geI, o_addI, o_subI, o_mulI, o_fdivI, o_modI, o_powI, o_iaddI, e_kAt, o_ixL, o_ixT, o_ixR, e_kPl, o_setR, o_getR, o_lenL, o_lenT, o_lenR, o_slL, o_slS, o_slT, o_revL, o_revR, o_itL, o_itT, o_itS, o_itR, o_listL, o_listR, o_addL, o_mulL, o_app, o_tyL, o_isi, o_absI, o_maxI, o_minI, List.getElem?_cons_zero, List.getElem?_cons_succ, List.set_cons_zero, List.set_cons_succ, BO.w, cmpW, AO.w, BI.oa, isRef, Mth.ty, Mth.w, Tg.rd, TgL.rd, TgL.len, gNm, gTp, gCo, gNo, List.length_cons, List.length_nil, List.map_cons, List.map_nil, List.nil_append, List.cons_append, List.append_nil, true_and, and_true, Nat.reduceAdd, h0, h2, c_take]
    refine ⟨⟨by decide, by decide⟩, fun a a0 a1 => ⟨mul_smallR (by omega), ⟨by decide, by decide⟩, fun b b0 b1 => ?_⟩⟩
    have m1 : 0 ≤ size * (1 + a) := Int.mul_nonneg (by omega) (by omega)
    have m2 : size * (1 + a) ≤ 4 ^ 64 * 3 := Int.mul_le_mul s2 (by omega) (by omega) (by decide)
    have m3 : (4 : Int) ^ 64 * 3 + 3 < 2 ^ 300 := by decide
    by_cases hb : size * (1 + a) + b - 1 > 0
    · rw [if_pos hb]
      exact qs _ (by omega) (by omega)
    · rw [if_neg hb]
      exact qs _ (by omega) (by decide)
  have go : ∀ (rem : List D) (size : Int) (c : Option D) (Z : EndsD), Z.nx = SsL.rd en (.cons (.ret (.blt 2 true (.cons (.int 0) (.cons (.bin .sub (.bin (.add false) (.bin (.mul false) (.var 3) (.bin (.add false) (.int 1) (.call 0 (.cons (.var 0) (.cons (.int 3) .nil))))) (.call 0 (.cons (.var 0) (.cons (.int 3) .nil)))) (.int 1)) .nil)))) .nil)
      (raiD 1 E) { nx := fun _ M' => retD 1 Q .non M', rt := retD 1 Q } → 1 ≤ size → size * 4 ^ rem.length ≤ 4 ^ 64 →
      loopD (gNm 4) (SsL.rd en (.cons (.set 3 (.bin (.mul false) (.var 3) (.var 1))) .nil)) (fun _ => True) (raiD 1 E) Z rem [some (.ref 0), some (.int p), some (.int way), some (.int size), c] [.bag] := by
    intro rem
    induction rem with
    | nil =>
      intro size c Z hZ s1 s2
      refine ⟨trivial, ?_⟩
      rw [hZ]
      exact fin size c s1 (by simpa using s2)
    | cons d r ih =>
      intro size c Z hZ s1 s2
      refine ⟨trivial, ?_⟩
      simp only [e_nil, e_cons, e_doc, e_pass, e_brk, e_cnt, e_ret, e_retN, e_expr, e_kDrop, e_if, e_kIf1, e_kIf0, e_whl, e_for, e_kFor, e_set, e_kSet, e_unp, e_kUnp, e_put, e_kPut, e_kPut2, e_kPut3, e_par, e_par3, e_kPar3, e_kPar, e_aug, e_kAug, e_kAug2, e_augS, e_kAS1, e_kAS2, e_kAS3, e_kAS4, e_kAS5, e_setLc, e_var, e_val, e_int, e_bl, e_non, e_str, e_glo, e_bin, e_cmp, e_kB1, e_kB2, e_chn, e_kC0, e_kC1, e_kC2t, e_kC2f, e_kC3, e_bop, e_b1, e_bA, e_bO, e_kAVt, e_kAVf, e_kOVt, e_kOVf, e_not, e_kNV, e_neg, e_kNg, e_ite, e_kIte1, e_kIte0, e_tup, e_kTup, e_lst, e_kLst, e_mk1, e_mk0, e_anil, e_acons, e_kCs, e_kCs2, e_call, e_blt, e_kOA, e_ix, e_slc, e_kSl1, e_kSl2, e_kSl3, e_ono, e_oso, e_kPt, e_rev, e_kRev, e_lc, e_kLc, e_lr1, e_lr2, e_kRg1, e_kRg2, e_ien, e_izp, e_kEnL, e_kEnR, e_kZpL, e_kZpT, e_mth, e_mth0, e_kM1, e_kM0, e_kM2, e_frz, e_tv, e_ttr, e_tcmp, e_tchn, e_kB, e_kTr, e_trb, e_tri, e_tbop, e_t1, e_tA, e_tO, e_kATt, e_kATf, e_kOTt, e_kOTf, e_tnot, e_kNT, e_ono_t, e_oso_t, e_iseq, e_kIt, e_ir1, e_ir2, e_r1, e_r2, o_eqI, o_neI, o_ltI, o_leI, o_gtI, o_geI, o_addI, o_subI, o_mulI, o_fdivI, o_modI, o_powI, o_iaddI, e_kAt, o_ixL, o_ixT, o_ixR, e_kPl, o_setR, o_getR, o_lenL, o_lenT, o_lenR, o_slL, o_slS, o_slT, o_revL, o_revR, o_itL, o_itT, o_itS, o_itR, o_listL, o_listR, o_addL, o_mulL, o_app, o_tyL, o_isi, o_absI, o_maxI, o_minI, List.getElem?_cons_zero, List.getElem?_cons_succ, List.set_cons_zero, List.set_cons_succ, BO.w, cmpW, AO.w, BI.oa, isRef, Mth.ty, Mth.w, Tg.rd, TgL.rd, TgL.len, gNm, gTp, gCo, gNo, List.length_cons, List.length_nil, List.map_cons, List.map_nil, List.nil_append, List.cons_append, List.append_nil, true_and, and_true, Nat.reduceAdd]
      refine ⟨mul_smallR (by omega), ?_⟩
      have e1 : 1 * 1 ≤ size * p := Int.mul_le_mul s1 (by omega) (by decide) (by omega)
      have e2 : size * p ≤ size * 4 := Int.mul_le_mul_of_nonneg_left p4 (by omega)
      have e3 : size * p * 4 ^ r.length ≤ size * 4 * 4 ^ r.length := Int.mul_le_mul_of_nonneg_right e2 (Int.pow_nonneg (by decide))
      rw [List.length_cons, Int.pow_succ, Int.mul_comm (4 ^ r.length) 4, ← Int.mul_assoc] at s2
      exact ih (size * p) _ Z hZ (by omega) (by omega)
  refine go _ 1 none _ rfl (by decide) ?_
  have ht : (ranD 0 t.toNat).length ≤ 64 := by rw [ranD_length]; omega
  have : (4 : Nat) ^ (ranD 0 t.toNat).length ≤ 4 ^ 64 := Nat.pow_le_pow_right (by decide) ht
  have h2 : ((4 ^ (ranD 0 t.toNat).length : Nat) : Int) ≤ ((4 ^ 64 : Nat) : Int) := by omega
  rw [Int.natCast_pow, Int.natCast_pow] at h2
  rw [Int.one_mul]
  exact h2
def b_law_summed : SsL :=
  (.cons (.unp (.tup (.cons (.nm 2) (.cons (.nm 3) .nil))) (.tup (.cons (.int 0) (.cons (.int 1) .nil))))
  (.cons (.for_ (.nm 4) (.seq (.rev false (.var 0))) (.cons (.set 2 (.bin (.add false) (.var 2) (.bin (.mul false) (.var 4) (.var 3))))
  (.cons (.set 3 (.bin (.mul false) (.var 3) (.var 1)))
  .nil)))
  (.cons (.ret (.var 2))
  .nil)))
def spSummed : DSp := spI fun ds v => ∃ (fs : List Int) (p : Int), ds = [.lst (fs.map D.int), .int p] ∧ (2 ≤ p ∧ p ≤ 4) ∧ digs p fs ∧ v = numOf fs p
theorem read_law_summed (en : Nat → Option Ent) (ds : List D) (M : MC) (Q : QD) (E : Exc → MC → Prop) (h : spSummed ds M Q E) :
    (b_law_summed.rd en) (raiD M.length E) { nx := fun _ M' => retD M.length Q .non M', rt := retD M.length Q } (startD ["figures", "pace", "total", "size", "figure"] ds) M := by
  obtain ⟨rfl, v, ⟨fs, p, rfl, ⟨p2, p4⟩, hd, rfl⟩, q⟩ := h
  show (SsL.rd en b_law_summed) (raiD 0 E) { nx := fun _ M' => retD 0 Q .non M', rt := retD 0 Q } [some (.lst (fs.map D.int)), some (.int p), none, none, none] []
  unfold b_law_summed
  simp only [e_nil, e_cons, e_doc, e_pass, e_brk, e_cnt, e_ret, e_retN, e_expr, e_kDrop, e_if, e_kIf1, e_kIf0, e_whl, e_for, e_kFor, e_set, e_kSet, e_unp, e_kUnp, e_put, e_kPut, e_kPut2, e_kPut3, e_par, e_par3, e_kPar3, e_kPar, e_aug, e_kAug, e_kAug2, e_augS, e_kAS1, e_kAS2, e_kAS3, e_kAS4, e_kAS5, e_setLc, e_var, e_val, e_int, e_bl, e_non, e_str, e_glo, e_bin, e_cmp, e_kB1, e_kB2, e_chn, e_kC0, e_kC1, e_kC2t, e_kC2f, e_kC3, e_bop, e_b1, e_bA, e_bO, e_kAVt, e_kAVf, e_kOVt, e_kOVf, e_not, e_kNV, e_neg, e_kNg, e_ite, e_kIte1, e_kIte0, e_tup, e_kTup, e_lst, e_kLst, e_mk1, e_mk0, e_anil, e_acons, e_kCs, e_kCs2, e_call, e_blt, e_kOA, e_ix, e_slc, e_kSl1, e_kSl2, e_kSl3, e_ono, e_oso, e_kPt, e_rev, e_kRev, e_lc, e_kLc, e_lr1, e_lr2, e_kRg1, e_kRg2, e_ien, e_izp, e_kEnL, e_kEnR, e_kZpL, e_kZpT, e_mth, e_mth0, e_kM1, e_kM0, e_kM2, e_frz, e_tv, e_ttr, e_tcmp, e_tchn, e_kB, e_kTr, e_trb, e_tri, e_tbop, e_t1, e_tA, e_tO, e_kATt, e_kATf, e_kOTt, e_kOTf, e_tnot, e_kNT, e_ono_t, e_oso_t, e_iseq, e_kIt, e_ir1, e_ir2, e_r1, e_r2, o_eqI, o_neI, o_ltI, o_leI, o_gtI, o_geI, o_addI, o_subI, o_mulI, o_fdivI, o_modI, o_powI, o_iaddI, e_kAt, o_ixL, o_ixT, o_ixR, e_kPl, o_setR, o_getR, o_lenL, o_lenT, o_lenR, o_slL, o_slS, o_slT, o_revL, o_revR, o_itL, o_itT, o_itS, o_itR, o_listL, o_listR, o_addL, o_mulL, o_app, o_tyL, o_isi, o_absI, o_maxI, o_minI, List.getElem?_cons_zero, List.getElem?_cons_succ, List.set_cons_zero, List.set_cons_succ, BO.w, cmpW, AO.w, BI.oa, isRef, Mth.ty, Mth.w, Tg.rd, TgL.rd, TgL.len, gNm, gTp, gCo, gNo, List.length_cons, List.length_nil, List.map_cons, List.map_nil, List.nil_append, List.cons_append, List.append_nil, true_and, and_true, Nat.reduceAdd]
  refine ⟨⟨by rw [sizeLine_eq]; decide, rfl⟩, ?_⟩
  try simp only [e_nil, e_cons, e_doc, e_pass, e_brk, e_cnt, e_ret, e_retN, e_expr, e_kDrop, e_if, e_kIf1, e_kIf0, e_whl, e_for, e_kFor, e_set, e_kSet, e_unp, e_kUnp, e_put, e_kPut, e_kPut2, e_kPut3, e_par, e_par3, e_kPar3, e_kPar, e_aug, e_kAug, e_kAug2, e_augS, e_kAS1, e_kAS2, e_kAS3, e_kAS4, e_kAS5, e_setLc, e_var, e_val, e_int, e_bl, e_non, e_str, e_glo, e_bin, e_cmp, e_kB1, e_kB2, e_chn, e_kC0, e_kC1, e_kC2t, e_kC2f, e_kC3, e_bop, e_b1, e_bA, e_bO, e_kAVt, e_kAVf, e_kOVt, e_kOVf, e_not, e_kNV, e_neg, e_kNg, e_ite, e_kIte1, e_kIte0, e_tup, e_kTup, e_lst, e_kLst, e_mk1, e_mk0, e_anil, e_acons, e_kCs, e_kCs2, e_call, e_blt, e_kOA, e_ix, e_slc, e_kSl1, e_kSl2, e_kSl3, e_ono, e_oso, e_kPt, e_rev, e_kRev, e_lc, e_kLc, e_lr1, e_lr2, e_kRg1, e_kRg2, e_ien, e_izp, e_kEnL, e_kEnR, e_kZpL, e_kZpT, e_mth, e_mth0, e_kM1, e_kM0, e_kM2, e_frz, e_tv, e_ttr, e_tcmp, e_tchn, e_kB, e_kTr, e_trb, e_tri, e_tbop, e_t1, e_tA, e_tO, e_kATt, e_kATf, e_kOTt, e_kOTf, e_tnot, e_kNT, e_ono_t, e_oso_t, e_iseq, e_kIt, e_ir1, e_ir2, e_r1, e_r2, o_eqI, o_neI, o_ltI, o_leI, o_gtI, o_geI, o_addI, o_subI, o_mulI, o_fdivI, o_modI, o_powI, o_iaddI, e_kAt, o_ixL, o_ixT, o_ixR, e_kPl, o_setR, o_getR, o_lenL, o_lenT, o_lenR, o_slL, o_slS, o_slT, o_revL, o_revR, o_itL, o_itT, o_itS, o_itR, o_listL, o_listR, o_addL, o_mulL, o_app, o_tyL, o_isi, o_absI, o_maxI, o_minI, List.getElem?_cons_zero, List.getElem?_cons_succ, List.set_cons_zero, List.set_cons_succ, BO.w, cmpW, AO.w, BI.oa, isRef, Mth.ty, Mth.w, Tg.rd, TgL.rd, TgL.len, gNm, gTp, gCo, gNo, List.length_cons, List.length_nil, List.map_cons, List.map_nil, List.nil_append, List.cons_append, List.append_nil, true_and, and_true, Nat.reduceAdd]
  have go : ∀ (rem : List Int) (a size : Int) (c : Option D) (Z : EndsD), digs p rem → Z.nx = SsL.rd en (.cons (.ret (.var 2)) .nil) (raiD 0 E) { nx := fun _ M' => retD 0 Q .non M', rt := retD 0 Q } → a + size * numR p rem = numOf fs p →
      loopD (gNm 4) (SsL.rd en (.cons (.set 2 (.bin (.add false) (.var 2) (.bin (.mul false) (.var 4) (.var 3)))) (.cons (.set 3 (.bin (.mul false) (.var 3) (.var 1))) .nil))) (fun _ => True) (raiD 0 E) Z (rem.map D.int) [some (.lst (fs.map D.int)), some (.int p), some (.int a), some (.int size), c] [] := by
    intro rem
    induction rem with
    | nil =>
      intro a size c Z _ hZ e
      refine ⟨trivial, ?_⟩
      rw [hZ]
      simp only [e_nil, e_cons, e_doc, e_pass, e_brk, e_cnt, e_ret, e_retN, e_expr, e_kDrop, e_if, e_kIf1, e_kIf0, e_whl, e_for, e_kFor, e_set, e_kSet, e_unp, e_kUnp, e_put, e_kPut, e_kPut2, e_kPut3, e_par, e_par3, e_kPar3, e_kPar, e_aug, e_kAug, e_kAug2, e_augS, e_kAS1, e_kAS2, e_kAS3, e_kAS4, e_kAS5, e_setLc, e_var, e_val, e_int, e_bl, e_non, e_str, e_glo, e_bin, e_cmp, e_kB1, e_kB2, e_chn, e_kC0, e_kC1, e_kC2t, e_kC2f, e_kC3, e_bop, e_b1, e_bA, e_bO, e_kAVt, e_kAVf, e_kOVt, e_kOVf, e_not, e_kNV, e_neg, e_kNg, e_ite, e_kIte1, e_kIte0, e_tup, e_kTup, e_lst, e_kLst, e_mk1, e_mk0, e_anil, e_acons, e_kCs, e_kCs2, e_call, e_blt, e_kOA, e_ix, e_slc, e_kSl1, e_kSl2, e_kSl3, e_ono, e_oso, e_kPt, e_rev, e_kRev, e_lc, e_kLc, e_lr1, e_lr2, e_kRg1, e_kRg2, e_ien, e_izp, e_kEnL, e_kEnR, e_kZpL, e_kZpT, e_mth, e_mth0, e_kM1, e_kM0, e_kM2, e_frz, e_tv, e_ttr, e_tcmp, e_tchn, e_kB, e_kTr, e_trb, e_tri, e_tbop, e_t1, e_tA, e_tO, e_kATt, e_kATf, e_kOTt, e_kOTf, e_tnot, e_kNT, e_ono_t, e_oso_t, e_iseq, e_kIt, e_ir1, e_ir2, e_r1, e_r2, o_eqI, o_neI, o_ltI, o_leI, o_gtI, o_geI, o_addI, o_subI, o_mulI, o_fdivI, o_modI, o_powI, o_iaddI, e_kAt, o_ixL, o_ixT, o_ixR, e_kPl, o_setR, o_getR, o_lenL, o_lenT, o_lenR, o_slL, o_slS, o_slT, o_revL, o_revR, o_itL, o_itT, o_itS, o_itR, o_listL, o_listR, o_addL, o_mulL, o_app, o_tyL, o_isi, o_absI, o_maxI, o_minI, List.getElem?_cons_zero, List.getElem?_cons_succ, List.set_cons_zero, List.set_cons_succ, BO.w, cmpW, AO.w, BI.oa, isRef, Mth.ty, Mth.w, Tg.rd, TgL.rd, TgL.len, gNm, gTp, gCo, gNo, List.length_cons, List.length_nil, List.map_cons, List.map_nil, List.nil_append, List.cons_append, List.append_nil, true_and, and_true, Nat.reduceAdd]
      have e : a + size * 0 = numOf fs p := e
      have e : a = numOf fs p := by omega
      subst e
      exact ⟨⟨Nat.zero_le _, rfl⟩, q⟩
    | cons f r ih =>
      intro a size c Z hr hZ e
      have hf := hr f List.mem_cons_self
      rw [List.map_cons]
      refine ⟨trivial, ?_⟩
      simp only [e_nil, e_cons, e_doc, e_pass, e_brk, e_cnt, e_ret, e_retN, e_expr, e_kDrop, e_if, e_kIf1, e_kIf0, e_whl, e_for, e_kFor, e_set, e_kSet, e_unp, e_kUnp, e_put, e_kPut, e_kPut2, e_kPut3, e_par, e_par3, e_kPar3, e_kPar, e_aug, e_kAug, e_kAug2, e_augS, e_kAS1, e_kAS2, e_kAS3, e_kAS4, e_kAS5, e_setLc, e_var, e_val, e_int, e_bl, e_non, e_str, e_glo, e_bin, e_cmp, e_kB1, e_kB2, e_chn, e_kC0, e_kC1, e_kC2t, e_kC2f, e_kC3, e_bop, e_b1, e_bA, e_bO, e_kAVt, e_kAVf, e_kOVt, e_kOVf, e_not, e_kNV, e_neg, e_kNg, e_ite, e_kIte1, e_kIte0, e_tup, e_kTup, e_lst, e_kLst, e_mk1, e_mk0, e_anil, e_acons, e_kCs, e_kCs2, e_call, e_blt, e_kOA, e_ix, e_slc, e_kSl1, e_kSl2, e_kSl3, e_ono, e_oso, e_kPt, e_rev, e_kRev, e_lc, e_kLc, e_lr1, e_lr2, e_kRg1, e_kRg2, e_ien, e_izp, e_kEnL, e_kEnR, e_kZpL, e_kZpT, e_mth, e_mth0, e_kM1, e_kM0, e_kM2, e_frz, e_tv, e_ttr, e_tcmp, e_tchn, e_kB, e_kTr, e_trb, e_tri, e_tbop, e_t1, e_tA, e_tO, e_kATt, e_kATf, e_kOTt, e_kOTf, e_tnot, e_kNT, e_ono_t, e_oso_t, e_iseq, e_kIt, e_ir1, e_ir2, e_r1, e_r2, o_eqI, o_neI, o_ltI, o_leI, o_gtI, o_geI, o_addI, o_subI, o_mulI, o_fdivI, o_modI, o_powI, o_iaddI, e_kAt, o_ixL, o_ixT, o_ixR, e_kPl, o_setR, o_getR, o_lenL, o_lenT, o_lenR, o_slL, o_slS, o_slT, o_revL, o_revR, o_itL, o_itT, o_itS, o_itR, o_listL, o_listR, o_addL, o_mulL, o_app, o_tyL, o_isi, o_absI, o_maxI, o_minI, List.getElem?_cons_zero, List.getElem?_cons_succ, List.set_cons_zero, List.set_cons_succ, BO.w, cmpW, AO.w, BI.oa, isRef, Mth.ty, Mth.w, Tg.rd, TgL.rd, TgL.len, gNm, gTp, gCo, gNo, List.length_cons, List.length_nil, List.map_cons, List.map_nil, List.nil_append, List.cons_append, List.append_nil, true_and, and_true, Nat.reduceAdd]
      refine ⟨mul_small (by omega), mul_smallR (by omega), ?_⟩
      refine ih _ _ _ Z (fun g hg => hr g (List.mem_cons_of_mem _ hg)) hZ ?_
      rw [← e]
      show a + f * size + size * p * numR p r = a + size * (f + p * numR p r)
      rw [Int.mul_add, Int.mul_comm f size, Int.mul_assoc, Int.add_assoc]
  rw [← List.map_reverse]
  refine go fs.reverse 0 1 none _ (fun f hf => hd f (by simpa using hf)) rfl ?_
  rw [numOf_rev, Int.one_mul, Int.zero_add]
theorem kit_ll : kitB "list" "list" = some true := by decide +kernel
theorem kit_ii : kitB "int" "int" = some true := by decide +kernel
theorem kit_ib : kitB "int" "bool" = some false := by decide +kernel
theorem tyN_i (M : MC) (i : Int) : tyN M (.int i) = some "int" := rfl
theorem tyN_l (M : MC) (l : List D) : tyN M (.lst l) = some "list" := rfl
def b_law_right : SsL :=
  (.cons (.if_ (.bop .Or (.cons (.not_ (.tr (.blt 0 false (.cons (.var 0) (.cons (.glo 1) .nil))))) (.one (.cmp .NotEq (.call 2 (.cons (.var 0) (.cons (.var 2) .nil))) (.var 1))))) (.cons (.ret (.bl false))
  .nil) .nil)
  (.cons (.for_ (.nm 3) (.seq (.var 0)) (.cons (.if_ (.bop .Or (.cons (.not_ (.tr (.blt 0 false (.cons (.var 3) (.cons (.glo 3) .nil))))) (.cons (.tr (.blt 0 false (.cons (.var 3) (.cons (.glo 4) .nil)))) (.one (.not_ (.chn .LtE .Lt (.int 0) (.var 3) (.var 2))))))) (.cons (.ret (.bl false))
  .nil) .nil)
  .nil))
  (.cons (.ret (.bop .Or (.cons (.cmp .Eq (.var 0) (.lst false .nil)) (.cons (.cmp .Gt (.ix (.var 0) (.int 0)) (.int 0)) .nil))))
  .nil)))
def spRight : DSp := spB fun ds v => ∃ (fs : List Int) (n p : Int), ds = [.lst (fs.map D.int), .int n, .int p] ∧ (2 ≤ p ∧ p ≤ 4) ∧ digs p fs ∧ numOf fs p = n ∧ (fs = [] ∨ ∃ x r, fs = x :: r ∧ 0 < x) ∧ v = true
theorem o_ltoNil (x : Int) (r : List Int) (M : MC) (Q : QD) : wEq false (.lst ((x :: r).map D.int)) (.lst []) M Q = Q (.bl false) M := by
  have e0 : scalD (.lst ((x :: r).map D.int)) (.lst []) = none := rfl
  have e1 : pdM M (.lst ((x :: r).map D.int)) = some (.list ((x :: r).map PyData.int)) := by
    refine pdM_pd ?_
    unfold pd
    rw [pdL_ints]
  have e2 : pdM M (.lst []) = some (.list []) := rfl
  have s1 : SeqAt.shaped (.list ((x :: r).map PyData.int)) = true := by
    unfold SeqAt.shaped
    simp only [PyData.canLay0, PyData.depth, ints_lay, ints_depth]
    rfl
  unfold wEq
  rw [e0, e1, e2]
  exact propext ⟨fun h => h.2, fun q => ⟨⟨s1, rfl⟩, q⟩⟩
theorem read_law_right (en : Nat → Option Ent) (h0 : en 0 = some (.bi .isi)) (h1 : en 1 = some (.ty "list")) (h2 : en 2 = some (.fn 0 spSummed)) (h3 : en 3 = some (.ty "int")) (h4 : en 4 = some (.ty "bool")) (ds : List D) (M : MC) (Q : QD) (E : Exc → MC → Prop) (h : spRight ds M Q E) :
    (b_law_right.rd en) (raiD M.length E) { nx := fun _ M' => retD M.length Q .non M', rt := retD M.length Q } (startD ["figures", "number", "pace", "figure"] ds) M := by
  obtain ⟨rfl, v, ⟨fs, n, p, rfl, ⟨p2, p4⟩, hd, rfl, hh, rfl⟩, q⟩ := h
  show (SsL.rd en b_law_right) (raiD 0 E) { nx := fun _ M' => retD 0 Q .non M', rt := retD 0 Q } [some (.lst (fs.map D.int)), some (.int (numOf fs p)), some (.int p), none] []
  unfold b_law_right
  simp only [e_nil, e_cons, e_doc, e_pass, e_brk, e_cnt, e_ret, e_retN, e_expr, e_kDrop, e_if, e_kIf1, e_kIf0, e_whl, e_for, e_kFor, e_set, e_kSet, e_unp, e_kUnp, e_put, e_kPut, e_kPut2, e_kPut3, e_par, e_par3, e_kPar3, e_kPar, e_aug, e_kAug, e_kAug2, e_augS, e_kAS1, e_kAS2, e_kAS3, e_kAS4, e_kAS5, e_setLc, e_var, e_val, e_int, e_bl, e_non, e_str, e_glo, e_bin, e_cmp, e_kB1, e_kB2, e_chn, e_kC0, e_kC1, e_kC2t, e_kC2f, e_kC3, e_bop, e_b1, e_bA, e_bO, e_kAVt, e_kAVf, e_kOVt, e_kOVf, e_not, e_kNV, e_neg, e_kNg, e_ite, e_kIte1, e_kIte0, e_tup, e_kTup, e_lst, e_kLst, e_mk1, e_mk0, e_anil, e_acons, e_kCs, e_kCs2, e_call, e_blt, e_kOA, e_ix, e_slc, e_kSl1, e_kSl2, e_kSl3, e_ono, e_oso, e_kPt, e_rev, e_kRev, e_lc, e_kLc, e_lr1, e_lr2, e_kRg1, e_kRg2, e_ien, e_izp, e_kEnL, e_kEnR, e_kZpL, e_kZpT, e_mth, e_mth0, e_kM1, e_kM0, e_kM2, e_frz, e_tv, e_ttr, e_tcmp, e_tchn, e_kB, e_kTr, e_trb, e_tri, e_tbop, e_t1, e_tA, e_tO, e_kATt, e_kATf, e_kOTt, e_kOTf, e_tnot, e_kNT, e_ono_t, e_oso_t, e_iseq, e_kIt, e_ir1, e_ir2, e_r1, e_r2, o_eqI, o_neI, o_ltI, o_leI, o_gtI, o_geI, o_addI, o_subI, o_mulI, o_fdivI, o_modI, o_powI, o_iaddI, e_kAt, o_ixL, o_ixT, o_ixR, e_kPl, o_setR, o_getR, o_lenL, o_lenT, o_lenR, o_slL, o_slS, o_slT, o_revL, o_revR, o_itL, o_itT, o_itS, o_itR, o_listL, o_listR, o_addL, o_mulL, o_app, o_tyL, o_isi, o_absI, o_maxI, o_minI, List.getElem?_cons_zero, List.getElem?_cons_succ, List.set_cons_zero, List.set_cons_succ, BO.w, cmpW, AO.w, BI.oa, isRef, Mth.ty, Mth.w, Tg.rd, TgL.rd, TgL.len, gNm, gTp, gCo, gNo, List.length_cons, List.length_nil, List.map_cons, List.map_nil, List.nil_append, List.cons_append, List.append_nil, true_and, and_true, Nat.reduceAdd, h0, h1, h2, tyN_l, kit_ll, Bool.not_true, spSummed, c_int]
  refine ⟨rfl, _, ⟨fs, p, rfl, ⟨p2, p4⟩, hd, rfl⟩, ?_⟩
  simp only [e_nil, e_cons, e_doc, e_pass, e_brk, e_cnt, e_ret, e_retN, e_expr, e_kDrop, e_if, e_kIf1, e_kIf0, e_whl, e_for, e_kFor, e_set, e_kSet, e_unp, e_kUnp, e_put, e_kPut, e_kPut2, e_kPut3, e_par, e_par3, e_kPar3, e_kPar, e_aug, e_kAug, e_kAug2, e_augS, e_kAS1, e_kAS2, e_kAS3, e_kAS4, e_kAS5, e_setLc, e_var, e_val, e_int, e_bl, e_non, e_str, e_glo, e_bin, e_cmp, e_kB1, e_kB2, e_chn, e_kC0, e_kC1, e_kC2t, e_kC2f, e_kC3, e_bop, e_b1, e_bA, e_bO, e_kAVt, e_kAVf, e_kOVt, e_kOVf, e_not, e_kNV, e_neg, e_kNg, e_ite, e_kIte1, e_kIte0, e_tup, e_kTup, e_lst, e_kLst, e_mk1, e_mk0, e_anil, e_acons, e_kCs, e_kCs2, e_call, e_blt, e_kOA, e_ix, e_slc, e_kSl1, e_kSl2, e_kSl3, e_ono, e_oso, e_kPt, e_rev, e_kRev, e_lc, e_kLc, e_lr1, e_lr2, e_kRg1, e_kRg2, e_ien, e_izp, e_kEnL, e_kEnR, e_kZpL, e_kZpT, e_mth, e_mth0, e_kM1, e_kM0, e_kM2, e_frz, e_tv, e_ttr, e_tcmp, e_tchn, e_kB, e_kTr, e_trb, e_tri, e_tbop, e_t1, e_tA, e_tO, e_kATt, e_kATf, e_kOTt, e_kOTf, e_tnot, e_kNT, e_ono_t, e_oso_t, e_iseq, e_kIt, e_ir1, e_ir2, e_r1, e_r2, o_eqI, o_neI, o_ltI, o_leI, o_gtI, o_geI, o_addI, o_subI, o_mulI, o_fdivI, o_modI, o_powI, o_iaddI, e_kAt, o_ixL, o_ixT, o_ixR, e_kPl, o_setR, o_getR, o_lenL, o_lenT, o_lenR, o_slL, o_slS, o_slT, o_revL, o_revR, o_itL, o_itT, o_itS, o_itR, o_listL, o_listR, o_addL, o_mulL, o_app, o_tyL, o_isi, o_absI, o_maxI, o_minI, List.getElem?_cons_zero, List.getElem?_cons_succ, List.set_cons_zero, List.set_cons_succ, BO.w, cmpW, AO.w, BI.oa, isRef, Mth.ty, Mth.w, Tg.rd, TgL.rd, TgL.len, gNm, gTp, gCo, gNo, List.length_cons, List.length_nil, List.map_cons, List.map_nil, List.nil_append, List.cons_append, List.append_nil, true_and, and_true, Nat.reduceAdd, decide_true, Bool.not_true]
  have go : ∀ (rem : List Int) (c : Option D) (Z : EndsD), digs p rem → Z.nx = SsL.rd en (.cons (.ret (.bop .Or (.cons (.cmp .Eq (.var 0) (.lst false .nil)) (.cons (.cmp .Gt (.ix (.var 0) (.int 0)) (.int 0)) .nil)))) .nil) (raiD 0 E) { nx := fun _ M' => retD 0 Q .non M', rt := retD 0 Q } →
      loopD (gNm 3) (SsL.rd en (.cons (.if_ (.bop .Or (.cons (.not_ (.tr (.blt 0 false (.cons (.var 3) (.cons (.glo 3) .nil))))) (.cons (.tr (.blt 0 false (.cons (.var 3) (.cons (.glo 4) .nil)))) (.one (.not_ (.chn .LtE .Lt (.int 0) (.var 3) (.var 2))))))) (.cons (.ret (.bl false)) .nil) .nil) .nil)) (fun _ => True) (raiD 0 E) Z (rem.map D.int) [some (.lst (fs.map D.int)), some (.int (numOf fs p)), some (.int p), c] [] := by
    intro rem
    induction rem with
    | nil =>
      intro c Z _ hZ
      refine ⟨trivial, ?_⟩
      rw [hZ]
      simp only [e_nil, e_cons, e_doc, e_pass, e_brk, e_cnt, e_ret, e_retN, e_expr, e_kDrop, e_if, e_kIf1, e_kIf0, e_whl, e_for, e_kFor, e_set, e_kSet, e_unp, e_kUnp, e_put, e_kPut, e_kPut2, e_kPut3, e_par, e_par3, e_kPar3, e_kPar, e_aug, e_kAug, e_kAug2, e_augS, e_kAS1, e_kAS2, e_kAS3, e_kAS4, e_kAS5, e_setLc, e_var, e_val, e_int, e_bl, e_non, e_str, e_glo, e_bin, e_cmp, e_kB1, e_kB2, e_chn, e_kC0, e_kC1, e_kC2t, e_kC2f, e_kC3, e_bop, e_b1, e_bA, e_bO, e_kAVt, e_kAVf, e_kOVt, e_kOVf, e_not, e_kNV, e_neg, e_kNg, e_ite, e_kIte1, e_kIte0, e_tup, e_kTup, e_lst, e_kLst, e_mk1, e_mk0, e_anil, e_acons, e_kCs, e_kCs2, e_call, e_blt, e_kOA, e_ix, e_slc, e_kSl1, e_kSl2, e_kSl3, e_ono, e_oso, e_kPt, e_rev, e_kRev, e_lc, e_kLc, e_lr1, e_lr2, e_kRg1, e_kRg2, e_ien, e_izp, e_kEnL, e_kEnR, e_kZpL, e_kZpT, e_mth, e_mth0, e_kM1, e_kM0, e_kM2, e_frz, e_tv, e_ttr, e_tcmp, e_tchn, e_kB, e_kTr, e_trb, e_tri, e_tbop, e_t1, e_tA, e_tO, e_kATt, e_kATf, e_kOTt, e_kOTf, e_tnot, e_kNT, e_ono_t, e_oso_t, e_iseq, e_kIt, e_ir1, e_ir2, e_r1, e_r2, o_eqI, o_neI, o_ltI, o_leI, o_gtI, o_geI, o_addI, o_subI, o_mulI, o_fdivI, o_modI, o_powI, o_iaddI, e_kAt, o_ixL, o_ixT, o_ixR, e_kPl, o_setR, o_getR, o_lenL, o_lenT, o_lenR, o_slL, o_slS, o_slT, o_revL, o_revR, o_itL, o_itT, o_itS, o_itR, o_listL, o_listR, o_addL, o_mulL, o_app, o_tyL, o_isi, o_absI, o_maxI, o_minI, List.getElem?_cons_zero, List.getElem?_cons_succ, List.set_cons_zero, List.set_cons_succ, BO.w, cmpW, AO.w, BI.oa, isRef, Mth.ty, Mth.w, Tg.rd, TgL.rd, TgL.len, gNm, gTp, gCo, gNo, List.length_cons, List.length_nil, List.map_cons, List.map_nil, List.nil_append, List.cons_append, List.append_nil, true_and, and_true, Nat.reduceAdd]
      refine ⟨⟨by rw [sizeLine_eq]; decide, rfl⟩, ?_⟩
      rcases hh with rfl | ⟨x, r, rfl, hx⟩
      · rw [List.map_nil, o_eqSelf false (.lst []) _ _ (eqOk_ints [])]
        simp only [e_nil, e_cons, e_doc, e_pass, e_brk, e_cnt, e_ret, e_retN, e_expr, e_kDrop, e_if, e_kIf1, e_kIf0, e_whl, e_for, e_kFor, e_set, e_kSet, e_unp, e_kUnp, e_put, e_kPut, e_kPut2, e_kPut3, e_par, e_par3, e_kPar3, e_kPar, e_aug, e_kAug, e_kAug2, e_augS, e_kAS1, e_kAS2, e_kAS3, e_kAS4, e_kAS5, e_setLc, e_var, e_val, e_int, e_bl, e_non, e_str, e_glo, e_bin, e_cmp, e_kB1, e_kB2, e_chn, e_kC0, e_kC1, e_kC2t, e_kC2f, e_kC3, e_bop, e_b1, e_bA, e_bO, e_kAVt, e_kAVf, e_kOVt, e_kOVf, e_not, e_kNV, e_neg, e_kNg, e_ite, e_kIte1, e_kIte0, e_tup, e_kTup, e_lst, e_kLst, e_mk1, e_mk0, e_anil, e_acons, e_kCs, e_kCs2, e_call, e_blt, e_kOA, e_ix, e_slc, e_kSl1, e_kSl2, e_kSl3, e_ono, e_oso, e_kPt, e_rev, e_kRev, e_lc, e_kLc, e_lr1, e_lr2, e_kRg1, e_kRg2, e_ien, e_izp, e_kEnL, e_kEnR, e_kZpL, e_kZpT, e_mth, e_mth0, e_kM1, e_kM0, e_kM2, e_frz, e_tv, e_ttr, e_tcmp, e_tchn, e_kB, e_kTr, e_trb, e_tri, e_tbop, e_t1, e_tA, e_tO, e_kATt, e_kATf, e_kOTt, e_kOTf, e_tnot, e_kNT, e_ono_t, e_oso_t, e_iseq, e_kIt, e_ir1, e_ir2, e_r1, e_r2, o_eqI, o_neI, o_ltI, o_leI, o_gtI, o_geI, o_addI, o_subI, o_mulI, o_fdivI, o_modI, o_powI, o_iaddI, e_kAt, o_ixL, o_ixT, o_ixR, e_kPl, o_setR, o_getR, o_lenL, o_lenT, o_lenR, o_slL, o_slS, o_slT, o_revL, o_revR, o_itL, o_itT, o_itS, o_itR, o_listL, o_listR, o_addL, o_mulL, o_app, o_tyL, o_isi, o_absI, o_maxI, o_minI, List.getElem?_cons_zero, List.getElem?_cons_succ, List.set_cons_zero, List.set_cons_succ, BO.w, cmpW, AO.w, BI.oa, isRef, Mth.ty, Mth.w, Tg.rd, TgL.rd, TgL.len, gNm, gTp, gCo, gNo, List.length_cons, List.length_nil, List.map_cons, List.map_nil, List.nil_append, List.cons_append, List.append_nil, true_and, and_true, Nat.reduceAdd, Bool.not_false]
        exact ⟨⟨Nat.zero_le _, rfl⟩, q⟩
      · rw [o_ltoNil]
        have e : atI ((x :: r).map D.int) 0 = some (.int x) := by
          have : (0 : Int) = ((0 : Nat) : Int) := rfl
          rw [this]
          exact atI_nat rfl
        simp only [e_nil, e_cons, e_doc, e_pass, e_brk, e_cnt, e_ret, e_retN, e_expr, e_kDrop, e_if, e_kIf1, e_kIf0, e_whl, e_for, e_kFor, e_set, e_kSet, e_unp, e_kUnp, e_put, e_kPut, e_kPut2, e_kPut3, e_par, e_par3, e_kPar3, e_kPar, e_aug, e_kAug, e_kAug2, e_augS, e_kAS1, e_kAS2, e_kAS3, e_kAS4, e_kAS5, e_setLc, e_var, e_val, e_int, e_bl, e_non, e_str, e_glo, e_bin, e_cmp, e_kB1, e_kB2, e_chn, e_kC0, e_kC1, e_kC2t, e_kC2f, e_kC3, e_bop, e_b1, e_bA, e_bO, e_kAVt, e_kAVf, e_kOVt, e_kOVf, e_not, e_kNV, e_neg, e_kNg, e_ite, e_kIte1, e_kIte0, e_tup, e_kTup, e_lst, e_kLst, e_mk1, e_mk0, e_anil, e_acons, e_kCs, e_kCs2, e_call, e_blt, e_kOA, e_ix, e_slc, e_kSl1, e_kSl2, e_kSl3, e_ono, e_oso, e_kPt, e_rev, e_kRev, e_lc, e_kLc, e_lr1, e_lr2, e_kRg1, e_kRg2, e_ien, e_izp, e_kEnL, e_kEnR, e_kZpL, e_kZpT, e_mth, e_mth0, e_kM1, e_kM0, e_kM2, e_frz, e_tv, e_ttr, e_tcmp, e_tchn, e_kB, e_kTr, e_trb, e_tri, e_tbop, e_t1, e_tA, e_tO, e_kATt, e_kATf, e_kOTt, e_kOTf, e_tnot, e_kNT, e_ono_t, e_oso_t, e_iseq, e_kIt, e_ir1, e_ir2, e_r1, e_r2, o_eqI, o_neI, o_ltI, o_leI, o_gtI, o_geI, o_addI, o_subI, o_mulI, o_fdivI, o_modI, o_powI, o_iaddI, e_kAt, o_ixL, o_ixT, o_ixR, e_kPl, o_setR, o_getR, o_lenL, o_lenT, o_lenR, o_slL, o_slS, o_slT, o_revL, o_revR, o_itL, o_itT, o_itS, o_itR, o_listL, o_listR, o_addL, o_mulL, o_app, o_tyL, o_isi, o_absI, o_maxI, o_minI, List.getElem?_cons_zero, List.getElem?_cons_succ, List.set_cons_zero, List.set_cons_succ, BO.w, cmpW, AO.w, BI.oa, isRef, Mth.ty, Mth.w, Tg.rd, TgL.rd, TgL.len, gNm, gTp, gCo, gNo, List.length_cons, List.length_nil, List.map_cons, List.map_nil, List.nil_append, List.cons_append, List.append_nil, true_and, and_true, Nat.reduceAdd] at e ⊢
        rw [e]
        simp only [e_nil, e_cons, e_doc, e_pass, e_brk, e_cnt, e_ret, e_retN, e_expr, e_kDrop, e_if, e_kIf1, e_kIf0, e_whl, e_for, e_kFor, e_set, e_kSet, e_unp, e_kUnp, e_put, e_kPut, e_kPut2, e_kPut3, e_par, e_par3, e_kPar3, e_kPar, e_aug, e_kAug, e_kAug2, e_augS, e_kAS1, e_kAS2, e_kAS3, e_kAS4, e_kAS5, e_setLc, e_var, e_val, e_int, e_bl, e_non, e_str, e_glo, e_bin, e_cmp, e_kB1, e_kB2, e_chn, e_kC0, e_kC1, e_kC2t, e_kC2f, e_kC3, e_bop, e_b1, e_bA, e_bO, e_kAVt, e_kAVf, e_kOVt, e_kOVf, e_not, e_kNV, e_neg, e_kNg, e_ite, e_kIte1, e_kIte0, e_tup, e_kTup, e_lst, e_kLst, e_mk1, e_mk0, e_anil, e_acons, e_kCs, e_kCs2, e_call, e_blt, e_kOA, e_ix, e_slc, e_kSl1, e_kSl2, e_kSl3, e_ono, e_oso, e_kPt, e_rev, e_kRev, e_lc, e_kLc, e_lr1, e_lr2, e_kRg1, e_kRg2, e_ien, e_izp, e_kEnL, e_kEnR, e_kZpL, e_kZpT, e_mth, e_mth0, e_kM1, e_kM0, e_kM2, e_frz, e_tv, e_ttr, e_tcmp, e_tchn, e_kB, e_kTr, e_trb, e_tri, e_tbop, e_t1, e_tA, e_tO, e_kATt, e_kATf, e_kOTt, e_kOTf, e_tnot, e_kNT, e_ono_t, e_oso_t, e_iseq, e_kIt, e_ir1, e_ir2, e_r1, e_r2, o_eqI, o_neI, o_ltI, o_leI, o_gtI, o_geI, o_addI, o_subI, o_mulI, o_fdivI, o_modI, o_powI, o_iaddI, e_kAt, o_ixL, o_ixT, o_ixR, e_kPl, o_setR, o_getR, o_lenL, o_lenT, o_lenR, o_slL, o_slS, o_slT, o_revL, o_revR, o_itL, o_itT, o_itS, o_itR, o_listL, o_listR, o_addL, o_mulL, o_app, o_tyL, o_isi, o_absI, o_maxI, o_minI, List.getElem?_cons_zero, List.getElem?_cons_succ, List.set_cons_zero, List.set_cons_succ, BO.w, cmpW, AO.w, BI.oa, isRef, Mth.ty, Mth.w, Tg.rd, TgL.rd, TgL.len, gNm, gTp, gCo, gNo, List.length_cons, List.length_nil, List.map_cons, List.map_nil, List.nil_append, List.cons_append, List.append_nil, true_and, and_true, Nat.reduceAdd, hx, decide_true]
        exact ⟨⟨Nat.zero_le _, rfl⟩, q⟩
    | cons f r ih =>
      intro c Z hr hZ
      have hf := hr f List.mem_cons_self
      rw [List.map_cons]
      refine ⟨trivial, ?_⟩
      simp only [e_nil, e_cons, e_doc, e_pass, e_brk, e_cnt, e_ret, e_retN, e_expr, e_kDrop, e_if, e_kIf1, e_kIf0, e_whl, e_for, e_kFor, e_set, e_kSet, e_unp, e_kUnp, e_put, e_kPut, e_kPut2, e_kPut3, e_par, e_par3, e_kPar3, e_kPar, e_aug, e_kAug, e_kAug2, e_augS, e_kAS1, e_kAS2, e_kAS3, e_kAS4, e_kAS5, e_setLc, e_var, e_val, e_int, e_bl, e_non, e_str, e_glo, e_bin, e_cmp, e_kB1, e_kB2, e_chn, e_kC0, e_kC1, e_kC2t, e_kC2f, e_kC3, e_bop, e_b1, e_bA, e_bO, e_kAVt, e_kAVf, e_kOVt, e_kOVf, e_not, e_kNV, e_neg, e_kNg, e_ite, e_kIte1, e_kIte0, e_tup, e_kTup, e_lst, e_kLst, e_mk1, e_mk0, e_anil, e_acons, e_kCs, e_kCs2, e_call, e_blt, e_kOA, e_ix, e_slc, e_kSl1, e_kSl2, e_kSl3, e_ono, e_oso, e_kPt, e_rev, e_kRev, e_lc, e_kLc, e_lr1, e_lr2, e_kRg1, e_kRg2, e_ien, e_izp, e_kEnL, e_kEnR, e_kZpL, e_kZpT, e_mth, e_mth0, e_kM1, e_kM0, e_kM2, e_frz, e_tv, e_ttr, e_tcmp, e_tchn, e_kB, e_kTr, e_trb, e_tri, e_tbop, e_t1, e_tA, e_tO, e_kATt, e_kATf, e_kOTt, e_kOTf, e_tnot, e_kNT, e_ono_t, e_oso_t, e_iseq, e_kIt, e_ir1, e_ir2, e_r1, e_r2, o_eqI, o_neI, o_ltI, o_leI, o_gtI, o_geI, o_addI, o_subI, o_mulI, o_fdivI, o_modI, o_powI, o_iaddI, e_kAt, o_ixL, o_ixT, o_ixR, e_kPl, o_setR, o_getR, o_lenL, o_lenT, o_lenR, o_slL, o_slS, o_slT, o_revL, o_revR, o_itL, o_itT, o_itS, o_itR, o_listL, o_listR, o_addL, o_mulL, o_app, o_tyL, o_isi, o_absI, o_maxI, o_minI, List.getElem?_cons_zero, List.getElem?_cons_succ, List.set_cons_zero, List.set_cons_succ, BO.w, cmpW, AO.w, BI.oa, isRef, Mth.ty, Mth.w, Tg.rd, TgL.rd, TgL.len, gNm, gTp, gCo, gNo, List.length_cons, List.length_nil, List.map_cons, List.map_nil, List.nil_append, List.cons_append, List.append_nil, true_and, and_true, Nat.reduceAdd, h0, h3, h4, tyN_i, kit_ii, kit_ib, Bool.not_true, hf.1, hf.2, decide_true]
      exact ih _ Z (fun g hg => hr g (List.mem_cons_of_mem _ hg)) hZ
  exact go fs none _ hd rfl
end DL
set_option Elab.async false
set_option linter.all false
set_option maxRecDepth 100000
set_option maxHeartbeats 400000
set_option autoImplicit false
set_option exponentiation.threshold 5000
namespace DL
open PySem PySem.Spec L2
/-! ### more of calls -/
def spLaw : DSp := fun ds M Q _ => ∃ zs : List Int, ds = [.scr zs] ∧ zs.length ≤ 63 ∧ M = [] ∧ Q (.bl true) []
def lstC : Cell → Bool
  | .lst _ => true
  | _ => false
theorem lst_nr {n : Nat} : ∀ {M : MC}, M.all lstC = true → M.all (nrC n) = true
  | [], _ => rfl
  | c :: M, h => by
    rw [List.all_cons, Bool.and_eq_true] at h
    rw [List.all_cons, lst_nr h.2, Bool.and_true]
    cases c <;> first | rfl | exact absurd h.1 Bool.false_ne_true
theorem law_nr {rest : MC} (hall : rest.all lstC = true) {n : Nat} : (Cell.bag :: rest).all (nrC n) = true := by
  rw [List.all_cons, lst_nr hall]; rfl
theorem set_last (M : MC) (a b : Cell) : (M ++ [a]).set M.length b = M ++ [b] := by
  rw [List.set_append_right _ _ (Nat.le_refl _), Nat.sub_self]; rfl
theorem get_last (M : MC) (a : Cell) : (M ++ [a])[M.length]? = some a := by simp
theorem l_ref (M : MC) (k : Nat) : lendD M (.ref k) = (match M[k]? with
    | some (.lst ds) => .lst ds
    | some (.frz d) => d
    | _ => .ref k) := rfl
theorem l_int (M : MC) (k : Int) : lendD M (.int k) = .int k := rfl
theorem l_lst (M : MC) (k : List D) : lendD M (.lst k) = .lst k := rfl
theorem l_tup (M : MC) (k : List D) : lendD M (.tup k) = .tup k := rfl
theorem c_newF (n : Nat) (W : WD) (sd : SD) (M : MC) (Q : QD) (R : List D → List D → Prop) (ds : List D) (hn : n = M.length) (h : noRef ds = true) (hM : M.all (nrC M.length) = true) : kAuto W sd (frzTop n Q) (spF R) ds M = ∃ v, R ds v ∧ Q (.lst v) M := by
  subst hn
  rw [c_new W sd M _ R ds h]
  exact propext ⟨fun ⟨v, r, q⟩ => ⟨v, r, by rwa [f_new M Q v hM] at q⟩, fun ⟨v, r, q⟩ => ⟨v, r, by rwa [f_new M Q v hM]⟩⟩
theorem flat0 (k : Nat) : (List.replicate k [D.int 0]).flatten = (List.replicate k (0 : Int)).map D.int := by
  induction k with
  | zero => rfl
  | succ k ih => rw [List.replicate_succ, List.flatten_cons, ih, List.replicate_succ]; rfl
theorem nice_small {fs : List Int} {p : Int} (hd : digs p fs) (p4 : p ≤ 4) (hl : fs.length ≤ 8000) : nice (.lst (fs.map D.int)) :=
  nice_ints fs (fun f hf => by
    have := hd f hf
    exact Nat.lt_of_lt_of_le (log2_lt (k := 3) this.1 (by omega) (by decide)) (by decide)) hl
theorem pow_le4 {p : Int} (h0 : 0 ≤ p) (hp : p ≤ 4) : ∀ k : Nat, p ^ k ≤ 4 ^ k
  | 0 => by rw [Int.pow_zero, Int.pow_zero]; omega
  | k + 1 => by
    rw [Int.pow_succ, Int.pow_succ]
    exact Int.mul_le_mul (pow_le4 h0 hp k) hp h0 (Int.pow_nonneg (by omega))
theorem pow_lt {p : Int} (p2 : 2 ≤ p) (p4 : p ≤ 4) {t : Nat} (ht : t ≤ 60) : 1 ≤ p ^ t ∧ p ^ t ≤ 2 ^ 120 := by
  refine ⟨pow_pos' p2 t, ?_⟩
  have h1 := pow_mono p2 ht
  have h2 := pow_le4 (show 0 ≤ p by omega) p4 60
  have h3 : (4 : Int) ^ 60 = 2 ^ 120 := by decide
  omega
def b_law_size_1 : SsL :=
  (.cons (.set 2 (.bin (.mul false) (.var 2) (.var 0))) .nil)
def b_law_size_2 : SsL :=
  (.cons (.ret (.var 2)) .nil)
def b_law_size : SsL :=
  (.cons (.set 2 (.int 1)) (.cons (.for_ (.nm 3) (.rng1 0 (.var 1)) b_law_size_1) b_law_size_2))
def b_law_u : SsL :=
  (.cons (.set 13 (.ix (.lst false (.cons (.var 7) (.cons (.bin (.add false) (.var 8) (.int 1)) (.cons (.blt 8 false (.cons (.int 0) (.cons (.bin .sub (.var 8) (.int 1)) .nil))) (.cons (.call 2 (.cons (.var 1) (.cons (.bin .pow (.int 10) (.int 20)) .nil))) .nil))))) (.call 2 (.cons (.var 1) (.cons (.int 4) .nil))))) (.cons (.set 14 (.frz (.call 4 (.cons (.var 13) (.cons (.var 3) .nil))))) (.cons (.if_ (.cmp .NotEq (.cmp .Lt (.var 8) (.var 13)) (.cmp .Lt (.tup (.cons (.blt 5 false (.cons (.var 12) .nil)) (.cons (.var 12) .nil))) (.tup (.cons (.blt 5 false (.cons (.var 14) .nil)) (.cons (.var 14) .nil))))) (.cons (.ret (.bl false)) .nil) .nil) .nil)))
def b_law_t : SsL :=
  (.cons (.set 12 (.frz (.call 4 (.cons (.var 8) (.cons (.var 3) .nil))))) (.cons (.if_ (.bop .Or (.cons (.not_ (.tr (.call 6 (.cons (.var 12) (.cons (.var 11) .nil))))) (.one (.cmp .NotEq (.call 7 (.cons (.bin (.add false) (.bin (.add false) (.var 9) (.bin (.mul false) (.lst false (.cons (.int 0) .nil)) (.bin .sub (.var 4) (.blt 5 false (.cons (.var 10) .nil))))) (.var 10)) (.cons (.var 3) .nil))) (.var 8))))) (.cons (.ret (.bl false)) .nil) .nil) (.cons (.if_ (.bop .And (.cons (.cmp .Gt (.var 8) (.int 0)) (.one (.cmp .NotEq (.bin (.add false) (.frz (.call 4 (.cons (.bin .fdiv (.var 8) (.var 3)) (.cons (.var 3) .nil)))) (.lst false (.cons (.bin .mod (.var 8) (.var 3)) .nil))) (.var 12))))) (.cons (.ret (.bl false)) .nil) .nil) b_law_u)))
def b_law_1 : SsL :=
  (.cons (.par 3 4 (.bin (.add false) (.int 2) (.call 2 (.cons (.var 1) (.cons (.int 3) .nil)))) (.call 2 (.cons (.var 1) (.cons (.ix (.lst false (.cons (.int 4) (.cons (.int 61) .nil))) (.call 2 (.cons (.var 1) (.cons (.int 2) .nil)))) .nil)))) (.cons (.set 5 (.ix (.lst false (.cons (.call 2 (.cons (.var 1) (.cons (.int 9) .nil))) (.cons (.bin (.add false) (.int 1) (.call 2 (.cons (.var 1) (.cons (.bin .pow (.int 10) (.int 20)) .nil)))) .nil))) (.call 2 (.cons (.var 1) (.cons (.int 2) .nil))))) (.cons (.set 6 (.call 3 (.cons (.var 3) (.cons (.var 4) .nil)))) (.cons (.set 7 (.ix (.lst false (.cons (.call 2 (.cons (.var 1) (.cons (.var 6) .nil))) (.cons (.int 0) (.cons (.bin .sub (.var 6) (.int 1)) .nil)))) (.call 2 (.cons (.var 1) (.cons (.int 3) .nil))))) (.cons (.par3 8 9 10 (.bin (.add false) (.bin (.mul false) (.var 5) (.var 6)) (.var 7)) (.frz (.call 4 (.cons (.var 5) (.cons (.var 3) .nil)))) (.frz (.call 4 (.cons (.var 7) (.cons (.var 3) .nil))))) (.cons (.set 11 (.bin (.add false) (.bin (.add false) (.var 9) (.bin (.mul false) (.lst false (.cons (.int 0) .nil)) (.bin .sub (.var 4) (.blt 5 false (.cons (.var 10) .nil))))) (.var 10))) (.cons (.if_ (.cmp .Eq (.var 5) (.int 0)) (.cons (.set 11 (.var 10)) .nil) .nil) b_law_t)))))))
def b_law_2 : SsL :=
  (.cons (.ret (.bl true)) .nil)
def b_law : SsL :=
  (.cons (.set 1 (.call 0 (.cons (.var 0) .nil))) (.cons (.for_ (.nm 2) (.rng1 1 (.int 6)) b_law_1) b_law_2))

/-! ### k13's helpers -/
def spSize : DSp := spI fun ds v => ∃ (p : Int) (L : Nat), ds = [.int p, .int (L : Int)] ∧ (2 ≤ p ∧ p ≤ 4) ∧ L ≤ 300 ∧ v = p ^ L
theorem read_law_size (en : Nat → Option Ent) (ds : List D) (M : MC) (Q : QD) (E : Exc → MC → Prop) (h : spSize ds M Q E) :
    (b_law_size.rd en) (raiD M.length E) { nx := fun _ M' => retD M.length Q .non M', rt := retD M.length Q } (startD ["pace", "many", "size", "k"] ds) M := by
  obtain ⟨rfl, v, ⟨p, L, rfl, ⟨p2, p4⟩, hL, rfl⟩, q⟩ := h
  show (SsL.rd en b_law_size) (raiD 0 E) { nx := fun _ M' => retD 0 Q .non M', rt := retD 0 Q } [some (.int p), some (.int (L : Int)), none, none] []
  unfold b_law_size
  simp only [e_nil, e_cons, e_doc, e_pass, e_brk, e_cnt, e_ret, e_retN, e_expr, e_kDrop, e_if, e_kIf1, e_kIf0, e_whl, e_for, e_kFor, e_set, e_kSet, e_unp, e_kUnp, e_put, e_kPut, e_kPut2, e_kPut3, e_par, e_par3, e_kPar3, e_kPar, e_aug, e_kAug, e_kAug2, e_augS, e_kAS1, e_kAS2, e_kAS3, e_kAS4, e_kAS5, e_setLc, e_var, e_val, e_int, e_bl, e_non, e_str, e_glo, e_bin, e_cmp, e_kB1, e_kB2, e_chn, e_kC0, e_kC1, e_kC2t, e_kC2f, e_kC3, e_bop, e_b1, e_bA, e_bO, e_kAVt, e_kAVf, e_kOVt, e_kOVf, e_not, e_kNV, e_neg, e_kNg, e_ite, e_kIte1, e_kIte0, e_tup, e_kTup, e_lst, e_kLst, e_mk1, e_mk0, e_anil, e_acons, e_kCs, e_kCs2, e_call, e_blt, e_kOA, e_ix, e_slc, e_kSl1, e_kSl2, e_kSl3, e_ono, e_oso, e_kPt, e_rev, e_kRev, e_lc, e_kLc, e_lr1, e_lr2, e_kRg1, e_kRg2, e_ien, e_izp, e_kEnL, e_kEnR, e_kZpL, e_kZpT, e_mth, e_mth0, e_kM1, e_kM0, e_kM2, e_frz, e_tv, e_ttr, e_tcmp, e_tchn, e_kB, e_kTr, e_trb, e_tri, e_tbop, e_t1, e_tA, e_tO, e_kATt, e_kATf, e_kOTt, e_kOTf, e_tnot, e_kNT, e_ono_t, e_oso_t, e_iseq, e_kIt, e_ir1, e_ir2, e_r1, e_r2, o_eqI, o_neI, o_ltI, o_leI, o_gtI, o_geI, o_addI, o_subI, o_mulI, o_fdivI, o_modI, o_powI, o_iaddI, e_kAt, o_ixL, o_ixT, o_ixR, e_kPl, o_setR, o_getR, o_lenL, o_lenT, o_lenR, o_slL, o_slS, o_slT, o_revL, o_revR, o_itL, o_itT, o_itS, o_itR, o_listL, o_listR, o_addL, o_mulL, o_app, o_tyL, o_isi, o_absI, o_maxI, o_minI, List.getElem?_cons_zero, List.getElem?_cons_succ, List.set_cons_zero, List.set_cons_succ, BO.w, cmpW, AO.w, BI.oa, isRef, Mth.ty, Mth.w, Tg.rd, TgL.rd, TgL.len, gNm, gTp, gCo, gNo, List.length_cons, List.length_nil, List.map_cons, List.map_nil, List.nil_append, List.cons_append, List.append_nil, true_and, and_true, Nat.reduceAdd]
  refine ⟨⟨by omega, by omega⟩, ?_⟩
  have go : ∀ (rem : List D) (K : Nat) (c : Option D) (Z : EndsD), Z.nx = SsL.rd en b_law_size_2 (raiD 0 E) { nx := fun _ M' => retD 0 Q .non M', rt := retD 0 Q } → K + rem.length = L →
      loopD (gNm 3) (SsL.rd en b_law_size_1) (fun _ => True) (raiD 0 E) Z rem [some (.int p), some (.int (L : Int)), some (.int (p ^ K)), c] [] := by
    intro rem
    induction rem with
    | nil =>
      intro K c Z hZ e
      have e : K = L := e
      subst e
      refine ⟨trivial, ?_⟩
      rw [hZ]
      unfold b_law_size_2
      simp only [e_nil, e_cons, e_doc, e_pass, e_brk, e_cnt, e_ret, e_retN, e_expr, e_kDrop, e_if, e_kIf1, e_kIf0, e_whl, e_for, e_kFor, e_set, e_kSet, e_unp, e_kUnp, e_put, e_kPut, e_kPut2, e_kPut3, e_par, e_par3, e_kPar3, e_kPar, e_aug, e_kAug, e_kAug2, e_augS, e_kAS1, e_kAS2, e_kAS3, e_kAS4, e_kAS5, e_setLc, e_var, e_val, e_int, e_bl, e_non, e_str, e_glo, e_bin, e_cmp, e_kB1, e_kB2, e_chn, e_kC0, e_kC1, e_kC2t, e_kC2f, e_kC3, e_bop, e_b1, e_bA, e_bO, e_kAVt, e_kAVf, e_kOVt, e_kOVf, e_not, e_kNV, e_neg, e_kNg, e_ite, e_kIte1, e_kIte0, e_tup, e_kTup, e_lst, e_kLst, e_mk1, e_mk0, e_anil, e_acons, e_kCs, e_kCs2, e_call, e_blt, e_kOA, e_ix, e_slc, e_kSl1, e_kSl2, e_kSl3, e_ono, e_oso, e_kPt, e_rev, e_kRev, e_lc, e_kLc, e_lr1, e_lr2, e_kRg1, e_kRg2, e_ien, e_izp, e_kEnL, e_kEnR, e_kZpL, e_kZpT, e_mth, e_mth0, e_kM1, e_kM0, e_kM2, e_frz, e_tv, e_ttr, e_tcmp, e_tchn, e_kB, e_kTr, e_trb, e_tri, e_tbop, e_t1, e_tA, e_tO, e_kATt, e_kATf, e_kOTt, e_kOTf, e_tnot, e_kNT, e_ono_t, e_oso_t, e_iseq, e_kIt, e_ir1, e_ir2, e_r1, e_r2, o_eqI, o_neI, o_ltI, o_leI, o_gtI, o_geI, o_addI, o_subI, o_mulI, o_fdivI, o_modI, o_powI, o_iaddI, e_kAt, o_ixL, o_ixT, o_ixR, e_kPl, o_setR, o_getR, o_lenL, o_lenT, o_lenR, o_slL, o_slS, o_slT, o_revL, o_revR, o_itL, o_itT, o_itS, o_itR, o_listL, o_listR, o_addL, o_mulL, o_app, o_tyL, o_isi, o_absI, o_maxI, o_minI, List.getElem?_cons_zero, List.getElem?_cons_succ, List.set_cons_zero, List.set_cons_succ, BO.w, cmpW, AO.w, BI.oa, isRef, Mth.ty, Mth.w, Tg.rd, TgL.rd, TgL.len, gNm, gTp, gCo, gNo, List.length_cons, List.length_nil, List.map_cons, List.map_nil, List.nil_append, List.cons_append, List.append_nil, true_and, and_true, Nat.reduceAdd]
      exact ⟨⟨Nat.zero_le _, rfl⟩, q⟩
    | cons d r ih =>
      intro K c Z hZ e
      refine ⟨trivial, ?_⟩
      unfold b_law_size_1
      simp only [e_nil, e_cons, e_doc, e_pass, e_brk, e_cnt, e_ret, e_retN, e_expr, e_kDrop, e_if, e_kIf1, e_kIf0, e_whl, e_for, e_kFor, e_set, e_kSet, e_unp, e_kUnp, e_put, e_kPut, e_kPut2, e_kPut3, e_par, e_par3, e_kPar3, e_kPar, e_aug, e_kAug, e_kAug2, e_augS, e_kAS1, e_kAS2, e_kAS3, e_kAS4, e_kAS5, e_setLc, e_var, e_val, e_int, e_bl, e_non, e_str, e_glo, e_bin, e_cmp, e_kB1, e_kB2, e_chn, e_kC0, e_kC1, e_kC2t, e_kC2f, e_kC3, e_bop, e_b1, e_bA, e_bO, e_kAVt, e_kAVf, e_kOVt, e_kOVf, e_not, e_kNV, e_neg, e_kNg, e_ite, e_kIte1, e_kIte0, e_tup, e_kTup, e_lst, e_kLst, e_mk1, e_mk0, e_anil, e_acons, e_kCs, e_kCs2, e_call, e_blt, e_kOA, e_ix, e_slc, e_kSl1, e_kSl2, e_kSl3, e_ono, e_oso, e_kPt, e_rev, e_kRev, e_lc, e_kLc, e_lr1, e_lr2, e_kRg1, e_kRg2, e_ien, e_izp, e_kEnL, e_kEnR, e_kZpL, e_kZpT, e_mth, e_mth0, e_kM1, e_kM0, e_kM2, e_frz, e_tv, e_ttr, e_tcmp, e_tchn, e_kB, e_kTr, e_trb, e_tri, e_tbop, e_t1, e_tA, e_tO, e_kATt, e_kATf, e_kOTt, e_kOTf, e_tnot, e_kNT, e_ono_t, e_oso_t, e_iseq, e_kIt, e_ir1, e_ir2, e_r1, e_r2, o_eqI, o_neI, o_ltI, o_leI, o_gtI, o_geI, o_addI, o_subI, o_mulI, o_fdivI, o_modI, o_powI, o_iaddI, e_kAt, o_ixL, o_ixT, o_ixR, e_kPl, o_setR, o_getR, o_lenL, o_lenT, o_lenR, o_slL, o_slS, o_slT, o_revL, o_revR, o_itL, o_itT, o_itS, o_itR, o_listL, o_listR, o_addL, o_mulL, o_app, o_tyL, o_isi, o_absI, o_maxI, o_minI, List.getElem?_cons_zero, List.getElem?_cons_succ, List.set_cons_zero, List.set_cons_succ, BO.w, cmpW, AO.w, BI.oa, isRef, Mth.ty, Mth.w, Tg.rd, TgL.rd, TgL.len, gNm, gTp, gCo, gNo, List.length_cons, List.length_nil, List.map_cons, List.map_nil, List.nil_append, List.cons_append, List.append_nil, true_and, and_true, Nat.reduceAdd]
      refine ⟨mul_smallR (by omega), ?_⟩
      rw [← Int.pow_succ]
      exact ih (K + 1) _ Z hZ (by rw [List.length_cons] at e; omega)
  have g0 := go (ranD 0 (L : Int).toNat) 0 none
  simp only [Int.pow_zero] at g0
  exact g0 _ rfl (by rw [ranD_length]; omega)

theorem alike_ints : ∀ xs ys : List Int, PySem.W.alikeAll (xs.map PyData.int) (ys.map PyData.int) = true
  | [], ys => by cases ys <;> simp [PySem.W.alikeAll]
  | x :: xs, [] => by simp [PySem.W.alikeAll]
  | x :: xs, y :: ys => by
    have := alike_ints xs ys
    simp [PySem.W.alikeAll, PySem.W.alike, this]
theorem eqv_ints : ∀ xs ys : List Int, PyData.eqvAll (xs.map PyData.int) (ys.map PyData.int) = decide (xs = ys)
  | [], [] => by simp [PyData.eqvAll]
  | [], y :: ys => by simp [PyData.eqvAll]
  | x :: xs, [] => by simp [PyData.eqvAll]
  | x :: xs, y :: ys => by
    have := eqv_ints xs ys
    simp [PyData.eqvAll, PyData.eqv, this, Bool.beq_eq_decide_eq]
theorem depth_ints (xs : List Int) : PyData.depthAll (xs.map PyData.int) = 0 := by
  induction xs with
  | nil => rfl
  | cons x xs ih => simp [PyData.depthAll, PyData.depth, ih]
theorem pdL_ints' (xs : List Int) : pdL (xs.map D.int) = some (xs.map PyData.int) := by
  induction xs with
  | nil => unfold pdL; rfl
  | cons x xs ih =>
    rw [List.map_cons]
    unfold pdL
    rw [ih]
    rfl
theorem lt_rows (a b : Int) (xs ys : List Int) : PySem.W.dataLt (.tuple [.int a, .list (xs.map .int)]) (.tuple [.int b, .list (ys.map .int)]) = decide (a < b ∨ a = b ∧ xs < ys) := by
  rw [PySem.W.dataLt_pair (by simp [PySem.W.alike]) (by simp [PySem.W.alike, alike_ints])]
  have h1 : PyData.eqv (.list (xs.map .int)) (.list (ys.map .int)) = decide (xs = ys) := by
    have := eqv_ints xs ys
    simp only [PyData.eqv]
    exact this
  have h2 : PySem.W.dataLt (.list (xs.map .int)) (.list (ys.map .int)) = decide (xs < ys) := (PySem.W.dataLt_list _ _).trans (PySem.W.dataLt_ints xs ys)
  rw [h1, h2, PySem.W.dataLt_int]
  simp only [PyData.eqv, beq_iff_eq]
  by_cases e : a = b
  · subst e
    by_cases e2 : xs = ys
    · subst e2
      simp
    · simp [e2]
  · simp [e]
theorem o_ltRows (M : MC) (Q : QD) (a b : Int) (xs ys : List Int) : wLtA (.tup [.int a, .lst (xs.map D.int)]) (.tup [.int b, .lst (ys.map D.int)]) M Q = Q (.bl (decide (a < b ∨ a = b ∧ xs < ys))) M := by
  have p : ∀ (a : Int) (xs : List Int), pdM M (.tup [.int a, .lst (xs.map D.int)]) = some (.tuple [.int a, .list (xs.map .int)]) := fun a xs => by
    unfold pdM seqL pd pdL pd pdL pd
    rw [pdL_ints']
    rfl
  unfold wLtA wOrdA
  simp only [p]
  rw [lt_rows]
  refine propext ⟨fun h => h.2, fun h => ⟨⟨by simp [PySem.W.alike, PySem.W.alikeAll, alike_ints], by simp, ?_⟩, h⟩⟩
  simp [PyData.depth, PyData.depthAll, depth_ints]
end DL
set_option Elab.async false
set_option linter.all false
set_option maxRecDepth 100000
set_option maxHeartbeats 400000
set_option autoImplicit false
set_option exponentiation.threshold 5000
namespace DL
open PySem PySem.Spec L2
structure En13 (en : Nat → Option Ent) : Prop where
  h0 : en 0 = some (.fn 0 spBag)
  h2 : en 2 = some (.fn 1 spTake)
  h3 : en 3 = some (.fn 0 spSize)
  h4 : en 4 = some (.fn 0 spFigs)
  h5 : en 5 = some (.bi .len)
  h6 : en 6 = some (.fn 0 spAlike)
  h7 : en 7 = some (.fn 0 spNumOf)
  h8 : en 8 = some (.bi .max)
theorem nice_figs {n p : Int} (p2 : 2 ≤ p) (p4 : p ≤ 4) (n1 : n < 2 ^ 250) : nice (.lst ((figs n p).map D.int)) :=
  nice_small (digs_figs p2) p4 (by have := figs_len p2 n1; omega)
theorem eqOk_bl (b : Bool) : eqOk (.bl b) := ⟨.bool b, by unfold pd; rfl, by cases b <;> rfl⟩
theorem law_near (en : Nat → Option Ent) (hE : En13 en) (E : Exc → MC → Prop) (Z : EndsD) (p other whole : Int) (p2 : 2 ≤ p) (p4 : p ≤ 4) (r0 : 0 ≤ other) (r1 : other < 2 ^ 240) (w0 : 0 ≤ whole) (w1 : whole < 2 ^ 240) (s0 c2 c4 c5 c6 c9 c10 c11 c13 c14 : Option D)
    (hn : ∀ c13 c14, Z.nx [s0, some (.ref 0), c2, some (.int p), c4, c5, c6, some (.int other), some (.int whole), c9, c10, c11, some (.lst ((figs whole p).map D.int)), c13, c14] [.bag]) :
    SsL.rd en b_law_u (raiD 0 E) Z [s0, some (.ref 0), c2, some (.int p), c4, c5, c6, some (.int other), some (.int whole), c9, c10, c11, some (.lst ((figs whole p).map D.int)), c13, c14] [.bag] := by
  obtain ⟨h0, h2, h3, h4, h5, h6, h7, h8⟩ := hE
  have w2 : (2 : Int) ^ 240 + 1 < 2 ^ 250 := by decide
  have w3 : (2 : Int) ^ 250 < 2 ^ 4000 := by decide
  have w4 : (10 : Int) ^ 20 < 2 ^ 240 := by decide
  have c20 : CPow 10 20 := ⟨by decide, by decide, by decide⟩
  unfold b_law_u
  simp only [e_nil, e_cons, e_doc, e_pass, e_brk, e_cnt, e_ret, e_retN, e_expr, e_kDrop, e_if, e_kIf1, e_kIf0, e_whl, e_for, e_kFor, e_set, e_kSet, e_unp, e_kUnp, e_put, e_kPut, e_kPut2, e_kPut3, e_par, e_par3, e_kPar3, e_kPar, e_aug, e_kAug, e_kAug2, e_augS, e_kAS1, e_kAS2, e_kAS3, e_kAS4, e_kAS5, e_setLc, e_var, e_val, e_int, e_bl, e_non, e_str, e_glo, e_bin, e_cmp, e_kB1, e_kB2, e_chn, e_kC0, e_kC1, e_kC2t, e_kC2f, e_kC3, e_bop, e_b1, e_bA, e_bO, e_kAVt, e_kAVf, e_kOVt, e_kOVf, e_not, e_kNV, e_neg, e_kNg, e_ite, e_kIte1, e_kIte0, e_tup, e_kTup, e_lst, e_kLst, e_mk1, e_mk0, e_anil, e_acons, e_kCs, e_kCs2, e_call, e_blt, e_kOA, e_ix, e_slc, e_kSl1, e_kSl2, e_kSl3, e_ono, e_oso, e_kPt, e_rev, e_kRev, e_lc, e_kLc, e_lr1, e_lr2, e_kRg1, e_kRg2, e_ien, e_izp, e_kEnL, e_kEnR, e_kZpL, e_kZpT, e_mth, e_mth0, e_kM1, e_kM0, e_kM2, e_frz, e_tv, e_ttr, e_tcmp, e_tchn, e_kB, e_kTr, e_trb, e_tri, e_tbop, e_t1, e_tA, e_tO, e_kATt, e_kATf, e_kOTt, e_kOTf, e_tnot, e_kNT, e_ono_t, e_oso_t, e_iseq, e_kIt, e_ir1, e_ir2, e_r1, e_r2, o_eqI, o_neI, o_ltI, o_leI, o_gtI, o_geI, o_addI, o_subI, o_mulI, o_fdivI, o_modI, o_powI, o_iaddI, e_kAt, o_ixL, o_ixT, o_ixR, e_kPl, o_setR, o_getR, o_lenL, o_lenT, o_lenR, o_slL, o_slS, o_slT, o_revL, o_revR, o_itL, o_itT, o_itS, o_itR, o_listL, o_listR, o_addL, o_mulL, o_app, o_tyL, o_isi, o_absI, o_maxI, o_minI, List.getElem?_cons_zero, List.getElem?_cons_succ, List.set_cons_zero, List.set_cons_succ, BO.w, cmpW, AO.w, BI.oa, isRef, Mth.ty, Mth.w, Tg.rd, TgL.rd, TgL.len, gNm, gTp, gCo, gNo, List.length_cons, List.length_nil, List.map_cons, List.map_nil, List.nil_append, List.cons_append, List.append_nil, true_and, and_true, Nat.reduceAdd, h0, h2, h3, h4, h5, h6, h7, h8, c_take, c_int, c_bl, spSize, spFigs, spAlike, spNumOf, l_int, l_lst, l_tup, Bool.not_true, Bool.not_false, decide_true, decide_false, o_minI, o_maxI, o_ltRows]
  refine ⟨c20, ⟨by decide, by decide⟩, fun d d0 d1 => ⟨⟨by rw [sizeLine_eq]; decide, rfl⟩, ⟨by decide, by decide⟩, fun k k0 k1 => ?_⟩⟩
  have d1 : d < 10 ^ 20 := d1
  obtain ⟨nb, hb, b0, b1⟩ : ∃ nb : Int, atI [D.int other, D.int (whole + 1), D.int (if whole - 1 > 0 then whole - 1 else 0), D.int d] k = some (.int nb) ∧ 0 ≤ nb ∧ nb < 2 ^ 250 := by
    have : k = 0 ∨ k = 1 ∨ k = 2 ∨ k = 3 := by omega
    rcases this with rfl | rfl | rfl | rfl
    · exact ⟨other, rfl, r0, by omega⟩
    · exact ⟨whole + 1, rfl, by omega, by omega⟩
    · refine ⟨_, rfl, ?_, ?_⟩ <;> split <;> omega
    · exact ⟨d, rfl, d0, by omega⟩
  rw [hb]
  try simp only [e_nil, e_cons, e_doc, e_pass, e_brk, e_cnt, e_ret, e_retN, e_expr, e_kDrop, e_if, e_kIf1, e_kIf0, e_whl, e_for, e_kFor, e_set, e_kSet, e_unp, e_kUnp, e_put, e_kPut, e_kPut2, e_kPut3, e_par, e_par3, e_kPar3, e_kPar, e_aug, e_kAug, e_kAug2, e_augS, e_kAS1, e_kAS2, e_kAS3, e_kAS4, e_kAS5, e_setLc, e_var, e_val, e_int, e_bl, e_non, e_str, e_glo, e_bin, e_cmp, e_kB1, e_kB2, e_chn, e_kC0, e_kC1, e_kC2t, e_kC2f, e_kC3, e_bop, e_b1, e_bA, e_bO, e_kAVt, e_kAVf, e_kOVt, e_kOVf, e_not, e_kNV, e_neg, e_kNg, e_ite, e_kIte1, e_kIte0, e_tup, e_kTup, e_lst, e_kLst, e_mk1, e_mk0, e_anil, e_acons, e_kCs, e_kCs2, e_call, e_blt, e_kOA, e_ix, e_slc, e_kSl1, e_kSl2, e_kSl3, e_ono, e_oso, e_kPt, e_rev, e_kRev, e_lc, e_kLc, e_lr1, e_lr2, e_kRg1, e_kRg2, e_ien, e_izp, e_kEnL, e_kEnR, e_kZpL, e_kZpT, e_mth, e_mth0, e_kM1, e_kM0, e_kM2, e_frz, e_tv, e_ttr, e_tcmp, e_tchn, e_kB, e_kTr, e_trb, e_tri, e_tbop, e_t1, e_tA, e_tO, e_kATt, e_kATf, e_kOTt, e_kOTf, e_tnot, e_kNT, e_ono_t, e_oso_t, e_iseq, e_kIt, e_ir1, e_ir2, e_r1, e_r2, o_eqI, o_neI, o_ltI, o_leI, o_gtI, o_geI, o_addI, o_subI, o_mulI, o_fdivI, o_modI, o_powI, o_iaddI, e_kAt, o_ixL, o_ixT, o_ixR, e_kPl, o_setR, o_getR, o_lenL, o_lenT, o_lenR, o_slL, o_slS, o_slT, o_revL, o_revR, o_itL, o_itT, o_itS, o_itR, o_listL, o_listR, o_addL, o_mulL, o_app, o_tyL, o_isi, o_absI, o_maxI, o_minI, List.getElem?_cons_zero, List.getElem?_cons_succ, List.set_cons_zero, List.set_cons_succ, BO.w, cmpW, AO.w, BI.oa, isRef, Mth.ty, Mth.w, Tg.rd, TgL.rd, TgL.len, gNm, gTp, gCo, gNo, List.length_cons, List.length_nil, List.map_cons, List.map_nil, List.nil_append, List.cons_append, List.append_nil, true_and, and_true, Nat.reduceAdd, h0, h2, h3, h4, h5, h6, h7, h8, c_take, c_int, c_bl, spSize, spFigs, spAlike, spNumOf, l_int, l_lst, l_tup, Bool.not_true, Bool.not_false, decide_true, decide_false, o_minI, o_maxI, o_ltRows]
  rw [c_newF _ _ _ _ _ _ _ (by simp) rfl rfl]
  refine ⟨_, ⟨nb, p, rfl, ⟨b0, by omega⟩, ⟨p2, p4⟩, rfl⟩, ?_⟩
  try simp only [e_nil, e_cons, e_doc, e_pass, e_brk, e_cnt, e_ret, e_retN, e_expr, e_kDrop, e_if, e_kIf1, e_kIf0, e_whl, e_for, e_kFor, e_set, e_kSet, e_unp, e_kUnp, e_put, e_kPut, e_kPut2, e_kPut3, e_par, e_par3, e_kPar3, e_kPar, e_aug, e_kAug, e_kAug2, e_augS, e_kAS1, e_kAS2, e_kAS3, e_kAS4, e_kAS5, e_setLc, e_var, e_val, e_int, e_bl, e_non, e_str, e_glo, e_bin, e_cmp, e_kB1, e_kB2, e_chn, e_kC0, e_kC1, e_kC2t, e_kC2f, e_kC3, e_bop, e_b1, e_bA, e_bO, e_kAVt, e_kAVf, e_kOVt, e_kOVf, e_not, e_kNV, e_neg, e_kNg, e_ite, e_kIte1, e_kIte0, e_tup, e_kTup, e_lst, e_kLst, e_mk1, e_mk0, e_anil, e_acons, e_kCs, e_kCs2, e_call, e_blt, e_kOA, e_ix, e_slc, e_kSl1, e_kSl2, e_kSl3, e_ono, e_oso, e_kPt, e_rev, e_kRev, e_lc, e_kLc, e_lr1, e_lr2, e_kRg1, e_kRg2, e_ien, e_izp, e_kEnL, e_kEnR, e_kZpL, e_kZpT, e_mth, e_mth0, e_kM1, e_kM0, e_kM2, e_frz, e_tv, e_ttr, e_tcmp, e_tchn, e_kB, e_kTr, e_trb, e_tri, e_tbop, e_t1, e_tA, e_tO, e_kATt, e_kATf, e_kOTt, e_kOTf, e_tnot, e_kNT, e_ono_t, e_oso_t, e_iseq, e_kIt, e_ir1, e_ir2, e_r1, e_r2, o_eqI, o_neI, o_ltI, o_leI, o_gtI, o_geI, o_addI, o_subI, o_mulI, o_fdivI, o_modI, o_powI, o_iaddI, e_kAt, o_ixL, o_ixT, o_ixR, e_kPl, o_setR, o_getR, o_lenL, o_lenT, o_lenR, o_slL, o_slS, o_slT, o_revL, o_revR, o_itL, o_itT, o_itS, o_itR, o_listL, o_listR, o_addL, o_mulL, o_app, o_tyL, o_isi, o_absI, o_maxI, o_minI, List.getElem?_cons_zero, List.getElem?_cons_succ, List.set_cons_zero, List.set_cons_succ, BO.w, cmpW, AO.w, BI.oa, isRef, Mth.ty, Mth.w, Tg.rd, TgL.rd, TgL.len, gNm, gTp, gCo, gNo, List.length_cons, List.length_nil, List.map_cons, List.map_nil, List.nil_append, List.cons_append, List.append_nil, true_and, and_true, Nat.reduceAdd, h0, h2, h3, h4, h5, h6, h7, h8, c_take, c_int, c_bl, spSize, spFigs, spAlike, spNumOf, l_int, l_lst, l_tup, Bool.not_true, Bool.not_false, decide_true, decide_false, o_minI, o_maxI, o_ltRows]
  refine ⟨⟨by rw [sizeLine_eq]; decide, rfl⟩, ⟨by rw [sizeLine_eq]; decide, rfl⟩, ?_⟩
  have key : decide (((List.map D.int (figs whole p)).length : Int) < ((List.map D.int (figs nb p)).length : Int) ∨ ((List.map D.int (figs whole p)).length : Int) = ((List.map D.int (figs nb p)).length : Int) ∧ figs whole p < figs nb p) = decide (whole < nb) := by
    rw [List.length_map, List.length_map]
    refine decide_eq_decide.mpr ?_
    rw [figs_lt p2 w0 b0]
    refine or_congr (by omega) (and_congr (by omega) Iff.rfl)
  rw [key, o_eqSelf true _ _ _ (eqOk_bl _)]
  try simp only [e_nil, e_cons, e_doc, e_pass, e_brk, e_cnt, e_ret, e_retN, e_expr, e_kDrop, e_if, e_kIf1, e_kIf0, e_whl, e_for, e_kFor, e_set, e_kSet, e_unp, e_kUnp, e_put, e_kPut, e_kPut2, e_kPut3, e_par, e_par3, e_kPar3, e_kPar, e_aug, e_kAug, e_kAug2, e_augS, e_kAS1, e_kAS2, e_kAS3, e_kAS4, e_kAS5, e_setLc, e_var, e_val, e_int, e_bl, e_non, e_str, e_glo, e_bin, e_cmp, e_kB1, e_kB2, e_chn, e_kC0, e_kC1, e_kC2t, e_kC2f, e_kC3, e_bop, e_b1, e_bA, e_bO, e_kAVt, e_kAVf, e_kOVt, e_kOVf, e_not, e_kNV, e_neg, e_kNg, e_ite, e_kIte1, e_kIte0, e_tup, e_kTup, e_lst, e_kLst, e_mk1, e_mk0, e_anil, e_acons, e_kCs, e_kCs2, e_call, e_blt, e_kOA, e_ix, e_slc, e_kSl1, e_kSl2, e_kSl3, e_ono, e_oso, e_kPt, e_rev, e_kRev, e_lc, e_kLc, e_lr1, e_lr2, e_kRg1, e_kRg2, e_ien, e_izp, e_kEnL, e_kEnR, e_kZpL, e_kZpT, e_mth, e_mth0, e_kM1, e_kM0, e_kM2, e_frz, e_tv, e_ttr, e_tcmp, e_tchn, e_kB, e_kTr, e_trb, e_tri, e_tbop, e_t1, e_tA, e_tO, e_kATt, e_kATf, e_kOTt, e_kOTf, e_tnot, e_kNT, e_ono_t, e_oso_t, e_iseq, e_kIt, e_ir1, e_ir2, e_r1, e_r2, o_eqI, o_neI, o_ltI, o_leI, o_gtI, o_geI, o_addI, o_subI, o_mulI, o_fdivI, o_modI, o_powI, o_iaddI, e_kAt, o_ixL, o_ixT, o_ixR, e_kPl, o_setR, o_getR, o_lenL, o_lenT, o_lenR, o_slL, o_slS, o_slT, o_revL, o_revR, o_itL, o_itT, o_itS, o_itR, o_listL, o_listR, o_addL, o_mulL, o_app, o_tyL, o_isi, o_absI, o_maxI, o_minI, List.getElem?_cons_zero, List.getElem?_cons_succ, List.set_cons_zero, List.set_cons_succ, BO.w, cmpW, AO.w, BI.oa, isRef, Mth.ty, Mth.w, Tg.rd, TgL.rd, TgL.len, gNm, gTp, gCo, gNo, List.length_cons, List.length_nil, List.map_cons, List.map_nil, List.nil_append, List.cons_append, List.append_nil, true_and, and_true, Nat.reduceAdd, h0, h2, h3, h4, h5, h6, h7, h8, c_take, c_int, c_bl, spSize, spFigs, spAlike, spNumOf, l_int, l_lst, l_tup, Bool.not_true, Bool.not_false, decide_true, decide_false, o_minI, o_maxI, o_ltRows]
  exact hn _ _
theorem law_tail (en : Nat → Option Ent) (hE : En13 en) (E : Exc → MC → Prop) (Z : EndsD) (p m one other whole : Int) (p2 : 2 ≤ p) (p4 : p ≤ 4) (m0 : 0 ≤ m) (m1 : m < 61) (o0 : 0 ≤ one) (o1 : one ≤ 10 ^ 20) (r0 : 0 ≤ other) (r1 : other < p ^ m.toNat) (hw : whole = one * p ^ m.toNat + other) (s0 c2 c6 c12 c13 c14 : Option D)
    (hn : ∀ c12 c13 c14, Z.nx [s0, some (.ref 0), c2, some (.int p), some (.int m), some (.int one), c6, some (.int other), some (.int whole), some (.lst ((figs one p).map D.int)), some (.lst ((figs other p).map D.int)), some (.lst ((figs whole p).map D.int)), c12, c13, c14] [.bag]) :
    SsL.rd en b_law_t (raiD 0 E) Z [s0, some (.ref 0), c2, some (.int p), some (.int m), some (.int one), c6, some (.int other), some (.int whole), some (.lst ((figs one p).map D.int)), some (.lst ((figs other p).map D.int)), some (.lst ((figs whole p).map D.int)), c12, c13, c14] [.bag] := by
  obtain ⟨h0, h2, h3, h4, h5, h6, h7, h8⟩ := hE
  obtain ⟨s1, s2⟩ := pow_lt p2 p4 (show m.toNat ≤ 60 by omega)
  have w0 : 0 ≤ whole := by
    have := Int.mul_nonneg o0 (show 0 ≤ p ^ m.toNat by omega)
    omega
  have w1 : whole < 2 ^ 240 := by
    have h1 : one * p ^ m.toNat ≤ 10 ^ 20 * 2 ^ 120 := Int.mul_le_mul o1 s2 (by omega) (by decide)
    have h2 : (10 : Int) ^ 20 * 2 ^ 120 + 2 ^ 120 < 2 ^ 240 := by decide
    omega
  have w2 : (2 : Int) ^ 240 + 1 < 2 ^ 250 := by decide
  have w3 : (2 : Int) ^ 250 < 2 ^ 4000 := by decide
  have w4 : (10 : Int) ^ 20 < 2 ^ 240 := by decide
  have w5 : (2 : Int) ^ 120 < 2 ^ 240 := by decide
  have lo := figs_lenp p2 r1
  have l1 := figs_len (k := 250) p2 (show one < 2 ^ 250 by omega)
  unfold b_law_t
  simp only [e_nil, e_cons, e_doc, e_pass, e_brk, e_cnt, e_ret, e_retN, e_expr, e_kDrop, e_if, e_kIf1, e_kIf0, e_whl, e_for, e_kFor, e_set, e_kSet, e_unp, e_kUnp, e_put, e_kPut, e_kPut2, e_kPut3, e_par, e_par3, e_kPar3, e_kPar, e_aug, e_kAug, e_kAug2, e_augS, e_kAS1, e_kAS2, e_kAS3, e_kAS4, e_kAS5, e_setLc, e_var, e_val, e_int, e_bl, e_non, e_str, e_glo, e_bin, e_cmp, e_kB1, e_kB2, e_chn, e_kC0, e_kC1, e_kC2t, e_kC2f, e_kC3, e_bop, e_b1, e_bA, e_bO, e_kAVt, e_kAVf, e_kOVt, e_kOVf, e_not, e_kNV, e_neg, e_kNg, e_ite, e_kIte1, e_kIte0, e_tup, e_kTup, e_lst, e_kLst, e_mk1, e_mk0, e_anil, e_acons, e_kCs, e_kCs2, e_call, e_blt, e_kOA, e_ix, e_slc, e_kSl1, e_kSl2, e_kSl3, e_ono, e_oso, e_kPt, e_rev, e_kRev, e_lc, e_kLc, e_lr1, e_lr2, e_kRg1, e_kRg2, e_ien, e_izp, e_kEnL, e_kEnR, e_kZpL, e_kZpT, e_mth, e_mth0, e_kM1, e_kM0, e_kM2, e_frz, e_tv, e_ttr, e_tcmp, e_tchn, e_kB, e_kTr, e_trb, e_tri, e_tbop, e_t1, e_tA, e_tO, e_kATt, e_kATf, e_kOTt, e_kOTf, e_tnot, e_kNT, e_ono_t, e_oso_t, e_iseq, e_kIt, e_ir1, e_ir2, e_r1, e_r2, o_eqI, o_neI, o_ltI, o_leI, o_gtI, o_geI, o_addI, o_subI, o_mulI, o_fdivI, o_modI, o_powI, o_iaddI, e_kAt, o_ixL, o_ixT, o_ixR, e_kPl, o_setR, o_getR, o_lenL, o_lenT, o_lenR, o_slL, o_slS, o_slT, o_revL, o_revR, o_itL, o_itT, o_itS, o_itR, o_listL, o_listR, o_addL, o_mulL, o_app, o_tyL, o_isi, o_absI, o_maxI, o_minI, List.getElem?_cons_zero, List.getElem?_cons_succ, List.set_cons_zero, List.set_cons_succ, BO.w, cmpW, AO.w, BI.oa, isRef, Mth.ty, Mth.w, Tg.rd, TgL.rd, TgL.len, gNm, gTp, gCo, gNo, List.length_cons, List.length_nil, List.map_cons, List.map_nil, List.nil_append, List.cons_append, List.append_nil, true_and, and_true, Nat.reduceAdd, h0, h2, h3, h4, h5, h6, h7, h8, c_take, c_int, c_bl, spSize, spFigs, spAlike, spNumOf, l_int, l_lst, l_tup, Bool.not_true, Bool.not_false, decide_true, decide_false, o_minI, o_maxI, o_ltRows]
  rw [c_newF _ _ _ _ _ _ _ (by simp) rfl rfl]
  refine ⟨_, ⟨whole, p, rfl, ⟨w0, by omega⟩, ⟨p2, p4⟩, rfl⟩, ?_⟩
  simp only [e_nil, e_cons, e_doc, e_pass, e_brk, e_cnt, e_ret, e_retN, e_expr, e_kDrop, e_if, e_kIf1, e_kIf0, e_whl, e_for, e_kFor, e_set, e_kSet, e_unp, e_kUnp, e_put, e_kPut, e_kPut2, e_kPut3, e_par, e_par3, e_kPar3, e_kPar, e_aug, e_kAug, e_kAug2, e_augS, e_kAS1, e_kAS2, e_kAS3, e_kAS4, e_kAS5, e_setLc, e_var, e_val, e_int, e_bl, e_non, e_str, e_glo, e_bin, e_cmp, e_kB1, e_kB2, e_chn, e_kC0, e_kC1, e_kC2t, e_kC2f, e_kC3, e_bop, e_b1, e_bA, e_bO, e_kAVt, e_kAVf, e_kOVt, e_kOVf, e_not, e_kNV, e_neg, e_kNg, e_ite, e_kIte1, e_kIte0, e_tup, e_kTup, e_lst, e_kLst, e_mk1, e_mk0, e_anil, e_acons, e_kCs, e_kCs2, e_call, e_blt, e_kOA, e_ix, e_slc, e_kSl1, e_kSl2, e_kSl3, e_ono, e_oso, e_kPt, e_rev, e_kRev, e_lc, e_kLc, e_lr1, e_lr2, e_kRg1, e_kRg2, e_ien, e_izp, e_kEnL, e_kEnR, e_kZpL, e_kZpT, e_mth, e_mth0, e_kM1, e_kM0, e_kM2, e_frz, e_tv, e_ttr, e_tcmp, e_tchn, e_kB, e_kTr, e_trb, e_tri, e_tbop, e_t1, e_tA, e_tO, e_kATt, e_kATf, e_kOTt, e_kOTf, e_tnot, e_kNT, e_ono_t, e_oso_t, e_iseq, e_kIt, e_ir1, e_ir2, e_r1, e_r2, o_eqI, o_neI, o_ltI, o_leI, o_gtI, o_geI, o_addI, o_subI, o_mulI, o_fdivI, o_modI, o_powI, o_iaddI, e_kAt, o_ixL, o_ixT, o_ixR, e_kPl, o_setR, o_getR, o_lenL, o_lenT, o_lenR, o_slL, o_slS, o_slT, o_revL, o_revR, o_itL, o_itT, o_itS, o_itR, o_listL, o_listR, o_addL, o_mulL, o_app, o_tyL, o_isi, o_absI, o_maxI, o_minI, List.getElem?_cons_zero, List.getElem?_cons_succ, List.set_cons_zero, List.set_cons_succ, BO.w, cmpW, AO.w, BI.oa, isRef, Mth.ty, Mth.w, Tg.rd, TgL.rd, TgL.len, gNm, gTp, gCo, gNo, List.length_cons, List.length_nil, List.map_cons, List.map_nil, List.nil_append, List.cons_append, List.append_nil, true_and, and_true, Nat.reduceAdd, h0, h2, h3, h4, h5, h6, h7, h8, c_take, c_int, c_bl, spSize, spFigs, spAlike, spNumOf, l_int, l_lst, l_tup, Bool.not_true, Bool.not_false, decide_true, decide_false, o_minI, o_maxI, o_ltRows]
  refine ⟨rfl, _, ⟨_, rfl, nice_figs p2 p4 (by omega), rfl⟩, ?_⟩
  simp only [e_nil, e_cons, e_doc, e_pass, e_brk, e_cnt, e_ret, e_retN, e_expr, e_kDrop, e_if, e_kIf1, e_kIf0, e_whl, e_for, e_kFor, e_set, e_kSet, e_unp, e_kUnp, e_put, e_kPut, e_kPut2, e_kPut3, e_par, e_par3, e_kPar3, e_kPar, e_aug, e_kAug, e_kAug2, e_augS, e_kAS1, e_kAS2, e_kAS3, e_kAS4, e_kAS5, e_setLc, e_var, e_val, e_int, e_bl, e_non, e_str, e_glo, e_bin, e_cmp, e_kB1, e_kB2, e_chn, e_kC0, e_kC1, e_kC2t, e_kC2f, e_kC3, e_bop, e_b1, e_bA, e_bO, e_kAVt, e_kAVf, e_kOVt, e_kOVf, e_not, e_kNV, e_neg, e_kNg, e_ite, e_kIte1, e_kIte0, e_tup, e_kTup, e_lst, e_kLst, e_mk1, e_mk0, e_anil, e_acons, e_kCs, e_kCs2, e_call, e_blt, e_kOA, e_ix, e_slc, e_kSl1, e_kSl2, e_kSl3, e_ono, e_oso, e_kPt, e_rev, e_kRev, e_lc, e_kLc, e_lr1, e_lr2, e_kRg1, e_kRg2, e_ien, e_izp, e_kEnL, e_kEnR, e_kZpL, e_kZpT, e_mth, e_mth0, e_kM1, e_kM0, e_kM2, e_frz, e_tv, e_ttr, e_tcmp, e_tchn, e_kB, e_kTr, e_trb, e_tri, e_tbop, e_t1, e_tA, e_tO, e_kATt, e_kATf, e_kOTt, e_kOTf, e_tnot, e_kNT, e_ono_t, e_oso_t, e_iseq, e_kIt, e_ir1, e_ir2, e_r1, e_r2, o_eqI, o_neI, o_ltI, o_leI, o_gtI, o_geI, o_addI, o_subI, o_mulI, o_fdivI, o_modI, o_powI, o_iaddI, e_kAt, o_ixL, o_ixT, o_ixR, e_kPl, o_setR, o_getR, o_lenL, o_lenT, o_lenR, o_slL, o_slS, o_slT, o_revL, o_revR, o_itL, o_itT, o_itS, o_itR, o_listL, o_listR, o_addL, o_mulL, o_app, o_tyL, o_isi, o_absI, o_maxI, o_minI, List.getElem?_cons_zero, List.getElem?_cons_succ, List.set_cons_zero, List.set_cons_succ, BO.w, cmpW, AO.w, BI.oa, isRef, Mth.ty, Mth.w, Tg.rd, TgL.rd, TgL.len, gNm, gTp, gCo, gNo, List.length_cons, List.length_nil, List.map_cons, List.map_nil, List.nil_append, List.cons_append, List.append_nil, true_and, and_true, Nat.reduceAdd, h0, h2, h3, h4, h5, h6, h7, h8, c_take, c_int, c_bl, spSize, spFigs, spAlike, spNumOf, l_int, l_lst, l_tup, Bool.not_true, Bool.not_false, decide_true, decide_false, o_minI, o_maxI, o_ltRows]
  have ez : (m - ((List.map D.int (figs other p)).length : Int)).toNat = m.toNat - (figs other p).length := by
    rw [List.length_map]; omega
  rw [ez, flat0, ← List.map_append, ← List.map_append]
  simp only [List.length_map, List.length_replicate, List.length_append]
  refine ⟨⟨by rw [sizeLine_eq]; decide, rfl⟩, ⟨by omega, by omega, by rw [sizeLine_eq]; omega⟩, by rw [sizeLine_eq]; omega, by rw [sizeLine_eq]; omega, rfl, _, ⟨_, p, rfl, ⟨p2, p4⟩, rfl⟩, ?_⟩
  rw [numOf_put p2 o0 r0 r1, ← hw]
  simp only [e_nil, e_cons, e_doc, e_pass, e_brk, e_cnt, e_ret, e_retN, e_expr, e_kDrop, e_if, e_kIf1, e_kIf0, e_whl, e_for, e_kFor, e_set, e_kSet, e_unp, e_kUnp, e_put, e_kPut, e_kPut2, e_kPut3, e_par, e_par3, e_kPar3, e_kPar, e_aug, e_kAug, e_kAug2, e_augS, e_kAS1, e_kAS2, e_kAS3, e_kAS4, e_kAS5, e_setLc, e_var, e_val, e_int, e_bl, e_non, e_str, e_glo, e_bin, e_cmp, e_kB1, e_kB2, e_chn, e_kC0, e_kC1, e_kC2t, e_kC2f, e_kC3, e_bop, e_b1, e_bA, e_bO, e_kAVt, e_kAVf, e_kOVt, e_kOVf, e_not, e_kNV, e_neg, e_kNg, e_ite, e_kIte1, e_kIte0, e_tup, e_kTup, e_lst, e_kLst, e_mk1, e_mk0, e_anil, e_acons, e_kCs, e_kCs2, e_call, e_blt, e_kOA, e_ix, e_slc, e_kSl1, e_kSl2, e_kSl3, e_ono, e_oso, e_kPt, e_rev, e_kRev, e_lc, e_kLc, e_lr1, e_lr2, e_kRg1, e_kRg2, e_ien, e_izp, e_kEnL, e_kEnR, e_kZpL, e_kZpT, e_mth, e_mth0, e_kM1, e_kM0, e_kM2, e_frz, e_tv, e_ttr, e_tcmp, e_tchn, e_kB, e_kTr, e_trb, e_tri, e_tbop, e_t1, e_tA, e_tO, e_kATt, e_kATf, e_kOTt, e_kOTf, e_tnot, e_kNT, e_ono_t, e_oso_t, e_iseq, e_kIt, e_ir1, e_ir2, e_r1, e_r2, o_eqI, o_neI, o_ltI, o_leI, o_gtI, o_geI, o_addI, o_subI, o_mulI, o_fdivI, o_modI, o_powI, o_iaddI, e_kAt, o_ixL, o_ixT, o_ixR, e_kPl, o_setR, o_getR, o_lenL, o_lenT, o_lenR, o_slL, o_slS, o_slT, o_revL, o_revR, o_itL, o_itT, o_itS, o_itR, o_listL, o_listR, o_addL, o_mulL, o_app, o_tyL, o_isi, o_absI, o_maxI, o_minI, List.getElem?_cons_zero, List.getElem?_cons_succ, List.set_cons_zero, List.set_cons_succ, BO.w, cmpW, AO.w, BI.oa, isRef, Mth.ty, Mth.w, Tg.rd, TgL.rd, TgL.len, gNm, gTp, gCo, gNo, List.length_cons, List.length_nil, List.map_cons, List.map_nil, List.nil_append, List.cons_append, List.append_nil, true_and, and_true, Nat.reduceAdd, h0, h2, h3, h4, h5, h6, h7, h8, c_take, c_int, c_bl, spSize, spFigs, spAlike, spNumOf, l_int, l_lst, l_tup, Bool.not_true, Bool.not_false, decide_true, decide_false, o_minI, o_maxI, o_ltRows, decide_true]
  have near := law_near en ⟨h0, h2, h3, h4, h5, h6, h7, h8⟩ E Z p other whole p2 p4 r0 (by omega) w0 w1 s0 c2 (some (.int m)) (some (.int one)) c6 (some (.lst ((figs one p).map D.int))) (some (.lst ((figs other p).map D.int))) (some (.lst ((figs whole p).map D.int))) c13 c14 (fun c13 c14 => hn _ c13 c14)
  by_cases hwp : 0 < whole
  · simp only [e_nil, e_cons, e_doc, e_pass, e_brk, e_cnt, e_ret, e_retN, e_expr, e_kDrop, e_if, e_kIf1, e_kIf0, e_whl, e_for, e_kFor, e_set, e_kSet, e_unp, e_kUnp, e_put, e_kPut, e_kPut2, e_kPut3, e_par, e_par3, e_kPar3, e_kPar, e_aug, e_kAug, e_kAug2, e_augS, e_kAS1, e_kAS2, e_kAS3, e_kAS4, e_kAS5, e_setLc, e_var, e_val, e_int, e_bl, e_non, e_str, e_glo, e_bin, e_cmp, e_kB1, e_kB2, e_chn, e_kC0, e_kC1, e_kC2t, e_kC2f, e_kC3, e_bop, e_b1, e_bA, e_bO, e_kAVt, e_kAVf, e_kOVt, e_kOVf, e_not, e_kNV, e_neg, e_kNg, e_ite, e_kIte1, e_kIte0, e_tup, e_kTup, e_lst, e_kLst, e_mk1, e_mk0, e_anil, e_acons, e_kCs, e_kCs2, e_call, e_blt, e_kOA, e_ix, e_slc, e_kSl1, e_kSl2, e_kSl3, e_ono, e_oso, e_kPt, e_rev, e_kRev, e_lc, e_kLc, e_lr1, e_lr2, e_kRg1, e_kRg2, e_ien, e_izp, e_kEnL, e_kEnR, e_kZpL, e_kZpT, e_mth, e_mth0, e_kM1, e_kM0, e_kM2, e_frz, e_tv, e_ttr, e_tcmp, e_tchn, e_kB, e_kTr, e_trb, e_tri, e_tbop, e_t1, e_tA, e_tO, e_kATt, e_kATf, e_kOTt, e_kOTf, e_tnot, e_kNT, e_ono_t, e_oso_t, e_iseq, e_kIt, e_ir1, e_ir2, e_r1, e_r2, o_eqI, o_neI, o_ltI, o_leI, o_gtI, o_geI, o_addI, o_subI, o_mulI, o_fdivI, o_modI, o_powI, o_iaddI, e_kAt, o_ixL, o_ixT, o_ixR, e_kPl, o_setR, o_getR, o_lenL, o_lenT, o_lenR, o_slL, o_slS, o_slT, o_revL, o_revR, o_itL, o_itT, o_itS, o_itR, o_listL, o_listR, o_addL, o_mulL, o_app, o_tyL, o_isi, o_absI, o_maxI, o_minI, List.getElem?_cons_zero, List.getElem?_cons_succ, List.set_cons_zero, List.set_cons_succ, BO.w, cmpW, AO.w, BI.oa, isRef, Mth.ty, Mth.w, Tg.rd, TgL.rd, TgL.len, gNm, gTp, gCo, gNo, List.length_cons, List.length_nil, List.map_cons, List.map_nil, List.nil_append, List.cons_append, List.append_nil, true_and, and_true, Nat.reduceAdd, h0, h2, h3, h4, h5, h6, h7, h8, c_take, c_int, c_bl, spSize, spFigs, spAlike, spNumOf, l_int, l_lst, l_tup, Bool.not_true, Bool.not_false, decide_true, decide_false, o_minI, o_maxI, o_ltRows, hwp, decide_true]
    obtain ⟨d1, d2⟩ := div_lt (p := p) hwp p2
    refine ⟨⟨by omega, Nat.lt_of_lt_of_le (log2_lt (k := 3) (by omega) (by omega) (by decide)) (by decide)⟩, ?_⟩
    rw [c_newF _ _ _ _ _ _ _ (by simp) rfl rfl]
    refine ⟨_, ⟨whole / p, p, rfl, ⟨d1, by omega⟩, ⟨p2, p4⟩, rfl⟩, ?_⟩
    try simp only [e_nil, e_cons, e_doc, e_pass, e_brk, e_cnt, e_ret, e_retN, e_expr, e_kDrop, e_if, e_kIf1, e_kIf0, e_whl, e_for, e_kFor, e_set, e_kSet, e_unp, e_kUnp, e_put, e_kPut, e_kPut2, e_kPut3, e_par, e_par3, e_kPar3, e_kPar, e_aug, e_kAug, e_kAug2, e_augS, e_kAS1, e_kAS2, e_kAS3, e_kAS4, e_kAS5, e_setLc, e_var, e_val, e_int, e_bl, e_non, e_str, e_glo, e_bin, e_cmp, e_kB1, e_kB2, e_chn, e_kC0, e_kC1, e_kC2t, e_kC2f, e_kC3, e_bop, e_b1, e_bA, e_bO, e_kAVt, e_kAVf, e_kOVt, e_kOVf, e_not, e_kNV, e_neg, e_kNg, e_ite, e_kIte1, e_kIte0, e_tup, e_kTup, e_lst, e_kLst, e_mk1, e_mk0, e_anil, e_acons, e_kCs, e_kCs2, e_call, e_blt, e_kOA, e_ix, e_slc, e_kSl1, e_kSl2, e_kSl3, e_ono, e_oso, e_kPt, e_rev, e_kRev, e_lc, e_kLc, e_lr1, e_lr2, e_kRg1, e_kRg2, e_ien, e_izp, e_kEnL, e_kEnR, e_kZpL, e_kZpT, e_mth, e_mth0, e_kM1, e_kM0, e_kM2, e_frz, e_tv, e_ttr, e_tcmp, e_tchn, e_kB, e_kTr, e_trb, e_tri, e_tbop, e_t1, e_tA, e_tO, e_kATt, e_kATf, e_kOTt, e_kOTf, e_tnot, e_kNT, e_ono_t, e_oso_t, e_iseq, e_kIt, e_ir1, e_ir2, e_r1, e_r2, o_eqI, o_neI, o_ltI, o_leI, o_gtI, o_geI, o_addI, o_subI, o_mulI, o_fdivI, o_modI, o_powI, o_iaddI, e_kAt, o_ixL, o_ixT, o_ixR, e_kPl, o_setR, o_getR, o_lenL, o_lenT, o_lenR, o_slL, o_slS, o_slT, o_revL, o_revR, o_itL, o_itT, o_itS, o_itR, o_listL, o_listR, o_addL, o_mulL, o_app, o_tyL, o_isi, o_absI, o_maxI, o_minI, List.getElem?_cons_zero, List.getElem?_cons_succ, List.set_cons_zero, List.set_cons_succ, BO.w, cmpW, AO.w, BI.oa, isRef, Mth.ty, Mth.w, Tg.rd, TgL.rd, TgL.len, gNm, gTp, gCo, gNo, List.length_cons, List.length_nil, List.map_cons, List.map_nil, List.nil_append, List.cons_append, List.append_nil, true_and, and_true, Nat.reduceAdd, h0, h2, h3, h4, h5, h6, h7, h8, c_take, c_int, c_bl, spSize, spFigs, spAlike, spNumOf, l_int, l_lst, l_tup, Bool.not_true, Bool.not_false, decide_true, decide_false, o_minI, o_maxI, o_ltRows]
    have fl := figs_len (k := 250) p2 (show whole / p < 2 ^ 250 by omega)
    refine ⟨by omega, ⟨by rw [sizeLine_eq]; decide, rfl⟩, by rw [List.length_map, sizeLine_eq]; omega, ?_⟩
    have e : List.map D.int (figs (whole / p) p) ++ [D.int (whole % p)] = (figs whole p).map D.int := by
      rw [← figs_snoc p2 hwp, List.map_append]; rfl
    rw [e, o_eqSelf true _ _ _ (eqOk_ints (figs whole p))]
    try simp only [e_nil, e_cons, e_doc, e_pass, e_brk, e_cnt, e_ret, e_retN, e_expr, e_kDrop, e_if, e_kIf1, e_kIf0, e_whl, e_for, e_kFor, e_set, e_kSet, e_unp, e_kUnp, e_put, e_kPut, e_kPut2, e_kPut3, e_par, e_par3, e_kPar3, e_kPar, e_aug, e_kAug, e_kAug2, e_augS, e_kAS1, e_kAS2, e_kAS3, e_kAS4, e_kAS5, e_setLc, e_var, e_val, e_int, e_bl, e_non, e_str, e_glo, e_bin, e_cmp, e_kB1, e_kB2, e_chn, e_kC0, e_kC1, e_kC2t, e_kC2f, e_kC3, e_bop, e_b1, e_bA, e_bO, e_kAVt, e_kAVf, e_kOVt, e_kOVf, e_not, e_kNV, e_neg, e_kNg, e_ite, e_kIte1, e_kIte0, e_tup, e_kTup, e_lst, e_kLst, e_mk1, e_mk0, e_anil, e_acons, e_kCs, e_kCs2, e_call, e_blt, e_kOA, e_ix, e_slc, e_kSl1, e_kSl2, e_kSl3, e_ono, e_oso, e_kPt, e_rev, e_kRev, e_lc, e_kLc, e_lr1, e_lr2, e_kRg1, e_kRg2, e_ien, e_izp, e_kEnL, e_kEnR, e_kZpL, e_kZpT, e_mth, e_mth0, e_kM1, e_kM0, e_kM2, e_frz, e_tv, e_ttr, e_tcmp, e_tchn, e_kB, e_kTr, e_trb, e_tri, e_tbop, e_t1, e_tA, e_tO, e_kATt, e_kATf, e_kOTt, e_kOTf, e_tnot, e_kNT, e_ono_t, e_oso_t, e_iseq, e_kIt, e_ir1, e_ir2, e_r1, e_r2, o_eqI, o_neI, o_ltI, o_leI, o_gtI, o_geI, o_addI, o_subI, o_mulI, o_fdivI, o_modI, o_powI, o_iaddI, e_kAt, o_ixL, o_ixT, o_ixR, e_kPl, o_setR, o_getR, o_lenL, o_lenT, o_lenR, o_slL, o_slS, o_slT, o_revL, o_revR, o_itL, o_itT, o_itS, o_itR, o_listL, o_listR, o_addL, o_mulL, o_app, o_tyL, o_isi, o_absI, o_maxI, o_minI, List.getElem?_cons_zero, List.getElem?_cons_succ, List.set_cons_zero, List.set_cons_succ, BO.w, cmpW, AO.w, BI.oa, isRef, Mth.ty, Mth.w, Tg.rd, TgL.rd, TgL.len, gNm, gTp, gCo, gNo, List.length_cons, List.length_nil, List.map_cons, List.map_nil, List.nil_append, List.cons_append, List.append_nil, true_and, and_true, Nat.reduceAdd, h0, h2, h3, h4, h5, h6, h7, h8, c_take, c_int, c_bl, spSize, spFigs, spAlike, spNumOf, l_int, l_lst, l_tup, Bool.not_true, Bool.not_false, decide_true, decide_false, o_minI, o_maxI, o_ltRows]
    exact near
  · simp only [e_nil, e_cons, e_doc, e_pass, e_brk, e_cnt, e_ret, e_retN, e_expr, e_kDrop, e_if, e_kIf1, e_kIf0, e_whl, e_for, e_kFor, e_set, e_kSet, e_unp, e_kUnp, e_put, e_kPut, e_kPut2, e_kPut3, e_par, e_par3, e_kPar3, e_kPar, e_aug, e_kAug, e_kAug2, e_augS, e_kAS1, e_kAS2, e_kAS3, e_kAS4, e_kAS5, e_setLc, e_var, e_val, e_int, e_bl, e_non, e_str, e_glo, e_bin, e_cmp, e_kB1, e_kB2, e_chn, e_kC0, e_kC1, e_kC2t, e_kC2f, e_kC3, e_bop, e_b1, e_bA, e_bO, e_kAVt, e_kAVf, e_kOVt, e_kOVf, e_not, e_kNV, e_neg, e_kNg, e_ite, e_kIte1, e_kIte0, e_tup, e_kTup, e_lst, e_kLst, e_mk1, e_mk0, e_anil, e_acons, e_kCs, e_kCs2, e_call, e_blt, e_kOA, e_ix, e_slc, e_kSl1, e_kSl2, e_kSl3, e_ono, e_oso, e_kPt, e_rev, e_kRev, e_lc, e_kLc, e_lr1, e_lr2, e_kRg1, e_kRg2, e_ien, e_izp, e_kEnL, e_kEnR, e_kZpL, e_kZpT, e_mth, e_mth0, e_kM1, e_kM0, e_kM2, e_frz, e_tv, e_ttr, e_tcmp, e_tchn, e_kB, e_kTr, e_trb, e_tri, e_tbop, e_t1, e_tA, e_tO, e_kATt, e_kATf, e_kOTt, e_kOTf, e_tnot, e_kNT, e_ono_t, e_oso_t, e_iseq, e_kIt, e_ir1, e_ir2, e_r1, e_r2, o_eqI, o_neI, o_ltI, o_leI, o_gtI, o_geI, o_addI, o_subI, o_mulI, o_fdivI, o_modI, o_powI, o_iaddI, e_kAt, o_ixL, o_ixT, o_ixR, e_kPl, o_setR, o_getR, o_lenL, o_lenT, o_lenR, o_slL, o_slS, o_slT, o_revL, o_revR, o_itL, o_itT, o_itS, o_itR, o_listL, o_listR, o_addL, o_mulL, o_app, o_tyL, o_isi, o_absI, o_maxI, o_minI, List.getElem?_cons_zero, List.getElem?_cons_succ, List.set_cons_zero, List.set_cons_succ, BO.w, cmpW, AO.w, BI.oa, isRef, Mth.ty, Mth.w, Tg.rd, TgL.rd, TgL.len, gNm, gTp, gCo, gNo, List.length_cons, List.length_nil, List.map_cons, List.map_nil, List.nil_append, List.cons_append, List.append_nil, true_and, and_true, Nat.reduceAdd, h0, h2, h3, h4, h5, h6, h7, h8, c_take, c_int, c_bl, spSize, spFigs, spAlike, spNumOf, l_int, l_lst, l_tup, Bool.not_true, Bool.not_false, decide_true, decide_false, o_minI, o_maxI, o_ltRows, hwp, decide_false, Bool.false_eq_true, if_false]
    exact near
def law_Z (en : Nat → Option Ent) (Q : QD) (E : Exc → MC → Prop) : EndsD := ⟨SsL.rd en b_law_2 (raiD 0 E) ⟨fun _ M' => retD 0 Q .non M', retD 0 Q, fun _ _ => False, fun _ _ => False⟩, retD 0 Q, fun _ _ => False, fun _ _ => False⟩
theorem law_end (en : Nat → Option Ent) (Q : QD) (E : Exc → MC → Prop) (q : Q (.bl true) []) (sd : SD) : (law_Z en Q E).nx sd [.bag] := by
  unfold law_Z b_law_2
  simp only [e_nil, e_cons, e_doc, e_pass, e_brk, e_cnt, e_ret, e_retN, e_expr, e_kDrop, e_if, e_kIf1, e_kIf0, e_whl, e_for, e_kFor, e_set, e_kSet, e_unp, e_kUnp, e_put, e_kPut, e_kPut2, e_kPut3, e_par, e_par3, e_kPar3, e_kPar, e_aug, e_kAug, e_kAug2, e_augS, e_kAS1, e_kAS2, e_kAS3, e_kAS4, e_kAS5, e_setLc, e_var, e_val, e_int, e_bl, e_non, e_str, e_glo, e_bin, e_cmp, e_kB1, e_kB2, e_chn, e_kC0, e_kC1, e_kC2t, e_kC2f, e_kC3, e_bop, e_b1, e_bA, e_bO, e_kAVt, e_kAVf, e_kOVt, e_kOVf, e_not, e_kNV, e_neg, e_kNg, e_ite, e_kIte1, e_kIte0, e_tup, e_kTup, e_lst, e_kLst, e_mk1, e_mk0, e_anil, e_acons, e_kCs, e_kCs2, e_call, e_blt, e_kOA, e_ix, e_slc, e_kSl1, e_kSl2, e_kSl3, e_ono, e_oso, e_kPt, e_rev, e_kRev, e_lc, e_kLc, e_lr1, e_lr2, e_kRg1, e_kRg2, e_ien, e_izp, e_kEnL, e_kEnR, e_kZpL, e_kZpT, e_mth, e_mth0, e_kM1, e_kM0, e_kM2, e_frz, e_tv, e_ttr, e_tcmp, e_tchn, e_kB, e_kTr, e_trb, e_tri, e_tbop, e_t1, e_tA, e_tO, e_kATt, e_kATf, e_kOTt, e_kOTf, e_tnot, e_kNT, e_ono_t, e_oso_t, e_iseq, e_kIt, e_ir1, e_ir2, e_r1, e_r2, o_eqI, o_neI, o_ltI, o_leI, o_gtI, o_geI, o_addI, o_subI, o_mulI, o_fdivI, o_modI, o_powI, o_iaddI, e_kAt, o_ixL, o_ixT, o_ixR, e_kPl, o_setR, o_getR, o_lenL, o_lenT, o_lenR, o_slL, o_slS, o_slT, o_revL, o_revR, o_itL, o_itT, o_itS, o_itR, o_listL, o_listR, o_addL, o_mulL, o_app, o_tyL, o_isi, o_absI, o_maxI, o_minI, List.getElem?_cons_zero, List.getElem?_cons_succ, List.set_cons_zero, List.set_cons_succ, BO.w, cmpW, AO.w, BI.oa, isRef, Mth.ty, Mth.w, Tg.rd, TgL.rd, TgL.len, gNm, gTp, gCo, gNo, List.length_cons, List.length_nil, List.map_cons, List.map_nil, List.nil_append, List.cons_append, List.append_nil, true_and, and_true, Nat.reduceAdd]
  exact ⟨⟨Nat.zero_le _, rfl⟩, q⟩
theorem law_turn (en : Nat → Option Ent) (hE : En13 en) (E : Exc → MC → Prop) (Z : EndsD) (s0 c2 c3 c4 c5 c6 c7 c8 c9 c10 c11 c12 c13 c14 : Option D)
    (hn : ∀ (c3 c4 c5 c6 c7 c8 c9 c10 c11 c12 c13 c14 : Option D), Z.nx [s0, some (.ref 0), c2, c3, c4, c5, c6, c7, c8, c9, c10, c11, c12, c13, c14] [.bag]) :
    SsL.rd en b_law_1 (raiD 0 E) Z [s0, some (.ref 0), c2, c3, c4, c5, c6, c7, c8, c9, c10, c11, c12, c13, c14] [.bag] := by
  have hE' := hE
  obtain ⟨h0, h2, h3, h4, h5, h6, h7, h8⟩ := hE'
  unfold b_law_1
  simp only [e_nil, e_cons, e_doc, e_pass, e_brk, e_cnt, e_ret, e_retN, e_expr, e_kDrop, e_if, e_kIf1, e_kIf0, e_whl, e_for, e_kFor, e_set, e_kSet, e_unp, e_kUnp, e_put, e_kPut, e_kPut2, e_kPut3, e_par, e_par3, e_kPar3, e_kPar, e_aug, e_kAug, e_kAug2, e_augS, e_kAS1, e_kAS2, e_kAS3, e_kAS4, e_kAS5, e_setLc, e_var, e_val, e_int, e_bl, e_non, e_str, e_glo, e_bin, e_cmp, e_kB1, e_kB2, e_chn, e_kC0, e_kC1, e_kC2t, e_kC2f, e_kC3, e_bop, e_b1, e_bA, e_bO, e_kAVt, e_kAVf, e_kOVt, e_kOVf, e_not, e_kNV, e_neg, e_kNg, e_ite, e_kIte1, e_kIte0, e_tup, e_kTup, e_lst, e_kLst, e_mk1, e_mk0, e_anil, e_acons, e_kCs, e_kCs2, e_call, e_blt, e_kOA, e_ix, e_slc, e_kSl1, e_kSl2, e_kSl3, e_ono, e_oso, e_kPt, e_rev, e_kRev, e_lc, e_kLc, e_lr1, e_lr2, e_kRg1, e_kRg2, e_ien, e_izp, e_kEnL, e_kEnR, e_kZpL, e_kZpT, e_mth, e_mth0, e_kM1, e_kM0, e_kM2, e_frz, e_tv, e_ttr, e_tcmp, e_tchn, e_kB, e_kTr, e_trb, e_tri, e_tbop, e_t1, e_tA, e_tO, e_kATt, e_kATf, e_kOTt, e_kOTf, e_tnot, e_kNT, e_ono_t, e_oso_t, e_iseq, e_kIt, e_ir1, e_ir2, e_r1, e_r2, o_eqI, o_neI, o_ltI, o_leI, o_gtI, o_geI, o_addI, o_subI, o_mulI, o_fdivI, o_modI, o_powI, o_iaddI, e_kAt, o_ixL, o_ixT, o_ixR, e_kPl, o_setR, o_getR, o_lenL, o_lenT, o_lenR, o_slL, o_slS, o_slT, o_revL, o_revR, o_itL, o_itT, o_itS, o_itR, o_listL, o_listR, o_addL, o_mulL, o_app, o_tyL, o_isi, o_absI, o_maxI, o_minI, List.getElem?_cons_zero, List.getElem?_cons_succ, List.set_cons_zero, List.set_cons_succ, BO.w, cmpW, AO.w, BI.oa, isRef, Mth.ty, Mth.w, Tg.rd, TgL.rd, TgL.len, gNm, gTp, gCo, gNo, List.length_cons, List.length_nil, List.map_cons, List.map_nil, List.nil_append, List.cons_append, List.append_nil, true_and, and_true, Nat.reduceAdd, h0, h2, h3, h4, h5, h6, h7, h8, c_take, c_int, c_bl, spSize, spFigs, spAlike, spNumOf, l_int, l_lst, l_tup, Bool.not_true, Bool.not_false, decide_true, decide_false, o_minI, o_maxI, o_ltRows]
  refine ⟨⟨by decide, by decide⟩, fun v v0 v1 => ⟨⟨by rw [sizeLine_eq]; decide, rfl⟩, ⟨by decide, by decide⟩, fun k k0 k1 => ?_⟩⟩
  generalize hp : 2 + v = p
  have p2 : 2 ≤ p := by omega
  have p4 : p ≤ 4 := by omega
  obtain ⟨cnt, hc, cn0, cn1⟩ : ∃ cnt : Int, atI [D.int 4, D.int 61] k = some (D.int cnt) ∧ 0 < cnt ∧ cnt ≤ 61 := by
    have : k = 0 ∨ k = 1 := by omega
    rcases this with rfl | rfl
    · exact ⟨4, rfl, by decide, by decide⟩
    · exact ⟨61, rfl, by decide, by decide⟩
  rw [hc]
  try simp only [e_nil, e_cons, e_doc, e_pass, e_brk, e_cnt, e_ret, e_retN, e_expr, e_kDrop, e_if, e_kIf1, e_kIf0, e_whl, e_for, e_kFor, e_set, e_kSet, e_unp, e_kUnp, e_put, e_kPut, e_kPut2, e_kPut3, e_par, e_par3, e_kPar3, e_kPar, e_aug, e_kAug, e_kAug2, e_augS, e_kAS1, e_kAS2, e_kAS3, e_kAS4, e_kAS5, e_setLc, e_var, e_val, e_int, e_bl, e_non, e_str, e_glo, e_bin, e_cmp, e_kB1, e_kB2, e_chn, e_kC0, e_kC1, e_kC2t, e_kC2f, e_kC3, e_bop, e_b1, e_bA, e_bO, e_kAVt, e_kAVf, e_kOVt, e_kOVf, e_not, e_kNV, e_neg, e_kNg, e_ite, e_kIte1, e_kIte0, e_tup, e_kTup, e_lst, e_kLst, e_mk1, e_mk0, e_anil, e_acons, e_kCs, e_kCs2, e_call, e_blt, e_kOA, e_ix, e_slc, e_kSl1, e_kSl2, e_kSl3, e_ono, e_oso, e_kPt, e_rev, e_kRev, e_lc, e_kLc, e_lr1, e_lr2, e_kRg1, e_kRg2, e_ien, e_izp, e_kEnL, e_kEnR, e_kZpL, e_kZpT, e_mth, e_mth0, e_kM1, e_kM0, e_kM2, e_frz, e_tv, e_ttr, e_tcmp, e_tchn, e_kB, e_kTr, e_trb, e_tri, e_tbop, e_t1, e_tA, e_tO, e_kATt, e_kATf, e_kOTt, e_kOTf, e_tnot, e_kNT, e_ono_t, e_oso_t, e_iseq, e_kIt, e_ir1, e_ir2, e_r1, e_r2, o_eqI, o_neI, o_ltI, o_leI, o_gtI, o_geI, o_addI, o_subI, o_mulI, o_fdivI, o_modI, o_powI, o_iaddI, e_kAt, o_ixL, o_ixT, o_ixR, e_kPl, o_setR, o_getR, o_lenL, o_lenT, o_lenR, o_slL, o_slS, o_slT, o_revL, o_revR, o_itL, o_itT, o_itS, o_itR, o_listL, o_listR, o_addL, o_mulL, o_app, o_tyL, o_isi, o_absI, o_maxI, o_minI, List.getElem?_cons_zero, List.getElem?_cons_succ, List.set_cons_zero, List.set_cons_succ, BO.w, cmpW, AO.w, BI.oa, isRef, Mth.ty, Mth.w, Tg.rd, TgL.rd, TgL.len, gNm, gTp, gCo, gNo, List.length_cons, List.length_nil, List.map_cons, List.map_nil, List.nil_append, List.cons_append, List.append_nil, true_and, and_true, Nat.reduceAdd, h0, h2, h3, h4, h5, h6, h7, h8, c_take, c_int, c_bl, spSize, spFigs, spAlike, spNumOf, l_int, l_lst, l_tup, Bool.not_true, Bool.not_false, decide_true, decide_false, o_minI, o_maxI, o_ltRows]
  refine ⟨⟨cn0, Int.lt_of_le_of_lt cn1 (by decide)⟩, fun m m0 m1 => ?_⟩
  try simp only [e_nil, e_cons, e_doc, e_pass, e_brk, e_cnt, e_ret, e_retN, e_expr, e_kDrop, e_if, e_kIf1, e_kIf0, e_whl, e_for, e_kFor, e_set, e_kSet, e_unp, e_kUnp, e_put, e_kPut, e_kPut2, e_kPut3, e_par, e_par3, e_kPar3, e_kPar, e_aug, e_kAug, e_kAug2, e_augS, e_kAS1, e_kAS2, e_kAS3, e_kAS4, e_kAS5, e_setLc, e_var, e_val, e_int, e_bl, e_non, e_str, e_glo, e_bin, e_cmp, e_kB1, e_kB2, e_chn, e_kC0, e_kC1, e_kC2t, e_kC2f, e_kC3, e_bop, e_b1, e_bA, e_bO, e_kAVt, e_kAVf, e_kOVt, e_kOVf, e_not, e_kNV, e_neg, e_kNg, e_ite, e_kIte1, e_kIte0, e_tup, e_kTup, e_lst, e_kLst, e_mk1, e_mk0, e_anil, e_acons, e_kCs, e_kCs2, e_call, e_blt, e_kOA, e_ix, e_slc, e_kSl1, e_kSl2, e_kSl3, e_ono, e_oso, e_kPt, e_rev, e_kRev, e_lc, e_kLc, e_lr1, e_lr2, e_kRg1, e_kRg2, e_ien, e_izp, e_kEnL, e_kEnR, e_kZpL, e_kZpT, e_mth, e_mth0, e_kM1, e_kM0, e_kM2, e_frz, e_tv, e_ttr, e_tcmp, e_tchn, e_kB, e_kTr, e_trb, e_tri, e_tbop, e_t1, e_tA, e_tO, e_kATt, e_kATf, e_kOTt, e_kOTf, e_tnot, e_kNT, e_ono_t, e_oso_t, e_iseq, e_kIt, e_ir1, e_ir2, e_r1, e_r2, o_eqI, o_neI, o_ltI, o_leI, o_gtI, o_geI, o_addI, o_subI, o_mulI, o_fdivI, o_modI, o_powI, o_iaddI, e_kAt, o_ixL, o_ixT, o_ixR, e_kPl, o_setR, o_getR, o_lenL, o_lenT, o_lenR, o_slL, o_slS, o_slT, o_revL, o_revR, o_itL, o_itT, o_itS, o_itR, o_listL, o_listR, o_addL, o_mulL, o_app, o_tyL, o_isi, o_absI, o_maxI, o_minI, List.getElem?_cons_zero, List.getElem?_cons_succ, List.set_cons_zero, List.set_cons_succ, BO.w, cmpW, AO.w, BI.oa, isRef, Mth.ty, Mth.w, Tg.rd, TgL.rd, TgL.len, gNm, gTp, gCo, gNo, List.length_cons, List.length_nil, List.map_cons, List.map_nil, List.nil_append, List.cons_append, List.append_nil, true_and, and_true, Nat.reduceAdd, h0, h2, h3, h4, h5, h6, h7, h8, c_take, c_int, c_bl, spSize, spFigs, spAlike, spNumOf, l_int, l_lst, l_tup, Bool.not_true, Bool.not_false, decide_true, decide_false, o_minI, o_maxI, o_ltRows]
  have c20 : CPow 10 20 := ⟨by decide, by decide, by decide⟩
  refine ⟨⟨by decide, by decide⟩, fun u u0 u1 => ⟨c20, ⟨by decide, by decide⟩, fun w w0 w1 => ⟨⟨by rw [sizeLine_eq]; decide, rfl⟩, ⟨by decide, by decide⟩, fun k k0 k1 => ?_⟩⟩⟩
  have w1 : w < 10 ^ 20 := w1
  obtain ⟨one, hc, o0, o1⟩ : ∃ one : Int, atI [D.int u, D.int (1 + w)] k = some (D.int one) ∧ 0 ≤ one ∧ one ≤ 10 ^ 20 := by
    have : k = 0 ∨ k = 1 := by omega
    rcases this with rfl | rfl
    · exact ⟨u, rfl, u0, by omega⟩
    · exact ⟨1 + w, rfl, by omega, by omega⟩
  rw [hc]
  try simp only [e_nil, e_cons, e_doc, e_pass, e_brk, e_cnt, e_ret, e_retN, e_expr, e_kDrop, e_if, e_kIf1, e_kIf0, e_whl, e_for, e_kFor, e_set, e_kSet, e_unp, e_kUnp, e_put, e_kPut, e_kPut2, e_kPut3, e_par, e_par3, e_kPar3, e_kPar, e_aug, e_kAug, e_kAug2, e_augS, e_kAS1, e_kAS2, e_kAS3, e_kAS4, e_kAS5, e_setLc, e_var, e_val, e_int, e_bl, e_non, e_str, e_glo, e_bin, e_cmp, e_kB1, e_kB2, e_chn, e_kC0, e_kC1, e_kC2t, e_kC2f, e_kC3, e_bop, e_b1, e_bA, e_bO, e_kAVt, e_kAVf, e_kOVt, e_kOVf, e_not, e_kNV, e_neg, e_kNg, e_ite, e_kIte1, e_kIte0, e_tup, e_kTup, e_lst, e_kLst, e_mk1, e_mk0, e_anil, e_acons, e_kCs, e_kCs2, e_call, e_blt, e_kOA, e_ix, e_slc, e_kSl1, e_kSl2, e_kSl3, e_ono, e_oso, e_kPt, e_rev, e_kRev, e_lc, e_kLc, e_lr1, e_lr2, e_kRg1, e_kRg2, e_ien, e_izp, e_kEnL, e_kEnR, e_kZpL, e_kZpT, e_mth, e_mth0, e_kM1, e_kM0, e_kM2, e_frz, e_tv, e_ttr, e_tcmp, e_tchn, e_kB, e_kTr, e_trb, e_tri, e_tbop, e_t1, e_tA, e_tO, e_kATt, e_kATf, e_kOTt, e_kOTf, e_tnot, e_kNT, e_ono_t, e_oso_t, e_iseq, e_kIt, e_ir1, e_ir2, e_r1, e_r2, o_eqI, o_neI, o_ltI, o_leI, o_gtI, o_geI, o_addI, o_subI, o_mulI, o_fdivI, o_modI, o_powI, o_iaddI, e_kAt, o_ixL, o_ixT, o_ixR, e_kPl, o_setR, o_getR, o_lenL, o_lenT, o_lenR, o_slL, o_slS, o_slT, o_revL, o_revR, o_itL, o_itT, o_itS, o_itR, o_listL, o_listR, o_addL, o_mulL, o_app, o_tyL, o_isi, o_absI, o_maxI, o_minI, List.getElem?_cons_zero, List.getElem?_cons_succ, List.set_cons_zero, List.set_cons_succ, BO.w, cmpW, AO.w, BI.oa, isRef, Mth.ty, Mth.w, Tg.rd, TgL.rd, TgL.len, gNm, gTp, gCo, gNo, List.length_cons, List.length_nil, List.map_cons, List.map_nil, List.nil_append, List.cons_append, List.append_nil, true_and, and_true, Nat.reduceAdd, h0, h2, h3, h4, h5, h6, h7, h8, c_take, c_int, c_bl, spSize, spFigs, spAlike, spNumOf, l_int, l_lst, l_tup, Bool.not_true, Bool.not_false, decide_true, decide_false, o_minI, o_maxI, o_ltRows]
  obtain ⟨s1, s2⟩ := pow_lt p2 p4 (show m.toNat ≤ 60 by omega)
  have t1 : (2 : Int) ^ 120 < 2 ^ 4000 := by decide
  refine ⟨rfl, _, ⟨p, m.toNat, by rw [Int.toNat_of_nonneg m0], ⟨p2, p4⟩, by omega, rfl⟩, ?_⟩
  try simp only [e_nil, e_cons, e_doc, e_pass, e_brk, e_cnt, e_ret, e_retN, e_expr, e_kDrop, e_if, e_kIf1, e_kIf0, e_whl, e_for, e_kFor, e_set, e_kSet, e_unp, e_kUnp, e_put, e_kPut, e_kPut2, e_kPut3, e_par, e_par3, e_kPar3, e_kPar, e_aug, e_kAug, e_kAug2, e_augS, e_kAS1, e_kAS2, e_kAS3, e_kAS4, e_kAS5, e_setLc, e_var, e_val, e_int, e_bl, e_non, e_str, e_glo, e_bin, e_cmp, e_kB1, e_kB2, e_chn, e_kC0, e_kC1, e_kC2t, e_kC2f, e_kC3, e_bop, e_b1, e_bA, e_bO, e_kAVt, e_kAVf, e_kOVt, e_kOVf, e_not, e_kNV, e_neg, e_kNg, e_ite, e_kIte1, e_kIte0, e_tup, e_kTup, e_lst, e_kLst, e_mk1, e_mk0, e_anil, e_acons, e_kCs, e_kCs2, e_call, e_blt, e_kOA, e_ix, e_slc, e_kSl1, e_kSl2, e_kSl3, e_ono, e_oso, e_kPt, e_rev, e_kRev, e_lc, e_kLc, e_lr1, e_lr2, e_kRg1, e_kRg2, e_ien, e_izp, e_kEnL, e_kEnR, e_kZpL, e_kZpT, e_mth, e_mth0, e_kM1, e_kM0, e_kM2, e_frz, e_tv, e_ttr, e_tcmp, e_tchn, e_kB, e_kTr, e_trb, e_tri, e_tbop, e_t1, e_tA, e_tO, e_kATt, e_kATf, e_kOTt, e_kOTf, e_tnot, e_kNT, e_ono_t, e_oso_t, e_iseq, e_kIt, e_ir1, e_ir2, e_r1, e_r2, o_eqI, o_neI, o_ltI, o_leI, o_gtI, o_geI, o_addI, o_subI, o_mulI, o_fdivI, o_modI, o_powI, o_iaddI, e_kAt, o_ixL, o_ixT, o_ixR, e_kPl, o_setR, o_getR, o_lenL, o_lenT, o_lenR, o_slL, o_slS, o_slT, o_revL, o_revR, o_itL, o_itT, o_itS, o_itR, o_listL, o_listR, o_addL, o_mulL, o_app, o_tyL, o_isi, o_absI, o_maxI, o_minI, List.getElem?_cons_zero, List.getElem?_cons_succ, List.set_cons_zero, List.set_cons_succ, BO.w, cmpW, AO.w, BI.oa, isRef, Mth.ty, Mth.w, Tg.rd, TgL.rd, TgL.len, gNm, gTp, gCo, gNo, List.length_cons, List.length_nil, List.map_cons, List.map_nil, List.nil_append, List.cons_append, List.append_nil, true_and, and_true, Nat.reduceAdd, h0, h2, h3, h4, h5, h6, h7, h8, c_take, c_int, c_bl, spSize, spFigs, spAlike, spNumOf, l_int, l_lst, l_tup, Bool.not_true, Bool.not_false, decide_true, decide_false, o_minI, o_maxI, o_ltRows]
  refine ⟨⟨by omega, by omega⟩, fun x x0 x1 => ⟨⟨by rw [sizeLine_eq]; decide, rfl⟩, ⟨by decide, by decide⟩, fun k k0 k1 => ?_⟩⟩
  obtain ⟨other, hc, r0, r1⟩ : ∃ other : Int, atI [D.int x, D.int 0, D.int (p ^ m.toNat - 1)] k = some (D.int other) ∧ 0 ≤ other ∧ other < p ^ m.toNat := by
    have : k = 0 ∨ k = 1 ∨ k = 2 := by omega
    rcases this with rfl | rfl | rfl
    · exact ⟨x, rfl, x0, x1⟩
    · exact ⟨0, rfl, by omega, by omega⟩
    · exact ⟨p ^ m.toNat - 1, rfl, by omega, by omega⟩
  rw [hc]
  try simp only [e_nil, e_cons, e_doc, e_pass, e_brk, e_cnt, e_ret, e_retN, e_expr, e_kDrop, e_if, e_kIf1, e_kIf0, e_whl, e_for, e_kFor, e_set, e_kSet, e_unp, e_kUnp, e_put, e_kPut, e_kPut2, e_kPut3, e_par, e_par3, e_kPar3, e_kPar, e_aug, e_kAug, e_kAug2, e_augS, e_kAS1, e_kAS2, e_kAS3, e_kAS4, e_kAS5, e_setLc, e_var, e_val, e_int, e_bl, e_non, e_str, e_glo, e_bin, e_cmp, e_kB1, e_kB2, e_chn, e_kC0, e_kC1, e_kC2t, e_kC2f, e_kC3, e_bop, e_b1, e_bA, e_bO, e_kAVt, e_kAVf, e_kOVt, e_kOVf, e_not, e_kNV, e_neg, e_kNg, e_ite, e_kIte1, e_kIte0, e_tup, e_kTup, e_lst, e_kLst, e_mk1, e_mk0, e_anil, e_acons, e_kCs, e_kCs2, e_call, e_blt, e_kOA, e_ix, e_slc, e_kSl1, e_kSl2, e_kSl3, e_ono, e_oso, e_kPt, e_rev, e_kRev, e_lc, e_kLc, e_lr1, e_lr2, e_kRg1, e_kRg2, e_ien, e_izp, e_kEnL, e_kEnR, e_kZpL, e_kZpT, e_mth, e_mth0, e_kM1, e_kM0, e_kM2, e_frz, e_tv, e_ttr, e_tcmp, e_tchn, e_kB, e_kTr, e_trb, e_tri, e_tbop, e_t1, e_tA, e_tO, e_kATt, e_kATf, e_kOTt, e_kOTf, e_tnot, e_kNT, e_ono_t, e_oso_t, e_iseq, e_kIt, e_ir1, e_ir2, e_r1, e_r2, o_eqI, o_neI, o_ltI, o_leI, o_gtI, o_geI, o_addI, o_subI, o_mulI, o_fdivI, o_modI, o_powI, o_iaddI, e_kAt, o_ixL, o_ixT, o_ixR, e_kPl, o_setR, o_getR, o_lenL, o_lenT, o_lenR, o_slL, o_slS, o_slT, o_revL, o_revR, o_itL, o_itT, o_itS, o_itR, o_listL, o_listR, o_addL, o_mulL, o_app, o_tyL, o_isi, o_absI, o_maxI, o_minI, List.getElem?_cons_zero, List.getElem?_cons_succ, List.set_cons_zero, List.set_cons_succ, BO.w, cmpW, AO.w, BI.oa, isRef, Mth.ty, Mth.w, Tg.rd, TgL.rd, TgL.len, gNm, gTp, gCo, gNo, List.length_cons, List.length_nil, List.map_cons, List.map_nil, List.nil_append, List.cons_append, List.append_nil, true_and, and_true, Nat.reduceAdd, h0, h2, h3, h4, h5, h6, h7, h8, c_take, c_int, c_bl, spSize, spFigs, spAlike, spNumOf, l_int, l_lst, l_tup, Bool.not_true, Bool.not_false, decide_true, decide_false, o_minI, o_maxI, o_ltRows]
  have q1 : (10 : Int) ^ 20 < 2 ^ 67 := by decide
  have q2 : (2 : Int) ^ 120 < 2 ^ 121 := by decide
  have q3 : (2 : Int) ^ 67 < 2 ^ 4000 := by decide
  have q4 : (2 : Int) ^ 120 < 2 ^ 250 := by decide
  have im : IntMulOk one (p ^ m.toNat) := CMulW.ok (by
    unfold CMulW
    have a := log2_lt (k := 67) o0 (by omega) (by decide)
    have b := log2_lt (k := 121) (show 0 ≤ p ^ m.toNat by omega) (by omega) (by decide)
    omega)
  refine ⟨im, ?_⟩
  rw [c_newF _ _ _ _ _ _ _ (by simp) rfl rfl]
  refine ⟨_, ⟨one, p, rfl, ⟨o0, by omega⟩, ⟨p2, p4⟩, rfl⟩, ?_⟩
  try simp only [e_nil, e_cons, e_doc, e_pass, e_brk, e_cnt, e_ret, e_retN, e_expr, e_kDrop, e_if, e_kIf1, e_kIf0, e_whl, e_for, e_kFor, e_set, e_kSet, e_unp, e_kUnp, e_put, e_kPut, e_kPut2, e_kPut3, e_par, e_par3, e_kPar3, e_kPar, e_aug, e_kAug, e_kAug2, e_augS, e_kAS1, e_kAS2, e_kAS3, e_kAS4, e_kAS5, e_setLc, e_var, e_val, e_int, e_bl, e_non, e_str, e_glo, e_bin, e_cmp, e_kB1, e_kB2, e_chn, e_kC0, e_kC1, e_kC2t, e_kC2f, e_kC3, e_bop, e_b1, e_bA, e_bO, e_kAVt, e_kAVf, e_kOVt, e_kOVf, e_not, e_kNV, e_neg, e_kNg, e_ite, e_kIte1, e_kIte0, e_tup, e_kTup, e_lst, e_kLst, e_mk1, e_mk0, e_anil, e_acons, e_kCs, e_kCs2, e_call, e_blt, e_kOA, e_ix, e_slc, e_kSl1, e_kSl2, e_kSl3, e_ono, e_oso, e_kPt, e_rev, e_kRev, e_lc, e_kLc, e_lr1, e_lr2, e_kRg1, e_kRg2, e_ien, e_izp, e_kEnL, e_kEnR, e_kZpL, e_kZpT, e_mth, e_mth0, e_kM1, e_kM0, e_kM2, e_frz, e_tv, e_ttr, e_tcmp, e_tchn, e_kB, e_kTr, e_trb, e_tri, e_tbop, e_t1, e_tA, e_tO, e_kATt, e_kATf, e_kOTt, e_kOTf, e_tnot, e_kNT, e_ono_t, e_oso_t, e_iseq, e_kIt, e_ir1, e_ir2, e_r1, e_r2, o_eqI, o_neI, o_ltI, o_leI, o_gtI, o_geI, o_addI, o_subI, o_mulI, o_fdivI, o_modI, o_powI, o_iaddI, e_kAt, o_ixL, o_ixT, o_ixR, e_kPl, o_setR, o_getR, o_lenL, o_lenT, o_lenR, o_slL, o_slS, o_slT, o_revL, o_revR, o_itL, o_itT, o_itS, o_itR, o_listL, o_listR, o_addL, o_mulL, o_app, o_tyL, o_isi, o_absI, o_maxI, o_minI, List.getElem?_cons_zero, List.getElem?_cons_succ, List.set_cons_zero, List.set_cons_succ, BO.w, cmpW, AO.w, BI.oa, isRef, Mth.ty, Mth.w, Tg.rd, TgL.rd, TgL.len, gNm, gTp, gCo, gNo, List.length_cons, List.length_nil, List.map_cons, List.map_nil, List.nil_append, List.cons_append, List.append_nil, true_and, and_true, Nat.reduceAdd, h0, h2, h3, h4, h5, h6, h7, h8, c_take, c_int, c_bl, spSize, spFigs, spAlike, spNumOf, l_int, l_lst, l_tup, Bool.not_true, Bool.not_false, decide_true, decide_false, o_minI, o_maxI, o_ltRows]
  rw [c_newF _ _ _ _ _ _ _ (by simp) rfl rfl]
  refine ⟨_, ⟨other, p, rfl, ⟨r0, by omega⟩, ⟨p2, p4⟩, rfl⟩, ?_⟩
  try simp only [e_nil, e_cons, e_doc, e_pass, e_brk, e_cnt, e_ret, e_retN, e_expr, e_kDrop, e_if, e_kIf1, e_kIf0, e_whl, e_for, e_kFor, e_set, e_kSet, e_unp, e_kUnp, e_put, e_kPut, e_kPut2, e_kPut3, e_par, e_par3, e_kPar3, e_kPar, e_aug, e_kAug, e_kAug2, e_augS, e_kAS1, e_kAS2, e_kAS3, e_kAS4, e_kAS5, e_setLc, e_var, e_val, e_int, e_bl, e_non, e_str, e_glo, e_bin, e_cmp, e_kB1, e_kB2, e_chn, e_kC0, e_kC1, e_kC2t, e_kC2f, e_kC3, e_bop, e_b1, e_bA, e_bO, e_kAVt, e_kAVf, e_kOVt, e_kOVf, e_not, e_kNV, e_neg, e_kNg, e_ite, e_kIte1, e_kIte0, e_tup, e_kTup, e_lst, e_kLst, e_mk1, e_mk0, e_anil, e_acons, e_kCs, e_kCs2, e_call, e_blt, e_kOA, e_ix, e_slc, e_kSl1, e_kSl2, e_kSl3, e_ono, e_oso, e_kPt, e_rev, e_kRev, e_lc, e_kLc, e_lr1, e_lr2, e_kRg1, e_kRg2, e_ien, e_izp, e_kEnL, e_kEnR, e_kZpL, e_kZpT, e_mth, e_mth0, e_kM1, e_kM0, e_kM2, e_frz, e_tv, e_ttr, e_tcmp, e_tchn, e_kB, e_kTr, e_trb, e_tri, e_tbop, e_t1, e_tA, e_tO, e_kATt, e_kATf, e_kOTt, e_kOTf, e_tnot, e_kNT, e_ono_t, e_oso_t, e_iseq, e_kIt, e_ir1, e_ir2, e_r1, e_r2, o_eqI, o_neI, o_ltI, o_leI, o_gtI, o_geI, o_addI, o_subI, o_mulI, o_fdivI, o_modI, o_powI, o_iaddI, e_kAt, o_ixL, o_ixT, o_ixR, e_kPl, o_setR, o_getR, o_lenL, o_lenT, o_lenR, o_slL, o_slS, o_slT, o_revL, o_revR, o_itL, o_itT, o_itS, o_itR, o_listL, o_listR, o_addL, o_mulL, o_app, o_tyL, o_isi, o_absI, o_maxI, o_minI, List.getElem?_cons_zero, List.getElem?_cons_succ, List.set_cons_zero, List.set_cons_succ, BO.w, cmpW, AO.w, BI.oa, isRef, Mth.ty, Mth.w, Tg.rd, TgL.rd, TgL.len, gNm, gTp, gCo, gNo, List.length_cons, List.length_nil, List.map_cons, List.map_nil, List.nil_append, List.cons_append, List.append_nil, true_and, and_true, Nat.reduceAdd, h0, h2, h3, h4, h5, h6, h7, h8, c_take, c_int, c_bl, spSize, spFigs, spAlike, spNumOf, l_int, l_lst, l_tup, Bool.not_true, Bool.not_false, decide_true, decide_false, o_minI, o_maxI, o_ltRows]
  have lo := figs_lenp p2 r1
  have l1 := figs_len (k := 67) p2 (show one < 2 ^ 67 by omega)
  have ez : (m - ((List.map D.int (figs other p)).length : Int)).toNat = m.toNat - (figs other p).length := by
    rw [List.length_map]; omega
  rw [ez, flat0, ← List.map_append, ← List.map_append]
  simp only [List.length_map, List.length_replicate, List.length_append]
  refine ⟨⟨by rw [sizeLine_eq]; decide, rfl⟩, ⟨by omega, by omega, by rw [sizeLine_eq]; omega⟩, by rw [sizeLine_eq]; omega, by rw [sizeLine_eq]; omega, ?_⟩
  by_cases z : one = 0
  · have ew : figs (one * p ^ m.toNat + other) p = figs other p := by rw [z, Int.zero_mul, Int.zero_add]
    have tl := law_tail en hE E Z p m one other _ p2 p4 m0 (by omega) o0 o1 r0 r1 rfl s0 c2 (some (.int (p ^ m.toNat))) c12 c13 c14 (fun c12 c13 c14 => hn _ _ _ _ _ _ _ _ _ _ _ _)
    rw [ew] at tl
    simp only [e_nil, e_cons, e_doc, e_pass, e_brk, e_cnt, e_ret, e_retN, e_expr, e_kDrop, e_if, e_kIf1, e_kIf0, e_whl, e_for, e_kFor, e_set, e_kSet, e_unp, e_kUnp, e_put, e_kPut, e_kPut2, e_kPut3, e_par, e_par3, e_kPar3, e_kPar, e_aug, e_kAug, e_kAug2, e_augS, e_kAS1, e_kAS2, e_kAS3, e_kAS4, e_kAS5, e_setLc, e_var, e_val, e_int, e_bl, e_non, e_str, e_glo, e_bin, e_cmp, e_kB1, e_kB2, e_chn, e_kC0, e_kC1, e_kC2t, e_kC2f, e_kC3, e_bop, e_b1, e_bA, e_bO, e_kAVt, e_kAVf, e_kOVt, e_kOVf, e_not, e_kNV, e_neg, e_kNg, e_ite, e_kIte1, e_kIte0, e_tup, e_kTup, e_lst, e_kLst, e_mk1, e_mk0, e_anil, e_acons, e_kCs, e_kCs2, e_call, e_blt, e_kOA, e_ix, e_slc, e_kSl1, e_kSl2, e_kSl3, e_ono, e_oso, e_kPt, e_rev, e_kRev, e_lc, e_kLc, e_lr1, e_lr2, e_kRg1, e_kRg2, e_ien, e_izp, e_kEnL, e_kEnR, e_kZpL, e_kZpT, e_mth, e_mth0, e_kM1, e_kM0, e_kM2, e_frz, e_tv, e_ttr, e_tcmp, e_tchn, e_kB, e_kTr, e_trb, e_tri, e_tbop, e_t1, e_tA, e_tO, e_kATt, e_kATf, e_kOTt, e_kOTf, e_tnot, e_kNT, e_ono_t, e_oso_t, e_iseq, e_kIt, e_ir1, e_ir2, e_r1, e_r2, o_eqI, o_neI, o_ltI, o_leI, o_gtI, o_geI, o_addI, o_subI, o_mulI, o_fdivI, o_modI, o_powI, o_iaddI, e_kAt, o_ixL, o_ixT, o_ixR, e_kPl, o_setR, o_getR, o_lenL, o_lenT, o_lenR, o_slL, o_slS, o_slT, o_revL, o_revR, o_itL, o_itT, o_itS, o_itR, o_listL, o_listR, o_addL, o_mulL, o_app, o_tyL, o_isi, o_absI, o_maxI, o_minI, List.getElem?_cons_zero, List.getElem?_cons_succ, List.set_cons_zero, List.set_cons_succ, BO.w, cmpW, AO.w, BI.oa, isRef, Mth.ty, Mth.w, Tg.rd, TgL.rd, TgL.len, gNm, gTp, gCo, gNo, List.length_cons, List.length_nil, List.map_cons, List.map_nil, List.nil_append, List.cons_append, List.append_nil, true_and, and_true, Nat.reduceAdd, h0, h2, h3, h4, h5, h6, h7, h8, c_take, c_int, c_bl, spSize, spFigs, spAlike, spNumOf, l_int, l_lst, l_tup, Bool.not_true, Bool.not_false, decide_true, decide_false, o_minI, o_maxI, o_ltRows, z, decide_true] at tl ⊢
    exact tl
  · have ew := figs_put p2 (show 0 < one by omega) r0 r1
    have tl := law_tail en hE E Z p m one other _ p2 p4 m0 (by omega) o0 o1 r0 r1 rfl s0 c2 (some (.int (p ^ m.toNat))) c12 c13 c14 (fun c12 c13 c14 => hn _ _ _ _ _ _ _ _ _ _ _ _)
    rw [ew] at tl
    simp only [e_nil, e_cons, e_doc, e_pass, e_brk, e_cnt, e_ret, e_retN, e_expr, e_kDrop, e_if, e_kIf1, e_kIf0, e_whl, e_for, e_kFor, e_set, e_kSet, e_unp, e_kUnp, e_put, e_kPut, e_kPut2, e_kPut3, e_par, e_par3, e_kPar3, e_kPar, e_aug, e_kAug, e_kAug2, e_augS, e_kAS1, e_kAS2, e_kAS3, e_kAS4, e_kAS5, e_setLc, e_var, e_val, e_int, e_bl, e_non, e_str, e_glo, e_bin, e_cmp, e_kB1, e_kB2, e_chn, e_kC0, e_kC1, e_kC2t, e_kC2f, e_kC3, e_bop, e_b1, e_bA, e_bO, e_kAVt, e_kAVf, e_kOVt, e_kOVf, e_not, e_kNV, e_neg, e_kNg, e_ite, e_kIte1, e_kIte0, e_tup, e_kTup, e_lst, e_kLst, e_mk1, e_mk0, e_anil, e_acons, e_kCs, e_kCs2, e_call, e_blt, e_kOA, e_ix, e_slc, e_kSl1, e_kSl2, e_kSl3, e_ono, e_oso, e_kPt, e_rev, e_kRev, e_lc, e_kLc, e_lr1, e_lr2, e_kRg1, e_kRg2, e_ien, e_izp, e_kEnL, e_kEnR, e_kZpL, e_kZpT, e_mth, e_mth0, e_kM1, e_kM0, e_kM2, e_frz, e_tv, e_ttr, e_tcmp, e_tchn, e_kB, e_kTr, e_trb, e_tri, e_tbop, e_t1, e_tA, e_tO, e_kATt, e_kATf, e_kOTt, e_kOTf, e_tnot, e_kNT, e_ono_t, e_oso_t, e_iseq, e_kIt, e_ir1, e_ir2, e_r1, e_r2, o_eqI, o_neI, o_ltI, o_leI, o_gtI, o_geI, o_addI, o_subI, o_mulI, o_fdivI, o_modI, o_powI, o_iaddI, e_kAt, o_ixL, o_ixT, o_ixR, e_kPl, o_setR, o_getR, o_lenL, o_lenT, o_lenR, o_slL, o_slS, o_slT, o_revL, o_revR, o_itL, o_itT, o_itS, o_itR, o_listL, o_listR, o_addL, o_mulL, o_app, o_tyL, o_isi, o_absI, o_maxI, o_minI, List.getElem?_cons_zero, List.getElem?_cons_succ, List.set_cons_zero, List.set_cons_succ, BO.w, cmpW, AO.w, BI.oa, isRef, Mth.ty, Mth.w, Tg.rd, TgL.rd, TgL.len, gNm, gTp, gCo, gNo, List.length_cons, List.length_nil, List.map_cons, List.map_nil, List.nil_append, List.cons_append, List.append_nil, true_and, and_true, Nat.reduceAdd, h0, h2, h3, h4, h5, h6, h7, h8, c_take, c_int, c_bl, spSize, spFigs, spAlike, spNumOf, l_int, l_lst, l_tup, Bool.not_true, Bool.not_false, decide_true, decide_false, o_minI, o_maxI, o_ltRows, z, decide_false, Bool.false_eq_true, if_false]
    exact tl
theorem read_law (en : Nat → Option Ent) (hE : En13 en) (ds : List D) (M : MC) (Q : QD) (E : Exc → MC → Prop) (h : spLaw ds M Q E) :
    (b_law.rd en) (raiD M.length E) { nx := fun _ M' => retD M.length Q .non M', rt := retD M.length Q } (startD ["script", "bag", "turn", "pace", "many", "one", "size", "other", "whole", "front", "rest", "due", "told", "nearby", "its"] ds) M := by
  obtain ⟨zs, rfl, hl, rfl, q⟩ := h
  show (SsL.rd en b_law) (raiD 0 E) { nx := fun _ M' => retD 0 Q .non M', rt := retD 0 Q } [some (.scr zs), none, none, none, none, none, none, none, none, none, none, none, none, none, none] []
  have h0 := hE.h0
  unfold b_law
  simp only [e_nil, e_cons, e_doc, e_pass, e_brk, e_cnt, e_ret, e_retN, e_expr, e_kDrop, e_if, e_kIf1, e_kIf0, e_whl, e_for, e_kFor, e_set, e_kSet, e_unp, e_kUnp, e_put, e_kPut, e_kPut2, e_kPut3, e_par, e_par3, e_kPar3, e_kPar, e_aug, e_kAug, e_kAug2, e_augS, e_kAS1, e_kAS2, e_kAS3, e_kAS4, e_kAS5, e_setLc, e_var, e_val, e_int, e_bl, e_non, e_str, e_glo, e_bin, e_cmp, e_kB1, e_kB2, e_chn, e_kC0, e_kC1, e_kC2t, e_kC2f, e_kC3, e_bop, e_b1, e_bA, e_bO, e_kAVt, e_kAVf, e_kOVt, e_kOVf, e_not, e_kNV, e_neg, e_kNg, e_ite, e_kIte1, e_kIte0, e_tup, e_kTup, e_lst, e_kLst, e_mk1, e_mk0, e_anil, e_acons, e_kCs, e_kCs2, e_call, e_blt, e_kOA, e_ix, e_slc, e_kSl1, e_kSl2, e_kSl3, e_ono, e_oso, e_kPt, e_rev, e_kRev, e_lc, e_kLc, e_lr1, e_lr2, e_kRg1, e_kRg2, e_ien, e_izp, e_kEnL, e_kEnR, e_kZpL, e_kZpT, e_mth, e_mth0, e_kM1, e_kM0, e_kM2, e_frz, e_tv, e_ttr, e_tcmp, e_tchn, e_kB, e_kTr, e_trb, e_tri, e_tbop, e_t1, e_tA, e_tO, e_kATt, e_kATf, e_kOTt, e_kOTf, e_tnot, e_kNT, e_ono_t, e_oso_t, e_iseq, e_kIt, e_ir1, e_ir2, e_r1, e_r2, o_eqI, o_neI, o_ltI, o_leI, o_gtI, o_geI, o_addI, o_subI, o_mulI, o_fdivI, o_modI, o_powI, o_iaddI, e_kAt, o_ixL, o_ixT, o_ixR, e_kPl, o_setR, o_getR, o_lenL, o_lenT, o_lenR, o_slL, o_slS, o_slT, o_revL, o_revR, o_itL, o_itT, o_itS, o_itR, o_listL, o_listR, o_addL, o_mulL, o_app, o_tyL, o_isi, o_absI, o_maxI, o_minI, List.getElem?_cons_zero, List.getElem?_cons_succ, List.set_cons_zero, List.set_cons_succ, BO.w, cmpW, AO.w, BI.oa, isRef, Mth.ty, Mth.w, Tg.rd, TgL.rd, TgL.len, gNm, gTp, gCo, gNo, List.length_cons, List.length_nil, List.map_cons, List.map_nil, List.nil_append, List.cons_append, List.append_nil, true_and, and_true, Nat.reduceAdd, h0, c_bag]
  refine ⟨hl, ⟨by decide, by decide⟩, ?_⟩
  have key : ∀ (rem : List D) (c2 c3 c4 c5 c6 c7 c8 c9 c10 c11 c12 c13 c14 : Option D),
      loopD (gNm 2) (SsL.rd en b_law_1) (fun _ => True) (raiD 0 E) (law_Z en Q E) rem [some (.scr zs), some (.ref 0), c2, c3, c4, c5, c6, c7, c8, c9, c10, c11, c12, c13, c14] [.bag] := by
    intro rem
    induction rem with
    | nil =>
      intro c2 c3 c4 c5 c6 c7 c8 c9 c10 c11 c12 c13 c14
      exact ⟨trivial, law_end en Q E q _⟩
    | cons d r ih =>
      intro c2 c3 c4 c5 c6 c7 c8 c9 c10 c11 c12 c13 c14
      exact ⟨trivial, law_turn en hE E _ (some (.scr zs)) (some d) c3 c4 c5 c6 c7 c8 c9 c10 c11 c12 c13 c14 fun c3 c4 c5 c6 c7 c8 c9 c10 c11 c12 c13 c14 => ih (some d) c3 c4 c5 c6 c7 c8 c9 c10 c11 c12 c13 c14⟩
  exact key _ none none none none none none none none none none none none none
end DL
set_option Elab.async false
set_option linter.all false
set_option maxRecDepth 100000
set_option maxHeartbeats 0
namespace DL
open PySem PySem.Spec L2

def topS (i : Nat) : Stmt := PySem.Challenge.pw_halfpace_k13_figures_put_together.main.body.getD i (.Pass ⟨0, 0, 0, 0⟩)
def dd_law_bag : He.DefD := ⟨("_law_bag", none), "_law_bag", "_law_bag", defArgs (topS 4), defBody (topS 4), defScope (topS 4), [], []⟩
def dd_law_take : He.DefD := ⟨("_law_take", none), "_law_take", "_law_take", defArgs (topS 5), defBody (topS 5), defScope (topS 5), [], []⟩
def dd_law_size : He.DefD := ⟨("_law_size", none), "_law_size", "_law_size", defArgs (topS 7), defBody (topS 7), defScope (topS 7), [], []⟩
def dd_figures_of : He.DefD := ⟨("figures_of", none), "figures_of", "figures_of", defArgs (topS 1), defBody (topS 1), defScope (topS 1), [], []⟩
def dd_law_alike : He.DefD := ⟨("_law_alike", none), "_law_alike", "_law_alike", defArgs (topS 6), defBody (topS 6), defScope (topS 6), [], []⟩
def dd_number_of : He.DefD := ⟨("number_of", none), "number_of", "number_of", defArgs (topS 2), defBody (topS 2), defScope (topS 2), [], []⟩
def dd_law : He.DefD := ⟨("law", none), "law", "law", defArgs (topS 8), defBody (topS 8), defScope (topS 8), [], []⟩
def fnL : List He.DefD := [dd_law_bag, dd_law_take, dd_law_size, dd_figures_of, dd_law_alike, dd_number_of, dd_law]
def faL : List He.Fa := [.glo "_law_bag", .glo "_law_take", .glo "_law_size", .glo "figures_of", .glo "_law_alike", .glo "number_of", .glo "law", .free "abs", .free "len", .free "range", .free "repr", .free "max"]
abbrev rowR : PySem.W.OpenRow := PySem.W.OpenLaw.row PySem.Challenge.rw_halfpace_k13_figures_put_together
abbrev hkD : PySem.W.Hook := He.hookD 4 faL fnL
def obD (s : PySem.W.SharedT) : He.AlD := He.obsDG 4 faL fnL (HandSHeadRun.getT s)
theorem ob_eqD (s : PySem.W.SharedT) : obD s = hkD.obs s.abs := He.obsDG_eq (HandSHeadRun.getT_eq s)
theorem runD (w : World) : HandSHeadRun.RunEq rowR (PySem.W.view rowR.prog [8]) hkD obD 4000 ["figures_of", "number_of", "_law_bag", "_law_take", "_law_alike", "_law_size"] w := by
  intro os
  kernel_rfl
section
variable {P : Program} {w : World} {K : PySem.W.Frag} {mg : Str → Option Value} {base : Heap}
theorem sc_law_bag : FnScope ["script", "cell"] ["script"] (defScope (topS 4)) := ⟨rfl, rfl, rfl, by decide +kernel, rfl, by decide +kernel, by decide +kernel⟩
theorem g_law_bag0 (c : He.SaysD faL fnL K) (X : K.In base) (G : base.Ns mainGlobals mg) : GFn P w K mg base "_law_bag" 1 spBag0 := by
  obtain ⟨fd, F⟩ := c.def_ 0 (d := dd_law_bag) rfl
  refine def_gfn (N := ["script", "cell"]) (n := 1) (G := [("abs", .bi .abs)]) (gl := []) (b := b_law_bag) F (He.glo_ok X G (c.fact 0 (f := .glo "_law_bag") rfl)) sc_law_bag (F.bindsN fun _ _ _ _ _ _ us hl => match us, hl with | [_], _ => rfl)
    (by decide +kernel) (by decide +kernel) (by kernel_rfl) ⟨⟨rfl, He.free_ok X G (c.fact 7 (f := .free "abs") rfl)⟩, trivial⟩ (fun ds M Q E h => ?_) (fun ds M Q E h => read_bag _ rfl ds M Q E h)
  obtain ⟨zs, rfl, _⟩ := h; rfl
theorem g_law_bag (c : He.SaysD faL fnL K) (X : K.In base) (G : base.Ns mainGlobals mg) : GFn P w K mg base "_law_bag" 1 spBag := bag_bag (g_law_bag0 c X G)
theorem sc_law_take : FnScope ["bag", "many", "cell", "value", "first", "second"] ["bag", "many"] (defScope (topS 5)) := ⟨rfl, rfl, rfl, by decide +kernel, rfl, by decide +kernel, by decide +kernel⟩
theorem g_law_take0 (c : He.SaysD faL fnL K) (X : K.In base) (G : base.Ns mainGlobals mg) : GFn P w K mg base "_law_take" 1 spTake0 := by
  obtain ⟨fd, F⟩ := c.def_ 1 (d := dd_law_take) rfl
  refine def_gfn (N := ["bag", "many", "cell", "value", "first", "second"]) (n := 6) (G := [("len", .bi .len)]) (gl := [0]) (b := b_law_take) F (He.glo_ok X G (c.fact 1 (f := .glo "_law_take") rfl)) sc_law_take (F.bindsN fun _ _ _ _ _ _ us hl => match us, hl with | [_, _], _ => rfl)
    (by decide +kernel) (by decide +kernel) (by kernel_rfl) ⟨⟨rfl, He.free_ok X G (c.fact 8 (f := .free "len") rfl)⟩, trivial⟩ (fun ds M Q E h => ?_) (fun ds M Q E h => read_take _ rfl ds M Q E h)
  obtain ⟨m, b, rfl, _⟩ := h; rfl
theorem g_law_take (c : He.SaysD faL fnL K) (X : K.In base) (G : base.Ns mainGlobals mg) : GFn P w K mg base "_law_take" 1 spTake := take_bag (g_law_take0 c X G)
theorem sc_law_size : FnScope ["pace", "many", "size", "k"] ["pace", "many"] (defScope (topS 7)) := ⟨rfl, rfl, rfl, by decide +kernel, rfl, by decide +kernel, by decide +kernel⟩
theorem g_law_size (c : He.SaysD faL fnL K) (X : K.In base) (G : base.Ns mainGlobals mg) : GFn P w K mg base "_law_size" 1 spSize := by
  obtain ⟨fd, F⟩ := c.def_ 2 (d := dd_law_size) rfl
  refine def_gfn (N := ["pace", "many", "size", "k"]) (n := 4) (G := [("range", .bi .range)]) (gl := [0]) (b := b_law_size) F (He.glo_ok X G (c.fact 2 (f := .glo "_law_size") rfl)) sc_law_size (F.bindsN fun _ _ _ _ _ _ us hl => match us, hl with | [_, _], _ => rfl)
    (by decide +kernel) (by decide +kernel) (by kernel_rfl) ⟨⟨rfl, He.free_ok X G (c.fact 9 (f := .free "range") rfl)⟩, trivial⟩ (fun ds M Q E h => ?_) (fun ds M Q E h => read_law_size _ ds M Q E h)
  obtain ⟨_, v, ⟨n, p, rfl, _⟩, _⟩ := h; rfl
theorem sc_figures_of : FnScope ["number", "pace", "found"] ["number", "pace"] (defScope (topS 1)) := ⟨rfl, rfl, rfl, by decide +kernel, rfl, by decide +kernel, by decide +kernel⟩
theorem g_figures_of (c : He.SaysD faL fnL K) (X : K.In base) (G : base.Ns mainGlobals mg) : GFn P w K mg base "figures_of" 1 spFigs := by
  obtain ⟨fd, F⟩ := c.def_ 3 (d := dd_figures_of) rfl
  refine def_gfn (N := ["number", "pace", "found"]) (n := 3) (G := []) (gl := []) (b := b_figures_of) F (He.glo_ok X G (c.fact 3 (f := .glo "figures_of") rfl)) sc_figures_of (F.bindsN fun _ _ _ _ _ _ us hl => match us, hl with | [_, _], _ => rfl)
    (by decide +kernel) (by decide +kernel) (by kernel_rfl) ⟨⟩ (fun ds M Q E h => ?_) (fun ds M Q E h => read_figures_of _ ds M Q E h)
  obtain ⟨_, v, ⟨n, p, rfl, _⟩, _⟩ := h; rfl
theorem sc_law_alike : FnScope ["found", "due"] ["found", "due"] (defScope (topS 6)) := ⟨rfl, rfl, rfl, by decide +kernel, rfl, by decide +kernel, by decide +kernel⟩
theorem g_law_alike (c : He.SaysD faL fnL K) (X : K.In base) (G : base.Ns mainGlobals mg) : GFn P w K mg base "_law_alike" 1 spAlike := by
  obtain ⟨fd, F⟩ := c.def_ 4 (d := dd_law_alike) rfl
  refine def_gfn (N := ["found", "due"]) (n := 2) (G := [("repr", .bi .repr)]) (gl := [0]) (b := b_law_alike) F (He.glo_ok X G (c.fact 4 (f := .glo "_law_alike") rfl)) sc_law_alike (F.bindsN fun _ _ _ _ _ _ us hl => match us, hl with | [_, _], _ => rfl)
    (by decide +kernel) (by decide +kernel) (by kernel_rfl) ⟨⟨rfl, He.free_ok X G (c.fact 10 (f := .free "repr") rfl)⟩, trivial⟩ (fun ds M Q E h => ?_) (fun ds M Q E h => read_alike _ rfl ds M Q E h)
  obtain ⟨_, v, ⟨d, rfl, _⟩, _⟩ := h; rfl
theorem sc_number_of : FnScope ["figures", "pace", "number", "figure"] ["figures", "pace"] (defScope (topS 2)) := ⟨rfl, rfl, rfl, by decide +kernel, rfl, by decide +kernel, by decide +kernel⟩
theorem g_number_of (c : He.SaysD faL fnL K) (X : K.In base) (G : base.Ns mainGlobals mg) : GFn P w K mg base "number_of" 1 spNumOf := by
  obtain ⟨fd, F⟩ := c.def_ 5 (d := dd_number_of) rfl
  refine def_gfn (N := ["figures", "pace", "number", "figure"]) (n := 4) (G := []) (gl := []) (b := b_number_of) F (He.glo_ok X G (c.fact 5 (f := .glo "number_of") rfl)) sc_number_of (F.bindsN fun _ _ _ _ _ _ us hl => match us, hl with | [_, _], _ => rfl)
    (by decide +kernel) (by decide +kernel) (by kernel_rfl) ⟨⟩ (fun ds M Q E h => ?_) (fun ds M Q E h => read_number_of _ ds M Q E h)
  obtain ⟨_, v, ⟨n, p, rfl, _⟩, _⟩ := h; rfl
theorem sc_law : FnScope ["script", "bag", "turn", "pace", "many", "one", "size", "other", "whole", "front", "rest", "due", "told", "nearby", "its"] ["script"] (defScope (topS 8)) := ⟨rfl, rfl, rfl, by decide +kernel, rfl, by decide +kernel, by decide +kernel⟩
theorem g_law {f : Addr} {fd : FuncData} (F : FunD K "law" "law" (defArgs (topS 8)) (defBody (topS 8)) (defScope (topS 8)) [] [] f fd) (c : He.SaysD faL fnL K) (X : K.In base) (G : base.Ns mainGlobals mg) : FnD P w K mg base 2 f fd ["script"] spLaw := by
  refine def_fnd (N := ["script", "bag", "turn", "pace", "many", "one", "size", "other", "whole", "front", "rest", "due", "told", "nearby", "its"]) (n := 15) (G := [("_law_bag", .fn 0 spBag), ("range", .bi .range), ("_law_take", .fn 1 spTake), ("_law_size", .fn 0 spSize), ("figures_of", .fn 0 spFigs), ("len", .bi .len), ("_law_alike", .fn 0 spAlike), ("number_of", .fn 0 spNumOf), ("max", .bi .max)]) (gl := [0, 1, 2, 3, 4, 5, 6, 7, 8]) (b := b_law) F sc_law
    (by decide +kernel) (by decide +kernel) (by kernel_rfl) ⟨⟨1, by decide, g_law_bag c X G⟩, ⟨rfl, He.free_ok X G (c.fact 9 (f := .free "range") rfl)⟩, ⟨1, by decide, g_law_take c X G⟩, ⟨1, by decide, g_law_size c X G⟩, ⟨1, by decide, g_figures_of c X G⟩, ⟨rfl, He.free_ok X G (c.fact 8 (f := .free "len") rfl)⟩, ⟨1, by decide, g_law_alike c X G⟩, ⟨1, by decide, g_number_of c X G⟩, ⟨rfl, He.free_ok X G (c.fact 11 (f := .free "max") rfl)⟩, trivial⟩ (fun ds M Q E h => ?_) (fun ds M Q E h => read_law _ ⟨rfl, rfl, rfl, rfl, rfl, rfl, rfl, rfl⟩ ds M Q E h)
  obtain ⟨zs, rfl, _⟩ := h; rfl
end
end DL
open PySem PySem.W PySem.Calls PyProof.Rows
theorem PySem.Challenge.cw_halfpace_k13_figures_put_together_holds : PySem.Challenge.rw_halfpace_k13_figures_put_together.Holds := by
  w_on; o_law
  refine HandSHeadRun.head_any (r := OpenLaw.row PySem.Challenge.rw_halfpace_k13_figures_put_together) (q := view (OpenLaw.row PySem.Challenge.rw_halfpace_k13_figures_put_together).prog [8]) (H := DL.hkD) (ob := DL.obD) (M := 4000) (loose := ["figures_of", "number_of", "_law_bag", "_law_take", "_law_alike", "_law_size"]) (d := HandSHeadRun.topDef (OpenLaw.row PySem.Challenge.rw_halfpace_k13_figures_put_together).prog 8) (kwd := []) DL.ob_eqD
    (by kernel_rfl) (fun s => by kernel_rfl) DL.runD (by kernel_rfl) (by kernel_rfl) (by kernel_rfl) (by rfl) (by first | assumption | decide +kernel) (by decide +kernel) ⟨rfl, rfl, rfl, rfl, rfl, by decide +kernel⟩ ?hw ?hc
  case hw => w_witness2
  case hc =>
    refine DL.law_walk (l := PySem.Challenge.rw_halfpace_k13_figures_put_together) (n := 63) (k := 2) (x := "script") rfl (by decide) (by kernel_rfl) ⟨rfl, by decide, by decide⟩ ?F
    intro w mg fl h Y G at0
    obtain ⟨K, inK, c⟩ := Y
    have at1 : mg ("law" : PySem.Str) = some (.ref fl) := by
      have e : (HandSHeadRun.topDef (OpenLaw.row PySem.Challenge.rw_halfpace_k13_figures_put_together).prog 8).name = ("law" : PySem.Str) := by kernel_rfl
      rw [← e]
      exact at0
    obtain ⟨fd, F⟩ := c.def_ 6 (d := DL.dd_law) rfl
    have e := at1.symm.trans (He.glo_ok inK G (c.fact 6 (f := .glo "law") rfl))
    cases e
    have b := L2.FunD.bindsA (ps := ["script"]) F fun _ _ _ _ _ _ us hl => match us, hl with | [_], _ => rfl
    refine ⟨K, fd, DL.spLaw, inK, fun s u => b s [u] rfl, fun zs hz => ⟨zs, rfl, hz, rfl, rfl, rfl⟩, fun base inB gB => ?_⟩
    exact DL.g_law F c inB gB
