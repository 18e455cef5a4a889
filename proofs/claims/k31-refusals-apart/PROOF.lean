import PyProof.Rows.All
import Wide.All
import OpenK.AllK
import Wide.FinOn
import HandS.ForMost
import HandS.ForExc
import HandS.Lambda
import HandS.HotCalls
import HandS.IsInst
import HandS.Zip
import HandS.TupAny
import HandS.TupMul
import HandS.Wide
import HandS.Style
import HandS.Deep
import HandS.ExcIs
import KE.KIndexOf
import KE.GoesNew
import KE.GoesZip
import KE.GoesMore
import HandS.TupSets
import HandS.SetFor
import KE.KeyNested
import KE.KTupSum
import HandS.Text
import HandS.FStr
import HandS.DictComp
import HandS.Small
import KE.KDictZip
import HandS.Head0
import HandS.Head1
import HandS.Head2
import HandS.HeadEnd
import HandS.HeadHook1
import HandS.HeadHook2
import HandS.HeadWalk
import HandS.Words
import HandS.WordsExc
import HandS.Defaults
import HandS.More
import HandS.Set
import HandS.Strs
import PyProof.P3In
import HandS.WordsDict
import KE.DataMinMax
import KE.SortData
import KE.SortKeyHeap
import KE.KDictDisplayH
import HandS.TupLen
import KE.DataCmp
import KE.KDictSum
import PySem.Challenge.RW_manyends_k31_refusals_apart
set_option Elab.async false
set_option linter.all false
set_option maxRecDepth 100000
set_option maxHeartbeats 8000000
/-! The data layer: plain data D, what stands for it in a region of the heap, and readings by functions over data. -/
namespace FW
open PySem PySem.Spec PyProof.Rows L2

/-- plain data; dice: the one list of two numbers that a round's draws change -/
inductive D where
  | non | bl (b : Bool) | int (i : Int) | str (x : Str) | tup (ds : List D) | lst (ds : List D) | dct (kvs : List (D × D)) | dice | par (ds : List D) | dtt (kvs : List (D × D)) | dtf (kvs : List (D × D)) | exn (C : Addr) | hs (C : Addr) (kept table known : D)

/-- an exception of the class at C -/
def ExnP (C a : Addr) : Heap → Prop := fun h => ∃ o : Obj, h.get? a = some o ∧ (o.cls = .ref C ∧ o.dict = none) ∧ ∃ vs, o.data = .fields vs
def ExnO (C a : Addr) : HO := .ext (ExnP C a)
/-- the fields of a House -/
abbrev hsF (v1 v2 v3 v4 : V) : List (Str × V) := [("kept", v1), ("table", v2), ("known", v3), ("past", v4)]
/-- what stands aside: the dice's address, the tables of code objects -/
structure Gd where
  dz : Addr
  T : List (Addr × Str)

/-- texts alone, at least one -/
def strV : V → Bool
  | .str _ => true
  | _ => false
def refV : V → Bool
  | .ref _ => true
  | _ => false
def strsV (xs : List V) : Bool := !xs.isEmpty && (xs.all strV || xs.all refV)
/-- a tuple as it stands: one of texts is known to the last (its methods may be asked) -/
def TupO (xs : List V) (u : HO) : Prop := (u = .tup xs ∧ strsV xs = false) ∨ ∃ o : Obj, (o.dict = none ∧ strsV xs = true) ∧ u = .frz o (.tup xs)
theorem TupO.nt {xs : List V} {u : HO} (h : TupO xs u) : ∀ ps, u ≠ .tbl ps := fun ps e => by
  rcases h with ⟨h, _⟩ | ⟨o, _, h⟩ <;> (rw [h] at e; cases e)
def strD : D → Bool
  | .str _ => true
  | _ => false
def refD : D → Bool
  | .non => false
  | .bl _ => false
  | .int _ => false
  | .str _ => false
  | _ => true
def strsD (xs : List D) : Bool := !xs.isEmpty && (xs.all strD || xs.all refD)
def kD : Key → D
  | .inl i => .int i
  | .inr x => .str x

mutual
inductive DR (g : Gd) (I : Hp) : V → D → Prop
  | non : DR g I .non .non
  | bl (b : Bool) : DR g I (.bl b) (.bl b)
  | int (i : Int) : DR g I (.int i) (.int i)
  | str (x : Str) : DR g I (.str x) (.str x)
  | tup {a : Addr} {xs : List V} {ds : List D} {u : HO} : I a = some u → TupO xs u → DRs g I xs ds → DR g I (.ref a) (.tup ds)
  | par {a : Addr} {xs : List V} {ds : List D} : I a = some (.tup xs) → DRs g I xs ds → DR g I (.ref a) (.par ds)
  | lst {a : Addr} {xs : List V} {ds : List D} : I a = some (.lst xs) → DRs g I xs ds → DR g I (.ref a) (.lst ds)
  | dK {a : Addr} {es : List (Key × V)} {kvs : List (D × D)} : Rd I a (.dK es) → DRk g I es kvs → DR g I (.ref a) (.dct kvs)
  | dT {a : Addr} {es : List (List Key × V)} {kvs : List (D × D)} : Rd I a (.dT es) → DRt g I es kvs → DR g I (.ref a) (.dtt kvs)
  | dF {a : Addr} {o : Obj} {es : List (List Key × V)} {kvs : List (D × D)} : I a = some (.frz o (.dT es)) → DRt g I es kvs → DR g I (.ref a) (.dtf kvs)
  | dice : DR g I (.ref g.dz) .dice
  | exn {a C : Addr} : I a = some (ExnO C a) → DR g I (.ref a) (.exn C)
  | hs {a C dx : Addr} {v1 v2 v3 v4 : V} {d1 d2 d3 : D} : I a = some (.ins C dx (hsF v1 v2 v3 v4)) → DR g I v1 d1 → DR g I v2 d2 → DR g I v3 d3 → DR g I (.ref a) (.hs C d1 d2 d3)
inductive DRs (g : Gd) (I : Hp) : List V → List D → Prop
  | nil : DRs g I [] []
  | cons {v : V} {vs : List V} {d : D} {ds : List D} : DR g I v d → DRs g I vs ds → DRs g I (v :: vs) (d :: ds)
inductive DRk (g : Gd) (I : Hp) : List (Key × V) → List (D × D) → Prop
  | nil : DRk g I [] []
  | cons {k : Key} {v : V} {es : List (Key × V)} {d : D} {kvs : List (D × D)} : DR g I v d → DRk g I es kvs → DRk g I ((k, v) :: es) ((kD k, d) :: kvs)
inductive DRt (g : Gd) (I : Hp) : List (List Key × V) → List (D × D) → Prop
  | nil : DRt g I [] []
  | cons {k : List Key} {v : V} {es : List (List Key × V)} {d : D} {kvs : List (D × D)} : DR g I v d → DRt g I es kvs → DRt g I ((k, v) :: es) ((.tup (k.map kD), d) :: kvs)
end

def Sub (I H : Hp) : Prop := ∀ a o, I a = some o → H a = some o
theorem Sub.refl (I : Hp) : Sub I I := fun _ _ h => h
theorem Sub.trans {I J H : Hp} (p : Sub I J) (q : Sub J H) : Sub I H := fun a o h => q a o (p a o h)
theorem Sub.rd {I J : Hp} {a : Addr} {u : HO} (s : Sub I J) (h : Rd I a u) : Rd J a u := h.elim (fun e => .inl (s _ _ e)) fun ⟨o, e⟩ => .inr ⟨o, s _ _ e⟩

section
variable {g : Gd} {I J : Hp}
mutual
theorem DR.mono (s : Sub I J) : ∀ {v : V} {d : D}, DR g I v d → DR g J v d
  | _, _, .non => .non
  | _, _, .bl b => .bl b
  | _, _, .int i => .int i
  | _, _, .str x => .str x
  | _, _, .tup h u t => .tup (s _ _ h) u (DRs.mono s t)
  | _, _, .par h t => .par (s _ _ h) (DRs.mono s t)
  | _, _, .lst h t => .lst (s _ _ h) (DRs.mono s t)
  | _, _, .dK h t => .dK (s.rd h) (DRk.mono s t)
  | _, _, .dT h t => .dT (s.rd h) (DRt.mono s t)
  | _, _, .dF h t => .dF (s _ _ h) (DRt.mono s t)
  | _, _, .dice => .dice
  | _, _, .exn h => .exn (s _ _ h)
  | _, _, .hs h r1 r2 r3 => .hs (s _ _ h) (DR.mono s r1) (DR.mono s r2) (DR.mono s r3)
theorem DRs.mono (s : Sub I J) : ∀ {v : List V} {d : List D}, DRs g I v d → DRs g J v d
  | _, _, .nil => .nil
  | _, _, .cons h t => .cons (DR.mono s h) (DRs.mono s t)
theorem DRk.mono (s : Sub I J) : ∀ {v : List (Key × V)} {d : List (D × D)}, DRk g I v d → DRk g J v d
  | _, _, .nil => .nil
  | _, _, .cons h t => .cons (DR.mono s h) (DRk.mono s t)
theorem DRt.mono (s : Sub I J) : ∀ {v : List (List Key × V)} {d : List (D × D)}, DRt g I v d → DRt g J v d
  | _, _, .nil => .nil
  | _, _, .cons h t => .cons (DR.mono s h) (DRt.mono s t)
end
theorem DRs.len : ∀ {vs : List V} {ds : List D}, DRs g I vs ds → vs.length = ds.length
  | _, _, .nil => rfl
  | _, _, .cons _ t => congrArg (· + 1) (DRs.len t)
theorem DR.strV {v : V} {d : D} (h : DR g I v d) : strV v = strD d := by cases h <;> rfl
theorem DR.refV {v : V} {d : D} (h : DR g I v d) : refV v = refD d := by cases h <;> rfl
theorem DRs.at_ : ∀ {vs : List V} {ds : List D} {i : Nat} {d : D}, DRs g I vs ds → ds[i]? = some d → ∃ v, vs[i]? = some v ∧ DR g I v d
  | _, _, _, _, .nil, h => by simp at h
  | _, _, 0, _, .cons r _, h => by simp at h; subst h; exact ⟨_, rfl, r⟩
  | _, _, i + 1, d, .cons _ t, h => by
    obtain ⟨v, h1, h2⟩ := DRs.at_ (i := i) (d := d) t (by simpa using h)
    exact ⟨v, by simpa using h1, h2⟩
theorem DRs.drop : ∀ {vs : List V} {ds : List D} (n : Nat), DRs g I vs ds → DRs g I (vs.drop n) (ds.drop n)
  | _, _, 0, h => h
  | _, _, _ + 1, .nil => .nil
  | _, _, n + 1, .cons _ t => DRs.drop n t
theorem DRs.take : ∀ {vs : List V} {ds : List D} (n : Nat), DRs g I vs ds → DRs g I (vs.take n) (ds.take n)
  | _, _, 0, _ => .nil
  | _, _, _ + 1, .nil => .nil
  | _, _, n + 1, .cons r t => .cons r (DRs.take n t)
theorem DRs.set : ∀ {vs : List V} {ds : List D} {v : V} {d : D} (i : Nat), DRs g I vs ds → DR g I v d → DRs g I (vs.set i v) (ds.set i d)
  | _, _, _, _, _, .nil, _ => .nil
  | _, _, _, _, 0, .cons _ t, h => .cons h t
  | _, _, _, _, i + 1, .cons r t, h => .cons r (DRs.set i t h)
end

/-! ### the ground, a step over it -/
structure Rl (g : Gd) (I H : Hp) : Prop where
  sub : Sub I H
  dz : I g.dz = none
  dice : ∃ x y : Int, H g.dz = some (.lst [.int x, .int y])
  tab : LamX.Tabs g.T H
  nt : ∀ a ps, I a ≠ some (.tbl ps)
/-- nothing stands there, or a table of code objects -/
def NT (H : Hp) (a : Addr) : Prop := ∀ u, H a = some u → ∃ ps, u = HO.tbl ps
theorem NT.of {H : Hp} {a : Addr} (h : H a = none) : NT H a := fun u e => by rw [h] at e; cases e
/-- new, or a tuple that stood beside -/
def NW (H : Hp) (a : Addr) (o : HO) : Prop := NT H a ∨ (H a = some o ∧ ∃ xs, o = .tup xs)
/-- the region grows by what is new; all but the dice (and tables, that grow) stands -/
structure Stp (g : Gd) (I H I' H' : Hp) : Prop where
  mono : Sub I I'
  new : ∀ a o, I' a = some o → I a = some o ∨ NW H a o
  keep : ∀ a o, a ≠ g.dz → (∀ ps, o ≠ .tbl ps) → H a = some o → H' a = some o
  rl : Rl g I' H'
section
variable {g : Gd} {I H I' H' I'' H'' : Hp}
theorem Rl.stp (r : Rl g I H) : Stp g I H I H := ⟨Sub.refl I, fun _ _ h => .inl h, fun _ _ _ _ h => h, r⟩
theorem Stp.back (s : Stp g I H I' H') {a : Addr} (h : NT H' a) : NT H a := fun u e => by
  by_cases hz : a = g.dz
  · subst hz
    obtain ⟨x, y, q⟩ := s.rl.dice
    obtain ⟨ps, e2⟩ := h _ q
    cases e2
  · by_cases ht : ∀ ps, u ≠ .tbl ps
    · exact h u (s.keep a u hz ht e)
    · exact Classical.byContradiction fun n => ht fun ps q => n ⟨ps, q⟩
theorem Stp.backW (s : Stp g I H I' H') {a : Addr} {o : HO} (h : NW H' a o) : NW H a o := by
  rcases h with h | ⟨h, xs, rfl⟩
  · exact .inl (s.back h)
  · by_cases n : NT H a
    · exact .inl n
    · refine .inr ⟨?_, xs, rfl⟩
      cases e : H a with
      | none => exact absurd (NT.of e) n
      | some u =>
        have nz : a ≠ g.dz := fun z => by
          obtain ⟨x, y, q⟩ := s.rl.dice
          rw [z, q] at h; cases h
        have ht : ∀ ps, u ≠ .tbl ps := fun ps z => n fun u' e' => by rw [e] at e'; cases e'; exact ⟨ps, z⟩
        have := s.keep a u nz ht e
        rw [h] at this; cases this; rfl
theorem Stp.trans (p : Stp g I H I' H') (q : Stp g I' H' I'' H'') : Stp g I H I'' H'' :=
  ⟨p.mono.trans q.mono, fun a o h => by
    rcases q.new a o h with z | z
    · exact p.new a o z
    · exact .inr (p.backW z), fun a o h1 h2 h3 => q.keep a o h1 h2 (p.keep a o h1 h2 h3), q.rl⟩
/-- a new object, laid beside the region -/
theorem Rl.lay (r : Rl g I H) {p : Addr} {o : HO} (hp : H p = none) : Stp g I H I (upd H p o) := by
  have nz : g.dz ≠ p := fun e => by
    obtain ⟨x, y, q⟩ := r.dice
    rw [e, hp] at q; cases q
  refine ⟨Sub.refl I, fun _ _ h => .inl h, fun a u _ _ h => ?_, ⟨fun a u h => ?_, r.dz, ?_, r.tab.ext fun a u h => ?_, r.nt⟩⟩
  · rw [upd_ne (ne_of_none h hp)]; exact h
  · rw [upd_ne (ne_of_none (r.sub a u h) hp)]; exact r.sub a u h
  · obtain ⟨x, y, q⟩ := r.dice
    exact ⟨x, y, by rw [upd_ne nz]; exact q⟩
  · rw [upd_ne (ne_of_none h hp)]; exact h
/-- what stands beside the region is taken in -/
theorem Rl.take (r : Rl g I H) {p : Addr} {o : HO} (hp : H p = some o) (hI : I p = none) (hz : p ≠ g.dz) (ho : ∀ ps, o ≠ .tbl ps) : Rl g (upd I p o) H := by
  refine ⟨fun a u h => ?_, by rw [upd_ne (Ne.symm hz)]; exact r.dz, r.dice, r.tab, fun a ps h => ?_⟩
  by_cases e : a = p
  · subst e; rw [upd_same] at h; cases h; exact hp
  · rw [upd_ne e] at h; exact r.sub a u h
  by_cases e : a = p
  · subst e; rw [upd_same] at h; exact ho ps (Option.some.inj h)
  · rw [upd_ne e] at h; exact r.nt a ps h
end

/-! ### results, environments -/
inductive Res (α : Type) where
  | ok (a : α) | exc (c : Str) | bad
@[reducible] def Res.bind {α β : Type} (r : Res α) (k : α → Res β) : Res β := match r with
  | .ok a => k a
  | .exc c => .exc c
  | .bad => .bad
abbrev Env := List (Option D)
abbrev FE := Env → Res D
abbrev FA := Env → Res (List D)
abbrev FT := Env → Res Bool

structure ER (g : Gd) (I : Hp) (σ : L2.St) (r : Env) : Prop where
  len : σ.length = r.length
  get : ∀ (i : Nat) (d : D), r[i]? = some (some d) → ∃ v, σ[i]? = some (some v) ∧ DR g I v d
theorem ER.mono {g : Gd} {I J : Hp} {σ : L2.St} {r : Env} (e : ER g I σ r) (s : Sub I J) : ER g J σ r := ⟨e.len, fun i d h => by
  obtain ⟨v, h1, h2⟩ := e.get i d h
  exact ⟨v, h1, h2.mono s⟩⟩

/-- an exception of the class that the module calls c -/
def EX (mg : Str → Option Value) (E : XK) (c : Str) (H : Hp) : Prop := ∀ C, mg c = some (.ref C) → E (.ref C) none H
section
variable (g : Gd) (mg : Str → Option Value) (E : XK)
/-- what a result asks; S v I' H': what v must be -/
def Pst {α β : Type} (R : Hp → β → α → Prop) (I H : Hp) (r : Res α) (Q : β → Hp → Prop) : Prop := match r with
  | .ok d => ∀ v I' H', Stp g I H I' H' → R I' v d → Q v H'
  | .exc c => ∀ I' H', Stp g I H I' H' → EX mg E c H'
  | .bad => False
end
section
variable {g : Gd} {mg : Str → Option Value} {E : XK} {I H I' H' : Hp}
theorem Pst.step {α β : Type} {R : Hp → β → α → Prop} {r : Res α} {Q : β → Hp → Prop} (s : Stp g I H I' H') (h : Pst g mg E R I H r Q) : Pst g mg E R I' H' r Q := by
  cases r with
  | ok d => exact fun v I2 H2 q x => h v I2 H2 (s.trans q) x
  | exc c => exact fun I2 H2 q => h I2 H2 (s.trans q)
  | bad => exact h
/-- the first part of a result that goes on -/
theorem Pst.first {α β α' β' : Type} {R : Hp → β → α → Prop} {R' : Hp → β' → α' → Prop} {r : Res α} {k : α → Res α'} {Q : β → Hp → Prop} {Q' : β' → Hp → Prop} (h : Pst g mg E R' I H (r.bind k) Q')
    (go : ∀ d v I1 H1, r = .ok d → Stp g I H I1 H1 → R I1 v d → Pst g mg E R' I1 H1 (k d) Q' → Q v H1) : Pst g mg E R I H r Q := by
  cases r with
  | ok d => exact fun v I1 H1 s x => go d v I1 H1 rfl s x (Pst.step s h)
  | exc c => exact h
  | bad => exact h
end
theorem _root_.L2.PE.imp {X : Cx} {e : Expr} {t u : TE} (h : PE X e t) (k : ∀ σ H Q, u σ H Q → t σ H Q) : PE X e u := ⟨fun pins s σ H Q I q => h.run pins s σ H Q I (k σ H Q q)⟩
theorem _root_.L2.PA.imp {X : Cx} {e : List Expr} {t u : TA} (h : PA X e t) (k : ∀ σ H Q, u σ H Q → t σ H Q) : PA X e u := ⟨fun p pins s σ H Q I q => h.run p pins s σ H Q I (k σ H Q q)⟩
theorem _root_.L2.PT.imp {X : Cx} {e : Expr} {t u : TT} (h : PT X e t) (k : ∀ σ H Q, u σ H Q → t σ H Q) : PT X e u := ⟨fun pins s σ H Q I q => h.run pins s σ H Q I (k σ H Q q)⟩
end FW
/-! Expressions by functions over data. -/
namespace FW
open PySem PySem.Spec PyProof.Rows L2

/-! ### data as the library's data -/
mutual
def D.py : D → PyData
  | .non => .none
  | .bl b => .bool b
  | .int i => .int i
  | .str x => .str x
  | .tup ds => .tuple (D.pys ds)
  | .lst ds => .list (D.pys ds)
  | .dct _ => .none
  | .dice => .none
  | .par _ => .none
  | .dtt _ => .none
  | .dtf _ => .none
  | .exn _ => .none
  | .hs _ _ _ _ => .none
def D.pys : List D → List PyData
  | [] => []
  | d :: ds => D.py d :: D.pys ds
end
mutual
/-- no dict, no dice, texts of plain signs -/
def D.lay : D → Bool
  | .non => true
  | .bl _ => true
  | .int _ => true
  | .str x => x.cps.all (· < 0x110000)
  | .tup ds => D.lays ds
  | .lst ds => D.lays ds
  | .dct _ => false
  | .dice => false
  | .par _ => false
  | .dtt _ => false
  | .dtf _ => false
  | .exn _ => false
  | .hs _ _ _ _ => false
def D.lays : List D → Bool
  | [] => true
  | d :: ds => D.lay d && D.lays ds
end
mutual
def D.dep : D → Nat
  | .tup ds => D.deps ds + 1
  | .lst ds => D.deps ds + 1
  | .non => 0
  | .bl _ => 0
  | .int _ => 0
  | .str _ => 0
  | .dct _ => 0
  | .dice => 0
  | .par _ => 0
  | .dtt _ => 0
  | .dtf _ => 0
  | .exn _ => 0
  | .hs _ _ _ _ => 0
def D.deps : List D → Nat
  | [] => 0
  | d :: ds => max (D.dep d) (D.deps ds)
end
mutual
/-- == -/
def D.eqv : D → D → Bool
  | .non, .non => true
  | .bl a, .bl b => a == b
  | .bl a, .int j => (if a then 1 else 0) == j
  | .int i, .bl b => i == (if b then 1 else 0)
  | .int i, .int j => i == j
  | .str x, .str y => x == y
  | .lst xs, .lst ys => D.eqvs xs ys
  | .tup xs, .tup ys => D.eqvs xs ys
  | _, _ => false
def D.eqvs : List D → List D → Bool
  | [], [] => true
  | x :: xs, y :: ys => D.eqv x y && D.eqvs xs ys
  | _, _ => false
end
def D.shp (d : D) : Bool := d.lay && decide (d.dep ≤ 64)
section
variable {g : Gd} {I : Hp} (K : PySem.W.Frag)
end

/-! ### names, constants, displays -/
section
variable {X : Cx} {g : Gd} {E : XK}
def fVar (i : Nat) : FE := fun r => match r[i]? with
  | some (some d) => .ok d
  | _ => .bad
def fC (d : D) : FE := fun _ => .ok d
def fNil : FA := fun _ => .ok []
def fCons (f : FE) (k : FA) : FA := fun r => (f r).bind fun d => (k r).bind fun ds => .ok (d :: ds)
def fTup (k : FA) : FE := fun r => (k r).bind fun ds => .ok (.tup ds)
def fLst (k : FA) : FE := fun r => (k r).bind fun ds => .ok (.lst ds)
/-! ### operators of two values -/
def fOp (dop : D → D → Res D) (fa fb : FE) : FE := fun r => (fa r).bind fun x => (fb r).bind fun y => dop x y
end

/-! ### which operator does what -/
def dAdd : D → D → Res D
  | .int i, .int j => .ok (.int (i + j))
  | .str a, .str b => if a.length + b.length ≤ 100000 then .ok (.str (a ++ b)) else .bad
  | .tup a, .tup b => if a.length + b.length ≤ 100000 then .ok (.tup (a ++ b)) else .bad
  | .lst a, .lst b => if a.length + b.length ≤ 100000 then .ok (.lst (a ++ b)) else .bad
  | _, _ => .bad
def dSub : D → D → Res D
  | .int i, .int j => .ok (.int (i - j))
  | _, _ => .bad
/-- one factor small, or a list or tuple so many times -/
def dMul : D → D → Res D
  | .int i, .int j => if (-(2 ^ 64) < i ∧ i < 2 ^ 64) ∨ (-(2 ^ 64) < j ∧ j < 2 ^ 64) then .ok (.int (i * j)) else .bad
  | .lst a, .int k => if -(2 ^ 63) ≤ k ∧ k < 2 ^ 63 ∧ a.length * k.toNat ≤ 100000 then .ok (.lst (List.replicate k.toNat a).flatten) else .bad
  | .tup a, .int k => if (a ≠ [] ∧ 2 ≤ k ∧ k ≤ 1000 ∧ a.length ≤ 1000) ∧ strsD (List.replicate k.toNat a).flatten = false then .ok (.tup (List.replicate k.toNat a).flatten) else .bad
  | _, _ => .bad
section
variable {X : Cx} {g : Gd} {E : XK}
end
end FW
/-! Comparisons, tests, items, calls of built-ins, by functions over data. -/
namespace FW
open PySem PySem.Spec PyProof.Rows L2

/-! ### == and != -/
def scalD : D → D → Bool
  | .str _, .str _ => true
  | .str _, .int _ => true
  | .str _, .bl _ => true
  | .str _, .non => true
  | .int _, .str _ => true
  | .bl _, .str _ => true
  | .non, .str _ => true
  | _, _ => false
def eqOk (x y : D) : Bool := (x.shp && y.shp) || scalD x y
def dEq (x y : D) : Res D := if eqOk x y = true then .ok (.bl (D.eqv x y)) else .bad
def dNe (x y : D) : Res D := if eqOk x y = true then .ok (.bl (!D.eqv x y)) else .bad
section
variable {X : Cx} {g : Gd} {E : XK}
variable {a b : Expr} {fa fb : FE} {pos : Pos} {k : Nat}
/-! ### order -/
def dLt : D → D → Res D
  | .int i, .int j => .ok (.bl (decide (i < j)))
  | .str x, .str y => .ok (.bl (decide (x.cps.toList < y.cps.toList)))
  | _, _ => .bad
def dLe : D → D → Res D
  | .int i, .int j => .ok (.bl (decide (i ≤ j)))
  | .str x, .str y => .ok (.bl (!decide (y.cps.toList < x.cps.toList)))
  | _, _ => .bad
def dGt : D → D → Res D
  | .int i, .int j => .ok (.bl (decide (j < i)))
  | .str x, .str y => .ok (.bl (decide (y.cps.toList < x.cps.toList)))
  | _, _ => .bad
def dGe : D → D → Res D
  | .int i, .int j => .ok (.bl (decide (j ≤ i)))
  | .str x, .str y => .ok (.bl (!decide (x.cps.toList < y.cps.toList)))
  | _, _ => .bad
/-! ### is, is not -/
def dIs : D → D → Res D
  | .non, .non => .ok (.bl true)
  | _, .non => .ok (.bl false)
  | .bl a, .bl b => .ok (.bl (decide (a = b)))
  | _, _ => .bad
def dIsNot : D → D → Res D
  | .non, .non => .ok (.bl false)
  | _, .non => .ok (.bl true)
  | .bl a, .bl b => .ok (.bl (!decide (a = b)))
  | _, _ => .bad
/-! ### in, not in -/
def D.flat : D → Bool
  | .non => true
  | .bl _ => true
  | .int _ => true
  | .str _ => true
  | _ => false
def D.any (x : D) (ys : List D) : Bool := ys.any fun y => D.eqv y x
def inD (x : D) (y : D) : Option Bool := match y with
  | .tup ys => if x.flat && ys.all D.flat then some (x.any ys) else none
  | .lst ys => if (x.flat && ys.all D.flat) || (x.shp && (D.lst ys).shp) then some (x.any ys) else none
  | .str z => match x with
    | .str w => match w.cps.toList with
      | [c] => some (decide (c ∈ z.cps.toList))
      | _ => none
    | _ => none
  | _ => none
def dIn (x y : D) : Res D := match inD x y with
  | some b => .ok (.bl b)
  | none => .bad
def dNotIn (x y : D) : Res D := match inD x y with
  | some b => .ok (.bl (!b))
  | none => .bad
end

/-! ### truth values, and, or, not, if -/
def fTest (f : FE) : FT := fun r => (f r).bind fun d => match d with
  | .bl b => .ok b
  | _ => .bad
def fAnd (p q : FT) : FT := fun r => (p r).bind fun b => if b = true then q r else .ok false
def fOr (p q : FT) : FT := fun r => (p r).bind fun b => if b = true then .ok true else q r
def fNot (p : FT) : FT := fun r => (p r).bind fun b => .ok (!b)
def fIf (c : FT) (fa fb : FE) : FE := fun r => (c r).bind fun b => if b = true then fa r else fb r
def fAndV (fa fb : FE) : FE := fun r => (fa r).bind fun d => match d with
  | .bl b => if b = true then fb r else .ok (.bl false)
  | _ => .bad
def fNotV (fa : FE) : FE := fun r => (fa r).bind fun d => match d with
  | .bl b => .ok (.bl (!b))
  | _ => .bad
section
variable {X : Cx} {g : Gd} {E : XK} {a b c : Expr} {fa fb : FE} {p q : FT} {pos : Pos} {k : Nat} {rest : List Expr}
theorem _root_.L2.PW.imp {X : Cx} {e : Expr} {t u : TT} (h : PW X e t) (k : ∀ σ H Q, u σ H Q → t σ H Q) : PW X e u := ⟨fun w pins s σ H Q I q => h.run w pins s σ H Q I (k σ H Q q)⟩
/-- low <= x <= high and its kin -/
def fChain (o o' : D → D → Res D) (fa fb fc : FE) : FE := fun r => (fa r).bind fun x => (fb r).bind fun y => (o x y).bind fun z => match z with
  | .bl true => (fc r).bind fun w => o' y w
  | .bl false => .ok (.bl false)
  | _ => .bad
variable {fc : FE}
end
end FW
/-! Calls of built-ins, items, slices, calls of defs. -/
namespace FW
open PySem PySem.Spec PyProof.Rows L2

section
variable {X : Cx} {g : Gd} {E : XK} {a b c : Expr} {fa fb fc : FE} {pos : Pos} {k : Nat}
/-! ### isinstance -/
inductive Ty where
  | int | bool | str | tuple | list | dict
def Ty.nm : Ty → String
  | .int => "int" | .bool => "bool" | .str => "str" | .tuple => "tuple" | .list => "list" | .dict => "dict"
/-- an object of an own class -/
def D.obj : D → Bool
  | .exn _ => true
  | .hs _ _ _ _ => true
  | _ => false
def D.is : D → Ty → Bool
  | .int _, .int => true
  | .bl _, .int => true
  | .bl _, .bool => true
  | .str _, .str => true
  | .tup _, .tuple => true
  | .lst _, .list => true
  | .dct _, .dict => true
  | .dice, .list => true
  | .par _, .tuple => true
  | .dtt _, .dict => true
  | .dtf _, .dict => true
  | _, _ => false
def fIsi (T : Ty) (fa : FE) : FE := fun r => (fa r).bind fun d => if d.obj = true then .bad else .ok (.bl (d.is T))
/-! ### built-in functions of values -/
def fCB (dop : List D → Res D) (k : FA) : FE := fun r => (k r).bind dop
variable {e : Expr} {es : List Expr} {kk : FA} {x : Str} {p : Pos}
/-- len -/
def dLen : List D → Res D
  | [.str x] => if x.length ≤ 100000 then .ok (.int (x.length : Nat)) else .bad
  | [.tup xs] => .ok (.int (xs.length : Nat))
  | [.lst xs] => .ok (.int (xs.length : Nat))
  | _ => .bad
/-- a list of truths -/
def bools : List D → Option (List Bool)
  | [] => some []
  | .bl b :: r => (bools r).map (b :: ·)
  | _ => none
def dAll : List D → Res D
  | [.lst xs] => match bools xs with
    | some bs => .ok (.bl (bs.all id))
    | none => .bad
  | _ => .bad
def dAny : List D → Res D
  | [.lst xs] => match bools xs with
    | some bs => .ok (.bl (bs.any id))
    | none => .bad
  | _ => .bad
/-- a list of numbers -/
def intsOf : List D → Option (List Int)
  | [] => some []
  | .int b :: r => (intsOf r).map (b :: ·)
  | _ => none
theorem DRs.ints {I : Hp} : ∀ {vs : List V} {ds : List D} {bs : List Int}, DRs g I vs ds → intsOf ds = some bs → vs = bs.map V.int
  | _, _, _, .nil, h => by cases h; rfl
  | _, _, bs, .cons (ds := ds) r t, h => by
    cases r <;> first
      | (cases h; done)
      | (rename_i b
         rw [intsOf] at h
         cases e : intsOf ds with
         | none => rw [e] at h; cases h
         | some cs =>
           rw [e] at h; cases h
           rw [DRs.ints t e]; rfl)
/-- tuple(x), list(x) -/
def dTuple : List D → Res D
  | [.lst xs] => .ok (.tup xs)
  | [.tup xs] => .ok (.tup xs)
  | _ => .bad
def dList : List D → Res D
  | [.lst xs] => .ok (.lst xs)
  | [.tup xs] => .ok (.lst xs)
  | _ => .bad
/-- int(x), max(x, y), min(x, y), abs(x) -/
def dInt : List D → Res D
  | [.int i] => .ok (.int i)
  | [.bl b] => .ok (.int (if b then 1 else 0))
  | _ => .bad
def dMax2 : List D → Res D
  | [.int i, .int j] => .ok (.int (if j > i then j else i))
  | _ => .bad
def dMin2 : List D → Res D
  | [.int i, .int j] => .ok (.int (if j < i then j else i))
  | _ => .bad
/-! ### items and slices -/
def dIx : D → D → Res D
  | .lst xs, .int i => match atI xs i with
    | some d => .ok d
    | none => .bad
  | .tup xs, .int i => match atI xs i with
    | some d => .ok d
    | none => .bad
  | .str z, .int i => if z.length ≤ 100000 then (match atI z.cps.toList i with
    | some c => .ok (.str ⟨#[c]⟩)
    | none => .bad) else .bad
  | _, _ => .bad
/-- a part of a slice -/
abbrev FO := Env → Res (Option Int)
def fNo : FO := fun _ => .ok none
def fPart (f : FE) : FO := fun r => (f r).bind fun d => match d with
  | .int i => .ok (some i)
  | _ => .bad
theorem _root_.L2.PO.imp {X : Cx} {e : Option Expr} {t u : TO} (h : PO X e t) (k : ∀ σ H Q, u σ H Q → t σ H Q) : PO X e u := ⟨fun pins s σ H Q I q => h.run pins s σ H Q I (k σ H Q q)⟩
def cutD (xs : List D) (lo hi : Option Int) : List D := (xs.drop (HT.sIx xs.length 0 lo)).take (HT.sIx xs.length xs.length hi - HT.sIx xs.length 0 lo)
def dCut (x : D) (lo hi : Option Int) : Res D := match x with
  | .lst xs => .ok (.lst (cutD xs lo hi))
  | .tup xs => .ok (.tup (cutD xs lo hi))
  | .str z => if z.length ≤ 100000 then .ok (.str (cutS z lo hi)) else .bad
  | _ => .bad
def fCut (fa : FE) (fl fh : FO) : FE := fun r => (fa r).bind fun x => (fl r).bind fun lo => (fh r).bind fun hi => dCut x lo hi
/-! ### calls of defs -/
def fCall (f : List D → Res D) (k : FA) : FE := fun r => (k r).bind f
end
end FW
/-! What is walked: lists, tuples, texts, ranges; enumerate and zip of lists and tuples in any mix. -/
namespace FW
open PySem PySem.Spec PyProof.Rows L2

/-! ### enumerate(v), one argument -/
section
variable {prog : Program} {w : World} {A : Around} {E : Value → Shared → Prop} {s : Shared}
end

/-! ### a sequence: list or tuple -/
def IsSq (h : Heap) (t : Bool) (a : Addr) (its : Array Value) : Prop := if t then h.IsTuple a its else h.IsList a its
def IsSqIt (h : Heap) (t : Bool) (it a : Addr) (i : Nat) : Prop := if t then h.IsTupleIter it a i else h.IsListIter it a i
theorem IsSqIt.keep {h h' : Heap} {t : Bool} {it a : Addr} {i : Nat} (x : IsSqIt h t it a i) (k : ∀ o, h.get? it = some o → h'.get? it = some o) : IsSqIt h' t it a i := by
  cases t with
  | true => exact Heap.IsTupleIter.at x k
  | false => exact Heap.IsListIter.at x k
theorem IsSqIt.obj {h : Heap} {t : Bool} {it a : Addr} {i : Nat} (x : IsSqIt h t it a i) : ∃ o, h.get? it = some o ∧ ∀ v, o.data ≠ .cell v := by
  cases t with
  | true =>
    obtain ⟨o, e, c, d⟩ := x
    exact ⟨o, e, fun v z => by rw [d] at z; cases z⟩
  | false =>
    obtain ⟨o, e, c, d⟩ := x
    exact ⟨o, e, fun v z => by rw [d] at z; cases z⟩

/-! ### enumerate of it -/
end FW
/-! zip of two sequences, lists or tuples in any mix; what is walked, by functions over data. -/
namespace FW
open PySem PySem.Spec PyProof.Rows L2

/-! ### what is walked, over data -/
abbrev FI := Env → Res (List D)
theorem _root_.L2.PI.imp {X : Cx} {tg e : Expr} {t u : TI} (h : PI X tg e t) (k : ∀ σ H R, u σ H R → t σ H R) : PI X tg e u := ⟨fun pins s σ H R I q => h.run pins s σ H R I (k σ H R q)⟩
section
variable {X : Cx} {g : Gd} {E : XK} {K : PySem.W.Frag}
def signs (x : Str) : List D := x.cps.toList.map fun c => .str ⟨#[c]⟩
/-- lo, lo + 1, .. -/
def upto (lo : Int) (n : Nat) : List D := (List.range n).map fun i => .int (lo + (i : Nat))
def enumD (ds : List D) : List D := ds.mapIdx fun i d => .par [.int (i : Nat), d]
def zipD (ds es : List D) : List D := List.zipWith (fun d e => .par [d, e]) ds es
/-- a value walked: a list, a tuple, a text -/
def dIter : D → Res (List D)
  | .lst ds => .ok ds
  | .tup ds => .ok ds
  | .str x => .ok (signs x)
  | _ => .bad
def fIter (f : FE) : FI := fun r => (f r).bind dIter
def dRange1 : List D → Res (List D)
  | [.int j] => if j ≤ 1000000 ∧ -1000000 ≤ j then .ok (upto 0 j.toNat) else .bad
  | _ => .bad
def dRange2 : List D → Res (List D)
  | [.int i, .int j] => if (j ≤ 1000000 ∧ -1000000 ≤ j) ∧ i ≤ 1000000 ∧ -1000000 ≤ i then .ok (upto i (j - i).toNat) else .bad
  | _ => .bad
def dEnum : List D → Res (List D)
  | [.lst ds] => .ok (enumD ds)
  | [.tup ds] => .ok (enumD ds)
  | _ => .bad
def dZip : List D → Res (List D)
  | [.lst ds, .lst es] => .ok (zipD ds es)
  | [.lst ds, .tup es] => .ok (zipD ds es)
  | [.tup ds, .lst es] => .ok (zipD ds es)
  | [.tup ds, .tup es] => .ok (zipD ds es)
  | _ => .bad
def fItA (d : List D → Res (List D)) (k : FA) : FI := fun r => (k r).bind d
end
end FW
/-! Readings by wishes (for draws), targets, comprehensions. -/
namespace FW
open PySem PySem.Spec PyProof.Rows L2

/-! ### an expression by what is wished of its answer -/
structure WE where
  run : Env → (D → Prop) → (Str → Prop) → Prop
  mono : ∀ {r : Env} {Q Q' : D → Prop} {Z Z' : Str → Prop}, (∀ d, Q d → Q' d) → (∀ c, Z c → Z' c) → run r Q Z → run r Q' Z'
def resW {α : Type} (x : Res α) (Q : α → Prop) (Z : Str → Prop) : Prop := match x with
  | .ok d => Q d
  | .exc c => Z c
  | .bad => False
theorem resW.mono {α : Type} {x : Res α} {Q Q' : α → Prop} {Z Z' : Str → Prop} (h1 : ∀ d, Q d → Q' d) (h2 : ∀ c, Z c → Z' c) (h : resW x Q Z) : resW x Q' Z' := by
  cases x with
  | ok d => exact h1 d h
  | exc c => exact h2 c h
  | bad => exact h
section
variable (g : Gd) (mg : Str → Option Value) (E : XK)
/-- the end of a reading, its refusal -/
def endW {α β : Type} (R : Hp → β → α → Prop) (I H : Hp) (Q : β → Hp → Prop) : α → Prop := fun d => ∀ v I' H', Stp g I H I' H' → R I' v d → Q v H'
def excW (I H : Hp) : Str → Prop := fun c => ∀ I' H', Stp g I H I' H' → EX mg E c H'
end
theorem endW.step {g : Gd} {α β : Type} {R : Hp → β → α → Prop} {I H I' H' : Hp} {Q : β → Hp → Prop} {d : α} (s : Stp g I H I' H') (h : endW g R I H Q d) : endW g R I' H' Q d := fun v I2 H2 q x => h v I2 H2 (s.trans q) x
theorem excW.step {g : Gd} {mg : Str → Option Value} {E : XK} {I H I' H' : Hp} {c : Str} (s : Stp g I H I' H') (h : excW g mg E I H c) : excW g mg E I' H' c := fun I2 H2 q => h I2 H2 (s.trans q)

/-! ### targets -/
abbrev FG := D → Env → Res Env
abbrev FGs := List D → Env → Res Env
def gN (i : Nat) : FG := fun d r => if i < r.length then .ok (r.set i (some d)) else .bad
def gsNil : FGs := fun ds r => match ds with
  | [] => .ok r
  | _ => .bad
def gsCons (f : FG) (k : FGs) : FGs := fun ds r => match ds with
  | d :: t => (f d r).bind (k t)
  | [] => .bad
def gT (n : Nat) (k : FGs) : FG := fun d r => match d with
  | .tup ds => if ds.length = n then k ds r else .bad
  | .par ds => if ds.length = n then k ds r else .bad
  | _ => .bad
theorem ER.set {g : Gd} {I : Hp} {σ : L2.St} {r : Env} {i : Nat} {v : V} {d : D} (e : ER g I σ r) (hi : i < r.length) (x : DR g I v d) : ER g I (σ.set i (some v)) (r.set i (some d)) := by
  refine ⟨by rw [List.length_set, List.length_set]; exact e.len, fun j c h => ?_⟩
  by_cases hj : j = i
  · subst hj
    rw [List.getElem?_set_self hi] at h
    cases h
    exact ⟨v, List.getElem?_set_self (by rw [e.len]; exact hi), x⟩
  · rw [List.getElem?_set_ne (Ne.symm hj)] at h
    obtain ⟨u, h1, h2⟩ := e.get j c h
    exact ⟨u, by rw [List.getElem?_set_ne (Ne.symm hj)]; exact h1, h2⟩
theorem _root_.L2.PG.imp {X : Cx} {e : Expr} {t u : TG} (h : PG X e t) (k : ∀ v σ H Q, u v σ H Q → t v σ H Q) : PG X e u := ⟨fun pins s σ H v w Q I r q => h.run pins s σ H v w Q I r (k v σ H Q q)⟩
theorem _root_.L2.PGs.imp {X : Cx} {e : List Expr} {t u : TGs} (h : PGs X e t) (k : ∀ v σ H Q, u v σ H Q → t v σ H Q) : PGs X e u := ⟨fun pins s σ H v w Q I r q => h.run pins s σ H v w Q I r (k v σ H Q q)⟩
section
variable {X : Cx} {g : Gd} {E : XK}
end

/-! ### what stands beside the region and changes -/
theorem NT.none_of {H : Hp} {a : Addr} {o : HO} (h : NT H a) (e : H a = some o) (n : ∀ ps, o ≠ .tbl ps) : False := by
  obtain ⟨ps, z⟩ := h o e
  exact n ps z
theorem tabs_set {T : List (Addr × Str)} {H : Hp} {p : Addr} {o u : HO} (t : LamX.Tabs T H) (hp : H p = some o) (n1 : ∀ ps, o ≠ .tbl ps) (n2 : ∀ c q, o ≠ LamX.CodeO c q) : LamX.Tabs T (upd H p u) := fun x hx => by
  obtain ⟨ps, h1, h2, h3⟩ := t x hx
  refine ⟨ps, ?_, h2, fun pos cv hc => ?_⟩
  · rw [upd_ne fun e => n1 ps (by rw [e, hp] at h1; exact Option.some.inj h1)]
    exact h1
  · obtain ⟨c, e1, e2⟩ := h3 pos cv hc
    refine ⟨c, e1, ?_⟩
    rw [upd_ne fun e => n2 c x.2 (by
      have e3 := e2
      rw [e, hp] at e3
      rw [Option.some.inj e3, e])]
    exact e2
/-- what may change: a list, a dict -/
def Chg : HO → Bool
  | .lst _ => true
  | .dK _ => true
  | .dT _ => true
  | _ => false
theorem chg_tbl {o : HO} (h : Chg o = true) : ∀ ps, o ≠ .tbl ps := fun ps e => by rw [e] at h; cases h
theorem chg_code {o : HO} (h : Chg o = true) : ∀ c q, o ≠ LamX.CodeO c q := fun c q e => by rw [e] at h; cases h
section
variable {g : Gd} {I0 H0 I H I' H' : Hp} {p : Addr} {o u : HO}
/-- beside the region an object changes that was not there ahead -/
theorem Stp.chg (s : Stp g I0 H0 I H) (n : NT H0 p) (nz : p ≠ g.dz) (hI : I p = none) (hp : H p = some o) (c : Chg o = true) : Stp g I0 H0 I (upd H p u) :=
  ⟨s.mono, s.new, fun a v h1 h2 h3 => by
    rw [upd_ne fun e => n.none_of (by rw [← e]; exact h3) h2]
    exact s.keep a v h1 h2 h3, ⟨fun a v h => by
      rw [upd_ne fun e => by rw [e, hI] at h; cases h]
      exact s.rl.sub a v h, s.rl.dz, by
      obtain ⟨x, y, q⟩ := s.rl.dice
      exact ⟨x, y, by rw [upd_ne (Ne.symm nz)]; exact q⟩, tabs_set s.rl.tab hp (chg_tbl c) (chg_code c), s.rl.nt⟩⟩
/-- what stands beside the region is taken in -/
theorem Stp.take (s : Stp g I0 H0 I H) (n : NT H0 p) (nz : p ≠ g.dz) (hI : I p = none) (hp : H p = some o) (ho : ∀ ps, o ≠ .tbl ps := by intro _ h; cases h) : Stp g I0 H0 (upd I p o) H :=
  ⟨fun a v h => by
    have q := s.mono a v h
    rw [upd_ne fun e => by rw [e, hI] at q; cases q]
    exact q, fun a v h => by
    by_cases e : a = p
    · subst e; exact .inr (.inl n)
    · rw [upd_ne e] at h; exact s.new a v h, s.keep, s.rl.take hp hI nz ho⟩
theorem Stp.beside (s : Stp g I H I' H') (hI : I p = none) (nz : p ≠ g.dz) (hp : H p = some o) (c : Chg o = true) : I' p = none ∧ H' p = some o := by
  refine ⟨?_, s.keep p o nz (chg_tbl c) hp⟩
  cases e : I' p with
  | none => rfl
  | some w =>
    rcases s.new p w e with z | z | ⟨z, xs, q⟩
    · rw [hI] at z; cases z
    · exact (z.none_of hp (chg_tbl c)).elim
    · rw [hp] at z; cases z; rw [q] at c; cases c
theorem Rl.nz (r : Rl g I H) (h : H p = none) : p ≠ g.dz := fun e => by
  obtain ⟨x, y, q⟩ := r.dice
  rw [e, q] at h; cases h
theorem Rl.out (r : Rl g I H) (h : H p = none) : I p = none := by
  cases e : I p with
  | none => rfl
  | some w => rw [r.sub p w e] at h; cases h
end

/-! ### comprehensions -/
def wipeE (r : Env) : List Nat → Env
  | [] => r
  | v :: vs => (wipeE r vs).set v none
/-- the turns of a comprehension: r the names ahead of each -/
def lcW (fg : FG) (ft : FT) (we : WE) (r : Env) : List D → (List D → Prop) → Prop
  | [], Q => Q []
  | d :: ds, Q => resW (fg d r) (fun r1 => resW (ft r1) (fun b => if b = true then we.run r1 (fun y => lcW fg ft we r ds fun ys => Q (y :: ys)) (fun _ => False) else lcW fg ft we r ds Q) fun _ => False) fun _ => False
theorem lcW.mono {fg : FG} {ft : FT} {we : WE} {r : Env} : ∀ {ds : List D} {Q Q' : List D → Prop}, (∀ ys, Q ys → Q' ys) → lcW fg ft we r ds Q → lcW fg ft we r ds Q'
  | [], _, _, h, q => h _ q
  | d :: ds, _, _, h, q => resW.mono (fun r1 q => resW.mono (fun b q => by
      cases b with
      | true => exact we.mono (fun y q => lcW.mono (fun ys z => h _ z) q) (fun _ z => z) q
      | false => exact lcW.mono h q) (fun _ z => z) q) (fun _ z => z) q
/-- no name of the block ahead: what is wished of a new list -/
def endO (g : Gd) (I H : Hp) (Q : VK) : D → Prop := fun d => ∀ p I' H', Stp g I H I' H' → NT H p → p ≠ g.dz → I' p = none → (∀ ds, d = .lst ds → ∃ vs, H' p = some (.lst vs) ∧ DRs g I' vs ds) → Q (.ref p) H'
section
variable {X : Cx} {g : Gd} {E : XK}
variable {elt tg iter : Expr} {ifs : List Expr} {scope : Scope} {own : List (Str × Nat)} {pos : Pos} {fi : FI} {wi : WI} {fg : FG} {ft : FT} {we : WE} {fe : FE} {is : List Nat}
theorem _root_.L2.PTs.imp {X : Cx} {e : List Expr} {t u : TT} (h : PTs X e t) (k : ∀ σ H Q, u σ H Q → t σ H Q) : PTs X e u := ⟨fun pins s σ H Q I q => h.run pins s σ H Q I (k σ H Q q)⟩
def fYes : FT := fun _ => .ok true
/-- the same by functions -/
def Res.calm {α : Type} : Res α → Res α
  | .ok a => .ok a
  | _ => .bad
def lcF (fg : FG) (ft : FT) (fe : FE) (r : Env) : List D → Res (List D)
  | [] => .ok []
  | d :: ds => (fg d r).calm.bind fun r1 => (ft r1).calm.bind fun b => if b = true then (fe r1).calm.bind fun y => (lcF fg ft fe r ds).bind fun ys => .ok (y :: ys) else lcF fg ft fe r ds
def fLc (fi : FI) (fg : FG) (ft : FT) (fe : FE) (vs : List Nat) : FE := fun r => (fi r).bind fun ds => if ds.length ≤ 100000 then (lcF fg ft fe (wipeE r vs) ds).bind fun ys => .ok (.lst ys) else .bad
end
end FW
/-! Statements: slots that hold data, slots that own a list or dict that changes. -/
namespace FW
open PySem PySem.Spec PyProof.Rows L2

inductive Sl where
  | un | val (d : D) | own (d : D)
abbrev Env2 := List Sl
def Sl.plain : Sl → Option D
  | .val d => some d
  | _ => none
def Sl.any : Sl → Option D
  | .val d => some d
  | .own d => some d
  | .un => none
def plain (r : Env2) : Env := r.map Sl.plain
def allv (r : Env2) : Env := r.map Sl.any
def OwnR (g : Gd) (I : Hp) (o : HO) (d : D) : Prop := match o, d with
  | .lst vs, .lst ds => DRs g I vs ds
  | .dK es, .dct kvs => DRk g I es kvs
  | .dT es, .dtt kvs => DRt g I es kvs
  | _, _ => False
theorem OwnR.mono {g : Gd} {I J : Hp} {o : HO} {d : D} (s : Sub I J) (h : OwnR g I o d) : OwnR g J o d := by
  unfold OwnR at h ⊢
  split at h
  · exact DRs.mono s h
  · exact DRk.mono s h
  · exact DRt.mono s h
  · exact h.elim
theorem OwnR.chg {g : Gd} {I : Hp} {o : HO} {d : D} (h : OwnR g I o d) : Chg o = true := by
  unfold OwnR at h
  split at h
  · rfl
  · rfl
  · rfl
  · exact h.elim
/-- the state of a def's body: I the region now; (I0, H0) where it began -/
structure SRI (g : Gd) (I0 H0 I : Hp) (r : Env2) (σ : L2.St) (H : Hp) : Prop where
  stp : Stp g I0 H0 I H
  len : σ.length = r.length
  val : ∀ (i : Nat) (d : D), r[i]? = some (Sl.val d) → ∃ v, σ[i]? = some (some v) ∧ DR g I v d
  own : ∀ (i : Nat) (d : D), r[i]? = some (Sl.own d) → ∃ p o, σ[i]? = some (some (.ref p)) ∧ NT H0 p ∧ p ≠ g.dz ∧ I p = none ∧ H p = some o ∧ OwnR g I o d
  inj : ∀ (i j : Nat) (d e : D) (p : Addr), r[i]? = some (Sl.own d) → r[j]? = some (Sl.own e) → σ[i]? = some (some (.ref p)) → σ[j]? = some (some (.ref p)) → i = j
def SR (g : Gd) (I0 H0 : Hp) (r : Env2) (σ : L2.St) (H : Hp) : Prop := ∃ I, SRI g I0 H0 I r σ H
section
variable {g : Gd} {I0 H0 I H I' H' : Hp} {r : Env2} {σ : L2.St}
theorem SRI.go (x : SRI g I0 H0 I r σ H) (s : Stp g I H I' H') : SRI g I0 H0 I' r σ H' := by
  refine ⟨x.stp.trans s, x.len, fun i d h => ?_, fun i d h => ?_, x.inj⟩
  · obtain ⟨v, h1, h2⟩ := x.val i d h
    exact ⟨v, h1, h2.mono s.mono⟩
  · obtain ⟨p, o, h1, h2, h3, h4, h5, h6⟩ := x.own i d h
    obtain ⟨h7, h8⟩ := s.beside h4 h3 h5 h6.chg
    exact ⟨p, o, h1, h2, h3, h7, h8, h6.mono s.mono⟩
open Classical in
/-- behind an expression that saw what is one's own too -/
theorem SRI.back {J J' : Hp} (x : SRI g I0 H0 I r σ H) (sb : Sub I J) (s : Stp g J H J' H') : SRI g I0 H0 I r σ H' := by
  refine ⟨⟨x.stp.mono, x.stp.new, fun a o h1 h2 h3 => s.keep a o h1 h2 (x.stp.keep a o h1 h2 h3), ⟨(sb.trans s.mono).trans s.rl.sub, x.stp.rl.dz, s.rl.dice, s.rl.tab, x.stp.rl.nt⟩⟩, x.len, x.val, fun i d h => ?_, x.inj⟩
  obtain ⟨p, o, h1, h2, h3, h4, h5, h6⟩ := x.own i d h
  exact ⟨p, o, h1, h2, h3, h4, s.keep p o h3 (chg_tbl h6.chg) h5, h6⟩
end

/-! ### statements by wishes -/
structure Kt where
  nx : Env2 → Prop
  rt : D → Prop
  bk : Env2 → Prop
  ct : Env2 → Prop
  ex : Str → Prop
structure Kt.Le (k k' : Kt) : Prop where
  nx : ∀ r, k.nx r → k'.nx r
  rt : ∀ d, k.rt d → k'.rt d
  bk : ∀ r, k.bk r → k'.bk r
  ct : ∀ r, k.ct r → k'.ct r
  ex : ∀ c, k.ex c → k'.ex c
theorem Kt.Le.refl (k : Kt) : k.Le k := ⟨fun _ z => z, fun _ z => z, fun _ z => z, fun _ z => z, fun _ z => z⟩
structure WS where
  run : Env2 → Kt → Prop
  mono : ∀ {r : Env2} {k k' : Kt}, k.Le k' → run r k → run r k'
theorem _root_.L2.PS.imp {X : Cx} {st : Stmt} {t u : TS} (h : PS X st t) (k : ∀ D σ H, u D σ H → t D σ H) : PS X st u := ⟨fun pins s σ H D I q => h.run pins s σ H D I (k D σ H q)⟩
theorem _root_.L2.PSs.imp {X : Cx} {st : List Stmt} {t u : TS} (h : PSs X st t) (k : ∀ D σ H, u D σ H → t D σ H) : PSs X st u := ⟨fun pins s σ H D I q => h.run pins s σ H D I (k D σ H q)⟩
section
variable {X : Cx} {g : Gd} {E : XK} {st : Stmt} {rest : List Stmt} {e : Expr} {a b : WS} {w : WE} {pos : Pos}
end
end FW
/-! Loops, targets, raises, whole defs. -/
namespace FW
open PySem PySem.Spec PyProof.Rows L2

/-! ### where a body stands -/
structure Bd (X : Cx) (E : XK) (k : Nat) : Prop where
  hc : X.calm = true
  nd : X.N.Nodup
  hr : Room k X.A
  ps : Passes (L2N.CX X.prog X.w) X E
  po : PassesOwn (model X.prog X.w) X.A X.env X.xe
/-! ### targets over slots -/
abbrev SG := D → Env2 → Res Env2
abbrev SGs := List D → Env2 → Res Env2
def sgN (i : Nat) : SG := fun d r => if i < r.length then .ok (r.set i (.val d)) else .bad
def sgsNil : SGs := fun ds r => match ds with
  | [] => .ok r
  | _ => .bad
def sgsCons (f : SG) (k : SGs) : SGs := fun ds r => match ds with
  | d :: t => (f d r).bind (k t)
  | [] => .bad
def sgT (n : Nat) (k : SGs) : SG := fun d r => match d with
  | .tup ds => if ds.length = n then k ds r else .bad
  | .par ds => if ds.length = n then k ds r else .bad
  | _ => .bad
section
variable {X : Cx} {g : Gd} {E : XK}
end
theorem resW.le {α : Type} {x : Res α} {Q : α → Prop} {Z : Str → Prop} (h : resW x Q fun _ => False) : resW x Q Z := resW.mono (fun _ z => z) (fun _ z => z.elim) h
/-- for -/
def forW (sg : SG) (body : WS) (k : Kt) : List D → Env2 → Prop
  | [], r => k.nx r
  | d :: ds, r => resW (sg d r) (fun r1 => body.run r1 { nx := forW sg body k ds, rt := k.rt, bk := k.nx, ct := forW sg body k ds, ex := k.ex }) fun _ => False
theorem forW.mono {sg : SG} {body : WS} {k k' : Kt} (h : k.Le k') : ∀ {ds : List D} {r : Env2}, forW sg body k ds r → forW sg body k' ds r
  | [], _, q => h.nx _ q
  | d :: ds, r, q => resW.mono (fun r1 z => body.mono (k := { nx := forW sg body k ds, rt := k.rt, bk := k.nx, ct := forW sg body k ds, ex := k.ex }) ⟨fun _ z => forW.mono h z, h.rt, h.nx, fun _ z => forW.mono h z, h.ex⟩ z) (fun _ z => z) q
/-- while: some number of turns is enough -/
def whileW (p : FT) (body : WS) (k : Kt) : Nat → Env2 → Prop
  | 0, _ => False
  | n + 1, r => resW (p (allv r)) (fun b => if b = true then body.run r { nx := whileW p body k n, rt := k.rt, bk := k.nx, ct := whileW p body k n, ex := k.ex } else k.nx r) k.ex
theorem whileW.mono {p : FT} {body : WS} {k k' : Kt} (h : k.Le k') : ∀ {n : Nat} {r : Env2}, whileW p body k n r → whileW p body k' n r
  | 0, _, q => q
  | n + 1, r, q => resW.mono (fun b z => by
      cases b with
      | true => exact body.mono (k := { nx := whileW p body k n, rt := k.rt, bk := k.nx, ct := whileW p body k n, ex := k.ex }) ⟨fun _ z => whileW.mono h z, h.rt, h.nx, fun _ z => whileW.mono h z, h.ex⟩ z
      | false => exact h.nx _ z) h.ex q
section
variable {X : Cx} {g : Gd} {E : XK} {k : Nat} {body : List Stmt} {a : WS} {pos : Pos}
variable {i : Nat} {y : Str} {py spos : Pos} {elt tg iter : Expr} {ifs : List Expr} {scope : Scope} {own : List (Str × Nat)} {wi : WI} {fg : FG} {ft : FT} {we : WE} {is : List Nat}
end

/-! ### a def -/
def initE (n : Nat) (ds : List D) : Env2 := ds.map Sl.val ++ List.replicate (n - ds.length) Sl.un
/-- what a def is asked: np parameters, n names -/
def fnW (np n : Nat) (w : WS) (ds : List D) (Q : D → Prop) (Z : Str → Prop) : Prop := ds.length = np ∧ w.run (initE n ds) { nx := fun _ => Q .non, rt := Q, bk := fun _ => False, ct := fun _ => False, ex := Z }
section
variable {P : Program} {w : World} {K : PySem.W.Frag} {mg : Str → Option Value} {base : Heap}
end
end FW
/-! Statements by functions; expressions by wishes; calls. -/
namespace FW
open PySem PySem.Spec PyProof.Rows L2

/-! ### statements by functions -/
inductive Out where
  | nx (r : Env2) | rt (d : D) | bk (r : Env2) | ct (r : Env2)
abbrev FS := Env2 → Res Out
def fsSkip : FS := fun r => .ok (.nx r)
def fsSeq (f h : FS) : FS := fun r => (f r).bind fun o => match o with
  | .nx r' => h r'
  | o => .ok o
def fsSet (i : Nat) (f : FE) : FS := fun r => if i < r.length then (f (plain r)).bind fun d => .ok (.nx (r.set i (.val d))) else .bad
def fsSetO (i : Nat) (f : FE) : FS := fun r => if i < r.length then (f (plain r)).bind fun d => match d with
  | .lst ds => .ok (.nx (r.set i (.own (.lst ds))))
  | _ => .bad else .bad
def fsRet (f : FE) : FS := fun r => (f (allv r)).bind fun d => .ok (.rt d)
def fsIf (p : FT) (f h : FS) : FS := fun r => (p (allv r)).bind fun b => if b = true then f r else h r
def fsExpr (f : FE) : FS := fun r => (f (allv r)).bind fun _ => .ok (.nx r)
def fsRaise (c : Str) : FS := fun _ => .exc c
def fsNever : FS := fun _ => .bad
def fsApp (i : Nat) (f : FE) : FS := fun r => match r[i]? with
  | some (.own (.lst ds)) => if ds.length < 100000 then (f (plain r)).bind fun d => .ok (.nx (r.set i (.own (.lst (ds ++ [d]))))) else .bad
  | _ => .bad
def fsAsg (sg : SG) (f : FE) : FS := fun r => (f (plain r)).bind fun d => (sg d r).calm.bind fun r' => .ok (.nx r')
def forF (sg : SG) (body : FS) : List D → Env2 → Res Out
  | [], r => .ok (.nx r)
  | d :: ds, r => (sg d r).calm.bind fun r1 => (body r1).bind fun o => match o with
    | .nx r2 => forF sg body ds r2
    | .ct r2 => forF sg body ds r2
    | .bk r2 => .ok (.nx r2)
    | .rt d => .ok (.rt d)
def fsFor (fi : FI) (sg : SG) (body : FS) : FS := fun r => (fi (plain r)).bind fun ds => forF sg body ds r
/-- a while of at most n turns -/
def whileF (p : FT) (body : FS) : Nat → Env2 → Res Out
  | 0, _ => .bad
  | n + 1, r => (p (allv r)).bind fun b => if b = true then (body r).bind fun o => (match o with
    | .nx r2 => whileF p body n r2
    | .ct r2 => whileF p body n r2
    | .bk r2 => .ok (.nx r2)
    | .rt d => .ok (.rt d)) else .ok (.nx r)
def fsWhile (n : Nat) (p : FT) (body : FS) : FS := fun r => whileF p body n r
/-- a def by a function -/
def outF : Out → Res D
  | .rt d => .ok d
  | .nx _ => .ok .non
  | _ => .bad
def fnF (np n : Nat) (f : FS) : List D → Res D := fun ds => if ds.length = np then (f (initE n ds)).bind outF else .bad
/-! ### expressions by wishes -/
section
variable {X : Cx} {g : Gd} {E : XK} {e a b : Expr} {es : List Expr} {w wa wb : WE} {ka : WA} {pos p : Pos}
end
end FW
/-! Sets of tuples of any depth (texts, numbers, None within): set(x), its length. -/
namespace FW
open PySem PySem.Spec PyProof.Rows L2

/-- the tuple at b is the key k -/
def NIs (h : Heap) (k : NestedKey) (b : Addr) : Prop := NestedIs h k (.ref b) ∧ k.depth ≤ 8
theorem NIs.keep {h h' : Heap} {k : NestedKey} {b : Addr} (x : NIs h k b) (s : ∀ c o, h.get? c = some o → h'.get? c = some o) : NIs h' k b := ⟨NestedIs.at (fun c o _ _ e _ => s c o e) k _ x.1, x.2⟩
/-- a set that changes is no tuple -/
theorem NIs.beside {h h' : Heap} {k : NestedKey} {a b : Addr} {o : Obj} {es : Array (Int × Value)} {ep : Nat} {t : SetTable} (x : NIs h k b) (ho : h.get? a = some o) (hd : o.data = .set es ep t) (s : Heap.SameBut a h h') : NIs h' k b :=
  ⟨NestedIs.at (fun c u _ _ e q => (s.2 c fun z => by
    rw [z, ho] at e
    cases e
    rw [hd] at q
    cases q).trans e) k _ x.1, x.2⟩
section
variable {P : Program} {w : World} {A : Around} {E : Value → Shared → Prop} {s : Shared}
/-! ### the set -/
abbrev NL := List (Addr × NestedKey)
def nrows (w : World) (L : NL) : List (Int × Value) := L.map fun p => (p.2.hash w, Value.ref p.1)
structure SetN (w : World) (h : Heap) (a : Addr) (L : NL) (es : Array (Int × Value)) (ep : Nat) (t : SetTable) : Prop where
  ob : ∃ o, h.get? a = some o ∧ o.ExactSet ∧ o.data = .set es ep t
  rows : es.toList = nrows w L
  tab : TabOk t (L.map fun p => p.2.hash w)
  nd : (L.map (·.2)).Nodup
  key : ∀ p ∈ L, NIs h p.2 p.1
  room : L.length * 5 < t.mask * 3
  few : L.length < 64
variable {a : Addr} {L : NL} {es : Array (Int × Value)} {ep : Nat} {t : SetTable}
theorem nrows_size {es : Array (Int × Value)} {L : NL} (h : es.toList = nrows w L) : es.size = L.length := by
  have q := congrArg List.length h
  unfold nrows at q
  rw [Array.length_toList, List.length_map] at q
  exact q
theorem SetN.size (R : SetN w s.heap a L es ep t) : es.size = L.length := nrows_size R.rows
theorem fits_of {n : Nat} (h1 : t.place.size = n) (h2 : t.dummies = #[]) (h3 : n ≤ t.mask) : t.fits n = true := by
  unfold SetTable.fits SetTable.fill
  rw [h2, Bool.and_eq_true, beq_iff_eq, decide_eq_true_eq]
  show t.place.size = n ∧ t.place.size + 0 ≤ t.mask
  omega
theorem SetN.fits (R : SetN w s.heap a L es ep t) : t.fits es.size = true := by
  have h1 := R.tab.sz
  rw [List.length_map] at h1
  have h2 := R.size
  have h3 := R.room
  exact fits_of (by omega) R.tab.dm (by omega)
end
end FW
/-! len(set(x)), x a tuple of tuples. -/
namespace FW
open PySem PySem.Spec PyProof.Rows L2

/-- what the set has after the first i items -/
structure NGot (ks : NL) (i : Nat) (L : NL) : Prop where
  sub : ∀ p ∈ L, p ∈ ks.take i
  all : ∀ p ∈ ks.take i, p.2 ∈ L.map (·.2)
  len : L.length ≤ i
theorem NGot.zero (ks : NL) : NGot ks 0 [] := ⟨fun p h => (by cases h), fun p h => (by simp at h), Nat.le_refl _⟩
theorem NGot.same {ks L : NL} {i : Nat} {x : Addr × NestedKey} (g : NGot ks i L) (h : ks[i]? = some x) (hm : x.2 ∈ L.map (·.2)) : NGot ks (i + 1) L := by
  have tn := take_next h
  refine ⟨fun p hp => ?_, fun p hp => ?_, Nat.le_succ_of_le g.len⟩
  · rw [tn]; exact List.mem_append_left _ (g.sub p hp)
  · rw [tn] at hp
    rcases List.mem_append.mp hp with z | z
    · exact g.all p z
    · rw [List.mem_singleton.mp z]; exact hm
theorem NGot.more {ks L L' : NL} {i : Nat} {x : Addr × NestedKey} (g : NGot ks i L) (h : ks[i]? = some x) (pm : L'.Perm (x :: L)) : NGot ks (i + 1) L' := by
  have tn := take_next h
  refine ⟨fun p hp => ?_, fun p hp => ?_, ?_⟩
  · rw [tn]
    rcases List.mem_cons.mp (pm.mem_iff.mp hp) with e | z
    · rw [e]; exact List.mem_append_right _ (List.mem_singleton.mpr rfl)
    · exact List.mem_append_left _ (g.sub p z)
  · rw [(pm.map (·.2)).mem_iff, List.map_cons]
    rw [tn] at hp
    rcases List.mem_append.mp hp with z | z
    · exact List.mem_cons_of_mem _ (g.all p z)
    · rw [List.mem_singleton.mp z]; exact List.mem_cons_self
  · have := pm.length_eq
    rw [List.length_cons] at this
    have := g.len
    omega
section
variable {P : Program} {w : World} {A : Around} {E : Value → Shared → Prop} {s : Shared}
theorem SetN.keep {h h' : Heap} {a : Addr} {L : NL} {es : Array (Int × Value)} {ep : Nat} {t : SetTable} (R : SetN w h a L es ep t) (ha : ∀ o, h.get? a = some o → h'.get? a = some o) (ht : ∀ p ∈ L, NIs h' p.2 p.1) : SetN w h' a L es ep t := by
  obtain ⟨o, ho, r⟩ := R.ob
  exact ⟨⟨o, ha o ho, r⟩, R.rows, R.tab, R.nd, ht, R.room, R.few⟩
end

end FW
/-! len(set(x)) by data. -/
namespace FW
open PySem PySem.Spec PyProof.Rows L2

/-! ### data as keys, how many differ -/
mutual
def D.key : D → Option NestedKey
  | .non => some .none
  | .bl b => some (.num (if b = true then 1 else 0))
  | .int i => some (.num i)
  | .str x => some (.text x)
  | .tup ds => (D.keys ds).map NestedKey.tup
  | .lst _ => none
  | .dct _ => none
  | .dice => none
  | .par _ => none
  | .dtt _ => none
  | .dtf _ => none
  | .exn _ => none
  | .hs _ _ _ _ => none
def D.keys : List D → Option (List NestedKey)
  | [] => some []
  | d :: ds => (D.key d).bind fun k => (D.keys ds).map (k :: ·)
end
def countK : List NestedKey → Nat
  | [] => 0
  | k :: ks => if ks.any (NestedKey.beq k) then countK ks else countK ks + 1
section
variable {X : Cx} {g : Gd} {I H : Hp} {pins : List (Addr × Obj)} {σ : L2.St} {s : Shared}
def D.isT : D → Bool
  | .tup _ => true
  | _ => false
/-- how many items differ -/
def dLenSet (d : D) : Res D := match d with
  | .tup ds => match D.keys ds with
    | some ks => if ds.all D.isT = true ∧ ks.length < 64 ∧ NestedKey.depthAll ks ≤ 8 then .ok (.int (countK ks : Nat)) else .bad
    | none => .bad
  | _ => .bad
def fLenSet (fa : FE) : FE := fun r => (fa r).bind dLenSet
end
end FW
/-! Within an except suite: lists walked there, sum([int(x) for x in xs]), xs.index(True), isinstance of what was caught. -/
namespace FW
open PySem PySem.Spec PyProof.Rows L2 HotX

section
variable {prog : Program} {w : World} {A : Around} {E : Value → Shared → Prop} {s : Shared}
end

/-- the context bears the handled exception p -/
structure HotP (X : Cx) (p : Addr × Obj) : Prop where
  hd : X.A.handled = some (.ref p.1)
  fs : ∃ vs : Array Value, p.2.data = .fields vs ∧ vs[2]? = some .none
  pn : p ∈ X.pn
section
variable {X : Cx} {p : Addr × Obj}
theorem HotP.at {pins : List (Addr × Obj)} {σ : L2.St} {H : Hp} {s : Shared} (c : HotP X p) (J : Inv X pins σ H s) : s.heap.get? p.1 = some p.2 := (J.pin p (List.mem_append_left _ c.pn)).1
end
end FW
/-! t.index(x) of texts; {..}, d.get(k, x); a, b = x, y; slices by wishes. -/
namespace FW
open PySem PySem.Spec PyProof.Rows L2 HotX

/-! ### t.index(x) -/
/-- the texts of a tuple -/
def textsOf : List D → Option (List Str)
  | [] => some []
  | .str x :: r => (textsOf r).map (x :: ·)
  | _ => none
theorem DRs.texts {g : Gd} {I : Hp} : ∀ {xs : List Str} {vs : List V}, DRs g I vs (xs.map D.str) → vs = xs.map V.str
  | [], _, .nil => rfl
  | x :: xs, _, .cons h t => by cases h; rw [DRs.texts t]; rfl
/-- the texts of a tuple of at least one text -/
def tupTexts : D → Option (Str × List Str)
  | .tup ds => match textsOf ds with
    | some (x :: xs) => some (x, xs)
    | _ => none
  | _ => none
def dIxOf (xs : List Str) : D → Res D
  | .str z => if z ∈ xs then .ok (.int (xs.idxOf z : Nat)) else .bad
  | _ => .bad
def fTIx (fa fb : FE) : FE := fun r => (fa r).bind fun d => match tupTexts d with
  | some p => (fb r).bind (dIxOf (p.1 :: p.2))
  | none => .bad
section
variable {X : Cx} {g : Gd} {E : XK} {o e f : Expr} {apos cpos pos : Pos} {fa fb fc : FE}
end
end FW
/-! {..}, d.get(k, x); a, b = x, y; slices by wishes. -/
namespace FW
open PySem PySem.Spec PyProof.Rows L2 HotX

/-! ### dicts of texts and numbers -/
def keyOf : D → Option Key
  | .int i => some (.inl i)
  | .str x => some (.inr x)
  | _ => none
theorem keyOf_kD (k : Key) : keyOf (kD k) = some k := by cases k <;> rfl
/-- what stands at k -/
def valD (kvs : List (D × D)) (k : Key) : Option D := (kvs.find? fun kv => decide (keyOf kv.1 = some k)).map (·.2)
def putD (kvs : List (D × D)) (k : Key) (d : D) : List (D × D) := if (kvs.any fun kv => decide (keyOf kv.1 = some k)) = true then kvs.map (fun kv => if keyOf kv.1 = some k then (kv.1, d) else kv) else kvs ++ [(kD k, d)]
def mergeD (kvs : List (D × D)) (more : List (Key × D)) : List (D × D) := more.foldl (fun acc kv => putD acc kv.1 kv.2) kvs
section
variable {g : Gd} {I : Hp}
theorem dec_key (k k' : Key) : decide (keyOf (kD k) = some k') = decide (k = k') := by
  rw [keyOf_kD]
  by_cases e : k = k' <;> simp [e]
theorem DRk.val (k : Key) : ∀ {es : List (Key × V)} {kvs : List (D × D)}, DRk g I es kvs → (valV es k = none ∧ valD kvs k = none) ∨ ∃ v d, valV es k = some v ∧ valD kvs k = some d ∧ DR g I v d
  | _, _, .nil => .inl ⟨rfl, rfl⟩
  | _, _, .cons (k := k0) (v := v) (es := es) (d := d) (kvs := kvs) h t => by
    unfold valV valD
    rw [List.find?_cons, List.find?_cons]
    by_cases e : k0 = k
    · subst e
      rw [show decide (keyOf (kD k0, d).1 = some k0) = true from by rw [dec_key]; simp, show decide ((k0, v).1 = k0) = true from by simp]
      exact .inr ⟨v, d, rfl, rfl, h⟩
    · rw [show decide (keyOf (kD k0, d).1 = some k) = false from by rw [dec_key]; simp [e], show decide ((k0, v).1 = k) = false from by simp [e]]
      exact DRk.val k t
theorem DRk.any (k : Key) : ∀ {es : List (Key × V)} {kvs : List (D × D)}, DRk g I es kvs → (es.any fun kv => decide (kv.1 = k)) = kvs.any fun kv => decide (keyOf kv.1 = some k)
  | _, _, .nil => rfl
  | _, _, .cons h t => by
    rw [List.any_cons, List.any_cons, DRk.any k t, dec_key]
theorem DRk.len : ∀ {es : List (Key × V)} {kvs : List (D × D)}, DRk g I es kvs → es.length = kvs.length
  | _, _, .nil => rfl
  | _, _, .cons _ t => congrArg (· + 1) (DRk.len t)
/-- pairs of keys and values -/
abbrev DRm (g : Gd) (I : Hp) : List (Key × V) → List (Key × D) → Prop := Paired fun p q => p.1 = q.1 ∧ DR g I p.2 q.2
theorem DRm.mono {J : Hp} (s : Sub I J) : ∀ {es : List (Key × V)} {ms : List (Key × D)}, DRm g I es ms → DRm g J es ms
  | _, _, .nil => .nil
  | _, _, .cons h t => .cons ⟨h.1, h.2.mono s⟩ (DRm.mono s t)
end
def fPairs : List (FE × FE) → Env → Res (List (Key × D))
  | [], _ => .ok []
  | (fk, fv) :: rest, r => (fk r).bind fun k => (fv r).bind fun v => (fPairs rest r).bind fun ps => match keyOf k with
    | some k' => .ok ((k', v) :: ps)
    | none => .bad
def fDisp (l : List (FE × FE)) : FE := fun r => (fPairs l r).bind fun ps => .ok (.dct (mergeD [] ps))
section
variable {X : Cx} {g : Gd} {E : XK} {o e f : Expr} {apos cpos pos : Pos} {fa fb fc : FE}
/-- d.get(k, x) -/
def fGet2 (fa fb fc : FE) : FE := fun r => (fa r).bind fun d => match d with
  | .dct kvs => (fb r).bind fun k => (fc r).bind fun x => match keyOf k with
    | some k' => .ok ((valD kvs k').getD x)
    | none => .bad
  | _ => .bad
end
end FW
/-! The head: what stands behind the top, the tables of code objects among it. -/
namespace FW
open PySem PySem.Spec PyProof.Rows L2 LamX

/-- a table of code objects -/
def isTab (o : Obj) : Bool := match o.cls, o.data with
  | .none, .fields _ => true
  | _, _ => false
def kG (g : Addr → Option Obj) (n : Nat) : PySem.W.Frag := (He.frG g (He.asD g n)).filter fun e => !isTab e.2
theorem mem_frG {g : Addr → Option Obj} {as : List Addr} {a : Addr} {o : Obj} (h : (a, o) ∈ He.frG g as) : g a = some o := by
  unfold He.frG at h
  obtain ⟨b, _, e⟩ := List.mem_filterMap.mp h
  cases hb : g b with
  | none => rw [hb] at e; cases e
  | some u => rw [hb] at e; cases e; exact hb
theorem look_mem {a : Addr} {o : Obj} : ∀ {l : List (Addr × Obj)}, l.lookup a = some o → (a, o) ∈ l
  | [], e => by cases e
  | (b, u) :: l, e => by
    rw [List.lookup_cons] at e
    cases q : (a == b) with
    | true =>
      rw [q] at e
      have e1 : u = o := Option.some.inj e
      have e2 : a = b := beq_iff_eq.mp q
      rw [e1, e2]; exact List.mem_cons_self
    | false =>
      rw [q] at e
      exact List.mem_cons_of_mem _ (look_mem e)
theorem kG_in {h : Heap} {n : Nat} : (kG h.get? n).In h := fun a o e => by
  have m : (a, o) ∈ kG h.get? n := look_mem e
  unfold kG at m
  exact mem_frG (List.mem_filter.mp m).1
/-- the code object of the def x and its empty table -/
def tabAt (g : Addr → Option Obj) (K : PySem.W.Frag) (x : Str) : Option (Addr × Addr) := match K.lookup (He.ga K x) with
  | some ⟨_, _, .func fd, _⟩ => (match fd.code with
    | .ref c => (match g c with
      | some ⟨.type T, _, .fields vs, _⟩ => (match (vs[11]? : Option Value), vs.getD 18 .none, vs.getD 7 .none, vs.getD 9 .none, vs.getD 10 .none with
        | some (.ref P), .str _ _, .int _ _, .bool _, .int _ _ => (match g P with
          | some ⟨.none, none, .fields ps, sl⟩ => if (T == "code" && (ps.isEmpty && (sl.isEmpty && (!(c == P) && (K.lookup P).isNone)))) = true then some (c, P) else none
          | _ => none)
        | _, _, _, _, _ => none)
      | _ => none)
    | _ => none)
  | _ => none
/-- what tabAt's answer says -/
structure TabFacts (h : Heap) (K : PySem.W.Frag) (x : Str) (c P : Addr) : Prop where
  fn : ∃ o1 o2 fd o3, K.lookup (He.ga K x) = some ⟨o1, o2, .func fd, o3⟩ ∧ fd.code = .ref c
  em : h.get? P = some { cls := .none, data := .fields #[] }
  no : K.lookup P = none
  hd : PySem.W.CodeHd h c P
theorem tabAt_ok {h : Heap} {K : PySem.W.Frag} {x : Str} {c P : Addr} (e : tabAt h.get? K x = some (c, P)) : TabFacts h K x c P := by
  unfold tabAt at e
  split at e
  · rename_i o1 o2 fd o3 hk
    split at e
    · rename_i c0 hc
      split at e
      · rename_i T d1 vs d2 hg
        split at e
        · rename_i P0 z18 t18 z7 t7 z9 z10 t10 e11 e18 e7 e9 e10
          split at e
          · rename_i ps sl hP
            split at e
            · rename_i q
              rw [Bool.and_eq_true, Bool.and_eq_true, Bool.and_eq_true, Bool.and_eq_true] at q
              obtain ⟨q1, q2, q3, q4, q5⟩ := q
              cases e
              have eT : T = "code" := by simpa using q1
              subst eT
              have ep : ps = #[] := Array.isEmpty_iff.mp q2
              have es : sl = #[] := Array.isEmpty_iff.mp q3
              subst ep es
              refine ⟨⟨o1, o2, fd, o3, hk, hc⟩, hP, Option.isNone_iff_eq_none.mp q5, ⟨_, vs, z18, t18, z7, t7, z9, z10, t10, hg, rfl, rfl, e11, ?_, e18, e7, e9, e10, ?_⟩⟩
              · rw [Array.getD_eq_getD_getElem?, e11]; rfl
              · simpa using q4
            · cases e
          · cases e
        · cases e
      · cases e
    · cases e
  · cases e
theorem TabFacts.keep {h h' : Heap} {K : PySem.W.Frag} {x : Str} {c P : Addr} (t : TabFacts h K x c P) (k : ∀ b o, h.get? b = some o → h'.get? b = some o) : TabFacts h' K x c P :=
  ⟨t.fn, k _ _ t.em, t.no, t.hd.keeps k⟩
abbrev AlX : Type := He.AlD × Bool × Bool
end FW
/-! The draws: the defs that make the rounds and roll the dice. -/
namespace FW
open PySem PySem.Spec PyProof.Rows L2

section
variable {P : Program} {w : World} {K : PySem.W.Frag} {mg : Str → Option Value} {base : Heap}
end
/-- all stands that stood -/
def Ext (H H' : Hp) : Prop := ∀ b o, H b = some o → H' b = some o
theorem Ext.refl (H : Hp) : Ext H H := fun _ _ e => e
theorem Ext.trans {H H1 H2 : Hp} (p : Ext H H1) (q : Ext H1 H2) : Ext H H2 := fun b o e => q b o (p b o e)
theorem Ext.new {H : Hp} {p : Addr} {o : HO} (h : H p = none) : Ext H (upd H p o) := fun b u e => by rw [upd_ne (ne_of_none e h)]; exact e
/-! ### one number of the script, a stir -/
end FW
/-! The law's def with its table; classes that are named. -/
namespace FW
open PySem PySem.Spec PyProof.Rows L2 LamX

section
variable {P : Program} {w : World} {K : PySem.W.Frag} {mg : Str → Option Value} {base : Heap}
end
section
variable {X : Cx} {g : Gd} {E : XK}
end
/-! ### the classes -/
def excB (K : PySem.W.Frag) (D : Addr) : Bool :=
  decide (PySem.W.findIn K (.ref D) "__getattribute__" = some (some (.builtin "BaseException.__getattribute__"))) && (decide (PySem.W.findIn K (.ref D) "__getattr__" = some none) && (decide (PySem.W.subIn K (.ref D) (.type "BaseException") = some true) && (PySem.W.hasDictIn K D &&
    (decide (PySem.W.findIn K (.ref D) "__class__" = some (some (.builtin "object.__class__"))) && (decide (PySem.W.specialIn K (.builtin "object.__class__") "__get__" = some (some (.builtin "getset_descriptor.__get__"))) && (decide (PySem.W.takesIn K (.builtin "object.__class__") = some true) && decide (PySem.W.mroIn K D (.type "object") = some true)))))))
/-- a class among the named: what it says of the others -/
def clsB (K : PySem.W.Frag) (base : Str) (names : List Str) (c : Str) : Bool := excB K (He.ga K c) && ((names.all fun y => decide (PySem.W.kitOne K (.ref (He.ga K c)) (.ref (He.ga K y)) = some (decide (c = y)))) && (decide (PySem.W.kitOne K (.ref (He.ga K c)) (.type "ValueError") = some true) && decide (PySem.W.exmOne K (.ref (He.ga K c)) (.ref (He.ga K base)) = some true)))
section
variable {X : Cx} {p : Addr × Obj} {c y : Str} {base : Str} {names : List Str}
end
end FW
/-! What is never come to; tuple * 1, text * n; pairs of stores by functions. -/
namespace FW
open PySem PySem.Spec PyProof.Rows L2
section
variable {X : Cx} {g : Gd} {E : XK} {e : Expr} {st : Stmt} {sts : List Stmt}
end
section
variable {X : Cx} {g : Gd} {E : XK}
/-! ### tuple * 1 -/
/-! ### text * n -/
def repS (z : Str) (n : Nat) : Str := ⟨(List.replicate n z.cps).foldl (· ++ ·) #[]⟩
/-! ### all of * -/
def dMulX (x y : D) : Res D := match x, y with
  | .tup a, .int 1 => .ok (.tup a)
  | .str z, .int k => if 2 ≤ k ∧ k ≤ 1000 ∧ 0 < z.length ∧ z.length ≤ 1000 then .ok (.str (repS z k.toNat)) else .bad
  | x, y => dMul x y
end
/-! ### pairs of stores by functions -/
def fsParOV (i j : Nat) (f1 f2 : FE) : FS := fun r => if i < r.length ∧ j < r.length then (f1 (plain r)).bind fun d => match d with
  | .lst ds => (f2 (plain r)).bind fun e => .ok (.nx ((r.set i (.own (.lst ds))).set j (.val e)))
  | _ => .bad else .bad
def fsParVO (i j : Nat) (f1 f2 : FE) : FS := fun r => if i < r.length ∧ j < r.length then (f1 (plain r)).bind fun d => (f2 (plain r)).bind fun e => match e with
  | .lst ds => .ok (.nx ((r.set i (.val d)).set j (.own (.lst ds))))
  | _ => .bad else .bad
end FW
/-! sum of tuples. -/
namespace FW
open PySem PySem.Spec PyProof.Rows L2
section
variable {X : Cx} {g : Gd} {E : XK} {e : Expr} {es : List Expr} {kk : FA} {ka : WA} {p pos : Pos}
def dSumX : List D → Res D
  | [.lst xs] => match intsOf xs with
    | some bs => .ok (.int bs.sum)
    | none => .bad
  | [.tup xs] => match intsOf xs with
    | some bs => .ok (.int bs.sum)
    | none => .bad
  | _ => .bad
end
end FW
/-! Readings of what is one's own, whose answer is kept; stores into it; moves. -/
namespace FW
open PySem PySem.Spec PyProof.Rows L2
mutual
def D.hsh : D → Bool
  | .non => true
  | .bl _ => true
  | .int _ => true
  | .str _ => true
  | .tup ds => D.hshs ds
  | .par ds => D.hshs ds
  | .lst _ => false
  | .dct _ => false
  | .dice => false
  | .dtt _ => false
  | .dtf _ => false
  | .exn _ => false
  | .hs _ _ _ _ => false
def D.hshs : List D → Bool
  | [] => true
  | d :: ds => D.hsh d && D.hshs ds
end
section
variable {g : Gd} {J K : Hp}
end
section
variable {g : Gd} {I0 H0 I H I' H' : Hp} {r : Env2} {σ : L2.St}
/-- a name is given up -/
theorem SRI.drop (x : SRI g I0 H0 I r σ H) (j : Nat) : SRI g I0 H0 I (r.set j .un) σ H := by
  have back : ∀ {m : Nat} {s : Sl}, s ≠ .un → (r.set j Sl.un)[m]? = some s → m ≠ j ∧ r[m]? = some s := fun {m s} hs h => by
    by_cases hm : m = j
    · subst hm
      by_cases hl : m < r.length
      · rw [List.getElem?_set_self hl] at h; cases h; exact absurd rfl hs
      · rw [List.getElem?_eq_none (by rw [List.length_set]; omega)] at h; cases h
    · rw [List.getElem?_set_ne (Ne.symm hm)] at h; exact ⟨hm, h⟩
  exact ⟨x.stp, by rw [List.length_set]; exact x.len, fun i c hc => x.val i c (back (by intro z; cases z) hc).2, fun i c hc => x.own i c (back (by intro z; cases z) hc).2,
    fun i k c e q h1 h2 h3 h4 => x.inj i k c e q (back (by intro z; cases z) h1).2 (back (by intro z; cases z) h2).2 h3 h4⟩
end
/-! ### statements -/
/-- x[y] = d -/
def putAny (x y d : D) : Option D := match x, y with
  | .lst ds, .int n => (ixN ds.length n).map fun j => .lst (ds.set j d)
  | .dct kvs, y => match keyOf y with
    | some k => if kvs.length < 100000 then some (.dct (putD kvs k d)) else none
    | none => none
  | _, _ => none
section
variable {X : Cx} {g : Gd} {E : XK} {st : Stmt} {e e2 : Expr} {w wk wv : WE} {pos : Pos} {k : Nat}
end
/-! ### by functions -/
def fsSetH (i : Nat) (f : FE) : FS := fun r => if i < r.length then (f (allv r)).bind fun d => if d.hsh = true then .ok (.nx (r.set i (.val d))) else .bad else .bad
def fsPut (i : Nat) (fk fv : FE) : FS := fun r => match r[i]? with
  | some (.own x) => (fv (allv r)).bind fun d => if d.hsh = true then (fk (allv r)).bind fun y => if y.hsh = true then (match putAny x y d with
    | some x' => .ok (.nx (r.set i (.own x')))
    | none => .bad) else .bad else .bad
  | _ => .bad
end FW
/-! Dicts read, asked, made by a comprehension; texts split, joined, formatted. -/
namespace FW
open PySem PySem.Spec PyProof.Rows L2
section
variable {X : Cx} {g : Gd} {E : XK} {a b e o : Expr} {es : List Expr} {fa fb : FE} {kk : FA} {p pos apos : Pos} {k : Nat}
/-! ### d[k] -/
def dIxX (x y : D) : Res D := match x with
  | .dct kvs => match keyOf y with
    | some k => match valD kvs k with
      | some d => .ok d
      | none => .bad
    | none => .bad
  | x => dIx x y
/-! ### k in d -/
def dInX (x y : D) : Res D := match y with
  | .dct kvs => match keyOf x with
    | some k => .ok (.bl (valD kvs k).isSome)
    | none => .bad
  | y => dIn x y
def dNotInX (x y : D) : Res D := match y with
  | .dct kvs => match keyOf x with
    | some k => .ok (.bl (!(valD kvs k).isSome))
    | none => .bad
  | y => dNotIn x y
/-! ### texts -/
def fM1 (dop : Str → D → Res D) (fa fb : FE) : FE := fun r => (fa r).bind fun x => match x with
  | .str z => (fb r).bind (dop z)
  | _ => .bad
def dSplit (z : Str) (y : D) : Res D := match y with
  | .str b => if (b.length == 0) = false ∧ z.length ≤ 90000 then .ok (.lst ((Txt.split z b).map D.str)) else .bad
  | _ => .bad
def dStr : List D → Res D
  | [.int i] => if i.natAbs.log2 < 1920 then .ok (.str (Str.ofString (toString i))) else .bad
  | _ => .bad
def dIntX : List D → Res D
  | [.str a] => match PySem.intText? a with
    | some n => if a.length ≤ 640 then .ok (.int n) else .bad
    | none => .bad
  | ds => dInt ds
/-! ### f'..' -/
end
end FW
/-! Dicts of one's own by a comprehension; lists of one's own by *, list(). -/
namespace FW
open PySem PySem.Spec PyProof.Rows L2
def dcF (fg : FG) (ft : FT) (fk fv : FE) (r : Env) : List D → List (D × D) → Res (List (D × D))
  | [], acc => .ok acc
  | d :: ds, acc => (fg d r).calm.bind fun r1 => (ft r1).calm.bind fun b => if b = true then (fk r1).calm.bind fun y => (fv r1).calm.bind fun z => match keyOf y with
    | some k => dcF fg ft fk fv r ds (putD acc k z)
    | none => .bad else dcF fg ft fk fv r ds acc
def fDc (fi : FI) (fg : FG) (ft : FT) (fk fv : FE) (vs : List Nat) : FE := fun r => (fi r).bind fun ds => if ds.length ≤ 100000 then (dcF fg ft fk fv (wipeE r vs) ds []).calm.bind fun kvs => .ok (.dct kvs) else .bad
section
variable {X : Cx} {g : Gd} {E : XK}
variable {kx vx tg iter : Expr} {ifs : List Expr} {scope : Scope} {own : List (Str × Nat)} {pos : Pos} {fi : FI} {fg : FG} {ft : FT} {fk fv : FE} {is : List Nat}
end
def fsSetOD (i : Nat) (f : FE) : FS := fun r => if i < r.length then (f (plain r)).bind fun d => match d with
  | .dct kvs => .ok (.nx (r.set i (.own (.dct kvs))))
  | _ => .bad else .bad
end FW
/-! dict(zip(x, y)) as an expression. -/
namespace FW
open PySem PySem.Spec PyProof.Rows L2
theorem IsSq.keep {h h' : Heap} {t : Bool} {a : Addr} {its : Array Value} (x : IsSq h t a its) (k : ∀ o, h.get? a = some o → h'.get? a = some o) : IsSq h' t a its := by
  cases t with
  | true => exact Heap.IsTuple.at x k
  | false => exact Heap.IsList.at x k
theorem IsSq.there {h : Heap} {t : Bool} {a : Addr} {its : Array Value} (x : IsSq h t a its) : ∃ o, h.get? a = some o := by
  cases t with
  | true => obtain ⟨o, ho, _⟩ := x; exact ⟨o, ho⟩
  | false => obtain ⟨o, ho, _⟩ := x; exact ⟨o, ho⟩
section
variable {X : Cx} {g : Gd} {E : XK} {e e2 : Expr} {ta : TA} {p p2 q pos : Pos}
/-! ### over data -/
def keysOf : List D → Option (List Key)
  | [] => some []
  | d :: ds => match keyOf d, keysOf ds with
    | some k, some ks => some (k :: ks)
    | _, _ => none
end
end FW
/-! list.count; lists of one's own by * and list(). -/
namespace FW
open PySem PySem.Spec PyProof.Rows L2
section
variable {X : Cx} {g : Gd} {E : XK} {a b e o : Expr} {es : List Expr} {fa fb : FE} {kk : FA} {p pos apos cpos : Pos}
def dCount (x y : D) : Res D := match x with
  | .lst ds => if (y.flat && ds.all D.flat) = true then .ok (.int (ds.countP (fun z => D.eqv z y) : Nat)) else .bad
  | _ => .bad
def fCount (fa fb : FE) : FE := fun r => (fa r).bind fun x => match x with
  | .lst ds => (fb r).bind fun y => dCount (.lst ds) y
  | _ => .bad
/-! ### lists of one's own -/
end
end FW
/-! Sets of texts: made of a list or a tuple, their length, sorted. -/
namespace FW
open PySem PySem.Spec PyProof.Rows L2

def txK (e : Int × Value) : Str := match e.2 with
  | .str k _ => k
  | _ => Str.empty
def TxE (w : World) (e : Int × Value) : Prop := ∃ k tk, e.2 = Value.str k tk ∧ e.1 = hashStr w k
/-- the set at a has just the texts L, each once -/
structure TxS (w : World) (h : Heap) (a : Addr) (L : List Str) : Prop where
  ex : ∃ o es ep t, (h.get? a = some o ∧ o.ExactSet ∧ o.data = .set es ep t) ∧ ((∀ e ∈ es.toList, TxE w e) ∧ (es.toList.map txK) = L) ∧ (es.size < scanBound ∧ t.fits es.size = true) ∧ (Ris t.place.toList ∧ (w.params.followText "set-order" = true ∨ t.led = true))
  nd : L.Nodup
section
variable {P : Program} {w : World} {A : Around} {E : Value → Shared → Prop} {s : Shared} {a : Addr} {L : List Str}
theorem TxS.keep {h h' : Heap} (R : TxS w h a L) (k : ∀ o, h.get? a = some o → h'.get? a = some o) : TxS w h' a L := by
  obtain ⟨o, es, ep, t, ⟨q1, q2⟩, q3⟩ := R.ex
  exact ⟨⟨o, es, ep, t, ⟨k o q1, q2⟩, q3⟩, R.nd⟩
/-- the texts of a list, each once -/
def onceS : List Str → List Str
  | [] => []
  | x :: xs => if x ∈ onceS xs then onceS xs else x :: onceS xs
end
end FW
/-! texts sorted; x in t, t.count(x) of nested tuples; sorted(set(x)), len(set(x)) of texts. -/
namespace FW
open PySem PySem.Spec PyProof.Rows L2

/-! ### the order of texts -/
def leS (x y : Str) : Bool := !ltCps y.cps.toList x.cps.toList
def insS (x : Str) : List Str → List Str
  | [] => [x]
  | y :: r => if leS x y = true then x :: y :: r else y :: insS x r
def sortS : List Str → List Str
  | [] => []
  | x :: r => insS x (sortS r)
/-! ### set(x) of texts, then len or sorted -/
def seqTexts : D → Option (List Str)
  | .tup ds => textsOf ds
  | .lst ds => textsOf ds
  | _ => none
def dSortSet (d : D) : Res D := match seqTexts d with
  | some xs => if xs.length < 64 then .ok (.lst ((sortS (onceS xs)).map D.str)) else .bad
  | none => .bad
def fSortSet (fa : FE) : FE := fun r => (fa r).bind dSortSet
section
variable {X : Cx} {g : Gd} {E : XK}
/-! ### nested tuples: in, count -/
variable {k : Nat} {a b e o : Expr} {fa fb : FE} {pos apos cpos : Pos}
end
end FW
/-! A class whose making is refused: C(x), where __init__ raises. -/
namespace FW
open PySem PySem.Spec PyProof.Rows L2
section
variable {P : Program} {w : World} {K : PySem.W.Frag} {mg : Str → Option Value} {base : Heap}
end
section
variable {X : Cx} {g : Gd} {E : XK} {x : Str} {e : Expr} {kl k : Nat} {ps : List Str} {p pos : Pos}
end
/-- a statement of a class's body -/
def clsStmt (s : Stmt) (j : Nat) : Stmt := match s with
  | .ClassDef _ _ _ body _ _ _ _ _ _ _ => body.getD j (.Pass ⟨0, 0, 0, 0⟩)
  | s => s
end FW
/-! Dicts as values: comprehensions, len, sorted, dict(pairs), list(d); what walks a dict's keys (locked meanwhile). max of a list or tuple. -/
namespace FW
open PySem PySem.Spec PyProof.Rows L2 LamX
section
variable {X : Cx} {g : Gd} {E : XK} {a e : Expr} {es : List Expr} {fa : FE} {kk : FA} {p pos : Pos}
/-! ### len -/
def dLenX : List D → Res D
  | [.dct kvs] => .ok (.int (kvs.length : Nat))
  | ds => dLen ds
/-! ### sorted(d), list(d), dict(pairs) -/
theorem DR.kV {I : Hp} : ∀ k : Key, DR g I (kV k) (kD k)
  | .inl i => .int i
  | .inr x => .str x
theorem DRk.fst {I : Hp} : ∀ {es : List (Key × V)} {kvs : List (D × D)}, DRk g I es kvs → DRs g I (es.map fun kv => L2.kV kv.1) (kvs.map Prod.fst)
  | _, _, .nil => .nil
  | _, _, .cons _ t => .cons (DR.kV _) (DRk.fst t)
/-! ### a comprehension's dict as a value -/
variable {kx vx tg iter : Expr} {ifs : List Expr} {scope : Scope} {own : List (Str × Nat)} {fi : FI} {fg : FG} {ft : FT} {fk fv : FE} {is : List Nat}
end
end FW
/-! A comprehension over the keys of a dict that is a value: the dict is locked meanwhile. -/
namespace FW
open PySem PySem.Spec PyProof.Rows L2 LamX
section
variable {g : Gd} {I J : Hp} {a : Addr} {es0 : List (Key × V)}
/-- a dict locked or unlocked -/
structure Swp (I J : Hp) (a : Addr) (es0 : List (Key × V)) : Prop where
  oth : ∀ b o, b ≠ a → I b = some o → J b = some o
  old : Rd I a (.dK es0)
  new : Rd J a (.dK es0)
theorem Swp.not (s : Swp I J a es0) {b : Addr} {o : HO} (h : I b = some o) (h1 : ∀ es, o ≠ .dK es) (h2 : ∀ q es, o ≠ .frz q (.dK es)) : J b = some o := by
  refine s.oth b o (fun e => ?_) h
  subst e
  rcases s.old with z | ⟨q, z⟩
  · rw [h] at z; exact h1 _ (Option.some.inj z)
  · rw [h] at z; exact h2 _ _ (Option.some.inj z)
theorem Swp.rd (s : Swp I J a es0) {b : Addr} {es : List (Key × V)} (h : Rd I b (.dK es)) : Rd J b (.dK es) := by
  by_cases e : b = a
  · subst e
    have : es = es0 := by
      rcases s.old with z | ⟨q, z⟩ <;> rcases h with y | ⟨q', y⟩ <;> rw [z] at y <;> cases y <;> rfl
    rw [this]; exact s.new
  · exact h.elim (fun z => .inl (s.oth _ _ e z)) fun ⟨q, z⟩ => .inr ⟨q, s.oth _ _ e z⟩
end
section
variable {X : Cx} {g : Gd} {E : XK}
def fIterK (fa : FE) : FI := fun r => (fa r).bind fun d => match d with
  | .dct kvs => .ok (kvs.map Prod.fst)
  | _ => .bad
variable {elt tg iter : Expr} {ifs : List Expr} {scope : Scope} {own : List (Str × Nat)} {pos : Pos} {fi : FI} {fg : FG} {ft : FT} {fe : FE} {is : List Nat}
end
end FW
/-! Dicts of one's own: copies, two or three at once, pop; what is one's own is given up ahead of a statement. -/
namespace FW
open PySem PySem.Spec PyProof.Rows L2 LamX
section
variable {X : Cx} {g : Gd} {E : XK} {e : Expr} {es : List Expr} {fa : FE} {p pos : Pos}
end
/-! ### two, three at once -/
section
variable {X : Cx} {g : Gd} {E : XK} {i j l : Nat} {x y z : Str} {a b c : Expr} {w1 w2 w3 : WE} {px py pz pt pos pt2 : Pos} {kt k2 : Nat}
end
/-! ### pop -/
section
variable {X : Cx} {g : Gd} {E : XK} {wk : WE} {e : Expr} {pos : Pos}
end
/-! ### by functions -/
def asD (d : D) (k : List (D × D) → Res Out) : Res Out := match d with
  | .dct kvs => k kvs
  | _ => .bad
end FW
/-! sorted of a list of tuples of whole numbers. -/
namespace FW
open PySem PySem.Spec PyProof.Rows L2 LamX
/-! ### sorting by an order, in plain words -/
def insB {α : Type} (le : α → α → Bool) (x : α) : List α → List α
  | [] => [x]
  | y :: r => if le x y = true then x :: y :: r else y :: insB le x r
def sortB {α : Type} (le : α → α → Bool) : List α → List α
  | [] => []
  | x :: r => insB le x (sortB le r)
structure TotO {α : Type} (le : α → α → Bool) : Prop where
  tr : ∀ a b c, le a b = true → le b c = true → le a c = true
  to : ∀ a b, (le a b || le b a) = true
  an : ∀ a b, le a b = true → le b a = true → a = b
section
variable {α : Type} {le : α → α → Bool}
end
/-! ### rows of whole numbers -/
def leR : List Int → List Int → Bool
  | [], _ => true
  | _ :: _, [] => false
  | x :: xs, y :: ys => if x = y then leR xs ys else decide (x < y)
theorem leR_le : ∀ xs ys : List Int, leR xs ys = decide (xs ≤ ys)
  | [], ys => by rw [leR]; symm; exact decide_eq_true (List.nil_le ys)
  | x :: xs, [] => by
    rw [leR]; symm
    exact decide_eq_false (by simp)
  | x :: xs, y :: ys => by
    rw [leR, leR_le xs ys]
    by_cases h : x = y
    · subst h
      rw [if_pos rfl, decide_eq_decide, List.cons_le_cons_iff]
      exact ⟨fun z => .inr ⟨rfl, z⟩, fun z => z.elim (fun q => absurd q (Int.lt_irrefl x)) fun q => q.2⟩
    · rw [if_neg h, decide_eq_decide, List.cons_le_cons_iff]
      exact ⟨.inl, fun z => z.elim id fun q => absurd q.1 h⟩
theorem totR : TotO leR where
  tr := fun a b c h1 h2 => by
    rw [leR_le, decide_eq_true_iff] at *
    exact List.le_trans h1 h2
  to := fun a b => by
    rw [leR_le, leR_le, Bool.or_eq_true, decide_eq_true_iff, decide_eq_true_iff]
    exact List.le_total a b
  an := fun a b h1 h2 => by
    rw [leR_le, decide_eq_true_iff] at *
    exact List.le_antisymm h1 h2
abbrev tupR (ns : List Int) : D := .tup (ns.map D.int)
/-- a list's items as rows, none empty -/
def rowsD : List D → Option (List (List Int))
  | [] => some []
  | .tup ds :: r => match intsOf ds with
    | some (n :: ns) => (rowsD r).map ((n :: ns) :: ·)
    | _ => none
  | _ => none
def dSortR (d : D) : Res D := match d with
  | .lst ds => match rowsD ds with
    | some rs => if rs.length ≤ 100000 then .ok (.lst ((sortB leR rs).map tupR)) else .bad
    | none => .bad
  | _ => .bad
def fSortR (fa : FE) : FE := fun r => (fa r).bind dSortR
section
variable {X : Cx} {g : Gd} {E : XK} {I H : Hp} {pins : List (Addr × Obj)} {σ : L2.St} {s : Shared}
end
end FW
/-! sorted(set(x)), x a list of tuples of counts. -/
namespace FW
open PySem PySem.Spec PyProof.Rows L2 LamX
abbrev BB : Int := 100000
def onceR : List (List Int) → List (List Int)
  | [] => []
  | x :: xs => if x ∈ xs then onceR xs else x :: onceR xs
def goodR (rs : List (List Int)) : Bool := match rs with
  | [] => true
  | r :: _ => rs.all fun x => x.length == r.length && x.all fun n => decide (0 ≤ n) && decide (n < BB)
def dSortSetR (d : D) : Res D := match d with
  | .lst ds => match rowsD ds with
    | some rs => if rs.length < 64 ∧ goodR rs = true then .ok (.lst ((sortB leR (onceR rs)).map tupR)) else .bad
    | none => .bad
  | _ => .bad
def fSortSetR (fa : FE) : FE := fun r => (fa r).bind dSortSetR
section
variable {X : Cx} {g : Gd} {E : XK} {I H : Hp}
end
end FW
/-! sorted(x, key=lambda row: (sum(row), row)), x a list of tuples of ints. -/
namespace FW
open PySem PySem.Spec PyProof.Rows L2 LamX
/-! ### by the sum, then as rows -/
def leK (a b : List Int) : Bool := if a.sum = b.sum then leR a b else decide (a.sum < b.sum)
/-! ### the lambda called -/
section
variable {X : Cx} {pins : List (Addr × Obj)} {σ : L2.St} {H : Hp} {s : Shared}
end
end FW
/-! sorted(x, key=lambda row: (sum(row), row)) as an expression. -/
namespace FW
open PySem PySem.Spec PyProof.Rows L2 LamX
def dSortK (d : D) : Res D := match d with
  | .lst ds => match rowsD ds with
    | some rs => if rs.length ≤ 100000 then .ok (.lst ((sortB leK rs).map tupR)) else .bad
    | none => .bad
  | _ => .bad
def fSortK (fa : FE) : FE := fun r => (fa r).bind dSortK
section
variable {X : Cx} {g : Gd} {E : XK}
end
end FW
/-! Two tables of code objects at once; defs that want the tables known. -/
namespace FW
open PySem PySem.Spec PyProof.Rows L2 LamX

/-- the tables of two defs, distinct -/
def twoT (g : Addr → Option Obj) (K : PySem.W.Frag) (x y : Str) : Bool := match tabAt g K x, tabAt g K y with
  | some p, some q => !(p.2 == q.2) && !(p.1 == q.1)
  | _, _ => false
def obsY (n : Nat) (fa : List He.Fa) (fn : List He.DefD) (more : PySem.W.Frag → Bool) (x y : Str) (g : Addr → Option Obj) : AlX := (He.obsD fa fn (kG g n), more (kG g n), twoT g (kG g n) x y)
structure SaysY (fa : List He.Fa) (fn : List He.DefD) (more : PySem.W.Frag → Bool) (x y : Str) (K : PySem.W.Frag) (h : Heap) : Prop where
  kin : K.In h
  fac : He.SaysD fa fn K
  mor : more K = true
  tab : ∃ c P c2 P2, TabFacts h K x c P ∧ TabFacts h K y c2 P2 ∧ P ≠ P2 ∧ c ≠ c2
def hookY (n : Nat) (fa : List He.Fa) (fn : List He.DefD) (more : PySem.W.Frag → Bool) (x y : Str) : PySem.W.Hook where
  α := AlX
  obs := fun s => obsY n fa fn more x y s.heap.get?
  val := fun _ => (He.valD fn, true, true)
  says := fun _ h => ∃ K : PySem.W.Frag, SaysY fa fn more x y K h
  of := fun _ s e => by
    unfold obsY at e
    injection e with e1 e2
    injection e2 with e2 e3
    refine ⟨kG s.heap.get? n, kG_in, e1, e2, ?_⟩
    unfold twoT at e3
    split at e3
    · rename_i p q hp hq
      rw [Bool.and_eq_true] at e3
      exact ⟨p.1, p.2, q.1, q.2, tabAt_ok hp, tabAt_ok hq, by simpa using e3.1, by simpa using e3.2⟩
    · cases e3
  keeps := fun _ _ _ ⟨K, t⟩ k => ⟨K, PySem.W.Frag.In.keeps t.kin k, t.fac, t.mor, by
    obtain ⟨c, P, c2, P2, z, z2, n1, n2⟩ := t.tab
    exact ⟨c, P, c2, P2, z.keep k, z2.keep k, n1, n2⟩⟩
theorem obsY_eq {n : Nat} {fa : List He.Fa} {fn : List He.DefD} {more : PySem.W.Frag → Bool} {x y : Str} {g : Addr → Option Obj} {s : Shared} (h : ∀ a, g a = s.heap.get? a) : obsY n fa fn more x y g = (hookY n fa fn more x y).obs s := by
  have e : g = s.heap.get? := funext h
  rw [e]; rfl

/-! ### defs at known tables -/
section
variable {X : Cx} {g : Gd} {E : XK} {k kl : Nat} {x : Str} {ps : List Str} {e : Expr} {es : List Expr} {p pos : Pos} {T : List (Addr × Str)}
end
section
variable {P : Program} {w : World} {K : PySem.W.Frag} {mg : Str → Option Value} {base : Heap} {T : List (Addr × Str)}
end
end FW
/-! `for p in zip(x, y)`, the target a name. -/
namespace FW
open PySem PySem.Spec PyProof.Rows L2 LamX
/-- a zip: its field 0 and whether it is known to be out -/
abbrev ZF (h : Heap) (z TI TO : Addr) (v : Value) (f : Bool) : Prop :=
  h.get? z = some { cls := .type "zip", dict := none, data := .fields #[v, .bool f, .bool false, .ref TI, .ref TO], slots := #[] }
section
variable {prog : Program} {w : World} {A : Around} {E : Value → Shared → Prop} {s : Shared} {z TI TO T i1 i2 : Addr} {fp1 fp2 : List Addr} {n1 n2 i : Nat} {P1 P2 : Nat → Value → Prop} {St1 St2 : Nat → Heap → Prop} {f : Bool} {oT : Obj} {a1 a2 : Value}
/-- a zip between turns, its target a name -/
def ZSN (z TI TO i1 i2 : Addr) (St1 St2 : Nat → Heap → Prop) (i : Nat) (h : Heap) : Prop :=
  IsTupOf2 h TI (.ref i1) (.ref i2) ∧ (∃ a1 a2, IsTupOf2 h TO a1 a2) ∧ St1 i h ∧ St2 i h ∧ (ZF h z TI TO .none false ∨ ∃ (T : Addr) (f : Bool), ZF h z TI TO (rawInt T) f)
end
section
variable {X : Cx} {g : Gd} {E : XK} {K : PySem.W.Frag}
end
end FW
/-! A comprehension of two for. -/
namespace FW
open PySem PySem.Spec PyProof.Rows L2 LamX
def lc2F (fg : FG) (ft : FT) (fi1 : FI) (fg1 : FG) (ft1 : FT) (fe : FE) (vs1 : List Nat) (r : Env) : List D → Res (List D)
  | [] => .ok []
  | d :: ds => (fg d r).calm.bind fun r1 => (ft r1).calm.bind fun b => if b = true then (fi1 r1).calm.bind fun es => (lcF fg1 ft1 fe (wipeE r1 vs1) es).calm.bind fun ys => (lc2F fg ft fi1 fg1 ft1 fe vs1 r ds).calm.bind fun zs => .ok (ys ++ zs) else lc2F fg ft fi1 fg1 ft1 fe vs1 r ds
def fLc2 (fi : FI) (fg : FG) (ft : FT) (fi1 : FI) (fg1 : FG) (ft1 : FT) (fe : FE) (vs vs1 : List Nat) : FE := fun r => (fi r).bind fun ds => (lc2F fg ft fi1 fg1 ft1 fe vs1 (wipeE r vs) ds).calm.bind fun ys => if ys.length ≤ 100000 then .ok (.lst ys) else .bad
section
variable {X : Cx} {g : Gd} {E : XK} {fi fi1 : FI} {fg fg1 : FG} {ft ft1 : FT} {fe : FE} {vs vs1 is is1 : List Nat}
variable {elt tg iter tg1 iter1 : Expr} {ifs ifs1 : List Expr} {scope : Scope} {own own1 : List (Str × Nat)} {pos spos py : Pos} {k : Nat} {y : Str}
end
/-- a def that calls itself, by the depth -/
def recF (np n : Nat) (fs : (List D → Res D) → FS) : Nat → List D → Res D
  | 0 => fnF np n fsNever
  | j + 1 => fnF np n (fs (recF np n fs j))
end FW
/-! Dicts whose keys are tuples; several names at once, each by its own kind; pop of a list. -/
namespace FW
open PySem PySem.Spec PyProof.Rows L2 LamX

/-! ### data -/
def keyT : D → Option (List Key)
  | .tup ds => keysOf ds
  | _ => none
theorem keysOf_kD : ∀ k : List Key, keysOf (k.map kD) = some k
  | [] => rfl
  | k :: ks => by rw [List.map_cons, keysOf, keyOf_kD, keysOf_kD ks]
theorem keyT_kD (k : List Key) : keyT (.tup (k.map kD)) = some k := keysOf_kD k
def valT (kvs : List (D × D)) (k : List Key) : Option D := (kvs.find? fun kv => decide (keyT kv.1 = some k)).map (·.2)
section
variable {g : Gd} {I : Hp}
theorem dec_keyT (k k' : List Key) : decide (keyT (.tup (k.map kD)) = some k') = decide (k = k') := by
  rw [keyT_kD]
  by_cases e : k = k' <;> simp [e]
theorem DRt.val (k : List Key) : ∀ {es : List (List Key × V)} {kvs : List (D × D)}, DRt g I es kvs → (valV es k = none ∧ valT kvs k = none) ∨ ∃ v d, valV es k = some v ∧ valT kvs k = some d ∧ DR g I v d
  | _, _, .nil => .inl ⟨rfl, rfl⟩
  | _, _, .cons (k := k0) (v := v) (es := es) (d := d) (kvs := kvs) h t => by
    unfold valV valT
    rw [List.find?_cons, List.find?_cons]
    by_cases e : k0 = k
    · subst e
      rw [show decide (keyT (D.tup (k0.map kD), d).1 = some k0) = true from by rw [dec_keyT]; simp, show decide ((k0, v).1 = k0) = true from by simp]
      exact .inr ⟨v, d, rfl, rfl, h⟩
    · rw [show decide (keyT (D.tup (k0.map kD), d).1 = some k) = false from by rw [dec_keyT]; simp [e], show decide ((k0, v).1 = k) = false from by simp [e]]
      exact DRt.val k t
theorem DRt.any (k : List Key) : ∀ {es : List (List Key × V)} {kvs : List (D × D)}, DRt g I es kvs → (es.any fun kv => decide (kv.1 = k)) = kvs.any fun kv => decide (keyT kv.1 = some k)
  | _, _, .nil => rfl
  | _, _, .cons h t => by
    rw [List.any_cons, List.any_cons, DRt.any k t, dec_keyT]
theorem DRt.len : ∀ {es : List (List Key × V)} {kvs : List (D × D)}, DRt g I es kvs → es.length = kvs.length
  | _, _, .nil => rfl
  | _, _, .cons _ t => congrArg (· + 1) (DRt.len t)
/-- ints alone -/
def intsK (k : List Key) : Bool := k.all fun x => match x with
  | .inl _ => true
  | .inr _ => false
end
/-! ### k in d, d[k] -/
def keyI (x : D) : Option (List Key) := match keyT x with
  | some k => if intsK k = true then some k else none
  | none => none
section
variable {X : Cx} {g : Gd} {E : XK} {a b e o : Expr} {es : List Expr} {fa fb : FE} {kk : FA} {p pos apos : Pos} {k : Nat}
end
end FW
/-! Several names at once, each by its own kind; stores into dicts of tuples; pop of a list. -/
namespace FW
open PySem PySem.Spec PyProof.Rows L2 LamX

/-! ### len -/
section
variable {X : Cx} {g : Gd} {E : XK} {e : Expr} {es : List Expr} {kk : FA} {p pos : Pos}
end
/-! ### kinds -/
inductive Kd where
  | v | l | k | t
def Kd.ok : Kd → D → Bool
  | .v, _ => true
  | .l, .lst _ => true
  | .k, .dct _ => true
  | .t, .dtt _ => true
  | _, _ => false
def Kd.sl : Kd → D → Sl
  | .v, d => .val d
  | .l, d => .own d
  | .k, d => .own d
  | .t, d => .own d
/-- what is held of a kind -/
def Held (c : Kd) (g : Gd) (H0 I H : Hp) (v : V) (d : D) : Prop := match c with
  | .v => DR g I v d
  | _ => ∃ p o, v = .ref p ∧ NT H0 p ∧ p ≠ g.dz ∧ I p = none ∧ H p = some o ∧ OwnR g I o d
section
variable {g : Gd} {I0 H0 I H I' H' : Hp} {r : Env2} {σ : L2.St} {c : Kd} {v : V} {d : D}
theorem Held.go (h : Held c g H0 I H v d) (s : Stp g I H I' H') : Held c g H0 I' H' v d := by
  have own : (∃ p o, v = .ref p ∧ NT H0 p ∧ p ≠ g.dz ∧ I p = none ∧ H p = some o ∧ OwnR g I o d) → ∃ p o, v = .ref p ∧ NT H0 p ∧ p ≠ g.dz ∧ I' p = none ∧ H' p = some o ∧ OwnR g I' o d := fun ⟨p, o, h1, h2, h3, h4, h5, h6⟩ => by
    obtain ⟨h7, h8⟩ := s.beside h4 h3 h5 h6.chg
    exact ⟨p, o, h1, h2, h3, h7, h8, h6.mono s.mono⟩
  cases c with
  | v => exact DR.mono s.mono h
  | l => exact own h
  | k => exact own h
  | t => exact own h
theorem Held.own (h : Held c g H0 I H v d) (hc : c ≠ .v) : ∃ p o, v = .ref p ∧ NT H0 p ∧ p ≠ g.dz ∧ I p = none ∧ H p = some o ∧ OwnR g I o d := by
  cases c with
  | v => exact absurd rfl hc
  | l => exact h
  | k => exact h
  | t => exact h
end
section
variable {X : Cx} {g : Gd} {E : XK} {e : Expr} {w : WE}
end
/-! ### two, three at once -/
section
variable {X : Cx} {g : Gd} {E : XK} {i j l : Nat} {x y z : Str} {a b c : Expr} {w1 w2 w3 : WE} {px py pz pt pos pt2 : Pos} {kt k2 : Nat} {c1 c2 c3 : Kd}
end
/-! ### {k: v}, a dict of one tuple -/
section
variable {X : Cx} {g : Gd} {E : XK} {ek ev : Expr} {fk fv : FE} {pos : Pos}
end
/-! ### d[k] = v -/
section
variable {X : Cx} {g : Gd} {E : XK} {wk wv : WE} {pos : Pos}
end
def fsPop0 (i j : Nat) : FS := fun r => if i < r.length ∧ i ≠ j then (match r[j]? with
  | some (.own (.lst (d :: ds))) => .ok (.nx ((r.set j (.own (.lst ds))).set i (.val d)))
  | _ => .bad) else .bad
end FW
/-! Defs that give a new list of their own; min with a default; the least of lists. -/
namespace FW
open PySem PySem.Spec PyProof.Rows L2 LamX
section
variable {X : Cx} {g : Gd} {E : XK}
end
/-! ### a def that ends with a new list -/
section
variable {X : Cx} {g : Gd} {E : XK} {st : Stmt} {rest : List Stmt} {e : Expr} {a b : WS} {wr : WE} {pos : Pos}
end
def fnO (np n : Nat) (fs : FS) (fr : FE) (ds : List D) : Res D := if ds.length = np then (fs (initE n ds)).bind fun o => (match o with
  | .nx r' => fr (allv r')
  | _ => .bad) else .bad
theorem endO.step {g : Gd} {I H I' H' : Hp} {Q : VK} {d : D} (s : Stp g I H I' H') (h : endO g I H Q d) : endO g I' H' Q d := fun p I2 H2 q n nz hI hd => h p I2 H2 (s.trans q) (s.back n) nz hI hd
section
variable {X : Cx} {g : Gd} {E : XK} {k kl : Nat} {x : Str} {ps : List Str} {e : Expr} {es : List Expr} {p pos : Pos} {T : List (Addr × Str)}
end
section
variable {P : Program} {w : World} {K : PySem.W.Frag} {mg : Str → Option Value} {base : Heap} {T : List (Addr × Str)}
end
/-! ### min with a default -/
def dMinD : D → Res D
  | .lst xs => match intsOf xs with
    | some (n :: ns) => .ok (.int (ns.foldl min n))
    | some [] => .ok .non
    | none => .bad
  | _ => .bad
def fMinD (fa : FE) : FE := fun r => (fa r).bind dMinD
section
variable {X : Cx} {g : Gd} {E : XK}
end
end FW
/-! `for i, (a, b) in enumerate(zip(x, y))`. -/
namespace FW
open PySem PySem.Spec PyProof.Rows L2 LamX
section
variable {prog : Program} {w : World} {A : Around} {E : Value → Shared → Prop} {s : Shared} {z TI TO e i1 i2 : Addr} {fp1 fp2 : List Addr} {n1 n2 i : Nat} {P1 P2 : Nat → Value → Prop} {St1 St2 : Nat → Heap → Prop} {c : Int} {old : Value}
theorem ZSN.keep {h h' : Heap} (D1 : Draws prog w A i1 fp1 n1 P1 St1) (D2 : Draws prog w A i2 fp2 n2 P2 St2) (st : ZSN z TI TO i1 i2 St1 St2 i h) (k : ∀ b, b ∈ z :: TI :: TO :: (fp1 ++ fp2) → ∀ o, h.get? b = some o → h'.get? b = some o) : ZSN z TI TO i1 i2 St1 St2 i h' := by
  obtain ⟨c1, ⟨a1, a2, c2⟩, c3, c4, c5⟩ := st
  refine ⟨k TI (by simp) _ c1, ⟨a1, a2, k TO (by simp) _ c2⟩, D1.frame _ _ _ c3 fun b hb o y => k b (by simp [hb]) o y, D2.frame _ _ _ c4 fun b hb o y => k b (by simp [hb]) o y, ?_⟩
  rcases c5 with c5 | ⟨T, f, c5⟩
  · exact .inl (k z (by simp) _ c5)
  · exact .inr ⟨T, f, k z (by simp) _ c5⟩
end
end FW
/-! `for i, (a, b) in enumerate(zip(x, y))`, over data. -/
namespace FW
open PySem PySem.Spec PyProof.Rows L2 LamX
def enumZ (ds es : List D) : List D := (zipD ds es).mapIdx fun i d => .par [.int (i : Nat), d]
def dEnumZ : List D → Res (List D)
  | [.lst ds, .lst es] => .ok (enumZ ds es)
  | [.lst ds, .tup es] => .ok (enumZ ds es)
  | [.tup ds, .lst es] => .ok (enumZ ds es)
  | [.tup ds, .tup es] => .ok (enumZ ds es)
  | _ => .bad
section
variable {X : Cx} {g : Gd} {E : XK} {K : PySem.W.Frag}
end
end FW
/-! A dict of tuples is given back locked; its keys walked. -/
namespace FW
open PySem PySem.Spec PyProof.Rows L2 LamX
section
variable {X : Cx} {g : Gd} {E : XK} {e : Expr} {pos : Pos}
/-! ### the keys -/
theorem DRs.keys {I : Hp} : ∀ k : List Key, DRs g I (k.map kV) (k.map kD)
  | [] => .nil
  | .inl i :: ks => .cons (.int i) (DRs.keys ks)
  | .inr x :: ks => .cons (.str x) (DRs.keys ks)
theorem DRt.at_ {I : Hp} : ∀ {es : List (List Key × V)} {kvs : List (D × D)} {i : Nat} {k : List Key} {v : V}, DRt g I es kvs → es[i]? = some (k, v) → ∃ d, kvs[i]? = some (.tup (k.map kD), d)
  | _, _, _, _, _, .nil, h => by simp at h
  | _, _, 0, _, _, .cons _ _, h => by simp at h; obtain ⟨rfl, rfl⟩ := h; exact ⟨_, rfl⟩
  | _, _, i + 1, k, v, .cons _ t, h => by
    obtain ⟨d, e⟩ := DRt.at_ (i := i) (k := k) (v := v) t (by simpa using h)
    exact ⟨d, by simpa using e⟩
end
end FW
/-! A tuple of one text so many times. -/
namespace FW
open PySem PySem.Spec PyProof.Rows L2 LamX
section
variable {X : Cx} {g : Gd} {E : XK}
def dMulO (x y : D) : Res D := match x, y with
  | .tup [z], .int j => if 2 ≤ j ∧ j ≤ 1000 then .ok (.tup (List.replicate j.toNat z)) else .bad
  | _, _ => .bad
end
end FW
set_option pp.maxSteps 800
/-! A dict of lists of one's own: made by a comprehension, its lists appended to, then kept as a value. -/
namespace FW
open PySem PySem.Spec PyProof.Rows L2 LamX
abbrev KL := List (List Key × List D)
/-- the lists ps stand beside the region, each with its data -/
inductive ME (g : Gd) (H0 I H : Hp) : List (List Key × V) → KL → List Addr → Prop
  | nil : ME g H0 I H [] [] []
  | cons {k : List Key} {p : Addr} {vs : List V} {ds : List D} {es : List (List Key × V)} {K : KL} {ps : List Addr} : H p = some (.lst vs) → DRs g I vs ds → NT H0 p → p ≠ g.dz → I p = none → p ∉ ps → ME g H0 I H es K ps → ME g H0 I H ((k, .ref p) :: es) ((k, ds) :: K) (p :: ps)
def pushK : KL → List Key → D → KL
  | [], _, _ => []
  | (k', ds) :: K, k, d => if k' = k then (k', ds ++ [d]) :: K else (k', ds) :: pushK K k d
def dKL (K : KL) : List (D × D) := K.map fun x => (.tup (x.1.map kD), .lst x.2)
section
variable {g : Gd} {H0 I H I' H' : Hp}
theorem ME.go {es : List (List Key × V)} {K : KL} {ps : List Addr} (h : ME g H0 I H es K ps) (s : Stp g I H I' H') : ME g H0 I' H' es K ps := by
  induction h with
  | nil => exact .nil
  | cons h1 h2 h3 h4 h5 h6 _ ih =>
    obtain ⟨a, b⟩ := s.beside h5 h4 h1 rfl
    exact .cons b (h2.mono s.mono) h3 h4 a h6 ih
theorem ME.upd {es : List (List Key × V)} {K : KL} {ps : List Addr} {a : Addr} {o : HO} (h : ME g H0 I H es K ps) (n : a ∉ ps) : ME g H0 I (L2.upd H a o) es K ps := by
  induction h with
  | nil => exact .nil
  | @cons k p vs ds es K ps h1 h2 h3 h4 h5 h6 _ ih =>
    rw [List.mem_cons, not_or] at n
    exact .cons (by rw [upd_ne (Ne.symm n.1)]; exact h1) h2 h3 h4 h5 h6 (ih n.2)
theorem ME.lists {es : List (List Key × V)} {K : KL} {ps : List Addr} (h : ME g H0 I H es K ps) : ∀ p ∈ ps, ∃ vs, H p = some (.lst vs) := by
  induction h with
  | nil => intro p hp; cases hp
  | cons h1 h2 h3 h4 h5 h6 _ ih =>
    intro q hq
    rcases List.mem_cons.mp hq with z | z
    · subst z; exact ⟨_, h1⟩
    · exact ih q z
theorem ME.snoc {es : List (List Key × V)} {K : KL} {ps : List Addr} {k : List Key} {p : Addr} {vs : List V} {ds : List D} (h : ME g H0 I H es K ps) (h1 : H p = some (.lst vs)) (h2 : DRs g I vs ds) (h3 : NT H0 p) (h4 : p ≠ g.dz) (h5 : I p = none) (n : p ∉ ps) : ME g H0 I H (es ++ [(k, .ref p)]) (K ++ [(k, ds)]) (ps ++ [p]) := by
  induction h with
  | nil => exact .cons h1 h2 h3 h4 h5 (by simp) .nil
  | @cons k' q vs' ds' es K ps g1 g2 g3 g4 g5 g6 _ ih =>
    rw [List.mem_cons, not_or] at n
    exact .cons g1 g2 g3 g4 g5 (fun z => (List.mem_append.mp z).elim g6 fun z => n.1 (List.mem_singleton.mp z).symm) (ih n.2)
theorem ME.keys {es : List (List Key × V)} {K : KL} {ps : List Addr} (h : ME g H0 I H es K ps) : es.map (·.1) = K.map (·.1) := by
  induction h with
  | nil => rfl
  | cons _ _ _ _ _ _ _ ih => rw [List.map_cons, List.map_cons, ih]
theorem ME.nt {es : List (List Key × V)} {K : KL} {ps : List Addr} (h : ME g H0 I H es K ps) {H1 : Hp} (k : ∀ p, NT H0 p → NT H1 p) : ME g H1 I H es K ps := by
  induction h with
  | nil => exact .nil
  | cons h1 h2 h3 h4 h5 h6 _ ih => exact .cons h1 h2 (k _ h3) h4 h5 h6 ih
/-- the lists become values -/
theorem ME.take {I0 : Hp} {es : List (List Key × V)} {K : KL} {ps : List Addr} (h : ME g H0 I H es K ps) (s : Stp g I0 H0 I H) : ∃ I', Stp g I0 H0 I' H ∧ Sub I I' ∧ DRt g I' es (dKL K) ∧ ∀ a, a ∉ ps → I' a = I a := by
  induction h with
  | nil => exact ⟨I, s, Sub.refl I, .nil, fun _ _ => rfl⟩
  | @cons k p vs ds es K ps h1 h2 h3 h4 h5 h6 _ ih =>
    obtain ⟨I1, s1, sb, r1, out⟩ := ih
    have hp : I1 p = none := by rw [out p h6]; exact h5
    have s2 := s1.take (o := .lst vs) h3 h4 hp h1
    have sb2 : Sub I1 (L2.upd I1 p (.lst vs)) := fun a u z => by rw [upd_ne (ne_of_none z hp)]; exact z
    refine ⟨_, s2, sb.trans sb2, .cons (.lst upd_same (h2.mono (sb.trans sb2))) (r1.mono sb2), fun a ha => ?_⟩
    rw [List.mem_cons, not_or] at ha
    rw [upd_ne ha.1]
    exact out a ha.2
end
section
variable {X : Cx} {g : Gd} {E : XK} {kx vx tg iter : Expr} {ifs : List Expr} {scope : Scope} {own : List (Str × Nat)} {pos : Pos} {fi : FI} {i : Nat}
end
end FW
set_option pp.maxSteps 800
/-! d = {k: [] for k in ..}; for s in ..: for n, y in ..: d[y].append(s): two statements at once. -/
namespace FW
open PySem PySem.Spec PyProof.Rows L2 LamX
def noOwn (r : Env2) : Bool := r.all fun s => match s with
  | .own _ => false
  | _ => true
theorem noOwn_get {r : Env2} (h : noOwn r = true) {i : Nat} {d : D} : r[i]? ≠ some (Sl.own d) := fun e => by
  have := List.all_eq_true.mp h _ (List.mem_of_getElem? e)
  cases this
theorem noOwn_set {r : Env2} (h : noOwn r = true) (i : Nat) (d : D) : noOwn (r.set i (.val d)) = true := List.all_eq_true.mpr fun s hs => by
  rcases List.mem_or_eq_of_mem_set hs with z | z
  · exact List.all_eq_true.mp h s z
  · rw [z]
def grow1 (n y : Nat) (s : D) : List D → Env2 → KL → Res (Env2 × KL)
  | [], r, K => .ok (r, K)
  | d :: ds, r, K => match d with
    | .tup [a, b] => match keyI b with
      | some k => if ((K.any fun x => decide (x.1 = k)) && K.all fun x => decide (x.2.length < 100000)) = true then grow1 n y s ds ((r.set n (.val a)).set y (.val b)) (pushK K k s) else .bad
      | none => .bad
    | _ => .bad
def grow (fi : FI) (s n y : Nat) : List D → Env2 → KL → Res (Env2 × KL)
  | [], r, K => .ok (r, K)
  | d :: ds, r, K => match fi (plain (r.set s (.val d))) with
    | .ok es => match grow1 n y d es (r.set s (.val d)) K with
      | .ok p => grow fi s n y ds p.1 p.2
      | _ => .bad
    | _ => .bad
/-- the state while the lists grow -/
structure GS (g : Gd) (I1 H0 : Hp) (m : Nat) (a : Addr) (r : Env2) (K : KL) (I : Hp) (σ : L2.St) (H : Hp) : Prop where
  sri : SRI g I1 H0 I r σ H
  no : noOwn r = true
  un : r[m]? = some .un
  at_ : σ[m]? = some (some (.ref a))
  na : NT H0 a
  nz : a ≠ g.dz
  ni : I a = none
  me : ∃ es ps, H a = some (.dT es) ∧ ME g H0 I H es K ps ∧ a ∉ ps
section
variable {g : Gd} {I1 H0 I H I' H' : Hp} {m : Nat} {a : Addr} {r : Env2} {K : KL} {σ : L2.St}
theorem GS.go (x : GS g I1 H0 m a r K I σ H) (s : Stp g I H I' H') : GS g I1 H0 m a r K I' σ H' := by
  obtain ⟨es, ps, h1, h2, h3⟩ := x.me
  obtain ⟨z1, z2⟩ := s.beside x.ni x.nz h1 rfl
  exact ⟨x.sri.go s, x.no, x.un, x.at_, x.na, x.nz, z1, es, ps, z2, h2.go s, h3⟩
/-- behind the loops the dict is a value -/
theorem GS.done (x : GS g I1 H0 m a r K I σ H) : SR g I1 H0 (r.set m (.val (.dtt (dKL K)))) σ H := by
  obtain ⟨es, ps, h1, h2, h3⟩ := x.me
  obtain ⟨I2, s2, sb, r2, out⟩ := h2.take x.sri.stp
  have na2 : I2 a = none := by rw [out a h3]; exact x.ni
  have s3 := s2.take (o := .dT es) x.na x.nz na2 h1
  have sb3 : Sub I2 (upd I2 a (.dT es)) := fun b u z => by rw [upd_ne (ne_of_none z na2)]; exact z
  have hm : m < r.length := (List.getElem?_eq_some_iff.mp x.un).1
  refine ⟨_, s3, by rw [List.length_set]; exact x.sri.len, fun i d h => ?_, fun i d h => ?_, fun i j d e q h => ?_⟩
  · by_cases e : i = m
    · subst e
      rw [List.getElem?_set_self hm] at h
      cases h
      exact ⟨.ref a, x.at_, .dT (.inl upd_same) (r2.mono sb3)⟩
    · rw [List.getElem?_set_ne (Ne.symm e)] at h
      obtain ⟨v, h1, h2⟩ := x.sri.val i d h
      exact ⟨v, h1, h2.mono (sb.trans sb3)⟩
  · exact absurd h (noOwn_get (noOwn_set x.no m _))
  · exact absurd h (noOwn_get (noOwn_set x.no m _))
end
section
variable {X : Cx} {g : Gd} {E : XK} {k : Nat}
end
end FW
set_option pp.maxSteps 800
/-! for s in d[w.pop()]: d a dict of lists that is a value, w a list of one's own. -/
namespace FW
open PySem PySem.Spec PyProof.Rows L2 LamX
theorem DRs.last {g : Gd} {I : Hp} {vs : List V} {ds : List D} {x : D} (h : DRs g I vs (ds ++ [x])) : ∃ v, vs[vs.length - 1]? = some v ∧ DR g I v x ∧ DRs g I vs.dropLast ds := by
  have hl := h.len
  rw [List.length_append, List.length_singleton] at hl
  obtain ⟨v, h1, h2⟩ := h.at_ (i := ds.length) (d := x) (by simp)
  refine ⟨v, by rw [hl]; exact h1, h2, ?_⟩
  have := h.take ds.length
  rw [List.take_left' rfl] at this
  rw [List.dropLast_eq_take, hl]
  exact this
section
variable {X : Cx} {g : Gd} {E : XK} {k : Nat} {body : List Stmt} {a : WS} {pos : Pos}
end
end FW
/-! Rows of whole numbers: elimination, in plain words. -/
namespace Lin
abbrev Row := List Int
def ev (r : Row) (d : Nat) : Int := r.getD d 0
theorem ev_succ (x : Int) (r : Row) (d : Nat) : ev (x :: r) (d + 1) = ev r d := by simp [ev]
theorem ev_out {r : Row} {d : Nat} (h : r.length ≤ d) : ev r d = 0 := by
  unfold ev
  rw [List.getD_eq_getElem?_getD, List.getElem?_eq_none h]; rfl
theorem ev_get {r : Row} {d : Nat} (h : d < r.length) : r[d]? = some (ev r d) := by
  unfold ev
  rw [List.getD_eq_getElem?_getD, List.getElem?_eq_getElem h]; rfl
theorem ev_mem {r : Row} {x : Int} (h : x ∈ r) : ∃ d, d < r.length ∧ ev r d = x := by
  obtain ⟨d, hd, e⟩ := List.getElem_of_mem h
  exact ⟨d, hd, by unfold ev; rw [List.getD_eq_getElem?_getD, List.getElem?_eq_getElem hd, e]; rfl⟩
theorem ev_in {r : Row} {d : Nat} (h : d < r.length) : ev r d ∈ r := List.mem_of_getElem? (ev_get h)
theorem row_ext {a b : Row} (hl : a.length = b.length) (h : ∀ d, ev a d = ev b d) : a = b := by
  refine List.ext_getElem? fun d => ?_
  by_cases hd : d < a.length
  · rw [ev_get hd, ev_get (hl ▸ hd), h d]
  · rw [List.getElem?_eq_none (by omega), List.getElem?_eq_none (by omega)]
def smul (k : Int) (r : Row) : Row := r.map fun x => k * x
def comb (a : Int) (u : Row) (b : Int) (v : Row) : Row := List.zipWith (fun x y => a * x + b * y) u v
def zeros (n : Nat) : Row := List.replicate n 0
theorem smul_len (k : Int) (r : Row) : (smul k r).length = r.length := by simp [smul]
theorem comb_len {a b : Int} {u v : Row} (h : u.length = v.length) : (comb a u b v).length = u.length := by simp [comb, h]
theorem ev_smul (k : Int) : ∀ (r : Row) (d : Nat), ev (smul k r) d = k * ev r d
  | [], d => by simp [smul, ev]
  | x :: r, 0 => by simp [smul, ev]
  | x :: r, d + 1 => by
    have := ev_smul k r d
    unfold smul at *
    rw [List.map_cons, ev_succ, ev_succ, this]
theorem ev_comb (a b : Int) : ∀ (u v : Row) (d : Nat), u.length = v.length → ev (comb a u b v) d = a * ev u d + b * ev v d
  | [], [], d, _ => by simp [comb, ev]
  | [], _ :: _, d, h => by cases h
  | _ :: _, [], d, h => by cases h
  | x :: u, y :: v, 0, h => by simp [comb, ev]
  | x :: u, y :: v, d + 1, h => by
    have := ev_comb a b u v d (by simpa using h)
    unfold comb at *
    rw [List.zipWith_cons_cons, ev_succ, ev_succ, ev_succ, this]
/-! ### bared -/
def gcdL (r : Row) : Int := r.foldl (fun b x => ((Int.gcd b x : Nat) : Int)) 0
theorem gcd_fold : ∀ (r : Row) (b : Int), 0 ≤ b → (0 ≤ r.foldl (fun b x => ((Int.gcd b x : Nat) : Int)) b) ∧ (r.foldl (fun b x => ((Int.gcd b x : Nat) : Int)) b ∣ b) ∧ (∀ x ∈ r, r.foldl (fun b x => ((Int.gcd b x : Nat) : Int)) b ∣ x) ∧ (∀ k : Int, k ∣ b → (∀ x ∈ r, k ∣ x) → k ∣ r.foldl (fun b x => ((Int.gcd b x : Nat) : Int)) b)
  | [], b, h => ⟨h, Int.dvd_refl b, fun x hx => (by cases hx), fun k hk _ => hk⟩
  | y :: r, b, h => by
    rw [List.foldl_cons]
    obtain ⟨h1, h2, h3, h4⟩ := gcd_fold r ((Int.gcd b y : Nat) : Int) (by omega)
    refine ⟨h1, Int.dvd_trans h2 (Int.gcd_dvd_left ..), fun x hx => ?_, fun k hk hr => h4 k (Int.dvd_coe_gcd hk (hr y List.mem_cons_self)) fun x hx => hr x (List.mem_cons_of_mem _ hx)⟩
    rcases List.mem_cons.mp hx with e | hx
    · rw [e]; exact Int.dvd_trans h2 (Int.gcd_dvd_right ..)
    · exact h3 x hx
theorem gcdL_dvd {r : Row} {x : Int} (h : x ∈ r) : gcdL r ∣ x := (gcd_fold r 0 (Int.le_refl 0)).2.2.1 x h
/-- the first number but 0 -/
def fst (r : Row) : Int := (r.filter fun x => decide (x ≠ 0)).headD 0
def sgn (x : Int) : Int := if 0 < x then 1 else -1
def bared (r : Row) : Row := if gcdL r = 0 then r else r.map fun x => x.fdiv (gcdL r) * sgn (fst r)
theorem sgn_sq (x : Int) : sgn x * sgn x = 1 := by unfold sgn; split <;> rfl
theorem sgn_ne (x : Int) : sgn x ≠ 0 := by unfold sgn; split <;> decide
theorem bared_len (r : Row) : (bared r).length = r.length := by unfold bared; split <;> simp
theorem fdiv_mul {x g : Int} (h : g ∣ x) : x.fdiv g * g = x := Int.fdiv_mul_cancel h
theorem bared_smul (r : Row) : ∃ k : Int, k ≠ 0 ∧ r = smul k (bared r) := by
  unfold bared
  split
  · exact ⟨1, by decide, by unfold smul; simp⟩
  · rename_i hg
    refine ⟨gcdL r * sgn (fst r), fun z => (Int.mul_eq_zero.mp z).elim hg (sgn_ne _), ?_⟩
    unfold smul
    rw [List.map_map]
    conv => lhs; rw [← List.map_id r]
    refine List.map_congr_left fun x hx => ?_
    show x = gcdL r * sgn (fst r) * (x.fdiv (gcdL r) * sgn (fst r))
    have e := fdiv_mul (gcdL_dvd hx)
    have : gcdL r * sgn (fst r) * (x.fdiv (gcdL r) * sgn (fst r)) = (x.fdiv (gcdL r) * gcdL r) * (sgn (fst r) * sgn (fst r)) := by
      rw [Int.mul_comm (gcdL r), Int.mul_assoc, ← Int.mul_assoc (gcdL r), Int.mul_comm (gcdL r), ← Int.mul_assoc, Int.mul_comm (sgn _), Int.mul_assoc]
    rw [this, e, sgn_sq, Int.mul_one]
theorem bared_ev (r : Row) (d : Nat) : ev (bared r) d = 0 ↔ ev r d = 0 := by
  obtain ⟨k, hk, e⟩ := bared_smul r
  have : ev r d = k * ev (bared r) d := by conv => lhs; rw [e]
                                           rw [ev_smul]
  rw [this]
  exact ⟨fun z => by rw [z]; simp, fun z => (Int.mul_eq_zero.mp z).resolve_left hk⟩
def Bd (B : Nat) (r : Row) : Prop := ∀ x ∈ r, x.natAbs ≤ B
theorem Bd.evb {B : Nat} {r : Row} (h : Bd B r) (d : Nat) : (ev r d).natAbs ≤ B := by
  by_cases hd : d < r.length
  · exact h _ (ev_in hd)
  · rw [ev_out (by omega)]; simp
theorem Bd.bared {B : Nat} {r : Row} (h : Bd B r) : Bd B (bared r) := by
  obtain ⟨k, hk, e⟩ := bared_smul r
  intro x hx
  obtain ⟨d, hd, rfl⟩ := ev_mem hx
  have q := h.evb d
  rw [e, ev_smul, Int.natAbs_mul] at q
  have : 1 ≤ k.natAbs := by omega
  exact Nat.le_trans (Nat.le_mul_of_pos_left _ this) q
/-! ### cleared -/
def cleared (r h : Row) (c : Nat) : Row := List.zipWith (fun x y => x * ev h c - ev r c * y) r h
theorem cleared_comb (r h : Row) (c : Nat) : cleared r h c = comb (ev h c) r (-(ev r c)) h := by
  unfold cleared comb
  congr 1
  funext x y
  rw [Int.neg_mul, Int.mul_comm x]; rfl
theorem cleared_len {r h : Row} {c : Nat} (e : r.length = h.length) : (cleared r h c).length = r.length := by rw [cleared_comb, comb_len e]
theorem ev_cleared {r h : Row} {c : Nat} (e : r.length = h.length) (d : Nat) : ev (cleared r h c) d = ev h c * ev r d - ev r c * ev h d := by
  rw [cleared_comb, ev_comb _ _ _ _ _ e, Int.neg_mul]; omega
theorem Bd.cleared {B : Nat} {r h : Row} (c : Nat) (e : r.length = h.length) (h1 : Bd B r) (h2 : Bd B h) : Bd (2 * B * B) (cleared r h c) := by
  intro x hx
  obtain ⟨d, hd, rfl⟩ := ev_mem hx
  rw [ev_cleared e]
  have a1 : (ev h c * ev r d).natAbs ≤ B * B := by rw [Int.natAbs_mul]; exact Nat.mul_le_mul (h2.evb c) (h1.evb d)
  have a2 : (ev r c * ev h d).natAbs ≤ B * B := by rw [Int.natAbs_mul]; exact Nat.mul_le_mul (h1.evb c) (h2.evb d)
  have a3 : 2 * B * B = B * B + B * B := by rw [Nat.mul_assoc]; omega
  omega
/-! ### reduced -/
def step (c : Nat) (s : List Row × List Row) : List Row × List Row := match s.1.find? fun r => decide (ev r c ≠ 0) with
  | none => s
  | some r => ((s.1.erase r).map fun x => cleared x (bared r) c, (s.2.map fun x => cleared x (bared r) c) ++ [bared r])
def steps (rows : List Row) : Nat → List Row × List Row
  | 0 => (rows, [])
  | c + 1 => step c (steps rows c)
def reduced (rows : List Row) (n : Nat) : List Row := (steps rows n).2.map bared
/-- what is closed under sums, multiples and quotients -/
structure Cl (n : Nat) (Z : Row → Prop) : Prop where
  zero : Z (zeros n)
  lin : ∀ (a b : Int) (u v : Row), u.length = n → v.length = n → Z u → Z v → Z (comb a u b v)
  div : ∀ (k : Int) (u : Row), u.length = n → k ≠ 0 → Z (smul k u) → Z u
theorem Cl.smul {n : Nat} {Z : Row → Prop} (C : Cl n Z) (k : Int) {u : Row} (hu : u.length = n) (h : Z u) : Z (smul k u) := by
  have := C.lin k 0 u u hu hu h h
  have e : comb k u 0 u = Lin.smul k u := row_ext (by rw [comb_len rfl, smul_len]) fun d => by rw [ev_comb _ _ _ _ _ rfl, ev_smul]; omega
  rwa [e] at this
theorem Cl.bared {n : Nat} {Z : Row → Prop} (C : Cl n Z) {u : Row} (hu : u.length = n) : Z (Lin.bared u) ↔ Z u := by
  obtain ⟨k, hk, e⟩ := bared_smul u
  have hl : (Lin.bared u).length = n := by rw [bared_len, hu]
  constructor
  · intro h; rw [e]; exact C.smul k hl h
  · intro h; rw [e] at h; exact C.div k _ hl hk h
theorem Cl.cleared {n : Nat} {Z : Row → Prop} (C : Cl n Z) {r h : Row} {c : Nat} (hr : r.length = n) (hh : h.length = n) (hc : ev h c ≠ 0) (zh : Z h) : Z (Lin.cleared r h c) ↔ Z r := by
  have e : r.length = h.length := by omega
  constructor
  · intro z
    refine C.div (ev h c) r hr hc ?_
    have := C.lin 1 (ev r c) _ h (by rw [cleared_len e, hr]) hh z zh
    have q : comb 1 (Lin.cleared r h c) (ev r c) h = Lin.smul (ev h c) r := row_ext (by rw [comb_len (by rw [cleared_len e, e]), smul_len, cleared_len e]) fun d => by
      rw [ev_comb _ _ _ _ _ (by rw [cleared_len e, e]), ev_smul, ev_cleared e]; omega
    rwa [q] at this
  · intro z
    rw [cleared_comb]
    exact C.lin _ _ r h hr hh z zh
structure Pv (n c : Nat) (l : List (Nat × Row)) : Prop where
  inc : (l.map (·.1)).Pairwise (· < ·)
  len : ∀ p ∈ l, p.2.length = n
  lt : ∀ p ∈ l, p.1 < c
  ne : ∀ p ∈ l, ev p.2 p.1 ≠ 0
  lo : ∀ p ∈ l, ∀ d, d < p.1 → ev p.2 d = 0
  oth : ∀ p ∈ l, ∀ q ∈ l, p.1 ≠ q.1 → ev q.2 p.1 = 0
structure St (n c : Nat) (s : List Row × List Row) : Prop where
  len : ∀ r ∈ s.1, r.length = n
  zer : ∀ r ∈ s.1, ∀ d, d < c → ev r d = 0
  pv : ∃ l, s.2 = l.map (·.2) ∧ Pv n c l
/-- bared rows stand as before -/
theorem Pv.bared {n c : Nat} {l : List (Nat × Row)} (P : Pv n c l) : Pv n c (l.map fun p => (p.1, bared p.2)) := by
  have mem : ∀ q ∈ l.map (fun p => (p.1, Lin.bared p.2)), ∃ p ∈ l, q = (p.1, Lin.bared p.2) := fun q hq => by
    obtain ⟨p, hp, e⟩ := List.mem_map.mp hq
    exact ⟨p, hp, e.symm⟩
  refine ⟨?_, fun q hq => ?_, fun q hq => ?_, fun q hq => ?_, fun q hq d hd => ?_, fun q hq q' hq' hne => ?_⟩
  · rw [List.map_map]; exact P.inc
  all_goals obtain ⟨p, hp, rfl⟩ := mem q hq
  · show (Lin.bared p.2).length = n
    rw [bared_len]; exact P.len p hp
  · exact P.lt p hp
  · exact fun z => P.ne p hp ((bared_ev _ _).mp z)
  · exact (bared_ev _ _).mpr (P.lo p hp d hd)
  · obtain ⟨p', hp', rfl⟩ := mem q' hq'
    exact (bared_ev _ _).mpr (P.oth p hp p' hp' hne)
/-! ### sizes -/
def grow : Nat → Nat → Nat
  | B, 0 => B
  | B, c + 1 => 2 * grow B c * grow B c
theorem Bd.mono {B B' : Nat} {r : Row} (h : Bd B r) (hb : B ≤ B') : Bd B' r := fun x hx => Nat.le_trans (h x hx) hb
end Lin
/-! Rows of whole numbers: the kernel. -/
namespace Lin
/-- a common multiple of the pivots -/
def lcmP (l : List (Nat × Row)) : Int := l.foldl (fun b p => (b * ev p.2 p.1).fdiv ((Int.gcd b (ev p.2 p.1) : Nat) : Int)) 1
/-- the kernel's row for a free column -/
def put1 (by_ : Int) (f : Nat) (own : Row) (p : Nat × Row) : Row := own.set p.1 ((-(ev p.2 f) * by_).fdiv (ev p.2 p.1))
def kerRow (n : Nat) (l : List (Nat × Row)) (f : Nat) : Row := l.foldl (put1 (lcmP l) f) ((zeros n).set f (lcmP l))
def frees (n : Nat) (l : List (Nat × Row)) : List Nat := (List.range n).filter fun d => !((l.map (·.1)).contains d)
section
variable {n : Nat} {l : List (Nat × Row)}
def ker (n : Nat) (l : List (Nat × Row)) : List Row := (frees n l).map (kerRow n l)
end
/-! ### what weights keep -/
/-- the kernel's rows by demands -/
def pairs (rows : List Row) (n : Nat) : List (Nat × Row) := (reduced rows n).map fun r => (r.findIdx (fun x => decide (x ≠ 0)), r)
def kernel (rows : List Row) (n : Nat) : List Row := ker n (pairs rows n)
/-- all kept weights' rows -/
def kept (rows : List Row) (n : Nat) : List Row := reduced (kernel rows n) n
end Lin
/-! Coming from one to another, level by level, in plain words. -/
namespace Bfs
section
variable {R V : Type} [DecidableEq R]
def add (acc : List (R × V) × List R) (p : R × V) : List (R × V) × List R := if p.1 ∈ acc.1.map (·.1) then acc else (acc.1 ++ [p], acc.2 ++ [p.1])
abbrev keys (l : List (R × V)) : List R := l.map (·.1)
/-- each once among some: no more than those -/
theorem few : ∀ {l m : List R}, l.Nodup → (∀ x ∈ l, x ∈ m) → l.length ≤ m.length
  | [], m, _, _ => Nat.zero_le _
  | x :: l, m, nd, h => by
    obtain ⟨h1, h2⟩ := List.nodup_cons.mp nd
    have hx := h x List.mem_cons_self
    have := few (l := l) (m := m.erase x) h2 fun y hy => by
      have hne : y ≠ x := fun e => h1 (e ▸ hy)
      exact (List.mem_erase_of_ne hne).mpr (h y (List.mem_cons_of_mem _ hy))
    have hl := List.length_erase_of_mem hx
    have hp := List.length_pos_of_mem hx
    rw [List.length_cons]
    omega
/-- what holds between levels -/
structure Inv (U : List R) (nxt : Nat → R → List (R × V)) (found : List (R × V)) (row : List R) : Prop where
  nd : (keys found).Nodup
  sub : ∀ x ∈ keys found, x ∈ U
  rl : row.length ≤ found.length
  row : ∀ x ∈ row, x ∈ keys found
theorem Inv.few {U : List R} {nxt : Nat → R → List (R × V)} {found : List (R × V)} {row : List R} (h : Inv U nxt found row) : found.length ≤ U.length := by
  have := Bfs.few h.nd h.sub
  simpa [keys] using this
end
/-! ### the keys alone -/
section
variable {R V W : Type} [DecidableEq R]
end
end Bfs
/-! Paths by rule numbers; least ones among the shortest. -/
namespace Bfs
open FW
section
variable {R : Type} [DecidableEq R]
/-- the numbers of a run from a to a standing -/
inductive Path (suc : R → List (Nat × R)) (a : R) : List Int → R → Prop
  | nil : Path suc a [] a
  | snoc {p : List Int} {v u : R} {n : Nat} : Path suc a p v → (n, u) ∈ suc v → Path suc a (p ++ [(n : Int)]) u
variable {suc : R → List (Nat × R)} {a : R}
theorem Path.inv {p : List Int} {u : R} (h : Path suc a p u) : (p = [] ∧ u = a) ∨ ∃ q v n, p = q ++ [((n : Nat) : Int)] ∧ Path suc a q v ∧ (n, u) ∈ suc v := by
  cases h with
  | nil => exact .inl ⟨rfl, rfl⟩
  | snoc h m => exact .inr ⟨_, _, _, rfl, h, m⟩
/-- by numbers there is one way -/
def OneWay (suc : R → List (Nat × R)) : Prop := ∀ v n u u', (n, u) ∈ suc v → (n, u') ∈ suc v → u = u'
theorem snoc_inj {p q : List Int} {x y : Int} (h : p ++ [x] = q ++ [y]) : p = q ∧ x = y := by
  have := List.append_inj' h rfl
  exact ⟨this.1, by simpa using this.2⟩
theorem Path.det (ow : OneWay suc) {p : List Int} {u u' : R} (h : Path suc a p u) (h' : Path suc a p u') : u = u' := by
  induction h generalizing u' with
  | nil =>
    rcases h'.inv with ⟨_, e⟩ | ⟨q, v, n, e, _⟩
    · exact e.symm
    · simp at e
  | snoc h m ih =>
    rcases h'.inv with ⟨e, _⟩ | ⟨q, v, n, e, hq, hm⟩
    · simp at e
    · obtain ⟨e1, e2⟩ := snoc_inj e
      subst e1
      have ev := ih hq
      subst ev
      have en : _ = n := Int.ofNat_inj.mp e2
      subst en
      exact ow _ _ _ _ m hm
/-- just so far -/
def Dst (suc : R → List (Nat × R)) (a : R) (k : Nat) (v : R) : Prop := (∃ p, Path suc a p v ∧ p.length = k) ∧ ∀ j, j < k → ¬ ∃ p, Path suc a p v ∧ p.length = j
theorem dst_of {k : Nat} {v : R} (h : ∃ p, Path suc a p v ∧ p.length = k) : ∃ j, j ≤ k ∧ Dst suc a j v := by
  induction k using Nat.strongRecOn with
  | _ k ih =>
    by_cases c : ∃ j, j < k ∧ ∃ p, Path suc a p v ∧ p.length = j
    · obtain ⟨j, hj, hp⟩ := c
      obtain ⟨i, hi, hd⟩ := ih j hj hp
      exact ⟨i, by omega, hd⟩
    · exact ⟨k, Nat.le_refl k, h, fun j hj hp => c ⟨j, hj, hp⟩⟩
/-- one step on -/
theorem dst_succ {k : Nat} {v : R} : Dst suc a (k + 1) v ↔ (∃ u n, Dst suc a k u ∧ (n, v) ∈ suc u) ∧ ∀ j, j ≤ k → ¬ Dst suc a j v := by
  constructor
  · intro h
    refine ⟨?_, fun j hj hd => h.2 j (by omega) hd.1⟩
    obtain ⟨p, hp, hl⟩ := h.1
    rcases hp.inv with ⟨e, _⟩ | ⟨q, u, n, e, hq, hm⟩
    · rw [e] at hl; simp at hl
    · rw [e, List.length_append, List.length_singleton] at hl
      refine ⟨u, n, ⟨⟨q, hq, by omega⟩, fun j hj ⟨p', hp', hl'⟩ => h.2 (j + 1) (by omega) ⟨_, .snoc hp' hm, by simp [hl']⟩⟩, hm⟩
  · rintro ⟨⟨u, n, hu, hm⟩, h2⟩
    obtain ⟨p, hp, hl⟩ := hu.1
    refine ⟨⟨_, .snoc hp hm, by simp [hl]⟩, fun j hj hp' => ?_⟩
    obtain ⟨i, hi, hd⟩ := dst_of hp'
    exact h2 i (by omega) hd
/-! ### the order of rows of one length -/
theorem leR_snoc : ∀ {p q : List Int} {x y : Int}, p.length = q.length → (p = q → x ≤ y) → leR p q = true → leR (p ++ [x]) (q ++ [y]) = true
  | [], [], x, y, _, h, _ => by
    show leR [x] [y] = true
    have := h rfl
    rw [leR]
    split
    · rw [leR]
    · exact decide_eq_true (by omega)
  | [], _ :: _, _, _, h, _, _ => by cases h
  | _ :: _, [], _, _, h, _, _ => by cases h
  | u :: p, v :: q, x, y, hl, h, hle => by
    rw [List.cons_append, List.cons_append, leR]
    rw [leR] at hle
    by_cases e : u = v
    · rw [if_pos e] at hle ⊢
      exact leR_snoc (by simpa using hl) (fun z => h (by rw [e, z])) hle
    · rw [if_neg e] at hle ⊢
      exact hle
/-! ### levels of runs -/
structure Lvl (suc : R → List (Nat × R)) (a : R) (k : Nat) (rows : List (R × List Int)) : Prop where
  nd : (keys rows).Nodup
  mem : ∀ v, v ∈ keys rows ↔ Dst suc a k v
  path : ∀ x ∈ rows, Path suc a x.2 x.1 ∧ x.2.length = k
  least : ∀ x ∈ rows, ∀ q, Path suc a q x.1 → q.length = k → leR x.2 q = true
/-- two lists of one level hold the same -/
theorem Lvl.same {k : Nat} {r1 r2 : List (R × List Int)} (h1 : Lvl suc a k r1) (h2 : Lvl suc a k r2) : ∀ x, x ∈ r1 → x ∈ r2 := fun x hx => by
  have hk : x.1 ∈ keys r2 := (h2.mem _).mpr ((h1.mem _).mp (List.mem_map_of_mem hx))
  obtain ⟨y, hy, e⟩ := List.mem_map.mp hk
  have p1 := h1.path x hx
  have p2 := h2.path y hy
  have l1 := h1.least x hx y.2 (by rw [← e]; exact p2.1) p2.2
  have l2 := h2.least y hy x.2 (by rw [e]; exact p1.1) p1.2
  have : x = y := Prod.ext e.symm (totR.an _ _ l1 l2)
  rw [this]; exact hy
def cand (suc : R → List (Nat × R)) (x : R × List Int) : List (R × List Int) := (suc x.1).map fun p => (p.2, x.2 ++ [(p.1 : Int)])
theorem mem_cand {rows : List (R × List Int)} {y : R × List Int} : y ∈ rows.flatMap (cand suc) ↔ ∃ x ∈ rows, ∃ n, (n, y.1) ∈ suc x.1 ∧ y.2 = x.2 ++ [((n : Nat) : Int)] := by
  rw [List.mem_flatMap]
  constructor
  · rintro ⟨x, hx, hy⟩
    obtain ⟨p, hp, rfl⟩ := List.mem_map.mp hy
    exact ⟨x, hx, p.1, hp, rfl⟩
  · rintro ⟨x, hx, n, hn, e⟩
    exact ⟨x, hx, List.mem_map.mpr ⟨(n, y.1), hn, Prod.ext rfl e.symm⟩⟩
/-- what the candidates of a level say -/
theorem Lvl.next {k : Nat} {rows new : List (R × List Int)} (h : Lvl suc a k rows) (nd : (keys new).Nodup) (hm : ∀ v, v ∈ keys new ↔ v ∈ keys (rows.flatMap (cand suc)) ∧ ∀ j, j ≤ k → ¬ Dst suc a j v) (hin : ∀ x ∈ new, x ∈ rows.flatMap (cand suc)) (hl : ∀ x ∈ new, ∀ y ∈ rows.flatMap (cand suc), y.1 = x.1 → leR x.2 y.2 = true) : Lvl suc a (k + 1) new where
  nd := nd
  mem := fun v => by
    rw [hm, dst_succ]
    refine and_congr ⟨fun hv => ?_, fun ⟨u, n, hu, hn⟩ => ?_⟩ Iff.rfl
    · obtain ⟨y, hy, rfl⟩ := List.mem_map.mp hv
      obtain ⟨x, hx, n, hn, _⟩ := mem_cand.mp hy
      exact ⟨x.1, n, (h.mem _).mp (List.mem_map_of_mem hx), hn⟩
    · obtain ⟨x, hx, rfl⟩ := List.mem_map.mp ((h.mem u).mpr hu)
      exact List.mem_map.mpr ⟨(v, x.2 ++ [((n : Nat) : Int)]), mem_cand.mpr ⟨x, hx, n, hn, rfl⟩, rfl⟩
  path := fun y hy => by
    obtain ⟨x, hx, n, hn, e⟩ := mem_cand.mp (hin y hy)
    obtain ⟨p1, p2⟩ := h.path x hx
    rw [e]
    exact ⟨.snoc p1 hn, by simp [p2]⟩
  least := fun y hy q hq hql => by
    rcases hq.inv with ⟨e, _⟩ | ⟨q', u, n, e, hq', hn⟩
    · rw [e] at hql; simp at hql
    · rw [e, List.length_append, List.length_singleton] at hql
      have hd : Dst suc a (k + 1) y.1 := by
        have := (hm y.1).mp (List.mem_map_of_mem hy)
        obtain ⟨x, hx, m, hm', _⟩ := mem_cand.mp (hin y hy)
        exact dst_succ.mpr ⟨⟨x.1, m, (h.mem _).mp (List.mem_map_of_mem hx), hm'⟩, this.2⟩
      have hu : Dst suc a k u := ⟨⟨q', hq', by omega⟩, fun j hj ⟨p', hp', hl'⟩ => hd.2 (j + 1) (by omega) ⟨_, .snoc hp' hn, by simp [hl']⟩⟩
      obtain ⟨x, hx, e2⟩ := List.mem_map.mp ((h.mem u).mpr hu)
      have h1 := h.least x hx q' (by rw [e2]; exact hq') (by omega)
      have h2 := hl y hy (y.1, x.2 ++ [((n : Nat) : Int)]) (mem_cand.mpr ⟨x, hx, n, by rw [e2]; exact hn, rfl⟩) rfl
      rw [e]
      exact totR.tr _ _ _ h2 (leR_snoc (by rw [(h.path x hx).2]; omega) (fun _ => Int.le_refl _) h1)
/-! ### in the order of finding -/
def addN {V : Type} (acc : List (R × V) × List (R × V)) (p : R × V) : List (R × V) × List (R × V) := if p.1 ∈ keys acc.1 then acc else (acc.1 ++ [p], acc.2 ++ [p])
def Sor (rows : List (R × List Int)) : Prop := rows.Pairwise fun x y => leR x.2 y.2 = true
theorem foldN : ∀ (items : List (R × List Int)) (acc : List (R × List Int) × List (R × List Int)), Sor items → ∃ new, (items.foldl addN acc).1 = acc.1 ++ new ∧ (items.foldl addN acc).2 = acc.2 ++ new ∧ new.Sublist items ∧ (∀ q ∈ new, q.1 ∉ keys acc.1) ∧ ((keys acc.1).Nodup → (keys (acc.1 ++ new)).Nodup) ∧ (∀ p ∈ items, p.1 ∈ keys (acc.1 ++ new)) ∧ (∀ q ∈ new, ∀ p ∈ items, p.1 = q.1 → leR q.2 p.2 = true)
  | [], acc, _ => ⟨[], by simp, by simp, List.Sublist.refl _, fun q hq => (by cases hq), fun h => by simpa using h, fun p hp => (by cases hp), fun q hq => (by cases hq)⟩
  | p :: items, acc, hs => by
    obtain ⟨s1, s2⟩ := List.pairwise_cons.mp hs
    rw [List.foldl_cons]
    by_cases hp : p.1 ∈ keys acc.1
    · have e : addN acc p = acc := if_pos hp
      rw [e]
      obtain ⟨new, h1, h2, h3, h4, h5, h6, h7⟩ := foldN items acc s2
      refine ⟨new, h1, h2, h3.cons _, h4, h5, fun q hq => ?_, fun q hq x hx ex => ?_⟩
      · rcases List.mem_cons.mp hq with z | z
        · rw [z]
          show p.1 ∈ (acc.1 ++ new).map (·.1)
          rw [List.map_append]; exact List.mem_append_left _ hp
        · exact h6 q z
      · rcases List.mem_cons.mp hx with z | z
        · subst z; exact absurd (ex ▸ hp) (h4 q hq)
        · exact h7 q hq x z ex
    · have e : addN acc p = (acc.1 ++ [p], acc.2 ++ [p]) := if_neg hp
      rw [e]
      obtain ⟨new, h1, h2, h3, h4, h5, h6, h7⟩ := foldN items (acc.1 ++ [p], acc.2 ++ [p]) s2
      refine ⟨p :: new, by rw [h1]; simp, by rw [h2]; simp, h3.cons_cons _, fun q hq => ?_, fun nd => ?_, fun q hq => ?_, fun q hq x hx ex => ?_⟩
      · rcases List.mem_cons.mp hq with z | z
        · rw [z]; exact hp
        · intro hk
          refine h4 q z ?_
          show q.1 ∈ (acc.1 ++ [p]).map (·.1)
          rw [List.map_append]; exact List.mem_append_left _ hk
      · have : (keys (acc.1 ++ [p])).Nodup := by
          show ((acc.1 ++ [p]).map (·.1)).Nodup
          rw [List.map_append]
          refine List.nodup_append.mpr ⟨nd, by simp, fun u hu w hw => ?_⟩
          simp at hw
          rw [hw]
          exact fun z => hp (z ▸ hu)
        have := h5 this
        rwa [List.append_assoc] at this
      · have hq' : q = p ∨ q ∈ items := List.mem_cons.mp hq
        have key : keys (acc.1 ++ p :: new) = keys (acc.1 ++ [p] ++ new) := by rw [List.append_assoc]; rfl
        rw [key]
        rcases hq' with z | z
        · rw [z]
          show p.1 ∈ (acc.1 ++ [p] ++ new).map (·.1)
          simp
        · exact h6 q z
      · rcases List.mem_cons.mp hq with z | z
        · subst z
          rcases List.mem_cons.mp hx with y | y
          · subst y
            have := totR.to x.2 x.2
            simpa using this
          · exact s1 x y
        · rcases List.mem_cons.mp hx with y | y
          · subst y
            refine absurd ?_ (h4 q z)
            show q.1 ∈ (acc.1 ++ [x]).map (·.1)
            rw [← ex]; simp
          · exact h7 q z x y ex
/-- the candidates of a sorted level are sorted -/
theorem cand_sor {k : Nat} {rows : List (R × List Int)} (ow : OneWay suc) (inc : ∀ v, (suc v).Pairwise fun p q => p.1 < q.1) (h : Lvl suc a k rows) (hs : Sor rows) : Sor (rows.flatMap (cand suc)) := by
  have key : ∀ (l : List (R × List Int)), (∀ x ∈ l, x ∈ rows) → (keys l).Nodup → Sor l → Sor (l.flatMap (cand suc)) := by
    intro l
    induction l with
    | nil => intro _ _ _; exact List.Pairwise.nil
    | cons x l ih =>
      intro hm nd hs
      obtain ⟨s1, s2⟩ := List.pairwise_cons.mp hs
      have nd' : x.1 ∉ keys l ∧ (keys l).Nodup := List.nodup_cons.mp nd
      rw [List.flatMap_cons]
      refine List.pairwise_append.mpr ⟨?_, ih (fun y hy => hm y (List.mem_cons_of_mem _ hy)) nd'.2 s2, fun u hu w hw => ?_⟩
      · unfold cand
        rw [List.pairwise_map]
        refine (inc x.1).imp fun {p q} hpq => leR_snoc rfl (fun _ => by omega) ?_
        have := totR.to x.2 x.2
        simpa using this
      · obtain ⟨p, hp, rfl⟩ := List.mem_map.mp hu
        obtain ⟨y, hy, n, hn, e⟩ := mem_cand.mp hw
        rw [e]
        have px := h.path x (hm x List.mem_cons_self)
        have py := h.path y (hm y (List.mem_cons_of_mem _ hy))
        refine leR_snoc (by rw [px.2, py.2]) (fun z => ?_) (s1 y hy)
        have : x.1 = y.1 := Path.det ow px.1 (by rw [z]; exact py.1)
        exact absurd (by rw [this]; exact List.mem_map_of_mem hy) nd'.1
  exact key rows (fun x hx => hx) h.nd hs
/-- one level of the search that keeps runs -/
theorem Lvl.step {k : Nat} {found rows : List (R × List Int)} (ow : OneWay suc) (inc : ∀ v, (suc v).Pairwise fun p q => p.1 < q.1) (h : Lvl suc a k rows) (hs : Sor rows) (ndf : (keys found).Nodup) (hf : ∀ v, v ∈ keys found ↔ ∃ j, j ≤ k ∧ Dst suc a j v) :
    ∃ new, ((rows.flatMap (cand suc)).foldl addN (found, [])).1 = found ++ new ∧ ((rows.flatMap (cand suc)).foldl addN (found, [])).2 = new ∧ Lvl suc a (k + 1) new ∧ Sor new ∧ (keys (found ++ new)).Nodup ∧ ∀ v, v ∈ keys (found ++ new) ↔ ∃ j, j ≤ k + 1 ∧ Dst suc a j v := by
  have hc := cand_sor ow inc h hs
  obtain ⟨new, h1, h2, h3, h4, h5, h6, h7⟩ := foldN (rows.flatMap (cand suc)) (found, []) hc
  have ndn := h5 ndf
  have ndnew : (keys new).Nodup := by
    have : ((found ++ new).map (·.1)).Nodup := ndn
    rw [List.map_append] at this
    exact (List.nodup_append.mp this).2.1
  have hk : ∀ v, v ∈ keys (found ++ new) ↔ v ∈ keys found ∨ v ∈ keys new := fun v => by
    show v ∈ (found ++ new).map (·.1) ↔ _
    rw [List.map_append, List.mem_append]
  have hmem : ∀ v, v ∈ keys new ↔ v ∈ keys (rows.flatMap (cand suc)) ∧ ∀ j, j ≤ k → ¬ Dst suc a j v := fun v => by
    constructor
    · intro hv
      obtain ⟨x, hx, rfl⟩ := List.mem_map.mp hv
      exact ⟨List.mem_map_of_mem (h3.subset hx), fun j hj hd => h4 x hx ((hf _).mpr ⟨j, hj, hd⟩)⟩
    · rintro ⟨hv, hn⟩
      obtain ⟨x, hx, rfl⟩ := List.mem_map.mp hv
      rcases (hk _).mp (h6 x hx) with z | z
      · obtain ⟨j, hj, hd⟩ := (hf _).mp z
        exact absurd hd (hn j hj)
      · exact z
  have hL := h.next ndnew hmem (fun x hx => h3.subset hx) h7
  refine ⟨new, h1, by rw [h2]; rfl, hL, hc.sublist h3, ndn, fun v => ?_⟩
  rw [hk, hf, hL.mem]
  constructor
  · rintro (⟨j, hj, hd⟩ | hd)
    · exact ⟨j, by omega, hd⟩
    · exact ⟨k + 1, Nat.le_refl _, hd⟩
  · rintro ⟨j, hj, hd⟩
    by_cases e : j = k + 1
    · rw [e] at hd; exact .inr hd
    · exact .inl ⟨j, by omega, hd⟩
end
end Bfs
/-! Who comes to one: found from the end, one by one. -/
namespace Bfs
open FW
section
variable {R : Type} [DecidableEq R]
inductive BackR (pre : R → List R) (a : R) : R → Prop
  | refl : BackR pre a a
  | step {u v : R} : BackR pre a v → u ∈ pre v → BackR pre a u
structure Back (pre : R → List R) (a : R) (U F ws : List R) : Prop where
  nd : F.Nodup
  sub : ∀ v ∈ F, v ∈ U
  wsub : ∀ v ∈ ws, v ∈ F
  reach : ∀ v ∈ F, BackR pre a v
  cl : ∀ v ∈ F, v ∉ ws → ∀ u ∈ pre v, u ∈ F
  st : a ∈ F
theorem Back.all {pre : R → List R} {a : R} {U F : List R} (h : Back pre a U F []) {v : R} (r : BackR pre a v) : v ∈ F := by
  induction r with
  | refl => exact h.st
  | step _ hu ih => exact h.cl _ ih (by simp) _ hu
theorem Back.few {pre : R → List R} {a : R} {U F ws : List R} (h : Back pre a U F ws) : F.length ≤ U.length := Bfs.few h.nd h.sub
end
end Bfs
/-! f(lambda: e), f a def that tries its argument and gives back what it caught. -/
namespace FW
open PySem PySem.Spec PyProof.Rows L2 HotX LamX

def fMet (cs : List (Str × Addr)) (f : FE) : FE := fun r => match f r with
  | .ok _ => .ok .non
  | .exc c => match cs.lookup c with
    | some C => .ok (.exn C)
    | none => .bad
  | .bad => .bad
section
variable {X : Cx} {g : Gd} {E : XK}
end
end FW
/-! isinstance of a kept exception. -/
namespace FW
open PySem PySem.Spec PyProof.Rows L2 HotX LamX

section
variable {X : Cx} {g : Gd} {E : XK}
def dIsE (cs : List (Str × Addr)) (y : Str) (d : D) : Res D := match d with
  | .exn C => if (cs.map Prod.snd).contains C = true then (match cs.lookup y with
    | some Y => .ok (.bl (C == Y))
    | none => .bad) else .bad
  | _ => .bad
def dIsVE (cs : List (Str × Addr)) (d : D) : Res D := match d with
  | .exn C => if (cs.map Prod.snd).contains C = true then .ok (.bl true) else .bad
  | _ => .bad
def fIsE (cs : List (Str × Addr)) (y : Str) (fa : FE) : FE := fun r => (fa r).bind (dIsE cs y)
def fIsVE (cs : List (Str × Addr)) (fa : FE) : FE := fun r => (fa r).bind (dIsVE cs)
variable {a : Expr} {fa : FE} {cs : List (Str × Addr)} {y : Str} {p p' pos : Pos}
end
end FW
/-! A House that stands: its attributes read, its methods called. -/
namespace FW
open PySem PySem.Spec PyProof.Rows L2 HotX LamX

def dKept (C : Addr) : D → Res D
  | .hs C' k _ _ => if C' = C then .ok k else .bad
  | _ => .bad
def dTable (C : Addr) : D → Res D
  | .hs C' _ t _ => if C' = C then .ok t else .bad
  | _ => .bad
def dKnown (C : Addr) : D → Res D
  | .hs C' _ _ n => if C' = C then .ok n else .bad
  | _ => .bad
def fFld (d : D → Res D) (fa : FE) : FE := fun r => (fa r).bind d
def fMeth (C : Addr) (fn : List D → Res D) (fo : FE) (kk : FA) : FE := fun r => (fo r).bind fun d => match d with
  | .hs C' k t n => if C' = C then (kk r).bind fun ds => fn (.hs C' k t n :: ds) else .bad
  | _ => .bad
section
variable {P : Program} {w : World} {K : PySem.W.Frag} {mg : Str → Option Value} {base : Heap} {T : List (Addr × Str)}
end
section
variable {X : Cx} {g : Gd} {E : XK} {k kl : Nat} {C : Addr} {m : Str} {ps : List Str} {o e : Expr} {es : List Expr} {apos pos : Pos} {T : List (Addr × Str)} {fo : FE} {kk : FA}
end
end FW
/-! A House is made and given its first promise: the object beside the region, then taken in. -/
namespace FW
open PySem PySem.Spec PyProof.Rows L2 HotX LamX

/-! ### beside the region -/
structure Bsd (o : HO) : Prop where
  t : ∀ ps, o ≠ .tbl ps
  c : ∀ a q, o ≠ LamX.CodeO a q
  p : ∀ xs, o ≠ .tup xs
theorem bsd_ins {C dx : Addr} {fs : List (Str × V)} : Bsd (.ins C dx fs) := ⟨fun _ h => (by cases h), fun _ _ h => (by cases h), fun _ h => (by cases h)⟩
theorem bsd_lst {xs : List V} : Bsd (.lst xs) := ⟨fun _ h => (by cases h), fun _ _ h => (by cases h), fun _ h => (by cases h)⟩
theorem bsd_dK {es : List (Key × V)} : Bsd (.dK es) := ⟨fun _ h => (by cases h), fun _ _ h => (by cases h), fun _ h => (by cases h)⟩
section
variable {g : Gd} {I0 H0 I H I' H' : Hp} {p : Addr} {o u : HO}
theorem stp_beside (s : Stp g I H I' H') (hI : I p = none) (nz : p ≠ g.dz) (hp : H p = some o) (b : Bsd o) : I' p = none ∧ H' p = some o := by
  refine ⟨?_, s.keep p o nz b.t hp⟩
  cases e : I' p with
  | none => rfl
  | some w =>
    rcases s.new p w e with z | z | ⟨z, xs, q⟩
    · rw [hI] at z; cases z
    · exact (z.none_of hp b.t).elim
    · rw [hp] at z; cases z; exact (b.p xs q).elim
end
/-- a House beside the region I: v what is kept, t k p its table, known, past -/
structure HouseB (g : Gd) (I0 H0 I H : Hp) (C y dx t k p : Addr) (v : V) (es1 es2 : List (Key × V)) (xs : List V) : Prop where
  stp : Stp g I0 H0 I H
  hy : H y = some (.ins C dx (hsF v (.ref t) (.ref k) (.ref p)))
  ht : H t = some (.dK es1)
  hk : H k = some (.dK es2)
  hp : H p = some (.lst xs)
  iy : I y = none
  it : I t = none
  ik : I k = none
  ip : I p = none
  ny : NT H0 y
  nt : NT H0 t
  nk : NT H0 k
  np : NT H0 p
  zy : y ≠ g.dz
  zt : t ≠ g.dz
  zk : k ≠ g.dz
  zp : p ≠ g.dz
  tk : t ≠ k
section
variable {g : Gd} {I0 H0 I H I' H' : Hp} {C y dx t k p : Addr} {v : V} {es1 es2 : List (Key × V)} {xs : List V}
theorem HouseB.go (b : HouseB g I0 H0 I H C y dx t k p v es1 es2 xs) (s : Stp g I H I' H') : HouseB g I0 H0 I' H' C y dx t k p v es1 es2 xs := by
  obtain ⟨a1, a2⟩ := stp_beside s b.iy b.zy b.hy bsd_ins
  obtain ⟨b1, b2⟩ := stp_beside s b.it b.zt b.ht bsd_dK
  obtain ⟨c1, c2⟩ := stp_beside s b.ik b.zk b.hk bsd_dK
  obtain ⟨d1, d2⟩ := stp_beside s b.ip b.zp b.hp bsd_lst
  exact ⟨b.stp.trans s, a2, b2, c2, d2, a1, b1, c1, d1, b.ny, b.nt, b.nk, b.np, b.zy, b.zt, b.zk, b.zp, b.tk⟩
/-- it is taken in -/
theorem HouseB.done {d1 d2 d3 : D} (b : HouseB g I0 H0 I H C y dx t k p v es1 es2 xs) (hv : DR g I v d1) (h1 : ∃ kvs, d2 = .dct kvs ∧ DRk g I es1 kvs) (h2 : ∃ kvs, d3 = .dct kvs ∧ DRk g I es2 kvs) : ∃ J, Stp g I0 H0 J H ∧ Sub I J ∧ DR g J (.ref y) (.hs C d1 d2 d3) := by
  obtain ⟨k1, rfl, r1⟩ := h1
  obtain ⟨k2, rfl, r2⟩ := h2
  have n1 : y ≠ t := ne_of b.hy b.ht (by intro z; cases z)
  have n2 : y ≠ k := ne_of b.hy b.hk (by intro z; cases z)
  have s1 := b.stp.take b.nt b.zt b.it b.ht
  have s2 := s1.take b.nk b.zk (by rw [upd_ne b.tk.symm]; exact b.ik) b.hk
  have s3 := s2.take b.ny b.zy (by rw [upd_ne n2, upd_ne n1]; exact b.iy) b.hy
  have u1 : Sub I (upd I t (.dK es1)) := fun a o e => by rw [upd_ne (ne_of_none e b.it)]; exact e
  have u2 : Sub (upd I t (.dK es1)) (upd (upd I t (.dK es1)) k (.dK es2)) := fun a o e => by rw [upd_ne (ne_of_none e (by rw [upd_ne b.tk.symm]; exact b.ik))]; exact e
  have u3 : Sub (upd (upd I t (.dK es1)) k (.dK es2)) (upd (upd (upd I t (.dK es1)) k (.dK es2)) y (.ins C dx (hsF v (.ref t) (.ref k) (.ref p)))) := fun a o e => by rw [upd_ne (ne_of_none e (by rw [upd_ne n2, upd_ne n1]; exact b.iy))]; exact e
  have u := u1.trans (u2.trans u3)
  refine ⟨_, s3, u, .hs upd_same (hv.mono u) (.dK (.inl ?_) (r1.mono u)) (.dK (.inl ?_) (r2.mono u))⟩
  · rw [upd_ne n1.symm, upd_ne b.tk, upd_same]
  · rw [upd_ne n2.symm, upd_same]
end

/-! ### readings of values -/
/-! ### remember -/
/-! ### promise -/
end FW
/-! A House's __init__; the two statements that make it and give it its first promise. -/
namespace FW
open PySem PySem.Spec PyProof.Rows L2 HotX LamX

/-! ### the two statements -/
def houseD (C : Addr) (talk : D) (nm : Str) (m : Int) (bb : Bool) (n : Int) : D := .hs C talk (.dct [(.str nm, .lst [.tup [.int 0, .int m]])]) (.dct [(.str nm, .tup [.bl bb, .int n])])
def fsHouse (h tl mo : Nat) (C : Addr) (nm : Str) (ft f1 : FT) (fnN fnA : List D → Res D) : FS := fun r => if h < r.length ∧ mo ≠ h then match r[tl]?, r[mo]? with
  | some (.val talk), some (.val (.int m)) => match ft [none, some talk], f1 [none, some (.str nm), some (.lst [.tup [.int 0, .int m]]), none], fnN [talk, .lst [.tup [.int 0, .int m]]], fnA [talk, .lst [.tup [.int 0, .int m]]] with
    | .ok false, .ok false, .ok _, .ok (.tup [.bl bb, .int n]) => .ok (.nx (r.set h (.val (houseD C talk nm m bb n))))
    | _, _, _, _ => .bad
  | _, _ => .bad else .bad
section
variable {X : Cx} {g : Gd} {E : XK} {T : List (Addr × Str)}
end
end FW
/-! The classes' places, from what the head says. -/
namespace FW
open PySem PySem.Spec PyProof.Rows L2 HotX LamX

section
variable {K : PySem.W.Frag} {mg : Str → Option Value} {base : Str} {names : List Str} {cs : List (Str × Addr)}
end
/-! ### a text, a tuple of one text, so many times: once too -/
section
variable {X : Cx} {g : Gd} {E : XK}
def dMulZ (x y : D) : Res D := match x, y with
  | .str z, .int 1 => if z.length ≤ 1000 then .ok (.str z) else .bad
  | x, y => dMulX x y
def dMulP (x y : D) : Res D := match x, y with
  | .tup a, .int 1 => .ok (.tup a)
  | x, y => dMulO x y
end
end FW
namespace Lk31
open PySem PySem.Spec PyProof.Rows L2 LamX FW
def top (i : Nat) : Stmt := PySem.Challenge.pw_manyends_k31_refusals_apart.main.body.getD i (.Pass ⟨0, 0, 0, 0⟩)
abbrev st__wall : Stmt := top 0
abbrev st_is_whole : Stmt := top 21
abbrev st_is_word : Stmt := top 22
abbrev st_are_counts : Stmt := top 23
abbrev st_is_state : Stmt := top 24
abbrev st_is_rule : Stmt := top 25
abbrev st_are_states : Stmt := top 26
abbrev st_is_talk : Stmt := top 27
abbrev st_need_talk : Stmt := top 28
abbrev st_is_good_standing : Stmt := top 29
abbrev st_is_standing : Stmt := top 30
abbrev st_need_standing : Stmt := top 31
abbrev st_begun : Stmt := top 32
abbrev st_start : Stmt := top 33
abbrev st_size_of : Stmt := top 34
abbrev st_is_over : Stmt := top 35
abbrev st_turned_rule : Stmt := top 36
abbrev st_is_table : Stmt := top 37
abbrev st_least_of : Stmt := top 39
abbrev st_is_over_one : Stmt := top 40
abbrev st_vector : Stmt := top 42
abbrev st_needed : Stmt := top 43
abbrev st_granted : Stmt := top 44
abbrev st_can : Stmt := top 45
abbrev st_done : Stmt := top 46
abbrev st_need_number : Stmt := top 47
abbrev st_behind : Stmt := top 48
abbrev st_steps_from : Stmt := top 49
abbrev st_is_start : Stmt := top 50
abbrev st_need_rows : Stmt := top 51
abbrev st_fault_of : Stmt := top 52
abbrev st_rules_of : Stmt := top 53
abbrev st_need_targets : Stmt := top 57
abbrev st_walked : Stmt := top 58
abbrev st_need_few : Stmt := top 59
abbrev st_is_hit : Stmt := top 60
abbrev st_run_of : Stmt := top 61
abbrev st_added : Stmt := top 63
abbrev st_lacking : Stmt := top 64
abbrev st_parted : Stmt := top 65
abbrev st_others_before : Stmt := top 66
abbrev st_before_of : Stmt := top 67
abbrev st_before_all : Stmt := top 68
abbrev st_basis_of : Stmt := top 69
abbrev st_basis : Stmt := top 70
abbrev st_size_for : Stmt := top 72
abbrev st_least_of_sizes : Stmt := top 73
abbrev st_bad_run : Stmt := top 74
abbrev st_answer : Stmt := top 76
abbrev st_House : Stmt := clsStmt (top 77) 0
abbrev st_House_remember : Stmt := clsStmt (top 77) 1
abbrev st_House_need : Stmt := clsStmt (top 77) 2
abbrev st_House_promise : Stmt := clsStmt (top 77) 3
abbrev st_House_forget : Stmt := clsStmt (top 77) 4
abbrev st_House_add : Stmt := clsStmt (top 77) 7
abbrev st_House_state_of : Stmt := clsStmt (top 77) 10
abbrev st_words_of : Stmt := top 79
abbrev st_counted : Stmt := top 80
abbrev st_agrees : Stmt := top 81
abbrev st_need_table : Stmt := top 82
abbrev st_made_coarser : Stmt := top 83
abbrev st_coarser : Stmt := top 84
abbrev st_is_form : Stmt := top 86
abbrev st_all_breaks : Stmt := top 87
abbrev st_need_paper : Stmt := top 88
abbrev st_breaks : Stmt := top 89
abbrev st_number_in : Stmt := top 92
abbrev st_standing_text : Stmt := top 93
abbrev st_read_standing : Stmt := top 94
abbrev st_are_weights : Stmt := top 96
abbrev st_need_weights : Stmt := top 97
abbrev st_summed : Stmt := top 98
abbrev st_demands : Stmt := top 99
abbrev st_is_kept_of : Stmt := top 100
abbrev st_is_kept : Stmt := top 101
abbrev st_Lcell : Stmt := top 103
abbrev st_Ldrawn : Stmt := top 104
abbrev st_Lroll : Stmt := top 105
abbrev st_Lrounds : Stmt := top 106
abbrev st_Lmet : Stmt := top 107
abbrev st_Lalone : Stmt := top 108
abbrev st_law : Stmt := top 109
def cH : Addr := 598
def csL : List (Str × Addr) := [("BadTalk", 44), ("BadStanding", 56), ("BadNumber", 68), ("BadTargets", 80), ("BadPaper", 92), ("BadWeights", 104), ("BadTable", 116), ("BadRun", 128), ("BadRule", 140), ("BadName", 152), ("Taken", 164), ("NoName", 176), ("Nothing", 188), ("Full", 200), ("BadText", 212)]
def names : List Str := ["BadTalk", "BadStanding", "BadNumber", "BadTargets", "BadPaper", "BadWeights", "BadTable", "BadRun", "BadRule", "BadName", "Taken", "NoName", "Nothing", "Full", "BadText"]
/-! ### the head -/
def d_is_whole : He.DefD := ⟨("is_whole", none), "is_whole", "is_whole", defArgs st_is_whole, defBody st_is_whole, defScope st_is_whole, [], []⟩
def d_is_word : He.DefD := ⟨("is_word", none), "is_word", "is_word", defArgs st_is_word, defBody st_is_word, defScope st_is_word, [], []⟩
def d_are_counts : He.DefD := ⟨("are_counts", none), "are_counts", "are_counts", defArgs st_are_counts, defBody st_are_counts, defScope st_are_counts, [], []⟩
def d_is_state : He.DefD := ⟨("is_state", none), "is_state", "is_state", defArgs st_is_state, defBody st_is_state, defScope st_is_state, [], []⟩
def d_is_rule : He.DefD := ⟨("is_rule", none), "is_rule", "is_rule", defArgs st_is_rule, defBody st_is_rule, defScope st_is_rule, [], []⟩
def d_are_states : He.DefD := ⟨("are_states", none), "are_states", "are_states", defArgs st_are_states, defBody st_are_states, defScope st_are_states, [], []⟩
def d_is_talk : He.DefD := ⟨("is_talk", none), "is_talk", "is_talk", defArgs st_is_talk, defBody st_is_talk, defScope st_is_talk, [], []⟩
def d_need_talk : He.DefD := ⟨("need_talk", none), "need_talk", "need_talk", defArgs st_need_talk, defBody st_need_talk, defScope st_need_talk, [], []⟩
def d_is_good_standing : He.DefD := ⟨("is_good_standing", none), "is_good_standing", "is_good_standing", defArgs st_is_good_standing, defBody st_is_good_standing, defScope st_is_good_standing, [], []⟩
def d_is_standing : He.DefD := ⟨("is_standing", none), "is_standing", "is_standing", defArgs st_is_standing, defBody st_is_standing, defScope st_is_standing, [], []⟩
def d_need_standing : He.DefD := ⟨("need_standing", none), "need_standing", "need_standing", defArgs st_need_standing, defBody st_need_standing, defScope st_need_standing, [], []⟩
def d_begun : He.DefD := ⟨("begun", none), "begun", "begun", defArgs st_begun, defBody st_begun, defScope st_begun, [], []⟩
def d_start : He.DefD := ⟨("start", none), "start", "start", defArgs st_start, defBody st_start, defScope st_start, [], []⟩
def d_size_of : He.DefD := ⟨("size_of", none), "size_of", "size_of", defArgs st_size_of, defBody st_size_of, defScope st_size_of, [], []⟩
def d_is_over : He.DefD := ⟨("is_over", none), "is_over", "is_over", defArgs st_is_over, defBody st_is_over, defScope st_is_over, [], []⟩
def d_is_table : He.DefD := ⟨("is_table", none), "is_table", "is_table", defArgs st_is_table, defBody st_is_table, defScope st_is_table, [], []⟩
def d_least_of : He.DefD := ⟨("least_of", none), "least_of", "least_of", defArgs st_least_of, defBody st_least_of, defScope st_least_of, [], []⟩
def d_is_over_one : He.DefD := ⟨("is_over_one", none), "is_over_one", "is_over_one", defArgs st_is_over_one, defBody st_is_over_one, defScope st_is_over_one, [], []⟩
def d_vector : He.DefD := ⟨("vector", none), "vector", "vector", defArgs st_vector, defBody st_vector, defScope st_vector, [], []⟩
def d_needed : He.DefD := ⟨("needed", none), "needed", "needed", defArgs st_needed, defBody st_needed, defScope st_needed, [], []⟩
def d_granted : He.DefD := ⟨("granted", none), "granted", "granted", defArgs st_granted, defBody st_granted, defScope st_granted, [], []⟩
def d_can : He.DefD := ⟨("can", none), "can", "can", defArgs st_can, defBody st_can, defScope st_can, [], []⟩
def d_need_number : He.DefD := ⟨("need_number", none), "need_number", "need_number", defArgs st_need_number, defBody st_need_number, defScope st_need_number, [], []⟩
def d_behind : He.DefD := ⟨("behind", none), "behind", "behind", defArgs st_behind, defBody st_behind, defScope st_behind, [], []⟩
def d_steps_from : He.DefD := ⟨("steps_from", none), "steps_from", "steps_from", defArgs st_steps_from, defBody st_steps_from, defScope st_steps_from, [], []⟩
def d_is_start : He.DefD := ⟨("is_start", none), "is_start", "is_start", defArgs st_is_start, defBody st_is_start, defScope st_is_start, [], []⟩
def d_need_rows : He.DefD := ⟨("need_rows", none), "need_rows", "need_rows", defArgs st_need_rows, defBody st_need_rows, defScope st_need_rows, [], []⟩
def d_fault_of : He.DefD := ⟨("fault_of", none), "fault_of", "fault_of", defArgs st_fault_of, defBody st_fault_of, defScope st_fault_of, [], []⟩
def d_rules_of : He.DefD := ⟨("rules_of", none), "rules_of", "rules_of", defArgs st_rules_of, defBody st_rules_of, defScope st_rules_of, [], []⟩
def d_need_targets : He.DefD := ⟨("need_targets", none), "need_targets", "need_targets", defArgs st_need_targets, defBody st_need_targets, defScope st_need_targets, [], []⟩
def d_added : He.DefD := ⟨("added", none), "added", "added", defArgs st_added, defBody st_added, defScope st_added, [], []⟩
def d_lacking : He.DefD := ⟨("lacking", none), "lacking", "lacking", defArgs st_lacking, defBody st_lacking, defScope st_lacking, [], []⟩
def d_parted : He.DefD := ⟨("parted", none), "parted", "parted", defArgs st_parted, defBody st_parted, defScope st_parted, [], []⟩
def d_others_before : He.DefD := ⟨("others_before", none), "others_before", "others_before", defArgs st_others_before, defBody st_others_before, defScope st_others_before, [], []⟩
def d_before_of : He.DefD := ⟨("before_of", none), "before_of", "before_of", defArgs st_before_of, defBody st_before_of, defScope st_before_of, [], []⟩
def d_before_all : He.DefD := ⟨("before_all", none), "before_all", "before_all", defArgs st_before_all, defBody st_before_all, defScope st_before_all, [], []⟩
def d_basis_of : He.DefD := ⟨("basis_of", none), "basis_of", "basis_of", defArgs st_basis_of, defBody st_basis_of, defScope st_basis_of, [], []⟩
def d_basis : He.DefD := ⟨("basis", none), "basis", "basis", defArgs st_basis, defBody st_basis, defScope st_basis, [], []⟩
def d_size_for : He.DefD := ⟨("size_for", none), "size_for", "size_for", defArgs st_size_for, defBody st_size_for, defScope st_size_for, [], []⟩
def d_least_of_sizes : He.DefD := ⟨("least_of_sizes", none), "least_of_sizes", "least_of_sizes", defArgs st_least_of_sizes, defBody st_least_of_sizes, defScope st_least_of_sizes, [], []⟩
def d_bad_run : He.DefD := ⟨("bad_run", none), "bad_run", "bad_run", defArgs st_bad_run, defBody st_bad_run, defScope st_bad_run, [], []⟩
def d_answer : He.DefD := ⟨("answer", none), "answer", "answer", defArgs st_answer, defBody st_answer, defScope st_answer, [], []⟩
def d_House : He.DefD := ⟨("House", some "__init__"), "__init__", "House.__init__", defArgs st_House, defBody st_House, defScope st_House, [], []⟩
def d_House_remember : He.DefD := ⟨("House", some "remember"), "remember", "House.remember", defArgs st_House_remember, defBody st_House_remember, defScope st_House_remember, [], []⟩
def d_House_need : He.DefD := ⟨("House", some "need"), "need", "House.need", defArgs st_House_need, defBody st_House_need, defScope st_House_need, [], []⟩
def d_House_promise : He.DefD := ⟨("House", some "promise"), "promise", "House.promise", defArgs st_House_promise, defBody st_House_promise, defScope st_House_promise, [], []⟩
def d_House_forget : He.DefD := ⟨("House", some "forget"), "forget", "House.forget", defArgs st_House_forget, defBody st_House_forget, defScope st_House_forget, [], []⟩
def d_House_add : He.DefD := ⟨("House", some "add"), "add", "House.add", defArgs st_House_add, defBody st_House_add, defScope st_House_add, [], []⟩
def d_House_state_of : He.DefD := ⟨("House", some "state_of"), "state_of", "House.state_of", defArgs st_House_state_of, defBody st_House_state_of, defScope st_House_state_of, [], []⟩
def d_words_of : He.DefD := ⟨("words_of", none), "words_of", "words_of", defArgs st_words_of, defBody st_words_of, defScope st_words_of, [], []⟩
def d_need_table : He.DefD := ⟨("need_table", none), "need_table", "need_table", defArgs st_need_table, defBody st_need_table, defScope st_need_table, [], []⟩
def d_coarser : He.DefD := ⟨("coarser", none), "coarser", "coarser", defArgs st_coarser, defBody st_coarser, defScope st_coarser, [], []⟩
def d_is_form : He.DefD := ⟨("is_form", none), "is_form", "is_form", defArgs st_is_form, defBody st_is_form, defScope st_is_form, [], []⟩
def d_need_paper : He.DefD := ⟨("need_paper", none), "need_paper", "need_paper", defArgs st_need_paper, defBody st_need_paper, defScope st_need_paper, [], []⟩
def d_breaks : He.DefD := ⟨("breaks", none), "breaks", "breaks", defArgs st_breaks, defBody st_breaks, defScope st_breaks, [], []⟩
def d_number_in : He.DefD := ⟨("number_in", none), "number_in", "number_in", defArgs st_number_in, defBody st_number_in, defScope st_number_in, [], []⟩
def d_read_standing : He.DefD := ⟨("read_standing", none), "read_standing", "read_standing", defArgs st_read_standing, defBody st_read_standing, defScope st_read_standing, [], []⟩
def d_are_weights : He.DefD := ⟨("are_weights", none), "are_weights", "are_weights", defArgs st_are_weights, defBody st_are_weights, defScope st_are_weights, [], []⟩
def d_need_weights : He.DefD := ⟨("need_weights", none), "need_weights", "need_weights", defArgs st_need_weights, defBody st_need_weights, defScope st_need_weights, [], []⟩
def d_is_kept : He.DefD := ⟨("is_kept", none), "is_kept", "is_kept", defArgs st_is_kept, defBody st_is_kept, defScope st_is_kept, [], []⟩
def d_Lcell : He.DefD := ⟨("_law_cell", none), "_law_cell", "_law_cell", defArgs st_Lcell, defBody st_Lcell, defScope st_Lcell, [], []⟩
def d_Ldrawn : He.DefD := ⟨("_law_drawn", none), "_law_drawn", "_law_drawn", defArgs st_Ldrawn, defBody st_Ldrawn, defScope st_Ldrawn, [], []⟩
def d_Lroll : He.DefD := ⟨("_law_roll", none), "_law_roll", "_law_roll", defArgs st_Lroll, defBody st_Lroll, defScope st_Lroll, [], []⟩
def d_Lrounds : He.DefD := ⟨("_law_rounds", none), "_law_rounds", "_law_rounds", defArgs st_Lrounds, defBody st_Lrounds, defScope st_Lrounds, [], []⟩
def d_Lmet : He.DefD := ⟨("_law_met", none), "_law_met", "_law_met", defArgs st_Lmet, defBody st_Lmet, defScope st_Lmet, [], []⟩
def d_Lalone : He.DefD := ⟨("_law_alone", none), "_law_alone", "_law_alone", defArgs st_Lalone, defBody st_Lalone, defScope st_Lalone, [], []⟩
def d_law : He.DefD := ⟨("law", none), "law", "law", defArgs st_law, defBody st_law, defScope st_law, [], []⟩
def fn0 : List He.DefD := [d_is_whole, d_is_word, d_are_counts, d_is_state, d_is_rule, d_are_states, d_is_talk, d_need_talk, d_is_good_standing, d_is_standing, d_need_standing, d_begun, d_start, d_size_of, d_is_over, d_is_table, d_least_of, d_is_over_one, d_vector, d_needed, d_granted, d_can, d_need_number, d_behind, d_steps_from, d_is_start, d_need_rows, d_fault_of, d_rules_of, d_need_targets]
def fn1 : List He.DefD := [d_added, d_lacking, d_parted, d_others_before, d_before_of, d_before_all, d_basis_of, d_basis, d_size_for, d_least_of_sizes, d_bad_run, d_answer, d_House, d_House_remember, d_House_need, d_House_promise, d_House_forget, d_House_add, d_House_state_of, d_words_of, d_need_table, d_coarser, d_is_form, d_need_paper, d_breaks, d_number_in, d_read_standing, d_are_weights, d_need_weights, d_is_kept]
def fn2 : List He.DefD := [d_Lcell, d_Ldrawn, d_Lroll, d_Lrounds, d_Lmet, d_Lalone, d_law]
def fnL : List He.DefD := fn0 ++ fn1 ++ fn2
def fa0 : List He.Fa := [.glo "is_whole", .glo "is_word", .glo "are_counts", .glo "is_state", .glo "is_rule", .glo "are_states", .glo "is_talk", .glo "need_talk", .glo "is_good_standing", .glo "is_standing", .glo "need_standing", .glo "begun", .glo "start", .glo "size_of", .glo "is_over", .glo "is_table", .glo "least_of", .glo "is_over_one", .glo "vector", .glo "needed", .glo "granted", .glo "can", .glo "need_number", .glo "behind", .glo "steps_from", .glo "is_start", .glo "need_rows", .glo "fault_of", .glo "rules_of", .glo "need_targets", .glo "added", .glo "lacking", .glo "parted", .glo "others_before", .glo "before_of", .glo "before_all", .glo "basis_of", .glo "basis", .glo "size_for", .glo "least_of_sizes", .glo "bad_run", .glo "answer", .glo "House", .glo "words_of", .glo "need_table", .glo "coarser", .glo "is_form", .glo "need_paper", .glo "breaks", .glo "number_in"]
def fa1 : List He.Fa := [.glo "read_standing", .glo "are_weights", .glo "need_weights", .glo "is_kept", .glo "_law_cell", .glo "_law_drawn", .glo "_law_roll", .glo "_law_rounds", .glo "_law_met", .glo "_law_alone", .glo "law", .glo "TalkError", .glo "BadTalk", .glo "BadStanding", .glo "BadNumber", .glo "BadTargets", .glo "BadPaper", .glo "BadWeights", .glo "BadTable", .glo "BadRun", .glo "BadRule", .glo "BadName", .glo "Taken", .glo "NoName", .glo "Nothing", .glo "Full", .glo "BadText", .free "len", .free "all", .free "any", .free "sum", .free "tuple", .free "list", .free "int", .free "max", .free "min", .free "range", .free "enumerate", .free "zip", .free "isinstance", .free "str", .free "bool", .free "dict", .free "set", .free "sorted", .free "abs", .free "ValueError", .str "SMALL" "abcdefghijklmnopqrstuvwxyz", .str "FIGURES" "0123456789", .int "MOST" 9999]
def fa2 : List He.Fa := [.int "MOST_SIZE" 12, .int "MOST_REACHED" 4000, .exc "BadTalk", .exc "BadStanding", .exc "BadNumber", .exc "BadTargets", .exc "BadPaper", .exc "BadWeights", .exc "BadTable", .exc "BadRun", .exc "BadRule", .exc "BadName", .exc "Taken", .exc "NoName", .exc "Nothing", .exc "Full", .exc "BadText", .mkr "House", .cls "House", .noat "House" "kept", .noat "House" "table", .noat "House" "known", .noat "House" "past", .meth "House" "remember", .meth "House" "need", .meth "House" "promise", .meth "House" "forget", .meth "House" "add", .meth "House" "state_of"]
def faL : List He.Fa := fa0 ++ fa1 ++ fa2
def moreB (K : PySem.W.Frag) : Bool := (names.all fun c => clsB K "TalkError" names c) && ((csL.all fun p => decide (He.ga K p.1 = p.2)) && decide (He.ga K "House" = cH))
abbrev R : PySem.W.OpenRow := PySem.W.OpenLaw.row PySem.Challenge.rw_manyends_k31_refusals_apart
abbrev hkL : PySem.W.Hook := hookY 4 faL fnL moreB "law" "least_of"
def obL (s : PySem.W.SharedT) : AlX := obsY 4 faL fnL moreB "law" "least_of" (HandSHeadRun.getT s)
theorem obL_eq (s : PySem.W.SharedT) : obL s = hkL.obs s.abs := obsY_eq (HandSHeadRun.getT_eq s)
def lo0 : List Str := ["TalkError", "BadTalk", "BadStanding", "BadNumber", "BadTargets", "BadPaper", "BadWeights", "BadTable", "BadRun", "BadRule", "BadName", "Taken", "NoName", "Nothing", "Full", "BadText", "SMALL", "FIGURES", "MOST", "MOST_SIZE", "MOST_REACHED", "_wall", "is_whole", "is_word", "are_counts", "is_state", "is_rule", "are_states", "is_talk", "need_talk"]
def lo1 : List Str := ["is_good_standing", "is_standing", "need_standing", "begun", "start", "size_of", "is_over", "turned_rule", "is_table", "least_of", "is_over_one", "vector", "needed", "granted", "can", "done", "need_number", "behind", "steps_from", "is_start", "need_rows", "fault_of", "rules_of", "need_targets", "walked", "need_few", "is_hit", "run_of", "added", "lacking"]
def lo2 : List Str := ["parted", "others_before", "before_of", "before_all", "basis_of", "basis", "size_for", "least_of_sizes", "bad_run", "answer", "House", "words_of", "counted", "agrees", "need_table", "made_coarser", "coarser", "is_form", "all_breaks", "need_paper", "breaks", "number_in", "standing_text", "read_standing", "are_weights", "need_weights", "summed", "demands", "is_kept_of", "is_kept"]
def lo3 : List Str := ["_law_cell", "_law_drawn", "_law_roll", "_law_rounds", "_law_met", "_law_alone"]
abbrev looseL : List Str := lo0 ++ lo1 ++ lo2 ++ lo3
open HandSHeadRun in
noncomputable abbrev XR (w : World) (os : OsState) : Option PySem.W.SharedT := endF (stepQ (denQ tabQ) R.prog w) 12000 R.prog w os
abbrev KS (s : PySem.W.SharedT) : PySem.W.Frag := kG (HandSHeadRun.getT s) 4
open HandSHeadRun PySem.W in
theorem r_head (w : World) (os : OsState) : (XR w os).map (fun s => (looksF R.prog (boot_heap w.params) s.abs, seenQ (PySem.W.view R.prog [109]) looseL (importedModules R.prog.main.body) (fun s => xlAt (PySem.W.view R.prog [109]) [] s && recOk R.toRowW.records s) s.abs)) = some (true, openGood (PySem.W.view R.prog [109]) looseL) := by kernel_rfl
theorem r_fn (w : World) (os : OsState) : (XR w os).map (fun s => ((faL.all fun f => f.ok (KS s)), ((fnL.all fun d => d.ok (KS s)), (moreB (KS s), twoT (HandSHeadRun.getT s) (KS s) "law" "least_of")))) = some (true, (true, (true, true))) := by kernel_rfl
theorem r_va (w : World) (os : OsState) : (XR w os).map (fun s => fnL.map fun d => He.fnW (KS s) d.at_) = some (fnL.map He.DefD.val) := by kernel_rfl
theorem at_some {α β : Type} {x : Option α} {s : α} {f : α → β} {b : β} (h : x = some s) (e : x.map f = some b) : f s = b := by rw [h] at e; exact Option.some.inj e
theorem runL (w : World) : HandSHeadRun.RunEq R (PySem.W.view R.prog [109]) hkL obL 12000 looseL w := by
  intro os
  obtain ⟨s, hs, e0⟩ := Option.map_eq_some_iff.mp (r_head w os)
  have e1 := at_some hs (r_fn w os)
  have D1 : (faL.all fun f => f.ok (KS s)) = true := congrArg Prod.fst e1
  have D2 : (fnL.all fun d => d.ok (KS s)) = true := congrArg Prod.fst (congrArg Prod.snd e1)
  have D3 := at_some hs (r_va w os)
  have D : He.obsD faL fnL (KS s) = He.valD fnL := by
    unfold He.obsD He.valD
    exact Prod.ext (show ((faL.all fun f => f.ok (KS s)) && (fnL.all fun d => d.ok (KS s))) = true by rw [D1]; exact D2) D3
  have a1 := congrArg Prod.fst e0
  have a2 := congrArg Prod.snd e0
  have b1 := congrArg Prod.fst (congrArg Prod.snd (congrArg Prod.snd e1))
  have b2 := congrArg Prod.snd (congrArg Prod.snd (congrArg Prod.snd e1))
  show (XR w os).map _ = some (_, _, _)
  rw [hs]
  refine congrArg some (Prod.ext a1 (Prod.ext a2 (Prod.ext D (Prod.ext b1 b2))))
end Lk31
namespace Lk31
open PySem FW
def fs_is_whole : FS := (fsRet (fAndV (fIsi .int (fVar 0)) (fAndV (fNotV (fIsi .bool (fVar 0))) (fChain dLe dLe (fVar 1) (fVar 0) (fVar 2)))))
def fn_is_whole : List D → Res D := fnF 3 3 fs_is_whole
def fs_is_word : FS := (fsRet (fAndV (fIsi .str (fVar 0)) (fAndV (fChain dLe dLe (fC (.int 1)) (fCB dLen (fCons (fVar 0) fNil)) (fC (.int 8))) (fCB dAll (fCons (fLc (fIter (fVar 0)) (gN 1) fYes (fOp dIn (fVar 1) (fC (.str "abcdefghijklmnopqrstuvwxyz"))) [1]) fNil)))))
def fn_is_word : List D → Res D := fnF 1 2 fs_is_word
def fs_are_counts : FS := (fsRet (fAndV (fIsi .tuple (fVar 0)) (fAndV (fOp dEq (fCB dLen (fCons (fVar 0) fNil)) (fVar 1)) (fCB dAll (fCons (fLc (fIter (fVar 0)) (gN 3) fYes (fCall fn_is_whole (fCons (fVar 3) (fCons (fC (.int 0)) (fCons (fVar 2) fNil)))) [3]) fNil)))))
def fn_are_counts : List D → Res D := fnF 3 4 fs_are_counts
def fs_is_state : FS := (fsRet (fAndV (fIsi .str (fVar 1)) (fOp dIn (fVar 1) (fVar 0))))
def fn_is_state : List D → Res D := fnF 2 2 fs_is_state
def fs_is_rule : FS := (fsSeq (fsIf (fOr (fNot (fTest (fIsi .tuple (fVar 1)))) (fOr (fTest (fOp dEq (fVar 1) (fTup fNil))) (fNot (fTest (fIsi .str (fOp dIx (fVar 1) (fC (.int 0)))))))) (fsRet (fC (.bl false))) fsSkip) (fsSeq (fsIf (fTest (fOp dEq (fOp dIx (fVar 1) (fC (.int 0))) (fC (.str "call")))) (fsSeq (fsIf (fOr (fTest (fOp dNe (fCB dLen (fCons (fVar 1) fNil)) (fC (.int 4)))) (fOr (fNot (fTest (fIsi .tuple (fOp dIx (fVar 1) (fC (.int 3)))))) (fTest (fOp dNe (fCB dLen (fCons (fOp dIx (fVar 1) (fC (.int 3))) fNil)) (fCB dLen (fCons (fVar 0) fNil)))))) (fsRet (fC (.bl false))) fsSkip) (fsRet (fCB dAll (fCons (fLc (fIter (fOp dAdd (fCut (fVar 1) (fPart (fC (.int 1))) (fPart (fC (.int 3)))) (fOp dIx (fVar 1) (fC (.int 3))))) (gN 3) fYes (fCall fn_is_state (fCons (fVar 0) (fCons (fVar 3) fNil))) [3]) fNil)))) fsSkip) (fsSeq (fsSet 2 (fGet2 (fDisp [((fC (.str "alone")), (fC (.int 3))), ((fC (.str "meet")), (fC (.int 5)))]) (fOp dIx (fVar 1) (fC (.int 0))) (fC (.int 0)))) (fsRet (fAndV (fOp dEq (fCB dLen (fCons (fVar 1) fNil)) (fVar 2)) (fCB dAll (fCons (fLc (fIter (fCut (fVar 1) (fPart (fC (.int 1))) fNo)) (gN 3) fYes (fCall fn_is_state (fCons (fVar 0) (fCons (fVar 3) fNil))) [3]) fNil)))))))
def fn_is_rule : List D → Res D := fnF 2 4 fs_is_rule
def fs_are_states : FS := (fsSeq (fsIf (fOr (fNot (fTest (fIsi .tuple (fVar 0)))) (fOr (fNot (fTest (fChain dLe dLe (fC (.int 2)) (fCB dLen (fCons (fVar 0) fNil)) (fC (.int 6))))) (fNot (fTest (fCB dAll (fCons (fLc (fIter (fVar 0)) (gN 1) fYes (fCall fn_is_word (fCons (fVar 1) fNil)) [1]) fNil)))))) (fsRet (fC (.bl false))) fsSkip) (fsRet (fCB dAll (fCons (fLc (fItA dZip (fCons (fVar 0) (fCons (fCut (fVar 0) (fPart (fC (.int 1))) fNo) fNil))) (gT 2 (gsCons (gN 1) (gsCons (gN 2) gsNil))) fYes (fOp dLt (fVar 1) (fVar 2)) [1, 2]) fNil))))
def fn_are_states : List D → Res D := fnF 1 3 fs_are_states
def fs_is_talk : FS := (fsSeq (fsIf (fOr (fNot (fTest (fIsi .tuple (fVar 0)))) (fOr (fTest (fOp dNe (fCB dLen (fCons (fVar 0) fNil)) (fC (.int 4)))) (fNot (fTest (fCall fn_are_states (fCons (fOp dIx (fVar 0) (fC (.int 0))) fNil)))))) (fsRet (fC (.bl false))) fsSkip) (fsSeq (fsAsg (sgT 4 (sgsCons (sgN 1) (sgsCons (sgN 2) (sgsCons (sgN 3) (sgsCons (sgN 4) sgsNil))))) (fVar 0)) (fsSeq (fsIf (fOr (fNot (fTest (fCall fn_is_state (fCons (fVar 1) (fCons (fVar 2) fNil))))) (fNot (fTest (fCall fn_are_counts (fCons (fVar 3) (fCons (fCB dLen (fCons (fVar 1) fNil)) (fCons (fC (.int 3)) fNil))))))) (fsRet (fC (.bl false))) fsSkip) (fsSeq (fsIf (fOr (fNot (fTest (fIsi .tuple (fVar 4)))) (fOr (fTest (fOp dGt (fCB dLen (fCons (fVar 4) fNil)) (fC (.int 12)))) (fNot (fTest (fCB dAll (fCons (fLc (fIter (fVar 4)) (gN 5) fYes (fCall fn_is_rule (fCons (fVar 1) (fCons (fVar 5) fNil))) [5]) fNil)))))) (fsRet (fC (.bl false))) fsSkip) (fsRet (fOp dEq (fLenSet (fVar 4)) (fCB dLen (fCons (fVar 4) fNil))))))))
def fn_is_talk : List D → Res D := fnF 1 6 fs_is_talk
def fs_need_talk : FS := (fsIf (fNot (fTest (fCall fn_is_talk (fCons (fVar 0) fNil)))) (fsRaise "BadTalk") fsSkip)
def fn_need_talk : List D → Res D := fnF 1 1 fs_need_talk
def fs_is_good_standing : FS := (fsRet (fCall fn_are_counts (fCons (fVar 1) (fCons (fCB dLen (fCons (fOp dIx (fVar 0) (fC (.int 0))) fNil)) (fCons (fC (.int 9999)) fNil)))))
def fn_is_good_standing : List D → Res D := fnF 2 2 fs_is_good_standing
def fs_is_standing : FS := (fsSeq (fsExpr (fCall fn_need_talk (fCons (fVar 0) fNil))) (fsRet (fCall fn_is_good_standing (fCons (fVar 0) (fCons (fVar 1) fNil)))))
def fn_is_standing : List D → Res D := fnF 2 2 fs_is_standing
def fs_need_standing : FS := (fsIf (fNot (fTest (fCall fn_is_good_standing (fCons (fVar 0) (fCons (fVar 1) fNil))))) (fsRaise "BadStanding") fsSkip)
def fn_need_standing : List D → Res D := fnF 2 2 fs_need_standing
def fs_begun : FS := (fsSeq (fsSet 2 (fTIx (fOp dIx (fVar 0) (fC (.int 0))) (fOp dIx (fVar 0) (fC (.int 1))))) (fsRet (fOp dAdd (fOp dAdd (fCut (fOp dIx (fVar 0) (fC (.int 2))) fNo (fPart (fVar 2))) (fTup (fCons (fOp dAdd (fOp dIx (fOp dIx (fVar 0) (fC (.int 2))) (fVar 2)) (fVar 1)) fNil))) (fCut (fOp dIx (fVar 0) (fC (.int 2))) (fPart (fOp dAdd (fVar 2) (fC (.int 1)))) fNo))))
def fn_begun : List D → Res D := fnF 2 3 fs_begun
def fs_start : FS := (fsSeq (fsExpr (fCall fn_need_talk (fCons (fVar 0) fNil))) (fsSeq (fsIf (fNot (fTest (fCall fn_is_whole (fCons (fVar 1) (fCons (fC (.int 0)) (fCons (fC (.int 60)) fNil)))))) (fsRaise "BadNumber") fsSkip) (fsRet (fCall fn_begun (fCons (fVar 0) (fCons (fVar 1) fNil))))))
def fn_start : List D → Res D := fnF 2 2 fs_start
def fs_size_of : FS := (fsSeq (fsExpr (fCall fn_need_talk (fCons (fVar 0) fNil))) (fsSeq (fsExpr (fCall fn_need_standing (fCons (fVar 0) (fCons (fVar 1) fNil)))) (fsRet (fCB dSumX (fCons (fVar 1) fNil)))))
def fn_size_of : List D → Res D := fnF 2 2 fs_size_of
def fs_is_over : FS := (fsRet (fCB dAll (fCons (fLc (fItA dZip (fCons (fVar 0) (fCons (fVar 1) fNil))) (gT 2 (gsCons (gN 2) (gsCons (gN 3) gsNil))) fYes (fOp dGe (fVar 2) (fVar 3)) [2, 3]) fNil)))
def fn_is_over : List D → Res D := fnF 2 4 fs_is_over
def fs_is_table : FS := (fsSeq (fsIf (fOr (fNot (fTest (fIsi .dict (fVar 1)))) (fOr (fTest (fOp dNe (fCB dLenX (fCons (fVar 1) fNil)) (fCB dLen (fCons (fOp dIx (fVar 0) (fC (.int 0))) fNil)))) (fNot (fTest (fCB dAll (fCons (fLc (fIter (fOp dIx (fVar 0) (fC (.int 0)))) (gN 2) fYes (fOp dInX (fVar 2) (fVar 1)) [2]) fNil)))))) (fsRet (fC (.bl false))) fsSkip) (fsRet (fCB dAll (fCons (fLc (fIterK (fVar 1)) (gN 2) fYes (fCall fn_is_word (fCons (fOp dIxX (fVar 1) (fVar 2)) fNil)) [2]) fNil))))
def fn_is_table : List D → Res D := fnF 2 3 fs_is_table
def fs_least_of : FS := (fsSeq (fsParOV 1 2 (fLst fNil) (fSortSetR (fVar 0))) (fsSeq (fsFor (fIter (fSortK (fVar 2))) (sgN 3) (fsIf (fNot (fTest (fCB dAny (fCons (fLc (fIter (fVar 1)) (gN 4) fYes (fCall fn_is_over (fCons (fVar 3) (fCons (fVar 4) fNil))) [4]) fNil)))) (fsApp 1 (fVar 3)) fsSkip)) (fsRet (fSortR (fVar 1)))))
def fn_least_of : List D → Res D := fnF 1 5 fs_least_of
def fsO_least_of : FS := (fsSeq (fsParOV 1 2 (fLst fNil) (fSortSetR (fVar 0))) (fsSeq (fsFor (fIter (fSortK (fVar 2))) (sgN 3) (fsIf (fNot (fTest (fCB dAny (fCons (fLc (fIter (fVar 1)) (gN 4) fYes (fCall fn_is_over (fCons (fVar 3) (fCons (fVar 4) fNil))) [4]) fNil)))) (fsApp 1 (fVar 3)) fsSkip)) fsSkip))
def fnO_least_of : List D → Res D := fnO 1 5 fsO_least_of (fSortR (fVar 1))
def fs_is_over_one : FS := (fsRet (fCB dAny (fCons (fLc (fIter (fVar 1)) (gN 2) fYes (fCall fn_is_over (fCons (fVar 0) (fCons (fVar 2) fNil))) [2]) fNil)))
def fn_is_over_one : List D → Res D := fnF 2 3 fs_is_over_one
def fs_vector : FS := (fsRet (fCB dTuple (fCons (fLc (fIter (fOp dIx (fVar 0) (fC (.int 0)))) (gN 2) fYes (fCount (fVar 1) (fVar 2)) [2]) fNil)))
def fn_vector : List D → Res D := fnF 2 3 fs_vector
def fs_needed : FS := (fsRet (fCall fn_vector (fCons (fVar 0) (fCons (fIf (fTest (fOp dEq (fOp dIx (fVar 1) (fC (.int 0))) (fC (.str "meet")))) (fCB dList (fCons (fCut (fVar 1) (fPart (fC (.int 1))) (fPart (fC (.int 3)))) fNil)) (fLst (fCons (fOp dIx (fVar 1) (fC (.int 1))) fNil))) fNil))))
def fn_needed : List D → Res D := fnF 2 2 fs_needed
def fs_granted : FS := (fsRet (fCall fn_vector (fCons (fVar 0) (fCons (fIf (fTest (fOp dEq (fOp dIx (fVar 1) (fC (.int 0))) (fC (.str "meet")))) (fCB dList (fCons (fCut (fVar 1) (fPart (fC (.int 3))) (fPart (fC (.int 5)))) fNil)) (fLst (fCons (fOp dIx (fVar 1) (fC (.int 2))) fNil))) fNil))))
def fn_granted : List D → Res D := fnF 2 2 fs_granted
def fs_can : FS := (fsRet (fCB dAll (fCons (fLc (fItA dZip (fCons (fVar 1) (fCons (fCall fn_needed (fCons (fVar 0) (fCons (fVar 2) fNil))) fNil))) (gT 2 (gsCons (gN 3) (gsCons (gN 4) gsNil))) fYes (fOp dGe (fVar 3) (fVar 4)) [3, 4]) fNil)))
def fn_can : List D → Res D := fnF 3 5 fs_can
def fs_need_number : FS := (fsIf (fNot (fTest (fCall fn_is_whole (fCons (fVar 1) (fCons (fC (.int 0)) (fCons (fOp dSub (fCB dLen (fCons (fOp dIx (fVar 0) (fC (.int 3))) fNil)) (fC (.int 1))) fNil)))))) (fsRaise "BadNumber") fsSkip)
def fn_need_number : List D → Res D := fnF 2 2 fs_need_number
def fs_behind : FS := (fsSeq (fsExpr (fCall fn_need_talk (fCons (fVar 0) fNil))) (fsSeq (fsExpr (fCall fn_need_standing (fCons (fVar 0) (fCons (fVar 1) fNil)))) (fsSeq (fsExpr (fCall fn_need_number (fCons (fVar 0) (fCons (fVar 2) fNil)))) (fsSeq (fsIf (fNot (fTest (fCall fn_can (fCons (fVar 0) (fCons (fVar 1) (fCons (fOp dIx (fOp dIx (fVar 0) (fC (.int 3))) (fVar 2)) fNil)))))) (fsRaise "Nothing") fsSkip) fsNever))))
def fn_behind : List D → Res D := fnF 3 3 fs_behind
def fs_steps_from : FS := (fsSeq (fsSet 2 (fLc (fItA dEnum (fCons (fOp dIx (fVar 0) (fC (.int 3))) fNil)) (gT 2 (gsCons (gN 3) (gsCons (gN 4) gsNil))) (fTest (fCall fn_can (fCons (fVar 0) (fCons (fVar 1) (fCons (fVar 4) fNil))))) (fTup (fCons (fVar 3) (fCons (fVar 4) fNil))) [3, 4])) fsNever)
def fn_steps_from : List D → Res D := fnF 2 5 fs_steps_from
def fs_is_start : FS := (fsSeq (fsSet 2 (fTIx (fOp dIx (fVar 0) (fC (.int 0))) (fOp dIx (fVar 0) (fC (.int 1))))) (fsSeq (fsSet 3 (fOp dSub (fOp dIx (fVar 1) (fVar 2)) (fOp dIx (fOp dIx (fVar 0) (fC (.int 2))) (fVar 2)))) (fsRet (fAndV (fOp dGe (fVar 3) (fC (.int 0))) (fOp dEq (fCall fn_begun (fCons (fVar 0) (fCons (fVar 3) fNil))) (fVar 1))))))
def fn_is_start : List D → Res D := fnF 2 4 fs_is_start
def fs_need_rows : FS := (fsIf (fOr (fNot (fTest (fIsi .list (fVar 1)))) (fOr (fTest (fOp dEq (fVar 1) (fLst fNil))) (fNot (fTest (fCB dAll (fCons (fLc (fIter (fVar 1)) (gN 2) fYes (fCall fn_is_good_standing (fCons (fVar 0) (fCons (fVar 2) fNil))) [2]) fNil)))))) (fsRaise "BadRun") fsSkip)
def fn_need_rows : List D → Res D := fnF 2 3 fs_need_rows
def fs_fault_of : FS := (fsSeq (fsIf (fNot (fTest (fCall fn_is_start (fCons (fVar 0) (fCons (fOp dIx (fVar 1) (fC (.int 0))) fNil))))) (fsRet (fC (.int 0))) fsSkip) (fsSeq (fsFor (fItA dRange2 (fCons (fC (.int 1)) (fCons (fCB dLen (fCons (fVar 1) fNil)) fNil))) (sgN 2) (fsIf (fTest (fOp dNotIn (fOp dIx (fVar 1) (fVar 2)) (fLc (fIter (fCall fn_steps_from (fCons (fVar 0) (fCons (fOp dIx (fVar 1) (fOp dSub (fVar 2) (fC (.int 1)))) fNil)))) (gT 2 (gsCons (gN 3) (gsCons (gN 4) gsNil))) fYes (fVar 4) [3, 4]))) (fsRet (fVar 2)) fsSkip)) (fsRet (fC .non))))
def fn_fault_of : List D → Res D := fnF 2 5 fs_fault_of
def fs_rules_of : FS := (fsSeq (fsExpr (fCall fn_need_talk (fCons (fVar 0) fNil))) (fsSeq (fsExpr (fCall fn_need_rows (fCons (fVar 0) (fCons (fVar 1) fNil)))) (fsSeq (fsIf (fTest (fOp dIsNot (fCall fn_fault_of (fCons (fVar 0) (fCons (fVar 1) fNil))) (fC .non))) (fsRaise "BadRun") fsSkip) (fsSeq (fsSetO 2 (fLst fNil)) (fsSeq (fsFor (fItA dZip (fCons (fVar 1) (fCons (fCut (fVar 1) (fPart (fC (.int 1))) fNo) fNil))) (sgT 2 (sgsCons (sgN 3) (sgsCons (sgN 4) sgsNil))) (fsApp 2 (fOp dIx (fLc (fIter (fCall fn_steps_from (fCons (fVar 0) (fCons (fVar 3) fNil)))) (gT 2 (gsCons (gN 5) (gsCons (gN 6) gsNil))) (fTest (fOp dEq (fVar 6) (fVar 4))) (fVar 5) [5, 6]) (fC (.int 0))))) (fsRet (fVar 2)))))))
def fn_rules_of : List D → Res D := fnF 2 7 fs_rules_of
def fs_need_targets : FS := (fsSeq (fsIf (fOr (fNot (fTest (fIsi .list (fVar 1)))) (fNot (fTest (fChain dLe dLe (fC (.int 1)) (fCB dLen (fCons (fVar 1) fNil)) (fC (.int 8)))))) (fsRaise "BadTargets") fsSkip) (fsIf (fNot (fTest (fCB dAll (fCons (fLc (fIter (fVar 1)) (gN 2) fYes (fCall fn_are_counts (fCons (fVar 2) (fCons (fCB dLen (fCons (fOp dIx (fVar 0) (fC (.int 0))) fNil)) (fCons (fC (.int 9)) fNil)))) [2]) fNil)))) (fsRaise "BadTargets") fsSkip))
def fn_need_targets : List D → Res D := fnF 2 3 fs_need_targets
def fs_added : FS := (fsRet (fCB dTuple (fCons (fLc (fItA dZip (fCons (fVar 0) (fCons (fVar 1) fNil))) (gT 2 (gsCons (gN 2) (gsCons (gN 3) gsNil))) fYes (fOp dAdd (fVar 2) (fVar 3)) [2, 3]) fNil)))
def fn_added : List D → Res D := fnF 2 4 fs_added
def fs_lacking : FS := (fsRet (fCB dTuple (fCons (fLc (fItA dZip (fCons (fVar 0) (fCons (fVar 1) fNil))) (gT 2 (gsCons (gN 2) (gsCons (gN 3) gsNil))) fYes (fCB dMax2 (fCons (fC (.int 0)) (fCons (fOp dSub (fVar 2) (fVar 3)) fNil))) [2, 3]) fNil)))
def fn_lacking : List D → Res D := fnF 2 4 fs_lacking
def fs_parted (fr : List D → Res D) : FS := (fsSeq (fsIf (fTest (fOp dEq (fCB dLen (fCons (fVar 1) fNil)) (fC (.int 1)))) (fsRet (fLst (fCons (fCB dTuple (fCons (fLc (fItA dRange1 (fCons (fVar 2) fNil)) (gN 6) fYes (fIf (fTest (fOp dEq (fVar 6) (fOp dIx (fVar 1) (fC (.int 0))))) (fVar 0) (fC (.int 0))) [6]) fNil)) fNil))) fsSkip) (fsSeq (fsSet 3 (fLst fNil)) (fsSeq (fsFor (fItA dRange1 (fCons (fOp dAdd (fVar 0) (fC (.int 1))) fNil)) (sgN 4) (fsSeq (fsSet 5 (fCB dTuple (fCons (fLc (fItA dRange1 (fCons (fVar 2) fNil)) (gN 6) fYes (fIf (fTest (fOp dEq (fVar 6) (fOp dIx (fVar 1) (fC (.int 0))))) (fVar 4) (fC (.int 0))) [6]) fNil))) (fsSet 3 (fOp dAdd (fVar 3) (fLc (fIter (fCall fr (fCons (fOp dSub (fVar 0) (fVar 4)) (fCons (fCut (fVar 1) (fPart (fC (.int 1))) fNo) (fCons (fVar 2) fNil))))) (gN 7) fYes (fCall fn_added (fCons (fVar 5) (fCons (fVar 7) fNil))) [7]))))) (fsRet (fVar 3)))))
def fn_parted : List D → Res D := recF 3 8 fs_parted 5
def fs_others_before : FS := (fsSeq (fsSet 3 (fLst (fCons (fOp dMulX (fTup (fCons (fC (.int 0)) fNil)) (fCB dLen (fCons (fVar 2) fNil))) fNil))) (fsSeq (fsFor (fItA dZip (fCons (fOp dIx (fVar 0) (fC (.int 0))) (fCons (fVar 2) fNil))) (sgT 2 (sgsCons (sgN 4) (sgsCons (sgN 5) sgsNil))) (fsSeq (fsSet 6 (fLc (fItA dEnum (fCons (fOp dIx (fVar 1) (fC (.int 3))) fNil)) (gT 2 (gsCons (gN 7) (gsCons (gN 8) gsNil))) (fTest (fOp dEq (fVar 8) (fVar 4))) (fVar 7) [7, 8])) (fsSeq (fsIf (fAnd (fTest (fOp dGt (fVar 5) (fC (.int 0)))) (fTest (fOp dEq (fVar 6) (fLst fNil)))) (fsRet (fLst fNil)) fsSkip) (fsIf (fTest (fOp dGt (fVar 5) (fC (.int 0)))) (fsSet 3 (fLc2 (fIter (fVar 3)) (gN 9) fYes (fIter (fCall fn_parted (fCons (fVar 5) (fCons (fVar 6) (fCons (fCB dLen (fCons (fVar 2) fNil)) fNil))))) (gN 10) fYes (fCall fn_added (fCons (fVar 9) (fCons (fVar 10) fNil))) [9, 10] [10])) fsSkip)))) (fsRet (fVar 3))))
def fn_others_before : List D → Res D := fnF 3 11 fs_others_before
def fs_before_of : FS := (fsSeq (fsSet 3 (fCall fn_lacking (fCons (fVar 2) (fCons (fCall fn_granted (fCons (fVar 0) (fCons (fVar 1) fNil))) fNil)))) (fsSeq (fsSet 4 (fIf (fTest (fOp dEq (fOp dIx (fVar 1) (fC (.int 0))) (fC (.str "call")))) (fCall fn_others_before (fCons (fVar 0) (fCons (fVar 1) (fCons (fVar 3) fNil)))) (fLst (fCons (fVar 3) fNil)))) (fsRet (fCall fn_least_of (fCons (fLc (fIter (fVar 4)) (gN 5) fYes (fCall fn_added (fCons (fVar 5) (fCons (fCall fn_needed (fCons (fVar 0) (fCons (fVar 1) fNil))) fNil))) [5]) fNil)))))
def fn_before_of : List D → Res D := fnF 3 6 fs_before_of
def fs_before_all : FS := (fsSeq (fsSet 2 (fLst fNil)) (fsSeq (fsFor (fIter (fOp dIx (fVar 0) (fC (.int 3)))) (sgN 3) (fsSet 2 (fOp dAdd (fVar 2) (fCall fn_before_of (fCons (fVar 0) (fCons (fVar 3) (fCons (fVar 1) fNil))))))) (fsRet (fVar 2))))
def fn_before_all : List D → Res D := fnF 2 4 fs_before_all
def fs_basis_of : FS := (fsSeq (fsParVO 2 3 (fCall fn_least_of (fCons (fVar 1) fNil)) (fCall fnO_least_of (fCons (fVar 1) fNil))) (fsSeq (fsWhile 10000 (fTest (fOp dNe (fVar 3) (fLst fNil))) (fsSeq (fsPop0 4 3) (fsIf (fTest (fOp dIn (fVar 4) (fVar 2))) (fsFor (fIter (fCall fn_before_all (fCons (fVar 0) (fCons (fVar 4) fNil)))) (sgN 5) (fsIf (fNot (fTest (fCall fn_is_over_one (fCons (fVar 5) (fCons (fVar 2) fNil))))) (fsSeq (fsSet 2 (fOp dAdd (fLc (fIter (fVar 2)) (gN 6) (fNot (fTest (fCall fn_is_over (fCons (fVar 6) (fCons (fVar 5) fNil))))) (fVar 6) [6]) (fLst (fCons (fVar 5) fNil)))) (fsApp 3 (fVar 5))) fsSkip)) fsSkip))) (fsRet (fSortR (fVar 2)))))
def fn_basis_of : List D → Res D := fnF 2 7 fs_basis_of
def fs_basis : FS := (fsSeq (fsExpr (fCall fn_need_talk (fCons (fVar 0) fNil))) (fsSeq (fsExpr (fCall fn_need_targets (fCons (fVar 0) (fCons (fVar 1) fNil)))) (fsRet (fCall fn_basis_of (fCons (fVar 0) (fCons (fVar 1) fNil))))))
def fn_basis : List D → Res D := fnF 2 2 fs_basis
def fs_size_for : FS := (fsSeq (fsSet 2 (fTIx (fOp dIx (fVar 0) (fC (.int 0))) (fOp dIx (fVar 0) (fC (.int 1))))) (fsSeq (fsIf (fTest (fCB dAny (fCons (fLc (fItA dEnumZ (fCons (fVar 1) (fCons (fOp dIx (fVar 0) (fC (.int 2))) fNil))) (gT 2 (gsCons (gN 3) (gsCons (gT 2 (gsCons (gN 4) (gsCons (gN 5) gsNil))) gsNil))) (fTest (fOp dNe (fVar 3) (fVar 2))) (fOp dGt (fVar 4) (fVar 5)) [3, 4, 5]) fNil))) (fsRet (fC .non)) fsSkip) (fsRet (fCB dMax2 (fCons (fC (.int 0)) (fCons (fOp dSub (fOp dIx (fVar 1) (fVar 2)) (fOp dIx (fOp dIx (fVar 0) (fC (.int 2))) (fVar 2))) fNil))))))
def fn_size_for : List D → Res D := fnF 2 6 fs_size_for
def fs_least_of_sizes : FS := (fsSeq (fsSet 2 (fLc (fIter (fCall fn_basis_of (fCons (fVar 0) (fCons (fVar 1) fNil)))) (gN 3) fYes (fCall fn_size_for (fCons (fVar 0) (fCons (fVar 3) fNil))) [3])) (fsRet (fMinD (fLc (fIter (fVar 2)) (gN 4) (fTest (fOp dIsNot (fVar 4) (fC .non))) (fVar 4) [4]))))
def fn_least_of_sizes : List D → Res D := fnF 2 5 fs_least_of_sizes
def fs_bad_run : FS := (fsSeq (fsExpr (fCall fn_need_talk (fCons (fVar 0) fNil))) (fsSeq (fsExpr (fCall fn_need_targets (fCons (fVar 0) (fCons (fVar 1) fNil)))) (fsSeq (fsSet 2 (fCall fn_least_of_sizes (fCons (fVar 0) (fCons (fVar 1) fNil)))) (fsSeq (fsIf (fTest (fOp dIs (fVar 2) (fC .non))) (fsRet (fC .non)) fsSkip) (fsSeq (fsIf (fTest (fOp dGt (fVar 2) (fC (.int 12)))) (fsRaise "Full") fsSkip) (fsSeq (fsSetO 3 (fLst (fCons (fCall fn_begun (fCons (fVar 0) (fCons (fVar 2) fNil))) fNil))) (fsSeq fsNever (fsSeq fsNever (fsRet (fVar 3))))))))))
def fn_bad_run : List D → Res D := fnF 2 5 fs_bad_run
def fs_answer : FS := (fsSeq (fsSet 2 (fCall fn_basis_of (fCons (fVar 0) (fCons (fVar 1) fNil)))) (fsSeq (fsSet 3 (fLc (fIter (fVar 2)) (gN 5) fYes (fCall fn_size_for (fCons (fVar 0) (fCons (fVar 5) fNil))) [5])) (fsSeq (fsSet 4 (fMinD (fLc (fIter (fVar 3)) (gN 6) (fTest (fOp dIsNot (fVar 6) (fC .non))) (fVar 6) [6]))) (fsRet (fIf (fTest (fOp dIs (fVar 4) (fC .non))) (fTup (fCons (fC (.bl true)) (fCons (fVar 2) fNil))) (fTup (fCons (fC (.bl false)) (fCons (fVar 4) fNil))))))))
def fn_answer : List D → Res D := fnF 2 7 fs_answer
def fs_House_need : FS := (fsSeq (fsIf (fNot (fTest (fCall fn_is_word (fCons (fVar 1) fNil)))) (fsRaise "BadName") fsSkip) (fsIf (fTest (fOp dNotInX (fVar 1) (fFld (dTable cH) (fVar 0)))) (fsRaise "NoName") fsSkip))
def fn_House_need : List D → Res D := fnF 2 2 fs_House_need
def fs_House_promise : FS := (fsSeq (fsIf (fNot (fTest (fCall fn_is_word (fCons (fVar 1) fNil)))) (fsRaise "BadName") fsSkip) (fsSeq (fsIf (fTest (fOp dInX (fVar 1) (fFld (dTable cH) (fVar 0)))) (fsRaise "Taken") fsSkip) (fsSeq (fsExpr (fCall fn_need_targets (fCons (fFld (dKept cH) (fVar 0)) (fCons (fVar 2) fNil)))) (fsSeq (fsSet 3 (fCall fn_answer (fCons (fFld (dKept cH) (fVar 0)) (fCons (fVar 2) fNil)))) (fsSeq fsNever (fsSeq fsNever (fsSeq fsNever (fsRet (fOp dIx (fVar 3) (fC (.int 0)))))))))))
def fn_House_promise : List D → Res D := fnF 3 4 fs_House_promise
def fs_House_forget : FS := (fsSeq (fsExpr (fMeth cH fn_House_need (fVar 0) (fCons (fVar 1) fNil))) (fsSeq fsNever (fsSeq fsNever fsNever)))
def fn_House_forget : List D → Res D := fnF 2 2 fs_House_forget
def fs_House_add : FS := (fsSeq (fsSet 2 (fOp dIx (fFld (dKept cH) (fVar 0)) (fC (.int 3)))) (fsSeq (fsIf (fOr (fNot (fTest (fCall fn_is_rule (fCons (fOp dIx (fFld (dKept cH) (fVar 0)) (fC (.int 0))) (fCons (fVar 1) fNil))))) (fOr (fTest (fOp dIn (fVar 1) (fVar 2))) (fTest (fOp dEq (fCB dLen (fCons (fVar 2) fNil)) (fC (.int 12)))))) (fsRaise "BadRule") fsSkip) fsNever))
def fn_House_add : List D → Res D := fnF 2 3 fs_House_add
def fs_House_state_of : FS := (fsSeq (fsExpr (fMeth cH fn_House_need (fVar 0) (fCons (fVar 1) fNil))) (fsSeq (fsAsg (sgT 2 (sgsCons (sgN 2) (sgsCons (sgN 3) sgsNil))) (fOp dIxX (fFld (dKnown cH) (fVar 0)) (fVar 1))) (fsRet (fTup (fCons (fVar 2) (fCons (fIf (fTest (fVar 2)) (fCB dList (fCons (fVar 3) fNil)) (fVar 3)) fNil))))))
def fn_House_state_of : List D → Res D := fnF 2 4 fs_House_state_of
def fs_words_of : FS := (fsRet (fCB dTuple (fCons (fSortSet (fLc (fIter (fOp dIx (fVar 0) (fC (.int 0)))) (gN 2) fYes (fOp dIxX (fVar 1) (fVar 2)) [2])) fNil)))
def fn_words_of : List D → Res D := fnF 2 3 fs_words_of
def fs_need_table : FS := (fsSeq (fsIf (fOr (fNot (fTest (fCall fn_is_table (fCons (fVar 0) (fCons (fVar 1) fNil))))) (fTest (fOp dLt (fCB dLen (fCons (fCall fn_words_of (fCons (fVar 0) (fCons (fVar 1) fNil))) fNil)) (fC (.int 2))))) (fsRaise "BadTable") fsSkip) (fsSeq fsNever fsNever))
def fn_need_table : List D → Res D := fnF 2 3 fs_need_table
def fs_coarser : FS := (fsSeq (fsExpr (fCall fn_need_talk (fCons (fVar 0) fNil))) (fsSeq (fsExpr (fCall fn_need_table (fCons (fVar 0) (fCons (fVar 1) fNil)))) fsNever))
def fn_coarser : List D → Res D := fnF 2 2 fs_coarser
def fs_is_form : FS := (fsRet (fAndV (fIsi .list (fVar 1)) (fCB dAll (fCons (fLc (fIter (fVar 1)) (gN 2) fYes (fCall fn_is_good_standing (fCons (fVar 0) (fCons (fVar 2) fNil))) [2]) fNil))))
def fn_is_form : List D → Res D := fnF 2 3 fs_is_form
def fs_need_paper : FS := (fsIf (fNot (fTest (fCall fn_is_form (fCons (fVar 0) (fCons (fVar 1) fNil))))) (fsRaise "BadPaper") fsSkip)
def fn_need_paper : List D → Res D := fnF 2 2 fs_need_paper
def fs_breaks : FS := (fsSeq (fsExpr (fCall fn_need_talk (fCons (fVar 0) fNil))) (fsSeq (fsExpr (fCall fn_need_targets (fCons (fVar 0) (fCons (fVar 1) fNil)))) (fsSeq (fsExpr (fCall fn_need_paper (fCons (fVar 0) (fCons (fVar 2) fNil)))) fsNever)))
def fn_breaks : List D → Res D := fnF 3 3 fs_breaks
def fs_number_in : FS := (fsSeq (fsIf (fOr (fNot (fTest (fChain dLe dLe (fC (.int 1)) (fCB dLen (fCons (fVar 0) fNil)) (fC (.int 4))))) (fOr (fNot (fTest (fCB dAll (fCons (fLc (fIter (fVar 0)) (gN 1) fYes (fOp dIn (fVar 1) (fC (.str "0123456789"))) [1]) fNil)))) (fTest (fOp dNe (fCB dStr (fCons (fCB dIntX (fCons (fVar 0) fNil)) fNil)) (fVar 0))))) (fsRet (fC .non)) fsSkip) (fsRet (fCB dIntX (fCons (fVar 0) fNil))))
def fn_number_in : List D → Res D := fnF 1 2 fs_number_in
def fs_read_standing : FS := (fsSeq (fsExpr (fCall fn_need_talk (fCons (fVar 0) fNil))) (fsSeq (fsIf (fNot (fTest (fIsi .str (fVar 1)))) (fsRaise "BadText") fsSkip) (fsSeq (fsSetOD 2 (fDc (fIter (fOp dIx (fVar 0) (fC (.int 0)))) (gN 6) fYes (fVar 6) (fC (.int 0)) [6])) (fsSeq (fsFor (fIter (fIf (fTest (fOp dNe (fVar 1) (fC (.str "0")))) (fM1 dSplit (fVar 1) (fC (.str " + "))) (fLst fNil))) (sgN 3) (fsSeq (fsSet 4 (fM1 dSplit (fVar 3) (fC (.str " ")))) (fsSeq (fsIf (fOr (fTest (fOp dNe (fCB dLen (fCons (fVar 4) fNil)) (fC (.int 2)))) (fOr (fTest (fOp dNotInX (fOp dIx (fVar 4) (fC (.int 1))) (fVar 2))) (fTest (fOp dIs (fCall fn_number_in (fCons (fOp dIx (fVar 4) (fC (.int 0))) fNil)) (fC .non))))) (fsRaise "BadText") fsSkip) (fsPut 2 (fOp dIx (fVar 4) (fC (.int 1))) (fCall fn_number_in (fCons (fOp dIx (fVar 4) (fC (.int 0))) fNil)))))) (fsSeq (fsSetH 5 (fCB dTuple (fCons (fLc (fIter (fOp dIx (fVar 0) (fC (.int 0)))) (gN 6) fYes (fOp dIxX (fVar 2) (fVar 6)) [6]) fNil))) (fsSeq fsNever (fsRet (fVar 5))))))))
def fn_read_standing : List D → Res D := fnF 2 7 fs_read_standing
def fs_are_weights : FS := (fsSeq (fsIf (fOr (fNot (fTest (fIsi .tuple (fVar 1)))) (fTest (fOp dNe (fCB dLen (fCons (fVar 1) fNil)) (fCB dLen (fCons (fOp dIx (fVar 0) (fC (.int 0))) fNil))))) (fsRet (fC (.bl false))) fsSkip) (fsRet (fCB dAll (fCons (fLc (fIter (fVar 1)) (gN 2) fYes (fAndV (fIsi .int (fVar 2)) (fNotV (fIsi .bool (fVar 2)))) [2]) fNil))))
def fn_are_weights : List D → Res D := fnF 2 3 fs_are_weights
def fs_need_weights : FS := (fsIf (fNot (fTest (fCall fn_are_weights (fCons (fVar 0) (fCons (fVar 1) fNil))))) (fsRaise "BadWeights") fsSkip)
def fn_need_weights : List D → Res D := fnF 2 2 fs_need_weights
def fs_is_kept : FS := (fsSeq (fsExpr (fCall fn_need_talk (fCons (fVar 0) fNil))) (fsSeq (fsExpr (fCall fn_need_weights (fCons (fVar 0) (fCons (fVar 1) fNil)))) fsNever))
def fn_is_kept : List D → Res D := fnF 2 2 fs_is_kept
def fs_Lalone : FS := (fsSeq (fsSet 2 (fLst (fCons (fIsE csL "BadTalk" (fVar 0)) (fCons (fIsE csL "BadStanding" (fVar 0)) (fCons (fIsE csL "BadNumber" (fVar 0)) fNil))))) (fsSeq (fsSet 2 (fOp dAdd (fVar 2) (fLst (fCons (fIsE csL "BadTargets" (fVar 0)) fNil)))) (fsSeq (fsSet 2 (fOp dAdd (fVar 2) (fLst (fCons (fIsE csL "BadPaper" (fVar 0)) (fCons (fIsE csL "BadWeights" (fVar 0)) (fCons (fIsE csL "BadTable" (fVar 0)) fNil)))))) (fsSeq (fsSet 2 (fOp dAdd (fVar 2) (fLst (fCons (fIsE csL "BadRun" (fVar 0)) fNil)))) (fsSeq (fsSet 2 (fOp dAdd (fVar 2) (fLst (fCons (fIsE csL "BadRule" (fVar 0)) (fCons (fIsE csL "BadName" (fVar 0)) (fCons (fIsE csL "Taken" (fVar 0)) fNil)))))) (fsSeq (fsSet 2 (fOp dAdd (fVar 2) (fLst (fCons (fIsE csL "NoName" (fVar 0)) fNil)))) (fsSeq (fsSet 2 (fOp dAdd (fVar 2) (fLst (fCons (fIsE csL "Nothing" (fVar 0)) (fCons (fIsE csL "Full" (fVar 0)) (fCons (fIsE csL "BadText" (fVar 0)) fNil)))))) (fsRet (fAndV (fIsVE csL (fVar 0)) (fOp dEq (fVar 2) (fLc (fItA dRange1 (fCons (fC (.int 15)) fNil)) (gN 3) fYes (fOp dEq (fVar 3) (fVar 1)) [3])))))))))))
def fn_Lalone : List D → Res D := fnF 2 4 fs_Lalone
def ft_House : FT := (fNot (fTest (fCall fn_is_talk (fCons (fVar 1) fNil))))
def f1_House : FT := (fNot (fTest (fCall fn_is_word (fCons (fVar 1) fNil))))
def fs_rest : FS := (fsSeq (fsHouse 4 3 2 cH "ann" ft_House f1_House fn_need_targets fn_answer) (fsSeq (fsSet 5 (fTup (fCons (fTup (fCons (fC (.str "a")) (fCons (fC (.str "b")) (fCons (fC (.str "c")) fNil)))) (fCons (fC (.str "a")) (fCons (fTup (fCons (fC (.int 0)) (fCons (fC (.int 0)) (fCons (fC (.int 0)) fNil)))) (fCons (fTup (fCons (fTup (fCons (fC (.str "meet")) (fCons (fC (.str "a")) (fCons (fC (.str "a")) (fCons (fC (.str "b")) (fCons (fC (.str "b")) fNil)))))) (fCons (fTup (fCons (fC (.str "meet")) (fCons (fC (.str "b")) (fCons (fC (.str "b")) (fCons (fC (.str "c")) (fCons (fC (.str "c")) fNil)))))) fNil))) fNil)))))) (fsSeq (fsSetO 6 (fLst (fCons (fMet csL (fCall fn_is_standing (fCons (fTup (fCons (fOp dMulP (fTup (fCons (fC (.str "a")) fNil)) (fVar 2)) fNil)) (fCons (fC .non) fNil)))) fNil))) (fsSeq (fsApp 6 (fMet csL (fCall fn_size_of (fCons (fVar 3) (fCons (fTup (fCons (fVar 2) fNil)) fNil))))) (fsSeq (fsApp 6 (fMet csL (fCall fn_start (fCons (fVar 3) (fCons (fOp dAdd (fC (.int 60)) (fVar 2)) fNil))))) (fsSeq (fsApp 6 (fMet csL (fCall fn_basis (fCons (fVar 3) (fCons (fLst (fCons (fTup (fCons (fOp dAdd (fC (.int 9)) (fVar 2)) (fCons (fC (.int 0)) fNil))) fNil)) fNil))))) (fsSeq (fsApp 6 (fMet csL (fCall fn_breaks (fCons (fVar 3) (fCons (fLst (fCons (fTup (fCons (fC (.int 0)) (fCons (fVar 2) fNil))) fNil)) (fCons (fLst (fCons (fOp dMulZ (fTup (fCons (fC (.int 0)) fNil)) (fOp dAdd (fC (.int 2)) (fVar 2))) fNil)) fNil)))))) (fsSeq (fsApp 6 (fMet csL (fCall fn_is_kept (fCons (fVar 3) (fCons (fTup (fCons (fVar 2) fNil)) fNil))))) (fsSeq (fsApp 6 (fMet csL (fCall fn_coarser (fCons (fVar 3) (fCons (fDisp [((fC (.str "a")), (fOp dMulZ (fC (.str "x")) (fCB dMin2 (fCons (fC (.int 8)) (fCons (fVar 2) fNil)))))]) fNil))))) (fsSeq (fsApp 6 (fMet csL (fCall fn_rules_of (fCons (fVar 3) (fCons (fLst (fCons (fTup (fCons (fC (.int 0)) (fCons (fVar 2) fNil))) fNil)) fNil))))) (fsSeq (fsApp 6 (fMet csL (fMeth cH fn_House_add (fVar 4) (fCons (fTup (fCons (fC (.str "alone")) (fCons (fC (.str "a")) (fCons (fOp dMulZ (fC (.str "b")) (fOp dAdd (fC (.int 1)) (fVar 2))) fNil)))) fNil)))) (fsSeq (fsApp 6 (fMet csL (fMeth cH fn_House_forget (fVar 4) (fCons (fOp dMulZ (fC (.str "A")) (fVar 2)) fNil)))) (fsSeq (fsApp 6 (fMet csL (fMeth cH fn_House_promise (fVar 4) (fCons (fC (.str "ann")) (fCons (fLst fNil) fNil))))) (fsSeq (fsApp 6 (fMet csL (fMeth cH fn_House_state_of (fVar 4) (fCons (fOp dMulZ (fC (.str "z")) (fCB dMin2 (fCons (fC (.int 8)) (fCons (fVar 2) fNil)))) fNil)))) (fsSeq (fsApp 6 (fMet csL (fCall fn_behind (fCons (fVar 3) (fCons (fTup (fCons (fC (.int 1)) (fCons (fVar 2) fNil))) (fCons (fC (.int 0)) fNil)))))) (fsSeq (fsApp 6 (fMet csL (fCall fn_bad_run (fCons (fVar 5) (fCons (fLst (fCons (fTup (fCons (fC (.int 0)) (fCons (fC (.int 9)) (fCons (fC (.int 9)) fNil)))) fNil)) fNil))))) (fsSeq (fsApp 6 (fMet csL (fCall fn_read_standing (fCons (fVar 3) (fCons (fOp dMulZ (fC (.str "0")) (fOp dAdd (fC (.int 1)) (fVar 2))) fNil))))) (fsIf (fNot (fTest (fCB dAll (fCons (fLc (fItA dEnum (fCons (fVar 6) fNil)) (gT 2 (gsCons (gN 7) (gsCons (gN 8) gsNil))) fYes (fCall fn_Lalone (fCons (fVar 8) (fCons (fVar 7) fNil))) [7, 8]) fNil)))) (fsRet (fC (.bl false))) fsSkip))))))))))))))))))
abbrev tk2 : D := .tup [.tup [.str "a", .str "b"], .str "a", .tup [.int 0, .int 0], .tup [.tup [.str "meet", .str "a", .str "a", .str "b", .str "b"]]]
abbrev tk3 : D := .tup [.tup [.str "a", .str "b", .str "c"], .str "a", .tup [.int 0, .int 0, .int 0], .tup [.tup [.str "meet", .str "a", .str "a", .str "b", .str "b"], .tup [.str "meet", .str "b", .str "b", .str "c", .str "c"]]]
theorem full : fn_bad_run [tk3, .lst [.tup [.int 0, .int 9, .int 9]]] = .exc "Full" := by kernel_rfl

end Lk31
/-! The data layer: plain data D, what stands for it in a region of the heap, and readings by functions over data. -/
namespace FW
open PySem PySem.Spec PyProof.Rows L2

theorem TupO.sqt {K : PySem.W.Frag} {H : Hp} {a : Addr} {xs : List V} {u : HO} (h : TupO xs u) (e : H a = some u) : SqT K H a xs := by
  rcases h with ⟨h, _⟩ | ⟨o, _, h⟩
  · rw [h] at e; exact SqT.of e
  · rw [h] at e; exact .inl (.inr ⟨o, e⟩)

section
variable {g : Gd} {I J : Hp}
theorem DRs.strA : ∀ {vs : List V} {ds : List D}, DRs g I vs ds → vs.all strV = ds.all strD
  | _, _, .nil => rfl
  | _, _, .cons r t => by rw [List.all_cons, List.all_cons, r.strV, DRs.strA t]
theorem DRs.refA : ∀ {vs : List V} {ds : List D}, DRs g I vs ds → vs.all FW.refV = ds.all refD
  | _, _, .nil => rfl
  | _, _, .cons r t => by rw [List.all_cons, List.all_cons, r.refV, DRs.refA t]
theorem DRs.strs {vs : List V} {ds : List D} (h : DRs g I vs ds) : strsV vs = strsD ds := by
  unfold strsV strsD
  rw [h.strA, h.refA]
  cases h <;> rfl
theorem DRs.app : ∀ {vs ws : List V} {ds es : List D}, DRs g I vs ds → DRs g I ws es → DRs g I (vs ++ ws) (ds ++ es)
  | _, _, _, _, .nil, h => h
  | _, _, _, _, .cons r t, h => .cons r (DRs.app t h)
end

/-! ### the ground, a step over it -/
section
variable {g : Gd} {I H I' H' I'' H'' : Hp}
/-- a new object, laid within the region -/
theorem Rl.put (r : Rl g I H) {p : Addr} {o : HO} (hp : H p = none) (ho : ∀ ps, o ≠ .tbl ps := by intro _ h; cases h) : Stp g I H (upd I p o) (upd H p o) := by
  have s := r.lay (o := o) hp
  have hI : I p = none := by
    cases e : I p with
    | none => rfl
    | some u => rw [r.sub p u e] at hp; cases hp
  have nz : p ≠ g.dz := fun e => by
    obtain ⟨x, y, q⟩ := r.dice
    rw [← e, hp] at q; cases q
  refine ⟨fun a u h => ?_, fun a u h => ?_, s.keep, s.rl.take upd_same hI nz ho⟩
  · rw [upd_ne (ne_of_none h hI)]; exact h
  · by_cases e : a = p
    · subst e; exact .inr (.inl (NT.of hp))
    · rw [upd_ne e] at h; exact .inl h
end

/-! ### results, environments -/
section
variable (g : Gd) (mg : Str → Option Value) (E : XK)
def tF (f : FE) : TE := fun σ H Q => ∃ I r, Rl g I H ∧ ER g I σ r ∧ Pst g mg E (DR g) I H (f r) Q
def tFA (f : FA) : TA := fun σ H Q => ∃ I r, Rl g I H ∧ ER g I σ r ∧ Pst g mg E (DRs g) I H (f r) Q
def tFT (f : FT) : TT := fun σ H Q => ∃ I r, Rl g I H ∧ ER g I σ r ∧ Pst g mg E (fun _ (v d : Bool) => v = d) I H (f r) Q
end
section
variable {g : Gd} {mg : Str → Option Value} {E : XK} {I H I' H' : Hp}
/-- the end of a result without a step -/
theorem Pst.here {α β : Type} {R : Hp → β → α → Prop} {d : α} {v : β} {Q : β → Hp → Prop} (r : Rl g I H) (h : Pst g mg E R I H (.ok d) Q) (x : R I v d) : Q v H := h v I H r.stp x
end
end FW
/-! Expressions by functions over data. -/
namespace FW
open PySem PySem.Spec PyProof.Rows L2

/-! ### data as the library's data -/
mutual
theorem D.lay_py : ∀ d : D, d.lay = true → d.py.canLay0 = true
  | .non, _ => by rw [D.py, PyData.canLay0]
  | .bl _, _ => by rw [D.py, PyData.canLay0]
  | .int _, _ => by rw [D.py, PyData.canLay0]
  | .str x, h => by
    rw [D.lay] at h
    rw [D.py, PyData.canLay0]; exact h
  | .tup ds, h => by
    rw [D.lay] at h
    rw [D.py, PyData.canLay0]; exact D.lays_py ds h
  | .lst ds, h => by
    rw [D.lay] at h
    rw [D.py, PyData.canLay0]; exact D.lays_py ds h
  | .dct _, h => by rw [D.lay] at h; cases h
  | .dice, h => by rw [D.lay] at h; cases h
  | .par _, h => by rw [D.lay] at h; cases h
  | .dtt _, h => by rw [D.lay] at h; cases h
  | .dtf _, h => by rw [D.lay] at h; cases h
  | .exn _, h => by rw [D.lay] at h; cases h
  | .hs _ _ _ _, h => by rw [D.lay] at h; cases h
theorem D.lays_py : ∀ ds : List D, D.lays ds = true → PyData.canLayAll0 (D.pys ds) = true
  | [], _ => by rw [D.pys, PyData.canLayAll0]
  | d :: ds, h => by
    rw [D.lays, Bool.and_eq_true] at h
    rw [D.pys, PyData.canLayAll0, D.lay_py d h.1, D.lays_py ds h.2]; rfl
end
mutual
theorem D.dep_py : ∀ d : D, d.py.depth ≤ d.dep
  | .non => by rw [D.py, PyData.depth]; exact Nat.zero_le _
  | .bl _ => by rw [D.py, PyData.depth]; exact Nat.zero_le _
  | .int _ => by rw [D.py, PyData.depth]; exact Nat.zero_le _
  | .str x => by rw [D.py, PyData.depth]; exact Nat.zero_le _
  | .tup ds => by rw [D.py, PyData.depth, D.dep]; exact Nat.succ_le_succ (D.deps_py ds)
  | .lst ds => by rw [D.py, PyData.depth, D.dep]; exact Nat.succ_le_succ (D.deps_py ds)
  | .dct _ => by rw [D.py, PyData.depth]; exact Nat.zero_le _
  | .dice => by rw [D.py, PyData.depth]; exact Nat.zero_le _
  | .par _ => by rw [D.py, PyData.depth]; exact Nat.zero_le _
  | .dtt _ => by rw [D.py, PyData.depth]; exact Nat.zero_le _
  | .dtf _ => by rw [D.py, PyData.depth]; exact Nat.zero_le _
  | .exn _ => by rw [D.py, PyData.depth]; exact Nat.zero_le _
  | .hs _ _ _ _ => by rw [D.py, PyData.depth]; exact Nat.zero_le _
theorem D.deps_py : ∀ ds : List D, PyData.depthAll (D.pys ds) ≤ D.deps ds
  | [] => by rw [D.pys, PyData.depthAll]; exact Nat.zero_le _
  | d :: ds => by
    rw [D.pys, PyData.depthAll, D.deps]
    have h1 := D.dep_py d
    have h2 := D.deps_py ds
    omega
end
theorem D.shp_py {d : D} (h : d.shp = true) : SeqAt.shaped d.py = true := by
  unfold D.shp at h
  rw [Bool.and_eq_true, decide_eq_true_eq] at h
  unfold SeqAt.shaped
  rw [Bool.and_eq_true, decide_eq_true_eq]
  exact ⟨D.lay_py d h.1, Nat.le_trans (D.dep_py d) h.2⟩
mutual
theorem D.eqv_py : ∀ d e : D, d.lay = true → e.lay = true → PyData.eqv d.py e.py = D.eqv d e
  | .tup ds, .tup es, h, h' => by
    rw [D.lay] at h h'
    rw [D.py, D.py, PyData.eqv, D.eqv]; exact D.eqvs_py ds es h h'
  | .lst ds, .lst es, h, h' => by
    rw [D.lay] at h h'
    rw [D.py, D.py, PyData.eqv, D.eqv]; exact D.eqvs_py ds es h h'
  | .dct _, _, h, _ => by rw [D.lay] at h; cases h
  | .dice, _, h, _ => by rw [D.lay] at h; cases h
  | .par _, _, h, _ => by rw [D.lay] at h; cases h
  | .dtt _, _, h, _ => by rw [D.lay] at h; cases h
  | .dtf _, _, h, _ => by rw [D.lay] at h; cases h
  | .exn _, _, h, _ => by rw [D.lay] at h; cases h
  | .hs _ _ _ _, _, h, _ => by rw [D.lay] at h; cases h
  | .non, e, _, h' => by cases e <;> first | (rw [D.lay] at h'; cases h'; done) | (simp only [D.py, PyData.eqv, D.eqv])
  | .bl _, e, _, h' => by cases e <;> first | (rw [D.lay] at h'; cases h'; done) | (simp only [D.py, PyData.eqv, D.eqv])
  | .int _, e, _, h' => by cases e <;> first | (rw [D.lay] at h'; cases h'; done) | (simp only [D.py, PyData.eqv, D.eqv])
  | .str _, e, _, h' => by cases e <;> first | (simp only [D.py, PyData.eqv, D.eqv]; done) | (rw [D.lay] at h'; cases h')
  | .tup _, .non, _, _ => by simp only [D.py, PyData.eqv, D.eqv]
  | .tup _, .bl _, _, _ => by simp only [D.py, PyData.eqv, D.eqv]
  | .tup _, .int _, _, _ => by simp only [D.py, PyData.eqv, D.eqv]
  | .tup _, .str _, _, _ => by simp only [D.py, PyData.eqv, D.eqv]
  | .tup _, .lst _, _, _ => by simp only [D.py, PyData.eqv, D.eqv]
  | .tup _, .dct _, _, h => by rw [D.lay] at h; cases h
  | .tup _, .dice, _, h => by rw [D.lay] at h; cases h
  | .tup _, .par _, _, h => by rw [D.lay] at h; cases h
  | .tup _, .dtt _, _, h => by rw [D.lay] at h; cases h
  | .tup _, .dtf _, _, h => by rw [D.lay] at h; cases h
  | .tup _, .exn _, _, h => by rw [D.lay] at h; cases h
  | .tup _, .hs _ _ _ _, _, h => by rw [D.lay] at h; cases h
  | .lst _, .non, _, _ => by simp only [D.py, PyData.eqv, D.eqv]
  | .lst _, .bl _, _, _ => by simp only [D.py, PyData.eqv, D.eqv]
  | .lst _, .int _, _, _ => by simp only [D.py, PyData.eqv, D.eqv]
  | .lst _, .str _, _, _ => by simp only [D.py, PyData.eqv, D.eqv]
  | .lst _, .tup _, _, _ => by simp only [D.py, PyData.eqv, D.eqv]
  | .lst _, .dct _, _, h => by rw [D.lay] at h; cases h
  | .lst _, .dice, _, h => by rw [D.lay] at h; cases h
  | .lst _, .par _, _, h => by rw [D.lay] at h; cases h
  | .lst _, .dtt _, _, h => by rw [D.lay] at h; cases h
  | .lst _, .dtf _, _, h => by rw [D.lay] at h; cases h
  | .lst _, .exn _, _, h => by rw [D.lay] at h; cases h
  | .lst _, .hs _ _ _ _, _, h => by rw [D.lay] at h; cases h
theorem D.eqvs_py : ∀ ds es : List D, D.lays ds = true → D.lays es = true → PyData.eqvAll (D.pys ds) (D.pys es) = D.eqvs ds es
  | [], [], _, _ => by rw [D.pys, PyData.eqvAll, D.eqvs]
  | [], _ :: _, _, _ => by simp only [D.pys, PyData.eqvAll, D.eqvs]
  | _ :: _, [], _, _ => by simp only [D.pys, PyData.eqvAll, D.eqvs]
  | d :: ds, e :: es, h, h' => by
    rw [D.lays, Bool.and_eq_true] at h h'
    rw [D.pys, D.pys, PyData.eqvAll, D.eqvs, D.eqv_py d e h.1 h'.1, D.eqvs_py ds es h.2 h'.2]
end
section
variable {g : Gd} {I : Hp} (K : PySem.W.Frag)
mutual
theorem DR.dp : ∀ {v : V} {d : D}, DR g I v d → d.lay = true → Dp K I v d.py
  | _, _, .non, _ => by rw [D.py]; exact .non
  | _, _, .bl b, _ => by rw [D.py]; exact .bl b
  | _, _, .int i, _ => by rw [D.py]; exact .int i
  | _, _, .str x, _ => by rw [D.py]; exact .str x
  | _, _, .tup h u t, l => by
    rw [D.lay] at l
    rw [D.py]; exact .tup (u.sqt h) (DRs.dp t l)
  | _, _, .lst h t, l => by
    rw [D.lay] at l
    rw [D.py]; exact .lst (SqL.of h) (DRs.dp t l)
  | _, _, .dK _ _, l => by rw [D.lay] at l; cases l
  | _, _, .dT _ _, l => by rw [D.lay] at l; cases l
  | _, _, .dF _ _, l => by rw [D.lay] at l; cases l
  | _, _, .exn _, l => by rw [D.lay] at l; cases l
  | _, _, .hs _ _ _ _, l => by rw [D.lay] at l; cases l
  | _, _, .dice, l => by rw [D.lay] at l; cases l
  | _, _, .par _ _, l => by rw [D.lay] at l; cases l
theorem DRs.dp : ∀ {v : List V} {d : List D}, DRs g I v d → D.lays d = true → DpAll K I v (D.pys d)
  | _, _, .nil, _ => by rw [D.pys]; exact .nil
  | _, _, .cons h t, l => by
    rw [D.lays, Bool.and_eq_true] at l
    rw [D.pys]; exact .cons (DR.dp h l.1) (DRs.dp t l.2)
end
end

/-! ### names, constants, displays -/
section
variable {X : Cx} {g : Gd} {E : XK}
theorem e_var (i : Nat) {x : Str} {pos : Pos} (hN : X.N[i]? = some x := by rfl) (hv : Vis X.env.scope x := by first | exact Or.inl rfl | exact Or.inr (Or.inl rfl) | exact Or.inr (Or.inr rfl)) (hd : (x == ("__debug__" : Str)) = false := by decide)
    (hcd : (x == ("__classdict__" : Str)) = false := by decide) : PE X (.Name x pos) (tF g X.mg E (fVar i)) := by
  refine (pe_var (i := i) hN hv hd hcd).imp fun σ H Q h => ?_
  obtain ⟨I, r, rl, er, h⟩ := h
  unfold fVar at h
  split at h
  · rename_i d e
    obtain ⟨v, e1, e2⟩ := er.get i d e
    exact ⟨v, e1, h.here rl e2⟩
  · exact h.elim
theorem tC_of {v : V} {d : D} (x : ∀ I, DR g I v d) {σ : L2.St} {H : Hp} {Q : VK} (h : tF g X.mg E (fC d) σ H Q) : tC v σ H Q := by
  obtain ⟨I, r, rl, er, h⟩ := h
  exact h.here rl (x I)
theorem e_int {i j pos} : PE X (.Constant (.int i) j pos) (tF g X.mg E (fC (.int i))) := pe_int.imp fun _ _ _ h => tC_of (fun _ => .int i) h
theorem e_str {x j pos} : PE X (.Constant (.str x) j pos) (tF g X.mg E (fC (.str x))) := pe_str.imp fun _ _ _ h => tC_of (fun _ => .str x) h
theorem e_bl {b j pos} : PE X (.Constant (.bool b) j pos) (tF g X.mg E (fC (.bl b))) := pe_bl.imp fun _ _ _ h => tC_of (fun _ => .bl b) h
theorem e_non {j pos} : PE X (.Constant .none j pos) (tF g X.mg E (fC .non)) := pe_non.imp fun _ _ _ h => tC_of (fun _ => .non) h
/-- a module's text or number -/
theorem e_gstr {x y : Str} {t : Tok} {pos : Pos} (hg : Gl X x) (hm : X.mg x = some (.str y t)) (hd : (x == ("__debug__" : Str)) = false := by decide) : PE X (.Name x pos) (tF g X.mg E (fC (.str y))) :=
  (pe_glob (v := .str y) hg hm ⟨t, rfl⟩ hd).imp fun _ _ _ h => tC_of (fun _ => .str y) h
theorem e_gint {x : Str} {n : Int} {t : Tok} {pos : Pos} (hg : Gl X x) (hm : X.mg x = some (.int n t)) (hd : (x == ("__debug__" : Str)) = false := by decide) : PE X (.Name x pos) (tF g X.mg E (fC (.int n))) :=
  (pe_glob (v := .int n) hg hm ⟨t, rfl⟩ hd).imp fun _ _ _ h => tC_of (fun _ => .int n) h

theorem a_nil : PA X [] (tFA g X.mg E fNil) := pa_nil.imp fun σ H Q h => by
  obtain ⟨I, r, rl, er, h⟩ := h
  exact h.here rl DRs.nil
theorem a_cons {e : Expr} {es : List Expr} {f : FE} {k : FA} (he : PE X e (tF g X.mg E f)) (hk : PA X es (tFA g X.mg E k)) (hs : starEach (e :: es) X.env = (false, eval e X.env) :: starEach es X.env := by rfl) : PA X (e :: es) (tFA g X.mg E (fCons f k)) :=
  (pa_cons he hk hs).imp fun σ H Q h => by
    obtain ⟨I, r, rl, er, h⟩ := h
    refine ⟨I, r, rl, er, Pst.first h fun d v I1 H1 _ s1 x1 h1 => ?_⟩
    refine ⟨I1, r, s1.rl, er.mono s1.mono, Pst.first h1 fun ds vs I2 H2 _ s2 x2 h2 => ?_⟩
    exact h2.here s2.rl (.cons (x1.mono s2.mono) x2)
/-- how many -/
def Len (k : FA) (n : Nat) : Prop := ∀ r ds, k r = .ok ds → ds.length = n
theorem len_nil : Len fNil 0 := fun r ds h => by cases h; rfl
theorem len_cons {f : FE} {k : FA} {n : Nat} (h : Len k n) : Len (fCons f k) (n + 1) := fun r ds q => by
  unfold fCons at q
  cases e1 : f r with
  | ok d =>
    rw [e1] at q
    cases e2 : k r with
    | ok es => rw [e2] at q; cases q; exact congrArg (· + 1) (h r es e2)
    | exc c => rw [e2] at q; cases q
    | bad => rw [e2] at q; cases q
  | exc c => rw [e1] at q; cases q
  | bad => rw [e1] at q; cases q
theorem small_line {n : Nat} (h : n ≤ 100000) : n ≤ sizeLine := Nat.le_trans h (by decide)
/-- a new tuple is known -/
theorem inv_tup {pins : List (Addr × Obj)} {σ : L2.St} {H : Hp} {s : Shared} {h' : Heap} {t' : Nat} {p : Addr} {xs : List V} {its : List Value} {n : Nat} (J : Inv X pins σ H s) (k : ∀ b o, s.heap.get? b = some o → h'.get? b = some o) (hp : s.heap.objs.size ≤ p)
    (hg : h'.get? p = some { cls := .type "tuple", data := .seq its.toArray n }) (r : Vals xs its) (hz : xs.length ≤ sizeLine) : ∃ u, TupO xs u ∧ Inv X pins σ (upd H p u) { s with heap := h', toks := t' } := by
  have ok : ∀ H', ObjOk X.prog X.w H' h' p (.tup xs) := fun H' => ⟨hz, its, r, ⟨_, hg, rfl, n, rfl⟩⟩
  cases e : strsV xs with
  | false => exact ⟨.tup xs, .inl ⟨rfl, e⟩, J.laid k hp (ok _)⟩
  | true => exact ⟨.frz _ (.tup xs), .inr ⟨_, ⟨rfl, e⟩, rfl⟩, J.laid k hp ⟨hg, ok _⟩⟩
def tTupX (t : TA) : TE := fun σ H Q => t σ H fun xs H1 => xs.length ≤ sizeLine ∧ ∀ p u, H1 p = none → TupO xs u → Q (.ref p) (upd H1 p u)
theorem pe_tupX {es : List Expr} {t : TA} {x1 : Nat} {pos : Pos} (h : PA X es t) : PE X (.Tuple es x1 pos) (tTupX t) := by
  refine ⟨fun pins s σ H Q I hq => ?_⟩
  refine wpAny_Tuple_spliced (thn (h.run pos pins s σ H _ I hq) fun us s1 ⟨xs, H1, I1, r, z, q⟩ => ⟨by rw [← r.length]; exact z, ?_⟩)
  have hf : H1 s1.heap.objs.size = none := I1.hok.fresh (Nat.le_refl _)
  obtain ⟨u, hu, J⟩ := inv_tup (t' := s1.toks) I1 (fun b u e => Heap.get?_push_of_some _ e) (Nat.le_refl _) (Heap.get?_push_size _ rfl) r z
  exact ⟨.ref s1.heap.objs.size, _, J, rfl, q _ u hf hu⟩
theorem e_tup {es : List Expr} {x1 : Nat} {pos : Pos} {k : FA} {n : Nat} (hk : PA X es (tFA g X.mg E k)) (hl : Len k n) (hn : n ≤ 100000 := by decide) : PE X (.Tuple es x1 pos) (tF g X.mg E (fTup k)) :=
  (pe_tupX hk).imp fun σ H Q h => by
    obtain ⟨I, r, rl, er, h⟩ := h
    refine ⟨I, r, rl, er, Pst.first h fun ds vs I1 H1 e s1 x1 h1 => ⟨small_line ?_, fun p u hp hu => ?_⟩⟩
    · rw [x1.len, hl r ds e]; exact hn
    · have s2 := s1.rl.put (o := u) hp hu.nt
      exact h1 _ _ _ s2 (.tup upd_same hu (x1.mono s2.mono))
theorem e_lst {es : List Expr} {pos : Pos} {k : FA} {n : Nat} (hk : PA X es (tFA g X.mg E k)) (hl : Len k n) (hn : n ≤ 100000 := by decide) : PE X (.List es pos) (tF g X.mg E (fLst k)) :=
  (pe_lst hk).imp fun σ H Q h => by
    obtain ⟨I, r, rl, er, h⟩ := h
    refine ⟨I, r, rl, er, Pst.first h fun ds vs I1 H1 e s1 x1 h1 => ⟨small_line ?_, fun p hp => ?_⟩⟩
    · rw [x1.len, hl r ds e]; exact hn
    · have s2 := s1.rl.put (o := .lst vs) hp
      exact h1 _ _ _ s2 (.lst upd_same (x1.mono s2.mono))

/-! ### operators of two values -/
/-- what the rule r of two values asks, dop tells -/
def OpD (g : Gd) (mg : Str → Option Value) (E : XK) (r : R2) (dop : D → D → Res D) : Prop := ∀ (I H : Hp) (x y : D) (v u : V) (Q : VK), Rl g I H → DR g I v x → DR g I u y → Pst g mg E (DR g) I H (dop x y) Q → r v u H Q
theorem tOp_of {r2 : R2} {dop : D → D → Res D} {fa fb : FE} (ho : OpD g X.mg E r2 dop) {σ : L2.St} {H : Hp} {Q : VK} (h : tF g X.mg E (fOp dop fa fb) σ H Q) : tOp r2 (tF g X.mg E fa) (tF g X.mg E fb) σ H Q := by
  obtain ⟨I, r, rl, er, h⟩ := h
  refine ⟨I, r, rl, er, Pst.first h fun x v I1 H1 _ s1 x1 h1 => ?_⟩
  refine ⟨I1, r, s1.rl, er.mono s1.mono, Pst.first h1 fun y u I2 H2 _ s2 x2 h2 => ?_⟩
  exact ho I2 H2 x y v u Q s2.rl (x1.mono s2.mono) x2 h2
theorem e_op {op : Operator} {r : R2} {dop : D → D → Res D} {a b : Expr} {fa fb : FE} {pos : Pos} (hr : OpR X (binaryOp op) r) (ho : OpD g X.mg E r dop) (ha : PE X a (tF g X.mg E fa)) (hb : PE X b (tF g X.mg E fb)) : PE X (.BinOp a op b pos) (tF g X.mg E (fOp dop fa fb)) :=
  (pe_op hr ha hb).imp fun _ _ _ h => tOp_of ho h
theorem e_cmp {op : CmpOp} {r : R2} {dop : D → D → Res D} {a b : Expr} {fa fb : FE} {pos : Pos} (hr : OpR X (compareOp op) r) (ho : OpD g X.mg E r dop) (ha : PE X a (tF g X.mg E fa)) (hb : PE X b (tF g X.mg E fb)) (hm : behindInMarks op b = false) : PE X (.Compare a [op] [b] pos) (tF g X.mg E (fOp dop fa fb)) :=
  (pe_cmpR hr ha hb hm).imp fun _ _ _ h => tOp_of ho h
end

/-! ### which operator does what -/
section
variable {X : Cx} {g : Gd} {E : XK}
theorem od_sub : OpD g X.mg E (rI0 fun i j => .int (i - j)) dSub := by
  intro I H x y v u Q rl hx hy p
  unfold dSub at p
  split at p
  · cases hx; cases hy
    exact ⟨_, _, rfl, rfl, p.here rl (.int _)⟩
  · exact p.elim
theorem e_sub {a b : Expr} {fa fb : FE} {pos : Pos} (ha : PE X a (tF g X.mg E fa)) (hb : PE X b (tF g X.mg E fb)) : PE X (.BinOp a .Sub b pos) (tF g X.mg E (fOp dSub fa fb)) := e_op op_sub od_sub ha hb
def rCatX (K : PySem.W.Frag) : R2 := fun x y H Q => ∃ a b xs ys, x = .ref a ∧ y = .ref b ∧ SqT K H a xs ∧ SqT K H b ys ∧ xs.length + ys.length ≤ sizeLine ∧
  (xs = [] → Q (.ref b) H) ∧ (xs ≠ [] → ys = [] → Q (.ref a) H) ∧ (xs ≠ [] → ys ≠ [] → ∀ p u, H p = none → TupO (xs ++ ys) u → Q (.ref p) (upd H p u))
theorem op_catX : OpR X (binaryOp .Add) (rCatX X.K) := by
  intro pins s σ H x y v u Q I rx ry h
  obtain ⟨a, b, xs, ys, rfl, rfl, ha, hb, hz, q0, q1, q2⟩ := h
  cases rx
  cases ry
  obtain ⟨its, r1, p1, _⟩ := I.tuple ha
  obtain ⟨its2, r2, p2, _⟩ := I.tuple hb
  by_cases hx : xs = []
  · subst hx
    cases r1
    exact cat_tup0 p1 p2 ⟨.ref b, H, I, rfl, q0 rfl⟩
  · refine HT.cat_tup p1 p2 (fun z => hx (r1.nil_iff.mp z)) (fun z => ⟨.ref a, H, I, rfl, q1 hx (r2.nil_iff.mp z)⟩) (fun z => ?_) (by rw [← r1.length, ← r2.length]; exact hz)
    obtain ⟨u, hu, J⟩ := inv_tup (t' := s.toks) I (fun b u e => Heap.get?_push_of_some _ e) (Nat.le_refl _) (Heap.get?_push_size _ rfl) (r1.append r2) (by rw [List.length_append]; exact hz)
    exact ⟨.ref s.heap.objs.size, _, J, rfl, q2 hx (fun w => z (r2.nil_iff.mpr w)) _ u (I.hok.fresh (Nat.le_refl _)) hu⟩
theorem od_add : OpD g X.mg E (fun x y H Q => rI0 (fun i j => .int (i + j)) x y H Q ∨ (∃ i j, x = .str i ∧ y = .str j ∧ i.length + j.length ≤ sizeLine ∧ Q (.str (i ++ j)) H) ∨ rCatX X.K x y H Q ∨ rCat x y H Q) dAdd := by
  intro I H x y v u Q rl hx hy p
  unfold dAdd at p
  split at p
  · cases hx; cases hy
    exact .inl ⟨_, _, rfl, rfl, p.here rl (.int _)⟩
  · split at p
    · rename_i c
      cases hx; cases hy
      exact .inr (.inl ⟨_, _, rfl, rfl, small_line c, p.here rl (.str _)⟩)
    · exact p.elim
  · split at p
    · rename_i a b c
      cases hx with
      | tup ha ua ra =>
        rename_i pa xs _
        cases hy with
        | tup hb ub rb =>
          rename_i pb ys _
          have la := ra.len
          have lb := rb.len
          refine .inr (.inr (.inl ⟨pa, pb, xs, ys, rfl, rfl, ua.sqt (rl.sub _ _ ha), ub.sqt (rl.sub _ _ hb), small_line (by omega), fun e => ?_, fun _ e => ?_, fun _ _ q u hq hu => ?_⟩))
          · have e0 : a = [] := List.length_eq_zero_iff.mp (by rw [← la, e]; rfl)
            rw [e0] at p
            exact p.here rl (.tup hb ub rb)
          · have e0 : b = [] := List.length_eq_zero_iff.mp (by rw [← lb, e]; rfl)
            rw [e0, List.append_nil] at p
            exact p.here rl (.tup ha ua ra)
          · have s := rl.put (o := u) hq hu.nt
            exact p _ _ _ s (.tup upd_same hu ((ra.app rb).mono s.mono))
    · exact p.elim
  · split at p
    · rename_i a b c
      cases hx with
      | lst ha ra =>
        rename_i pa xs
        cases hy with
        | lst hb rb =>
          rename_i pb ys
          have la := ra.len
          have lb := rb.len
          refine .inr (.inr (.inr ⟨pa, pb, xs, ys, rfl, rfl, rl.sub _ _ ha, rl.sub _ _ hb, small_line (by omega), fun q hq => ?_⟩))
          have s := rl.put (o := .lst (xs ++ ys)) hq
          exact p _ _ _ s (.lst upd_same ((ra.app rb).mono s.mono))
    · exact p.elim
  · exact p.elim
theorem e_add {a b : Expr} {fa fb : FE} {pos : Pos} (ha : PE X a (tF g X.mg E fa)) (hb : PE X b (tF g X.mg E fb)) : PE X (.BinOp a .Add b pos) (tF g X.mg E (fOp dAdd fa fb)) := e_op (op_add.or (op_add_str.or (op_catX.or op_cat))) od_add ha hb
theorem DRs.rep {I : Hp} {vs : List V} {ds : List D} (h : DRs g I vs ds) : ∀ n : Nat, DRs g I (List.replicate n vs).flatten (List.replicate n ds).flatten
  | 0 => .nil
  | n + 1 => by rw [List.replicate_succ, List.replicate_succ, List.flatten_cons, List.flatten_cons]; exact h.app (DRs.rep h n)
theorem od_mul : OpD g X.mg E (fun x y H Q => rI CMul (fun i j => .int (i * j)) x y H Q ∨ rRep x y H Q ∨ rRepT X.K x y H Q) dMul := by
  intro I H x y v u Q rl hx hy p
  unfold dMul at p
  split at p
  · split at p
    · rename_i c
      cases hx; cases hy
      exact .inl ⟨_, _, rfl, rfl, c, p.here rl (.int _)⟩
    · exact p.elim
  · split at p
    · rename_i a k c
      cases hy
      cases hx with
      | lst ha ra =>
        rename_i pa xs
        refine .inr (.inl ⟨pa, k, xs, rfl, rfl, rl.sub _ _ ha, c.1, c.2.1, small_line (by rw [ra.len]; exact c.2.2), fun q hq => ?_⟩)
        have s := rl.put (o := .lst (List.replicate k.toNat xs).flatten) hq
        exact p _ _ _ s (.lst upd_same ((ra.rep _).mono s.mono))
    · exact p.elim
  · split at p
    · rename_i a k c
      cases hy
      cases hx with
      | tup ha ua ra =>
        rename_i pa xs _
        obtain ⟨c, cs⟩ := c
        refine .inr (.inr ⟨pa, k, xs, rfl, rfl, ua.sqt (rl.sub _ _ ha), fun z => c.1 ?_, c.2.1, c.2.2.1, by rw [ra.len]; exact c.2.2.2, fun q hq => ?_⟩)
        · have := ra.len
          rw [z] at this
          exact List.length_eq_zero_iff.mp this.symm
        · have s := rl.put (o := .tup (List.replicate k.toNat xs).flatten) hq
          exact p _ _ _ s (.tup upd_same (.inl ⟨rfl, by rw [(ra.rep _).strs]; exact cs⟩) ((ra.rep _).mono s.mono))
    · exact p.elim
  · exact p.elim
end
end FW
/-! Comparisons, tests, items, calls of built-ins, by functions over data. -/
namespace FW
open PySem PySem.Spec PyProof.Rows L2

/-! ### == and != -/
section
variable {X : Cx} {g : Gd} {E : XK}
theorem eq_parts {I H : Hp} {x y : D} {v u : V} (rl : Rl g I H) (hx : DR g I v x) (hy : DR g I u y) (c : eqOk x y = true) :
    (Dp X.K H v x.py ∧ Dp X.K H u y.py ∧ SeqAt.shaped x.py = true ∧ SeqAt.shaped y.py = true ∧ PyData.eqv x.py y.py = D.eqv x y) ∨ (scal v u = true ∧ decide (v = u) = D.eqv x y) := by
  unfold eqOk at c
  rw [Bool.or_eq_true, Bool.and_eq_true] at c
  rcases c with ⟨c1, c2⟩ | c
  · have l1 := (Bool.and_eq_true_iff.mp c1).1
    have l2 := (Bool.and_eq_true_iff.mp c2).1
    exact .inl ⟨(hx.mono rl.sub).dp X.K l1, (hy.mono rl.sub).dp X.K l2, D.shp_py c1, D.shp_py c2, D.eqv_py x y l1 l2⟩
  · refine .inr ?_
    unfold scalD at c
    split at c
    · cases hx; cases hy
      refine ⟨rfl, ?_⟩
      rw [D.eqv, dec_str]
    all_goals first
      | (cases hx; cases hy; refine ⟨rfl, ?_⟩; simp [D.eqv]; done)
      | cases c
theorem od_eq : OpD g X.mg E (fun x y H Q => rEqD X.K x y H Q ∨ rEq x y H Q) dEq := by
  intro I H x y v u Q rl hx hy p
  unfold dEq at p
  split at p
  · rename_i c
    have q := p.here rl (.bl _)
    rcases eq_parts (X := X) rl hx hy c with ⟨a, b, c1, c2, e⟩ | ⟨a, e⟩
    · exact .inl ⟨_, _, a, b, c1, c2, by rw [e]; exact q⟩
    · exact .inr ⟨a, by rw [e]; exact q⟩
  · exact p.elim
theorem od_ne : OpD g X.mg E (fun x y H Q => rNeD X.K x y H Q ∨ rNe x y H Q) dNe := by
  intro I H x y v u Q rl hx hy p
  unfold dNe at p
  split at p
  · rename_i c
    have q := p.here rl (.bl _)
    rcases eq_parts (X := X) rl hx hy c with ⟨a, b, c1, c2, e⟩ | ⟨a, e⟩
    · exact .inl ⟨_, _, a, b, c1, c2, by rw [e]; exact q⟩
    · exact .inr ⟨a, by rw [e]; exact q⟩
  · exact p.elim
variable {a b : Expr} {fa fb : FE} {pos : Pos} {k : Nat}
theorem e_eq (hr : Room k X.A) (ha : PE X a (tF g X.mg E fa)) (hb : PE X b (tF g X.mg E fb)) : PE X (.Compare a [.Eq] [b] pos) (tF g X.mg E (fOp dEq fa fb)) := e_cmp ((op_eqD hr.units).or op_eq) od_eq ha hb (nomark _)
/-! ### order -/
def rOrd (p : Int → Int → Bool) (q : Str → Str → Bool) : R2 := fun x y H Q => rI0 (fun i j => .bl (p i j)) x y H Q ∨ ∃ i j, x = .str i ∧ y = .str j ∧ Q (.bl (q i j)) H
theorem od_ord {p : Int → Int → Bool} {q : Str → Str → Bool} {dop : D → D → Res D} (h1 : ∀ i j, dop (.int i) (.int j) = .ok (.bl (p i j))) (h2 : ∀ i j, dop (.str i) (.str j) = .ok (.bl (q i j)))
    (h3 : ∀ x y, dop x y = .bad ∨ (∃ i j, x = .int i ∧ y = .int j) ∨ ∃ i j, x = .str i ∧ y = .str j) : OpD g X.mg E (rOrd p q) dop := by
  intro I H x y v u Q rl hx hy z
  rcases h3 x y with e | ⟨i, j, rfl, rfl⟩ | ⟨i, j, rfl, rfl⟩
  · rw [e] at z; exact z.elim
  · cases hx; cases hy
    rw [h1] at z
    exact .inl ⟨_, _, rfl, rfl, z.here rl (.bl _)⟩
  · cases hx; cases hy
    rw [h2] at z
    exact .inr ⟨_, _, rfl, rfl, z.here rl (.bl _)⟩
theorem od_lt : OpD g X.mg E (rOrd (fun i j => decide (i < j)) fun i j => decide (i.cps.toList < j.cps.toList)) dLt := od_ord (fun _ _ => rfl) (fun _ _ => rfl) fun x y => by
  unfold dLt; split <;> simp
theorem od_le : OpD g X.mg E (rOrd (fun i j => decide (i ≤ j)) fun i j => !decide (j.cps.toList < i.cps.toList)) dLe := od_ord (fun _ _ => rfl) (fun _ _ => rfl) fun x y => by
  unfold dLe; split <;> simp
theorem od_gt : OpD g X.mg E (rOrd (fun i j => decide (j < i)) fun i j => decide (j.cps.toList < i.cps.toList)) dGt := od_ord (fun _ _ => rfl) (fun _ _ => rfl) fun x y => by
  unfold dGt; split <;> simp
theorem od_ge : OpD g X.mg E (rOrd (fun i j => decide (j ≤ i)) fun i j => !decide (i.cps.toList < j.cps.toList)) dGe := od_ord (fun _ _ => rfl) (fun _ _ => rfl) fun x y => by
  unfold dGe; split <;> simp
theorem or_lt : OpR X (compareOp .Lt) (rOrd (fun i j => decide (i < j)) fun i j => decide (i.cps.toList < j.cps.toList)) := op_lt.or op_lt_str
theorem or_le : OpR X (compareOp .LtE) (rOrd (fun i j => decide (i ≤ j)) fun i j => !decide (j.cps.toList < i.cps.toList)) := op_le.or op_le_str
theorem or_gt : OpR X (compareOp .Gt) (rOrd (fun i j => decide (j < i)) fun i j => decide (j.cps.toList < i.cps.toList)) := op_gt.or op_gt_str
theorem or_ge : OpR X (compareOp .GtE) (rOrd (fun i j => decide (j ≤ i)) fun i j => !decide (i.cps.toList < j.cps.toList)) := op_ge.or op_ge_str
theorem e_lt (ha : PE X a (tF g X.mg E fa)) (hb : PE X b (tF g X.mg E fb)) : PE X (.Compare a [.Lt] [b] pos) (tF g X.mg E (fOp dLt fa fb)) := e_cmp or_lt od_lt ha hb (nomark _)
theorem e_gt (ha : PE X a (tF g X.mg E fa)) (hb : PE X b (tF g X.mg E fb)) : PE X (.Compare a [.Gt] [b] pos) (tF g X.mg E (fOp dGt fa fb)) := e_cmp or_gt od_gt ha hb (nomark _)
theorem e_ge (ha : PE X a (tF g X.mg E fa)) (hb : PE X b (tF g X.mg E fb)) : PE X (.Compare a [.GtE] [b] pos) (tF g X.mg E (fOp dGe fa fb)) := e_cmp or_ge od_ge ha hb (nomark _)

/-! ### is, is not -/
theorem od_is : OpD g X.mg E (fun x y H Q => (y = .non ∧ Q (.bl (decide (x = .non))) H) ∨ rIsB x y H Q) dIs := by
  intro I H x y v u Q rl hx hy p
  cases hy with
  | non =>
    refine .inl ⟨rfl, ?_⟩
    cases hx <;> exact p.here rl (.bl _)
  | bl b =>
    cases hx with
    | bl a => exact .inr ⟨a, b, rfl, rfl, p.here rl (.bl _)⟩
    | _ => exact p.elim
  | _ => cases hx <;> exact p.elim
theorem od_isnot : OpD g X.mg E (fun x y H Q => (y = .non ∧ Q (.bl (!decide (x = .non))) H) ∨ rNotB x y H Q) dIsNot := by
  intro I H x y v u Q rl hx hy p
  cases hy with
  | non =>
    refine .inl ⟨rfl, ?_⟩
    cases hx <;> exact p.here rl (.bl _)
  | bl b =>
    cases hx with
    | bl a => exact .inr ⟨a, b, rfl, rfl, p.here rl (.bl _)⟩
    | _ => exact p.elim
  | _ => cases hx <;> exact p.elim
/-! ### in, not in -/
theorem DR.flatV {I : Hp} {v : V} {x : D} (h : DR g I v x) (f : x.flat = true) : L2.flatV v = true := by cases h <;> first | rfl | cases f
theorem DR.eqV {I : Hp} {v u : V} {x y : D} (h : DR g I v x) (h' : DR g I u y) (f : x.flat = true) (f' : y.flat = true) : L2.eqV v u = D.eqv x y := by
  cases h <;> cases h' <;> first | (simp only [L2.eqV, D.eqv]; done) | cases f | cases f'
theorem DRs.flatV {I : Hp} : ∀ {vs : List V} {ys : List D}, DRs g I vs ys → ys.all D.flat = true → vs.all L2.flatV = true
  | _, _, .nil, _ => rfl
  | _, _, .cons r t, f => by
    rw [List.all_cons, Bool.and_eq_true] at f ⊢
    exact ⟨r.flatV f.1, DRs.flatV t f.2⟩
theorem DRs.inV {I : Hp} {v : V} {x : D} (h : DR g I v x) (f : x.flat = true) : ∀ {vs : List V} {ys : List D}, DRs g I vs ys → ys.all D.flat = true → L2.inV v vs = x.any ys
  | _, _, .nil, _ => rfl
  | _, _, .cons (d := y) (ds := ys) r t, q => by
    rw [List.all_cons, Bool.and_eq_true] at q
    have e := DRs.inV h f t q.2
    unfold L2.inV at e ⊢
    unfold D.any at e ⊢
    rw [List.any_cons, List.any_cons, e, r.eqV h q.1 f]
theorem pys_any {x : D} (hx : x.lay = true) : ∀ {ys : List D}, D.lays ys = true → ((D.pys ys).any fun z => PyData.eqv z x.py) = x.any ys
  | [], _ => by rw [D.pys]; rfl
  | y :: ys, h => by
    rw [D.lays, Bool.and_eq_true] at h
    have e := pys_any hx h.2
    unfold D.any at e ⊢
    rw [D.pys, List.any_cons, List.any_cons, e, D.eqv_py y x h.1 hx]
theorem cps_one {w : Str} {c : Nat} (h : w.cps.toList = [c]) : w = ⟨#[c]⟩ := by
  obtain ⟨l⟩ := w
  have : l = #[c] := by
    apply Array.toList_inj.mp
    rw [h]
  rw [this]
def rInA (K : PySem.W.Frag) (neg : Bool) : R2 := fun x y H Q => rIn K neg x y H Q ∨ (if neg then rNotInD K x y H Q else rInD K x y H Q) ∨ ∃ (c : Nat) (z : Str), x = .str ⟨#[c]⟩ ∧ y = .str z ∧ Q (.bl (if neg then !decide (c ∈ z.cps.toList) else decide (c ∈ z.cps.toList))) H
theorem od_inA {neg : Bool} {dop : D → D → Res D} (h : ∀ x y, dop x y = match inD x y with | some b => .ok (.bl (if neg then !b else b)) | none => .bad) : OpD g X.mg E (rInA X.K neg) dop := by
  intro I H x y v u Q rl hx hy p
  rw [h] at p
  cases e : inD x y with
  | none => rw [e] at p; exact p.elim
  | some k =>
    rw [e] at p
    have q : Q (.bl (if neg then !k else k)) H := p.here rl (.bl _)
    unfold inD at e
    split at e
    · rename_i ys
      split at e
      · rename_i c
        cases e
        rw [Bool.and_eq_true] at c
        cases hy with
        | tup hu uu ru =>
          rename_i pu us _
          refine .inl ⟨pu, us, rfl, .inr (uu.sqt (rl.sub _ _ hu)), hx.flatV c.1, ru.flatV c.2, ?_⟩
          rw [DRs.inV hx c.1 ru c.2]
          exact q
      · cases e
    · rename_i ys
      split at e
      · rename_i c
        cases e
        rw [Bool.or_eq_true, Bool.and_eq_true, Bool.and_eq_true] at c
        cases hy with
        | lst hu ru =>
          rename_i pu us
          rcases c with c | c
          · refine .inl ⟨pu, us, rfl, .inl (SqL.of (rl.sub _ _ hu)), hx.flatV c.1, ru.flatV c.2, ?_⟩
            rw [DRs.inV hx c.1 ru c.2]
            exact q
          · refine .inr (.inl ?_)
            have l1 := (Bool.and_eq_true_iff.mp c.1).1
            have l2 := (Bool.and_eq_true_iff.mp c.2).1
            have hl : D.lays ys = true := by rw [D.lay] at l2; exact l2
            have dx := (hx.mono rl.sub).dp X.K l1
            have dy := ((DR.lst hu ru).mono rl.sub).dp X.K l2
            have sy := D.shp_py c.2
            rw [D.py] at dy sy
            have ea := pys_any l1 hl
            cases neg with
            | true => exact ⟨_, _, dx, dy, D.shp_py c.1, sy, by rw [ea]; exact q⟩
            | false => exact ⟨_, _, dx, dy, D.shp_py c.1, sy, by rw [ea]; exact q⟩
      · cases e
    · rename_i z
      split at e
      · rename_i w
        split at e
        · rename_i c hw
          cases e
          cases hx; cases hy
          exact .inr (.inr ⟨c, z, by rw [cps_one hw], rfl, q⟩)
        · cases e
      · cases e
    · cases e
theorem or_in (hr : Room k X.A) : OpR X (compareOp .In) (rInA X.K false) := op_in_seq.or ((op_inD (by have := hr.un; omega)).or op_in_sign)
theorem or_notin (hr : Room k X.A) : OpR X (compareOp .NotIn) (rInA X.K true) := op_notIn_seq.or ((op_notInD (by have := hr.un; omega)).or op_notIn_sign)
theorem e_in (hr : Room k X.A) (ha : PE X a (tF g X.mg E fa)) (hb : PE X b (tF g X.mg E fb)) (hm : behindInMarks .In b = false := by rfl) : PE X (.Compare a [.In] [b] pos) (tF g X.mg E (fOp dIn fa fb)) := e_cmp (or_in hr) (od_inA fun x y => by unfold dIn; cases inD x y <;> rfl) ha hb hm
end

/-! ### truth values, and, or, not, if -/
section
variable {X : Cx} {g : Gd} {E : XK} {a b c : Expr} {fa fb : FE} {p q : FT} {pos : Pos} {k : Nat} {rest : List Expr}
theorem tB_of {σ : L2.St} {H : Hp} {Q : Bool → Hp → Prop} (h : tFT g X.mg E (fTest fa) σ H Q) : tTest (tF g X.mg E fa) σ H Q := by
  obtain ⟨I, r, rl, er, h⟩ := h
  refine ⟨I, r, rl, er, Pst.first h fun d v I1 H1 _ s1 x1 h1 => ?_⟩
  cases x1 <;> first | exact h1.elim | exact ⟨_, rfl, h1.here s1.rl rfl⟩
theorem t_cmp {op : CmpOp} {r : R2} {dop : D → D → Res D} (hr : OpR X (compareOp op) r) (ho : OpD g X.mg E r dop) (ha : PE X a (tF g X.mg E fa)) (hb : PE X b (tF g X.mg E fb)) (hm : behindInMarks op b = false) : PT X (.Compare a [op] [b] pos) (tFT g X.mg E (fTest (fOp dop fa fb))) :=
  (pt_cmpR hr ha hb hm).imp fun σ H Q h => by
    obtain ⟨I, r, rl, er, h⟩ := tB_of h
    exact tOp_of ho ⟨I, r, rl, er, h⟩
theorem t_eq (hr : Room k X.A) (ha : PE X a (tF g X.mg E fa)) (hb : PE X b (tF g X.mg E fb)) : PT X (.Compare a [.Eq] [b] pos) (tFT g X.mg E (fTest (fOp dEq fa fb))) := t_cmp ((op_eqD hr.units).or op_eq) od_eq ha hb (nomark _)
theorem t_ne (hr : Room k X.A) (ha : PE X a (tF g X.mg E fa)) (hb : PE X b (tF g X.mg E fb)) : PT X (.Compare a [.NotEq] [b] pos) (tFT g X.mg E (fTest (fOp dNe fa fb))) := t_cmp ((op_neD hr.units).or op_ne) od_ne ha hb (nomark _)
theorem t_lt (ha : PE X a (tF g X.mg E fa)) (hb : PE X b (tF g X.mg E fb)) : PT X (.Compare a [.Lt] [b] pos) (tFT g X.mg E (fTest (fOp dLt fa fb))) := t_cmp or_lt od_lt ha hb (nomark _)
theorem t_gt (ha : PE X a (tF g X.mg E fa)) (hb : PE X b (tF g X.mg E fb)) : PT X (.Compare a [.Gt] [b] pos) (tFT g X.mg E (fTest (fOp dGt fa fb))) := t_cmp or_gt od_gt ha hb (nomark _)
theorem t_is (ha : PE X a (tF g X.mg E fa)) (hb : PE X b (tF g X.mg E fb)) : PT X (.Compare a [.Is] [b] pos) (tFT g X.mg E (fTest (fOp dIs fa fb))) := t_cmp (op_isN.or op_isBl) od_is ha hb (nomark _)
theorem t_isnot (ha : PE X a (tF g X.mg E fa)) (hb : PE X b (tF g X.mg E fb)) : PT X (.Compare a [.IsNot] [b] pos) (tFT g X.mg E (fTest (fOp dIsNot fa fb))) := t_cmp (op_notN.or op_notBl) od_isnot ha hb (nomark _)
theorem t_in (hr : Room k X.A) (ha : PE X a (tF g X.mg E fa)) (hb : PE X b (tF g X.mg E fb)) (hm : behindInMarks .In b = false := by rfl) : PT X (.Compare a [.In] [b] pos) (tFT g X.mg E (fTest (fOp dIn fa fb))) := t_cmp (or_in hr) (od_inA fun x y => by unfold dIn; cases inD x y <;> rfl) ha hb hm
theorem t_notin (hr : Room k X.A) (ha : PE X a (tF g X.mg E fa)) (hb : PE X b (tF g X.mg E fb)) (hm : behindInMarks .NotIn b = false := by rfl) : PT X (.Compare a [.NotIn] [b] pos) (tFT g X.mg E (fTest (fOp dNotIn fa fb))) := t_cmp (or_notin hr) (od_inA fun x y => by unfold dNotIn; cases inD x y <;> rfl) ha hb hm
/-- an expression that gives a truth, as a test -/
theorem t_val {e : Expr} (h : PE X e (tF g X.mg E fa)) (he : ∀ whole, isTrue e X.env whole = (do let v ← whole; standAt e.pos; holding [v] (truthy v)) := by intro _; rfl) : PT X e (tFT g X.mg E (fTest fa)) :=
  (pt_val h he).imp fun _ _ _ h => tB_of h
theorem w_and1 (ha : PT X a (tFT g X.mg E p)) : PW X (.BoolOp .And [a] pos) (tFT g X.mg E p) := pw_and1 ha
theorem w_or1 (ha : PT X a (tFT g X.mg E p)) : PW X (.BoolOp .Or [a] pos) (tFT g X.mg E p) := pw_or1 ha
theorem w_and (ha : PT X a (tFT g X.mg E p)) (hb : PW X (.BoolOp .And (b :: rest) pos) (tFT g X.mg E q)) : PW X (.BoolOp .And (a :: b :: rest) pos) (tFT g X.mg E (fAnd p q)) :=
  (pw_and ha hb).imp fun σ H Q h => by
    obtain ⟨I, r, rl, er, h⟩ := h
    refine ⟨I, r, rl, er, Pst.first h fun d v I1 H1 _ s1 x1 h1 => ?_⟩
    subst x1
    cases v with
    | true => exact ⟨I1, r, s1.rl, er.mono s1.mono, h1⟩
    | false => exact h1.here s1.rl rfl
theorem w_or (ha : PT X a (tFT g X.mg E p)) (hb : PW X (.BoolOp .Or (b :: rest) pos) (tFT g X.mg E q)) : PW X (.BoolOp .Or (a :: b :: rest) pos) (tFT g X.mg E (fOr p q)) :=
  (pw_or ha hb).imp fun σ H Q h => by
    obtain ⟨I, r, rl, er, h⟩ := h
    refine ⟨I, r, rl, er, Pst.first h fun d v I1 H1 _ s1 x1 h1 => ?_⟩
    subst x1
    cases v with
    | true => exact h1.here s1.rl rfl
    | false => exact ⟨I1, r, s1.rl, er.mono s1.mono, h1⟩
theorem t_not (ha : PT X a (tFT g X.mg E p)) : PT X (.UnaryOp .Not a pos) (tFT g X.mg E (fNot p)) :=
  (pt_not ha).imp fun σ H Q h => by
    obtain ⟨I, r, rl, er, h⟩ := h
    refine ⟨I, r, rl, er, Pst.first h fun d v I1 H1 _ s1 x1 h1 => ?_⟩
    subst x1
    exact h1.here s1.rl rfl
theorem e_one {op} (h : PE X a (tF g X.mg E fa)) : PE X (.BoolOp op [a] pos) (tF g X.mg E fa) := pe_one h
theorem e_and (ha : PE X a (tF g X.mg E fa)) (hb : PE X (.BoolOp .And (b :: rest) pos) (tF g X.mg E fb)) : PE X (.BoolOp .And (a :: b :: rest) pos) (tF g X.mg E (fAndV fa fb)) :=
  (pe_and ha hb).imp fun σ H Q h => by
    obtain ⟨I, r, rl, er, h⟩ := h
    refine ⟨I, r, rl, er, Pst.first h fun d v I1 H1 _ s1 x1 h1 => ?_⟩
    cases x1 with
    | bl b =>
      refine ⟨b, rfl, ?_⟩
      cases b with
      | true => exact ⟨I1, r, s1.rl, er.mono s1.mono, h1⟩
      | false => exact h1.here s1.rl (.bl false)
    | _ => exact h1.elim
theorem e_not (ha : PE X a (tF g X.mg E fa)) : PE X (.UnaryOp .Not a pos) (tF g X.mg E (fNotV fa)) :=
  (pe_not ha).imp fun σ H Q h => by
    obtain ⟨I, r, rl, er, h⟩ := h
    refine ⟨I, r, rl, er, Pst.first h fun d v I1 H1 _ s1 x1 h1 => ?_⟩
    cases x1 with
    | bl b => exact ⟨b, rfl, h1.here s1.rl (.bl _)⟩
    | _ => exact h1.elim
theorem e_if (hc : PT X c (tFT g X.mg E p)) (ha : PE X a (tF g X.mg E fa)) (hb : PE X b (tF g X.mg E fb)) : PE X (.IfExp c a b pos) (tF g X.mg E (fIf p fa fb)) :=
  (pe_ifExp hc ha hb).imp fun σ H Q h => by
    obtain ⟨I, r, rl, er, h⟩ := h
    refine ⟨I, r, rl, er, Pst.first h fun d v I1 H1 _ s1 x1 h1 => ?_⟩
    subst x1
    cases v with
    | true => exact ⟨I1, r, s1.rl, er.mono s1.mono, h1⟩
    | false => exact ⟨I1, r, s1.rl, er.mono s1.mono, h1⟩
variable {fc : FE}
theorem tChain_of {r1 r2 : R2} {o o' : D → D → Res D} (ho : OpD g X.mg E r1 o) (ho' : OpD g X.mg E r2 o') {σ : L2.St} {H : Hp} {Q : VK} (h : tF g X.mg E (fChain o o' fa fb fc) σ H Q) : tChain r1 r2 (tF g X.mg E fa) (tF g X.mg E fb) (tF g X.mg E fc) σ H Q := by
  obtain ⟨I, r, rl, er, h⟩ := h
  refine ⟨I, r, rl, er, Pst.first h fun x v I1 H1 _ s1 x1 h1 => ?_⟩
  refine ⟨I1, r, s1.rl, er.mono s1.mono, Pst.first h1 fun y u I2 H2 _ s2 x2 h2 => ?_⟩
  refine ho I2 H2 x y v u _ s2.rl (x1.mono s2.mono) x2 (Pst.first h2 fun z w I3 H3 _ s3 x3 h3 => ?_)
  cases x3 with
  | bl b =>
    refine ⟨b, rfl, ?_⟩
    cases b with
    | true =>
      refine ⟨I3, r, s3.rl, er.mono (s1.trans (s2.trans s3)).mono, Pst.first h3 fun w' v' I4 H4 _ s4 x4 h4 => ?_⟩
      exact ho' I4 H4 y w' u v' Q s4.rl (x2.mono (s3.trans s4).mono) x4 h4
    | false => exact h3.here s3.rl (.bl false)
  | _ => exact h3.elim
end
end FW
/-! Calls of built-ins, items, slices, calls of defs. -/
namespace FW
open PySem PySem.Spec PyProof.Rows L2

section
variable {X : Cx} {g : Gd} {E : XK} {a b c : Expr} {fa fb fc : FE} {pos : Pos} {k : Nat}
theorem e_chain {op op' : CmpOp} {r1 r2 : R2} {o o' : D → D → Res D} (hr1 : OpR X (compareOp op) r1) (hr2 : OpR X (compareOp op') r2) (ho : OpD g X.mg E r1 o) (ho' : OpD g X.mg E r2 o') (ha : PE X a (tF g X.mg E fa)) (hb : PE X b (tF g X.mg E fb)) (hc : PE X c (tF g X.mg E fc))
    (hm : lastMarks [op, op'] [b, c] = false := by with_unfolding_all rfl) : PE X (.Compare a [op, op'] [b, c] pos) (tF g X.mg E (fChain o o' fa fb fc)) :=
  (pe_chain hr1 hr2 ha hb hc hm).imp fun _ _ _ h => tChain_of ho ho' h
theorem t_chain {op op' : CmpOp} {r1 r2 : R2} {o o' : D → D → Res D} (hr1 : OpR X (compareOp op) r1) (hr2 : OpR X (compareOp op') r2) (ho : OpD g X.mg E r1 o) (ho' : OpD g X.mg E r2 o') (ha : PE X a (tF g X.mg E fa)) (hb : PE X b (tF g X.mg E fb)) (hc : PE X c (tF g X.mg E fc))
    (hm : lastMarks [op, op'] [b, c] = false := by with_unfolding_all rfl) : PT X (.Compare a [op, op'] [b, c] pos) (tFT g X.mg E (fTest (fChain o o' fa fb fc))) :=
  (pt_chain hr1 hr2 ha hb hc hm).imp fun σ H Q h => by
    obtain ⟨I, r, rl, er, h⟩ := tB_of h
    exact tChain_of ho ho' ⟨I, r, rl, er, h⟩
theorem e_lele (ha : PE X a (tF g X.mg E fa)) (hb : PE X b (tF g X.mg E fb)) (hc : PE X c (tF g X.mg E fc)) (hm : lastMarks [.LtE, .LtE] [b, c] = false := by with_unfolding_all rfl) : PE X (.Compare a [.LtE, .LtE] [b, c] pos) (tF g X.mg E (fChain dLe dLe fa fb fc)) := e_chain or_le or_le od_le od_le ha hb hc hm
theorem t_lele (ha : PE X a (tF g X.mg E fa)) (hb : PE X b (tF g X.mg E fb)) (hc : PE X c (tF g X.mg E fc)) (hm : lastMarks [.LtE, .LtE] [b, c] = false := by with_unfolding_all rfl) : PT X (.Compare a [.LtE, .LtE] [b, c] pos) (tFT g X.mg E (fTest (fChain dLe dLe fa fb fc))) := t_chain or_le or_le od_le od_le ha hb hc hm
/-! ### isinstance -/
def D.ty : D → String
  | .non => "NoneType" | .bl _ => "bool" | .int _ => "int" | .str _ => "str" | .tup _ => "tuple" | .lst _ => "list" | .dct _ => "dict" | .dice => "list" | .par _ => "tuple" | .dtt _ => "dict" | .dtf _ => "dict" | .exn _ => "NoneType" | .hs _ _ _ _ => "NoneType"
theorem kit_is (d : D) (T : Ty) : kitB d.ty T.nm = some (d.is T) := by
  cases d <;> cases T <;> (simp only [D.ty, Ty.nm, D.is]; decide +kernel)
/-- a value's type, a locked dict of tuples too -/
inductive TyY (K : PySem.W.Frag) (H : Hp) : V → Value → Prop where
  | x {v : V} {t : Value} (h : TyX K H v t) : TyY K H v t
  | fT {a : Addr} {o : Obj} {kvs : List (List Key × V)} (e : H a = some (.frz o (.dT kvs))) : TyY K H (.ref a) (.type "dict")
theorem kit_ofY {pins : List (Addr × Obj)} {σ : L2.St} {H : Hp} {s : Shared} {x : V} {u t : Value} (J : Inv X pins σ H s) (rx : RelV x u) (ty : TyY X.K H x t) : ∃ P : Heap → Prop, PySem.W.KitX X.K u t P ∧ P s.heap ∧ u ≠ .builtin "__main__.__loader__#opaque" := by
  cases ty with
  | x h => exact kit_of J rx h
  | @fT a ob kvs ea =>
    cases (show u = Value.ref a from rx)
    obtain ⟨_, _, _, xs, _, o, es, ep, h1, h2, _⟩ := (show ObjOk X.prog X.w H s.heap a (.frz ob (.dT kvs)) from J.hok a _ ea)
    exact ⟨_, PySem.W.kitx_dict, ⟨o, h1, h2.1⟩, fun z => nomatch z⟩
def rIsiY (K : PySem.W.Frag) : List V → Hp → VK → Prop := fun xs H Q => ∃ (x c : V) (t u : Value) (b : Bool), xs = [x, c] ∧ ClsV c u ∧ TyY K H x t ∧ PySem.W.kitOne K t u = some b ∧ Q (.bl b) H
theorem call_isiY : CallR X (.builtin "isinstance") (rIsiY X.K) := by
  intro pins s σ H xs us Q J r h
  obtain ⟨x, c, t, u, b, rfl, k, ty, e, q⟩ := h
  obtain ⟨u1, u2, rfl, r1, r2⟩ := vals2 r
  have e2 := k.eq r2
  subst e2
  obtain ⟨P, Z, p, hx⟩ := kit_ofY J r1 ty
  exact PySem.W.kia_one Z J.kIn p e hx fun tk => ⟨.bl b, H, J.tok tk, rfl, q⟩
theorem DR.tyx {K : PySem.W.Frag} {I H : Hp} {v : V} {d : D} (rl : Rl g I H) (h : DR g I v d) (hd : d.obj = false) : TyY K H v (.type d.ty) := by
  cases h with
  | exn _ => cases hd
  | hs _ _ _ _ => cases hd
  | non => exact .x (.base .non)
  | bl b => exact .x (.base (.bl b))
  | int i => exact .x (.base (.int i))
  | str x => exact .x (.base (.str x))
  | tup h u _ =>
    rcases u with ⟨e, _⟩ | ⟨o, _, e⟩
    · rw [e] at h; exact .x (.base (.tup (rl.sub _ _ h)))
    · rw [e] at h; exact .x (.fTuple (rl.sub _ _ h))
  | par h _ => exact .x (.base (.tup (rl.sub _ _ h)))
  | lst h _ => exact .x (.base (.lst (rl.sub _ _ h)))
  | dK h _ =>
    rcases rl.sub.rd h with e | ⟨o, e⟩
    · exact .x (.base (.dK e))
    · exact .x (.fDict e)
  | dT h _ =>
    rcases rl.sub.rd h with e | ⟨o, e⟩
    · exact .x (.base (.dT e))
    · exact .fT e
  | dF h _ => exact .fT (rl.sub _ _ h)
  | dice =>
    obtain ⟨x, y, q⟩ := rl.dice
    exact .x (.base (.lst q))
theorem e_isi {T : Ty} {y : Str} {p p' : Pos} (hg : Gl X "isinstance") (hm : X.mg "isinstance" = none) (hg2 : Gl X y) (hm2 : X.mg y = none) (hb2 : bootBuiltins y = some (.type T.nm)) (ha : PE X a (tF g X.mg E fa)) (hn : y ≠ "__name__" := by decide) (hd : (y == ("__debug__" : Str)) = false := by decide)
    (he : starEach (a :: [.Name y p']) X.env = (false, eval a X.env) :: starEach [.Name y p'] X.env := by rfl) :
    PE X (.Call (.Name "isinstance" p) [a, .Name y p'] [] pos) (tF g X.mg E (fIsi T fa)) :=
  (pe_callB (r := rIsiY X.K) call_isiY hg hm (by decide +kernel) (pa_cons ha (pa_cons (pe_bltn (v := .ty T.nm) hg2 hm2 hb2 rfl hn hd) pa_nil) he) (by decide) (by decide) he).imp fun σ H Q h => by
    obtain ⟨I, r, rl, er, h⟩ := h
    refine ⟨I, r, rl, er, Pst.first h fun d v I1 H1 _ s1 x1 h1 => ?_⟩
    have od : d.obj = false := by
      cases e : d.obj with
      | false => rfl
      | true => rw [if_pos e] at h1; exact h1.elim
    rw [if_neg (by rw [od]; decide)] at h1
    exact ⟨v, .ty T.nm, .type d.ty, .type T.nm, d.is T, rfl, .ty _, x1.tyx s1.rl od, kit_ty (kit_is d T), h1.here s1.rl (.bl _)⟩

/-! ### built-in functions of values -/
def CaD (g : Gd) (mg : Str → Option Value) (E : XK) (r : List V → Hp → VK → Prop) (dop : List D → Res D) : Prop := ∀ (I H : Hp) (ds : List D) (vs : List V) (Q : VK), Rl g I H → DRs g I vs ds → Pst g mg E (DR g) I H (dop ds) Q → r vs H Q
theorem tCB_of {r : List V → Hp → VK → Prop} {dop : List D → Res D} {k : FA} (hd : CaD g X.mg E r dop) {σ : L2.St} {H : Hp} {Q : VK} (h : tF g X.mg E (fCB dop k) σ H Q) : tCB r (tFA g X.mg E k) σ H Q := by
  obtain ⟨I, r, rl, er, h⟩ := h
  refine ⟨I, r, rl, er, Pst.first h fun ds vs I1 H1 _ s1 x1 h1 => ?_⟩
  exact hd I1 H1 ds vs Q s1.rl x1 h1
variable {e : Expr} {es : List Expr} {kk : FA} {x : Str} {p : Pos}
theorem e_callB {id : String} {r : List V → Hp → VK → Prop} {dop : List D → Res D} (hc : CallR X (.builtin id) r) (hd : CaD g X.mg E r dop) (hg : Gl X x) (hm : X.mg x = none) (hv : bootBuiltins x = some (.builtin id)) (ha : PA X (e :: es) (tFA g X.mg E kk)) (hn : x ≠ "__name__" := by decide) (hdb : (x == ("__debug__" : Str)) = false := by decide)
    (he : starEach (e :: es) X.env = (false, eval e X.env) :: starEach es X.env := by rfl) (hpl : (backTo pos (starEach es X.env)).any (·.1) = false := by rfl) : PE X (.Call (.Name x p) (e :: es) [] pos) (tF g X.mg E (fCB dop kk)) :=
  (pe_callB hc hg hm hv ha hn hdb he hpl).imp fun _ _ _ h => tCB_of hd h
theorem e_callTy {T : String} {r : List V → Hp → VK → Prop} {dop : List D → Res D} (hc : CallR X (.type T) r) (hd : CaD g X.mg E r dop) (hg : Gl X x) (hm : X.mg x = none) (hv : bootBuiltins x = some (.type T)) (ha : PA X (e :: es) (tFA g X.mg E kk)) (hn : x ≠ "__name__" := by decide) (hdb : (x == ("__debug__" : Str)) = false := by decide)
    (he : starEach (e :: es) X.env = (false, eval e X.env) :: starEach es X.env := by rfl) (hpl : (backTo pos (starEach es X.env)).any (·.1) = false := by rfl) : PE X (.Call (.Name x p) (e :: es) [] pos) (tF g X.mg E (fCB dop kk)) :=
  (pe_callTy hc hg hm hv ha hn hdb he hpl).imp fun _ _ _ h => tCB_of hd h
theorem cd_len : CaD g X.mg E (fun xs H Q => ∃ x n, xs = [x] ∧ LenV X.K x H n ∧ Q (.int n) H) dLen := by
  intro I H ds vs Q rl hs p
  unfold dLen at p
  split at p
  · split at p
    · rename_i c
      cases hs with
      | cons h t =>
        cases t
        cases h
        exact ⟨_, _, rfl, ⟨small_line c, rfl⟩, p.here rl (.int _)⟩
    · exact p.elim
  · cases hs with
    | cons h t =>
      cases t
      cases h with
      | tup h u r => exact ⟨_, _, rfl, .inr ⟨_, u.sqt (rl.sub _ _ h), rfl⟩, by rw [r.len]; exact p.here rl (.int _)⟩
  · cases hs with
    | cons h t =>
      cases t
      cases h with
      | lst h r => exact ⟨_, _, rfl, .inl ⟨_, SqL.of (rl.sub _ _ h), rfl⟩, by rw [r.len]; exact p.here rl (.int _)⟩
  · exact p.elim
theorem DRs.bls {I : Hp} : ∀ {vs : List V} {ds : List D} {bs : List Bool}, DRs g I vs ds → bools ds = some bs → vs = bs.map V.bl
  | _, _, _, .nil, h => by cases h; rfl
  | _, _, bs, .cons (ds := ds) r t, h => by
    cases r <;> first
      | (cases h; done)
      | (rename_i b
         rw [bools] at h
         cases e : bools ds with
         | none => rw [e] at h; cases h
         | some cs =>
           rw [e] at h; cases h
           rw [DRs.bls t e]; rfl)
theorem cd_all : CaD g X.mg E (rAll X.K) dAll := by
  intro I H ds vs Q rl hs p
  unfold dAll at p
  split at p
  · split at p
    · rename_i bs e
      cases hs with
      | cons h t =>
        cases t
        cases h with
        | lst h r => exact ⟨_, bs, rfl, SqL.of (by rw [← r.bls e]; exact rl.sub _ _ h), p.here rl (.bl _)⟩
    · exact p.elim
  · exact p.elim
theorem cd_any : CaD g X.mg E (rAny X.K) dAny := by
  intro I H ds vs Q rl hs p
  unfold dAny at p
  split at p
  · split at p
    · rename_i bs e
      cases hs with
      | cons h t =>
        cases t
        cases h with
        | lst h r => exact ⟨_, bs, rfl, SqL.of (by rw [← r.bls e]; exact rl.sub _ _ h), p.here rl (.bl _)⟩
    · exact p.elim
  · exact p.elim
theorem call_tupleX : CallR X (.type "tuple") (fun xs H Q => ∃ p ys, xs = [.ref p] ∧ ((SqL X.K H p ys ∧ ∀ l u, H l = none → TupO ys u → Q (.ref l) (upd H l u)) ∨ (SqT X.K H p ys ∧ Q (.ref p) H))) := by
  intro pins s σ H xs us Q I r h
  obtain ⟨p, ys, rfl, h⟩ := h
  obtain ⟨u, rfl, rx⟩ := vals1 r
  cases rx
  rcases h with ⟨hq, q⟩ | ⟨hq, q⟩
  · obtain ⟨its, r', pl, hz⟩ := I.list hq
    have hlen := r'.length
    refine call_tuple_list pl.isList (fun h' kp => ?_) (by simp only [List.size_toArray] <;> omega)
    have I1 : Inv X pins σ H { s with heap := h' } := I.kept (t' := s.toks) kp
    obtain ⟨u, hu, J⟩ := inv_tup (t' := s.toks) I1 (fun b u e => Heap.get?_push_of_some _ e) (Nat.le_refl _) (Heap.get?_push_size _ rfl) r' hz
    exact ⟨.ref h'.objs.size, _, J, rfl, q _ u (I1.hok.fresh (Nat.le_refl _)) hu⟩
  · obtain ⟨its, r', pl, hz⟩ := I.tuple hq
    exact call_tuple_same pl ⟨.ref p, H, I, rfl, q⟩
theorem cd_tuple : CaD g X.mg E (fun xs H Q => ∃ p ys, xs = [.ref p] ∧ ((SqL X.K H p ys ∧ ∀ l u, H l = none → TupO ys u → Q (.ref l) (upd H l u)) ∨ (SqT X.K H p ys ∧ Q (.ref p) H))) dTuple := by
  intro I H ds vs Q rl hs p
  unfold dTuple at p
  split at p
  · cases hs with
    | cons h t =>
      cases t
      cases h with
      | lst h r =>
        refine ⟨_, _, rfl, .inl ⟨SqL.of (rl.sub _ _ h), fun l u hl hu => ?_⟩⟩
        exact p _ _ _ (rl.put hl hu.nt) (.tup upd_same hu (r.mono (rl.put (o := u) hl hu.nt).mono))
  · cases hs with
    | cons h t =>
      cases t
      cases h with
      | tup h u r => exact ⟨_, _, rfl, .inr ⟨u.sqt (rl.sub _ _ h), p.here rl (.tup h u r)⟩⟩
  · exact p.elim
theorem cd_list : CaD g X.mg E (fun xs H Q => ∃ p ys, xs = [.ref p] ∧ (SqL X.K H p ys ∨ SqT X.K H p ys) ∧ ∀ l, H l = none → Q (.ref l) (upd H l (.lst ys))) dList := by
  intro I H ds vs Q rl hs p
  unfold dList at p
  split at p
  · cases hs with
    | cons h t =>
      cases t
      cases h with
      | lst h r =>
        refine ⟨_, _, rfl, .inl (SqL.of (rl.sub _ _ h)), fun l hl => ?_⟩
        exact p _ _ _ (rl.put hl) (.lst upd_same (r.mono (rl.put hl).mono))
  · cases hs with
    | cons h t =>
      cases t
      cases h with
      | tup h u r =>
        refine ⟨_, _, rfl, .inr (u.sqt (rl.sub _ _ h)), fun l hl => ?_⟩
        exact p _ _ _ (rl.put hl) (.lst upd_same (r.mono (rl.put hl).mono))
  · exact p.elim
theorem cd_int : CaD g X.mg E (fun xs H Q => (∃ i, xs = [.int i] ∧ Q (.int i) H) ∨ ∃ k, xs = [.bl k] ∧ Q (.int (if k then 1 else 0)) H) dInt := by
  intro I H ds vs Q rl hs p
  unfold dInt at p
  split at p
  · cases hs with
    | cons h t => cases t; cases h; exact .inl ⟨_, rfl, p.here rl (.int _)⟩
  · cases hs with
    | cons h t => cases t; cases h; exact .inr ⟨_, rfl, p.here rl (.int _)⟩
  · exact p.elim
theorem cd_max2 : CaD g X.mg E (fun xs H Q => ∃ i j, xs = [.int i, .int j] ∧ Q (.int (if j > i then j else i)) H) dMax2 := by
  intro I H ds vs Q rl hs p
  unfold dMax2 at p
  split at p
  · cases hs with
    | cons h t =>
      cases t with
      | cons h' t' => cases t'; cases h; cases h'; exact ⟨_, _, rfl, p.here rl (.int _)⟩
  · exact p.elim
theorem cd_min2 : CaD g X.mg E (fun xs H Q => ∃ i j, xs = [.int i, .int j] ∧ Q (.int (if j < i then j else i)) H) dMin2 := by
  intro I H ds vs Q rl hs p
  unfold dMin2 at p
  split at p
  · cases hs with
    | cons h t =>
      cases t with
      | cons h' t' => cases t'; cases h; cases h'; exact ⟨_, _, rfl, p.here rl (.int _)⟩
  · exact p.elim
theorem e_len (hg : Gl X "len") (hm : X.mg "len" = none) (ha : PA X (e :: es) (tFA g X.mg E kk)) (he : starEach (e :: es) X.env = (false, eval e X.env) :: starEach es X.env := by rfl) (hpl : (backTo pos (starEach es X.env)).any (·.1) = false := by rfl) : PE X (.Call (.Name "len" p) (e :: es) [] pos) (tF g X.mg E (fCB dLen kk)) := e_callB call_len cd_len hg hm boot_len ha (by decide) (by decide) he hpl
theorem e_all (hc : X.calm = true) (hg : Gl X "all") (hm : X.mg "all" = none) (ha : PA X (e :: es) (tFA g X.mg E kk)) (he : starEach (e :: es) X.env = (false, eval e X.env) :: starEach es X.env := by rfl) (hpl : (backTo pos (starEach es X.env)).any (·.1) = false := by rfl) : PE X (.Call (.Name "all" p) (e :: es) [] pos) (tF g X.mg E (fCB dAll kk)) := e_callB (cr_all hc) cd_all hg hm (by decide +kernel) ha (by decide) (by decide) he hpl
theorem e_any (hc : X.calm = true) (hg : Gl X "any") (hm : X.mg "any" = none) (ha : PA X (e :: es) (tFA g X.mg E kk)) (he : starEach (e :: es) X.env = (false, eval e X.env) :: starEach es X.env := by rfl) (hpl : (backTo pos (starEach es X.env)).any (·.1) = false := by rfl) : PE X (.Call (.Name "any" p) (e :: es) [] pos) (tF g X.mg E (fCB dAny kk)) := e_callB (cr_any hc) cd_any hg hm (by decide +kernel) ha (by decide) (by decide) he hpl
theorem e_tuple (hg : Gl X "tuple") (hm : X.mg "tuple" = none) (ha : PA X (e :: es) (tFA g X.mg E kk)) (he : starEach (e :: es) X.env = (false, eval e X.env) :: starEach es X.env := by rfl) (hpl : (backTo pos (starEach es X.env)).any (·.1) = false := by rfl) : PE X (.Call (.Name "tuple" p) (e :: es) [] pos) (tF g X.mg E (fCB dTuple kk)) := e_callTy call_tupleX cd_tuple hg hm (by decide +kernel) ha (by decide) (by decide) he hpl
theorem e_list (hg : Gl X "list") (hm : X.mg "list" = none) (ha : PA X (e :: es) (tFA g X.mg E kk)) (he : starEach (e :: es) X.env = (false, eval e X.env) :: starEach es X.env := by rfl) (hpl : (backTo pos (starEach es X.env)).any (·.1) = false := by rfl) : PE X (.Call (.Name "list" p) (e :: es) [] pos) (tF g X.mg E (fCB dList kk)) := e_callTy call_list_of cd_list hg hm (by decide +kernel) ha (by decide) (by decide) he hpl
theorem e_max2 (hc : X.calm = true) (hg : Gl X "max") (hm : X.mg "max" = none) (ha : PA X (e :: es) (tFA g X.mg E kk)) (he : starEach (e :: es) X.env = (false, eval e X.env) :: starEach es X.env := by rfl) (hpl : (backTo pos (starEach es X.env)).any (·.1) = false := by rfl) : PE X (.Call (.Name "max" p) (e :: es) [] pos) (tF g X.mg E (fCB dMax2 kk)) := e_callB (call_max2 hc) cd_max2 hg hm (by decide +kernel) ha (by decide) (by decide) he hpl
theorem e_min2 (hc : X.calm = true) (hg : Gl X "min") (hm : X.mg "min" = none) (ha : PA X (e :: es) (tFA g X.mg E kk)) (he : starEach (e :: es) X.env = (false, eval e X.env) :: starEach es X.env := by rfl) (hpl : (backTo pos (starEach es X.env)).any (·.1) = false := by rfl) : PE X (.Call (.Name "min" p) (e :: es) [] pos) (tF g X.mg E (fCB dMin2 kk)) := e_callB (call_min2 hc) cd_min2 hg hm (by decide +kernel) ha (by decide) (by decide) he hpl

/-! ### items and slices -/
theorem atI_dr {I : Hp} {vs : List V} {ds : List D} {i : Int} {d : D} (h : DRs g I vs ds) (e : atI ds i = some d) : ∃ v, atI vs i = some v ∧ DR g I v d := by
  unfold atI at e ⊢
  rw [h.len]
  cases q : ixN ds.length i with
  | none => rw [q] at e; cases e
  | some j =>
    rw [q] at e
    exact h.at_ e
theorem od_ix : OpD g X.mg E (rIx X.K) dIx := by
  intro I H x y v u Q rl hx hy p
  unfold dIx at p
  split at p
  · split at p
    · rename_i d e
      cases hy
      cases hx with
      | lst h r =>
        obtain ⟨w, h1, h2⟩ := atI_dr r e
        exact .inl ⟨_, _, _, w, rfl, rfl, SqL.of (rl.sub _ _ h), h1, p.here rl h2⟩
    · exact p.elim
  · split at p
    · rename_i d e
      cases hy
      cases hx with
      | tup h u r =>
        obtain ⟨w, h1, h2⟩ := atI_dr r e
        exact .inr (.inl ⟨_, _, _, w, rfl, rfl, u.sqt (rl.sub _ _ h), h1, p.here rl h2⟩)
    · exact p.elim
  · split at p
    · rename_i hz
      split at p
      · rename_i c e
        cases hx; cases hy
        exact .inr (.inr ⟨_, _, c, rfl, rfl, small_line hz, e, p.here rl (.str _)⟩)
      · exact p.elim
    · exact p.elim
  · exact p.elim
theorem e_ix (ha : PE X a (tF g X.mg E fa)) (hb : PE X b (tF g X.mg E fb)) (hs : PlainIx b := by exact fun _ _ => rfl) : PE X (.Subscript a b pos) (tF g X.mg E (fOp dIx fa fb)) :=
  (pe_ix ix_seq ha hb hs).imp fun _ _ _ h => tOp_of od_ix h
def tFO (g : Gd) (mg : Str → Option Value) (E : XK) (f : FO) : TO := fun σ H Q => ∃ I r, Rl g I H ∧ ER g I σ r ∧ Pst g mg E (fun _ (v d : Option Int) => v = d) I H (f r) Q
theorem o_no : PO X none (tFO g X.mg E fNo) := po_none.imp fun σ H Q h => by
  obtain ⟨I, r, rl, er, h⟩ := h
  exact h.here rl rfl
theorem o_part (h : PE X e (tF g X.mg E fa)) : PO X (some e) (tFO g X.mg E (fPart fa)) := (po_some h).imp fun σ H Q h => by
  obtain ⟨I, r, rl, er, h⟩ := h
  refine ⟨I, r, rl, er, Pst.first h fun d v I1 H1 _ s1 x1 h1 => ?_⟩
  cases x1 with
  | int i => exact ⟨i, rfl, h1.here s1.rl rfl⟩
  | _ => exact h1.elim
theorem cut_dr {I : Hp} {vs : List V} {ds : List D} (h : DRs g I vs ds) (lo hi : Option Int) : DRs g I (cutV vs lo hi) (cutD ds lo hi) := by
  unfold cutV cutD
  rw [h.len]
  exact (h.drop _).take _
theorem cut_whole {I : Hp} {vs : List V} {ds : List D} {lo hi : Option Int} (t : DRs g I vs ds) (hw : HT.sIx vs.length 0 lo = 0 ∧ HT.sIx vs.length vs.length hi = vs.length) : cutD ds lo hi = ds := by
  unfold cutD
  rw [← t.len, hw.1, hw.2, Nat.sub_zero, List.drop_zero, t.len, List.take_length]
def rSlX (K : PySem.W.Frag) : V → Option Int → Option Int → Hp → VK → Prop := fun x lo hi H Q => ∃ a xs, x = .ref a ∧ SqT K H a xs ∧
  (HT.sIx xs.length 0 lo = 0 ∧ HT.sIx xs.length xs.length hi = xs.length → Q (.ref a) H) ∧ (¬ (HT.sIx xs.length 0 lo = 0 ∧ HT.sIx xs.length xs.length hi = xs.length) → ∀ p u, H p = none → TupO (cutV xs lo hi) u → Q (.ref p) (upd H p u))
theorem sl_tupX : SlR X (rSlX X.K) := by
  intro pins s σ H x v vl vu lo hi sl Q I rx hs pl pu h
  obtain ⟨a, xs, rfl, hx, q1, q2⟩ := h
  cases rx
  obtain ⟨its, r, ht, hz⟩ := I.tuple hx
  have hlen : its.toArray.size = xs.length := by rw [List.size_toArray]; exact r.length.symm
  refine ⟨"tuple", _, PyProof.Rows.slot_tuple_getitem.lookup, ht.typeIs, ?_⟩
  by_cases hw : HT.sIx xs.length 0 lo = 0 ∧ HT.sIx xs.length xs.length hi = xs.length
  · exact getItem_tuple_whole ht hs pl pu (by rw [hlen]; exact hw) ⟨.ref a, H, I, rfl, q1 hw⟩
  · refine HT.getItem_tuple_cut ht hs pl pu (by rw [hlen]; exact hw) ?_ (by rw [hlen]; exact hz)
    rw [hlen]
    obtain ⟨u, hu, J⟩ := inv_tup (t' := s.toks) (xs := cutV xs lo hi) I (fun b u e => Heap.get?_push_of_some _ e) (Nat.le_refl _) (Heap.get?_push_size _ rfl) ((r.drop (HT.sIx xs.length 0 lo)).take (HT.sIx xs.length xs.length hi - HT.sIx xs.length 0 lo)) (Nat.le_trans (cutV_length xs lo hi) hz)
    exact ⟨.ref s.heap.objs.size, _, J, rfl, q2 hw _ u (I.hok.fresh (Nat.le_refl _)) hu⟩
theorem e_cut {lo hi : Option Expr} {fl fh : FO} {p2 : Pos} (ha : PE X a (tF g X.mg E fa)) (hl : PO X lo (tFO g X.mg E fl)) (hh : PO X hi (tFO g X.mg E fh)) : PE X (.Subscript a (.Slice lo hi none p2) pos) (tF g X.mg E (fCut fa fl fh)) :=
  (pe_slice (sl_list.or (sl_tupX.or sl_str)) ha hl hh).imp fun σ H Q h => by
    obtain ⟨I, r, rl, er, h⟩ := h
    refine ⟨I, r, rl, er, Pst.first h fun x v I1 H1 _ s1 x1 h1 => ?_⟩
    refine ⟨I1, r, s1.rl, er.mono s1.mono, Pst.first h1 fun l l' I2 H2 _ s2 x2 h2 => ?_⟩
    refine ⟨I2, r, s2.rl, er.mono (s1.trans s2).mono, Pst.first h2 fun u u' I3 H3 _ s3 x3 h3 => ?_⟩
    subst x2; subst x3
    have y := x1.mono (s2.trans s3).mono
    cases y with
    | lst q t =>
      refine .inl ⟨_, _, rfl, SqL.of (s3.rl.sub _ _ q), fun p hp => ?_⟩
      exact h3 _ _ _ (s3.rl.put hp) (.lst upd_same ((cut_dr t _ _).mono (s3.rl.put hp).mono))
    | tup q uq t =>
      rename_i pa vs _ _
      refine .inr (.inl ⟨_, _, rfl, uq.sqt (s3.rl.sub _ _ q), fun hw => ?_, fun _ p u hp hu => ?_⟩)
      · have e := cut_whole (lo := l') (hi := u') t hw
        exact h3 _ I3 H3 s3.rl.stp (.tup q uq (by rw [e]; exact t))
      · exact h3 _ _ _ (s3.rl.put hp hu.nt) (.tup upd_same hu ((cut_dr t _ _).mono (s3.rl.put (o := u) hp hu.nt).mono))
    | str z =>
      have h3' : Pst g X.mg E (DR g) I3 H3 (if z.length ≤ 100000 then .ok (.str (cutS z l' u')) else .bad) Q := h3
      split at h3'
      · rename_i c
        exact .inr (.inr ⟨_, rfl, small_line c, h3'.here s3.rl (.str _)⟩)
      · exact h3'.elim
    | _ => exact h3.elim

/-! ### calls of defs -/
def spF (mg : Str → Option Value) (f : List D → Res D) : Sp := fun vs H Q E => ∃ (g : Gd) (I : Hp) (ds : List D), Rl g I H ∧ DRs g I vs ds ∧ Pst g mg E (DR g) I H (f ds) Q
theorem e_call {CX : CXT} {kl : Nat} {f : Addr} {fd : FuncData} {ps : List Str} {fn : List D → Res D} (F : FnOk X.prog X.w X.K X.mg X.base CX kl f fd ps (spF X.mg fn)) (hr : Room kl X.A) (hg : Gl X x) (hm : X.mg x = some (.ref f)) (hk : PySem.W.keepIn X.K (.ref f) = true) (hb : Binds X.K fd ps []) (hx : Passes CX X E)
    (ha : PA X (e :: es) (tFA g X.mg E kk)) (hdb : (x == ("__debug__" : Str)) = false := by decide) (he : starEach (e :: es) X.env = (false, eval e X.env) :: starEach es X.env := by rfl) (hpl : (backTo pos (starEach es X.env)).any (·.1) = false := by rfl) :
    PE X (.Call (.Name x p) (e :: es) [] pos) (tF g X.mg E (fCall fn kk)) :=
  (pe_call F hr hg hm hk hb .nil hx ha hdb he hpl).imp fun σ H Q h => by
    obtain ⟨I, r, rl, er, h⟩ := h
    refine ⟨I, r, rl, er, Pst.first h fun ds vs I1 H1 _ s1 x1 h1 => ?_⟩
    show spF X.mg fn (vs ++ []) H1 Q E
    rw [List.append_nil]
    exact ⟨g, I1, ds, s1.rl, x1, h1⟩
end
end FW
/-! What is walked: lists, tuples, texts, ranges; enumerate and zip of lists and tuples in any mix. -/
namespace FW
open PySem PySem.Spec PyProof.Rows L2

/-! ### enumerate(v), one argument -/
theorem en1_new {v : Value} {o : Obj} {P : Heap → Prop} (B : Begins v o P) :
    Meets (Builtin.«enumerate.__new__» ⟨[.type "enumerate", v], []⟩) (fun _ R s => P s.heap ∧
      R (.ok (.ret (.ref (s.heap.push o).objs.size))) { s with heap := (s.heap.push o).push { cls := .type "enumerate", data := .fields #[.none, .bool false, .ref s.heap.objs.size, rawInt 0, .none, .none] } }) := by
  refine Meets.of_wp fun prog w A R s hh => ?_
  obtain ⟨hp, gs, dr, tk, os⟩ := s
  obtain ⟨h1, hR⟩ := hh
  have hsub := sub_enumerate
  have go : ∀ {A' : Around} {E : Value → Shared → Prop} {Q : Value → Shared → Prop}, Q (.ref hp.objs.size) ⟨hp.push o, gs, dr, tk, os⟩ → wpAny (model prog w) A' (pyIter v) Q E ⟨hp, gs, dr, tk, os⟩ := fun q => B.iter prog w _ _ ⟨hp, gs, dr, tk, os⟩ _ h1 q
  wp_walk using go
  refine wpAny_stack_any fun st => wpAny_pure ?_
  split
  · rename_i c _ _ _ _ _
    cases (c == Value.type "enumerate") <;> (wp_walk using go; exact ⟨_, rfl, hR⟩)
  · wp_walk using go
    exact ⟨_, rfl, hR⟩
section
variable {prog : Program} {w : World} {A : Around} {E : Value → Shared → Prop} {s : Shared}
theorem en1_call {v : Value} {o : Obj} {P : Heap → Prop} {Q : Value → Shared → Prop} (B : Begins v o P) (h1 : P s.heap)
    (h : ∀ h', IsEnum h' (s.heap.objs.size + 1) s.heap.objs.size 0 .none → h'.get? s.heap.objs.size = some o → (∀ b u, s.heap.get? b = some u → h'.get? b = some u) → Q (.ref (s.heap.objs.size + 1)) { s with heap := h' }) :
    wpAny (model prog w) A (call (.type "enumerate") [v]) Q E s := by
  refine callType_new F.called_enumerate (by decide) (F.typeCall_enumerate_1 _) (F.newCall_enumerate_1 _) (fun obj => F.args_object_init_2 obj _) F.entry_enumerate_new (en1_new B) ⟨h1, ?_⟩
  have sz : (s.heap.push o).objs.size = s.heap.objs.size + 1 := Heap.size_push ..
  have en : IsEnum ((s.heap.push o).push { cls := .type "enumerate", data := .fields #[.none, .bool false, .ref s.heap.objs.size, rawInt 0, .none, .none] }) (s.heap.objs.size + 1) s.heap.objs.size 0 .none := by
    have z := Heap.get?_push_size (s.heap.push o) (o := { cls := .type "enumerate", data := .fields #[.none, .bool false, .ref s.heap.objs.size, rawInt 0, .none, .none] }) rfl
    rw [sz] at z
    exact z
  show _ ∧ _
  rw [sz]
  exact ⟨⟨_, en, rfl⟩, h _ en (Heap.get?_push_of_some _ (Heap.get?_push_size _ B.free)) fun b u x => Heap.get?_push_of_some _ (Heap.get?_push_of_some _ x)⟩
end

/-! ### a sequence: list or tuple -/
/-- the sequence at a -/
def SqA (K : PySem.W.Frag) (H : Hp) (t : Bool) (a : Addr) (xs : List V) : Prop := if t then SqT K H a xs else SqL K H a xs
def sqIt (t : Bool) (a : Addr) : Obj := if t then { cls := .type "tuple_iterator", data := .fields #[.ref a, .int 0 0] } else { cls := .type "list_iterator", data := .fields #[.ref a, .int 0 0] }
theorem sq_of_inv {X : Cx} {pins : List (Addr × Obj)} {σ : L2.St} {H : Hp} {s : Shared} {t : Bool} {a : Addr} {xs : List V} (I : Inv X pins σ H s) (h : SqA X.K H t a xs) : ∃ its : List Value, Vals xs its ∧ IsSq s.heap t a its.toArray ∧ a < s.heap.objs.size := by
  cases t with
  | true =>
    obtain ⟨its, r, p, _⟩ := I.tuple h
    obtain ⟨o, ho, _⟩ := id p
    exact ⟨its, r, p, Heap.lt_size ho⟩
  | false =>
    obtain ⟨its, r, p, _⟩ := I.list h
    exact ⟨its, r, p.isList, p.lt⟩
theorem sq_inj {X : Cx} {pins : List (Addr × Obj)} {σ : L2.St} {H : Hp} {s : Shared} {t : Bool} {a : Addr} {xs ys : List V} (I : Inv X pins σ H s) (h : SqA X.K H t a xs) (h' : SqA X.K H t a ys) : xs = ys := by
  cases t with
  | true => exact I.tuple_inj h h'
  | false => exact I.list_inj h h'
theorem begins_sq (t : Bool) (a : Addr) (its : Array Value) : Begins (.ref a) (sqIt t a) fun h => IsSq h t a its := by
  cases t with
  | true => exact begins_tuple a its
  | false => exact begins_list a its
theorem draws_sq {prog : Program} {w : World} {A : Around} (hh : A.handled = none) (t : Bool) (it a : Addr) (ne : a ≠ it) (its : Array Value) :
    Draws prog w A it [it, a] its.size (fun i v => its[i]? = some v) (fun i h => IsSqIt h t it a i ∧ IsSq h t a its) := by
  cases t with
  | true => exact Draws.tuple hh it a ne its
  | false => exact Draws.list hh it a ne its
theorem sqIt_at {h : Heap} {t : Bool} {it a : Addr} (e : h.get? it = some (sqIt t a)) : IsSqIt h t it a 0 := by
  cases t with
  | true => exact ⟨_, e, rfl, rfl⟩
  | false => exact ⟨_, e, rfl, rfl⟩
/-! ### enumerate of it -/
def ItE (K : PySem.W.Frag) (t : Bool) (a : Addr) : It :=
  ⟨fun i H => ∃ (xs : List V) (x : V), SqA K H t a xs ∧ xs[i]? = some x,
   fun i H v H' => ∃ T x, v = .ref T ∧ H T = none ∧ H' = upd H T (.tup [.int (i : Nat), x]) ∧ ∀ xs, SqA K H t a xs → xs[i]? = some x,
   fun i H => ∃ xs : List V, SqA K H t a xs ∧ xs.length = i⟩
theorem turn_E {P : Program} {w : World} {K : PySem.W.Frag} {elts : List Expr} {kk : Nat} {tpos : Pos} (t : Bool) (a e it : Addr) (hae : a ≠ e) (hai : a ≠ it) (hne : e ≠ it) :
    Turn P w K (.Tuple elts kk tpos) (ItE K t a) [e, it] e (fun i h => (∃ old, IsEnum h e it (0 + ((i : Nat) : Int)) old) ∧ IsSqIt h t it a i) where
  mem := List.mem_cons_self
  obj := fun i h st b hb => by
    obtain ⟨⟨old, he⟩, hi⟩ := st
    rcases List.mem_cons.mp hb with z | z
    · rw [z]; exact ⟨_, he, fun v q => nomatch q⟩
    · rw [List.mem_singleton.mp z]; exact hi.obj
  keep := fun i h h' st k => let ⟨⟨old, he⟩, hi⟩ := st; ⟨⟨old, k e List.mem_cons_self _ he⟩, hi.keep fun o q => k it (List.mem_cons_of_mem _ List.mem_cons_self) o q⟩
  item := by
    intro X hP hw hK hc i pins s σ H E I hf st hg
    subst hP hw hK
    obtain ⟨en, hi⟩ := st
    obtain ⟨xs, x, hq, hx⟩ := hg
    obtain ⟨its, rv, sq, _⟩ := sq_of_inv I hq
    obtain ⟨u, hu, ru⟩ := rv.get hx
    have hlen := rv.length
    have hlt : i < its.toArray.size := by
      have := (List.getElem?_eq_some_iff.mp hu).1
      simpa using this
    have hd : X.A.in1.handled = none := I.ok.hd hc
    have W := GoesN.enumFrom (prog := X.prog) (w := X.w) (A := X.A) (elts := elts) (x1 := kk) (pos := tpos) 0 (draws_sq hd t it a hai its.toArray) e hne (by simp [hne, hae.symm]) List.mem_cons_self
    obtain ⟨old, he⟩ := id en
    refine W.goes i s _ _ hlt ⟨en, hi, sq⟩ fun v h' tk hY st' hk _ => ?_
    obtain ⟨T, tt, y, rfl, hT, hy, hTT⟩ := hY
    have ey : y = u := by
      have hy' : its[i]? = some y := by simpa using hy
      rw [hu] at hy'
      exact (Option.some.inj hy').symm
    subst ey
    have new : ObjOk X.prog X.w (upd H T (.tup [.int (i : Nat), x])) h' T (.tup [.int (i : Nat), x]) :=
      ⟨by show 2 ≤ sizeLine; decide, [.int (0 + (i : Int)) tt, y], .cons ⟨tt, by rw [Int.zero_add]⟩ (.cons ru .nil), hTT⟩
    have fresh : ∀ b, b ∈ [e, it] → b ≠ T := fun b hb z => by
      obtain ⟨o, ho⟩ : ∃ o, s.heap.get? b = some o := by
        rcases List.mem_cons.mp hb with q | q
        · rw [q]; exact ⟨_, he⟩
        · rw [List.mem_singleton.mp q]; exact ⟨_, hi.obj.choose_spec.1⟩
      exact absurd (Nat.lt_of_lt_of_le (Heap.lt_size ho) hT) (by rw [z]; exact Nat.lt_irrefl _)
    have I1 : Inv X pins σ (upd H T (.tup [.int (i : Nat), x])) { s with heap := h', toks := tk } := I.turnedNew (ch := [e, it]) (fun b o hb q => hk b o hb q) hf hT new
    exact ⟨.ref T, _, I1, rfl, ⟨T, x, rfl, I.hok.fresh hT, rfl, fun ys hys => by rw [sq_inj I hys hq]; exact hx⟩, ⟨by
      obtain ⟨⟨o2, q2⟩, _⟩ := st'
      exact ⟨o2, q2⟩, st'.2.1⟩, fun b hb => by rw [upd_ne (fresh b hb)]; exact (hf b hb).1⟩
  done := by
    intro X hP hw hK hc i pins s σ H E I hf st hg
    subst hP hw hK
    obtain ⟨en, hi⟩ := st
    obtain ⟨xs, hq, hx⟩ := hg
    obtain ⟨its, rv, sq, _⟩ := sq_of_inv I hq
    have hlen := rv.length
    have ei : i = its.toArray.size := by
      rw [← hx, hlen]
      exact List.size_toArray.symm
    have hd : X.A.in1.handled = none := I.ok.hd hc
    have W := GoesN.enumFrom (prog := X.prog) (w := X.w) (A := X.A) (elts := elts) (x1 := kk) (pos := tpos) 0 (draws_sq hd t it a hai its.toArray) e hne (by simp [hne, hae.symm]) List.mem_cons_self
    subst ei
    exact wpAny_mono (W.stops s (fun s1 => Inv X pins σ H s1) E ⟨en, hi, sq⟩ fun h' tk hk _ => I.turnedL (ch := [e, it]) (fun b o hb q => hk b o hb q) hf) (fun r s1 ⟨h1, h2⟩ => ⟨h1, h2⟩) fun _ _ z => z
  self := fun A i s Q E st h => let ⟨⟨_, he⟩, _⟩ := st; wpAny_pyIter_enum he h
def iE (K : PySem.W.Frag) (ta : TA) : TI := fun σ H R => ta σ H fun vs H1 => ∃ t a xs, vs = [.ref a] ∧ SqA K H1 t a xs ∧ R (ItE K t a) H1
theorem pi_E {X : Cx} {e : Expr} {ta : TA} {p pos tpos : Pos} {elts : List Expr} {kk : Nat} (hg : Gl X "enumerate") (hm : X.mg "enumerate" = none) (ha : PA X [e] ta) (hs : starEach [e] X.env = [(false, eval e X.env)] := by rfl) :
    PI X (.Tuple elts kk tpos) (.Call (.Name "enumerate" p) [e] [] pos) (iE X.K ta) := by
  refine ⟨fun pins s σ H R I h => ?_⟩
  refine Call_ (ld_blt I hg hm boot_enumerate (PyProof.Rows.callWith_type1 (thn (ha.run pos pins s σ H _ I h) fun us s1 ⟨vs, H1, I1, r1, q1⟩ => ?_) hs rfl))
  obtain ⟨t, a, xs, ex, hq, q⟩ := q1
  subst ex
  obtain rfl := Vals.ref1 r1
  obtain ⟨its, rv, sq, hlt⟩ := sq_of_inv I1 hq
  refine en1_call (begins_sq t a its.toArray) sq fun h' he hit hk => wpAny_pyIter_enum he ?_
  have I2 : Inv X pins σ H1 { s1 with heap := h' } := I1.kept (t' := s1.toks) hk
  refine ⟨s1.heap.objs.size + 1, [s1.heap.objs.size + 1, s1.heap.objs.size], _, _, H1, rfl, I2, turn_E t a (s1.heap.objs.size + 1) s1.heap.objs.size (Nat.ne_of_lt (Nat.lt_succ_of_lt hlt)) (Nat.ne_of_lt hlt) (Nat.succ_ne_self _), ⟨⟨.none, he⟩, sqIt_at hit⟩, fun b hb => ?_, q⟩
  have hle : s1.heap.objs.size ≤ b := by
    rcases List.mem_cons.mp hb with z | z
    · rw [z]; exact Nat.le_add_right _ _
    · rw [List.mem_singleton.mp z]; exact Nat.le_refl _
  exact I1.fpOk hle (I1.hok.fresh hle)
end FW
/-! zip of two sequences, lists or tuples in any mix; what is walked, by functions over data. -/
namespace FW
open PySem PySem.Spec PyProof.Rows L2

def ItZ (K : PySem.W.Frag) (t t' : Bool) (a b : Addr) : It :=
  ⟨fun i H => ∃ (xs ys : List V) (x y : V), SqA K H t a xs ∧ SqA K H t' b ys ∧ xs[i]? = some x ∧ ys[i]? = some y,
   fun i H v H' => ∃ T x y, v = .ref T ∧ H T = none ∧ H' = upd H T (.tup [x, y]) ∧ (∀ xs, SqA K H t a xs → xs[i]? = some x) ∧ ∀ ys, SqA K H t' b ys → ys[i]? = some y,
   fun i H => ∃ xs ys : List V, SqA K H t a xs ∧ SqA K H t' b ys ∧ min xs.length ys.length = i⟩
def ZSt (t t' : Bool) (a b z TI TO i1 i2 : Addr) (i : Nat) (h : Heap) : Prop :=
  IsZip h z TI TO .none ∧ IsTupOf2 h TI (.ref i1) (.ref i2) ∧ (∃ a1 a2, IsTupOf2 h TO a1 a2) ∧ IsSqIt h t i1 a i ∧ IsSqIt h t' i2 b i
theorem zst_all {t t' : Bool} {a b z TI TO i1 i2 : Addr} {i : Nat} {h : Heap} (st : ZSt t t' a b z TI TO i1 i2 i h) : ∀ c ∈ [z, TI, TO, i1, i2], ∃ o, h.get? c = some o ∧ ∀ v, o.data ≠ .cell v := by
  obtain ⟨h1, h2, ⟨a1, a2, h3⟩, h4, h5⟩ := st
  intro c hc
  simp only [List.mem_cons, List.not_mem_nil, or_false] at hc
  rcases hc with rfl | rfl | rfl | rfl | rfl
  · exact ⟨_, h1, fun v q => nomatch q⟩
  · exact ⟨_, h2, fun v q => nomatch q⟩
  · exact ⟨_, h3, fun v q => nomatch q⟩
  · exact h4.obj
  · exact h5.obj
theorem turn_Z {P : Program} {w : World} {K : PySem.W.Frag} {elts : List Expr} {kk : Nat} {tpos : Pos} (t t' : Bool) {a b z TI TO i1 i2 : Addr} (S : ZipSep2 z TI TO i1 i2 [i1, a] [i2, b]) (na : a ≠ i1) (nb : b ≠ i2) :
    Turn P w K (.Tuple elts kk tpos) (ItZ K t t' a b) [z, TI, TO, i1, i2] z (ZSt t t' a b z TI TO i1 i2) where
  mem := List.mem_cons_self
  obj := fun i h st c hc => zst_all st c hc
  keep := fun i h h' st k => by
    obtain ⟨h1, h2, ⟨a1, a2, h3⟩, h4, h5⟩ := st
    exact ⟨k z (by simp) _ h1, k TI (by simp) _ h2, ⟨a1, a2, k TO (by simp) _ h3⟩, h4.keep fun o q => k i1 (by simp) o q, h5.keep fun o q => k i2 (by simp) o q⟩
  item := by
    intro X hP hw hK hc i pins s σ H E I hf st hg
    subst hP hw hK
    obtain ⟨xs, ys, x, y, hq, hq', hx, hy⟩ := hg
    obtain ⟨its, rv, sq, _⟩ := sq_of_inv I hq
    obtain ⟨jts, rw', sq', _⟩ := sq_of_inv I hq'
    obtain ⟨u, hu, ru⟩ := rv.get hx
    obtain ⟨u', hu', ru'⟩ := rw'.get hy
    have l1 : i < its.toArray.size := by simpa using (List.getElem?_eq_some_iff.mp hu).1
    have l2 : i < jts.toArray.size := by simpa using (List.getElem?_eq_some_iff.mp hu').1
    have hd : X.A.in1.handled = none := I.ok.hd hc
    have W := GoesN.zip2 (prog := X.prog) (w := X.w) (A := X.A) (elts := elts) (x1 := kk) (pos := tpos) S (draws_sq hd t i1 a na its.toArray) (draws_sq hd t' i2 b nb jts.toArray)
    have all := zst_all st
    obtain ⟨h1, h2, h3, h4, h5⟩ := st
    refine W.goes i s _ _ (Nat.lt_min.mpr ⟨l1, l2⟩) ⟨h1, h2, h3, ⟨h4, sq⟩, ⟨h5, sq'⟩⟩ fun v h' tk hY st' hk _ => ?_
    obtain ⟨T, v1, v2, rfl, hT, e1, e2, hTT⟩ := hY
    have z1 : v1 = u := by
      have q : its[i]? = some v1 := by simpa using e1
      rw [hu] at q
      exact (Option.some.inj q).symm
    have z2 : v2 = u' := by
      have q : jts[i]? = some v2 := by simpa using e2
      rw [hu'] at q
      exact (Option.some.inj q).symm
    subst z1; subst z2
    have new : ObjOk X.prog X.w (upd H T (.tup [x, y])) h' T (.tup [x, y]) := ⟨by show 2 ≤ sizeLine; decide, [v1, v2], .cons ru (.cons ru' .nil), hTT⟩
    have I1 : Inv X pins σ (upd H T (.tup [x, y])) { s with heap := h', toks := tk } :=
      I.turnedNew (ch := [z, TI, TO, i1, i2]) (fun c o hb q => hk c o (fun m => hb (by
        simp only [List.mem_cons, List.not_mem_nil, or_false] at m ⊢
        rcases m with m | m | m | m
        · exact .inl m
        · exact .inr (.inr (.inl m))
        · exact .inr (.inr (.inr (.inl m)))
        · exact .inr (.inr (.inr (.inr m))))) q) hf hT new
    refine ⟨.ref T, _, I1, rfl, ⟨T, x, y, rfl, I.hok.fresh hT, rfl, fun zs hz => by rw [sq_inj I hz hq]; exact hx, fun zs hz => by rw [sq_inj I hz hq']; exact hy⟩, ⟨st'.1, st'.2.1, st'.2.2.1, st'.2.2.2.1.1, st'.2.2.2.2.1⟩, fun c hc => ?_⟩
    obtain ⟨o, ho, _⟩ := all c hc
    rw [upd_ne (Nat.ne_of_lt (Nat.lt_of_lt_of_le (Heap.lt_size ho) hT))]
    exact (hf c hc).1
  done := by
    intro X hP hw hK hc i pins s σ H E I hf st hg
    subst hP hw hK
    obtain ⟨xs, ys, hq, hq', hn⟩ := hg
    obtain ⟨its, rv, sq, _⟩ := sq_of_inv I hq
    obtain ⟨jts, rw', sq', _⟩ := sq_of_inv I hq'
    have ei : i = min its.toArray.size jts.toArray.size := by
      rw [← hn, rv.length, rw'.length, List.size_toArray, List.size_toArray]
    have hd : X.A.in1.handled = none := I.ok.hd hc
    have W := GoesN.zip2 (prog := X.prog) (w := X.w) (A := X.A) (elts := elts) (x1 := kk) (pos := tpos) S (draws_sq hd t i1 a na its.toArray) (draws_sq hd t' i2 b nb jts.toArray)
    obtain ⟨h1, h2, h3, h4, h5⟩ := st
    subst ei
    refine wpAny_mono (W.stops s (fun s1 => Inv X pins σ H s1) E ⟨h1, h2, h3, ⟨h4, sq⟩, ⟨h5, sq'⟩⟩ fun h' tk hk _ => I.turnedL (ch := [z, TI, TO, i1, i2]) (fun c o hb q => hk c o (fun m => hb ?_) q) hf) (fun r s1 ⟨h1, h2⟩ => ⟨h1, h2⟩) fun _ _ z => z
    simp only [List.mem_cons, List.not_mem_nil, or_false] at m ⊢
    rcases m with m | m | m | m
    · exact .inl m
    · exact .inr (.inr (.inl m))
    · exact .inr (.inr (.inr (.inl m)))
    · exact .inr (.inr (.inr (.inr m)))
  self := fun A i s Q E st h => wpAny_pyIter_zip st.1 h
def iZ (K : PySem.W.Frag) (ta : TA) : TI := fun σ H R => ta σ H fun vs H1 => ∃ t t' a b xs ys, vs = [.ref a, .ref b] ∧ SqA K H1 t a xs ∧ SqA K H1 t' b ys ∧ R (ItZ K t t' a b) H1
theorem pi_Z {X : Cx} {e e2 : Expr} {ta : TA} {p pos tpos : Pos} {elts : List Expr} {kk : Nat} (hg : Gl X "zip") (hm : X.mg "zip" = none) (ha : PA X [e, e2] ta)
    (hs : starEach [e, e2] X.env = (false, eval e X.env) :: starEach [e2] X.env := by rfl) (hpl : (backTo pos (starEach [e2] X.env)).any (·.1) = false := by rfl) :
    PI X (.Tuple elts kk tpos) (.Call (.Name "zip" p) [e, e2] [] pos) (iZ X.K ta) := by
  refine ⟨fun pins s σ H R I h => ?_⟩
  refine Call_ (ld_blt I hg hm PyProof.Rows.boot_zip (PyProof.Rows.callWith_type1 (thn (ha.run pos pins s σ H _ I h) fun us s1 ⟨vs, H1, I1, r1, q1⟩ => ?_) hs hpl))
  obtain ⟨t, t', a, b, xs, ys, ex, hq, hq', q⟩ := q1
  subst ex
  obtain ⟨u1, u2, rfl, r1, r2⟩ := vals2 r1
  cases r1
  cases r2
  obtain ⟨its, rv, sq, la⟩ := sq_of_inv I1 hq
  obtain ⟨jts, rw', sq', lb⟩ := sq_of_inv I1 hq'
  refine zip_begins2 (begins_sq t a its.toArray) (begins_sq t' b jts.toArray) sq sq' fun h' hz hTI hTO h1 h2 _ hk => wpAny_pyIter_zip hz ?_
  have I2 : Inv X pins σ H1 { s1 with heap := h' } := I1.kept (t' := s1.toks) hk
  have S : ZipSep2 (s1.heap.objs.size + 4) (s1.heap.objs.size + 2) (s1.heap.objs.size + 3) s1.heap.objs.size (s1.heap.objs.size + 1) [s1.heap.objs.size, a] [s1.heap.objs.size + 1, b] :=
    zip_sep2 (fun c hc => by rw [List.mem_singleton.mp hc]; exact la) fun c hc => by rw [List.mem_singleton.mp hc]; exact lb
  refine ⟨s1.heap.objs.size + 4, [s1.heap.objs.size + 4, s1.heap.objs.size + 2, s1.heap.objs.size + 3, s1.heap.objs.size, s1.heap.objs.size + 1], _, _, H1, rfl, I2,
    turn_Z t t' S (Nat.ne_of_lt la) (Nat.ne_of_lt (Nat.lt_succ_of_lt lb)), ⟨hz, hTI, ⟨_, _, hTO⟩, sqIt_at h1, sqIt_at h2⟩, fun c hc => ?_, q⟩
  have hle : s1.heap.objs.size ≤ c := by
    simp only [List.mem_cons, List.not_mem_nil, or_false] at hc
    rcases hc with z | z | z | z | z
    · rw [z]; exact Nat.le_add_right _ _
    · rw [z]; exact Nat.le_add_right _ _
    · rw [z]; exact Nat.le_add_right _ _
    · rw [z]; exact Nat.le_refl _
    · rw [z]; exact Nat.le_add_right _ _
  exact I1.fpOk hle (I1.hok.fresh hle)

/-! ### what is walked, over data -/
structure Src (g : Gd) (J : It) (I0 : Hp) (ds : List D) : Prop where
  go : ∀ i I H, Rl g I H → Sub I0 I → i < ds.length → J.go i H
  yld : ∀ i d I H x H', Rl g I H → Sub I0 I → ds[i]? = some d → J.yld i H x H' → ∃ I', Stp g I H I' H' ∧ DR g I' x d
  stop : ∀ i I H, Rl g I H → Sub I0 I → i = ds.length → J.stop i H
def tFI (g : Gd) (mg : Str → Option Value) (E : XK) (f : FI) : TI := fun σ H R => ∃ I r, Rl g I H ∧ ER g I σ r ∧ Pst g mg E (fun I' (J : It) ds => Src g J I' ds) I H (f r) R
theorem _root_.L2.PI.either {X : Cx} {tg e : Expr} {t u : TI} (h : PI X tg e t) (k : PI X tg e u) : PI X tg e (fun σ H R => t σ H R ∨ u σ H R) := ⟨fun pins s σ H R I q => by
  rcases q with q | q
  · exact h.run pins s σ H R I q
  · exact k.run pins s σ H R I q⟩
section
variable {X : Cx} {g : Gd} {E : XK} {K : PySem.W.Frag}
theorem src_list {I0 : Hp} {a : Addr} {xs : List V} {ds : List D} (h : I0 a = some (.lst xs)) (r : DRs g I0 xs ds) : Src g (Itl K a) I0 ds where
  go := fun i I H rl s hi => by
    obtain ⟨v, hv, _⟩ := r.at_ (List.getElem?_eq_getElem hi)
    exact ⟨xs, v, SqL.of (rl.sub _ _ (s _ _ h)), hv⟩
  yld := fun i d I H x H' rl s hd y => by
    obtain ⟨rfl, y⟩ := y
    obtain ⟨v, hv, rv⟩ := r.at_ hd
    have e : x = v := Option.some.inj ((y xs (SqL.of (rl.sub _ _ (s _ _ h)))).symm.trans hv)
    rw [e]
    exact ⟨I, rl.stp, rv.mono s⟩
  stop := fun i I H rl s hi => ⟨xs, SqL.of (rl.sub _ _ (s _ _ h)), by rw [r.len, hi]; exact Nat.le_refl _⟩
theorem src_tup {I0 : Hp} {a : Addr} {xs : List V} {ds : List D} {u0 : HO} (h : I0 a = some u0) (hu : TupO xs u0) (r : DRs g I0 xs ds) : Src g (Itt K a) I0 ds where
  go := fun i I H rl s hi => by
    obtain ⟨v, hv, _⟩ := r.at_ (List.getElem?_eq_getElem hi)
    exact ⟨xs, v, hu.sqt (rl.sub _ _ (s _ _ h)), hv⟩
  yld := fun i d I H x H' rl s hd y => by
    obtain ⟨rfl, y⟩ := y
    obtain ⟨v, hv, rv⟩ := r.at_ hd
    have e : x = v := Option.some.inj ((y xs (hu.sqt (rl.sub _ _ (s _ _ h)))).symm.trans hv)
    rw [e]
    exact ⟨I, rl.stp, rv.mono s⟩
  stop := fun i I H rl s hi => ⟨xs, hu.sqt (rl.sub _ _ (s _ _ h)), by rw [r.len, hi]; exact Nat.le_refl _⟩
theorem src_str {I0 : Hp} {x : Str} : Src g (Its x) I0 (signs x) where
  go := fun i I H rl s hi => by
    show i < x.cps.size
    simpa [signs] using hi
  yld := fun i d I H v H' rl s hd y => by
    obtain ⟨rfl, c, hc, rfl⟩ := y
    have e : d = .str ⟨#[c]⟩ := by
      unfold signs at hd
      rw [List.getElem?_map, Array.getElem?_toList, hc] at hd
      exact (Option.some.inj hd).symm
    rw [e]
    exact ⟨I, rl.stp, .str _⟩
  stop := fun i I H rl s hi => by
    show x.cps.size ≤ i
    rw [hi]
    simp [signs]
theorem src_range {I0 : Hp} {lo : Int} {n : Nat} : Src g (Itr lo n) I0 (upto lo n) where
  go := fun i I H rl s hi => by
    show i < n
    simpa [upto] using hi
  yld := fun i d I H v H' rl s hd y => by
    obtain ⟨rfl, rfl⟩ := y
    have e : d = .int (lo + i) := by
      unfold upto at hd
      rw [List.getElem?_map] at hd
      cases q : (List.range n)[i]? with
      | none => rw [q] at hd; cases hd
      | some j =>
        rw [q] at hd
        obtain ⟨h1, h2⟩ := List.getElem?_eq_some_iff.mp q
        rw [List.getElem_range] at h2
        rw [← h2] at hd
        exact (Option.some.inj hd).symm
    rw [e]
    exact ⟨I, rl.stp, .int _⟩
  stop := fun i I H rl s hi => by
    show n ≤ i
    rw [hi]
    simp [upto]
/-- pairs laid anew -/
theorem pair_put {I H : Hp} {x y : V} {d e : D} {T : Addr} (rl : Rl g I H) (hx : DR g I x d) (hy : DR g I y e) (hT : H T = none) : ∃ I', Stp g I H I' (upd H T (.tup [x, y])) ∧ DR g I' (.ref T) (.par [d, e]) := by
  have s := rl.put (o := .tup [x, y]) hT
  exact ⟨_, s, .par upd_same (.cons (hx.mono s.mono) (.cons (hy.mono s.mono) .nil))⟩
/-- a list or a tuple at a -/
def SrcA (g : Gd) (I : Hp) (t : Bool) (a : Addr) (xs : List V) (ds : List D) : Prop := (∃ u, I a = some u ∧ if t = true then TupO xs u else u = .lst xs) ∧ DRs g I xs ds
theorem SrcA.sq {I0 I H : Hp} {t : Bool} {a : Addr} {xs : List V} {ds : List D} (h : SrcA g I0 t a xs ds) (rl : Rl g I H) (s : Sub I0 I) : SqA K H t a xs := by
  obtain ⟨⟨u, e, hu⟩, _⟩ := h
  cases t with
  | true => exact TupO.sqt hu (rl.sub _ _ (s _ _ e))
  | false =>
    have hu : u = .lst xs := hu
    rw [hu] at e
    exact SqL.of (rl.sub _ _ (s _ _ e))
theorem src_E {I0 : Hp} {t : Bool} {a : Addr} {xs : List V} {ds : List D} (h : SrcA g I0 t a xs ds) : Src g (ItE K t a) I0 (enumD ds) where
  go := fun i I H rl s hi => by
    have hi' : i < ds.length := by simpa [enumD] using hi
    obtain ⟨v, hv, _⟩ := h.2.at_ (List.getElem?_eq_getElem hi')
    exact ⟨xs, v, h.sq rl s, hv⟩
  yld := fun i d I H v H' rl s hd y => by
    obtain ⟨T, x, rfl, hT, rfl, hx⟩ := y
    unfold enumD at hd
    rw [List.getElem?_mapIdx] at hd
    cases q : ds[i]? with
    | none => rw [q] at hd; cases hd
    | some e =>
      rw [q] at hd
      obtain ⟨v, hv, rv⟩ := h.2.at_ q
      have ex : x = v := Option.some.inj ((hx xs (h.sq rl s)).symm.trans hv)
      have ed : d = .par [.int (i : Nat), e] := (Option.some.inj hd).symm
      rw [ed, ex]
      exact pair_put rl (.int _) (rv.mono s) hT
  stop := fun i I H rl s hi => ⟨xs, h.sq rl s, by rw [h.2.len, hi]; simp [enumD]⟩
theorem src_Z {I0 : Hp} {t t' : Bool} {a b : Addr} {xs ys : List V} {ds es : List D} (h : SrcA g I0 t a xs ds) (h' : SrcA g I0 t' b ys es) : Src g (ItZ K t t' a b) I0 (zipD ds es) where
  go := fun i I H rl s hi => by
    have hi' : i < ds.length ∧ i < es.length := by simpa [zipD, Nat.lt_min] using hi
    obtain ⟨v, hv, _⟩ := h.2.at_ (List.getElem?_eq_getElem hi'.1)
    obtain ⟨u, hu, _⟩ := h'.2.at_ (List.getElem?_eq_getElem hi'.2)
    exact ⟨xs, ys, v, u, h.sq rl s, h'.sq rl s, hv, hu⟩
  yld := fun i d I H v H' rl s hd y => by
    obtain ⟨T, x, y, rfl, hT, rfl, hx, hy⟩ := y
    unfold zipD at hd
    rw [List.getElem?_zipWith] at hd
    cases q : ds[i]? with
    | none => rw [q] at hd; cases hd
    | some d1 =>
      cases q' : es[i]? with
      | none => rw [q, q'] at hd; cases hd
      | some e1 =>
        rw [q, q'] at hd
        obtain ⟨v, hv, rv⟩ := h.2.at_ q
        obtain ⟨u, hu, ru⟩ := h'.2.at_ q'
        have ex : x = v := Option.some.inj ((hx xs (h.sq rl s)).symm.trans hv)
        have ey : y = u := Option.some.inj ((hy ys (h'.sq rl s)).symm.trans hu)
        have ed : d = .par [d1, e1] := (Option.some.inj hd).symm
        rw [ed, ex, ey]
        exact pair_put rl (rv.mono s) (ru.mono s) hT
  stop := fun i I H rl s hi => ⟨xs, ys, h.sq rl s, h'.sq rl s, by rw [h.2.len, h'.2.len, hi]; simp [zipD]⟩

theorem i_val {tg e : Expr} {f : FE} (h : PE X e (tF g X.mg E f)) : PI X tg e (tFI g X.mg E (fIter f)) :=
  ((pi_list h).either ((pi_tup h).either (pi_str h))).imp fun σ H R q => by
    obtain ⟨I, r, rl, er, q⟩ := q
    unfold fIter at q
    cases e : f r with
    | bad => rw [e] at q; exact q.elim
    | exc c =>
      rw [e] at q
      exact .inl ⟨I, r, rl, er, by rw [e]; exact q⟩
    | ok d =>
      rw [e] at q
      cases d with
      | lst ds =>
        refine .inl ⟨I, r, rl, er, ?_⟩
        rw [e]
        intro v I' H' s x
        cases x with
        | lst hx rx => exact ⟨_, rfl, ⟨_, SqL.of (s.rl.sub _ _ hx)⟩, q _ I' H' s (src_list hx rx)⟩
      | tup ds =>
        refine .inr (.inl ⟨I, r, rl, er, ?_⟩)
        rw [e]
        intro v I' H' s x
        cases x with
        | tup hx ux rx => exact ⟨_, rfl, ⟨_, ux.sqt (s.rl.sub _ _ hx)⟩, q _ I' H' s (src_tup hx ux rx)⟩
      | str x =>
        refine .inr (.inr ⟨I, r, rl, er, ?_⟩)
        rw [e]
        intro v I' H' s y
        cases y
        exact ⟨_, rfl, q _ I' H' s src_str⟩
      | _ => exact q.elim
theorem i_range1 {tg a : Expr} {k : FA} {p pos : Pos} (hg : Gl X "range") (hm : X.mg "range" = none) (ha : PA X [a] (tFA g X.mg E k)) (hs : starEach [a] X.env = [(false, eval a X.env)] := by rfl) : PI X tg (.Call (.Name "range" p) [a] [] pos) (tFI g X.mg E (fItA dRange1 k)) :=
  (pi_range1 hg hm ha hs).imp fun σ H R q => by
    obtain ⟨I, r, rl, er, q⟩ := q
    refine ⟨I, r, rl, er, Pst.first q fun ds vs I1 H1 _ s1 x1 h1 => ?_⟩
    unfold dRange1 at h1
    split at h1
    · split at h1
      · rename_i c
        cases x1 with
        | cons y t =>
          cases t; cases y
          exact ⟨_, rfl, by omega, by omega, h1 _ I1 H1 s1.rl.stp src_range⟩
      · exact h1.elim
    · exact h1.elim
theorem i_range2 {tg a b : Expr} {k : FA} {p pos : Pos} (hg : Gl X "range") (hm : X.mg "range" = none) (ha : PA X [a, b] (tFA g X.mg E k)) (hs : starEach [a, b] X.env = [(false, eval a X.env), (false, eval b X.env)] := by rfl) (hs2 : starEach [b] X.env = [(false, eval b X.env)] := by rfl) :
    PI X tg (.Call (.Name "range" p) [a, b] [] pos) (tFI g X.mg E (fItA dRange2 k)) :=
  (pi_range2 hg hm ha hs hs2).imp fun σ H R q => by
    obtain ⟨I, r, rl, er, q⟩ := q
    refine ⟨I, r, rl, er, Pst.first q fun ds vs I1 H1 _ s1 x1 h1 => ?_⟩
    unfold dRange2 at h1
    split at h1
    · split at h1
      · rename_i c
        cases x1 with
        | cons y t =>
          cases t with
          | cons y' t' =>
            cases t'; cases y; cases y'
            exact ⟨_, _, rfl, ⟨by omega, by omega, by omega, by omega⟩, h1 _ I1 H1 s1.rl.stp src_range⟩
      · exact h1.elim
    · exact h1.elim
theorem i_enum {e : Expr} {k : FA} {p pos tpos : Pos} {elts : List Expr} {kk : Nat} (hg : Gl X "enumerate") (hm : X.mg "enumerate" = none) (ha : PA X [e] (tFA g X.mg E k)) (hs : starEach [e] X.env = [(false, eval e X.env)] := by rfl) :
    PI X (.Tuple elts kk tpos) (.Call (.Name "enumerate" p) [e] [] pos) (tFI g X.mg E (fItA dEnum k)) :=
  (pi_E hg hm ha hs).imp fun σ H R q => by
    obtain ⟨I, r, rl, er, q⟩ := q
    refine ⟨I, r, rl, er, Pst.first q fun ds vs I1 H1 _ s1 x1 h1 => ?_⟩
    unfold dEnum at h1
    split at h1
    · cases x1 with
      | cons y t =>
        cases t
        cases y with
        | lst hy ry => exact ⟨false, _, _, rfl, SqL.of (s1.rl.sub _ _ hy), h1 _ I1 H1 s1.rl.stp (src_E (t := false) ⟨⟨_, hy, rfl⟩, ry⟩)⟩
    · cases x1 with
      | cons y t =>
        cases t
        cases y with
        | tup hy uy ry => exact ⟨true, _, _, rfl, uy.sqt (s1.rl.sub _ _ hy), h1 _ I1 H1 s1.rl.stp (src_E (t := true) ⟨⟨_, hy, uy⟩, ry⟩)⟩
    · exact h1.elim
theorem i_zip {e e2 : Expr} {k : FA} {p pos tpos : Pos} {elts : List Expr} {kk : Nat} (hg : Gl X "zip") (hm : X.mg "zip" = none) (ha : PA X [e, e2] (tFA g X.mg E k))
    (hs : starEach [e, e2] X.env = (false, eval e X.env) :: starEach [e2] X.env := by rfl) (hpl : (backTo pos (starEach [e2] X.env)).any (·.1) = false := by rfl) :
    PI X (.Tuple elts kk tpos) (.Call (.Name "zip" p) [e, e2] [] pos) (tFI g X.mg E (fItA dZip k)) :=
  (pi_Z hg hm ha hs hpl).imp fun σ H R q => by
    obtain ⟨I, r, rl, er, q⟩ := q
    refine ⟨I, r, rl, er, Pst.first q fun ds vs I1 H1 _ s1 x1 h1 => ?_⟩
    have fin : ∀ {t t' : Bool} {a b : Addr} {xs ys : List V} {ds es : List D}, SrcA g I1 t a xs ds → SrcA g I1 t' b ys es → Pst g X.mg E (fun I' (J : It) ds => Src g J I' ds) I1 H1 (.ok (zipD ds es)) R →
        ∃ t t' a' b' xs ys, [V.ref a, V.ref b] = [.ref a', .ref b'] ∧ SqA X.K H1 t a' xs ∧ SqA X.K H1 t' b' ys ∧ R (ItZ X.K t t' a' b') H1 :=
      fun {t t' a b xs ys ds es} h h' z => ⟨t, t', a, b, xs, ys, rfl, h.sq s1.rl (Sub.refl _), h'.sq s1.rl (Sub.refl _), z _ I1 H1 s1.rl.stp (src_Z h h')⟩
    unfold dZip at h1
    split at h1
    · cases x1 with
      | cons y t =>
        cases t with
        | cons y' t' =>
          cases t'
          cases y with
          | lst hy ry => cases y' with
            | lst hz rz => exact fin (t := false) (t' := false) ⟨⟨_, hy, rfl⟩, ry⟩ ⟨⟨_, hz, rfl⟩, rz⟩ h1
    · cases x1 with
      | cons y t =>
        cases t with
        | cons y' t' =>
          cases t'
          cases y with
          | lst hy ry => cases y' with
            | tup hz uz rz => exact fin (t := false) (t' := true) ⟨⟨_, hy, rfl⟩, ry⟩ ⟨⟨_, hz, uz⟩, rz⟩ h1
    · cases x1 with
      | cons y t =>
        cases t with
        | cons y' t' =>
          cases t'
          cases y with
          | tup hy uy ry => cases y' with
            | lst hz rz => exact fin (t := true) (t' := false) ⟨⟨_, hy, uy⟩, ry⟩ ⟨⟨_, hz, rfl⟩, rz⟩ h1
    · cases x1 with
      | cons y t =>
        cases t with
        | cons y' t' =>
          cases t'
          cases y with
          | tup hy uy ry => cases y' with
            | tup hz uz rz => exact fin (t := true) (t' := true) ⟨⟨_, hy, uy⟩, ry⟩ ⟨⟨_, hz, uz⟩, rz⟩ h1
    · exact h1.elim
end
end FW
/-! Readings by wishes (for draws), targets, comprehensions. -/
namespace FW
open PySem PySem.Spec PyProof.Rows L2

/-! ### an expression by what is wished of its answer -/
def wOf (f : FE) : WE := ⟨fun r Q Z => resW (f r) Q Z, fun h1 h2 h => resW.mono h1 h2 h⟩
section
variable (g : Gd) (mg : Str → Option Value) (E : XK)
def tW (w : WE) : TE := fun σ H Q => ∃ I r, Rl g I H ∧ ER g I σ r ∧ w.run r (endW g (DR g) I H Q) (excW g mg E I H)
end
theorem Pst.iff {g : Gd} {mg : Str → Option Value} {E : XK} {α β : Type} {R : Hp → β → α → Prop} {I H : Hp} {x : Res α} {Q : β → Hp → Prop} : Pst g mg E R I H x Q ↔ resW x (endW g R I H Q) (excW g mg E I H) := by
  cases x <;> exact Iff.rfl
theorem tW_of {g : Gd} {mg : Str → Option Value} {E : XK} {f : FE} {σ : L2.St} {H : Hp} {Q : VK} : tF g mg E f σ H Q ↔ tW g mg E (wOf f) σ H Q := by
  constructor
  · rintro ⟨I, r, rl, er, h⟩
    exact ⟨I, r, rl, er, Pst.iff.mp h⟩
  · rintro ⟨I, r, rl, er, h⟩
    exact ⟨I, r, rl, er, Pst.iff.mpr h⟩
theorem w_of {X : Cx} {g : Gd} {E : XK} {e : Expr} {f : FE} (h : PE X e (tF g X.mg E f)) : PE X e (tW g X.mg E (wOf f)) := h.imp fun _ _ _ q => tW_of.mpr q
/-- what is walked, by wishes -/
structure WI where
  run : Env → (List D → Prop) → (Str → Prop) → Prop
  mono : ∀ {r : Env} {Q Q' : List D → Prop} {Z Z' : Str → Prop}, (∀ d, Q d → Q' d) → (∀ c, Z c → Z' c) → run r Q Z → run r Q' Z'
def wiOf (f : FI) : WI := ⟨fun r Q Z => resW (f r) Q Z, fun h h2 q => resW.mono h h2 q⟩
def tWI (g : Gd) (mg : Str → Option Value) (E : XK) (w : WI) : TI := fun σ H R => ∃ I r, Rl g I H ∧ ER g I σ r ∧ w.run r (endW g (fun I' (J : It) ds => Src g J I' ds) I H R) (excW g mg E I H)
theorem i_of {X : Cx} {g : Gd} {E : XK} {tg e : Expr} {f : FI} (h : PI X tg e (tFI g X.mg E f)) : PI X tg e (tWI g X.mg E (wiOf f)) := h.imp fun σ H R q => by
  obtain ⟨I, r, rl, er, q⟩ := q
  exact ⟨I, r, rl, er, Pst.iff.mpr q⟩

/-! ### targets -/
def Diff (is : List Nat) (σ σ' : L2.St) : Prop := σ'.length = σ.length ∧ ∀ i, i ∉ is → σ'[i]? = σ[i]?
def tFG (g : Gd) (is : List Nat) (f : FG) : TG := fun v σ H Q => ∃ I r d, Rl g I H ∧ ER g I σ r ∧ DR g I v d ∧ resW (f d r) (fun r' => ∀ σ', ER g I σ' r' → Diff is σ σ' → Q σ' H) fun _ => False
def tFGs (g : Gd) (is : List Nat) (f : FGs) : TGs := fun vs σ H Q => ∃ I r ds, Rl g I H ∧ ER g I σ r ∧ DRs g I vs ds ∧ resW (f ds r) (fun r' => ∀ σ', ER g I σ' r' → Diff is σ σ' → Q σ' H) fun _ => False
section
variable {X : Cx} {g : Gd} {E : XK}
theorem g_name (i : Nat) {x : Str} {pos : Pos} (hN : X.N.Nodup) (hi : X.N[i]? = some x := by rfl) (hx : Loc X.env.scope x := by first | exact Or.inl rfl | exact Or.inr rfl) (hf : X.fn x = true ∨ X.env.scope.names.lookup x = some .local := by first | exact .inl rfl | exact .inr rfl | assumption) : PG X (.Name x pos) (tFG g [i] (gN i)) :=
  (pg_name (i := i) hN hi hx hf).imp fun v σ H Q h => by
    obtain ⟨I, r, d, rl, er, x, h⟩ := h
    unfold gN at h
    split at h
    · rename_i hi
      exact h _ (er.set hi x) ⟨List.length_set .., fun j hj => List.getElem?_set_ne fun e => hj (by rw [e]; exact List.mem_singleton.mpr rfl)⟩
    · exact h.elim
theorem gs_nil : PGs X [] (tFGs g [] gsNil) := pgs_nil.imp fun vs σ H Q h => by
  obtain ⟨I, r, ds, rl, er, x, h⟩ := h
  cases x with
  | nil => exact ⟨rfl, h σ er ⟨rfl, fun _ _ => rfl⟩⟩
  | cons _ _ => exact h.elim
theorem gs_cons {e : Expr} {es : List Expr} {is js : List Nat} {f : FG} {k : FGs} (h1 : PG X e (tFG g is f)) (h2 : PGs X es (tFGs g js k)) (hs : (assignEach (e :: es) X.env).map (·.2) = assign e X.env :: (assignEach es X.env).map (·.2) := by rfl) :
    PGs X (e :: es) (tFGs g (is ++ js) (gsCons f k)) := (pgs_cons h1 h2 hs).imp fun vs σ H Q h => by
  obtain ⟨I, r, ds, rl, er, x, h⟩ := h
  cases x with
  | nil => exact h.elim
  | cons y t =>
    rename_i v vt d dt
    refine ⟨_, _, rfl, I, r, d, rl, er, y, ?_⟩
    have h' : resW ((f d r).bind (k dt)) (fun r' => ∀ σ', ER g I σ' r' → Diff (is ++ js) σ σ' → Q σ' H) fun _ => False := h
    cases e : f d r with
    | bad => rw [e] at h'; exact h'.elim
    | exc c => rw [e] at h'; exact h'.elim
    | ok r1 =>
      rw [e] at h'
      intro σ1 er1 df
      refine ⟨I, r1, dt, rl, er1, t, resW.mono (fun r2 q σ2 er2 df2 => q σ2 er2 ⟨df2.1.trans df.1, fun i hi => ?_⟩) (fun _ z => z) h'⟩
      rw [df2.2 i fun z => hi (List.mem_append_right _ z), df.2 i fun z => hi (List.mem_append_left _ z)]
theorem g_tup {es : List Expr} {kk n : Nat} {pos : Pos} {is : List Nat} {k : FGs} (hc : X.calm = true) (h : PGs X es (tFGs g is k)) (hn : (assignEach es X.env).length = n := by rfl) (hst : (assignEach es X.env).findIdx? (·.1) = none := by rfl) :
    PG X (.Tuple es kk pos) (tFG g is (gT n k)) := (pg_tup hc h hn hst).imp fun v σ H Q h => by
  obtain ⟨I, r, d, rl, er, x, h⟩ := h
  cases x with
  | tup hx ux rx =>
    rename_i a xs ds _
    have h' : resW (if ds.length = n then k ds r else .bad) (fun r' => ∀ σ', ER g I σ' r' → Diff is σ σ' → Q σ' H) fun _ => False := h
    split at h'
    · rename_i c
      exact ⟨a, xs, rfl, ux.sqt (rl.sub _ _ hx), by rw [rx.len, c], I, r, ds, rl, er, rx, h'⟩
    · exact h'.elim
  | par hx rx =>
    rename_i a xs ds
    have h' : resW (if ds.length = n then k ds r else .bad) (fun r' => ∀ σ', ER g I σ' r' → Diff is σ σ' → Q σ' H) fun _ => False := h
    split at h'
    · rename_i c
      exact ⟨a, xs, rfl, SqT.of (rl.sub _ _ hx), by rw [rx.len, c], I, r, ds, rl, er, rx, h'⟩
    · exact h'.elim
  | _ => exact h.elim
end

/-! ### what stands beside the region and changes -/
section
variable {g : Gd} {I0 H0 I H I' H' : Hp} {p : Addr} {o u : HO}
end

/-! ### comprehensions -/
theorem wipe_get {σ : L2.St} : ∀ {vs : List Nat} {i : Nat}, i ∉ vs → (wipe σ vs)[i]? = σ[i]?
  | [], _, _ => rfl
  | v :: vs, i, h => by
    unfold wipe
    rw [List.getElem?_set_ne fun e => h (by rw [e]; exact List.mem_cons_self), wipe_get fun z => h (List.mem_cons_of_mem _ z)]
theorem wipe_in {σ : L2.St} : ∀ {vs : List Nat} {i : Nat}, i ∈ vs → i < σ.length → (wipe σ vs)[i]? = some none
  | [], _, h, _ => by cases h
  | v :: vs, i, h, l => by
    unfold wipe
    by_cases e : v = i
    · subst e
      rw [List.getElem?_set_self (by rw [wipe_length]; exact l)]
    · rw [List.getElem?_set_ne e]
      rcases List.mem_cons.mp h with z | z
      · exact absurd z.symm e
      · exact wipe_in z l
theorem wipe_eq {σ σ' : L2.St} {vs : List Nat} (hl : σ'.length = σ.length) (h : ∀ i, i ∉ vs → σ'[i]? = σ[i]?) : wipe σ' vs = wipe σ vs := by
  apply List.ext_getElem?
  intro i
  by_cases hi : i ∈ vs
  · by_cases l : i < σ.length
    · rw [wipe_in hi l, wipe_in hi (by rw [hl]; exact l)]
    · rw [List.getElem?_eq_none (by rw [wipe_length, hl]; omega), List.getElem?_eq_none (by rw [wipe_length]; omega)]
  · rw [wipe_get hi, wipe_get hi, h i hi]
theorem wipeE_len (r : Env) : ∀ vs : List Nat, (wipeE r vs).length = r.length
  | [] => rfl
  | v :: vs => by unfold wipeE; rw [List.length_set, wipeE_len r vs]
theorem wipeE_some {r : Env} {i : Nat} {d : D} : ∀ {vs : List Nat}, (wipeE r vs)[i]? = some (some d) → r[i]? = some (some d) ∧ i ∉ vs
  | [], h => ⟨h, by simp⟩
  | v :: vs, h => by
    unfold wipeE at h
    by_cases e : v = i
    · subst e
      by_cases l : v < (wipeE r vs).length
      · rw [List.getElem?_set_self l] at h; cases h
      · rw [List.getElem?_eq_none (by rw [List.length_set]; omega)] at h; cases h
    · rw [List.getElem?_set_ne e] at h
      obtain ⟨h1, h2⟩ := wipeE_some h
      exact ⟨h1, fun z => (List.mem_cons.mp z).elim (fun q => e q.symm) h2⟩
theorem ER.wipe {g : Gd} {I : Hp} {σ : L2.St} {r : Env} (e : ER g I σ r) (vs : List Nat) : ER g I (L2.wipe σ vs) (wipeE r vs) := by
  refine ⟨by rw [wipe_length, wipeE_len]; exact e.len, fun i d h => ?_⟩
  obtain ⟨h1, h2⟩ := wipeE_some h
  obtain ⟨v, q1, q2⟩ := e.get i d h1
  exact ⟨v, by rw [wipe_get h2]; exact q1, q2⟩
def wLc (wi : WI) (fg : FG) (ft : FT) (we : WE) (vs : List Nat) : WE :=
  ⟨fun r Q Z => wi.run r (fun ds => ds.length ≤ 100000 ∧ lcW fg ft we (wipeE r vs) ds fun ys => Q (.lst ys)) Z,
   fun h1 h2 h => wi.mono (fun _ q => ⟨q.1, lcW.mono (fun _ z => h1 _ z) q.2⟩) h2 h⟩
/-- a reading that gives a new list, beside the region -/
def tO (g : Gd) (mg : Str → Option Value) (E : XK) (w : WE) : TE := fun σ H Q => ∃ I r, Rl g I H ∧ ER g I σ r ∧ w.run r (fun d => (∃ ds, d = .lst ds) ∧ endO g I H Q d) (excW g mg E I H)
theorem endO_of {g : Gd} {I H : Hp} {Q : VK} {ds : List D} (h : endW g (DR g) I H Q (.lst ds)) : endO g I H Q (.lst ds) := fun p I' H' s hp hz hI hd => by
  obtain ⟨vs, h1, h2⟩ := hd ds rfl
  have t := s.take hp hz hI h1
  exact h _ _ _ t (.lst upd_same (h2.mono fun a o q => by rw [upd_ne fun e => by rw [e, hI] at q; cases q]; exact q))
section
variable {X : Cx} {g : Gd} {E : XK}
abbrev ForBlk (X : Cx) (scope : Scope) (J : Cx → Prop) : Prop := ∀ (s : Shared) (H : Hp) (C : Addr) (cl : List (Str × Addr)) (fp : List Addr), J (X.blk s H scope (compEnvC scope cl C X.env) fp)
/-- the reading of a comprehension over data, as the layer's -/
theorem lc_of {wi : WI} {fg : FG} {ft : FT} {we : WE} {vs is : List Nat} (his : ∀ i ∈ is, i ∈ vs) {σ : L2.St} {H : Hp} {Q : VK} (h : tO g X.mg E (wLc wi fg ft we vs) σ H Q) :
    tLc (tWI g X.mg E wi) (tFG g is fg) (tFT g X.mg E0 ft) (tW g X.mg E0 we) vs σ H Q := by
  obtain ⟨I, r, rl, er, h⟩ := h
  refine ⟨I, r, rl, er, wi.mono (fun ds q => ?_) (fun _ z => z) h⟩
  obtain ⟨hlen, q⟩ := q
  intro J I1 H1 s1 src q0 hD
  have dz : q0 ≠ g.dz := s1.rl.nz hD
  have base : Stp g I1 H1 I1 (upd H1 q0 (.lst [])) := s1.rl.lay hD
  refine ⟨fun i m H' => ∃ (I' : Hp) (acc : List V) (outs : List FW.D), m = ds.length - i ∧ i ≤ ds.length ∧ Stp g I1 H1 I' H' ∧ I' q0 = none ∧ H' q0 = some (.lst acc) ∧ DRs g I' acc outs ∧ outs.length ≤ i ∧
      lcW fg ft we (wipeE r vs) (ds.drop i) fun ys => (∃ zs, FW.D.lst (outs ++ ys) = .lst zs) ∧ endO g I H Q (.lst (outs ++ ys)),
    ⟨ds.length, I1, [], [], rfl, Nat.zero_le _, base, s1.rl.out hD, upd_same, .nil, Nat.le_refl _, by rw [List.drop_zero]; exact q⟩, ?_⟩
  rintro i m H' ⟨I', acc, outs, rfl, hi, s, hI, hDl, ra, lo, hq⟩
  by_cases hlt : i < ds.length
  · have hd : ds[i]? = some ds[i] := List.getElem?_eq_getElem hlt
    rw [List.drop_eq_getElem_cons hlt] at hq
    refine .inr ⟨src.go i I' H' s.rl s.mono hlt, fun H'' => ∃ (I' : Hp) (acc : List V) (outs : List FW.D), Stp g I1 H1 I' H'' ∧ I' q0 = none ∧ H'' q0 = some (.lst acc) ∧ DRs g I' acc outs ∧ outs.length ≤ i + 1 ∧
        lcW fg ft we (wipeE r vs) (ds.drop (i + 1)) fun ys => (∃ zs, FW.D.lst (outs ++ ys) = .lst zs) ∧ endO g I H Q (.lst (outs ++ ys)), fun H'' hN => ?_, fun x H2 y => ?_⟩
    · obtain ⟨I2, acc2, outs2, s2, hI2, hD2, ra2, lo2, hq2⟩ := hN
      exact ⟨ds.length - (i + 1), by omega, I2, acc2, outs2, rfl, hlt, s2, hI2, hD2, ra2, lo2, hq2⟩
    · obtain ⟨I2, s2, xd⟩ := src.yld i ds[i] I' H' x H2 s.rl s.mono hd y
      obtain ⟨hI2, hD2⟩ := s2.beside hI dz hDl rfl
      refine ⟨I2, wipeE r vs, ds[i], s2.rl, (er.mono ((s1.mono.trans s.mono).trans s2.mono)).wipe vs, xd, resW.mono (fun r1 q1 σ2 er2 df => ?_) (fun _ z => z) hq⟩
      refine ⟨?_, I2, r1, s2.rl, er2, Pst.iff.mpr (resW.mono (fun b q2 v I3 H3 s3 e => ?_) (fun _ z => z.elim) q1)⟩
      · rw [wipe_eq (σ := L2.wipe σ vs) df.1 fun j hj => df.2 j fun z => hj (his j z)]
        exact wipe_eq (wipe_length σ vs) fun j hj => wipe_get hj
      · subst e
        obtain ⟨hI3, hD3⟩ := s3.beside hI2 dz hD2 rfl
        have s03 := s.trans (s2.trans s3)
        cases v with
        | true =>
          refine ⟨I3, r1, s3.rl, er2.mono s3.mono, we.mono (fun y' q3 v4 I4 H4 s4 x4 => ?_) (fun _ z => z.elim) q2⟩
          obtain ⟨hI4, hD4⟩ := s4.beside hI3 dz hD3 rfl
          have s04 := s03.trans s4
          refine ⟨acc, hD4, ?_, I4, acc ++ [v4], outs ++ [y'], s04.chg (NT.of hD) dz hI4 hD4 rfl, hI4, upd_same, (ra.mono (s2.trans (s3.trans s4)).mono).app (.cons x4 .nil), ?_, ?_⟩
          · rw [ra.len]
            exact Nat.lt_of_le_of_lt (Nat.le_trans lo (Nat.le_of_lt (Nat.lt_of_lt_of_le hlt hlen))) (by decide)
          · rw [List.length_append]
            exact Nat.succ_le_succ lo
          · refine lcW.mono (fun ys z => ?_) q3
            rw [List.append_assoc]
            exact z
        | false => exact ⟨I3, acc, outs, s03, hI3, hD3, ra.mono (s2.trans s3).mono, Nat.le_succ_of_le lo, q2⟩
  · have ei : i = ds.length := by omega
    subst ei
    rw [List.drop_length] at hq
    refine .inl ⟨src.stop _ I' H' s.rl s.mono rfl, ?_⟩
    have hq' : endO g I H Q (.lst (outs ++ [])) := hq.2
    rw [List.append_nil] at hq'
    exact hq' q0 I' H' (s1.trans s) (s1.back (NT.of hD)) dz hI fun zs z => by
      cases z
      exact ⟨acc, hDl, ra⟩
/-- only lists come -/
def Lists (w : WE) : Prop := ∀ r Q Z, w.run r Q Z → w.run r (fun d => (∃ ds, d = D.lst ds) ∧ Q d) Z
theorem lists_lc {wi : WI} {fg : FG} {ft : FT} {we : WE} {vs : List Nat} : Lists (wLc wi fg ft we vs) := fun r Q Z h => wi.mono (fun ds q => ⟨q.1, lcW.mono (fun ys z => ⟨⟨ys, rfl⟩, z⟩) q.2⟩) (fun _ z => z) h
theorem tO_of {w : WE} (hl : Lists w) {σ : L2.St} {H : Hp} {Q : VK} (h : tW g X.mg E w σ H Q) : tO g X.mg E w σ H Q := by
  obtain ⟨I, r, rl, er, h⟩ := h
  refine ⟨I, r, rl, er, w.mono (fun d q => ⟨q.1, ?_⟩) (fun _ z => z) (hl r _ _ h)⟩
  obtain ⟨⟨ds, rfl⟩, q⟩ := q
  exact endO_of q
/-- a new list frozen at once -/
theorem w_ofO {e : Expr} {w : WE} (hl : Lists w) (h : PE X e (tO g X.mg E w)) : PE X e (tW g X.mg E w) := h.imp fun _ _ _ q => tO_of hl q
variable {elt tg iter : Expr} {ifs : List Expr} {scope : Scope} {own : List (Str × Nat)} {pos : Pos} {fi : FI} {wi : WI} {fg : FG} {ft : FT} {we : WE} {fe : FE} {is : List Nat}
theorem o_lc (hc : X.calm = true) (hN : X.N.Nodup) (hi : PI X tg iter (tWI g X.mg E wi)) (ok : BlkOk X.N X.env.scope scope own) (his : ∀ i ∈ is, i ∈ own.map (·.2)) (hg : ForBlk X scope fun B => PG B tg (tFG g is fg)) (ht : ForBlk X scope fun B => PTs B ifs (tFT g B.mg E0 ft))
    (he : ForBlk X scope fun B => PE B elt (tW g B.mg E0 we)) (hs : ∀ x, foldedSetIterable iter X.env x = pure x := by intro _; rfl) : PE X (.ListComp elt [⟨tg, iter, ifs, 0⟩] scope pos) (tO g X.mg E (wLc wi fg ft we (own.map (·.2)))) :=
  (pe_lc hc hN hi ok hg ht he hs).imp fun _ _ _ q => lc_of his q
theorem ts_nil : PTs X [] (tFT g X.mg E fYes) := pts_nil.imp fun σ H Q h => by
  obtain ⟨I, r, rl, er, h⟩ := h
  exact h.here rl rfl
theorem ts_one {c : Expr} (h : PT X c (tFT g X.mg E ft)) : PTs X [c] (tFT g X.mg E ft) := pts_one h
theorem calm_ok {α : Type} {x : Res α} {a : α} (h : x.calm = .ok a) : x = .ok a := by
  cases x with
  | ok b => exact h
  | exc c => cases h
  | bad => cases h
theorem bind_ok {α β : Type} {x : Res α} {k : α → Res β} {b : β} (h : x.bind k = .ok b) : ∃ a, x = .ok a ∧ k a = .ok b := by
  cases x with
  | ok a => exact ⟨a, rfl, h⟩
  | exc c => cases h
  | bad => cases h
theorem lcF_W {r : Env} : ∀ {ds ys : List D} {Q : List D → Prop}, lcF fg ft fe r ds = .ok ys → Q ys → lcW fg ft (wOf fe) r ds Q
  | [], _, _, h, q => by cases h; exact q
  | d :: ds, ys, Q, h, q => by
    unfold lcF at h
    obtain ⟨r1, e1, h⟩ := bind_ok h
    obtain ⟨b, e2, h⟩ := bind_ok h
    unfold lcW
    rw [calm_ok e1]
    show resW (ft r1) _ _
    rw [calm_ok e2]
    show if b = true then _ else _
    cases b with
    | true =>
      obtain ⟨y, e3, h⟩ := bind_ok h
      obtain ⟨zs, e4, h⟩ := bind_ok h
      cases h
      show resW (fe r1) _ _
      rw [calm_ok e3]
      exact lcF_W e4 q
    | false => exact lcF_W h q
theorem lcF_ne {r : Env} : ∀ {ds : List D} {c : Str}, lcF fg ft fe r ds ≠ .exc c
  | [], _, h => by cases h
  | d :: ds, c, h => by
    unfold lcF at h
    cases e1 : (fg d r).calm with
    | bad => rw [e1] at h; cases h
    | exc c' => cases q : fg d r <;> rw [q] at e1 <;> cases e1
    | ok r1 =>
      rw [e1] at h
      have h : ((ft r1).calm.bind fun b => if b = true then (fe r1).calm.bind fun y => (lcF fg ft fe r ds).bind fun ys => .ok (y :: ys) else lcF fg ft fe r ds) = .exc c := h
      cases e2 : (ft r1).calm with
      | bad => rw [e2] at h; cases h
      | exc c' => cases q : ft r1 <;> rw [q] at e2 <;> cases e2
      | ok b =>
        rw [e2] at h
        cases b with
        | false => exact lcF_ne h
        | true =>
          have h : ((fe r1).calm.bind fun y => (lcF fg ft fe r ds).bind fun ys => .ok (y :: ys)) = .exc c := h
          cases e3 : (fe r1).calm with
          | bad => rw [e3] at h; cases h
          | exc c' => cases q : fe r1 <;> rw [q] at e3 <;> cases e3
          | ok y =>
            rw [e3] at h
            have h : ((lcF fg ft fe r ds).bind fun ys => .ok (y :: ys)) = .exc c := h
            cases e4 : lcF fg ft fe r ds with
            | bad => rw [e4] at h; cases h
            | exc c' => exact lcF_ne e4
            | ok zs => rw [e4] at h; cases h
theorem fLc_W {vs : List Nat} {r : Env} {Q : D → Prop} {Z : Str → Prop} (h : resW (fLc fi fg ft fe vs r) Q Z) : (wLc (wiOf fi) fg ft (wOf fe) vs).run r Q Z := by
  unfold fLc at h
  show resW (fi r) _ _
  cases e : fi r with
  | bad => rw [e] at h; exact h
  | exc c => rw [e] at h; exact h
  | ok ds =>
    rw [e] at h
    have h : resW (if ds.length ≤ 100000 then (lcF fg ft fe (wipeE r vs) ds).bind fun ys => .ok (.lst ys) else .bad) Q Z := h
    split at h
    · rename_i c
      cases e2 : lcF fg ft fe (wipeE r vs) ds with
      | bad => rw [e2] at h; exact h.elim
      | exc c' => exact (lcF_ne e2).elim
      | ok ys =>
        rw [e2] at h
        exact ⟨c, lcF_W e2 h⟩
    · exact h.elim
theorem w_lc (hc : X.calm = true) (hN : X.N.Nodup) (hi : PI X tg iter (tWI g X.mg E wi)) (ok : BlkOk X.N X.env.scope scope own) (his : ∀ i ∈ is, i ∈ own.map (·.2)) (hg : ForBlk X scope fun B => PG B tg (tFG g is fg)) (ht : ForBlk X scope fun B => PTs B ifs (tFT g B.mg E0 ft))
    (he : ForBlk X scope fun B => PE B elt (tW g B.mg E0 we)) (hs : ∀ x, foldedSetIterable iter X.env x = pure x := by intro _; rfl) : PE X (.ListComp elt [⟨tg, iter, ifs, 0⟩] scope pos) (tW g X.mg E (wLc wi fg ft we (own.map (·.2)))) :=
  w_ofO lists_lc (o_lc hc hN hi ok his hg ht he hs)
theorem e_lc (hc : X.calm = true) (hN : X.N.Nodup) (hi : PI X tg iter (tFI g X.mg E fi)) (ok : BlkOk X.N X.env.scope scope own) (his : ∀ i ∈ is, i ∈ own.map (·.2)) (hg : ForBlk X scope fun B => PG B tg (tFG g is fg)) (ht : ForBlk X scope fun B => PTs B ifs (tFT g B.mg E0 ft))
    (he : ForBlk X scope fun B => PE B elt (tF g B.mg E0 fe)) (hs : ∀ x, foldedSetIterable iter X.env x = pure x := by intro _; rfl) : PE X (.ListComp elt [⟨tg, iter, ifs, 0⟩] scope pos) (tF g X.mg E (fLc fi fg ft fe (own.map (·.2)))) :=
  (w_lc hc hN (i_of hi) ok his hg ht (fun s H C cl fp => w_of (he s H C cl fp)) hs).imp fun σ H Q q => by
    obtain ⟨I, r, rl, er, q⟩ := q
    exact ⟨I, r, rl, er, fLc_W (Pst.iff.mp q)⟩
end
end FW
/-! Statements: slots that hold data, slots that own a list or dict that changes. -/
namespace FW
open PySem PySem.Spec PyProof.Rows L2

theorem OwnR.dr {g : Gd} {I : Hp} {o : HO} {d : D} {p : Addr} (h : OwnR g I o d) (e : I p = some o) : DR g I (.ref p) d := by
  unfold OwnR at h
  split at h
  · exact .lst e h
  · exact .dK (.inl e) h
  · exact .dT (.inl e) h
  · exact h.elim
theorem plain_get {r : Env2} {i : Nat} {d : D} (h : (plain r)[i]? = some (some d)) : r[i]? = some (Sl.val d) := by
  unfold plain at h
  rw [List.getElem?_map] at h
  cases e : r[i]? with
  | none => rw [e] at h; cases h
  | some s =>
    rw [e] at h
    cases s <;> first | (cases h; done) | (have := Option.some.inj (Option.some.inj h); rw [this])
theorem allv_get {r : Env2} {i : Nat} {d : D} (h : (allv r)[i]? = some (some d)) : r[i]? = some (Sl.val d) ∨ r[i]? = some (Sl.own d) := by
  unfold allv at h
  rw [List.getElem?_map] at h
  cases e : r[i]? with
  | none => rw [e] at h; cases h
  | some s =>
    rw [e] at h
    cases s with
    | un => cases h
    | val c => have q : c = d := Option.some.inj (Option.some.inj h); exact .inl (by rw [q])
    | own c => have q : c = d := Option.some.inj (Option.some.inj h); exact .inr (by rw [q])
section
variable {g : Gd} {I0 H0 I H I' H' : Hp} {r : Env2} {σ : L2.St}
theorem SRI.er (x : SRI g I0 H0 I r σ H) : ER g I σ (plain r) := ⟨by rw [x.len, plain, List.length_map], fun i d h => x.val i d (plain_get h)⟩
theorem SRI.setV (x : SRI g I0 H0 I r σ H) {i : Nat} {v : V} {d : D} (hi : i < r.length) (h : DR g I v d) : SRI g I0 H0 I (r.set i (Sl.val d)) (σ.set i (some v)) H := by
  have ne : ∀ {j : Nat} {e : D}, (r.set i (Sl.val d))[j]? = some (Sl.own e) → j ≠ i ∧ r[j]? = some (Sl.own e) := fun {j e} h => by
    by_cases hj : j = i
    · subst hj
      rw [List.getElem?_set_self hi] at h; cases h
    · rw [List.getElem?_set_ne (Ne.symm hj)] at h; exact ⟨hj, h⟩
  refine ⟨x.stp, by rw [List.length_set, List.length_set]; exact x.len, fun j c hc => ?_, fun j c hc => ?_, fun j k c e p h1 h2 h3 h4 => ?_⟩
  · by_cases hj : j = i
    · subst hj
      rw [List.getElem?_set_self hi] at hc
      cases hc
      exact ⟨v, List.getElem?_set_self (by rw [x.len]; exact hi), h⟩
    · rw [List.getElem?_set_ne (Ne.symm hj)] at hc
      obtain ⟨u, q1, q2⟩ := x.val j c hc
      exact ⟨u, by rw [List.getElem?_set_ne (Ne.symm hj)]; exact q1, q2⟩
  · obtain ⟨hj, hc⟩ := ne hc
    obtain ⟨p, o, q1, q⟩ := x.own j c hc
    exact ⟨p, o, by rw [List.getElem?_set_ne (Ne.symm hj)]; exact q1, q⟩
  · obtain ⟨hj, q1⟩ := ne h1
    obtain ⟨hk, q2⟩ := ne h2
    rw [List.getElem?_set_ne (Ne.symm hj)] at h3
    rw [List.getElem?_set_ne (Ne.symm hk)] at h4
    exact x.inj j k c e p q1 q2 h3 h4
/-- a new thing of one's own -/
theorem SRI.setO (x : SRI g I0 H0 I r σ H) {i : Nat} {p : Addr} {o : HO} {d : D} (hi : i < r.length) (n : NT H0 p) (nz : p ≠ g.dz) (hI : I p = none) (hp : H p = some o) (h : OwnR g I o d) (fr : ∀ (j : Nat) (e : D), r[j]? = some (Sl.own e) → σ[j]? ≠ some (some (.ref p))) :
    SRI g I0 H0 I (r.set i (Sl.own d)) (σ.set i (some (.ref p))) H := by
  refine ⟨x.stp, by rw [List.length_set, List.length_set]; exact x.len, fun j c hc => ?_, fun j c hc => ?_, fun j k c e q h1 h2 h3 h4 => ?_⟩
  · by_cases hj : j = i
    · subst hj
      rw [List.getElem?_set_self hi] at hc; cases hc
    · rw [List.getElem?_set_ne (Ne.symm hj)] at hc
      obtain ⟨u, q1, q2⟩ := x.val j c hc
      exact ⟨u, by rw [List.getElem?_set_ne (Ne.symm hj)]; exact q1, q2⟩
  · by_cases hj : j = i
    · subst hj
      rw [List.getElem?_set_self hi] at hc
      cases hc
      exact ⟨p, o, List.getElem?_set_self (by rw [x.len]; exact hi), n, nz, hI, hp, h⟩
    · rw [List.getElem?_set_ne (Ne.symm hj)] at hc
      obtain ⟨q, u, q1, q2⟩ := x.own j c hc
      exact ⟨q, u, by rw [List.getElem?_set_ne (Ne.symm hj)]; exact q1, q2⟩
  · by_cases hj : j = i
    · subst hj
      rw [List.getElem?_set_self (by rw [x.len]; exact hi)] at h3
      by_cases hk : k = j
      · exact hk.symm
      · rw [List.getElem?_set_ne (Ne.symm hk)] at h2 h4
        cases h3
        exact absurd h4 (fr k e h2)
    · rw [List.getElem?_set_ne (Ne.symm hj)] at h1 h3
      by_cases hk : k = i
      · subst hk
        rw [List.getElem?_set_self (by rw [x.len]; exact hi)] at h4
        cases h4
        exact absurd h3 (fr j c h1)
      · rw [List.getElem?_set_ne (Ne.symm hk)] at h2 h4
        exact x.inj j k c e q h1 h2 h3 h4
/-- what is one's own changes -/
theorem SRI.put (x : SRI g I0 H0 I r σ H) {i : Nat} {p : Addr} {d d' : D} {o : HO} (hr : r[i]? = some (Sl.own d)) (hs : σ[i]? = some (some (.ref p))) (h : OwnR g I o d') : SRI g I0 H0 I (r.set i (Sl.own d')) σ (upd H p o) := by
  obtain ⟨p', o', q1, q2, q3, q4, q5, q6⟩ := x.own i d hr
  have ep : p' = p := by rw [hs] at q1; cases q1; rfl
  subst ep
  have hi : i < r.length := (List.getElem?_eq_some_iff.mp hr).1
  refine ⟨x.stp.chg q2 q3 q4 q5 q6.chg, by rw [List.length_set]; exact x.len, fun j c hc => ?_, fun j c hc => ?_, fun j k c e q h1 h2 h3 h4 => ?_⟩
  · by_cases hj : j = i
    · subst hj
      rw [List.getElem?_set_self hi] at hc; cases hc
    · rw [List.getElem?_set_ne (Ne.symm hj)] at hc
      exact x.val j c hc
  · by_cases hj : j = i
    · subst hj
      rw [List.getElem?_set_self hi] at hc
      cases hc
      exact ⟨p', o, hs, q2, q3, q4, upd_same, h⟩
    · rw [List.getElem?_set_ne (Ne.symm hj)] at hc
      obtain ⟨q, u, z1, z2, z3, z4, z5, z6⟩ := x.own j c hc
      refine ⟨q, u, z1, z2, z3, z4, ?_, z6⟩
      rw [upd_ne fun e => hj (x.inj j i c d p' hc hr (by rw [← e]; exact z1) hs)]
      exact z5
  · have back : ∀ {m : Nat} {f : D}, (r.set i (Sl.own d'))[m]? = some (Sl.own f) → ∃ f', r[m]? = some (Sl.own f') := fun {m f} h => by
      by_cases hm : m = i
      · subst hm; exact ⟨d, hr⟩
      · rw [List.getElem?_set_ne (Ne.symm hm)] at h; exact ⟨f, h⟩
    obtain ⟨c', h1⟩ := back h1
    obtain ⟨e', h2⟩ := back h2
    exact x.inj j k c' e' q h1 h2 h3 h4
open Classical in
/-- the region with what is one's own -/
noncomputable def plusI (I H : Hp) (r : Env2) (σ : L2.St) : Hp := fun a => if ∃ (i : Nat) (d : D), r[i]? = some (Sl.own d) ∧ σ[i]? = some (some (V.ref a)) then H a else I a
theorem SRI.plus (x : SRI g I0 H0 I r σ H) : Sub I (plusI I H r σ) ∧ Stp g I0 H0 (plusI I H r σ) H ∧ ER g (plusI I H r σ) σ (allv r) := by
  have ow : ∀ a, (∃ (i : Nat) (d : D), r[i]? = some (Sl.own d) ∧ σ[i]? = some (some (V.ref a))) → NT H0 a ∧ a ≠ g.dz ∧ I a = none := fun a ⟨i, d, h1, h2⟩ => by
    obtain ⟨p, o, q1, q2, q3, q4, _⟩ := x.own i d h1
    rw [h2] at q1; cases q1
    exact ⟨q2, q3, q4⟩
  have sub : Sub I (plusI I H r σ) := fun a o h => by
    unfold plusI
    rw [if_neg fun z => by rw [(ow a z).2.2] at h; cases h]
    exact h
  refine ⟨sub, ⟨x.stp.mono.trans sub, fun a o h => ?_, x.stp.keep, ⟨fun a o h => ?_, ?_, x.stp.rl.dice, x.stp.rl.tab, fun a ps h => ?_⟩⟩, by rw [x.len, allv, List.length_map], fun i d h => ?_⟩
  · unfold plusI at h
    split at h
    · rename_i z; exact .inr (.inl (ow a z).1)
    · exact x.stp.new a o h
  · unfold plusI at h
    split at h
    · exact h
    · exact x.stp.rl.sub a o h
  · unfold plusI
    rw [if_neg fun z => (ow _ z).2.1 rfl]
    exact x.stp.rl.dz
  · unfold plusI at h
    split at h
    · rename_i z
      obtain ⟨i, d, h1, h2⟩ := z
      obtain ⟨p, o, q1, q2, q3, q4, q5, q6⟩ := x.own i d h1
      rw [h2] at q1; cases q1
      rw [q5] at h
      exact chg_tbl q6.chg ps (Option.some.inj h)
    · exact x.stp.rl.nt a ps h
  · rcases allv_get h with h | h
    · obtain ⟨v, h1, h2⟩ := x.val i d h
      exact ⟨v, h1, h2.mono sub⟩
    · obtain ⟨p, o, q1, q2, q3, q4, q5, q6⟩ := x.own i d h
      refine ⟨.ref p, q1, (q6.mono sub).dr ?_⟩
      unfold plusI
      rw [if_pos ⟨i, d, h, q1⟩]
      exact q5
end

/-! ### statements by wishes -/
/-- the wishes of the layer -/
def ktOf (g : Gd) (mg : Str → Option Value) (E : XK) (I0 H0 : Hp) (D : Ends) : Kt where
  nx := fun r => ∀ σ H, SR g I0 H0 r σ H → D.nx σ H
  rt := fun d => ∀ v I' H', Stp g I0 H0 I' H' → DR g I' v d → D.rt v H'
  bk := fun r => ∀ σ H, SR g I0 H0 r σ H → D.bk σ H
  ct := fun r => ∀ σ H, SR g I0 H0 r σ H → D.ct σ H
  ex := excW g mg E I0 H0
def tWS (g : Gd) (mg : Str → Option Value) (E : XK) (w : WS) : TS := fun D σ H => ∃ I0 H0 r, SR g I0 H0 r σ H ∧ w.run r (ktOf g mg E I0 H0 D)
def wsSkip : WS := ⟨fun r k => k.nx r, fun h q => h.nx _ q⟩
def wsSeq (a b : WS) : WS := ⟨fun r k => a.run r { k with nx := fun r' => b.run r' k }, fun {r k k'} h q => a.mono (k := { k with nx := fun r' => b.run r' k }) ⟨fun _ z => b.mono h z, h.rt, h.bk, h.ct, h.ex⟩ q⟩
def wsSet (i : Nat) (w : WE) : WS := ⟨fun r k => i < r.length ∧ w.run (plain r) (fun d => k.nx (r.set i (Sl.val d))) k.ex, fun h q => ⟨q.1, w.mono (fun _ z => h.nx _ z) h.ex q.2⟩⟩
/-- a new list, one's own -/
def wsSetO (i : Nat) (w : WE) : WS := ⟨fun r k => i < r.length ∧ w.run (plain r) (fun d => (∃ ds, d = .lst ds) ∧ k.nx (r.set i (Sl.own d))) k.ex, fun h q => ⟨q.1, w.mono (fun _ z => ⟨z.1, h.nx _ z.2⟩) h.ex q.2⟩⟩
def wsRet (w : WE) : WS := ⟨fun r k => w.run (allv r) k.rt k.ex, fun h q => w.mono h.rt h.ex q⟩
def wsIf (p : FT) (a b : WS) : WS := ⟨fun r k => resW (p (allv r)) (fun c => if c = true then a.run r k else b.run r k) k.ex, fun {r k k'} h q => resW.mono (fun c z => by
  cases c with
  | true => exact a.mono h z
  | false => exact b.mono h z) h.ex q⟩
def wsExpr (w : WE) : WS := ⟨fun r k => w.run (allv r) (fun _ => k.nx r) k.ex, fun h q => w.mono (fun _ z => h.nx _ z) h.ex q⟩
def wsRaise (c : Str) : WS := ⟨fun _ k => k.ex c, fun h q => h.ex _ q⟩
def wsNever : WS := ⟨fun _ _ => False, fun _ q => q⟩
/-- xs.append(e), xs one's own -/
def wsApp (i : Nat) (w : WE) : WS := ⟨fun r k => ∃ ds, r[i]? = some (Sl.own (.lst ds)) ∧ ds.length < 100000 ∧ w.run (plain r) (fun d => k.nx (r.set i (Sl.own (.lst (ds ++ [d]))))) k.ex, fun h ⟨ds, e, l, q⟩ => ⟨ds, e, l, w.mono (fun _ z => h.nx _ z) h.ex q⟩⟩
section
variable {X : Cx} {g : Gd} {E : XK} {st : Stmt} {rest : List Stmt} {e : Expr} {a b : WS} {w : WE} {pos : Pos}
theorem s_nil : PSs X [] (tWS g X.mg E wsSkip) := pss_nil.imp fun D σ H h => by
  obtain ⟨I0, H0, r, x, h⟩ := h
  exact h σ H x
theorem s_cons (h1 : PS X st (tWS g X.mg E a)) (h2 : PSs X rest (tWS g X.mg E b)) : PSs X (st :: rest) (tWS g X.mg E (wsSeq a b)) := (pss_cons h1 h2).imp fun D σ H h => by
  obtain ⟨I0, H0, r, x, h⟩ := h
  exact ⟨I0, H0, r, x, a.mono (k := { ktOf g X.mg E I0 H0 D with nx := fun r' => b.run r' (ktOf g X.mg E I0 H0 D) }) ⟨fun r' z σ' H' x' => ⟨I0, H0, r', x', z⟩, fun _ z => z, fun _ z => z, fun _ z => z, fun _ z => z⟩ h⟩
theorem s_one (h1 : PS X st (tWS g X.mg E a)) : PSs X [st] (tWS g X.mg E a) := pss_one h1
/-- a plain reading within the state -/
theorem SR.read {I0 H0 : Hp} {r : Env2} {σ : L2.St} {H : Hp} {Q : VK} {Qd : D → Prop} (x : SR g I0 H0 r σ H) (h : w.run (plain r) Qd (excW g X.mg E I0 H0)) (k : ∀ d v I' H', Qd d → SRI g I0 H0 I' r σ H' → DR g I' v d → Q v H') : tW g X.mg E w σ H Q := by
  obtain ⟨I, x⟩ := x
  exact ⟨I, plain r, x.stp.rl, x.er, w.mono (fun d z v I' H' s y => k d v I' H' z (x.go s) y) (fun c z => excW.step x.stp z) h⟩
/-- one that sees what is one's own too, its answer dropped but for the return -/
theorem SR.readA {I0 H0 : Hp} {r : Env2} {σ : L2.St} {H : Hp} {Q : VK} {Qd : D → Prop} (x : SR g I0 H0 r σ H) (h : w.run (allv r) Qd (excW g X.mg E I0 H0)) (k : ∀ d v I' H', Qd d → SR g I0 H0 r σ H' → Stp g I0 H0 I' H' → DR g I' v d → Q v H') : tW g X.mg E w σ H Q := by
  obtain ⟨I, x⟩ := x
  obtain ⟨sb, st, er⟩ := x.plus
  exact ⟨_, allv r, st.rl, er, w.mono (fun d z v I' H' s y => k d v I' H' z ⟨I, x.back sb s⟩ (st.trans s) y) (fun c z => excW.step st z) h⟩
theorem s_ret (he : PE X e (tW g X.mg E w)) : PS X (.Return (some e) pos) (tWS g X.mg E (wsRet w)) := (ps_ret he).imp fun D σ H h => by
  obtain ⟨I0, H0, r, x, h⟩ := h
  exact x.readA h fun d v I' H' z _ s y => z v I' H' s y
theorem s_expr (he : PE X e (tW g X.mg E w)) (hs : swapsWith e none pos.line X.env = pure false := by rfl) : PS X (.Expr e pos) (tWS g X.mg E (wsExpr w)) := (ps_expr he hs).imp fun D σ H h => by
  obtain ⟨I0, H0, r, x, h⟩ := h
  exact x.readA h fun d v I' H' z x' _ _ => z σ H' x'
theorem s_if {c : Expr} {p : FT} {s1 s2 : List Stmt} (hc : PT X c (tFT g X.mg E p)) (h1 : PSs X s1 (tWS g X.mg E a)) (h2 : PSs X s2 (tWS g X.mg E b)) : PS X (.If c s1 s2 pos) (tWS g X.mg E (wsIf p a b)) := (ps_if hc h1 h2).imp fun D σ H h => by
  obtain ⟨I0, H0, r, ⟨I, x⟩, h⟩ := h
  obtain ⟨sb, st, er⟩ := x.plus
  refine ⟨_, allv r, st.rl, er, Pst.iff.mpr (resW.mono (fun c z v I' H' s y => ?_) (fun c z => excW.step st z) h)⟩
  subst y
  cases v with
  | true => exact ⟨I0, H0, r, ⟨I, x.back sb s⟩, z⟩
  | false => exact ⟨I0, H0, r, ⟨I, x.back sb s⟩, z⟩
theorem s_set (i : Nat) {x : Str} {pos' : Pos} (hN : X.N.Nodup) (he : PE X e (tW g X.mg E w)) (hi : X.N[i]? = some x := by rfl) (hx : Loc X.env.scope x := by first | exact Or.inl rfl | exact Or.inr rfl) (hs : swapsWith e (some (.Name x pos')) pos.line X.env = pure false := by rfl) (hf : X.fn x = true ∨ X.env.scope.names.lookup x = some .local := by first | exact .inl rfl | exact .inr rfl | assumption) :
    PS X (.Assign [.Name x pos'] e pos) (tWS g X.mg E (wsSet i w)) := (ps_set (i := i) hN hi hx he hs hf).imp fun D σ H h => by
  obtain ⟨I0, H0, r, x, hl, h⟩ := h
  exact x.read h fun d v I' H' z x' y => z _ _ ⟨I', x'.setV hl y⟩
/-- a reading of a new list within the state -/
theorem SR.readO {I0 H0 : Hp} {r : Env2} {σ : L2.St} {H : Hp} {Q : VK} {Qd : D → Prop} (x : SR g I0 H0 r σ H) (h : w.run (plain r) (fun d => (∃ ds, d = .lst ds) ∧ Qd d) (excW g X.mg E I0 H0))
    (k : ∀ ds p vs I' H', Qd (.lst ds) → SRI g I0 H0 I' r σ H' → NT H0 p → p ≠ g.dz → I' p = none → H' p = some (.lst vs) → DRs g I' vs ds → (∀ (j : Nat) (e : D), r[j]? = some (Sl.own e) → σ[j]? ≠ some (some (.ref p))) → Q (.ref p) H') : tO g X.mg E w σ H Q := by
  obtain ⟨I, x⟩ := x
  refine ⟨I, plain r, x.stp.rl, x.er, w.mono (fun d z => ⟨z.1, fun p I' H' s n nz hI hd => ?_⟩) (fun c z => excW.step x.stp z) h⟩
  obtain ⟨⟨ds, rfl⟩, z⟩ := z
  obtain ⟨vs, h1, h2⟩ := hd ds rfl
  refine k ds p vs I' H' z (x.go s) (x.stp.back n) nz hI h1 h2 fun j e hj hs => ?_
  obtain ⟨p', o, q1, _, _, _, q5, q6⟩ := x.own j e hj
  rw [hs] at q1; cases q1
  exact n.none_of q5 (chg_tbl q6.chg)
theorem s_setO (i : Nat) {x : Str} {pos' : Pos} (hN : X.N.Nodup) (he : PE X e (tO g X.mg E w)) (hi : X.N[i]? = some x := by rfl) (hx : Loc X.env.scope x := by first | exact Or.inl rfl | exact Or.inr rfl) (hs : swapsWith e (some (.Name x pos')) pos.line X.env = pure false := by rfl) (hf : X.fn x = true ∨ X.env.scope.names.lookup x = some .local := by first | exact .inl rfl | exact .inr rfl | assumption) :
    PS X (.Assign [.Name x pos'] e pos) (tWS g X.mg E (wsSetO i w)) := (ps_set (i := i) hN hi hx he hs hf).imp fun D σ H h => by
  obtain ⟨I0, H0, r, x, hl, h⟩ := h
  exact x.readO h fun ds p vs I' H' z x' n nz hI hp y fr => z _ _ ⟨I', x'.setO hl n nz hI hp y fr⟩
theorem s_app (i : Nat) {x : Str} {ap p1 cp : Pos} (he : PE X e (tW g X.mg E w)) (hN : X.N[i]? = some x := by rfl) (hv : Vis X.env.scope x := by first | exact Or.inl rfl | exact Or.inr (Or.inl rfl) | exact Or.inr (Or.inr rfl)) (hd : (x == ("__debug__" : Str)) = false := by decide) (hcd : (x == ("__classdict__" : Str)) = false := by decide)
    (hbase : attributeBase (.Name x p1) "append" X.env (eval (.Name x p1) X.env) = eval (.Name x p1) X.env := by rfl)
    (hfew : ((backTo cp (starEach [e] X.env)).all (fun x => !x.1) && (backToKw cp (keywordEach [] X.env)).all (fun x => x.1.isSome) && decide ([e].length + ([] : List Keyword).length + (if ([] : List Keyword).isEmpty then 0 else 1) < 30)) = true := by rfl)
    (hline : (ap.endLine == cp.line) = true := by rfl) (hst : starEach [e] X.env = (false, eval e X.env) :: starEach [] X.env := by rfl) (hpl : (backTo cp (starEach [] X.env)).any (·.1) = false := by rfl)
    (hs : swapsWith (.Call (.Attribute (.Name x p1) "append" ap) [e] [] cp) none pos.line X.env = pure false := by rfl) :
    PS X (.Expr (.Call (.Attribute (.Name x p1) "append" ap) [e] [] cp) pos) (tWS g X.mg E (wsApp i w)) :=
  (ps_expr (pe_bm PySem.F.plainAttrs_list PySem.F.slot_list_append PySem.F.type_list_append mt_append (pv i hN hv hd hcd) (pa_cons he pa_nil hst) hbase hfew hline hst hpl) hs).imp fun D σ H h => by
    obtain ⟨I0, H0, r, ⟨I, x⟩, ds, hr, hl, h⟩ := h
    obtain ⟨p, o, q1, q2, q3, q4, q5, q6⟩ := x.own i _ hr
    cases o with
    | lst vs =>
      have rv : DRs g I vs ds := q6
      refine ⟨.ref p, q1, .inl ⟨rfl, vs, SqL.of q5⟩, SR.read (X := X) ⟨I, x⟩ h fun d v I' H' z x' y => ?_⟩
      obtain ⟨p', o', z1, z2, z3, z4, z5, z6⟩ := x'.own i _ hr
      have ep : p' = p := by rw [q1] at z1; cases z1; rfl
      subst ep
      cases o' with
      | lst vs' =>
        have rv' : DRs g I' vs' ds := z6
        exact ⟨p', vs', v, rfl, rfl, z5, by rw [rv'.len]; exact Nat.lt_of_lt_of_le hl (by decide), z _ _ ⟨I', x'.put hr q1 (rv'.app (.cons y .nil))⟩⟩
      | _ => exact (show False from z6).elim
    | _ => exact (show False from q6).elim
end
end FW
/-! Loops, targets, raises, whole defs. -/
namespace FW
open PySem PySem.Spec PyProof.Rows L2

/-! ### where a body stands -/
theorem passN {X : Cx} : Passes (L2N.CX X.prog X.w) X E0 := fun _ _ _ _ _ _ _ h => by
  obtain ⟨_, _, _, _, _, _, _, _, _, _, _, _, z⟩ := h
  exact z.elim
theorem Bd.blk {X : Cx} {E : XK} {k : Nat} (B : Bd X E k) (s : Shared) (H : Hp) (scope : Scope) (ce : PySem.Env) (fp : List Addr) : Bd (X.blk s H scope ce fp) E0 k := ⟨B.hc, B.nd, B.hr, passN, PassesOwn.never⟩

/-! ### targets over slots -/
def tSG (g : Gd) (f : SG) : TG := fun v σ H Q => ∃ I0 H0 I r d, SRI g I0 H0 I r σ H ∧ DR g I v d ∧ resW (f d r) (fun r' => ∀ σ', SRI g I0 H0 I r' σ' H → Q σ' H) fun _ => False
def tSGs (g : Gd) (f : SGs) : TGs := fun vs σ H Q => ∃ I0 H0 I r ds, SRI g I0 H0 I r σ H ∧ DRs g I vs ds ∧ resW (f ds r) (fun r' => ∀ σ', SRI g I0 H0 I r' σ' H → Q σ' H) fun _ => False
section
variable {X : Cx} {g : Gd} {E : XK}
theorem sg_name (i : Nat) {x : Str} {pos : Pos} (hN : X.N.Nodup) (hi : X.N[i]? = some x := by rfl) (hx : Loc X.env.scope x := by first | exact Or.inl rfl | exact Or.inr rfl) (hf : X.fn x = true ∨ X.env.scope.names.lookup x = some .local := by first | exact .inl rfl | exact .inr rfl | assumption) : PG X (.Name x pos) (tSG g (sgN i)) :=
  (pg_name (i := i) hN hi hx hf).imp fun v σ H Q h => by
    obtain ⟨I0, H0, I, r, d, x, y, h⟩ := h
    unfold sgN at h
    split at h
    · rename_i hi
      exact h _ (x.setV hi y)
    · exact h.elim
theorem sgs_nil : PGs X [] (tSGs g sgsNil) := pgs_nil.imp fun vs σ H Q h => by
  obtain ⟨I0, H0, I, r, ds, x, y, h⟩ := h
  cases y with
  | nil => exact ⟨rfl, h σ x⟩
  | cons _ _ => exact h.elim
theorem sgs_cons {e : Expr} {es : List Expr} {f : SG} {k : SGs} (h1 : PG X e (tSG g f)) (h2 : PGs X es (tSGs g k)) (hs : (assignEach (e :: es) X.env).map (·.2) = assign e X.env :: (assignEach es X.env).map (·.2) := by rfl) :
    PGs X (e :: es) (tSGs g (sgsCons f k)) := (pgs_cons h1 h2 hs).imp fun vs σ H Q h => by
  obtain ⟨I0, H0, I, r, ds, x, y, h⟩ := h
  cases y with
  | nil => exact h.elim
  | cons y t =>
    rename_i v vt d dt
    refine ⟨_, _, rfl, I0, H0, I, r, d, x, y, ?_⟩
    have h' : resW ((f d r).bind (k dt)) (fun r' => ∀ σ', SRI g I0 H0 I r' σ' H → Q σ' H) fun _ => False := h
    cases e : f d r with
    | bad => rw [e] at h'; exact h'.elim
    | exc c => rw [e] at h'; exact h'.elim
    | ok r1 =>
      rw [e] at h'
      exact fun σ1 x1 => ⟨I0, H0, I, r1, dt, x1, t, h'⟩
theorem sg_tup {es : List Expr} {kk n : Nat} {pos : Pos} {k : SGs} (hc : X.calm = true) (h : PGs X es (tSGs g k)) (hn : (assignEach es X.env).length = n := by rfl) (hst : (assignEach es X.env).findIdx? (·.1) = none := by rfl) :
    PG X (.Tuple es kk pos) (tSG g (sgT n k)) := (pg_tup hc h hn hst).imp fun v σ H Q h => by
  obtain ⟨I0, H0, I, r, d, x, y, h⟩ := h
  cases y with
  | tup hx ux rx =>
    rename_i a xs ds _
    have h' : resW (if ds.length = n then k ds r else .bad) (fun r' => ∀ σ', SRI g I0 H0 I r' σ' H → Q σ' H) fun _ => False := h
    split at h'
    · rename_i c
      exact ⟨a, xs, rfl, ux.sqt (x.stp.rl.sub _ _ hx), by rw [rx.len, c], I0, H0, I, r, ds, x, rx, h'⟩
    · exact h'.elim
  | par hx rx =>
    rename_i a xs ds
    have h' : resW (if ds.length = n then k ds r else .bad) (fun r' => ∀ σ', SRI g I0 H0 I r' σ' H → Q σ' H) fun _ => False := h
    split at h'
    · rename_i c
      exact ⟨a, xs, rfl, SqT.of (x.stp.rl.sub _ _ hx), by rw [rx.len, c], I0, H0, I, r, ds, x, rx, h'⟩
    · exact h'.elim
  | _ => exact h.elim
end
/-- target = value -/
def wsAsg (sg : SG) (w : WE) : WS := ⟨fun r k => w.run (plain r) (fun d => resW (sg d r) k.nx fun _ => False) k.ex, fun h q => w.mono (fun _ z => resW.mono (fun _ z => h.nx _ z) (fun _ z => z) z) h.ex q⟩
def wsFor (wi : WI) (sg : SG) (body : WS) : WS := ⟨fun r k => wi.run (plain r) (fun ds => forW sg body k ds r) k.ex, fun h q => wi.mono (fun _ z => forW.mono h z) h.ex q⟩
def wsWhile (p : FT) (body : WS) : WS := ⟨fun r k => ∃ n, whileW p body k n r, fun h ⟨n, q⟩ => ⟨n, whileW.mono h q⟩⟩
theorem Stp.rebase {g : Gd} {I0 H0 I1 H1 I' H' : Hp} (p : Stp g I0 H0 I1 H1) (q : Stp g I1 H0 I' H') : Stp g I0 H0 I' H' :=
  ⟨p.mono.trans q.mono, fun a o h => (q.new a o h).elim (fun z => p.new a o z) .inr, q.keep, q.rl⟩
theorem SR.rebase {g : Gd} {I0 H0 I1 H1 : Hp} {r : Env2} {σ : L2.St} {H : Hp} (p : Stp g I0 H0 I1 H1) (q : SR g I1 H0 r σ H) : SR g I0 H0 r σ H := by
  obtain ⟨I, x⟩ := q
  exact ⟨I, p.rebase x.stp, x.len, x.val, x.own, x.inj⟩
section
variable {X : Cx} {g : Gd} {E : XK} {k : Nat} {body : List Stmt} {a : WS} {pos : Pos}
theorem s_asg {tg e : Expr} {sg : SG} {w : WE} (he : PE X e (tW g X.mg E w)) (hg : PG X tg (tSG g sg)) (hs : swapsWithSole [tg] e pos.line X.env = pure false := by rfl) (hw : swappedStores [tg] e X.env = pure none := by rfl) (h1 : (assignEach [tg] X.env).map (·.2) = [assign tg X.env] := by rfl) :
    PS X (.Assign [tg] e pos) (tWS g X.mg E (wsAsg sg w)) := (ps_asg he hg hs hw h1).imp fun D σ H h => by
  obtain ⟨I0, H0, r, x, h⟩ := h
  exact x.read h fun d v I' H' z x' y => ⟨I0, H0, I', r, d, x', y, resW.mono (fun r' q σ' x2 => q σ' H' ⟨I', x2⟩) (fun _ z => z) z⟩
theorem s_for {tg iter : Expr} {wi : WI} {sg : SG} (B : Bd X E k) (hi : PI X tg iter (tWI g X.mg E wi)) (hg : PG X tg (tSG g sg)) (hb : PSs X body (tWS g X.mg E a)) (hs : ∀ x, foldedSetIterable iter X.env x = pure x := by intro _; rfl) :
    PS X (.For tg iter body [] pos) (tWS g X.mg E (wsFor wi sg a)) := (ps_for B.po B.hc hi hg hb hs).imp fun D σ H h => by
  obtain ⟨I0, H0, r, ⟨I, x⟩, h⟩ := h
  refine ⟨I, plain r, x.stp.rl, x.er, wi.mono (fun ds q => ?_) (fun c z => excW.step x.stp z) h⟩
  intro J I1 H1 s1 src
  have x1 := x.go s1
  have st1 := x1.stp
  refine ⟨fun i m σ' H' => ∃ r', m = ds.length - i ∧ i ≤ ds.length ∧ SR g I1 H0 r' σ' H' ∧ forW sg a (ktOf g X.mg E I0 H0 D) (ds.drop i) r',
    ⟨ds.length, r, rfl, Nat.zero_le _, ⟨I1, ⟨Sub.refl _, fun _ _ z => .inl z, st1.keep, st1.rl⟩, x1.len, x1.val, x1.own, x1.inj⟩, by rw [List.drop_zero]; exact q⟩, ?_⟩
  rintro i m σ' H' ⟨r', rfl, hi', ⟨I', x'⟩, hq⟩
  by_cases hlt : i < ds.length
  · rw [List.drop_eq_getElem_cons hlt] at hq
    refine .inr ⟨src.go i I' H' x'.stp.rl x'.stp.mono hlt, fun σ2 H2 => ∃ r2, SR g I1 H0 r2 σ2 H2 ∧ forW sg a (ktOf g X.mg E I0 H0 D) (ds.drop (i + 1)) r2, fun σ2 H2 ⟨r2, z1, z2⟩ => ⟨ds.length - (i + 1), by omega, r2, rfl, hlt, z1, z2⟩, fun v H2 y => ?_⟩
    obtain ⟨I2, s2, xd⟩ := src.yld i ds[i] I' H' v H2 x'.stp.rl x'.stp.mono (List.getElem?_eq_getElem hlt) y
    refine ⟨I1, H0, I2, r', ds[i], x'.go s2, xd, resW.mono (fun r1 z σ3 x3 => ?_) (fun _ z => z) hq⟩
    exact ⟨I1, H0, r1, ⟨I2, x3⟩, a.mono (k := { nx := forW sg a (ktOf g X.mg E I0 H0 D) (ds.drop (i + 1)), rt := (ktOf g X.mg E I0 H0 D).rt, bk := (ktOf g X.mg E I0 H0 D).nx, ct := forW sg a (ktOf g X.mg E I0 H0 D) (ds.drop (i + 1)), ex := (ktOf g X.mg E I0 H0 D).ex }) ⟨fun r2 z σ4 H4 q4 => ⟨r2, q4, z⟩, fun d z v' I4 H4 s4 y4 => z v' I4 H4 (st1.rebase s4) y4, fun r2 z σ4 H4 q4 => z σ4 H4 (SR.rebase st1 q4), fun r2 z σ4 H4 q4 => ⟨r2, q4, z⟩, fun c z I4 H4 s4 => z I4 H4 (st1.rebase s4)⟩ z⟩
  · have ei : i = ds.length := by omega
    subst ei
    rw [List.drop_length] at hq
    exact .inl ⟨src.stop _ I' H' x'.stp.rl x'.stp.mono rfl, hq σ' H' (SR.rebase st1 ⟨I', x'⟩)⟩
theorem s_while {c : Expr} {p : FT} (B : Bd X E k) (hc : PT X c (tFT g X.mg E p)) (hb : PSs X body (tWS g X.mg E a)) : PS X (.While c body [] pos) (tWS g X.mg E (wsWhile p a)) := (ps_while B.po hc hb).imp fun D σ H h => by
  obtain ⟨I0, H0, r, x, n, h⟩ := h
  refine ⟨fun m σ' H' => ∃ r', SR g I0 H0 r' σ' H' ∧ whileW p a (ktOf g X.mg E I0 H0 D) m r', ⟨n, r, x, h⟩, ?_⟩
  rintro m σ' H' ⟨r', ⟨I, x⟩, hq⟩
  cases m with
  | zero => exact hq.elim
  | succ m =>
    obtain ⟨sb, st, er⟩ := x.plus
    refine ⟨_, allv r', st.rl, er, Pst.iff.mpr (resW.mono (fun b z v I' H2 s y => ?_) (fun c z => excW.step st z) hq)⟩
    subst y
    cases v with
    | true => exact ⟨fun σ2 H2 => ∃ r2, SR g I0 H0 r2 σ2 H2 ∧ whileW p a (ktOf g X.mg E I0 H0 D) m r2, fun σ2 H2 ⟨r2, z1, z2⟩ => ⟨m, Nat.lt_succ_self _, r2, z1, z2⟩, I0, H0, r', ⟨I, x.back sb s⟩, a.mono (k := { nx := whileW p a (ktOf g X.mg E I0 H0 D) m, rt := (ktOf g X.mg E I0 H0 D).rt, bk := (ktOf g X.mg E I0 H0 D).nx, ct := whileW p a (ktOf g X.mg E I0 H0 D) m, ex := (ktOf g X.mg E I0 H0 D).ex }) ⟨fun r2 z σ4 H4 q4 => ⟨r2, q4, z⟩, fun _ z => z, fun _ z => z, fun r2 z σ4 H4 q4 => ⟨r2, q4, z⟩, fun _ z => z⟩ z⟩
    | false => exact z σ' H2 ⟨I, x.back sb s⟩
variable {i : Nat} {y : Str} {py spos : Pos} {elt tg iter : Expr} {ifs : List Expr} {scope : Scope} {own : List (Str × Nat)} {wi : WI} {fg : FG} {ft : FT} {we : WE} {is : List Nat}
theorem s_setLc (i : Nat) (B : Bd X E k) (hsw : swapsWith (.ListComp elt [⟨tg, iter, ifs, 0⟩] scope pos) (some (.Name y py)) spos.line X.env = pure true) (hi : PI X tg iter (tWI g X.mg E wi)) (ok : BlkOk X.N X.env.scope scope own) (his : ∀ i ∈ is, i ∈ own.map (·.2)) (hg : ForBlk X scope fun B => PG B tg (tFG g is fg)) (ht : ForBlk X scope fun B => PTs B ifs (tFT g B.mg E0 ft))
    (he : ForBlk X scope fun B => PE B elt (tW g B.mg E0 we)) (hy : X.N[i]? = some y := by rfl) (hyl : X.env.scope.names.lookup y = some .local := by rfl) (hs : ∀ x, foldedSetIterable iter X.env x = pure x := by intro _; rfl) :
    PS X (.Assign [.Name y py] (.ListComp elt [⟨tg, iter, ifs, 0⟩] scope pos) spos) (tWS g X.mg E (wsSet i (wLc wi fg ft we (own.map (·.2))))) :=
  (ps_setLc (i := i) B.hc B.nd hy hyl hsw hi ok hg ht he hs).imp fun D σ H h => by
    obtain ⟨I0, H0, r, x, hl, h⟩ := h
    refine lc_of his (tO_of lists_lc (x.read h fun d v I' H' z x' y => ?_))
    exact z _ _ ⟨I', x'.setV hl y⟩
/-- raise C('..') -/
structure ExcT (K : PySem.W.Frag) (mg : Str → Option Value) (x : Str) (C : Addr) : Prop where
  g : mg x = some (.ref C)
  q : PySem.W.excIn K C [.type "ValueError", .type "Exception", .type "BaseException", .type "object"] "ValueError.__new__" = true
  k : PySem.W.keepIn K (.ref C) = true
  b : PySem.W.subIn K (.ref C) (.type "BaseException") = some true
  t : PySem.W.typeIn K (.ref C) = some (.type "type")
theorem s_raise {x m : Str} {C : Addr} {j : Nat} {p p2 p3 : Pos} (T : ExcT X.K X.mg x C) (tk : L2N.Takes X (fun cls d _ H => E cls d H)) (B : Bd X E k) (hg : Gl X x) (hdb : (x == ("__debug__" : Str)) = false := by decide) :
    PS X (.Raise (some (.Call (.Name x p) [.Constant (.str m) j p2] [] p3)) none pos) (tWS g X.mg E (wsRaise x)) :=
  (L2N.ps_raise B.hc tk (L2N.pmk_own PySem.F.excBase_ValueError T.q T.g T.k (raises_own T.b T.t) hg hdb)).imp fun D σ H h => by
    obtain ⟨I0, H0, r, ⟨I, x⟩, h⟩ := h
    exact h I H x.stp C T.g
end

/-! ### a def -/
def spW (mg : Str → Option Value) (f : List D → (D → Prop) → (Str → Prop) → Prop) : Sp := fun vs H Q E => ∃ (g : Gd) (I : Hp) (ds : List D), Rl g I H ∧ DRs g I vs ds ∧ f ds (endW g (DR g) I H Q) (excW g mg E I H)
theorem sri_start {g : Gd} {I H : Hp} {N : List Str} {vs : List V} {ds : List D} (rl : Rl g I H) (h : DRs g I vs ds) (hl : ds.length ≤ N.length) : SRI g I H I (initE N.length ds) (L2.start N vs) H := by
  have le := h.len
  refine ⟨rl.stp, ?_, fun i d hi => ?_, fun i d hi => ?_, fun i j d e p hi => ?_⟩
  · unfold initE L2.start
    rw [List.length_append, List.length_append, List.length_map, List.length_map, List.length_replicate, List.length_replicate, le]
  · unfold initE at hi
    by_cases c : i < ds.length
    · rw [List.getElem?_append_left (by rw [List.length_map]; exact c), List.getElem?_map] at hi
      cases e : ds[i]? with
      | none => rw [e] at hi; cases hi
      | some d' =>
        rw [e] at hi
        have ed : d' = d := by
          have := Option.some.inj hi
          injection this
        subst ed
        obtain ⟨v, h1, h2⟩ := h.at_ e
        refine ⟨v, ?_, h2⟩
        unfold L2.start
        rw [List.getElem?_append_left (by rw [List.length_map, le]; exact c), List.getElem?_map, h1]; rfl
    · rw [List.getElem?_append_right (by rw [List.length_map]; omega), List.getElem?_replicate] at hi
      split at hi <;> cases hi
  · unfold initE at hi
    by_cases c : i < ds.length
    · rw [List.getElem?_append_left (by rw [List.length_map]; exact c), List.getElem?_map] at hi
      cases e : ds[i]? with
      | none => rw [e] at hi; cases hi
      | some d' => rw [e] at hi; cases hi
    · rw [List.getElem?_append_right (by rw [List.length_map]; omega), List.getElem?_replicate] at hi
      split at hi <;> cases hi
  · unfold initE at hi
    by_cases c : i < ds.length
    · rw [List.getElem?_append_left (by rw [List.length_map]; exact c), List.getElem?_map] at hi
      cases e : ds[i]? with
      | none => rw [e] at hi; cases hi
      | some d' => rw [e] at hi; cases hi
    · rw [List.getElem?_append_right (by rw [List.length_map]; omega), List.getElem?_replicate] at hi
      split at hi <;> cases hi
section
variable {P : Program} {w : World} {K : PySem.W.Frag} {mg : Str → Option Value} {base : Heap}
/-- THE RULE for a def -/
theorem fn_ok {x qual : Str} {st : Stmt} {f : Addr} {fd : FuncData} {N ps : List Str} {k np n : Nat} {ws : WS} (F : Fun K x qual st f fd) (S : FnScope N ps (defScope st)) (hnp : ps.length = np) (hn : N.length = n)
    (hbody : ∀ (cdv : Value) (A : Around) (outer : List PySem.Env) (s : Shared) (H : Hp) (E : XK) (g : Gd), Bd (cxOf (L2N.CX P w) P w K mg base N qual (defScope st) f cdv A outer s H E) E k → L2N.Takes (cxOf (L2N.CX P w) P w K mg base N qual (defScope st) f cdv A outer s H E) (fun cls d _ H => E cls d H) →
      PSs (cxOf (L2N.CX P w) P w K mg base N qual (defScope st) f cdv A outer s H E) (defBody st) (tWS g mg E ws)) : FnOk P w K mg base (L2N.CX P w) (k + 1) f fd ps (spW mg (fnW np n ws)) := by
  obtain ⟨oc, od, kV, doc, pm, an, cdv, ct, osl, rfl, lk, hcd⟩ := F.ex
  have len : ∀ vs H Q E, spW mg (fnW np n ws) vs H Q E → vs.length = ps.length := fun vs H Q E ⟨g, I, ds, rl, h, hl, _⟩ => by rw [h.len, hl, hnp]
  refine fn_of lk hcd S len fun A outer s H vs Q E hr hsp => ?_
  obtain ⟨g, I, ds, rl, h, hl, q⟩ := hsp
  have tk : L2N.Takes (cxOf (L2N.CX P w) P w K mg base N qual (defScope st) f cdv A outer s H E) (fun cls d _ H => E cls d H) := L2N.takes_of rfl rfl rfl rfl
  have B : Bd (cxOf (L2N.CX P w) P w K mg base N qual (defScope st) f cdv A outer s H E) E k := ⟨rfl, S.nd, hr, L2N.passes_call tk fun _ _ _ _ z => z, passes_of (K := fun e s'' => L2N.CX P w outer H s E e s'') (E₁ := fun e' s'' => L2N.CX P w outer H s E e' s'') rfl⟩
  refine ⟨_, hbody cdv A outer s H E g B tk, I, H, initE n ds, ⟨I, ?_⟩, ws.mono (k := { nx := fun _ => endW g (DR g) I H Q .non, rt := endW g (DR g) I H Q, bk := fun _ => False, ct := fun _ => False, ex := excW g mg E I H }) ⟨fun r z σ H' x => ?_, fun d z => z, fun _ z => z.elim, fun _ z => z.elim, fun _ z => z⟩ q⟩
  · have hpl : ps.length ≤ N.length := by
      have := congrArg List.length S.pre
      rw [List.length_take] at this
      omega
    rw [← hn]
    exact sri_start rl h (by rw [hl, ← hnp]; exact hpl)
  · obtain ⟨I', x⟩ := x
    exact z .non I' H' x.stp .non
end
end FW
/-! Statements by functions; expressions by wishes; calls. -/
namespace FW
open PySem PySem.Spec PyProof.Rows L2

/-! ### statements by functions -/
def outW (o : Out) (k : Kt) : Prop := match o with
  | .nx r => k.nx r
  | .rt d => k.rt d
  | .bk r => k.bk r
  | .ct r => k.ct r
def ImpS (f : FS) (w : WS) : Prop := ∀ (r : Env2) (k : Kt), resW (f r) (fun o => outW o k) k.ex → w.run r k
theorem resW_bind {α β : Type} {x : Res α} {k : α → Res β} {Q : β → Prop} {Z : Str → Prop} (h : resW (x.bind k) Q Z) : resW x (fun a => resW (k a) Q Z) Z := by
  cases x with
  | ok a => exact h
  | exc c => exact h
  | bad => exact h
theorem calm_W {α : Type} {x : Res α} {Q : α → Prop} {Z : Str → Prop} (h : resW x.calm Q Z) : resW x Q fun _ => False := by
  cases x with
  | ok a => exact h
  | exc c => exact h.elim
  | bad => exact h
theorem imp_skip : ImpS fsSkip wsSkip := fun r k h => h
theorem imp_seq {f h : FS} {a b : WS} (h1 : ImpS f a) (h2 : ImpS h b) : ImpS (fsSeq f h) (wsSeq a b) := fun r k q => h1 r _ (resW.mono (fun o z => by
  cases o with
  | nx r' => exact h2 r' k z
  | rt d => exact z
  | bk r' => exact z
  | ct r' => exact z) (fun _ z => z) (resW_bind q))
theorem imp_set {i : Nat} {f : FE} : ImpS (fsSet i f) (wsSet i (wOf f)) := fun r k q => by
  unfold fsSet at q
  split at q
  · rename_i hi
    exact ⟨hi, resW.mono (fun d z => z) (fun _ z => z) (resW_bind q)⟩
  · exact q.elim
theorem imp_setLc {i : Nat} {fi : FI} {fg : FG} {ft : FT} {fe : FE} {vs : List Nat} : ImpS (fsSet i (fLc fi fg ft fe vs)) (wsSet i (wLc (wiOf fi) fg ft (wOf fe) vs)) := fun r k q => by
  unfold fsSet at q
  split at q
  · rename_i hi
    exact ⟨hi, fLc_W (resW.mono (fun d z => z) (fun _ z => z) (resW_bind q))⟩
  · exact q.elim
theorem setO_parts {i : Nat} {f : FE} {r : Env2} {k : Kt} (q : resW (fsSetO i f r) (fun o => outW o k) k.ex) : i < r.length ∧ resW (f (plain r)) (fun d => (∃ ds, d = .lst ds) ∧ k.nx (r.set i (.own d))) k.ex := by
  unfold fsSetO at q
  split at q
  · rename_i hi
    refine ⟨hi, resW.mono (fun d z => ?_) (fun _ z => z) (resW_bind q)⟩
    cases d <;> first | exact (show False from z).elim | exact ⟨⟨_, rfl⟩, z⟩
  · exact q.elim
theorem imp_setO {i : Nat} {f : FE} : ImpS (fsSetO i f) (wsSetO i (wOf f)) := fun r k q => setO_parts q
theorem imp_ret {f : FE} : ImpS (fsRet f) (wsRet (wOf f)) := fun r k q => resW.mono (fun _ z => z) (fun _ z => z) (resW_bind q)
theorem imp_if {p : FT} {f h : FS} {a b : WS} (h1 : ImpS f a) (h2 : ImpS h b) : ImpS (fsIf p f h) (wsIf p a b) := fun r k q => resW.mono (fun c z => by
  cases c with
  | true => exact h1 r k z
  | false => exact h2 r k z) (fun _ z => z) (resW_bind q)
theorem imp_expr {f : FE} : ImpS (fsExpr f) (wsExpr (wOf f)) := fun r k q => resW.mono (fun _ z => z) (fun _ z => z) (resW_bind q)
theorem imp_raise {c : Str} : ImpS (fsRaise c) (wsRaise c) := fun r k q => q
theorem imp_never : ImpS fsNever wsNever := fun r k q => q
theorem imp_app {i : Nat} {f : FE} : ImpS (fsApp i f) (wsApp i (wOf f)) := fun r k q => by
  unfold fsApp at q
  split at q
  · rename_i ds e
    split at q
    · rename_i hl
      exact ⟨ds, e, hl, resW.mono (fun _ z => z) (fun _ z => z) (resW_bind q)⟩
    · exact q.elim
  · exact q.elim
theorem imp_asg {sg : SG} {f : FE} : ImpS (fsAsg sg f) (wsAsg sg (wOf f)) := fun r k q => resW.mono (fun d z => calm_W (resW.mono (fun _ z => z) (fun _ z => z) (resW_bind z))) (fun _ z => z) (resW_bind q)
theorem forF_W {sg : SG} {f : FS} {a : WS} {k : Kt} (h : ImpS f a) : ∀ {ds : List D} {r : Env2}, resW (forF sg f ds r) (fun o => outW o k) k.ex → forW sg a k ds r
  | [], _, q => q
  | d :: ds, r, q => by
    refine resW.mono (fun r1 z => h r1 _ (resW.mono (fun o y => ?_) (fun _ z => z) (resW_bind z))) (fun _ z => z) (calm_W (resW_bind (show resW ((sg d r).calm.bind _) _ _ from q)))
    cases o with
    | nx r2 => exact forF_W h y
    | ct r2 => exact forF_W h y
    | bk r2 => exact y
    | rt d => exact y
theorem imp_for {fi : FI} {sg : SG} {f : FS} {a : WS} (h : ImpS f a) : ImpS (fsFor fi sg f) (wsFor (wiOf fi) sg a) := fun r k q => resW.mono (fun ds z => forF_W h z) (fun _ z => z) (resW_bind q)
theorem whileF_W {p : FT} {f : FS} {a : WS} {k : Kt} (h : ImpS f a) : ∀ {n : Nat} {r : Env2}, resW (whileF p f n r) (fun o => outW o k) k.ex → whileW p a k n r
  | 0, _, q => q
  | n + 1, r, q => by
    refine resW.mono (fun b z => ?_) (fun _ z => z) (resW_bind (show resW ((p (allv r)).bind _) _ _ from q))
    cases b with
    | false => exact z
    | true =>
      refine h r _ (resW.mono (fun o y => ?_) (fun _ z => z) (resW_bind (show resW ((f r).bind _) _ _ from z)))
      cases o with
      | nx r2 => exact whileF_W h y
      | ct r2 => exact whileF_W h y
      | bk r2 => exact y
      | rt d => exact y
theorem imp_while {n : Nat} {p : FT} {f : FS} {a : WS} (h : ImpS f a) : ImpS (fsWhile n p f) (wsWhile p a) := fun r k q => ⟨n, whileF_W h q⟩
theorem fnF_W {np n : Nat} {f : FS} {a : WS} (h : ImpS f a) {ds : List D} {Q : D → Prop} {Z : Str → Prop} (q : resW (fnF np n f ds) Q Z) : fnW np n a ds Q Z := by
  unfold fnF at q
  split at q
  · rename_i hl
    refine ⟨hl, h _ _ (resW.mono (fun o z => ?_) (fun _ z => z) (resW_bind q))⟩
    cases o with
    | rt d => exact z
    | nx r => exact z
    | bk r => exact (show False from z).elim
    | ct r => exact (show False from z).elim
  · exact q.elim
theorem fn_F {P : Program} {w : World} {K : PySem.W.Frag} {mg : Str → Option Value} {base : Heap} {CX : CXT} {k np n : Nat} {f : Addr} {fd : FuncData} {ps : List Str} {a : WS} {fs : FS} (G : FnOk P w K mg base CX k f fd ps (spW mg (fnW np n a))) (h : ImpS fs a) (hnp : ps.length = np) : FnOk P w K mg base CX k f fd ps (spF mg (fnF np n fs)) :=
  G.imp fun vs H Q E ⟨g, I, ds, rl, x, q⟩ => ⟨g, I, ds, rl, x, fnF_W h (Pst.iff.mp q)⟩

/-! ### expressions by wishes -/
structure WA where
  run : Env → (List D → Prop) → (Str → Prop) → Prop
  mono : ∀ {r : Env} {Q Q' : List D → Prop} {Z Z' : Str → Prop}, (∀ d, Q d → Q' d) → (∀ c, Z c → Z' c) → run r Q Z → run r Q' Z'
def tWA (g : Gd) (mg : Str → Option Value) (E : XK) (w : WA) : TA := fun σ H Q => ∃ I r, Rl g I H ∧ ER g I σ r ∧ w.run r (endW g (DRs g) I H Q) (excW g mg E I H)
def waNil : WA := ⟨fun _ Q _ => Q [], fun h _ q => h _ q⟩
def waCons (w : WE) (k : WA) : WA := ⟨fun r Q Z => w.run r (fun d => k.run r (fun ds => Q (d :: ds)) Z) Z, fun h h2 q => w.mono (fun _ z => k.mono (fun _ z => h _ z) h2 z) h2 q⟩
def waOf (f : FA) : WA := ⟨fun r Q Z => resW (f r) Q Z, fun h h2 q => resW.mono h h2 q⟩
section
variable {X : Cx} {g : Gd} {E : XK} {e a b : Expr} {es : List Expr} {w wa wb : WE} {ka : WA} {pos p : Pos}
theorem wa_nil : PA X [] (tWA g X.mg E waNil) := pa_nil.imp fun σ H Q h => by
  obtain ⟨I, r, rl, er, h⟩ := h
  exact h [] I H rl.stp .nil
theorem wa_cons (he : PE X e (tW g X.mg E w)) (hk : PA X es (tWA g X.mg E ka)) (hs : starEach (e :: es) X.env = (false, eval e X.env) :: starEach es X.env := by rfl) : PA X (e :: es) (tWA g X.mg E (waCons w ka)) :=
  (pa_cons he hk hs).imp fun σ H Q h => by
    obtain ⟨I, r, rl, er, h⟩ := h
    refine ⟨I, r, rl, er, w.mono (fun d z v I1 H1 s1 x1 => ?_) (fun _ z => z) h⟩
    exact ⟨I1, r, s1.rl, er.mono s1.mono, ka.mono (fun ds z vs I2 H2 s2 x2 => z (v :: vs) I2 H2 (s1.trans s2) (.cons (x1.mono s2.mono) x2)) (fun c z => excW.step s1 z) z⟩
theorem wa_of {f : FA} (h : PA X es (tFA g X.mg E f)) : PA X es (tWA g X.mg E (waOf f)) := h.imp fun σ H Q q => by
  obtain ⟨I, r, rl, er, q⟩ := q
  exact ⟨I, r, rl, er, Pst.iff.mpr q⟩
/-- how many -/
def LenW (k : WA) (n : Nat) : Prop := ∀ r Q Z, k.run r Q Z → k.run r (fun ds => ds.length = n ∧ Q ds) Z
theorem lenw_nil : LenW waNil 0 := fun r Q Z q => ⟨rfl, q⟩
theorem lenw_cons {n : Nat} (h : LenW ka n) : LenW (waCons w ka) (n + 1) := fun r Q Z q => w.mono (fun d z => ka.mono (fun ds y => ⟨by rw [List.length_cons, y.1], y.2⟩) (fun _ z => z) (h r _ _ z)) (fun _ z => z) q
def wTup (k : WA) : WE := ⟨fun r Q Z => k.run r (fun ds => Q (.tup ds)) Z, fun h h2 q => k.mono (fun _ z => h _ z) h2 q⟩
def wLst (k : WA) : WE := ⟨fun r Q Z => k.run r (fun ds => Q (.lst ds)) Z, fun h h2 q => k.mono (fun _ z => h _ z) h2 q⟩
theorem w_tup {x1 n : Nat} (hk : PA X es (tWA g X.mg E ka)) (hl : LenW ka n) (hn : n ≤ 100000 := by decide) : PE X (.Tuple es x1 pos) (tW g X.mg E (wTup ka)) :=
  (pe_tupX hk).imp fun σ H Q h => by
    obtain ⟨I, r, rl, er, h⟩ := h
    refine ⟨I, r, rl, er, ka.mono (fun ds z vs I1 H1 s1 x1 => ⟨small_line ?_, fun p u hp hu => ?_⟩) (fun _ z => z) (hl r _ _ h)⟩
    · rw [x1.len, z.1]; exact hn
    · have s2 := s1.rl.put (o := u) hp hu.nt
      exact z.2 _ _ _ (s1.trans s2) (.tup upd_same hu (x1.mono s2.mono))
theorem o_lst {n : Nat} (hk : PA X es (tWA g X.mg E ka)) (hl : LenW ka n) (hn : n ≤ 100000 := by decide) : PE X (.List es pos) (tO g X.mg E (wLst ka)) :=
  (pe_lst hk).imp fun σ H Q h => by
    obtain ⟨I, r, rl, er, h⟩ := h
    refine ⟨I, r, rl, er, ka.mono (fun ds z vs I1 H1 s1 x1 => ⟨small_line ?_, fun p hp => ?_⟩) (fun _ z => z) (hl r _ _ h)⟩
    · rw [x1.len, z.1]; exact hn
    · have s2 := s1.rl.lay (o := .lst vs) hp
      exact z.2.2 p I1 _ (s1.trans s2) (s1.back (NT.of hp)) (s1.rl.nz hp) (s1.rl.out hp) fun es e => by
        cases e
        exact ⟨vs, upd_same, x1⟩
/-- [..] of plain values, one's own -/
theorem oF_lst {f : FA} {n : Nat} (hk : PA X es (tFA g X.mg E f)) (hl : Len f n) (hn : n ≤ 100000 := by decide) : PE X (.List es pos) (tO g X.mg E (wOf (fLst f))) :=
  (o_lst (wa_of hk) (fun r Q Z q => by
    show resW (f r) _ _
    have q' : resW (f r) Q Z := q
    cases e : f r with
    | ok ds => rw [e] at q'; exact ⟨hl r ds e, q'⟩
    | exc c => rw [e] at q'; exact q'
    | bad => rw [e] at q'; exact q') hn).imp fun σ H Q h => by
    obtain ⟨I, r, rl, er, h⟩ := h
    exact ⟨I, r, rl, er, resW.mono (fun _ z => z) (fun _ z => z) (resW_bind h)⟩
def wOp (dop : D → D → Res D) (wa wb : WE) : WE := ⟨fun r Q Z => wa.run r (fun x => wb.run r (fun y => resW (dop x y) Q Z) Z) Z, fun h h2 q => wa.mono (fun _ z => wb.mono (fun _ z => resW.mono h h2 z) h2 z) h2 q⟩
theorem wOp_of {r2 : R2} {dop : D → D → Res D} (ho : OpD g X.mg E r2 dop) {σ : L2.St} {H : Hp} {Q : VK} (h : tW g X.mg E (wOp dop wa wb) σ H Q) : tOp r2 (tW g X.mg E wa) (tW g X.mg E wb) σ H Q := by
  obtain ⟨I, r, rl, er, h⟩ := h
  refine ⟨I, r, rl, er, wa.mono (fun x z v I1 H1 s1 x1 => ?_) (fun _ z => z) h⟩
  refine ⟨I1, r, s1.rl, er.mono s1.mono, wb.mono (fun y z u I2 H2 s2 x2 => ?_) (fun c z => excW.step s1 z) z⟩
  exact ho I2 H2 x y v u Q s2.rl (x1.mono s2.mono) x2 (Pst.iff.mpr (resW.mono (fun d z => endW.step (s1.trans s2) z) (fun c z => excW.step (s1.trans s2) z) z))
theorem w_op {op : Operator} {r2 : R2} {dop : D → D → Res D} (hr : OpR X (binaryOp op) r2) (ho : OpD g X.mg E r2 dop) (ha : PE X a (tW g X.mg E wa)) (hb : PE X b (tW g X.mg E wb)) : PE X (.BinOp a op b pos) (tW g X.mg E (wOp dop wa wb)) := (pe_op hr ha hb).imp fun _ _ _ h => wOp_of ho h
theorem w_add (ha : PE X a (tW g X.mg E wa)) (hb : PE X b (tW g X.mg E wb)) : PE X (.BinOp a .Add b pos) (tW g X.mg E (wOp dAdd wa wb)) := w_op (op_add.or (op_add_str.or (op_catX.or op_cat))) od_add ha hb
/-- a call of a def that draws -/
abbrev FnW := List D → (D → Prop) → (Str → Prop) → Prop
structure MonoW (f : FnW) : Prop where
  mono : ∀ {ds : List D} {Q Q' : D → Prop} {Z Z' : Str → Prop}, (∀ d, Q d → Q' d) → (∀ c, Z c → Z' c) → f ds Q Z → f ds Q' Z'
def wCall (f : FnW) (m : MonoW f) (k : WA) : WE := ⟨fun r Q Z => k.run r (fun ds => f ds Q Z) Z, fun h h2 q => k.mono (fun _ z => m.mono h h2 z) h2 q⟩
theorem w_call {x : Str} {CX : CXT} {kl : Nat} {f : Addr} {fd : FuncData} {ps : List Str} {fn : FnW} (m : MonoW fn) (F : FnOk X.prog X.w X.K X.mg X.base CX kl f fd ps (spW X.mg fn)) (hr : Room kl X.A) (hg : Gl X x) (hm : X.mg x = some (.ref f)) (hk : PySem.W.keepIn X.K (.ref f) = true) (hb : Binds X.K fd ps []) (hx : Passes CX X E)
    (ha : PA X (e :: es) (tWA g X.mg E ka)) (hdb : (x == ("__debug__" : Str)) = false := by decide) (he : starEach (e :: es) X.env = (false, eval e X.env) :: starEach es X.env := by rfl) (hpl : (backTo pos (starEach es X.env)).any (·.1) = false := by rfl) :
    PE X (.Call (.Name x p) (e :: es) [] pos) (tW g X.mg E (wCall fn m ka)) :=
  (pe_call F hr hg hm hk hb .nil hx ha hdb he hpl).imp fun σ H Q h => by
    obtain ⟨I, r, rl, er, h⟩ := h
    refine ⟨I, r, rl, er, ka.mono (fun ds z vs I1 H1 s1 x1 => ?_) (fun _ z => z) h⟩
    show spW X.mg fn (vs ++ []) H1 Q E
    rw [List.append_nil]
    exact ⟨g, I1, ds, s1.rl, x1, m.mono (fun d z => endW.step s1 z) (fun c z => excW.step s1 z) z⟩
end
end FW
/-! Sets of tuples of any depth (texts, numbers, None within): set(x), its length. -/
namespace FW
open PySem PySem.Spec PyProof.Rows L2

section
variable {P : Program} {w : World} {A : Around} {E : Value → Shared → Prop} {s : Shared}
mutual
theorem ofClass_key : ∀ (k : NestedKey) (v : Value) (n : Nat) (Q : Bool → Shared → Prop), NestedIs s.heap k v → k.depth ≤ n → Q false s → wpAny (model P w) A (ofAClassStatement n v) Q E s
  | .none, _, n, Q, x, _, h => by cases x; cases n <;> exact wpAny_pure h
  | .num i, _, n, Q, x, _, h => by cases x <;> cases n <;> exact wpAny_pure h
  | .text y, _, n, Q, x, _, h => by cases x; cases n <;> exact wpAny_pure h
  | .tup ks, _, 0, Q, x, hn, h => absurd hn (by rw [NestedKey.depth]; omega)
  | .tup ks, _, n + 1, Q, x, hn, h => by
    cases x with
    | tup ho hc hd hk =>
      rename_i b o vs m
      rw [NestedKey.depth] at hn
      have all := ofClass_keys ks vs.toList n hk (by omega)
      have ty : s.TypeIs (.ref b) "tuple" := ⟨o, ho, hc⟩
      unfold ofAClassStatement
      refine wpAny_bind (wpAny_typeOf ty ?_)
      dsimp only
      simp only [show (("tuple" : String) == "tuple") = true from by decide, if_true, Bool.not_true, Bool.false_eq_true, if_false]
      try refine wpAny_bind (wpAny_pure ?_)
      try simp only [Bool.not_true, Bool.false_eq_true, if_false]
      show wpAny _ _ (seqItems? (.ref b) >>= _) _ _ s
      refine wpAny_bind (wpAny_seqItems ho hd ?_)
      dsimp only
      refine wpAny_bind ?_
      show wpAny _ _ (forIn vs _ _) _ _ s
      rw [← Array.forIn_toList]
      refine wpAny_forIn_list _ (fun rest r s' => r.1 = none ∧ s' = s ∧ ∀ v ∈ rest, ∀ Q : Bool → Shared → Prop, Q false s → wpAny (model P w) A (ofAClassStatement n v) Q E s) _ ?_ ?_ _ _ ⟨rfl, rfl, all⟩
      · rintro v rest r s' ⟨hr, rfl, al⟩
        refine wpAny_bind (al v List.mem_cons_self _ ?_)
        simp only [Bool.false_eq_true, if_false]
        exact wpAny_pure ⟨rfl, rfl, fun u hu => al u (List.mem_cons_of_mem _ hu)⟩
      · rintro ⟨r1, r2⟩ s' ⟨hr, rfl, _⟩
        simp only at hr
        subst hr
        exact wpAny_pure h
theorem ofClass_keys : ∀ (ks : List NestedKey) (vs : List Value) (n : Nat), NestedAll s.heap ks vs → NestedKey.depthAll ks ≤ n → ∀ v ∈ vs, ∀ Q : Bool → Shared → Prop, Q false s → wpAny (model P w) A (ofAClassStatement n v) Q E s
  | [], _, n, x, _, v, hv => by cases x; cases hv
  | k :: ks, _, n, x, hn, v, hv => by
    cases x with
    | cons x xs =>
      rw [NestedKey.depthAll] at hn
      rcases List.mem_cons.mp hv with z | z
      · rw [z]; exact fun Q h => ofClass_key k _ n Q x (by omega) h
      · exact ofClass_keys ks _ n xs (by omega) v z
end
mutual
/-- hashed by value, or not: either way nothing happens -/
theorem hashBy_key : ∀ (k : NestedKey) (v : Value) (n : Nat) (Q : Bool → Shared → Prop), NestedIs s.heap k v → k.depth ≤ n → (∀ b, Q b s) → wpAny (model P w) A (hashByValue n v) Q E s
  | .none, _, n, Q, x, _, h => by cases x; cases n <;> exact wpAny_pure (h _)
  | .num i, _, n, Q, x, _, h => by cases x <;> cases n <;> exact wpAny_pure (h _)
  | .text y, _, n, Q, x, _, h => by cases x; cases n <;> exact wpAny_pure (h _)
  | .tup ks, _, 0, Q, x, hn, h => absurd hn (by rw [NestedKey.depth]; omega)
  | .tup ks, _, n + 1, Q, x, hn, h => by
    cases x with
    | tup ho hc hd hk =>
      rename_i b o vs m
      rw [NestedKey.depth] at hn
      have all := hashBy_keys ks vs.toList n hk (by omega)
      have ty : s.TypeIs (.ref b) "tuple" := ⟨o, ho, hc⟩
      unfold hashByValue
      refine wpAny_bind (wpAny_specialOf ty F.slot_tuple_hash.lookup ?_)
      show wpAny _ _ (seqItems? (.ref b) >>= _) _ _ s
      refine wpAny_bind (wpAny_seqItems ho hd ?_)
      refine wpAny_bind ?_
      show wpAny _ _ (forIn vs _ _) _ _ s
      rw [← Array.forIn_toList]
      refine wpAny_forIn_list _ (fun rest r s' => s' = s ∧ ∀ v ∈ rest, ∀ Q : Bool → Shared → Prop, (∀ b, Q b s) → wpAny (model P w) A (hashByValue n v) Q E s) _ ?_ ?_ _ _ ⟨rfl, all⟩
      · rintro v rest r s' ⟨rfl, al⟩
        refine wpAny_bind (al v List.mem_cons_self _ fun c => ?_)
        cases c with
        | true =>
          simp only [Bool.not_true, Bool.false_eq_true, if_false]
          exact wpAny_pure ⟨rfl, fun u hu => al u (List.mem_cons_of_mem _ hu)⟩
        | false =>
          simp only [Bool.not_false, if_true]
          exact wpAny_pure (wpAny_pure (h _))
      · rintro ⟨r1, r2⟩ s' ⟨rfl, _⟩
        cases r1 with
        | none => exact wpAny_pure (h _)
        | some c => exact wpAny_pure (h _)
theorem hashBy_keys : ∀ (ks : List NestedKey) (vs : List Value) (n : Nat), NestedAll s.heap ks vs → NestedKey.depthAll ks ≤ n → ∀ v ∈ vs, ∀ Q : Bool → Shared → Prop, (∀ b, Q b s) → wpAny (model P w) A (hashByValue n v) Q E s
  | [], _, n, x, _, v, hv => by cases x; cases hv
  | k :: ks, _, n, x, hn, v, hv => by
    cases x with
    | cons x xs =>
      rw [NestedKey.depthAll] at hn
      rcases List.mem_cons.mp hv with z | z
      · rw [z]; exact fun Q h => hashBy_key k _ n Q x (by omega) h
      · exact hashBy_keys ks _ n xs (by omega) v z
end
/-- a search among such tuples shows nothing -/
theorem unseen_key {k : NestedKey} {b : Addr} {Q : Bool → Shared → Prop} (hk : NIs s.heap k b) {ys : List Value} (hy : ∀ y ∈ ys, ∃ k' c, y = Value.ref c ∧ NIs s.heap k' c) (h : Q false s) : wpAny (model P w) A (searchCouldBeSeen (.ref b) ys) Q E s := by
  unfold searchCouldBeSeen
  refine wpAny_bind ?_
  refine wpAny_forIn_list _ (fun rest r s' => r.1 = none ∧ s' = s ∧ ∀ y ∈ rest, ∃ k' c, y = Value.ref c ∧ NIs s.heap k' c) _ ?_ ?_ _ _ ⟨rfl, rfl, hy⟩
  · rintro v rest r s' ⟨hr, rfl, al⟩
    obtain ⟨k', c, rfl, hc⟩ := al v List.mem_cons_self
    have more : ∀ y ∈ rest, ∃ k' c, y = Value.ref c ∧ NIs s'.heap k' c := fun u hu => al u (List.mem_cons_of_mem _ hu)
    dsimp only
    by_cases hv : (b == c || (carriedByValue (.ref b) && carriedByValue (.ref c))) = true
    · exact wp_if_pos hv (wpAny_pure ⟨rfl, rfl, more⟩)
    · refine wp_if_neg hv ?_
      refine wpAny_bind (quiet_key k _ 8 s' hk.1 hk.2 _ _ _ ?_)
      simp only [Bool.not_true, Bool.false_eq_true, if_false]
      refine wpAny_bind (quiet_key k' _ 8 s' hc.1 hc.2 _ _ _ ?_)
      simp only [Bool.not_true, Bool.false_eq_true, if_false]
      refine wpAny_bind (ofClass_key k _ 8 _ hk.1 hk.2 ?_)
      simp only [Bool.false_eq_true, if_false]
      refine wpAny_bind (ofClass_key k' _ 8 _ hc.1 hc.2 ?_)
      simp only [Bool.false_eq_true, if_false]
      exact wpAny_pure ⟨rfl, rfl, more⟩
  · rintro ⟨r1, r2⟩ s' ⟨hr, rfl, _⟩
    simp only at hr
    subst hr
    exact wpAny_pure h

/-! ### the set -/
variable {a : Addr} {L : NL} {es : Array (Int × Value)} {ep : Nat} {t : SetTable}
theorem SetN.entry (R : SetN w s.heap a L es ep t) {i : Nat} {p : Addr × NestedKey} (h : L[i]? = some p) : es[i]? = some (p.2.hash w, Value.ref p.1) := by
  rw [← Array.getElem?_toList, R.rows]
  unfold nrows
  rw [List.getElem?_map, h]; rfl
abbrev probeAt (m : Nat) (h : Int) (c : Nat) : SetTable.Probe := nth m (runAt m (SetTable.bits h % (m + 1)) (SetTable.bits h)) c
theorem probe_calm (m : Nat) (h : Int) (c : Nat) : (probeAt m h c).dummy = none := by
  have all : ∀ (n : Nat) (p : SetTable.Probe), p.dummy = none → (nth m p n).dummy = none := by
    intro n
    induction n with
    | zero => exact fun p q => q
    | succ n ih =>
      intro p q
      refine ih (adv m p) ?_
      unfold adv
      split <;> exact q
  exact all c _ rfl
theorem n_search (R : SetN w s.heap a L es ep t) {x : Addr} {k : NestedKey} (hx : NIs s.heap k x) (hu : A.units + 8 < cLine) {K : Nat} (hKf : K < 10 * SetTable.turns t.mask)
    (hK : way t.mask (k.hash w) K ∉ t.place.toList) (hKb : ∀ c, c < K → way t.mask (k.hash w) c ∈ t.place.toList) {Q : SetFound → Shared → Prop}
    (hin : k ∈ L.map (·.2) → Q (.there none) s) (hout : k ∉ L.map (·.2) → Q (.free (way t.mask (k.hash w) K) false) s) :
    ∀ (f c : Nat) (stand : Option SetTable.Probe), stand.getD (t.probeStart (k.hash w)) = probeAt t.mask (k.hash w) c → c ≤ K → K - c < f →
      (∀ (i : Nat) p, L[i]? = some p → p.2 = k → ∃ c', c ≤ c' ∧ c' < K ∧ t.place.toList[i]? = some (way t.mask (k.hash w) c')) →
      wpAny (model P w) A (setSearchFrom a (.ref x) (k.hash w) true f stand) Q E s := by
  intro f
  induction f with
  | zero => exact fun c stand _ _ hf _ => absurd hf (Nat.not_lt_zero _)
  | succ f ih =>
    intro c stand hst hc hf hre
    obtain ⟨o, ho, hex, hd⟩ := R.ob
    rw [setSearchFrom_succ]
    refine wpAny_bind (wpAny_setState_of ho hd R.fits ?_)
    dsimp only
    refine wp_if_neg (by unfold SetTable.gaveWay; rw [mask_odd R.tab.mok]; decide) ?_
    try refine wpAny_bind (wpAny_pure ?_)
    have sh : ∀ q, nth t.mask (probeAt t.mask (k.hash w) c) q = probeAt t.mask (k.hash w) (c + q) := fun q => (nth_add t.mask c _ q).symm
    have e1 : ∀ q, (nth t.mask (probeAt t.mask (k.hash w) c) q).j = way t.mask (k.hash w) (c + q) := fun q => congrArg SetTable.Probe.j (sh q)
    have spec := go_spec t R.tab.ris R.tab.dm (fun i => (es[i]?.map (·.1)).getD 0) (k.hash w) (10 * SetTable.turns t.mask) (K - c) _ (probe_calm t.mask (k.hash w) c) (by omega)
      (fun q hq => by rw [e1]; exact hKb (c + q) (by omega)) (by rw [e1, show c + (K - c) = K by omega]; exact hK)
    have hashAt : ∀ (i : Nat) p, L[i]? = some p → (es[i]?.map (·.1)).getD 0 = p.2.hash w := fun i p hp => by rw [R.entry hp]; rfl
    rcases spec with ⟨q, i, hq, hi, hh, hno, hpr⟩ | ⟨hno, hpr⟩
    · have pr : t.probe (fun i => (es[i]?.map (·.1)).getD 0) (k.hash w) (stand.getD (t.probeStart (k.hash w))) = some (.candidate (way t.mask (k.hash w) (c + q)) i (probeAt t.mask (k.hash w) (c + (q + 1)))) := by
        rw [hst, ← e1, ← sh]
        exact hpr
      rw [pr]
      dsimp only
      rw [e1] at hi
      have hil : i < L.length := by
        have h1 : i < t.place.toList.length := (List.getElem?_eq_some_iff.mp hi).1
        have h2 := R.tab.sz
        rw [List.length_map] at h2
        rw [Array.length_toList] at h1
        omega
      obtain ⟨p, hp⟩ : ∃ p, L[i]? = some p := ⟨_, List.getElem?_eq_getElem hil⟩
      have hm : p ∈ L := List.mem_of_getElem? hp
      have hpk := R.key p hm
      have go : wpAny (model P w) A (searchRest a (.ref x) (k.hash w) true f es t (way t.mask (k.hash w) (c + q)) i (probeAt t.mask (k.hash w) (c + (q + 1)))) Q E s := by
        unfold searchRest
        rw [R.entry hp]
        dsimp only
        refine wpAny_bind (wpAny_holding (eqAt_key p.2 k A s _ _ hpk.1 hx.1 (by have := hx.2; omega) _ _ _ _ ?_))
        refine wpAny_bind (wpAny_setState_of ho hd R.fits ?_)
        dsimp only
        rw [← NestedKey.decide_eq]
        by_cases hkk : p.2 = k
        · exact wp_if_pos (by simp [hkk]) (wpAny_pure (hin (List.mem_map.mpr ⟨p, hm, hkk⟩)))
        · refine wp_if_neg (by simp [hkk]) ?_
          try refine wpAny_bind (wpAny_pure ?_)
          rw [sameMem]
          dsimp only
          have hsl : t.slot (way t.mask (k.hash w) (c + q)) = .live i := slot_live R.tab.ris hi
          simp only [if_true, hsl, R.entry hp]
          refine wpAny_bind (wpAny_isSame_ref_self (wpAny_bind (wpAny_pure ?_)))
          simp only [if_true]
          refine wp_if_neg (by simp [hkk]) ?_
          refine ih (c + (q + 1)) _ rfl (by omega) (by omega) fun i0 p0 h0 hk0 => ?_
          obtain ⟨c', a1, a2, a3⟩ := hre i0 p0 h0 hk0
          refine ⟨c', ?_, a2, a3⟩
          rcases Nat.lt_trichotomy c' (c + q) with z | z | z
          · exact absurd ((hashAt i0 p0 h0).trans (congrArg (NestedKey.hash w) hk0)) (hno (c' - c) i0 (by omega) (by rw [e1, show c + (c' - c) = c' by omega]; exact a3))
          · exfalso
            rw [z] at a3
            have s0 := slot_live R.tab.ris a3
            rw [hsl] at s0
            injection s0 with s0
            rw [← s0, hp] at h0
            exact hkk ((congrArg Prod.snd (Option.some.inj h0)).trans hk0)
          · omega
      by_cases hl : t.led = true
      · refine wp_if_neg (by simp [hl]) ?_
        try refine wpAny_bind (wpAny_pure ?_)
        exact go
      · refine wp_if_pos (by simp [hl]) ?_
        refine wpAny_bind (unseen_key hx (fun y hy => ?_) ?_)
        · obtain ⟨e, he, ee⟩ := List.mem_map.mp hy
          have he1 : e ∈ es.toList := by
            have : e ∈ es ∧ e.1 = k.hash w := by simpa using he
            simpa using this.1
          rw [R.rows] at he1
          obtain ⟨p2, hp2, e2⟩ := List.mem_map.mp he1
          exact ⟨p2.2, p2.1, by rw [← ee, ← e2], R.key p2 hp2⟩
        · refine wp_if_neg (by decide) ?_
          try refine wpAny_bind (wpAny_pure ?_)
          exact go
    · have pr : t.probe (fun i => (es[i]?.map (·.1)).getD 0) (k.hash w) (stand.getD (t.probeStart (k.hash w))) = some (.empty (way t.mask (k.hash w) K) none) := by
        have e2 : way t.mask (k.hash w) K = (nth t.mask (probeAt t.mask (k.hash w) c) (K - c)).j := by rw [e1, show c + (K - c) = K by omega]
        rw [hst, e2]
        exact hpr
      rw [pr]
      dsimp only
      refine wpAny_pure (hout fun hm => ?_)
      obtain ⟨p0, h0, hk0⟩ := List.mem_map.mp hm
      obtain ⟨i0, hi0, e0⟩ := List.getElem_of_mem h0
      have h00 : L[i0]? = some p0 := by rw [List.getElem?_eq_getElem hi0, e0]
      obtain ⟨c', a1, a2, a3⟩ := hre i0 p0 h00 hk0
      exact hno (c' - c) i0 (by omega) (by rw [e1, show c + (c' - c) = c' by omega]; exact a3) ((hashAt i0 p0 h00).trans (congrArg (NestedKey.hash w) hk0))
theorem n_find (R : SetN w s.heap a L es ep t) {x : Addr} {k : NestedKey} (hx : NIs s.heap k x) (hu : A.units + 8 < cLine) {Q : SetFound → Shared → Prop} (hin : k ∈ L.map (·.2) → Q (.there none) s)
    (hout : ∀ K, k ∉ L.map (·.2) → way t.mask (k.hash w) K ∉ t.place.toList → (∀ c, c < K → way t.mask (k.hash w) c ∈ t.place.toList) → Q (.free (way t.mask (k.hash w) K) false) s) : wpAny (model P w) A (setSearch a (.ref x) (k.hash w) true) Q E s := by
  have hroom := R.room
  obtain ⟨K, hKf, hK, hKb⟩ := R.tab.first (by rw [List.length_map]; omega) (k.hash w)
  have big : K < 100000 := by
    have : 10 * SetTable.turns t.mask ≤ 1420 := by
      unfold SetTable.turns
      rcases R.tab.mok with e | e | e <;> omega
    omega
  unfold setSearch
  refine n_search R hx hu hKf hK hKb hin (fun z => hout K z hK hKb) 100000 0 none rfl (Nat.zero_le _) (by omega) fun i p hp hk => ?_
  have hi : (L.map fun p => p.2.hash w)[i]? = some (k.hash w) := by rw [List.getElem?_map, hp, ← hk]; rfl
  have hil : i < t.place.toList.length := by
    have h1 : i < L.length := (List.getElem?_eq_some_iff.mp hp).1
    have h2 := R.tab.sz
    rw [List.length_map] at h2
    rw [Array.length_toList]
    omega
  obtain ⟨c, hc, e⟩ := R.tab.before hK hi (List.getElem?_eq_getElem hil)
  exact ⟨c, Nat.zero_le _, hc, by rw [List.getElem?_eq_getElem hil, e]⟩
theorem n_order (L : NL) (es : Array (Int × Value)) (order : Array Nat) (hr : es.toList = nrows w L) (hp : order.toList.Perm (List.range L.length)) :
    ∃ M : NL, (order.filterMap (es[·]?)).toList = nrows w M ∧ M.Perm L ∧ (M.map fun p => p.2.hash w) = order.toList.map fun i => (es.map (·.1)).getD i 0 := by
  have hsz := nrows_size hr
  have ent : ∀ i (h : i < L.length), es[i]? = some ((L[i]).2.hash w, Value.ref (L[i]).1) := fun i h => by
    rw [← Array.getElem?_toList, hr]
    unfold nrows
    rw [List.getElem?_map, List.getElem?_eq_getElem h]; rfl
  have all : ∀ l : List Nat, (∀ i ∈ l, i < L.length) → l.filterMap (fun i => es[i]?) = nrows w (l.filterMap fun i => L[i]?) ∧ ((l.filterMap fun i => L[i]?).map fun p => p.2.hash w) = l.map fun i => (es.map (·.1)).getD i 0 := by
    intro l
    induction l with
    | nil => exact fun _ => ⟨rfl, rfl⟩
    | cons i l ih =>
      intro hl
      have hi := hl i List.mem_cons_self
      obtain ⟨e1, e2⟩ := ih fun j hj => hl j (List.mem_cons_of_mem _ hj)
      rw [List.filterMap_cons_some (ent i hi), List.filterMap_cons_some (List.getElem?_eq_getElem hi), e1, List.map_cons, List.map_cons, e2]
      refine ⟨rfl, ?_⟩
      have e5 : (es.map (·.1))[i]? = some ((L[i]).2.hash w) := by rw [Array.getElem?_map, ent i hi]; rfl
      have e4 : (es.map (·.1)).getD i 0 = (L[i]).2.hash w := by simp [Array.getD_eq_getD_getElem?, e5]
      rw [e4]
  obtain ⟨e1, e2⟩ := all order.toList fun i hi => List.mem_range.mp (hp.mem_iff.mp hi)
  refine ⟨order.toList.filterMap fun i => L[i]?, by first | (rw [Array.toList_filterMap]; exact e1) | simpa using e1, ?_, e2⟩
  have h2 : ∀ n, n ≤ L.length → (List.range n).filterMap (fun i => L[i]?) = L.take n := by
    intro n
    induction n with
    | zero => exact fun _ => rfl
    | succ n ih =>
      intro hn
      rw [List.range_succ, List.filterMap_append, ih (Nat.le_of_lt hn), List.take_succ, List.getElem?_eq_getElem (show n < L.length from hn), List.filterMap_cons_some (List.getElem?_eq_getElem (show n < L.length from hn))]; rfl
  have h3 := hp.filterMap fun i => L[i]?
  rw [h2 L.length (Nat.le_refl _), List.take_length] at h3
  exact h3
theorem n_relay {o : Obj} (ho : s.heap.get? a = some o) (hex : o.ExactSet) (hd : o.data = .set es ep t) (hr : es.toList = nrows w L) (hsz : t.place.size = es.size) (hdm : t.dummies = #[]) (hfl : es.size ≤ t.mask)
    (nd : (L.map (·.2)).Nodup) (key : ∀ p ∈ L, NIs s.heap p.2 p.1) (few : L.length < 64) {wanted M : Nat} (hw : SetTable.sizeAbove wanted - 1 = M) (hM : MaskOk M) (hw2 : SetTable.sizeAbove wanted ≤ 128) (hn : L.length * 5 < M * 3) {Q : Unit → Shared → Prop}
    (hQ : ∀ h' L' es' ep' t', Heap.SameBut a s.heap h' → SetN w h' a L' es' ep' t' → L'.Perm L → Q () { s with heap := h' }) : wpAny (model P w) A (setRelay a wanted) Q E s := by
  have hsl := nrows_size hr
  obtain ⟨t', order, e, hp, T, em, el, ep', ed⟩ := relaid_ok t (hs := es.map (·.1)) (wanted := wanted) hw hM (by rw [Array.size_map, hsl]; omega)
  rw [Array.size_map, hsl] at hp
  obtain ⟨L2, r1, r2, r3⟩ := n_order L es order hr hp
  rw [← r3] at T
  have hs2 : (order.filterMap (es[·]?)).size = es.size := by rw [nrows_size r1, r2.length_eq, hsl]
  rw [setRelay_eq]
  refine wpAny_bind (wpAny_setState_of ho hd (fits_of hsz hdm hfl) ?_)
  dsimp only
  refine wp_if_neg (by rw [sizeLine_eq]; omega) ?_
  try refine wpAny_bind (wpAny_pure ?_)
  rw [e]
  dsimp only
  refine wpAny_bind ?_
  refine wp_if_neg (by rw [hs2]; simp) ?_
  try refine wpAny_bind (wpAny_pure ?_)
  refine wpAny_pure ?_
  dsimp only
  refine wpAny_storeSet_of ho hd ?_ (by rw [hs2, hsl, sizeLine_eq]; omega)
  have sb : Heap.SameBut a s.heap (s.heap.update a (Obj.putSet (order.filterMap (es[·]?)) t')) := Heap.SameBut.update ..
  exact hQ _ L2 (order.filterMap (es[·]?)) (ep + 1) t' sb ⟨⟨_, store_at ho hd, ⟨hex.1, hex.2.1, hex.2.2⟩, rfl⟩, r1, T, (r2.map (·.2)).nodup_iff.mpr nd, fun p hpm => (key p (r2.mem_iff.mp hpm)).beside ho hd sb, by rw [r2.length_eq, em]; exact hn, by rw [r2.length_eq]; exact few⟩ r2
theorem n_add (R : SetN w s.heap a L es ep t) {x : Addr} {k : NestedKey} (hx : NIs s.heap k x) (hu : A.units + 8 < cLine) (hfew : L.length + 1 < 64) {Q : Bool → Shared → Prop}
    (hQ : ∀ b h' L' es' ep' t', Heap.SameBut a s.heap h' → SetN w h' a L' es' ep' t' → (k ∈ L.map (·.2) → L' = L) → (k ∉ L.map (·.2) → L'.Perm ((x, k) :: L)) → Q b { s with heap := h' }) : wpAny (model P w) A (setAddHashed a (.ref x) (k.hash w)) Q E s := by
  obtain ⟨o, ho, hex, hd⟩ := R.ob
  have hsl := R.size
  have hroom := R.room
  unfold setAddHashed
  refine wpAny_holding ?_
  rw [show (100000 : Nat) = 99999 + 1 from rfl, setAddHashedIn_succ]
  refine wpAny_bind (wpAny_setState_of ho hd R.fits ?_)
  dsimp only
  refine wp_if_neg (by simp [byScan, Value.scannable]) ?_
  try refine wpAny_bind (wpAny_pure ?_)
  refine wpAny_bind (n_find R hx hu (fun hm => ?_) fun K hm hK hb => ?_)
  · dsimp only
    exact wpAny_pure (hQ false s.heap L es ep t (Heap.SameBut.refl a s.heap) R (fun _ => rfl) fun z => absurd hm z)
  · dsimp only
    refine wpAny_bind (wpAny_setState_of ho hd R.fits ?_)
    dsimp only
    obtain ⟨q1, q2, q3, q4, q5, q6, q7, q8, q9⟩ := R.tab.put hK hb
    generalize hpt : t.put (way t.mask (k.hash w) K) = pt at q1 q3 q4 q5 q6 q7 q8 q9 ⊢
    obtain ⟨t1, p⟩ := pt
    dsimp only at q1 q3 q4 q5 q6 q7 q8 q9 ⊢
    subst q1
    have hin : (SetTable.insertAt es (SetTable.below t.place (way t.mask (k.hash w) K)) (k.hash w, Value.ref x)).toList = nrows w (L.take (SetTable.below t.place (way t.mask (k.hash w) K)) ++ (x, k) :: L.drop (SetTable.below t.place (way t.mask (k.hash w) K))) := by
      rw [SetTable.toList_insertAt, R.rows]
      unfold nrows
      rw [List.map_append, List.map_cons, List.map_take, List.map_drop]
    generalize hpp : SetTable.below t.place (way t.mask (k.hash w) K) = p at q2 q3 hin ⊢
    have pm := put_perm L p (x, k)
    have hlen : (L.take p ++ (x, k) :: L.drop p).length = L.length + 1 := pm.length_eq
    have hhs : (L.take p ++ (x, k) :: L.drop p).map (fun p => p.2.hash w) = (L.map fun p => p.2.hash w).take p ++ k.hash w :: (L.map fun p => p.2.hash w).drop p := by rw [List.map_append, List.map_cons, List.map_take, List.map_drop]
    rw [← hhs] at q3
    have nd1 : ((L.take p ++ (x, k) :: L.drop p).map (·.2)).Nodup := by
      refine (pm.map (·.2)).nodup_iff.mpr ?_
      rw [List.map_cons]
      exact List.nodup_cons.mpr ⟨hm, R.nd⟩
    have hes := nrows_size hin
    rw [hlen] at hes
    generalize SetTable.insertAt es p (k.hash w, Value.ref x) = es1 at hin hes ⊢
    generalize L.take p ++ (x, k) :: L.drop p = L1 at pm hlen q3 nd1 hin
    have fin : ∀ t2 : SetTable, TabOk t2 (L1.map fun p => p.2.hash w) → t2.mask = t.mask → t2.fill = (L.map fun p => p.2.hash w).length + 1 →
        wpAny (model P w) A (do
          storeSet a es1 t2
          if (!false && t2.tooFull) = true then
            setRelay a (SetTable.grown (es.size + 1))
          pure true) Q E s := by
      intro t2 T2 m2 f2
      refine wpAny_bind (wpAny_storeSet_of ho hd ?_ (by rw [hes, sizeLine_eq]; omega))
      have sb : Heap.SameBut a s.heap (s.heap.update a (Obj.putSet es1 t2)) := Heap.SameBut.update ..
      have ho1 := store_at (es' := es1) (t' := t2) ho hd
      generalize s.heap.update a (Obj.putSet es1 t2) = h1 at sb ho1 ⊢
      have key1 : ∀ p ∈ L1, NIs h1 p.2 p.1 := fun p hp => by
        rcases List.mem_cons.mp (pm.mem_iff.mp hp) with e | hp
        · rw [e]; exact hx.beside ho hd sb
        · exact (R.key p hp).beside ho hd sb
      by_cases hf : t2.tooFull = true
      · have hfull : (L.length + 1) * 5 ≥ t2.mask * 3 := by
          have h := hf
          unfold SetTable.tooFull at h
          rw [decide_eq_true_eq, f2, List.length_map] at h
          exact h
        have hsz1 : t2.place.size = es1.size := by
          have h := T2.sz
          rw [List.length_map, hlen] at h
          rw [h, hes]
        have two : (t.mask = 7 ∧ L.length = 4) ∨ (t.mask = 31 ∧ L.length = 18) := by
          rcases R.tab.mok with e | e | e
          · left; rw [m2, e] at hfull; rw [e] at hroom; exact ⟨e, by omega⟩
          · right; rw [m2, e] at hfull; rw [e] at hroom; exact ⟨e, by omega⟩
          · exfalso; rw [m2, e] at hfull; omega
        have go : ∀ M, SetTable.sizeAbove (SetTable.grown (L.length + 1)) - 1 = M → MaskOk M → SetTable.sizeAbove (SetTable.grown (L.length + 1)) ≤ 128 → (L.length + 1) * 5 < M * 3 →
            wpAny (model P w) A (setRelay a (SetTable.grown (L.length + 1))) (fun _ s' => wpAny (model P w) A (pure true) Q E s') E { s with heap := h1 } := fun M z1 z2 z3 z4 =>
          n_relay (s := { s with heap := h1 }) ho1 ⟨hex.1, hex.2.1, hex.2.2⟩ rfl hin hsz1 T2.dm (by rw [hes, m2]; rcases two with ⟨e, e2⟩ | ⟨e, e2⟩ <;> omega) nd1 key1 (by rw [hlen]; exact hfew) z1 z2 z3 (by rw [hlen]; exact z4)
            fun h2 L2 es2 ep2 t3 sb2 R2 pm2 => wpAny_pure (hQ true h2 L2 es2 ep2 t3 (sb.trans sb2) R2 (fun z => absurd z hm) fun _ => pm2.trans pm)
        rw [hsl]
        first
          | (refine wpAny_bind ?_; refine wp_if_pos (by simp [hf]) ?_)
          | (refine wp_if_pos (by simp [hf]) ?_; refine wpAny_bind ?_)
        rcases two with ⟨_, e2⟩ | ⟨_, e2⟩
        · exact go 31 (by rw [e2, size_20]) (.inr (.inl rfl)) (by rw [e2, size_20]; decide) (by omega)
        · exact go 127 (by rw [e2, size_76]) (.inr (.inr rfl)) (by rw [e2, size_76]; decide) (by omega)
      · first
          | refine wp_if_neg (by simp [hf]) ?_
          | (refine wpAny_bind ?_; refine wp_if_neg (by simp [hf]) ?_; refine wpAny_pure ?_)
        refine wpAny_pure (hQ true h1 L1 es1 (ep + 1) t2 sb ⟨⟨_, ho1, ⟨hex.1, hex.2.1, hex.2.2⟩, rfl⟩, hin, T2, nd1, key1, ?_, by rw [hlen]; exact hfew⟩ (fun z => absurd z hm) fun _ => pm)
        have h := hf
        unfold SetTable.tooFull at h
        rw [decide_eq_true_eq, f2, List.length_map] at h
        rw [hlen]
        omega
    by_cases hp1 : t1.plain = true
    · first
        | (refine wpAny_bind ?_; refine wp_if_pos hp1 ?_; refine hashBy_key k _ 8 _ hx.1 hx.2 fun bv => ?_)
        | refine wp_if_pos hp1 (wpAny_bind (hashBy_key k _ 8 _ hx.1 hx.2 fun bv => ?_))
      cases bv with
      | true =>
        simp only [if_true]
        exact fin t1 q3 q4 q9
      | false =>
        simp only [Bool.false_eq_true, if_false]
        exact fin { t1 with plain := false } ⟨q3.ris, q3.dm, q3.sz, q3.mok, q3.bd, q3.reach⟩ q4 q9
    · first
        | (refine wpAny_bind ?_; refine wp_if_neg hp1 ?_; refine wpAny_pure ?_)
        | refine wp_if_neg hp1 (wpAny_bind (wpAny_pure ?_))
      simp only [if_true]
      exact fin t1 q3 q4 q9
end
end FW
/-! len(set(x)), x a tuple of tuples. -/
namespace FW
open PySem PySem.Spec PyProof.Rows L2

section
variable {P : Program} {w : World} {A : Around} {E : Value → Shared → Prop} {s : Shared}
abbrev emptySet (w : World) : Obj := { cls := .type "set", dict := none, data := .set #[] 0 (.fresh 0 0 (!w.params.followText "set-order")) }
theorem setN_fresh {h : Heap} {a : Addr} (ho : h.get? a = some (emptySet w)) : SetN w h a [] #[] 0 (.fresh 0 0 (!w.params.followText "set-order")) where
  ob := ⟨_, ho, ⟨rfl, rfl, rfl⟩, rfl⟩
  rows := rfl
  tab := ⟨List.Pairwise.nil, rfl, rfl, .inl rfl, fun x hx => (by cases hx), fun i h j hi => (by simp at hi)⟩
  nd := List.nodup_nil
  key := fun p hp => (by cases hp)
  room := (by decide : 0 * 5 < 7 * 3)
  few := (by decide : 0 < 64)
theorem n_update {I : Addr} {fp wr : List Addr} {G : Array GenState → Array GenState → Prop} {n : Nat} {Pv : Nat → Value → Prop} {St : Nat → Shared → Prop} {R : Result → Shared → Prop}
    (W : WalksS P w A.in1 I fp wr G n Pv St) (S : Addr) (hSf : S ∉ fp) (ks : NL) (hn : n = ks.length) (hfew : ks.length < 64) (hval : ∀ i v, Pv i v → ∃ p, ks[i]? = some p ∧ v = .ref p.1)
    (h0 : Heap) (hk : ∀ p ∈ ks, NIs h0 p.2 p.1) (hS0 : h0.get? S = none) (hw0 : ∀ b ∈ wr, h0.get? b = none) (hu : A.in1.units + 9 < cLine) :
    ∀ (k i : Nat) (s : Shared), n - i = k → i ≤ n → St i s → (∀ b o, h0.get? b = some o → s.heap.get? b = some o) → (∃ L es ep t, SetN w s.heap S L es ep t ∧ NGot ks i L) →
      (∀ s' L es ep t, Moved (S :: wr) G s s' → SetN w s'.heap S L es ep t → NGot ks n L → (∀ b o, h0.get? b = some o → s'.heap.get? b = some o) → R (.ok (.ret .none)) s') →
      codeAny (model P w) A (.builtin "set.update.loop" ⟨[.ref S, .ref I], []⟩) R s := by
  have hSw : S ∉ wr := fun h => hSf (W.sub _ h)
  have more : ∀ b ∈ wr, b ∈ S :: wr := fun b hb => List.mem_cons_of_mem _ hb
  have keepM : ∀ {s s' : Shared}, Moved wr G s s' → (∀ b o, h0.get? b = some o → s.heap.get? b = some o) → ∀ b o, h0.get? b = some o → s'.heap.get? b = some o := fun hm kp b o e =>
    hm.heap b o (fun hb => by rw [hw0 b hb] at e; cases e) (kp b o e)
  intro k
  induction k with
  | zero =>
    intro i s hk' hi hst kp ⟨L, es, ep, t, hS, g⟩ hR
    obtain rfl : i = n := by omega
    refine codeAny_builtin F.entry_set_update_loop ?_
    rw [Around.under_plainId F.plain_set_update_loop _]
    show wpAny _ A.in1 (pyNext (.ref I) >>= _) _ _ s
    refine wpAny_bind (W.done s _ _ hst fun s' hm => ?_)
    show wpAny _ A.in1 (ret Value.none) _ _ s'
    have kp' := keepM hm kp
    exact wpAny_pure (hR s' L es ep t (hm.mono more) (hS.keep (fun o e => hm.heap S o hSw e) fun p hp => (hk p (List.mem_of_mem_take (g.sub p hp))).keep kp') g kp')
  | succ k ih =>
    intro i s hk' hi hst kp ⟨L, es, ep, t, hS, g⟩ hR
    have hlt : i < n := by omega
    refine codeAny_builtin F.entry_set_update_loop ?_
    rw [Around.under_plainId F.plain_set_update_loop _]
    show wpAny _ A.in1 (pyNext (.ref I) >>= _) _ _ s
    refine wpAny_bind (W.item i s _ _ hlt hst fun v s' hP hst' hm => ?_)
    obtain ⟨p, hp, rfl⟩ := hval i v hP
    have kp' := keepM hm kp
    have hS' : SetN w s'.heap S L es ep t := hS.keep (fun o e => hm.heap S o hSw e) fun q hq => (hk q (List.mem_of_mem_take (g.sub q hq))).keep kp'
    have hx : NIs s'.heap p.2 p.1 := (hk p (List.mem_of_getElem? hp)).keep kp'
    show wpAny _ A.in1 (holding [Value.ref p.1] (setAdd S (.ref p.1)) >>= _) _ _ s'
    refine wpAny_bind (wpAny_holding ?_)
    unfold setAdd
    refine wpAny_holding ?_
    have hd8 := hx.2
    refine wpAny_bind (pyHash_key p.2 _ _ _ _ hx.1 (by omega) ?_)
    refine n_add (s := { s' with toks := s'.toks + p.2.draws }) hS' hx (by omega) (by have := g.len; omega) fun b h' L' es' ep' t' sb hS2 c1 c2 => ?_
    have g' : NGot ks (i + 1) L' := by
      rcases Classical.em (p.2 ∈ L.map (·.2)) with c | c
      · rw [c1 c]; exact g.same hp c
      · exact g.more hp (c2 c)
    have kp2 : ∀ b o, h0.get? b = some o → h'.get? b = some o := fun b o e => (sb.2 b (fun z => by rw [z, hS0] at e; cases e)).trans (kp' b o e)
    refine wpAny_pure ⟨plainId_quiet F.plain_set_update_loop _, ih (i + 1) _ (by omega) hlt (W.frame _ s' _ _ hst' (Nat.le_add_right _ _) fun b hb o e => ?_) kp2 ⟨L', es', ep', t', hS2, g'⟩ fun s'' L2 es2 ep2 t2 hm2 hS3 g2 kp3 => ?_⟩
    · rw [sb.2 b (fun h : b = S => hSf (by rw [← h]; exact hb))]; exact e
    · refine hR s'' L2 es2 ep2 t2 (Moved.trans W.gtrans ((hm.mono more).then_heap (Nat.le_add_right _ _) fun b o hb e => ?_) hm2) hS3 g2 kp3
      rw [sb.2 b (fun h : b = S => hb (by rw [h]; exact List.mem_cons_self))]; exact e

/-- set(x), x a tuple of tuples -/
theorem n_set {l : Addr} {items : Array Value} (ks : NL) {Q : Value → Shared → Prop} (hh : A.handled = none) (hl : s.heap.IsTuple l items) (hit : items.toList = ks.map fun p => Value.ref p.1)
    (hk : ∀ p ∈ ks, NIs s.heap p.2 p.1) (hfew : ks.length < 64) (hu : A.units + 12 < cLine)
    (h : ∀ (h' : Heap) (tk : Nat) L es ep t, SetN w h' s.heap.objs.size L es ep t → NGot ks ks.length L → (∀ b o, s.heap.get? b = some o → h'.get? b = some o) → Q (.ref s.heap.objs.size) { s with heap := h', toks := tk }) :
    wpAny (model P w) A (call (.type "set") [.ref l]) Q E s := by
  have hisz : items.size = ks.length := by
    have q := congrArg List.length hit
    rw [Array.length_toList, List.length_map] at q
    exact q
  obtain ⟨c, tl, hmro⟩ := F.called_set.mro
  have hmade := F.called_set.made
  have hsub := F.called_set.sub
  refine wpAny_call (codeAny_of_tree ?_)
  show wpAny _ _ (callAny (.type "set") _) _ _ _
  refine wpAny_pure ⟨Code.quiet_builtin _ (by decide +kernel), codeAny_builtin F.entry_type_call ?_⟩
  rw [Around.under_plain (weight_type_call_type "set" [.ref l] []) rfl]
  have h1 := F.called_set.notType
  have h2 := F.called_set.canCreate
  have hct := F.typeCall_set_1 (.ref l)
  repeat (any_goals (first | assumption | wp_step))
  refine codeAny_mono (code_set_led1 (.ref l) (E := E) (Q₁ := fun obj s₁ => obj = .ref s.heap.objs.size ∧ s₁ = { s with heap := s.heap.push (emptySet w) }) ⟨rfl, rfl⟩) fun r s₁ hr => ?_
  cases r with
  | error e => exact hr
  | ok fl =>
    cases fl with
    | ret obj =>
      obtain ⟨rfl, rfl⟩ := hr
      have hS : (s.heap.push (emptySet w)).get? s.heap.objs.size = some (emptySet w) := Heap.get?_push_size _ rfl
      have hT : Shared.TypeIs { s with heap := s.heap.push (emptySet w) } (.ref s.heap.objs.size) "set" := ⟨_, hS, rfl⟩
      have hli := F.called_set.init.lookup
      have hbi := F.called_set.init.bind (.ref s.heap.objs.size)
      repeat (any_goals (first | assumption | wp_step))
      refine codeAny_mono (codeAny_call_builtin (R := wants (fun r s₂ => r = .none ∧ ∃ h' tk L es ep t, s₂ = { s with heap := h', toks := tk } ∧ SetN w h' s.heap.objs.size L es ep t ∧ NGot ks ks.length L ∧
          (∀ b o, s.heap.get? b = some o → h'.get? b = some o)) E) F.called_set.init.plain F.entry_set_init (check_set_init_1 hT ?_)) fun r₂ s₂ hr₂ => ?_
      · obtain ⟨ol, hol, hcl, nl, hdl⟩ := hl
        obtain ⟨ocls, odict, odata, oslots⟩ := ol
        simp only at hcl hdl
        subst hcl; subst hdl
        have hol' : (s.heap.push (emptySet w)).get? l = some { cls := .type "tuple", dict := odict, data := .seq items nl, slots := oslots } := Heap.get?_push_of_some _ hol
        have hsls := F.sub_tuple_set
        have hslf := F.sub_tuple_frozenset
        have hne : (Value.type "tuple" == Value.type "dict") = false := by decide
        have hl1 : (s.heap.push (emptySet w)).IsTuple l items := ⟨_, hol', rfl, nl, rfl⟩
        unfold Builtin.«set.__init__» noKeywords Builtin.Frozenset.updateFrom
        generalize hPI : pyIter = PI
        wp_walk
        subst hPI
        refine wpAny_pyIter_tuple hl1 ?_
        refine wpAny_bind (wpAny_runValue ?_)
        have hlS : l < s.heap.objs.size := Heap.lt_size hol
        have hh3 : A.in1.in1.in1.handled = none := by simp [hh]
        have hneI : l ≠ (s.heap.push (emptySet w)).objs.size := by
          rw [Heap.size_push]; exact Nat.ne_of_lt (Nat.lt_succ_of_lt hlS)
        have hSf : s.heap.objs.size ∉ [(s.heap.push (emptySet w)).objs.size, l] := by
          rw [Heap.size_push]; simp only [List.mem_cons, List.mem_singleton, List.not_mem_nil, or_false, not_or]
          exact ⟨Nat.ne_of_lt (Nat.lt_succ_self _), Nat.ne_of_gt hlS⟩
        have hval : ∀ (i : Nat) (v : Value), items[i]? = some v → ∃ p, ks[i]? = some p ∧ v = .ref p.1 := fun i v hv => by
          have q : items.toList[i]? = some v := by rw [Array.getElem?_toList]; exact hv
          rw [hit, List.getElem?_map] at q
          cases hq : ks[i]? with
          | none => rw [hq] at q; cases q
          | some p =>
            rw [hq] at q
            exact ⟨p, rfl, (Option.some.inj q).symm⟩
        have none_of : ∀ b, s.heap.objs.size ≤ b → s.heap.get? b = none := fun b hb => by
          cases q : s.heap.get? b with
          | none => rfl
          | some o => exact absurd (Nat.lt_of_lt_of_le (Heap.lt_size q) hb) (Nat.lt_irrefl _)
        refine n_update ((Walks.tuple hh3 _ l hneI items).toS) s.heap.objs.size
          hSf ks hisz hfew hval s.heap hk (none_of _ (Nat.le_refl _)) (fun b hb => none_of b (by
            rw [List.mem_singleton.mp hb, Heap.size_push]
            exact Nat.le_succ _)) (by simp only [Around.in1_units]; omega) (items.size - 0) 0 _ (by omega) (Nat.zero_le _)
          ⟨⟨_, Heap.get?_push_size _ rfl, rfl, rfl⟩, (hl1.at fun o e => Heap.get?_push_of_some _ e)⟩ (fun b o e => Heap.get?_push_of_some _ (Heap.get?_push_of_some _ e)) ?hS0 ?hR
        case hS0 => exact ⟨[], #[], 0, _, setN_fresh (Heap.get?_push_of_some _ hS), NGot.zero ks⟩
        case hR =>
          intro s' L es ep t hm hS' g' hkp
          obtain ⟨h', g2, d', tk', os'⟩ := s'
          have eg : g2 = s.gens := hm.gens
          have ed : d' = s.drawn := hm.drawn
          have eo : os' = s.os := hm.os
          subst eg; subst ed; subst eo
          show wpAny _ _ _ _ _ _
          refine wpAny_pure ?_
          show wpAny _ _ (ret Value.none) _ _ _
          rw [hisz] at g'
          exact wpAny_pure ⟨rfl, h', tk', L, es, ep, t, rfl, hS', g', hkp⟩
      · cases r₂ with
        | error e => exact hr₂
        | ok fl₂ =>
          cases fl₂ with
          | ret r =>
            obtain ⟨rfl, h', tk, L, es, ep, t, rfl, hS', g', hk'⟩ := hr₂
            repeat (any_goals (first | assumption | wp_step))
            exact h _ _ _ _ _ _ hS' g' hk'
          | _ => exact hr₂.elim
    | _ => exact hr.elim
end

end FW
/-! len(set(x)) by data. -/
namespace FW
open PySem PySem.Spec PyProof.Rows L2

/-! ### data as keys, how many differ -/
theorem any_beq {k : NestedKey} {ks : List NestedKey} : ks.any (NestedKey.beq k) = true ↔ k ∈ ks := by
  rw [List.any_eq_true]
  constructor
  · rintro ⟨x, hx, e⟩
    rw [NestedKey.eq_of_beq k x e]; exact hx
  · exact fun h => ⟨k, h, NestedKey.beq_self k⟩
theorem nodup_le {α : Type} {l m : List α} (hl : l.Nodup) (h : ∀ x ∈ l, x ∈ m) : l.length ≤ m.length := by
  induction l generalizing m with
  | nil => exact Nat.zero_le _
  | cons a l ih =>
    obtain ⟨s, t, e⟩ := List.append_of_mem (h a List.mem_cons_self)
    subst e
    have hn := List.nodup_cons.mp hl
    have := ih (m := s ++ t) hn.2 fun x hx => by
      have := h x (List.mem_cons_of_mem _ hx)
      rcases List.mem_append.mp this with z | z
      · exact List.mem_append_left _ z
      · rcases List.mem_cons.mp z with z | z
        · subst z; exact absurd hx hn.1
        · exact List.mem_append_right _ z
    simp only [List.length_append, List.length_cons] at this ⊢
    omega
/-- the first of each kind, from the end -/
def firsts : List NestedKey → List NestedKey
  | [] => []
  | k :: ks => if ks.any (NestedKey.beq k) then firsts ks else k :: firsts ks
theorem firsts_mem : ∀ (ks : List NestedKey) (k : NestedKey), k ∈ firsts ks ↔ k ∈ ks
  | [], k => Iff.rfl
  | x :: ks, k => by
    unfold firsts
    split
    · rename_i c
      rw [any_beq] at c
      rw [firsts_mem ks k, List.mem_cons]
      exact ⟨.inr, fun h => h.elim (fun e => e ▸ c) id⟩
    · rw [List.mem_cons, List.mem_cons, firsts_mem ks k]
theorem firsts_nodup : ∀ ks : List NestedKey, (firsts ks).Nodup
  | [] => List.nodup_nil
  | x :: ks => by
    unfold firsts
    split
    · exact firsts_nodup ks
    · rename_i c
      rw [any_beq] at c
      exact List.nodup_cons.mpr ⟨fun h => c ((firsts_mem ks x).mp h), firsts_nodup ks⟩
theorem firsts_len : ∀ ks : List NestedKey, (firsts ks).length = countK ks
  | [] => rfl
  | x :: ks => by
    unfold firsts countK
    split
    · exact firsts_len ks
    · rw [List.length_cons, firsts_len ks]
theorem count_of {l ks : List NestedKey} (hl : l.Nodup) (h : ∀ k, k ∈ l ↔ k ∈ ks) : l.length = countK ks := by
  rw [← firsts_len]
  refine Nat.le_antisymm (nodup_le hl fun x hx => (firsts_mem ks x).mpr ((h x).mp hx)) (nodup_le (firsts_nodup ks) fun x hx => (h x).mpr ((firsts_mem ks x).mp hx))
section
variable {X : Cx} {g : Gd} {I H : Hp} {pins : List (Addr × Obj)} {σ : L2.St} {s : Shared}
mutual
theorem key_is (J : Inv X pins σ H s) (rl : Rl g I H) : ∀ {v : V} {d : D} {k : NestedKey} {u : Value}, DR g I v d → d.key = some k → RelV v u → NestedIs s.heap k u
  | _, _, _, _, .non, e, r => by rw [D.key] at e; cases e; cases r; exact .none
  | _, _, _, _, .bl b, e, r => by rw [D.key] at e; cases e; cases r; exact .bool rfl
  | _, _, _, _, .int i, e, r => by rw [D.key] at e; cases e; obtain ⟨t, rfl⟩ := r; exact .int _ _
  | _, _, _, _, .str x, e, r => by rw [D.key] at e; cases e; obtain ⟨t, rfl⟩ := r; exact .text _ _
  | _, _, _, _, .par h t, e, r => by rw [D.key] at e; cases e
  | _, _, _, _, .tup (ds := ds) h hu t, e, r => by
    rw [D.key] at e
    cases q : D.keys ds with
    | none => rw [q] at e; cases e
    | some ks =>
      rw [q] at e; cases e
      cases r
      obtain ⟨its, rv, ⟨o, ho, hc, n, hd⟩, _⟩ := J.tuple (hu.sqt (rl.sub _ _ h))
      exact .tup ho hc hd (by simpa using keys_are J rl t q rv)
  | _, _, _, _, .lst h t, e, r => by rw [D.key] at e; cases e
  | _, _, _, _, .dK h t, e, r => by rw [D.key] at e; cases e
  | _, _, _, _, .dT h t, e, r => by rw [D.key] at e; cases e
  | _, _, _, _, .dF h t, e, r => by rw [D.key] at e; cases e
  | _, _, _, _, .exn _, e, r => by rw [D.key] at e; cases e
  | _, _, _, _, .hs _ _ _ _, e, r => by rw [D.key] at e; cases e
  | _, _, _, _, .dice, e, r => by rw [D.key] at e; cases e
theorem keys_are (J : Inv X pins σ H s) (rl : Rl g I H) : ∀ {vs : List V} {ds : List D} {ks : List NestedKey} {us : List Value}, DRs g I vs ds → D.keys ds = some ks → Vals vs us → NestedAll s.heap ks us
  | _, _, _, _, .nil, e, r => by rw [D.keys] at e; cases e; cases r; exact .nil
  | _, _, _, _, .cons (d := d) (ds := ds) h t, e, r => by
    rw [D.keys] at e
    cases q : D.key d with
    | none => rw [q] at e; cases e
    | some k =>
      cases q2 : D.keys ds with
      | none => rw [q, q2] at e; cases e
      | some ks =>
        rw [q, q2] at e; cases e
        cases r with
        | cons r rs => exact .cons (key_is J rl h q r) (keys_are J rl t q2 rs)
end
theorem refs_of : ∀ {vs : List V} {ds : List D} {us : List Value} {ks : List NestedKey}, DRs g I vs ds → ds.all D.isT = true → Vals vs us → NestedAll s.heap ks us → NestedKey.depthAll ks ≤ 8 →
    ∃ L : NL, us = L.map (fun p => Value.ref p.1) ∧ ks = L.map (·.2) ∧ ∀ p ∈ L, NIs s.heap p.2 p.1
  | _, _, _, _, .nil, _, r, hn, _ => by cases r; cases hn; exact ⟨[], rfl, rfl, fun p hp => by cases hp⟩
  | _, _, _, _, .cons h t, ha, r, hn, hd => by
    rw [List.all_cons, Bool.and_eq_true] at ha
    cases r with
    | cons r rs =>
      cases hn with
      | cons n ns =>
        rw [NestedKey.depthAll] at hd
        obtain ⟨L, e1, e2, e3⟩ := refs_of t ha.2 rs ns (by omega)
        cases h with
        | tup h _ t =>
          cases r
          refine ⟨(_, _) :: L, by rw [e1]; rfl, by rw [e2]; rfl, fun p hp => ?_⟩
          rcases List.mem_cons.mp hp with e | hp
          · rw [e]; exact ⟨n, by dsimp only; omega⟩
          · exact e3 p hp
        | _ => cases ha.1
theorem e_lenset {E : XK} {a : Expr} {fa : FE} {p p2 q pos : Pos} (hc : X.calm = true) (hu : X.A.units + 64 < cLine) (hg : Gl X "len") (hm : X.mg "len" = none) (hg2 : Gl X "set") (hm2 : X.mg "set" = none) (ha : PE X a (tF g X.mg E fa))
    (na : starEach [a] X.env = (false, eval a X.env) :: starEach [] X.env := by rfl) : PE X (.Call (.Name "len" p) [.Call (.Name "set" p2) [a] [] q] [] pos) (tF g X.mg E (fLenSet fa)) := by
  refine ⟨fun pins s σ H Q J h => ?_⟩
  obtain ⟨I, r, rl, er, h⟩ := h
  refine Call_ (ld_blt J hg hm PySem.boot_len ?_)
  refine PyProof.Rows.callWith_builtin1 (PyProof.Rows.args_cons ?_ rfl) rfl rfl
  refine Call_ (ld_blt J hg2 hm2 PyProof.Rows.boot_set ?_)
  refine PyProof.Rows.callWith_type1 (PyProof.Rows.args_cons (thn (ha.run pins s σ H _ J ⟨I, r, rl, er, Pst.first h fun d v I1 H1 _ s1 x1 h1 => (⟨I1, d, s1, x1, h1⟩ : ∃ I1 d, Stp g I H I1 H1 ∧ DR g I1 v d ∧ Pst g X.mg E (DR g) I1 H1 (dLenSet d) Q)⟩) fun v s1 ⟨x, H1, J1, r1, q1⟩ => PyProof.Rows.args_nil ?_) na) na rfl
  obtain ⟨I1, d, s1', x1, h1⟩ := q1
  unfold dLenSet at h1
  split at h1
  · rename_i ds
    split at h1
    · rename_i ks hk
      split at h1
      · rename_i c
        obtain ⟨ct, cl, cd⟩ := c
        cases x1 with
        | tup hh hu t =>
          cases r1
          obtain ⟨its, rv, tp, hz⟩ := J1.tuple (hu.sqt (s1'.rl.sub _ _ hh))
          obtain ⟨L, e1, e2, e3⟩ := refs_of t ct rv (keys_are J1 s1'.rl t hk rv) cd
          have hl : L.length = ks.length := by rw [e2, List.length_map]
          refine n_set (P := X.prog) (w := X.w) L (J1.ok.hd hc) tp (by rw [List.toList_toArray]; exact e1) e3 (by omega) (by have := hu; omega) fun h' tk L' es ep t' R gt kp => ?_
          refine PyProof.Rows.args_nil ?_
          obtain ⟨o, ho, hex, hd⟩ := R.ob
          have J2 : Inv X pins σ H1 { s1 with heap := h', toks := tk } := J1.kept fun b o e => kp b o e
          have hn : es.size = countK ks := by
            rw [SetN.size (s := { s1 with heap := h', toks := tk }) R, ← List.length_map (f := (·.2))]
            refine count_of R.nd fun k => ?_
            rw [e2]
            constructor
            · intro hm
              obtain ⟨p, hp, e⟩ := List.mem_map.mp hm
              exact List.mem_map.mpr ⟨p, List.mem_of_mem_take (gt.sub p hp), e⟩
            · intro hm
              obtain ⟨p, hp, e⟩ := List.mem_map.mp hm
              rw [← e]
              exact gt.all p (by rw [List.take_length]; exact hp)
          have hs := SetN.size (s := { s1 with heap := h', toks := tk }) R
          have hf := R.few
          refine call_len_set ho hex hd (SetN.fits (s := { s1 with heap := h', toks := tk }) R) (by rw [hs]; omega) ⟨.int (countK ks : Nat), H1, J2.tok _, ⟨_, by rw [hn]⟩, ?_⟩
          exact h1.here s1'.rl (.int _)
      · exact h1.elim
    · exact h1.elim
  · exact h1.elim
end
end FW
/-! Within an except suite: lists walked there, sum([int(x) for x in xs]), xs.index(True), isinstance of what was caught. -/
namespace FW
open PySem PySem.Spec PyProof.Rows L2 HotX

section
variable {prog : Program} {w : World} {A : Around} {E : Value → Shared → Prop} {s : Shared}
end

section
variable {X : Cx} {p : Addr × Obj}
end
end FW
/-! t.index(x) of texts; {..}, d.get(k, x); a, b = x, y; slices by wishes. -/
namespace FW
open PySem PySem.Spec PyProof.Rows L2 HotX

/-! ### t.index(x) -/
theorem textsOf_eq : ∀ {ds : List D} {xs : List Str}, textsOf ds = some xs → ds = xs.map D.str
  | [], _, h => by cases h; rfl
  | d :: ds, xs, h => by
    cases d <;> first
      | (cases h; done)
      | (rename_i y
         rw [textsOf] at h
         cases e : textsOf ds with
         | none => rw [e] at h; cases h
         | some ys => rw [e] at h; cases h; rw [textsOf_eq e]; rfl)
theorem strsV_map {x : Str} {xs : List Str} : strsV ((x :: xs).map V.str) = true := by
  unfold strsV
  simp [strV]
theorem tupTexts_eq {d : D} {p : Str × List Str} (h : tupTexts d = some p) : d = .tup ((p.1 :: p.2).map D.str) := by
  unfold tupTexts at h
  split at h
  · split at h
    · rename_i e
      cases h
      rw [textsOf_eq e]
    · cases h
  · cases h
section
variable {X : Cx} {g : Gd} {E : XK} {o e f : Expr} {apos cpos pos : Pos} {fa fb fc : FE}
theorem e_tindex (ha : PE X o (tF g X.mg E fa)) (hb : PE X e (tF g X.mg E fb)) (hbase : attributeBase o "index" X.env (eval o X.env) = eval o X.env := by rfl)
    (hfew : ((backTo cpos (starEach [e] X.env)).all (fun x => !x.1) && (backToKw cpos (keywordEach [] X.env)).all (fun x => x.1.isSome) && decide (([e] : List Expr).length + ([] : List Keyword).length + (if ([] : List Keyword).isEmpty then 0 else 1) < 30)) = true := by rfl)
    (hline : (apos.endLine == cpos.line) = true := by rfl) (hs : backTo cpos (starEach [e] X.env) = [(false, eval e X.env)] := by rfl) : PE X (.Call (.Attribute o "index" apos) [e] [] cpos) (tF g X.mg E (fTIx fa fb)) := by
  refine ⟨fun pins s σ H Q J h => ?_⟩
  obtain ⟨I, r, rl, er, h⟩ := h
  refine wpAny_Call_method_late hbase hfew hline hs (thn (ha.run pins s σ H _ J ⟨I, r, rl, er, Pst.first h fun d v I1 H1 _ s1 x1 h1 => (⟨I1, d, s1, x1, h1⟩ : ∃ I1 d, Stp g I H I1 H1 ∧ DR g I1 v d ∧ Pst g X.mg E (DR g) I1 H1 (match tupTexts d with
    | some p => (fb r).bind (dIxOf (p.1 :: p.2))
    | none => .bad) Q)⟩) fun u s1 ⟨x, H1, J1, r1, q1⟩ => ?_)
  obtain ⟨I1, d, st1, x1, h1⟩ := q1
  cases et : tupTexts d with
  | none => rw [et] at h1; exact h1.elim
  | some p =>
    rw [et] at h1
    have ed := tupTexts_eq et
    subst ed
    obtain ⟨x, xs⟩ := p
    cases x1 with
    | tup hx hu t =>
      rename_i a vs uo
      obtain rfl : u = Value.ref a := r1
      have ev := DRs.texts (xs := x :: xs) t
      subst ev
      rcases hu with ⟨_, hf⟩ | ⟨oo, ⟨ho, _⟩, eu⟩
      · rw [strsV_map] at hf; cases hf
      · subst eu
        have hH1 := st1.rl.sub _ _ hx
        obtain ⟨hg1, _⟩ := J1.hok a _ hH1
        obtain ⟨its, rv, tp, hz⟩ := J1.tuple (.inl (.inr ⟨oo, hH1⟩))
        refine ⟨"tuple", "tuple.index", PySem.F.plainAttrs_tuple, PySem.F.slot_tuple_index, PySem.F.type_tuple_index, tp.typeIs, fun b eb => ?_, ?_⟩
        · cases eb
          exact ⟨oo, hg1, ho⟩
        · refine Calls.callWith_builtin rfl (Calls.evalArgs_plain (Calls.spliced_cons (thn (hb.run pins s1 σ H1 _ J1 ⟨I1, r, st1.rl, er.mono st1.mono, Pst.first h1 fun d v I2 H2 _ s2 x2 h2 => (⟨I2, d, s2, x2, h2⟩ : ∃ I2 d, Stp g I1 H1 I2 H2 ∧ DR g I2 v d ∧ Pst g X.mg E (DR g) I2 H2 (dIxOf (x :: xs) d) Q)⟩) fun u2 s2 ⟨v2, H2, J2, r2, q2⟩ => Calls.spliced_nil ?_)))
          obtain ⟨I2, d2, st2, x2, h2⟩ := q2
          unfold dIxOf at h2
          split at h2
          · rename_i z
            split at h2
            · rename_i hm
              cases x2
              obtain ⟨tk, rfl⟩ := r2
              have hx2 : I2 a = some (.frz oo (.tup ((x :: xs).map V.str))) := st2.mono _ _ hx
              obtain ⟨its2, rv2, tp2, hz2⟩ := J2.tuple (.inl (.inr ⟨oo, st2.rl.sub _ _ hx2⟩))
              refine SeqAt.call_tuple_index tp2 (SeqAt.ItemsEq.strs rv2.strs) hm ⟨.int ((x :: xs).idxOf z : Nat), H2, J2.tok _, ⟨_, rfl⟩, ?_⟩
              exact h2.here st2.rl (.int _)
            · exact h2.elim
          · exact h2.elim
end
end FW
/-! {..}, d.get(k, x); a, b = x, y; slices by wishes. -/
namespace FW
open PySem PySem.Spec PyProof.Rows L2 HotX

/-! ### dicts of texts and numbers -/
theorem keyOf_v {g : Gd} {I : Hp} {v : V} {d : D} {k : Key} (h : keyOf d = some k) (x : DR g I v d) : v = kV k := by
  cases d <;> first | (cases h; done) | (cases h; cases x; rfl)
section
variable {g : Gd} {I : Hp}
theorem DRk.app : ∀ {es es' : List (Key × V)} {kvs kvs' : List (D × D)}, DRk g I es kvs → DRk g I es' kvs' → DRk g I (es ++ es') (kvs ++ kvs')
  | _, _, _, _, .nil, h => h
  | _, _, _, _, .cons r t, h => .cons r (DRk.app t h)
theorem DRk.mapPut (k : Key) {v : V} {d : D} (x : DR g I v d) : ∀ {es : List (Key × V)} {kvs : List (D × D)}, DRk g I es kvs → DRk g I (es.map fun kv => if kv.1 = k then (kv.1, v) else kv) (kvs.map fun kv => if keyOf kv.1 = some k then (kv.1, d) else kv)
  | _, _, .nil => .nil
  | _, _, .cons (k := k0) h t => by
    rw [List.map_cons, List.map_cons]
    by_cases e : k0 = k
    · rw [if_pos e, if_pos (by rw [keyOf_kD, e])]
      exact .cons x (DRk.mapPut k x t)
    · rw [if_neg e, if_neg (by rw [keyOf_kD]; exact fun z => e (Option.some.inj z))]
      exact .cons h (DRk.mapPut k x t)
theorem DRk.put {k : Key} {v : V} {d : D} {es : List (Key × V)} {kvs : List (D × D)} (h : DRk g I es kvs) (x : DR g I v d) : DRk g I (putK es k v) (putD kvs k d) := by
  unfold putK putD
  rw [h.any k]
  split
  · exact h.mapPut k x
  · exact h.app (.cons x .nil)
theorem DRk.merge : ∀ {more : List (Key × V)} {ms : List (Key × D)} {es : List (Key × V)} {kvs : List (D × D)}, DRm g I more ms → DRk g I es kvs → DRk g I (mergeK es more) (mergeD kvs ms)
  | _, _, _, _, .nil, h => h
  | _, _, es, kvs, .cons (a := p) (b := q) r t, h => by
    unfold mergeK mergeD
    rw [List.foldl_cons, List.foldl_cons]
    have e : DRk g I (putK es p.1 p.2) (putD kvs q.1 q.2) := by rw [r.1]; exact h.put r.2
    exact DRk.merge t e
end
def trsOf (g : Gd) (mg : Str → Option Value) (E : XK) (l : List (FE × FE)) : List (TE × TE) := l.map fun p => (tF g mg E p.1, tF g mg E p.2)
section
variable {X : Cx} {g : Gd} {E : XK} {o e f : Expr} {apos cpos pos : Pos} {fa fb fc : FE}
theorem pairs_of {σ : L2.St} {r : Env} : ∀ (l : List (FE × FE)) {I H : Hp} {Q : List (V × V) → Hp → Prop}, Rl g I H → ER g I σ r → Pst g X.mg E (fun I' (ps : List (V × V)) ms => ∃ es : List (Key × V), ps = es.map (fun kv => (kV kv.1, kv.2)) ∧ DRm g I' es ms) I H (fPairs l r) Q → tPairs (trsOf g X.mg E l) σ H Q
  | [], I, H, Q, rl, er, h => h [] I H rl.stp ⟨[], rfl, .nil⟩
  | (fk, fv) :: l, I, H, Q, rl, er, h => by
    unfold fPairs at h
    refine ⟨I, r, rl, er, Pst.first h fun k x I1 H1 _ s1 x1 h1 => ?_⟩
    refine ⟨I1, r, s1.rl, er.mono s1.mono, Pst.first h1 fun v y I2 H2 _ s2 x2 h2 => ?_⟩
    refine pairs_of l s2.rl (er.mono (s1.trans s2).mono) (Pst.first h2 fun ms ps I3 H3 _ s3 x3 h3 => ?_)
    obtain ⟨es, rfl, x3⟩ := x3
    cases ek : keyOf k with
    | none => rw [ek] at h3; exact h3.elim
    | some k' =>
      rw [ek] at h3
      rw [keyOf_v ek x1]
      exact h3 _ I3 H3 s3.rl.stp ⟨(k', y) :: es, rfl, .cons ⟨rfl, x2.mono s3.mono⟩ x3⟩
theorem fPairs_len : ∀ (l : List (FE × FE)) {r : Env} {ms : List (Key × D)}, fPairs l r = .ok ms → ms.length = l.length
  | [], _, _, h => by cases h; rfl
  | (fk, fv) :: l, r, ms, h => by
    unfold fPairs at h
    obtain ⟨k, _, h⟩ := bind_ok h
    obtain ⟨v, _, h⟩ := bind_ok h
    obtain ⟨ps, e, h⟩ := bind_ok h
    cases ek : keyOf k with
    | none => rw [ek] at h; cases h
    | some k' =>
      rw [ek] at h
      cases h
      rw [List.length_cons, List.length_cons, fPairs_len l e]
theorem e_disp {keys : List (Option Expr)} {values : List Expr} {l : List (FE × FE)} (h : PPs X pos keys values (trsOf g X.mg E l)) (hl : keys.length = l.length) (hall : keys.all (·.isSome) = true := by rfl) (hv : keys.length = values.length := by rfl) (h0 : keys ≠ [] := by simp) (h15 : keys.length ≤ 15 := by decide) :
    PE X (.Dict keys values pos) (tF g X.mg E (fDisp l)) := (pe_disp h hall hv h0 h15).imp fun σ H Q q => by
  obtain ⟨I, r, rl, er, q⟩ := q
  intro p hp
  have s0 := rl.lay (o := .dK []) hp
  have nz := rl.nz hp
  have ni := rl.out hp
  unfold fDisp at q
  refine pairs_of l s0.rl er ?_
  cases e : fPairs l r with
  | bad => rw [e] at q; exact q.elim
  | exc c => rw [e] at q; exact fun I2 H2 s2 => q I2 H2 (s0.trans s2)
  | ok ms =>
    rw [e] at q
    intro ps I1 H1 s1 x1
    obtain ⟨es, rfl, x1⟩ := x1
    obtain ⟨n1, k1⟩ := s1.beside ni nz upd_same rfl
    refine ⟨k1, es, rfl, ?_, ?_⟩
    · have e1 : es.length = ms.length := x1.length
      rw [e1, fPairs_len l e, ← hl]; exact h15
    · have s2 := (Stp.chg (u := .dK (mergeK [] es)) (s0.trans s1) (NT.of hp) nz n1 k1 rfl).take (NT.of hp) nz n1 upd_same
      have sb : Sub I1 (upd I1 p (.dK (mergeK [] es))) := fun a u z => by rw [upd_ne (ne_of_none z n1)]; exact z
      exact q _ _ _ s2 (.dK (.inl upd_same) ((DRk.merge x1 .nil).mono sb))
theorem isD_of {I H : Hp} {v : V} {kvs : List (D × D)} (rl : Rl g I H) (h : DR g I v (.dct kvs)) : ∃ a, v = .ref a ∧ IsD H a := by
  cases h with
  | dK h _ => exact ⟨_, rfl, .inl ⟨_, rl.sub.rd h⟩⟩
theorem e_get2 (hu : X.A.units + 1 < cLine) (ha : PE X o (tF g X.mg E fa)) (hb : PE X e (tF g X.mg E fb)) (hc : PE X f (tF g X.mg E fc)) (m : M2 X o "get" apos e f cpos := by exact ⟨rfl, rfl, rfl, rfl⟩) : PE X (.Call (.Attribute o "get" apos) [e, f] [] cpos) (tF g X.mg E (fGet2 fa fb fc)) :=
  (pe_dget2 hu ha hb hc m).imp fun σ H Q h => by
    obtain ⟨I, r, rl, er, h⟩ := h
    unfold fGet2 at h
    refine ⟨I, r, rl, er, Pst.first h fun d v I1 H1 _ s1 x1 h1 => ?_⟩
    cases d with
    | dct kvs =>
      obtain ⟨a, rfl, hD⟩ := isD_of s1.rl x1
      refine ⟨a, rfl, hD, I1, r, s1.rl, er.mono s1.mono, Pst.first h1 fun k y I2 H2 _ s2 x2 h2 => ?_⟩
      refine ⟨I2, r, s2.rl, er.mono (s1.trans s2).mono, Pst.first h2 fun x z I3 H3 _ s3 x3 h3 => ?_⟩
      cases ek : keyOf k with
      | none => rw [ek] at h3; exact h3.elim
      | some k' =>
        rw [ek] at h3
        have h3 : Pst g X.mg E (DR g) I3 H3 (.ok ((valD kvs k').getD x)) Q := h3
        rw [keyOf_v ek x2]
        have x1' := x1.mono (s2.trans s3).mono
        cases x1' with
        | dK hx rx =>
          rename_i es
          refine ⟨valV es k', .inl ⟨_, _, s3.rl.sub.rd hx, rfl, rfl⟩, ?_⟩
          rcases rx.val k' with ⟨e1, e2⟩ | ⟨v, d, e1, e2, e3⟩
          · rw [e1]; rw [e2] at h3
            exact h3.here s3.rl x3
          · rw [e1]; rw [e2] at h3
            exact h3.here s3.rl e3
    | _ => exact h1.elim
end
end FW
/-! a, b = x, y; slices by wishes. -/
namespace FW
open PySem PySem.Spec PyProof.Rows L2 HotX

def wsParOV (i j : Nat) (w1 w2 : WE) : WS := ⟨fun r k => (i < r.length ∧ j < r.length) ∧ w1.run (plain r) (fun d => (∃ ds, d = .lst ds) ∧ w2.run (plain r) (fun e => k.nx ((r.set i (Sl.own d)).set j (Sl.val e))) k.ex) k.ex,
  fun h q => ⟨q.1, w1.mono (fun _ z => ⟨z.1, w2.mono (fun _ z => h.nx _ z) h.ex z.2⟩) h.ex q.2⟩⟩
def wsParVO (i j : Nat) (w1 w2 : WE) : WS := ⟨fun r k => (i < r.length ∧ j < r.length) ∧ w1.run (plain r) (fun d => w2.run (plain r) (fun e => (∃ ds, e = .lst ds) ∧ k.nx ((r.set i (Sl.val d)).set j (Sl.own e))) k.ex) k.ex,
  fun h q => ⟨q.1, w1.mono (fun _ z => w2.mono (fun _ z => ⟨z.1, h.nx _ z.2⟩) h.ex z) h.ex q.2⟩⟩
section
variable {X : Cx} {g : Gd} {E : XK} {i j : Nat} {x y : Str} {a b : Expr} {w1 w2 : WE} {px py pt pos pt2 : Pos} {kt k2 : Nat}
theorem s_parOV (i j : Nat) {k : Nat} (B : Bd X E k) (ha : PE X a (tO g X.mg E w1)) (hb : PE X b (tW g X.mg E w2)) (hi : X.N[i]? = some x := by rfl) (hj : X.N[j]? = some y := by rfl) (hij : i ≠ j := by decide) (hx : X.env.scope.names.lookup x = some .local := by rfl) (hy : X.env.scope.names.lookup y = some .local := by rfl)
    (hw : swappedStores [.Tuple [.Name x px, .Name y py] kt pt] (.Tuple [a, b] k2 pt2) X.env = pure (some [x, y]) := by rfl) (hs : swapsWithSole [.Tuple [.Name x px, .Name y py] kt pt] (.Tuple [a, b] k2 pt2) pos.line X.env = pure false := by rfl)
    (hst : starEach [a, b] X.env = (false, eval a X.env) :: starEach [b] X.env := by rfl) (hst2 : starEach [b] X.env = (false, eval b X.env) :: starEach [] X.env := by rfl) :
    PS X (.Assign [.Tuple [.Name x px, .Name y py] kt pt] (.Tuple [a, b] k2 pt2) pos) (tWS g X.mg E (wsParOV i j w1 w2)) :=
  (ps_par B.hc B.nd hi hj hij hx hy (pa_cons ha (pa_cons hb pa_nil hst2) hst) hw hs).imp fun D σ H h => by
    obtain ⟨I0, H0, r, z, ⟨li, lj⟩, h⟩ := h
    refine z.readO h fun ds p vs I1 H1 q z1 n nz hI hp y1 fr => ?_
    refine ⟨I1, plain r, z1.stp.rl, z1.er, w2.mono (fun e q u I2 H2 s2 x2 => ?_) (fun c q => excW.step z1.stp q) q⟩
    obtain ⟨hI2, hp2⟩ := s2.beside hI nz hp rfl
    exact ⟨.ref p, u, rfl, q _ _ ⟨I2, ((z1.go s2).setO (o := .lst vs) (d := .lst ds) li n nz hI2 hp2 (show DRs g I2 vs ds from y1.mono s2.mono) fr).setV (by rw [List.length_set]; exact lj) x2⟩⟩
theorem s_parVO (i j : Nat) {k : Nat} (B : Bd X E k) (ha : PE X a (tW g X.mg E w1)) (hb : PE X b (tO g X.mg E w2)) (hi : X.N[i]? = some x := by rfl) (hj : X.N[j]? = some y := by rfl) (hij : i ≠ j := by decide) (hx : X.env.scope.names.lookup x = some .local := by rfl) (hy : X.env.scope.names.lookup y = some .local := by rfl)
    (hw : swappedStores [.Tuple [.Name x px, .Name y py] kt pt] (.Tuple [a, b] k2 pt2) X.env = pure (some [x, y]) := by rfl) (hs : swapsWithSole [.Tuple [.Name x px, .Name y py] kt pt] (.Tuple [a, b] k2 pt2) pos.line X.env = pure false := by rfl)
    (hst : starEach [a, b] X.env = (false, eval a X.env) :: starEach [b] X.env := by rfl) (hst2 : starEach [b] X.env = (false, eval b X.env) :: starEach [] X.env := by rfl) :
    PS X (.Assign [.Tuple [.Name x px, .Name y py] kt pt] (.Tuple [a, b] k2 pt2) pos) (tWS g X.mg E (wsParVO i j w1 w2)) :=
  (ps_par B.hc B.nd hi hj hij hx hy (pa_cons ha (pa_cons hb pa_nil hst2) hst) hw hs).imp fun D σ H h => by
    obtain ⟨I0, H0, r, ⟨I, z⟩, ⟨li, lj⟩, h⟩ := h
    refine ⟨I, plain r, z.stp.rl, z.er, w1.mono (fun d q v I1 H1 s1 x1 => ?_) (fun c q => excW.step z.stp q) h⟩
    have z1 := z.go s1
    refine ⟨I1, plain r, z1.stp.rl, z1.er, w2.mono (fun e q => ⟨q.1, fun p I2 H2 s2 n nz hI hd => ?_⟩) (fun c q => excW.step z1.stp q) q⟩
    obtain ⟨⟨ds, rfl⟩, q⟩ := q
    obtain ⟨vs, hp, y2⟩ := hd ds rfl
    refine ⟨v, .ref p, rfl, q _ _ ⟨I2, ((z1.go s2).setV li (x1.mono s2.mono)).setO (o := .lst vs) (d := .lst ds) (by rw [List.length_set]; exact lj) (z1.stp.back n) nz hI hp (show DRs g I2 vs ds from y2) fun m e hm hs => ?_⟩⟩
    by_cases em : m = i
    · subst em
      rw [List.getElem?_set_self li] at hm; cases hm
    · rw [List.getElem?_set_ne (Ne.symm em)] at hm hs
      obtain ⟨p', o, q1, _, _, _, q5, q6⟩ := z1.own m e hm
      rw [hs] at q1; cases q1
      exact n.none_of q5 (chg_tbl q6.chg)
end
end FW
/-! f(lambda: e): the lambda made, handed over, called under try. -/
namespace FW
open PySem PySem.Spec PyProof.Rows L2 HotX LamX

/-- the lambda's context, an exception's context told -/
abbrev lamN (X : Cx) (A : Around) (outer : List PySem.Env) (s : Shared) (H : Hp) (E : XK) (scope : Scope) (f c' : Addr) : Cx :=
  (lamCx X A outer s H E scope f c').wish fun e s' => wpAny (model X.prog X.w) (A.deeper (lamEnv X scope s.heap.objs.size f c')) (leaving (lamEnv X scope s.heap.objs.size f c') e) (fun _ s'' => L2N.CX X.prog X.w outer H s E e s'') (fun e' s'' => L2N.CX X.prog X.w outer H s E e' s'') s'
section
variable {X : Cx} {pins : List (Addr × Obj)} {σ : L2.St} {H : Hp} {s : Shared}
theorem lam_takes {A : Around} {outer : List PySem.Env} {E : XK} {scope : Scope} {f c' : Addr} : L2N.Takes (lamN X A outer s H E scope f c') (fun cls d _ H => E cls d H) := L2N.takes_of rfl rfl rfl rfl
/-- what the lambda promises, called from the def that got it -/
theorem lam_call {Ng : List Str} {qg : Str} {sg : Scope} {gT f c' : Addr} {cdg pm ctv : Value} {params : Arguments} {body : Expr} {scope : Scope} {k : Nat} {a : Str} {pn : List (Addr × Obj)} {xe : Value → Shared → Prop} {W : WX} {E : XK} {tb : TE} {p1 p2 : Pos}
    (J : Inv X pins σ H s) (L : LamS X.env.scope scope) (hf : s.heap.get? f = some (PySem.W.kla_obj "<lambda>" (X.env.qual ++ "<lambda>") params body scope (cloFrom X.env.cells scope.names []) pm c' ctv)) (hfn : H f = none) (hfr : f ∉ frs X.stack)
    (hbind : bindArgs (PySem.W.kla_fn "<lambda>" (X.env.qual ++ "<lambda>") params body scope (cloFrom X.env.cells scope.names []) pm (.ref c') ctv) ⟨[], []⟩ = pure [])
    (tk : L2N.Takes ((cxOf C8.CX0 X.prog X.w X.K X.mg X.base Ng qg sg gT cdg X.A X.stack s H C8.E0).nox.tr pn xe) W) (hr : Room (k + 1) (X.A.deeper (envOfC qg sg s.heap.objs.size gT cdg)))
    (hbody : ∀ (A : Around) (outer : List PySem.Env) (s : Shared) (H : Hp), Room k (A.deeper (lamEnv X scope s.heap.objs.size f c')) → PE (lamN X A outer s H E scope f c') body tb)
    (hN : Ng[0]? = some a) (hv : Vis sg a) (hd : (a == ("__debug__" : Str)) = false) (hcd : (a == ("__classdict__" : Str)) = false) :
    PE ((cxOf C8.CX0 X.prog X.w X.K X.mg X.base Ng qg sg gT cdg X.A X.stack s H C8.E0).nox.tr pn xe) (.Call (.Name a p1) [] [] p2) (fun σZ HZ Q => σZ[0]? = some (some (.ref f)) ∧ HZ c' = some (CodeO c' (X.env.qual ++ "<lambda>")) ∧ (∀ cls d H', E cls d H' → W cls d σZ H') ∧ tb σ HZ Q) := by
  refine ⟨fun pinsZ sZ σZ HZ Q JZ h => ?_⟩
  obtain ⟨hs, hc, hW, ht⟩ := h
  refine wpAny_Call_Name_kw (thn ((pe_var (pos := p1) (i := 0) hN hv hd hcd).run pinsZ sZ σZ HZ (fun v H1 => v = .ref f ∧ H1 = HZ) JZ ⟨.ref f, hs, rfl, rfl⟩) fun u s1 ⟨v, H1, J1, r1, e1, e2⟩ => ?_)
  subst e1 e2
  obtain rfl : u = Value.ref f := r1
  have at1 : s1.heap.get? f = some (PySem.W.kla_obj "<lambda>" (X.env.qual ++ "<lambda>") params body scope (cloFrom X.env.cells scope.names []) pm c' ctv) := J1.base.keep f _ hf hfn hfr (fun z => by cases z)
  obtain ⟨⟨oc, vs, t, hoc, hdc, hvc⟩, _, _⟩ := J1.hok c' _ hc
  have rc : codeAny (model X.prog X.w) (X.A.deeper (envOfC qg sg s.heap.objs.size gT cdg)) (.call (.ref f) ⟨[], []⟩) (CR (L2N.CX X.prog X.w) (envOfC qg sg s.heap.objs.size gT cdg :: X.stack) X.prog X.w H1 s1 Q E) s1 := by
    refine PySem.W.kla_callFunE hr.depth at1 rfl L.co L.gen rfl ⟨c', oc, vs, t, rfl, hoc, hdc, hvc⟩ ?_
    rw [hbind]
    refine wpAny_pure (wpAny_newFunctionEnv (fun y hy => (L.own y hy).2) (fun y hy => by cases hy) (fun h₁ hns sb => ⟨J1.nolimit.fresh _ sb, ?_⟩) L.kind)
    have J2 := lam_start2 (E := E) (f := f) (c' := c') (tk := s1.toks + 0) J L J1.env0 hr.hd J1.base hns fun b o e => sb.extBut b o (Nat.ne_of_lt (Heap.lt_size e)) (Heap.get?_push_of_some _ e)
    show codeAny _ _ (.expr body (lamEnv X scope s1.heap.objs.size f c')) _ _
    refine PySem.W.kla_codeExpr (wpAny_mono ((hbody _ _ s1 H1 (hr.deeper _)).run [] _ _ H1 Q (J2.wish _) ht) (fun v s' hq => ?_) fun e s' hq => hq)
    obtain ⟨w', H', J', rv, q⟩ := hq
    exact ⟨w', H', J'.os, J'.bare, J'.base, J'.hok, rv, q⟩
  refine PySem.W.callWith_F0 ⟨_, _, _, _, at1⟩ (wpAny_call (codeAny_mono rc fun r s' hq => ?_))
  · cases r with
    | error e => exact tk e s' (L2N.XE.of_call J1 hW hq)
    | ok fl =>
      cases fl with
      | ret u => exact J1.after hq
      | next => exact False.elim hq
      | brk => exact False.elim hq
      | cont => exact False.elim hq
end
end FW
/-! f(lambda: e) by functions over data. -/
namespace FW
open PySem PySem.Spec PyProof.Rows L2 HotX LamX

section
variable {X : Cx} {g : Gd} {E : XK}
theorem stp_ext {I H H1 : Hp} (rl : Rl g I H) (eN : ExtN H H1) (T1 : Tabs g.T H1) : Stp g I H I H1 := by
  refine ⟨Sub.refl I, fun _ _ h => .inl h, fun a o _ ht h => eN a o h ht, ⟨fun a o h => eN a o (rl.sub a o h) fun ps e => rl.nt a ps (by rw [h, e]), rl.dz, ?_, T1, rl.nt⟩⟩
  obtain ⟨x, y, q⟩ := rl.dice
  exact ⟨x, y, eN _ _ q fun ps e => by cases e⟩
end
end FW
/-! The head: what stands behind the top, the tables of code objects among it. -/
namespace FW
open PySem PySem.Spec PyProof.Rows L2 LamX

/-- a def without defaults -/
theorem fun_of {K : PySem.W.Frag} {x qual : Str} {st : Stmt} {f : Addr} {fd : FuncData} (F : FunD K x qual (defArgs st) (defBody st) (defScope st) [] [] f fd) : Fun K x qual st f fd := by
  obtain ⟨oc, od, dV, kV, doc, pm, an, cdv, ct, osl, e, lk, hcd, hD, _⟩ := F.ex
  rcases hD with ⟨_, rfl⟩ | ⟨z, _⟩
  · exact ⟨⟨oc, od, kV, doc, pm, an, cdv, ct, osl, e, lk, hcd⟩, F.kp⟩
  · exact absurd rfl z
end FW
/-! The draws: the defs that make the rounds and roll the dice. -/
namespace FW
open PySem PySem.Spec PyProof.Rows L2

section
variable {P : Program} {w : World} {K : PySem.W.Frag} {mg : Str → Option Value} {base : Heap}
/-- a def by a reading over the layer's values -/
theorem fn_V {x qual : Str} {st : Stmt} {f : Addr} {fd : FuncData} {N ps : List Str} {k : Nat} {sp : Sp} {t : XK → TS} (F : Fun K x qual st f fd) (S : FnScope N ps (defScope st)) (len : ∀ vs H Q E, sp vs H Q E → vs.length = ps.length)
    (hbody : ∀ (cdv : Value) (A : Around) (outer : List PySem.Env) (s : Shared) (H : Hp) (E : XK), Bd (cxOf (L2N.CX P w) P w K mg base N qual (defScope st) f cdv A outer s H E) E k → PSs (cxOf (L2N.CX P w) P w K mg base N qual (defScope st) f cdv A outer s H E) (defBody st) (t E))
    (hrun : ∀ vs H Q E, sp vs H Q E → t E { nx := fun _ H' => Q .non H', rt := Q } (L2.start N vs) H) : FnOk P w K mg base (L2N.CX P w) (k + 1) f fd ps sp := by
  obtain ⟨oc, od, kV, doc, pm, an, cdv, ct, osl, rfl, lk, hcd⟩ := F.ex
  refine fn_of lk hcd S len fun A outer s H vs Q E hr hsp => ⟨t E, hbody cdv A outer s H E ?_, hrun vs H Q E hsp⟩
  exact ⟨rfl, S.nd, hr, L2N.passes_call (L2N.takes_of rfl rfl rfl rfl) fun _ _ _ _ z => z, passes_of (K := fun e s'' => L2N.CX P w outer H s E e s'') (E₁ := fun e' s'' => L2N.CX P w outer H s E e' s'') rfl⟩
end
theorem sql_ext {K : PySem.W.Frag} {H H' : Hp} {a : Addr} {xs : List V} (h : SqL K H a xs) (e : Ext H H') : SqL K H' a xs := by
  rcases h with (h | ⟨o, h⟩) | h
  · exact .inl (.inl (e _ _ h))
  · exact .inl (.inr ⟨o, e _ _ h⟩)
  · exact .inr h

/-! ### one number of the script, a stir -/
abbrev rAdd : R2 := rI0 fun i j => .int (i + j)
abbrev rMul : R2 := rI CMul fun i j => .int (i * j)
abbrev rMulW : R2 := rI CMulW fun i j => .int (i * j)
abbrev rDvW : R2 := rI CDivW fun i j => .int (i / j)
abbrev rMd : R2 := rI (fun _ j => 0 < j) fun i j => .int (i % j)
abbrev rLenC (K : PySem.W.Frag) : List V → Hp → VK → Prop := fun xs H Q => ∃ x n, xs = [x] ∧ LenV K x H n ∧ Q (.int n) H
abbrev tI (i : Int) : TE := tC (.int i)
def spDrawn : Sp := fun vs H Q _ => ∃ c k : Int, vs = [.int c, .int k] ∧ ∀ v : Int, Q (.int v) H
def tDrawn (A B M1 M2 m : Int) : TS := tSeq (tAsg (tOp rMd (tOp rAdd (tOp rMul (tVar 0) (tI A)) (tOp rMul (tOp rAdd (tVar 1) (tI 1)) (tI B))) (tI M1)) (gName 2)) (tSeq (tAsg (tOp rMd (tOp rMulW (tVar 2) (tVar 2)) (tI M2)) (gName 2))
  (tSeq (tAsg (tOp rMulW (tOp rMulW (tOp rAdd (tOp rMd (tVar 2) (tI m)) (tI 1)) (tOp rAdd (tOp rDvW (tVar 2) (tI m)) (tI 1))) (tVar 2)) (gName 2)) (tRet (tOp rMd (tVar 2) (tI M1)))))
theorem log2_lt {n : Nat} {k : Nat} (h : n < 2 ^ k) (hk : 0 < k) : n.log2 < k := by
  by_cases e : n = 0
  · subst e
    have : Nat.log2 0 = 0 := by decide
    omega
  · exact (Nat.log2_lt e).mpr h
theorem mulW_ok {i j : Int} (h1 : i.natAbs < 2 ^ 250) (h2 : j.natAbs < 2 ^ 250) : CMulW i j := by
  have a := log2_lt h1 (by decide)
  have b := log2_lt h2 (by decide)
  show i.natAbs.log2 + j.natAbs.log2 < 1000000
  omega
theorem nat_small {z : Int} {a b : Nat} (h0 : 0 ≤ z) (h : z < ((2 ^ a : Nat) : Int)) (hab : a ≤ b) : z.natAbs < 2 ^ b :=
  Nat.lt_of_lt_of_le (by omega : z.natAbs < 2 ^ a) (Nat.pow_le_pow_right (by decide) hab)
theorem drawn_run {A B M1 M2 m : Int} {N : List Str} (hN : N.length = 3) (hA : -(2 ^ 64) < A ∧ A < 2 ^ 64) (hB : -(2 ^ 64) < B ∧ B < 2 ^ 64) (h1 : 0 < M1 ∧ M1 < ((2 ^ 129 : Nat) : Int)) (h2 : 0 < M2 ∧ M2 < ((2 ^ 129 : Nat) : Int)) (hm : 0 < m ∧ m < ((2 ^ 64 : Nat) : Int)) (vs : List V) (H : Hp) (Q : VK) (E : XK) (h : spDrawn vs H Q E) :
    tDrawn A B M1 M2 m { nx := fun _ H' => Q .non H', rt := Q } (L2.start N vs) H := by
  obtain ⟨c, k, rfl, q⟩ := h
  have s2 : (L2.start N [V.int c, V.int k]) = [some (V.int c), some (V.int k), none] := by
    unfold L2.start
    rw [hN]; rfl
  rw [s2]
  generalize hx : (c * A + (k + 1) * B) % M1 = x
  have bx : 0 ≤ x ∧ x < M1 := by rw [← hx]; exact ⟨Int.emod_nonneg _ (by omega), Int.emod_lt_of_pos _ h1.1⟩
  have nx := nat_small (b := 250) bx.1 (Int.lt_trans bx.2 h1.2) (by decide)
  generalize hy : x * x % M2 = y
  have yb : 0 ≤ y ∧ y < M2 := by rw [← hy]; exact ⟨Int.emod_nonneg _ (by omega), Int.emod_lt_of_pos _ h2.1⟩
  have ny := nat_small (b := 250) yb.1 (Int.lt_trans yb.2 h2.2) (by decide)
  have ym : 0 ≤ y % m ∧ y % m < m := ⟨Int.emod_nonneg _ (by omega), Int.emod_lt_of_pos _ hm.1⟩
  have yd : 0 ≤ y / m ∧ y / m ≤ y := ⟨Int.ediv_nonneg yb.1 (by omega), Int.ediv_le_self _ yb.1⟩
  have e65 : ((2 ^ 65 : Nat) : Int) = 2 * ((2 ^ 64 : Nat) : Int) := by decide
  have e130 : ((2 ^ 130 : Nat) : Int) = 2 * ((2 ^ 129 : Nat) : Int) := by decide
  have p64 : (1 : Int) ≤ ((2 ^ 64 : Nat) : Int) := by decide
  have p129 : (1 : Int) ≤ ((2 ^ 129 : Nat) : Int) := by decide
  have u1 : (y % m + 1).natAbs < 2 ^ 65 := nat_small (a := 65) (by omega) (by rw [e65]; omega) (Nat.le_refl _)
  have u2 : (y / m + 1).natAbs < 2 ^ 130 := nat_small (a := 130) (by omega) (by rw [e130]; omega) (Nat.le_refl _)
  have up : ((y % m + 1) * (y / m + 1)).natAbs < 2 ^ 250 := by
    rw [Int.natAbs_mul]
    exact Nat.lt_of_le_of_lt (Nat.mul_le_mul (Nat.le_of_lt u1) (Nat.le_of_lt u2)) (by decide)
  have lm : m.natAbs.log2 < 9000 := Nat.lt_trans (log2_lt (nat_small (a := 64) (b := 64) (by omega) hm.2 (Nat.le_refl _)) (by decide)) (by decide)
  subst hy
  subst hx
  refine ⟨_, rfl, _, _, rfl, rfl, .inr hA, _, rfl, _, _, rfl, rfl, _, _, rfl, rfl, .inr hB, _, _, rfl, rfl, _, _, rfl, rfl, h1.1, ?_⟩
  refine ⟨_, rfl, _, rfl, _, _, rfl, rfl, mulW_ok nx nx, _, _, rfl, rfl, h2.1, ?_⟩
  refine ⟨_, rfl, _, _, rfl, rfl, hm.1, _, _, rfl, rfl, _, rfl, _, _, rfl, rfl, ⟨hm.1, lm⟩, _, _, rfl, rfl, _, _, rfl, rfl, mulW_ok (Nat.lt_trans u1 (by decide)) (Nat.lt_trans u2 (by decide)), _, rfl, _, _, rfl, rfl, mulW_ok up ny, _, rfl, _, _, rfl, rfl, h1.1, q _⟩
end FW
/-! The roll, the cells, the rounds. -/
namespace FW
open PySem PySem.Spec PyProof.Rows L2

abbrev rGeI : R2 := rI0 fun i j => .bl (decide (j ≤ i))
abbrev rPw : R2 := rI CPow fun i j => .int (i ^ j.toNat)
abbrev tDx (K : PySem.W.Frag) (i : Int) : TE := tOp (rIx K) (tVar 0) (tI i)
def tRoll (K : PySem.W.Frag) (E : XK) : TS := tSeq (tIfS (tTest (tOp rGeI (tDx K 0) (tOp rPw (tI 10) (tI 18)))) (tSeq (tAsg (tOp rMd (tDx K 0) (tVar 1)) (gName 2)) (tSeq (tAsg (tOp rDvW (tDx K 0) (tVar 1)) (gSub (tVar 0) (tI 0) rSetL)) (tRet (tVar 2)))) tNext)
  (tSeq (tAsg (tOp rAdd (tDx K 1) (tI 1)) (gSub (tVar 0) (tI 1) rSetL)) (tRet (tOp rMd (tOp rDvW (tCall spDrawn [] E (tCons (tDx K 0) (tCons (tDx K 1) tNil))) (tI 8)) (tVar 1))))
/-- what a roll gives: any number below -/
def fnRoll (ds : List D) (Q : D → Prop) (_ : Str → Prop) : Prop := ∃ m : Int, ds = [.dice, .int m] ∧ (0 < m ∧ m < ((2 ^ 64 : Nat) : Int)) ∧ ∀ r : Int, 0 ≤ r → r < m → Q (.int r)
theorem stp_dice {g : Gd} {I H : Hp} (rl : Rl g I H) (x y : Int) : Stp g I H I (upd H g.dz (.lst [.int x, .int y])) := by
  obtain ⟨x0, y0, h0⟩ := rl.dice
  refine ⟨Sub.refl I, fun _ _ h => .inl h, fun a o ha _ h => by rw [upd_ne ha]; exact h, ⟨fun a o h => ?_, rl.dz, ⟨x, y, upd_same⟩, tabs_set rl.tab h0 (fun _ z => by cases z) (fun _ _ z => by cases z), rl.nt⟩⟩
  rw [upd_ne fun e => by rw [e, rl.dz] at h; cases h]
  exact rl.sub a o h
theorem roll_run {K : PySem.W.Frag} {mg : Str → Option Value} {N : List Str} (hN : N.length = 3) (vs : List V) (H : Hp) (Q : VK) (E : XK) (h : spW mg fnRoll vs H Q E) : tRoll K E { nx := fun _ H' => Q .non H', rt := Q } (L2.start N vs) H := by
  obtain ⟨g, I, ds, rl, hd, m, rfl, hm, q⟩ := h
  obtain ⟨x, y, h0⟩ := rl.dice
  have evs : vs = [.ref g.dz, .int m] := by
    cases hd with
    | cons a b =>
      cases a
      cases b with
      | cons a b => cases a; cases b; rfl
  subst evs
  have s2 : (L2.start N [V.ref g.dz, V.int m]) = [some (V.ref g.dz), some (V.int m), none] := by
    unfold L2.start
    rw [hN]; rfl
  rw [s2]
  have lm : m.natAbs.log2 < 9000 := Nat.lt_trans (log2_lt (nat_small (a := 64) (b := 64) (by omega) hm.2 (Nat.le_refl _)) (by decide)) (by decide)
  have ix0 : ∀ {H : Hp} {a b : V} {QQ : VK}, H g.dz = some (.lst [a, b]) → QQ a H → rIx K (.ref g.dz) (.int 0) H QQ := fun {H a b QQ} e z => .inl ⟨g.dz, [a, b], 0, a, rfl, rfl, SqL.of e, rfl, z⟩
  have ix1 : ∀ {H : Hp} {a b : V} {QQ : VK}, H g.dz = some (.lst [a, b]) → QQ b H → rIx K (.ref g.dz) (.int 1) H QQ := fun {H a b QQ} e z => .inl ⟨g.dz, [a, b], 1, b, rfl, rfl, SqL.of e, rfl, z⟩
  refine ⟨_, rfl, ix0 h0 ⟨_, _, rfl, rfl, ⟨by decide, by decide, by decide⟩, _, _, rfl, rfl, _, rfl, ?_⟩⟩
  by_cases c : (10 : Int) ^ Int.toNat 18 ≤ x
  · show (if decide ((10 : Int) ^ Int.toNat 18 ≤ x) = true then _ else _)
    rw [if_pos (decide_eq_true c)]
    refine ⟨_, rfl, ix0 h0 ⟨_, rfl, _, _, rfl, rfl, hm.1, ?_⟩⟩
    refine ⟨_, rfl, ix0 h0 ⟨_, rfl, _, _, rfl, rfl, ⟨hm.1, lm⟩, ?_⟩⟩
    refine ⟨_, rfl, g.dz, _, 0, 0, rfl, rfl, h0, rfl, _, rfl, ?_⟩
    exact q _ (Int.emod_nonneg _ (by omega)) (Int.emod_lt_of_pos _ hm.1) _ I _ (stp_dice rl _ _) (.int _)
  · show (if decide ((10 : Int) ^ Int.toNat 18 ≤ x) = true then _ else _)
    rw [if_neg (by simpa using c)]
    refine ⟨_, rfl, ix1 h0 ⟨_, _, rfl, rfl, ?_⟩⟩
    refine ⟨_, rfl, g.dz, _, 1, 1, rfl, rfl, h0, rfl, ?_⟩
    have h1 : upd H g.dz (.lst [.int x, .int (y + 1)]) g.dz = some (.lst [.int x, .int (y + 1)]) := upd_same
    refine ⟨_, rfl, ix0 h1 ⟨_, rfl, ix1 h1 ⟨x, y + 1, rfl, fun v => ⟨_, _, rfl, rfl, ⟨by decide, by decide⟩, _, rfl, _, _, rfl, rfl, hm.1, ?_⟩⟩⟩⟩
    exact q _ (Int.emod_nonneg _ (by omega)) (Int.emod_lt_of_pos _ hm.1) _ I _ (stp_dice rl _ _) (.int _)

/-! ### a cell of the script -/
def spCell (K : PySem.W.Frag) : Sp := fun vs H Q _ => ∃ (a : Addr) (k : Int) (ns : List Int), vs = [.ref a, .int k] ∧ SqL K H a (ns.map V.int) ∧ ns.length ≤ 1000 ∧ (0 ≤ k ∧ k ≤ 1000) ∧ ∀ (v : Int) H', Ext H H' → Q (.int v) H'
abbrev tLenC (K : PySem.W.Frag) (i : Nat) : TE := tCB (rLenC K) (tCons (tVar i) tNil)
def tCell (K : PySem.W.Frag) (A B : Int) : TS := tSeq (tIfS (tTest (tOp (rEqD K) (tVar 0) (tLst tNil))) (tRet (tOp rMul (tVar 1) (tI A))) tNext) (tRet (tOp rAdd (tOp (rIx K) (tVar 0) (tOp rMd (tVar 1) (tLenC K 0))) (tOp rMul (tOp rDvW (tVar 1) (tLenC K 0)) (tI B))))
theorem dp_ints {K : PySem.W.Frag} {H : Hp} : ∀ ns : List Int, DpAll K H (ns.map V.int) (ns.map PyData.int)
  | [] => .nil
  | n :: ns => .cons (.int n) (dp_ints ns)
theorem lay_ints : ∀ ns : List Int, PyData.canLayAll0 (ns.map PyData.int) = true
  | [] => by rw [List.map_nil, PyData.canLayAll0]
  | n :: ns => by rw [List.map_cons, PyData.canLayAll0, lay_ints ns, PyData.canLay0]; rfl
theorem depth_ints : ∀ ns : List Int, PyData.depthAll (ns.map PyData.int) = 0
  | [] => by rw [List.map_nil, PyData.depthAll]
  | n :: ns => by rw [List.map_cons, PyData.depthAll, depth_ints ns, PyData.depth]; rfl
theorem cell_run {K : PySem.W.Frag} {A B : Int} {N : List Str} (hN : N.length = 2) (hA : -(2 ^ 64) < A ∧ A < 2 ^ 64) (hB : -(2 ^ 64) < B ∧ B < 2 ^ 64) (vs : List V) (H : Hp) (Q : VK) (E : XK) (h : spCell K vs H Q E) : tCell K A B { nx := fun _ H' => Q .non H', rt := Q } (L2.start N vs) H := by
  obtain ⟨a, k, ns, rfl, hS, hn, hk, q⟩ := h
  have s2 : (L2.start N [V.ref a, V.int k]) = [some (V.ref a), some (V.int k)] := by
    unfold L2.start
    rw [hN]; rfl
  rw [s2]
  refine ⟨_, rfl, by show 0 ≤ sizeLine; decide, fun p hp => ?_⟩
  have e1 : Ext H (upd H p (.lst [])) := Ext.new hp
  have hS1 := sql_ext hS e1
  refine ⟨.list (ns.map PyData.int), .list [], .lst hS1 (dp_ints ns), .lst (SqL.of upd_same) .nil, ?_, by decide +kernel, _, rfl, ?_⟩
  · unfold SeqAt.shaped
    rw [Bool.and_eq_true, decide_eq_true_eq]
    exact ⟨by rw [PyData.canLay0]; exact lay_ints ns, by rw [PyData.depth, depth_ints]; decide⟩
  · cases ns with
    | nil =>
      refine ⟨_, rfl, _, _, rfl, rfl, .inr hA, q _ _ e1⟩
    | cons n ns =>
      have hl : LenV K (.ref a) (upd H p (.lst [])) (((n :: ns).map V.int).length : Nat) := .inl ⟨_, hS1, rfl⟩
      have hp0 : (0 : Int) < (((n :: ns).map V.int).length : Nat) := by rw [List.length_map, List.length_cons]; omega
      have hb : ((((n :: ns).map V.int).length : Nat) : Int) ≤ 1000 := by rw [List.length_map]; omega
      have m0 := Int.emod_nonneg k (Int.ne_of_gt hp0)
      have m1 := Int.emod_lt_of_pos k hp0
      obtain ⟨j, hj⟩ := Int.eq_ofNat_of_zero_le m0
      have hjl : j < ((n :: ns).map V.int).length := by omega
      have hjl' : j < (n :: ns).length := by rw [List.length_map] at hjl; exact hjl
      refine ⟨_, rfl, _, rfl, _, rfl, _, _, rfl, hl, _, _, rfl, rfl, hp0, .inl ⟨a, _, _, .int (n :: ns)[j], rfl, rfl, hS1, ?_, ?_⟩⟩
      · rw [hj]
        refine atI_nat ?_
        rw [List.getElem?_map, List.getElem?_eq_getElem hjl']; rfl
      · refine ⟨_, rfl, _, rfl, _, _, rfl, hl, _, _, rfl, rfl, ⟨hp0, ?_⟩, _, _, rfl, rfl, .inr hB, _, _, rfl, rfl, q _ _ e1⟩
        exact Nat.lt_trans (log2_lt (nat_small (a := 10) (b := 10) (by omega) (by omega) (Nat.le_refl _)) (by decide)) (by decide)
end FW
/-! The rounds, the law's loop over them. -/
namespace FW
open PySem PySem.Spec PyProof.Rows L2

/-- lists of dice, made anew -/
structure RoundsAt (H H' : Hp) (L : Addr) (ps : List Addr) : Prop where
  ext : Ext H H'
  lst : H' L = some (.lst (ps.map V.ref))
  new : H L = none
  dis : ps.Nodup
  each : ∀ p ∈ ps, H p = none ∧ p ≠ L ∧ ∃ x : Int, H' p = some (.lst [.int x, .int 0])
def spRounds (K : PySem.W.Frag) : Sp := fun vs H Q _ => ∃ (a : Addr) (high : Int) (ns : List Int), vs = [.ref a, .int high] ∧ SqL K H a (ns.map V.int) ∧ ns.length ≤ 1000 ∧ (0 ≤ high ∧ high ≤ 1000) ∧ ∀ L ps H', RoundsAt H H' L ps → Q (.ref L) H'
abbrev rMx : List V → Hp → VK → Prop := fun xs H Q => ∃ i j, xs = [.int i, .int j] ∧ Q (.int (if j > i then j else i)) H
abbrev rMn : List V → Hp → VK → Prop := fun xs H Q => ∃ i j, xs = [.int i, .int j] ∧ Q (.int (if j < i then j else i)) H
def tRounds (K : PySem.W.Frag) : TS := tRet (tLc (iRng1 (tCons (tCB rMx (tCons (tI 1) (tCons (tCB rMn (tCons (tVar 1) (tCons (tLenC K 0) tNil))) tNil))) tNil)) (gName 2) tYes (tLst (tCons (tCall (spCell K) [] E0 (tCons (tVar 0) (tCons (tVar 2) tNil))) (tCons (tI 0) tNil))) [2])
theorem nodup_snoc {α : Type} {l : List α} {x : α} (h : l.Nodup) (hx : x ∉ l) : (l ++ [x]).Nodup := by
  rw [List.nodup_append]
  exact ⟨h, List.nodup_cons.mpr ⟨List.not_mem_nil, List.nodup_nil⟩, fun a ha b hb e => hx (by rw [List.mem_singleton.mp hb] at e; rw [← e]; exact ha)⟩
theorem rounds_run {K : PySem.W.Frag} {N : List Str} (hN : N.length = 3) (vs : List V) (H : Hp) (Q : VK) (E : XK) (h : spRounds K vs H Q E) : tRounds K { nx := fun _ H' => Q .non H', rt := Q } (L2.start N vs) H := by
  obtain ⟨a, high, ns, rfl, hS, hn, hh, q⟩ := h
  have s2 : (L2.start N [V.ref a, V.int high]) = [some (V.ref a), some (V.int high), none] := by
    unfold L2.start
    rw [hN]; rfl
  rw [s2]
  have hl : LenV K (.ref a) H ((ns.map V.int).length : Nat) := .inl ⟨_, hS, rfl⟩
  have hln : (((ns.map V.int).length : Nat) : Int) ≤ 1000 := by rw [List.length_map]; omega
  refine ⟨_, rfl, _, rfl, _, _, rfl, hl, _, _, rfl, _, _, rfl, ?_⟩
  generalize hm : (if (((ns.map V.int).length : Nat) : Int) < high then (((ns.map V.int).length : Nat) : Int) else high) = m
  have bm : m ≤ 1000 := by rw [← hm]; split <;> omega
  refine ⟨_, rfl, ?_, ?_, fun D hD => ?_⟩
  · split <;> omega
  · split <;> omega
  have bt : (if m > 1 then m else 1).toNat ≤ 1000 := by split <;> omega
  refine lc_range (fun i H' => ∃ ps : List Addr, ps.length = i ∧ Ext H H' ∧ H' D = some (.lst (ps.map V.ref)) ∧ ps.Nodup ∧ ∀ p ∈ ps, H p = none ∧ p ≠ D ∧ ∃ x : Int, H' p = some (.lst [.int x, .int 0])) ⟨[], rfl, Ext.new hD, upd_same, List.nodup_nil, fun p hp => by cases hp⟩ ?_ fun H' ⟨ps, _, h2, h3, h4, h5⟩ => q D ps H' ⟨h2, h3, hD, h4, h5⟩
  rintro i H1 hi ⟨ps, rfl, h2, h3, h4, h5⟩
  refine ⟨rfl, ?_⟩
  unfold tYes
  dsimp only
  rw [if_pos rfl]
  refine ⟨_, rfl, _, rfl, a, _, ns, rfl, sql_ext hS h2, hn, ⟨by omega, by omega⟩, fun v H2 e2 => ⟨by show 2 ≤ sizeLine; decide, fun p hp => ?_⟩⟩
  have e3 : Ext H1 (upd H2 p (.lst [.int v, .int 0])) := e2.trans (Ext.new hp)
  have hpD : D ≠ p := ne_of_none (e2 _ _ h3) hp
  have hp1 : H1 p = none := by
    cases e : H1 p with
    | none => rfl
    | some o => rw [e2 _ _ e] at hp; cases hp
  have hp0 : H p = none := by
    cases e : H p with
    | none => rfl
    | some o => rw [h2 _ _ e] at hp1; cases hp1
  refine ⟨_, e3 _ _ h3, ?_, ps ++ [p], by rw [List.length_append]; rfl, ?_, ?_, ?_, ?_⟩
  · rw [List.length_map]
    exact Nat.lt_of_lt_of_le hi (Nat.le_trans bt (by decide))
  · intro b o e
    rw [upd_ne (ne_of_none e hD)]
    exact e3 _ _ (h2 _ _ e)
  · rw [upd_same, List.map_append]; rfl
  · refine nodup_snoc h4 fun hm => ?_
    obtain ⟨_, _, x, e⟩ := h5 p hm
    rw [hp1] at e; cases e
  · intro p' hp'
    rcases List.mem_append.mp hp' with z | z
    · obtain ⟨z1, z2, x, z3⟩ := h5 p' z
      exact ⟨z1, z2, x, by rw [upd_ne z2]; exact e3 _ _ z3⟩
    · rw [List.mem_singleton.mp z]
      exact ⟨hp0, Ne.symm hpD, v, by rw [upd_ne (Ne.symm hpD)]; exact upd_same⟩
end FW
/-! The law's loop over the rounds. -/
namespace FW
open PySem PySem.Spec PyProof.Rows L2 LamX

/-- wishes that may count on the number of the slots -/
def lenD (n : Nat) (D : Ends) : Ends := { nx := fun σ H => σ.length = n → D.nx σ H, rt := D.rt, bk := fun σ H => σ.length = n → D.bk σ H, ct := fun σ H => σ.length = n → D.ct σ H }
theorem pss_len {X : Cx} {st : List Stmt} {t : TS} (h : PSs X st t) : PSs X st (fun D σ H => t (lenD X.N.length D) σ H) := by
  refine ⟨fun pins s σ H D J q => wpAny_mono (h.run pins s σ H _ J q) (fun f s' z => ?_) fun _ _ z => z⟩
  cases f with
  | next => obtain ⟨σ', H', J', q⟩ := z; exact ⟨σ', H', J', q J'.len⟩
  | brk => obtain ⟨σ', H', J', q⟩ := z; exact ⟨σ', H', J', q J'.len⟩
  | cont => obtain ⟨σ', H', J', q⟩ := z; exact ⟨σ', H', J', q J'.len⟩
  | ret u => obtain ⟨v, σ', H', J', r, q⟩ := z; exact ⟨v, σ', H', J', r, q⟩
/-- the slots as a round begins -/
def r0 (n : Nat) : Env2 := .un :: .val .dice :: List.replicate (n - 2) .un
/-- what is asked of a round -/
def kRound : Kt := { nx := fun _ => True, rt := fun _ => False, bk := fun _ => False, ct := fun _ => True, ex := fun _ => False }
def tRound (T : List (Addr × Str)) (mg : Str → Option Value) (E : XK) (n : Nat) (w : WS) : TS := fun D σ H => ∃ g : Gd, g.T = T ∧ tWS g mg E w (lenD n D) σ H
theorem pss_round {X : Cx} {st : List Stmt} {w : WS} {T : List (Addr × Str)} {E : XK} (h : ∀ g : Gd, g.T = T → PSs X st (tWS g X.mg E w)) : PSs X st (tRound T X.mg E X.N.length w) :=
  ⟨fun pins s σ H D J ⟨g, e, q⟩ => (pss_len (h g e)).run pins s σ H D J q⟩
def tLaw (K : PySem.W.Frag) (T : List (Addr × Str)) (mg : Str → Option Value) (E : XK) (n : Nat) (m : Int) (w : WS) : TS := tSeq (tFor (iList K (tCall (spRounds K) [] E (tCons (tVar 0) (tCons (tI m) tNil)))) (gName 1) (tRound T mg E n w)) (tRet (tC (.bl true)))
def spLaw (K : PySem.W.Frag) (T : List (Addr × Str)) : Sp := fun vs H Q _ => ∃ (a : Addr) (ns : List Int), vs = [.ref a] ∧ SqL K H a (ns.map V.int) ∧ ns.length ≤ 1000 ∧ Tabs T H ∧ ∀ H', Q (.bl true) H'
theorem law_run {K : PySem.W.Frag} {T : List (Addr × Str)} {mg : Str → Option Value} {m : Int} {w : WS} {N : List Str} (hN : 2 ≤ N.length) (hm : 0 ≤ m ∧ m ≤ 1000) (hw : w.run (r0 N.length) kRound) (vs : List V) (H : Hp) (Q : VK) (E : XK) (h : spLaw K T vs H Q E) :
    tLaw K T mg E N.length m w { nx := fun _ H' => Q .non H', rt := Q } (L2.start N vs) H := by
  obtain ⟨a, ns, rfl, hS, hn, hT, q⟩ := h
  have hl0 : (L2.start N [V.ref a]).length = N.length := by
    unfold L2.start
    rw [List.length_append, List.length_map, List.length_replicate, List.length_singleton]; omega
  refine ⟨_, rfl, a, m, ns, rfl, hS, hn, hm, fun L ps H1 R => ⟨L, rfl, ⟨_, SqL.of R.lst⟩, ?_⟩⟩
  refine ⟨fun i j σ H' => σ.length = N.length ∧ j = ps.length - i ∧ i ≤ ps.length ∧ H' L = some (.lst (ps.map V.ref)) ∧ Tabs T H' ∧ ∀ p ∈ ps, ∃ x y : Int, H' p = some (.lst [.int x, .int y]), ⟨ps.length, hl0, rfl, Nat.zero_le _, R.lst, hT.ext R.ext, fun p hp => ?_⟩, ?_⟩
  · obtain ⟨_, _, x, e⟩ := R.each p hp
    exact ⟨x, 0, e⟩
  rintro i j σ H2 ⟨hσ, rfl, hi, hL, hT2, hP⟩
  by_cases hlt : i < ps.length
  · refine .inr ⟨⟨_, .ref ps[i], SqL.of hL, ?_⟩, fun σ' H' => σ'.length = N.length ∧ H' L = some (.lst (ps.map V.ref)) ∧ Tabs T H' ∧ ∀ p ∈ ps, ∃ x y : Int, H' p = some (.lst [.int x, .int y]), fun σ' H' ⟨z1, z2, z3, z4⟩ => ⟨ps.length - (i + 1), by omega, z1, rfl, hlt, z2, z3, z4⟩, fun x H3 y => ?_⟩
    · rw [List.getElem?_map, List.getElem?_eq_getElem hlt]; rfl
    obtain ⟨rfl, y⟩ := y
    have ex : x = .ref ps[i] := by
      have := y _ (SqL.of hL)
      rw [List.getElem?_map, List.getElem?_eq_getElem hlt] at this
      exact (Option.some.inj this).symm
    subst ex
    have hmem : ps[i] ∈ ps := List.getElem_mem hlt
    have neL : ∀ p ∈ ps, p ≠ L := fun p hp => (R.each p hp).2.1
    have rl : Rl ⟨ps[i], T⟩ (fun _ => none) H3 := ⟨fun a o z => (by cases z), rfl, hP _ hmem, hT2, fun a p z => (by cases z)⟩
    have hlen : (σ.set 1 (some (V.ref ps[i]))).length = (r0 N.length).length := by
      unfold r0
      rw [List.length_set, hσ, List.length_cons, List.length_cons, List.length_replicate]; omega
    have noOwn : ∀ (k : Nat) (d : D), (r0 N.length)[k]? ≠ some (Sl.own d) := fun k d e => by
      have hm : Sl.own d ∈ r0 N.length := List.mem_of_getElem? e
      unfold r0 at hm
      simp only [List.mem_cons, List.mem_replicate] at hm
      rcases hm with z | z | ⟨_, z⟩ <;> cases z
    have sri : SRI ⟨ps[i], T⟩ (fun _ => none) H3 (fun _ => none) (r0 N.length) (σ.set 1 (some (V.ref ps[i]))) H3 := by
      refine ⟨rl.stp, hlen, fun k d e => ?_, fun k d e => absurd e (noOwn k d), fun k l d e p h1 => absurd h1 (noOwn k d)⟩
      unfold r0 at e
      match k, e with
      | 0, e => cases e
      | 1, e =>
        have ed : d = .dice := by
          have := Option.some.inj e
          injection this with this
          exact this.symm
        subst ed
        exact ⟨_, List.getElem?_set_self (by omega), .dice⟩
      | k + 2, e =>
        rw [List.getElem?_cons_succ, List.getElem?_cons_succ, List.getElem?_replicate] at e
        split at e <;> cases e
    have fin : ∀ {r' : Env2} {σ' : L2.St} {H' : Hp}, SR ⟨ps[i], T⟩ (fun _ => none) H3 r' σ' H' → σ'.length = N.length → σ'.length = N.length ∧ H' L = some (.lst (ps.map V.ref)) ∧ Tabs T H' ∧ ∀ p ∈ ps, ∃ x y : Int, H' p = some (.lst [.int x, .int y]) := fun {r' σ' H'} ⟨I', z⟩ zl => by
      refine ⟨zl, z.stp.keep L _ (Ne.symm (neL _ hmem)) (fun _ e => by cases e) hL, z.stp.rl.tab, fun p hp => ?_⟩
      by_cases ep : p = ps[i]
      · subst ep; exact z.stp.rl.dice
      · obtain ⟨x, y, e⟩ := hP p hp
        exact ⟨x, y, z.stp.keep p _ ep (fun _ e => by cases e) e⟩
    refine ⟨⟨ps[i], T⟩, rfl, fun _ => none, H3, r0 N.length, ⟨_, sri⟩, w.mono (k := kRound) ⟨fun r' _ σ' H' z zl => fin z zl, fun _ z => z.elim, fun _ z => z.elim, fun r' _ σ' H' z zl => fin z zl, fun _ z => z.elim⟩ hw⟩
  · have ei : i = ps.length := by omega
    exact .inl ⟨⟨_, SqL.of hL, by rw [List.length_map]; omega⟩, q H2⟩
end FW
/-! Defs by name: what a law's walk hands from def to def. -/
namespace FW
open PySem PySem.Spec PyProof.Rows L2 LamX

/-- names of built-ins that the module leaves free -/
structure Fre (mg : Str → Option Value) : Prop where
  len : mg "len" = none
  all : mg "all" = none
  any : mg "any" = none
  sum : mg "sum" = none
  tuple : mg "tuple" = none
  list : mg "list" = none
  int : mg "int" = none
  max : mg "max" = none
  min : mg "min" = none
  range : mg "range" = none
  enumerate : mg "enumerate" = none
  zip : mg "zip" = none
  isinstance : mg "isinstance" = none
  str : mg "str" = none
  bool : mg "bool" = none
  dict : mg "dict" = none
  set : mg "set" = none
  sorted : mg "sorted" = none
  abs : mg "abs" = none
/-- the def x at the statement st -/
structure FunA (K : PySem.W.Frag) (mg : Str → Option Value) (x : Str) (st : Stmt) (ps : List Str) : Prop where
  ex : ∃ f fd, Fun K x x st f fd ∧ mg x = some (.ref f) ∧ Binds K fd ps []
structure CalF (P : Program) (w : World) (K : PySem.W.Frag) (mg : Str → Option Value) (base : Heap) (k : Nat) (x : Str) (ps : List Str) (fn : List D → Res D) : Prop where
  ex : ∃ f fd, FnOk P w K mg base (L2N.CX P w) k f fd ps (spF mg fn) ∧ mg x = some (.ref f) ∧ PySem.W.keepIn K (.ref f) = true ∧ Binds K fd ps []
structure CalW (P : Program) (w : World) (K : PySem.W.Frag) (mg : Str → Option Value) (base : Heap) (k : Nat) (x : Str) (ps : List Str) (fn : FnW) : Prop where
  ex : ∃ f fd, FnOk P w K mg base (L2N.CX P w) k f fd ps (spW mg fn) ∧ mg x = some (.ref f) ∧ PySem.W.keepIn K (.ref f) = true ∧ Binds K fd ps []
section
variable {P : Program} {w : World} {K : PySem.W.Frag} {mg : Str → Option Value} {base : Heap}
abbrev Body (P : Program) (w : World) (K : PySem.W.Frag) (mg : Str → Option Value) (base : Heap) (N : List Str) (x : Str) (st : Stmt) (k : Nat) (ws : WS) : Prop :=
  ∀ (f : Addr) (cdv : Value) (A : Around) (outer : List PySem.Env) (s : Shared) (H : Hp) (E : XK) (g : Gd), Bd (cxOf (L2N.CX P w) P w K mg base N x (defScope st) f cdv A outer s H E) E k → L2N.Takes (cxOf (L2N.CX P w) P w K mg base N x (defScope st) f cdv A outer s H E) (fun cls d _ H => E cls d H) →
    PSs (cxOf (L2N.CX P w) P w K mg base N x (defScope st) f cdv A outer s H E) (defBody st) (tWS g mg E ws)
theorem calF_of {x : Str} {st : Stmt} {N ps : List Str} {k np n : Nat} {ws : WS} {fs : FS} (F : FunA K mg x st ps) (S : FnScope N ps (defScope st)) (hi : ImpS fs ws) (hb : Body P w K mg base N x st k ws) (hnp : ps.length = np := by rfl) (hn : N.length = n := by rfl) : CalF P w K mg base (k + 1) x ps (fnF np n fs) := by
  obtain ⟨f, fd, F, e, b⟩ := F.ex
  exact ⟨f, fd, fn_F (fn_ok F S hnp hn (fun cdv A outer s H E g B tk => hb f cdv A outer s H E g B tk)) hi hnp, e, F.kp, b⟩
theorem calV_of {x : Str} {st : Stmt} {N ps : List Str} {k : Nat} {fn : FnW} {t : XK → TS} (F : FunA K mg x st ps) (S : FnScope N ps (defScope st)) (len : ∀ vs H Q E, spW mg fn vs H Q E → vs.length = ps.length)
    (hb : ∀ (f : Addr) (cdv : Value) (A : Around) (outer : List PySem.Env) (s : Shared) (H : Hp) (E : XK), Bd (cxOf (L2N.CX P w) P w K mg base N x (defScope st) f cdv A outer s H E) E k → PSs (cxOf (L2N.CX P w) P w K mg base N x (defScope st) f cdv A outer s H E) (defBody st) (t E))
    (hr : ∀ vs H Q E, spW mg fn vs H Q E → t E { nx := fun _ H' => Q .non H', rt := Q } (L2.start N vs) H) : CalW P w K mg base (k + 1) x ps fn := by
  obtain ⟨f, fd, F, e, b⟩ := F.ex
  exact ⟨f, fd, fn_V F S len (fun cdv A outer s H E B => hb f cdv A outer s H E B) hr, e, F.kp, b⟩
/-- a def of the layer's values -/
structure CalV (P : Program) (w : World) (K : PySem.W.Frag) (mg : Str → Option Value) (base : Heap) (k : Nat) (x : Str) (ps : List Str) (sp : Sp) : Prop where
  ex : ∃ f fd, FnOk P w K mg base (L2N.CX P w) k f fd ps sp ∧ mg x = some (.ref f) ∧ PySem.W.keepIn K (.ref f) = true ∧ Binds K fd ps []
theorem calS_of {x : Str} {st : Stmt} {N ps : List Str} {k : Nat} {sp : Sp} {t : XK → TS} (F : FunA K mg x st ps) (S : FnScope N ps (defScope st)) (len : ∀ vs H Q E, sp vs H Q E → vs.length = ps.length)
    (hb : ∀ (f : Addr) (cdv : Value) (A : Around) (outer : List PySem.Env) (s : Shared) (H : Hp) (E : XK), Bd (cxOf (L2N.CX P w) P w K mg base N x (defScope st) f cdv A outer s H E) E k → PSs (cxOf (L2N.CX P w) P w K mg base N x (defScope st) f cdv A outer s H E) (defBody st) (t E))
    (hr : ∀ vs H Q E, sp vs H Q E → t E { nx := fun _ H' => Q .non H', rt := Q } (L2.start N vs) H) : CalV P w K mg base (k + 1) x ps sp := by
  obtain ⟨f, fd, F, e, b⟩ := F.ex
  exact ⟨f, fd, fn_V F S len (fun cdv A outer s H E B => hb f cdv A outer s H E B) hr, e, F.kp, b⟩
end
section
variable {X : Cx} {g : Gd} {E : XK} {k kl : Nat} {x : Str} {ps : List Str} {e : Expr} {es : List Expr} {p pos : Pos}
theorem e_callF {fn : List D → Res D} {kk : FA} (C : CalF X.prog X.w X.K X.mg X.base kl x ps fn) (B : Bd X E k) (ha : PA X (e :: es) (tFA g X.mg E kk)) (hle : kl ≤ k := by decide) (hg : Gl X x := by rfl) (hdb : (x == ("__debug__" : Str)) = false := by decide) (he : starEach (e :: es) X.env = (false, eval e X.env) :: starEach es X.env := by rfl)
    (hpl : (backTo pos (starEach es X.env)).any (·.1) = false := by rfl) : PE X (.Call (.Name x p) (e :: es) [] pos) (tF g X.mg E (fCall fn kk)) := by
  obtain ⟨f, fd, F, hm, hk, hb⟩ := C.ex
  exact e_call F (B.hr.mono hle) hg hm hk hb B.ps ha hdb he hpl
theorem w_callW {fn : FnW} {ka : WA} (m : MonoW fn) (C : CalW X.prog X.w X.K X.mg X.base kl x ps fn) (B : Bd X E k) (ha : PA X (e :: es) (tWA g X.mg E ka)) (hle : kl ≤ k := by decide) (hg : Gl X x := by rfl) (hdb : (x == ("__debug__" : Str)) = false := by decide) (he : starEach (e :: es) X.env = (false, eval e X.env) :: starEach es X.env := by rfl)
    (hpl : (backTo pos (starEach es X.env)).any (·.1) = false := by rfl) : PE X (.Call (.Name x p) (e :: es) [] pos) (tW g X.mg E (wCall fn m ka)) := by
  obtain ⟨f, fd, F, hm, hk, hb⟩ := C.ex
  exact w_call m F (B.hr.mono hle) hg hm hk hb B.ps ha hdb he hpl
theorem v_call {sp : Sp} {t : TA} (C : CalV X.prog X.w X.K X.mg X.base kl x ps sp) (B : Bd X E k) (ha : PA X (e :: es) t) (hle : kl ≤ k := by decide) (hg : Gl X x := by rfl) (hdb : (x == ("__debug__" : Str)) = false := by decide) (he : starEach (e :: es) X.env = (false, eval e X.env) :: starEach es X.env := by rfl)
    (hpl : (backTo pos (starEach es X.env)).any (·.1) = false := by rfl) : PE X (.Call (.Name x p) (e :: es) [] pos) (tCall sp [] E t) := by
  obtain ⟨f, fd, F, hm, hk, hb⟩ := C.ex
  exact pe_call F (B.hr.mono hle) hg hm hk hb .nil B.ps ha hdb he hpl
theorem mono_roll : MonoW fnRoll := ⟨fun h _ ⟨m, e, hm, q⟩ => ⟨m, e, hm, fun r h1 h2 => h _ (q r h1 h2)⟩⟩
theorem inBlk {scope : Scope} {J : Cx → Prop} (B : Bd X E k) (f : ∀ (s : Shared) (H : Hp) (C : Addr) (cl : List (Str × Addr)) (fp : List Addr), Bd (X.blk s H scope (compEnvC scope cl C X.env) fp) E0 k → J (X.blk s H scope (compEnvC scope cl C X.env) fp)) : ForBlk X scope J :=
  fun s H C cl fp => f s H C cl fp (B.blk s H scope _ fp)
end
end FW
/-! The law's def with its table; classes that are named. -/
namespace FW
open PySem PySem.Spec PyProof.Rows L2 LamX

section
variable {P : Program} {w : World} {K : PySem.W.Frag} {mg : Str → Option Value} {base : Heap}
/-- a def whose code object is known -/
theorem fn_Vc {x qual : Str} {st : Stmt} {f : Addr} {fd : FuncData} {N ps : List Str} {k : Nat} {sp : Sp} {t : XK → TS} {cv : Value} (F : Fun K x qual st f fd) (hcv : ∀ o1 o2 fd o3, K.lookup f = some ⟨o1, o2, .func fd, o3⟩ → fd.code = cv) (S : FnScope N ps (defScope st)) (len : ∀ vs H Q E, sp vs H Q E → vs.length = ps.length)
    (hbody : ∀ (A : Around) (outer : List PySem.Env) (s : Shared) (H : Hp) (E : XK), Bd (cxOf (L2N.CX P w) P w K mg base N qual (defScope st) f cv A outer s H E) E k → L2N.Takes (cxOf (L2N.CX P w) P w K mg base N qual (defScope st) f cv A outer s H E) (fun cls d _ H => E cls d H) → PSs (cxOf (L2N.CX P w) P w K mg base N qual (defScope st) f cv A outer s H E) (defBody st) (t E))
    (hrun : ∀ vs H Q E, sp vs H Q E → t E { nx := fun _ H' => Q .non H', rt := Q } (L2.start N vs) H) : FnOk P w K mg base (L2N.CX P w) (k + 1) f fd ps sp := by
  obtain ⟨oc, od, kV, doc, pm, an, cdv, ct, osl, rfl, lk, hcd⟩ := F.ex
  obtain rfl : cdv = cv := hcv _ _ _ _ lk
  have tk : ∀ (A : Around) (outer : List PySem.Env) (s : Shared) (H : Hp) (E : XK), L2N.Takes (cxOf (L2N.CX P w) P w K mg base N qual (defScope st) f cdv A outer s H E) (fun cls d _ H => E cls d H) := fun A outer s H E => L2N.takes_of rfl rfl rfl rfl
  refine fn_of lk hcd S len fun A outer s H vs Q E hr hsp => ⟨t E, hbody A outer s H E ?_ (tk A outer s H E), hrun vs H Q E hsp⟩
  exact ⟨rfl, S.nd, hr, L2N.passes_call (tk A outer s H E) fun _ _ _ _ z => z, passes_of (K := fun e s'' => L2N.CX P w outer H s E e s'') (E₁ := fun e' s'' => L2N.CX P w outer H s E e' s'') rfl⟩
end
section
variable {X : Cx} {g : Gd} {E : XK}
theorem bd_lam {A : Around} {outer : List PySem.Env} {s : Shared} {H : Hp} {E : XK} {scope : Scope} {f c' : Addr} {k : Nat} (nd : X.N.Nodup) (hr : Room k (A.deeper (lamEnv X scope s.heap.objs.size f c'))) : Bd (lamN X A outer s H E scope f c') E k :=
  ⟨rfl, nd, hr, L2N.passes_call lam_takes fun _ _ _ _ z => z, passes_of (X := lamN X A outer s H E scope f c') (K := fun e s'' => L2N.CX X.prog X.w outer H s E e s'') (E₁ := fun e' s'' => L2N.CX X.prog X.w outer H s E e' s'') rfl⟩
/-- a def's own table among the known ones -/
structure OwnT (X : Cx) (T : List (Addr × Str)) : Prop where
  ex : ∃ c P, TabB X.base X.mg c P ∧ X.env.code = .ref c ∧ (P, X.env.qual ++ "<lambda>") ∈ T ∧ ∀ p ∈ T, p.1 = P → p.2 = X.env.qual ++ "<lambda>"
end
/-! ### the classes -/
theorem excB_ok {K : PySem.W.Frag} {D : Addr} (h : excB K D = true) : ExcC K D := by
  unfold excB at h
  simp only [Bool.and_eq_true, decide_eq_true_eq] at h
  obtain ⟨h1, h2, h3, h4, h5, h6, h7, h8⟩ := h
  exact ⟨h1, h2, h3, h4, h5, h6, h7, h8⟩
structure ClsF (K : PySem.W.Frag) (base : Str) (names : List Str) (c : Str) : Prop where
  exc : ExcC K (He.ga K c)
  kit : ∀ y ∈ names, PySem.W.kitOne K (.ref (He.ga K c)) (.ref (He.ga K y)) = some (decide (c = y))
  val : PySem.W.kitOne K (.ref (He.ga K c)) (.type "ValueError") = some true
  exm : PySem.W.exmOne K (.ref (He.ga K c)) (.ref (He.ga K base)) = some true
theorem clsB_ok {K : PySem.W.Frag} {base : Str} {names : List Str} {c : Str} (h : clsB K base names c = true) : ClsF K base names c := by
  unfold clsB at h
  simp only [Bool.and_eq_true, decide_eq_true_eq] at h
  obtain ⟨h1, h2, h3, h4⟩ := h
  exact ⟨excB_ok h1, fun y hy => by simpa using List.all_eq_true.mp h2 y hy, h3, h4⟩
section
variable {X : Cx} {p : Addr × Obj} {c y : Str} {base : Str} {names : List Str}
end
end FW
/-! Plain laws of the functions: how they are evaluated. -/
namespace FW
open PySem

section
variable {r : Env} {r2 : Env2} {fa fb fc : FE} {p q : FT} {np n i : Nat} {ds : List D} {d : D} {b : Bool}
/-! ### draws -/
theorem roll_ok {k : FA} {Q : D → Prop} {Z : Str → Prop} {m : Int} (e : k r = .ok [.dice, .int m]) (hm : 0 < m ∧ m < ((2 ^ 64 : Nat) : Int)) (h : ∀ x : Int, 0 ≤ x → x < m → Q (.int x)) : (wCall fnRoll mono_roll (waOf k)).run r Q Z := by
  show resW (k r) _ _
  rw [e]
  exact ⟨m, rfl, hm, h⟩
/-! ### statements by wishes -/
section
variable {a c : WS} {k : Kt} {w w2 : WE} {f : FE} {Q : D → Prop} {Z : Str → Prop}
theorem run_seq (h : a.run r2 { k with nx := fun r' => c.run r' k }) : (wsSeq a c).run r2 k := h
end
end
end FW
/-! What is never come to; tuple * 1, text * n; pairs of stores by functions. -/
namespace FW
open PySem PySem.Spec PyProof.Rows L2
section
variable {X : Cx} {g : Gd} {E : XK} {e : Expr} {st : Stmt} {sts : List Stmt}
theorem s_never : PS X st (tWS g X.mg E wsNever) := ⟨fun _ _ _ _ _ _ ⟨_, _, _, _, h⟩ => h.elim⟩
theorem ss_never : PSs X sts (tWS g X.mg E wsNever) := ⟨fun _ _ _ _ _ _ ⟨_, _, _, _, h⟩ => h.elim⟩
end
section
variable {X : Cx} {g : Gd} {E : XK}
/-! ### tuple * 1 -/
theorem tuple_mul1 (l : Addr) (items : Array Value) (n : Nat) (dd : Option Addr) (sl : Array (Option Value)) (u : Tok) :
    Meets (Builtin.«tuple.__mul__» ⟨[.ref l, .int 1 u], []⟩) (fun _ R s => s.heap.get? l = some { cls := .type "tuple", dict := dd, data := .seq items n, slots := sl } ∧
      R (.ok (.ret (Value.ref l))) s) :=
  .of_wp fun prog w A R s h => by
    obtain ⟨hp, g, d, tk, os⟩ := s
    obtain ⟨hl, h⟩ := h
    have f1 := AutoSeq1.idx_int
    have c1 : (items.isEmpty || (1 : Int) == 1) = true := by simp
    wp_walk using wpAny_loadPart' hl
    repeat (first
      | (refine wpAny_ite_true (decide_eq_true c1) ?_; wp_walk using wpAny_loadPart' hl)
      | (refine wpAny_ite_false (decide_eq_false (by decide)) ?_; wp_walk using wpAny_loadPart' hl))
    exact ⟨_, rfl, h⟩
def rRepT1 (K : PySem.W.Frag) : R2 := fun x y H Q => ∃ l xs, x = .ref l ∧ y = .int 1 ∧ SqT K H l xs ∧ Q (.ref l) H
theorem op_repT1 : OpR X (binaryOp .Mult) (rRepT1 X.K) := by
  intro pins s σ H x y v u Q I rx ry h
  obtain ⟨l, xs, rfl, rfl, hT, q⟩ := h
  cases rx
  obtain ⟨t, rfl⟩ := ry
  obtain ⟨its, r, ⟨⟨cls, dd, data, sl⟩, ho, hc, n, hd⟩, hs⟩ := I.tuple hT
  simp only at hc hd
  subst hc hd
  refine wpAny_binaryOp_repeat_ref (T := "tuple") (U := "int") (by decide) ⟨_, ho, rfl⟩ (fun s' => typeIs_int s' 1 t) noFill_tuple_mul F.fills_int_mul F.slot_int_rmul repeat_tuple F.slot_int_index.lookup
    (call_meets F.slot_int_rmul (typeIs_int s 1 t) F.entry_int_rmul (F.args_int_rmul_2 _ _) (int_rmul_tuple 1 t l its.toArray n dd sl)
      ⟨ho, rfl, ⟨_, ho, rfl⟩, call_meets F.slot_tuple_mul ⟨_, ho, rfl⟩ F.entry_tuple_mul (F.args_tuple_mul_2 _ _) (tuple_mul1 l its.toArray n dd sl t) ⟨ho, ?_⟩⟩)
  exact ⟨.ref l, H, I, rfl, q⟩
/-! ### text * n -/
theorem rep_size (b : Array Nat) : ∀ (n : Nat) (a : Array Nat), (List.foldl (fun x1 x2 => x1 ++ x2) a (List.replicate n b)).size = a.size + n * b.size
  | 0, a => by simp
  | n + 1, a => by
    rw [List.replicate_succ, List.foldl_cons, rep_size b n, Array.size_append, Nat.add_mul]
    omega
def rRepS : R2 := fun x y H Q => ∃ z k, x = .str z ∧ y = .int k ∧ 2 ≤ k ∧ k ≤ 1000 ∧ 0 < z.length ∧ z.length ≤ 1000 ∧ Q (.str (repS z k.toNat)) H
theorem op_repS : OpR X (binaryOp .Mult) rRepS := by
  intro pins s σ H x y v u Q I rx ry h
  obtain ⟨z, k, rfl, rfl, h1, h2, h3, h4, q⟩ := h
  obtain ⟨t, rfl⟩ := rx
  obtain ⟨t', rfl⟩ := ry
  have hd : (z.length : Int) * k ≤ 1000000 := by
    have a1 : (z.length : Int) * k ≤ 1000 * k := Int.mul_le_mul_of_nonneg_right (by omega) (by omega)
    omega
  have e1 : (k == 1 || z.length == 0) = false := by
    rw [beq_eq_false_iff_ne.mpr (by omega : k ≠ 1), beq_eq_false_iff_ne.mpr (by omega : z.length ≠ 0)]; rfl
  refine PySem.P.mul_str (by rw [decide_eq_false (by omega), decide_eq_false (by omega)] <;> rfl) (fun _ _ => ?_) (fun _ _ => ?_) ?_
  · intro hc
    have h5 : (2 ^ 63 - 1 : Int) < (z.length : Int) * k := Int.lt_mul_of_ediv_lt (by omega) hc
    omega
  · unfold Builtin.Str.tooLong
    exact decide_eq_false (by rw [sizeLine_eq]; have : z.length * k.toNat ≤ 1000 * 1000 := Nat.mul_le_mul h4 (by omega); omega)
  · rw [if_neg (by omega), e1]
    refine ⟨?_, ⟨.str (repS z k.toNat), H, I.tok _, ⟨_, rfl⟩, q⟩⟩
    have := rep_size z.cps k.toNat #[]
    have h6 : k.toNat * z.cps.size ≤ 1000 * 1000 := Nat.mul_le_mul (by omega) h4
    rw [sizeLine_eq]
    show (List.foldl (· ++ ·) #[] (List.replicate k.toNat z.cps)).size ≤ _
    rw [this]
    simp only [Array.size_empty, Nat.zero_add]
    omega
/-! ### all of * -/
theorem od_mulX : OpD g X.mg E (fun x y H Q => rRepT1 X.K x y H Q ∨ rRepS x y H Q ∨ (rI CMul (fun i j => .int (i * j)) x y H Q ∨ rRep x y H Q ∨ rRepT X.K x y H Q)) dMulX := by
  intro I H x y v u Q rl hx hy p
  unfold dMulX at p
  split at p
  · cases hy
    cases hx with
    | tup ha ua ra => exact .inl ⟨_, _, rfl, rfl, ua.sqt (rl.sub _ _ ha), p.here rl (.tup ha ua ra)⟩
  · split at p
    · rename_i c
      cases hx; cases hy
      exact .inr (.inl ⟨_, _, rfl, rfl, c.1, c.2.1, c.2.2.1, c.2.2.2, p.here rl (.str _)⟩)
    · exact p.elim
  · exact .inr (.inr (od_mul I H _ _ v u Q rl hx hy p))
theorem or_mulX : OpR X (binaryOp .Mult) (fun x y H Q => rRepT1 X.K x y H Q ∨ rRepS x y H Q ∨ (rI CMul (fun i j => .int (i * j)) x y H Q ∨ rRep x y H Q ∨ rRepT X.K x y H Q)) := op_repT1.or (op_repS.or (op_mul.or (op_rep.or op_repT)))
theorem e_mulX {a b : Expr} {fa fb : FE} {pos : Pos} (ha : PE X a (tF g X.mg E fa)) (hb : PE X b (tF g X.mg E fb)) : PE X (.BinOp a .Mult b pos) (tF g X.mg E (fOp dMulX fa fb)) := e_op or_mulX od_mulX ha hb
end
/-! ### pairs of stores by functions -/
theorem imp_parOV {i j : Nat} {f1 f2 : FE} : ImpS (fsParOV i j f1 f2) (wsParOV i j (wOf f1) (wOf f2)) := fun r k q => by
  unfold fsParOV at q
  split at q
  · rename_i c
    refine ⟨c, resW.mono (fun d z => ?_) (fun _ z => z) (resW_bind q)⟩
    cases d with
    | lst ds => exact ⟨⟨ds, rfl⟩, resW.mono (fun e z => z) (fun _ z => z) (resW_bind z)⟩
    | _ => exact z.elim
  · exact q.elim
theorem imp_parVO {i j : Nat} {f1 f2 : FE} : ImpS (fsParVO i j f1 f2) (wsParVO i j (wOf f1) (wOf f2)) := fun r k q => by
  unfold fsParVO at q
  split at q
  · rename_i c
    refine ⟨c, resW.mono (fun d z => resW.mono (fun e z => ?_) (fun _ z => z) (resW_bind z)) (fun _ z => z) (resW_bind q)⟩
    cases e with
    | lst ds => exact ⟨⟨ds, rfl⟩, z⟩
    | _ => exact z.elim
  · exact q.elim
end FW
/-! sum of tuples. -/
namespace FW
open PySem PySem.Spec PyProof.Rows L2
section
variable {X : Cx} {g : Gd} {E : XK} {e : Expr} {es : List Expr} {kk : FA} {ka : WA} {p pos : Pos}
theorem sumT_raw {prog : Program} {w : World} {A : Around} {E : Value → Shared → Prop} {s : Shared} {l : Addr} {its : List Value} {ns : List Int} {Q : Value → Shared → Prop} (hh : A.handled = none) (hl : s.heap.IsTuple l its.toArray) (hi : IntsAre its ns)
    (h : ∀ h' tk t', (∀ b o, s.heap.get? b = some o → h'.get? b = some o) → Q (.int ns.sum t') { s with heap := h', toks := tk }) : wpAny (model prog w) A (call (.builtin "sum") [.ref l]) Q E s := by
  obtain ⟨xs, e⟩ := hi.allInts.items
  have hn : numsOf (intItems xs).toList = ns := by rw [← e]; exact hi.numsOf
  rw [nums_intItems] at hn
  rw [e] at hl
  refine PySem.W.ktm_sumG hh hl fun h' tk t' hk => ?_
  have := h h' tk t' hk
  rw [preSum_eq, List.take_of_length_le (by simp), hn]; exact this
def rSumT (K : PySem.W.Frag) : List V → Hp → VK → Prop := fun vs H Q => ∃ (a : Addr) (ns : List Int), vs = [V.ref a] ∧ SqT K H a (ns.map V.int) ∧ Q (.int ns.sum) H
theorem cr_sumT (hc : X.calm = true) : CallR X (.builtin "sum") (rSumT X.K) := by
  intro pins s σ H vs us Q I r h
  obtain ⟨a, ns, rfl, hs, q⟩ := h
  obtain ⟨its, rv, hl, _⟩ := I.tuple hs
  rw [Vals.ref1 r]
  exact sumT_raw (I.ok.hd hc) hl rv.ints fun h' tk t' hk => ⟨.int _, H, I.kept hk, ⟨_, rfl⟩, q⟩
theorem cr_sumX (hc : X.calm = true) : CallR X (.builtin "sum") (fun vs H Q => rSum X.K vs H Q ∨ rSumT X.K vs H Q) := by
  intro pins s σ H vs us Q I r h
  rcases h with h | h
  · exact cr_sum hc pins s σ H vs us Q I r h
  · exact cr_sumT hc pins s σ H vs us Q I r h
theorem cd_sumX : CaD g X.mg E (fun vs H Q => rSum X.K vs H Q ∨ rSumT X.K vs H Q) dSumX := by
  intro I H ds vs Q rl hs p
  unfold dSumX at p
  split at p
  · split at p
    · rename_i bs e
      cases hs with
      | cons h t =>
        cases t
        cases h with
        | lst h r => exact .inl ⟨_, bs, rfl, SqL.of (by rw [← r.ints e]; exact rl.sub _ _ h), p.here rl (.int _)⟩
    · exact p.elim
  · split at p
    · rename_i bs e
      cases hs with
      | cons h t =>
        cases t
        cases h with
        | tup h u r => exact .inr ⟨_, bs, rfl, by rw [← r.ints e]; exact u.sqt (rl.sub _ _ h), p.here rl (.int _)⟩
    · exact p.elim
  · exact p.elim
theorem e_sumX (hc : X.calm = true) (hg : Gl X "sum") (hm : X.mg "sum" = none) (ha : PA X (e :: es) (tFA g X.mg E kk)) (he : starEach (e :: es) X.env = (false, eval e X.env) :: starEach es X.env := by rfl) (hpl : (backTo pos (starEach es X.env)).any (·.1) = false := by rfl) : PE X (.Call (.Name "sum" p) (e :: es) [] pos) (tF g X.mg E (fCB dSumX kk)) := e_callB (cr_sumX hc) cd_sumX hg hm (by decide +kernel) ha (by decide) (by decide) he hpl
end
end FW
/-! Readings of what is one's own, whose answer is kept; stores into it; moves. -/
namespace FW
open PySem PySem.Spec PyProof.Rows L2
section
variable {g : Gd} {J K : Hp}
mutual
theorem DR.less (hs : ∀ a o, J a = some o → Chg o = false → K a = some o) : ∀ {v : V} {d : D}, DR g J v d → d.hsh = true → DR g K v d
  | _, _, .non, _ => .non
  | _, _, .bl b, _ => .bl b
  | _, _, .int i, _ => .int i
  | _, _, .str x, _ => .str x
  | _, _, .tup h u t, e => .tup (hs _ _ h (by rcases u with ⟨u, _⟩ | ⟨o, _, u⟩ <;> (rw [u]; rfl))) u (DRs.less hs t (by rw [D.hsh] at e; exact e))
  | _, _, .par h t, e => .par (hs _ _ h rfl) (DRs.less hs t (by rw [D.hsh] at e; exact e))
  | _, _, .lst _ _, e => by rw [D.hsh] at e; cases e
  | _, _, .dK _ _, e => by rw [D.hsh] at e; cases e
  | _, _, .dT _ _, e => by rw [D.hsh] at e; cases e
  | _, _, .dF _ _, e => by rw [D.hsh] at e; cases e
  | _, _, .exn _, e => by rw [D.hsh] at e; cases e
  | _, _, .hs _ _ _ _, e => by rw [D.hsh] at e; cases e
  | _, _, .dice, e => by rw [D.hsh] at e; cases e
theorem DRs.less (hs : ∀ a o, J a = some o → Chg o = false → K a = some o) : ∀ {v : List V} {d : List D}, DRs g J v d → D.hshs d = true → DRs g K v d
  | _, _, .nil, _ => .nil
  | _, _, .cons h t, e => by
    rw [D.hshs] at e
    obtain ⟨e1, e2⟩ := Bool.and_eq_true_iff.mp e
    exact .cons (DR.less hs h e1) (DRs.less hs t e2)
end
end
section
variable {g : Gd} {I0 H0 I H I' H' : Hp} {r : Env2} {σ : L2.St}
open Classical in
noncomputable def lessI (J : Hp) (r : Env2) (σ : L2.St) : Hp := fun a => if ∃ (i : Nat) (d : D), r[i]? = some (Sl.own d) ∧ σ[i]? = some (some (V.ref a)) then none else J a
/-- behind an expression that saw what is one's own: the region without it -/
theorem SRI.less {J' : Hp} (x : SRI g I0 H0 I r σ H) (s : Stp g (plusI I H r σ) H J' H') : ∃ I2, SRI g I0 H0 I2 r σ H' ∧ Sub I I2 ∧ ∀ a o, J' a = some o → Chg o = false → I2 a = some o := by
  obtain ⟨sb, st, er⟩ := x.plus
  have ow : ∀ a, (∃ (i : Nat) (d : D), r[i]? = some (Sl.own d) ∧ σ[i]? = some (some (V.ref a))) → NT H0 a ∧ a ≠ g.dz ∧ I a = none ∧ ∃ o, J' a = some o ∧ Chg o = true := fun a ⟨i, d, h1, h2⟩ => by
    obtain ⟨p, o, q1, q2, q3, q4, q5, q6⟩ := x.own i d h1
    rw [h2] at q1; cases q1
    refine ⟨q2, q3, q4, o, s.mono _ _ ?_, q6.chg⟩
    unfold plusI
    rw [if_pos ⟨i, d, h1, h2⟩]
    exact q5
  have sub : Sub I (lessI J' r σ) := fun a o h => by
    unfold lessI
    rw [if_neg fun z => by rw [(ow a z).2.2.1] at h; cases h]
    exact s.mono _ _ (sb _ _ h)
  have inn : ∀ a o, lessI J' r σ a = some o → J' a = some o := fun a o h => by
    unfold lessI at h
    split at h
    · cases h
    · exact h
  refine ⟨lessI J' r σ, ⟨⟨x.stp.mono.trans sub, fun a o h => ?_, fun a o h1 h2 h3 => s.keep a o h1 h2 (x.stp.keep a o h1 h2 h3), ⟨fun a o h => s.rl.sub _ _ (inn a o h), ?_, s.rl.dice, s.rl.tab, fun a ps h => s.rl.nt a ps (inn _ _ h)⟩⟩, x.len, fun i d h => ?_, fun i d h => ?_, x.inj⟩, sub, fun a o h c => ?_⟩
  · unfold lessI at h
    split at h
    · cases h
    · rename_i z
      rcases s.new a o h with q | q
      · unfold plusI at q
        rw [if_neg z] at q
        exact x.stp.new a o q
      · exact .inr (x.stp.backW q)
  · unfold lessI
    split
    · rfl
    · exact s.rl.dz
  · obtain ⟨v, h1, h2⟩ := x.val i d h
    exact ⟨v, h1, h2.mono sub⟩
  · obtain ⟨p, o, h1, h2, h3, h4, h5, h6⟩ := x.own i d h
    refine ⟨p, o, h1, h2, h3, ?_, s.keep p o h3 (chg_tbl h6.chg) h5, h6.mono sub⟩
    unfold lessI
    rw [if_pos ⟨i, d, h, h1⟩]
  · unfold lessI
    rw [if_neg fun z => ?_]
    · exact h
    · obtain ⟨_, _, _, o', e1, e2⟩ := ow a z
      rw [h] at e1; cases e1
      rw [c] at e2; cases e2
end
/-! ### statements -/
def wsSetH (i : Nat) (w : WE) : WS := ⟨fun r k => i < r.length ∧ w.run (allv r) (fun d => d.hsh = true ∧ k.nx (r.set i (Sl.val d))) k.ex, fun h q => ⟨q.1, w.mono (fun _ z => ⟨z.1, h.nx _ z.2⟩) h.ex q.2⟩⟩
def wsPut (i : Nat) (wk wv : WE) : WS := ⟨fun r k => ∃ x, r[i]? = some (Sl.own x) ∧ wv.run (allv r) (fun d => d.hsh = true ∧ wk.run (allv r) (fun y => y.hsh = true ∧ ∃ x', putAny x y d = some x' ∧ k.nx (r.set i (Sl.own x'))) k.ex) k.ex,
  fun h ⟨x, e, q⟩ => ⟨x, e, wv.mono (fun _ ⟨z1, z2⟩ => ⟨z1, wk.mono (fun _ ⟨y1, x', y3, y4⟩ => ⟨y1, x', y3, h.nx _ y4⟩) h.ex z2⟩) h.ex q⟩⟩
section
variable {X : Cx} {g : Gd} {E : XK} {st : Stmt} {e e2 : Expr} {w wk wv : WE} {pos : Pos} {k : Nat}
theorem SR.readH {I0 H0 : Hp} {r : Env2} {σ : L2.St} {H : Hp} {Q : VK} {Qd : D → Prop} {I : Hp} (x : SRI g I0 H0 I r σ H) (h : w.run (allv r) (fun d => d.hsh = true ∧ Qd d) (excW g X.mg E I0 H0)) (k : ∀ d v I' H', Qd d → SRI g I0 H0 I' r σ H' → Sub I I' → DR g I' v d → Q v H') : tW g X.mg E w σ H Q := by
  obtain ⟨sb, st, er⟩ := x.plus
  refine ⟨_, allv r, st.rl, er, w.mono (fun d z v I' H' s y => ?_) (fun c z => excW.step st z) h⟩
  obtain ⟨I2, x2, s2, le⟩ := x.less s
  exact k d v I2 H' z.2 x2 s2 (y.less le z.1)
theorem s_setH (i : Nat) {x : Str} {pos' : Pos} (hN : X.N.Nodup) (he : PE X e (tW g X.mg E w)) (hi : X.N[i]? = some x := by rfl) (hx : Loc X.env.scope x := by first | exact Or.inl rfl | exact Or.inr rfl) (hs : swapsWith e (some (.Name x pos')) pos.line X.env = pure false := by rfl) (hf : X.fn x = true ∨ X.env.scope.names.lookup x = some .local := by first | exact .inl rfl | exact .inr rfl | assumption) :
    PS X (.Assign [.Name x pos'] e pos) (tWS g X.mg E (wsSetH i w)) := (ps_set (i := i) hN hi hx he hs hf).imp fun D σ H h => by
  obtain ⟨I0, H0, r, ⟨I, x⟩, hl, h⟩ := h
  exact SR.readH x h fun d v I' H' z x' _ y => z _ _ ⟨I', x'.setV hl y⟩
theorem pset_or {t u : TSet} (h1 : PSet X t) (h2 : PSet X u) : PSet X (fun o i v H Q => t o i v H Q ∨ u o i v H Q) := by
  intro pins s σ H o i v ov iv uu Q I ro ri rv h
  rcases h with h | h
  · exact h1 pins s σ H o i v ov iv uu Q I ro ri rv h
  · exact h2 pins s σ H o i v ov iv uu Q I ro ri rv h
/-- x[k] = v, x one's own -/
theorem s_put (i : Nat) {x : Str} {px ps : Pos} {ek ev : Expr} (hu : X.A.units + 1 < cLine) (hk : PE X ek (tW g X.mg E wk)) (hv : PE X ev (tW g X.mg E wv)) (hN : X.N[i]? = some x := by rfl) (hvis : Vis X.env.scope x := by first | exact Or.inl rfl | exact Or.inr (Or.inl rfl) | exact Or.inr (Or.inr rfl)) (hd : (x == ("__debug__" : Str)) = false := by decide) (hcd : (x == ("__classdict__" : Str)) = false := by decide)
    (ha : ∀ v, assign (.Subscript (.Name x px) ek ps) X.env v = (do
      let ov ← holding [v] (eval (.Name x px) X.env)
      let iv ← holding [v, ov] (eval ek X.env)
      standAt ps
      holding [v, ov, iv] (setItem ov iv v)
      release [v, ov, iv] []) := by intro _; rfl)
    (hs : swapsWithSole [.Subscript (.Name x px) ek ps] ev pos.line X.env = pure false := by rfl) (hw : swappedStores [.Subscript (.Name x px) ek ps] ev X.env = pure none := by rfl) (h1 : (assignEach [.Subscript (.Name x px) ek ps] X.env).map (·.2) = [assign (.Subscript (.Name x px) ek ps) X.env] := by rfl) :
    PS X (.Assign [.Subscript (.Name x px) ek ps] ev pos) (tWS g X.mg E (wsPut i wk wv)) :=
  (ps_asg hv (pg_sub (pv i hN hvis hd hcd) hk (pset_or set_list (set_dict hu)) ha) hs hw h1).imp fun D σ H h => by
    obtain ⟨I0, H0, r, ⟨I, x⟩, x0, hr, h⟩ := h
    refine SR.readH x h fun d v I1 H1 z x1 s1 y1 => ?_
    obtain ⟨p, o, q1, qq⟩ := x1.own i _ hr
    clear qq
    refine ⟨.ref p, q1, SR.readH x1 z fun y u I2 H2 z2 x2 s2 y2 => ?_⟩
    obtain ⟨x', e', z2⟩ := z2
    obtain ⟨p', o', r1, r2, r3, r4, r5, r6⟩ := x2.own i _ hr
    have ep : p' = p := by rw [q1] at r1; cases r1; rfl
    subst ep
    unfold putAny at e'
    split at e'
    · rename_i ds n
      cases o' with
      | lst vs =>
        have rv : DRs g I2 vs ds := r6
        obtain ⟨j, hj, rfl⟩ := Option.map_eq_some_iff.mp e'
        cases y2
        exact .inl ⟨p', vs, n, j, rfl, rfl, r5, by rw [rv.len]; exact hj, z2 _ _ ⟨I2, x2.put hr q1 (show DRs g I2 (vs.set j v) (ds.set j d) from rv.set j (y1.mono s2))⟩⟩
      | _ => exact (show False from r6).elim
    · rename_i kvs
      cases o' with
      | dK es =>
        have rv : DRk g I2 es kvs := r6
        cases ek : keyOf y with
        | none => rw [ek] at e'; cases e'
        | some k' =>
          rw [ek] at e'
          dsimp only at e'
          split at e'
          · rename_i hl
            cases e'
            rw [keyOf_v ek y2]
            exact .inr ⟨p', _, rfl, DPut.k r5 (by rw [rv.len]; exact Nat.lt_of_lt_of_le hl (by decide)), z2 _ _ ⟨I2, x2.put hr q1 (show DRk g I2 (putK es k' v) (putD kvs k' d) from rv.put (y1.mono s2))⟩⟩
          · cases e'
      | _ => exact (show False from r6).elim
    · cases e'
end
/-! ### by functions -/
theorem imp_setH {i : Nat} {f : FE} : ImpS (fsSetH i f) (wsSetH i (wOf f)) := fun r k q => by
  unfold fsSetH at q
  split at q
  · rename_i c
    refine ⟨c, resW.mono (fun d z => ?_) (fun _ z => z) (resW_bind q)⟩
    split at z
    · rename_i h; exact ⟨h, z⟩
    · exact z.elim
  · exact q.elim
theorem imp_put {i : Nat} {fk fv : FE} : ImpS (fsPut i fk fv) (wsPut i (wOf fk) (wOf fv)) := fun r k q => by
  unfold fsPut at q
  split at q
  · rename_i x e
    refine ⟨x, e, resW.mono (fun d z => ?_) (fun _ z => z) (resW_bind q)⟩
    split at z
    · rename_i h
      refine ⟨h, resW.mono (fun y z => ?_) (fun _ z => z) (resW_bind z)⟩
      split at z
      · rename_i h2
        refine ⟨h2, ?_⟩
        split at z
        · rename_i x' e2; exact ⟨x', e2, z⟩
        · exact z.elim
      · exact z.elim
    · exact z.elim
  · exact q.elim
end FW
/-! Dicts read, asked, made by a comprehension; texts split, joined, formatted. -/
namespace FW
open PySem PySem.Spec PyProof.Rows L2
theorem _root_.L2.PE.either {X : Cx} {e : Expr} {t u : TE} (h : PE X e t) (k : PE X e u) : PE X e (fun σ H Q => t σ H Q ∨ u σ H Q) := ⟨fun pins s σ H Q I q => by
  rcases q with q | q
  · exact h.run pins s σ H Q I q
  · exact k.run pins s σ H Q I q⟩
section
variable {X : Cx} {g : Gd} {E : XK} {a b e o : Expr} {es : List Expr} {fa fb : FE} {kk : FA} {p pos apos : Pos} {k : Nat}
/-! ### d[k] -/
theorem e_ixX (hr : Room k X.A) (ha : PE X a (tF g X.mg E fa)) (hb : PE X b (tF g X.mg E fb)) (hs : PlainIx b := by exact fun _ _ => rfl) : PE X (.Subscript a b pos) (tF g X.mg E (fOp dIxX fa fb)) :=
  ((pe_ix ix_seq ha hb hs).either (pe_dget (Nat.lt_of_le_of_lt (Nat.add_le_add_left (by decide) _) hr.units) ha hb hs)).imp fun σ H Q h => by
    obtain ⟨I, r, rl, er, h⟩ := h
    have left : fOp dIxX fa fb r = fOp dIx fa fb r → (tOp (rIx X.K) (tF g X.mg E fa) (tF g X.mg E fb) σ H Q ∨ tDGet (tF g X.mg E fa) (tF g X.mg E fb) σ H Q) := fun e => .inl (tOp_of od_ix ⟨I, r, rl, er, by rw [← e]; exact h⟩)
    cases ex : fa r with
    | bad => unfold fOp at h; rw [ex] at h; exact h.elim
    | exc c => exact left (by unfold fOp; rw [ex])
    | ok x =>
      cases x with
      | dct kvs =>
        refine .inr ⟨I, r, rl, er, Pst.first h fun d v I1 H1 ed s1 x1 h1 => ?_⟩
        rw [ex] at ed
        cases ed
        refine ⟨I1, r, s1.rl, er.mono s1.mono, Pst.first h1 fun y u I2 H2 _ s2 x2 h2 => ?_⟩
        cases ek : keyOf y with
        | none =>
          have : dIxX (.dct kvs) y = .bad := by show (match keyOf y with | some k => _ | none => _) = _; rw [ek]
          rw [this] at h2; exact h2.elim
        | some k' =>
          have e3 : dIxX (.dct kvs) y = (match valD kvs k' with | some d => .ok d | none => .bad) := by show (match keyOf y with | some k => _ | none => _) = _; rw [ek]
          rw [e3] at h2
          rw [keyOf_v ek x2]
          have x1' := x1.mono s2.mono
          cases x1' with
          | dK hx rx =>
            rename_i es
            rcases rx.val k' with ⟨e1, e2⟩ | ⟨v', d', e1, e2, e3⟩
            · rw [e2] at h2; exact h2.elim
            · rw [e2] at h2
              have gd : DGet H2 _ (kV k') (valV es k') := .inl ⟨_, _, s2.rl.sub.rd hx, rfl, rfl⟩
              rw [e1] at gd
              exact ⟨_, v', rfl, gd, h2.here s2.rl e3⟩
      | _ => exact left (by unfold fOp; rw [ex]; rfl)
/-! ### k in d -/
theorem or_inDict (hu : X.A.units + 1 < cLine) : OpR X (compareOp .In) (fun x y H Q => ∃ a o, y = .ref a ∧ DGet H a x o ∧ Q (.bl o.isSome) H) := by
  intro pins s σ H x y v u Q I rx ry h
  obtain ⟨a, o, rfl, gd, q⟩ := h
  cases ry
  exact d_in hu I gd rx fun s' I' => ⟨.bl o.isSome, H, I', rfl, q⟩
theorem or_notinDict (hu : X.A.units + 1 < cLine) : OpR X (compareOp .NotIn) (fun x y H Q => ∃ a o, y = .ref a ∧ DGet H a x o ∧ Q (.bl (!o.isSome)) H) := by
  intro pins s σ H x y v u Q I rx ry h
  obtain ⟨a, o, rfl, gd, q⟩ := h
  cases ry
  exact d_notIn hu I gd rx fun s' I' => ⟨.bl (!o.isSome), H, I', rfl, q⟩
theorem dget_of {I H : Hp} {x : D} {v u : V} {kvs : List (D × D)} {k : Key} (rl : Rl g I H) (hx : DR g I v x) (hy : DR g I u (.dct kvs)) (ek : keyOf x = some k) : ∃ a o, u = .ref a ∧ DGet H a v o ∧ o.isSome = (valD kvs k).isSome := by
  cases hy with
  | dK h rx =>
    rename_i a es
    rw [keyOf_v ek hx]
    refine ⟨a, _, rfl, .inl ⟨_, _, rl.sub.rd h, rfl, rfl⟩, ?_⟩
    rcases rx.val k with ⟨e1, e2⟩ | ⟨v', d', e1, e2, e3⟩
    · rw [e1, e2]; rfl
    · rw [e1, e2]; rfl
theorem od_inX {ro : R2} (h0 : OpD g X.mg E ro dIn) : OpD g X.mg E (fun x y H Q => ro x y H Q ∨ ∃ a o, y = .ref a ∧ DGet H a x o ∧ Q (.bl o.isSome) H) dInX := by
  intro I H x y v u Q rl hx hy p
  unfold dInX at p
  split at p
  · cases ek : keyOf x with
    | none => rw [ek] at p; exact p.elim
    | some k =>
      rw [ek] at p
      obtain ⟨a, o, e1, e2, e3⟩ := dget_of rl hx hy ek
      exact .inr ⟨a, o, e1, e2, by rw [e3]; exact p.here rl (.bl _)⟩
  · exact .inl (h0 I H _ _ v u Q rl hx hy p)
theorem od_notinX {ro : R2} (h0 : OpD g X.mg E ro dNotIn) : OpD g X.mg E (fun x y H Q => ro x y H Q ∨ ∃ a o, y = .ref a ∧ DGet H a x o ∧ Q (.bl (!o.isSome)) H) dNotInX := by
  intro I H x y v u Q rl hx hy p
  unfold dNotInX at p
  split at p
  · cases ek : keyOf x with
    | none => rw [ek] at p; exact p.elim
    | some k =>
      rw [ek] at p
      obtain ⟨a, o, e1, e2, e3⟩ := dget_of rl hx hy ek
      exact .inr ⟨a, o, e1, e2, by rw [e3]; exact p.here rl (.bl _)⟩
  · exact .inl (h0 I H _ _ v u Q rl hx hy p)
theorem e_inX (hr : Room k X.A) (ha : PE X a (tF g X.mg E fa)) (hb : PE X b (tF g X.mg E fb)) (hm : behindInMarks .In b = false := by rfl) : PE X (.Compare a [.In] [b] pos) (tF g X.mg E (fOp dInX fa fb)) := e_cmp ((or_in hr).or (or_inDict (Nat.lt_of_le_of_lt (Nat.add_le_add_left (by decide) _) hr.units))) (od_inX (od_inA fun x y => by unfold dIn; cases inD x y <;> rfl)) ha hb hm
theorem t_inX (hr : Room k X.A) (ha : PE X a (tF g X.mg E fa)) (hb : PE X b (tF g X.mg E fb)) (hm : behindInMarks .In b = false := by rfl) : PT X (.Compare a [.In] [b] pos) (tFT g X.mg E (fTest (fOp dInX fa fb))) := t_cmp ((or_in hr).or (or_inDict (Nat.lt_of_le_of_lt (Nat.add_le_add_left (by decide) _) hr.units))) (od_inX (od_inA fun x y => by unfold dIn; cases inD x y <;> rfl)) ha hb hm
theorem t_notinX (hr : Room k X.A) (ha : PE X a (tF g X.mg E fa)) (hb : PE X b (tF g X.mg E fb)) (hm : behindInMarks .NotIn b = false := by rfl) : PT X (.Compare a [.NotIn] [b] pos) (tFT g X.mg E (fTest (fOp dNotInX fa fb))) := t_cmp ((or_notin hr).or (or_notinDict (Nat.lt_of_le_of_lt (Nat.add_le_add_left (by decide) _) hr.units))) (od_notinX (od_inA fun x y => by unfold dNotIn; cases inD x y <;> rfl)) ha hb hm
/-! ### texts -/
theorem tM1_of {rr : V → List V → Hp → VK → Prop} {dop : Str → D → Res D} (hd : ∀ (I H : Hp) (z : Str) (y : D) (u : V) (Q : VK), Rl g I H → DR g I u y → Pst g X.mg E (DR g) I H (dop z y) Q → rr (.str z) [u] H Q) {σ : L2.St} {H : Hp} {Q : VK} (h : tF g X.mg E (fM1 dop fa fb) σ H Q) : tM1 rr (tF g X.mg E fa) (tF g X.mg E fb) σ H Q := by
  obtain ⟨I, r, rl, er, h⟩ := h
  unfold fM1 at h
  refine ⟨I, r, rl, er, Pst.first h fun d v I1 H1 _ s1 x1 h1 => ?_⟩
  cases d with
  | str z =>
    cases x1
    exact ⟨⟨z, rfl⟩, I1, r, s1.rl, er.mono s1.mono, Pst.first h1 fun y u I2 H2 _ s2 x2 h2 => hd I2 H2 z y u Q s2.rl x2 h2⟩
  | _ => exact h1.elim
theorem DRs.strsL {I : Hp} : ∀ ys : List Str, DRs g I (ys.map V.str) (ys.map D.str)
  | [] => .nil
  | y :: ys => .cons (.str y) (DRs.strsL ys)
theorem e_split (ha : PE X o (tF g X.mg E fa)) (hb : PE X e (tF g X.mg E fb)) (hs : starEach [e] X.env = [(false, eval e X.env)] := by rfl) (hbase : attributeBase o "split" X.env (eval o X.env) = eval o X.env := by rfl) (hline : (apos.endLine == pos.line) = true := by rfl) :
    PE X (.Call (.Attribute o "split" apos) [e] [] pos) (tF g X.mg E (fM1 dSplit fa fb)) := (pe_split ha hb hs hbase hline).imp fun σ H Q h => tM1_of (fun I H z y u Q rl hy p => by
  unfold dSplit at p
  split at p
  · split at p
    · rename_i bb c
      cases hy
      refine ⟨z, bb, rfl, rfl, c.1, Nat.le_trans (Nat.add_le_add_right c.2 2) (by decide), fun q hq => ?_⟩
      have s := rl.put (o := .lst ((Txt.split z bb).map V.str)) hq
      exact p _ _ _ s (.lst upd_same (DRs.strsL _))
    · exact p.elim
  · exact p.elim) h
theorem cd_str : CaD g X.mg E (fun xs H Q => ∃ i, xs = [.int i] ∧ i.natAbs.log2 < 1920 ∧ Q (.str (Str.ofString (toString i))) H) dStr := by
  intro I H ds vs Q rl hs p
  unfold dStr at p
  split at p
  · split at p
    · rename_i c
      cases hs with
      | cons h t => cases t; cases h; exact ⟨_, rfl, c, p.here rl (.str _)⟩
    · exact p.elim
  · exact p.elim
theorem e_str1 (hg : Gl X "str") (hm : X.mg "str" = none) (ha : PA X (e :: es) (tFA g X.mg E kk)) (he : starEach (e :: es) X.env = (false, eval e X.env) :: starEach es X.env := by rfl) (hpl : (backTo pos (starEach es X.env)).any (·.1) = false := by rfl) : PE X (.Call (.Name "str" p) (e :: es) [] pos) (tF g X.mg E (fCB dStr kk)) := e_callTy call_str_int cd_str hg hm (by decide +kernel) ha (by decide) (by decide) he hpl
theorem cd_intX : CaD g X.mg E (fun xs H Q => ((∃ i, xs = [.int i] ∧ Q (.int i) H) ∨ ∃ k, xs = [.bl k] ∧ Q (.int (if k then 1 else 0)) H) ∨ ∃ a n, xs = [.str a] ∧ PySem.intText? a = some n ∧ a.length ≤ 640 ∧ Q (.int n) H) dIntX := by
  intro I H ds vs Q rl hs p
  unfold dIntX at p
  split at p
  · split at p
    · rename_i n e
      split at p
      · rename_i c
        cases hs with
        | cons h t => cases t; cases h; exact .inr ⟨_, _, rfl, e, c, p.here rl (.int _)⟩
      · exact p.elim
    · exact p.elim
  · exact .inl (cd_int I H ds vs Q rl hs p)
theorem e_tointX (hg : Gl X "int") (hm : X.mg "int" = none) (ha : PA X (e :: es) (tFA g X.mg E kk)) (he : starEach (e :: es) X.env = (false, eval e X.env) :: starEach es X.env := by rfl) (hpl : (backTo pos (starEach es X.env)).any (·.1) = false := by rfl) : PE X (.Call (.Name "int" p) (e :: es) [] pos) (tF g X.mg E (fCB dIntX kk)) := e_callTy (call_int1.or call_int_str) cd_intX hg hm (by decide +kernel) ha (by decide) (by decide) he hpl
/-! ### f'..' -/
end
end FW
/-! Dicts of one's own by a comprehension; lists of one's own by *, list(). -/
namespace FW
open PySem PySem.Spec PyProof.Rows L2
def endOD (g : Gd) (I H : Hp) (Q : VK) : D → Prop := fun d => ∀ p I' H', Stp g I H I' H' → NT H p → p ≠ g.dz → I' p = none → (∀ kvs, d = .dct kvs → ∃ es, H' p = some (.dK es) ∧ DRk g I' es kvs) → Q (.ref p) H'
def tOD (g : Gd) (mg : Str → Option Value) (E : XK) (w : WE) : TE := fun σ H Q => ∃ I r, Rl g I H ∧ ER g I σ r ∧ w.run r (fun d => (∃ kvs, d = .dct kvs) ∧ endOD g I H Q d) (excW g mg E I H)
theorem putD_len (kvs : List (D × D)) (k : Key) (d : D) : (putD kvs k d).length ≤ kvs.length + 1 := by
  unfold putD
  split
  · rw [List.length_map]; exact Nat.le_succ _
  · rw [List.length_append]; exact Nat.le_refl _
section
variable {X : Cx} {g : Gd} {E : XK}
theorem dc_of {fi : FI} {fg : FG} {ft : FT} {fk fv : FE} {vs is : List Nat} (his : ∀ i ∈ is, i ∈ vs) {σ : L2.St} {H : Hp} {Q : VK} (h : tOD g X.mg E (wOf (fDc fi fg ft fk fv vs)) σ H Q) :
    tDc (tFI g X.mg E fi) (tFG g is fg) (tFT g X.mg E0 ft) (tF g X.mg E0 fk) (tF g X.mg E0 fv) vs σ H Q := by
  obtain ⟨I, r, rl, er, h⟩ := h
  have h : resW (fDc fi fg ft fk fv vs r) _ _ := h
  unfold fDc at h
  refine ⟨I, r, rl, er, ?_⟩
  cases efi : fi r with
  | bad => rw [efi] at h; exact h.elim
  | exc c => rw [efi] at h; exact h
  | ok ds =>
  rw [efi] at h
  dsimp only [Res.bind] at h
  split at h
  rotate_left
  · exact h.elim
  rename_i hlen
  obtain ⟨kvs, ek, hq⟩ : ∃ kvs, dcF fg ft fk fv (wipeE r vs) ds [] = .ok kvs ∧ endOD g I H Q (.dct kvs) := by
    cases e : dcF fg ft fk fv (wipeE r vs) ds [] with
    | bad => rw [e] at h; exact h.elim
    | exc c => rw [e] at h; exact h.elim
    | ok kvs => rw [e] at h; exact ⟨kvs, rfl, h.2⟩
  intro J I1 H1 s1 src q0 hD
  have dz : q0 ≠ g.dz := s1.rl.nz hD
  have base : Stp g I1 H1 I1 (upd H1 q0 (.dK [])) := s1.rl.lay hD
  refine ⟨fun i m H' => ∃ (I' : Hp) (es : List (Key × V)) (acc : List (FW.D × FW.D)), m = ds.length - i ∧ i ≤ ds.length ∧ Stp g I1 H1 I' H' ∧ I' q0 = none ∧ H' q0 = some (.dK es) ∧ DRk g I' es acc ∧ acc.length ≤ i ∧ dcF fg ft fk fv (wipeE r vs) (ds.drop i) acc = .ok kvs,
    ⟨ds.length, I1, [], [], rfl, Nat.zero_le _, base, s1.rl.out hD, upd_same, .nil, Nat.le_refl _, by rw [List.drop_zero]; exact ek⟩, ?_⟩
  rintro i m H' ⟨I', es, acc, rfl, hi, s, hI, hDl, ra, lo, he⟩
  by_cases hlt : i < ds.length
  · have hd : ds[i]? = some ds[i] := List.getElem?_eq_getElem hlt
    rw [List.drop_eq_getElem_cons hlt] at he
    unfold dcF at he
    obtain ⟨r1, e1, he⟩ := bind_ok he
    obtain ⟨b, e2, he⟩ := bind_ok he
    have e1 := calm_ok e1
    have e2 := calm_ok e2
    refine .inr ⟨src.go i I' H' s.rl s.mono hlt, fun H'' => ∃ (I' : Hp) (es : List (Key × V)) (acc : List (FW.D × FW.D)), Stp g I1 H1 I' H'' ∧ I' q0 = none ∧ H'' q0 = some (.dK es) ∧ DRk g I' es acc ∧ acc.length ≤ i + 1 ∧ dcF fg ft fk fv (wipeE r vs) (ds.drop (i + 1)) acc = .ok kvs, fun H'' hN => ?_, fun x H2 y => ?_⟩
    · obtain ⟨I2, es2, acc2, s2, hI2, hD2, ra2, lo2, hq2⟩ := hN
      exact ⟨ds.length - (i + 1), by omega, I2, es2, acc2, rfl, hlt, s2, hI2, hD2, ra2, lo2, hq2⟩
    · obtain ⟨I2, s2, xd⟩ := src.yld i ds[i] I' H' x H2 s.rl s.mono hd y
      obtain ⟨hI2, hD2⟩ := s2.beside hI dz hDl rfl
      refine ⟨I2, wipeE r vs, ds[i], s2.rl, (er.mono ((s1.mono.trans s.mono).trans s2.mono)).wipe vs, xd, ?_⟩
      rw [e1]
      intro σ2 er2 df
      refine ⟨?_, I2, r1, s2.rl, er2, ?_⟩
      · rw [wipe_eq (σ := L2.wipe σ vs) df.1 fun j hj => df.2 j fun z => hj (his j z)]
        exact wipe_eq (wipe_length σ vs) fun j hj => wipe_get hj
      · rw [e2]
        intro v I3 H3 s3 e
        subst e
        obtain ⟨hI3, hD3⟩ := s3.beside hI2 dz hD2 rfl
        have s03 := s.trans (s2.trans s3)
        cases v with
        | true =>
          rw [if_pos rfl] at he
          obtain ⟨yk, e3, he⟩ := bind_ok he
          obtain ⟨zv, e4, he⟩ := bind_ok he
          have e3 := calm_ok e3
          have e4 := calm_ok e4
          refine ⟨I3, r1, s3.rl, er2.mono s3.mono, ?_⟩
          rw [e3]
          intro v4 I4 H4 s4 x4
          obtain ⟨hI4, hD4⟩ := s4.beside hI3 dz hD3 rfl
          refine ⟨I4, r1, s4.rl, er2.mono (s3.trans s4).mono, ?_⟩
          rw [e4]
          intro v5 I5 H5 s5 x5
          obtain ⟨hI5, hD5⟩ := s5.beside hI4 dz hD4 rfl
          have s05 := (s03.trans s4).trans s5
          cases ekk : keyOf yk with
          | none => rw [ekk] at he; cases he
          | some k' =>
            rw [ekk] at he
            rw [keyOf_v ekk x4]
            have ra' := ra.mono (s2.trans (s3.trans (s4.trans s5))).mono
            refine ⟨es, k', rfl, hD5, ?_, I5, putK es k' v5, putD acc k' zv, s05.chg (NT.of hD) dz hI5 hD5 rfl, hI5, upd_same, ra'.put x5, ?_, he⟩
            · rw [ra.len]
              exact Nat.lt_of_le_of_lt (Nat.le_trans lo (Nat.le_of_lt (Nat.lt_of_lt_of_le hlt hlen))) (by decide)
            · exact Nat.le_trans (putD_len _ _ _) (Nat.succ_le_succ lo)
        | false =>
          rw [if_neg (by decide)] at he
          exact ⟨I3, es, acc, s03, hI3, hD3, ra.mono (s2.trans s3).mono, Nat.le_succ_of_le lo, he⟩
  · have ei : i = ds.length := by omega
    subst ei
    rw [List.drop_length] at he
    cases he
    refine .inl ⟨src.stop _ I' H' s.rl s.mono rfl, ?_⟩
    exact hq q0 I' H' (s1.trans s) (s1.back (NT.of hD)) dz hI fun zs z => by
      cases z
      exact ⟨es, hDl, ra⟩
def wsSetOD (i : Nat) (w : WE) : WS := ⟨fun r k => i < r.length ∧ w.run (plain r) (fun d => (∃ kvs, d = .dct kvs) ∧ k.nx (r.set i (Sl.own d))) k.ex, fun h q => ⟨q.1, w.mono (fun _ z => ⟨z.1, h.nx _ z.2⟩) h.ex q.2⟩⟩
theorem SR.readOD {w : WE} {I0 H0 : Hp} {r : Env2} {σ : L2.St} {H : Hp} {Q : VK} {Qd : D → Prop} (x : SR g I0 H0 r σ H) (h : w.run (plain r) (fun d => (∃ kvs, d = .dct kvs) ∧ Qd d) (excW g X.mg E I0 H0))
    (k : ∀ kvs p es I' H', Qd (.dct kvs) → SRI g I0 H0 I' r σ H' → NT H0 p → p ≠ g.dz → I' p = none → H' p = some (.dK es) → DRk g I' es kvs → (∀ (j : Nat) (e : D), r[j]? = some (Sl.own e) → σ[j]? ≠ some (some (.ref p))) → Q (.ref p) H') : tOD g X.mg E w σ H Q := by
  obtain ⟨I, x⟩ := x
  refine ⟨I, plain r, x.stp.rl, x.er, w.mono (fun d z => ⟨z.1, fun p I' H' s n nz hI hd => ?_⟩) (fun c z => excW.step x.stp z) h⟩
  obtain ⟨⟨ds, rfl⟩, z⟩ := z
  obtain ⟨vs, h1, h2⟩ := hd ds rfl
  refine k ds p vs I' H' z (x.go s) (x.stp.back n) nz hI h1 h2 fun j e hj hs => ?_
  obtain ⟨p', o, q1, _, _, _, q5, q6⟩ := x.own j e hj
  rw [hs] at q1; cases q1
  exact n.none_of q5 (chg_tbl q6.chg)
theorem s_setOD (i : Nat) {w : WE} {e : Expr} {x : Str} {pos pos' : Pos} (hN : X.N.Nodup) (he : PE X e (tOD g X.mg E w)) (hi : X.N[i]? = some x := by rfl) (hx : Loc X.env.scope x := by first | exact Or.inl rfl | exact Or.inr rfl) (hs : swapsWith e (some (.Name x pos')) pos.line X.env = pure false := by rfl) (hf : X.fn x = true ∨ X.env.scope.names.lookup x = some .local := by first | exact .inl rfl | exact .inr rfl | assumption) :
    PS X (.Assign [.Name x pos'] e pos) (tWS g X.mg E (wsSetOD i w)) := (ps_set (i := i) hN hi hx he hs hf).imp fun D σ H h => by
  obtain ⟨I0, H0, r, x, hl, h⟩ := h
  exact x.readOD h fun ds p vs I' H' z x' n nz hI hp y fr => z _ _ ⟨I', x'.setO hl n nz hI hp y fr⟩
variable {kx vx tg iter : Expr} {ifs : List Expr} {scope : Scope} {own : List (Str × Nat)} {pos : Pos} {fi : FI} {fg : FG} {ft : FT} {fk fv : FE} {is : List Nat}
theorem o_dc (hc : X.calm = true) (hN : X.N.Nodup) (hi : PI X tg iter (tFI g X.mg E fi)) (ok : BlkOk X.N X.env.scope scope own) (his : ∀ i ∈ is, i ∈ own.map (·.2)) (hg : ForBlk X scope fun B => PG B tg (tFG g is fg)) (ht : ForBlk X scope fun B => PTs B ifs (tFT g B.mg E0 ft))
    (hk : ForBlk X scope fun B => PE B kx (tF g B.mg E0 fk)) (hv : ForBlk X scope fun B => PE B vx (tF g B.mg E0 fv)) (hs : ∀ x, foldedSetIterable iter X.env x = pure x := by intro _; rfl) : PE X (.DictComp kx vx [⟨tg, iter, ifs, 0⟩] scope pos) (tOD g X.mg E (wOf (fDc fi fg ft fk fv (own.map (·.2))))) :=
  (pe_dc hc hN hi ok hg ht hk hv hs).imp fun _ _ _ q => dc_of his q
end
theorem imp_setOD {i : Nat} {f : FE} : ImpS (fsSetOD i f) (wsSetOD i (wOf f)) := fun r k q => by
  unfold fsSetOD at q
  split at q
  · rename_i c
    refine ⟨c, resW.mono (fun d z => ?_) (fun _ z => z) (resW_bind q)⟩
    cases d with
    | dct kvs => exact ⟨⟨kvs, rfl⟩, z⟩
    | _ => exact z.elim
  · exact q.elim
end FW
/-! dict(zip(x, y)), x and y lists or tuples. -/
namespace FW
open PySem PySem.Spec PyProof.Rows L2
section
variable {prog : Program} {w : World} {A : Around} {E : Value → Shared → Prop} {s : Shared} {z TI TO T i1 i2 : Addr} {fp1 fp2 : List Addr} {n1 n2 i : Nat} {P1 P2 : Nat → Value → Prop} {St1 St2 : Nat → Heap → Prop} {f : Bool} {oT : Obj}
/-- a zip's turn while the pair that it gave last is still held -/
theorem zH_item {Q : Value → Shared → Prop} (S : ZipSep2 z TI TO i1 i2 fp1 fp2) (D1 : Draws prog w A i1 fp1 n1 P1 St1) (D2 : Draws prog w A i2 fp2 n2 P2 St2) (hz : IsZipHeld s.heap z TI TO T f) (hT : s.heap.get? T = some oT) (hTI : IsTupOf2 s.heap TI (.ref i1) (.ref i2))
    (st1 : St1 i s.heap) (st2 : St2 i s.heap) (l1 : i < n1) (l2 : i < n2)
    (hQ : ∀ x1 x2 h' tk, P1 i x1 → P2 i x2 → IsZipHeld h' z TI TO T true → St1 (i + 1) h' → St2 (i + 1) h' → IsTupOf2 h' s.heap.objs.size x1 x2 → (∀ c o, c ≠ z → c ≠ i1 → c ≠ i2 → s.heap.get? c = some o → h'.get? c = some o) → Q (.ref s.heap.objs.size) { s with heap := h', toks := tk }) :
    wpAny (model prog w) A (Builtin.«zip.__next__» ⟨[.ref z], []⟩) (fun fin s' => ∃ v, fin = .done (.ret v) ∧ Q v s') E s := by
  obtain ⟨hp, gg, dd, tk0, os⟩ := s
  show wpAny _ _ (field (.ref z) 2 >>= _) _ _ _; refine wpAny_bind (wpAny_field hz rfl (x := .bool false) rfl ?_)
  show wpAny _ _ (field (.ref z) 3 >>= _) _ _ _; refine wpAny_bind (wpAny_field hz rfl (x := .ref TI) rfl ?_)
  refine wpAny_bind (wpAny_seqItems hTI rfl ?_); show wpAny _ _ (Builtin.SmallTypes.ownedTupleIsFree (.ref z) >>= _) _ _ _
  refine wpAny_bind (wpAny_tupleHeld_zip hz hT fun u0 zz0 k0 => ?_); replace k0 : Heap.SameBut z hp u0 := k0
  simp only [Bool.false_eq_true, if_false]; refine wpAny_bind ?_
  rw [← Array.forIn_toList]; simp only [List.forIn_cons, List.forIn_nil]
  refine wpAny_bind (wpAny_bind (wpAny_holding ?_)); show wpAny _ _ (Builtin.SmallTypes.nextOf (.ref i1) >>= _) _ _ ⟨u0, gg, dd, tk0, os⟩
  refine wpAny_bind (D1.item i _ _ _ l1 (D1.over st1 k0 S.zf1) fun x1 u1 tk1 hx1 sn1 k1 => wpAny_pure ?_); replace k1 : Heap.SameBut i1 u0 u1 := k1
  refine wpAny_pure ?_; refine wpAny_bind (wpAny_bind (wpAny_holding ?_))
  show wpAny _ _ (Builtin.SmallTypes.nextOf (.ref i2) >>= _) _ _ ⟨u1, gg, dd, tk1, os⟩
  refine wpAny_bind (D2.item i _ _ _ l2 (D2.over (D2.over st2 k0 S.zf2) k1 S.sep1_2) fun x2 u2 tk2 hx2 sn2 k2 => wpAny_pure ?_); replace k2 : Heap.SameBut i2 u1 u2 := k2
  refine wpAny_pure (wpAny_pure ?_); show wpAny _ _ (newTuple [x1, x2] >>= _) _ _ ⟨u2, gg, dd, tk2, os⟩
  refine wpAny_bind (wpAny_newTuple (wpAny_pure ⟨_, rfl, ?_⟩))
  have hsz : u2.objs.size = hp.objs.size := by rw [k2.1, k1.1, k0.1]
  show Q (.ref u2.objs.size) _
  have hpair : IsTupOf2 (u2.push { cls := .type "tuple", data := .seq #[x1, x2] }) u2.objs.size x1 x2 := Heap.get?_push_size _ rfl
  rw [hsz] at hpair ⊢
  refine hQ x1 x2 _ tk2 hx1 hx2 (Heap.get?_push_of_some _ (k2.extBut _ _ S.zi2 (k1.extBut _ _ S.zi1 zz0))) (D1.frame _ _ _ (D1.over sn1 k2 S.sep2_1) fun b _ o e => Heap.get?_push_of_some _ e) (D2.frame _ _ _ sn2 fun b _ o e => Heap.get?_push_of_some _ e) hpair fun c o c0 c1 c2 e => ?_
  exact Heap.get?_push_of_some _ (k2.extBut _ _ c2 (k1.extBut _ _ c1 (k0.extBut _ _ c0 e)))
theorem zH_end {Q : Fin → Shared → Prop} (S : ZipSep2 z TI TO i1 i2 fp1 fp2) (D1 : Draws prog w A i1 fp1 n1 P1 St1) (D2 : Draws prog w A i2 fp2 n2 P2 St2) (hz : IsZipHeld s.heap z TI TO T f) (hT : s.heap.get? T = some oT) (hTI : IsTupOf2 s.heap TI (.ref i1) (.ref i2))
    (st1 : St1 i s.heap) (st2 : St2 i s.heap) (l1 : i ≤ n1) (l2 : i ≤ n2) (hend : i = n1 ∨ i = n2)
    (hE : ∀ h' tk e, (∀ c o, c ≠ z → c ≠ i1 → c ≠ i2 → s.heap.get? c = some o → h'.get? c = some o) → (∃ o, h'.get? e = some o ∧ o.cls = .type "StopIteration") → E (.ref e) { s with heap := h', toks := tk }) :
    wpAny (model prog w) A (Builtin.«zip.__next__» ⟨[.ref z], []⟩) Q E s := by
  obtain ⟨hp, gg, dd, tk0, os⟩ := s
  show wpAny _ _ (field (.ref z) 2 >>= _) _ _ _; refine wpAny_bind (wpAny_field hz rfl (x := .bool false) rfl ?_)
  show wpAny _ _ (field (.ref z) 3 >>= _) _ _ _; refine wpAny_bind (wpAny_field hz rfl (x := .ref TI) rfl ?_)
  refine wpAny_bind (wpAny_seqItems hTI rfl ?_); show wpAny _ _ (Builtin.SmallTypes.ownedTupleIsFree (.ref z) >>= _) _ _ _
  refine wpAny_bind (wpAny_tupleHeld_zip hz hT fun u0 zz0 k0 => ?_); replace k0 : Heap.SameBut z hp u0 := k0
  simp only [Bool.false_eq_true, if_false]; refine wpAny_bind ?_
  rw [← Array.forIn_toList]; simp only [List.forIn_cons, List.forIn_nil]
  refine wpAny_bind (wpAny_bind (wpAny_holding ?_)); show wpAny _ _ (Builtin.SmallTypes.nextOf (.ref i1) >>= _) _ _ ⟨u0, gg, dd, tk0, os⟩
  by_cases hlt : i < n1
  · refine wpAny_bind (D1.item i _ _ _ hlt (D1.over st1 k0 S.zf1) fun x1 u1 tk1 hx1 sn1 k1 => wpAny_pure ?_); replace k1 : Heap.SameBut i1 u0 u1 := k1
    refine wpAny_pure ?_; refine wpAny_bind (wpAny_bind (wpAny_holding ?_))
    show wpAny _ _ (Builtin.SmallTypes.nextOf (.ref i2) >>= _) _ _ ⟨u1, gg, dd, tk1, os⟩
    have ei : i = n2 := by omega
    refine wpAny_bind (D2.done ⟨u1, gg, dd, tk1, os⟩ _ _ (by rw [← ei]; exact D2.over (D2.over st2 k0 S.zf2) k1 S.sep1_2) fun u2 e k2 he => ?_)
    exact hE u2 tk1 e (fun c o c0 c1 c2 q => k2 _ _ c2 (k1.extBut _ _ c1 (k0.extBut _ _ c0 q))) he
  · have ei : i = n1 := by omega
    refine wpAny_bind (D1.done ⟨u0, gg, dd, tk0, os⟩ _ _ (by rw [← ei]; exact D1.over st1 k0 S.zf1) fun u2 e k2 he => ?_)
    exact hE u2 tk0 e (fun c o c0 c1 _ q => k2 _ _ c1 (k0.extBut _ _ c0 q)) he
end
end FW
/-! dict(zip(x, y)) as an expression. -/
namespace FW
open PySem PySem.Spec PyProof.Rows L2
section
variable {X : Cx} {g : Gd} {E : XK} {e e2 : Expr} {ta : TA} {p p2 q pos : Pos}
/-! ### over data -/
end
end FW
/-! list.count; lists of one's own by * and list(). -/
namespace FW
open PySem PySem.Spec PyProof.Rows L2
section
variable {X : Cx} {g : Gd} {E : XK} {a b e o : Expr} {es : List Expr} {fa fb : FE} {kk : FA} {p pos apos cpos : Pos}
def rCntV (K : PySem.W.Frag) : V → List V → Hp → VK → Prop := fun x xs H Q => ∃ (a : Addr) (ys : List V) (y : V), x = V.ref a ∧ xs = [y] ∧ SqL K H a ys ∧ L2.flatV y = true ∧ ys.all L2.flatV = true ∧ Q (.int (ys.countP (fun z => L2.eqV z y) : Nat)) H
theorem cnt_vals {y : V} : ∀ {ys : List V} {us : List Value}, Vals ys us → ys.all L2.flatV = true → us.countP (eqU y) = ys.countP (fun z => L2.eqV z y)
  | _, _, .nil, _ => rfl
  | z :: ys, u :: us, .cons r t, f => by
    rw [List.all_cons, Bool.and_eq_true] at f
    rw [List.countP_cons, List.countP_cons, cnt_vals t f.2, eqU_of r f.1]
theorem mt_cntV : MtR X "list.count" (rCntV X.K) := by
  intro pins s σ H x xs v us Q I rx rxs h
  obtain ⟨p, ys, y, rfl, rfl, hs, fy, fys, q⟩ := h
  cases rx
  cases rxs with
  | cons ry rt =>
    rename_i uy ut
    cases rt
    obtain ⟨its, rv, ⟨⟨cls, dd, data, sl⟩, n, ho, hc, hdn, hd⟩, hlen⟩ := I.list hs
    simp only at hc hd
    subst hc hd
    refine call_meets PySem.F.slot_list_count ⟨_, ho, rfl⟩ PySem.F.entry_list_count (PySem.F.args_list_count_2 _ _) (SeqAt.list_countAt p its.toArray n dd sl uy (eqU y)) ⟨ho, fun u hu => mem_eqAt ry fy rv fys u (by simpa using hu), ?_⟩
    have ec : its.toArray.toList.countP (eqU y) = ys.countP (fun z => L2.eqV z y) := cnt_vals rv fys
    refine ⟨.int (ys.countP (fun z => L2.eqV z y) : Nat), H, I.tok _, ⟨s.toks, ?_⟩, q⟩
    rw [ec]
theorem cnt_dr {I : Hp} {y : D} {u : V} (hy : DR g I u y) (fy : y.flat = true) : ∀ {vs : List V} {ds : List D}, DRs g I vs ds → ds.all D.flat = true → vs.countP (fun z => L2.eqV z u) = ds.countP (fun z => D.eqv z y)
  | _, _, .nil, _ => rfl
  | _, _, .cons h t, f => by
    rw [List.all_cons, Bool.and_eq_true] at f
    rw [List.countP_cons, List.countP_cons, cnt_dr hy fy t f.2, h.eqV hy f.1 fy]
theorem e_count (ha : PE X o (tF g X.mg E fa)) (hb : PE X e (tF g X.mg E fb)) (hbase : attributeBase o "count" X.env (eval o X.env) = eval o X.env := by rfl)
    (hfew : ((backTo cpos (starEach [e] X.env)).all (fun x => !x.1) && (backToKw cpos (keywordEach [] X.env)).all (fun x => x.1.isSome) && decide ([e].length + ([] : List Keyword).length + (if ([] : List Keyword).isEmpty then 0 else 1) < 30)) = true := by rfl)
    (hline : (apos.endLine == cpos.line) = true := by rfl) (hs : starEach [e] X.env = (false, eval e X.env) :: starEach [] X.env := by rfl) (hpl : (backTo cpos (starEach [] X.env)).any (·.1) = false := by rfl) :
    PE X (.Call (.Attribute o "count" apos) [e] [] cpos) (tF g X.mg E (fCount fa fb)) :=
  (pe_bm PySem.F.plainAttrs_list PySem.F.slot_list_count PySem.F.type_list_count mt_cntV ha (pa_cons hb pa_nil hs) hbase hfew hline hs hpl).imp fun σ H Q h => by
    obtain ⟨I, r, rl, er, h⟩ := h
    unfold fCount at h
    refine ⟨I, r, rl, er, Pst.first h fun d v I1 H1 _ s1 x1 h1 => ?_⟩
    cases d with
    | lst ds =>
      cases x1 with
      | lst hx rx =>
        rename_i a vs
        refine ⟨.inl ⟨rfl, vs, SqL.of (s1.rl.sub _ _ hx)⟩, I1, r, s1.rl, er.mono s1.mono, Pst.first h1 fun y u I2 H2 _ s2 x2 h2 => ?_⟩
        unfold dCount at h2
        dsimp only at h2
        split at h2
        · rename_i c
          rw [Bool.and_eq_true] at c
          have rx2 := rx.mono s2.mono
          refine ⟨a, vs, u, rfl, rfl, SqL.of (s2.rl.sub _ _ (s2.mono _ _ hx)), x2.flatV c.1, rx2.flatV c.2, ?_⟩
          rw [cnt_dr x2 c.1 rx2 c.2]
          exact h2.here s2.rl (.int _)
        · exact h2.elim
    | _ => exact h1.elim
/-! ### lists of one's own -/
end
end FW
/-! Sets of texts: made of a list or a tuple, their length, sorted. -/
namespace FW
open PySem PySem.Spec PyProof.Rows L2

section
variable {P : Program} {w : World} {A : Around} {E : Value → Shared → Prop} {s : Shared} {a : Addr} {L : List Str}
theorem tx_elems {l : List (Int × Value)} (g : ∀ e ∈ l, TxE w e) : ElemsOf (strKind P w) l := fun e he => by
  obtain ⟨k, tk, h1, h2⟩ := g e he
  exact ⟨⟨k, by rw [h1]; exact strKind_is P w k tk, h2⟩, by rw [h1]; rfl⟩
theorem tx_is {e : Int × Value} (g : TxE w e) (k : Str) : (strKind P w).is k e.2 = true ↔ txK e = k := by
  obtain ⟨k0, tk, h1, _⟩ := g
  unfold txK
  rw [h1]
  show ((k0 == k) = true) ↔ k0 = k
  exact beq_iff_eq
theorem tx_mem {l : List (Int × Value)} (g : ∀ e ∈ l, TxE w e) (k : Str) : k ∈ l.map txK ↔ ∃ e ∈ l, (strKind P w).is k e.2 = true := by
  rw [List.mem_map]
  exact ⟨fun ⟨e, he, q⟩ => ⟨e, he, (tx_is (g e he) k).2 q⟩, fun ⟨e, he, q⟩ => ⟨e, he, (tx_is (g e he) k).1 q⟩⟩
theorem tx_tail {g : Bool → Sem Unit} (hg : ∀ (b : Bool) (s₁ : Shared) (Q' : Unit → Shared → Prop), Q' () s₁ → wpAny (model P w) A (g b) Q' E s₁)
    {o : Obj} {es : Array (Int × Value)} {ep : Nat} {t : SetTable} (ho : s.heap.get? a = some o) (hex : o.ExactSet) (hd : o.data = .set es ep t)
    {es1 : Array (Int × Value)} {t2 : SetTable} (g1 : ∀ e ∈ es1.toList, TxE w e) (nd1 : (es1.toList.map txK).Nodup) (hb1 : es1.size < scanBound) (hf2 : t2.fits es1.size = true) (hr : Ris t2.place.toList) (hl : w.params.followText "set-order" = true ∨ t2.led = true) {wd : Bool} {R : Option Bool → Shared → Prop}
    (hR : ∀ h' L', Heap.SameBut a s.heap h' → TxS w h' a L' → L'.Perm (es1.toList.map txK) → R (some true) { s with heap := h' }) :
    wpAny (model P w) A (do
        storeSet a es1 t2
        if (!wd && t2.tooFull) = true then do
            g (relayAll t2 es1 (SetTable.grown es1.size)).2.2
            storeSet a (relayAll t2 es1 (SetTable.grown es1.size)).1 (relayAll t2 es1 (SetTable.grown es1.size)).2.1
            pure (some true)
          else pure (some true)) R E s := by
  refine wpAny_bind (wpAny_storeSet_of ho hd ?_ (fits_of_scanBound hb1))
  have ho1 := store_at (es' := es1) (t' := t2) ho hd
  have sb1 := Heap.SameBut.update s.heap a (Obj.putSet es1 t2)
  split
  · obtain ⟨Z, hZ⟩ : ∃ Z, Z = relayAll t2 es1 (SetTable.grown es1.size) := ⟨_, rfl⟩
    have pm := relayAll_perm t2 es1 (SetTable.grown es1.size)
    have hf3 := relayAll_fits t2 es1 (SetTable.grown es1.size)
    have hr3 := relayAll_ris t2 es1 (SetTable.grown es1.size)
    have hl3 := relayAll_led t2 es1 (SetTable.grown es1.size)
    rw [← hZ] at pm hf3 hr3 hl3 ⊢
    obtain ⟨es2, t3, gave⟩ := Z
    dsimp only at pm hf3 hr3 hl3 ⊢
    have hsz : es2.size = es1.size := by rw [← Array.length_toList, pm.length_eq, Array.length_toList]
    have hb2 : es2.size < scanBound := by rw [hsz]; exact hb1
    refine wpAny_bind (hg _ _ _ ?_)
    refine wpAny_bind (wpAny_storeSet_of ho1 rfl ?_ (fits_of_scanBound hb2))
    have ho2 := store_at (es' := es2) (t' := t3) ho1 rfl
    refine wpAny_pure (hR _ _ (sb1.trans (Heap.SameBut.update _ a _)) ⟨⟨_, es2, _, t3, ⟨ho2, hex, rfl⟩, ⟨fun e he => g1 e (pm.mem_iff.mp he), rfl⟩, ⟨hb2, hf3⟩, ⟨hr3, hl.imp id fun z => by rw [hl3]; exact z⟩⟩, (pm.map txK).nodup_iff.mpr nd1⟩ (pm.map txK))
  · exact wpAny_pure (hR _ _ sb1 ⟨⟨_, es1, _, t2, ⟨ho1, hex, rfl⟩, ⟨g1, rfl⟩, ⟨hb1, hf2⟩, ⟨hr, hl⟩⟩, nd1⟩ (List.Perm.refl _))
/-- a text more -/
theorem tx_add {k : Str} {tk : Tok} {Q : Bool → Shared → Prop} (R : TxS w s.heap a L) (room : L.length + 1 < scanBound)
    (hQ : ∀ b h' L', Heap.SameBut a s.heap h' → TxS w h' a L' → (k ∈ L → L'.Perm L) → (k ∉ L → L'.Perm (k :: L)) → Q b { s with heap := h' }) :
    wpAny (model P w) A (setAddHashed a (.str k tk) ((strKind P w).hash k)) Q E s := by
  obtain ⟨o, es, ep, t, ⟨ho, hex, hd⟩, ⟨g, eL⟩, ⟨hb, hf⟩, ⟨hr, hl⟩⟩ := R.ex
  have hkey : (strKind P w).is k (.str k tk) = true := strKind_is P w k tk
  have hsc : (Value.str k tk).scannable = true := rfl
  have hel : ElemsOf (strKind P w) es.toList := tx_elems g
  have hlen : es.size = L.length := by rw [← eL, List.length_map, Array.length_toList]
  unfold setAddHashed setAddHashedIn
  refine wpAny_holding (wpAny_bind (wpAny_setState_of ho hd hf ?_))
  dsimp only
  rw [byScan_of hsc hb hel]
  simp only [↓reduceIte]
  unfold setAddByScan
  refine wpAny_bind ?_
  refine wpAny_bind (wpAny_rule ?_)
  refine wpAny_bind (wpAny_setScan_of hkey ho hd hf hel ?_)
  cases hfi : List.findIdx? (fun e => (strKind P w).is k e.2) es.toList with
  | some j =>
    dsimp only
    obtain ⟨hj, pj, _⟩ := List.findIdx?_eq_some_iff_getElem.mp hfi
    have hk : k ∈ L := by rw [← eL]; exact (tx_mem (P := P) g k).2 ⟨es.toList[j], List.getElem_mem hj, pj⟩
    exact wpAny_pure (wpAny_pure (hQ false s.heap L (Heap.SameBut.refl a s.heap) R (fun _ => List.Perm.refl _) fun z => absurd hk z))
  | none =>
    dsimp only
    have hnk : k ∉ L := fun z => by
      rw [← eL] at z
      obtain ⟨e, he, q⟩ := (tx_mem (P := P) g k).1 z
      have c := List.findIdx?_eq_none_iff.mp hfi e he
      rw [q] at c
      cases c
    have hgw : ∀ (b : Bool) {s₁ : Shared} {Q' : Unit → Shared → Prop}, Q' () s₁ → wpAny (model P w) A (match b with | true => rule "set.scan.the-table-gave-way" | false => pure ()) Q' E s₁ :=
      fun b s₁ Q' q => by cases b <;> first | exact wpAny_pure q | exact wpAny_rule q
    obtain ⟨Z, hZ⟩ : ∃ Z, Z = layNew t es ((strKind P w).hash k) (.str k tk) := ⟨_, rfl⟩
    have pm := layNew_perm t es ((strKind P w).hash k) (.str k tk)
    have hf1 := layNew_fits t es ((strKind P w).hash k) (.str k tk)
    have hr1 := layNew_ris t es ((strKind P w).hash k) (.str k tk) hr
    have hl1 := layNew_led t es ((strKind P w).hash k) (.str k tk)
    rw [← hZ] at pm hf1 hr1 hl1 ⊢
    obtain ⟨es1, t1, wd, gave⟩ := Z
    dsimp only at pm hf1 hr1 hl1 ⊢
    rw [Array.toList_push] at pm
    have pc : es1.toList.Perm (((strKind P w).hash k, Value.str k tk) :: es.toList) := pm.trans (List.perm_append_singleton _ _)
    have pk : (es1.toList.map txK).Perm (k :: L) := by rw [← eL]; exact pc.map txK
    have g1 : ∀ e ∈ es1.toList, TxE w e := fun e he => by
      rcases List.mem_cons.mp (pc.mem_iff.mp he) with z | z
      · rw [z]; exact ⟨k, tk, rfl, rfl⟩
      · exact g e z
    have nd1 : (es1.toList.map txK).Nodup := pk.nodup_iff.mpr (List.nodup_cons.mpr ⟨hnk, R.nd⟩)
    have hsz : es1.size = L.length + 1 := by rw [← Array.length_toList, pc.length_eq, List.length_cons, Array.length_toList, hlen]
    have hb1 : es1.size < scanBound := by rw [hsz]; exact room
    have hled : w.params.followText "set-order" = true ∨ t1.led = true := hl.imp id fun z => by rw [hl1]; exact z
    have fin : ∀ h' L', Heap.SameBut a s.heap h' → TxS w h' a L' → L'.Perm (es1.toList.map txK) → Q true { s with heap := h' } := fun h' L' sb r pl => hQ true h' L' sb r (fun z => absurd z hnk) fun _ => pl.trans pk
    refine wpAny_bind (hgw _ ?_)
    split
    · refine wpAny_bind ?_
      rw [hashByValue_scannable 8 hsc]
      refine wpAny_pure ?_
      refine tx_tail ?_ ho hex hd g1 nd1 hb1 ?_ ?_ ?_ ?_
      · intro b s₁ Q' q; cases b <;> first | exact wpAny_pure q | exact wpAny_rule q
      · first | (split <;> first | exact hf1 | exact SetTable.fits_plain_off hf1) | exact hf1
      · first | (split <;> exact hr1) | exact hr1
      · first | (split <;> exact hled) | exact hled
      · intro h' L' sb r pl; dsimp only; exact wpAny_pure (fin h' L' sb r pl)
    · refine wpAny_bind (wpAny_pure ?_)
      simp only [↓reduceIte]
      refine tx_tail ?_ ho hex hd g1 nd1 hb1 hf1 hr1 hled ?_
      · intro b s₁ Q' q; cases b <;> first | exact wpAny_pure q | exact wpAny_rule q
      · intro h' L' sb r pl; dsimp only; exact wpAny_pure (fin h' L' sb r pl)
theorem txS_fresh {h : Heap} (ho : h.get? a = some (emptySet w)) : TxS w h a [] :=
  ⟨⟨_, #[], 0, _, ⟨ho, ⟨rfl, rfl, rfl⟩, rfl⟩, ⟨fun e he => by simp at he, rfl⟩, ⟨by decide, by rfl⟩, ⟨List.Pairwise.nil, by
    show _ ∨ (!w.params.followText "set-order") = true
    cases w.params.followText "set-order"
    · exact .inr rfl
    · exact .inl rfl⟩⟩, List.nodup_nil⟩
theorem once_mem : ∀ (xs : List Str) (k : Str), k ∈ onceS xs ↔ k ∈ xs
  | [], k => Iff.rfl
  | x :: xs, k => by
    have ih := once_mem xs
    rw [onceS]
    split
    · rename_i h
      rw [ih k, List.mem_cons]
      exact ⟨.inr, fun z => z.elim (fun e => by rw [e]; exact (ih x).mp h) id⟩
    · rw [List.mem_cons, List.mem_cons, ih k]
theorem once_nd : ∀ xs : List Str, (onceS xs).Nodup
  | [] => List.nodup_nil
  | x :: xs => by
    rw [onceS]
    split
    · exact once_nd xs
    · rename_i h
      exact List.nodup_cons.mpr ⟨h, once_nd xs⟩
theorem perm_once {L xs : List Str} (nd : L.Nodup) (h : ∀ k, k ∈ L ↔ k ∈ xs) : L.Perm (onceS xs) :=
  (List.perm_ext_iff_of_nodup nd (once_nd xs)).mpr fun k => (h k).trans (once_mem xs k).symm
theorem tx_update {I : Addr} {fp wr : List Addr} {G : Array GenState → Array GenState → Prop} {n : Nat} {Pv : Nat → Value → Prop} {St : Nat → Shared → Prop} {R : Result → Shared → Prop}
    (W : WalksS P w A.in1 I fp wr G n Pv St) (S : Addr) (hSf : S ∉ fp) (ks : List Str) (hn : n = ks.length) (hfew : ks.length + 1 < scanBound) (hval : ∀ i v, Pv i v → ∃ k t, ks[i]? = some k ∧ v = .str k t) :
    ∀ (m i : Nat) (s : Shared), n - i = m → i ≤ n → St i s → (∃ L, TxS w s.heap S L ∧ L.length ≤ i ∧ ∀ k, k ∈ L ↔ k ∈ ks.take i) →
      (∀ s' L, Moved (S :: wr) G s s' → TxS w s'.heap S L → (∀ k, k ∈ L ↔ k ∈ ks) → R (.ok (.ret .none)) s') →
      codeAny (model P w) A (.builtin "set.update.loop" ⟨[.ref S, .ref I], []⟩) R s := by
  have hSw : S ∉ wr := fun h => hSf (W.sub _ h)
  have more : ∀ b ∈ wr, b ∈ S :: wr := fun b hb => List.mem_cons_of_mem _ hb
  intro m
  induction m with
  | zero =>
    intro i s hk' hi hst ⟨L, hS, hl, g⟩ hR
    obtain rfl : i = n := by omega
    refine codeAny_builtin F.entry_set_update_loop ?_
    rw [Around.under_plainId F.plain_set_update_loop _]
    show wpAny _ A.in1 (pyNext (.ref I) >>= _) _ _ s
    refine wpAny_bind (W.done s _ _ hst fun s' hm => ?_)
    show wpAny _ A.in1 (ret Value.none) _ _ s'
    exact wpAny_pure (hR s' L (hm.mono more) (hS.keep fun o e => hm.heap S o hSw e) fun k => by rw [g k, List.take_of_length_le (by omega)])
  | succ m ih =>
    intro i s hk' hi hst ⟨L, hS, hl, g⟩ hR
    have hlt : i < n := by omega
    refine codeAny_builtin F.entry_set_update_loop ?_
    rw [Around.under_plainId F.plain_set_update_loop _]
    show wpAny _ A.in1 (pyNext (.ref I) >>= _) _ _ s
    refine wpAny_bind (W.item i s _ _ hlt hst fun v s' hP hst' hm => ?_)
    obtain ⟨z, t, hz, rfl⟩ := hval i v hP
    have hS' : TxS w s'.heap S L := hS.keep fun o e => hm.heap S o hSw e
    show wpAny _ A.in1 (holding [Value.str z t] (setAdd S (.str z t)) >>= _) _ _ s'
    refine wpAny_bind (wpAny_holding ?_)
    unfold setAdd
    refine wpAny_holding ?_
    refine wpAny_bind ((strKind P w).pyHash (k := z) (strKind_is _ _ _ _) ?_)
    refine tx_add (s := { s' with toks := s'.toks + 1 }) hS' (by omega) fun b h' L' sb hS2 c1 c2 => ?_
    have tn := take_next hz
    have g' : L'.length ≤ i + 1 ∧ ∀ k, k ∈ L' ↔ k ∈ ks.take (i + 1) := by
      rcases Classical.em (z ∈ L) with c | c
      · have p := c1 c
        refine ⟨by rw [p.length_eq]; omega, fun k => ?_⟩
        rw [p.mem_iff, g k, tn, List.mem_append, List.mem_singleton]
        exact ⟨.inl, fun q => q.elim id fun e => by rw [e]; exact (g z).mp c⟩
      · have p := c2 c
        refine ⟨by rw [p.length_eq, List.length_cons]; omega, fun k => ?_⟩
        rw [p.mem_iff, List.mem_cons, g k, tn, List.mem_append, List.mem_singleton]
        exact Or.comm
    refine wpAny_pure ⟨plainId_quiet F.plain_set_update_loop _, ih (i + 1) _ (by omega) hlt (W.frame _ s' _ _ hst' (Nat.le_succ _) fun b hb o e => ?_) ⟨L', hS2, g'.1, g'.2⟩ fun s'' L2 hm2 hS3 g2 => ?_⟩
    · rw [sb.2 b (fun h : b = S => hSf (by rw [← h]; exact hb))]; exact e
    · refine hR s'' L2 (Moved.trans W.gtrans ((hm.mono more).then_heap (Nat.le_succ _) fun b o hb e => ?_) hm2) hS3 g2
      rw [sb.2 b (fun h : b = S => hb (by rw [h]; exact List.mem_cons_self))]; exact e
end
end FW
/-! set(x) of texts and of tuples, x a list or a tuple; sorted of a set of texts. -/
namespace FW
open PySem PySem.Spec PyProof.Rows L2
section
variable {P : Program} {w : World} {A : Around} {E : Value → Shared → Prop} {s : Shared}
/-- set(x), x a list of texts -/
theorem tx_setL {l : Addr} {items : Array Value} (ks : List Str) {Q : Value → Shared → Prop} (hh : A.handled = none) (hl : s.heap.IsList l items) (hit : StrsAre items.toList ks) (hfew : ks.length + 1 < scanBound)
    (h : ∀ (h' : Heap) (tk : Nat) L, TxS w h' s.heap.objs.size L → (∀ k, k ∈ L ↔ k ∈ ks) → (∀ b o, s.heap.get? b = some o → h'.get? b = some o) → Q (.ref s.heap.objs.size) { s with heap := h', toks := tk }) :
    wpAny (model P w) A (call (.type "set") [.ref l]) Q E s := by
  have hisz : items.size = ks.length := by rw [← StrsAre.len_eq hit, Array.length_toList]
  obtain ⟨c, tl, hmro⟩ := F.called_set.mro
  have hmade := F.called_set.made
  have hsub := F.called_set.sub
  refine wpAny_call (codeAny_of_tree ?_)
  show wpAny _ _ (callAny (.type "set") _) _ _ _
  refine wpAny_pure ⟨Code.quiet_builtin _ (by decide +kernel), codeAny_builtin F.entry_type_call ?_⟩
  rw [Around.under_plain (weight_type_call_type "set" [.ref l] []) rfl]
  have h1 := F.called_set.notType
  have h2 := F.called_set.canCreate
  have hct := F.typeCall_set_1 (.ref l)
  repeat (any_goals (first | assumption | wp_step))
  refine codeAny_mono (code_set_led1 (.ref l) (E := E) (Q₁ := fun obj s₁ => obj = .ref s.heap.objs.size ∧ s₁ = { s with heap := s.heap.push (emptySet w) }) ⟨rfl, rfl⟩) fun r s₁ hr => ?_
  cases r with
  | error e => exact hr
  | ok fl =>
    cases fl with
    | ret obj =>
      obtain ⟨rfl, rfl⟩ := hr
      have hS : (s.heap.push (emptySet w)).get? s.heap.objs.size = some (emptySet w) := Heap.get?_push_size _ rfl
      have hT : Shared.TypeIs { s with heap := s.heap.push (emptySet w) } (.ref s.heap.objs.size) "set" := ⟨_, hS, rfl⟩
      have hli := F.called_set.init.lookup
      have hbi := F.called_set.init.bind (.ref s.heap.objs.size)
      repeat (any_goals (first | assumption | wp_step))
      refine codeAny_mono (codeAny_call_builtin (R := wants (fun r s₂ => r = .none ∧ ∃ h' tk L, s₂ = { s with heap := h', toks := tk } ∧ TxS w h' s.heap.objs.size L ∧ (∀ k, k ∈ L ↔ k ∈ ks) ∧
          (∀ b o, s.heap.get? b = some o → h'.get? b = some o)) E) F.called_set.init.plain F.entry_set_init (check_set_init_1 hT ?_)) fun r₂ s₂ hr₂ => ?_
      · obtain ⟨ol, hol, hcl, nl, hdl⟩ := hl
        obtain ⟨ocls, odict, odata, oslots⟩ := ol
        simp only at hcl hdl
        subst hcl; subst hdl
        have hol' : (s.heap.push (emptySet w)).get? l = some { cls := .type "list", dict := odict, data := .seq items nl, slots := oslots } := Heap.get?_push_of_some _ hol
        have hsls := F.sub_list_set
        have hslf := F.sub_list_frozenset
        have hne : (Value.type "list" == Value.type "dict") = false := by decide
        have hl1 : (s.heap.push (emptySet w)).IsList l items := ⟨_, hol', rfl, nl, rfl⟩
        unfold Builtin.«set.__init__» noKeywords Builtin.Frozenset.updateFrom
        generalize hPI : pyIter = PI
        wp_walk
        subst hPI
        refine wpAny_pyIter_list hl1 ?_
        refine wpAny_bind (wpAny_runValue ?_)
        have hlS : l < s.heap.objs.size := Heap.lt_size hol
        have hh3 : A.in1.in1.in1.handled = none := by simp [hh]
        have hneI : l ≠ (s.heap.push (emptySet w)).objs.size := by
          rw [Heap.size_push]; exact Nat.ne_of_lt (Nat.lt_succ_of_lt hlS)
        have hSf : s.heap.objs.size ∉ [(s.heap.push (emptySet w)).objs.size, l] := by
          rw [Heap.size_push]; simp only [List.mem_cons, List.mem_singleton, List.not_mem_nil, or_false, not_or]
          exact ⟨Nat.ne_of_lt (Nat.lt_succ_self _), Nat.ne_of_gt hlS⟩
        have hval : ∀ (i : Nat) (v : Value), items[i]? = some v → ∃ k t, ks[i]? = some k ∧ v = .str k t := fun i v hv => by
          have q : items.toList[i]? = some v := by rw [Array.getElem?_toList]; exact hv
          obtain ⟨t, e⟩ := SS.strs_at hit i v q
          have hi : i < ks.length := by rw [← hisz]; exact (Array.getElem?_eq_some_iff.mp hv).1
          exact ⟨ks.getD i Str.empty, t, by rw [List.getD_eq_getElem?_getD, List.getElem?_eq_getElem hi]; rfl, e⟩
        refine tx_update ((Walks.list hh3 _ l hneI items).toS) s.heap.objs.size hSf ks hisz hfew hval (items.size - 0) 0 _ (by omega) (Nat.zero_le _)
          ⟨⟨_, Heap.get?_push_size _ rfl, rfl, rfl⟩, (hl1.push _)⟩ ?hS0 ?hR
        case hS0 => exact ⟨[], txS_fresh (Heap.get?_push_of_some _ hS), Nat.le_refl _, fun k => by simp⟩
        case hR =>
          intro s' L hm hS' g'
          obtain ⟨h', g2, d', tk', os'⟩ := s'
          have eg : g2 = s.gens := hm.gens
          have ed : d' = s.drawn := hm.drawn
          have eo : os' = s.os := hm.os
          subst eg; subst ed; subst eo
          show wpAny _ _ _ _ _ _
          refine wpAny_pure ?_
          show wpAny _ _ (ret Value.none) _ _ _
          refine wpAny_pure ⟨rfl, h', tk', L, rfl, hS', g', fun b o e => ?_⟩
          have hb1 : b ≠ s.heap.objs.size := Nat.ne_of_lt (Heap.lt_size e)
          have hb2 : b ≠ (s.heap.push (emptySet w)).objs.size := by rw [Heap.size_push]; exact Nat.ne_of_lt (Nat.lt_succ_of_lt (Heap.lt_size e))
          exact hm.heap b o (by simp only [List.mem_cons, List.mem_singleton, List.not_mem_nil, or_false, not_or]; exact ⟨hb1, hb2⟩) (Heap.get?_push_of_some _ (Heap.get?_push_of_some _ e))
      · cases r₂ with
        | error e => exact hr₂
        | ok fl₂ =>
          cases fl₂ with
          | ret r =>
            obtain ⟨rfl, h', tk, L, rfl, hS', g', hk'⟩ := hr₂
            repeat (any_goals (first | assumption | wp_step))
            exact h _ _ _ hS' g' hk'
          | _ => exact hr₂.elim
    | _ => exact hr.elim
/-- set(x), x a tuple of texts -/
theorem tx_setT {l : Addr} {items : Array Value} (ks : List Str) {Q : Value → Shared → Prop} (hh : A.handled = none) (hl : s.heap.IsTuple l items) (hit : StrsAre items.toList ks) (hfew : ks.length + 1 < scanBound)
    (h : ∀ (h' : Heap) (tk : Nat) L, TxS w h' s.heap.objs.size L → (∀ k, k ∈ L ↔ k ∈ ks) → (∀ b o, s.heap.get? b = some o → h'.get? b = some o) → Q (.ref s.heap.objs.size) { s with heap := h', toks := tk }) :
    wpAny (model P w) A (call (.type "set") [.ref l]) Q E s := by
  have hisz : items.size = ks.length := by rw [← StrsAre.len_eq hit, Array.length_toList]
  obtain ⟨c, tl, hmro⟩ := F.called_set.mro
  have hmade := F.called_set.made
  have hsub := F.called_set.sub
  refine wpAny_call (codeAny_of_tree ?_)
  show wpAny _ _ (callAny (.type "set") _) _ _ _
  refine wpAny_pure ⟨Code.quiet_builtin _ (by decide +kernel), codeAny_builtin F.entry_type_call ?_⟩
  rw [Around.under_plain (weight_type_call_type "set" [.ref l] []) rfl]
  have h1 := F.called_set.notType
  have h2 := F.called_set.canCreate
  have hct := F.typeCall_set_1 (.ref l)
  repeat (any_goals (first | assumption | wp_step))
  refine codeAny_mono (code_set_led1 (.ref l) (E := E) (Q₁ := fun obj s₁ => obj = .ref s.heap.objs.size ∧ s₁ = { s with heap := s.heap.push (emptySet w) }) ⟨rfl, rfl⟩) fun r s₁ hr => ?_
  cases r with
  | error e => exact hr
  | ok fl =>
    cases fl with
    | ret obj =>
      obtain ⟨rfl, rfl⟩ := hr
      have hS : (s.heap.push (emptySet w)).get? s.heap.objs.size = some (emptySet w) := Heap.get?_push_size _ rfl
      have hT : Shared.TypeIs { s with heap := s.heap.push (emptySet w) } (.ref s.heap.objs.size) "set" := ⟨_, hS, rfl⟩
      have hli := F.called_set.init.lookup
      have hbi := F.called_set.init.bind (.ref s.heap.objs.size)
      repeat (any_goals (first | assumption | wp_step))
      refine codeAny_mono (codeAny_call_builtin (R := wants (fun r s₂ => r = .none ∧ ∃ h' tk L, s₂ = { s with heap := h', toks := tk } ∧ TxS w h' s.heap.objs.size L ∧ (∀ k, k ∈ L ↔ k ∈ ks) ∧
          (∀ b o, s.heap.get? b = some o → h'.get? b = some o)) E) F.called_set.init.plain F.entry_set_init (check_set_init_1 hT ?_)) fun r₂ s₂ hr₂ => ?_
      · obtain ⟨ol, hol, hcl, nl, hdl⟩ := hl
        obtain ⟨ocls, odict, odata, oslots⟩ := ol
        simp only at hcl hdl
        subst hcl; subst hdl
        have hol' : (s.heap.push (emptySet w)).get? l = some { cls := .type "tuple", dict := odict, data := .seq items nl, slots := oslots } := Heap.get?_push_of_some _ hol
        have hsls := F.sub_tuple_set
        have hslf := F.sub_tuple_frozenset
        have hne : (Value.type "tuple" == Value.type "dict") = false := by decide
        have hl1 : (s.heap.push (emptySet w)).IsTuple l items := ⟨_, hol', rfl, nl, rfl⟩
        unfold Builtin.«set.__init__» noKeywords Builtin.Frozenset.updateFrom
        generalize hPI : pyIter = PI
        wp_walk
        subst hPI
        refine wpAny_pyIter_tuple hl1 ?_
        refine wpAny_bind (wpAny_runValue ?_)
        have hlS : l < s.heap.objs.size := Heap.lt_size hol
        have hh3 : A.in1.in1.in1.handled = none := by simp [hh]
        have hneI : l ≠ (s.heap.push (emptySet w)).objs.size := by
          rw [Heap.size_push]; exact Nat.ne_of_lt (Nat.lt_succ_of_lt hlS)
        have hSf : s.heap.objs.size ∉ [(s.heap.push (emptySet w)).objs.size, l] := by
          rw [Heap.size_push]; simp only [List.mem_cons, List.mem_singleton, List.not_mem_nil, or_false, not_or]
          exact ⟨Nat.ne_of_lt (Nat.lt_succ_self _), Nat.ne_of_gt hlS⟩
        have hval : ∀ (i : Nat) (v : Value), items[i]? = some v → ∃ k t, ks[i]? = some k ∧ v = .str k t := fun i v hv => by
          have q : items.toList[i]? = some v := by rw [Array.getElem?_toList]; exact hv
          obtain ⟨t, e⟩ := SS.strs_at hit i v q
          have hi : i < ks.length := by rw [← hisz]; exact (Array.getElem?_eq_some_iff.mp hv).1
          exact ⟨ks.getD i Str.empty, t, by rw [List.getD_eq_getElem?_getD, List.getElem?_eq_getElem hi]; rfl, e⟩
        refine tx_update ((Walks.tuple hh3 _ l hneI items).toS) s.heap.objs.size hSf ks hisz hfew hval (items.size - 0) 0 _ (by omega) (Nat.zero_le _)
          ⟨⟨_, Heap.get?_push_size _ rfl, rfl, rfl⟩, (hl1.at fun o e => Heap.get?_push_of_some _ e)⟩ ?hS0 ?hR
        case hS0 => exact ⟨[], txS_fresh (Heap.get?_push_of_some _ hS), Nat.le_refl _, fun k => by simp⟩
        case hR =>
          intro s' L hm hS' g'
          obtain ⟨h', g2, d', tk', os'⟩ := s'
          have eg : g2 = s.gens := hm.gens
          have ed : d' = s.drawn := hm.drawn
          have eo : os' = s.os := hm.os
          subst eg; subst ed; subst eo
          show wpAny _ _ _ _ _ _
          refine wpAny_pure ?_
          show wpAny _ _ (ret Value.none) _ _ _
          refine wpAny_pure ⟨rfl, h', tk', L, rfl, hS', g', fun b o e => ?_⟩
          have hb1 : b ≠ s.heap.objs.size := Nat.ne_of_lt (Heap.lt_size e)
          have hb2 : b ≠ (s.heap.push (emptySet w)).objs.size := by rw [Heap.size_push]; exact Nat.ne_of_lt (Nat.lt_succ_of_lt (Heap.lt_size e))
          exact hm.heap b o (by simp only [List.mem_cons, List.mem_singleton, List.not_mem_nil, or_false, not_or]; exact ⟨hb1, hb2⟩) (Heap.get?_push_of_some _ (Heap.get?_push_of_some _ e))
      · cases r₂ with
        | error e => exact hr₂
        | ok fl₂ =>
          cases fl₂ with
          | ret r =>
            obtain ⟨rfl, h', tk, L, rfl, hS', g', hk'⟩ := hr₂
            repeat (any_goals (first | assumption | wp_step))
            exact h _ _ _ hS' g' hk'
          | _ => exact hr₂.elim
    | _ => exact hr.elim

end
end FW
/-! sorted of a set of texts; len(set(x)), sorted(set(x)) as readings. -/
namespace FW
open PySem PySem.Spec PyProof.Rows L2
section
variable {P : Program} {w : World} {A : Around} {E : Value → Shared → Prop} {s : Shared}
theorem strs_of : ∀ (l : List Value), (∀ v ∈ l, ∃ k tk, v = Value.str k tk) → StrsAre l (l.map fun v => txK (0, v))
  | [], _ => .nil
  | v :: l, h => by
    obtain ⟨k, tk, rfl⟩ := h v List.mem_cons_self
    exact .cons k tk (strs_of l fun u hu => h u (List.mem_cons_of_mem _ hu))
/-- sorted(a set of texts) -/
theorem tx_sorted {a : Addr} {L : List Str} {Q : Value → Shared → Prop} (R : TxS w s.heap a L) (hh : A.handled = none) (h64 : L.length < 64)
    (hQ : ∀ s' p (out : Array Value) (c : Nat) (ys : List Str), (∀ b o, s.heap.get? b = some o → s'.heap.get? b = some o) → s'.gens = s.gens → s'.os = s.os → s.heap.objs.size ≤ p →
      s'.heap.get? p = some (seqObj "list" out c) → StrsAre out.toList ys → ys.Perm L → sortedS ys = true → Q (.ref p) s') :
    wpAny (model P w) A (call (.builtin "sorted") [.ref a]) Q E s := by
  obtain ⟨o, es, ep, t, ⟨ho, hex, hd⟩, ⟨g, eL⟩, ⟨hb, hf⟩, ⟨hr, hl⟩⟩ := R.ex
  refine Calls.call_function_entry PyProof.Rows.kind_sorted PyProof.Rows.plain_sorted PyProof.Rows.entry_sorted (PyProof.Rows.args_sorted1 _) ?_
  unfold Builtin.«sorted»
  refine wpAny_bind (m := checkCount "sorted" 1 1 _) (wpAny_pure ?_)
  refine wpAny_bind (collect_set (A := A.in1) hh ⟨o, ho, hex.1, hd⟩ hf hb hr hl fun s1 vs k1 hz g1 o1 pm => ?_)
  have hS := strs_of vs fun v hv => by
    obtain ⟨e, he, q⟩ := List.mem_map.mp (pm.mem_iff.mp hv)
    obtain ⟨k, tk, h1, _⟩ := g e he
    exact ⟨k, tk, by rw [← q]; exact h1⟩
  have pk : (vs.map fun v => txK (0, v)).Perm L := by
    have q := pm.map fun v => txK (0, v)
    rw [List.map_map] at q
    rw [← eL]
    exact q
  have hvl : vs.length = L.length := by rw [← pk.length_eq, List.length_map]
  refine wpAny_bind (wpAny_newList ?_ (by rw [hvl, sizeLine_eq]; omega))
  have hoL : (s1.heap.push (seqObj "list" vs.toArray 0)).get? s1.heap.objs.size = some (seqObj "list" vs.toArray 0) := Heap.get?_push_size _ rfl
  refine wpAny_bind (wpAny_holding (wpAny_call_entry PyProof.Rows.slot_list_sort ⟨_, hoL, rfl⟩ PyProof.Rows.entry_list_sort
    (list_sort_treeK strKind_oneLt (s := { s1 with heap := s1.heap.push (seqObj "list" vs.toArray 0) }) hoL hS.keysOf (fun v₁ v₂ rest e => keyKind_strs (by rw [← e]; exact hS)) (by rw [hvl]; exact h64) fun st' hp hs => ⟨_, rfl, ?_⟩)
    (PyProof.Rows.args_list_sort _)))
  obtain ⟨ys, r1, r2, r3⟩ := sorted_out_str hS hp hs
  obtain ⟨c, hc⟩ := PyProof.Rows.sortedHeap_at (vs := vs) (out := (arrOf st').map (·.2)) hoL
  refine wpAny_pure ⟨_, rfl, hQ _ s1.heap.objs.size _ c ys (fun b u e => ?_) g1 o1 hz hc r1 (r2.trans pk) r3⟩
  have q := k1 b u e
  have hlt := Heap.lt_size q
  rw [PyProof.Rows.sortedHeap_old (Nat.ne_of_lt hlt) (by rw [size_push']; exact Nat.lt_succ_of_lt hlt)]
  exact Heap.get?_push_of_some _ q
end
end FW
/-! texts sorted; x in t, t.count(x) of nested tuples; sorted(set(x)), len(set(x)) of texts. -/
namespace FW
open PySem PySem.Spec PyProof.Rows L2

/-! ### the order of texts -/
theorem nlt_tr : ∀ a b c : List Nat, ltCps b a = false → ltCps c b = false → ltCps c a = false
  | [], b, [], _, _ => rfl
  | [], b, _ :: _, _, _ => rfl
  | _ :: _, [], c, h, _ => by simp [ltCps] at h
  | _ :: _, _ :: _, [], _, h => by simp [ltCps] at h
  | x :: r, y :: s, z :: t, h1, h2 => by
    simp only [ltCps, Bool.or_eq_false_iff, Bool.and_eq_false_iff, decide_eq_false_iff_not, beq_eq_false_iff_ne] at h1 h2 ⊢
    refine ⟨by omega, ?_⟩
    by_cases e : z = x
    · have e1 : y = x := by omega
      have e2 : z = y := by omega
      exact .inr (nlt_tr r s t (h1.2.resolve_left fun n => n e1) (h2.2.resolve_left fun n => n e2))
    · exact .inl e
theorem nlt_eq : ∀ a b : List Nat, ltCps b a = false → ltCps a b = false → a = b
  | [], [], _, _ => rfl
  | [], _ :: _, _, h => by simp [ltCps] at h
  | _ :: _, [], h, _ => by simp [ltCps] at h
  | x :: r, y :: s, h1, h2 => by
    simp only [ltCps, Bool.or_eq_false_iff, Bool.and_eq_false_iff, decide_eq_false_iff_not, beq_eq_false_iff_ne] at h1 h2
    have e : x = y := by omega
    subst e
    rw [nlt_eq r s (h1.2.resolve_left fun n => n rfl) (h2.2.resolve_left fun n => n rfl)]
theorem lt_asym : ∀ a b : List Nat, ltCps a b = true → ltCps b a = false
  | [], [], h => by simp [ltCps] at h
  | [], _ :: _, _ => rfl
  | _ :: _, [], h => by simp [ltCps] at h
  | x :: r, y :: s, h => by
    simp only [ltCps, Bool.or_eq_true, Bool.and_eq_true, decide_eq_true_eq, beq_iff_eq] at h
    simp only [ltCps, Bool.or_eq_false_iff, Bool.and_eq_false_iff, decide_eq_false_iff_not, beq_eq_false_iff_ne]
    rcases h with h | ⟨h, q⟩
    · exact ⟨by omega, .inl (by omega)⟩
    · exact ⟨by omega, .inr (lt_asym r s q)⟩
theorem leS_tr {x y z : Str} (h1 : leS x y = true) (h2 : leS y z = true) : leS x z = true := by
  unfold leS at *
  rw [Bool.not_eq_true'] at *
  exact nlt_tr _ _ _ h1 h2
theorem leS_eq {x y : Str} (h1 : leS x y = true) (h2 : leS y x = true) : x = y := by
  unfold leS at *
  rw [Bool.not_eq_true'] at *
  have e := nlt_eq _ _ h1 h2
  cases x; cases y
  congr 1
  exact Array.toList_inj.mp e
theorem leS_or {x y : Str} (h : leS x y = false) : leS y x = true := by
  unfold leS at *
  rw [Bool.not_eq_false'] at h
  rw [Bool.not_eq_true']
  exact lt_asym _ _ h
theorem ins_perm (x : Str) : ∀ l : List Str, (insS x l).Perm (x :: l)
  | [] => List.Perm.refl _
  | y :: r => by
    rw [insS]
    split
    · exact List.Perm.refl _
    · exact ((ins_perm x r).cons y).trans (List.Perm.swap x y r)
theorem sort_perm : ∀ l : List Str, (sortS l).Perm l
  | [] => List.Perm.refl _
  | x :: r => (ins_perm x _).trans ((sort_perm r).cons x)
theorem ins_sorted (x : Str) : ∀ l : List Str, l.Pairwise (fun a b => leS a b = true) → (insS x l).Pairwise (fun a b => leS a b = true)
  | [], _ => List.pairwise_singleton _ _
  | y :: r, h => by
    obtain ⟨h1, h2⟩ := List.pairwise_cons.mp h
    rw [insS]
    split
    · rename_i c
      exact List.pairwise_cons.mpr ⟨fun z hz => (List.mem_cons.mp hz).elim (fun e => by rw [e]; exact c) fun hz => leS_tr c (h1 z hz), h⟩
    · rename_i c
      refine List.pairwise_cons.mpr ⟨fun z hz => ?_, ins_sorted x r h2⟩
      rcases List.mem_cons.mp ((ins_perm x r).mem_iff.mp hz) with e | hz
      · rw [e]; exact leS_or (by simpa using c)
      · exact h1 z hz
theorem sort_sorted : ∀ l : List Str, (sortS l).Pairwise (fun a b => leS a b = true)
  | [] => List.Pairwise.nil
  | x :: r => ins_sorted x _ (sort_sorted r)
theorem sorted_uniq : ∀ l m : List Str, l.Pairwise (fun a b => leS a b = true) → m.Pairwise (fun a b => leS a b = true) → l.Perm m → l = m
  | [], m, _, _, p => (List.nil_perm.mp p).symm
  | x :: l, [], _, _, p => by have := p.length_eq; simp at this
  | x :: l, y :: m, h1, h2, p => by
    obtain ⟨a1, a2⟩ := List.pairwise_cons.mp h1
    obtain ⟨b1, b2⟩ := List.pairwise_cons.mp h2
    have e : x = y := by
      rcases List.mem_cons.mp (p.mem_iff.mp List.mem_cons_self) with e | e
      · exact e
      · rcases List.mem_cons.mp (p.mem_iff.mpr (List.mem_cons_self (a := y) (l := m))) with q | q
        · exact q.symm
        · exact leS_eq (a1 y q) (b1 x e)
    subst e
    rw [sorted_uniq l m a2 b2 p.cons_inv]
theorem rising_pw : ∀ (r : List Str) (x : Str), risingS x r = true → (x :: r).Pairwise (fun a b => leS a b = true)
  | [], x, _ => List.pairwise_singleton _ _
  | y :: r, x, h => by
    have h : (!ltCps y.cps.toList x.cps.toList && risingS y r) = true := h
    rw [Bool.and_eq_true] at h
    have p := rising_pw r y h.2
    have q := (List.pairwise_cons.mp p).1
    exact List.pairwise_cons.mpr ⟨fun z hz => (List.mem_cons.mp hz).elim (fun e => by rw [e]; exact h.1) fun hz => leS_tr (y := y) h.1 (q z hz), p⟩
theorem eq_sortS {ys xs : List Str} (p : ys.Perm xs) (h : sortedS ys = true) : ys = sortS xs := by
  refine sorted_uniq _ _ ?_ (sort_sorted xs) (p.trans (sort_perm xs).symm)
  cases ys with
  | nil => exact List.Pairwise.nil
  | cons x r => exact rising_pw r x h
theorem once_le : ∀ xs : List Str, (onceS xs).length ≤ xs.length
  | [] => Nat.le_refl _
  | x :: xs => by
    have := once_le xs
    rw [onceS]
    split
    · rw [List.length_cons]; omega
    · rw [List.length_cons, List.length_cons]; omega
/-! ### set(x) of texts, then len or sorted -/
section
variable {X : Cx} {g : Gd} {E : XK}
theorem few_scan {n : Nat} (h : n < 64) : n + 1 < scanBound := Nat.lt_of_lt_of_le (Nat.succ_lt_succ h) (by decide)
/-- set(x) of texts -/
theorem tx_call {I H : Hp} {pins : List (Addr × Obj)} {σ : L2.St} {s : Shared} {v : V} {u : Value} {d : D} {xs : List Str} {R : Value → Shared → Prop} {Ex : Value → Shared → Prop} {A : Around} (hh : A.handled = none) (J : Inv X pins σ H s) (rl : Rl g I H) (x : DR g I v d) (ru : RelV v u) (e : seqTexts d = some xs) (hl : xs.length < 64)
    (h : ∀ (h' : Heap) (tk : Nat) L, TxS X.w h' s.heap.objs.size L → (∀ k, k ∈ L ↔ k ∈ xs) → (∀ b o, s.heap.get? b = some o → h'.get? b = some o) → R (.ref s.heap.objs.size) { s with heap := h', toks := tk }) : wpAny (model X.prog X.w) A (call (.type "set") [u]) R Ex s := by
  cases x with
  | tup hx hu t =>
    rename_i a vs ds uo
    have e : textsOf ds = some xs := e
    have ed := textsOf_eq e
    subst ed
    have ev := DRs.texts t
    subst ev
    cases ru
    obtain ⟨its, rv, tp, hz⟩ := J.tuple (hu.sqt (rl.sub _ _ hx))
    exact tx_setT xs hh tp (by simpa using rv.strs) (few_scan hl) h
  | lst hx t =>
    rename_i a vs ds
    have e : textsOf ds = some xs := e
    have ed := textsOf_eq e
    subst ed
    have ev := DRs.texts t
    subst ev
    cases ru
    obtain ⟨its, rv, tp, hz⟩ := J.list (SqL.of (rl.sub _ _ hx))
    exact tx_setL xs hh tp.isList (by simpa using rv.strs) (few_scan hl) h
  | _ => cases e
theorem e_sortset {a : Expr} {fa : FE} {p p2 q pos : Pos} (hc : X.calm = true) (hg : Gl X "sorted") (hm : X.mg "sorted" = none) (hg2 : Gl X "set") (hm2 : X.mg "set" = none) (ha : PE X a (tF g X.mg E fa))
    (na : starEach [a] X.env = (false, eval a X.env) :: starEach [] X.env := by rfl) : PE X (.Call (.Name "sorted" p) [.Call (.Name "set" p2) [a] [] q] [] pos) (tF g X.mg E (fSortSet fa)) := by
  refine ⟨fun pins s σ H Q J h => ?_⟩
  obtain ⟨I, r, rl, er, h⟩ := h
  refine Call_ (ld_blt J hg hm (by decide +kernel : bootBuiltins "sorted" = some (.builtin "sorted")) ?_)
  refine PyProof.Rows.callWith_builtin1 (PyProof.Rows.args_cons ?_ rfl) rfl rfl
  refine Call_ (ld_blt J hg2 hm2 PyProof.Rows.boot_set ?_)
  refine PyProof.Rows.callWith_type1 (PyProof.Rows.args_cons (thn (ha.run pins s σ H _ J ⟨I, r, rl, er, Pst.first h fun d v I1 H1 _ s1 x1 h1 => (⟨I1, d, s1, x1, h1⟩ : ∃ I1 d, Stp g I H I1 H1 ∧ DR g I1 v d ∧ Pst g X.mg E (DR g) I1 H1 (dSortSet d) Q)⟩) fun v s1 ⟨x, H1, J1, r1, q1⟩ => PyProof.Rows.args_nil ?_) na) na rfl
  obtain ⟨I1, d, s1', x1, h1⟩ := q1
  unfold dSortSet at h1
  split at h1
  · rename_i xs ex
    split at h1
    · rename_i hl
      refine tx_call (J1.ok.hd hc) J1 s1'.rl x1 r1 ex hl fun h' tk L R gt kp => ?_
      refine PyProof.Rows.args_nil ?_
      have J2 : Inv X pins σ H1 { s1 with heap := h', toks := tk } := J1.kept fun b o e => kp b o e
      have pL := perm_once R.nd gt
      have hle := once_le xs
      refine tx_sorted R (J1.ok.hd hc) (by rw [pL.length_eq]; omega) fun s' p out c ys k g1 o1 hp hgp hS pm so => ?_
      have eys : ys = sortS (onceS xs) := eq_sortS (pm.trans pL) so
      have hn : H1 p = none := J2.hok.fresh hp
      have hlen : (ys.map V.str).length ≤ sizeLine := by rw [List.length_map, pm.length_eq, pL.length_eq, sizeLine_eq]; omega
      have Jc : Inv X pins σ (upd H1 p (.lst (ys.map V.str))) { ({ s1 with heap := h', toks := tk } : Shared) with heap := s'.heap, gens := s'.gens, drawn := s'.drawn, toks := s'.toks } :=
        J2.call (ch := []) (Un.laid k hp hn) (J2.hok.laid k hp ⟨hlen, out.toList, c, vals_of_strs hS, by rw [Array.toArray_toList]; exact hgp⟩) (by rw [g1]; exact J2.bare) (fun _ z => nomatch z)
      have e : s' = { ({ s1 with heap := h', toks := tk } : Shared) with heap := s'.heap, gens := s'.gens, drawn := s'.drawn, toks := s'.toks } := by
        cases s'
        cases s1
        cases o1
        rfl
      rw [e]
      have st := s1'.rl.put (o := .lst (ys.map V.str)) hn
      refine ⟨.ref p, _, Jc, rfl, h1 _ _ _ st (.lst upd_same ?_)⟩
      rw [eys]
      exact DRs.strsL _
    · exact h1.elim
  · exact h1.elim
/-! ### nested tuples: in, count -/
variable {k : Nat} {a b e o : Expr} {fa fb : FE} {pos apos cpos : Pos}
end
end FW
/-! A class whose making is refused: C(x), where __init__ raises. -/
namespace FW
open PySem PySem.Spec PyProof.Rows L2
section
variable {P : Program} {w : World} {K : PySem.W.Frag} {mg : Str → Option Value} {base : Heap}
end
section
variable {X : Cx} {g : Gd} {E : XK} {x : Str} {e : Expr} {kl k : Nat} {ps : List Str} {p pos : Pos}
end
end FW
/-! Dicts as values: comprehensions, len, sorted, dict(pairs), list(d); what walks a dict's keys (locked meanwhile). max of a list or tuple. -/
namespace FW
open PySem PySem.Spec PyProof.Rows L2 LamX
section
variable {X : Cx} {g : Gd} {E : XK} {a e : Expr} {es : List Expr} {fa : FE} {kk : FA} {p pos : Pos}
theorem _root_.L2.CallR.either {X : Cx} {f : Value} {r1 r2 : List V → Hp → VK → Prop} (h1 : CallR X f r1) (h2 : CallR X f r2) : CallR X f (fun xs H Q => r1 xs H Q ∨ r2 xs H Q) := fun pins s σ H xs us Q I r q => by
  rcases q with q | q
  · exact h1 pins s σ H xs us Q I r q
  · exact h2 pins s σ H xs us Q I r q
/-! ### len -/
theorem call_lenDR : CallR X (.builtin "len") (fun xs H Q => ∃ a kvs, xs = [V.ref a] ∧ Rd H a (.dK kvs) ∧ Q (.int kvs.length) H) := by
  intro pins s σ H xs us Q I r h
  obtain ⟨a, kvs, rfl, ha, q⟩ := h
  obtain ⟨u, rfl, ru⟩ := vals1 r
  cases ru
  exact d_len I ha fun t s' I' => ⟨.int kvs.length, H, I', ⟨t, rfl⟩, q⟩
theorem cd_lenX : CaD g X.mg E (fun xs H Q => (∃ a kvs, xs = [V.ref a] ∧ Rd H a (.dK kvs) ∧ Q (.int kvs.length) H) ∨ ∃ x n, xs = [x] ∧ LenV X.K x H n ∧ Q (.int n) H) dLenX := by
  intro I H ds vs Q rl hs q
  unfold dLenX at q
  split at q
  · cases hs with
    | cons h t =>
      cases t
      cases h with
      | dK hr hk => exact .inl ⟨_, _, rfl, rl.sub.rd hr, by rw [hk.len]; exact q.here rl (.int _)⟩
  · exact .inr (cd_len I H ds vs Q rl hs q)
theorem e_lenX (hg : Gl X "len") (hm : X.mg "len" = none) (ha : PA X (e :: es) (tFA g X.mg E kk)) (he : starEach (e :: es) X.env = (false, eval e X.env) :: starEach es X.env := by rfl) (hpl : (backTo pos (starEach es X.env)).any (·.1) = false := by rfl) : PE X (.Call (.Name "len" p) (e :: es) [] pos) (tF g X.mg E (fCB dLenX kk)) :=
  e_callB (call_lenDR.either call_len) cd_lenX hg hm (by decide +kernel) ha (by decide) (by decide) he hpl
/-! ### sorted(d), list(d), dict(pairs) -/
/-! ### a comprehension's dict as a value -/
variable {kx vx tg iter : Expr} {ifs : List Expr} {scope : Scope} {own : List (Str × Nat)} {fi : FI} {fg : FG} {ft : FT} {fk fv : FE} {is : List Nat}
end
end FW
/-! A comprehension over the keys of a dict that is a value: the dict is locked meanwhile. -/
namespace FW
open PySem PySem.Spec PyProof.Rows L2 LamX
section
variable {g : Gd} {I J : Hp} {a : Addr} {es0 : List (Key × V)}
mutual
theorem DR.swp (s : Swp I J a es0) : ∀ {v : V} {d : D}, DR g I v d → DR g J v d
  | _, _, .non => .non
  | _, _, .bl b => .bl b
  | _, _, .int i => .int i
  | _, _, .str x => .str x
  | _, _, .tup h u t => .tup (s.not h (fun es e => by rcases u with ⟨z, _⟩ | ⟨o, _, z⟩ <;> (rw [z] at e; cases e)) (fun q es e => by rcases u with ⟨z, _⟩ | ⟨o, _, z⟩ <;> (rw [z] at e; cases e))) u (DRs.swp s t)
  | _, _, .par h t => .par (s.not h (fun es e => by cases e) (fun q es e => by cases e)) (DRs.swp s t)
  | _, _, .lst h t => .lst (s.not h (fun es e => by cases e) (fun q es e => by cases e)) (DRs.swp s t)
  | _, _, .dK h t => .dK (s.rd h) (DRk.swp s t)
  | _, _, .dT h t => .dT (h.elim (fun z => .inl (s.not z (fun es e => by cases e) (fun q es e => by cases e))) fun ⟨o, z⟩ => .inr ⟨o, s.not z (fun es e => by cases e) (fun q es e => by cases e)⟩) (DRt.swp s t)
  | _, _, .dF h t => .dF (s.not h (fun es e => by cases e) (fun q es e => by cases e)) (DRt.swp s t)
  | _, _, .dice => .dice
  | _, _, .exn h => .exn (s.not h (fun es e => by cases e) (fun q es e => by cases e))
  | _, _, .hs h r1 r2 r3 => .hs (s.not h (fun es e => by cases e) (fun q es e => by cases e)) (DR.swp s r1) (DR.swp s r2) (DR.swp s r3)
theorem DRs.swp (s : Swp I J a es0) : ∀ {v : List V} {d : List D}, DRs g I v d → DRs g J v d
  | _, _, .nil => .nil
  | _, _, .cons h t => .cons (DR.swp s h) (DRs.swp s t)
theorem DRk.swp (s : Swp I J a es0) : ∀ {v : List (Key × V)} {d : List (D × D)}, DRk g I v d → DRk g J v d
  | _, _, .nil => .nil
  | _, _, .cons h t => .cons (DR.swp s h) (DRk.swp s t)
theorem DRt.swp (s : Swp I J a es0) : ∀ {v : List (List Key × V)} {d : List (D × D)}, DRt g I v d → DRt g J v d
  | _, _, .nil => .nil
  | _, _, .cons h t => .cons (DR.swp s h) (DRt.swp s t)
end
theorem ER.swp (s : Swp I J a es0) {σ : L2.St} {r : Env} (e : ER g I σ r) : ER g J σ r := ⟨e.len, fun i d h => by
  obtain ⟨v, h1, h2⟩ := e.get i d h
  exact ⟨v, h1, h2.swp s⟩⟩
/-- the region with that object at a -/
theorem swp_upd {o : HO} (h : Rd I a (.dK es0)) (ho : o = .dK es0 ∨ ∃ q, o = .frz q (.dK es0)) : Swp I (upd I a o) a es0 :=
  ⟨fun b u n e => by rw [upd_ne n]; exact e, h, ho.elim (fun e => .inl (by rw [upd_same, e])) fun ⟨q, e⟩ => .inr ⟨q, by rw [upd_same, e]⟩⟩
theorem Rl.swap {H : Hp} {o u : HO} (rl : Rl g I H) (hI : I a = some u) (n1 : ∀ ps, u ≠ .tbl ps) (n2 : ∀ c q, u ≠ LamX.CodeO c q) (ho : ∀ ps, o ≠ .tbl ps) : Rl g (upd I a o) (upd H a o) := by
  have nz : g.dz ≠ a := fun e => by have := rl.dz; rw [e, hI] at this; cases this
  refine ⟨fun b w e => ?_, by rw [upd_ne nz]; exact rl.dz, ?_, tabs_set rl.tab (rl.sub _ _ hI) n1 n2, fun b ps e => ?_⟩
  · by_cases z : b = a
    · subst z; rw [upd_same] at e ⊢; exact e
    · rw [upd_ne z] at e ⊢; exact rl.sub b w e
  · obtain ⟨x, y, q⟩ := rl.dice
    exact ⟨x, y, by rw [upd_ne nz]; exact q⟩
  · by_cases z : b = a
    · subst z; rw [upd_same] at e; exact ho ps (Option.some.inj e)
    · rw [upd_ne z] at e; exact rl.nt b ps e
theorem code_ne_dK {es : List (Key × V)} : ∀ c q, HO.dK es ≠ LamX.CodeO c q := fun c q e => by cases e
theorem code_ne_frz {o : Obj} {u : HO} : ∀ c q, HO.frz o u ≠ LamX.CodeO c q := fun c q e => by cases e
/-- what was done under the lock, without it -/
theorem Stp.unlock {H I' H' : Hp} {od : Obj} (rl : Rl g I H) (hI : I a = some (.dK es0)) (s : Stp g (upd I a (.frz od (.dK es0))) (upd H a (.frz od (.dK es0))) I' H') : H' a = some (.frz od (.dK es0)) ∧ Stp g I H (upd I' a (.dK es0)) (upd H' a (.dK es0)) := by
  have nz : a ≠ g.dz := fun e => by have := rl.dz; rw [← e, hI] at this; cases this
  have hH := rl.sub _ _ hI
  have h' : I' a = some (.frz od (.dK es0)) := s.mono _ _ upd_same
  have k' : H' a = some (.frz od (.dK es0)) := s.keep _ _ nz (fun ps e => by cases e) upd_same
  refine ⟨k', fun b o e => ?_, fun b o e => ?_, fun b o n1 n2 e => ?_, s.rl.swap h' (fun ps e => by cases e) code_ne_frz (fun ps e => by cases e)⟩
  · by_cases z : b = a
    · subst z; rw [hI] at e; rw [upd_same]; exact e
    · rw [upd_ne z]; exact s.mono b o (by rw [upd_ne z]; exact e)
  · by_cases z : b = a
    · subst z; rw [upd_same] at e; exact .inl (by rw [hI]; exact e)
    · rw [upd_ne z] at e
      rcases s.new b o e with q | q
      · rw [upd_ne z] at q; exact .inl q
      · rcases q with q | ⟨q, xs, q2⟩
        · exact .inr (.inl fun w e2 => q w (by rw [upd_ne z]; exact e2))
        · rw [upd_ne z] at q; exact .inr (.inr ⟨q, xs, q2⟩)
  · by_cases z : b = a
    · subst z; rw [hH] at e; rw [upd_same]; exact e
    · rw [upd_ne z]; exact s.keep b o n1 n2 (by rw [upd_ne z]; exact e)
end
section
variable {X : Cx} {g : Gd} {E : XK}
theorem lc_turns {fg : FG} {ft : FT} {we : WE} {vs is : List Nat} (his : ∀ i ∈ is, i ∈ vs) {σ : L2.St} {H : Hp} {Q : VK} {I : Hp} {r : Env} {ds : List D} (er : ER g I σ r) (hlen : ds.length ≤ 100000) (q : lcW fg ft we (wipeE r vs) ds fun ys => (∃ zs, FW.D.lst ys = .lst zs) ∧ endO g I H Q (.lst ys)) {J : It} {I1 H1 : Hp} (s1 : Stp g I H I1 H1) (src : Src g J I1 ds) :
    tLc (fun _ _ R => R J H1) (tFG g is fg) (tFT g X.mg E0 ft) (tW g X.mg E0 we) vs σ H Q := by
  intro q0 hD
  have dz : q0 ≠ g.dz := s1.rl.nz hD
  have base : Stp g I1 H1 I1 (upd H1 q0 (.lst [])) := s1.rl.lay hD
  refine ⟨fun i m H' => ∃ (I' : Hp) (acc : List V) (outs : List FW.D), m = ds.length - i ∧ i ≤ ds.length ∧ Stp g I1 H1 I' H' ∧ I' q0 = none ∧ H' q0 = some (.lst acc) ∧ DRs g I' acc outs ∧ outs.length ≤ i ∧
      lcW fg ft we (wipeE r vs) (ds.drop i) fun ys => (∃ zs, FW.D.lst (outs ++ ys) = .lst zs) ∧ endO g I H Q (.lst (outs ++ ys)),
    ⟨ds.length, I1, [], [], rfl, Nat.zero_le _, base, s1.rl.out hD, upd_same, .nil, Nat.le_refl _, by rw [List.drop_zero]; exact q⟩, ?_⟩
  rintro i m H' ⟨I', acc, outs, rfl, hi, s, hI, hDl, ra, lo, hq⟩
  by_cases hlt : i < ds.length
  · have hd : ds[i]? = some ds[i] := List.getElem?_eq_getElem hlt
    rw [List.drop_eq_getElem_cons hlt] at hq
    refine .inr ⟨src.go i I' H' s.rl s.mono hlt, fun H'' => ∃ (I' : Hp) (acc : List V) (outs : List FW.D), Stp g I1 H1 I' H'' ∧ I' q0 = none ∧ H'' q0 = some (.lst acc) ∧ DRs g I' acc outs ∧ outs.length ≤ i + 1 ∧
        lcW fg ft we (wipeE r vs) (ds.drop (i + 1)) fun ys => (∃ zs, FW.D.lst (outs ++ ys) = .lst zs) ∧ endO g I H Q (.lst (outs ++ ys)), fun H'' hN => ?_, fun x H2 y => ?_⟩
    · obtain ⟨I2, acc2, outs2, s2, hI2, hD2, ra2, lo2, hq2⟩ := hN
      exact ⟨ds.length - (i + 1), by omega, I2, acc2, outs2, rfl, hlt, s2, hI2, hD2, ra2, lo2, hq2⟩
    · obtain ⟨I2, s2, xd⟩ := src.yld i ds[i] I' H' x H2 s.rl s.mono hd y
      obtain ⟨hI2, hD2⟩ := s2.beside hI dz hDl rfl
      refine ⟨I2, wipeE r vs, ds[i], s2.rl, (er.mono ((s1.mono.trans s.mono).trans s2.mono)).wipe vs, xd, resW.mono (fun r1 q1 σ2 er2 df => ?_) (fun _ z => z) hq⟩
      refine ⟨?_, I2, r1, s2.rl, er2, Pst.iff.mpr (resW.mono (fun b q2 v I3 H3 s3 e => ?_) (fun _ z => z.elim) q1)⟩
      · rw [wipe_eq (σ := L2.wipe σ vs) df.1 fun j hj => df.2 j fun z => hj (his j z)]
        exact wipe_eq (wipe_length σ vs) fun j hj => wipe_get hj
      · subst e
        obtain ⟨hI3, hD3⟩ := s3.beside hI2 dz hD2 rfl
        have s03 := s.trans (s2.trans s3)
        cases v with
        | true =>
          refine ⟨I3, r1, s3.rl, er2.mono s3.mono, we.mono (fun y' q3 v4 I4 H4 s4 x4 => ?_) (fun _ z => z.elim) q2⟩
          obtain ⟨hI4, hD4⟩ := s4.beside hI3 dz hD3 rfl
          have s04 := s03.trans s4
          refine ⟨acc, hD4, ?_, I4, acc ++ [v4], outs ++ [y'], s04.chg (NT.of hD) dz hI4 hD4 rfl, hI4, upd_same, (ra.mono (s2.trans (s3.trans s4)).mono).app (.cons x4 .nil), ?_, ?_⟩
          · rw [ra.len]
            exact Nat.lt_of_le_of_lt (Nat.le_trans lo (Nat.le_of_lt (Nat.lt_of_lt_of_le hlt hlen))) (by decide)
          · rw [List.length_append]
            exact Nat.succ_le_succ lo
          · refine lcW.mono (fun ys z => ?_) q3
            rw [List.append_assoc]
            exact z
        | false => exact ⟨I3, acc, outs, s03, hI3, hD3, ra.mono (s2.trans s3).mono, Nat.le_succ_of_le lo, q2⟩
  · have ei : i = ds.length := by omega
    subst ei
    rw [List.drop_length] at hq
    refine .inl ⟨src.stop _ I' H' s.rl s.mono rfl, ?_⟩
    have hq' : endO g I H Q (.lst (outs ++ [])) := hq.2
    rw [List.append_nil] at hq'
    exact hq' q0 I' H' (s1.trans s) (s1.back (NT.of hD)) dz hI fun zs z => by
      cases z
      exact ⟨acc, hDl, ra⟩
/-- the dict at the i-th name is locked -/
def tKeysL (g : Gd) (i : Nat) : TI := fun σ H R => ∃ (I : Hp) (r : Env) (a : Addr) (o : Obj) (es : List (Key × V)) (kvs : List (D × D)), Rl g I H ∧ ER g I σ r ∧ r[i]? = some (some (.dct kvs)) ∧ σ[i]? = some (some (.ref a)) ∧ I a = some (.frz o (.dK es)) ∧ DRk g I es kvs ∧ R (Itk a o es) H
theorem src_keys {I : Hp} {a : Addr} {o : Obj} {es : List (Key × V)} {kvs : List (D × D)} (h : I a = some (.frz o (.dK es))) (hk : DRk g I es kvs) : Src g (Itk a o es) I (kvs.map Prod.fst) where
  go := fun i I' H rl s hl => ⟨rl.sub _ _ (s _ _ h), by rw [hk.len]; simpa using hl⟩
  yld := fun i d I' H x H' rl s hd y => by
    obtain ⟨rfl, k, v, e1, rfl⟩ := y
    refine ⟨I', rl.stp, ?_⟩
    obtain ⟨v', e2, e3⟩ := DRs.at_ hk.fst hd
    rw [List.getElem?_map, e1] at e2
    cases e2
    exact e3.mono s
  stop := fun i I' H rl s hl => ⟨rl.sub _ _ (s _ _ h), by rw [hk.len, hl, List.length_map]; exact Nat.le_refl _⟩
theorem i_keysL (i : Nat) {x : Str} {tg : Expr} {pos : Pos} (hN : X.N[i]? = some x := by rfl) (hv : Vis X.env.scope x := by first | exact Or.inl rfl | exact Or.inr (Or.inl rfl) | exact Or.inr (Or.inr rfl)) (hd : (x == ("__debug__" : Str)) = false := by decide)
    (hcd : (x == ("__classdict__" : Str)) = false := by decide) : PI X tg (.Name x pos) (tKeysL g i) :=
  (pi_keys (pe_var (i := i) hN hv hd hcd)).imp fun σ H R h => by
    obtain ⟨I, r, a, o, es, kvs, rl, er, h1, h2, h3, h4, q⟩ := h
    exact ⟨.ref a, h2, a, o, rfl, .inl ⟨es, rl.sub _ _ h3, q⟩⟩
variable {elt tg iter : Expr} {ifs : List Expr} {scope : Scope} {own : List (Str × Nat)} {pos : Pos} {fi : FI} {fg : FG} {ft : FT} {fe : FE} {is : List Nat}
/-- the turns, the dict locked -/
theorem lck_of {i : Nat} {vs is : List Nat} (his : ∀ i ∈ is, i ∈ vs) {σ : L2.St} {H : Hp} {Q : VK} {I : Hp} {r : Env} {a : Addr} {o : Obj} {es : List (Key × V)} {kvs : List (D × D)} (rl : Rl g I H) (er : ER g I σ r) (h1 : r[i]? = some (some (.dct kvs))) (h2 : σ[i]? = some (some (.ref a))) (h3 : I a = some (.frz o (.dK es))) (h4 : DRk g I es kvs)
    (hlen : kvs.length ≤ 100000) {ys : List D} (hy : lcF fg ft fe (wipeE r vs) (kvs.map Prod.fst) = .ok ys) (q : endO g I H Q (.lst ys)) : tLc (tKeysL g i) (tFG g is fg) (tFT g X.mg E0 ft) (tW g X.mg E0 (wOf fe)) vs σ H Q := by
  refine ⟨I, r, a, o, es, kvs, rl, er, h1, h2, h3, h4, ?_⟩
  have src := src_keys h3 h4
  exact lc_turns (X := X) his er (by rw [List.length_map]; exact hlen) (lcF_W hy ⟨⟨ys, rfl⟩, q⟩) rl.stp src
theorem e_lcK (i : Nat) {x : Str} {px : Pos} (hc : X.calm = true) (hN : X.N.Nodup) (ok : BlkOk X.N X.env.scope scope own) (his : ∀ i ∈ is, i ∈ own.map (·.2)) (hg : ForBlk X scope fun B => PG B tg (tFG g is fg)) (ht : ForBlk X scope fun B => PTs B ifs (tFT g B.mg E0 ft))
    (he : ForBlk X scope fun B => PE B elt (tF g B.mg E0 fe)) (hs : ∀ y, foldedSetIterable (.Name x px) X.env y = pure y := by intro _; rfl) (hNi : X.N[i]? = some x := by rfl) (hv : Vis X.env.scope x := by first | exact Or.inl rfl | exact Or.inr (Or.inl rfl) | exact Or.inr (Or.inr rfl)) (hd : (x == ("__debug__" : Str)) = false := by decide)
    (hcd : (x == ("__classdict__" : Str)) = false := by decide) : PE X (.ListComp elt [⟨tg, .Name x px, ifs, 0⟩] scope pos) (tF g X.mg E (fLc (fIterK (fVar i)) fg ft fe (own.map (·.2)))) := by
  have core : PE X (.ListComp elt [⟨tg, .Name x px, ifs, 0⟩] scope pos) (tLc (tKeysL g i) (tFG g is fg) (tFT g X.mg E0 ft) (tW g X.mg E0 (wOf fe)) (own.map (·.2))) :=
    pe_lc hc hN (i_keysL i hNi hv hd hcd) ok hg ht (fun s H C cl fp => w_of (he s H C cl fp)) hs
  refine (core.either (pe_lock core)).imp fun σ H Q h => ?_
  obtain ⟨I, r, rl, er, h⟩ := h
  unfold fLc fIterK at h
  cases ev : fVar i r with
  | bad => rw [ev] at h; exact h.elim
  | exc c => unfold fVar at ev; split at ev <;> cases ev
  | ok d =>
    rw [ev] at h
    have hr : r[i]? = some (some d) := by
      unfold fVar at ev
      split at ev
      · rename_i d' e; cases ev; exact e
      · cases ev
    obtain ⟨v, e1, e2⟩ := er.get i d hr
    cases e2 with
    | dK hrd hk =>
      rename_i a es kvs
      have h : Pst g X.mg E (DR g) I H (if (kvs.map Prod.fst).length ≤ 100000 then (lcF fg ft fe (wipeE r (own.map (·.2))) (kvs.map Prod.fst)).bind fun ys => .ok (.lst ys) else .bad) Q := h
      split at h
      · rename_i hlen
        rw [List.length_map] at hlen
        cases ey : lcF fg ft fe (wipeE r (own.map (·.2))) (kvs.map Prod.fst) with
        | bad => rw [ey] at h; exact h.elim
        | exc c => exact (lcF_ne ey).elim
        | ok ys =>
          rw [ey] at h
          have h : ∀ v I' H', Stp g I H I' H' → DR g I' v (.lst ys) → Q v H' := h
          have hO : endO g I H Q (.lst ys) := endO_of fun v I' H' s x => h v I' H' s x
          rcases hrd with hI | ⟨o, hI⟩
          · refine .inr ⟨a, .dK es, rl.sub _ _ hI, trivial, fun od => ?_⟩
            have sw : Swp I (upd I a (.frz od (.dK es))) a es := swp_upd (.inl hI) (.inr ⟨od, rfl⟩)
            have rl1 := rl.swap (o := .frz od (.dK es)) hI (fun ps e => by cases e) code_ne_dK (fun ps e => by cases e)
            refine lck_of his rl1 (er.swp sw) hr e1 upd_same (hk.swp sw) hlen ey (endO_of fun v I' H' s x => ?_)
            obtain ⟨k', s'⟩ := s.unlock rl hI
            exact ⟨k', h v _ _ s' (x.swp (swp_upd (.inr ⟨od, s.mono _ _ upd_same⟩) (.inl rfl)))⟩
          · exact .inl (lck_of his rl er hr e1 hI hk hlen ey hO)
      · exact h.elim
    | _ => exact h.elim
end
end FW
/-! max of a list or tuple of ints; dict(pairs); len(set(x)), x a list of tuples. -/
namespace FW
open PySem PySem.Spec PyProof.Rows L2 LamX
section
variable {X : Cx} {g : Gd} {E : XK} {a e : Expr} {es : List Expr} {fa : FE} {kk : FA} {p pos : Pos}
/-! ### max -/
theorem reads_ints {h : Heap} : ∀ {ns : List Int} {its : List Value}, Vals (ns.map V.int) its → ReadsAll h its (ns.map PyData.int) []
  | [], _, .nil => .nil
  | n :: ns, _, .cons r t => by
    obtain ⟨tk, rfl⟩ := r
    exact ReadsAll.cons (as := []) (Reads.int n tk) (reads_ints t)
theorem alike_int (i j : Int) : PySem.W.alike (.int i) (.int j) = true := rfl
theorem alikeAll_ints (ns : List Int) : PySem.W.AlikeAll (ns.map PyData.int) := ⟨fun x hx y hy => by
  obtain ⟨i, _, rfl⟩ := List.mem_map.mp hx
  obtain ⟨j, _, rfl⟩ := List.mem_map.mp hy
  exact alike_int i j, fun x hx e => by
  obtain ⟨i, _, rfl⟩ := List.mem_map.mp hx
  cases e⟩
/-! ### dict(pairs) -/
theorem sqt_sub {K : PySem.W.Frag} {I H : Hp} (s : Sub I H) {a : Addr} {xs : List V} (h : SqT K I a xs) : SqT K H a xs := h.elim (fun z => .inl (s.rd z)) .inr
/-! ### len(set(x)), x a list of tuples -/
end
end FW
/-! Dicts of one's own: copies, two or three at once, pop; what is one's own is given up ahead of a statement. -/
namespace FW
open PySem PySem.Spec PyProof.Rows L2 LamX
section
variable {X : Cx} {g : Gd} {E : XK} {e : Expr} {es : List Expr} {fa : FE} {p pos : Pos}
end
/-! ### two, three at once -/
section
variable {X : Cx} {g : Gd} {E : XK} {i j l : Nat} {x y z : Str} {a b c : Expr} {w1 w2 w3 : WE} {px py pz pt pos pt2 : Pos} {kt k2 : Nat}
theorem SRI.fresh {I0 H0 I H : Hp} {r : Env2} {σ : L2.St} (z : SRI g I0 H0 I r σ H) {p : Addr} (n : NT H p) : ∀ (m : Nat) (e : D), r[m]? = some (Sl.own e) → σ[m]? ≠ some (some (.ref p)) := fun m e hm hs => by
  obtain ⟨p', o, q1, _, _, _, q5, q6⟩ := z.own m e hm
  rw [hs] at q1; cases q1
  exact n.none_of q5 (chg_tbl q6.chg)
end
/-! ### pop -/
section
variable {X : Cx} {g : Gd} {E : XK} {wk : WE} {e : Expr} {pos : Pos}
end
/-! ### by functions -/
end FW
/-! sorted of a list of tuples of whole numbers. -/
namespace FW
open PySem PySem.Spec PyProof.Rows L2 LamX
/-! ### sorting by an order, in plain words -/
section
variable {α : Type} {le : α → α → Bool}
theorem insB_perm (x : α) : ∀ l : List α, (insB le x l).Perm (x :: l)
  | [] => List.Perm.refl _
  | y :: r => by
    rw [insB]
    split
    · exact List.Perm.refl _
    · exact ((insB_perm x r).cons y).trans (List.Perm.swap x y r)
theorem sortB_perm : ∀ l : List α, (sortB le l).Perm l
  | [] => List.Perm.refl _
  | x :: r => (insB_perm x _).trans ((sortB_perm r).cons x)
theorem insB_pw (O : TotO le) (x : α) : ∀ {l : List α}, l.Pairwise (fun a b => le a b = true) → (insB le x l).Pairwise fun a b => le a b = true
  | [], _ => List.pairwise_singleton ..
  | y :: r, h => by
    rw [List.pairwise_cons] at h
    rw [insB]
    split
    · rename_i c
      refine List.pairwise_cons.mpr ⟨fun z hz => ?_, List.pairwise_cons.mpr h⟩
      rcases List.mem_cons.mp hz with e | hz
      · rw [e]; exact c
      · exact O.tr _ _ _ c (h.1 z hz)
    · rename_i c
      refine List.pairwise_cons.mpr ⟨fun z hz => ?_, insB_pw O x h.2⟩
      rcases List.mem_cons.mp ((insB_perm x r).mem_iff.mp hz) with e | hz
      · have := O.to x y
        rw [Bool.or_eq_true] at this
        rw [e]; exact this.resolve_left c
      · exact h.1 z hz
theorem sortB_pw (O : TotO le) : ∀ l : List α, (sortB le l).Pairwise fun a b => le a b = true
  | [] => List.Pairwise.nil
  | x :: r => insB_pw O x (sortB_pw O r)
theorem pw_uniq (O : TotO le) : ∀ {l m : List α}, l.Pairwise (fun a b => le a b = true) → m.Pairwise (fun a b => le a b = true) → l.Perm m → l = m
  | [], m, _, _, p => by rw [List.nil_perm.mp p]
  | x :: l, [], _, _, p => by have := p.length_eq; simp at this
  | x :: l, y :: m, h1, h2, p => by
    rw [List.pairwise_cons] at h1 h2
    have e : x = y := by
      have hx : x ∈ y :: m := p.mem_iff.mp List.mem_cons_self
      have hy : y ∈ x :: l := p.mem_iff.mpr List.mem_cons_self
      rcases List.mem_cons.mp hx with e | hx
      · exact e
      · rcases List.mem_cons.mp hy with e | hy
        · exact e.symm
        · exact O.an _ _ (h1.1 y hy) (h2.1 x hx)
    subst e
    rw [pw_uniq O h1.2 h2.2 (List.Perm.cons_inv p)]
theorem merge_eq (O : TotO le) (l : List α) : l.mergeSort le = sortB le l := by
  refine pw_uniq O ?_ (sortB_pw O l) ((List.mergeSort_perm l le).trans (sortB_perm l).symm)
  exact List.pairwise_mergeSort (fun a b c h1 h2 => O.tr a b c h1 h2) (fun a b => O.to a b) l
end
/-! ### rows of whole numbers -/
theorem dataLe_tups {β : Type} (x : β → List Int) : PySem.W.dataLe false (fun b => .tuple ((x b).map .int)) = fun p q => leR (x p) (x q) := by
  funext p q
  show (!PySem.W.dataLt (.tuple ((x q).map .int)) (.tuple ((x p).map .int))) = _
  rw [PySem.W.dataLt_tuple, leR_le]
  show (!PySem.W.rowLt ((x q).map .int) ((x p).map .int)) = _
  rw [PySem.W.dataLt_ints]
  by_cases h : x q < x p
  · have h' : ¬ x p ≤ x q := fun r => List.not_lt.mpr r h
    simp [h, h']
  · have h' : x p ≤ x q := List.not_lt.mp h
    simp [h, h']
theorem intsOf_eq : ∀ {ds : List D} {ns : List Int}, intsOf ds = some ns → ds = ns.map D.int
  | [], ns, h => by cases h; rfl
  | d :: ds, ns, h => by
    cases d with
    | int i =>
      have h : (intsOf ds).map (i :: ·) = some ns := h
      cases q : intsOf ds with
      | none => rw [q] at h; cases h
      | some zs => rw [q] at h; cases h; rw [intsOf_eq q]; rfl
    | _ => cases h
theorem rowsD_eq : ∀ {ds : List D} {rs : List (List Int)}, rowsD ds = some rs → ds = rs.map tupR ∧ ∀ r ∈ rs, ∃ n ns, r = n :: ns
  | [], rs, h => by cases h; exact ⟨rfl, fun r hr => by cases hr⟩
  | d :: ds, rs, h => by
    cases d with
    | tup xs =>
      have h : (match intsOf xs with | some (n :: ns) => (rowsD ds).map ((n :: ns) :: ·) | _ => none) = some rs := h
      split at h
      · rename_i n ns e
        cases q : rowsD ds with
        | none => rw [q] at h; cases h
        | some zs =>
          rw [q] at h; cases h
          obtain ⟨e1, e2⟩ := rowsD_eq q
          refine ⟨by rw [e1, intsOf_eq e]; rfl, fun r hr => ?_⟩
          rcases List.mem_cons.mp hr with z | z
          · exact ⟨n, ns, z⟩
          · exact e2 r z
      · cases h
    | _ => cases h
section
variable {X : Cx} {g : Gd} {E : XK} {I H : Hp} {pins : List (Addr × Obj)} {σ : L2.St} {s : Shared}
/-- u stands for the row -/
def StR (g : Gd) (I : Hp) (u : Value) (row : List Int) : Prop := ∃ v, RelV v u ∧ DR g I v (tupR row)
theorem each_rows : ∀ {vs : List V} {rs : List (List Int)} {us : List Value}, DRs g I vs (rs.map tupR) → Vals vs us → PySem.W.EachIs (StR g I) us rs
  | _, [], _, .nil, .nil => .nil
  | _, r :: rs, _, .cons h t, .cons q q2 => .cons ⟨_, q, h⟩ (each_rows t q2)
theorem rows_out : ∀ {us : List Value} {rs : List (List Int)}, PySem.W.EachIs (StR g I) us rs → ∃ vs, Vals vs us ∧ DRs g I vs (rs.map tupR)
  | _, _, .nil => ⟨[], .nil, .nil⟩
  | _, _, .cons ⟨v, h1, h2⟩ t => by
    obtain ⟨vs, q1, q2⟩ := rows_out t
    exact ⟨v :: vs, .cons h1 q1, .cons h2 q2⟩
theorem lays_intsR : ∀ ns : List Int, D.lays (ns.map D.int) = true
  | [] => by rw [List.map_nil, D.lays]
  | n :: ns => by rw [List.map_cons, D.lays, D.lay, lays_intsR ns]; rfl
theorem py_ints : ∀ ns : List Int, D.pys (ns.map D.int) = ns.map PyData.int
  | [] => by rw [List.map_nil, D.pys]; rfl
  | n :: ns => by rw [List.map_cons, D.pys, D.py, py_ints ns]; rfl
theorem StR.reads (J : Inv X pins σ H s) (rl : Rl g I H) {u : Value} {row : List Int} (h : StR g I u row) : ∃ as, Reads s.heap u (.tuple (row.map .int)) as := by
  obtain ⟨v, h1, h2⟩ := h
  have := Dp.reads J (tupR row).py v u ((h2.mono rl.sub).dp X.K (by rw [D.lay]; exact lays_intsR row)) h1
  rw [D.py, py_ints] at this
  exact this
theorem e_sortR {k : Nat} {a : Expr} {fa : FE} {p pos : Pos} (hr : Room k X.A) (hg : Gl X "sorted") (hm : X.mg "sorted" = none) (ha : PE X a (tF g X.mg E fa))
    (na : starEach [a] X.env = (false, eval a X.env) :: starEach [] X.env := by rfl) : PE X (.Call (.Name "sorted" p) [a] [] pos) (tF g X.mg E (fSortR fa)) := by
  refine ⟨fun pins s σ H Q J h => ?_⟩
  obtain ⟨I, r, rl, er, h⟩ := h
  refine Call_ (ld_blt J hg hm (by decide +kernel : bootBuiltins "sorted" = some (.builtin "sorted")) ?_)
  refine PyProof.Rows.callWith_builtin1 (PyProof.Rows.args_cons (thn (ha.run pins s σ H _ J ⟨I, r, rl, er, Pst.first h fun d v I1 H1 _ s1 x1 h1 => (⟨I1, d, s1, x1, h1⟩ : ∃ I1 d, Stp g I H I1 H1 ∧ DR g I1 v d ∧ Pst g X.mg E (DR g) I1 H1 (dSortR d) Q)⟩) fun u s1 ⟨x, H1, J1, r1, q1⟩ => PyProof.Rows.args_nil ?_) na) na rfl
  obtain ⟨I1, d, st, x1, h1⟩ := q1
  unfold dSortR at h1
  split at h1
  · rename_i ds
    split at h1
    · rename_i rs ers
      split at h1
      · rename_i hlen
        obtain ⟨rfl, hne⟩ := rowsD_eq ers
        cases x1 with
        | lst hI t =>
          cases r1
          obtain ⟨its, rv, hL, hz⟩ := J1.list (SqL.of (st.rl.sub _ _ hI))
          have ea := each_rows t rv
          have hal : PySem.W.AllAlike (rs.map fun row => PyData.tuple (row.map .int)) := PySem.W.AllAlike.of fun b b' => by rw [PySem.W.alike]; exact PySem.W.alike_ints b b'
          refine PySem.W.sorted_data (bs := rs) (enc := fun row => .tuple (row.map .int)) (R := StR g I1) hL.isList ea (ea.mono fun u row q => q.reads J1 st.rl) hal (.inl fun d hd => ?_) (Nat.le_trans hlen (by rw [sizeLine_eq]; decide)) (fun b hb => ?_) fun out hol hout => ?_
          · obtain ⟨row, hr', rfl⟩ := List.mem_map.mp hd
            obtain ⟨n, ns, rfl⟩ := hne row hr'
            exact ⟨.int n, ns.map .int, rfl⟩
          · show X.A.units + 2 + (PyData.depthAll (b.map .int) + 1) < cLine
            rw [PySem.W.depth_ints]
            have := hr.un
            omega
          · rw [dataLe_tups fun row => row, merge_eq totR] at hout
            obtain ⟨ys, y1, y2⟩ := rows_out hout
            obtain ⟨ep, he'⟩ := PyProof.Rows.sortedAll_at s1.heap its (List.toArray out)
            have hle : ys.length ≤ sizeLine := by rw [y1.length, hol]; exact Nat.le_trans hlen (by rw [sizeLine_eq]; decide)
            have hnS : H1 (s1.heap.objs.size + 1) = none := J1.hok.fresh (Nat.le_succ _)
            refine ⟨.ref _, upd H1 (s1.heap.objs.size + 1) (.lst ys), J1.laid (t' := s1.toks) (fun _ _ => PyProof.Rows.sortedAll_old) (Nat.le_succ _) ⟨hle, out, ep, y1, he'⟩, rfl, ?_⟩
            have s2 := st.rl.put (o := .lst ys) hnS
            exact h1 _ _ _ s2 (.lst upd_same (y2.mono s2.mono))
      · exact h1.elim
    · exact h1.elim
  · exact h1.elim
end
end FW
/-! sorted(set(x)), x a list of tuples of counts. -/
namespace FW
open PySem PySem.Spec PyProof.Rows L2 LamX
theorem pow_nn : ∀ n : Nat, (0 : Int) ≤ BB ^ n
  | 0 => by decide
  | n + 1 => by rw [Int.pow_succ]; exact Int.mul_nonneg (pow_nn n) (by decide)
theorem code_bd : ∀ {ns : List Int}, TS.Bd BB ns → 0 ≤ TS.code BB ns ∧ TS.code BB ns < BB ^ ns.length
  | [], _ => by rw [TS.code]; decide
  | n :: ns, h => by
    obtain ⟨h1, h2⟩ := code_bd h.tail
    obtain ⟨q1, q2⟩ := h.head
    rw [TS.code, List.length_cons, Int.pow_succ]
    have p := pow_nn ns.length
    have m1 : 0 ≤ n * BB ^ ns.length := Int.mul_nonneg q1 p
    have m2 : n * BB ^ ns.length ≤ (BB - 1) * BB ^ ns.length := Int.mul_le_mul_of_nonneg_right (by omega) p
    rw [Int.sub_mul, Int.one_mul, Int.mul_comm BB] at m2
    constructor
    · omega
    · omega
theorem code_le : ∀ {xs ys : List Int}, xs.length = ys.length → TS.Bd BB xs → TS.Bd BB ys → TS.code BB xs ≤ TS.code BB ys → leR xs ys = true
  | [], _, _, _, _, _ => by rw [leR]
  | x :: xs, [], hl, _, _, _ => by cases hl
  | x :: xs, y :: ys, hl, h1, h2, h => by
    have hl' : xs.length = ys.length := by simpa using hl
    rw [TS.code, TS.code, hl'] at h
    obtain ⟨a1, a2⟩ := code_bd h1.tail
    obtain ⟨b1, b2⟩ := code_bd h2.tail
    rw [hl'] at a2
    have p := pow_nn ys.length
    rw [leR]
    by_cases e : x = y
    · subst e
      rw [if_pos rfl]
      exact code_le hl' h1.tail h2.tail (by omega)
    · rw [if_neg e]
      refine decide_eq_true ?_
      rcases Int.lt_trichotomy x y with c | c | c
      · exact c
      · exact absurd c e
      · have m : (y + 1) * BB ^ ys.length ≤ x * BB ^ ys.length := Int.mul_le_mul_of_nonneg_right (by omega) p
        rw [Int.add_mul, Int.one_mul] at m
        omega
theorem once_memR : ∀ {l : List (List Int)} {x : List Int}, x ∈ onceR l ↔ x ∈ l
  | [], x => Iff.rfl
  | y :: l, x => by
    rw [onceR]
    split
    · rename_i h
      rw [once_memR, List.mem_cons]
      exact ⟨.inr, fun z => z.elim (fun e => by rw [e]; exact h) id⟩
    · rw [List.mem_cons, List.mem_cons, once_memR]
theorem once_ndR : ∀ l : List (List Int), (onceR l).Nodup
  | [] => List.nodup_nil
  | y :: l => by
    rw [onceR]
    split
    · exact once_ndR l
    · rename_i h
      exact List.nodup_cons.mpr ⟨fun z => h (once_memR.mp z), once_ndR l⟩
theorem nd_perm {α : Type} [DecidableEq α] {l m : List α} (h1 : l.Nodup) (h2 : m.Nodup) (h : ∀ x, x ∈ l ↔ x ∈ m) : l.Perm m := by
  refine List.perm_iff_count.mpr fun x => ?_
  by_cases hx : x ∈ l
  · have a1 := List.nodup_iff_count.mp h1 x
    have a2 := List.count_pos_iff.mpr hx
    have b1 := List.nodup_iff_count.mp h2 x
    have b2 := List.count_pos_iff.mpr ((h x).mp hx)
    omega
  · rw [List.count_eq_zero.mpr hx, List.count_eq_zero.mpr fun z => hx ((h x).mpr z)]
theorem goodR_ok {rs : List (List Int)} (h : goodR rs = true) (hn : ∀ r ∈ rs, ∃ n ns, r = n :: ns) : ∃ d, 1 ≤ d ∧ ∀ r ∈ rs, r.length = d ∧ TS.Bd BB r := by
  cases rs with
  | nil => exact ⟨1, Nat.le_refl _, fun r hr => by cases hr⟩
  | cons r rs =>
    obtain ⟨n, ns, rfl⟩ := hn r List.mem_cons_self
    refine ⟨(n :: ns).length, by simp, fun x hx => ?_⟩
    have := List.all_eq_true.mp h x hx
    rw [Bool.and_eq_true] at this
    refine ⟨eq_of_beq this.1, fun m hm => ?_⟩
    have := List.all_eq_true.mp this.2 m hm
    rw [Bool.and_eq_true, decide_eq_true_iff, decide_eq_true_iff] at this
    exact this
section
variable {X : Cx} {g : Gd} {E : XK} {I H : Hp}
/-- the rows with their places -/
theorem rows_at : ∀ {vs : List V} {rs : List (List Int)}, DRs g I vs (rs.map tupR) → ∃ ks : List (Addr × List Int), vs = (ks.map fun p => V.ref p.1) ∧ rs = ks.map (·.2) ∧ ∀ p ∈ ks, SqT X.K I p.1 (p.2.map V.int) ∧ DR g I (.ref p.1) (tupR p.2)
  | _, [], .nil => ⟨[], rfl, rfl, fun p hp => by cases hp⟩
  | _, r :: rs, .cons h t => by
    obtain ⟨ks, e1, e2, e3⟩ := rows_at t
    have h' := h
    cases h with
    | tup hx hu tt =>
      rename_i a xs u
      have ei : xs = r.map V.int := by
        have : ∀ {xs : List V} {ns : List Int}, DRs g I xs (ns.map D.int) → xs = ns.map V.int := by
          intro xs ns q
          induction ns generalizing xs with
          | nil => cases q; rfl
          | cons n ns ih => cases q with | cons q1 q2 => cases q1; rw [ih q2]; rfl
        exact this tt
      subst ei
      refine ⟨(a, r) :: ks, by rw [e1]; rfl, by rw [e2]; rfl, fun p hp => ?_⟩
      rcases List.mem_cons.mp hp with z | z
      · rw [z]; exact ⟨hu.sqt hx, h'⟩
      · exact e3 p z
theorem drs_at {J : Hp} : ∀ {L : List (Addr × List Int)}, (∀ p ∈ L, DR g J (.ref p.1) (tupR p.2)) → DRs g J (L.map fun p => V.ref p.1) ((L.map (·.2)).map tupR)
  | [], _ => .nil
  | p :: L, h => .cons (h p List.mem_cons_self) (drs_at fun q hq => h q (List.mem_cons_of_mem _ hq))
theorem e_sortsetR {k : Nat} {a : Expr} {fa : FE} {p p2 q pos : Pos} (hr : Room k X.A) (hc : X.calm = true) (hg : Gl X "sorted") (hm : X.mg "sorted" = none) (hg2 : Gl X "set") (hm2 : X.mg "set" = none) (ha : PE X a (tF g X.mg E fa))
    (na : starEach [a] X.env = (false, eval a X.env) :: starEach [] X.env := by rfl) (na2 : starEach [.Call (.Name "set" p2) [a] [] q] X.env = (false, eval (.Call (.Name "set" p2) [a] [] q) X.env) :: starEach [] X.env := by rfl) : PE X (.Call (.Name "sorted" p) [.Call (.Name "set" p2) [a] [] q] [] pos) (tF g X.mg E (fSortSetR fa)) :=
  (pe_callB (cr_sortedT hc) hg hm (by decide +kernel) (pa_cons (pe_callTy (cr_setOfT hc (by have := hr.un; omega)) hg2 hm2 (by decide +kernel) (pa_cons ha pa_nil na) (by decide) (by decide) na rfl) pa_nil na2) (by decide) (by decide) na2 rfl).imp fun σ H Q h => by
    obtain ⟨I, r, rl, er, h⟩ := h
    unfold fSortSetR at h
    refine ⟨I, r, rl, er, Pst.first h fun d v I1 H1 _ st x1 h1 => ?_⟩
    unfold dSortSetR at h1
    split at h1
    · split at h1
      · rename_i rs ers
        split at h1
        · rename_i hgd
          obtain ⟨rfl, hne⟩ := rowsD_eq ers
          obtain ⟨dl, hd1, hd⟩ := goodR_ok hgd.2 hne
          cases x1 with
          | lst hI t =>
            rename_i l vs
            obtain ⟨ks, e1, e2, e3⟩ := rows_at (X := X) t
            subst e1
            refine ⟨l, ks, rfl, SqL.of (st.rl.sub _ _ hI), fun p hp => sqt_sub st.rl.sub (e3 p hp).1, by have := hgd.1; rw [e2, List.length_map] at this; exact this, fun sa L hsa hL1 hL2 => ?_⟩
            have s1 : Stp g I1 H1 I1 (upd H1 sa (SetTO X.prog X.w sa L)) := st.rl.lay hsa
            have rin : ∀ p ∈ L, p.2 ∈ rs := fun p hp => by rw [e2]; exact List.mem_map_of_mem (hL1 p hp)
            refine ⟨sa, L, dl, BB, rfl, upd_same, fun p hp => sqt_sub s1.rl.sub (e3 p (hL1 p hp)).1, hd1, fun p hp => hd _ (rin p hp), fun L' pp pm ndL _ pw hpn => ?_⟩
            have inL : ∀ p ∈ L', p ∈ L := fun p hp => pm.mem_iff.mp hp
            have eq : L'.map (·.2) = sortB leR (onceR rs) := by
              refine pw_uniq totR ?_ (sortB_pw totR _) ?_
              · rw [List.pairwise_map]
                exact List.Pairwise.imp_of_mem (fun {x y} hx hy hxy => code_le (by rw [(hd _ (rin x (inL x hx))).1, (hd _ (rin y (inL y hy))).1]) (hd _ (rin x (inL x hx))).2 (hd _ (rin y (inL y hy))).2 hxy) pw
              · refine (nd_perm ndL (once_ndR rs) fun x => ?_).trans (sortB_perm _).symm
                rw [once_memR]
                constructor
                · intro hx
                  obtain ⟨p, hp, rfl⟩ := List.mem_map.mp hx
                  exact rin p (inL p hp)
                · intro hx
                  rw [e2] at hx
                  obtain ⟨p, hp, rfl⟩ := List.mem_map.mp hx
                  obtain ⟨q, hq, e⟩ := List.mem_map.mp (hL2 p hp)
                  exact List.mem_map.mpr ⟨q, pm.mem_iff.mpr hq, e⟩
            have s2 := s1.rl.put (o := .lst (L'.map fun q => V.ref q.1)) hpn
            refine h1 _ _ _ (s1.trans s2) (.lst upd_same ?_)
            rw [← eq]
            exact drs_at fun p hp => ((e3 p (hL1 p (inL p hp))).2.mono s1.mono).mono s2.mono
        · exact h1.elim
      · exact h1.elim
    · exact h1.elim
end
end FW
/-! sorted(x, key=lambda row: (sum(row), row)), x a list of tuples of ints. -/
namespace FW
open PySem PySem.Spec PyProof.Rows L2 LamX
/-! ### by the sum, then as rows -/
theorem totK : TotO leK where
  tr := fun a b c h1 h2 => by
    unfold leK at *
    by_cases e1 : a.sum = b.sum
    · rw [if_pos e1] at h1
      by_cases e2 : b.sum = c.sum
      · rw [if_pos e2] at h2
        rw [if_pos (e1.trans e2)]
        exact totR.tr _ _ _ h1 h2
      · rw [if_neg e2, decide_eq_true_iff] at h2
        rw [if_neg (by omega), decide_eq_true_iff]; omega
    · rw [if_neg e1, decide_eq_true_iff] at h1
      by_cases e2 : b.sum = c.sum
      · rw [if_neg (by omega), decide_eq_true_iff]; omega
      · rw [if_neg e2, decide_eq_true_iff] at h2
        rw [if_neg (by omega), decide_eq_true_iff]; omega
  to := fun a b => by
    unfold leK
    by_cases e : a.sum = b.sum
    · rw [if_pos e, if_pos e.symm]; exact totR.to a b
    · rw [if_neg e, if_neg (Ne.symm e), Bool.or_eq_true, decide_eq_true_iff, decide_eq_true_iff]; omega
  an := fun a b h1 h2 => by
    unfold leK at *
    by_cases e : a.sum = b.sum
    · rw [if_pos e] at h1
      rw [if_pos e.symm] at h2
      exact totR.an a b h1 h2
    · rw [if_neg e, decide_eq_true_iff] at h1
      rw [if_neg (Ne.symm e), decide_eq_true_iff] at h2
      omega
abbrev keyP (row : List Int) : PyData := .tuple [.int row.sum, .tuple (row.map .int)]
theorem alike_rows (a b : List Int) : PySem.W.alike (.tuple (a.map .int)) (.tuple (b.map .int)) = true := by rw [PySem.W.alike]; exact PySem.W.alike_ints a b
theorem eqv_rows : ∀ a b : List Int, PyData.eqv (.tuple (a.map .int)) (.tuple (b.map .int)) = decide (a = b) := by
  intro a b
  have h := D.eqv_py (tupR a) (tupR b) (by rw [D.lay]; exact lays_intsR a) (by rw [D.lay]; exact lays_intsR b)
  rw [D.py, D.py, py_ints, py_ints, D.eqv] at h
  rw [h]
  have : ∀ xs ys : List Int, D.eqvs (xs.map D.int) (ys.map D.int) = decide (xs = ys) := by
    intro xs
    induction xs with
    | nil => intro ys; cases ys <;> simp [D.eqvs]
    | cons x xs ih =>
      intro ys
      cases ys with
      | nil => simp [D.eqvs]
      | cons y ys => rw [List.map_cons, List.map_cons, D.eqvs, D.eqv, ih]; by_cases e : x = y <;> simp [e]
  exact this a b
theorem dataLe_key : PySem.W.dataLe false keyP = leK := by
  funext p q
  show (!PySem.W.dataLt (keyP q) (keyP p)) = _
  rw [PySem.W.dataLt_pair (by simp [PySem.W.alike]) (alike_rows _ _), PySem.W.dataLt_int, eqv_rows]
  have hr := congrFun (congrFun (dataLe_tups fun row : List Int => row) p) q
  have hr : (!PySem.W.dataLt (.tuple (q.map .int)) (.tuple (p.map .int))) = leR p q := hr
  unfold leK
  simp only [PyData.eqv, beq_iff_eq]
  by_cases e : q.sum = p.sum
  · rw [if_pos e, if_pos e.symm]
    by_cases e2 : q = p
    · subst e2
      have := totR.to q q
      rw [Bool.or_self] at this
      rw [this]; simp
    · rw [if_neg (by simp [e2])]; exact hr
  · rw [if_neg e, if_neg (Ne.symm e)]
    by_cases c : q.sum < p.sum
    · rw [decide_eq_true c, decide_eq_false (by omega)]; rfl
    · rw [decide_eq_false c, decide_eq_true (by omega)]; rfl
/-! ### the lambda called -/
section
variable {X : Cx} {pins : List (Addr × Obj)} {σ : L2.St} {H : Hp} {s : Shared}
abbrev sumB (x : Str) (p1 p2 p3 p4 p5 : Pos) (kk : Nat) : Expr := .Tuple [.Call (.Name "sum" p1) [.Name x p2] [] p3, .Name x p4] kk p5
theorem lam_turn {A : Around} {f c' t : Addr} {params : Arguments} {scope : Scope} {pm ctv : Value} {q x : Str} {p1 p2 p3 p4 p5 : Pos} {kk : Nat} {ns : List Int} (J : Inv X pins σ H s)
    (hf : s.heap.get? f = some (PySem.W.kla_obj "<lambda>" q params (sumB x p1 p2 p3 p4 p5 kk) scope [] pm c' ctv)) (hco : H c' = some (CodeO c' q)) (S : FnScope [x] [x] scope) (hx : scope.names.lookup x = some .local) (hd : (x == ("__debug__" : Str)) = false)
    (hgl : ∀ L, Gl (cxOf C8.CX0 X.prog X.w X.K X.mg X.base [x] q scope f (.ref c') A X.stack s L C8.E0) "sum") (hm : X.mg "sum" = none) (hA : A.handled = none) (hroom : A.depth < recursionLimit) (hfr : A.frames = some X.stack)
    (hbind : ∀ v, bindArgs (PySem.W.kla_fn "<lambda>" q params (sumB x p1 p2 p3 p4 p5 kk) scope [] pm (.ref c') ctv) ⟨[v], []⟩ = pure [(x, v)]) (ht : SqT X.K H t (ns.map V.int)) :
    wpAny (model X.prog X.w) A (call (.ref f) [.ref t]) (PySem.W.KeyPure (keyP ns) s) (fun _ _ => False) s := by
  have e0 : Env0 X.prog X.w X.K X.mg X.base A X.stack s H := let e := J.env0; ⟨hfr, e.mod, e.bs, e.bsz, e.funs, e.frf, e.hok, e.bare⟩
  obtain ⟨⟨oc, vs, tq, hoc, hdc, hvc⟩, _, _⟩ := J.hok c' _ hco
  have lim : s.heap.NoLimit := e0.mod.nolimit.keeps fun b o e => (e0.bs b o e).1
  refine wpAny_call (PySem.W.kla_callFunE hroom hf rfl S.co S.gen rfl ⟨c', oc, vs, tq, rfl, hoc, hdc, hvc⟩ ?_)
  rw [hbind]
  refine wpAny_pure (wpAny_newFunctionEnv_cells S.kind (fun y hy => .inl ?_) fun env he s1 x' => ?_)
  · rw [List.mem_singleton.mp hy]; exact hx
  subst he
  have I : Inv (cxOf C8.CX0 X.prog X.w X.K X.mg X.base [x] q scope f (.ref c') A X.stack s H C8.E0) [] (L2.start [x] [.ref t]) H s1 := inv_start S hA e0 rfl (.cons (show RelV (.ref t) (.ref t) from rfl) .nil) x'
  refine ⟨lim.keeps x'.toInCall.keep, PySem.W.kla_codeExpr ?_⟩
  obtain ⟨h1, tk1, rfl, k1⟩ := x'.done
  have nameL : ∀ {A' : Around} {E : Value → Shared → Prop} {pp : Pos} {hp : Heap} {tk : Nat} {Q : Value → Shared → Prop}, Inv (cxOf C8.CX0 X.prog X.w X.K X.mg X.base [x] q scope f (.ref c') A X.stack s H C8.E0) [] (L2.start [x] [.ref t]) H { s with heap := hp, toks := tk } → Q (.ref t) { s with heap := hp, toks := tk } → wpAny (model X.prog X.w) A' (eval (.Name x pp) (cxOf C8.CX0 X.prog X.w X.K X.mg X.base [x] q scope f (.ref c') A X.stack s H C8.E0).env) Q E { s with heap := hp, toks := tk } := fun {A' E pp hp tk Q} J2 hq => by
    obtain ⟨m, hn, hl⟩ := J2.loc
    obtain ⟨u, r, l⟩ := hl 0 x (.ref t) rfl rfl (.inl hx)
    obtain rfl : u = Value.ref t := r
    rcases l with ⟨hk, hm2⟩ | ⟨hk, c, hc, hcell⟩
    · exact wpAny_Name (wpAny_loadName_local J2.ok.kind hk hn hm2 hq) hd
    · have hk' : scope.names.lookup x = some .cell ∨ scope.names.lookup x = some .free := hk
      rw [hx] at hk'
      rcases hk' with z | z <;> cases z
  refine wpAny_Tuple_spliced ?_
  show wpAny _ _ (spliced ((false, eval (.Call (.Name "sum" p1) [.Name x p2] [] p3) (cxOf C8.CX0 X.prog X.w X.K X.mg X.base [x] q scope f (.ref c') A X.stack s H C8.E0).env) :: (false, eval (.Name x p4) (cxOf C8.CX0 X.prog X.w X.K X.mg X.base [x] q scope f (.ref c') A X.stack s H C8.E0).env) :: [])) _ _ _
  refine Calls.spliced_cons ?_
  refine Call_ (ld_blt I (hgl H) hm (by decide +kernel : bootBuiltins "sum" = some (.builtin "sum")) ?_)
  refine PyProof.Rows.callWith_builtin1 (PyProof.Rows.args_cons (nameL I (PyProof.Rows.args_nil ?_)) rfl) rfl rfl
  obtain ⟨its, rv, tp, _⟩ := I.tuple ht
  refine sumT_raw hA tp rv.ints fun h2 tk2 t' k2 => ?_
  have I2 : Inv (cxOf C8.CX0 X.prog X.w X.K X.mg X.base [x] q scope f (.ref c') A X.stack s H C8.E0) [] (L2.start [x] [.ref t]) H { s with heap := h2, toks := tk2 } := I.kept k2
  refine Calls.spliced_cons (nameL I2 (Calls.spliced_nil ⟨by show 2 ≤ sizeLine; decide, ?_⟩))
  refine ⟨h2.push { cls := .type "tuple", data := .seq #[.int ns.sum t', .ref t] }, tk2, rfl, fun b o e => Heap.get?_push_of_some _ (k2 _ _ (k1 _ _ e)), ?_⟩
  obtain ⟨its2, rv2, ⟨o2, ho2, hc2, n2, hd2⟩, _⟩ := I2.tuple ht
  have rt : Reads (h2.push { cls := .type "tuple", data := .seq #[.int ns.sum t', .ref t] }) (.ref t) (.tuple (ns.map .int)) [] := Reads.tuple (Heap.get?_push_of_some _ ho2) hc2 hd2 (by rw [List.toList_toArray]; exact reads_ints rv2)
  exact Reads.tuple (Heap.get?_push_size _ rfl) rfl rfl (ReadsAll.cons (as := []) (Reads.int _ _) (ReadsAll.cons (as := []) rt .nil))
end
end FW
/-! sorted(x, key=lambda row: (sum(row), row)) as an expression. -/
namespace FW
open PySem PySem.Spec PyProof.Rows L2 LamX
/-- the def's own table of code objects, for its lambda -/
structure LamT (X : Cx) (T : List (Addr × Str)) : Prop where
  ex : ∃ c P, TabB X.base X.mg c P ∧ X.env.code = .ref c ∧ (P, X.env.qual ++ "<lambda>") ∈ T ∧ ∀ p ∈ T, p.1 = P → p.2 = X.env.qual ++ "<lambda>"
section
variable {X : Cx} {g : Gd} {E : XK}
theorem e_sortK {k : Nat} {a : Expr} {fa : FE} {params : Arguments} {scope : Scope} {x : Str} {p pos lpos kpos p1 p2 p3 p4 p5 : Pos} {kk : Nat} (hr : Room (k + 1) X.A) (hc : X.calm = true) (hg : Gl X "sorted") (hm : X.mg "sorted" = none) (hms : X.mg "sum" = none) (ha : PE X a (tF g X.mg E fa)) (LT : LamT X g.T)
    (S : FnScope [x] [x] scope) (hx : scope.names.lookup x = some .local := by rfl) (hd : (x == ("__debug__" : Str)) = false := by decide)
    (hgl : ∀ (f c' : Addr) (A : Around) (s : Shared) (L : Hp), Gl (cxOf C8.CX0 X.prog X.w X.K X.mg X.base [x] (X.env.qual ++ "<lambda>") scope f (.ref c') A X.stack s L C8.E0) "sum" := by intros; rfl)
    (hclo : cloFrom X.env.cells scope.names [] = [] := by rfl) (hfree : ∀ y ∈ scope.names, y.2 = .free → ∃ c, X.env.cells.lookup y.1 = some c := by decide)
    (hdef : defaultsOf params X.env = ([], []) := by rfl) (hbind : ∀ (q : Str) (pm cv ctv v : Value), bindArgs (PySem.W.kla_fn "<lambda>" q params (sumB x p1 p2 p3 p4 p5 kk) scope [] pm cv ctv) ⟨[v], []⟩ = pure [(x, v)] := by intros; rfl)
    (na : starEach [a] X.env = (false, eval a X.env) :: starEach [] X.env := by rfl) :
    PE X (.Call (.Name "sorted" p) [a] [⟨some "key", .Lambda params (sumB x p1 p2 p3 p4 p5 kk) scope lpos, kpos⟩] pos) (tF g X.mg E (fSortK fa)) := by
  obtain ⟨c, P, TB, hcode, hmT, hu⟩ := LT.ex
  refine ⟨fun pins s σ H Q J h => ?_⟩
  obtain ⟨I, r, rl, er, h⟩ := h
  refine wpAny_Call_Name_kw (ld_blt J hg hm (by decide +kernel : bootBuiltins "sorted" = some (.builtin "sorted")) ?_)
  refine PyProof.Rows.callWith_kw (PyProof.Rows.args_cons (thn (ha.run pins s σ H _ J ⟨I, r, rl, er, Pst.first h fun d v I1 H1 _ s1 x1 h1 => (⟨I1, d, s1, x1, h1⟩ : ∃ I1 d, Stp g I H I1 H1 ∧ DR g I1 v d ∧ Pst g X.mg E (DR g) I1 H1 (dSortK d) Q)⟩) fun u s1 ⟨v, H1, J1, r1, q1⟩ => PyProof.Rows.args_nil ?_) na) (by rw [na]; rfl) (by rw [na]; rfl) rfl rfl
  obtain ⟨I1, d, st, x1, h1⟩ := q1
  show wpAny _ _ (evalAll ((do let v ← eval (.Lambda params (sumB x p1 p2 p3 p4 p5 kk) scope lpos) X.env; standAt pos; pure v) :: [])) _ _ _
  refine wpAny_evalAll_cons (wpAny_bind (lam_make2 J1 TB hcode hmT hu st.rl.tab hdef hfree fun f c' pm ctv H2 s2 J2 eN T2 hf hfn hfr hco => wpAny_bind (wpAny_standAt (wpAny_pure (wpAny_evalAll_nil ?_)))))
  rw [hclo] at hf
  have st2 : Stp g I1 H1 I1 H2 := stp_ext st.rl eN T2
  show wpAny _ _ (call (.builtin "sorted") [u] [(Str.ofString "key", .ref f)]) _ _ s2
  unfold dSortK at h1
  split at h1
  · rename_i ds
    split at h1
    · rename_i rs ers
      split at h1
      · rename_i hlen
        obtain ⟨rfl, hne⟩ := rowsD_eq ers
        cases x1 with
        | lst hI t =>
          cases r1
          obtain ⟨its, rv, hL, hz⟩ := J2.list (SqL.of (st2.rl.sub _ _ hI))
          have ea := each_rows t rv
          have hal : PySem.W.AllAlike (rs.map keyP) := PySem.W.AllAlike.of fun b b' => by
            rw [PySem.W.alike, PySem.W.alikeAll, PySem.W.alikeAll, PySem.W.alikeAll, alike_rows]
            rfl
          refine PySem.W.sorted_key_data (bs := rs) (R := StR g I1) (b := false) keyP hL.isList ea hal (.inl fun d hd => ?_) (Nat.le_trans hlen (by rw [sizeLine_eq]; decide)) (fun b hb => ?_) (PyProof.Rows.ksk_s1 _ _) (fun _ => PyProof.Rows.ksk_l1 _ _) (fun y => PyProof.Rows.ksk_t1 f y) (fun v row hv hrow hp tk kp => ?_) fun out ep hp tk kp hfr2 hat hol hout => ?_
          · obtain ⟨row, hr', rfl⟩ := List.mem_map.mp hd
            exact ⟨_, _, rfl⟩
          · show X.A.units + 2 + (PyData.depthAll [.int b.sum, .tuple (b.map .int)] + 1) < cLine
            have e : PyData.depthAll [.int b.sum, .tuple (b.map .int)] = 1 := by
              rw [PyData.depthAll, PyData.depthAll, PyData.depthAll, PyData.depth, PyData.depth, PySem.W.depth_ints]; rfl
            rw [e]
            have := hr.un
            omega
          · obtain ⟨v', q1, q2⟩ := hv
            have q2' := q2
            cases q2 with
            | tup hx2 hu2 tt =>
              rename_i tA xs uo
              obtain rfl : v = Value.ref tA := q1
              have J3 : Inv X pins σ H2 { s2 with heap := hp, toks := tk } := J2.kept kp
              have ei : xs = row.map V.int := by
                have : ∀ {xs : List V} {ns : List Int}, DRs g I1 xs (ns.map D.int) → xs = ns.map V.int := by
                  intro xs ns q
                  induction ns generalizing xs with
                  | nil => cases q; rfl
                  | cons n ns ih => cases q with | cons q1 q2 => cases q1; rw [ih q2]; rfl
                exact this tt
              subst ei
              exact lam_turn (A := X.A.in1.in1) J3 (kp _ _ hf) hco S hx hd (fun L => hgl _ _ _ _ L) hms (J2.ok.hd hc) hr.depth J3.ok.frames (fun v => hbind _ _ _ _ v) (hu2.sqt (st2.rl.sub _ _ hx2))
          · rw [dataLe_key, merge_eq totK] at hout
            obtain ⟨ys, y1, y2⟩ := rows_out hout
            have hle : ys.length ≤ sizeLine := by rw [y1.length, hol]; exact Nat.le_trans hlen (by rw [sizeLine_eq]; decide)
            have hnS : H2 (s2.heap.objs.size + 1) = none := J2.hok.fresh (Nat.le_succ _)
            refine ⟨.ref _, upd H2 (s2.heap.objs.size + 1) (.lst ys), J2.laid (t' := tk) kp (Nat.le_succ _) ⟨hle, out, ep, y1, hat⟩, rfl, ?_⟩
            have s3 := st2.rl.put (o := .lst ys) hnS
            exact h1 _ _ _ (st2.trans s3) (.lst upd_same (y2.mono s3.mono))
      · exact h1.elim
    · exact h1.elim
  · exact h1.elim
end
end FW
/-! Two tables of code objects at once; defs that want the tables known. -/
namespace FW
open PySem PySem.Spec PyProof.Rows L2 LamX

/-! ### defs at known tables -/
def spFT (mg : Str → Option Value) (T : List (Addr × Str)) (f : List D → Res D) : Sp := fun vs H Q E => ∃ (g : Gd) (I : Hp) (ds : List D), g.T = T ∧ Rl g I H ∧ DRs g I vs ds ∧ Pst g mg E (DR g) I H (f ds) Q
structure CalFT (P : Program) (w : World) (K : PySem.W.Frag) (mg : Str → Option Value) (base : Heap) (T : List (Addr × Str)) (k : Nat) (x : Str) (ps : List Str) (fn : List D → Res D) : Prop where
  ex : ∃ f fd, FnOk P w K mg base (L2N.CX P w) k f fd ps (spFT mg T fn) ∧ mg x = some (.ref f) ∧ PySem.W.keepIn K (.ref f) = true ∧ Binds K fd ps []
section
variable {X : Cx} {g : Gd} {E : XK} {k kl : Nat} {x : Str} {ps : List Str} {e : Expr} {es : List Expr} {p pos : Pos} {T : List (Addr × Str)}
theorem e_callFT {fn : List D → Res D} {kk : FA} (C : CalFT X.prog X.w X.K X.mg X.base T kl x ps fn) (B : Bd X E k) (hT : g.T = T) (ha : PA X (e :: es) (tFA g X.mg E kk)) (hle : kl ≤ k := by decide) (hg : Gl X x := by rfl) (hdb : (x == ("__debug__" : Str)) = false := by decide) (he : starEach (e :: es) X.env = (false, eval e X.env) :: starEach es X.env := by rfl)
    (hpl : (backTo pos (starEach es X.env)).any (·.1) = false := by rfl) : PE X (.Call (.Name x p) (e :: es) [] pos) (tF g X.mg E (fCall fn kk)) := by
  obtain ⟨f, fd, F, hm, hk, hb⟩ := C.ex
  refine (pe_call F (B.hr.mono hle) hg hm hk hb .nil B.ps ha hdb he hpl).imp fun σ H Q h => ?_
  obtain ⟨I, r, rl, er, h⟩ := h
  refine ⟨I, r, rl, er, Pst.first h fun ds vs I1 H1 _ s1 x1 h1 => ?_⟩
  show spFT X.mg T fn (vs ++ []) H1 Q E
  rw [List.append_nil]
  exact ⟨g, I1, ds, hT, s1.rl, x1, h1⟩
end
section
variable {P : Program} {w : World} {K : PySem.W.Frag} {mg : Str → Option Value} {base : Heap} {T : List (Addr × Str)}
/-- the body of a def, the tables known -/
abbrev BodyT (P : Program) (w : World) (K : PySem.W.Frag) (mg : Str → Option Value) (base : Heap) (T : List (Addr × Str)) (N : List Str) (x : Str) (st : Stmt) (k : Nat) (cdv : Value) (ws : WS) : Prop :=
  ∀ (f : Addr) (A : Around) (outer : List PySem.Env) (s : Shared) (H : Hp) (E : XK) (g : Gd), g.T = T → Bd (cxOf (L2N.CX P w) P w K mg base N x (defScope st) f cdv A outer s H E) E k → L2N.Takes (cxOf (L2N.CX P w) P w K mg base N x (defScope st) f cdv A outer s H E) (fun cls d _ H => E cls d H) →
    PSs (cxOf (L2N.CX P w) P w K mg base N x (defScope st) f cdv A outer s H E) (defBody st) (tWS g mg E ws)
theorem fn_okT {x : Str} {st : Stmt} {f : Addr} {fd : FuncData} {N ps : List Str} {k np n : Nat} {ws : WS} {fs : FS} {cv : Value} (F : Fun K x x st f fd) (hcv : ∀ o1 o2 fd o3, K.lookup f = some ⟨o1, o2, .func fd, o3⟩ → fd.code = cv) (S : FnScope N ps (defScope st)) (hi : ImpS fs ws) (hnp : ps.length = np) (hn : N.length = n) (hb : BodyT P w K mg base T N x st k cv ws) :
    FnOk P w K mg base (L2N.CX P w) (k + 1) f fd ps (spFT mg T (fnF np n fs)) := by
  have len : ∀ vs H Q E, spFT mg T (fnF np n fs) vs H Q E → vs.length = ps.length := fun vs H Q E ⟨g, I, ds, _, rl, h, q⟩ => by
    unfold fnF at q
    split at q
    · rename_i hl
      rw [h.len, hl, hnp]
    · exact q.elim
  refine fn_Vc (t := fun E => fun kc σ H => ∃ (g : Gd), g.T = T ∧ tWS g mg E ws kc σ H) F hcv S len (fun A outer s H E B tk => ?_) (fun vs H Q E hsp => ?_)
  · exact ⟨fun pins s1 σ H1 D J ⟨g, e, q⟩ => (hb f A outer s H E g e B tk).run pins s1 σ H1 D J q⟩
  · obtain ⟨g, I, ds, hg, rl, h, q⟩ := hsp
    have q2 := fnF_W hi (Pst.iff.mp q)
    obtain ⟨hl, q2⟩ := q2
    refine ⟨g, hg, I, H, initE n ds, ⟨I, ?_⟩, ws.mono (k := { nx := fun _ => endW g (DR g) I H Q .non, rt := endW g (DR g) I H Q, bk := fun _ => False, ct := fun _ => False, ex := excW g mg E I H }) ⟨fun r z σ H' x => ?_, fun d z => z, fun _ z => z.elim, fun _ z => z.elim, fun _ z => z⟩ q2⟩
    · have hpl : ps.length ≤ N.length := by
        have := congrArg List.length S.pre
        rw [List.length_take] at this
        omega
      rw [← hn]
      exact sri_start rl h (by rw [hl, ← hnp]; exact hpl)
    · obtain ⟨I', x⟩ := x
      exact z .non I' H' x.stp .non
theorem calFT_of {x : Str} {st : Stmt} {N ps : List Str} {k np n : Nat} {ws : WS} {fs : FS} (F : FunA K mg x st ps) (S : FnScope N ps (defScope st)) (hi : ImpS fs ws) (hb : ∀ cdv, BodyT P w K mg base T N x st k cdv ws) (hnp : ps.length = np := by rfl) (hn : N.length = n := by rfl) : CalFT P w K mg base T (k + 1) x ps (fnF np n fs) := by
  obtain ⟨f, fd, F, e, b⟩ := F.ex
  obtain ⟨oc, od, kV, doc, pm, an, cdv, ct, osl, rfl, lk, hcd⟩ := F.ex
  refine ⟨f, _, fn_okT (cv := cdv) F (fun o1 o2 fd o3 k1 => ?_) S hi hnp hn (hb cdv), e, F.kp, b⟩
  rw [lk] at k1
  cases k1
  rfl
end
end FW
/-! `for p in zip(x, y)`, the target a name. -/
namespace FW
open PySem PySem.Spec PyProof.Rows L2 LamX
section
variable {prog : Program} {w : World} {A : Around} {E : Value → Shared → Prop} {s : Shared} {z TI TO T i1 i2 : Addr} {fp1 fp2 : List Addr} {n1 n2 i : Nat} {P1 P2 : Nat → Value → Prop} {St1 St2 : Nat → Heap → Prop} {f : Bool} {oT : Obj} {a1 a2 : Value}
theorem dead_ok {a : Addr} {Q : Option Obj → Shared → Prop} (h : s.heap.get? a = none) (q : Q none s) : wpAny (model prog w) A (loadIfAlive a) Q E s := by
  have e : Q (s.heap.get? a) s := by rw [h]; exact q
  exact fun _ _ _ => e
theorem free_dead {Q : Bool → Shared → Prop} (hz : ZF s.heap z TI TO (rawInt T) f) (hT : s.heap.get? T = none) (q : Q true s) : wpAny (model prog w) A (Builtin.SmallTypes.ownedTupleIsFree (.ref z)) Q E s := by
  unfold Builtin.SmallTypes.ownedTupleIsFree
  refine wpAny_bind (wpAny_field hz rfl (x := rawInt T) rfl ?_)
  show wpAny _ _ (loadIfAlive ((T : Int).toNat) >>= _) _ _ _
  rw [Int.toNat_natCast]
  refine wpAny_bind (dead_ok hT ?_)
  simp only [Option.isNone_none, if_true]
  exact wpAny_pure q
/-- a zip's turn when the pair that it gave last is gone -/
theorem zD_item {Q : Value → Shared → Prop} (S : ZipSep2 z TI TO i1 i2 fp1 fp2) (D1 : Draws prog w A i1 fp1 n1 P1 St1) (D2 : Draws prog w A i2 fp2 n2 P2 St2) (hz : ZF s.heap z TI TO (rawInt T) f) (hT : s.heap.get? T = none) (hTI : IsTupOf2 s.heap TI (.ref i1) (.ref i2)) (hTO : IsTupOf2 s.heap TO a1 a2)
    (st1 : St1 i s.heap) (st2 : St2 i s.heap) (l1 : i < n1) (l2 : i < n2)
    (hQ : ∀ x1 x2 h' tk, P1 i x1 → P2 i x2 → ZF h' z TI TO (rawInt s.heap.objs.size) false → IsTupOf2 h' TO x1 x2 → St1 (i + 1) h' → St2 (i + 1) h' → IsTupOf2 h' s.heap.objs.size x1 x2 → (∀ c o, c ≠ z → c ≠ TO → c ≠ i1 → c ≠ i2 → s.heap.get? c = some o → h'.get? c = some o) → Q (.ref s.heap.objs.size) { s with heap := h', toks := tk }) :
    wpAny (model prog w) A (Builtin.«zip.__next__» ⟨[.ref z], []⟩) (fun fin s' => ∃ v, fin = .done (.ret v) ∧ Q v s') E s := by
  obtain ⟨hp, gg, dd, tk0, os⟩ := s
  show wpAny _ _ (field (.ref z) 2 >>= _) _ _ _; refine wpAny_bind (wpAny_field hz rfl (x := .bool false) rfl ?_)
  show wpAny _ _ (field (.ref z) 3 >>= _) _ _ _; refine wpAny_bind (wpAny_field hz rfl (x := .ref TI) rfl ?_)
  refine wpAny_bind (wpAny_seqItems hTI rfl ?_); show wpAny _ _ (Builtin.SmallTypes.ownedTupleIsFree (.ref z) >>= _) _ _ _
  refine wpAny_bind (free_dead hz hT ?_)
  simp only [if_true]
  refine wpAny_bind (wpAny_rule ?_)
  refine wpAny_bind (wpAny_field hz rfl (x := .ref TO) rfl ?_)
  refine wpAny_bind (wpAny_setField_rec hz (by simp) fun u0 z0 k0 => ?_)
  replace z0 : ZF u0 z TI TO .ellipsis f := z0
  replace k0 : Heap.SameBut z hp u0 := k0
  refine wpAny_bind ?_
  simp only [List.zipIdx_cons, List.zipIdx_nil, List.forIn_cons, List.forIn_nil]
  refine wpAny_bind (wpAny_bind (wpAny_onRaise ?_))
  show wpAny _ _ (Builtin.SmallTypes.nextOf (.ref i1) >>= _) _ _ ⟨u0, gg, dd, tk0, os⟩
  refine wpAny_bind (D1.item i _ _ _ l1 (D1.over st1 k0 S.zf1) fun x1 u1 tk1 hx1 sn1 k1 => wpAny_pure ?_)
  replace k1 : Heap.SameBut i1 u0 u1 := k1
  have t1 : IsTupOf2 u1 TO a1 a2 := k1.extBut _ _ S.Ti1 (k0.extBut _ _ S.TOz hTO)
  refine wpAny_bind (wpAny_seqItems (s := ⟨u1, gg, dd, tk1, os⟩) t1 rfl ?_)
  refine wpAny_bind (updateSeq_IsTupOf2 (s := ⟨u1, gg, dd, tk1, os⟩) t1 fun v1 t2 k2 => ?_)
  replace t2 : IsTupOf2 v1 TO x1 a2 := t2
  replace k2 : Heap.SameBut TO u1 v1 := k2
  refine wpAny_bind (wpAny_letGo (wpAny_pure ?_))
  refine wpAny_bind (wpAny_bind (wpAny_onRaise ?_))
  show wpAny _ _ (Builtin.SmallTypes.nextOf (.ref i2) >>= _) _ _ ⟨v1, gg, dd, tk1, os⟩
  refine wpAny_bind (D2.item i _ _ _ l2 (D2.over (D2.over (D2.over st2 k0 S.zf2) k1 S.sep1_2) k2 S.Tf2) fun x2 u2 tk2 hx2 sn2 k3 => wpAny_pure ?_)
  replace k3 : Heap.SameBut i2 v1 u2 := k3
  have t3 : IsTupOf2 u2 TO x1 a2 := k3.extBut _ _ S.Ti2 t2
  refine wpAny_bind (wpAny_seqItems (s := ⟨u2, gg, dd, tk2, os⟩) t3 rfl ?_)
  refine wpAny_bind (updateSeq_IsTupOf2 (s := ⟨u2, gg, dd, tk2, os⟩) t3 fun v2 t4 k4 => ?_)
  replace t4 : IsTupOf2 v2 TO x1 x2 := t4
  replace k4 : Heap.SameBut TO u2 v2 := k4
  refine wpAny_bind (wpAny_letGo (wpAny_pure (wpAny_pure ?_)))
  refine wpAny_bind (wpAny_seqItems (s := ⟨v2, gg, dd, tk2, os⟩) t4 rfl ?_)
  refine wpAny_bind (wpAny_newTuple ?_)
  have hsz : v2.objs.size = hp.objs.size := by rw [k4.1, k3.1, k2.1, k1.1, k0.1]
  have z1 : ZF v2 z TI TO .ellipsis f := k4.extBut _ _ S.TOz.symm (k3.extBut _ _ S.zi2 (k2.extBut _ _ S.TOz.symm (k1.extBut _ _ S.zi1 z0)))
  have kk : ∀ c o, c ≠ z → c ≠ TO → c ≠ i1 → c ≠ i2 → hp.get? c = some o → v2.get? c = some o := fun c o cz cT c1 c2 e => k4.extBut _ _ cT (k3.extBut _ _ c2 (k2.extBut _ _ cT (k1.extBut _ _ c1 (k0.extBut _ _ cz e))))
  have j1 : St1 (i + 1) v2 := D1.over (D1.over (D1.over sn1 k2 S.Tf1) k3 S.sep2_1) k4 S.Tf1
  have j2 : St2 (i + 1) v2 := D2.over sn2 k4 S.Tf2
  have zlt : z < v2.objs.size := Heap.lt_size z1
  show wpAny _ _ (Builtin.SmallTypes.ownedTupleHandOut (.ref z) (.ref v2.objs.size) >>= _) _ _ ⟨v2.push { cls := .type "tuple", data := .seq #[x1, x2] }, gg, dd, tk2, os⟩
  refine wpAny_bind ?_
  unfold Builtin.SmallTypes.ownedTupleHandOut
  have z2 : ZF (v2.push { cls := .type "tuple", data := .seq #[x1, x2] }) z TI TO .ellipsis f := Heap.get?_push_of_some _ z1
  refine wpAny_bind (wpAny_setField_rec z2 (by simp) fun h7 z7 k7 => ?_)
  replace z7 : ZF h7 z TI TO (rawInt v2.objs.size) f := z7
  refine wpAny_setField_rec z7 (by simp) fun h8 z8 k8 => ?_
  replace z8 : ZF h8 z TI TO (rawInt v2.objs.size) false := z8
  replace k7 : Heap.SameBut z (v2.push { cls := .type "tuple", data := .seq #[x1, x2] }) h7 := k7
  replace k8 : Heap.SameBut z h7 h8 := k8
  have up : ∀ c o, c ≠ z → v2.get? c = some o → h8.get? c = some o := fun c o c1 e => k8.extBut _ _ c1 (k7.extBut _ _ c1 (Heap.get?_push_of_some _ e))
  have t8 : IsTupOf2 h8 v2.objs.size x1 x2 := k8.extBut _ _ (Nat.ne_of_gt zlt) (k7.extBut _ _ (Nat.ne_of_gt zlt) (Heap.get?_push_size _ rfl))
  rw [hsz] at z8 t8
  refine wpAny_pure ⟨_, rfl, ?_⟩
  show Q (.ref v2.objs.size) ⟨h8, gg, dd, tk2, os⟩
  rw [hsz]
  exact hQ x1 x2 h8 tk2 hx1 hx2 z8 (up _ _ S.TOz t4) (D1.frame _ _ _ j1 fun b hb o e => up b o (fun q => S.zf1 (q ▸ hb)) e) (D2.frame _ _ _ j2 fun b hb o e => up b o (fun q => S.zf2 (q ▸ hb)) e) t8 fun c o cz cT c1 c2 e => up c o cz (kk c o cz cT c1 c2 e)
theorem zD_end {Q : Fin → Shared → Prop} (S : ZipSep2 z TI TO i1 i2 fp1 fp2) (D1 : Draws prog w A i1 fp1 n1 P1 St1) (D2 : Draws prog w A i2 fp2 n2 P2 St2) (hz : ZF s.heap z TI TO (rawInt T) f) (hT : s.heap.get? T = none) (hTI : IsTupOf2 s.heap TI (.ref i1) (.ref i2)) (hTO : IsTupOf2 s.heap TO a1 a2)
    (st1 : St1 i s.heap) (st2 : St2 i s.heap) (l1 : i ≤ n1) (l2 : i ≤ n2) (hend : i = n1 ∨ i = n2)
    (hE : ∀ h' tk e, (∀ c o, c ≠ z → c ≠ TO → c ≠ i1 → c ≠ i2 → s.heap.get? c = some o → h'.get? c = some o) → (∃ o, h'.get? e = some o ∧ o.cls = .type "StopIteration") → E (.ref e) { s with heap := h', toks := tk }) :
    wpAny (model prog w) A (Builtin.«zip.__next__» ⟨[.ref z], []⟩) Q E s := by
  obtain ⟨hp, gg, dd, tk0, os⟩ := s
  show wpAny _ _ (field (.ref z) 2 >>= _) _ _ _; refine wpAny_bind (wpAny_field hz rfl (x := .bool false) rfl ?_)
  show wpAny _ _ (field (.ref z) 3 >>= _) _ _ _; refine wpAny_bind (wpAny_field hz rfl (x := .ref TI) rfl ?_)
  refine wpAny_bind (wpAny_seqItems hTI rfl ?_); show wpAny _ _ (Builtin.SmallTypes.ownedTupleIsFree (.ref z) >>= _) _ _ _
  refine wpAny_bind (free_dead hz hT ?_)
  simp only [if_true]
  refine wpAny_bind (wpAny_rule ?_)
  refine wpAny_bind (wpAny_field hz rfl (x := .ref TO) rfl ?_)
  refine wpAny_bind (wpAny_setField_rec hz (by simp) fun u0 z0 k0 => ?_)
  replace z0 : ZF u0 z TI TO .ellipsis f := z0
  replace k0 : Heap.SameBut z hp u0 := k0
  refine wpAny_bind ?_
  simp only [List.zipIdx_cons, List.zipIdx_nil, List.forIn_cons, List.forIn_nil]
  refine wpAny_bind (wpAny_bind (wpAny_onRaise ?_))
  show wpAny _ _ (Builtin.SmallTypes.nextOf (.ref i1) >>= _) _ _ ⟨u0, gg, dd, tk0, os⟩
  by_cases hlt : i < n1
  · refine wpAny_bind (D1.item i _ _ _ hlt (D1.over st1 k0 S.zf1) fun x1 u1 tk1 hx1 sn1 k1 => wpAny_pure ?_)
    replace k1 : Heap.SameBut i1 u0 u1 := k1
    have t1 : IsTupOf2 u1 TO a1 a2 := k1.extBut _ _ S.Ti1 (k0.extBut _ _ S.TOz hTO)
    refine wpAny_bind (wpAny_seqItems (s := ⟨u1, gg, dd, tk1, os⟩) t1 rfl ?_)
    refine wpAny_bind (updateSeq_IsTupOf2 (s := ⟨u1, gg, dd, tk1, os⟩) t1 fun v1 t2 k2 => ?_)
    replace k2 : Heap.SameBut TO u1 v1 := k2
    refine wpAny_bind (wpAny_letGo (wpAny_pure ?_))
    have e2 : i = n2 := by omega
    refine wpAny_bind (wpAny_bind (wpAny_onRaise ?_))
    show wpAny _ _ (Builtin.SmallTypes.nextOf (.ref i2) >>= _) _ _ ⟨v1, gg, dd, tk1, os⟩
    refine wpAny_bind (D2.done ⟨v1, gg, dd, tk1, os⟩ _ _ (by rw [← e2]; exact D2.over (D2.over (D2.over st2 k0 S.zf2) k1 S.sep1_2) k2 S.Tf2) fun q e hq he => ?_)
    replace hq : Heap.ExtBut i2 v1 q := hq
    obtain ⟨oe, hoe, hce⟩ := he
    replace hoe : q.get? e = some oe := hoe
    have zq : ZF q z TI TO .ellipsis f := hq _ _ S.zi2 (k2.extBut _ _ S.TOz.symm (k1.extBut _ _ S.zi1 z0))
    have hez : e ≠ z := fun x => by subst x; rw [zq] at hoe; cases hoe; simp at hce
    refine wpAny_setField_rec (s := ⟨q, gg, dd, tk1, os⟩) zq (by simp) fun q' _ hq' => ?_
    replace hq' : Heap.SameBut z q q' := hq'
    exact hE q' tk1 e (fun c o cz cT c1 c2 x => hq'.extBut _ _ cz (hq _ _ c2 (k2.extBut _ _ cT (k1.extBut _ _ c1 (k0.extBut _ _ cz x))))) ⟨oe, hq'.extBut _ _ hez hoe, hce⟩
  · have e1 : i = n1 := by omega
    refine wpAny_bind (D1.done ⟨u0, gg, dd, tk0, os⟩ _ _ (by rw [← e1]; exact D1.over st1 k0 S.zf1) fun q e hq he => ?_)
    replace hq : Heap.ExtBut i1 u0 q := hq
    obtain ⟨oe, hoe, hce⟩ := he
    replace hoe : q.get? e = some oe := hoe
    have zq : ZF q z TI TO .ellipsis f := hq _ _ S.zi1 z0
    have hez : e ≠ z := fun x => by subst x; rw [zq] at hoe; cases hoe; simp at hce
    refine wpAny_setField_rec (s := ⟨q, gg, dd, tk0, os⟩) zq (by simp) fun q' _ hq' => ?_
    replace hq' : Heap.SameBut z q q' := hq'
    exact hE q' tk0 e (fun c o cz cT c1 c2 x => hq'.extBut _ _ cz (hq _ _ c1 (k0.extBut _ _ cz x))) ⟨oe, hq'.extBut _ _ hez hoe, hce⟩
end
/-- between turns -/
abbrev ZStN (t t' : Bool) (a b z TI TO i1 i2 : Addr) (i : Nat) (h : Heap) : Prop := ZSN z TI TO i1 i2 (fun i h => IsSqIt h t i1 a i) (fun i h => IsSqIt h t' i2 b i) i h
theorem zstN_all {t t' : Bool} {a b z TI TO i1 i2 : Addr} {i : Nat} {h : Heap} (st : ZStN t t' a b z TI TO i1 i2 i h) : ∀ c ∈ [z, TI, TO, i1, i2], ∃ o, h.get? c = some o ∧ ∀ v, o.data ≠ .cell v := by
  obtain ⟨h2, ⟨a1, a2, h3⟩, h4, h5, h1⟩ := st
  intro c hc
  simp only [List.mem_cons, List.not_mem_nil, or_false] at hc
  rcases hc with rfl | rfl | rfl | rfl | rfl
  · rcases h1 with h1 | ⟨T, f, h1⟩
    · exact ⟨_, h1, fun v q => nomatch q⟩
    · exact ⟨_, h1, fun v q => nomatch q⟩
  · exact ⟨_, h2, fun v q => nomatch q⟩
  · exact ⟨_, h3, fun v q => nomatch q⟩
  · exact h4.obj
  · exact h5.obj
section
variable {X : Cx} {g : Gd} {E : XK} {K : PySem.W.Frag}
end
end FW
/-! A comprehension of two for. -/
namespace FW
open PySem PySem.Spec PyProof.Rows L2 LamX
theorem lists_lc2 {fi : FI} {fg : FG} {ft : FT} {fi1 : FI} {fg1 : FG} {ft1 : FT} {fe : FE} {vs vs1 : List Nat} : Lists (wOf (fLc2 fi fg ft fi1 fg1 ft1 fe vs vs1)) := fun r Q Z h => by
  have h : resW (fLc2 fi fg ft fi1 fg1 ft1 fe vs vs1 r) Q Z := h
  show resW (fLc2 fi fg ft fi1 fg1 ft1 fe vs vs1 r) _ Z
  unfold fLc2 at h ⊢
  cases e : fi r with
  | bad => rw [e] at h; exact h
  | exc c => rw [e] at h; exact h
  | ok ds =>
    rw [e] at h
    have h : resW ((lc2F fg ft fi1 fg1 ft1 fe vs1 (wipeE r vs) ds).calm.bind fun ys => if ys.length ≤ 100000 then Res.ok (D.lst ys) else .bad) Q Z := h
    show resW ((lc2F fg ft fi1 fg1 ft1 fe vs1 (wipeE r vs) ds).calm.bind fun ys => if ys.length ≤ 100000 then Res.ok (D.lst ys) else .bad) _ Z
    cases e2 : (lc2F fg ft fi1 fg1 ft1 fe vs1 (wipeE r vs) ds).calm with
    | bad => rw [e2] at h; exact h
    | exc c => rw [e2] at h; exact h
    | ok ys =>
      rw [e2] at h
      have h : resW (if ys.length ≤ 100000 then Res.ok (D.lst ys) else .bad) Q Z := h
      show resW (if ys.length ≤ 100000 then Res.ok (D.lst ys) else .bad) _ Z
      by_cases c : ys.length ≤ 100000
      · rw [if_pos c] at h ⊢
        exact ⟨⟨ys, rfl⟩, h⟩
      · rw [if_neg c] at h
        exact h.elim
section
variable {X : Cx} {g : Gd} {E : XK} {fi fi1 : FI} {fg fg1 : FG} {ft ft1 : FT} {fe : FE} {vs vs1 is is1 : List Nat}
theorem lc2_of (his : ∀ i ∈ is, i ∈ vs) (his1 : ∀ i ∈ is1, i ∈ vs1) {σ : L2.St} {H : Hp} {Q : VK} (h : tO g X.mg E (wOf (fLc2 fi fg ft fi1 fg1 ft1 fe vs vs1)) σ H Q) :
    tLc2 (tFI g X.mg E fi) (tFG g is fg) (tFT g X.mg E0 ft) (tFI g X.mg E0 fi1) (tFG g is1 fg1) (tFT g X.mg E0 ft1) (tF g X.mg E0 fe) vs vs1 σ H Q := by
  obtain ⟨I, r, rl, er, h⟩ := h
  have h : resW (fLc2 fi fg ft fi1 fg1 ft1 fe vs vs1 r) (fun d => (∃ ds, d = .lst ds) ∧ endO g I H Q d) (excW g X.mg E I H) := h
  unfold fLc2 at h
  refine ⟨I, r, rl, er, Pst.iff.mpr (resW.mono (fun ds q => ?_) (fun _ z => z) (resW_bind h))⟩
  intro J I1 H1 s1 src q0 hD
  cases e2 : (lc2F fg ft fi1 fg1 ft1 fe vs1 (wipeE r vs) ds).calm with
  | bad => rw [e2] at q; exact q.elim
  | exc c =>
    cases z : lc2F fg ft fi1 fg1 ft1 fe vs1 (wipeE r vs) ds <;> rw [z] at e2 <;> cases e2
  | ok ys =>
  rw [e2] at q
  have q : resW (if ys.length ≤ 100000 then Res.ok (D.lst ys) else .bad) (fun d => (∃ ds, d = .lst ds) ∧ endO g I H Q d) (excW g X.mg E I H) := q
  have hlen : ys.length ≤ 100000 := by
    by_cases c : ys.length ≤ 100000
    · exact c
    · rw [if_neg c] at q; exact q.elim
  rw [if_pos hlen] at q
  have q : endO g I H Q (.lst ys) := q.2
  have e2 := calm_ok e2
  have dz : q0 ≠ g.dz := s1.rl.nz hD
  have base : Stp g I1 H1 I1 (upd H1 q0 (.lst [])) := s1.rl.lay hD
  refine ⟨fun i m H' => ∃ (I' : Hp) (acc : List V) (outs rest : List FW.D), m = ds.length - i ∧ i ≤ ds.length ∧ Stp g I1 H1 I' H' ∧ I' q0 = none ∧ H' q0 = some (.lst acc) ∧ DRs g I' acc outs ∧
      lc2F fg ft fi1 fg1 ft1 fe vs1 (wipeE r vs) (ds.drop i) = .ok rest ∧ outs ++ rest = ys,
    ⟨ds.length, I1, [], [], ys, rfl, Nat.zero_le _, base, s1.rl.out hD, upd_same, .nil, by rw [List.drop_zero]; exact e2, rfl⟩, ?_⟩
  rintro i m H' ⟨I', acc, outs, rest, rfl, hi, s, hI, hDl, ra, hq, hys⟩
  by_cases hlt : i < ds.length
  · have hd : ds[i]? = some ds[i] := List.getElem?_eq_getElem hlt
    rw [List.drop_eq_getElem_cons hlt] at hq
    refine .inr ⟨src.go i I' H' s.rl s.mono hlt, fun H'' => ∃ (I' : Hp) (acc : List V) (outs rest : List FW.D), Stp g I1 H1 I' H'' ∧ I' q0 = none ∧ H'' q0 = some (.lst acc) ∧ DRs g I' acc outs ∧
        lc2F fg ft fi1 fg1 ft1 fe vs1 (wipeE r vs) (ds.drop (i + 1)) = .ok rest ∧ outs ++ rest = ys, fun H'' hN => ?_, fun x H2 y => ?_⟩
    · obtain ⟨I2, acc2, outs2, rest2, s2, hI2, hD2, ra2, hq2, hy2⟩ := hN
      exact ⟨ds.length - (i + 1), by omega, I2, acc2, outs2, rest2, rfl, hlt, s2, hI2, hD2, ra2, hq2, hy2⟩
    · obtain ⟨I2, s2, xd⟩ := src.yld i ds[i] I' H' x H2 s.rl s.mono hd y
      obtain ⟨hI2, hD2⟩ := s2.beside hI dz hDl rfl
      rw [lc2F] at hq
      obtain ⟨r1, k1, hq⟩ := bind_ok hq
      obtain ⟨b, k2, hq⟩ := bind_ok hq
      have k1 := calm_ok k1
      have k2 := calm_ok k2
      refine ⟨I2, wipeE r vs, ds[i], s2.rl, (er.mono ((s1.mono.trans s.mono).trans s2.mono)).wipe vs, xd, ?_⟩
      rw [k1]
      intro σ2 er2 df
      refine ⟨?_, I2, r1, s2.rl, er2, ?_⟩
      · rw [wipe_eq (σ := L2.wipe σ vs) df.1 fun j hj => df.2 j fun z => hj (his j z)]
        exact wipe_eq (wipe_length σ vs) fun j hj => wipe_get hj
      rw [k2]
      intro v I3 H3 s3 e
      subst e
      obtain ⟨hI3, hD3⟩ := s3.beside hI2 dz hD2 rfl
      have s03 := s.trans (s2.trans s3)
      cases v with
      | false => exact ⟨I3, acc, outs, rest, s03, hI3, hD3, ra.mono (s2.trans s3).mono, hq, hys⟩
      | true =>
        have hq : ((fi1 r1).calm.bind fun es => (lcF fg1 ft1 fe (wipeE r1 vs1) es).calm.bind fun ys => (lc2F fg ft fi1 fg1 ft1 fe vs1 (wipeE r vs) (ds.drop (i + 1))).calm.bind fun zs => .ok (ys ++ zs)) = .ok rest := hq
        obtain ⟨es, k3, hq⟩ := bind_ok hq
        obtain ⟨ys1, k4, hq⟩ := bind_ok hq
        obtain ⟨zs, k5, hq⟩ := bind_ok hq
        have k3 := calm_ok k3
        have k4 := calm_ok k4
        have k5 := calm_ok k5
        injection hq with hq
        refine ⟨I3, r1, s3.rl, er2.mono s3.mono, ?_⟩
        rw [k3]
        intro J1 I4 H4 s4 src1
        obtain ⟨hI4, hD4⟩ := s4.beside hI3 dz hD3 rfl
        refine ⟨fun j k H' => ∃ (I' : Hp) (acc : List V) (outs rest1 : List FW.D), k = es.length - j ∧ j ≤ es.length ∧ Stp g I1 H1 I' H' ∧ Sub I4 I' ∧ I' q0 = none ∧ H' q0 = some (.lst acc) ∧ DRs g I' acc outs ∧
            lcF fg1 ft1 fe (wipeE r1 vs1) (es.drop j) = .ok rest1 ∧ outs ++ (rest1 ++ zs) = ys,
          ⟨es.length, I4, acc, outs, ys1, rfl, Nat.zero_le _, s03.trans s4, Sub.refl _, hI4, hD4, ra.mono ((s2.trans s3).trans s4).mono, by rw [List.drop_zero]; exact k4, by rw [hq]; exact hys⟩, ?_⟩
        rintro j k H5 ⟨I5, acc5, outs5, rest5, rfl, hj, s5, sub5, hI5, hD5, ra5, hq5, hys5⟩
        by_cases hjl : j < es.length
        · have hd5 : es[j]? = some es[j] := List.getElem?_eq_getElem hjl
          rw [List.drop_eq_getElem_cons hjl] at hq5
          refine .inr ⟨src1.go j I5 H5 s5.rl sub5 hjl, fun H'' => ∃ (I' : Hp) (acc : List V) (outs rest1 : List FW.D), Stp g I1 H1 I' H'' ∧ Sub I4 I' ∧ I' q0 = none ∧ H'' q0 = some (.lst acc) ∧ DRs g I' acc outs ∧
              lcF fg1 ft1 fe (wipeE r1 vs1) (es.drop (j + 1)) = .ok rest1 ∧ outs ++ (rest1 ++ zs) = ys, fun H'' hN => ?_, fun x H6 y => ?_⟩
          · obtain ⟨I2, acc2, outs2, rest2, z1, z2, z3, z4, z5, z6, z7⟩ := hN
            exact ⟨es.length - (j + 1), by omega, I2, acc2, outs2, rest2, rfl, hjl, z1, z2, z3, z4, z5, z6, z7⟩
          · obtain ⟨I6, s6, xd6⟩ := src1.yld j es[j] I5 H5 x H6 s5.rl sub5 hd5 y
            obtain ⟨hI6, hD6⟩ := s6.beside hI5 dz hD5 rfl
            rw [lcF] at hq5
            obtain ⟨r2, m1, hq5⟩ := bind_ok hq5
            obtain ⟨b2, m2, hq5⟩ := bind_ok hq5
            have m1 := calm_ok m1
            have m2 := calm_ok m2
            refine ⟨I6, wipeE r1 vs1, es[j], s6.rl, ((er2.mono s3.mono).mono ((s4.mono.trans sub5).trans s6.mono)).wipe vs1, xd6, ?_⟩
            rw [m1]
            intro σ3 er3 df3
            refine ⟨?_, I6, r2, s6.rl, er3, ?_⟩
            · rw [wipe_eq (σ := L2.wipe σ2 vs1) df3.1 fun j hj => df3.2 j fun z => hj (his1 j z)]
              exact wipe_eq (wipe_length σ2 vs1) fun j hj => wipe_get hj
            rw [m2]
            intro v7 I7 H7 s7 e7
            subst e7
            obtain ⟨hI7, hD7⟩ := s7.beside hI6 dz hD6 rfl
            have s07 := s5.trans (s6.trans s7)
            cases v7 with
            | false => exact ⟨I7, acc5, outs5, rest5, s07, sub5.trans (s6.mono.trans s7.mono), hI7, hD7, ra5.mono (s6.trans s7).mono, hq5, hys5⟩
            | true =>
              have hq5 : ((fe r2).calm.bind fun y => (lcF fg1 ft1 fe (wipeE r1 vs1) (es.drop (j + 1))).bind fun ys => .ok (y :: ys)) = .ok rest5 := hq5
              obtain ⟨y8, m3, hq5⟩ := bind_ok hq5
              obtain ⟨rs, m4, hq5⟩ := bind_ok hq5
              have m3 := calm_ok m3
              injection hq5 with hq5
              refine ⟨I7, r2, s7.rl, er3.mono s7.mono, ?_⟩
              rw [m3]
              intro v8 I8 H8 s8 x8
              obtain ⟨hI8, hD8⟩ := s8.beside hI7 dz hD7 rfl
              have s08 := s07.trans s8
              refine ⟨acc5, hD8, ?_, I8, acc5 ++ [v8], outs5 ++ [y8], rs, s08.chg (NT.of hD) dz hI8 hD8 rfl, sub5.trans (s6.mono.trans (s7.mono.trans s8.mono)), hI8, upd_same, (ra5.mono (s6.trans (s7.trans s8)).mono).app (.cons x8 .nil), m4, ?_⟩
              · rw [ra5.len]
                have hl5 : outs5.length ≤ ys.length := by rw [← hys5, List.length_append]; omega
                exact Nat.lt_of_le_of_lt (Nat.le_trans hl5 hlen) (by decide)
              · rw [← hys5, ← hq5, List.append_assoc]; rfl
        · have ej : j = es.length := by omega
          subst ej
          rw [List.drop_length] at hq5
          injection hq5 with hq5
          refine .inl ⟨src1.stop _ I5 H5 s5.rl sub5 rfl, I5, acc5, outs5, zs, s5, hI5, hD5, ra5, k5, ?_⟩
          rw [← hys5, ← hq5]; rfl
  · have ei : i = ds.length := by omega
    subst ei
    rw [List.drop_length] at hq
    injection hq with hq
    rw [← hq, List.append_nil] at hys
    subst hys
    refine .inl ⟨src.stop _ I' H' s.rl s.mono rfl, ?_⟩
    exact q q0 I' H' (s1.trans s) (s1.back (NT.of hD)) dz hI fun zs z => by
      cases z
      exact ⟨acc, hDl, ra⟩
variable {elt tg iter tg1 iter1 : Expr} {ifs ifs1 : List Expr} {scope : Scope} {own own1 : List (Str × Nat)} {pos spos py : Pos} {k : Nat} {y : Str}
theorem s_setLc2 (i : Nat) (B : Bd X E k) (hsw : swapsWith (.ListComp elt [⟨tg, iter, ifs, 0⟩, ⟨tg1, iter1, ifs1, 0⟩] scope pos) (some (.Name y py)) spos.line X.env = pure true) (hi : PI X tg iter (tFI g X.mg E fi)) (ok : BlkOk X.N X.env.scope scope own) (hv : ∀ i ∈ vs1, i ∈ own.map (·.2)) (his : ∀ i ∈ is, i ∈ own.map (·.2)) (his1 : ∀ i ∈ is1, i ∈ vs1) (hg : ForBlk X scope fun B => PG B tg (tFG g is fg)) (ht : ForBlk X scope fun B => PTs B ifs (tFT g B.mg E0 ft))
    (hi1 : ForBlk X scope fun B => PI B tg1 iter1 (tFI g B.mg E0 fi1)) (hg1 : ForBlk X scope fun B => PG B tg1 (tFG g is1 fg1)) (ht1 : ForBlk X scope fun B => PTs B ifs1 (tFT g B.mg E0 ft1))
    (he : ForBlk X scope fun B => PE B elt (tF g B.mg E0 fe)) (hy : X.N[i]? = some y := by rfl) (hyl : X.env.scope.names.lookup y = some .local := by rfl) (hs : ∀ x, foldedSetIterable iter X.env x = pure x := by intro _; rfl) (hs1 : ∀ env x, foldedSetIterable iter1 env x = pure x := by intro _ _; rfl) :
    PS X (.Assign [.Name y py] (.ListComp elt [⟨tg, iter, ifs, 0⟩, ⟨tg1, iter1, ifs1, 0⟩] scope pos) spos) (tWS g X.mg E (wsSet i (wOf (fLc2 fi fg ft fi1 fg1 ft1 fe (own.map (·.2)) vs1)))) :=
  (ps_setLc2 (i := i) B.hc B.nd hy hyl hsw hi ok hv hg ht hi1 hg1 ht1 he hs hs1).imp fun D σ H h => by
    obtain ⟨I0, H0, r, x, hl, h⟩ := h
    refine lc2_of his his1 (tO_of lists_lc2 (x.read h fun d v I' H' z x' y => ?_))
    exact z _ _ ⟨I', x'.setV hl y⟩
end
theorem calF_never {P : Program} {w : World} {K : PySem.W.Frag} {mg : Str → Option Value} {base : Heap} {x : Str} {st : Stmt} {N ps : List Str} {k np n : Nat} (F : FunA K mg x st ps) (S : FnScope N ps (defScope st)) (hnp : ps.length = np := by rfl) (hn : N.length = n := by rfl) : CalF P w K mg base (k + 1) x ps (fnF np n fsNever) :=
  calF_of F S imp_never (fun _ _ _ _ _ _ _ _ _ _ => ss_never) hnp hn
end FW
/-! Dicts whose keys are tuples; several names at once, each by its own kind; pop of a list. -/
namespace FW
open PySem PySem.Spec PyProof.Rows L2 LamX

/-! ### data -/
def putT (kvs : List (D × D)) (k : List Key) (d : D) : List (D × D) := if (kvs.any fun kv => decide (keyT kv.1 = some k)) = true then kvs.map (fun kv => if keyT kv.1 = some k then (kv.1, d) else kv) else kvs ++ [(.tup (k.map kD), d)]
section
variable {g : Gd} {I : Hp}
theorem DRt.app : ∀ {es es' : List (List Key × V)} {kvs kvs' : List (D × D)}, DRt g I es kvs → DRt g I es' kvs' → DRt g I (es ++ es') (kvs ++ kvs')
  | _, _, _, _, .nil, h => h
  | _, _, _, _, .cons r t, h => .cons r (DRt.app t h)
theorem DRt.mapPut (k : List Key) {v : V} {d : D} (x : DR g I v d) : ∀ {es : List (List Key × V)} {kvs : List (D × D)}, DRt g I es kvs → DRt g I (es.map fun kv => if kv.1 = k then (kv.1, v) else kv) (kvs.map fun kv => if keyT kv.1 = some k then (kv.1, d) else kv)
  | _, _, .nil => .nil
  | _, _, .cons (k := k0) h t => by
    rw [List.map_cons, List.map_cons]
    by_cases e : k0 = k
    · rw [if_pos e, if_pos (by rw [keyT_kD, e])]
      exact .cons x (DRt.mapPut k x t)
    · rw [if_neg e, if_neg (by rw [keyT_kD]; exact fun z => e (Option.some.inj z))]
      exact .cons h (DRt.mapPut k x t)
theorem DRt.put {k : List Key} {v : V} {d : D} {es : List (List Key × V)} {kvs : List (D × D)} (h : DRt g I es kvs) (x : DR g I v d) : DRt g I (putK es k v) (putT kvs k d) := by
  unfold putK putT
  rw [h.any k]
  split
  · exact h.mapPut k x
  · exact h.app (.cons x .nil)
end
/-! ### k in d, d[k] -/
section
variable {X : Cx} {g : Gd} {E : XK} {a b e o : Expr} {es : List Expr} {fa fb : FE} {kk : FA} {p pos apos : Pos} {k : Nat}
end
end FW
/-! Several names at once, each by its own kind; stores into dicts of tuples; pop of a list. -/
namespace FW
open PySem PySem.Spec PyProof.Rows L2 LamX

/-! ### len -/
section
variable {X : Cx} {g : Gd} {E : XK} {e : Expr} {es : List Expr} {kk : FA} {p pos : Pos}
end
/-! ### kinds -/
section
variable {g : Gd} {I0 H0 I H I' H' : Hp} {r : Env2} {σ : L2.St} {c : Kd} {v : V} {d : D}
theorem SRI.setK (x : SRI g I0 H0 I r σ H) {i : Nat} (hi : i < r.length) (h : Held c g H0 I H v d) (fr : c ≠ .v → ∀ (j : Nat) (e : D), r[j]? = some (Sl.own e) → σ[j]? ≠ some (some v)) : SRI g I0 H0 I (r.set i (c.sl d)) (σ.set i (some v)) H := by
  have own : c ≠ .v → SRI g I0 H0 I (r.set i (.own d)) (σ.set i (some v)) H := fun hc => by
    obtain ⟨p, o, rfl, h2, h3, h4, h5, h6⟩ := h.own hc
    exact x.setO hi h2 h3 h4 h5 h6 (fr hc)
  cases c with
  | v => exact x.setV hi h
  | l => exact own (fun z => by cases z)
  | k => exact own (fun z => by cases z)
  | t => exact own (fun z => by cases z)
theorem sl_own {e : D} (h : c.sl d = .own e) : c ≠ .v ∧ e = d := by
  cases c <;> cases h <;> exact ⟨fun z => (by cases z), rfl⟩
end
section
variable {X : Cx} {g : Gd} {E : XK} {e : Expr} {w : WE}
/-- what stands there is apart from what is new -/
theorem Held.fresh {c c2 : Kd} {I0 H0 I H : Hp} {r : Env2} {σ : L2.St} {i : Nat} {v v2 : V} {d : D} (hi : i < r.length) (hl : σ.length = r.length) (hd : Held c g H0 I H v d) (h : ∀ (m : Nat) (e : D), r[m]? = some (Sl.own e) → σ[m]? ≠ some (some v2)) (n : ∃ p, v2 = .ref p ∧ NT H p) : ∀ (m : Nat) (e : D), (r.set i (c.sl d))[m]? = some (Sl.own e) → (σ.set i (some v))[m]? ≠ some (some v2) := fun m e hm hs => by
  by_cases em : m = i
  · subst em
    rw [List.getElem?_set_self hi] at hm
    rw [List.getElem?_set_self (by rw [hl]; exact hi)] at hs
    cases hs
    obtain ⟨hc, _⟩ := sl_own (Option.some.inj hm)
    obtain ⟨p, o, rfl, _, _, _, hp, ho⟩ := hd.own hc
    obtain ⟨p2, e2, n⟩ := n
    cases e2
    exact n.none_of hp (chg_tbl ho.chg)
  · rw [List.getElem?_set_ne (Ne.symm em)] at hm hs
    exact h m e hm hs
end
/-! ### two, three at once -/
section
variable {X : Cx} {g : Gd} {E : XK} {i j l : Nat} {x y z : Str} {a b c : Expr} {w1 w2 w3 : WE} {px py pz pt pos pt2 : Pos} {kt k2 : Nat} {c1 c2 c3 : Kd}
end
/-! ### {k: v}, a dict of one tuple -/
section
variable {X : Cx} {g : Gd} {E : XK} {ek ev : Expr} {fk fv : FE} {pos : Pos}
end
/-! ### d[k] = v -/
section
variable {X : Cx} {g : Gd} {E : XK} {wk wv : WE} {pos : Pos}
/-- x = y.pop(0) -/
def wsPop0 (i j : Nat) : WS := ⟨fun r k => (i < r.length ∧ i ≠ j) ∧ ∃ d ds, r[j]? = some (Sl.own (.lst (d :: ds))) ∧ k.nx ((r.set j (Sl.own (.lst ds))).set i (Sl.val d)), fun h ⟨q1, d, ds, q2, q3⟩ => ⟨q1, d, ds, q2, h.nx _ q3⟩⟩
theorem s_pop0 (i j : Nat) {x y : Str} {px py ap cp p0 : Pos} {n0 : Nat} (hN : X.N.Nodup) (hj : X.N[j]? = some y := by rfl) (hv : Vis X.env.scope y := by first | exact Or.inl rfl | exact Or.inr (Or.inl rfl) | exact Or.inr (Or.inr rfl)) (hd : (y == ("__debug__" : Str)) = false := by decide) (hcd : (y == ("__classdict__" : Str)) = false := by decide)
    (hbase : attributeBase (.Name y py) "pop" X.env (eval (.Name y py) X.env) = eval (.Name y py) X.env := by rfl)
    (hfew : ((backTo cp (starEach [.Constant (.int 0) n0 p0] X.env)).all (fun x => !x.1) && (backToKw cp (keywordEach [] X.env)).all (fun x => x.1.isSome) && decide ([Expr.Constant (.int 0) n0 p0].length + ([] : List Keyword).length + (if ([] : List Keyword).isEmpty then 0 else 1) < 30)) = true := by rfl)
    (hline : (ap.endLine == cp.line) = true := by rfl) (hst : starEach [.Constant (.int 0) n0 p0] X.env = (false, eval (.Constant (.int 0) n0 p0) X.env) :: starEach [] X.env := by rfl) (hpl : (backTo cp (starEach [] X.env)).any (·.1) = false := by rfl)
    (hi : X.N[i]? = some x := by rfl) (hx : Loc X.env.scope x := by first | exact Or.inl rfl | exact Or.inr rfl) (hs : swapsWith (.Call (.Attribute (.Name y py) "pop" ap) [.Constant (.int 0) n0 p0] [] cp) (some (.Name x px)) pos.line X.env = pure false := by rfl) (hf : X.fn x = true ∨ X.env.scope.names.lookup x = some .local := by first | exact .inl rfl | exact .inr rfl | assumption) :
    PS X (.Assign [.Name x px] (.Call (.Attribute (.Name y py) "pop" ap) [.Constant (.int 0) n0 p0] [] cp) pos) (tWS g X.mg E (wsPop0 i j)) :=
  (ps_set (i := i) hN hi hx (pe_bm PySem.F.plainAttrs_list PySem.F.slot_list_pop PySem.F.type_list_pop mt_popAt (pv j hj hv hd hcd) (pa_cons pe_int pa_nil hst) hbase hfew hline hst hpl) hs hf).imp fun D σ H h => by
    obtain ⟨I0, H0, r, ⟨I, z⟩, ⟨li, hij⟩, d, ds, hr, h⟩ := h
    obtain ⟨p, o, q1, q2, q3, q4, q5, q6⟩ := z.own j _ hr
    cases o with
    | lst vs =>
      have rv : DRs g I vs (d :: ds) := q6
      cases rv with
      | cons yv yt =>
        rename_i v vt
        refine ⟨.ref p, q1, .inl ⟨rfl, _, SqL.of q5⟩, ?_⟩
        refine ⟨p, v :: vt, 0, 0, v, rfl, rfl, q5, by decide, by decide, ?_, rfl, ?_⟩
        · rw [List.length_cons]; unfold seqIndex?; simp
        · exact h _ _ ⟨I, (z.put (o := .lst vt) (d' := .lst ds) hr q1 (show DRs g I vt ds from yt)).setV (by rw [List.length_set]; exact li) yv⟩
    | _ => exact (show False from q6).elim
end
theorem imp_pop0 {i j : Nat} : ImpS (fsPop0 i j) (wsPop0 i j) := fun r k q => by
  unfold fsPop0 at q
  split at q
  · rename_i hi
    split at q
    · rename_i d ds e
      exact ⟨hi, d, ds, e, q⟩
    · exact q.elim
  · exact q.elim
end FW
/-! Defs that give a new list of their own; min with a default; the least of lists. -/
namespace FW
open PySem PySem.Spec PyProof.Rows L2 LamX
section
variable {X : Cx} {g : Gd} {E : XK}
theorem o_sortR {k : Nat} {a : Expr} {fa : FE} {p pos : Pos} (hr : Room k X.A) (hg : Gl X "sorted") (hm : X.mg "sorted" = none) (ha : PE X a (tF g X.mg E fa))
    (na : starEach [a] X.env = (false, eval a X.env) :: starEach [] X.env := by rfl) : PE X (.Call (.Name "sorted" p) [a] [] pos) (tO g X.mg E (wOf (fSortR fa))) := by
  refine ⟨fun pins s σ H Q J h => ?_⟩
  obtain ⟨I, r, rl, er, h⟩ := h
  have h : resW ((fa r).bind dSortR) (fun d => (∃ ds, d = .lst ds) ∧ endO g I H Q d) (excW g X.mg E I H) := h
  refine Call_ (ld_blt J hg hm (by decide +kernel : bootBuiltins "sorted" = some (.builtin "sorted")) ?_)
  refine PyProof.Rows.callWith_builtin1 (PyProof.Rows.args_cons (thn (ha.run pins s σ H _ J ⟨I, r, rl, er, Pst.iff.mpr (resW.mono (fun d h1 v I1 H1 s1 x1 => (⟨I1, d, s1, x1, h1⟩ : ∃ I1 d, Stp g I H I1 H1 ∧ DR g I1 v d ∧ resW (dSortR d) (fun d => (∃ ds, d = .lst ds) ∧ endO g I H Q d) (excW g X.mg E I H))) (fun _ z => z) (resW_bind h))⟩) fun u s1 ⟨x, H1, J1, r1, q1⟩ => PyProof.Rows.args_nil ?_) na) na rfl
  obtain ⟨I1, d, st, x1, h1⟩ := q1
  unfold dSortR at h1
  split at h1
  · rename_i ds
    split at h1
    · rename_i rs ers
      split at h1
      · rename_i hlen
        obtain ⟨rfl, hne⟩ := rowsD_eq ers
        cases x1 with
        | lst hI t =>
          cases r1
          obtain ⟨its, rv, hL, hz⟩ := J1.list (SqL.of (st.rl.sub _ _ hI))
          have ea := each_rows t rv
          have hal : PySem.W.AllAlike (rs.map fun row => PyData.tuple (row.map .int)) := PySem.W.AllAlike.of fun b b' => by rw [PySem.W.alike]; exact PySem.W.alike_ints b b'
          refine PySem.W.sorted_data (bs := rs) (enc := fun row => .tuple (row.map .int)) (R := StR g I1) hL.isList ea (ea.mono fun u row q => q.reads J1 st.rl) hal (.inl fun d hd => ?_) (Nat.le_trans hlen (by rw [sizeLine_eq]; decide)) (fun b hb => ?_) fun out hol hout => ?_
          · obtain ⟨row, hr', rfl⟩ := List.mem_map.mp hd
            obtain ⟨n, ns, rfl⟩ := hne row hr'
            exact ⟨.int n, ns.map .int, rfl⟩
          · show X.A.units + 2 + (PyData.depthAll (b.map .int) + 1) < cLine
            rw [PySem.W.depth_ints]
            have := hr.un
            omega
          · rw [dataLe_tups fun row => row, merge_eq totR] at hout
            obtain ⟨ys, y1, y2⟩ := rows_out hout
            obtain ⟨ep, he'⟩ := PyProof.Rows.sortedAll_at s1.heap its (List.toArray out)
            have hle : ys.length ≤ sizeLine := by rw [y1.length, hol]; exact Nat.le_trans hlen (by rw [sizeLine_eq]; decide)
            have hnS : H1 (s1.heap.objs.size + 1) = none := J1.hok.fresh (Nat.le_succ _)
            refine ⟨.ref _, upd H1 (s1.heap.objs.size + 1) (.lst ys), J1.laid (t' := s1.toks) (fun _ _ => PyProof.Rows.sortedAll_old) (Nat.le_succ _) ⟨hle, out, ep, y1, he'⟩, rfl, ?_⟩
            exact h1.2 _ I1 _ (st.trans (st.rl.lay hnS)) (st.back (NT.of hnS)) (st.rl.nz hnS) (st.rl.out hnS) fun zs ez => by
              cases ez
              exact ⟨_, upd_same, y2⟩
      · exact h1.elim
    · exact h1.elim
  · exact h1.elim
end
/-! ### a def that ends with a new list -/
def tWSO (g : Gd) (mg : Str → Option Value) (E : XK) (w : WS) (wr : WE) : TS := fun D σ H => ∃ I0 H0 r, SR g I0 H0 r σ H ∧ w.run r { nx := fun r' => wr.run (allv r') (fun d => (∃ ds, d = .lst ds) ∧ endO g I0 H0 D.rt d) (excW g mg E I0 H0), rt := fun _ => False, bk := fun _ => False, ct := fun _ => False, ex := excW g mg E I0 H0 }
section
variable {X : Cx} {g : Gd} {E : XK} {st : Stmt} {rest : List Stmt} {e : Expr} {a b : WS} {wr : WE} {pos : Pos}
theorem sO_cons (h1 : PS X st (tWS g X.mg E a)) (h2 : PSs X rest (tWSO g X.mg E b wr)) : PSs X (st :: rest) (tWSO g X.mg E (wsSeq a b) wr) := (pss_cons h1 h2).imp fun D σ H h => by
  obtain ⟨I0, H0, r, x, h⟩ := h
  exact ⟨I0, H0, r, x, a.mono (k := { nx := fun r' => b.run r' { nx := fun r' => wr.run (allv r') (fun d => (∃ ds, d = .lst ds) ∧ endO g I0 H0 D.rt d) (excW g X.mg E I0 H0), rt := fun _ => False, bk := fun _ => False, ct := fun _ => False, ex := excW g X.mg E I0 H0 }, rt := fun _ => False, bk := fun _ => False, ct := fun _ => False, ex := excW g X.mg E I0 H0 }) ⟨fun r' z σ' H' x' => ⟨I0, H0, r', x', z⟩, fun _ z => False.elim z, fun _ z => False.elim z, fun _ z => False.elim z, fun _ z => z⟩ h⟩
theorem sO_ret (he : PE X e (tO g X.mg E wr)) : PSs X [.Return (some e) pos] (tWSO g X.mg E wsSkip wr) := (pss_one (ps_ret he)).imp fun D σ H h => by
  obtain ⟨I0, H0, r, ⟨I, x⟩, h⟩ := h
  obtain ⟨sb, st, er⟩ := x.plus
  exact ⟨_, allv r, st.rl, er, wr.mono (fun d z => ⟨z.1, fun p I' H' s n nz hI hd => z.2 p I' H' (st.trans s) (st.back n) nz hI hd⟩) (fun c z => excW.step st z) h⟩
end
def spO (mg : Str → Option Value) (T : List (Addr × Str)) (f : List D → Res D) : Sp := fun vs H Q E => ∃ (g : Gd) (I : Hp) (ds : List D), g.T = T ∧ Rl g I H ∧ DRs g I vs ds ∧ resW (f ds) (fun d => (∃ es, d = .lst es) ∧ endO g I H Q d) (excW g mg E I H)
structure CalO (P : Program) (w : World) (K : PySem.W.Frag) (mg : Str → Option Value) (base : Heap) (T : List (Addr × Str)) (k : Nat) (x : Str) (ps : List Str) (fn : List D → Res D) : Prop where
  ex : ∃ f fd, FnOk P w K mg base (L2N.CX P w) k f fd ps (spO mg T fn) ∧ mg x = some (.ref f) ∧ PySem.W.keepIn K (.ref f) = true ∧ Binds K fd ps []
section
variable {X : Cx} {g : Gd} {E : XK} {k kl : Nat} {x : Str} {ps : List Str} {e : Expr} {es : List Expr} {p pos : Pos} {T : List (Addr × Str)}
theorem o_callO {fn : List D → Res D} {kk : FA} (C : CalO X.prog X.w X.K X.mg X.base T kl x ps fn) (B : Bd X E k) (hT : g.T = T) (ha : PA X (e :: es) (tFA g X.mg E kk)) (hle : kl ≤ k := by decide) (hg : Gl X x := by rfl) (hdb : (x == ("__debug__" : Str)) = false := by decide) (he : starEach (e :: es) X.env = (false, eval e X.env) :: starEach es X.env := by rfl)
    (hpl : (backTo pos (starEach es X.env)).any (·.1) = false := by rfl) : PE X (.Call (.Name x p) (e :: es) [] pos) (tO g X.mg E (wOf (fCall fn kk))) := by
  obtain ⟨f, fd, F, hm, hk, hb⟩ := C.ex
  refine (pe_call F (B.hr.mono hle) hg hm hk hb .nil B.ps ha hdb he hpl).imp fun σ H Q h => ?_
  obtain ⟨I, r, rl, er, h⟩ := h
  have h : resW ((kk r).bind fn) (fun d => (∃ es, d = .lst es) ∧ endO g I H Q d) (excW g X.mg E I H) := h
  refine ⟨I, r, rl, er, Pst.iff.mpr (resW.mono (fun ds h1 vs I1 H1 s1 x1 => ?_) (fun _ z => z) (resW_bind h))⟩
  show spO X.mg T fn (vs ++ []) H1 Q E
  rw [List.append_nil]
  exact ⟨g, I1, ds, hT, s1.rl, x1, resW.mono (fun d z => ⟨z.1, z.2.step s1⟩) (fun c z => excW.step s1 z) h1⟩
end
section
variable {P : Program} {w : World} {K : PySem.W.Frag} {mg : Str → Option Value} {base : Heap} {T : List (Addr × Str)}
theorem fn_okO {x : Str} {st : Stmt} {f : Addr} {fd : FuncData} {N ps : List Str} {k np n : Nat} {ws : WS} {fs : FS} {fr : FE} {cv : Value} (F : Fun K x x st f fd) (hcv : ∀ o1 o2 fd o3, K.lookup f = some ⟨o1, o2, .func fd, o3⟩ → fd.code = cv) (S : FnScope N ps (defScope st)) (hi : ImpS fs ws) (hnp : ps.length = np) (hn : N.length = n)
    (hb : ∀ (f : Addr) (A : Around) (outer : List PySem.Env) (s : Shared) (H : Hp) (E : XK) (g : Gd), g.T = T → Bd (cxOf (L2N.CX P w) P w K mg base N x (defScope st) f cv A outer s H E) E k → L2N.Takes (cxOf (L2N.CX P w) P w K mg base N x (defScope st) f cv A outer s H E) (fun cls d _ H => E cls d H) →
      PSs (cxOf (L2N.CX P w) P w K mg base N x (defScope st) f cv A outer s H E) (defBody st) (tWSO g mg E ws (wOf fr))) :
    FnOk P w K mg base (L2N.CX P w) (k + 1) f fd ps (spO mg T (fnO np n fs fr)) := by
  have len : ∀ vs H Q E, spO mg T (fnO np n fs fr) vs H Q E → vs.length = ps.length := fun vs H Q E ⟨g, I, ds, _, rl, h, q⟩ => by
    unfold fnO at q
    split at q
    · rename_i hl
      rw [h.len, hl, hnp]
    · exact q.elim
  refine fn_Vc (t := fun E => fun kc σ H => ∃ (g : Gd), g.T = T ∧ tWSO g mg E ws (wOf fr) kc σ H) F hcv S len (fun A outer s H E B tk => ?_) (fun vs H Q E hsp => ?_)
  · exact ⟨fun pins s1 σ H1 D J ⟨g, e, q⟩ => (hb f A outer s H E g e B tk).run pins s1 σ H1 D J q⟩
  · obtain ⟨g, I, ds, hg, rl, h, q⟩ := hsp
    unfold fnO at q
    split at q
    · rename_i hl
      refine ⟨g, hg, I, H, initE n ds, ⟨I, ?_⟩, hi _ _ (resW.mono (fun o z => ?_) (fun _ z => z) (resW_bind q))⟩
      · have hpl : ps.length ≤ N.length := by
          have := congrArg List.length S.pre
          rw [List.length_take] at this
          omega
        rw [← hn]
        exact sri_start rl h (by rw [hl, ← hnp]; exact hpl)
      · cases o with
        | nx r' => exact z
        | rt d => exact z
        | bk r' => exact z
        | ct r' => exact z
    · exact q.elim
end
/-! ### min with a default -/
section
variable {X : Cx} {g : Gd} {E : XK}
theorem e_minD {k : Nat} {a : Expr} {fa : FE} {p pos kp p1 : Pos} {n1 : Nat} (hr : Room k X.A) (hc : X.calm = true) (hg : Gl X "min") (hm : X.mg "min" = none) (ha : PE X a (tF g X.mg E fa))
    (na : starEach [a] X.env = (false, eval a X.env) :: starEach [] X.env := by rfl) : PE X (.Call (.Name "min" p) [a] [⟨some "default", .Constant .none n1 p1, kp⟩] pos) (tF g X.mg E (fMinD fa)) := by
  refine ⟨fun pins s σ H Q J h => ?_⟩
  obtain ⟨I, r, rl, er, h⟩ := h
  refine wpAny_Call_Name_kw (ld_blt J hg hm (by decide +kernel : bootBuiltins "min" = some (.builtin "min")) ?_)
  refine PyProof.Rows.callWith_kw (PyProof.Rows.args_cons (thn (ha.run pins s σ H _ J ⟨I, r, rl, er, Pst.first h fun d v I1 H1 _ s1 x1 h1 => (⟨I1, d, s1, x1, h1⟩ : ∃ I1 d, Stp g I H I1 H1 ∧ DR g I1 v d ∧ Pst g X.mg E (DR g) I1 H1 (dMinD d) Q)⟩) fun u s1 ⟨v, H1, J1, r1, q1⟩ => PyProof.Rows.args_nil ?_) na) (by rw [na]; rfl) (by rw [na]; rfl) rfl rfl
  obtain ⟨I1, d, st, x1, h1⟩ := q1
  show wpAny _ _ (evalAll ((do let v ← eval (.Constant .none n1 p1) X.env; standAt pos; pure v) :: [])) _ _ _
  refine wpAny_evalAll_cons (wpAny_bind (wpAny_Constant_none (wpAny_bind (wpAny_standAt (wpAny_pure (wpAny_evalAll_nil ?_))))))
  show wpAny _ _ (call (.builtin "min") [u] [(Str.ofString "default", .none)]) _ _ s1
  unfold dMinD at h1
  split at h1
  · rename_i xs
    cases x1 with
    | lst hI t =>
      cases r1
      have fin : ∀ ns : List Int, intsOf xs = some ns → (ns = [] → Q .non H1) → (∀ n ms, ns = n :: ms → Q (.int (ms.foldl min n)) H1) → wpAny (model X.prog X.w) X.A (call (.builtin "min") [.ref _] [(Str.ofString "default", .none)]) (fun v s' => ∃ x H', Inv X pins σ H' s' ∧ RelV x v ∧ Q x H') X.xe s1 := fun ns ei q0 q1 => by
        have hI' := st.rl.sub _ _ hI
        rw [t.ints ei] at hI'
        obtain ⟨its, rv, tp, _⟩ := J1.list (SqL.of hI')
        refine PySem.W.min_list_default (xs := ns.map .int) (J1.ok.hd hc) tp.isList (by rw [List.toList_toArray]; exact reads_ints rv) (alikeAll_ints ns) ?_ (fun e h' tk hk => ?_) fun y ys i v h' tk bs e hi r hk => ?_
        · rw [PySem.W.depth_ints]; have := hr.un; omega
        · exact ⟨.non, H1, J1.kept hk, rfl, q0 (List.map_eq_nil_iff.mp e)⟩
        · cases ns with
          | nil => cases e
          | cons n ms =>
            rw [List.map_cons] at e
            injection e with e1 e2
            subst e1 e2
            rw [PySem.W.minD_ints] at r
            cases r with
            | int _ t => exact ⟨.int _, H1, J1.kept hk, ⟨t, rfl⟩, q1 n ms rfl⟩
      split at h1
      · rename_i n ns ei
        exact fin _ ei (fun e => by cases e) fun n ms e => by cases e; exact h1.here st.rl (.int _)
      · rename_i ei
        exact fin _ ei (fun _ => h1.here st.rl .non) fun n ms e => by cases e
      · exact h1.elim
  · exact h1.elim
end
end FW
/-! The least of a list of lists of ints. -/
namespace FW
open PySem PySem.Spec PyProof.Rows L2 LamX
def lstR (r : List Int) : D := .lst (r.map .int)
section
variable {X : Cx} {g : Gd} {E : XK} {I H : Hp} {pins : List (Addr × Obj)} {σ : L2.St} {s : Shared}
def StL (g : Gd) (I : Hp) (u : Value) (row : List Int) : Prop := ∃ v, RelV v u ∧ DR g I v (lstR row)
theorem StL.reads (J : Inv X pins σ H s) (rl : Rl g I H) {u : Value} {row : List Int} (h : StL g I u row) : ∃ as, Reads s.heap u (.list (row.map .int)) as := by
  obtain ⟨v, h1, h2⟩ := h
  have := Dp.reads J (lstR row).py v u ((h2.mono rl.sub).dp X.K (by unfold lstR; rw [D.lay]; exact lays_intsR row)) h1
  unfold lstR at this
  rw [D.py, py_ints] at this
  exact this
end
end FW
namespace FW
open PySem PySem.Spec PyProof.Rows L2 LamX
section
variable {X : Cx} {g : Gd} {E : XK} {a e : Expr} {es : List Expr} {fa : FE} {kk : FA} {p pos : Pos}
/-! ### min of a list or tuple of ints -/
end
end FW
/-! `for i, (a, b) in enumerate(zip(x, y))`. -/
namespace FW
open PySem PySem.Spec PyProof.Rows L2 LamX
section
variable {prog : Program} {w : World} {A : Around} {E : Value → Shared → Prop} {s : Shared} {z TI TO e i1 i2 : Addr} {fp1 fp2 : List Addr} {n1 n2 i : Nat} {P1 P2 : Nat → Value → Prop} {St1 St2 : Nat → Heap → Prop} {c : Int} {old : Value}
theorem zO_item {Q : Value → Shared → Prop} (S : ZipSep2 z TI TO i1 i2 fp1 fp2) (D1 : Draws prog w A.in1 i1 fp1 n1 P1 St1) (D2 : Draws prog w A.in1 i2 fp2 n2 P2 St2) (st : ZSN z TI TO i1 i2 St1 St2 i s.heap) (l1 : i < n1) (l2 : i < n2)
    (hQ : ∀ x1 x2 h' tk, P1 i x1 → P2 i x2 → ZSN z TI TO i1 i2 St1 St2 (i + 1) h' → IsTupOf2 h' s.heap.objs.size x1 x2 → (∀ c o, c ≠ z → c ≠ TO → c ≠ i1 → c ≠ i2 → s.heap.get? c = some o → h'.get? c = some o) → Q (.ref s.heap.objs.size) { s with heap := h', toks := tk }) :
    wpAny (model prog w) A (Builtin.SmallTypes.nextOf (.ref z)) Q E s := by
  obtain ⟨c1, ⟨a1, a2, c2⟩, c3, c4, c5⟩ := st
  have go : s.TypeIs (.ref z) "zip" → wpAny (model prog w) A.in1 (Builtin.«zip.__next__» ⟨[.ref z], []⟩) (fun fin s' => ∃ v, fin = .done (.ret v) ∧ wpAny (model prog w) A (pure v) Q E s') E s → wpAny (model prog w) A (Builtin.SmallTypes.nextOf (.ref z)) Q E s := fun ht h => by
    unfold Builtin.SmallTypes.nextOf
    exact wpAny_bind (wpAny_callSpecial?_slot (name := Str.ofString "__next__") ht F.slot_zip_next (wpAny_call_entry F.slot_zip_next ht F.entry_zip_next h (F.args_zip_next_1 _)))
  rcases c5 with c5 | ⟨T, f, c5⟩
  · refine go ⟨_, c5, rfl⟩ (zipD2_next_item S D1 D2 c5 c1 c2 c3 c4 l1 l2 fun x1 x2 h' tk y1 y2 b1 b2 b3 b4 b5 b6 hk => wpAny_pure ?_)
    exact hQ x1 x2 h' tk y1 y2 ⟨hk _ _ S.TIz S.TITO S.TIi1 S.TIi2 c1, ⟨_, _, b2⟩, b3, b4, .inr ⟨_, _, b1⟩⟩ b5 hk
  · cases hT : s.heap.get? T with
    | some oT =>
      refine go ⟨_, c5, rfl⟩ (zH_item S D1 D2 c5 hT c1 c3 c4 l1 l2 fun x1 x2 h' tk y1 y2 b1 b3 b4 b5 hk => wpAny_pure ?_)
      exact hQ x1 x2 h' tk y1 y2 ⟨hk _ _ S.TIz S.TIi1 S.TIi2 c1, ⟨_, _, hk _ _ S.TOz S.Ti1 S.Ti2 c2⟩, b3, b4, .inr ⟨_, _, b1⟩⟩ b5 fun c o h1 _ h3 h4 e => hk c o h1 h3 h4 e
    | none =>
      refine go ⟨_, c5, rfl⟩ (zD_item S D1 D2 c5 hT c1 c2 c3 c4 l1 l2 fun x1 x2 h' tk y1 y2 b1 b2 b3 b4 b5 hk => wpAny_pure ?_)
      exact hQ x1 x2 h' tk y1 y2 ⟨hk _ _ S.TIz S.TITO S.TIi1 S.TIi2 c1, ⟨_, _, b2⟩, b3, b4, .inr ⟨_, _, b1⟩⟩ b5 hk
theorem zO_end {Q : Value → Shared → Prop} (S : ZipSep2 z TI TO i1 i2 fp1 fp2) (D1 : Draws prog w A.in1 i1 fp1 n1 P1 St1) (D2 : Draws prog w A.in1 i2 fp2 n2 P2 St2) (st : ZSN z TI TO i1 i2 St1 St2 i s.heap) (l1 : i ≤ n1) (l2 : i ≤ n2) (hend : i = n1 ∨ i = n2)
    (hE : ∀ h' tk e, (∀ c o, c ≠ z → c ≠ TO → c ≠ i1 → c ≠ i2 → s.heap.get? c = some o → h'.get? c = some o) → (∃ o, h'.get? e = some o ∧ o.cls = .type "StopIteration") → E (.ref e) { s with heap := h', toks := tk }) :
    wpAny (model prog w) A (Builtin.SmallTypes.nextOf (.ref z)) Q E s := by
  obtain ⟨c1, ⟨a1, a2, c2⟩, c3, c4, c5⟩ := st
  have go : s.TypeIs (.ref z) "zip" → wpAny (model prog w) A.in1 (Builtin.«zip.__next__» ⟨[.ref z], []⟩) (fun fin s' => ∃ v, fin = .done (.ret v) ∧ wpAny (model prog w) A (pure v) Q E s') E s → wpAny (model prog w) A (Builtin.SmallTypes.nextOf (.ref z)) Q E s := fun ht h => by
    unfold Builtin.SmallTypes.nextOf
    exact wpAny_bind (wpAny_callSpecial?_slot (name := Str.ofString "__next__") ht F.slot_zip_next (wpAny_call_entry F.slot_zip_next ht F.entry_zip_next h (F.args_zip_next_1 _)))
  rcases c5 with c5 | ⟨T, f, c5⟩
  · exact go ⟨_, c5, rfl⟩ (zipD2_next_end S D1 D2 c5 c1 c2 c3 c4 l1 l2 hend hE)
  · cases hT : s.heap.get? T with
    | some oT => exact go ⟨_, c5, rfl⟩ (zH_end S D1 D2 c5 hT c1 c3 c4 l1 l2 hend fun h' tk e hk he => hE h' tk e (fun c o h1 _ h3 h4 q => hk c o h1 h3 h4 q) he)
    | none => exact go ⟨_, c5, rfl⟩ (zD_end S D1 D2 c5 hT c1 c2 c3 c4 l1 l2 hend hE)
/-- enumerate's turn over a zip; h1: behind the zip's own -/
theorem enumZ_item {Q : Option Value → Shared → Prop} (S : ZipSep2 z TI TO i1 i2 fp1 fp2) (D1 : Draws prog w A.in1.in1 i1 fp1 n1 P1 St1) (D2 : Draws prog w A.in1.in1 i2 fp2 n2 P2 St2) (he : IsEnum s.heap e z c old) (st : ZSN z TI TO i1 i2 St1 St2 i s.heap) (l1 : i < n1) (l2 : i < n2)
    (hez : e ∉ z :: TI :: TO :: (fp1 ++ fp2)) (hi1 : i1 ∈ fp1) (hi2 : i2 ∈ fp2)
    (hQ : ∀ x1 x2 h₁ h' tk t, P1 i x1 → P2 i x2 → IsTupOf2 h₁ s.heap.objs.size x1 x2 → (∀ c o, c ≠ z → c ≠ TO → c ≠ i1 → c ≠ i2 → s.heap.get? c = some o → h₁.get? c = some o) →
      IsEnumOut h' e z (c + 1) (.ref s.heap.objs.size) h₁.objs.size → ZSN z TI TO i1 i2 St1 St2 (i + 1) h' → h'.get? h₁.objs.size = some { cls := .type "tuple", data := .seq #[.int c t, .ref s.heap.objs.size] } →
      (∀ b o, b ≠ e → h₁.get? b = some o → h'.get? b = some o) → Q (some (.ref h₁.objs.size)) { s with heap := h', toks := tk }) :
    wpAny (model prog w) A (pyNext (.ref e)) Q E s := by
  have hT : s.TypeIs (.ref e) "enumerate" := ⟨_, he, rfl⟩
  unfold pyNext
  refine wpAny_bind (wpAny_attempt (wpAny_callSpecial?_slot (name := Str.ofString "__next__") hT F.slot_enumerate_next (wpAny_call_entry F.slot_enumerate_next hT F.entry_enumerate_next ?_ (F.args_enumerate_next_1 _))))
  have nz : e ≠ z := fun q => hez (by simp [q])
  have nO : e ≠ TO := fun q => hez (by simp [q])
  have n1' : e ≠ i1 := fun q => hez (by simp [q, hi1])
  have n2' : e ≠ i2 := fun q => hez (by simp [q, hi2])
  obtain ⟨hp, g, d, tk₀, os⟩ := s
  show wpAny _ _ (field (.ref e) 2 >>= _) _ _ _
  refine wpAny_bind (wpAny_field he rfl (x := .ref z) rfl ?_)
  refine wpAny_bind (zO_item S D1 D2 st l1 l2 fun x1 x2 h₁ tk y1 y2 st₁ hp₁ hk₁ => ?_)
  replace hk₁ : ∀ c o, c ≠ z → c ≠ TO → c ≠ i1 → c ≠ i2 → hp.get? c = some o → h₁.get? c = some o := hk₁
  replace hp₁ : IsTupOf2 h₁ hp.objs.size x1 x2 := hp₁
  have he₁ : IsEnum h₁ e z c old := hk₁ _ _ nz nO n1' n2' he
  show wpAny _ _ (field (.ref e) 3 >>= _) _ _ ⟨h₁, g, d, tk, os⟩
  refine wpAny_bind (wpAny_field he₁ rfl (x := rawInt c) rfl ?_)
  show wpAny _ _ (field (.ref e) 4 >>= _) _ _ ⟨h₁, g, d, tk, os⟩
  refine wpAny_bind (wpAny_field he₁ rfl (x := .none) rfl ?_)
  show wpAny _ _ (mkInt c >>= _) _ _ ⟨h₁, g, d, tk, os⟩
  refine wpAny_bind (wpAny_mkInt ?_)
  show wpAny _ _ (setField (.ref e) 3 (rawInt (c + 1)) >>= _) _ _ ⟨h₁, g, d, tk + 1, os⟩
  refine wpAny_bind (wpAny_setField_rec he₁ (by simp) fun h₂ he₂ hs₂ => ?_)
  replace hs₂ : Heap.SameBut e h₁ h₂ := hs₂
  replace he₂ : IsEnum h₂ e z (c + 1) old := he₂
  show wpAny _ _ (setField (.ref e) 4 .none >>= _) _ _ ⟨h₂, g, d, tk + 1, os⟩
  refine wpAny_bind (wpAny_setField_rec he₂ (by simp) fun h₃ he₃ hs₃ => ?_)
  replace hs₃ : Heap.SameBut e h₂ h₃ := hs₃
  replace he₃ : IsEnum h₃ e z (c + 1) old := he₃
  show wpAny _ _ (newTuple [.int c tk, .ref hp.objs.size] >>= _) _ _ ⟨h₃, g, d, tk + 1, os⟩
  refine wpAny_bind (wpAny_newTuple ?_)
  have he₄ : IsEnum (h₃.push { cls := .type "tuple", data := .seq #[.int c tk, .ref hp.objs.size] }) e z (c + 1) old := Heap.get?_push_of_some _ he₃
  generalize hh₄ : h₃.push { cls := .type "tuple", data := .seq #[.int c tk, .ref hp.objs.size] } = h₄ at he₄
  have hsz : h₃.objs.size = h₁.objs.size := by rw [hs₃.1, hs₂.1]
  have hel : e < h₁.objs.size := Heap.lt_size he₁
  have ht₄ : h₄.get? h₁.objs.size = some { cls := .type "tuple", data := .seq #[.int c tk, .ref hp.objs.size] } := by rw [← hh₄, ← hsz]; exact Heap.get?_push_size _ rfl
  have hk₄ : ∀ b o, b ≠ e → h₁.get? b = some o → h₄.get? b = some o := fun b o hbe hb => by
    rw [← hh₄]; exact Heap.get?_push_of_some _ (hs₃.extBut b o hbe (hs₂.extBut b o hbe hb))
  show wpAny _ _ (Builtin.SmallTypes.ownedTupleIsFree (.ref e) >>= _) _ _ ⟨h₄, g, d, tk + 1, os⟩
  rw [hsz]
  clear hh₄ he₃ hs₃ he₂ hs₂ hsz h₃ h₂
  refine wpAny_bind ?_
  · unfold Builtin.SmallTypes.ownedTupleIsFree
    refine wpAny_bind (wpAny_field he₄ rfl (x := .none) rfl (wpAny_pure ?_))
    simp only [if_true]
    refine wpAny_bind (wpAny_rule ?_)
    refine wpAny_bind (wpAny_field he₄ rfl (x := old) rfl ?_)
    refine wpAny_bind (wpAny_setField_rec he₄ (by simp) fun h₅ he₅ hs₅ => ?_)
    replace hs₅ : Heap.SameBut e h₄ h₅ := hs₅
    replace he₅ : IsEnum h₅ e z (c + 1) (.ref hp.objs.size) := he₅
    show wpAny _ _ (Builtin.SmallTypes.ownedTupleHandOut (.ref e) (.ref h₁.objs.size) >>= _) _ _ ⟨h₅, g, d, tk + 1, os⟩
    refine wpAny_bind ?_
    · unfold Builtin.SmallTypes.ownedTupleHandOut
      refine wpAny_bind (wpAny_setField_rec he₅ (by simp) fun h₆ he₆ hs₆ => ?_)
      replace hs₆ : Heap.SameBut e h₅ h₆ := hs₆
      replace he₆ : IsEnumOut h₆ e z (c + 1) (.ref hp.objs.size) h₁.objs.size := he₆
      refine wpAny_setField_rec he₆ (by simp) fun h₇ he₇ hs₇ => ?_
      replace hs₇ : Heap.SameBut e h₆ h₇ := hs₇
      replace he₇ : IsEnumOut h₇ e z (c + 1) (.ref hp.objs.size) h₁.objs.size := he₇
      have hk₇ : ∀ b o, b ≠ e → h₁.get? b = some o → h₇.get? b = some o := fun b o hbe hb => hs₇.extBut b o hbe (hs₆.extBut b o hbe (hs₅.extBut b o hbe (hk₄ b o hbe hb)))
      refine wpAny_bind (wpAny_letGo (wpAny_pure ⟨_, rfl, wpAny_pure (hQ x1 x2 h₁ h₇ (tk + 1) tk y1 y2 hp₁ hk₁ he₇ (st₁.keep D1 D2 fun b hb o y => hk₇ b o (fun q => hez (q ▸ hb)) y) ?_ hk₇)⟩))
      exact hs₇.extBut _ _ (Nat.ne_of_gt hel) (hs₆.extBut _ _ (Nat.ne_of_gt hel) (hs₅.extBut _ _ (Nat.ne_of_gt hel) ht₄))
theorem enumZ_end {Q : Option Value → Shared → Prop} (S : ZipSep2 z TI TO i1 i2 fp1 fp2) (D1 : Draws prog w A.in1.in1 i1 fp1 n1 P1 St1) (D2 : Draws prog w A.in1.in1 i2 fp2 n2 P2 St2) (he : IsEnum s.heap e z c old) (st : ZSN z TI TO i1 i2 St1 St2 i s.heap) (l1 : i ≤ n1) (l2 : i ≤ n2) (hend : i = n1 ∨ i = n2)
    (hQ : ∀ h' tk, (∀ c o, c ≠ z → c ≠ TO → c ≠ i1 → c ≠ i2 → s.heap.get? c = some o → h'.get? c = some o) → Q none { s with heap := h', toks := tk }) : wpAny (model prog w) A (pyNext (.ref e)) Q E s := by
  have hT : s.TypeIs (.ref e) "enumerate" := ⟨_, he, rfl⟩
  unfold pyNext
  refine wpAny_bind (wpAny_attempt (wpAny_callSpecial?_slot (name := Str.ofString "__next__") hT F.slot_enumerate_next (wpAny_call_entry F.slot_enumerate_next hT F.entry_enumerate_next ?_ (F.args_enumerate_next_1 _))))
  show wpAny _ _ (field (.ref e) 2 >>= _) _ _ _
  refine wpAny_bind (wpAny_field he rfl (x := .ref z) rfl ?_)
  refine wpAny_bind (zO_end S D1 D2 st l1 l2 hend fun h' tk x hk hx => ?_)
  obtain ⟨o, ho, hc⟩ := hx
  refine wpAny_bind (wpAny_isInstance (T := "StopIteration") (b := true) ⟨o, ho, hc⟩ isSubtype_stop ?_)
  exact wpAny_pure (hQ _ _ hk)
/-- enumerate(v), v its own iterator -/
theorem enS_new {v : Value} {P : Heap → Prop} (B : ∀ (prog : Program) (w : World) (A : Around) (E : Value → Shared → Prop) (s : Shared) (Q : Value → Shared → Prop), P s.heap → Q v s → wpAny (model prog w) A (pyIter v) Q E s) :
    Meets (Builtin.«enumerate.__new__» ⟨[.type "enumerate", v], []⟩) (fun _ R s => P s.heap ∧
      R (.ok (.ret (.ref s.heap.objs.size))) { s with heap := s.heap.push { cls := .type "enumerate", data := .fields #[.none, .bool false, v, rawInt 0, .none, .none] } }) := by
  refine Meets.of_wp fun prog w A R s hh => ?_
  obtain ⟨hp, gs, dr, tk, os⟩ := s
  obtain ⟨h1, hR⟩ := hh
  have hsub := sub_enumerate
  have go : ∀ {A' : Around} {E : Value → Shared → Prop} {Q : Value → Shared → Prop}, Q v ⟨hp, gs, dr, tk, os⟩ → wpAny (model prog w) A' (pyIter v) Q E ⟨hp, gs, dr, tk, os⟩ := fun q => B prog w _ _ ⟨hp, gs, dr, tk, os⟩ _ h1 q
  wp_walk using go
  refine wpAny_stack_any fun st => wpAny_pure ?_
  split
  · rename_i c _ _ _ _ _
    cases (c == Value.type "enumerate") <;> (wp_walk using go; exact ⟨_, rfl, hR⟩)
  · wp_walk using go
    exact ⟨_, rfl, hR⟩
theorem enS_call {Q : Value → Shared → Prop} {f0 : Value} (hz : IsZip s.heap z TI TO f0) (h : ∀ h', IsEnum h' s.heap.objs.size z 0 .none → (∀ b u, s.heap.get? b = some u → h'.get? b = some u) → Q (.ref s.heap.objs.size) { s with heap := h' }) :
    wpAny (model prog w) A (call (.type "enumerate") [.ref z]) Q E s := by
  refine callType_new F.called_enumerate (by decide) (F.typeCall_enumerate_1 _) (F.newCall_enumerate_1 _) (fun obj => F.args_object_init_2 obj _) F.entry_enumerate_new (enS_new (v := .ref z) (P := fun h => IsZip h z TI TO f0) fun prog w A E s Q h1 h2 => wpAny_pyIter_zip h1 h2) ⟨hz, ?_⟩
  have en : IsEnum (s.heap.push { cls := .type "enumerate", data := .fields #[.none, .bool false, .ref z, rawInt 0, .none, .none] }) s.heap.objs.size z 0 .none := Heap.get?_push_size s.heap rfl
  exact ⟨⟨_, en, rfl⟩, h _ en fun b u x => Heap.get?_push_of_some _ x⟩
end
end FW
/-! `for i, (a, b) in enumerate(zip(x, y))`, over data. -/
namespace FW
open PySem PySem.Spec PyProof.Rows L2 LamX
def ItEZ (K : PySem.W.Frag) (t t' : Bool) (a b : Addr) : It :=
  ⟨fun i H => ∃ (xs ys : List V) (x y : V), SqA K H t a xs ∧ SqA K H t' b ys ∧ xs[i]? = some x ∧ ys[i]? = some y,
   fun i H v H' => ∃ T1 T x y, v = .ref T ∧ H T1 = none ∧ (upd H T1 (.tup [x, y])) T = none ∧ H' = upd (upd H T1 (.tup [x, y])) T (.tup [.int (i : Nat), .ref T1]) ∧ (∀ xs, SqA K H t a xs → xs[i]? = some x) ∧ ∀ ys, SqA K H t' b ys → ys[i]? = some y,
   fun i H => ∃ xs ys : List V, SqA K H t a xs ∧ SqA K H t' b ys ∧ min xs.length ys.length = i⟩
theorem turn_EZ {P : Program} {w : World} {K : PySem.W.Frag} {elts : List Expr} {kk : Nat} {tpos : Pos} (t t' : Bool) {a b e z TI TO i1 i2 : Addr} (S : ZipSep2 z TI TO i1 i2 [i1, a] [i2, b]) (na : a ≠ i1) (nb : b ≠ i2) (hez : e ∉ z :: TI :: TO :: ([i1, a] ++ [i2, b])) :
    Turn P w K (.Tuple elts kk tpos) (ItEZ K t t' a b) [e, z, TI, TO, i1, i2] e (fun i h => (∃ old, IsEnum h e z (0 + ((i : Nat) : Int)) old) ∧ ZStN t t' a b z TI TO i1 i2 i h) where
  mem := List.mem_cons_self
  obj := fun i h st c hc => by
    rcases List.mem_cons.mp hc with q | q
    · rw [q]
      obtain ⟨⟨old, he⟩, _⟩ := st
      exact ⟨_, he, fun v q => nomatch q⟩
    · exact zstN_all st.2 c q
  keep := fun i h h' st k => by
    obtain ⟨⟨old, he⟩, h2, ⟨a1, a2, h3⟩, h4, h5, h1⟩ := st
    refine ⟨⟨old, k e (by simp) _ he⟩, k TI (by simp) _ h2, ⟨a1, a2, k TO (by simp) _ h3⟩, h4.keep fun o q => k i1 (by simp) o q, h5.keep fun o q => k i2 (by simp) o q, ?_⟩
    rcases h1 with h1 | ⟨T, f, h1⟩
    · exact .inl (k z (by simp) _ h1)
    · exact .inr ⟨T, f, k z (by simp) _ h1⟩
  item := by
    intro X hP hw hK hc i pins s σ H E I hf st hg
    subst hP hw hK
    obtain ⟨xs, ys, x, y, hq, hq', hx, hy⟩ := hg
    obtain ⟨its, rv, sq, _⟩ := sq_of_inv I hq
    obtain ⟨jts, rw', sq', _⟩ := sq_of_inv I hq'
    obtain ⟨u, hu, ru⟩ := rv.get hx
    obtain ⟨u', hu', ru'⟩ := rw'.get hy
    have l1 : i < its.toArray.size := by simpa using (List.getElem?_eq_some_iff.mp hu).1
    have l2 : i < jts.toArray.size := by simpa using (List.getElem?_eq_some_iff.mp hu').1
    have hd : X.A.in1.in1.handled = none := I.ok.hd hc
    obtain ⟨⟨old, he⟩, st⟩ := st
    have all := zstN_all st
    obtain ⟨h2, h3, h4, h5, h1⟩ := st
    have D1 := draws_sq (prog := X.prog) (w := X.w) hd t i1 a na its.toArray
    have D2 := draws_sq (prog := X.prog) (w := X.w) hd t' i2 b nb jts.toArray
    refine enumZ_item S D1 D2 he ⟨h2, h3, ⟨h4, sq⟩, ⟨h5, sq'⟩, h1⟩ l1 l2 hez (by simp) (by simp) fun v1 v2 h₁ h' tk tt e1 e2 hp1 hk1 ho st' hT hk => ⟨_, rfl, wpAny_letOwnedTupleGo_enum ho fun h'' he'' hs'' => ?_⟩
    have hs'' : Heap.SameBut e h' h'' := hs''
    have z1 : v1 = u := by
      have q : its[i]? = some v1 := by simpa using e1
      rw [hu] at q
      exact (Option.some.inj q).symm
    have z2 : v2 = u' := by
      have q : jts[i]? = some v2 := by simpa using e2
      rw [hu'] at q
      exact (Option.some.inj q).symm
    subst z1; subst z2
    have lt : ∀ c ∈ [e, z, TI, TO, i1, i2], c < s.heap.objs.size := fun c hc => by
      rcases List.mem_cons.mp hc with q | q
      · rw [q]; exact Heap.lt_size he
      · obtain ⟨o, ho, _⟩ := all c q
        exact Heap.lt_size ho
    have hN1 : s.heap.objs.size < h₁.objs.size := Heap.lt_size hp1
    have hel : e < s.heap.objs.size := Heap.lt_size he
    have new : ObjOk X.prog X.w (upd H s.heap.objs.size (.tup [x, y])) h₁ s.heap.objs.size (.tup [x, y]) := ⟨by show 2 ≤ sizeLine; decide, [v1, v2], .cons ru (.cons ru' .nil), ⟨_, hp1, rfl, _, rfl⟩⟩
    have J1 : Inv X pins σ (upd H s.heap.objs.size (.tup [x, y])) { s with heap := h₁, toks := tk } :=
      I.turnedNew (ch := [e, z, TI, TO, i1, i2]) (fun c o hb q => hk1 c o (fun e => hb (by simp [e])) (fun e => hb (by simp [e])) (fun e => hb (by simp [e])) (fun e => hb (by simp [e])) q) hf (Nat.le_refl _) new
    have hf1 : ∀ c ∈ [e, z, TI, TO, i1, i2], (upd H s.heap.objs.size (.tup [x, y])) c = none := fun c hc => by
      rw [upd_ne (Nat.ne_of_lt (lt c hc))]; exact (hf c hc).1
    have hT'' : h''.get? h₁.objs.size = some { cls := .type "tuple", data := .seq #[.int (0 + ((i : Nat) : Int)) tt, .ref s.heap.objs.size] } := hs''.extBut _ _ (Nat.ne_of_gt (Nat.lt_trans hel hN1)) hT
    have fr : (upd H s.heap.objs.size (.tup [x, y])) h₁.objs.size = none := J1.hok.fresh (Nat.le_refl _)
    have new2 : ObjOk X.prog X.w (upd (upd H s.heap.objs.size (.tup [x, y])) h₁.objs.size (.tup [.int (i : Nat), .ref s.heap.objs.size])) h'' h₁.objs.size (.tup [.int (i : Nat), .ref s.heap.objs.size]) :=
      ⟨by show 2 ≤ sizeLine; decide, [.int (0 + ((i : Nat) : Int)) tt, .ref s.heap.objs.size], .cons ⟨tt, by rw [Int.zero_add]⟩ (.cons rfl .nil), ⟨_, hT'', rfl, _, rfl⟩⟩
    have J2 : Inv X pins σ (upd (upd H s.heap.objs.size (.tup [x, y])) h₁.objs.size (.tup [.int (i : Nat), .ref s.heap.objs.size])) { s with heap := h'', toks := tk } :=
      J1.turnedNew (ch := [e, z, TI, TO, i1, i2]) (fun c o hb q => hs''.extBut _ _ (fun z => hb (by simp [z])) (hk c o (fun z => hb (by simp [z])) q)) (fun c hc => ⟨hf1 c hc, (hf c hc).2⟩) (Nat.le_refl _) new2
    have st2 : ZSN z TI TO i1 i2 (fun i h => IsSqIt h t i1 a i ∧ IsSq h t a its.toArray) (fun i h => IsSqIt h t' i2 b i ∧ IsSq h t' b jts.toArray) (i + 1) h'' := st'.keep D1 D2 fun c hc o q => hs''.extBut _ _ (fun z => hez (z ▸ hc)) q
    refine ⟨.ref h₁.objs.size, _, J2, rfl, ⟨s.heap.objs.size, h₁.objs.size, x, y, rfl, I.hok.fresh (Nat.le_refl _), fr, rfl, fun zs hz => by rw [sq_inj I hz hq]; exact hx, fun zs hz => by rw [sq_inj I hz hq']; exact hy⟩, ⟨⟨_, by
      have e1 : (0 : Int) + ((i + 1 : Nat) : Int) = 0 + ((i : Nat) : Int) + 1 := by omega
      rw [e1]; exact he''⟩, st2.1, st2.2.1, st2.2.2.1.1, st2.2.2.2.1.1, st2.2.2.2.2⟩, fun c hc => ?_⟩
    rw [upd_ne (Nat.ne_of_lt (Nat.lt_trans (lt c hc) hN1))]
    exact hf1 c hc
  done := by
    intro X hP hw hK hc i pins s σ H E I hf st hg
    subst hP hw hK
    obtain ⟨xs, ys, hq, hq', hn⟩ := hg
    obtain ⟨its, rv, sq, _⟩ := sq_of_inv I hq
    obtain ⟨jts, rw', sq', _⟩ := sq_of_inv I hq'
    have ei : i = min its.toArray.size jts.toArray.size := by
      rw [← hn, rv.length, rw'.length, List.size_toArray, List.size_toArray]
    have hd : X.A.in1.in1.handled = none := I.ok.hd hc
    obtain ⟨⟨old, he⟩, h2, h3, h4, h5, h1⟩ := st
    exact enumZ_end S (draws_sq hd t i1 a na its.toArray) (draws_sq hd t' i2 b nb jts.toArray) he ⟨h2, h3, ⟨h4, sq⟩, ⟨h5, sq'⟩, h1⟩ (by omega) (by omega) (by omega) fun h' tk hk => ⟨rfl, I.turnedL (ch := [e, z, TI, TO, i1, i2]) (fun c o hb q => hk c o (fun e => hb (by simp [e])) (fun e => hb (by simp [e])) (fun e => hb (by simp [e])) (fun e => hb (by simp [e])) q) hf⟩
  self := fun A i s Q E st h => let ⟨⟨_, he⟩, _⟩ := st; wpAny_pyIter_enum he h
def iEZ (K : PySem.W.Frag) (ta : TA) : TI := fun σ H R => ta σ H fun vs H1 => ∃ t t' a b xs ys, vs = [.ref a, .ref b] ∧ SqA K H1 t a xs ∧ SqA K H1 t' b ys ∧ R (ItEZ K t t' a b) H1
theorem pi_EZ {X : Cx} {e e2 : Expr} {ta : TA} {p pos tpos pz posz : Pos} {elts : List Expr} {kk : Nat} (hge : Gl X "enumerate") (hme : X.mg "enumerate" = none) (hg : Gl X "zip") (hm : X.mg "zip" = none) (ha : PA X [e, e2] ta)
    (hs : starEach [e, e2] X.env = (false, eval e X.env) :: starEach [e2] X.env := by rfl) (hpl : (backTo posz (starEach [e2] X.env)).any (·.1) = false := by rfl)
    (na : starEach [.Call (.Name "zip" pz) [e, e2] [] posz] X.env = (false, eval (.Call (.Name "zip" pz) [e, e2] [] posz) X.env) :: starEach [] X.env := by rfl) :
    PI X (.Tuple elts kk tpos) (.Call (.Name "enumerate" p) [.Call (.Name "zip" pz) [e, e2] [] posz] [] pos) (iEZ X.K ta) := by
  refine ⟨fun pins s σ H R I h => ?_⟩
  refine Call_ (ld_blt I hge hme boot_enumerate (PyProof.Rows.callWith_type1 (PyProof.Rows.args_cons (Call_ (ld_blt I hg hm PyProof.Rows.boot_zip (PyProof.Rows.callWith_type1 (thn (ha.run posz pins s σ H _ I h) fun us s1 ⟨vs, H1, I1, r1, q1⟩ => ?_) hs hpl))) na) na rfl))
  obtain ⟨t, t', a, b, xs, ys, ex, hq, hq', q⟩ := q1
  subst ex
  obtain ⟨u1, u2, rfl, r1, r2⟩ := vals2 r1
  cases r1
  cases r2
  obtain ⟨its, rv, sq, la⟩ := sq_of_inv I1 hq
  obtain ⟨jts, rw', sq', lb⟩ := sq_of_inv I1 hq'
  refine zip_begins2 (begins_sq t a its.toArray) (begins_sq t' b jts.toArray) sq sq' fun h' hz hTI hTO h1 h2 hsz hk => PyProof.Rows.args_nil ?_
  refine enS_call (s := { s1 with heap := h' }) hz fun h'' he hk2 => wpAny_pyIter_enum he ?_
  replace he : IsEnum h'' h'.objs.size (s1.heap.objs.size + 4) 0 .none := he
  replace hk2 : ∀ b u, h'.get? b = some u → h''.get? b = some u := hk2
  have hzl : s1.heap.objs.size + 4 < h'.objs.size := Heap.lt_size hz
  have I2 : Inv X pins σ H1 { s1 with heap := h'' } := I1.kept (t' := s1.toks) fun b u x => hk2 b u (hk b u x)
  have S : ZipSep2 (s1.heap.objs.size + 4) (s1.heap.objs.size + 2) (s1.heap.objs.size + 3) s1.heap.objs.size (s1.heap.objs.size + 1) [s1.heap.objs.size, a] [s1.heap.objs.size + 1, b] :=
    zip_sep2 (fun c hc => by rw [List.mem_singleton.mp hc]; exact la) fun c hc => by rw [List.mem_singleton.mp hc]; exact lb
  have hez : h'.objs.size ∉ (s1.heap.objs.size + 4) :: (s1.heap.objs.size + 2) :: (s1.heap.objs.size + 3) :: ([s1.heap.objs.size, a] ++ [s1.heap.objs.size + 1, b]) := fun hc => by
    have la : a < s1.heap.objs.size := la
    have lb : b < s1.heap.objs.size := lb
    have z : ∀ n : Nat, n < h'.objs.size → h'.objs.size ≠ n := fun n q => Nat.ne_of_gt q
    simp only [List.mem_cons, List.cons_append, List.nil_append, List.not_mem_nil, or_false] at hc
    have w4 : (s1.heap.objs.size : Nat) + 4 < h'.objs.size := hzl
    rcases hc with q | q | q | q | q | q | q
    · exact z _ hzl q
    · exact z _ (Nat.lt_of_le_of_lt (by omega) w4) q
    · exact z _ (Nat.lt_of_le_of_lt (by omega) w4) q
    · exact z _ (Nat.lt_of_le_of_lt (by omega) w4) q
    · exact z _ (Nat.lt_of_lt_of_le la (by omega)) q
    · exact z _ (Nat.lt_of_le_of_lt (by omega) w4) q
    · exact z _ (Nat.lt_of_lt_of_le lb (by omega)) q
  refine ⟨h'.objs.size, [h'.objs.size, s1.heap.objs.size + 4, s1.heap.objs.size + 2, s1.heap.objs.size + 3, s1.heap.objs.size, s1.heap.objs.size + 1], _, _, H1, rfl, I2,
    turn_EZ t t' S (Nat.ne_of_lt la) (Nat.ne_of_lt (Nat.lt_succ_of_lt lb)) hez, ⟨⟨.none, he⟩, hk2 _ _ hTI, ⟨_, _, hk2 _ _ hTO⟩, (sqIt_at h1).keep fun o q => hk2 _ _ q, (sqIt_at h2).keep fun o q => hk2 _ _ q, .inl (hk2 _ _ hz)⟩, fun c hc => ?_, q⟩
  have hle : s1.heap.objs.size ≤ c := by
    have w4 : (s1.heap.objs.size : Nat) + 4 < h'.objs.size := hzl
    simp only [List.mem_cons, List.not_mem_nil, or_false] at hc
    rcases hc with q | q | q | q | q | q
    · rw [q]; exact Nat.le_trans (by omega) (Nat.le_of_lt w4)
    · rw [q]; exact Nat.le_add_right _ _
    · rw [q]; exact Nat.le_add_right _ _
    · rw [q]; exact Nat.le_add_right _ _
    · rw [q]; exact Nat.le_refl _
    · rw [q]; exact Nat.le_add_right _ _
  exact I1.fpOk hle (I1.hok.fresh hle)
section
variable {X : Cx} {g : Gd} {E : XK} {K : PySem.W.Frag}
theorem src_EZ {I0 : Hp} {t t' : Bool} {a b : Addr} {xs ys : List V} {ds es : List D} (h : SrcA g I0 t a xs ds) (h' : SrcA g I0 t' b ys es) : Src g (ItEZ K t t' a b) I0 (enumZ ds es) where
  go := fun i I H rl s hi => by
    have hi' : i < ds.length ∧ i < es.length := by simpa [enumZ, zipD, Nat.lt_min] using hi
    obtain ⟨v, hv, _⟩ := h.2.at_ (List.getElem?_eq_getElem hi'.1)
    obtain ⟨u, hu, _⟩ := h'.2.at_ (List.getElem?_eq_getElem hi'.2)
    exact ⟨xs, ys, v, u, h.sq rl s, h'.sq rl s, hv, hu⟩
  yld := fun i d I H v H' rl s hd y => by
    obtain ⟨T1, T, x, y, rfl, hT1, hT, rfl, hx, hy⟩ := y
    unfold enumZ at hd
    rw [List.getElem?_mapIdx] at hd
    unfold zipD at hd
    rw [List.getElem?_zipWith] at hd
    cases q : ds[i]? with
    | none => rw [q] at hd; cases hd
    | some d1 =>
      cases q' : es[i]? with
      | none => rw [q, q'] at hd; cases hd
      | some e1 =>
        rw [q, q'] at hd
        obtain ⟨v, hv, rv⟩ := h.2.at_ q
        obtain ⟨u, hu, ru⟩ := h'.2.at_ q'
        have ex : x = v := Option.some.inj ((hx xs (h.sq rl s)).symm.trans hv)
        have ey : y = u := Option.some.inj ((hy ys (h'.sq rl s)).symm.trans hu)
        have ed : d = .par [.int (i : Nat), .par [d1, e1]] := (Option.some.inj hd).symm
        subst ex ey ed
        obtain ⟨I1, s1, p1⟩ := pair_put rl (rv.mono s) (ru.mono s) hT1
        obtain ⟨I2, s2, p2⟩ := pair_put s1.rl (.int (i : Nat)) p1 hT
        exact ⟨I2, s1.trans s2, p2⟩
  stop := fun i I H rl s hi => ⟨xs, ys, h.sq rl s, h'.sq rl s, by rw [h.2.len, h'.2.len, hi]; simp [enumZ, zipD]⟩
theorem i_enumZ {e e2 : Expr} {k : FA} {p pos tpos pz posz : Pos} {elts : List Expr} {kk : Nat} (hge : Gl X "enumerate") (hme : X.mg "enumerate" = none) (hg : Gl X "zip") (hm : X.mg "zip" = none) (ha : PA X [e, e2] (tFA g X.mg E k))
    (hs : starEach [e, e2] X.env = (false, eval e X.env) :: starEach [e2] X.env := by rfl) (hpl : (backTo posz (starEach [e2] X.env)).any (·.1) = false := by rfl)
    (na : starEach [.Call (.Name "zip" pz) [e, e2] [] posz] X.env = (false, eval (.Call (.Name "zip" pz) [e, e2] [] posz) X.env) :: starEach [] X.env := by rfl) :
    PI X (.Tuple elts kk tpos) (.Call (.Name "enumerate" p) [.Call (.Name "zip" pz) [e, e2] [] posz] [] pos) (tFI g X.mg E (fItA dEnumZ k)) :=
  (pi_EZ hge hme hg hm ha hs hpl na).imp fun σ H R q => by
    obtain ⟨I, r, rl, er, q⟩ := q
    refine ⟨I, r, rl, er, Pst.first q fun ds vs I1 H1 _ s1 x1 h1 => ?_⟩
    have fin : ∀ {t t' : Bool} {a b : Addr} {xs ys : List V} {ds es : List D}, SrcA g I1 t a xs ds → SrcA g I1 t' b ys es → Pst g X.mg E (fun I' (J : It) ds => Src g J I' ds) I1 H1 (.ok (enumZ ds es)) R →
        ∃ t t' a' b' xs ys, [V.ref a, V.ref b] = [.ref a', .ref b'] ∧ SqA X.K H1 t a' xs ∧ SqA X.K H1 t' b' ys ∧ R (ItEZ X.K t t' a' b') H1 :=
      fun {t t' a b xs ys ds es} h h' z => ⟨t, t', a, b, xs, ys, rfl, h.sq s1.rl (Sub.refl _), h'.sq s1.rl (Sub.refl _), z _ I1 H1 s1.rl.stp (src_EZ h h')⟩
    unfold dEnumZ at h1
    split at h1
    · cases x1 with
      | cons y t =>
        cases t with
        | cons y' t' =>
          cases t'
          cases y with
          | lst hy ry => cases y' with
            | lst hz rz => exact fin (t := false) (t' := false) ⟨⟨_, hy, rfl⟩, ry⟩ ⟨⟨_, hz, rfl⟩, rz⟩ h1
    · cases x1 with
      | cons y t =>
        cases t with
        | cons y' t' =>
          cases t'
          cases y with
          | lst hy ry => cases y' with
            | tup hz uz rz => exact fin (t := false) (t' := true) ⟨⟨_, hy, rfl⟩, ry⟩ ⟨⟨_, hz, uz⟩, rz⟩ h1
    · cases x1 with
      | cons y t =>
        cases t with
        | cons y' t' =>
          cases t'
          cases y with
          | tup hy uy ry => cases y' with
            | lst hz rz => exact fin (t := true) (t' := false) ⟨⟨_, hy, uy⟩, ry⟩ ⟨⟨_, hz, rfl⟩, rz⟩ h1
    · cases x1 with
      | cons y t =>
        cases t with
        | cons y' t' =>
          cases t'
          cases y with
          | tup hy uy ry => cases y' with
            | tup hz uz rz => exact fin (t := true) (t' := true) ⟨⟨_, hy, uy⟩, ry⟩ ⟨⟨_, hz, uz⟩, rz⟩ h1
    · exact h1.elim
end
end FW
/-! A dict of tuples is given back locked; its keys walked. -/
namespace FW
open PySem PySem.Spec PyProof.Rows L2 LamX
section
variable {X : Cx} {g : Gd} {E : XK} {e : Expr} {pos : Pos}
/-! ### the keys -/
end
end FW
/-! A tuple of one text so many times. -/
namespace FW
open PySem PySem.Spec PyProof.Rows L2 LamX
section
variable {X : Cx} {g : Gd} {E : XK}
def rRepO (K : PySem.W.Frag) : R2 := fun x y H Q => ∃ l j z, x = .ref l ∧ y = .int j ∧ SqT K H l [z] ∧ 2 ≤ j ∧ j ≤ 1000 ∧ ∀ p u, H p = none → TupO (List.replicate j.toNat [z]).flatten u → Q (.ref p) (upd H p u)
theorem op_repO : OpR X (binaryOp .Mult) (rRepO X.K) := by
  intro pins s σ H x y v u Q I rx ry h
  obtain ⟨l, j, z, rfl, rfl, hT, j1, j2, q⟩ := h
  cases rx
  obtain ⟨t, rfl⟩ := ry
  obtain ⟨its, rv, ⟨⟨cls, dd, data, sl⟩, ho, hc, n, hd⟩, hs⟩ := I.tuple hT
  simp only at hc hd
  subst hc hd
  obtain ⟨w, rfl⟩ : ∃ w, its = [w] := by
    cases rv with
    | cons h t => cases t; exact ⟨_, rfl⟩
  have flen : (List.replicate j.toNat [w]).flatten.length = j.toNat := by rw [PyProof.Rows.lm_len_rep_flat]; simp
  have zlen : (List.replicate j.toNat [z]).flatten.length = j.toNat := by rw [PyProof.Rows.lm_len_rep_flat]; simp
  have b0 : (decide (j < -(2 ^ 63)) || decide (j ≥ 2 ^ 63)) = false := by rw [decide_eq_false (by omega), decide_eq_false (by omega)]; rfl
  have b1 : ([w].toArray.isEmpty || j == 1) = false := by rw [beq_eq_false_iff_ne.mpr (by omega : j ≠ 1)]; rfl
  have b2 : (decide (j ≤ 0) || [w].toArray.isEmpty) = false := by rw [decide_eq_false (by omega)]; rfl
  have b3 : ((([w].toArray.size : Nat) : Int) * j) = j := by simp
  have b4 : Builtin.Tuple.tupleTooMany ((([w].toArray.size : Nat) : Int) * j) = false := by rw [b3]; unfold Builtin.Tuple.tupleTooMany; rw [sizeLine_eq]; exact decide_eq_false (by omega)
  refine wpAny_binaryOp_repeat_ref (T := "tuple") (U := "int") (by decide) ⟨_, ho, rfl⟩ (fun s' => typeIs_int s' j t) noFill_tuple_mul F.fills_int_mul F.slot_int_rmul repeat_tuple F.slot_int_index.lookup
    (call_meets F.slot_int_rmul (typeIs_int s j t) F.entry_int_rmul (F.args_int_rmul_2 _ _) (int_rmul_tuple j t l [w].toArray n dd sl)
      ⟨ho, rfl, ⟨_, ho, rfl⟩, call_meets F.slot_tuple_mul ⟨_, ho, rfl⟩ F.entry_tuple_mul (F.args_tuple_mul_2 _ _) (tuple_mulW l [w].toArray n dd sl j t b0 b1 b2 (by rw [b3]; omega) b4 (by rw [size_rep, List.size_toArray, flen, sizeLine_eq]; omega)) ⟨ho, ?_⟩⟩)
  rw [size_rep]
  obtain ⟨u, hu, J⟩ := inv_tup (t' := s.toks) I (fun b ob e => Heap.get?_push_of_some _ e) (Nat.le_refl _) (Heap.get?_push_size _ rfl) (rv.rep j.toNat) (by rw [zlen, sizeLine_eq]; omega)
  exact ⟨.ref s.heap.objs.size, _, J, rfl, q _ u (I.hok.fresh (Nat.le_refl _)) hu⟩
theorem rep_one {α : Type} (z : α) : ∀ n : Nat, (List.replicate n [z]).flatten = List.replicate n z
  | 0 => rfl
  | n + 1 => by rw [List.replicate_succ, List.flatten_cons, rep_one z n, List.replicate_succ]; rfl
theorem drs_rep {I : Hp} {v : V} {d : D} (h : DR g I v d) : ∀ n : Nat, DRs g I (List.replicate n v) (List.replicate n d)
  | 0 => .nil
  | n + 1 => by rw [List.replicate_succ, List.replicate_succ]; exact .cons h (drs_rep h n)
theorem od_mulO : OpD g X.mg E (rRepO X.K) dMulO := by
  intro I H x y v u Q rl hx hy p
  unfold dMulO at p
  split at p
  · rename_i z j
    split at p
    · rename_i c
      cases hy
      cases hx with
      | tup ha ua ra =>
        cases ra with
        | cons rz rt =>
          cases rt
          refine ⟨_, _, _, rfl, rfl, ua.sqt (rl.sub _ _ ha), c.1, c.2, fun q w hq hw => ?_⟩
          rw [rep_one] at hw
          have s := rl.put (o := w) hq hw.nt
          exact p _ _ _ s (.tup upd_same hw ((drs_rep rz j.toNat).mono s.mono))
    · exact p.elim
  · exact p.elim
end
end FW
set_option pp.maxSteps 800
/-! A dict of lists of one's own: made by a comprehension, its lists appended to, then kept as a value. -/
namespace FW
open PySem PySem.Spec PyProof.Rows L2 LamX
section
variable {g : Gd} {H0 I H I' H' : Hp}
/-- one of the lists grows -/
theorem ME.push {es : List (List Key × V)} {K : KL} {ps : List Addr} {k : List Key} (h : ME g H0 I H es K ps) (hk : k ∈ K.map (·.1)) : ∃ p vs ds, valV es k = some (.ref p) ∧ p ∈ ps ∧ H p = some (.lst vs) ∧ vs.length = ds.length ∧ (∃ x ∈ K, x.2 = ds) ∧ NT H0 p ∧ p ≠ g.dz ∧ I p = none ∧ ∀ x d, DR g I x d → ME g H0 I (L2.upd H p (.lst (vs ++ [x]))) es (pushK K k d) ps := by
  induction h with
  | nil => cases hk
  | @cons k' q vs' ds' es K ps g1 g2 g3 g4 g5 g6 g7 ih =>
    by_cases e : k' = k
    · subst e
      refine ⟨q, vs', ds', valV_pos rfl, List.mem_cons_self, g1, g2.len, ⟨_, List.mem_cons_self, rfl⟩, g3, g4, g5, fun x d y => ?_⟩
      rw [pushK, if_pos rfl]
      exact .cons upd_same (g2.app (.cons y .nil)) g3 g4 g5 g6 (g7.upd g6)
    · have hk' : k ∈ K.map (·.1) := by
        rw [List.map_cons] at hk
        exact (List.mem_cons.mp hk).resolve_left fun z => e z.symm
      obtain ⟨p, vs, ds, z1, z2, z3, z4, z5, z6, z7, z8, z9⟩ := ih hk'
      refine ⟨p, vs, ds, ?_, List.mem_cons_of_mem _ z2, z3, z4, let ⟨x, a, b⟩ := z5; ⟨x, List.mem_cons_of_mem _ a, b⟩, z6, z7, z8, fun x d y => ?_⟩
      · unfold valV at z1 ⊢
        rw [List.find?_cons]
        show Option.map _ (match decide (k' = k) with | true => _ | false => _) = _
        rw [decide_eq_false e]
        exact z1
      · rw [pushK, if_neg e]
        have hne : q ≠ p := fun z => g6 (by rw [z]; exact z2)
        exact .cons (by rw [upd_ne hne]; exact g1) g2 g3 g4 g5 g6 (z9 x d y)
end
section
variable {X : Cx} {g : Gd} {E : XK} {kx vx tg iter : Expr} {ifs : List Expr} {scope : Scope} {own : List (Str × Nat)} {pos : Pos} {fi : FI} {i : Nat}
end
end FW
set_option pp.maxSteps 800
/-! d = {k: [] for k in ..}; for s in ..: for n, y in ..: d[y].append(s): two statements at once. -/
namespace FW
open PySem PySem.Spec PyProof.Rows L2 LamX
section
variable {g : Gd} {I1 H0 I H I' H' : Hp} {m : Nat} {a : Addr} {r : Env2} {K : KL} {σ : L2.St}
theorem GS.setV (x : GS g I1 H0 m a r K I σ H) {i : Nat} {v : V} {d : D} (hi : i < r.length) (hm : i ≠ m) (y : DR g I v d) : GS g I1 H0 m a (r.set i (.val d)) K I (σ.set i (some v)) H :=
  ⟨x.sri.setV hi y, noOwn_set x.no i d, by rw [List.getElem?_set_ne hm]; exact x.un, by rw [List.getElem?_set_ne hm]; exact x.at_, x.na, x.nz, x.ni, x.me⟩
/-- one of the lists grows -/
theorem GS.push (x : GS g I1 H0 m a r K I σ H) {k : List Key} (hk : k ∈ K.map (·.1)) (hK : ∀ x ∈ K, x.2.length < 100000) : ∃ es p vs, H a = some (.dT es) ∧ valV es k = some (.ref p) ∧ H p = some (.lst vs) ∧ vs.length < sizeLine ∧ ∀ v d, DR g I v d → GS g I1 H0 m a r (pushK K k d) I σ (upd H p (.lst (vs ++ [v]))) := by
  obtain ⟨es, ps, h1, h2, h3⟩ := x.me
  obtain ⟨p, vs, ds, z1, z2, z3, z4, ⟨w, w1, w2⟩, z6, z7, z8, z9⟩ := h2.push hk
  refine ⟨es, p, vs, h1, z1, z3, ?_, fun v d y => ?_⟩
  · have := hK w w1
    rw [z4, ← w2, sizeLine_eq]; omega
  · have hap : a ≠ p := fun z => h3 (by rw [z]; exact z2)
    have s : SRI g I1 H0 I r σ (upd H p (.lst (vs ++ [v]))) := ⟨x.sri.stp.chg z6 z7 z8 z3 rfl, x.sri.len, x.sri.val, fun i e h => absurd h (noOwn_get x.no), fun i j e f q h => absurd h (noOwn_get x.no)⟩
    exact ⟨s, x.no, x.un, x.at_, x.na, x.nz, x.ni, es, ps, by rw [upd_ne hap]; exact h1, z9 v d y, h3⟩
end
section
variable {X : Cx} {g : Gd} {E : XK} {k : Nat}
end
end FW
set_option pp.maxSteps 800
/-! for s in d[w.pop()]: d a dict of lists that is a value, w a list of one's own. -/
namespace FW
open PySem PySem.Spec PyProof.Rows L2 LamX
section
variable {X : Cx} {g : Gd} {E : XK} {k : Nat} {body : List Stmt} {a : WS} {pos : Pos}
end
end FW
/-! Rows of whole numbers: elimination, in plain words. -/
namespace Lin
/-! ### bared -/
/-! ### cleared -/
/-! ### reduced -/
/-! ### sizes -/
end Lin
/-! Rows of whole numbers: the kernel. -/
namespace Lin
section
variable {n : Nat} {l : List (Nat × Row)}
end
/-! ### what weights keep -/
end Lin
/-! Coming from one to another, level by level, in plain words. -/
namespace Bfs
section
variable {R V : Type} [DecidableEq R]
end
/-! ### the keys alone -/
section
variable {R V W : Type} [DecidableEq R]
end
end Bfs
/-! Paths by rule numbers; least ones among the shortest. -/
namespace Bfs
open FW
section
variable {R : Type} [DecidableEq R]
variable {suc : R → List (Nat × R)} {a : R}
/-! ### the order of rows of one length -/
/-! ### levels of runs -/
/-! ### in the order of finding -/
end
end Bfs
/-! Who comes to one: found from the end, one by one. -/
namespace Bfs
open FW
section
variable {R : Type} [DecidableEq R]
def addB (acc : List R × List R) (v : R) : List R × List R := if v ∈ acc.1 then acc else (acc.1 ++ [v], acc.2 ++ [v])
theorem foldB (l : List R) : ∀ (acc : List R × List R), acc.1.Nodup → ∃ new, l.foldl addB acc = (acc.1 ++ new, acc.2 ++ new) ∧ (acc.1 ++ new).Nodup ∧ (∀ v ∈ new, v ∈ l) ∧ ∀ v ∈ l, v ∈ acc.1 ++ new := by
  induction l with
  | nil => intro acc h; exact ⟨[], by simp, by simpa using h, fun v hv => (by cases hv), fun v hv => (by cases hv)⟩
  | cons x l ih =>
    intro acc h
    rw [List.foldl_cons]
    by_cases hx : x ∈ acc.1
    · have e : addB acc x = acc := by unfold addB; exact if_pos hx
      rw [e]
      obtain ⟨new, h1, h2, h3, h4⟩ := ih acc h
      refine ⟨new, h1, h2, fun v hv => List.mem_cons_of_mem _ (h3 v hv), fun v hv => ?_⟩
      rcases List.mem_cons.mp hv with z | z
      · rw [z]; exact List.mem_append_left _ hx
      · exact h4 v z
    · have e : addB acc x = (acc.1 ++ [x], acc.2 ++ [x]) := by unfold addB; exact if_neg hx
      rw [e]
      obtain ⟨new, h1, h2, h3, h4⟩ := ih (acc.1 ++ [x], acc.2 ++ [x]) (List.nodup_append.mpr ⟨h, by simp, fun a ha b hb => by
        rw [List.mem_singleton.mp hb]; exact fun z => hx (by rw [← z]; exact ha)⟩)
      refine ⟨x :: new, ?_, ?_, fun v hv => ?_, fun v hv => ?_⟩
      · rw [h1]; simp
      · simpa using h2
      · rcases List.mem_cons.mp hv with z | z
        · rw [z]; exact List.mem_cons_self
        · exact List.mem_cons_of_mem _ (h3 v z)
      · have e2 : acc.1 ++ x :: new = (acc.1 ++ [x]) ++ new := by simp
        rw [e2]
        rcases List.mem_cons.mp hv with z | z
        · rw [z]; exact List.mem_append_left _ (List.mem_append_right _ List.mem_cons_self)
        · exact h4 v z
theorem Back.turn {pre : R → List R} {a x : R} {U F ws : List R} (hp : ∀ v ∈ U, ∀ u ∈ pre v, u ∈ U) (h : Back pre a U F (ws ++ [x])) : ∃ new, (pre x).foldl addB (F, ws) = (F ++ new, ws ++ new) ∧ Back pre a U (F ++ new) (ws ++ new) := by
  obtain ⟨new, h1, h2, h3, h4⟩ := foldB (pre x) (F, ws) h.nd
  have hx : x ∈ F := h.wsub x (List.mem_append_right _ List.mem_cons_self)
  refine ⟨new, h1, h2, fun v hv => ?_, fun v hv => ?_, fun v hv => ?_, fun v hv hw u hu => ?_, List.mem_append_left _ h.st⟩
  · rcases List.mem_append.mp hv with z | z
    · exact h.sub v z
    · exact hp x (h.sub x hx) v (h3 v z)
  · rcases List.mem_append.mp hv with z | z
    · exact List.mem_append_left _ (h.wsub v (List.mem_append_left _ z))
    · exact List.mem_append_right _ z
  · rcases List.mem_append.mp hv with z | z
    · exact h.reach v z
    · exact .step (h.reach x hx) (h3 v z)
  · by_cases e : v = x
    · subst e; exact h4 u hu
    · have hvF : v ∈ F := by
        rcases List.mem_append.mp hv with z | z
        · exact z
        · exact absurd (List.mem_append_right _ z) hw
      refine List.mem_append_left _ (h.cl v hvF (fun z => ?_) u hu)
      rcases List.mem_append.mp z with z | z
      · exact hw (List.mem_append_left _ z)
      · exact e (List.mem_singleton.mp z)
end
end Bfs
/-! try: .. except c as n: return n; the caught exception is given back and stands from now on. -/
namespace FW
open PySem PySem.Spec PyProof.Rows L2 HotX LamX

section
variable {X : Cx}
/-- what stood untracked, and was made behind the entry, is tracked from now on -/
theorem inv_adopt {pins : List (Addr × Obj)} {σ : L2.St} {H : Hp} {s : Shared} {a : Addr} {u : HO} {ob : Obj} {vs : Array Value} (J : Inv X pins σ H s) (h0 : X.s_0.heap.get? a = none) (hn : H a = none) (hL : a ≠ X.env.locals)
    (hp : ∀ p ∈ X.pn ++ pins, p.1 ≠ a) (ho : s.heap.get? a = some ob) (hd : ob.data = .fields vs) (new : ObjOk X.prog X.w (upd H a u) s.heap a u) : Inv X pins σ (upd H a u) s := by
  have up : ∀ b w, H b = some w → upd H a u b = some w := fun b w e => by rw [upd_ne (ne_of_none e hn)]; exact e
  have dn : ∀ b, b ≠ a → H b = none → upd H a u b = none := fun b nb e => by rw [upd_ne nb]; exact e
  refine ⟨J.ok, J.os, J.bare, ⟨J.base.keep, J.base.slot, fun b o e n hx => dn b (fun z => by rw [z, h0] at e; cases e) (J.base.free b o e n hx), J.base.there, fun b xs e => up b _ (J.base.tups b xs e), fun b o w e => up b _ (J.base.frzs b o w e), fun b ps e => ?_⟩,
    J.loc, J.cell, dn _ (Ne.symm hL) J.free, fun x c e => dn _ (fun z => ?_) (J.freeC x c e), fun p m => ?_, fun b w e => ?_, J.len⟩
  · obtain ⟨more, q⟩ := J.base.tbls b ps e
    exact ⟨more, up b _ q⟩
  · obtain ⟨v, o, q1, q2⟩ := J.cell x c e
    rw [z, ho] at q1
    cases q1
    rw [hd] at q2; cases q2
  · obtain ⟨q1, q2, q3⟩ := J.pin p m
    exact ⟨q1, dn _ (hp p m) q2, q3⟩
  · by_cases z : b = a
    · rw [z, upd_same] at e
      cases e
      rw [z]; exact new
    · rw [upd_ne z] at e
      exact (J.hok b w e).stay (fun _ _ _ q => q) (fun c q => up c _ q) fun c _ q => up c _ q
theorem exn_ok {P : Program} {w : World} {H : Hp} {h : Heap} {a C : Addr} {ob : Obj} {vs : Array Value} (ho : h.get? a = some ob) (hz : ob.cls = .ref C ∧ ob.dict = none) (hd : ob.data = .fields vs) : ObjOk P w H h a (ExnO C a) :=
  ⟨⟨ob, ho, hz, vs, hd⟩, ⟨ob, ho⟩, fun h1 h2 ⟨o, e, z, q⟩ k => ⟨o, k o e, z, q⟩⟩
/-- what the clause wishes of an exception of the body, if its suite returns -/
def wKeep (K : PySem.W.Frag) (c : Value) (i : Nat) (ts : Addr → Addr → TS) (D : Ends) : WX := fun cls d σ H => ∃ C : Addr, cls = .ref C ∧ d = none ∧ PySem.W.exmOne K (.ref C) c = some true ∧
  ∀ a, H a = none → ts a C { nx := fun _ _ => False, rt := fun v H2 => H2 a = none → D.rt v (upd H2 a (ExnO C a)) } (σ.set i (some (.ref a))) H
variable {x n : Str} {c : Value} {i : Nat} {body suite : List Stmt} {s0 : Stmt} {np pos hpos : Pos} {tb : WX → TS} {ts : Addr → Addr → TS}
theorem ps_try_keep (hstk : X.stack = X.env :: X.outer) (hfrm : X.env.frame = some X.env.locals) (hex : X.ex = []) (nd : X.N.Nodup) (hi : X.N[i]? = some n) (hln : X.env.kindOf n = some .local) (hc : Names X x c)
    (hbody : ∀ (W : WX) (pn : List (Addr × Obj)) (xe : Value → Shared → Prop), L2N.Takes (X.tr pn xe) W → PSs (X.tr pn xe) body (tb W))
    (hsuite : ∀ (a C : Addr) (oe : Obj) (pn : List (Addr × Obj)), L2N.Zn (.ref C) none oe → (∃ vs, oe.data = .fields vs) → PSs (X.suite a ((a, oe) :: pn)) (s0 :: suite) (ts a C)) :
    PS X (.Try body [.ExceptHandler (some (.Name x np)) (some n) (s0 :: suite) hpos] [] [] pos) (fun D σ H => tb (wKeep X.K c i ts D) D σ H) := by
  refine ⟨fun pins st τ G D Jv hh => ?_⟩
  have xok := Jv.ok
  have hfra : X.A.frames = some (X.env :: X.outer) := by rw [xok.frames, hstk]
  refine wpAny_Try_except (wpAny_mono ((hbody (wKeep X.K c i ts D) (X.pn ++ pins) (fun e st1 => wpAny (model X.prog X.w) X.A (noteFrame e X.env) (fun _ st2 => wpAny (model X.prog X.w) X.A (setFlight e none) (fun _ st3 =>
    wpAny (model X.prog X.w) X.A (handleBy e X.env [.ExceptHandler (some (.Name x np)) (some n) (s0 :: suite) hpos]) (SP X pins D) X.xe st3) X.xe st2) X.xe st1) (fun u st1 caught => ?_)).run [] st τ G D (Jv.toTry _) hh) (fun fl st1 done => ?_) (fun _ _ z => z))
  · obtain ⟨a, B, sI, pinsI, τ1, H1, cls, d, rfl, JI, inB, ups, sky, free, eos, gens, C, rfl, rfl, hex1, hts⟩ := caught
    have J1 : Inv X pins τ1 H1 sI := JI.ofTry xok
    rw [hstk] at sky
    show wpAny (model X.prog X.w) X.A (noteFrame (.ref a) X.env) _ _ _
    refine L2N.Sky.land L2N.Zn.steady hfra hfrm sky fun h3 F3 up3 => ?_
    have J3 : Inv X pins τ1 H1 { st1 with heap := h3 } := J1.landed inB F3.1 (ups.trans up3) eos gens
    obtain ⟨o3, f3, q3, z3, d3⟩ := F3.there
    have aNo : a ∉ frs (X.env :: X.outer) := fun m => by
      obtain ⟨_, o', q', notd⟩ := F3.2.2.1.mem m
      rw [q3] at q'; cases q'
      exact notd _ d3
    have aNoL : a ≠ X.env.locals := fun z => aNo (List.mem_filterMap.mpr ⟨X.env, List.mem_cons_self, by rw [hfrm, z]⟩)
    have aNoF : a ∉ X.fs := fun m => by
      obtain ⟨e, m1, m2⟩ := List.mem_filterMap.mp m
      exact aNo (List.mem_filterMap.mpr ⟨e, List.mem_cons_of_mem _ m1, m2⟩)
    have aNew : sI.heap.get? a = none := by
      cases e : sI.heap.get? a with
      | none => rfl
      | some o =>
        have := inB a o e (by rw [hstk]; exact aNo)
        rw [F3.2.1] at this; cases this
    have a0 : X.s_0.heap.get? a = none := by
      cases e : X.s_0.heap.get? a with
      | none => rfl
      | some o =>
        obtain ⟨o', q⟩ := J1.base.there a o e (by rw [hex]; exact fun z => nomatch z)
        rw [aNew] at q; cases q
    have aPin : ∀ p ∈ X.pn ++ pins, p.1 ≠ a := fun p m z => by
      have := (J1.pin p m).1
      rw [z, aNew] at this; cases this
    have S3 := J3.suite q3 d3 free aNoL aNoF
    refine wpAny_handleBy_cons (codeAny_handlers_test ?_) (by intro q; cases q)
    have lookT : PySem.W.Looks (model X.prog X.w) h3 (typeOf (.ref a)) (.ref C) := fun A Q E s k q => wpAny_typeOf_ref (k _ _ q3) (by rw [z3.1]; exact q)
    have lookM := PySem.W.exm_one (M := model X.prog X.w) J3.kIn lookT hex1
    have asked : ∀ {Q : Value → Shared → Prop} {E : Value → Shared → Prop}, Q c { st1 with heap := h3 } → wpAny (model X.prog X.w) (X.A.mark (some (.ref a))) (eval (.Name x np) X.env) Q E { st1 with heap := h3 } := fun {Q E} q => by
      obtain ⟨g1, g2, m | ⟨m, v, w⟩⟩ := hc
      · exact ld_glob (X := X.suite a ((a, o3) :: (X.pn ++ pins))) S3 g1 m q g2
      · exact ld_blt (X := X.suite a ((a, o3) :: (X.pn ++ pins))) S3 g1 m v q w g2
    refine asked (lookM.here (codeAny_handlers_suite_as (HandSPX.lands_againZ F3 fun h4 F4 up4 => ?_)))
    have J4 : Inv X pins τ1 H1 { st1 with heap := h4 } := J1.landed inB F4.1 ((ups.trans up3).trans up4) eos gens
    obtain ⟨o4, f4, q4, z4, d4⟩ := F4.there
    refine store_ok (X := X.suite a ((a, o4) :: (X.pn ++ pins))) (v := .ref a) (J4.suite q4 d4 free aNoL aNoF) nd hi (.inl hln) rfl (fun st5 S5 => ?_) (.inr hln)
    refine wpAny_mono ((hsuite a C o4 (X.pn ++ pins) z4 ⟨_, d4⟩).run [] st5 _ H1 _ S5 (hts a free)) (fun fl st6 done => ?_) (fun _ _ z => z.elim)
    cases fl with
    | next => obtain ⟨_, _, _, z⟩ := done; exact z.elim
    | brk => obtain ⟨_, _, _, z⟩ := done; exact z.elim
    | cont => obtain ⟨_, _, _, z⟩ := done; exact z.elim
    | ret u =>
      obtain ⟨v6, τ6, H6, S6, r6, hq⟩ := done
      have P6 := S6.pin (a, o4) (List.mem_append_left _ List.mem_cons_self)
      refine gone_ok (X := X.suite a ((a, o4) :: (X.pn ++ pins))) S6 nd hi hln fun st7 S7 => ?_
      have P7 := S7.pin (a, o4) (List.mem_append_left _ List.mem_cons_self)
      exact ⟨_, _, _, inv_adopt (S7.unsuite xok) a0 P7.2.1 aNoL aPin P7.1 d4 (exn_ok P7.1 z4.zc d4), r6, hq P6.2.1⟩
  · cases fl with
    | next =>
      obtain ⟨τ2, H2, J2, q⟩ := done
      exact wpAny_execs_nil ⟨τ2, H2, J2.ofTry xok, q⟩
    | ret u =>
      obtain ⟨v, τ2, H2, J2, r, q⟩ := done
      exact ⟨v, τ2, H2, J2.ofTry xok, r, q⟩
    | brk =>
      obtain ⟨τ2, H2, J2, q⟩ := done
      exact ⟨τ2, H2, J2.ofTry xok, q⟩
    | cont =>
      obtain ⟨τ2, H2, J2, q⟩ := done
      exact ⟨τ2, H2, J2.ofTry xok, q⟩
end
end FW
/-! f(lambda: e), f a def that tries its argument and gives back what it caught. -/
namespace FW
open PySem PySem.Spec PyProof.Rows L2 HotX LamX

/-- a def x(a): try: a() except ec as n: return n; return None. cs: the classes that may come, with their places -/
structure MetS (P : Program) (w : World) (K : PySem.W.Frag) (mg : Str → Option Value) (base : Heap) (x : Str) (cs : List (Str × Addr)) (st : Stmt) (gT : Addr) (fd : FuncData) (a n ec : Str) (CT : Addr) : Prop where
  fn : Fun K x x st gT fd
  at_ : mg x = some (.ref gT)
  bi : Binds K fd [a] []
  sc : FnScope [a, n] [a] (defScope st)
  va : Vis (defScope st) a
  ln : (defScope st).names.lookup n = some .local
  ge : (defScope st).names.lookup ec = some .globalImplicit
  me : mg ec = some (.ref CT)
  nd : (x == ("__debug__" : Str)) = false ∧ (a == ("__debug__" : Str)) = false ∧ (a == ("__classdict__" : Str)) = false ∧ (n == ("__debug__" : Str)) = false ∧ (n == ("__classdict__" : Str)) = false ∧ (ec == ("__debug__" : Str)) = false
  body : ∃ (p1 p2 p3 p4 p5 p6 p7 p8 p9 p10 : Pos) (j : Nat), defBody st = [.Try [.Expr (.Call (.Name a p1) [] [] p2) p3] [.ExceptHandler (some (.Name ec p4)) (some n) [.Return (some (.Name n p5)) p6] p7] [] [] p8, .Return (some (.Constant .none j p9)) p10]
  cls : ∀ c C, cs.lookup c = some C → mg c = some (.ref C) ∧ PySem.W.exmOne K (.ref C) (.ref CT) = some true
section
variable {X : Cx} {g : Gd} {E : XK}
def tMetB (f c' : Addr) (q : Str) (tl : XK → Hp → VK → Prop) (W : WX) : TS := fun D σ H => ∃ Ec : XK, (∀ cls d H2, Ec cls d H2 → W cls d σ H2) ∧ σ[0]? = some (some (.ref f)) ∧ H c' = some (CodeO c' q) ∧ tl Ec H fun _ H' => D.nx σ H'
theorem met_body {x : Str} {cs : List (Str × Addr)} {st : Stmt} {gT : Addr} {fd : FuncData} {a n ec q : Str} {CT f c' : Addr} {cdv : Value} {s : Shared} {H : Hp} {tl : XK → Hp → VK → Prop} (F : MetS X.prog X.w X.K X.mg X.base x cs st gT fd a n ec CT)
    (act : ∀ (W : WX) (pn : List (Addr × Obj)) (xe : Value → Shared → Prop) (Ec : XK) (p1 p2 : Pos), L2N.Takes ((cxOf C8.CX0 X.prog X.w X.K X.mg X.base [a, n] x (defScope st) gT cdv X.A X.stack s H C8.E0).nox.tr pn xe) W →
      PE ((cxOf C8.CX0 X.prog X.w X.K X.mg X.base [a, n] x (defScope st) gT cdv X.A X.stack s H C8.E0).nox.tr pn xe) (.Call (.Name a p1) [] [] p2) (fun σZ HZ Q => σZ[0]? = some (some (.ref f)) ∧ HZ c' = some (CodeO c' q) ∧ (∀ cls d H', Ec cls d H' → W cls d σZ H') ∧ tl Ec HZ Q)) :
    PSs (cxOf C8.CX0 X.prog X.w X.K X.mg X.base [a, n] x (defScope st) gT cdv X.A X.stack s H C8.E0).nox (defBody st)
      (tSeq (fun D σ H => tMetB f c' q tl (wKeep X.K (.ref CT) 1 (fun _ _ => tRet (tVar 1)) D) D σ H) (tRet (tC .non))) := by
  obtain ⟨n1, n2, n3, n4, n5, n6⟩ := F.nd
  obtain ⟨p1, p2, p3, p4, p5, p6, p7, p8, p9, p10, j, hb⟩ := F.body
  rw [hb]
  refine pss_cons (ps_try_keep (X := (cxOf C8.CX0 X.prog X.w X.K X.mg X.base [a, n] x (defScope st) gT cdv X.A X.stack s H C8.E0).nox) (c := .ref CT) (i := 1) (tb := tMetB f c' q tl) (ts := fun _ _ => tRet (tVar 1)) rfl rfl rfl F.sc.nd rfl F.ln ⟨F.ge, n6, .inl F.me⟩ (fun W pn xe tk => ?_) fun ad C oe pn hz hfs => ?_) (pss_one (ps_ret pe_non))
  · refine ⟨fun pins s' σ H' D J h => ?_⟩
    obtain ⟨Ec, hW, h1, h2, h3⟩ := h
    exact (pss_one (ps_expr (act W pn xe Ec p1 p2 tk))).run pins s' σ H' D J ⟨h1, h2, hW, h3⟩
  · exact pss_one (ps_ret (pe_var (i := 1) rfl (.inl F.ln) n4 n5))
theorem e_met {k : Nat} {x : Str} {cs : List (Str × Addr)} {st : Stmt} {gT : Addr} {fd : FuncData} {a n ec : Str} {CT : Addr} {c P : Addr} {params : Arguments} {body : Expr} {scope : Scope} {fb : FE} {p lpos pos : Pos}
    (F : MetS X.prog X.w X.K X.mg X.base x cs st gT fd a n ec CT) (hg : Gl X x) (TB : TabB X.base X.mg c P) (hcode : X.env.code = .ref c) (hmT : (P, X.env.qual ++ "<lambda>") ∈ g.T) (hu : ∀ p ∈ g.T, p.1 = P → p.2 = X.env.qual ++ "<lambda>") (hr : Room (k + 2) X.A)
    (L : LamS X.env.scope scope) (hbody : ∀ (A : Around) (outer : List PySem.Env) (s : Shared) (H : Hp) (E : XK) (f c' : Addr), Room k (A.deeper (lamEnv X scope s.heap.objs.size f c')) → PE (lamN X A outer s H E scope f c') body (tF g X.mg E fb))
    (hdef : defaultsOf params X.env = ([], []) := by rfl) (hbind : ∀ (q : Str) (cl : List (Str × Addr)) (pm cv ctv : Value), bindArgs (PySem.W.kla_fn "<lambda>" q params body scope cl pm cv ctv) ⟨[], []⟩ = pure [] := by intros; rfl) :
    PE X (.Call (.Name x p) [.Lambda params body scope lpos] [] pos) (tF g X.mg E (fMet cs fb)) := by
  obtain ⟨n1, n2, n3, n4, n5, n6⟩ := F.nd
  obtain ⟨oc, od, kV, doc, pm, an, cdv, ct, osl, efd, lk, hcd⟩ := F.fn.ex
  subst efd
  refine ⟨fun pins s σ H Q J h => ?_⟩
  obtain ⟨I, r, rl, er, h⟩ := h
  refine wpAny_Call_Name_kw (ld_glob J hg F.at_ ?_ n1)
  refine PySem.W.callWith_K (h₀ := X.base) J.ok.mod.kin F.fn.kp ?_ (by rfl) (by rfl)
  show wpAny _ _ (spliced ((false, eval (.Lambda params body scope lpos) X.env) :: backTo pos (starEach [] X.env))) _ _ s
  refine Calls.spliced_cons (lam_make2 J TB hcode hmT hu rl.tab hdef (L.has J.ok) fun f c' pm' ctv H1 s' J1 eN T1 hf hfn hfr hco => ?_)
  refine Calls.spliced_nil ⟨J1.kIn, ?_⟩
  have st1 : Stp g I H I H1 := stp_ext rl eN T1
  have er1 : ER g I σ r := er
  have rc : codeAny (model X.prog X.w) X.A (.call (.ref gT) ⟨[.ref f], []⟩) (CR C8.CX0 X.stack X.prog X.w H1 s' Q C8.E0) s' := by
    refine run_ofS (N := [a, n]) (ps := [a]) (us := [.ref f]) (vs := [.ref f]) lk hcd F.sc hr J1.env0 (F.bi s' [.ref f] J1.kIn rfl) (.cons rfl .nil) rfl fun hr' => ?_
    refine ⟨_, PSs.nox (met_body (tl := fun Ec H' Q' => tF g X.mg Ec fb σ H' Q') F fun W pn xe Ec p1 p2 tk => lam_call J1 L hf hfn hfr (hbind _ _ _ _ _) tk hr' (fun A outer s H hr2 => hbody A outer s H Ec f c' hr2) rfl F.va n2 n3), ?_⟩
    refine ⟨fun cls d H' => ∃ c0 C I', fb r = .exc c0 ∧ X.mg c0 = some (.ref C) ∧ cls = .ref C ∧ d = none ∧ Stp g I H1 I' H', fun cls d H2 hE => ?_, rfl, hco, I, r, st1.rl, er1, ?_⟩
    · obtain ⟨c0, C, I', e0, hm, rfl, rfl, st2⟩ := hE
      unfold fMet at h
      rw [e0] at h
      have h : Pst g X.mg E (DR g) I H (match cs.lookup c0 with | some C => .ok (.exn C) | none => .bad) Q := h
      cases el : cs.lookup c0 with
      | none => rw [el] at h; exact h.elim
      | some C' =>
        rw [el] at h
        obtain ⟨m1, m2⟩ := F.cls c0 C' el
        rw [m1] at hm
        have e1 : C' = C := Value.ref.inj (Option.some.inj hm)
        subst e1
        refine ⟨C', rfl, rfl, m2, fun ad had => ⟨.ref ad, rfl, fun hn => ?_⟩⟩
        have st3 := st2.rl.put (o := ExnO C' ad) had (fun _ z => by cases z)
        exact h (.ref ad) _ _ ((st1.trans st2).trans st3) (.exn upd_same)
    · unfold fMet at h
      cases e0 : fb r with
      | ok d =>
        rw [e0] at h
        exact fun v I' H' s2 x2 => h .non I' H' (st1.trans s2) .non
      | exc c0 => exact fun I' H' s2 C hC => ⟨c0, C, I', rfl, hC, rfl, rfl, s2⟩
      | bad => rw [e0] at h; exact h.elim
  refine wpAny_call (codeAny_mono rc fun r s2 hq => ?_)
  cases r with
  | error e => exact (show False from hq).elim
  | ok fl =>
    cases fl with
    | ret u => exact J1.after hq
    | next => exact False.elim hq
    | brk => exact False.elim hq
    | cont => exact False.elim hq
theorem e_metB {k m : Nat} {x : Str} {cs : List (Str × Addr)} {st : Stmt} {gT : Addr} {fd : FuncData} {a n ec : Str} {CT : Addr} {T : List (Addr × Str)} {params : Arguments} {body : Expr} {scope : Scope} {fb : FE} {p lpos pos : Pos}
    (F : MetS X.prog X.w X.K X.mg X.base x cs st gT fd a n ec CT) (B : Bd X E m) (O : OwnT X T) (hT : g.T = T) (hle : k + 2 ≤ m)
    (hbody : ∀ (A : Around) (outer : List PySem.Env) (s : Shared) (H : Hp) (E : XK) (f c' : Addr), Bd (lamN X A outer s H E scope f c') E k → PE (lamN X A outer s H E scope f c') body (tF g X.mg E fb))
    (hg : Gl X x := by rfl) (hL : lamSB X.env.scope scope = true := by rfl) (hdef : defaultsOf params X.env = ([], []) := by rfl) (hbind : ∀ (q : Str) (cl : List (Str × Addr)) (pm cv ctv : Value), bindArgs (PySem.W.kla_fn "<lambda>" q params body scope cl pm cv ctv) ⟨[], []⟩ = pure [] := by intros; rfl) :
    PE X (.Call (.Name x p) [.Lambda params body scope lpos] [] pos) (tF g X.mg E (fMet cs fb)) := by
  obtain ⟨c, P, h1, h2, h3, h4⟩ := O.ex
  exact e_met F hg h1 h2 (by rw [hT]; exact h3) (by rw [hT]; exact h4) (B.hr.mono hle) (lamS_by hL) (fun A outer s H E f c' hr => hbody A outer s H E f c' (bd_lam B.nd hr)) hdef hbind
end
end FW
/-! isinstance of a kept exception. -/
namespace FW
open PySem PySem.Spec PyProof.Rows L2 HotX LamX

/-- the known classes of exceptions and their places -/
structure ExF (K : PySem.W.Frag) (mg : Str → Option Value) (cs : List (Str × Addr)) : Prop where
  at_ : ∀ c C, cs.lookup c = some C → mg c = some (.ref C)
  exc : ∀ C ∈ cs.map Prod.snd, ExcC K C ∧ PySem.W.kitOne K (.ref C) (.type "ValueError") = some true
  kit : ∀ C ∈ cs.map Prod.snd, ∀ y Y, cs.lookup y = some Y → PySem.W.kitOne K (.ref C) (.ref Y) = some (C == Y)
section
variable {X : Cx} {g : Gd} {E : XK}
def rIsO (K : PySem.W.Frag) : List V → Hp → VK → Prop := fun xs H Q => ∃ (a C : Addr) (c : V) (cv : Value) (b : Bool), xs = [.ref a, c] ∧ H a = some (ExnO C a) ∧ ExcC K C ∧ (∀ u, RelV c u → u = cv) ∧ PySem.W.kitOne K (.ref C) cv = some b ∧ Q (.bl b) H
theorem call_isO : CallR X (.builtin "isinstance") (rIsO X.K) := by
  intro pins s σ H xs us Q J r h
  obtain ⟨a, C, c, cv, b, rfl, ha, ec, hcv, ek, q⟩ := h
  obtain ⟨u1, u2, rfl, r1, r2⟩ := vals2 r
  cases r1
  have e2 := hcv _ r2
  subst e2
  obtain ⟨⟨o, ho, hz, vs, hd⟩, _, _⟩ := J.hok a _ ha
  have at1 : PySem.W.InstAt s.heap a o C none := by
    obtain ⟨oc, od, oda, osl⟩ := o
    obtain ⟨h1, h2⟩ := hz
    dsimp only at h1 h2 hd
    subst h1 h2 hd
    exact ⟨ho, rfl, rfl, trivial⟩
  exact PySem.W.kia_one (PySem.W.handS_kitx_exc ec.hg ec.hk ec.hs ec.hd ec.ha ec.hn ec.ht ec.hm) J.kIn at1 ek (fun z => nomatch z) fun tk => ⟨.bl b, H, J.kept (t' := tk) fun _ _ z => z, rfl, q⟩
variable {a : Expr} {fa : FE} {cs : List (Str × Addr)} {y : Str} {p p' pos : Pos}
theorem e_isE (F : ExF X.K X.mg cs) (hY : (cs.lookup y).isSome = true) (hm : X.mg "isinstance" = none) (ha : PE X a (tF g X.mg E fa)) (hg : Gl X "isinstance" := by rfl) (hg2 : Gl X y := by rfl) (hd : (y == ("__debug__" : Str)) = false := by decide)
    (he : starEach (a :: [.Name y p']) X.env = (false, eval a X.env) :: starEach [.Name y p'] X.env := by rfl) : PE X (.Call (.Name "isinstance" p) [a, .Name y p'] [] pos) (tF g X.mg E (fIsE cs y fa)) := by
  obtain ⟨Y, hY⟩ := Option.isSome_iff_exists.mp hY
  refine (pe_callB (r := rIsO X.K) call_isO hg hm (by decide +kernel) (pa_cons ha (pa_cons (pe_glob (v := .ref Y) (u := .ref Y) hg2 (F.at_ y Y hY) rfl hd) pa_nil) he) (by decide) (by decide) he).imp fun σ H Q h => ?_
  obtain ⟨I, r, rl, er, h⟩ := h
  refine ⟨I, r, rl, er, Pst.first h fun d v I1 H1 _ s1 x1 h1 => ?_⟩
  unfold dIsE at h1
  cases x1 with
  | @exn a C hc =>
    dsimp only at h1
    by_cases hC : (cs.map Prod.snd).contains C = true
    · rw [if_pos hC, hY] at h1
      have hC' := List.contains_iff_mem.mp hC
      exact ⟨a, C, .ref Y, .ref Y, C == Y, rfl, s1.rl.sub _ _ hc, (F.exc C hC').1, fun u e => e, F.kit C hC' y Y hY, h1.here s1.rl (.bl _)⟩
    · rw [if_neg hC] at h1; exact h1.elim
  | _ => exact h1.elim
theorem e_isVE (F : ExF X.K X.mg cs) (hm : X.mg "isinstance" = none) (hv : X.mg "ValueError" = none) (ha : PE X a (tF g X.mg E fa)) (hg : Gl X "isinstance" := by rfl) (hg2 : Gl X "ValueError" := by rfl)
    (he : starEach (a :: [.Name "ValueError" p']) X.env = (false, eval a X.env) :: starEach [.Name "ValueError" p'] X.env := by rfl) : PE X (.Call (.Name "isinstance" p) [a, .Name "ValueError" p'] [] pos) (tF g X.mg E (fIsVE cs fa)) := by
  refine (pe_callB (r := rIsO X.K) call_isO hg hm (by decide +kernel) (pa_cons ha (pa_cons (pe_bltn (v := .ty "ValueError") hg2 hv (by decide +kernel) rfl (by decide) (by decide)) pa_nil) he) (by decide) (by decide) he).imp fun σ H Q h => ?_
  obtain ⟨I, r, rl, er, h⟩ := h
  refine ⟨I, r, rl, er, Pst.first h fun d v I1 H1 _ s1 x1 h1 => ?_⟩
  unfold dIsVE at h1
  cases x1 with
  | @exn a C hc =>
    dsimp only at h1
    by_cases hC : (cs.map Prod.snd).contains C = true
    · rw [if_pos hC] at h1
      have hC' := List.contains_iff_mem.mp hC
      exact ⟨a, C, .ty "ValueError", .type "ValueError", true, rfl, s1.rl.sub _ _ hc, (F.exc C hC').1, fun u e => e, (F.exc C hC').2, h1.here s1.rl (.bl _)⟩
    · rw [if_neg hC] at h1; exact h1.elim
  | _ => exact h1.elim
end
end FW
/-! A House that stands: its attributes read, its methods called. -/
namespace FW
open PySem PySem.Spec PyProof.Rows L2 HotX LamX

/-- the class of a House: at C -/
structure HsF (K : PySem.W.Frag) (C : Addr) : Prop where
  cls : Cls K C
  kept : NoAttr K C "kept"
  table : NoAttr K C "table"
  known : NoAttr K C "known"
  past : NoAttr K C "past"
/-- a method, the tables known -/
structure CalM (P : Program) (w : World) (K : PySem.W.Frag) (mg : Str → Option Value) (base : Heap) (T : List (Addr × Str)) (C : Addr) (k : Nat) (m : Str) (ps : List Str) (fn : List D → Res D) : Prop where
  ex : ∃ f fd, FnOk P w K mg base (L2N.CX P w) k f fd ps (spFT mg T fn) ∧ Meth K C m f ∧ Binds K fd ps []
/-- the def of a method -/
structure FunM (K : PySem.W.Frag) (C : Addr) (m qual : Str) (st : Stmt) (ps : List Str) : Prop where
  ex : ∃ f fd, Fun K m qual st f fd ∧ Meth K C m f ∧ Binds K fd ps []
section
variable {P : Program} {w : World} {K : PySem.W.Frag} {mg : Str → Option Value} {base : Heap} {T : List (Addr × Str)}
theorem fn_okQ {x qual : Str} {st : Stmt} {f : Addr} {fd : FuncData} {N ps : List Str} {k np n : Nat} {ws : WS} {fs : FS} {cv : Value} (F : Fun K x qual st f fd) (hcv : ∀ o1 o2 fd o3, K.lookup f = some ⟨o1, o2, .func fd, o3⟩ → fd.code = cv) (S : FnScope N ps (defScope st)) (hi : ImpS fs ws) (hnp : ps.length = np) (hn : N.length = n)
    (hb : BodyT P w K mg base T N qual st k cv ws) : FnOk P w K mg base (L2N.CX P w) (k + 1) f fd ps (spFT mg T (fnF np n fs)) := by
  have len : ∀ vs H Q E, spFT mg T (fnF np n fs) vs H Q E → vs.length = ps.length := fun vs H Q E ⟨g, I, ds, _, rl, h, q⟩ => by
    unfold fnF at q
    split at q
    · rename_i hl
      rw [h.len, hl, hnp]
    · exact q.elim
  refine fn_Vc (t := fun E => fun kc σ H => ∃ (g : Gd), g.T = T ∧ tWS g mg E ws kc σ H) F hcv S len (fun A outer s H E B tk => ?_) (fun vs H Q E hsp => ?_)
  · exact ⟨fun pins s1 σ H1 D J ⟨g, e, q⟩ => (hb f A outer s H E g e B tk).run pins s1 σ H1 D J q⟩
  · obtain ⟨g, I, ds, hg, rl, h, q⟩ := hsp
    have q2 := fnF_W hi (Pst.iff.mp q)
    obtain ⟨hl, q2⟩ := q2
    refine ⟨g, hg, I, H, initE n ds, ⟨I, ?_⟩, ws.mono (k := { nx := fun _ => endW g (DR g) I H Q .non, rt := endW g (DR g) I H Q, bk := fun _ => False, ct := fun _ => False, ex := excW g mg E I H }) ⟨fun r z σ H' x => ?_, fun d z => z, fun _ z => z.elim, fun _ z => z.elim, fun _ z => z⟩ q2⟩
    · have hpl : ps.length ≤ N.length := by
        have := congrArg List.length S.pre
        rw [List.length_take] at this
        omega
      rw [← hn]
      exact sri_start rl h (by rw [hl, ← hnp]; exact hpl)
    · obtain ⟨I', x⟩ := x
      exact z .non I' H' x.stp .non
theorem calM_of {C : Addr} {m qual : Str} {st : Stmt} {N ps : List Str} {k np n : Nat} {ws : WS} {fs : FS} (F : FunM K C m qual st ps) (S : FnScope N ps (defScope st)) (hi : ImpS fs ws) (hb : ∀ cdv, BodyT P w K mg base T N qual st k cdv ws) (hnp : ps.length = np := by rfl) (hn : N.length = n := by rfl) :
    CalM P w K mg base T C (k + 1) m ps (fnF np n fs) := by
  obtain ⟨f, fd, F, e, b⟩ := F.ex
  obtain ⟨oc, od, kV, doc, pm, an, cdv, ct, osl, rfl, lk, hcd⟩ := F.ex
  refine ⟨f, _, fn_okQ (cv := cdv) F (fun o1 o2 fd o3 k1 => ?_) S hi hnp hn (hb cdv), e, b⟩
  rw [lk] at k1
  cases k1
  rfl
end
section
variable {X : Cx} {g : Gd} {E : XK} {k kl : Nat} {C : Addr} {m : Str} {ps : List Str} {o e : Expr} {es : List Expr} {apos pos : Pos} {T : List (Addr × Str)} {fo : FE} {kk : FA}
theorem e_kept (F : HsF X.K C) (he : PE X o (tF g X.mg E fo)) (hb : attributeBase o "kept" X.env (eval o X.env) = eval o X.env := by rfl) : PE X (.Attribute o "kept" pos) (tF g X.mg E (fFld (dKept C) fo)) :=
  (pe_fld he hb).imp fun σ H Q h => by
    obtain ⟨I, r, rl, er, h⟩ := h
    refine ⟨I, r, rl, er, Pst.first h fun d v I1 H1 _ s1 x1 h1 => ?_⟩
    cases x1 with
    | @hs a C' dx v1 v2 v3 v4 d1 d2 d3 hi r1 r2 r3 =>
      unfold dKept at h1
      dsimp only at h1
      by_cases c : C' = C
      · rw [if_pos c] at h1
        subst c
        exact ⟨a, C', dx, _, v1, rfl, s1.rl.sub _ _ hi, F.cls, F.kept, rfl, h1.here s1.rl r1⟩
      · rw [if_neg c] at h1; exact h1.elim
    | _ => exact h1.elim
theorem e_table (F : HsF X.K C) (he : PE X o (tF g X.mg E fo)) (hb : attributeBase o "table" X.env (eval o X.env) = eval o X.env := by rfl) : PE X (.Attribute o "table" pos) (tF g X.mg E (fFld (dTable C) fo)) :=
  (pe_fld he hb).imp fun σ H Q h => by
    obtain ⟨I, r, rl, er, h⟩ := h
    refine ⟨I, r, rl, er, Pst.first h fun d v I1 H1 _ s1 x1 h1 => ?_⟩
    cases x1 with
    | @hs a C' dx v1 v2 v3 v4 d1 d2 d3 hi r1 r2 r3 =>
      unfold dTable at h1
      dsimp only at h1
      by_cases c : C' = C
      · rw [if_pos c] at h1
        subst c
        exact ⟨a, C', dx, _, v2, rfl, s1.rl.sub _ _ hi, F.cls, F.table, rfl, h1.here s1.rl r2⟩
      · rw [if_neg c] at h1; exact h1.elim
    | _ => exact h1.elim
theorem e_known (F : HsF X.K C) (he : PE X o (tF g X.mg E fo)) (hb : attributeBase o "known" X.env (eval o X.env) = eval o X.env := by rfl) : PE X (.Attribute o "known" pos) (tF g X.mg E (fFld (dKnown C) fo)) :=
  (pe_fld he hb).imp fun σ H Q h => by
    obtain ⟨I, r, rl, er, h⟩ := h
    refine ⟨I, r, rl, er, Pst.first h fun d v I1 H1 _ s1 x1 h1 => ?_⟩
    cases x1 with
    | @hs a C' dx v1 v2 v3 v4 d1 d2 d3 hi r1 r2 r3 =>
      unfold dKnown at h1
      dsimp only at h1
      by_cases c : C' = C
      · rw [if_pos c] at h1
        subst c
        exact ⟨a, C', dx, _, v3, rfl, s1.rl.sub _ _ hi, F.cls, F.known, rfl, h1.here s1.rl r3⟩
      · rw [if_neg c] at h1; exact h1.elim
    | _ => exact h1.elim
theorem e_meth {fn : List D → Res D} {pl : Sem Bool} (CM : CalM X.prog X.w X.K X.mg X.base T C kl m ps fn) (B : Bd X E k) (hT : g.T = T) (F : HsF X.K C) (ho : PE X o (tF g X.mg E fo)) (ha : PA X (e :: es) (tFA g X.mg E kk)) (hle : kl ≤ k := by decide)
    (hno : m ≠ "kept" ∧ m ≠ "table" ∧ m ≠ "known" ∧ m ≠ "past" := by decide) (hst : starEach (e :: es) X.env = (false, eval e X.env) :: starEach es X.env := by rfl) (hpl : (backTo pos (starEach es X.env)).any (·.1) = false := by rfl)
    (ht : eval (.Call (.Attribute o m apos) (e :: es) [] pos) X.env = (do
      let ov ← eval o X.env
      standAt apos.atName
      let (f, first) ← holding [ov] (getMethod ov m pl)
      callWith pos f first (backTo pos (starEach (e :: es) X.env)) (backToKw pos (keywordEach [] X.env))) := by rfl) :
    PE X (.Call (.Attribute o m apos) (e :: es) [] pos) (tF g X.mg E (fMeth C fn fo kk)) := by
  obtain ⟨f, fd, FK, hm, hb⟩ := CM.ex
  refine (pe_meth (pl := pl) ho F.cls hm FK (B.hr.mono hle) hb .nil B.ps ha hst hpl ht).imp fun σ H Q h => ?_
  obtain ⟨I, r, rl, er, h⟩ := h
  refine ⟨I, r, rl, er, Pst.first h fun d v I1 H1 _ s1 x1 h1 => ?_⟩
  obtain ⟨n1, n2, n3, n4⟩ := hno
  cases x1 with
  | @hs a C' dx v1 v2 v3 v4 d1 d2 d3 hi r1 r2 r3 =>
    dsimp only at h1
    by_cases c : C' = C
    · rw [if_pos c] at h1
      subst c
      refine ⟨a, dx, _, rfl, s1.rl.sub _ _ hi, by simp [List.lookup, beq_false_of_ne n1, beq_false_of_ne n2, beq_false_of_ne n3, beq_false_of_ne n4], I1, r, s1.rl, er.mono s1.mono, Pst.first h1 fun ds vs I2 H2 _ s2 x2 h2 => ?_⟩
      show spFT X.mg T fn (.ref a :: (vs ++ [])) H2 Q E
      rw [List.append_nil]
      exact ⟨g, I2, _, hT, s2.rl, .cons ((DR.hs hi r1 r2 r3).mono s2.mono) x2, h2⟩
    · rw [if_neg c] at h1; exact h1.elim
  | _ => exact h1.elim
end
end FW
/-! A House is made and given its first promise: the object beside the region, then taken in. -/
namespace FW
open PySem PySem.Spec PyProof.Rows L2 HotX LamX

/-! ### beside the region -/
section
variable {g : Gd} {I0 H0 I H I' H' : Hp} {p : Addr} {o u : HO}
theorem stp_chg (s : Stp g I0 H0 I H) (n : NT H0 p) (nz : p ≠ g.dz) (hI : I p = none) (hp : H p = some o) (b : Bsd o) : Stp g I0 H0 I (upd H p u) :=
  ⟨s.mono, s.new, fun a v h1 h2 h3 => by
    rw [upd_ne fun e => n.none_of (by rw [← e]; exact h3) h2]
    exact s.keep a v h1 h2 h3, ⟨fun a v h => by
      rw [upd_ne fun e => by rw [e, hI] at h; cases h]
      exact s.rl.sub a v h, s.rl.dz, by
      obtain ⟨x, y, q⟩ := s.rl.dice
      exact ⟨x, y, by rw [upd_ne (Ne.symm nz)]; exact q⟩, tabs_set s.rl.tab hp b.t b.c, s.rl.nt⟩⟩
end
section
variable {g : Gd} {I0 H0 I H I' H' : Hp} {C y dx t k p : Addr} {v : V} {es1 es2 : List (Key × V)} {xs : List V}
theorem HouseB.setP (b : HouseB g I0 H0 I H C y dx t k p v es1 es2 xs) (ys : List V) : HouseB g I0 H0 I (upd H p (.lst ys)) C y dx t k p v es1 es2 ys := by
  have n1 : y ≠ p := ne_of b.hy b.hp (by intro z; cases z)
  have n2 : t ≠ p := ne_of b.ht b.hp (by intro z; cases z)
  have n3 : k ≠ p := ne_of b.hk b.hp (by intro z; cases z)
  exact ⟨stp_chg b.stp b.np b.zp b.ip b.hp bsd_lst, by rw [upd_ne n1]; exact b.hy, by rw [upd_ne n2]; exact b.ht, by rw [upd_ne n3]; exact b.hk, upd_same, b.iy, b.it, b.ik, b.ip, b.ny, b.nt, b.nk, b.np, b.zy, b.zt, b.zk, b.zp, b.tk⟩
theorem HouseB.setT (b : HouseB g I0 H0 I H C y dx t k p v es1 es2 xs) (es : List (Key × V)) : HouseB g I0 H0 I (upd H t (.dK es)) C y dx t k p v es es2 xs := by
  have n1 : y ≠ t := ne_of b.hy b.ht (by intro z; cases z)
  have n2 : p ≠ t := ne_of b.hp b.ht (by intro z; cases z)
  exact ⟨stp_chg b.stp b.nt b.zt b.it b.ht bsd_dK, by rw [upd_ne n1]; exact b.hy, upd_same, by rw [upd_ne b.tk.symm]; exact b.hk, by rw [upd_ne n2]; exact b.hp, b.iy, b.it, b.ik, b.ip, b.ny, b.nt, b.nk, b.np, b.zy, b.zt, b.zk, b.zp, b.tk⟩
theorem HouseB.setK (b : HouseB g I0 H0 I H C y dx t k p v es1 es2 xs) (es : List (Key × V)) : HouseB g I0 H0 I (upd H k (.dK es)) C y dx t k p v es1 es xs := by
  have n1 : y ≠ k := ne_of b.hy b.hk (by intro z; cases z)
  have n2 : p ≠ k := ne_of b.hp b.hk (by intro z; cases z)
  exact ⟨stp_chg b.stp b.nk b.zk b.ik b.hk bsd_dK, by rw [upd_ne n1]; exact b.hy, by rw [upd_ne b.tk]; exact b.ht, upd_same, by rw [upd_ne n2]; exact b.hp, b.iy, b.it, b.ik, b.ip, b.ny, b.nt, b.nk, b.np, b.zy, b.zt, b.zk, b.zp, b.tk⟩
end

/-! ### readings of values -/
abbrev rDD : List V → Hp → VK → Prop := fun xs H Q => ∃ (a : Addr) (kvs : List (Key × V)), xs = [.ref a] ∧ Rd H a (.dK kvs) ∧ ∀ p, H p = none → Q (.ref p) (upd H p (.dK kvs))
abbrev rLO (K : PySem.W.Frag) : List V → Hp → VK → Prop := fun xs H Q => ∃ p ys, xs = [.ref p] ∧ (SqL K H p ys ∨ SqT K H p ys) ∧ ∀ l, H l = none → Q (.ref l) (upd H l (.lst ys))
abbrev rInD : R2 := fun x y H Q => ∃ a o, y = .ref a ∧ DGet H a x o ∧ Q (.bl o.isSome) H
/-! ### remember -/
def spRem (C : Addr) : Sp := fun vs H Q _ => ∃ (g : Gd) (I0 H0 I : Hp) (y dx t k p : Addr) (v : V) (es1 es2 : List (Key × V)) (xs : List V), vs = [.ref y] ∧ HouseB g I0 H0 I H C y dx t k p v es1 es2 xs ∧ xs.length ≤ 1000 ∧ ∀ H' xs', HouseB g I0 H0 I H' C y dx t k p v es1 es2 xs' → Q .non H'
def tRem (K : PySem.W.Frag) : TS := tDrop (tBM K "list" rAppend (tFld K (tVar 0) "past") (tCons (tTup (tCons (tFld K (tVar 0) "kept") (tCons (tCB rDD (tCons (tFld K (tVar 0) "table") tNil)) (tCons (tCB rDD (tCons (tFld K (tVar 0) "known") tNil)) tNil)))) tNil))
theorem rem_run {K : PySem.W.Frag} {C : Addr} (F : HsF K C) {g : Gd} {I0 H0 I H : Hp} {y dx t k p : Addr} {v : V} {es1 es2 : List (Key × V)} {xs : List V} {σ : L2.St} {D : Ends} (h0 : σ[0]? = some (some (.ref y))) (b : HouseB g I0 H0 I H C y dx t k p v es1 es2 xs) (hz : xs.length ≤ 1000)
    (q : ∀ H' xs', HouseB g I0 H0 I H' C y dx t k p v es1 es2 xs' → D.nx σ H') : tRem K D σ H := by
  refine ⟨.ref y, h0, y, C, dx, _, .ref p, rfl, b.hy, F.cls, F.past, rfl, ?_⟩
  refine ⟨.inl ⟨rfl, xs, SqL.of b.hp⟩, ?_⟩
  refine ⟨.ref y, h0, y, C, dx, _, v, rfl, b.hy, F.cls, F.kept, rfl, ?_⟩
  refine ⟨.ref y, h0, y, C, dx, _, .ref t, rfl, b.hy, F.cls, F.table, rfl, t, es1, rfl, .inl b.ht, fun a1 ha1 => ?_⟩
  have b1 := b.go (b.stp.rl.lay (o := .dK es1) ha1)
  refine ⟨.ref y, h0, y, C, dx, _, .ref k, rfl, b1.hy, F.cls, F.known, rfl, k, es2, rfl, .inl b1.hk, fun a2 ha2 => ?_⟩
  have b2 := b1.go (b1.stp.rl.lay (o := .dK es2) ha2)
  refine ⟨by show 3 ≤ sizeLine; decide, fun a3 ha3 => ?_⟩
  have b3 := b2.go (b2.stp.rl.lay (o := .tup [v, .ref a1, .ref a2]) ha3)
  refine ⟨p, xs, .ref a3, rfl, rfl, b3.hp, Nat.lt_of_le_of_lt hz (by decide), ?_⟩
  exact q _ _ (b3.setP _)
/-! ### promise -/
/-- what is asked ahead of the promise, what is told -/
structure ProD (f1 : FT) (fnN fnA : List D → Res D) (nm : Str) (talk : D) (ds : List D) (bb : Bool) (n : Int) : Prop where
  hw : f1 [none, some (.str nm), some (.lst ds), none] = .ok false
  hn : ∃ d, fnN [talk, .lst ds] = .ok d
  ha : fnA [talk, .lst ds] = .ok (.tup [.bl bb, .int n])
def spPro (T : List (Addr × Str)) (C : Addr) (f1 : FT) (fnN fnA : List D → Res D) : Sp := fun vs H Q _ => ∃ (g : Gd) (I0 H0 I : Hp) (y dx t k p : Addr) (v vt : V) (nm : Str) (talk : D) (ds : List D) (bb : Bool) (n : Int) (xs : List V), g.T = T ∧ vs = [.ref y, .str nm, vt] ∧ HouseB g I0 H0 I H C y dx t k p v [] [] xs ∧ xs.length ≤ 1000 ∧
  DR g I v talk ∧ DR g I vt (.lst ds) ∧ ProD f1 fnN fnA nm talk ds bb n ∧ ∀ u I' H' vl vf xs', HouseB g I0 H0 I' H' C y dx t k p v [(.inr nm, vl)] [(.inr nm, vf)] xs' → Sub I I' → DR g I' vl (.lst ds) → DR g I' vf (.tup [.bl bb, .int n]) → Q u H'
def tPro (K : PySem.W.Frag) (mg : Str → Option Value) (T : List (Addr × Str)) (C : Addr) (f1 : FT) (fnN fnA : List D → Res D) (x1 x2 : TS) (g : Gd) (E : XK) : TS :=
  tSeq (tIfS (tFT g mg E f1) x1 tNext) (tSeq (tIfS (tTest (tOp rInD (tVar 1) (tFld K (tVar 0) "table"))) x2 tNext) (tSeq (tDrop (tCall (spF mg fnN) [] E (tCons (tFld K (tVar 0) "kept") (tCons (tVar 2) tNil))))
    (tSeq (tAsg (tCall (spFT mg T fnA) [] E (tCons (tFld K (tVar 0) "kept") (tCons (tVar 2) tNil))) (gName 3)) (tSeq (tDrop (tMeth C "remember" (spRem C) [] E (tVar 0) tNil))
      (tSeq (tAsg (tCB (rLO K) (tCons (tVar 2) tNil)) (gSub (tFld K (tVar 0) "table") (tVar 1) rSetD)) (tSeq (tAsg (tVar 3) (gSub (tFld K (tVar 0) "known") (tVar 1) rSetD)) (tRet (tOp (rIx K) (tVar 3) (tC (.int 0))))))))))
theorem pro_run {K : PySem.W.Frag} {mg : Str → Option Value} {T : List (Addr × Str)} {C : Addr} {f1 : FT} {fnN fnA : List D → Res D} {x1 x2 : TS} {E : XK} (F : HsF K C) {g : Gd} {I0 H0 I H : Hp} {y dx t k p : Addr} {v vt : V} {nm : Str} {talk : D} {ds : List D} {bb : Bool} {n : Int} {xs : List V} {σ : L2.St} {D : Ends}
    (hT : g.T = T) (hσ : σ = [some (.ref y), some (.str nm), some vt, none]) (b : HouseB g I0 H0 I H C y dx t k p v [] [] xs) (hz : xs.length ≤ 1000) (hv : DR g I v talk) (hvt : DR g I vt (.lst ds)) (P : ProD f1 fnN fnA nm talk ds bb n)
    (q : ∀ u I' H' vl vf xs', HouseB g I0 H0 I' H' C y dx t k p v [(.inr nm, vl)] [(.inr nm, vf)] xs' → Sub I I' → DR g I' vl (.lst ds) → DR g I' vf (.tup [.bl bb, .int n]) → D.rt u H') : tPro K mg T C f1 fnN fnA x1 x2 g E D σ H := by
  subst hσ
  refine ⟨I, [none, some (.str nm), some (.lst ds), none], b.stp.rl, ⟨rfl, fun i d h => ?_⟩, ?_⟩
  · match i, h with
    | 0, h => cases h
    | 1, h => cases h; exact ⟨_, rfl, .str nm⟩
    | 2, h => cases h; exact ⟨_, rfl, hvt⟩
    | 3, h => cases h
    | i + 4, h => cases h
  rw [P.hw]
  intro c I1 H1 s1 ec
  have ec : c = false := ec
  subst ec
  have b1 := b.go s1
  show (if false = true then _ else tNext _ _ H1)
  rw [if_neg (by decide)]
  unfold tNext
  dsimp only
  refine ⟨.str nm, rfl, .ref y, rfl, y, C, dx, _, .ref t, rfl, b1.hy, F.cls, F.table, rfl, t, _, rfl, DGet.k (k := .inr nm) b1.ht, false, rfl, ?_⟩
  show (if false = true then _ else tNext _ _ H1)
  rw [if_neg (by decide)]
  unfold tNext
  dsimp only
  refine ⟨.ref y, rfl, y, C, dx, _, v, rfl, b1.hy, F.cls, F.kept, rfl, vt, rfl, g, I1, [talk, .lst ds], b1.stp.rl, .cons (hv.mono s1.mono) (.cons (hvt.mono s1.mono) .nil), ?_⟩
  obtain ⟨dn, en⟩ := P.hn
  rw [en]
  intro _ I2 H2 s2 _
  have b2 := b1.go s2
  have s12 := s1.trans s2
  refine ⟨.ref y, rfl, y, C, dx, _, v, rfl, b2.hy, F.cls, F.kept, rfl, vt, rfl, g, I2, [talk, .lst ds], hT, b2.stp.rl, .cons (hv.mono s12.mono) (.cons (hvt.mono s12.mono) .nil), ?_⟩
  rw [P.ha]
  intro vf I3 H3 s3 rf
  have b3 := b2.go s3
  have s13 := s12.trans s3
  refine ⟨.ref y, rfl, y, dx, _, rfl, b3.hy, rfl, g, I0, H0, I3, y, dx, t, k, p, v, [], [], xs, rfl, b3, hz, fun H4 xs4 b4 => ?_⟩
  have hvt3 := hvt.mono s13.mono
  cases hvt3 with
  | @lst a vs _ ha rs =>
    refine ⟨.ref a, rfl, a, vs, rfl, .inl (SqL.of (b4.stp.rl.sub _ _ ha)), fun l hl => ?_⟩
    have s5 := b4.stp.rl.put (o := .lst vs) hl
    have b5 := b4.go s5
    refine ⟨.ref y, rfl, y, C, dx, _, .ref t, rfl, b5.hy, F.cls, F.table, rfl, .str nm, rfl, t, _, rfl, DPut.k (k := .inr nm) b5.ht (by decide), ?_⟩
    have b6 := b5.setT [(.inr nm, .ref l)]
    refine ⟨vf, rfl, .ref y, rfl, y, C, dx, _, .ref k, rfl, b6.hy, F.cls, F.known, rfl, .str nm, rfl, k, _, rfl, DPut.k (k := .inr nm) b6.hk (by decide), ?_⟩
    have b7 := b6.setK [(.inr nm, vf)]
    have rf5 := rf.mono s5.mono
    have fin := fun u => q u _ _ (.ref l) vf xs4 b7 (s13.mono.trans s5.mono) (.lst upd_same (rs.mono s5.mono)) rf5
    cases rf5 with
    | @tup af zs _ u hu tu r2 =>
      cases r2 with
      | @cons z0 z1 _ _ r3 r4 =>
        cases r3
        cases r4 with
        | @cons z2 z3 _ _ r5 r6 =>
        cases r5
        cases r6
        exact ⟨.ref af, rfl, .inr (.inl ⟨af, _, 0, .bl bb, rfl, rfl, tu.sqt (b7.stp.rl.sub _ _ hu), rfl, fin _⟩)⟩
end FW
/-! A House's __init__; the two statements that make it and give it its first promise. -/
namespace FW
open PySem PySem.Spec PyProof.Rows L2 HotX LamX

def spMk (C : Addr) (ft : FT) : Sp := fun vs H Q _ => ∃ (g : Gd) (I0 H0 I : Hp) (y dx : Addr) (v : V) (talk : D), vs = [.ref y, v] ∧ Stp g I0 H0 I H ∧ H y = some (.ins C dx []) ∧ NT H0 y ∧ y ≠ g.dz ∧ I y = none ∧ DR g I v talk ∧ ft [none, some talk] = .ok false ∧
  ∀ I' H' t k p, HouseB g I0 H0 I' H' C y dx t k p v [] [] [] → Sub I I' → Q .non H'
def tInit (K : PySem.W.Frag) (mg : Str → Option Value) (ft : FT) (x1 : TS) (g : Gd) (E : XK) : TS :=
  tSeq (tIfS (tFT g mg E ft) x1 tNext) (tSeq (sFld K (tVar 0) (tVar 1) "kept") (tSeq (sFld K (tVar 0) tDNewK "table") (tSeq (sFld K (tVar 0) tDNewK "known") (sFld K (tVar 0) (tLst tNil) "past"))))
abbrev fK (v : V) : List (Str × V) := [("kept", v)]
abbrev fKT (v w : V) : List (Str × V) := [("kept", v), ("table", w)]
abbrev fKTN (v w z : V) : List (Str × V) := [("kept", v), ("table", w), ("known", z)]
theorem putF1 {v : V} : putF "kept" v [] = fK v := by rfl
theorem putF2 {v w : V} : putF "table" w (fK v) = fKT v w := by
  simp only [putF]
  rw [if_neg (by decide)]
theorem putF3 {v w z : V} : putF "known" z (fKT v w) = fKTN v w z := by
  simp only [putF]
  rw [if_neg (by decide), if_neg (by decide)]
theorem putF4 {v w z u : V} : putF "past" u (fKTN v w z) = hsF v w z u := by
  simp only [putF]
  rw [if_neg (by decide), if_neg (by decide), if_neg (by decide)]
theorem init_run {K : PySem.W.Frag} {mg : Str → Option Value} {C : Addr} {ft : FT} {x1 : TS} {E : XK} (F : HsF K C) {g : Gd} {I0 H0 I H : Hp} {y dx : Addr} {v : V} {talk : D} {σ : L2.St} {D : Ends} (hσ : σ = [some (.ref y), some v]) (st : Stp g I0 H0 I H) (hy : H y = some (.ins C dx []))
    (ny : NT H0 y) (zy : y ≠ g.dz) (iy : I y = none) (hv : DR g I v talk) (e : ft [none, some talk] = .ok false) (q : ∀ I' H' t k p, HouseB g I0 H0 I' H' C y dx t k p v [] [] [] → Sub I I' → D.nx σ H') : tInit K mg ft x1 g E D σ H := by
  subst hσ
  refine ⟨I, [none, some talk], st.rl, ⟨rfl, fun i d h => ?_⟩, ?_⟩
  · match i, h with
    | 0, h => cases h
    | 1, h => cases h; exact ⟨_, rfl, hv⟩
    | i + 2, h => cases h
  rw [e]
  intro c I1 H1 s1 ec
  have ec : c = false := ec
  subst ec
  show (if false = true then _ else tNext _ _ H1)
  rw [if_neg (by decide)]
  unfold tNext
  dsimp only
  have st1 := st.trans s1
  obtain ⟨iy1, hy1⟩ := stp_beside s1 iy zy hy bsd_ins
  refine ⟨v, rfl, .ref y, rfl, y, C, dx, [], rfl, hy1, F.cls, F.kept, by decide, ?_⟩
  rw [putF1]
  have st2 := stp_chg (u := .ins C dx (fK v)) st1 ny zy iy1 hy1 bsd_ins
  have hy2 : (upd H1 y (.ins C dx (fK v))) y = some (.ins C dx (fK v)) := upd_same
  generalize upd H1 y (.ins C dx (fK v)) = H2 at st2 hy2 ⊢
  intro t ht
  have nyt : y ≠ t := ne_of_none hy2 ht
  have st3 := st2.trans (st2.rl.lay (o := .dK []) ht)
  have it : I1 t = none := st2.rl.out ht
  have nt : NT H0 t := st2.back (NT.of ht)
  have zt := st2.rl.nz ht
  have hy3 : (upd H2 t (.dK [])) y = some (.ins C dx (fK v)) := by rw [upd_ne nyt]; exact hy2
  have ht3 : (upd H2 t (.dK [])) t = some (.dK []) := upd_same
  generalize upd H2 t (.dK []) = H3 at st3 hy3 ht3 ⊢
  refine ⟨.ref y, rfl, y, C, dx, _, rfl, hy3, F.cls, F.table, (by show 1 < 1000; decide), ?_⟩
  rw [putF2]
  have st4 := stp_chg (u := .ins C dx (fKT v (.ref t))) st3 ny zy iy1 hy3 bsd_ins
  have hy4 : (upd H3 y (.ins C dx (fKT v (.ref t)))) y = some (.ins C dx (fKT v (.ref t))) := upd_same
  have ht4 : (upd H3 y (.ins C dx (fKT v (.ref t)))) t = some (.dK []) := by rw [upd_ne nyt.symm]; exact ht3
  generalize upd H3 y (.ins C dx (fKT v (.ref t))) = H4 at st4 hy4 ht4 ⊢
  intro k hk
  have nyk : y ≠ k := ne_of_none hy4 hk
  have ntk : t ≠ k := ne_of_none ht4 hk
  have st5 := st4.trans (st4.rl.lay (o := .dK []) hk)
  have ik : I1 k = none := st4.rl.out hk
  have nk : NT H0 k := st4.back (NT.of hk)
  have zk := st4.rl.nz hk
  have hy5 : (upd H4 k (.dK [])) y = some (.ins C dx (fKT v (.ref t))) := by rw [upd_ne nyk]; exact hy4
  have ht5 : (upd H4 k (.dK [])) t = some (.dK []) := by rw [upd_ne ntk]; exact ht4
  have hk5 : (upd H4 k (.dK [])) k = some (.dK []) := upd_same
  generalize upd H4 k (.dK []) = H5 at st5 hy5 ht5 hk5 ⊢
  refine ⟨.ref y, rfl, y, C, dx, _, rfl, hy5, F.cls, F.known, (by show 2 < 1000; decide), ?_⟩
  rw [putF3]
  have st6 := stp_chg (u := .ins C dx (fKTN v (.ref t) (.ref k))) st5 ny zy iy1 hy5 bsd_ins
  have hy6 : (upd H5 y (.ins C dx (fKTN v (.ref t) (.ref k)))) y = some (.ins C dx (fKTN v (.ref t) (.ref k))) := upd_same
  have ht6 : (upd H5 y (.ins C dx (fKTN v (.ref t) (.ref k)))) t = some (.dK []) := by rw [upd_ne nyt.symm]; exact ht5
  have hk6 : (upd H5 y (.ins C dx (fKTN v (.ref t) (.ref k)))) k = some (.dK []) := by rw [upd_ne nyk.symm]; exact hk5
  generalize upd H5 y (.ins C dx (fKTN v (.ref t) (.ref k))) = H6 at st6 hy6 ht6 hk6 ⊢
  refine ⟨Nat.zero_le _, fun p hp => ?_⟩
  have nyp : y ≠ p := ne_of_none hy6 hp
  have ntp : t ≠ p := ne_of_none ht6 hp
  have nkp : k ≠ p := ne_of_none hk6 hp
  have st7 := st6.trans (st6.rl.lay (o := .lst []) hp)
  have ip : I1 p = none := st6.rl.out hp
  have np : NT H0 p := st6.back (NT.of hp)
  have zp := st6.rl.nz hp
  have hy7 : (upd H6 p (.lst [])) y = some (.ins C dx (fKTN v (.ref t) (.ref k))) := by rw [upd_ne nyp]; exact hy6
  have ht7 : (upd H6 p (.lst [])) t = some (.dK []) := by rw [upd_ne ntp]; exact ht6
  have hk7 : (upd H6 p (.lst [])) k = some (.dK []) := by rw [upd_ne nkp]; exact hk6
  have hp7 : (upd H6 p (.lst [])) p = some (.lst []) := upd_same
  generalize upd H6 p (.lst []) = H7 at st7 hy7 ht7 hk7 hp7 ⊢
  refine ⟨.ref y, rfl, y, C, dx, _, rfl, hy7, F.cls, F.past, (by show 3 < 1000; decide), ?_⟩
  rw [putF4]
  have st8 := stp_chg (u := .ins C dx (hsF v (.ref t) (.ref k) (.ref p))) st7 ny zy iy1 hy7 bsd_ins
  refine q I1 _ t k p ⟨st8, upd_same, by rw [upd_ne nyt.symm]; exact ht7, by rw [upd_ne nyk.symm]; exact hk7, by rw [upd_ne nyp.symm]; exact hp7, iy1, it, ik, ip, ny, nt, nk, np, zy, zt, zk, zp, ntk⟩ s1.mono
/-! ### the two statements -/
def wsHouse (h tl mo : Nat) (C : Addr) (nm : Str) (ft f1 : FT) (fnN fnA : List D → Res D) : WS := ⟨fun r k => h < r.length ∧ mo ≠ h ∧ ∃ talk m bb n, r[tl]? = some (.val talk) ∧ r[mo]? = some (.val (.int m)) ∧ ft [none, some talk] = .ok false ∧ ProD f1 fnN fnA nm talk [.tup [.int 0, .int m]] bb n ∧ k.nx (r.set h (.val (houseD C talk nm m bb n))),
  fun hk ⟨a, b, talk, m, bb, n, q1, q2, q3, q4, q5⟩ => ⟨a, b, talk, m, bb, n, q1, q2, q3, q4, hk.nx _ q5⟩⟩
theorem imp_house {h tl mo : Nat} {C : Addr} {nm : Str} {ft f1 : FT} {fnN fnA : List D → Res D} : ImpS (fsHouse h tl mo C nm ft f1 fnN fnA) (wsHouse h tl mo C nm ft f1 fnN fnA) := fun r k q => by
  unfold fsHouse at q
  split at q
  · rename_i c
    split at q
    · rename_i talk m e1 e2
      split at q
      · rename_i dn bb n e3 e4 e5 e6
        exact ⟨c.1, c.2, talk, m, bb, n, e1, e2, e3, ⟨e4, ⟨_, e5⟩, e6⟩, q⟩
      · exact q.elim
    · exact q.elim
  · exact q.elim
section
variable {X : Cx} {g : Gd} {E : XK} {T : List (Addr × Str)}
theorem ss_house {h tl mo : Nat} {C : Addr} {nm : Str} {ft f1 : FT} {fnN fnA : List D → Res D} {st1 st2 : Stmt} {rest : List Stmt} {b : WS} (hT : g.T = T) (h1 : PS X st1 (tAsg (tMake C (spMk C ft) [] E (tCons (tVar tl) tNil)) (gName h)))
    (h2 : PS X st2 (tDrop (tMeth C "promise" (spPro T C f1 fnN fnA) [] E (tVar h) (tCons (tC (.str nm)) (tCons (tLst (tCons (tTup (tCons (tC (.int 0)) (tCons (tVar mo) tNil))) tNil)) tNil)))))
    (h3 : PSs X rest (tWS g X.mg E b)) : PSs X (st1 :: st2 :: rest) (tWS g X.mg E (wsSeq (wsHouse h tl mo C nm ft f1 fnN fnA) b)) :=
  (pss_cons h1 (pss_cons h2 h3)).imp fun D σ H hh => by
    obtain ⟨I0, H0, r, ⟨I, x⟩, lh, hm, talk, m, bb, n, q1, q2, q3, q4, q5⟩ := hh
    obtain ⟨vt, e1, r1⟩ := x.val tl _ q1
    obtain ⟨vm, e2, r2⟩ := x.val mo _ q2
    cases r2
    have rl := x.stp.rl
    have lσ : h < σ.length := by rw [x.len]; exact lh
    refine ⟨vt, e1, fun y dx hy hdx hne => ?_⟩
    have st1 := rl.lay (o := .own y) hdx
    have st2 := st1.trans (st1.rl.lay (p := y) (o := .ins C dx []) (by rw [upd_ne (Ne.symm hne)]; exact hy))
    refine ⟨g, I, H, I, y, dx, vt, talk, rfl, st2, upd_same, NT.of hy, rl.nz hy, rl.out hy, r1, q3, fun I1 H1 t k p hb sb => ⟨rfl, ?_⟩⟩
    refine ⟨.ref y, List.getElem?_set_self lσ, y, dx, _, rfl, hb.hy, rfl, ?_⟩
    refine ⟨.int m, by rw [List.getElem?_set_ne (Ne.symm hm)]; exact e2, by show 2 ≤ sizeLine; decide, fun a ha => ⟨by show 1 ≤ sizeLine; decide, fun l hl => ?_⟩⟩
    have s2 := hb.stp.rl.put (o := .tup [.int 0, .int m]) ha
    have s3 := s2.rl.put (o := .lst [.ref a]) hl
    have ra : DR g (upd I1 a (.tup [.int 0, .int m])) (.ref a) (.tup [.int 0, .int m]) := .tup upd_same (.inl ⟨rfl, rfl⟩) (.cons (.int 0) (.cons (.int m) .nil))
    have hv := r1.mono (sb.trans (s2.mono.trans s3.mono))
    refine ⟨g, I, H, _, y, dx, t, k, p, vt, .ref l, nm, talk, [.tup [.int 0, .int m]], bb, n, [], hT, rfl, (hb.go s2).go s3, Nat.zero_le _, hv, .lst upd_same (.cons (ra.mono s3.mono) .nil), q4, fun u I4 H4 vl vf xs4 hb4 sb4 rl4 rf4 => ?_⟩
    obtain ⟨J, sJ, uJ, rJ⟩ := hb4.done (hv.mono sb4) ⟨_, rfl, .cons rl4 .nil⟩ ⟨_, rfl, .cons rf4 .nil⟩
    exact ⟨I0, H0, _, ⟨J, (x.go sJ).setV lh rJ⟩, q5⟩
end
end FW
/-! A House's methods as they are called: __init__, remember, promise. -/
namespace FW
open PySem PySem.Spec PyProof.Rows L2 HotX LamX

structure CalMS (P : Program) (w : World) (K : PySem.W.Frag) (mg : Str → Option Value) (base : Heap) (C : Addr) (k : Nat) (m : Str) (ps : List Str) (sp : Sp) : Prop where
  ex : ∃ f fd, FnOk P w K mg base (L2N.CX P w) k f fd ps sp ∧ Meth K C m f ∧ Binds K fd ps []
/-- a class and its __init__ -/
structure FunI (K : PySem.W.Frag) (mg : Str → Option Value) (C : Addr) (x qual : Str) (st : Stmt) (ps : List Str) : Prop where
  ex : ∃ f fd, Mk K C f ∧ mg x = some (.ref C) ∧ Fun K "__init__" qual st f fd ∧ Binds K fd ps []
structure CalMk (P : Program) (w : World) (K : PySem.W.Frag) (mg : Str → Option Value) (base : Heap) (C : Addr) (k : Nat) (x : Str) (ps : List Str) (sp : Sp) : Prop where
  ex : ∃ f fd, Mk K C f ∧ mg x = some (.ref C) ∧ FnOk P w K mg base (L2N.CX P w) k f fd ps sp ∧ Binds K fd ps []
section
variable {P : Program} {w : World} {K : PySem.W.Frag} {mg : Str → Option Value} {base : Heap} {T : List (Addr × Str)}
abbrev BodyS (P : Program) (w : World) (K : PySem.W.Frag) (mg : Str → Option Value) (base : Heap) (N : List Str) (qual : Str) (st : Stmt) (k : Nat) (t : XK → TS) : Prop :=
  ∀ (f : Addr) (cdv : Value) (A : Around) (outer : List PySem.Env) (s : Shared) (H : Hp) (E : XK), Bd (cxOf (L2N.CX P w) P w K mg base N qual (defScope st) f cdv A outer s H E) E k → L2N.Takes (cxOf (L2N.CX P w) P w K mg base N qual (defScope st) f cdv A outer s H E) (fun cls d _ H => E cls d H) →
    PSs (cxOf (L2N.CX P w) P w K mg base N qual (defScope st) f cdv A outer s H E) (defBody st) (t E)
theorem fn_S {x qual : Str} {st : Stmt} {f : Addr} {fd : FuncData} {N ps : List Str} {k : Nat} {sp : Sp} {t : XK → TS} (F : Fun K x qual st f fd) (S : FnScope N ps (defScope st)) (len : ∀ vs H Q E, sp vs H Q E → vs.length = ps.length) (hb : BodyS P w K mg base N qual st k t)
    (hr : ∀ vs H Q E, sp vs H Q E → t E { nx := fun _ H' => Q .non H', rt := Q } (L2.start N vs) H) : FnOk P w K mg base (L2N.CX P w) (k + 1) f fd ps sp := by
  obtain ⟨oc, od, kV, doc, pm, an, cdv, ct, osl, rfl, lk, hcd⟩ := F.ex
  refine fn_Vc (cv := cdv) (t := t) F (fun o1 o2 fd o3 k1 => ?_) S len (fun A outer s H E B tk => hb f cdv A outer s H E B tk) hr
  rw [lk] at k1
  cases k1
  rfl
/-- __init__ -/
theorem mk_of_house {C : Addr} {x qual : Str} {st : Stmt} {N ps : List Str} {k : Nat} {ft : FT} {x1 : Gd → XK → TS} (HF : HsF K C) (F : FunI K mg C x qual st ps) (S : FnScope N ps (defScope st)) (hp : ps.length = 2) (hN : N.length = 2)
    (hb : ∀ (f : Addr) (cdv : Value) (A : Around) (outer : List PySem.Env) (s : Shared) (H : Hp) (E : XK) (g : Gd), Bd (cxOf (L2N.CX P w) P w K mg base N qual (defScope st) f cdv A outer s H E) E k → L2N.Takes (cxOf (L2N.CX P w) P w K mg base N qual (defScope st) f cdv A outer s H E) (fun cls d _ H => E cls d H) →
      PSs (cxOf (L2N.CX P w) P w K mg base N qual (defScope st) f cdv A outer s H E) (defBody st) (tInit K mg ft (x1 g E) g E)) : CalMk P w K mg base C (k + 1) x ps (spMk C ft) := by
  obtain ⟨f, fd, M, hm, F, b⟩ := F.ex
  refine ⟨f, fd, M, hm, fn_S (t := fun E => fun kc σ H => ∃ g, tInit K mg ft (x1 g E) g E kc σ H) F S (fun vs H Q E ⟨g, I0, H0, I, y, dx, v, talk, e, _⟩ => by rw [e, hp]; rfl) (fun f cdv A outer s H E B tk => ⟨fun pins s1 σ H1 D J ⟨g, q⟩ => (hb f cdv A outer s H E g B tk).run pins s1 σ H1 D J q⟩) (fun vs H Q E hsp => ?_), b⟩
  obtain ⟨g, I0, H0, I, y, dx, v, talk, rfl, st, hy, ny, zy, iy, hv, e, q⟩ := hsp
  exact ⟨g, init_run HF (by unfold L2.start; rw [hN]; rfl) st hy ny zy iy hv e q⟩
/-- remember -/
theorem rem_of_house {C : Addr} {m qual : Str} {st : Stmt} {N ps : List Str} {k : Nat} (HF : HsF K C) (F : FunM K C m qual st ps) (S : FnScope N ps (defScope st)) (hp : ps.length = 1) (hN : N.length = 1)
    (hb : BodyS P w K mg base N qual st k (fun _ => tRem K)) : CalMS P w K mg base C (k + 1) m ps (spRem C) := by
  obtain ⟨f, fd, F, hm, b⟩ := F.ex
  refine ⟨f, fd, fn_S F S (fun vs H Q E ⟨g, I0, H0, I, y, dx, t, k, p, v, es1, es2, xs, e, _⟩ => by rw [e, hp]; rfl) hb (fun vs H Q E hsp => ?_), hm, b⟩
  obtain ⟨g, I0, H0, I, y, dx, t, k, p, v, es1, es2, xs, rfl, hB, hz, q⟩ := hsp
  exact rem_run HF (y := y) (by unfold L2.start; rw [hN]; rfl) hB hz q
/-- promise -/
theorem pro_of_house {C : Addr} {m qual : Str} {st : Stmt} {N ps : List Str} {k : Nat} {f1 : FT} {fnN fnA : List D → Res D} {x1 x2 : Gd → XK → TS} (HF : HsF K C) (F : FunM K C m qual st ps) (S : FnScope N ps (defScope st)) (hp : ps.length = 3) (hN : N.length = 4)
    (hb : ∀ (f : Addr) (cdv : Value) (A : Around) (outer : List PySem.Env) (s : Shared) (H : Hp) (E : XK) (g : Gd), Bd (cxOf (L2N.CX P w) P w K mg base N qual (defScope st) f cdv A outer s H E) E k → L2N.Takes (cxOf (L2N.CX P w) P w K mg base N qual (defScope st) f cdv A outer s H E) (fun cls d _ H => E cls d H) →
      PSs (cxOf (L2N.CX P w) P w K mg base N qual (defScope st) f cdv A outer s H E) (defBody st) (tPro K mg T C f1 fnN fnA (x1 g E) (x2 g E) g E)) : CalMS P w K mg base C (k + 1) m ps (spPro T C f1 fnN fnA) := by
  obtain ⟨f, fd, F, hm, b⟩ := F.ex
  refine ⟨f, fd, fn_S (t := fun E => fun kc σ H => ∃ g, tPro K mg T C f1 fnN fnA (x1 g E) (x2 g E) g E kc σ H) F S (fun vs H Q E ⟨g, I0, H0, I, y, dx, t, k, p, v, vt, nm, talk, ds, bb, n, xs, hT, e, _⟩ => by rw [e, hp]; rfl) (fun f cdv A outer s H E B tk => ⟨fun pins s1 σ H1 D J ⟨g, q⟩ => (hb f cdv A outer s H E g B tk).run pins s1 σ H1 D J q⟩) (fun vs H Q E hsp => ?_), hm, b⟩
  obtain ⟨g, I0, H0, I, y, dx, t, k, p, v, vt, nm, talk, ds, bb, n, xs, hT, rfl, hB, hz, hv, hvt, hP, q⟩ := hsp
  exact ⟨g, pro_run HF hT (by unfold L2.start; rw [hN]; rfl) hB hz hv hvt hP q⟩
end
section
variable {X : Cx} {E : XK} {k kl : Nat} {x m : Str} {ps : List Str} {e : Expr} {es : List Expr} {p apos pos : Pos} {T : List (Addr × Str)} {t : TA} {fn : List D → Res D} {sp : Sp} {C : Addr} {o : Expr} {to : TE}
theorem v_callF (c : CalF X.prog X.w X.K X.mg X.base kl x ps fn) (B : Bd X E k) (ha : PA X (e :: es) t) (hle : kl ≤ k := by decide) (hg : Gl X x := by rfl) (hdb : (x == ("__debug__" : Str)) = false := by decide) (he : starEach (e :: es) X.env = (false, eval e X.env) :: starEach es X.env := by rfl)
    (hpl : (backTo pos (starEach es X.env)).any (·.1) = false := by rfl) : PE X (.Call (.Name x p) (e :: es) [] pos) (tCall (spF X.mg fn) [] E t) := by
  obtain ⟨f, fd, F, hm, hk, hb⟩ := c.ex
  exact pe_call F (B.hr.mono hle) hg hm hk hb .nil B.ps ha hdb he hpl
theorem v_callFT (c : CalFT X.prog X.w X.K X.mg X.base T kl x ps fn) (B : Bd X E k) (ha : PA X (e :: es) t) (hle : kl ≤ k := by decide) (hg : Gl X x := by rfl) (hdb : (x == ("__debug__" : Str)) = false := by decide) (he : starEach (e :: es) X.env = (false, eval e X.env) :: starEach es X.env := by rfl)
    (hpl : (backTo pos (starEach es X.env)).any (·.1) = false := by rfl) : PE X (.Call (.Name x p) (e :: es) [] pos) (tCall (spFT X.mg T fn) [] E t) := by
  obtain ⟨f, fd, F, hm, hk, hb⟩ := c.ex
  exact pe_call F (B.hr.mono hle) hg hm hk hb .nil B.ps ha hdb he hpl
theorem v_meth {pl : Sem Bool} (c : CalMS X.prog X.w X.K X.mg X.base C kl m ps sp) (B : Bd X E k) (F : HsF X.K C) (ho : PE X o to) (ha : PA X (e :: es) t) (hle : kl ≤ k := by decide) (hst : starEach (e :: es) X.env = (false, eval e X.env) :: starEach es X.env := by rfl) (hpl : (backTo pos (starEach es X.env)).any (·.1) = false := by rfl)
    (ht : eval (.Call (.Attribute o m apos) (e :: es) [] pos) X.env = (do
      let ov ← eval o X.env
      standAt apos.atName
      let (f, first) ← holding [ov] (getMethod ov m pl)
      callWith pos f first (backTo pos (starEach (e :: es) X.env)) (backToKw pos (keywordEach [] X.env))) := by rfl) :
    PE X (.Call (.Attribute o m apos) (e :: es) [] pos) (tMeth C m sp [] E to t) := by
  obtain ⟨f, fd, FK, hm, hb⟩ := c.ex
  exact pe_meth (pl := pl) ho F.cls hm FK (B.hr.mono hle) hb .nil B.ps ha hst hpl ht
theorem v_meth0 {pl : Sem Bool} (c : CalMS X.prog X.w X.K X.mg X.base C kl m ps sp) (B : Bd X E k) (F : HsF X.K C) (ho : PE X o to) (hle : kl ≤ k := by decide)
    (ht : eval (.Call (.Attribute o m apos) [] [] pos) X.env = (do
      let ov ← eval o X.env
      standAt apos.atName
      let (f, first) ← holding [ov] (getMethod ov m pl)
      callWith pos f first (backTo pos (starEach [] X.env)) (backToKw pos (keywordEach [] X.env))) := by rfl) :
    PE X (.Call (.Attribute o m apos) [] [] pos) (tMeth C m sp [] E to tNil) := by
  obtain ⟨f, fd, FK, hm, hb⟩ := c.ex
  exact pe_meth0 (pl := pl) ho F.cls hm FK (B.hr.mono hle) hb .nil B.ps ht
theorem v_make (c : CalMk X.prog X.w X.K X.mg X.base C kl x ps sp) (B : Bd X E k) (ha : PA X (e :: es) t) (hle : kl + 1 ≤ k := by decide) (hg : Gl X x := by rfl) (hdb : (x == ("__debug__" : Str)) = false := by decide) (he : starEach (e :: es) X.env = (false, eval e X.env) :: starEach es X.env := by rfl)
    (hpl : (backTo pos (starEach es X.env)).any (·.1) = false := by rfl) : PE X (.Call (.Name x p) (e :: es) [] pos) (tMake C sp [] E t) := by
  obtain ⟨f, fd, M, hm, FK, hb⟩ := c.ex
  exact pe_make M FK (B.hr.mono hle) hg hm hb .nil B.ps ha hdb he hpl
end
end FW
/-! The classes' places, from what the head says. -/
namespace FW
open PySem PySem.Spec PyProof.Rows L2 HotX LamX

theorem look_in {c : Str} {C : Addr} : ∀ {l : List (Str × Addr)}, l.lookup c = some C → (c, C) ∈ l
  | [], e => by cases e
  | (b, u) :: l, e => by
    rw [List.lookup_cons] at e
    cases q : (c == b) with
    | true =>
      rw [q] at e
      have e1 : u = C := Option.some.inj e
      have e2 : c = b := beq_iff_eq.mp q
      rw [e1, e2]; exact List.mem_cons_self
    | false =>
      rw [q] at e
      exact List.mem_cons_of_mem _ (look_in e)
section
variable {K : PySem.W.Frag} {mg : Str → Option Value} {base : Str} {names : List Str} {cs : List (Str × Addr)}
theorem exF_of (h1 : ∀ c ∈ names, ClsF K base names c) (h2 : ∀ p ∈ cs, He.ga K p.1 = p.2) (h3 : ∀ y, y ∈ names → mg y = some (.ref (He.ga K y))) (h4 : ∀ p ∈ cs, p.1 ∈ names) (h5 : ∀ p ∈ cs, ∀ q ∈ cs, decide (p.1 = q.1) = (p.2 == q.2)) : ExF K mg cs := by
  refine ⟨fun c C e => ?_, fun C hC => ?_, fun C hC y Y e => ?_⟩
  · have m := look_in e
    rw [h3 c (h4 _ m), h2 _ m]
  · obtain ⟨p, m, rfl⟩ := List.mem_map.mp hC
    have f := h1 p.1 (h4 p m)
    rw [← h2 p m]
    exact ⟨f.exc, f.val⟩
  · obtain ⟨p, m, rfl⟩ := List.mem_map.mp hC
    have f := h1 p.1 (h4 p m)
    have m2 := look_in e
    have k := f.kit y (h4 _ m2)
    rw [h2 p m, h2 _ m2, h5 p m _ m2] at k
    exact k
theorem exm_of (h1 : ∀ c ∈ names, ClsF K base names c) (h2 : ∀ p ∈ cs, He.ga K p.1 = p.2) (h3 : ∀ y, y ∈ names → mg y = some (.ref (He.ga K y))) (h4 : ∀ p ∈ cs, p.1 ∈ names) : ∀ c C, cs.lookup c = some C → mg c = some (.ref C) ∧ PySem.W.exmOne K (.ref C) (.ref (He.ga K base)) = some true := fun c C e => by
  have m := look_in e
  have k := (h1 c (h4 _ m)).exm
  rw [h2 _ m] at k
  exact ⟨by rw [h3 c (h4 _ m), h2 _ m], k⟩
theorem hsF_of {x : Str} {C : Addr} (e : He.ga K x = C) (h1 : Cls K (He.ga K x)) (h2 : NoAttr K (He.ga K x) "kept") (h3 : NoAttr K (He.ga K x) "table") (h4 : NoAttr K (He.ga K x) "known") (h5 : NoAttr K (He.ga K x) "past") : HsF K C := by
  subst e
  exact ⟨h1, h2, h3, h4, h5⟩
theorem funM_of {x m qual : Str} {C : Addr} {st : Stmt} {ps : List Str} {f : Addr} {fd : FuncData} (e : He.ga K x = C) (F : Fun K m qual st f fd) (h : Meth K (He.ga K x) m f) (b : Binds K fd ps []) : FunM K C m qual st ps := by
  subst e
  exact ⟨f, fd, F, h, b⟩
theorem funI_of {x y qual : Str} {C : Addr} {st : Stmt} {ps : List Str} {f : Addr} {fd : FuncData} (e : He.ga K x = C) (M : Mk K (He.ga K x) f) (g : mg x = some (.ref (He.ga K x))) (F : Fun K "__init__" qual st f fd) (b : Binds K fd ps []) : FunI K mg C x qual st ps := by
  subst e
  exact ⟨f, fd, M, g, F, b⟩
end
/-! ### a text, a tuple of one text, so many times: once too -/
section
variable {X : Cx} {g : Gd} {E : XK}
def rRepS1 : R2 := fun x y H Q => ∃ z, x = .str z ∧ y = .int 1 ∧ z.length ≤ 1000 ∧ Q (.str z) H
theorem op_repS1 : OpR X (binaryOp .Mult) rRepS1 := by
  intro pins s σ H x y v u Q I rx ry h
  obtain ⟨z, rfl, rfl, h4, q⟩ := h
  obtain ⟨t, rfl⟩ := rx
  obtain ⟨t', rfl⟩ := ry
  refine PySem.P.mul_str (by decide) (fun _ _ => ?_) (fun _ _ => ?_) ?_
  · intro hc
    have h5 : (2 ^ 63 - 1 : Int) < (z.length : Int) * 1 := Int.lt_mul_of_ediv_lt (by omega) hc
    omega
  · unfold Builtin.Str.tooLong
    exact decide_eq_false (by rw [sizeLine_eq]; have : z.length * (1 : Int).toNat ≤ 1000 * 1 := Nat.mul_le_mul h4 (by decide); omega)
  · rw [if_neg (by omega), show ((1 : Int) == 1 || z.length == 0) = true from rfl]
    exact ⟨.str z, H, I.tok _, ⟨_, rfl⟩, q⟩
theorem od_mulZ : OpD g X.mg E (fun x y H Q => rRepS1 x y H Q ∨ (rRepT1 X.K x y H Q ∨ rRepS x y H Q ∨ (rI CMul (fun i j => .int (i * j)) x y H Q ∨ rRep x y H Q ∨ rRepT X.K x y H Q))) dMulZ := by
  intro I H x y v u Q rl hx hy p
  unfold dMulZ at p
  split at p
  · cases hy
    cases hx
    split at p
    · rename_i c
      exact .inl ⟨_, rfl, rfl, c, p.here rl (.str _)⟩
    · exact p.elim
  · exact .inr (od_mulX I H _ _ v u Q rl hx hy p)
theorem e_mulZ {a b : Expr} {fa fb : FE} {pos : Pos} (ha : PE X a (tF g X.mg E fa)) (hb : PE X b (tF g X.mg E fb)) : PE X (.BinOp a .Mult b pos) (tF g X.mg E (fOp dMulZ fa fb)) := e_op (op_repS1.or or_mulX) od_mulZ ha hb
theorem od_mulP : OpD g X.mg E (fun x y H Q => rRepT1 X.K x y H Q ∨ rRepO X.K x y H Q) dMulP := by
  intro I H x y v u Q rl hx hy p
  unfold dMulP at p
  split at p
  · cases hy
    cases hx with
    | tup ha ua ra => exact .inl ⟨_, _, rfl, rfl, ua.sqt (rl.sub _ _ ha), p.here rl (.tup ha ua ra)⟩
  · exact .inr (od_mulO I H _ _ v u Q rl hx hy p)
theorem e_mulP {a b : Expr} {fa fb : FE} {pos : Pos} (ha : PE X a (tF g X.mg E fa)) (hb : PE X b (tF g X.mg E fb)) : PE X (.BinOp a .Mult b pos) (tF g X.mg E (fOp dMulP fa fb)) := e_op (op_repT1.or op_repO) od_mulP ha hb
end
end FW
set_option pp.maxSteps 1200
/-! Printed by wip/gen: the defs of the linked text, each by its function and its derivation. -/
namespace Lk31
open PySem PySem.Spec PyProof.Rows L2 LamX FW
abbrev N__wall : List Str := ["k"]
abbrev p__wall : List Str := ["k"]
theorem sc__wall : FnScope N__wall p__wall (defScope st__wall) := ⟨rfl, rfl, rfl, by decide +kernel, rfl, by decide +kernel, by decide +kernel⟩
abbrev N_is_whole : List Str := ["thing", "low", "high"]
abbrev p_is_whole : List Str := ["thing", "low", "high"]
theorem sc_is_whole : FnScope N_is_whole p_is_whole (defScope st_is_whole) := ⟨rfl, rfl, rfl, by decide +kernel, rfl, by decide +kernel, by decide +kernel⟩
abbrev N_is_word : List Str := ["thing", "sign"]
abbrev p_is_word : List Str := ["thing"]
theorem sc_is_word : FnScope N_is_word p_is_word (defScope st_is_word) := ⟨rfl, rfl, rfl, by decide +kernel, rfl, by decide +kernel, by decide +kernel⟩
abbrev N_are_counts : List Str := ["thing", "many", "high", "one"]
abbrev p_are_counts : List Str := ["thing", "many", "high"]
theorem sc_are_counts : FnScope N_are_counts p_are_counts (defScope st_are_counts) := ⟨rfl, rfl, rfl, by decide +kernel, rfl, by decide +kernel, by decide +kernel⟩
abbrev N_is_state : List Str := ["states", "thing"]
abbrev p_is_state : List Str := ["states", "thing"]
theorem sc_is_state : FnScope N_is_state p_is_state (defScope st_is_state) := ⟨rfl, rfl, rfl, by decide +kernel, rfl, by decide +kernel, by decide +kernel⟩
abbrev N_is_rule : List Str := ["states", "thing", "size", "one"]
abbrev p_is_rule : List Str := ["states", "thing"]
theorem sc_is_rule : FnScope N_is_rule p_is_rule (defScope st_is_rule) := ⟨rfl, rfl, rfl, by decide +kernel, rfl, by decide +kernel, by decide +kernel⟩
abbrev N_are_states : List Str := ["thing", "one", "other"]
abbrev p_are_states : List Str := ["thing"]
theorem sc_are_states : FnScope N_are_states p_are_states (defScope st_are_states) := ⟨rfl, rfl, rfl, by decide +kernel, rfl, by decide +kernel, by decide +kernel⟩
abbrev N_is_talk : List Str := ["thing", "states", "home", "crew", "rules", "rule"]
abbrev p_is_talk : List Str := ["thing"]
theorem sc_is_talk : FnScope N_is_talk p_is_talk (defScope st_is_talk) := ⟨rfl, rfl, rfl, by decide +kernel, rfl, by decide +kernel, by decide +kernel⟩
abbrev N_need_talk : List Str := ["thing"]
abbrev p_need_talk : List Str := ["thing"]
theorem sc_need_talk : FnScope N_need_talk p_need_talk (defScope st_need_talk) := ⟨rfl, rfl, rfl, by decide +kernel, rfl, by decide +kernel, by decide +kernel⟩
abbrev N_is_good_standing : List Str := ["talk", "thing"]
abbrev p_is_good_standing : List Str := ["talk", "thing"]
theorem sc_is_good_standing : FnScope N_is_good_standing p_is_good_standing (defScope st_is_good_standing) := ⟨rfl, rfl, rfl, by decide +kernel, rfl, by decide +kernel, by decide +kernel⟩
abbrev N_is_standing : List Str := ["talk", "thing"]
abbrev p_is_standing : List Str := ["talk", "thing"]
theorem sc_is_standing : FnScope N_is_standing p_is_standing (defScope st_is_standing) := ⟨rfl, rfl, rfl, by decide +kernel, rfl, by decide +kernel, by decide +kernel⟩
abbrev N_need_standing : List Str := ["talk", "thing"]
abbrev p_need_standing : List Str := ["talk", "thing"]
theorem sc_need_standing : FnScope N_need_standing p_need_standing (defScope st_need_standing) := ⟨rfl, rfl, rfl, by decide +kernel, rfl, by decide +kernel, by decide +kernel⟩
abbrev N_begun : List Str := ["talk", "size", "at"]
abbrev p_begun : List Str := ["talk", "size"]
theorem sc_begun : FnScope N_begun p_begun (defScope st_begun) := ⟨rfl, rfl, rfl, by decide +kernel, rfl, by decide +kernel, by decide +kernel⟩
abbrev N_start : List Str := ["talk", "size"]
abbrev p_start : List Str := ["talk", "size"]
theorem sc_start : FnScope N_start p_start (defScope st_start) := ⟨rfl, rfl, rfl, by decide +kernel, rfl, by decide +kernel, by decide +kernel⟩
abbrev N_size_of : List Str := ["talk", "standing"]
abbrev p_size_of : List Str := ["talk", "standing"]
theorem sc_size_of : FnScope N_size_of p_size_of (defScope st_size_of) := ⟨rfl, rfl, rfl, by decide +kernel, rfl, by decide +kernel, by decide +kernel⟩
abbrev N_is_over : List Str := ["one", "other", "left", "right"]
abbrev p_is_over : List Str := ["one", "other"]
theorem sc_is_over : FnScope N_is_over p_is_over (defScope st_is_over) := ⟨rfl, rfl, rfl, by decide +kernel, rfl, by decide +kernel, by decide +kernel⟩
abbrev N_turned_rule : List Str := ["states", "rule", "table", "goals", "one", "state", "goal", "word"]
abbrev p_turned_rule : List Str := ["states", "rule", "table"]
theorem sc_turned_rule : FnScope N_turned_rule p_turned_rule (defScope st_turned_rule) := ⟨rfl, rfl, rfl, by decide +kernel, rfl, by decide +kernel, by decide +kernel⟩
abbrev N_is_table : List Str := ["talk", "thing", "state"]
abbrev p_is_table : List Str := ["talk", "thing"]
theorem sc_is_table : FnScope N_is_table p_is_table (defScope st_is_table) := ⟨rfl, rfl, rfl, by decide +kernel, rfl, by decide +kernel, by decide +kernel⟩
abbrev N_least_of : List Str := ["standings", "found", "some", "one", "other"]
abbrev p_least_of : List Str := ["standings"]
theorem sc_least_of : FnScope N_least_of p_least_of (defScope st_least_of) := ⟨rfl, rfl, rfl, by decide +kernel, rfl, by decide +kernel, by decide +kernel⟩
abbrev N_is_over_one : List Str := ["standing", "standings", "one"]
abbrev p_is_over_one : List Str := ["standing", "standings"]
theorem sc_is_over_one : FnScope N_is_over_one p_is_over_one (defScope st_is_over_one) := ⟨rfl, rfl, rfl, by decide +kernel, rfl, by decide +kernel, by decide +kernel⟩
abbrev N_vector : List Str := ["talk", "states", "state"]
abbrev p_vector : List Str := ["talk", "states"]
theorem sc_vector : FnScope N_vector p_vector (defScope st_vector) := ⟨rfl, rfl, rfl, by decide +kernel, rfl, by decide +kernel, by decide +kernel⟩
abbrev N_needed : List Str := ["talk", "rule"]
abbrev p_needed : List Str := ["talk", "rule"]
theorem sc_needed : FnScope N_needed p_needed (defScope st_needed) := ⟨rfl, rfl, rfl, by decide +kernel, rfl, by decide +kernel, by decide +kernel⟩
abbrev N_granted : List Str := ["talk", "rule"]
abbrev p_granted : List Str := ["talk", "rule"]
theorem sc_granted : FnScope N_granted p_granted (defScope st_granted) := ⟨rfl, rfl, rfl, by decide +kernel, rfl, by decide +kernel, by decide +kernel⟩
abbrev N_can : List Str := ["talk", "standing", "rule", "have", "need"]
abbrev p_can : List Str := ["talk", "standing", "rule"]
theorem sc_can : FnScope N_can p_can (defScope st_can) := ⟨rfl, rfl, rfl, by decide +kernel, rfl, by decide +kernel, by decide +kernel⟩
abbrev N_done : List Str := ["talk", "standing", "rule", "rest", "moved", "many", "goal", "spot", "have", "need", "more"]
abbrev p_done : List Str := ["talk", "standing", "rule"]
theorem sc_done : FnScope N_done p_done (defScope st_done) := ⟨rfl, rfl, rfl, by decide +kernel, rfl, by decide +kernel, by decide +kernel⟩
abbrev N_need_number : List Str := ["talk", "number"]
abbrev p_need_number : List Str := ["talk", "number"]
theorem sc_need_number : FnScope N_need_number p_need_number (defScope st_need_number) := ⟨rfl, rfl, rfl, by decide +kernel, rfl, by decide +kernel, by decide +kernel⟩
abbrev N_behind : List Str := ["talk", "standing", "number"]
abbrev p_behind : List Str := ["talk", "standing", "number"]
theorem sc_behind : FnScope N_behind p_behind (defScope st_behind) := ⟨rfl, rfl, rfl, by decide +kernel, rfl, by decide +kernel, by decide +kernel⟩
abbrev N_steps_from : List Str := ["talk", "standing", "some", "number", "rule"]
abbrev p_steps_from : List Str := ["talk", "standing"]
theorem sc_steps_from : FnScope N_steps_from p_steps_from (defScope st_steps_from) := ⟨rfl, rfl, rfl, by decide +kernel, rfl, by decide +kernel, by decide +kernel⟩
abbrev N_is_start : List Str := ["talk", "standing", "at", "size"]
abbrev p_is_start : List Str := ["talk", "standing"]
theorem sc_is_start : FnScope N_is_start p_is_start (defScope st_is_start) := ⟨rfl, rfl, rfl, by decide +kernel, rfl, by decide +kernel, by decide +kernel⟩
abbrev N_need_rows : List Str := ["talk", "rows", "row"]
abbrev p_need_rows : List Str := ["talk", "rows"]
theorem sc_need_rows : FnScope N_need_rows p_need_rows (defScope st_need_rows) := ⟨rfl, rfl, rfl, by decide +kernel, rfl, by decide +kernel, by decide +kernel⟩
abbrev N_fault_of : List Str := ["talk", "rows", "at", "number", "goal"]
abbrev p_fault_of : List Str := ["talk", "rows"]
theorem sc_fault_of : FnScope N_fault_of p_fault_of (defScope st_fault_of) := ⟨rfl, rfl, rfl, by decide +kernel, rfl, by decide +kernel, by decide +kernel⟩
abbrev N_rules_of : List Str := ["talk", "rows", "found", "one", "other", "number", "goal"]
abbrev p_rules_of : List Str := ["talk", "rows"]
theorem sc_rules_of : FnScope N_rules_of p_rules_of (defScope st_rules_of) := ⟨rfl, rfl, rfl, by decide +kernel, rfl, by decide +kernel, by decide +kernel⟩
abbrev N_need_targets : List Str := ["talk", "targets", "one"]
abbrev p_need_targets : List Str := ["talk", "targets"]
theorem sc_need_targets : FnScope N_need_targets p_need_targets (defScope st_need_targets) := ⟨rfl, rfl, rfl, by decide +kernel, rfl, by decide +kernel, by decide +kernel⟩
abbrev N_walked : List Str := ["talk", "first", "found", "row", "further", "here", "number", "goal"]
abbrev p_walked : List Str := ["talk", "first"]
theorem sc_walked : FnScope N_walked p_walked (defScope st_walked) := ⟨rfl, rfl, rfl, by decide +kernel, rfl, by decide +kernel, by decide +kernel⟩
abbrev N_need_few : List Str := ["talk", "first"]
abbrev p_need_few : List Str := ["talk", "first"]
theorem sc_need_few : FnScope N_need_few p_need_few (defScope st_need_few) := ⟨rfl, rfl, rfl, by decide +kernel, rfl, by decide +kernel, by decide +kernel⟩
abbrev N_is_hit : List Str := ["standing", "targets", "target"]
abbrev p_is_hit : List Str := ["standing", "targets"]
theorem sc_is_hit : FnScope N_is_hit p_is_hit (defScope st_is_hit) := ⟨rfl, rfl, rfl, by decide +kernel, rfl, by decide +kernel, by decide +kernel⟩
abbrev N_run_of : List Str := ["talk", "first", "targets", "found", "row", "hits", "further", "here", "numbers", "number", "goal"]
abbrev p_run_of : List Str := ["talk", "first", "targets"]
theorem sc_run_of : FnScope N_run_of p_run_of (defScope st_run_of) := ⟨rfl, rfl, rfl, by decide +kernel, rfl, by decide +kernel, by decide +kernel⟩
abbrev N_added : List Str := ["one", "other", "left", "right"]
abbrev p_added : List Str := ["one", "other"]
theorem sc_added : FnScope N_added p_added (defScope st_added) := ⟨rfl, rfl, rfl, by decide +kernel, rfl, by decide +kernel, by decide +kernel⟩
abbrev N_lacking : List Str := ["standing", "some", "left", "right"]
abbrev p_lacking : List Str := ["standing", "some"]
theorem sc_lacking : FnScope N_lacking p_lacking (defScope st_lacking) := ⟨rfl, rfl, rfl, by decide +kernel, rfl, by decide +kernel, by decide +kernel⟩
abbrev N_parted : List Str := ["many", "spots", "size", "found", "first", "own", "at", "rest"]
abbrev p_parted : List Str := ["many", "spots", "size"]
theorem sc_parted : FnScope N_parted p_parted (defScope st_parted) := ⟨rfl, rfl, rfl, by decide +kernel, rfl, by decide +kernel, by decide +kernel⟩
abbrev N_others_before : List Str := ["talk", "rule", "rest", "found", "state", "many", "spots", "at", "goal", "one", "more"]
abbrev p_others_before : List Str := ["talk", "rule", "rest"]
theorem sc_others_before : FnScope N_others_before p_others_before (defScope st_others_before) := ⟨rfl, rfl, rfl, by decide +kernel, rfl, by decide +kernel, by decide +kernel⟩
abbrev N_before_of : List Str := ["talk", "rule", "standing", "rest", "some", "one"]
abbrev p_before_of : List Str := ["talk", "rule", "standing"]
theorem sc_before_of : FnScope N_before_of p_before_of (defScope st_before_of) := ⟨rfl, rfl, rfl, by decide +kernel, rfl, by decide +kernel, by decide +kernel⟩
abbrev N_before_all : List Str := ["talk", "standing", "found", "rule"]
abbrev p_before_all : List Str := ["talk", "standing"]
theorem sc_before_all : FnScope N_before_all p_before_all (defScope st_before_all) := ⟨rfl, rfl, rfl, by decide +kernel, rfl, by decide +kernel, by decide +kernel⟩
abbrev N_basis_of : List Str := ["talk", "targets", "found", "work", "here", "one", "other"]
abbrev p_basis_of : List Str := ["talk", "targets"]
theorem sc_basis_of : FnScope N_basis_of p_basis_of (defScope st_basis_of) := ⟨rfl, rfl, rfl, by decide +kernel, rfl, by decide +kernel, by decide +kernel⟩
abbrev N_basis : List Str := ["talk", "targets"]
abbrev p_basis : List Str := ["talk", "targets"]
theorem sc_basis : FnScope N_basis p_basis (defScope st_basis) := ⟨rfl, rfl, rfl, by decide +kernel, rfl, by decide +kernel, by decide +kernel⟩
abbrev N_size_for : List Str := ["talk", "standing", "at", "spot", "many", "have"]
abbrev p_size_for : List Str := ["talk", "standing"]
theorem sc_size_for : FnScope N_size_for p_size_for (defScope st_size_for) := ⟨rfl, rfl, rfl, by decide +kernel, rfl, by decide +kernel, by decide +kernel⟩
abbrev N_least_of_sizes : List Str := ["talk", "targets", "some", "standing", "size"]
abbrev p_least_of_sizes : List Str := ["talk", "targets"]
theorem sc_least_of_sizes : FnScope N_least_of_sizes p_least_of_sizes (defScope st_least_of_sizes) := ⟨rfl, rfl, rfl, by decide +kernel, rfl, by decide +kernel, by decide +kernel⟩
abbrev N_bad_run : List Str := ["talk", "targets", "size", "found", "number"]
abbrev p_bad_run : List Str := ["talk", "targets"]
theorem sc_bad_run : FnScope N_bad_run p_bad_run (defScope st_bad_run) := ⟨rfl, rfl, rfl, by decide +kernel, rfl, by decide +kernel, by decide +kernel⟩
abbrev N_answer : List Str := ["talk", "targets", "found", "some", "least", "standing", "size"]
abbrev p_answer : List Str := ["talk", "targets"]
theorem sc_answer : FnScope N_answer p_answer (defScope st_answer) := ⟨rfl, rfl, rfl, by decide +kernel, rfl, by decide +kernel, by decide +kernel⟩
abbrev N_House : List Str := ["self", "talk"]
abbrev p_House : List Str := ["self", "talk"]
theorem sc_House : FnScope N_House p_House (defScope st_House) := ⟨rfl, rfl, rfl, by decide +kernel, rfl, by decide +kernel, by decide +kernel⟩
abbrev N_House_remember : List Str := ["self"]
abbrev p_House_remember : List Str := ["self"]
theorem sc_House_remember : FnScope N_House_remember p_House_remember (defScope st_House_remember) := ⟨rfl, rfl, rfl, by decide +kernel, rfl, by decide +kernel, by decide +kernel⟩
abbrev N_House_need : List Str := ["self", "name"]
abbrev p_House_need : List Str := ["self", "name"]
theorem sc_House_need : FnScope N_House_need p_House_need (defScope st_House_need) := ⟨rfl, rfl, rfl, by decide +kernel, rfl, by decide +kernel, by decide +kernel⟩
abbrev N_House_promise : List Str := ["self", "name", "targets", "found"]
abbrev p_House_promise : List Str := ["self", "name", "targets"]
theorem sc_House_promise : FnScope N_House_promise p_House_promise (defScope st_House_promise) := ⟨rfl, rfl, rfl, by decide +kernel, rfl, by decide +kernel, by decide +kernel⟩
abbrev N_House_forget : List Str := ["self", "name"]
abbrev p_House_forget : List Str := ["self", "name"]
theorem sc_House_forget : FnScope N_House_forget p_House_forget (defScope st_House_forget) := ⟨rfl, rfl, rfl, by decide +kernel, rfl, by decide +kernel, by decide +kernel⟩
abbrev N_House_add : List Str := ["self", "rule", "rules"]
abbrev p_House_add : List Str := ["self", "rule"]
theorem sc_House_add : FnScope N_House_add p_House_add (defScope st_House_add) := ⟨rfl, rfl, rfl, by decide +kernel, rfl, by decide +kernel, by decide +kernel⟩
abbrev N_House_state_of : List Str := ["self", "name", "is_so", "what"]
abbrev p_House_state_of : List Str := ["self", "name"]
theorem sc_House_state_of : FnScope N_House_state_of p_House_state_of (defScope st_House_state_of) := ⟨rfl, rfl, rfl, by decide +kernel, rfl, by decide +kernel, by decide +kernel⟩
abbrev N_words_of : List Str := ["talk", "table", "state"]
abbrev p_words_of : List Str := ["talk", "table"]
theorem sc_words_of : FnScope N_words_of p_words_of (defScope st_words_of) := ⟨rfl, rfl, rfl, by decide +kernel, rfl, by decide +kernel, by decide +kernel⟩
abbrev N_counted : List Str := ["talk", "table", "standing", "words", "pairs", "word", "state", "many"]
abbrev p_counted : List Str := ["talk", "table", "standing"]
theorem sc_counted : FnScope N_counted p_counted (defScope st_counted) := ⟨rfl, rfl, rfl, by decide +kernel, rfl, by decide +kernel, by decide +kernel⟩
abbrev N_agrees : List Str := ["talk", "rule", "table", "pairs", "state", "goal", "word"]
abbrev p_agrees : List Str := ["talk", "rule", "table"]
theorem sc_agrees : FnScope N_agrees p_agrees (defScope st_agrees) := ⟨rfl, rfl, rfl, by decide +kernel, rfl, by decide +kernel, by decide +kernel⟩
abbrev N_need_table : List Str := ["talk", "table", "rule"]
abbrev p_need_table : List Str := ["talk", "table"]
theorem sc_need_table : FnScope N_need_table p_need_table (defScope st_need_table) := ⟨rfl, rfl, rfl, by decide +kernel, rfl, by decide +kernel, by decide +kernel⟩
abbrev N_made_coarser : List Str := ["talk", "table", "states", "home", "crew", "rules", "found", "rule", "one"]
abbrev p_made_coarser : List Str := ["talk", "table"]
theorem sc_made_coarser : FnScope N_made_coarser p_made_coarser (defScope st_made_coarser) := ⟨rfl, rfl, rfl, by decide +kernel, rfl, by decide +kernel, by decide +kernel⟩
abbrev N_coarser : List Str := ["talk", "table"]
abbrev p_coarser : List Str := ["talk", "table"]
theorem sc_coarser : FnScope N_coarser p_coarser (defScope st_coarser) := ⟨rfl, rfl, rfl, by decide +kernel, rfl, by decide +kernel, by decide +kernel⟩
abbrev N_is_form : List Str := ["talk", "thing", "one"]
abbrev p_is_form : List Str := ["talk", "thing"]
theorem sc_is_form : FnScope N_is_form p_is_form (defScope st_is_form) := ⟨rfl, rfl, rfl, by decide +kernel, rfl, by decide +kernel, by decide +kernel⟩
abbrev N_all_breaks : List Str := ["talk", "targets", "paper", "found", "standing", "number", "rule", "some", "target", "one"]
abbrev p_all_breaks : List Str := ["talk", "targets", "paper"]
theorem sc_all_breaks : FnScope N_all_breaks p_all_breaks (defScope st_all_breaks) := ⟨rfl, rfl, rfl, by decide +kernel, rfl, by decide +kernel, by decide +kernel⟩
abbrev N_need_paper : List Str := ["talk", "paper"]
abbrev p_need_paper : List Str := ["talk", "paper"]
theorem sc_need_paper : FnScope N_need_paper p_need_paper (defScope st_need_paper) := ⟨rfl, rfl, rfl, by decide +kernel, rfl, by decide +kernel, by decide +kernel⟩
abbrev N_breaks : List Str := ["talk", "targets", "paper"]
abbrev p_breaks : List Str := ["talk", "targets", "paper"]
theorem sc_breaks : FnScope N_breaks p_breaks (defScope st_breaks) := ⟨rfl, rfl, rfl, by decide +kernel, rfl, by decide +kernel, by decide +kernel⟩
abbrev N_number_in : List Str := ["text", "sign"]
abbrev p_number_in : List Str := ["text"]
theorem sc_number_in : FnScope N_number_in p_number_in (defScope st_number_in) := ⟨rfl, rfl, rfl, by decide +kernel, rfl, by decide +kernel, by decide +kernel⟩
abbrev N_standing_text : List Str := ["talk", "standing", "some", "state", "many"]
abbrev p_standing_text : List Str := ["talk", "standing"]
theorem sc_standing_text : FnScope N_standing_text p_standing_text (defScope st_standing_text) := ⟨rfl, rfl, rfl, by decide +kernel, rfl, by decide +kernel, by decide +kernel⟩
abbrev N_read_standing : List Str := ["talk", "text", "counts", "part", "words", "found", "state"]
abbrev p_read_standing : List Str := ["talk", "text"]
theorem sc_read_standing : FnScope N_read_standing p_read_standing (defScope st_read_standing) := ⟨rfl, rfl, rfl, by decide +kernel, rfl, by decide +kernel, by decide +kernel⟩
abbrev N_are_weights : List Str := ["talk", "thing", "one"]
abbrev p_are_weights : List Str := ["talk", "thing"]
theorem sc_are_weights : FnScope N_are_weights p_are_weights (defScope st_are_weights) := ⟨rfl, rfl, rfl, by decide +kernel, rfl, by decide +kernel, by decide +kernel⟩
abbrev N_need_weights : List Str := ["talk", "thing"]
abbrev p_need_weights : List Str := ["talk", "thing"]
theorem sc_need_weights : FnScope N_need_weights p_need_weights (defScope st_need_weights) := ⟨rfl, rfl, rfl, by decide +kernel, rfl, by decide +kernel, by decide +kernel⟩
abbrev N_summed : List Str := ["weights", "standing", "weight", "many"]
abbrev p_summed : List Str := ["weights", "standing"]
theorem sc_summed : FnScope N_summed p_summed (defScope st_summed) := ⟨rfl, rfl, rfl, by decide +kernel, rfl, by decide +kernel, by decide +kernel⟩
abbrev N_demands : List Str := ["talk", "found", "rule", "state", "goal", "more", "less", "one"]
abbrev p_demands : List Str := ["talk"]
theorem sc_demands : FnScope N_demands p_demands (defScope st_demands) := ⟨rfl, rfl, rfl, by decide +kernel, rfl, by decide +kernel, by decide +kernel⟩
abbrev N_is_kept_of : List Str := ["talk", "weights", "row"]
abbrev p_is_kept_of : List Str := ["talk", "weights"]
theorem sc_is_kept_of : FnScope N_is_kept_of p_is_kept_of (defScope st_is_kept_of) := ⟨rfl, rfl, rfl, by decide +kernel, rfl, by decide +kernel, by decide +kernel⟩
abbrev N_is_kept : List Str := ["talk", "weights"]
abbrev p_is_kept : List Str := ["talk", "weights"]
theorem sc_is_kept : FnScope N_is_kept p_is_kept (defScope st_is_kept) := ⟨rfl, rfl, rfl, by decide +kernel, rfl, by decide +kernel, by decide +kernel⟩
abbrev N_Lcell : List Str := ["_law_script", "_law_k"]
abbrev p_Lcell : List Str := ["_law_script", "_law_k"]
theorem sc_Lcell : FnScope N_Lcell p_Lcell (defScope st_Lcell) := ⟨rfl, rfl, rfl, by decide +kernel, rfl, by decide +kernel, by decide +kernel⟩
abbrev N_Ldrawn : List Str := ["_law_cell_here", "_law_k", "_law_more"]
abbrev p_Ldrawn : List Str := ["_law_cell_here", "_law_k"]
theorem sc_Ldrawn : FnScope N_Ldrawn p_Ldrawn (defScope st_Ldrawn) := ⟨rfl, rfl, rfl, by decide +kernel, rfl, by decide +kernel, by decide +kernel⟩
abbrev N_Lroll : List Str := ["_law_dice", "_law_many", "_law_told"]
abbrev p_Lroll : List Str := ["_law_dice", "_law_many"]
theorem sc_Lroll : FnScope N_Lroll p_Lroll (defScope st_Lroll) := ⟨rfl, rfl, rfl, by decide +kernel, rfl, by decide +kernel, by decide +kernel⟩
abbrev N_Lrounds : List Str := ["_law_script", "_law_high", "_law_k"]
abbrev p_Lrounds : List Str := ["_law_script", "_law_high"]
theorem sc_Lrounds : FnScope N_Lrounds p_Lrounds (defScope st_Lrounds) := ⟨rfl, rfl, rfl, by decide +kernel, rfl, by decide +kernel, by decide +kernel⟩
abbrev N_Lmet : List Str := ["_law_deed", "_law_e"]
abbrev p_Lmet : List Str := ["_law_deed"]
theorem sc_Lmet : FnScope N_Lmet p_Lmet (defScope st_Lmet) := ⟨rfl, rfl, rfl, by decide +kernel, rfl, by decide +kernel, by decide +kernel⟩
abbrev N_Lalone : List Str := ["_law_e", "_law_own", "_law_some", "_law_at"]
abbrev p_Lalone : List Str := ["_law_e", "_law_own"]
theorem sc_Lalone : FnScope N_Lalone p_Lalone (defScope st_Lalone) := ⟨rfl, rfl, rfl, by decide +kernel, rfl, by decide +kernel, by decide +kernel⟩
abbrev N_law : List Str := ["_law_script", "_law_dice", "_law_more", "_law_talk", "_law_house", "_law_double", "_law_made", "_law_at", "_law_e"]
abbrev p_law : List Str := ["_law_script"]
theorem sc_law : FnScope N_law p_law (defScope st_law) := ⟨rfl, rfl, rfl, by decide +kernel, rfl, by decide +kernel, by decide +kernel⟩
/-- texts and numbers of the module -/
structure Glob (mg : Str → Option Value) : Prop where
  SMALL : ∃ t, mg "SMALL" = some (.str "abcdefghijklmnopqrstuvwxyz" t)
  FIGURES : ∃ t, mg "FIGURES" = some (.str "0123456789" t)
  MOST : ∃ t, mg "MOST" = some (.int 9999 t)
  MOST_SIZE : ∃ t, mg "MOST_SIZE" = some (.int 12 t)
  MOST_REACHED : ∃ t, mg "MOST_REACHED" = some (.int 4000 t)
/-- classes that are raised -/
structure Excs (K : PySem.W.Frag) (mg : Str → Option Value) : Prop where
  BadTalk : ExcT K mg "BadTalk" (He.ga K "BadTalk")
  BadStanding : ExcT K mg "BadStanding" (He.ga K "BadStanding")
  BadNumber : ExcT K mg "BadNumber" (He.ga K "BadNumber")
  BadTargets : ExcT K mg "BadTargets" (He.ga K "BadTargets")
  BadPaper : ExcT K mg "BadPaper" (He.ga K "BadPaper")
  BadWeights : ExcT K mg "BadWeights" (He.ga K "BadWeights")
  BadTable : ExcT K mg "BadTable" (He.ga K "BadTable")
  BadRun : ExcT K mg "BadRun" (He.ga K "BadRun")
  BadRule : ExcT K mg "BadRule" (He.ga K "BadRule")
  BadName : ExcT K mg "BadName" (He.ga K "BadName")
  Taken : ExcT K mg "Taken" (He.ga K "Taken")
  NoName : ExcT K mg "NoName" (He.ga K "NoName")
  Nothing : ExcT K mg "Nothing" (He.ga K "Nothing")
  Full : ExcT K mg "Full" (He.ga K "Full")
  BadText : ExcT K mg "BadText" (He.ga K "BadText")
/-- the known classes, ValueError free -/
structure HX (K : PySem.W.Frag) (mg : Str → Option Value) : Prop where
  x : ExF K mg csL
  f : HsF K cH
  v : mg "ValueError" = none
def ws_law : WS := (wsSeq (wsAsg (sgT 2 (sgsCons (sgN 2) (sgsCons (sgN 3) sgsNil))) (wTup (waCons (wOp dAdd (wOf (fC (.int 1))) (wCall fnRoll mono_roll (waOf (fCons (fVar 1) (fCons (fC (.int 9)) fNil))))) (waCons (wOf (fTup (fCons (fTup (fCons (fC (.str "a")) (fCons (fC (.str "b")) fNil))) (fCons (fC (.str "a")) (fCons (fTup (fCons (fC (.int 0)) (fCons (fC (.int 0)) fNil))) (fCons (fTup (fCons (fTup (fCons (fC (.str "meet")) (fCons (fC (.str "a")) (fCons (fC (.str "a")) (fCons (fC (.str "b")) (fCons (fC (.str "b")) fNil)))))) fNil)) fNil)))))) waNil)))) (wsSeq (wsHouse 4 3 2 cH "ann" ft_House f1_House fn_need_targets fn_answer) (wsSeq (wsSet 5 (wOf (fTup (fCons (fTup (fCons (fC (.str "a")) (fCons (fC (.str "b")) (fCons (fC (.str "c")) fNil)))) (fCons (fC (.str "a")) (fCons (fTup (fCons (fC (.int 0)) (fCons (fC (.int 0)) (fCons (fC (.int 0)) fNil)))) (fCons (fTup (fCons (fTup (fCons (fC (.str "meet")) (fCons (fC (.str "a")) (fCons (fC (.str "a")) (fCons (fC (.str "b")) (fCons (fC (.str "b")) fNil)))))) (fCons (fTup (fCons (fC (.str "meet")) (fCons (fC (.str "b")) (fCons (fC (.str "b")) (fCons (fC (.str "c")) (fCons (fC (.str "c")) fNil)))))) fNil))) fNil))))))) (wsSeq (wsSetO 6 (wOf (fLst (fCons (fMet csL (fCall fn_is_standing (fCons (fTup (fCons (fOp dMulP (fTup (fCons (fC (.str "a")) fNil)) (fVar 2)) fNil)) (fCons (fC .non) fNil)))) fNil)))) (wsSeq (wsApp 6 (wOf (fMet csL (fCall fn_size_of (fCons (fVar 3) (fCons (fTup (fCons (fVar 2) fNil)) fNil)))))) (wsSeq (wsApp 6 (wOf (fMet csL (fCall fn_start (fCons (fVar 3) (fCons (fOp dAdd (fC (.int 60)) (fVar 2)) fNil)))))) (wsSeq (wsApp 6 (wOf (fMet csL (fCall fn_basis (fCons (fVar 3) (fCons (fLst (fCons (fTup (fCons (fOp dAdd (fC (.int 9)) (fVar 2)) (fCons (fC (.int 0)) fNil))) fNil)) fNil)))))) (wsSeq (wsApp 6 (wOf (fMet csL (fCall fn_breaks (fCons (fVar 3) (fCons (fLst (fCons (fTup (fCons (fC (.int 0)) (fCons (fVar 2) fNil))) fNil)) (fCons (fLst (fCons (fOp dMulZ (fTup (fCons (fC (.int 0)) fNil)) (fOp dAdd (fC (.int 2)) (fVar 2))) fNil)) fNil))))))) (wsSeq (wsApp 6 (wOf (fMet csL (fCall fn_is_kept (fCons (fVar 3) (fCons (fTup (fCons (fVar 2) fNil)) fNil)))))) (wsSeq (wsApp 6 (wOf (fMet csL (fCall fn_coarser (fCons (fVar 3) (fCons (fDisp [((fC (.str "a")), (fOp dMulZ (fC (.str "x")) (fCB dMin2 (fCons (fC (.int 8)) (fCons (fVar 2) fNil)))))]) fNil)))))) (wsSeq (wsApp 6 (wOf (fMet csL (fCall fn_rules_of (fCons (fVar 3) (fCons (fLst (fCons (fTup (fCons (fC (.int 0)) (fCons (fVar 2) fNil))) fNil)) fNil)))))) (wsSeq (wsApp 6 (wOf (fMet csL (fMeth cH fn_House_add (fVar 4) (fCons (fTup (fCons (fC (.str "alone")) (fCons (fC (.str "a")) (fCons (fOp dMulZ (fC (.str "b")) (fOp dAdd (fC (.int 1)) (fVar 2))) fNil)))) fNil))))) (wsSeq (wsApp 6 (wOf (fMet csL (fMeth cH fn_House_forget (fVar 4) (fCons (fOp dMulZ (fC (.str "A")) (fVar 2)) fNil))))) (wsSeq (wsApp 6 (wOf (fMet csL (fMeth cH fn_House_promise (fVar 4) (fCons (fC (.str "ann")) (fCons (fLst fNil) fNil)))))) (wsSeq (wsApp 6 (wOf (fMet csL (fMeth cH fn_House_state_of (fVar 4) (fCons (fOp dMulZ (fC (.str "z")) (fCB dMin2 (fCons (fC (.int 8)) (fCons (fVar 2) fNil)))) fNil))))) (wsSeq (wsApp 6 (wOf (fMet csL (fCall fn_behind (fCons (fVar 3) (fCons (fTup (fCons (fC (.int 1)) (fCons (fVar 2) fNil))) (fCons (fC (.int 0)) fNil))))))) (wsSeq (wsApp 6 (wOf (fMet csL (fCall fn_bad_run (fCons (fVar 5) (fCons (fLst (fCons (fTup (fCons (fC (.int 0)) (fCons (fC (.int 9)) (fCons (fC (.int 9)) fNil)))) fNil)) fNil)))))) (wsSeq (wsApp 6 (wOf (fMet csL (fCall fn_read_standing (fCons (fVar 3) (fCons (fOp dMulZ (fC (.str "0")) (fOp dAdd (fC (.int 1)) (fVar 2))) fNil)))))) (wsIf (fNot (fTest (fCB dAll (fCons (fLc (fItA dEnum (fCons (fVar 6) fNil)) (gT 2 (gsCons (gN 7) (gsCons (gN 8) gsNil))) fYes (fCall fn_Lalone (fCons (fVar 8) (fCons (fVar 7) fNil))) [7, 8]) fNil)))) (wsRet (wOf (fC (.bl false)))) wsSkip)))))))))))))))))))
/-- what draws nothing more -/
def ws_rest : WS := (wsSeq (wsHouse 4 3 2 cH "ann" ft_House f1_House fn_need_targets fn_answer) (wsSeq (wsSet 5 (wOf (fTup (fCons (fTup (fCons (fC (.str "a")) (fCons (fC (.str "b")) (fCons (fC (.str "c")) fNil)))) (fCons (fC (.str "a")) (fCons (fTup (fCons (fC (.int 0)) (fCons (fC (.int 0)) (fCons (fC (.int 0)) fNil)))) (fCons (fTup (fCons (fTup (fCons (fC (.str "meet")) (fCons (fC (.str "a")) (fCons (fC (.str "a")) (fCons (fC (.str "b")) (fCons (fC (.str "b")) fNil)))))) (fCons (fTup (fCons (fC (.str "meet")) (fCons (fC (.str "b")) (fCons (fC (.str "b")) (fCons (fC (.str "c")) (fCons (fC (.str "c")) fNil)))))) fNil))) fNil))))))) (wsSeq (wsSetO 6 (wOf (fLst (fCons (fMet csL (fCall fn_is_standing (fCons (fTup (fCons (fOp dMulP (fTup (fCons (fC (.str "a")) fNil)) (fVar 2)) fNil)) (fCons (fC .non) fNil)))) fNil)))) (wsSeq (wsApp 6 (wOf (fMet csL (fCall fn_size_of (fCons (fVar 3) (fCons (fTup (fCons (fVar 2) fNil)) fNil)))))) (wsSeq (wsApp 6 (wOf (fMet csL (fCall fn_start (fCons (fVar 3) (fCons (fOp dAdd (fC (.int 60)) (fVar 2)) fNil)))))) (wsSeq (wsApp 6 (wOf (fMet csL (fCall fn_basis (fCons (fVar 3) (fCons (fLst (fCons (fTup (fCons (fOp dAdd (fC (.int 9)) (fVar 2)) (fCons (fC (.int 0)) fNil))) fNil)) fNil)))))) (wsSeq (wsApp 6 (wOf (fMet csL (fCall fn_breaks (fCons (fVar 3) (fCons (fLst (fCons (fTup (fCons (fC (.int 0)) (fCons (fVar 2) fNil))) fNil)) (fCons (fLst (fCons (fOp dMulZ (fTup (fCons (fC (.int 0)) fNil)) (fOp dAdd (fC (.int 2)) (fVar 2))) fNil)) fNil))))))) (wsSeq (wsApp 6 (wOf (fMet csL (fCall fn_is_kept (fCons (fVar 3) (fCons (fTup (fCons (fVar 2) fNil)) fNil)))))) (wsSeq (wsApp 6 (wOf (fMet csL (fCall fn_coarser (fCons (fVar 3) (fCons (fDisp [((fC (.str "a")), (fOp dMulZ (fC (.str "x")) (fCB dMin2 (fCons (fC (.int 8)) (fCons (fVar 2) fNil)))))]) fNil)))))) (wsSeq (wsApp 6 (wOf (fMet csL (fCall fn_rules_of (fCons (fVar 3) (fCons (fLst (fCons (fTup (fCons (fC (.int 0)) (fCons (fVar 2) fNil))) fNil)) fNil)))))) (wsSeq (wsApp 6 (wOf (fMet csL (fMeth cH fn_House_add (fVar 4) (fCons (fTup (fCons (fC (.str "alone")) (fCons (fC (.str "a")) (fCons (fOp dMulZ (fC (.str "b")) (fOp dAdd (fC (.int 1)) (fVar 2))) fNil)))) fNil))))) (wsSeq (wsApp 6 (wOf (fMet csL (fMeth cH fn_House_forget (fVar 4) (fCons (fOp dMulZ (fC (.str "A")) (fVar 2)) fNil))))) (wsSeq (wsApp 6 (wOf (fMet csL (fMeth cH fn_House_promise (fVar 4) (fCons (fC (.str "ann")) (fCons (fLst fNil) fNil)))))) (wsSeq (wsApp 6 (wOf (fMet csL (fMeth cH fn_House_state_of (fVar 4) (fCons (fOp dMulZ (fC (.str "z")) (fCB dMin2 (fCons (fC (.int 8)) (fCons (fVar 2) fNil)))) fNil))))) (wsSeq (wsApp 6 (wOf (fMet csL (fCall fn_behind (fCons (fVar 3) (fCons (fTup (fCons (fC (.int 1)) (fCons (fVar 2) fNil))) (fCons (fC (.int 0)) fNil))))))) (wsSeq (wsApp 6 (wOf (fMet csL (fCall fn_bad_run (fCons (fVar 5) (fCons (fLst (fCons (fTup (fCons (fC (.int 0)) (fCons (fC (.int 9)) (fCons (fC (.int 9)) fNil)))) fNil)) fNil)))))) (wsSeq (wsApp 6 (wOf (fMet csL (fCall fn_read_standing (fCons (fVar 3) (fCons (fOp dMulZ (fC (.str "0")) (fOp dAdd (fC (.int 1)) (fVar 2))) fNil)))))) (wsIf (fNot (fTest (fCB dAll (fCons (fLc (fItA dEnum (fCons (fVar 6) fNil)) (gT 2 (gsCons (gN 7) (gsCons (gN 8) gsNil))) fYes (fCall fn_Lalone (fCons (fVar 8) (fCons (fVar 7) fNil))) [7, 8]) fNil)))) (wsRet (wOf (fC (.bl false)))) wsSkip))))))))))))))))))
theorem imp_rest : ImpS fs_rest ws_rest := (imp_seq imp_house (imp_seq imp_set (imp_seq imp_setO (imp_seq imp_app (imp_seq imp_app (imp_seq imp_app (imp_seq imp_app (imp_seq imp_app (imp_seq imp_app (imp_seq imp_app (imp_seq imp_app (imp_seq imp_app (imp_seq imp_app (imp_seq imp_app (imp_seq imp_app (imp_seq imp_app (imp_seq imp_app (imp_if imp_ret imp_skip))))))))))))))))))
section
variable {P : Program} {w : World} {K : PySem.W.Frag} {mg : Str → Option Value} {base : Heap}
theorem ok_is_whole (F : FunA K mg "is_whole" st_is_whole p_is_whole) (hF : Fre mg) (hS : Glob mg) (hT : Excs K mg) (hX : HX K mg) : CalF P w K mg base 1 "is_whole" p_is_whole fn_is_whole :=
  calF_of F sc_is_whole imp_ret fun f cdv A outer s H E g B tk => (s_one (s_ret (w_of (e_and (e_isi (T := .int) (by rfl) hF.isinstance (by rfl) hF.int (by decide +kernel) (e_var 0)) (e_and (e_not (e_isi (T := .bool) (by rfl) hF.isinstance (by rfl) hF.bool (by decide +kernel) (e_var 0))) (e_one (e_lele (e_var 1) (e_var 0) (e_var 2))))))))
theorem ok_is_word (F : FunA K mg "is_word" st_is_word p_is_word) (hF : Fre mg) (hS : Glob mg) (hT : Excs K mg) (hX : HX K mg) : CalF P w K mg base 1 "is_word" p_is_word fn_is_word :=
  calF_of F sc_is_word imp_ret fun f cdv A outer s H E g B tk => (s_one (s_ret (w_of (e_and (e_isi (T := .str) (by rfl) hF.isinstance (by rfl) hF.str (by decide +kernel) (e_var 0)) (e_and (e_lele e_int (e_len (by rfl) hF.len (a_cons (e_var 0) a_nil)) e_int) (e_one (e_all B.hc (by rfl) hF.all (a_cons (e_lc B.hc B.nd (i_val (e_var 0)) (blkOk_by (own := [("sign", 1)]) rfl) (by decide) (inBlk B fun _ _ _ _ _ B => (g_name 1 B.nd)) (inBlk B fun _ _ _ _ _ B => ts_nil) (inBlk B fun _ _ _ _ _ B => (e_in B.hr (e_var 1) (e_gstr (by rfl) hS.SMALL.choose_spec)))) a_nil))))))))
theorem ok_are_counts (F : FunA K mg "are_counts" st_are_counts p_are_counts) (hF : Fre mg) (hS : Glob mg) (hT : Excs K mg) (hX : HX K mg) (C_is_whole : CalF P w K mg base 1 "is_whole" p_is_whole fn_is_whole) : CalF P w K mg base 2 "are_counts" p_are_counts fn_are_counts :=
  calF_of F sc_are_counts imp_ret fun f cdv A outer s H E g B tk => (s_one (s_ret (w_of (e_and (e_isi (T := .tuple) (by rfl) hF.isinstance (by rfl) hF.tuple (by decide +kernel) (e_var 0)) (e_and (e_eq B.hr (e_len (by rfl) hF.len (a_cons (e_var 0) a_nil)) (e_var 1)) (e_one (e_all B.hc (by rfl) hF.all (a_cons (e_lc B.hc B.nd (i_val (e_var 0)) (blkOk_by (own := [("one", 3)]) rfl) (by decide) (inBlk B fun _ _ _ _ _ B => (g_name 3 B.nd)) (inBlk B fun _ _ _ _ _ B => ts_nil) (inBlk B fun _ _ _ _ _ B => (e_callF C_is_whole B (a_cons (e_var 3) (a_cons e_int (a_cons (e_var 2) a_nil)))))) a_nil))))))))
theorem ok_is_state (F : FunA K mg "is_state" st_is_state p_is_state) (hF : Fre mg) (hS : Glob mg) (hT : Excs K mg) (hX : HX K mg) : CalF P w K mg base 1 "is_state" p_is_state fn_is_state :=
  calF_of F sc_is_state imp_ret fun f cdv A outer s H E g B tk => (s_one (s_ret (w_of (e_and (e_isi (T := .str) (by rfl) hF.isinstance (by rfl) hF.str (by decide +kernel) (e_var 1)) (e_one (e_in B.hr (e_var 1) (e_var 0)))))))
theorem ok_is_rule (F : FunA K mg "is_rule" st_is_rule p_is_rule) (hF : Fre mg) (hS : Glob mg) (hT : Excs K mg) (hX : HX K mg) (C_is_state : CalF P w K mg base 1 "is_state" p_is_state fn_is_state) : CalF P w K mg base 2 "is_rule" p_is_rule fn_is_rule :=
  calF_of F sc_is_rule (imp_seq (imp_if imp_ret imp_skip) (imp_seq (imp_if (imp_seq (imp_if imp_ret imp_skip) imp_ret) imp_skip) (imp_seq imp_set imp_ret))) fun f cdv A outer s H E g B tk => (s_cons (s_if (PW.pt (w_or (t_not (t_val (e_isi (T := .tuple) (by rfl) hF.isinstance (by rfl) hF.tuple (by decide +kernel) (e_var 1)))) (w_or (t_eq B.hr (e_var 1) (e_tup a_nil len_nil)) (w_or1 (t_not (t_val (e_isi (T := .str) (by rfl) hF.isinstance (by rfl) hF.str (by decide +kernel) (e_ix (e_var 1) e_int)))))))) (s_one (s_ret (w_of e_bl))) s_nil)
    (s_cons (s_if (t_eq B.hr (e_ix (e_var 1) e_int) e_str) (s_cons (s_if (PW.pt (w_or (t_ne B.hr (e_len (by rfl) hF.len (a_cons (e_var 1) a_nil)) e_int) (w_or (t_not (t_val (e_isi (T := .tuple) (by rfl) hF.isinstance (by rfl) hF.tuple (by decide +kernel) (e_ix (e_var 1) e_int)))) (w_or1 (t_ne B.hr (e_len (by rfl) hF.len (a_cons (e_ix (e_var 1) e_int) a_nil)) (e_len (by rfl) hF.len (a_cons (e_var 0) a_nil))))))) (s_one (s_ret (w_of e_bl))) s_nil)
    (s_one (s_ret (w_of (e_all B.hc (by rfl) hF.all (a_cons (e_lc B.hc B.nd (i_val (e_add (e_cut (e_var 1) (o_part e_int) (o_part e_int)) (e_ix (e_var 1) e_int))) (blkOk_by (own := [("one", 3)]) rfl) (by decide) (inBlk B fun _ _ _ _ _ B => (g_name 3 B.nd)) (inBlk B fun _ _ _ _ _ B => ts_nil) (inBlk B fun _ _ _ _ _ B => (e_callF C_is_state B (a_cons (e_var 0) (a_cons (e_var 3) a_nil))))) a_nil)))))) s_nil)
    (s_cons (s_set 2 B.nd (w_of (e_get2 (Nat.lt_of_le_of_lt (Nat.add_le_add_left (by decide) _) B.hr.units) (e_disp (l := [((fC (.str "alone")), (fC (.int 3))), ((fC (.str "meet")), (fC (.int 5)))]) (pps_cons e_str e_int (pps_cons e_str e_int pps_nil)) rfl) (e_ix (e_var 1) e_int) e_int)))
    (s_one (s_ret (w_of (e_and (e_eq B.hr (e_len (by rfl) hF.len (a_cons (e_var 1) a_nil)) (e_var 2)) (e_one (e_all B.hc (by rfl) hF.all (a_cons (e_lc B.hc B.nd (i_val (e_cut (e_var 1) (o_part e_int) o_no)) (blkOk_by (own := [("one", 3)]) rfl) (by decide) (inBlk B fun _ _ _ _ _ B => (g_name 3 B.nd)) (inBlk B fun _ _ _ _ _ B => ts_nil) (inBlk B fun _ _ _ _ _ B => (e_callF C_is_state B (a_cons (e_var 0) (a_cons (e_var 3) a_nil))))) a_nil))))))))))
theorem ok_are_states (F : FunA K mg "are_states" st_are_states p_are_states) (hF : Fre mg) (hS : Glob mg) (hT : Excs K mg) (hX : HX K mg) (C_is_word : CalF P w K mg base 1 "is_word" p_is_word fn_is_word) : CalF P w K mg base 2 "are_states" p_are_states fn_are_states :=
  calF_of F sc_are_states (imp_seq (imp_if imp_ret imp_skip) imp_ret) fun f cdv A outer s H E g B tk => (s_cons (s_if (PW.pt (w_or (t_not (t_val (e_isi (T := .tuple) (by rfl) hF.isinstance (by rfl) hF.tuple (by decide +kernel) (e_var 0)))) (w_or (t_not (t_lele e_int (e_len (by rfl) hF.len (a_cons (e_var 0) a_nil)) e_int)) (w_or1 (t_not (t_val (e_all B.hc (by rfl) hF.all (a_cons (e_lc B.hc B.nd (i_val (e_var 0)) (blkOk_by (own := [("one", 1)]) rfl) (by decide) (inBlk B fun _ _ _ _ _ B => (g_name 1 B.nd)) (inBlk B fun _ _ _ _ _ B => ts_nil) (inBlk B fun _ _ _ _ _ B => (e_callF C_is_word B (a_cons (e_var 1) a_nil)))) a_nil)))))))) (s_one (s_ret (w_of e_bl))) s_nil)
    (s_one (s_ret (w_of (e_all B.hc (by rfl) hF.all (a_cons (e_lc B.hc B.nd (i_zip (by rfl) hF.zip (a_cons (e_var 0) (a_cons (e_cut (e_var 0) (o_part e_int) o_no) a_nil))) (blkOk_by (own := [("one", 1), ("other", 2)]) rfl) (by decide) (inBlk B fun _ _ _ _ _ B => (g_tup B.hc (gs_cons (g_name 1 B.nd) (gs_cons (g_name 2 B.nd) gs_nil)))) (inBlk B fun _ _ _ _ _ B => ts_nil) (inBlk B fun _ _ _ _ _ B => (e_lt (e_var 1) (e_var 2)))) a_nil))))))
theorem ok_is_talk (F : FunA K mg "is_talk" st_is_talk p_is_talk) (hF : Fre mg) (hS : Glob mg) (hT : Excs K mg) (hX : HX K mg) (C_are_counts : CalF P w K mg base 2 "are_counts" p_are_counts fn_are_counts) (C_is_state : CalF P w K mg base 1 "is_state" p_is_state fn_is_state) (C_is_rule : CalF P w K mg base 2 "is_rule" p_is_rule fn_is_rule) (C_are_states : CalF P w K mg base 2 "are_states" p_are_states fn_are_states) : CalF P w K mg base 3 "is_talk" p_is_talk fn_is_talk :=
  calF_of F sc_is_talk (imp_seq (imp_if imp_ret imp_skip) (imp_seq imp_asg (imp_seq (imp_if imp_ret imp_skip) (imp_seq (imp_if imp_ret imp_skip) imp_ret)))) fun f cdv A outer s H E g B tk => (s_cons (s_if (PW.pt (w_or (t_not (t_val (e_isi (T := .tuple) (by rfl) hF.isinstance (by rfl) hF.tuple (by decide +kernel) (e_var 0)))) (w_or (t_ne B.hr (e_len (by rfl) hF.len (a_cons (e_var 0) a_nil)) e_int) (w_or1 (t_not (t_val (e_callF C_are_states B (a_cons (e_ix (e_var 0) e_int) a_nil)))))))) (s_one (s_ret (w_of e_bl))) s_nil)
    (s_cons (s_asg (w_of (e_var 0)) (sg_tup B.hc (sgs_cons (sg_name 1 B.nd) (sgs_cons (sg_name 2 B.nd) (sgs_cons (sg_name 3 B.nd) (sgs_cons (sg_name 4 B.nd) sgs_nil))))))
    (s_cons (s_if (PW.pt (w_or (t_not (t_val (e_callF C_is_state B (a_cons (e_var 1) (a_cons (e_var 2) a_nil))))) (w_or1 (t_not (t_val (e_callF C_are_counts B (a_cons (e_var 3) (a_cons (e_len (by rfl) hF.len (a_cons (e_var 1) a_nil)) (a_cons e_int a_nil))))))))) (s_one (s_ret (w_of e_bl))) s_nil)
    (s_cons (s_if (PW.pt (w_or (t_not (t_val (e_isi (T := .tuple) (by rfl) hF.isinstance (by rfl) hF.tuple (by decide +kernel) (e_var 4)))) (w_or (t_gt (e_len (by rfl) hF.len (a_cons (e_var 4) a_nil)) e_int) (w_or1 (t_not (t_val (e_all B.hc (by rfl) hF.all (a_cons (e_lc B.hc B.nd (i_val (e_var 4)) (blkOk_by (own := [("rule", 5)]) rfl) (by decide) (inBlk B fun _ _ _ _ _ B => (g_name 5 B.nd)) (inBlk B fun _ _ _ _ _ B => ts_nil) (inBlk B fun _ _ _ _ _ B => (e_callF C_is_rule B (a_cons (e_var 1) (a_cons (e_var 5) a_nil))))) a_nil)))))))) (s_one (s_ret (w_of e_bl))) s_nil)
    (s_one (s_ret (w_of (e_eq B.hr (e_lenset B.hc B.hr.units (by rfl) hF.len (by rfl) hF.set (e_var 4)) (e_len (by rfl) hF.len (a_cons (e_var 4) a_nil))))))))))
theorem ok_need_talk (F : FunA K mg "need_talk" st_need_talk p_need_talk) (hF : Fre mg) (hS : Glob mg) (hT : Excs K mg) (hX : HX K mg) (C_is_talk : CalF P w K mg base 3 "is_talk" p_is_talk fn_is_talk) : CalF P w K mg base 4 "need_talk" p_need_talk fn_need_talk :=
  calF_of F sc_need_talk (imp_if imp_raise imp_skip) fun f cdv A outer s H E g B tk => (s_one (s_if (t_not (t_val (e_callF C_is_talk B (a_cons (e_var 0) a_nil)))) (s_one (s_raise hT.BadTalk tk B rfl)) s_nil))
theorem ok_is_good_standing (F : FunA K mg "is_good_standing" st_is_good_standing p_is_good_standing) (hF : Fre mg) (hS : Glob mg) (hT : Excs K mg) (hX : HX K mg) (C_are_counts : CalF P w K mg base 2 "are_counts" p_are_counts fn_are_counts) : CalF P w K mg base 3 "is_good_standing" p_is_good_standing fn_is_good_standing :=
  calF_of F sc_is_good_standing imp_ret fun f cdv A outer s H E g B tk => (s_one (s_ret (w_of (e_callF C_are_counts B (a_cons (e_var 1) (a_cons (e_len (by rfl) hF.len (a_cons (e_ix (e_var 0) e_int) a_nil)) (a_cons (e_gint (by rfl) hS.MOST.choose_spec) a_nil)))))))
theorem ok_is_standing (F : FunA K mg "is_standing" st_is_standing p_is_standing) (hF : Fre mg) (hS : Glob mg) (hT : Excs K mg) (hX : HX K mg) (C_need_talk : CalF P w K mg base 4 "need_talk" p_need_talk fn_need_talk) (C_is_good_standing : CalF P w K mg base 3 "is_good_standing" p_is_good_standing fn_is_good_standing) : CalF P w K mg base 5 "is_standing" p_is_standing fn_is_standing :=
  calF_of F sc_is_standing (imp_seq imp_expr imp_ret) fun f cdv A outer s H E g B tk => (s_cons (s_expr (w_of (e_callF C_need_talk B (a_cons (e_var 0) a_nil))))
    (s_one (s_ret (w_of (e_callF C_is_good_standing B (a_cons (e_var 0) (a_cons (e_var 1) a_nil)))))))
theorem ok_need_standing (F : FunA K mg "need_standing" st_need_standing p_need_standing) (hF : Fre mg) (hS : Glob mg) (hT : Excs K mg) (hX : HX K mg) (C_is_good_standing : CalF P w K mg base 3 "is_good_standing" p_is_good_standing fn_is_good_standing) : CalF P w K mg base 4 "need_standing" p_need_standing fn_need_standing :=
  calF_of F sc_need_standing (imp_if imp_raise imp_skip) fun f cdv A outer s H E g B tk => (s_one (s_if (t_not (t_val (e_callF C_is_good_standing B (a_cons (e_var 0) (a_cons (e_var 1) a_nil))))) (s_one (s_raise hT.BadStanding tk B rfl)) s_nil))
theorem ok_begun (F : FunA K mg "begun" st_begun p_begun) (hF : Fre mg) (hS : Glob mg) (hT : Excs K mg) (hX : HX K mg) : CalF P w K mg base 1 "begun" p_begun fn_begun :=
  calF_of F sc_begun (imp_seq imp_set imp_ret) fun f cdv A outer s H E g B tk => (s_cons (s_set 2 B.nd (w_of (e_tindex (e_ix (e_var 0) e_int) (e_ix (e_var 0) e_int))))
    (s_one (s_ret (w_of (e_add (e_add (e_cut (e_ix (e_var 0) e_int) o_no (o_part (e_var 2))) (e_tup (a_cons (e_add (e_ix (e_ix (e_var 0) e_int) (e_var 2)) (e_var 1)) a_nil) (len_cons len_nil))) (e_cut (e_ix (e_var 0) e_int) (o_part (e_add (e_var 2) e_int)) o_no))))))
theorem ok_start (F : FunA K mg "start" st_start p_start) (hF : Fre mg) (hS : Glob mg) (hT : Excs K mg) (hX : HX K mg) (C_is_whole : CalF P w K mg base 1 "is_whole" p_is_whole fn_is_whole) (C_need_talk : CalF P w K mg base 4 "need_talk" p_need_talk fn_need_talk) (C_begun : CalF P w K mg base 1 "begun" p_begun fn_begun) : CalF P w K mg base 5 "start" p_start fn_start :=
  calF_of F sc_start (imp_seq imp_expr (imp_seq (imp_if imp_raise imp_skip) imp_ret)) fun f cdv A outer s H E g B tk => (s_cons (s_expr (w_of (e_callF C_need_talk B (a_cons (e_var 0) a_nil))))
    (s_cons (s_if (t_not (t_val (e_callF C_is_whole B (a_cons (e_var 1) (a_cons e_int (a_cons e_int a_nil)))))) (s_one (s_raise hT.BadNumber tk B rfl)) s_nil)
    (s_one (s_ret (w_of (e_callF C_begun B (a_cons (e_var 0) (a_cons (e_var 1) a_nil))))))))
theorem ok_size_of (F : FunA K mg "size_of" st_size_of p_size_of) (hF : Fre mg) (hS : Glob mg) (hT : Excs K mg) (hX : HX K mg) (C_need_talk : CalF P w K mg base 4 "need_talk" p_need_talk fn_need_talk) (C_need_standing : CalF P w K mg base 4 "need_standing" p_need_standing fn_need_standing) : CalF P w K mg base 5 "size_of" p_size_of fn_size_of :=
  calF_of F sc_size_of (imp_seq imp_expr (imp_seq imp_expr imp_ret)) fun f cdv A outer s H E g B tk => (s_cons (s_expr (w_of (e_callF C_need_talk B (a_cons (e_var 0) a_nil))))
    (s_cons (s_expr (w_of (e_callF C_need_standing B (a_cons (e_var 0) (a_cons (e_var 1) a_nil)))))
    (s_one (s_ret (w_of (e_sumX B.hc (by rfl) hF.sum (a_cons (e_var 1) a_nil)))))))
theorem ok_is_over (F : FunA K mg "is_over" st_is_over p_is_over) (hF : Fre mg) (hS : Glob mg) (hT : Excs K mg) (hX : HX K mg) : CalF P w K mg base 1 "is_over" p_is_over fn_is_over :=
  calF_of F sc_is_over imp_ret fun f cdv A outer s H E g B tk => (s_one (s_ret (w_of (e_all B.hc (by rfl) hF.all (a_cons (e_lc B.hc B.nd (i_zip (by rfl) hF.zip (a_cons (e_var 0) (a_cons (e_var 1) a_nil))) (blkOk_by (own := [("left", 2), ("right", 3)]) rfl) (by decide) (inBlk B fun _ _ _ _ _ B => (g_tup B.hc (gs_cons (g_name 2 B.nd) (gs_cons (g_name 3 B.nd) gs_nil)))) (inBlk B fun _ _ _ _ _ B => ts_nil) (inBlk B fun _ _ _ _ _ B => (e_ge (e_var 2) (e_var 3)))) a_nil)))))
theorem ok_is_table (F : FunA K mg "is_table" st_is_table p_is_table) (hF : Fre mg) (hS : Glob mg) (hT : Excs K mg) (hX : HX K mg) (C_is_word : CalF P w K mg base 1 "is_word" p_is_word fn_is_word) : CalF P w K mg base 2 "is_table" p_is_table fn_is_table :=
  calF_of F sc_is_table (imp_seq (imp_if imp_ret imp_skip) imp_ret) fun f cdv A outer s H E g B tk => (s_cons (s_if (PW.pt (w_or (t_not (t_val (e_isi (T := .dict) (by rfl) hF.isinstance (by rfl) hF.dict (by decide +kernel) (e_var 1)))) (w_or (t_ne B.hr (e_lenX (by rfl) hF.len (a_cons (e_var 1) a_nil)) (e_len (by rfl) hF.len (a_cons (e_ix (e_var 0) e_int) a_nil))) (w_or1 (t_not (t_val (e_all B.hc (by rfl) hF.all (a_cons (e_lc B.hc B.nd (i_val (e_ix (e_var 0) e_int)) (blkOk_by (own := [("state", 2)]) rfl) (by decide) (inBlk B fun _ _ _ _ _ B => (g_name 2 B.nd)) (inBlk B fun _ _ _ _ _ B => ts_nil) (inBlk B fun _ _ _ _ _ B => (e_inX B.hr (e_var 2) (e_var 1)))) a_nil)))))))) (s_one (s_ret (w_of e_bl))) s_nil)
    (s_one (s_ret (w_of (e_all B.hc (by rfl) hF.all (a_cons (e_lcK 1 B.hc B.nd (blkOk_by (own := [("state", 2)]) rfl) (by decide) (inBlk B fun _ _ _ _ _ B => (g_name 2 B.nd)) (inBlk B fun _ _ _ _ _ B => ts_nil) (inBlk B fun _ _ _ _ _ B => (e_callF C_is_word B (a_cons (e_ixX B.hr (e_var 1) (e_var 2)) a_nil)))) a_nil))))))
theorem ok_least_of (F : FunA K mg "least_of" st_least_of p_least_of) (hF : Fre mg) (hS : Glob mg) (hT : Excs K mg) (hX : HX K mg) (C_is_over : CalF P w K mg base 1 "is_over" p_is_over fn_is_over) {T : List (Addr × Str)} {c2 P2 : Addr} (TB2 : TabB base mg c2 P2) (hcv : ∀ f, mg "least_of" = some (.ref f) → ∀ o1 o2 fd o3, K.lookup f = some ⟨o1, o2, .func fd, o3⟩ → fd.code = .ref c2) (hin : (P2, ((envOfC "least_of" (defScope st_least_of) 0 0 .none).qual ++ "<lambda>")) ∈ T) (huq : ∀ p ∈ T, p.1 = P2 → p.2 = ((envOfC "least_of" (defScope st_least_of) 0 0 .none).qual ++ "<lambda>")) : CalFT P w K mg base T 2 "least_of" p_least_of fn_least_of := by
  obtain ⟨f, fd, F, e, b⟩ := F.ex
  exact ⟨f, fd, fn_okT (cv := .ref c2) F (hcv f e) sc_least_of (imp_seq imp_parOV (imp_seq (imp_for (imp_if imp_app imp_skip)) imp_ret)) rfl rfl (fun f A outer s H E g hgT B tk => (fun (LT : LamT (cxOf (L2N.CX P w) P w K mg base N_least_of "least_of" (defScope st_least_of) f (.ref c2) A outer s H E) g.T) => (s_cons (s_parOV 1 2 B (oF_lst a_nil len_nil) (w_of (e_sortsetR B.hr B.hc (by rfl) hF.sorted (by rfl) hF.set (e_var 0))))
    (s_cons (s_for B (i_of (i_val (e_sortK B.hr B.hc (by rfl) hF.sorted hF.sum (e_var 2) LT ⟨rfl, rfl, rfl, by decide +kernel, rfl, by decide +kernel, by decide +kernel⟩ (hfree := fun y hy e => absurd e ((by decide : ∀ y ∈ [(("row" : Str), NameKind.local), (("sum" : Str), NameKind.globalImplicit)], y.2 ≠ NameKind.free) y hy))))) (sg_name 3 B.nd) (s_one (s_if (t_not (t_val (e_any B.hc (by rfl) hF.any (a_cons (e_lc B.hc B.nd (i_val (e_var 1)) (blkOk_by (own := [("other", 4)]) rfl) (by decide) (inBlk B fun _ _ _ _ _ B => (g_name 4 B.nd)) (inBlk B fun _ _ _ _ _ B => ts_nil) (inBlk B fun _ _ _ _ _ B => (e_callF C_is_over B (a_cons (e_var 3) (a_cons (e_var 4) a_nil))))) a_nil)))) (s_one (s_app 1 (w_of (e_var 3)))) s_nil)))
    (s_one (s_ret (w_of (e_sortR B.hr (by rfl) hF.sorted (e_var 1)))))))) (by rw [hgT]; exact ⟨c2, P2, TB2, rfl, hin, huq⟩)), e, F.kp, b⟩
theorem okO_least_of (F : FunA K mg "least_of" st_least_of p_least_of) (hF : Fre mg) (hS : Glob mg) (hT : Excs K mg) (hX : HX K mg) (C_is_over : CalF P w K mg base 1 "is_over" p_is_over fn_is_over) {T : List (Addr × Str)} {c2 P2 : Addr} (TB2 : TabB base mg c2 P2) (hcv : ∀ f, mg "least_of" = some (.ref f) → ∀ o1 o2 fd o3, K.lookup f = some ⟨o1, o2, .func fd, o3⟩ → fd.code = .ref c2) (hin : (P2, ((envOfC "least_of" (defScope st_least_of) 0 0 .none).qual ++ "<lambda>")) ∈ T) (huq : ∀ p ∈ T, p.1 = P2 → p.2 = ((envOfC "least_of" (defScope st_least_of) 0 0 .none).qual ++ "<lambda>")) : CalO P w K mg base T 2 "least_of" p_least_of fnO_least_of := by
  obtain ⟨f, fd, F, e, b⟩ := F.ex
  exact ⟨f, fd, fn_okO (cv := .ref c2) F (hcv f e) sc_least_of (imp_seq imp_parOV (imp_seq (imp_for (imp_if imp_app imp_skip)) imp_skip)) rfl rfl (fun f A outer s H E g hgT B tk => (fun (LT : LamT (cxOf (L2N.CX P w) P w K mg base N_least_of "least_of" (defScope st_least_of) f (.ref c2) A outer s H E) g.T) => (sO_cons (s_parOV 1 2 B (oF_lst a_nil len_nil) (w_of (e_sortsetR B.hr B.hc (by rfl) hF.sorted (by rfl) hF.set (e_var 0))))
    (sO_cons (s_for B (i_of (i_val (e_sortK B.hr B.hc (by rfl) hF.sorted hF.sum (e_var 2) LT ⟨rfl, rfl, rfl, by decide +kernel, rfl, by decide +kernel, by decide +kernel⟩ (hfree := fun y hy e => absurd e ((by decide : ∀ y ∈ [(("row" : Str), NameKind.local), (("sum" : Str), NameKind.globalImplicit)], y.2 ≠ NameKind.free) y hy))))) (sg_name 3 B.nd) (s_one (s_if (t_not (t_val (e_any B.hc (by rfl) hF.any (a_cons (e_lc B.hc B.nd (i_val (e_var 1)) (blkOk_by (own := [("other", 4)]) rfl) (by decide) (inBlk B fun _ _ _ _ _ B => (g_name 4 B.nd)) (inBlk B fun _ _ _ _ _ B => ts_nil) (inBlk B fun _ _ _ _ _ B => (e_callF C_is_over B (a_cons (e_var 3) (a_cons (e_var 4) a_nil))))) a_nil)))) (s_one (s_app 1 (w_of (e_var 3)))) s_nil)))
    (sO_ret (o_sortR B.hr (by rfl) hF.sorted (e_var 1)))))) (by rw [hgT]; exact ⟨c2, P2, TB2, rfl, hin, huq⟩)), e, F.kp, b⟩
theorem ok_is_over_one (F : FunA K mg "is_over_one" st_is_over_one p_is_over_one) (hF : Fre mg) (hS : Glob mg) (hT : Excs K mg) (hX : HX K mg) (C_is_over : CalF P w K mg base 1 "is_over" p_is_over fn_is_over) : CalF P w K mg base 2 "is_over_one" p_is_over_one fn_is_over_one :=
  calF_of F sc_is_over_one imp_ret fun f cdv A outer s H E g B tk => (s_one (s_ret (w_of (e_any B.hc (by rfl) hF.any (a_cons (e_lc B.hc B.nd (i_val (e_var 1)) (blkOk_by (own := [("one", 2)]) rfl) (by decide) (inBlk B fun _ _ _ _ _ B => (g_name 2 B.nd)) (inBlk B fun _ _ _ _ _ B => ts_nil) (inBlk B fun _ _ _ _ _ B => (e_callF C_is_over B (a_cons (e_var 0) (a_cons (e_var 2) a_nil))))) a_nil)))))
theorem ok_vector (F : FunA K mg "vector" st_vector p_vector) (hF : Fre mg) (hS : Glob mg) (hT : Excs K mg) (hX : HX K mg) : CalF P w K mg base 1 "vector" p_vector fn_vector :=
  calF_of F sc_vector imp_ret fun f cdv A outer s H E g B tk => (s_one (s_ret (w_of (e_tuple (by rfl) hF.tuple (a_cons (e_lc B.hc B.nd (i_val (e_ix (e_var 0) e_int)) (blkOk_by (own := [("state", 2)]) rfl) (by decide) (inBlk B fun _ _ _ _ _ B => (g_name 2 B.nd)) (inBlk B fun _ _ _ _ _ B => ts_nil) (inBlk B fun _ _ _ _ _ B => (e_count (e_var 1) (e_var 2)))) a_nil)))))
theorem ok_needed (F : FunA K mg "needed" st_needed p_needed) (hF : Fre mg) (hS : Glob mg) (hT : Excs K mg) (hX : HX K mg) (C_vector : CalF P w K mg base 1 "vector" p_vector fn_vector) : CalF P w K mg base 2 "needed" p_needed fn_needed :=
  calF_of F sc_needed imp_ret fun f cdv A outer s H E g B tk => (s_one (s_ret (w_of (e_callF C_vector B (a_cons (e_var 0) (a_cons (e_if (t_eq B.hr (e_ix (e_var 1) e_int) e_str) (e_list (by rfl) hF.list (a_cons (e_cut (e_var 1) (o_part e_int) (o_part e_int)) a_nil)) (e_lst (a_cons (e_ix (e_var 1) e_int) a_nil) (len_cons len_nil))) a_nil))))))
theorem ok_granted (F : FunA K mg "granted" st_granted p_granted) (hF : Fre mg) (hS : Glob mg) (hT : Excs K mg) (hX : HX K mg) (C_vector : CalF P w K mg base 1 "vector" p_vector fn_vector) : CalF P w K mg base 2 "granted" p_granted fn_granted :=
  calF_of F sc_granted imp_ret fun f cdv A outer s H E g B tk => (s_one (s_ret (w_of (e_callF C_vector B (a_cons (e_var 0) (a_cons (e_if (t_eq B.hr (e_ix (e_var 1) e_int) e_str) (e_list (by rfl) hF.list (a_cons (e_cut (e_var 1) (o_part e_int) (o_part e_int)) a_nil)) (e_lst (a_cons (e_ix (e_var 1) e_int) a_nil) (len_cons len_nil))) a_nil))))))
theorem ok_can (F : FunA K mg "can" st_can p_can) (hF : Fre mg) (hS : Glob mg) (hT : Excs K mg) (hX : HX K mg) (C_needed : CalF P w K mg base 2 "needed" p_needed fn_needed) : CalF P w K mg base 3 "can" p_can fn_can :=
  calF_of F sc_can imp_ret fun f cdv A outer s H E g B tk => (s_one (s_ret (w_of (e_all B.hc (by rfl) hF.all (a_cons (e_lc B.hc B.nd (i_zip (by rfl) hF.zip (a_cons (e_var 1) (a_cons (e_callF C_needed B (a_cons (e_var 0) (a_cons (e_var 2) a_nil))) a_nil))) (blkOk_by (own := [("have", 3), ("need", 4)]) rfl) (by decide) (inBlk B fun _ _ _ _ _ B => (g_tup B.hc (gs_cons (g_name 3 B.nd) (gs_cons (g_name 4 B.nd) gs_nil)))) (inBlk B fun _ _ _ _ _ B => ts_nil) (inBlk B fun _ _ _ _ _ B => (e_ge (e_var 3) (e_var 4)))) a_nil)))))
theorem ok_need_number (F : FunA K mg "need_number" st_need_number p_need_number) (hF : Fre mg) (hS : Glob mg) (hT : Excs K mg) (hX : HX K mg) (C_is_whole : CalF P w K mg base 1 "is_whole" p_is_whole fn_is_whole) : CalF P w K mg base 2 "need_number" p_need_number fn_need_number :=
  calF_of F sc_need_number (imp_if imp_raise imp_skip) fun f cdv A outer s H E g B tk => (s_one (s_if (t_not (t_val (e_callF C_is_whole B (a_cons (e_var 1) (a_cons e_int (a_cons (e_sub (e_len (by rfl) hF.len (a_cons (e_ix (e_var 0) e_int) a_nil)) e_int) a_nil)))))) (s_one (s_raise hT.BadNumber tk B rfl)) s_nil))
theorem ok_behind (F : FunA K mg "behind" st_behind p_behind) (hF : Fre mg) (hS : Glob mg) (hT : Excs K mg) (hX : HX K mg) (C_need_talk : CalF P w K mg base 4 "need_talk" p_need_talk fn_need_talk) (C_need_standing : CalF P w K mg base 4 "need_standing" p_need_standing fn_need_standing) (C_can : CalF P w K mg base 3 "can" p_can fn_can) (C_need_number : CalF P w K mg base 2 "need_number" p_need_number fn_need_number) : CalF P w K mg base 5 "behind" p_behind fn_behind :=
  calF_of F sc_behind (imp_seq imp_expr (imp_seq imp_expr (imp_seq imp_expr (imp_seq (imp_if imp_raise imp_skip) imp_never)))) fun f cdv A outer s H E g B tk => (s_cons (s_expr (w_of (e_callF C_need_talk B (a_cons (e_var 0) a_nil))))
    (s_cons (s_expr (w_of (e_callF C_need_standing B (a_cons (e_var 0) (a_cons (e_var 1) a_nil)))))
    (s_cons (s_expr (w_of (e_callF C_need_number B (a_cons (e_var 0) (a_cons (e_var 2) a_nil)))))
    (s_cons (s_if (t_not (t_val (e_callF C_can B (a_cons (e_var 0) (a_cons (e_var 1) (a_cons (e_ix (e_ix (e_var 0) e_int) (e_var 2)) a_nil)))))) (s_one (s_raise hT.Nothing tk B rfl)) s_nil)
    (s_one s_never)))))
theorem ok_steps_from (F : FunA K mg "steps_from" st_steps_from p_steps_from) (hF : Fre mg) (hS : Glob mg) (hT : Excs K mg) (hX : HX K mg) (C_can : CalF P w K mg base 3 "can" p_can fn_can) : CalF P w K mg base 4 "steps_from" p_steps_from fn_steps_from :=
  calF_of F sc_steps_from (imp_seq imp_setLc imp_never) fun f cdv A outer s H E g B tk => (s_cons (s_setLc 2 B (sw_true rfl rfl rfl rfl) (i_of (i_enum (by rfl) hF.enumerate (a_cons (e_ix (e_var 0) e_int) a_nil))) (blkOk_by (own := [("number", 3), ("rule", 4)]) rfl) (by decide) (inBlk B fun _ _ _ _ _ B => (g_tup B.hc (gs_cons (g_name 3 B.nd) (gs_cons (g_name 4 B.nd) gs_nil)))) (inBlk B fun _ _ _ _ _ B => (ts_one (t_val (e_callF C_can B (a_cons (e_var 0) (a_cons (e_var 1) (a_cons (e_var 4) a_nil))))))) (inBlk B fun _ _ _ _ _ B => (w_of (e_tup (a_cons (e_var 3) (a_cons (e_var 4) a_nil)) (len_cons (len_cons len_nil))))))
    (s_one s_never))
theorem ok_is_start (F : FunA K mg "is_start" st_is_start p_is_start) (hF : Fre mg) (hS : Glob mg) (hT : Excs K mg) (hX : HX K mg) (C_begun : CalF P w K mg base 1 "begun" p_begun fn_begun) : CalF P w K mg base 2 "is_start" p_is_start fn_is_start :=
  calF_of F sc_is_start (imp_seq imp_set (imp_seq imp_set imp_ret)) fun f cdv A outer s H E g B tk => (s_cons (s_set 2 B.nd (w_of (e_tindex (e_ix (e_var 0) e_int) (e_ix (e_var 0) e_int))))
    (s_cons (s_set 3 B.nd (w_of (e_sub (e_ix (e_var 1) (e_var 2)) (e_ix (e_ix (e_var 0) e_int) (e_var 2)))))
    (s_one (s_ret (w_of (e_and (e_ge (e_var 3) e_int) (e_one (e_eq B.hr (e_callF C_begun B (a_cons (e_var 0) (a_cons (e_var 3) a_nil))) (e_var 1)))))))))
theorem ok_need_rows (F : FunA K mg "need_rows" st_need_rows p_need_rows) (hF : Fre mg) (hS : Glob mg) (hT : Excs K mg) (hX : HX K mg) (C_is_good_standing : CalF P w K mg base 3 "is_good_standing" p_is_good_standing fn_is_good_standing) : CalF P w K mg base 4 "need_rows" p_need_rows fn_need_rows :=
  calF_of F sc_need_rows (imp_if imp_raise imp_skip) fun f cdv A outer s H E g B tk => (s_one (s_if (PW.pt (w_or (t_not (t_val (e_isi (T := .list) (by rfl) hF.isinstance (by rfl) hF.list (by decide +kernel) (e_var 1)))) (w_or (t_eq B.hr (e_var 1) (e_lst a_nil len_nil)) (w_or1 (t_not (t_val (e_all B.hc (by rfl) hF.all (a_cons (e_lc B.hc B.nd (i_val (e_var 1)) (blkOk_by (own := [("row", 2)]) rfl) (by decide) (inBlk B fun _ _ _ _ _ B => (g_name 2 B.nd)) (inBlk B fun _ _ _ _ _ B => ts_nil) (inBlk B fun _ _ _ _ _ B => (e_callF C_is_good_standing B (a_cons (e_var 0) (a_cons (e_var 2) a_nil))))) a_nil)))))))) (s_one (s_raise hT.BadRun tk B rfl)) s_nil))
theorem ok_fault_of (F : FunA K mg "fault_of" st_fault_of p_fault_of) (hF : Fre mg) (hS : Glob mg) (hT : Excs K mg) (hX : HX K mg) (C_steps_from : CalF P w K mg base 4 "steps_from" p_steps_from fn_steps_from) (C_is_start : CalF P w K mg base 2 "is_start" p_is_start fn_is_start) : CalF P w K mg base 5 "fault_of" p_fault_of fn_fault_of :=
  calF_of F sc_fault_of (imp_seq (imp_if imp_ret imp_skip) (imp_seq (imp_for (imp_if imp_ret imp_skip)) imp_ret)) fun f cdv A outer s H E g B tk => (s_cons (s_if (t_not (t_val (e_callF C_is_start B (a_cons (e_var 0) (a_cons (e_ix (e_var 1) e_int) a_nil))))) (s_one (s_ret (w_of e_int))) s_nil)
    (s_cons (s_for B (i_of (i_range2 (by rfl) hF.range (a_cons e_int (a_cons (e_len (by rfl) hF.len (a_cons (e_var 1) a_nil)) a_nil)))) (sg_name 2 B.nd) (s_one (s_if (t_notin B.hr (e_ix (e_var 1) (e_var 2)) (e_lc B.hc B.nd (i_val (e_callF C_steps_from B (a_cons (e_var 0) (a_cons (e_ix (e_var 1) (e_sub (e_var 2) e_int)) a_nil)))) (blkOk_by (own := [("number", 3), ("goal", 4)]) rfl) (by decide) (inBlk B fun _ _ _ _ _ B => (g_tup B.hc (gs_cons (g_name 3 B.nd) (gs_cons (g_name 4 B.nd) gs_nil)))) (inBlk B fun _ _ _ _ _ B => ts_nil) (inBlk B fun _ _ _ _ _ B => (e_var 4)))) (s_one (s_ret (w_of (e_var 2)))) s_nil)))
    (s_one (s_ret (w_of e_non)))))
theorem ok_rules_of (F : FunA K mg "rules_of" st_rules_of p_rules_of) (hF : Fre mg) (hS : Glob mg) (hT : Excs K mg) (hX : HX K mg) (C_need_talk : CalF P w K mg base 4 "need_talk" p_need_talk fn_need_talk) (C_steps_from : CalF P w K mg base 4 "steps_from" p_steps_from fn_steps_from) (C_need_rows : CalF P w K mg base 4 "need_rows" p_need_rows fn_need_rows) (C_fault_of : CalF P w K mg base 5 "fault_of" p_fault_of fn_fault_of) : CalF P w K mg base 6 "rules_of" p_rules_of fn_rules_of :=
  calF_of F sc_rules_of (imp_seq imp_expr (imp_seq imp_expr (imp_seq (imp_if imp_raise imp_skip) (imp_seq imp_setO (imp_seq (imp_for imp_app) imp_ret))))) fun f cdv A outer s H E g B tk => (s_cons (s_expr (w_of (e_callF C_need_talk B (a_cons (e_var 0) a_nil))))
    (s_cons (s_expr (w_of (e_callF C_need_rows B (a_cons (e_var 0) (a_cons (e_var 1) a_nil)))))
    (s_cons (s_if (t_isnot (e_callF C_fault_of B (a_cons (e_var 0) (a_cons (e_var 1) a_nil))) e_non) (s_one (s_raise hT.BadRun tk B rfl)) s_nil)
    (s_cons (s_setO 2 B.nd (oF_lst a_nil len_nil))
    (s_cons (s_for B (i_of (i_zip (by rfl) hF.zip (a_cons (e_var 1) (a_cons (e_cut (e_var 1) (o_part e_int) o_no) a_nil)))) (sg_tup B.hc (sgs_cons (sg_name 3 B.nd) (sgs_cons (sg_name 4 B.nd) sgs_nil))) (s_one (s_app 2 (w_of (e_ix (e_lc B.hc B.nd (i_val (e_callF C_steps_from B (a_cons (e_var 0) (a_cons (e_var 3) a_nil)))) (blkOk_by (own := [("number", 5), ("goal", 6)]) rfl) (by decide) (inBlk B fun _ _ _ _ _ B => (g_tup B.hc (gs_cons (g_name 5 B.nd) (gs_cons (g_name 6 B.nd) gs_nil)))) (inBlk B fun _ _ _ _ _ B => (ts_one (t_eq B.hr (e_var 6) (e_var 4)))) (inBlk B fun _ _ _ _ _ B => (e_var 5))) e_int)))))
    (s_one (s_ret (w_of (e_var 2)))))))))
theorem ok_need_targets (F : FunA K mg "need_targets" st_need_targets p_need_targets) (hF : Fre mg) (hS : Glob mg) (hT : Excs K mg) (hX : HX K mg) (C_are_counts : CalF P w K mg base 2 "are_counts" p_are_counts fn_are_counts) : CalF P w K mg base 3 "need_targets" p_need_targets fn_need_targets :=
  calF_of F sc_need_targets (imp_seq (imp_if imp_raise imp_skip) (imp_if imp_raise imp_skip)) fun f cdv A outer s H E g B tk => (s_cons (s_if (PW.pt (w_or (t_not (t_val (e_isi (T := .list) (by rfl) hF.isinstance (by rfl) hF.list (by decide +kernel) (e_var 1)))) (w_or1 (t_not (t_lele e_int (e_len (by rfl) hF.len (a_cons (e_var 1) a_nil)) e_int))))) (s_one (s_raise hT.BadTargets tk B rfl)) s_nil)
    (s_one (s_if (t_not (t_val (e_all B.hc (by rfl) hF.all (a_cons (e_lc B.hc B.nd (i_val (e_var 1)) (blkOk_by (own := [("one", 2)]) rfl) (by decide) (inBlk B fun _ _ _ _ _ B => (g_name 2 B.nd)) (inBlk B fun _ _ _ _ _ B => ts_nil) (inBlk B fun _ _ _ _ _ B => (e_callF C_are_counts B (a_cons (e_var 2) (a_cons (e_len (by rfl) hF.len (a_cons (e_ix (e_var 0) e_int) a_nil)) (a_cons e_int a_nil)))))) a_nil)))) (s_one (s_raise hT.BadTargets tk B rfl)) s_nil)))
theorem ok_added (F : FunA K mg "added" st_added p_added) (hF : Fre mg) (hS : Glob mg) (hT : Excs K mg) (hX : HX K mg) : CalF P w K mg base 1 "added" p_added fn_added :=
  calF_of F sc_added imp_ret fun f cdv A outer s H E g B tk => (s_one (s_ret (w_of (e_tuple (by rfl) hF.tuple (a_cons (e_lc B.hc B.nd (i_zip (by rfl) hF.zip (a_cons (e_var 0) (a_cons (e_var 1) a_nil))) (blkOk_by (own := [("left", 2), ("right", 3)]) rfl) (by decide) (inBlk B fun _ _ _ _ _ B => (g_tup B.hc (gs_cons (g_name 2 B.nd) (gs_cons (g_name 3 B.nd) gs_nil)))) (inBlk B fun _ _ _ _ _ B => ts_nil) (inBlk B fun _ _ _ _ _ B => (e_add (e_var 2) (e_var 3)))) a_nil)))))
theorem ok_lacking (F : FunA K mg "lacking" st_lacking p_lacking) (hF : Fre mg) (hS : Glob mg) (hT : Excs K mg) (hX : HX K mg) : CalF P w K mg base 1 "lacking" p_lacking fn_lacking :=
  calF_of F sc_lacking imp_ret fun f cdv A outer s H E g B tk => (s_one (s_ret (w_of (e_tuple (by rfl) hF.tuple (a_cons (e_lc B.hc B.nd (i_zip (by rfl) hF.zip (a_cons (e_var 0) (a_cons (e_var 1) a_nil))) (blkOk_by (own := [("left", 2), ("right", 3)]) rfl) (by decide) (inBlk B fun _ _ _ _ _ B => (g_tup B.hc (gs_cons (g_name 2 B.nd) (gs_cons (g_name 3 B.nd) gs_nil)))) (inBlk B fun _ _ _ _ _ B => ts_nil) (inBlk B fun _ _ _ _ _ B => (e_max2 B.hc (by rfl) hF.max (a_cons e_int (a_cons (e_sub (e_var 2) (e_var 3)) a_nil))))) a_nil)))))
theorem ok_parted_0 (F : FunA K mg "parted" st_parted p_parted) : CalF P w K mg base 2 "parted" p_parted (recF 3 8 fs_parted 0) := calF_never F sc_parted
theorem ok_parted_1 (F : FunA K mg "parted" st_parted p_parted) (hF : Fre mg) (hS : Glob mg) (hT : Excs K mg) (hX : HX K mg) (C_added : CalF P w K mg base 1 "added" p_added fn_added) (C_rec : CalF P w K mg base 2 "parted" p_parted (recF 3 8 fs_parted 0)) : CalF P w K mg base 3 "parted" p_parted (recF 3 8 fs_parted 1) :=
  calF_of (k := 2) (fs := fs_parted (recF 3 8 fs_parted 0)) F sc_parted (imp_seq (imp_if imp_ret imp_skip) (imp_seq imp_set (imp_seq (imp_for (imp_seq imp_set imp_set)) imp_ret))) fun f cdv A outer s H E g B tk => (s_cons (s_if (t_eq B.hr (e_len (by rfl) hF.len (a_cons (e_var 1) a_nil)) e_int) (s_one (s_ret (w_of (e_lst (a_cons (e_tuple (by rfl) hF.tuple (a_cons (e_lc B.hc B.nd (i_range1 (by rfl) hF.range (a_cons (e_var 2) a_nil)) (blkOk_by (own := [("at", 6)]) rfl) (by decide) (inBlk B fun _ _ _ _ _ B => (g_name 6 B.nd)) (inBlk B fun _ _ _ _ _ B => ts_nil) (inBlk B fun _ _ _ _ _ B => (e_if (t_eq B.hr (e_var 6) (e_ix (e_var 1) e_int)) (e_var 0) e_int))) a_nil)) a_nil) (len_cons len_nil))))) s_nil)
    (s_cons (s_set 3 B.nd (w_of (e_lst a_nil len_nil)))
    (s_cons (s_for B (i_of (i_range1 (by rfl) hF.range (a_cons (e_add (e_var 0) e_int) a_nil))) (sg_name 4 B.nd) (s_cons (s_set 5 B.nd (w_of (e_tuple (by rfl) hF.tuple (a_cons (e_lc B.hc B.nd (i_range1 (by rfl) hF.range (a_cons (e_var 2) a_nil)) (blkOk_by (own := [("at", 6)]) rfl) (by decide) (inBlk B fun _ _ _ _ _ B => (g_name 6 B.nd)) (inBlk B fun _ _ _ _ _ B => ts_nil) (inBlk B fun _ _ _ _ _ B => (e_if (t_eq B.hr (e_var 6) (e_ix (e_var 1) e_int)) (e_var 4) e_int))) a_nil))))
    (s_one (s_set 3 B.nd (w_of (e_add (e_var 3) (e_lc B.hc B.nd (i_val (e_callF C_rec B (a_cons (e_sub (e_var 0) (e_var 4)) (a_cons (e_cut (e_var 1) (o_part e_int) o_no) (a_cons (e_var 2) a_nil))))) (blkOk_by (own := [("rest", 7)]) rfl) (by decide) (inBlk B fun _ _ _ _ _ B => (g_name 7 B.nd)) (inBlk B fun _ _ _ _ _ B => ts_nil) (inBlk B fun _ _ _ _ _ B => (e_callF C_added B (a_cons (e_var 5) (a_cons (e_var 7) a_nil)))))))))))
    (s_one (s_ret (w_of (e_var 3)))))))
theorem ok_parted_2 (F : FunA K mg "parted" st_parted p_parted) (hF : Fre mg) (hS : Glob mg) (hT : Excs K mg) (hX : HX K mg) (C_added : CalF P w K mg base 1 "added" p_added fn_added) (C_rec : CalF P w K mg base 3 "parted" p_parted (recF 3 8 fs_parted 1)) : CalF P w K mg base 4 "parted" p_parted (recF 3 8 fs_parted 2) :=
  calF_of (k := 3) (fs := fs_parted (recF 3 8 fs_parted 1)) F sc_parted (imp_seq (imp_if imp_ret imp_skip) (imp_seq imp_set (imp_seq (imp_for (imp_seq imp_set imp_set)) imp_ret))) fun f cdv A outer s H E g B tk => (s_cons (s_if (t_eq B.hr (e_len (by rfl) hF.len (a_cons (e_var 1) a_nil)) e_int) (s_one (s_ret (w_of (e_lst (a_cons (e_tuple (by rfl) hF.tuple (a_cons (e_lc B.hc B.nd (i_range1 (by rfl) hF.range (a_cons (e_var 2) a_nil)) (blkOk_by (own := [("at", 6)]) rfl) (by decide) (inBlk B fun _ _ _ _ _ B => (g_name 6 B.nd)) (inBlk B fun _ _ _ _ _ B => ts_nil) (inBlk B fun _ _ _ _ _ B => (e_if (t_eq B.hr (e_var 6) (e_ix (e_var 1) e_int)) (e_var 0) e_int))) a_nil)) a_nil) (len_cons len_nil))))) s_nil)
    (s_cons (s_set 3 B.nd (w_of (e_lst a_nil len_nil)))
    (s_cons (s_for B (i_of (i_range1 (by rfl) hF.range (a_cons (e_add (e_var 0) e_int) a_nil))) (sg_name 4 B.nd) (s_cons (s_set 5 B.nd (w_of (e_tuple (by rfl) hF.tuple (a_cons (e_lc B.hc B.nd (i_range1 (by rfl) hF.range (a_cons (e_var 2) a_nil)) (blkOk_by (own := [("at", 6)]) rfl) (by decide) (inBlk B fun _ _ _ _ _ B => (g_name 6 B.nd)) (inBlk B fun _ _ _ _ _ B => ts_nil) (inBlk B fun _ _ _ _ _ B => (e_if (t_eq B.hr (e_var 6) (e_ix (e_var 1) e_int)) (e_var 4) e_int))) a_nil))))
    (s_one (s_set 3 B.nd (w_of (e_add (e_var 3) (e_lc B.hc B.nd (i_val (e_callF C_rec B (a_cons (e_sub (e_var 0) (e_var 4)) (a_cons (e_cut (e_var 1) (o_part e_int) o_no) (a_cons (e_var 2) a_nil))))) (blkOk_by (own := [("rest", 7)]) rfl) (by decide) (inBlk B fun _ _ _ _ _ B => (g_name 7 B.nd)) (inBlk B fun _ _ _ _ _ B => ts_nil) (inBlk B fun _ _ _ _ _ B => (e_callF C_added B (a_cons (e_var 5) (a_cons (e_var 7) a_nil)))))))))))
    (s_one (s_ret (w_of (e_var 3)))))))
theorem ok_parted_3 (F : FunA K mg "parted" st_parted p_parted) (hF : Fre mg) (hS : Glob mg) (hT : Excs K mg) (hX : HX K mg) (C_added : CalF P w K mg base 1 "added" p_added fn_added) (C_rec : CalF P w K mg base 4 "parted" p_parted (recF 3 8 fs_parted 2)) : CalF P w K mg base 5 "parted" p_parted (recF 3 8 fs_parted 3) :=
  calF_of (k := 4) (fs := fs_parted (recF 3 8 fs_parted 2)) F sc_parted (imp_seq (imp_if imp_ret imp_skip) (imp_seq imp_set (imp_seq (imp_for (imp_seq imp_set imp_set)) imp_ret))) fun f cdv A outer s H E g B tk => (s_cons (s_if (t_eq B.hr (e_len (by rfl) hF.len (a_cons (e_var 1) a_nil)) e_int) (s_one (s_ret (w_of (e_lst (a_cons (e_tuple (by rfl) hF.tuple (a_cons (e_lc B.hc B.nd (i_range1 (by rfl) hF.range (a_cons (e_var 2) a_nil)) (blkOk_by (own := [("at", 6)]) rfl) (by decide) (inBlk B fun _ _ _ _ _ B => (g_name 6 B.nd)) (inBlk B fun _ _ _ _ _ B => ts_nil) (inBlk B fun _ _ _ _ _ B => (e_if (t_eq B.hr (e_var 6) (e_ix (e_var 1) e_int)) (e_var 0) e_int))) a_nil)) a_nil) (len_cons len_nil))))) s_nil)
    (s_cons (s_set 3 B.nd (w_of (e_lst a_nil len_nil)))
    (s_cons (s_for B (i_of (i_range1 (by rfl) hF.range (a_cons (e_add (e_var 0) e_int) a_nil))) (sg_name 4 B.nd) (s_cons (s_set 5 B.nd (w_of (e_tuple (by rfl) hF.tuple (a_cons (e_lc B.hc B.nd (i_range1 (by rfl) hF.range (a_cons (e_var 2) a_nil)) (blkOk_by (own := [("at", 6)]) rfl) (by decide) (inBlk B fun _ _ _ _ _ B => (g_name 6 B.nd)) (inBlk B fun _ _ _ _ _ B => ts_nil) (inBlk B fun _ _ _ _ _ B => (e_if (t_eq B.hr (e_var 6) (e_ix (e_var 1) e_int)) (e_var 4) e_int))) a_nil))))
    (s_one (s_set 3 B.nd (w_of (e_add (e_var 3) (e_lc B.hc B.nd (i_val (e_callF C_rec B (a_cons (e_sub (e_var 0) (e_var 4)) (a_cons (e_cut (e_var 1) (o_part e_int) o_no) (a_cons (e_var 2) a_nil))))) (blkOk_by (own := [("rest", 7)]) rfl) (by decide) (inBlk B fun _ _ _ _ _ B => (g_name 7 B.nd)) (inBlk B fun _ _ _ _ _ B => ts_nil) (inBlk B fun _ _ _ _ _ B => (e_callF C_added B (a_cons (e_var 5) (a_cons (e_var 7) a_nil)))))))))))
    (s_one (s_ret (w_of (e_var 3)))))))
theorem ok_parted_4 (F : FunA K mg "parted" st_parted p_parted) (hF : Fre mg) (hS : Glob mg) (hT : Excs K mg) (hX : HX K mg) (C_added : CalF P w K mg base 1 "added" p_added fn_added) (C_rec : CalF P w K mg base 5 "parted" p_parted (recF 3 8 fs_parted 3)) : CalF P w K mg base 6 "parted" p_parted (recF 3 8 fs_parted 4) :=
  calF_of (k := 5) (fs := fs_parted (recF 3 8 fs_parted 3)) F sc_parted (imp_seq (imp_if imp_ret imp_skip) (imp_seq imp_set (imp_seq (imp_for (imp_seq imp_set imp_set)) imp_ret))) fun f cdv A outer s H E g B tk => (s_cons (s_if (t_eq B.hr (e_len (by rfl) hF.len (a_cons (e_var 1) a_nil)) e_int) (s_one (s_ret (w_of (e_lst (a_cons (e_tuple (by rfl) hF.tuple (a_cons (e_lc B.hc B.nd (i_range1 (by rfl) hF.range (a_cons (e_var 2) a_nil)) (blkOk_by (own := [("at", 6)]) rfl) (by decide) (inBlk B fun _ _ _ _ _ B => (g_name 6 B.nd)) (inBlk B fun _ _ _ _ _ B => ts_nil) (inBlk B fun _ _ _ _ _ B => (e_if (t_eq B.hr (e_var 6) (e_ix (e_var 1) e_int)) (e_var 0) e_int))) a_nil)) a_nil) (len_cons len_nil))))) s_nil)
    (s_cons (s_set 3 B.nd (w_of (e_lst a_nil len_nil)))
    (s_cons (s_for B (i_of (i_range1 (by rfl) hF.range (a_cons (e_add (e_var 0) e_int) a_nil))) (sg_name 4 B.nd) (s_cons (s_set 5 B.nd (w_of (e_tuple (by rfl) hF.tuple (a_cons (e_lc B.hc B.nd (i_range1 (by rfl) hF.range (a_cons (e_var 2) a_nil)) (blkOk_by (own := [("at", 6)]) rfl) (by decide) (inBlk B fun _ _ _ _ _ B => (g_name 6 B.nd)) (inBlk B fun _ _ _ _ _ B => ts_nil) (inBlk B fun _ _ _ _ _ B => (e_if (t_eq B.hr (e_var 6) (e_ix (e_var 1) e_int)) (e_var 4) e_int))) a_nil))))
    (s_one (s_set 3 B.nd (w_of (e_add (e_var 3) (e_lc B.hc B.nd (i_val (e_callF C_rec B (a_cons (e_sub (e_var 0) (e_var 4)) (a_cons (e_cut (e_var 1) (o_part e_int) o_no) (a_cons (e_var 2) a_nil))))) (blkOk_by (own := [("rest", 7)]) rfl) (by decide) (inBlk B fun _ _ _ _ _ B => (g_name 7 B.nd)) (inBlk B fun _ _ _ _ _ B => ts_nil) (inBlk B fun _ _ _ _ _ B => (e_callF C_added B (a_cons (e_var 5) (a_cons (e_var 7) a_nil)))))))))))
    (s_one (s_ret (w_of (e_var 3)))))))
theorem ok_parted_5 (F : FunA K mg "parted" st_parted p_parted) (hF : Fre mg) (hS : Glob mg) (hT : Excs K mg) (hX : HX K mg) (C_added : CalF P w K mg base 1 "added" p_added fn_added) (C_rec : CalF P w K mg base 6 "parted" p_parted (recF 3 8 fs_parted 4)) : CalF P w K mg base 7 "parted" p_parted (recF 3 8 fs_parted 5) :=
  calF_of (k := 6) (fs := fs_parted (recF 3 8 fs_parted 4)) F sc_parted (imp_seq (imp_if imp_ret imp_skip) (imp_seq imp_set (imp_seq (imp_for (imp_seq imp_set imp_set)) imp_ret))) fun f cdv A outer s H E g B tk => (s_cons (s_if (t_eq B.hr (e_len (by rfl) hF.len (a_cons (e_var 1) a_nil)) e_int) (s_one (s_ret (w_of (e_lst (a_cons (e_tuple (by rfl) hF.tuple (a_cons (e_lc B.hc B.nd (i_range1 (by rfl) hF.range (a_cons (e_var 2) a_nil)) (blkOk_by (own := [("at", 6)]) rfl) (by decide) (inBlk B fun _ _ _ _ _ B => (g_name 6 B.nd)) (inBlk B fun _ _ _ _ _ B => ts_nil) (inBlk B fun _ _ _ _ _ B => (e_if (t_eq B.hr (e_var 6) (e_ix (e_var 1) e_int)) (e_var 0) e_int))) a_nil)) a_nil) (len_cons len_nil))))) s_nil)
    (s_cons (s_set 3 B.nd (w_of (e_lst a_nil len_nil)))
    (s_cons (s_for B (i_of (i_range1 (by rfl) hF.range (a_cons (e_add (e_var 0) e_int) a_nil))) (sg_name 4 B.nd) (s_cons (s_set 5 B.nd (w_of (e_tuple (by rfl) hF.tuple (a_cons (e_lc B.hc B.nd (i_range1 (by rfl) hF.range (a_cons (e_var 2) a_nil)) (blkOk_by (own := [("at", 6)]) rfl) (by decide) (inBlk B fun _ _ _ _ _ B => (g_name 6 B.nd)) (inBlk B fun _ _ _ _ _ B => ts_nil) (inBlk B fun _ _ _ _ _ B => (e_if (t_eq B.hr (e_var 6) (e_ix (e_var 1) e_int)) (e_var 4) e_int))) a_nil))))
    (s_one (s_set 3 B.nd (w_of (e_add (e_var 3) (e_lc B.hc B.nd (i_val (e_callF C_rec B (a_cons (e_sub (e_var 0) (e_var 4)) (a_cons (e_cut (e_var 1) (o_part e_int) o_no) (a_cons (e_var 2) a_nil))))) (blkOk_by (own := [("rest", 7)]) rfl) (by decide) (inBlk B fun _ _ _ _ _ B => (g_name 7 B.nd)) (inBlk B fun _ _ _ _ _ B => ts_nil) (inBlk B fun _ _ _ _ _ B => (e_callF C_added B (a_cons (e_var 5) (a_cons (e_var 7) a_nil)))))))))))
    (s_one (s_ret (w_of (e_var 3)))))))
theorem ok_parted (F : FunA K mg "parted" st_parted p_parted) (hF : Fre mg) (hS : Glob mg) (hT : Excs K mg) (hX : HX K mg) (C_added : CalF P w K mg base 1 "added" p_added fn_added) : CalF P w K mg base 7 "parted" p_parted fn_parted := (ok_parted_5 F hF hS hT hX C_added (ok_parted_4 F hF hS hT hX C_added (ok_parted_3 F hF hS hT hX C_added (ok_parted_2 F hF hS hT hX C_added (ok_parted_1 F hF hS hT hX C_added (ok_parted_0 F))))))
theorem ok_others_before (F : FunA K mg "others_before" st_others_before p_others_before) (hF : Fre mg) (hS : Glob mg) (hT : Excs K mg) (hX : HX K mg) (C_added : CalF P w K mg base 1 "added" p_added fn_added) (C_parted : CalF P w K mg base 7 "parted" p_parted fn_parted) : CalF P w K mg base 8 "others_before" p_others_before fn_others_before :=
  calF_of F sc_others_before (imp_seq imp_set (imp_seq (imp_for (imp_seq imp_set (imp_seq (imp_if imp_ret imp_skip) (imp_if imp_set imp_skip)))) imp_ret)) fun f cdv A outer s H E g B tk => (s_cons (s_set 3 B.nd (w_of (e_lst (a_cons (e_mulX (e_tup (a_cons e_int a_nil) (len_cons len_nil)) (e_len (by rfl) hF.len (a_cons (e_var 2) a_nil))) a_nil) (len_cons len_nil))))
    (s_cons (s_for B (i_of (i_zip (by rfl) hF.zip (a_cons (e_ix (e_var 0) e_int) (a_cons (e_var 2) a_nil)))) (sg_tup B.hc (sgs_cons (sg_name 4 B.nd) (sgs_cons (sg_name 5 B.nd) sgs_nil))) (s_cons (s_set 6 B.nd (w_of (e_lc B.hc B.nd (i_enum (by rfl) hF.enumerate (a_cons (e_ix (e_var 1) e_int) a_nil)) (blkOk_by (own := [("at", 7), ("goal", 8)]) rfl) (by decide) (inBlk B fun _ _ _ _ _ B => (g_tup B.hc (gs_cons (g_name 7 B.nd) (gs_cons (g_name 8 B.nd) gs_nil)))) (inBlk B fun _ _ _ _ _ B => (ts_one (t_eq B.hr (e_var 8) (e_var 4)))) (inBlk B fun _ _ _ _ _ B => (e_var 7)))))
    (s_cons (s_if (PW.pt (w_and (t_gt (e_var 5) e_int) (w_and1 (t_eq B.hr (e_var 6) (e_lst a_nil len_nil))))) (s_one (s_ret (w_of (e_lst a_nil len_nil)))) s_nil)
    (s_one (s_if (t_gt (e_var 5) e_int) (s_one (s_setLc2 3 B (sw_true rfl rfl rfl rfl) (i_val (e_var 3)) (blkOk_by (own := [("one", 9), ("more", 10)]) rfl) (vs1 := [10]) (by decide) (by decide) (by decide) (inBlk B fun _ _ _ _ _ B => (g_name 9 B.nd)) (inBlk B fun _ _ _ _ _ B => ts_nil) (inBlk B fun _ _ _ _ _ B => (i_val (e_callF C_parted B (a_cons (e_var 5) (a_cons (e_var 6) (a_cons (e_len (by rfl) hF.len (a_cons (e_var 2) a_nil)) a_nil)))))) (inBlk B fun _ _ _ _ _ B => (g_name 10 B.nd)) (inBlk B fun _ _ _ _ _ B => ts_nil) (inBlk B fun _ _ _ _ _ B => (e_callF C_added B (a_cons (e_var 9) (a_cons (e_var 10) a_nil)))))) s_nil)))))
    (s_one (s_ret (w_of (e_var 3))))))
theorem ok_before_of {T : List (Addr × Str)} (F : FunA K mg "before_of" st_before_of p_before_of) (hF : Fre mg) (hS : Glob mg) (hT : Excs K mg) (hX : HX K mg) (C_least_of : CalFT P w K mg base T 2 "least_of" p_least_of fn_least_of) (C_needed : CalF P w K mg base 2 "needed" p_needed fn_needed) (C_granted : CalF P w K mg base 2 "granted" p_granted fn_granted) (C_added : CalF P w K mg base 1 "added" p_added fn_added) (C_lacking : CalF P w K mg base 1 "lacking" p_lacking fn_lacking) (C_others_before : CalF P w K mg base 8 "others_before" p_others_before fn_others_before) : CalFT P w K mg base T 9 "before_of" p_before_of fn_before_of :=
  calFT_of F sc_before_of (imp_seq imp_set (imp_seq imp_set imp_ret)) fun cdv f A outer s H E g hgT B tk => (s_cons (s_set 3 B.nd (w_of (e_callF C_lacking B (a_cons (e_var 2) (a_cons (e_callF C_granted B (a_cons (e_var 0) (a_cons (e_var 1) a_nil))) a_nil)))))
    (s_cons (s_set 4 B.nd (w_of (e_if (t_eq B.hr (e_ix (e_var 1) e_int) e_str) (e_callF C_others_before B (a_cons (e_var 0) (a_cons (e_var 1) (a_cons (e_var 3) a_nil)))) (e_lst (a_cons (e_var 3) a_nil) (len_cons len_nil)))))
    (s_one (s_ret (w_of (e_callFT C_least_of B hgT (a_cons (e_lc B.hc B.nd (i_val (e_var 4)) (blkOk_by (own := [("one", 5)]) rfl) (by decide) (inBlk B fun _ _ _ _ _ B => (g_name 5 B.nd)) (inBlk B fun _ _ _ _ _ B => ts_nil) (inBlk B fun _ _ _ _ _ B => (e_callF C_added B (a_cons (e_var 5) (a_cons (e_callF C_needed B (a_cons (e_var 0) (a_cons (e_var 1) a_nil))) a_nil))))) a_nil)))))))
theorem ok_before_all {T : List (Addr × Str)} (F : FunA K mg "before_all" st_before_all p_before_all) (hF : Fre mg) (hS : Glob mg) (hT : Excs K mg) (hX : HX K mg) (C_before_of : CalFT P w K mg base T 9 "before_of" p_before_of fn_before_of) : CalFT P w K mg base T 10 "before_all" p_before_all fn_before_all :=
  calFT_of F sc_before_all (imp_seq imp_set (imp_seq (imp_for imp_set) imp_ret)) fun cdv f A outer s H E g hgT B tk => (s_cons (s_set 2 B.nd (w_of (e_lst a_nil len_nil)))
    (s_cons (s_for B (i_of (i_val (e_ix (e_var 0) e_int))) (sg_name 3 B.nd) (s_one (s_set 2 B.nd (w_of (e_add (e_var 2) (e_callFT C_before_of B hgT (a_cons (e_var 0) (a_cons (e_var 3) (a_cons (e_var 1) a_nil)))))))))
    (s_one (s_ret (w_of (e_var 2))))))
theorem ok_basis_of {T : List (Addr × Str)} (F : FunA K mg "basis_of" st_basis_of p_basis_of) (hF : Fre mg) (hS : Glob mg) (hT : Excs K mg) (hX : HX K mg) (C_is_over : CalF P w K mg base 1 "is_over" p_is_over fn_is_over) (C_least_of : CalFT P w K mg base T 2 "least_of" p_least_of fn_least_of) (CO_least_of : CalO P w K mg base T 2 "least_of" p_least_of fnO_least_of) (C_is_over_one : CalF P w K mg base 2 "is_over_one" p_is_over_one fn_is_over_one) (C_before_all : CalFT P w K mg base T 10 "before_all" p_before_all fn_before_all) : CalFT P w K mg base T 11 "basis_of" p_basis_of fn_basis_of :=
  calFT_of F sc_basis_of (imp_seq imp_parVO (imp_seq (imp_while (imp_seq imp_pop0 (imp_if (imp_for (imp_if (imp_seq imp_set imp_app) imp_skip)) imp_skip))) imp_ret)) fun cdv f A outer s H E g hgT B tk => (s_cons (s_parVO 2 3 B (w_of (e_callFT C_least_of B hgT (a_cons (e_var 1) a_nil))) (o_callO CO_least_of B hgT (a_cons (e_var 1) a_nil)))
    (s_cons (s_while B (t_ne B.hr (e_var 3) (e_lst a_nil len_nil)) (s_cons (s_pop0 4 3 B.nd)
    (s_one (s_if (t_in B.hr (e_var 4) (e_var 2)) (s_one (s_for B (i_of (i_val (e_callFT C_before_all B hgT (a_cons (e_var 0) (a_cons (e_var 4) a_nil))))) (sg_name 5 B.nd) (s_one (s_if (t_not (t_val (e_callF C_is_over_one B (a_cons (e_var 5) (a_cons (e_var 2) a_nil))))) (s_cons (s_set 2 B.nd (w_of (e_add (e_lc B.hc B.nd (i_val (e_var 2)) (blkOk_by (own := [("other", 6)]) rfl) (by decide) (inBlk B fun _ _ _ _ _ B => (g_name 6 B.nd)) (inBlk B fun _ _ _ _ _ B => (ts_one (t_not (t_val (e_callF C_is_over B (a_cons (e_var 6) (a_cons (e_var 5) a_nil))))))) (inBlk B fun _ _ _ _ _ B => (e_var 6))) (e_lst (a_cons (e_var 5) a_nil) (len_cons len_nil)))))
    (s_one (s_app 3 (w_of (e_var 5))))) s_nil)))) s_nil))))
    (s_one (s_ret (w_of (e_sortR B.hr (by rfl) hF.sorted (e_var 2)))))))
theorem ok_basis {T : List (Addr × Str)} (F : FunA K mg "basis" st_basis p_basis) (hF : Fre mg) (hS : Glob mg) (hT : Excs K mg) (hX : HX K mg) (C_need_talk : CalF P w K mg base 4 "need_talk" p_need_talk fn_need_talk) (C_need_targets : CalF P w K mg base 3 "need_targets" p_need_targets fn_need_targets) (C_basis_of : CalFT P w K mg base T 11 "basis_of" p_basis_of fn_basis_of) : CalFT P w K mg base T 12 "basis" p_basis fn_basis :=
  calFT_of F sc_basis (imp_seq imp_expr (imp_seq imp_expr imp_ret)) fun cdv f A outer s H E g hgT B tk => (s_cons (s_expr (w_of (e_callF C_need_talk B (a_cons (e_var 0) a_nil))))
    (s_cons (s_expr (w_of (e_callF C_need_targets B (a_cons (e_var 0) (a_cons (e_var 1) a_nil)))))
    (s_one (s_ret (w_of (e_callFT C_basis_of B hgT (a_cons (e_var 0) (a_cons (e_var 1) a_nil))))))))
theorem ok_size_for (F : FunA K mg "size_for" st_size_for p_size_for) (hF : Fre mg) (hS : Glob mg) (hT : Excs K mg) (hX : HX K mg) : CalF P w K mg base 1 "size_for" p_size_for fn_size_for :=
  calF_of F sc_size_for (imp_seq imp_set (imp_seq (imp_if imp_ret imp_skip) imp_ret)) fun f cdv A outer s H E g B tk => (s_cons (s_set 2 B.nd (w_of (e_tindex (e_ix (e_var 0) e_int) (e_ix (e_var 0) e_int))))
    (s_cons (s_if (t_val (e_any B.hc (by rfl) hF.any (a_cons (e_lc B.hc B.nd (i_enumZ (by rfl) hF.enumerate (by rfl) hF.zip (a_cons (e_var 1) (a_cons (e_ix (e_var 0) e_int) a_nil))) (blkOk_by (own := [("spot", 3), ("many", 4), ("have", 5)]) rfl) (by decide) (inBlk B fun _ _ _ _ _ B => (g_tup B.hc (gs_cons (g_name 3 B.nd) (gs_cons (g_tup B.hc (gs_cons (g_name 4 B.nd) (gs_cons (g_name 5 B.nd) gs_nil))) gs_nil)))) (inBlk B fun _ _ _ _ _ B => (ts_one (t_ne B.hr (e_var 3) (e_var 2)))) (inBlk B fun _ _ _ _ _ B => (e_gt (e_var 4) (e_var 5)))) a_nil))) (s_one (s_ret (w_of e_non))) s_nil)
    (s_one (s_ret (w_of (e_max2 B.hc (by rfl) hF.max (a_cons e_int (a_cons (e_sub (e_ix (e_var 1) (e_var 2)) (e_ix (e_ix (e_var 0) e_int) (e_var 2))) a_nil))))))))
theorem ok_least_of_sizes {T : List (Addr × Str)} (F : FunA K mg "least_of_sizes" st_least_of_sizes p_least_of_sizes) (hF : Fre mg) (hS : Glob mg) (hT : Excs K mg) (hX : HX K mg) (C_basis_of : CalFT P w K mg base T 11 "basis_of" p_basis_of fn_basis_of) (C_size_for : CalF P w K mg base 1 "size_for" p_size_for fn_size_for) : CalFT P w K mg base T 12 "least_of_sizes" p_least_of_sizes fn_least_of_sizes :=
  calFT_of F sc_least_of_sizes (imp_seq imp_setLc imp_ret) fun cdv f A outer s H E g hgT B tk => (s_cons (s_setLc 2 B (sw_true rfl rfl rfl rfl) (i_of (i_val (e_callFT C_basis_of B hgT (a_cons (e_var 0) (a_cons (e_var 1) a_nil))))) (blkOk_by (own := [("standing", 3)]) rfl) (by decide) (inBlk B fun _ _ _ _ _ B => (g_name 3 B.nd)) (inBlk B fun _ _ _ _ _ B => ts_nil) (inBlk B fun _ _ _ _ _ B => (w_of (e_callF C_size_for B (a_cons (e_var 0) (a_cons (e_var 3) a_nil))))))
    (s_one (s_ret (w_of (e_minD B.hr B.hc (by rfl) hF.min (e_lc B.hc B.nd (i_val (e_var 2)) (blkOk_by (own := [("size", 4)]) rfl) (by decide) (inBlk B fun _ _ _ _ _ B => (g_name 4 B.nd)) (inBlk B fun _ _ _ _ _ B => (ts_one (t_isnot (e_var 4) e_non))) (inBlk B fun _ _ _ _ _ B => (e_var 4))))))))
theorem ok_bad_run {T : List (Addr × Str)} (F : FunA K mg "bad_run" st_bad_run p_bad_run) (hF : Fre mg) (hS : Glob mg) (hT : Excs K mg) (hX : HX K mg) (C_need_talk : CalF P w K mg base 4 "need_talk" p_need_talk fn_need_talk) (C_begun : CalF P w K mg base 1 "begun" p_begun fn_begun) (C_need_targets : CalF P w K mg base 3 "need_targets" p_need_targets fn_need_targets) (C_least_of_sizes : CalFT P w K mg base T 12 "least_of_sizes" p_least_of_sizes fn_least_of_sizes) : CalFT P w K mg base T 13 "bad_run" p_bad_run fn_bad_run :=
  calFT_of F sc_bad_run (imp_seq imp_expr (imp_seq imp_expr (imp_seq imp_set (imp_seq (imp_if imp_ret imp_skip) (imp_seq (imp_if imp_raise imp_skip) (imp_seq imp_setO (imp_seq imp_never (imp_seq imp_never imp_ret)))))))) fun cdv f A outer s H E g hgT B tk => (s_cons (s_expr (w_of (e_callF C_need_talk B (a_cons (e_var 0) a_nil))))
    (s_cons (s_expr (w_of (e_callF C_need_targets B (a_cons (e_var 0) (a_cons (e_var 1) a_nil)))))
    (s_cons (s_set 2 B.nd (w_of (e_callFT C_least_of_sizes B hgT (a_cons (e_var 0) (a_cons (e_var 1) a_nil)))))
    (s_cons (s_if (t_is (e_var 2) e_non) (s_one (s_ret (w_of e_non))) s_nil)
    (s_cons (s_if (t_gt (e_var 2) (e_gint (by rfl) hS.MOST_SIZE.choose_spec)) (s_one (s_raise hT.Full tk B rfl)) s_nil)
    (s_cons (s_setO 3 B.nd (oF_lst (a_cons (e_callF C_begun B (a_cons (e_var 0) (a_cons (e_var 2) a_nil))) a_nil) (len_cons len_nil)))
    (s_cons s_never
    (s_cons s_never
    (s_one (s_ret (w_of (e_var 3))))))))))))
theorem ok_answer {T : List (Addr × Str)} (F : FunA K mg "answer" st_answer p_answer) (hF : Fre mg) (hS : Glob mg) (hT : Excs K mg) (hX : HX K mg) (C_basis_of : CalFT P w K mg base T 11 "basis_of" p_basis_of fn_basis_of) (C_size_for : CalF P w K mg base 1 "size_for" p_size_for fn_size_for) : CalFT P w K mg base T 12 "answer" p_answer fn_answer :=
  calFT_of F sc_answer (imp_seq imp_set (imp_seq imp_setLc (imp_seq imp_set imp_ret))) fun cdv f A outer s H E g hgT B tk => (s_cons (s_set 2 B.nd (w_of (e_callFT C_basis_of B hgT (a_cons (e_var 0) (a_cons (e_var 1) a_nil)))))
    (s_cons (s_setLc 3 B (sw_true rfl rfl rfl rfl) (i_of (i_val (e_var 2))) (blkOk_by (own := [("standing", 5)]) rfl) (by decide) (inBlk B fun _ _ _ _ _ B => (g_name 5 B.nd)) (inBlk B fun _ _ _ _ _ B => ts_nil) (inBlk B fun _ _ _ _ _ B => (w_of (e_callF C_size_for B (a_cons (e_var 0) (a_cons (e_var 5) a_nil))))))
    (s_cons (s_set 4 B.nd (w_of (e_minD B.hr B.hc (by rfl) hF.min (e_lc B.hc B.nd (i_val (e_var 3)) (blkOk_by (own := [("size", 6)]) rfl) (by decide) (inBlk B fun _ _ _ _ _ B => (g_name 6 B.nd)) (inBlk B fun _ _ _ _ _ B => (ts_one (t_isnot (e_var 6) e_non))) (inBlk B fun _ _ _ _ _ B => (e_var 6))))))
    (s_one (s_ret (w_of (e_if (t_is (e_var 4) e_non) (e_tup (a_cons e_bl (a_cons (e_var 2) a_nil)) (len_cons (len_cons len_nil))) (e_tup (a_cons e_bl (a_cons (e_var 4) a_nil)) (len_cons (len_cons len_nil))))))))))
theorem ok_words_of (F : FunA K mg "words_of" st_words_of p_words_of) (hF : Fre mg) (hS : Glob mg) (hT : Excs K mg) (hX : HX K mg) : CalF P w K mg base 1 "words_of" p_words_of fn_words_of :=
  calF_of F sc_words_of imp_ret fun f cdv A outer s H E g B tk => (s_one (s_ret (w_of (e_tuple (by rfl) hF.tuple (a_cons (e_sortset B.hc (by rfl) hF.sorted (by rfl) hF.set (e_lc B.hc B.nd (i_val (e_ix (e_var 0) e_int)) (blkOk_by (own := [("state", 2)]) rfl) (by decide) (inBlk B fun _ _ _ _ _ B => (g_name 2 B.nd)) (inBlk B fun _ _ _ _ _ B => ts_nil) (inBlk B fun _ _ _ _ _ B => (e_ixX B.hr (e_var 1) (e_var 2))))) a_nil)))))
theorem ok_need_table (F : FunA K mg "need_table" st_need_table p_need_table) (hF : Fre mg) (hS : Glob mg) (hT : Excs K mg) (hX : HX K mg) (C_is_table : CalF P w K mg base 2 "is_table" p_is_table fn_is_table) (C_words_of : CalF P w K mg base 1 "words_of" p_words_of fn_words_of) : CalF P w K mg base 3 "need_table" p_need_table fn_need_table :=
  calF_of F sc_need_table (imp_seq (imp_if imp_raise imp_skip) (imp_seq imp_never imp_never)) fun f cdv A outer s H E g B tk => (s_cons (s_if (PW.pt (w_or (t_not (t_val (e_callF C_is_table B (a_cons (e_var 0) (a_cons (e_var 1) a_nil))))) (w_or1 (t_lt (e_len (by rfl) hF.len (a_cons (e_callF C_words_of B (a_cons (e_var 0) (a_cons (e_var 1) a_nil))) a_nil)) e_int)))) (s_one (s_raise hT.BadTable tk B rfl)) s_nil)
    (s_cons s_never
    (s_one s_never)))
theorem ok_coarser (F : FunA K mg "coarser" st_coarser p_coarser) (hF : Fre mg) (hS : Glob mg) (hT : Excs K mg) (hX : HX K mg) (C_need_talk : CalF P w K mg base 4 "need_talk" p_need_talk fn_need_talk) (C_need_table : CalF P w K mg base 3 "need_table" p_need_table fn_need_table) : CalF P w K mg base 5 "coarser" p_coarser fn_coarser :=
  calF_of F sc_coarser (imp_seq imp_expr (imp_seq imp_expr imp_never)) fun f cdv A outer s H E g B tk => (s_cons (s_expr (w_of (e_callF C_need_talk B (a_cons (e_var 0) a_nil))))
    (s_cons (s_expr (w_of (e_callF C_need_table B (a_cons (e_var 0) (a_cons (e_var 1) a_nil)))))
    (s_one s_never)))
theorem ok_is_form (F : FunA K mg "is_form" st_is_form p_is_form) (hF : Fre mg) (hS : Glob mg) (hT : Excs K mg) (hX : HX K mg) (C_is_good_standing : CalF P w K mg base 3 "is_good_standing" p_is_good_standing fn_is_good_standing) : CalF P w K mg base 4 "is_form" p_is_form fn_is_form :=
  calF_of F sc_is_form imp_ret fun f cdv A outer s H E g B tk => (s_one (s_ret (w_of (e_and (e_isi (T := .list) (by rfl) hF.isinstance (by rfl) hF.list (by decide +kernel) (e_var 1)) (e_one (e_all B.hc (by rfl) hF.all (a_cons (e_lc B.hc B.nd (i_val (e_var 1)) (blkOk_by (own := [("one", 2)]) rfl) (by decide) (inBlk B fun _ _ _ _ _ B => (g_name 2 B.nd)) (inBlk B fun _ _ _ _ _ B => ts_nil) (inBlk B fun _ _ _ _ _ B => (e_callF C_is_good_standing B (a_cons (e_var 0) (a_cons (e_var 2) a_nil))))) a_nil)))))))
theorem ok_need_paper (F : FunA K mg "need_paper" st_need_paper p_need_paper) (hF : Fre mg) (hS : Glob mg) (hT : Excs K mg) (hX : HX K mg) (C_is_form : CalF P w K mg base 4 "is_form" p_is_form fn_is_form) : CalF P w K mg base 5 "need_paper" p_need_paper fn_need_paper :=
  calF_of F sc_need_paper (imp_if imp_raise imp_skip) fun f cdv A outer s H E g B tk => (s_one (s_if (t_not (t_val (e_callF C_is_form B (a_cons (e_var 0) (a_cons (e_var 1) a_nil))))) (s_one (s_raise hT.BadPaper tk B rfl)) s_nil))
theorem ok_breaks (F : FunA K mg "breaks" st_breaks p_breaks) (hF : Fre mg) (hS : Glob mg) (hT : Excs K mg) (hX : HX K mg) (C_need_talk : CalF P w K mg base 4 "need_talk" p_need_talk fn_need_talk) (C_need_targets : CalF P w K mg base 3 "need_targets" p_need_targets fn_need_targets) (C_need_paper : CalF P w K mg base 5 "need_paper" p_need_paper fn_need_paper) : CalF P w K mg base 6 "breaks" p_breaks fn_breaks :=
  calF_of F sc_breaks (imp_seq imp_expr (imp_seq imp_expr (imp_seq imp_expr imp_never))) fun f cdv A outer s H E g B tk => (s_cons (s_expr (w_of (e_callF C_need_talk B (a_cons (e_var 0) a_nil))))
    (s_cons (s_expr (w_of (e_callF C_need_targets B (a_cons (e_var 0) (a_cons (e_var 1) a_nil)))))
    (s_cons (s_expr (w_of (e_callF C_need_paper B (a_cons (e_var 0) (a_cons (e_var 2) a_nil)))))
    (s_one s_never))))
theorem ok_number_in (F : FunA K mg "number_in" st_number_in p_number_in) (hF : Fre mg) (hS : Glob mg) (hT : Excs K mg) (hX : HX K mg) : CalF P w K mg base 1 "number_in" p_number_in fn_number_in :=
  calF_of F sc_number_in (imp_seq (imp_if imp_ret imp_skip) imp_ret) fun f cdv A outer s H E g B tk => (s_cons (s_if (PW.pt (w_or (t_not (t_lele e_int (e_len (by rfl) hF.len (a_cons (e_var 0) a_nil)) e_int)) (w_or (t_not (t_val (e_all B.hc (by rfl) hF.all (a_cons (e_lc B.hc B.nd (i_val (e_var 0)) (blkOk_by (own := [("sign", 1)]) rfl) (by decide) (inBlk B fun _ _ _ _ _ B => (g_name 1 B.nd)) (inBlk B fun _ _ _ _ _ B => ts_nil) (inBlk B fun _ _ _ _ _ B => (e_in B.hr (e_var 1) (e_gstr (by rfl) hS.FIGURES.choose_spec)))) a_nil)))) (w_or1 (t_ne B.hr (e_str1 (by rfl) hF.str (a_cons (e_tointX (by rfl) hF.int (a_cons (e_var 0) a_nil)) a_nil)) (e_var 0)))))) (s_one (s_ret (w_of e_non))) s_nil)
    (s_one (s_ret (w_of (e_tointX (by rfl) hF.int (a_cons (e_var 0) a_nil))))))
theorem ok_read_standing (F : FunA K mg "read_standing" st_read_standing p_read_standing) (hF : Fre mg) (hS : Glob mg) (hT : Excs K mg) (hX : HX K mg) (C_need_talk : CalF P w K mg base 4 "need_talk" p_need_talk fn_need_talk) (C_number_in : CalF P w K mg base 1 "number_in" p_number_in fn_number_in) : CalF P w K mg base 5 "read_standing" p_read_standing fn_read_standing :=
  calF_of F sc_read_standing (imp_seq imp_expr (imp_seq (imp_if imp_raise imp_skip) (imp_seq imp_setOD (imp_seq (imp_for (imp_seq imp_set (imp_seq (imp_if imp_raise imp_skip) imp_put))) (imp_seq imp_setH (imp_seq imp_never imp_ret)))))) fun f cdv A outer s H E g B tk => (s_cons (s_expr (w_of (e_callF C_need_talk B (a_cons (e_var 0) a_nil))))
    (s_cons (s_if (t_not (t_val (e_isi (T := .str) (by rfl) hF.isinstance (by rfl) hF.str (by decide +kernel) (e_var 1)))) (s_one (s_raise hT.BadText tk B rfl)) s_nil)
    (s_cons (s_setOD 2 B.nd (o_dc B.hc B.nd (i_val (e_ix (e_var 0) e_int)) (blkOk_by (own := [("state", 6)]) rfl) (by decide) (inBlk B fun _ _ _ _ _ B => (g_name 6 B.nd)) (inBlk B fun _ _ _ _ _ B => ts_nil) (inBlk B fun _ _ _ _ _ B => (e_var 6)) (inBlk B fun _ _ _ _ _ B => e_int)))
    (s_cons (s_for B (i_of (i_val (e_if (t_ne B.hr (e_var 1) e_str) (e_split (e_var 1) e_str) (e_lst a_nil len_nil)))) (sg_name 3 B.nd) (s_cons (s_set 4 B.nd (w_of (e_split (e_var 3) e_str)))
    (s_cons (s_if (PW.pt (w_or (t_ne B.hr (e_len (by rfl) hF.len (a_cons (e_var 4) a_nil)) e_int) (w_or (t_notinX B.hr (e_ix (e_var 4) e_int) (e_var 2)) (w_or1 (t_is (e_callF C_number_in B (a_cons (e_ix (e_var 4) e_int) a_nil)) e_non))))) (s_one (s_raise hT.BadText tk B rfl)) s_nil)
    (s_one (s_put 2 (Nat.lt_of_le_of_lt (Nat.add_le_add_left (by decide) _) B.hr.units) (w_of (e_ix (e_var 4) e_int)) (w_of (e_callF C_number_in B (a_cons (e_ix (e_var 4) e_int) a_nil))))))))
    (s_cons (s_setH 5 B.nd (w_of (e_tuple (by rfl) hF.tuple (a_cons (e_lc B.hc B.nd (i_val (e_ix (e_var 0) e_int)) (blkOk_by (own := [("state", 6)]) rfl) (by decide) (inBlk B fun _ _ _ _ _ B => (g_name 6 B.nd)) (inBlk B fun _ _ _ _ _ B => ts_nil) (inBlk B fun _ _ _ _ _ B => (e_ixX B.hr (e_var 2) (e_var 6)))) a_nil))))
    (s_cons s_never
    (s_one (s_ret (w_of (e_var 5))))))))))
theorem ok_are_weights (F : FunA K mg "are_weights" st_are_weights p_are_weights) (hF : Fre mg) (hS : Glob mg) (hT : Excs K mg) (hX : HX K mg) : CalF P w K mg base 1 "are_weights" p_are_weights fn_are_weights :=
  calF_of F sc_are_weights (imp_seq (imp_if imp_ret imp_skip) imp_ret) fun f cdv A outer s H E g B tk => (s_cons (s_if (PW.pt (w_or (t_not (t_val (e_isi (T := .tuple) (by rfl) hF.isinstance (by rfl) hF.tuple (by decide +kernel) (e_var 1)))) (w_or1 (t_ne B.hr (e_len (by rfl) hF.len (a_cons (e_var 1) a_nil)) (e_len (by rfl) hF.len (a_cons (e_ix (e_var 0) e_int) a_nil)))))) (s_one (s_ret (w_of e_bl))) s_nil)
    (s_one (s_ret (w_of (e_all B.hc (by rfl) hF.all (a_cons (e_lc B.hc B.nd (i_val (e_var 1)) (blkOk_by (own := [("one", 2)]) rfl) (by decide) (inBlk B fun _ _ _ _ _ B => (g_name 2 B.nd)) (inBlk B fun _ _ _ _ _ B => ts_nil) (inBlk B fun _ _ _ _ _ B => (e_and (e_isi (T := .int) (by rfl) hF.isinstance (by rfl) hF.int (by decide +kernel) (e_var 2)) (e_one (e_not (e_isi (T := .bool) (by rfl) hF.isinstance (by rfl) hF.bool (by decide +kernel) (e_var 2))))))) a_nil))))))
theorem ok_need_weights (F : FunA K mg "need_weights" st_need_weights p_need_weights) (hF : Fre mg) (hS : Glob mg) (hT : Excs K mg) (hX : HX K mg) (C_are_weights : CalF P w K mg base 1 "are_weights" p_are_weights fn_are_weights) : CalF P w K mg base 2 "need_weights" p_need_weights fn_need_weights :=
  calF_of F sc_need_weights (imp_if imp_raise imp_skip) fun f cdv A outer s H E g B tk => (s_one (s_if (t_not (t_val (e_callF C_are_weights B (a_cons (e_var 0) (a_cons (e_var 1) a_nil))))) (s_one (s_raise hT.BadWeights tk B rfl)) s_nil))
theorem ok_is_kept (F : FunA K mg "is_kept" st_is_kept p_is_kept) (hF : Fre mg) (hS : Glob mg) (hT : Excs K mg) (hX : HX K mg) (C_need_talk : CalF P w K mg base 4 "need_talk" p_need_talk fn_need_talk) (C_need_weights : CalF P w K mg base 2 "need_weights" p_need_weights fn_need_weights) : CalF P w K mg base 5 "is_kept" p_is_kept fn_is_kept :=
  calF_of F sc_is_kept (imp_seq imp_expr (imp_seq imp_expr imp_never)) fun f cdv A outer s H E g B tk => (s_cons (s_expr (w_of (e_callF C_need_talk B (a_cons (e_var 0) a_nil))))
    (s_cons (s_expr (w_of (e_callF C_need_weights B (a_cons (e_var 0) (a_cons (e_var 1) a_nil)))))
    (s_one s_never)))
theorem ok_Lalone (F : FunA K mg "_law_alone" st_Lalone p_Lalone) (hF : Fre mg) (hS : Glob mg) (hT : Excs K mg) (hX : HX K mg) : CalF P w K mg base 1 "_law_alone" p_Lalone fn_Lalone :=
  calF_of F sc_Lalone (imp_seq imp_set (imp_seq imp_set (imp_seq imp_set (imp_seq imp_set (imp_seq imp_set (imp_seq imp_set (imp_seq imp_set imp_ret))))))) fun f cdv A outer s H E g B tk => (s_cons (s_set 2 B.nd (w_of (e_lst (a_cons (e_isE hX.x (by decide) hF.isinstance (e_var 0)) (a_cons (e_isE hX.x (by decide) hF.isinstance (e_var 0)) (a_cons (e_isE hX.x (by decide) hF.isinstance (e_var 0)) a_nil))) (len_cons (len_cons (len_cons len_nil))))))
    (s_cons (s_set 2 B.nd (w_of (e_add (e_var 2) (e_lst (a_cons (e_isE hX.x (by decide) hF.isinstance (e_var 0)) a_nil) (len_cons len_nil)))))
    (s_cons (s_set 2 B.nd (w_of (e_add (e_var 2) (e_lst (a_cons (e_isE hX.x (by decide) hF.isinstance (e_var 0)) (a_cons (e_isE hX.x (by decide) hF.isinstance (e_var 0)) (a_cons (e_isE hX.x (by decide) hF.isinstance (e_var 0)) a_nil))) (len_cons (len_cons (len_cons len_nil)))))))
    (s_cons (s_set 2 B.nd (w_of (e_add (e_var 2) (e_lst (a_cons (e_isE hX.x (by decide) hF.isinstance (e_var 0)) a_nil) (len_cons len_nil)))))
    (s_cons (s_set 2 B.nd (w_of (e_add (e_var 2) (e_lst (a_cons (e_isE hX.x (by decide) hF.isinstance (e_var 0)) (a_cons (e_isE hX.x (by decide) hF.isinstance (e_var 0)) (a_cons (e_isE hX.x (by decide) hF.isinstance (e_var 0)) a_nil))) (len_cons (len_cons (len_cons len_nil)))))))
    (s_cons (s_set 2 B.nd (w_of (e_add (e_var 2) (e_lst (a_cons (e_isE hX.x (by decide) hF.isinstance (e_var 0)) a_nil) (len_cons len_nil)))))
    (s_cons (s_set 2 B.nd (w_of (e_add (e_var 2) (e_lst (a_cons (e_isE hX.x (by decide) hF.isinstance (e_var 0)) (a_cons (e_isE hX.x (by decide) hF.isinstance (e_var 0)) (a_cons (e_isE hX.x (by decide) hF.isinstance (e_var 0)) a_nil))) (len_cons (len_cons (len_cons len_nil)))))))
    (s_one (s_ret (w_of (e_and (e_isVE hX.x hF.isinstance hX.v (e_var 0)) (e_one (e_eq B.hr (e_var 2) (e_lc B.hc B.nd (i_range1 (by rfl) hF.range (a_cons e_int a_nil)) (blkOk_by (own := [("_law_at", 3)]) rfl) (by decide) (inBlk B fun _ _ _ _ _ B => (g_name 3 B.nd)) (inBlk B fun _ _ _ _ _ B => ts_nil) (inBlk B fun _ _ _ _ _ B => (e_eq B.hr (e_var 3) (e_var 1)))))))))))))))))
theorem ok_House_need {T : List (Addr × Str)} (F : FunM K cH "need" "House.need" st_House_need p_House_need) (hF : Fre mg) (hS : Glob mg) (hT : Excs K mg) (hX : HX K mg) (C_is_word : CalF P w K mg base 1 "is_word" p_is_word fn_is_word) : CalM P w K mg base T cH 2 "need" p_House_need fn_House_need :=
  calM_of F sc_House_need (imp_seq (imp_if imp_raise imp_skip) (imp_if imp_raise imp_skip)) fun cdv f A outer s H E g hgT B tk => (s_cons (s_if (t_not (t_val (e_callF C_is_word B (a_cons (e_var 1) a_nil)))) (s_one (s_raise hT.BadName tk B rfl)) s_nil)
    (s_one (s_if (t_notinX B.hr (e_var 1) (e_table hX.f (e_var 0))) (s_one (s_raise hT.NoName tk B rfl)) s_nil)))
theorem ok_House_promise {T : List (Addr × Str)} (F : FunM K cH "promise" "House.promise" st_House_promise p_House_promise) (hF : Fre mg) (hS : Glob mg) (hT : Excs K mg) (hX : HX K mg) (C_is_word : CalF P w K mg base 1 "is_word" p_is_word fn_is_word) (C_need_targets : CalF P w K mg base 3 "need_targets" p_need_targets fn_need_targets) (C_answer : CalFT P w K mg base T 12 "answer" p_answer fn_answer) : CalM P w K mg base T cH 14 "promise" p_House_promise fn_House_promise :=
  calM_of F sc_House_promise (imp_seq (imp_if imp_raise imp_skip) (imp_seq (imp_if imp_raise imp_skip) (imp_seq imp_expr (imp_seq imp_set (imp_seq imp_never (imp_seq imp_never (imp_seq imp_never imp_ret))))))) fun cdv f A outer s H E g hgT B tk => (s_cons (s_if (t_not (t_val (e_callF C_is_word B (a_cons (e_var 1) a_nil)))) (s_one (s_raise hT.BadName tk B rfl)) s_nil)
    (s_cons (s_if (t_inX B.hr (e_var 1) (e_table hX.f (e_var 0))) (s_one (s_raise hT.Taken tk B rfl)) s_nil)
    (s_cons (s_expr (w_of (e_callF C_need_targets B (a_cons (e_kept hX.f (e_var 0)) (a_cons (e_var 2) a_nil)))))
    (s_cons (s_set 3 B.nd (w_of (e_callFT C_answer B hgT (a_cons (e_kept hX.f (e_var 0)) (a_cons (e_var 2) a_nil)))))
    (s_cons s_never
    (s_cons s_never
    (s_cons s_never
    (s_one (s_ret (w_of (e_ix (e_var 3) e_int)))))))))))
theorem ok_House_forget {T : List (Addr × Str)} (F : FunM K cH "forget" "House.forget" st_House_forget p_House_forget) (hF : Fre mg) (hS : Glob mg) (hT : Excs K mg) (hX : HX K mg) (C_House_need : CalM P w K mg base T cH 2 "need" p_House_need fn_House_need) : CalM P w K mg base T cH 3 "forget" p_House_forget fn_House_forget :=
  calM_of F sc_House_forget (imp_seq imp_expr (imp_seq imp_never (imp_seq imp_never imp_never))) fun cdv f A outer s H E g hgT B tk => (s_cons (s_expr (w_of (e_meth C_House_need B hgT hX.f (e_var 0) (a_cons (e_var 1) a_nil))))
    (s_cons s_never
    (s_cons s_never
    (s_one s_never))))
theorem ok_House_add {T : List (Addr × Str)} (F : FunM K cH "add" "House.add" st_House_add p_House_add) (hF : Fre mg) (hS : Glob mg) (hT : Excs K mg) (hX : HX K mg) (C_is_rule : CalF P w K mg base 2 "is_rule" p_is_rule fn_is_rule) : CalM P w K mg base T cH 3 "add" p_House_add fn_House_add :=
  calM_of F sc_House_add (imp_seq imp_set (imp_seq (imp_if imp_raise imp_skip) imp_never)) fun cdv f A outer s H E g hgT B tk => (s_cons (s_set 2 B.nd (w_of (e_ix (e_kept hX.f (e_var 0)) e_int)))
    (s_cons (s_if (PW.pt (w_or (t_not (t_val (e_callF C_is_rule B (a_cons (e_ix (e_kept hX.f (e_var 0)) e_int) (a_cons (e_var 1) a_nil))))) (w_or (t_in B.hr (e_var 1) (e_var 2)) (w_or1 (t_eq B.hr (e_len (by rfl) hF.len (a_cons (e_var 2) a_nil)) e_int))))) (s_one (s_raise hT.BadRule tk B rfl)) s_nil)
    (s_one s_never)))
theorem ok_House_state_of {T : List (Addr × Str)} (F : FunM K cH "state_of" "House.state_of" st_House_state_of p_House_state_of) (hF : Fre mg) (hS : Glob mg) (hT : Excs K mg) (hX : HX K mg) (C_House_need : CalM P w K mg base T cH 2 "need" p_House_need fn_House_need) : CalM P w K mg base T cH 3 "state_of" p_House_state_of fn_House_state_of :=
  calM_of F sc_House_state_of (imp_seq imp_expr (imp_seq imp_asg imp_ret)) fun cdv f A outer s H E g hgT B tk => (s_cons (s_expr (w_of (e_meth C_House_need B hgT hX.f (e_var 0) (a_cons (e_var 1) a_nil))))
    (s_cons (s_asg (w_of (e_ixX B.hr (e_known hX.f (e_var 0)) (e_var 1))) (sg_tup B.hc (sgs_cons (sg_name 2 B.nd) (sgs_cons (sg_name 3 B.nd) sgs_nil))))
    (s_one (s_ret (w_of (e_tup (a_cons (e_var 2) (a_cons (e_if (t_val (e_var 2)) (e_list (by rfl) hF.list (a_cons (e_var 3) a_nil)) (e_var 3)) a_nil)) (len_cons (len_cons len_nil))))))))
theorem mk_House (F : FunI K mg cH "House" "House.__init__" st_House p_House) (hF : Fre mg) (hS : Glob mg) (hT : Excs K mg) (hX : HX K mg) (C_is_talk : CalF P w K mg base 3 "is_talk" p_is_talk fn_is_talk) : CalMk P w K mg base cH 4 "House" p_House (spMk cH ft_House) :=
  mk_of_house (x1 := fun g E => tWS g mg E (wsRaise "BadTalk")) hX.f F sc_House rfl rfl fun f cdv A outer s H E g B tk => pss_cons (ps_if (t_not (t_val (e_callF C_is_talk B (a_cons (e_var 1) a_nil)))) (s_one (s_raise hT.BadTalk tk B rfl)) pss_nil)
    (pss_cons (ps_fld (pv 0) (pv 1) (by rfl)) (pss_cons (ps_fld (pv 0) pe_dnewK (by rfl)) (pss_cons (ps_fld (pv 0) pe_dnewK (by rfl)) (pss_one (ps_fld (pv 0) (pe_lst pa_nil) (by rfl))))))
theorem S_remember (F : FunM K cH "remember" "House.remember" st_House_remember p_House_remember) (hF : Fre mg) (hS : Glob mg) (hT : Excs K mg) (hX : HX K mg) : CalMS P w K mg base cH 1 "remember" p_House_remember (spRem cH) :=
  rem_of_house hX.f F sc_House_remember rfl rfl fun f cdv A outer s H E B tk => pss_one (ps_expr (pe_bm PySem.F.plainAttrs_list PySem.F.slot_list_append PySem.F.type_list_append mt_append (pe_fld (pv 0) (by rfl)) (pa_cons (pe_tup (pa_cons (pe_fld (pv 0) (by rfl)) (pa_cons (pe_callTy call_dictD (by rfl) hF.dict (by decide +kernel) (pa_cons (pe_fld (pv 0) (by rfl)) pa_nil)) (pa_cons (pe_callTy call_dictD (by rfl) hF.dict (by decide +kernel) (pa_cons (pe_fld (pv 0) (by rfl)) pa_nil)) pa_nil)))) pa_nil)))
theorem S_promise {T : List (Addr × Str)} (F : FunM K cH "promise" "House.promise" st_House_promise p_House_promise) (hF : Fre mg) (hS : Glob mg) (hT : Excs K mg) (hX : HX K mg) (C_is_word : CalF P w K mg base 1 "is_word" p_is_word fn_is_word) (C_need_targets : CalF P w K mg base 3 "need_targets" p_need_targets fn_need_targets) (C_answer : CalFT P w K mg base T 12 "answer" p_answer fn_answer) (S_House_remember : CalMS P w K mg base cH 1 "remember" p_House_remember (spRem cH)) : CalMS P w K mg base cH 13 "promise" p_House_promise (spPro T cH f1_House fn_need_targets fn_answer) :=
  pro_of_house (x1 := fun g E => tWS g mg E (wsRaise "BadName")) (x2 := fun g E => tWS g mg E (wsRaise "Taken")) hX.f F sc_House_promise rfl rfl fun f cdv A outer s H E g B tk => pss_cons (ps_if (t_not (t_val (e_callF C_is_word B (a_cons (e_var 1) a_nil)))) (s_one (s_raise hT.BadName tk B rfl)) pss_nil)
    (pss_cons (ps_if (pt_cmpR (or_inDict (Nat.lt_of_le_of_lt (Nat.add_le_add_left (by decide) _) B.hr.units)) (pv 1) (pe_fld (pv 0) (by rfl)) (by rfl)) (s_one (s_raise hT.Taken tk B rfl)) pss_nil)
    (pss_cons (ps_expr (v_callF C_need_targets B (pa_cons (pe_fld (pv 0) (by rfl)) (pa_cons (pv 2) pa_nil))))
    (pss_cons (ps_set (i := 3) B.nd rfl (Or.inl rfl) (v_callFT C_answer B (pa_cons (pe_fld (pv 0) (by rfl)) (pa_cons (pv 2) pa_nil))))
    (pss_cons (ps_expr (v_meth0 S_House_remember B hX.f (pv 0)))
    (pss_cons (ps_asg (pe_callTy call_list_of (by rfl) hF.list (by decide +kernel) (pa_cons (pv 2) pa_nil)) (pg_sub (pe_fld (pv 0) (by rfl)) (pv 1) (set_dict (Nat.lt_of_le_of_lt (Nat.add_le_add_left (by decide) _) B.hr.units))))
    (pss_cons (ps_asg (pv 3) (pg_sub (pe_fld (pv 0) (by rfl)) (pv 1) (set_dict (Nat.lt_of_le_of_lt (Nat.add_le_add_left (by decide) _) B.hr.units)))) (pss_one (ps_ret (pe_ix ix_seq (pv 3) pe_int (fun _ _ => rfl))))))))))
theorem ok_Lcell (F : FunA K mg "_law_cell" st_Lcell p_Lcell) (hF : Fre mg) : CalV P w K mg base 1 "_law_cell" p_Lcell (FW.spCell K) :=
  calS_of (t := fun _ => tCell K 7919 104729) F sc_Lcell (fun vs H Q E ⟨a, k, ns, e, _⟩ => by rw [e]; rfl) (fun f cdv A outer s H E B =>
    pss_cons (ps_if (pt_cmpR (op_eqD B.hr.units) (pv 0) (pe_lst pa_nil) (nomark _)) (pss_one (ps_ret (pe_op op_mul (pv 1) pe_int))) pss_nil) (pss_one (ps_ret (pe_op op_add (pe_ix ix_seq (pv 0) (pe_op op_mod (pv 1) (pe_callB call_len (by rfl) hF.len boot_len (pa_cons (pv 0) pa_nil))) (fun _ _ => rfl)) (pe_op op_mul (pe_op op_fdivW (pv 1) (pe_callB call_len (by rfl) hF.len boot_len (pa_cons (pv 0) pa_nil))) pe_int)))))
    (fun vs H Q E h => cell_run rfl (by decide) (by decide) vs H Q E h)
theorem ok_Ldrawn (F : FunA K mg "_law_drawn" st_Ldrawn p_Ldrawn) : CalV P w K mg base 1 "_law_drawn" p_Ldrawn FW.spDrawn :=
  calS_of (t := fun _ => tDrawn 6364136223846793005 1442695040888963407 340282366920938463463374607431768211507 340282366920938463463374607431768211297 18446744073709551557) F sc_Ldrawn (fun vs H Q E ⟨c, k, e, _⟩ => by rw [e]; rfl) (fun f cdv A outer s H E B =>
    pss_cons (ps_set (i := 2) B.nd rfl (Or.inl rfl) (pe_op op_mod (pe_op op_add (pe_op op_mul (pv 0) pe_int) (pe_op op_mul (pe_op op_add (pv 1) pe_int) pe_int)) pe_int)) (pss_cons (ps_set (i := 2) B.nd rfl (Or.inl rfl) (pe_op op_mod (pe_op op_mulW (pv 2) (pv 2)) pe_int)) (pss_cons (ps_set (i := 2) B.nd rfl (Or.inl rfl) (pe_op op_mulW (pe_op op_mulW (pe_op op_add (pe_op op_mod (pv 2) pe_int) pe_int) (pe_op op_add (pe_op op_fdivW (pv 2) pe_int) pe_int)) (pv 2))) (pss_one (ps_ret (pe_op op_mod (pv 2) pe_int))))))
    (fun vs H Q E h => drawn_run rfl (by decide) (by decide) (by decide) (by decide) (by decide) vs H Q E h)
theorem ok_Lroll (F : FunA K mg "_law_roll" st_Lroll p_Lroll) (C_Ldrawn : CalV P w K mg base 1 "_law_drawn" p_Ldrawn FW.spDrawn) : CalW P w K mg base 3 "_law_roll" p_Lroll fnRoll :=
  calV_of (t := fun E => tRoll K E) F sc_Lroll (fun vs H Q E ⟨g, I, ds, rl, hd, m, e, _⟩ => by rw [hd.len, e]; rfl) (fun f cdv A outer s H E B =>
    pss_cons (ps_if (pt_cmpR op_ge (pe_ix ix_seq (pv 0) pe_int (fun _ _ => rfl)) (pe_op op_pow pe_int pe_int) (nomark _)) (pss_cons (ps_set (i := 2) B.nd rfl (Or.inl rfl) (pe_op op_mod (pe_ix ix_seq (pv 0) pe_int (fun _ _ => rfl)) (pv 1))) (pss_cons (ps_asg (pe_op op_fdivW (pe_ix ix_seq (pv 0) pe_int (fun _ _ => rfl)) (pv 1)) (pg_sub (pv 0) pe_int set_list)) (pss_one (ps_ret (pv 2))))) pss_nil)
      (pss_cons (ps_asg (pe_op op_add (pe_ix ix_seq (pv 0) pe_int (fun _ _ => rfl)) pe_int) (pg_sub (pv 0) pe_int set_list)) (pss_one (ps_ret (pe_op op_mod (pe_op op_fdivW (v_call C_Ldrawn B (pa_cons (pe_ix ix_seq (pv 0) pe_int (fun _ _ => rfl)) (pa_cons (pe_ix ix_seq (pv 0) pe_int (fun _ _ => rfl)) pa_nil))) pe_int) (pv 1))))))
    (fun vs H Q E h => roll_run rfl vs H Q E h)
theorem ok_Lrounds (F : FunA K mg "_law_rounds" st_Lrounds p_Lrounds) (hF : Fre mg) (C_Lcell : CalV P w K mg base 1 "_law_cell" p_Lcell (FW.spCell K)) : CalV P w K mg base 2 "_law_rounds" p_Lrounds (FW.spRounds K) :=
  calS_of (t := fun _ => tRounds K) F sc_Lrounds (fun vs H Q E ⟨a, k, ns, e, _⟩ => by rw [e]; rfl) (fun f cdv A outer s H E B =>
    pss_one (ps_ret (pe_lc B.hc B.nd (pi_range1 (by rfl) hF.range (pa_cons (pe_callB (call_max2 B.hc) (by rfl) hF.max (by decide +kernel) (pa_cons pe_int (pa_cons (pe_callB (call_min2 B.hc) (by rfl) hF.min (by decide +kernel) (pa_cons (pv 1) (pa_cons (pe_callB call_len (by rfl) hF.len boot_len (pa_cons (pv 0) pa_nil)) pa_nil))) pa_nil))) pa_nil)) (blkOk_by (own := [("_law_k", 2)]) rfl)
      (fun s H C cl fp => pg_name (i := 2) B.nd rfl (Or.inl rfl)) (fun s H C cl fp => pts_nil) (fun s H C cl fp => pe_lst (pa_cons (v_call C_Lcell (B.blk s H _ _ fp) (pa_cons (pv 0) (pa_cons (pv 2) pa_nil))) (pa_cons pe_int pa_nil))))))
    (fun vs H Q E h => rounds_run rfl vs H Q E h)
theorem body_law {T : List (Addr × Str)} (F : FunA K mg "law" st_law p_law) (hF : Fre mg) (hS : Glob mg) (hT : Excs K mg) (hX : HX K mg) (C_Lroll : CalW P w K mg base 3 "_law_roll" p_Lroll fnRoll) (C_Lrounds : CalV P w K mg base 2 "_law_rounds" p_Lrounds (FW.spRounds K)) (C_is_standing : CalF P w K mg base 5 "is_standing" p_is_standing fn_is_standing) (C_start : CalF P w K mg base 5 "start" p_start fn_start) (C_size_of : CalF P w K mg base 5 "size_of" p_size_of fn_size_of) (C_behind : CalF P w K mg base 5 "behind" p_behind fn_behind) (C_rules_of : CalF P w K mg base 6 "rules_of" p_rules_of fn_rules_of) (C_basis : CalFT P w K mg base T 12 "basis" p_basis fn_basis) (C_bad_run : CalFT P w K mg base T 13 "bad_run" p_bad_run fn_bad_run) (C_House : CalMk P w K mg base cH 4 "House" p_House (spMk cH ft_House)) (C_House_promise : CalM P w K mg base T cH 14 "promise" p_House_promise fn_House_promise) (S_House_promise : CalMS P w K mg base cH 13 "promise" p_House_promise (spPro T cH f1_House fn_need_targets fn_answer)) (C_House_forget : CalM P w K mg base T cH 3 "forget" p_House_forget fn_House_forget) (C_House_add : CalM P w K mg base T cH 3 "add" p_House_add fn_House_add) (C_House_state_of : CalM P w K mg base T cH 3 "state_of" p_House_state_of fn_House_state_of) (C_coarser : CalF P w K mg base 5 "coarser" p_coarser fn_coarser) (C_breaks : CalF P w K mg base 6 "breaks" p_breaks fn_breaks) (C_read_standing : CalF P w K mg base 5 "read_standing" p_read_standing fn_read_standing) (C_is_kept : CalF P w K mg base 5 "is_kept" p_is_kept fn_is_kept) (C_Lalone : CalF P w K mg base 1 "_law_alone" p_Lalone fn_Lalone) {gT CT : Addr} {fdL : FuncData} (FMet : MetS P w K mg base "_law_met" csL st_Lmet gT fdL "_law_deed" "_law_e" "TalkError" CT) {f c Pt : Addr} (TB : TabB base mg c Pt) (hTi : (Pt, ((envOfC "law" (defScope st_law) 0 0 .none).qual ++ "<lambda>")) ∈ T) (hTu : ∀ p ∈ T, p.1 = Pt → p.2 = ((envOfC "law" (defScope st_law) 0 0 .none).qual ++ "<lambda>")) (A : Around) (outer : List PySem.Env) (s : Shared) (H : Hp) (E : XK) (g : Gd) (hgT : g.T = T) (B : Bd (cxOf (L2N.CX P w) P w K mg base N_law "law" (defScope st_law) f (.ref c) A outer s H E) E 18) (tk : L2N.Takes (cxOf (L2N.CX P w) P w K mg base N_law "law" (defScope st_law) f (.ref c) A outer s H E) (fun cls d _ H => E cls d H)) (body : List Stmt)
    (hbd : ∃ tg it p r, defBody st_law = .For tg it body [] p :: r) : PSs (cxOf (L2N.CX P w) P w K mg base N_law "law" (defScope st_law) f (.ref c) A outer s H E) body (tWS g mg E ws_law) := by
  have O : OwnT (cxOf (L2N.CX P w) P w K mg base N_law "law" (defScope st_law) f (.ref c) A outer s H E) T := ⟨c, Pt, TB, rfl, hTi, hTu⟩
  obtain ⟨tg, it, p, r, e⟩ := hbd
  obtain rfl : body = _ := (by injection e with e1 _; injection e1 with _ _ e3 _ _; exact e3.symm)
  exact (s_cons (s_asg (w_tup (wa_cons (w_add (w_of e_int) (w_callW mono_roll C_Lroll B (wa_of (a_cons (e_var 1) (a_cons e_int a_nil))))) (wa_cons (w_of (e_tup (a_cons (e_tup (a_cons e_str (a_cons e_str a_nil)) (len_cons (len_cons len_nil))) (a_cons e_str (a_cons (e_tup (a_cons e_int (a_cons e_int a_nil)) (len_cons (len_cons len_nil))) (a_cons (e_tup (a_cons (e_tup (a_cons e_str (a_cons e_str (a_cons e_str (a_cons e_str (a_cons e_str a_nil))))) (len_cons (len_cons (len_cons (len_cons (len_cons len_nil)))))) a_nil) (len_cons len_nil)) a_nil)))) (len_cons (len_cons (len_cons (len_cons len_nil)))))) wa_nil)) (lenw_cons (lenw_cons lenw_nil))) (sg_tup B.hc (sgs_cons (sg_name 2 B.nd) (sgs_cons (sg_name 3 B.nd) sgs_nil))))
    (ss_house hgT (ps_set (i := 4) B.nd rfl (Or.inr rfl) (v_make C_House B (pa_cons (pv 3) pa_nil))) (ps_expr (v_meth S_House_promise B hX.f (pv 4) (pa_cons pe_str (pa_cons (pe_lst (pa_cons (pe_tup (pa_cons pe_int (pa_cons (pv 2) pa_nil))) pa_nil)) pa_nil))))
    (s_cons (s_set 5 B.nd (w_of (e_tup (a_cons (e_tup (a_cons e_str (a_cons e_str (a_cons e_str a_nil))) (len_cons (len_cons (len_cons len_nil)))) (a_cons e_str (a_cons (e_tup (a_cons e_int (a_cons e_int (a_cons e_int a_nil))) (len_cons (len_cons (len_cons len_nil)))) (a_cons (e_tup (a_cons (e_tup (a_cons e_str (a_cons e_str (a_cons e_str (a_cons e_str (a_cons e_str a_nil))))) (len_cons (len_cons (len_cons (len_cons (len_cons len_nil)))))) (a_cons (e_tup (a_cons e_str (a_cons e_str (a_cons e_str (a_cons e_str (a_cons e_str a_nil))))) (len_cons (len_cons (len_cons (len_cons (len_cons len_nil)))))) a_nil)) (len_cons (len_cons len_nil))) a_nil)))) (len_cons (len_cons (len_cons (len_cons len_nil)))))))
    (s_cons (s_setO 6 B.nd (oF_lst (a_cons (e_metB (k := 15) FMet B O hgT (by decide) (fun A outer s H E f c' B => (e_callF C_is_standing B (a_cons (e_tup (a_cons (e_mulP (e_tup (a_cons e_str a_nil) (len_cons len_nil)) (e_var 2)) a_nil) (len_cons len_nil)) (a_cons e_non a_nil))))) a_nil) (len_cons len_nil)))
    (s_cons (s_app 6 (w_of (e_metB (k := 15) FMet B O hgT (by decide) (fun A outer s H E f c' B => (e_callF C_size_of B (a_cons (e_var 3) (a_cons (e_tup (a_cons (e_var 2) a_nil) (len_cons len_nil)) a_nil)))))))
    (s_cons (s_app 6 (w_of (e_metB (k := 15) FMet B O hgT (by decide) (fun A outer s H E f c' B => (e_callF C_start B (a_cons (e_var 3) (a_cons (e_add e_int (e_var 2)) a_nil)))))))
    (s_cons (s_app 6 (w_of (e_metB (k := 15) FMet B O hgT (by decide) (fun A outer s H E f c' B => (e_callFT C_basis B hgT (a_cons (e_var 3) (a_cons (e_lst (a_cons (e_tup (a_cons (e_add e_int (e_var 2)) (a_cons e_int a_nil)) (len_cons (len_cons len_nil))) a_nil) (len_cons len_nil)) a_nil)))))))
    (s_cons (s_app 6 (w_of (e_metB (k := 15) FMet B O hgT (by decide) (fun A outer s H E f c' B => (e_callF C_breaks B (a_cons (e_var 3) (a_cons (e_lst (a_cons (e_tup (a_cons e_int (a_cons (e_var 2) a_nil)) (len_cons (len_cons len_nil))) a_nil) (len_cons len_nil)) (a_cons (e_lst (a_cons (e_mulZ (e_tup (a_cons e_int a_nil) (len_cons len_nil)) (e_add e_int (e_var 2))) a_nil) (len_cons len_nil)) a_nil))))))))
    (s_cons (s_app 6 (w_of (e_metB (k := 15) FMet B O hgT (by decide) (fun A outer s H E f c' B => (e_callF C_is_kept B (a_cons (e_var 3) (a_cons (e_tup (a_cons (e_var 2) a_nil) (len_cons len_nil)) a_nil)))))))
    (s_cons (s_app 6 (w_of (e_metB (k := 15) FMet B O hgT (by decide) (fun A outer s H E f c' B => (e_callF C_coarser B (a_cons (e_var 3) (a_cons (e_disp (l := [((fC (.str "a")), (fOp dMulZ (fC (.str "x")) (fCB dMin2 (fCons (fC (.int 8)) (fCons (fVar 2) fNil)))))]) (pps_cons e_str (e_mulZ e_str (e_min2 B.hc (by rfl) hF.min (a_cons e_int (a_cons (e_var 2) a_nil)))) pps_nil) rfl) a_nil)))))))
    (s_cons (s_app 6 (w_of (e_metB (k := 15) FMet B O hgT (by decide) (fun A outer s H E f c' B => (e_callF C_rules_of B (a_cons (e_var 3) (a_cons (e_lst (a_cons (e_tup (a_cons e_int (a_cons (e_var 2) a_nil)) (len_cons (len_cons len_nil))) a_nil) (len_cons len_nil)) a_nil)))))))
    (s_cons (s_app 6 (w_of (e_metB (k := 15) FMet B O hgT (by decide) (fun A outer s H E f c' B => (e_meth C_House_add B hgT hX.f (e_var 4) (a_cons (e_tup (a_cons e_str (a_cons e_str (a_cons (e_mulZ e_str (e_add e_int (e_var 2))) a_nil))) (len_cons (len_cons (len_cons len_nil)))) a_nil))))))
    (s_cons (s_app 6 (w_of (e_metB (k := 15) FMet B O hgT (by decide) (fun A outer s H E f c' B => (e_meth C_House_forget B hgT hX.f (e_var 4) (a_cons (e_mulZ e_str (e_var 2)) a_nil))))))
    (s_cons (s_app 6 (w_of (e_metB (k := 15) FMet B O hgT (by decide) (fun A outer s H E f c' B => (e_meth C_House_promise B hgT hX.f (e_var 4) (a_cons e_str (a_cons (e_lst a_nil len_nil) a_nil)))))))
    (s_cons (s_app 6 (w_of (e_metB (k := 15) FMet B O hgT (by decide) (fun A outer s H E f c' B => (e_meth C_House_state_of B hgT hX.f (e_var 4) (a_cons (e_mulZ e_str (e_min2 B.hc (by rfl) hF.min (a_cons e_int (a_cons (e_var 2) a_nil)))) a_nil))))))
    (s_cons (s_app 6 (w_of (e_metB (k := 15) FMet B O hgT (by decide) (fun A outer s H E f c' B => (e_callF C_behind B (a_cons (e_var 3) (a_cons (e_tup (a_cons e_int (a_cons (e_var 2) a_nil)) (len_cons (len_cons len_nil))) (a_cons e_int a_nil))))))))
    (s_cons (s_app 6 (w_of (e_metB (k := 15) FMet B O hgT (by decide) (fun A outer s H E f c' B => (e_callFT C_bad_run B hgT (a_cons (e_var 5) (a_cons (e_lst (a_cons (e_tup (a_cons e_int (a_cons e_int (a_cons e_int a_nil))) (len_cons (len_cons (len_cons len_nil)))) a_nil) (len_cons len_nil)) a_nil)))))))
    (s_cons (s_app 6 (w_of (e_metB (k := 15) FMet B O hgT (by decide) (fun A outer s H E f c' B => (e_callF C_read_standing B (a_cons (e_var 3) (a_cons (e_mulZ e_str (e_add e_int (e_var 2))) a_nil)))))))
    (s_one (s_if (t_not (t_val (e_all B.hc (by rfl) hF.all (a_cons (e_lc B.hc B.nd (i_enum (by rfl) hF.enumerate (a_cons (e_var 6) a_nil)) (blkOk_by (own := [("_law_at", 7), ("_law_e", 8)]) rfl) (by decide) (inBlk B fun _ _ _ _ _ B => (g_tup B.hc (gs_cons (g_name 7 B.nd) (gs_cons (g_name 8 B.nd) gs_nil)))) (inBlk B fun _ _ _ _ _ B => ts_nil) (inBlk B fun _ _ _ _ _ B => (e_callF C_Lalone B (a_cons (e_var 8) (a_cons (e_var 7) a_nil))))) a_nil)))) (s_one (s_ret (w_of e_bl))) s_nil))))))))))))))))))))
end
end Lk31
set_option pp.maxSteps 1200
namespace Lk31
open PySem PySem.Spec PyProof.Rows L2 LamX FW
section
variable {P : Program} {w : World} {K : PySem.W.Frag} {mg : Str → Option Value} {base : Heap}
theorem ok_Lmet {CT : Addr} (Ft : FunA K mg "_law_met" st_Lmet p_Lmet) (hE : mg "TalkError" = some (.ref CT)) (h : ∀ c C, csL.lookup c = some C → mg c = some (.ref C) ∧ PySem.W.exmOne K (.ref C) (.ref CT) = some true) : ∃ gT fdL, MetS P w K mg base "_law_met" csL st_Lmet gT fdL "_law_deed" "_law_e" "TalkError" CT := by
  obtain ⟨gT, fdL, F1, a1, b1⟩ := Ft.ex
  exact ⟨gT, fdL, F1, a1, b1, sc_Lmet, Or.inl rfl, rfl, rfl, hE, by decide, ⟨_, _, _, _, _, _, _, _, _, _, _, rfl⟩, h⟩
end
end Lk31
set_option pp.maxSteps 1200
namespace Lk31
open PySem PySem.Spec PyProof.Rows L2 LamX FW
section
variable {w : World} {K : PySem.W.Frag} {mg : Str → Option Value} {h base : Heap}
abbrev Says (K : PySem.W.Frag) (h : Heap) : Prop := SaysY faL fnL moreB "law" "least_of" K h
theorem fa_is_whole (S : Says K h) (G : h.Ns mainGlobals mg) : FunA K mg "is_whole" st_is_whole p_is_whole := by
  obtain ⟨fd, F⟩ := S.fac.def_ 0 (d := d_is_whole) rfl
  exact ⟨_, fd, fun_of F, (He.glo_ok S.kin G (S.fac.fact 0 (f := .glo "is_whole") rfl)), FunD.bindsN F fun _ _ _ _ _ _ us hl => match us, hl with | [_, _, _], _ => rfl⟩
theorem fa_is_word (S : Says K h) (G : h.Ns mainGlobals mg) : FunA K mg "is_word" st_is_word p_is_word := by
  obtain ⟨fd, F⟩ := S.fac.def_ 1 (d := d_is_word) rfl
  exact ⟨_, fd, fun_of F, (He.glo_ok S.kin G (S.fac.fact 1 (f := .glo "is_word") rfl)), FunD.bindsN F fun _ _ _ _ _ _ us hl => match us, hl with | [_], _ => rfl⟩
theorem fa_are_counts (S : Says K h) (G : h.Ns mainGlobals mg) : FunA K mg "are_counts" st_are_counts p_are_counts := by
  obtain ⟨fd, F⟩ := S.fac.def_ 2 (d := d_are_counts) rfl
  exact ⟨_, fd, fun_of F, (He.glo_ok S.kin G (S.fac.fact 2 (f := .glo "are_counts") rfl)), FunD.bindsN F fun _ _ _ _ _ _ us hl => match us, hl with | [_, _, _], _ => rfl⟩
theorem fa_is_state (S : Says K h) (G : h.Ns mainGlobals mg) : FunA K mg "is_state" st_is_state p_is_state := by
  obtain ⟨fd, F⟩ := S.fac.def_ 3 (d := d_is_state) rfl
  exact ⟨_, fd, fun_of F, (He.glo_ok S.kin G (S.fac.fact 3 (f := .glo "is_state") rfl)), FunD.bindsN F fun _ _ _ _ _ _ us hl => match us, hl with | [_, _], _ => rfl⟩
theorem fa_is_rule (S : Says K h) (G : h.Ns mainGlobals mg) : FunA K mg "is_rule" st_is_rule p_is_rule := by
  obtain ⟨fd, F⟩ := S.fac.def_ 4 (d := d_is_rule) rfl
  exact ⟨_, fd, fun_of F, (He.glo_ok S.kin G (S.fac.fact 4 (f := .glo "is_rule") rfl)), FunD.bindsN F fun _ _ _ _ _ _ us hl => match us, hl with | [_, _], _ => rfl⟩
theorem fa_are_states (S : Says K h) (G : h.Ns mainGlobals mg) : FunA K mg "are_states" st_are_states p_are_states := by
  obtain ⟨fd, F⟩ := S.fac.def_ 5 (d := d_are_states) rfl
  exact ⟨_, fd, fun_of F, (He.glo_ok S.kin G (S.fac.fact 5 (f := .glo "are_states") rfl)), FunD.bindsN F fun _ _ _ _ _ _ us hl => match us, hl with | [_], _ => rfl⟩
theorem fa_is_talk (S : Says K h) (G : h.Ns mainGlobals mg) : FunA K mg "is_talk" st_is_talk p_is_talk := by
  obtain ⟨fd, F⟩ := S.fac.def_ 6 (d := d_is_talk) rfl
  exact ⟨_, fd, fun_of F, (He.glo_ok S.kin G (S.fac.fact 6 (f := .glo "is_talk") rfl)), FunD.bindsN F fun _ _ _ _ _ _ us hl => match us, hl with | [_], _ => rfl⟩
theorem fa_need_talk (S : Says K h) (G : h.Ns mainGlobals mg) : FunA K mg "need_talk" st_need_talk p_need_talk := by
  obtain ⟨fd, F⟩ := S.fac.def_ 7 (d := d_need_talk) rfl
  exact ⟨_, fd, fun_of F, (He.glo_ok S.kin G (S.fac.fact 7 (f := .glo "need_talk") rfl)), FunD.bindsN F fun _ _ _ _ _ _ us hl => match us, hl with | [_], _ => rfl⟩
theorem fa_is_good_standing (S : Says K h) (G : h.Ns mainGlobals mg) : FunA K mg "is_good_standing" st_is_good_standing p_is_good_standing := by
  obtain ⟨fd, F⟩ := S.fac.def_ 8 (d := d_is_good_standing) rfl
  exact ⟨_, fd, fun_of F, (He.glo_ok S.kin G (S.fac.fact 8 (f := .glo "is_good_standing") rfl)), FunD.bindsN F fun _ _ _ _ _ _ us hl => match us, hl with | [_, _], _ => rfl⟩
theorem fa_is_standing (S : Says K h) (G : h.Ns mainGlobals mg) : FunA K mg "is_standing" st_is_standing p_is_standing := by
  obtain ⟨fd, F⟩ := S.fac.def_ 9 (d := d_is_standing) rfl
  exact ⟨_, fd, fun_of F, (He.glo_ok S.kin G (S.fac.fact 9 (f := .glo "is_standing") rfl)), FunD.bindsN F fun _ _ _ _ _ _ us hl => match us, hl with | [_, _], _ => rfl⟩
theorem fa_need_standing (S : Says K h) (G : h.Ns mainGlobals mg) : FunA K mg "need_standing" st_need_standing p_need_standing := by
  obtain ⟨fd, F⟩ := S.fac.def_ 10 (d := d_need_standing) rfl
  exact ⟨_, fd, fun_of F, (He.glo_ok S.kin G (S.fac.fact 10 (f := .glo "need_standing") rfl)), FunD.bindsN F fun _ _ _ _ _ _ us hl => match us, hl with | [_, _], _ => rfl⟩
theorem fa_begun (S : Says K h) (G : h.Ns mainGlobals mg) : FunA K mg "begun" st_begun p_begun := by
  obtain ⟨fd, F⟩ := S.fac.def_ 11 (d := d_begun) rfl
  exact ⟨_, fd, fun_of F, (He.glo_ok S.kin G (S.fac.fact 11 (f := .glo "begun") rfl)), FunD.bindsN F fun _ _ _ _ _ _ us hl => match us, hl with | [_, _], _ => rfl⟩
theorem fa_start (S : Says K h) (G : h.Ns mainGlobals mg) : FunA K mg "start" st_start p_start := by
  obtain ⟨fd, F⟩ := S.fac.def_ 12 (d := d_start) rfl
  exact ⟨_, fd, fun_of F, (He.glo_ok S.kin G (S.fac.fact 12 (f := .glo "start") rfl)), FunD.bindsN F fun _ _ _ _ _ _ us hl => match us, hl with | [_, _], _ => rfl⟩
theorem fa_size_of (S : Says K h) (G : h.Ns mainGlobals mg) : FunA K mg "size_of" st_size_of p_size_of := by
  obtain ⟨fd, F⟩ := S.fac.def_ 13 (d := d_size_of) rfl
  exact ⟨_, fd, fun_of F, (He.glo_ok S.kin G (S.fac.fact 13 (f := .glo "size_of") rfl)), FunD.bindsN F fun _ _ _ _ _ _ us hl => match us, hl with | [_, _], _ => rfl⟩
theorem fa_is_over (S : Says K h) (G : h.Ns mainGlobals mg) : FunA K mg "is_over" st_is_over p_is_over := by
  obtain ⟨fd, F⟩ := S.fac.def_ 14 (d := d_is_over) rfl
  exact ⟨_, fd, fun_of F, (He.glo_ok S.kin G (S.fac.fact 14 (f := .glo "is_over") rfl)), FunD.bindsN F fun _ _ _ _ _ _ us hl => match us, hl with | [_, _], _ => rfl⟩
theorem fa_is_table (S : Says K h) (G : h.Ns mainGlobals mg) : FunA K mg "is_table" st_is_table p_is_table := by
  obtain ⟨fd, F⟩ := S.fac.def_ 15 (d := d_is_table) rfl
  exact ⟨_, fd, fun_of F, (He.glo_ok S.kin G (S.fac.fact 15 (f := .glo "is_table") rfl)), FunD.bindsN F fun _ _ _ _ _ _ us hl => match us, hl with | [_, _], _ => rfl⟩
theorem fa_least_of (S : Says K h) (G : h.Ns mainGlobals mg) : FunA K mg "least_of" st_least_of p_least_of := by
  obtain ⟨fd, F⟩ := S.fac.def_ 16 (d := d_least_of) rfl
  exact ⟨_, fd, fun_of F, (He.glo_ok S.kin G (S.fac.fact 16 (f := .glo "least_of") rfl)), FunD.bindsN F fun _ _ _ _ _ _ us hl => match us, hl with | [_], _ => rfl⟩
theorem fa_is_over_one (S : Says K h) (G : h.Ns mainGlobals mg) : FunA K mg "is_over_one" st_is_over_one p_is_over_one := by
  obtain ⟨fd, F⟩ := S.fac.def_ 17 (d := d_is_over_one) rfl
  exact ⟨_, fd, fun_of F, (He.glo_ok S.kin G (S.fac.fact 17 (f := .glo "is_over_one") rfl)), FunD.bindsN F fun _ _ _ _ _ _ us hl => match us, hl with | [_, _], _ => rfl⟩
theorem fa_vector (S : Says K h) (G : h.Ns mainGlobals mg) : FunA K mg "vector" st_vector p_vector := by
  obtain ⟨fd, F⟩ := S.fac.def_ 18 (d := d_vector) rfl
  exact ⟨_, fd, fun_of F, (He.glo_ok S.kin G (S.fac.fact 18 (f := .glo "vector") rfl)), FunD.bindsN F fun _ _ _ _ _ _ us hl => match us, hl with | [_, _], _ => rfl⟩
theorem fa_needed (S : Says K h) (G : h.Ns mainGlobals mg) : FunA K mg "needed" st_needed p_needed := by
  obtain ⟨fd, F⟩ := S.fac.def_ 19 (d := d_needed) rfl
  exact ⟨_, fd, fun_of F, (He.glo_ok S.kin G (S.fac.fact 19 (f := .glo "needed") rfl)), FunD.bindsN F fun _ _ _ _ _ _ us hl => match us, hl with | [_, _], _ => rfl⟩
theorem fa_granted (S : Says K h) (G : h.Ns mainGlobals mg) : FunA K mg "granted" st_granted p_granted := by
  obtain ⟨fd, F⟩ := S.fac.def_ 20 (d := d_granted) rfl
  exact ⟨_, fd, fun_of F, (He.glo_ok S.kin G (S.fac.fact 20 (f := .glo "granted") rfl)), FunD.bindsN F fun _ _ _ _ _ _ us hl => match us, hl with | [_, _], _ => rfl⟩
theorem fa_can (S : Says K h) (G : h.Ns mainGlobals mg) : FunA K mg "can" st_can p_can := by
  obtain ⟨fd, F⟩ := S.fac.def_ 21 (d := d_can) rfl
  exact ⟨_, fd, fun_of F, (He.glo_ok S.kin G (S.fac.fact 21 (f := .glo "can") rfl)), FunD.bindsN F fun _ _ _ _ _ _ us hl => match us, hl with | [_, _, _], _ => rfl⟩
theorem fa_need_number (S : Says K h) (G : h.Ns mainGlobals mg) : FunA K mg "need_number" st_need_number p_need_number := by
  obtain ⟨fd, F⟩ := S.fac.def_ 22 (d := d_need_number) rfl
  exact ⟨_, fd, fun_of F, (He.glo_ok S.kin G (S.fac.fact 22 (f := .glo "need_number") rfl)), FunD.bindsN F fun _ _ _ _ _ _ us hl => match us, hl with | [_, _], _ => rfl⟩
theorem fa_behind (S : Says K h) (G : h.Ns mainGlobals mg) : FunA K mg "behind" st_behind p_behind := by
  obtain ⟨fd, F⟩ := S.fac.def_ 23 (d := d_behind) rfl
  exact ⟨_, fd, fun_of F, (He.glo_ok S.kin G (S.fac.fact 23 (f := .glo "behind") rfl)), FunD.bindsN F fun _ _ _ _ _ _ us hl => match us, hl with | [_, _, _], _ => rfl⟩
theorem fa_steps_from (S : Says K h) (G : h.Ns mainGlobals mg) : FunA K mg "steps_from" st_steps_from p_steps_from := by
  obtain ⟨fd, F⟩ := S.fac.def_ 24 (d := d_steps_from) rfl
  exact ⟨_, fd, fun_of F, (He.glo_ok S.kin G (S.fac.fact 24 (f := .glo "steps_from") rfl)), FunD.bindsN F fun _ _ _ _ _ _ us hl => match us, hl with | [_, _], _ => rfl⟩
theorem fa_is_start (S : Says K h) (G : h.Ns mainGlobals mg) : FunA K mg "is_start" st_is_start p_is_start := by
  obtain ⟨fd, F⟩ := S.fac.def_ 25 (d := d_is_start) rfl
  exact ⟨_, fd, fun_of F, (He.glo_ok S.kin G (S.fac.fact 25 (f := .glo "is_start") rfl)), FunD.bindsN F fun _ _ _ _ _ _ us hl => match us, hl with | [_, _], _ => rfl⟩
theorem fa_need_rows (S : Says K h) (G : h.Ns mainGlobals mg) : FunA K mg "need_rows" st_need_rows p_need_rows := by
  obtain ⟨fd, F⟩ := S.fac.def_ 26 (d := d_need_rows) rfl
  exact ⟨_, fd, fun_of F, (He.glo_ok S.kin G (S.fac.fact 26 (f := .glo "need_rows") rfl)), FunD.bindsN F fun _ _ _ _ _ _ us hl => match us, hl with | [_, _], _ => rfl⟩
theorem fa_fault_of (S : Says K h) (G : h.Ns mainGlobals mg) : FunA K mg "fault_of" st_fault_of p_fault_of := by
  obtain ⟨fd, F⟩ := S.fac.def_ 27 (d := d_fault_of) rfl
  exact ⟨_, fd, fun_of F, (He.glo_ok S.kin G (S.fac.fact 27 (f := .glo "fault_of") rfl)), FunD.bindsN F fun _ _ _ _ _ _ us hl => match us, hl with | [_, _], _ => rfl⟩
theorem fa_rules_of (S : Says K h) (G : h.Ns mainGlobals mg) : FunA K mg "rules_of" st_rules_of p_rules_of := by
  obtain ⟨fd, F⟩ := S.fac.def_ 28 (d := d_rules_of) rfl
  exact ⟨_, fd, fun_of F, (He.glo_ok S.kin G (S.fac.fact 28 (f := .glo "rules_of") rfl)), FunD.bindsN F fun _ _ _ _ _ _ us hl => match us, hl with | [_, _], _ => rfl⟩
theorem fa_need_targets (S : Says K h) (G : h.Ns mainGlobals mg) : FunA K mg "need_targets" st_need_targets p_need_targets := by
  obtain ⟨fd, F⟩ := S.fac.def_ 29 (d := d_need_targets) rfl
  exact ⟨_, fd, fun_of F, (He.glo_ok S.kin G (S.fac.fact 29 (f := .glo "need_targets") rfl)), FunD.bindsN F fun _ _ _ _ _ _ us hl => match us, hl with | [_, _], _ => rfl⟩
theorem fa_added (S : Says K h) (G : h.Ns mainGlobals mg) : FunA K mg "added" st_added p_added := by
  obtain ⟨fd, F⟩ := S.fac.def_ 30 (d := d_added) rfl
  exact ⟨_, fd, fun_of F, (He.glo_ok S.kin G (S.fac.fact 30 (f := .glo "added") rfl)), FunD.bindsN F fun _ _ _ _ _ _ us hl => match us, hl with | [_, _], _ => rfl⟩
theorem fa_lacking (S : Says K h) (G : h.Ns mainGlobals mg) : FunA K mg "lacking" st_lacking p_lacking := by
  obtain ⟨fd, F⟩ := S.fac.def_ 31 (d := d_lacking) rfl
  exact ⟨_, fd, fun_of F, (He.glo_ok S.kin G (S.fac.fact 31 (f := .glo "lacking") rfl)), FunD.bindsN F fun _ _ _ _ _ _ us hl => match us, hl with | [_, _], _ => rfl⟩
theorem fa_parted (S : Says K h) (G : h.Ns mainGlobals mg) : FunA K mg "parted" st_parted p_parted := by
  obtain ⟨fd, F⟩ := S.fac.def_ 32 (d := d_parted) rfl
  exact ⟨_, fd, fun_of F, (He.glo_ok S.kin G (S.fac.fact 32 (f := .glo "parted") rfl)), FunD.bindsN F fun _ _ _ _ _ _ us hl => match us, hl with | [_, _, _], _ => rfl⟩
theorem fa_others_before (S : Says K h) (G : h.Ns mainGlobals mg) : FunA K mg "others_before" st_others_before p_others_before := by
  obtain ⟨fd, F⟩ := S.fac.def_ 33 (d := d_others_before) rfl
  exact ⟨_, fd, fun_of F, (He.glo_ok S.kin G (S.fac.fact 33 (f := .glo "others_before") rfl)), FunD.bindsN F fun _ _ _ _ _ _ us hl => match us, hl with | [_, _, _], _ => rfl⟩
theorem fa_before_of (S : Says K h) (G : h.Ns mainGlobals mg) : FunA K mg "before_of" st_before_of p_before_of := by
  obtain ⟨fd, F⟩ := S.fac.def_ 34 (d := d_before_of) rfl
  exact ⟨_, fd, fun_of F, (He.glo_ok S.kin G (S.fac.fact 34 (f := .glo "before_of") rfl)), FunD.bindsN F fun _ _ _ _ _ _ us hl => match us, hl with | [_, _, _], _ => rfl⟩
theorem fa_before_all (S : Says K h) (G : h.Ns mainGlobals mg) : FunA K mg "before_all" st_before_all p_before_all := by
  obtain ⟨fd, F⟩ := S.fac.def_ 35 (d := d_before_all) rfl
  exact ⟨_, fd, fun_of F, (He.glo_ok S.kin G (S.fac.fact 35 (f := .glo "before_all") rfl)), FunD.bindsN F fun _ _ _ _ _ _ us hl => match us, hl with | [_, _], _ => rfl⟩
theorem fa_basis_of (S : Says K h) (G : h.Ns mainGlobals mg) : FunA K mg "basis_of" st_basis_of p_basis_of := by
  obtain ⟨fd, F⟩ := S.fac.def_ 36 (d := d_basis_of) rfl
  exact ⟨_, fd, fun_of F, (He.glo_ok S.kin G (S.fac.fact 36 (f := .glo "basis_of") rfl)), FunD.bindsN F fun _ _ _ _ _ _ us hl => match us, hl with | [_, _], _ => rfl⟩
theorem fa_basis (S : Says K h) (G : h.Ns mainGlobals mg) : FunA K mg "basis" st_basis p_basis := by
  obtain ⟨fd, F⟩ := S.fac.def_ 37 (d := d_basis) rfl
  exact ⟨_, fd, fun_of F, (He.glo_ok S.kin G (S.fac.fact 37 (f := .glo "basis") rfl)), FunD.bindsN F fun _ _ _ _ _ _ us hl => match us, hl with | [_, _], _ => rfl⟩
theorem fa_size_for (S : Says K h) (G : h.Ns mainGlobals mg) : FunA K mg "size_for" st_size_for p_size_for := by
  obtain ⟨fd, F⟩ := S.fac.def_ 38 (d := d_size_for) rfl
  exact ⟨_, fd, fun_of F, (He.glo_ok S.kin G (S.fac.fact 38 (f := .glo "size_for") rfl)), FunD.bindsN F fun _ _ _ _ _ _ us hl => match us, hl with | [_, _], _ => rfl⟩
theorem fa_least_of_sizes (S : Says K h) (G : h.Ns mainGlobals mg) : FunA K mg "least_of_sizes" st_least_of_sizes p_least_of_sizes := by
  obtain ⟨fd, F⟩ := S.fac.def_ 39 (d := d_least_of_sizes) rfl
  exact ⟨_, fd, fun_of F, (He.glo_ok S.kin G (S.fac.fact 39 (f := .glo "least_of_sizes") rfl)), FunD.bindsN F fun _ _ _ _ _ _ us hl => match us, hl with | [_, _], _ => rfl⟩
theorem fa_bad_run (S : Says K h) (G : h.Ns mainGlobals mg) : FunA K mg "bad_run" st_bad_run p_bad_run := by
  obtain ⟨fd, F⟩ := S.fac.def_ 40 (d := d_bad_run) rfl
  exact ⟨_, fd, fun_of F, (He.glo_ok S.kin G (S.fac.fact 40 (f := .glo "bad_run") rfl)), FunD.bindsN F fun _ _ _ _ _ _ us hl => match us, hl with | [_, _], _ => rfl⟩
theorem fa_answer (S : Says K h) (G : h.Ns mainGlobals mg) : FunA K mg "answer" st_answer p_answer := by
  obtain ⟨fd, F⟩ := S.fac.def_ 41 (d := d_answer) rfl
  exact ⟨_, fd, fun_of F, (He.glo_ok S.kin G (S.fac.fact 41 (f := .glo "answer") rfl)), FunD.bindsN F fun _ _ _ _ _ _ us hl => match us, hl with | [_, _], _ => rfl⟩
theorem fa_House (S : Says K h) (G : h.Ns mainGlobals mg) (e : He.ga K "House" = cH) : FunI K mg cH "House" "House.__init__" st_House p_House := by
  obtain ⟨fd, F⟩ := S.fac.def_ 42 (d := d_House) rfl
  exact funI_of (y := "House") e (He.mkr_ok (S.fac.fact 117 (f := .mkr "House") rfl)) (He.glo_ok S.kin G (S.fac.fact 42 (f := .glo "House") rfl)) (fun_of F) (FunD.bindsN F fun _ _ _ _ _ _ us hl => match us, hl with | [_, _], _ => rfl)
theorem fa_House_remember (S : Says K h) (e : He.ga K "House" = cH) : FunM K cH "remember" "House.remember" st_House_remember p_House_remember := by
  obtain ⟨fd, F⟩ := S.fac.def_ 43 (d := d_House_remember) rfl
  exact funM_of e (fun_of F) (He.meth_ok (S.fac.fact 123 (f := .meth "House" "remember") rfl)) (FunD.bindsN F fun _ _ _ _ _ _ us hl => match us, hl with | [_], _ => rfl)
theorem fa_House_need (S : Says K h) (e : He.ga K "House" = cH) : FunM K cH "need" "House.need" st_House_need p_House_need := by
  obtain ⟨fd, F⟩ := S.fac.def_ 44 (d := d_House_need) rfl
  exact funM_of e (fun_of F) (He.meth_ok (S.fac.fact 124 (f := .meth "House" "need") rfl)) (FunD.bindsN F fun _ _ _ _ _ _ us hl => match us, hl with | [_, _], _ => rfl)
theorem fa_House_promise (S : Says K h) (e : He.ga K "House" = cH) : FunM K cH "promise" "House.promise" st_House_promise p_House_promise := by
  obtain ⟨fd, F⟩ := S.fac.def_ 45 (d := d_House_promise) rfl
  exact funM_of e (fun_of F) (He.meth_ok (S.fac.fact 125 (f := .meth "House" "promise") rfl)) (FunD.bindsN F fun _ _ _ _ _ _ us hl => match us, hl with | [_, _, _], _ => rfl)
theorem fa_House_forget (S : Says K h) (e : He.ga K "House" = cH) : FunM K cH "forget" "House.forget" st_House_forget p_House_forget := by
  obtain ⟨fd, F⟩ := S.fac.def_ 46 (d := d_House_forget) rfl
  exact funM_of e (fun_of F) (He.meth_ok (S.fac.fact 126 (f := .meth "House" "forget") rfl)) (FunD.bindsN F fun _ _ _ _ _ _ us hl => match us, hl with | [_, _], _ => rfl)
theorem fa_House_add (S : Says K h) (e : He.ga K "House" = cH) : FunM K cH "add" "House.add" st_House_add p_House_add := by
  obtain ⟨fd, F⟩ := S.fac.def_ 47 (d := d_House_add) rfl
  exact funM_of e (fun_of F) (He.meth_ok (S.fac.fact 127 (f := .meth "House" "add") rfl)) (FunD.bindsN F fun _ _ _ _ _ _ us hl => match us, hl with | [_, _], _ => rfl)
theorem fa_House_state_of (S : Says K h) (e : He.ga K "House" = cH) : FunM K cH "state_of" "House.state_of" st_House_state_of p_House_state_of := by
  obtain ⟨fd, F⟩ := S.fac.def_ 48 (d := d_House_state_of) rfl
  exact funM_of e (fun_of F) (He.meth_ok (S.fac.fact 128 (f := .meth "House" "state_of") rfl)) (FunD.bindsN F fun _ _ _ _ _ _ us hl => match us, hl with | [_, _], _ => rfl)
theorem fa_words_of (S : Says K h) (G : h.Ns mainGlobals mg) : FunA K mg "words_of" st_words_of p_words_of := by
  obtain ⟨fd, F⟩ := S.fac.def_ 49 (d := d_words_of) rfl
  exact ⟨_, fd, fun_of F, (He.glo_ok S.kin G (S.fac.fact 43 (f := .glo "words_of") rfl)), FunD.bindsN F fun _ _ _ _ _ _ us hl => match us, hl with | [_, _], _ => rfl⟩
theorem fa_need_table (S : Says K h) (G : h.Ns mainGlobals mg) : FunA K mg "need_table" st_need_table p_need_table := by
  obtain ⟨fd, F⟩ := S.fac.def_ 50 (d := d_need_table) rfl
  exact ⟨_, fd, fun_of F, (He.glo_ok S.kin G (S.fac.fact 44 (f := .glo "need_table") rfl)), FunD.bindsN F fun _ _ _ _ _ _ us hl => match us, hl with | [_, _], _ => rfl⟩
theorem fa_coarser (S : Says K h) (G : h.Ns mainGlobals mg) : FunA K mg "coarser" st_coarser p_coarser := by
  obtain ⟨fd, F⟩ := S.fac.def_ 51 (d := d_coarser) rfl
  exact ⟨_, fd, fun_of F, (He.glo_ok S.kin G (S.fac.fact 45 (f := .glo "coarser") rfl)), FunD.bindsN F fun _ _ _ _ _ _ us hl => match us, hl with | [_, _], _ => rfl⟩
theorem fa_is_form (S : Says K h) (G : h.Ns mainGlobals mg) : FunA K mg "is_form" st_is_form p_is_form := by
  obtain ⟨fd, F⟩ := S.fac.def_ 52 (d := d_is_form) rfl
  exact ⟨_, fd, fun_of F, (He.glo_ok S.kin G (S.fac.fact 46 (f := .glo "is_form") rfl)), FunD.bindsN F fun _ _ _ _ _ _ us hl => match us, hl with | [_, _], _ => rfl⟩
theorem fa_need_paper (S : Says K h) (G : h.Ns mainGlobals mg) : FunA K mg "need_paper" st_need_paper p_need_paper := by
  obtain ⟨fd, F⟩ := S.fac.def_ 53 (d := d_need_paper) rfl
  exact ⟨_, fd, fun_of F, (He.glo_ok S.kin G (S.fac.fact 47 (f := .glo "need_paper") rfl)), FunD.bindsN F fun _ _ _ _ _ _ us hl => match us, hl with | [_, _], _ => rfl⟩
theorem fa_breaks (S : Says K h) (G : h.Ns mainGlobals mg) : FunA K mg "breaks" st_breaks p_breaks := by
  obtain ⟨fd, F⟩ := S.fac.def_ 54 (d := d_breaks) rfl
  exact ⟨_, fd, fun_of F, (He.glo_ok S.kin G (S.fac.fact 48 (f := .glo "breaks") rfl)), FunD.bindsN F fun _ _ _ _ _ _ us hl => match us, hl with | [_, _, _], _ => rfl⟩
theorem fa_number_in (S : Says K h) (G : h.Ns mainGlobals mg) : FunA K mg "number_in" st_number_in p_number_in := by
  obtain ⟨fd, F⟩ := S.fac.def_ 55 (d := d_number_in) rfl
  exact ⟨_, fd, fun_of F, (He.glo_ok S.kin G (S.fac.fact 49 (f := .glo "number_in") rfl)), FunD.bindsN F fun _ _ _ _ _ _ us hl => match us, hl with | [_], _ => rfl⟩
theorem fa_read_standing (S : Says K h) (G : h.Ns mainGlobals mg) : FunA K mg "read_standing" st_read_standing p_read_standing := by
  obtain ⟨fd, F⟩ := S.fac.def_ 56 (d := d_read_standing) rfl
  exact ⟨_, fd, fun_of F, (He.glo_ok S.kin G (S.fac.fact 50 (f := .glo "read_standing") rfl)), FunD.bindsN F fun _ _ _ _ _ _ us hl => match us, hl with | [_, _], _ => rfl⟩
theorem fa_are_weights (S : Says K h) (G : h.Ns mainGlobals mg) : FunA K mg "are_weights" st_are_weights p_are_weights := by
  obtain ⟨fd, F⟩ := S.fac.def_ 57 (d := d_are_weights) rfl
  exact ⟨_, fd, fun_of F, (He.glo_ok S.kin G (S.fac.fact 51 (f := .glo "are_weights") rfl)), FunD.bindsN F fun _ _ _ _ _ _ us hl => match us, hl with | [_, _], _ => rfl⟩
theorem fa_need_weights (S : Says K h) (G : h.Ns mainGlobals mg) : FunA K mg "need_weights" st_need_weights p_need_weights := by
  obtain ⟨fd, F⟩ := S.fac.def_ 58 (d := d_need_weights) rfl
  exact ⟨_, fd, fun_of F, (He.glo_ok S.kin G (S.fac.fact 52 (f := .glo "need_weights") rfl)), FunD.bindsN F fun _ _ _ _ _ _ us hl => match us, hl with | [_, _], _ => rfl⟩
theorem fa_is_kept (S : Says K h) (G : h.Ns mainGlobals mg) : FunA K mg "is_kept" st_is_kept p_is_kept := by
  obtain ⟨fd, F⟩ := S.fac.def_ 59 (d := d_is_kept) rfl
  exact ⟨_, fd, fun_of F, (He.glo_ok S.kin G (S.fac.fact 53 (f := .glo "is_kept") rfl)), FunD.bindsN F fun _ _ _ _ _ _ us hl => match us, hl with | [_, _], _ => rfl⟩
theorem fa_Lcell (S : Says K h) (G : h.Ns mainGlobals mg) : FunA K mg "_law_cell" st_Lcell p_Lcell := by
  obtain ⟨fd, F⟩ := S.fac.def_ 60 (d := d_Lcell) rfl
  exact ⟨_, fd, fun_of F, (He.glo_ok S.kin G (S.fac.fact 54 (f := .glo "_law_cell") rfl)), FunD.bindsN F fun _ _ _ _ _ _ us hl => match us, hl with | [_, _], _ => rfl⟩
theorem fa_Ldrawn (S : Says K h) (G : h.Ns mainGlobals mg) : FunA K mg "_law_drawn" st_Ldrawn p_Ldrawn := by
  obtain ⟨fd, F⟩ := S.fac.def_ 61 (d := d_Ldrawn) rfl
  exact ⟨_, fd, fun_of F, (He.glo_ok S.kin G (S.fac.fact 55 (f := .glo "_law_drawn") rfl)), FunD.bindsN F fun _ _ _ _ _ _ us hl => match us, hl with | [_, _], _ => rfl⟩
theorem fa_Lroll (S : Says K h) (G : h.Ns mainGlobals mg) : FunA K mg "_law_roll" st_Lroll p_Lroll := by
  obtain ⟨fd, F⟩ := S.fac.def_ 62 (d := d_Lroll) rfl
  exact ⟨_, fd, fun_of F, (He.glo_ok S.kin G (S.fac.fact 56 (f := .glo "_law_roll") rfl)), FunD.bindsN F fun _ _ _ _ _ _ us hl => match us, hl with | [_, _], _ => rfl⟩
theorem fa_Lrounds (S : Says K h) (G : h.Ns mainGlobals mg) : FunA K mg "_law_rounds" st_Lrounds p_Lrounds := by
  obtain ⟨fd, F⟩ := S.fac.def_ 63 (d := d_Lrounds) rfl
  exact ⟨_, fd, fun_of F, (He.glo_ok S.kin G (S.fac.fact 57 (f := .glo "_law_rounds") rfl)), FunD.bindsN F fun _ _ _ _ _ _ us hl => match us, hl with | [_, _], _ => rfl⟩
theorem fa_Lmet (S : Says K h) (G : h.Ns mainGlobals mg) : FunA K mg "_law_met" st_Lmet p_Lmet := by
  obtain ⟨fd, F⟩ := S.fac.def_ 64 (d := d_Lmet) rfl
  exact ⟨_, fd, fun_of F, (He.glo_ok S.kin G (S.fac.fact 58 (f := .glo "_law_met") rfl)), FunD.bindsN F fun _ _ _ _ _ _ us hl => match us, hl with | [_], _ => rfl⟩
theorem fa_Lalone (S : Says K h) (G : h.Ns mainGlobals mg) : FunA K mg "_law_alone" st_Lalone p_Lalone := by
  obtain ⟨fd, F⟩ := S.fac.def_ 65 (d := d_Lalone) rfl
  exact ⟨_, fd, fun_of F, (He.glo_ok S.kin G (S.fac.fact 59 (f := .glo "_law_alone") rfl)), FunD.bindsN F fun _ _ _ _ _ _ us hl => match us, hl with | [_, _], _ => rfl⟩
theorem fa_law (S : Says K h) (G : h.Ns mainGlobals mg) : FunA K mg "law" st_law p_law := by
  obtain ⟨fd, F⟩ := S.fac.def_ 66 (d := d_law) rfl
  exact ⟨_, fd, fun_of F, (He.glo_ok S.kin G (S.fac.fact 60 (f := .glo "law") rfl)), FunD.bindsN F fun _ _ _ _ _ _ us hl => match us, hl with | [_], _ => rfl⟩
theorem freL (S : Says K h) (G : h.Ns mainGlobals mg) : Fre mg := ⟨He.free_ok S.kin G (S.fac.fact 77 (f := .free "len") rfl), He.free_ok S.kin G (S.fac.fact 78 (f := .free "all") rfl), He.free_ok S.kin G (S.fac.fact 79 (f := .free "any") rfl), He.free_ok S.kin G (S.fac.fact 80 (f := .free "sum") rfl), He.free_ok S.kin G (S.fac.fact 81 (f := .free "tuple") rfl), He.free_ok S.kin G (S.fac.fact 82 (f := .free "list") rfl), He.free_ok S.kin G (S.fac.fact 83 (f := .free "int") rfl), He.free_ok S.kin G (S.fac.fact 84 (f := .free "max") rfl), He.free_ok S.kin G (S.fac.fact 85 (f := .free "min") rfl), He.free_ok S.kin G (S.fac.fact 86 (f := .free "range") rfl), He.free_ok S.kin G (S.fac.fact 87 (f := .free "enumerate") rfl), He.free_ok S.kin G (S.fac.fact 88 (f := .free "zip") rfl), He.free_ok S.kin G (S.fac.fact 89 (f := .free "isinstance") rfl), He.free_ok S.kin G (S.fac.fact 90 (f := .free "str") rfl), He.free_ok S.kin G (S.fac.fact 91 (f := .free "bool") rfl), He.free_ok S.kin G (S.fac.fact 92 (f := .free "dict") rfl), He.free_ok S.kin G (S.fac.fact 93 (f := .free "set") rfl), He.free_ok S.kin G (S.fac.fact 94 (f := .free "sorted") rfl), He.free_ok S.kin G (S.fac.fact 95 (f := .free "abs") rfl)⟩
theorem globL (S : Says K h) (G : h.Ns mainGlobals mg) : Glob mg := ⟨He.str_ok S.kin G (S.fac.fact 97 (f := .str "SMALL" "abcdefghijklmnopqrstuvwxyz") rfl), He.str_ok S.kin G (S.fac.fact 98 (f := .str "FIGURES" "0123456789") rfl), He.int_ok S.kin G (S.fac.fact 99 (f := .int "MOST" 9999) rfl), He.int_ok S.kin G (S.fac.fact 100 (f := .int "MOST_SIZE" 12) rfl), He.int_ok S.kin G (S.fac.fact 101 (f := .int "MOST_REACHED" 4000) rfl)⟩
theorem excT_of {x : Str} (hg : mg x = some (.ref (He.ga K x))) (c : (He.Fa.exc x).ok K = true) : ExcT K mg x (He.ga K x) := ⟨hg, (He.exc_ok c).1, (He.exc_ok c).2.1, (He.exc_ok c).2.2.1, (He.exc_ok c).2.2.2⟩
theorem excsL (S : Says K h) (G : h.Ns mainGlobals mg) : Excs K mg := ⟨excT_of (He.glo_ok S.kin G (S.fac.fact 62 (f := .glo "BadTalk") rfl)) (S.fac.fact 102 (f := .exc "BadTalk") rfl), excT_of (He.glo_ok S.kin G (S.fac.fact 63 (f := .glo "BadStanding") rfl)) (S.fac.fact 103 (f := .exc "BadStanding") rfl), excT_of (He.glo_ok S.kin G (S.fac.fact 64 (f := .glo "BadNumber") rfl)) (S.fac.fact 104 (f := .exc "BadNumber") rfl), excT_of (He.glo_ok S.kin G (S.fac.fact 65 (f := .glo "BadTargets") rfl)) (S.fac.fact 105 (f := .exc "BadTargets") rfl), excT_of (He.glo_ok S.kin G (S.fac.fact 66 (f := .glo "BadPaper") rfl)) (S.fac.fact 106 (f := .exc "BadPaper") rfl), excT_of (He.glo_ok S.kin G (S.fac.fact 67 (f := .glo "BadWeights") rfl)) (S.fac.fact 107 (f := .exc "BadWeights") rfl), excT_of (He.glo_ok S.kin G (S.fac.fact 68 (f := .glo "BadTable") rfl)) (S.fac.fact 108 (f := .exc "BadTable") rfl), excT_of (He.glo_ok S.kin G (S.fac.fact 69 (f := .glo "BadRun") rfl)) (S.fac.fact 109 (f := .exc "BadRun") rfl), excT_of (He.glo_ok S.kin G (S.fac.fact 70 (f := .glo "BadRule") rfl)) (S.fac.fact 110 (f := .exc "BadRule") rfl), excT_of (He.glo_ok S.kin G (S.fac.fact 71 (f := .glo "BadName") rfl)) (S.fac.fact 111 (f := .exc "BadName") rfl), excT_of (He.glo_ok S.kin G (S.fac.fact 72 (f := .glo "Taken") rfl)) (S.fac.fact 112 (f := .exc "Taken") rfl), excT_of (He.glo_ok S.kin G (S.fac.fact 73 (f := .glo "NoName") rfl)) (S.fac.fact 113 (f := .exc "NoName") rfl), excT_of (He.glo_ok S.kin G (S.fac.fact 74 (f := .glo "Nothing") rfl)) (S.fac.fact 114 (f := .exc "Nothing") rfl), excT_of (He.glo_ok S.kin G (S.fac.fact 75 (f := .glo "Full") rfl)) (S.fac.fact 115 (f := .exc "Full") rfl), excT_of (He.glo_ok S.kin G (S.fac.fact 76 (f := .glo "BadText") rfl)) (S.fac.fact 116 (f := .exc "BadText") rfl)⟩
theorem namL (S : Says K h) (G : h.Ns mainGlobals mg) : ∀ y, y ∈ names → mg y = some (.ref (He.ga K y)) := by
  intro y hy
  unfold names at hy
  simp only [List.mem_cons, List.not_mem_nil, or_false] at hy
  rcases hy with rfl | rfl | rfl | rfl | rfl | rfl | rfl | rfl | rfl | rfl | rfl | rfl | rfl | rfl | rfl
  · exact (He.glo_ok S.kin G (S.fac.fact 62 (f := .glo "BadTalk") rfl))
  · exact (He.glo_ok S.kin G (S.fac.fact 63 (f := .glo "BadStanding") rfl))
  · exact (He.glo_ok S.kin G (S.fac.fact 64 (f := .glo "BadNumber") rfl))
  · exact (He.glo_ok S.kin G (S.fac.fact 65 (f := .glo "BadTargets") rfl))
  · exact (He.glo_ok S.kin G (S.fac.fact 66 (f := .glo "BadPaper") rfl))
  · exact (He.glo_ok S.kin G (S.fac.fact 67 (f := .glo "BadWeights") rfl))
  · exact (He.glo_ok S.kin G (S.fac.fact 68 (f := .glo "BadTable") rfl))
  · exact (He.glo_ok S.kin G (S.fac.fact 69 (f := .glo "BadRun") rfl))
  · exact (He.glo_ok S.kin G (S.fac.fact 70 (f := .glo "BadRule") rfl))
  · exact (He.glo_ok S.kin G (S.fac.fact 71 (f := .glo "BadName") rfl))
  · exact (He.glo_ok S.kin G (S.fac.fact 72 (f := .glo "Taken") rfl))
  · exact (He.glo_ok S.kin G (S.fac.fact 73 (f := .glo "NoName") rfl))
  · exact (He.glo_ok S.kin G (S.fac.fact 74 (f := .glo "Nothing") rfl))
  · exact (He.glo_ok S.kin G (S.fac.fact 75 (f := .glo "Full") rfl))
  · exact (He.glo_ok S.kin G (S.fac.fact 76 (f := .glo "BadText") rfl))
abbrev TL (Pt P2 : Addr) : List (Addr × Str) := [(Pt, (envOfC "law" (defScope st_law) 0 0 .none).qual ++ "<lambda>"), (P2, (envOfC "least_of" (defScope st_least_of) 0 0 .none).qual ++ "<lambda>")]
theorem okLaw (pure_law : ws_law.run (r0 N_law.length) kRound) (S : Says K h) (G : h.Ns mainGlobals mg) (hfa : mg "law" = some (.ref fa)) : LamX.LawAtS PySem.Challenge.rw_manyends_k31_refusals_apart w K (L2N.CX PySem.Challenge.pw_manyends_k31_refusals_apart w) 19 63 "_law_script" mg fa h := by
  obtain ⟨fd, F⟩ := S.fac.def_ 66 (d := d_law) rfl
  obtain ⟨c, Pt, c2, P2, T, T2, n1, n2⟩ := S.tab
  have e := hfa.symm.trans (He.glo_ok S.kin G (S.fac.fact 60 (f := .glo "law") rfl))
  cases e
  have hF := freL S G
  have hS := globL S G
  have hT := excsL S G
  have mor := S.mor
  unfold moreB at mor
  simp only [Bool.and_eq_true, decide_eq_true_eq] at mor
  obtain ⟨m1, m2, eH⟩ := mor
  have hC : ∀ c ∈ names, ClsF K "TalkError" names c := fun c hc => clsB_ok (List.all_eq_true.mp m1 c hc)
  have hP : ∀ p ∈ csL, He.ga K p.1 = p.2 := fun p hp => of_decide_eq_true (List.all_eq_true.mp m2 p hp)
  have hN : ∀ p ∈ csL, p.1 ∈ names := by decide
  have hX : HX K mg := ⟨exF_of hC hP (namL S G) hN (by decide), hsF_of eH (He.cls_ok (S.fac.fact 118 (f := .cls "House") rfl)) (He.noat_ok (S.fac.fact 119 (f := .noat "House" "kept") rfl)) (He.noat_ok (S.fac.fact 120 (f := .noat "House" "table") rfl)) (He.noat_ok (S.fac.fact 121 (f := .noat "House" "known") rfl)) (He.noat_ok (S.fac.fact 122 (f := .noat "House" "past") rfl)), He.free_ok S.kin G (S.fac.fact 96 (f := .free "ValueError") rfl)⟩
  have b := FunD.bindsA (ps := ["_law_script"]) F fun _ _ _ _ _ _ us hl => match us, hl with | [_], _ => rfl
  refine ⟨fd, [(c, Pt), (c2, P2)], FW.spLaw K (TL Pt P2), fun p hp => ?_, fun p hp => ?_, fun p hp => ?_, fun s u => b s [u] rfl, fun H a ns hn _ hH hSq => ⟨a, ns, rfl, hSq, by omega, fun p hp => ?_, fun _ => rfl⟩, fun base _ _ hTB => ?_⟩
  · rcases List.mem_cons.mp hp with hp | hp
    · rw [hp]; exact T.em
    · rw [List.mem_singleton.mp hp]; exact T2.em
  · rcases List.mem_cons.mp hp with hp | hp
    · rw [hp]; exact T.no
    · rw [List.mem_singleton.mp hp]; exact T2.no
  · rcases List.mem_cons.mp hp with hp | hp
    · rw [hp]; exact T.hd
    · rw [List.mem_singleton.mp hp]; exact T2.hd
  · rcases List.mem_cons.mp hp with hp | hp
    · rw [hp]; exact TabS.nil (hH _ List.mem_cons_self)
    · rw [List.mem_singleton.mp hp]; exact TabS.nil (hH _ (List.mem_cons_of_mem _ (List.mem_singleton.mpr rfl)))
  · have TB := hTB (c, Pt) List.mem_cons_self
    have TB2 := hTB (c2, P2) (List.mem_cons_of_mem _ (List.mem_singleton.mpr rfl))
    have hcv : ∀ f, mg "least_of" = some (.ref f) → ∀ o1 o2 fd o3, K.lookup f = some ⟨o1, o2, .func fd, o3⟩ → fd.code = .ref c2 := by
      intro f e1 o1 o2 fd1 o3 k1
      have e2 := e1.symm.trans (He.glo_ok S.kin G (S.fac.fact 16 (f := .glo "least_of") rfl))
      cases e2
      obtain ⟨q1, q2, q3, q4, q5, q6⟩ := T2.fn
      have k2 : K.lookup (He.ga K "least_of") = some ⟨o1, o2, .func fd1, o3⟩ := k1
      rw [q5] at k2
      cases k2
      exact q6
    have C_Lcell := ok_Lcell (P := PySem.Challenge.pw_manyends_k31_refusals_apart) (w := w) (base := base) (fa_Lcell S G) hF
    have C_Ldrawn := ok_Ldrawn (P := PySem.Challenge.pw_manyends_k31_refusals_apart) (w := w) (base := base) (fa_Ldrawn S G)
    have C_Lroll := ok_Lroll (fa_Lroll S G) C_Ldrawn
    have C_Lrounds := ok_Lrounds (fa_Lrounds S G) hF C_Lcell
    have C_is_whole := ok_is_whole (P := PySem.Challenge.pw_manyends_k31_refusals_apart) (w := w) (base := base) (fa_is_whole S G) hF hS hT hX
    have C_is_word := ok_is_word (P := PySem.Challenge.pw_manyends_k31_refusals_apart) (w := w) (base := base) (fa_is_word S G) hF hS hT hX
    have C_are_counts := ok_are_counts (P := PySem.Challenge.pw_manyends_k31_refusals_apart) (w := w) (base := base) (fa_are_counts S G) hF hS hT hX C_is_whole
    have C_is_state := ok_is_state (P := PySem.Challenge.pw_manyends_k31_refusals_apart) (w := w) (base := base) (fa_is_state S G) hF hS hT hX
    have C_is_rule := ok_is_rule (P := PySem.Challenge.pw_manyends_k31_refusals_apart) (w := w) (base := base) (fa_is_rule S G) hF hS hT hX C_is_state
    have C_are_states := ok_are_states (P := PySem.Challenge.pw_manyends_k31_refusals_apart) (w := w) (base := base) (fa_are_states S G) hF hS hT hX C_is_word
    have C_is_talk := ok_is_talk (P := PySem.Challenge.pw_manyends_k31_refusals_apart) (w := w) (base := base) (fa_is_talk S G) hF hS hT hX C_are_counts C_is_state C_is_rule C_are_states
    have C_need_talk := ok_need_talk (P := PySem.Challenge.pw_manyends_k31_refusals_apart) (w := w) (base := base) (fa_need_talk S G) hF hS hT hX C_is_talk
    have C_is_good_standing := ok_is_good_standing (P := PySem.Challenge.pw_manyends_k31_refusals_apart) (w := w) (base := base) (fa_is_good_standing S G) hF hS hT hX C_are_counts
    have C_is_standing := ok_is_standing (P := PySem.Challenge.pw_manyends_k31_refusals_apart) (w := w) (base := base) (fa_is_standing S G) hF hS hT hX C_need_talk C_is_good_standing
    have C_need_standing := ok_need_standing (P := PySem.Challenge.pw_manyends_k31_refusals_apart) (w := w) (base := base) (fa_need_standing S G) hF hS hT hX C_is_good_standing
    have C_begun := ok_begun (P := PySem.Challenge.pw_manyends_k31_refusals_apart) (w := w) (base := base) (fa_begun S G) hF hS hT hX
    have C_start := ok_start (P := PySem.Challenge.pw_manyends_k31_refusals_apart) (w := w) (base := base) (fa_start S G) hF hS hT hX C_is_whole C_need_talk C_begun
    have C_size_of := ok_size_of (P := PySem.Challenge.pw_manyends_k31_refusals_apart) (w := w) (base := base) (fa_size_of S G) hF hS hT hX C_need_talk C_need_standing
    have C_is_over := ok_is_over (P := PySem.Challenge.pw_manyends_k31_refusals_apart) (w := w) (base := base) (fa_is_over S G) hF hS hT hX
    have C_is_table := ok_is_table (P := PySem.Challenge.pw_manyends_k31_refusals_apart) (w := w) (base := base) (fa_is_table S G) hF hS hT hX C_is_word
    have C_least_of := ok_least_of (P := PySem.Challenge.pw_manyends_k31_refusals_apart) (w := w) (base := base) (fa_least_of S G) hF hS hT hX C_is_over (T := TL Pt P2) TB2 hcv (List.mem_cons_of_mem _ (List.mem_singleton.mpr rfl)) (fun p hp e => by rcases List.mem_cons.mp hp with hp | hp <;> first | (rw [hp] at e; exact absurd e n1) | (rw [List.mem_singleton.mp hp]))
    have CO_least_of := okO_least_of (P := PySem.Challenge.pw_manyends_k31_refusals_apart) (w := w) (base := base) (fa_least_of S G) hF hS hT hX C_is_over (T := TL Pt P2) TB2 hcv (List.mem_cons_of_mem _ (List.mem_singleton.mpr rfl)) (fun p hp e => by rcases List.mem_cons.mp hp with hp | hp <;> first | (rw [hp] at e; exact absurd e n1) | (rw [List.mem_singleton.mp hp]))
    have C_is_over_one := ok_is_over_one (P := PySem.Challenge.pw_manyends_k31_refusals_apart) (w := w) (base := base) (fa_is_over_one S G) hF hS hT hX C_is_over
    have C_vector := ok_vector (P := PySem.Challenge.pw_manyends_k31_refusals_apart) (w := w) (base := base) (fa_vector S G) hF hS hT hX
    have C_needed := ok_needed (P := PySem.Challenge.pw_manyends_k31_refusals_apart) (w := w) (base := base) (fa_needed S G) hF hS hT hX C_vector
    have C_granted := ok_granted (P := PySem.Challenge.pw_manyends_k31_refusals_apart) (w := w) (base := base) (fa_granted S G) hF hS hT hX C_vector
    have C_can := ok_can (P := PySem.Challenge.pw_manyends_k31_refusals_apart) (w := w) (base := base) (fa_can S G) hF hS hT hX C_needed
    have C_need_number := ok_need_number (P := PySem.Challenge.pw_manyends_k31_refusals_apart) (w := w) (base := base) (fa_need_number S G) hF hS hT hX C_is_whole
    have C_behind := ok_behind (P := PySem.Challenge.pw_manyends_k31_refusals_apart) (w := w) (base := base) (fa_behind S G) hF hS hT hX C_need_talk C_need_standing C_can C_need_number
    have C_steps_from := ok_steps_from (P := PySem.Challenge.pw_manyends_k31_refusals_apart) (w := w) (base := base) (fa_steps_from S G) hF hS hT hX C_can
    have C_is_start := ok_is_start (P := PySem.Challenge.pw_manyends_k31_refusals_apart) (w := w) (base := base) (fa_is_start S G) hF hS hT hX C_begun
    have C_need_rows := ok_need_rows (P := PySem.Challenge.pw_manyends_k31_refusals_apart) (w := w) (base := base) (fa_need_rows S G) hF hS hT hX C_is_good_standing
    have C_fault_of := ok_fault_of (P := PySem.Challenge.pw_manyends_k31_refusals_apart) (w := w) (base := base) (fa_fault_of S G) hF hS hT hX C_steps_from C_is_start
    have C_rules_of := ok_rules_of (P := PySem.Challenge.pw_manyends_k31_refusals_apart) (w := w) (base := base) (fa_rules_of S G) hF hS hT hX C_need_talk C_steps_from C_need_rows C_fault_of
    have C_need_targets := ok_need_targets (P := PySem.Challenge.pw_manyends_k31_refusals_apart) (w := w) (base := base) (fa_need_targets S G) hF hS hT hX C_are_counts
    have C_added := ok_added (P := PySem.Challenge.pw_manyends_k31_refusals_apart) (w := w) (base := base) (fa_added S G) hF hS hT hX
    have C_lacking := ok_lacking (P := PySem.Challenge.pw_manyends_k31_refusals_apart) (w := w) (base := base) (fa_lacking S G) hF hS hT hX
    have C_parted := ok_parted (P := PySem.Challenge.pw_manyends_k31_refusals_apart) (w := w) (base := base) (fa_parted S G) hF hS hT hX C_added
    have C_others_before := ok_others_before (P := PySem.Challenge.pw_manyends_k31_refusals_apart) (w := w) (base := base) (fa_others_before S G) hF hS hT hX C_added C_parted
    have C_before_of := ok_before_of (P := PySem.Challenge.pw_manyends_k31_refusals_apart) (w := w) (base := base) (fa_before_of S G) hF hS hT hX C_least_of C_needed C_granted C_added C_lacking C_others_before
    have C_before_all := ok_before_all (P := PySem.Challenge.pw_manyends_k31_refusals_apart) (w := w) (base := base) (fa_before_all S G) hF hS hT hX C_before_of
    have C_basis_of := ok_basis_of (P := PySem.Challenge.pw_manyends_k31_refusals_apart) (w := w) (base := base) (fa_basis_of S G) hF hS hT hX C_is_over C_least_of CO_least_of C_is_over_one C_before_all
    have C_basis := ok_basis (P := PySem.Challenge.pw_manyends_k31_refusals_apart) (w := w) (base := base) (fa_basis S G) hF hS hT hX C_need_talk C_need_targets C_basis_of
    have C_size_for := ok_size_for (P := PySem.Challenge.pw_manyends_k31_refusals_apart) (w := w) (base := base) (fa_size_for S G) hF hS hT hX
    have C_least_of_sizes := ok_least_of_sizes (P := PySem.Challenge.pw_manyends_k31_refusals_apart) (w := w) (base := base) (fa_least_of_sizes S G) hF hS hT hX C_basis_of C_size_for
    have C_bad_run := ok_bad_run (P := PySem.Challenge.pw_manyends_k31_refusals_apart) (w := w) (base := base) (fa_bad_run S G) hF hS hT hX C_need_talk C_begun C_need_targets C_least_of_sizes
    have C_answer := ok_answer (P := PySem.Challenge.pw_manyends_k31_refusals_apart) (w := w) (base := base) (fa_answer S G) hF hS hT hX C_basis_of C_size_for
    have C_House := mk_House (P := PySem.Challenge.pw_manyends_k31_refusals_apart) (w := w) (base := base) (fa_House S G eH) hF hS hT hX C_is_talk
    have C_House_need := ok_House_need (P := PySem.Challenge.pw_manyends_k31_refusals_apart) (w := w) (base := base) (T := (TL Pt P2)) (fa_House_need S eH) hF hS hT hX C_is_word
    have C_House_promise := ok_House_promise (P := PySem.Challenge.pw_manyends_k31_refusals_apart) (w := w) (base := base) (T := (TL Pt P2)) (fa_House_promise S eH) hF hS hT hX C_is_word C_need_targets C_answer
    have S_House_remember := S_remember (P := PySem.Challenge.pw_manyends_k31_refusals_apart) (w := w) (base := base) (fa_House_remember S eH) hF hS hT hX
    have S_House_promise := S_promise (P := PySem.Challenge.pw_manyends_k31_refusals_apart) (w := w) (base := base) (T := (TL Pt P2)) (fa_House_promise S eH) hF hS hT hX C_is_word C_need_targets C_answer S_House_remember
    have C_House_forget := ok_House_forget (P := PySem.Challenge.pw_manyends_k31_refusals_apart) (w := w) (base := base) (T := (TL Pt P2)) (fa_House_forget S eH) hF hS hT hX C_House_need
    have C_House_add := ok_House_add (P := PySem.Challenge.pw_manyends_k31_refusals_apart) (w := w) (base := base) (T := (TL Pt P2)) (fa_House_add S eH) hF hS hT hX C_is_rule
    have C_House_state_of := ok_House_state_of (P := PySem.Challenge.pw_manyends_k31_refusals_apart) (w := w) (base := base) (T := (TL Pt P2)) (fa_House_state_of S eH) hF hS hT hX C_House_need
    have C_words_of := ok_words_of (P := PySem.Challenge.pw_manyends_k31_refusals_apart) (w := w) (base := base) (fa_words_of S G) hF hS hT hX
    have C_need_table := ok_need_table (P := PySem.Challenge.pw_manyends_k31_refusals_apart) (w := w) (base := base) (fa_need_table S G) hF hS hT hX C_is_table C_words_of
    have C_coarser := ok_coarser (P := PySem.Challenge.pw_manyends_k31_refusals_apart) (w := w) (base := base) (fa_coarser S G) hF hS hT hX C_need_talk C_need_table
    have C_is_form := ok_is_form (P := PySem.Challenge.pw_manyends_k31_refusals_apart) (w := w) (base := base) (fa_is_form S G) hF hS hT hX C_is_good_standing
    have C_need_paper := ok_need_paper (P := PySem.Challenge.pw_manyends_k31_refusals_apart) (w := w) (base := base) (fa_need_paper S G) hF hS hT hX C_is_form
    have C_breaks := ok_breaks (P := PySem.Challenge.pw_manyends_k31_refusals_apart) (w := w) (base := base) (fa_breaks S G) hF hS hT hX C_need_talk C_need_targets C_need_paper
    have C_number_in := ok_number_in (P := PySem.Challenge.pw_manyends_k31_refusals_apart) (w := w) (base := base) (fa_number_in S G) hF hS hT hX
    have C_read_standing := ok_read_standing (P := PySem.Challenge.pw_manyends_k31_refusals_apart) (w := w) (base := base) (fa_read_standing S G) hF hS hT hX C_need_talk C_number_in
    have C_are_weights := ok_are_weights (P := PySem.Challenge.pw_manyends_k31_refusals_apart) (w := w) (base := base) (fa_are_weights S G) hF hS hT hX
    have C_need_weights := ok_need_weights (P := PySem.Challenge.pw_manyends_k31_refusals_apart) (w := w) (base := base) (fa_need_weights S G) hF hS hT hX C_are_weights
    have C_is_kept := ok_is_kept (P := PySem.Challenge.pw_manyends_k31_refusals_apart) (w := w) (base := base) (fa_is_kept S G) hF hS hT hX C_need_talk C_need_weights
    have C_Lalone := ok_Lalone (P := PySem.Challenge.pw_manyends_k31_refusals_apart) (w := w) (base := base) (fa_Lalone S G) hF hS hT hX
    obtain ⟨gT, fdL, FMet⟩ := ok_Lmet (P := PySem.Challenge.pw_manyends_k31_refusals_apart) (w := w) (base := base) (fa_Lmet S G) (He.glo_ok S.kin G (S.fac.fact 61 (f := .glo "TalkError") rfl)) (exm_of hC hP (namL S G) hN)
    refine fn_Vc (cv := .ref c) (t := fun E => tLaw K (TL Pt P2) mg E N_law.length 4 ws_law) (fun_of F) (fun o1 o2 fd1 o3 k1 => ?_) sc_law (fun vs H Q E ⟨a, ns, e, _⟩ => by rw [e]; rfl) (fun A outer s H E B tk => ?_) (fun vs H Q E hh => law_run (by decide) (by decide) pure_law vs H Q E hh)
    · obtain ⟨q1, q2, q3, q4, q5, q6⟩ := T.fn
      have k2 : K.lookup (He.ga K "law") = some ⟨o1, o2, .func fd1, o3⟩ := k1
      rw [q5] at k2
      cases k2
      exact q6
    · exact pss_cons (ps_for B.po B.hc (pi_list (v_call C_Lrounds B (pa_cons (pv 0) (pa_cons pe_int pa_nil)))) (pg_name (i := 1) sc_law.nd rfl (by first | exact Or.inl rfl | exact Or.inr rfl)) (pss_round (fun g hg => body_law (fa_law S G) hF hS hT hX C_Lroll C_Lrounds C_is_standing C_start C_size_of C_behind C_rules_of C_basis C_bad_run C_House C_House_promise S_House_promise C_House_forget C_House_add C_House_state_of C_coarser C_breaks C_read_standing C_is_kept C_Lalone FMet TB List.mem_cons_self (fun p hp e => by rcases List.mem_cons.mp hp with hp | hp <;> first | (rw [List.mem_singleton.mp hp] at e; exact absurd e.symm n1) | (rw [hp])) A outer s H E g hg B tk _ ⟨_, _, _, _, rfl⟩))) (pss_one (ps_ret pe_bl))
end
end Lk31
namespace Lk31
open PySem FW
/-! ### the law: nine draws, all is computed -/
def isNx : Res Out → Bool
  | .ok (.nx _) => true
  | .ok (.ct _) => true
  | _ => false
theorem run_rest {r : Env2} (h : isNx (fs_rest r) = true) : ws_rest.run r kRound := by
  refine imp_rest r kRound ?_
  cases e : fs_rest r with
  | ok o => cases o <;> first | exact trivial | (rw [e] at h; cases h)
  | exc c => rw [e] at h; cases h
  | bad => rw [e] at h; cases h
def seqL : List FS → FS → FS
  | [], h => h
  | f :: l, h => fsSeq f (seqL l h)
def nxtS (h : FS) : Out → Res Out
  | .nx r => h r
  | o => .ok o
theorem seqL_run : ∀ (l : List FS) (h : FS) (r : Env2), seqL l h r = (seqL l fsSkip r).bind (nxtS h)
  | [], h, r => rfl
  | f :: l, h, r => by
    show (f r).bind _ = ((f r).bind _).bind _
    cases f r with
    | ok o => cases o with
      | nx r' => exact seqL_run l h r'
      | rt d => rfl
      | bk r' => rfl
      | ct r' => rfl
    | exc c => rfl
    | bad => rfl
def fsPre : List FS := [(fsHouse 4 3 2 cH "ann" ft_House f1_House fn_need_targets fn_answer), (fsSet 5 (fTup (fCons (fTup (fCons (fC (.str "a")) (fCons (fC (.str "b")) (fCons (fC (.str "c")) fNil)))) (fCons (fC (.str "a")) (fCons (fTup (fCons (fC (.int 0)) (fCons (fC (.int 0)) (fCons (fC (.int 0)) fNil)))) (fCons (fTup (fCons (fTup (fCons (fC (.str "meet")) (fCons (fC (.str "a")) (fCons (fC (.str "a")) (fCons (fC (.str "b")) (fCons (fC (.str "b")) fNil)))))) (fCons (fTup (fCons (fC (.str "meet")) (fCons (fC (.str "b")) (fCons (fC (.str "b")) (fCons (fC (.str "c")) (fCons (fC (.str "c")) fNil)))))) fNil))) fNil)))))), (fsSetO 6 (fLst (fCons (fMet csL (fCall fn_is_standing (fCons (fTup (fCons (fOp dMulP (fTup (fCons (fC (.str "a")) fNil)) (fVar 2)) fNil)) (fCons (fC .non) fNil)))) fNil))), (fsApp 6 (fMet csL (fCall fn_size_of (fCons (fVar 3) (fCons (fTup (fCons (fVar 2) fNil)) fNil))))), (fsApp 6 (fMet csL (fCall fn_start (fCons (fVar 3) (fCons (fOp dAdd (fC (.int 60)) (fVar 2)) fNil))))), (fsApp 6 (fMet csL (fCall fn_basis (fCons (fVar 3) (fCons (fLst (fCons (fTup (fCons (fOp dAdd (fC (.int 9)) (fVar 2)) (fCons (fC (.int 0)) fNil))) fNil)) fNil))))), (fsApp 6 (fMet csL (fCall fn_breaks (fCons (fVar 3) (fCons (fLst (fCons (fTup (fCons (fC (.int 0)) (fCons (fVar 2) fNil))) fNil)) (fCons (fLst (fCons (fOp dMulZ (fTup (fCons (fC (.int 0)) fNil)) (fOp dAdd (fC (.int 2)) (fVar 2))) fNil)) fNil)))))), (fsApp 6 (fMet csL (fCall fn_is_kept (fCons (fVar 3) (fCons (fTup (fCons (fVar 2) fNil)) fNil))))), (fsApp 6 (fMet csL (fCall fn_coarser (fCons (fVar 3) (fCons (fDisp [((fC (.str "a")), (fOp dMulZ (fC (.str "x")) (fCB dMin2 (fCons (fC (.int 8)) (fCons (fVar 2) fNil)))))]) fNil))))), (fsApp 6 (fMet csL (fCall fn_rules_of (fCons (fVar 3) (fCons (fLst (fCons (fTup (fCons (fC (.int 0)) (fCons (fVar 2) fNil))) fNil)) fNil))))), (fsApp 6 (fMet csL (fMeth cH fn_House_add (fVar 4) (fCons (fTup (fCons (fC (.str "alone")) (fCons (fC (.str "a")) (fCons (fOp dMulZ (fC (.str "b")) (fOp dAdd (fC (.int 1)) (fVar 2))) fNil)))) fNil)))), (fsApp 6 (fMet csL (fMeth cH fn_House_forget (fVar 4) (fCons (fOp dMulZ (fC (.str "A")) (fVar 2)) fNil)))), (fsApp 6 (fMet csL (fMeth cH fn_House_promise (fVar 4) (fCons (fC (.str "ann")) (fCons (fLst fNil) fNil))))), (fsApp 6 (fMet csL (fMeth cH fn_House_state_of (fVar 4) (fCons (fOp dMulZ (fC (.str "z")) (fCB dMin2 (fCons (fC (.int 8)) (fCons (fVar 2) fNil)))) fNil)))), (fsApp 6 (fMet csL (fCall fn_behind (fCons (fVar 3) (fCons (fTup (fCons (fC (.int 1)) (fCons (fVar 2) fNil))) (fCons (fC (.int 0)) fNil))))))]
def feBad : FE := (fCall fn_bad_run (fCons (fVar 5) (fCons (fLst (fCons (fTup (fCons (fC (.int 0)) (fCons (fC (.int 9)) (fCons (fC (.int 9)) fNil)))) fNil)) fNil)))
def fsBad : FS := (fsApp 6 (fMet csL feBad))
def fsLast : FS := (fsSeq (fsApp 6 (fMet csL (fCall fn_read_standing (fCons (fVar 3) (fCons (fOp dMulZ (fC (.str "0")) (fOp dAdd (fC (.int 1)) (fVar 2))) fNil))))) (fsIf (fNot (fTest (fCB dAll (fCons (fLc (fItA dEnum (fCons (fVar 6) fNil)) (gT 2 (gsCons (gN 7) (gsCons (gN 8) gsNil))) fYes (fCall fn_Lalone (fCons (fVar 8) (fCons (fVar 7) fNil))) [7, 8]) fNil)))) (fsRet (fC (.bl false))) fsSkip))
theorem rest_eq : fs_rest = seqL fsPre (fsSeq fsBad fsLast) := rfl
def exL (n : Nat) : List D := (csL.take n).map fun p => D.exn p.2
abbrev envW (n : Int) : Env2 := [.un, .val .dice, .val (.int n), .val tk2, .un, .un, .un, .un, .un]
abbrev envX (n m : Int) (ds : List D) : Env2 := [.un, .val .dice, .val (.int n), .val tk2, .val (houseD cH tk2 "ann" n false m), .val tk3, .own (.lst ds), .un, .un]
theorem call_31 (f : List D → Res D) {k : FA} {r : FW.Env} {ds : List D} (h : k r = .ok ds) : fCall f k r = f ds := by
  unfold fCall
  rw [h]
theorem app_31 {fe : FE} {n m : Int} {ds : List D} {d : D} (h : fe (plain (envX n m ds)) = .ok d) (hl : ds.length < 100000) : fsApp 6 fe (envX n m ds) = .ok (.nx (envX n m (ds ++ [d]))) := by
  unfold fsApp
  show (if ds.length < 100000 then (fe (plain (envX n m ds))).bind _ else Res.bad) = _
  rw [if_pos hl, h]
  rfl
theorem met_31 {fe : FE} {r : FW.Env} {c : Str} (h : fe r = .exc c) : fMet csL fe r = fMet csL (fun _ => .exc c) r := by
  unfold fMet
  rw [h]
theorem bad_ok (n m : Int) : fsBad (envX n m (exL 13)) = .ok (.nx (envX n m (exL 14))) := by
  have h : feBad (plain (envX n m (exL 13))) = .exc "Full" := (call_31 fn_bad_run rfl).trans full
  have h2 := (met_31 h).trans (rfl : _ = Res.ok (D.exn ((csL.getD 13 ("", 0)).2)))
  exact app_31 h2 (by decide)
theorem nx_31 (e : Env2) (f g : FS) : (Res.ok (Out.nx e)).bind (nxtS (fsSeq f g)) = (f e).bind (nxtS g) := rfl
theorem nx1_31 (e : Env2) (f : FS) : (Res.ok (Out.nx e)).bind (nxtS f) = f e := rfl
theorem pre1 : seqL fsPre fsSkip (envW 1) = .ok (.nx (envX 1 2 (exL 13))) := by kernel_rfl
theorem last1 : isNx (fsLast (envX 1 2 (exL 14))) = true := by decide +kernel
theorem pre2 : seqL fsPre fsSkip (envW 2) = .ok (.nx (envX 2 2 (exL 13))) := by kernel_rfl
theorem last2 : isNx (fsLast (envX 2 2 (exL 14))) = true := by decide +kernel
theorem pre3 : seqL fsPre fsSkip (envW 3) = .ok (.nx (envX 3 4 (exL 13))) := by kernel_rfl
theorem last3 : isNx (fsLast (envX 3 4 (exL 14))) = true := by decide +kernel
theorem pre4 : seqL fsPre fsSkip (envW 4) = .ok (.nx (envX 4 4 (exL 13))) := by kernel_rfl
theorem last4 : isNx (fsLast (envX 4 4 (exL 14))) = true := by decide +kernel
theorem pre5 : seqL fsPre fsSkip (envW 5) = .ok (.nx (envX 5 6 (exL 13))) := by kernel_rfl
theorem last5 : isNx (fsLast (envX 5 6 (exL 14))) = true := by decide +kernel
theorem pre6 : seqL fsPre fsSkip (envW 6) = .ok (.nx (envX 6 6 (exL 13))) := by kernel_rfl
theorem last6 : isNx (fsLast (envX 6 6 (exL 14))) = true := by decide +kernel
theorem pre7 : seqL fsPre fsSkip (envW 7) = .ok (.nx (envX 7 8 (exL 13))) := by kernel_rfl
theorem last7 : isNx (fsLast (envX 7 8 (exL 14))) = true := by decide +kernel
theorem pre8 : seqL fsPre fsSkip (envW 8) = .ok (.nx (envX 8 8 (exL 13))) := by kernel_rfl
theorem last8 : isNx (fsLast (envX 8 8 (exL 14))) = true := by decide +kernel
theorem pre9 : seqL fsPre fsSkip (envW 9) = .ok (.nx (envX 9 10 (exL 13))) := by kernel_rfl
theorem last9 : isNx (fsLast (envX 9 10 (exL 14))) = true := by decide +kernel
theorem rest_ok {n m : Int} (h1 : seqL fsPre fsSkip (envW n) = .ok (.nx (envX n m (exL 13)))) (h2 : isNx (fsLast (envX n m (exL 14))) = true) : isNx (fs_rest (envW n)) = true := by
  rw [rest_eq, seqL_run, h1, nx_31, bad_ok, nx1_31]
  exact h2
theorem asg_31 {w : WE} {sg : SG} {r : Env2} {k : Kt} (h : w.run (plain r) (fun d => resW (sg d r) k.nx fun _ => False) k.ex) : (wsAsg sg w).run r k := h
theorem tup_31 {k : WA} {r : FW.Env} {Q : D → Prop} {Z : Str → Prop} (h : k.run r (fun ds => Q (.tup ds)) Z) : (wTup k).run r Q Z := h
theorem cons_31 {w : WE} {k : WA} {r : FW.Env} {Q : List D → Prop} {Z : Str → Prop} (h : w.run r (fun d => k.run r (fun ds => Q (d :: ds)) Z) Z) : (waCons w k).run r Q Z := h
theorem op_31 {dop : D → D → Res D} {x : D} {wb : WE} {r : FW.Env} {Q : D → Prop} {Z : Str → Prop} (h : wb.run r (fun y => resW (dop x y) Q Z) Z) : (wOp dop (wOf (fC x)) wb).run r Q Z := h
def wsHead : WS := (wsAsg (sgT 2 (sgsCons (sgN 2) (sgsCons (sgN 3) sgsNil))) (wTup (waCons (wOp dAdd (wOf (fC (.int 1))) (wCall fnRoll mono_roll (waOf (fCons (fVar 1) (fCons (fC (.int 9)) fNil))))) (waCons (wOf (fTup (fCons (fTup (fCons (fC (.str "a")) (fCons (fC (.str "b")) fNil))) (fCons (fC (.str "a")) (fCons (fTup (fCons (fC (.int 0)) (fCons (fC (.int 0)) fNil))) (fCons (fTup (fCons (fTup (fCons (fC (.str "meet")) (fCons (fC (.str "a")) (fCons (fC (.str "a")) (fCons (fC (.str "b")) (fCons (fC (.str "b")) fNil)))))) fNil)) fNil)))))) waNil))))
theorem head_31 (W : WS) (h : ∀ n ∈ ([1, 2, 3, 4, 5, 6, 7, 8, 9] : List Int), W.run (envW n) kRound) : (wsSeq wsHead W).run (r0 N_law.length) kRound := by
  refine run_seq ?_
  unfold wsHead
  refine asg_31 (tup_31 (cons_31 (op_31 (roll_ok (m := 9) rfl (by decide) fun z z0 z1 => ?_))))
  have : z = 0 ∨ z = 1 ∨ z = 2 ∨ z = 3 ∨ z = 4 ∨ z = 5 ∨ z = 6 ∨ z = 7 ∨ z = 8 := by omega
  rcases this with rfl | rfl | rfl | rfl | rfl | rfl | rfl | rfl | rfl
  · exact h 1 (by decide)
  · exact h 2 (by decide)
  · exact h 3 (by decide)
  · exact h 4 (by decide)
  · exact h 5 (by decide)
  · exact h 6 (by decide)
  · exact h 7 (by decide)
  · exact h 8 (by decide)
  · exact h 9 (by decide)
theorem law_eq : ws_law = wsSeq wsHead ws_rest := by kernel_rfl
theorem pure_law : ws_law.run (r0 N_law.length) kRound := by
  rw [law_eq]
  refine head_31 ws_rest ?_
  intro n hn
  simp only [List.mem_cons, List.mem_nil_iff, or_false] at hn
  rcases hn with rfl | rfl | rfl | rfl | rfl | rfl | rfl | rfl | rfl
  · exact run_rest (rest_ok pre1 last1)
  · exact run_rest (rest_ok pre2 last2)
  · exact run_rest (rest_ok pre3 last3)
  · exact run_rest (rest_ok pre4 last4)
  · exact run_rest (rest_ok pre5 last5)
  · exact run_rest (rest_ok pre6 last6)
  · exact run_rest (rest_ok pre7 last7)
  · exact run_rest (rest_ok pre8 last8)
  · exact run_rest (rest_ok pre9 last9)
end Lk31
open PySem PySem.W PySem.Calls PyProof.Rows
theorem PySem.Challenge.cw_manyends_k31_refusals_apart_holds : PySem.Challenge.rw_manyends_k31_refusals_apart.Holds := by
  w_on; o_law
  refine HandSHeadRun.head_any (r := OpenLaw.row PySem.Challenge.rw_manyends_k31_refusals_apart) (q := view (OpenLaw.row PySem.Challenge.rw_manyends_k31_refusals_apart).prog [109]) (H := Lk31.hkL) (ob := Lk31.obL) (M := 12000) (loose := Lk31.looseL) (d := HandSHeadRun.topDef (OpenLaw.row PySem.Challenge.rw_manyends_k31_refusals_apart).prog 109) (kwd := []) Lk31.obL_eq
    (by kernel_rfl) (fun s => by kernel_rfl) Lk31.runL (by kernel_rfl) (by kernel_rfl) (by kernel_rfl) (by rfl) (by first | assumption | decide +kernel) (by decide +kernel) ⟨rfl, rfl, rfl, rfl, rfl, by decide +kernel⟩ ?hw ?hc
  case hw => w_witness2
  case hc =>
    refine LamX.walk_ofTsE (l := PySem.Challenge.rw_manyends_k31_refusals_apart) (n := 63) (k := 19) (x := "_law_script") (CX := fun w => L2N.CX PySem.Challenge.pw_manyends_k31_refusals_apart w) rfl (by decide) (by kernel_rfl) ⟨rfl, by decide, by decide⟩ (fun w mg fa h Y G hmg0 => ?_) (fun w H s e s' z => by obtain ⟨_, _, _, _, _, _, _, _, _, _, _, _, z⟩ := z; exact z)
    obtain ⟨K, S⟩ := Y
    have hmg : mg ("law" : PySem.Str) = some (.ref fa) := by
      have e : (HandSHeadRun.topDef (OpenLaw.row PySem.Challenge.rw_manyends_k31_refusals_apart).prog 109).name = ("law" : PySem.Str) := by kernel_rfl
      rw [← e]
      exact hmg0
    exact ⟨K, S.kin, Lk31.okLaw Lk31.pure_law S G hmg⟩
