import PyProof.Rows.All
import Wide.All
import OpenK.AllK
import Wide.FinOn
import HandS.ForMost
import HandS.ForExc
import HandS.Lambda
import HandS.HotCalls
import HandS.IsInst
import HandS.Zip
import HandS.TupAny
import HandS.TupMul
import HandS.Wide
import HandS.Style
import HandS.Deep
import HandS.ExcIs
import KE.KIndexOf
import KE.GoesNew
import KE.GoesZip
import KE.GoesMore
import HandS.TupSets
import HandS.SetFor
import KE.KeyNested
import KE.KTupSum
import HandS.Text
import HandS.FStr
import HandS.DictComp
import HandS.Small
import KE.KDictZip
import HandS.Head0
import HandS.Head1
import HandS.Head2
import HandS.HeadEnd
import HandS.HeadHook1
import HandS.HeadHook2
import HandS.HeadWalk
import HandS.Words
import HandS.WordsExc
import HandS.Defaults
import HandS.More
import HandS.Set
import HandS.Strs
import PyProof.P3In
import HandS.WordsDict
import KE.DataMinMax
import KE.SortData
import KE.SortKeyHeap
import KE.KDictDisplayH
import HandS.TupLen
import KE.DataCmp
import KE.KDictSum
import PySem.Challenge.RW_manyends_k06_whole_reached
set_option Elab.async false
set_option linter.all false
set_option maxRecDepth 100000
set_option maxHeartbeats 8000000
/-! The data layer: plain data D, what stands for it in a region of the heap, and readings by functions over data. -/
namespace FW
open PySem PySem.Spec PyProof.Rows L2

/-- plain data; dice: the one list of two numbers that a round's draws change -/
inductive D where
  | non | bl (b : Bool) | int (i : Int) | str (x : Str) | tup (ds : List D) | lst (ds : List D) | dct (kvs : List (D × D)) | dice | par (ds : List D) | dtt (kvs : List (D × D)) | dtf (kvs : List (D × D))

/-- what stands aside: the dice's address, the tables of code objects -/
structure Gd where
  dz : Addr
  T : List (Addr × Str)

/-- texts alone, at least one -/
def strV : V → Bool
  | .str _ => true
  | _ => false
def refV : V → Bool
  | .ref _ => true
  | _ => false
def strsV (xs : List V) : Bool := !xs.isEmpty && (xs.all strV || xs.all refV)
/-- a tuple as it stands: one of texts is known to the last (its methods may be asked) -/
def TupO (xs : List V) (u : HO) : Prop := (u = .tup xs ∧ strsV xs = false) ∨ ∃ o : Obj, (o.dict = none ∧ strsV xs = true) ∧ u = .frz o (.tup xs)
theorem TupO.sqt {K : PySem.W.Frag} {H : Hp} {a : Addr} {xs : List V} {u : HO} (h : TupO xs u) (e : H a = some u) : SqT K H a xs := by
  rcases h with ⟨h, _⟩ | ⟨o, _, h⟩
  · rw [h] at e; exact SqT.of e
  · rw [h] at e; exact .inl (.inr ⟨o, e⟩)
theorem TupO.nt {xs : List V} {u : HO} (h : TupO xs u) : ∀ ps, u ≠ .tbl ps := fun ps e => by
  rcases h with ⟨h, _⟩ | ⟨o, _, h⟩ <;> (rw [h] at e; cases e)
def strD : D → Bool
  | .str _ => true
  | _ => false
def refD : D → Bool
  | .non => false
  | .bl _ => false
  | .int _ => false
  | .str _ => false
  | _ => true
def strsD (xs : List D) : Bool := !xs.isEmpty && (xs.all strD || xs.all refD)
def kD : Key → D
  | .inl i => .int i
  | .inr x => .str x

mutual
inductive DR (g : Gd) (I : Hp) : V → D → Prop
  | non : DR g I .non .non
  | bl (b : Bool) : DR g I (.bl b) (.bl b)
  | int (i : Int) : DR g I (.int i) (.int i)
  | str (x : Str) : DR g I (.str x) (.str x)
  | tup {a : Addr} {xs : List V} {ds : List D} {u : HO} : I a = some u → TupO xs u → DRs g I xs ds → DR g I (.ref a) (.tup ds)
  | par {a : Addr} {xs : List V} {ds : List D} : I a = some (.tup xs) → DRs g I xs ds → DR g I (.ref a) (.par ds)
  | lst {a : Addr} {xs : List V} {ds : List D} : I a = some (.lst xs) → DRs g I xs ds → DR g I (.ref a) (.lst ds)
  | dK {a : Addr} {es : List (Key × V)} {kvs : List (D × D)} : Rd I a (.dK es) → DRk g I es kvs → DR g I (.ref a) (.dct kvs)
  | dT {a : Addr} {es : List (List Key × V)} {kvs : List (D × D)} : Rd I a (.dT es) → DRt g I es kvs → DR g I (.ref a) (.dtt kvs)
  | dF {a : Addr} {o : Obj} {es : List (List Key × V)} {kvs : List (D × D)} : I a = some (.frz o (.dT es)) → DRt g I es kvs → DR g I (.ref a) (.dtf kvs)
  | dice : DR g I (.ref g.dz) .dice
inductive DRs (g : Gd) (I : Hp) : List V → List D → Prop
  | nil : DRs g I [] []
  | cons {v : V} {vs : List V} {d : D} {ds : List D} : DR g I v d → DRs g I vs ds → DRs g I (v :: vs) (d :: ds)
inductive DRk (g : Gd) (I : Hp) : List (Key × V) → List (D × D) → Prop
  | nil : DRk g I [] []
  | cons {k : Key} {v : V} {es : List (Key × V)} {d : D} {kvs : List (D × D)} : DR g I v d → DRk g I es kvs → DRk g I ((k, v) :: es) ((kD k, d) :: kvs)
inductive DRt (g : Gd) (I : Hp) : List (List Key × V) → List (D × D) → Prop
  | nil : DRt g I [] []
  | cons {k : List Key} {v : V} {es : List (List Key × V)} {d : D} {kvs : List (D × D)} : DR g I v d → DRt g I es kvs → DRt g I ((k, v) :: es) ((.tup (k.map kD), d) :: kvs)
end

def Sub (I H : Hp) : Prop := ∀ a o, I a = some o → H a = some o
theorem Sub.refl (I : Hp) : Sub I I := fun _ _ h => h
theorem Sub.trans {I J H : Hp} (p : Sub I J) (q : Sub J H) : Sub I H := fun a o h => q a o (p a o h)
theorem Sub.rd {I J : Hp} {a : Addr} {u : HO} (s : Sub I J) (h : Rd I a u) : Rd J a u := h.elim (fun e => .inl (s _ _ e)) fun ⟨o, e⟩ => .inr ⟨o, s _ _ e⟩

section
variable {g : Gd} {I J : Hp}
mutual
theorem DR.mono (s : Sub I J) : ∀ {v : V} {d : D}, DR g I v d → DR g J v d
  | _, _, .non => .non
  | _, _, .bl b => .bl b
  | _, _, .int i => .int i
  | _, _, .str x => .str x
  | _, _, .tup h u t => .tup (s _ _ h) u (DRs.mono s t)
  | _, _, .par h t => .par (s _ _ h) (DRs.mono s t)
  | _, _, .lst h t => .lst (s _ _ h) (DRs.mono s t)
  | _, _, .dK h t => .dK (s.rd h) (DRk.mono s t)
  | _, _, .dT h t => .dT (s.rd h) (DRt.mono s t)
  | _, _, .dF h t => .dF (s _ _ h) (DRt.mono s t)
  | _, _, .dice => .dice
theorem DRs.mono (s : Sub I J) : ∀ {v : List V} {d : List D}, DRs g I v d → DRs g J v d
  | _, _, .nil => .nil
  | _, _, .cons h t => .cons (DR.mono s h) (DRs.mono s t)
theorem DRk.mono (s : Sub I J) : ∀ {v : List (Key × V)} {d : List (D × D)}, DRk g I v d → DRk g J v d
  | _, _, .nil => .nil
  | _, _, .cons h t => .cons (DR.mono s h) (DRk.mono s t)
theorem DRt.mono (s : Sub I J) : ∀ {v : List (List Key × V)} {d : List (D × D)}, DRt g I v d → DRt g J v d
  | _, _, .nil => .nil
  | _, _, .cons h t => .cons (DR.mono s h) (DRt.mono s t)
end
theorem DRs.len : ∀ {vs : List V} {ds : List D}, DRs g I vs ds → vs.length = ds.length
  | _, _, .nil => rfl
  | _, _, .cons _ t => congrArg (· + 1) (DRs.len t)
theorem DR.strV {v : V} {d : D} (h : DR g I v d) : strV v = strD d := by cases h <;> rfl
theorem DRs.strA : ∀ {vs : List V} {ds : List D}, DRs g I vs ds → vs.all strV = ds.all strD
  | _, _, .nil => rfl
  | _, _, .cons r t => by rw [List.all_cons, List.all_cons, r.strV, DRs.strA t]
theorem DR.refV {v : V} {d : D} (h : DR g I v d) : refV v = refD d := by cases h <;> rfl
theorem DRs.refA : ∀ {vs : List V} {ds : List D}, DRs g I vs ds → vs.all FW.refV = ds.all refD
  | _, _, .nil => rfl
  | _, _, .cons r t => by rw [List.all_cons, List.all_cons, r.refV, DRs.refA t]
theorem DRs.strs {vs : List V} {ds : List D} (h : DRs g I vs ds) : strsV vs = strsD ds := by
  unfold strsV strsD
  rw [h.strA, h.refA]
  cases h <;> rfl
theorem DRs.at_ : ∀ {vs : List V} {ds : List D} {i : Nat} {d : D}, DRs g I vs ds → ds[i]? = some d → ∃ v, vs[i]? = some v ∧ DR g I v d
  | _, _, _, _, .nil, h => by simp at h
  | _, _, 0, _, .cons r _, h => by simp at h; subst h; exact ⟨_, rfl, r⟩
  | _, _, i + 1, d, .cons _ t, h => by
    obtain ⟨v, h1, h2⟩ := DRs.at_ (i := i) (d := d) t (by simpa using h)
    exact ⟨v, by simpa using h1, h2⟩
theorem DRs.app : ∀ {vs ws : List V} {ds es : List D}, DRs g I vs ds → DRs g I ws es → DRs g I (vs ++ ws) (ds ++ es)
  | _, _, _, _, .nil, h => h
  | _, _, _, _, .cons r t, h => .cons r (DRs.app t h)
theorem DRs.drop : ∀ {vs : List V} {ds : List D} (n : Nat), DRs g I vs ds → DRs g I (vs.drop n) (ds.drop n)
  | _, _, 0, h => h
  | _, _, _ + 1, .nil => .nil
  | _, _, n + 1, .cons _ t => DRs.drop n t
theorem DRs.take : ∀ {vs : List V} {ds : List D} (n : Nat), DRs g I vs ds → DRs g I (vs.take n) (ds.take n)
  | _, _, 0, _ => .nil
  | _, _, _ + 1, .nil => .nil
  | _, _, n + 1, .cons r t => .cons r (DRs.take n t)
theorem DRs.set : ∀ {vs : List V} {ds : List D} {v : V} {d : D} (i : Nat), DRs g I vs ds → DR g I v d → DRs g I (vs.set i v) (ds.set i d)
  | _, _, _, _, _, .nil, _ => .nil
  | _, _, _, _, 0, .cons _ t, h => .cons h t
  | _, _, _, _, i + 1, .cons r t, h => .cons r (DRs.set i t h)
end

/-! ### the ground, a step over it -/
structure Rl (g : Gd) (I H : Hp) : Prop where
  sub : Sub I H
  dz : I g.dz = none
  dice : ∃ x y : Int, H g.dz = some (.lst [.int x, .int y])
  tab : LamX.Tabs g.T H
  nt : ∀ a ps, I a ≠ some (.tbl ps)
/-- nothing stands there, or a table of code objects -/
def NT (H : Hp) (a : Addr) : Prop := ∀ u, H a = some u → ∃ ps, u = HO.tbl ps
theorem NT.of {H : Hp} {a : Addr} (h : H a = none) : NT H a := fun u e => by rw [h] at e; cases e
/-- new, or a tuple that stood beside -/
def NW (H : Hp) (a : Addr) (o : HO) : Prop := NT H a ∨ (H a = some o ∧ ∃ xs, o = .tup xs)
/-- the region grows by what is new; all but the dice (and tables, that grow) stands -/
structure Stp (g : Gd) (I H I' H' : Hp) : Prop where
  mono : Sub I I'
  new : ∀ a o, I' a = some o → I a = some o ∨ NW H a o
  keep : ∀ a o, a ≠ g.dz → (∀ ps, o ≠ .tbl ps) → H a = some o → H' a = some o
  rl : Rl g I' H'
section
variable {g : Gd} {I H I' H' I'' H'' : Hp}
theorem Rl.stp (r : Rl g I H) : Stp g I H I H := ⟨Sub.refl I, fun _ _ h => .inl h, fun _ _ _ _ h => h, r⟩
theorem Stp.back (s : Stp g I H I' H') {a : Addr} (h : NT H' a) : NT H a := fun u e => by
  by_cases hz : a = g.dz
  · subst hz
    obtain ⟨x, y, q⟩ := s.rl.dice
    obtain ⟨ps, e2⟩ := h _ q
    cases e2
  · by_cases ht : ∀ ps, u ≠ .tbl ps
    · exact h u (s.keep a u hz ht e)
    · exact Classical.byContradiction fun n => ht fun ps q => n ⟨ps, q⟩
theorem Stp.backW (s : Stp g I H I' H') {a : Addr} {o : HO} (h : NW H' a o) : NW H a o := by
  rcases h with h | ⟨h, xs, rfl⟩
  · exact .inl (s.back h)
  · by_cases n : NT H a
    · exact .inl n
    · refine .inr ⟨?_, xs, rfl⟩
      cases e : H a with
      | none => exact absurd (NT.of e) n
      | some u =>
        have nz : a ≠ g.dz := fun z => by
          obtain ⟨x, y, q⟩ := s.rl.dice
          rw [z, q] at h; cases h
        have ht : ∀ ps, u ≠ .tbl ps := fun ps z => n fun u' e' => by rw [e] at e'; cases e'; exact ⟨ps, z⟩
        have := s.keep a u nz ht e
        rw [h] at this; cases this; rfl
theorem Stp.trans (p : Stp g I H I' H') (q : Stp g I' H' I'' H'') : Stp g I H I'' H'' :=
  ⟨p.mono.trans q.mono, fun a o h => by
    rcases q.new a o h with z | z
    · exact p.new a o z
    · exact .inr (p.backW z), fun a o h1 h2 h3 => q.keep a o h1 h2 (p.keep a o h1 h2 h3), q.rl⟩
/-- a new object, laid beside the region -/
theorem Rl.lay (r : Rl g I H) {p : Addr} {o : HO} (hp : H p = none) : Stp g I H I (upd H p o) := by
  have nz : g.dz ≠ p := fun e => by
    obtain ⟨x, y, q⟩ := r.dice
    rw [e, hp] at q; cases q
  refine ⟨Sub.refl I, fun _ _ h => .inl h, fun a u _ _ h => ?_, ⟨fun a u h => ?_, r.dz, ?_, r.tab.ext fun a u h => ?_, r.nt⟩⟩
  · rw [upd_ne (ne_of_none h hp)]; exact h
  · rw [upd_ne (ne_of_none (r.sub a u h) hp)]; exact r.sub a u h
  · obtain ⟨x, y, q⟩ := r.dice
    exact ⟨x, y, by rw [upd_ne nz]; exact q⟩
  · rw [upd_ne (ne_of_none h hp)]; exact h
/-- what stands beside the region is taken in -/
theorem Rl.take (r : Rl g I H) {p : Addr} {o : HO} (hp : H p = some o) (hI : I p = none) (hz : p ≠ g.dz) (ho : ∀ ps, o ≠ .tbl ps) : Rl g (upd I p o) H := by
  refine ⟨fun a u h => ?_, by rw [upd_ne (Ne.symm hz)]; exact r.dz, r.dice, r.tab, fun a ps h => ?_⟩
  by_cases e : a = p
  · subst e; rw [upd_same] at h; cases h; exact hp
  · rw [upd_ne e] at h; exact r.sub a u h
  by_cases e : a = p
  · subst e; rw [upd_same] at h; exact ho ps (Option.some.inj h)
  · rw [upd_ne e] at h; exact r.nt a ps h
/-- a new object, laid within the region -/
theorem Rl.put (r : Rl g I H) {p : Addr} {o : HO} (hp : H p = none) (ho : ∀ ps, o ≠ .tbl ps := by intro _ h; cases h) : Stp g I H (upd I p o) (upd H p o) := by
  have s := r.lay (o := o) hp
  have hI : I p = none := by
    cases e : I p with
    | none => rfl
    | some u => rw [r.sub p u e] at hp; cases hp
  have nz : p ≠ g.dz := fun e => by
    obtain ⟨x, y, q⟩ := r.dice
    rw [← e, hp] at q; cases q
  refine ⟨fun a u h => ?_, fun a u h => ?_, s.keep, s.rl.take upd_same hI nz ho⟩
  · rw [upd_ne (ne_of_none h hI)]; exact h
  · by_cases e : a = p
    · subst e; exact .inr (.inl (NT.of hp))
    · rw [upd_ne e] at h; exact .inl h
end

/-! ### results, environments -/
inductive Res (α : Type) where
  | ok (a : α) | exc (c : Str) | bad
@[reducible] def Res.bind {α β : Type} (r : Res α) (k : α → Res β) : Res β := match r with
  | .ok a => k a
  | .exc c => .exc c
  | .bad => .bad
abbrev Env := List (Option D)
abbrev FE := Env → Res D
abbrev FA := Env → Res (List D)
abbrev FT := Env → Res Bool

structure ER (g : Gd) (I : Hp) (σ : L2.St) (r : Env) : Prop where
  len : σ.length = r.length
  get : ∀ (i : Nat) (d : D), r[i]? = some (some d) → ∃ v, σ[i]? = some (some v) ∧ DR g I v d
theorem ER.mono {g : Gd} {I J : Hp} {σ : L2.St} {r : Env} (e : ER g I σ r) (s : Sub I J) : ER g J σ r := ⟨e.len, fun i d h => by
  obtain ⟨v, h1, h2⟩ := e.get i d h
  exact ⟨v, h1, h2.mono s⟩⟩

/-- an exception of the class that the module calls c -/
def EX (mg : Str → Option Value) (E : XK) (c : Str) (H : Hp) : Prop := ∀ C, mg c = some (.ref C) → E (.ref C) none H
section
variable (g : Gd) (mg : Str → Option Value) (E : XK)
/-- what a result asks; S v I' H': what v must be -/
def Pst {α β : Type} (R : Hp → β → α → Prop) (I H : Hp) (r : Res α) (Q : β → Hp → Prop) : Prop := match r with
  | .ok d => ∀ v I' H', Stp g I H I' H' → R I' v d → Q v H'
  | .exc c => ∀ I' H', Stp g I H I' H' → EX mg E c H'
  | .bad => False
def tF (f : FE) : TE := fun σ H Q => ∃ I r, Rl g I H ∧ ER g I σ r ∧ Pst g mg E (DR g) I H (f r) Q
def tFA (f : FA) : TA := fun σ H Q => ∃ I r, Rl g I H ∧ ER g I σ r ∧ Pst g mg E (DRs g) I H (f r) Q
def tFT (f : FT) : TT := fun σ H Q => ∃ I r, Rl g I H ∧ ER g I σ r ∧ Pst g mg E (fun _ (v d : Bool) => v = d) I H (f r) Q
end
section
variable {g : Gd} {mg : Str → Option Value} {E : XK} {I H I' H' : Hp}
theorem Pst.step {α β : Type} {R : Hp → β → α → Prop} {r : Res α} {Q : β → Hp → Prop} (s : Stp g I H I' H') (h : Pst g mg E R I H r Q) : Pst g mg E R I' H' r Q := by
  cases r with
  | ok d => exact fun v I2 H2 q x => h v I2 H2 (s.trans q) x
  | exc c => exact fun I2 H2 q => h I2 H2 (s.trans q)
  | bad => exact h
/-- the first part of a result that goes on -/
theorem Pst.first {α β α' β' : Type} {R : Hp → β → α → Prop} {R' : Hp → β' → α' → Prop} {r : Res α} {k : α → Res α'} {Q : β → Hp → Prop} {Q' : β' → Hp → Prop} (h : Pst g mg E R' I H (r.bind k) Q')
    (go : ∀ d v I1 H1, r = .ok d → Stp g I H I1 H1 → R I1 v d → Pst g mg E R' I1 H1 (k d) Q' → Q v H1) : Pst g mg E R I H r Q := by
  cases r with
  | ok d => exact fun v I1 H1 s x => go d v I1 H1 rfl s x (Pst.step s h)
  | exc c => exact h
  | bad => exact h
/-- the end of a result without a step -/
theorem Pst.here {α β : Type} {R : Hp → β → α → Prop} {d : α} {v : β} {Q : β → Hp → Prop} (r : Rl g I H) (h : Pst g mg E R I H (.ok d) Q) (x : R I v d) : Q v H := h v I H r.stp x
end
theorem _root_.L2.PE.imp {X : Cx} {e : Expr} {t u : TE} (h : PE X e t) (k : ∀ σ H Q, u σ H Q → t σ H Q) : PE X e u := ⟨fun pins s σ H Q I q => h.run pins s σ H Q I (k σ H Q q)⟩
theorem _root_.L2.PA.imp {X : Cx} {e : List Expr} {t u : TA} (h : PA X e t) (k : ∀ σ H Q, u σ H Q → t σ H Q) : PA X e u := ⟨fun p pins s σ H Q I q => h.run p pins s σ H Q I (k σ H Q q)⟩
theorem _root_.L2.PT.imp {X : Cx} {e : Expr} {t u : TT} (h : PT X e t) (k : ∀ σ H Q, u σ H Q → t σ H Q) : PT X e u := ⟨fun pins s σ H Q I q => h.run pins s σ H Q I (k σ H Q q)⟩
end FW
/-! Expressions by functions over data. -/
namespace FW
open PySem PySem.Spec PyProof.Rows L2

/-! ### data as the library's data -/
mutual
def D.py : D → PyData
  | .non => .none
  | .bl b => .bool b
  | .int i => .int i
  | .str x => .str x
  | .tup ds => .tuple (D.pys ds)
  | .lst ds => .list (D.pys ds)
  | .dct _ => .none
  | .dice => .none
  | .par _ => .none
  | .dtt _ => .none
  | .dtf _ => .none
def D.pys : List D → List PyData
  | [] => []
  | d :: ds => D.py d :: D.pys ds
end
mutual
/-- no dict, no dice, texts of plain signs -/
def D.lay : D → Bool
  | .non => true
  | .bl _ => true
  | .int _ => true
  | .str x => x.cps.all (· < 0x110000)
  | .tup ds => D.lays ds
  | .lst ds => D.lays ds
  | .dct _ => false
  | .dice => false
  | .par _ => false
  | .dtt _ => false
  | .dtf _ => false
def D.lays : List D → Bool
  | [] => true
  | d :: ds => D.lay d && D.lays ds
end
mutual
def D.dep : D → Nat
  | .tup ds => D.deps ds + 1
  | .lst ds => D.deps ds + 1
  | .non => 0
  | .bl _ => 0
  | .int _ => 0
  | .str _ => 0
  | .dct _ => 0
  | .dice => 0
  | .par _ => 0
  | .dtt _ => 0
  | .dtf _ => 0
def D.deps : List D → Nat
  | [] => 0
  | d :: ds => max (D.dep d) (D.deps ds)
end
mutual
/-- == -/
def D.eqv : D → D → Bool
  | .non, .non => true
  | .bl a, .bl b => a == b
  | .bl a, .int j => (if a then 1 else 0) == j
  | .int i, .bl b => i == (if b then 1 else 0)
  | .int i, .int j => i == j
  | .str x, .str y => x == y
  | .lst xs, .lst ys => D.eqvs xs ys
  | .tup xs, .tup ys => D.eqvs xs ys
  | _, _ => false
def D.eqvs : List D → List D → Bool
  | [], [] => true
  | x :: xs, y :: ys => D.eqv x y && D.eqvs xs ys
  | _, _ => false
end
def D.shp (d : D) : Bool := d.lay && decide (d.dep ≤ 64)
mutual
theorem D.lay_py : ∀ d : D, d.lay = true → d.py.canLay0 = true
  | .non, _ => by rw [D.py, PyData.canLay0]
  | .bl _, _ => by rw [D.py, PyData.canLay0]
  | .int _, _ => by rw [D.py, PyData.canLay0]
  | .str x, h => by
    rw [D.lay] at h
    rw [D.py, PyData.canLay0]; exact h
  | .tup ds, h => by
    rw [D.lay] at h
    rw [D.py, PyData.canLay0]; exact D.lays_py ds h
  | .lst ds, h => by
    rw [D.lay] at h
    rw [D.py, PyData.canLay0]; exact D.lays_py ds h
  | .dct _, h => by rw [D.lay] at h; cases h
  | .dice, h => by rw [D.lay] at h; cases h
  | .par _, h => by rw [D.lay] at h; cases h
  | .dtt _, h => by rw [D.lay] at h; cases h
  | .dtf _, h => by rw [D.lay] at h; cases h
theorem D.lays_py : ∀ ds : List D, D.lays ds = true → PyData.canLayAll0 (D.pys ds) = true
  | [], _ => by rw [D.pys, PyData.canLayAll0]
  | d :: ds, h => by
    rw [D.lays, Bool.and_eq_true] at h
    rw [D.pys, PyData.canLayAll0, D.lay_py d h.1, D.lays_py ds h.2]; rfl
end
mutual
theorem D.dep_py : ∀ d : D, d.py.depth ≤ d.dep
  | .non => by rw [D.py, PyData.depth]; exact Nat.zero_le _
  | .bl _ => by rw [D.py, PyData.depth]; exact Nat.zero_le _
  | .int _ => by rw [D.py, PyData.depth]; exact Nat.zero_le _
  | .str x => by rw [D.py, PyData.depth]; exact Nat.zero_le _
  | .tup ds => by rw [D.py, PyData.depth, D.dep]; exact Nat.succ_le_succ (D.deps_py ds)
  | .lst ds => by rw [D.py, PyData.depth, D.dep]; exact Nat.succ_le_succ (D.deps_py ds)
  | .dct _ => by rw [D.py, PyData.depth]; exact Nat.zero_le _
  | .dice => by rw [D.py, PyData.depth]; exact Nat.zero_le _
  | .par _ => by rw [D.py, PyData.depth]; exact Nat.zero_le _
  | .dtt _ => by rw [D.py, PyData.depth]; exact Nat.zero_le _
  | .dtf _ => by rw [D.py, PyData.depth]; exact Nat.zero_le _
theorem D.deps_py : ∀ ds : List D, PyData.depthAll (D.pys ds) ≤ D.deps ds
  | [] => by rw [D.pys, PyData.depthAll]; exact Nat.zero_le _
  | d :: ds => by
    rw [D.pys, PyData.depthAll, D.deps]
    have h1 := D.dep_py d
    have h2 := D.deps_py ds
    omega
end
theorem D.shp_py {d : D} (h : d.shp = true) : SeqAt.shaped d.py = true := by
  unfold D.shp at h
  rw [Bool.and_eq_true, decide_eq_true_eq] at h
  unfold SeqAt.shaped
  rw [Bool.and_eq_true, decide_eq_true_eq]
  exact ⟨D.lay_py d h.1, Nat.le_trans (D.dep_py d) h.2⟩
mutual
theorem D.eqv_py : ∀ d e : D, d.lay = true → e.lay = true → PyData.eqv d.py e.py = D.eqv d e
  | .tup ds, .tup es, h, h' => by
    rw [D.lay] at h h'
    rw [D.py, D.py, PyData.eqv, D.eqv]; exact D.eqvs_py ds es h h'
  | .lst ds, .lst es, h, h' => by
    rw [D.lay] at h h'
    rw [D.py, D.py, PyData.eqv, D.eqv]; exact D.eqvs_py ds es h h'
  | .dct _, _, h, _ => by rw [D.lay] at h; cases h
  | .dice, _, h, _ => by rw [D.lay] at h; cases h
  | .par _, _, h, _ => by rw [D.lay] at h; cases h
  | .dtt _, _, h, _ => by rw [D.lay] at h; cases h
  | .dtf _, _, h, _ => by rw [D.lay] at h; cases h
  | .non, e, _, h' => by cases e <;> first | (rw [D.lay] at h'; cases h'; done) | (simp only [D.py, PyData.eqv, D.eqv])
  | .bl _, e, _, h' => by cases e <;> first | (rw [D.lay] at h'; cases h'; done) | (simp only [D.py, PyData.eqv, D.eqv])
  | .int _, e, _, h' => by cases e <;> first | (rw [D.lay] at h'; cases h'; done) | (simp only [D.py, PyData.eqv, D.eqv])
  | .str _, e, _, h' => by cases e <;> first | (simp only [D.py, PyData.eqv, D.eqv]; done) | (rw [D.lay] at h'; cases h')
  | .tup _, .non, _, _ => by simp only [D.py, PyData.eqv, D.eqv]
  | .tup _, .bl _, _, _ => by simp only [D.py, PyData.eqv, D.eqv]
  | .tup _, .int _, _, _ => by simp only [D.py, PyData.eqv, D.eqv]
  | .tup _, .str _, _, _ => by simp only [D.py, PyData.eqv, D.eqv]
  | .tup _, .lst _, _, _ => by simp only [D.py, PyData.eqv, D.eqv]
  | .tup _, .dct _, _, h => by rw [D.lay] at h; cases h
  | .tup _, .dice, _, h => by rw [D.lay] at h; cases h
  | .tup _, .par _, _, h => by rw [D.lay] at h; cases h
  | .tup _, .dtt _, _, h => by rw [D.lay] at h; cases h
  | .tup _, .dtf _, _, h => by rw [D.lay] at h; cases h
  | .lst _, .non, _, _ => by simp only [D.py, PyData.eqv, D.eqv]
  | .lst _, .bl _, _, _ => by simp only [D.py, PyData.eqv, D.eqv]
  | .lst _, .int _, _, _ => by simp only [D.py, PyData.eqv, D.eqv]
  | .lst _, .str _, _, _ => by simp only [D.py, PyData.eqv, D.eqv]
  | .lst _, .tup _, _, _ => by simp only [D.py, PyData.eqv, D.eqv]
  | .lst _, .dct _, _, h => by rw [D.lay] at h; cases h
  | .lst _, .dice, _, h => by rw [D.lay] at h; cases h
  | .lst _, .par _, _, h => by rw [D.lay] at h; cases h
  | .lst _, .dtt _, _, h => by rw [D.lay] at h; cases h
  | .lst _, .dtf _, _, h => by rw [D.lay] at h; cases h
theorem D.eqvs_py : ∀ ds es : List D, D.lays ds = true → D.lays es = true → PyData.eqvAll (D.pys ds) (D.pys es) = D.eqvs ds es
  | [], [], _, _ => by rw [D.pys, PyData.eqvAll, D.eqvs]
  | [], _ :: _, _, _ => by simp only [D.pys, PyData.eqvAll, D.eqvs]
  | _ :: _, [], _, _ => by simp only [D.pys, PyData.eqvAll, D.eqvs]
  | d :: ds, e :: es, h, h' => by
    rw [D.lays, Bool.and_eq_true] at h h'
    rw [D.pys, D.pys, PyData.eqvAll, D.eqvs, D.eqv_py d e h.1 h'.1, D.eqvs_py ds es h.2 h'.2]
end
section
variable {g : Gd} {I : Hp} (K : PySem.W.Frag)
mutual
theorem DR.dp : ∀ {v : V} {d : D}, DR g I v d → d.lay = true → Dp K I v d.py
  | _, _, .non, _ => by rw [D.py]; exact .non
  | _, _, .bl b, _ => by rw [D.py]; exact .bl b
  | _, _, .int i, _ => by rw [D.py]; exact .int i
  | _, _, .str x, _ => by rw [D.py]; exact .str x
  | _, _, .tup h u t, l => by
    rw [D.lay] at l
    rw [D.py]; exact .tup (u.sqt h) (DRs.dp t l)
  | _, _, .lst h t, l => by
    rw [D.lay] at l
    rw [D.py]; exact .lst (SqL.of h) (DRs.dp t l)
  | _, _, .dK _ _, l => by rw [D.lay] at l; cases l
  | _, _, .dT _ _, l => by rw [D.lay] at l; cases l
  | _, _, .dF _ _, l => by rw [D.lay] at l; cases l
  | _, _, .dice, l => by rw [D.lay] at l; cases l
  | _, _, .par _ _, l => by rw [D.lay] at l; cases l
theorem DRs.dp : ∀ {v : List V} {d : List D}, DRs g I v d → D.lays d = true → DpAll K I v (D.pys d)
  | _, _, .nil, _ => by rw [D.pys]; exact .nil
  | _, _, .cons h t, l => by
    rw [D.lays, Bool.and_eq_true] at l
    rw [D.pys]; exact .cons (DR.dp h l.1) (DRs.dp t l.2)
end
end

/-! ### names, constants, displays -/
section
variable {X : Cx} {g : Gd} {E : XK}
def fVar (i : Nat) : FE := fun r => match r[i]? with
  | some (some d) => .ok d
  | _ => .bad
def fC (d : D) : FE := fun _ => .ok d
theorem e_var (i : Nat) {x : Str} {pos : Pos} (hN : X.N[i]? = some x := by rfl) (hv : Vis X.env.scope x := by first | exact Or.inl rfl | exact Or.inr (Or.inl rfl) | exact Or.inr (Or.inr rfl)) (hd : (x == ("__debug__" : Str)) = false := by decide)
    (hcd : (x == ("__classdict__" : Str)) = false := by decide) : PE X (.Name x pos) (tF g X.mg E (fVar i)) := by
  refine (pe_var (i := i) hN hv hd hcd).imp fun σ H Q h => ?_
  obtain ⟨I, r, rl, er, h⟩ := h
  unfold fVar at h
  split at h
  · rename_i d e
    obtain ⟨v, e1, e2⟩ := er.get i d e
    exact ⟨v, e1, h.here rl e2⟩
  · exact h.elim
theorem tC_of {v : V} {d : D} (x : ∀ I, DR g I v d) {σ : L2.St} {H : Hp} {Q : VK} (h : tF g X.mg E (fC d) σ H Q) : tC v σ H Q := by
  obtain ⟨I, r, rl, er, h⟩ := h
  exact h.here rl (x I)
theorem e_int {i j pos} : PE X (.Constant (.int i) j pos) (tF g X.mg E (fC (.int i))) := pe_int.imp fun _ _ _ h => tC_of (fun _ => .int i) h
theorem e_str {x j pos} : PE X (.Constant (.str x) j pos) (tF g X.mg E (fC (.str x))) := pe_str.imp fun _ _ _ h => tC_of (fun _ => .str x) h
theorem e_bl {b j pos} : PE X (.Constant (.bool b) j pos) (tF g X.mg E (fC (.bl b))) := pe_bl.imp fun _ _ _ h => tC_of (fun _ => .bl b) h
theorem e_non {j pos} : PE X (.Constant .none j pos) (tF g X.mg E (fC .non)) := pe_non.imp fun _ _ _ h => tC_of (fun _ => .non) h
/-- a module's text or number -/
theorem e_gstr {x y : Str} {t : Tok} {pos : Pos} (hg : Gl X x) (hm : X.mg x = some (.str y t)) (hd : (x == ("__debug__" : Str)) = false := by decide) : PE X (.Name x pos) (tF g X.mg E (fC (.str y))) :=
  (pe_glob (v := .str y) hg hm ⟨t, rfl⟩ hd).imp fun _ _ _ h => tC_of (fun _ => .str y) h
theorem e_gint {x : Str} {n : Int} {t : Tok} {pos : Pos} (hg : Gl X x) (hm : X.mg x = some (.int n t)) (hd : (x == ("__debug__" : Str)) = false := by decide) : PE X (.Name x pos) (tF g X.mg E (fC (.int n))) :=
  (pe_glob (v := .int n) hg hm ⟨t, rfl⟩ hd).imp fun _ _ _ h => tC_of (fun _ => .int n) h

def fNil : FA := fun _ => .ok []
def fCons (f : FE) (k : FA) : FA := fun r => (f r).bind fun d => (k r).bind fun ds => .ok (d :: ds)
theorem a_nil : PA X [] (tFA g X.mg E fNil) := pa_nil.imp fun σ H Q h => by
  obtain ⟨I, r, rl, er, h⟩ := h
  exact h.here rl DRs.nil
theorem a_cons {e : Expr} {es : List Expr} {f : FE} {k : FA} (he : PE X e (tF g X.mg E f)) (hk : PA X es (tFA g X.mg E k)) (hs : starEach (e :: es) X.env = (false, eval e X.env) :: starEach es X.env := by rfl) : PA X (e :: es) (tFA g X.mg E (fCons f k)) :=
  (pa_cons he hk hs).imp fun σ H Q h => by
    obtain ⟨I, r, rl, er, h⟩ := h
    refine ⟨I, r, rl, er, Pst.first h fun d v I1 H1 _ s1 x1 h1 => ?_⟩
    refine ⟨I1, r, s1.rl, er.mono s1.mono, Pst.first h1 fun ds vs I2 H2 _ s2 x2 h2 => ?_⟩
    exact h2.here s2.rl (.cons (x1.mono s2.mono) x2)
/-- how many -/
def Len (k : FA) (n : Nat) : Prop := ∀ r ds, k r = .ok ds → ds.length = n
theorem len_nil : Len fNil 0 := fun r ds h => by cases h; rfl
theorem len_cons {f : FE} {k : FA} {n : Nat} (h : Len k n) : Len (fCons f k) (n + 1) := fun r ds q => by
  unfold fCons at q
  cases e1 : f r with
  | ok d =>
    rw [e1] at q
    cases e2 : k r with
    | ok es => rw [e2] at q; cases q; exact congrArg (· + 1) (h r es e2)
    | exc c => rw [e2] at q; cases q
    | bad => rw [e2] at q; cases q
  | exc c => rw [e1] at q; cases q
  | bad => rw [e1] at q; cases q
theorem small_line {n : Nat} (h : n ≤ 100000) : n ≤ sizeLine := Nat.le_trans h (by decide)
def fTup (k : FA) : FE := fun r => (k r).bind fun ds => .ok (.tup ds)
def fLst (k : FA) : FE := fun r => (k r).bind fun ds => .ok (.lst ds)
/-- a new tuple is known -/
theorem inv_tup {pins : List (Addr × Obj)} {σ : L2.St} {H : Hp} {s : Shared} {h' : Heap} {t' : Nat} {p : Addr} {xs : List V} {its : List Value} {n : Nat} (J : Inv X pins σ H s) (k : ∀ b o, s.heap.get? b = some o → h'.get? b = some o) (hp : s.heap.objs.size ≤ p)
    (hg : h'.get? p = some { cls := .type "tuple", data := .seq its.toArray n }) (r : Vals xs its) (hz : xs.length ≤ sizeLine) : ∃ u, TupO xs u ∧ Inv X pins σ (upd H p u) { s with heap := h', toks := t' } := by
  have ok : ∀ H', ObjOk X.prog X.w H' h' p (.tup xs) := fun H' => ⟨hz, its, r, ⟨_, hg, rfl, n, rfl⟩⟩
  cases e : strsV xs with
  | false => exact ⟨.tup xs, .inl ⟨rfl, e⟩, J.laid k hp (ok _)⟩
  | true => exact ⟨.frz _ (.tup xs), .inr ⟨_, ⟨rfl, e⟩, rfl⟩, J.laid k hp ⟨hg, ok _⟩⟩
def tTupX (t : TA) : TE := fun σ H Q => t σ H fun xs H1 => xs.length ≤ sizeLine ∧ ∀ p u, H1 p = none → TupO xs u → Q (.ref p) (upd H1 p u)
theorem pe_tupX {es : List Expr} {t : TA} {x1 : Nat} {pos : Pos} (h : PA X es t) : PE X (.Tuple es x1 pos) (tTupX t) := by
  refine ⟨fun pins s σ H Q I hq => ?_⟩
  refine wpAny_Tuple_spliced (thn (h.run pos pins s σ H _ I hq) fun us s1 ⟨xs, H1, I1, r, z, q⟩ => ⟨by rw [← r.length]; exact z, ?_⟩)
  have hf : H1 s1.heap.objs.size = none := I1.hok.fresh (Nat.le_refl _)
  obtain ⟨u, hu, J⟩ := inv_tup (t' := s1.toks) I1 (fun b u e => Heap.get?_push_of_some _ e) (Nat.le_refl _) (Heap.get?_push_size _ rfl) r z
  exact ⟨.ref s1.heap.objs.size, _, J, rfl, q _ u hf hu⟩
theorem e_tup {es : List Expr} {x1 : Nat} {pos : Pos} {k : FA} {n : Nat} (hk : PA X es (tFA g X.mg E k)) (hl : Len k n) (hn : n ≤ 100000 := by decide) : PE X (.Tuple es x1 pos) (tF g X.mg E (fTup k)) :=
  (pe_tupX hk).imp fun σ H Q h => by
    obtain ⟨I, r, rl, er, h⟩ := h
    refine ⟨I, r, rl, er, Pst.first h fun ds vs I1 H1 e s1 x1 h1 => ⟨small_line ?_, fun p u hp hu => ?_⟩⟩
    · rw [x1.len, hl r ds e]; exact hn
    · have s2 := s1.rl.put (o := u) hp hu.nt
      exact h1 _ _ _ s2 (.tup upd_same hu (x1.mono s2.mono))
theorem e_lst {es : List Expr} {pos : Pos} {k : FA} {n : Nat} (hk : PA X es (tFA g X.mg E k)) (hl : Len k n) (hn : n ≤ 100000 := by decide) : PE X (.List es pos) (tF g X.mg E (fLst k)) :=
  (pe_lst hk).imp fun σ H Q h => by
    obtain ⟨I, r, rl, er, h⟩ := h
    refine ⟨I, r, rl, er, Pst.first h fun ds vs I1 H1 e s1 x1 h1 => ⟨small_line ?_, fun p hp => ?_⟩⟩
    · rw [x1.len, hl r ds e]; exact hn
    · have s2 := s1.rl.put (o := .lst vs) hp
      exact h1 _ _ _ s2 (.lst upd_same (x1.mono s2.mono))

/-! ### operators of two values -/
/-- what the rule r of two values asks, dop tells -/
def OpD (g : Gd) (mg : Str → Option Value) (E : XK) (r : R2) (dop : D → D → Res D) : Prop := ∀ (I H : Hp) (x y : D) (v u : V) (Q : VK), Rl g I H → DR g I v x → DR g I u y → Pst g mg E (DR g) I H (dop x y) Q → r v u H Q
def fOp (dop : D → D → Res D) (fa fb : FE) : FE := fun r => (fa r).bind fun x => (fb r).bind fun y => dop x y
theorem tOp_of {r2 : R2} {dop : D → D → Res D} {fa fb : FE} (ho : OpD g X.mg E r2 dop) {σ : L2.St} {H : Hp} {Q : VK} (h : tF g X.mg E (fOp dop fa fb) σ H Q) : tOp r2 (tF g X.mg E fa) (tF g X.mg E fb) σ H Q := by
  obtain ⟨I, r, rl, er, h⟩ := h
  refine ⟨I, r, rl, er, Pst.first h fun x v I1 H1 _ s1 x1 h1 => ?_⟩
  refine ⟨I1, r, s1.rl, er.mono s1.mono, Pst.first h1 fun y u I2 H2 _ s2 x2 h2 => ?_⟩
  exact ho I2 H2 x y v u Q s2.rl (x1.mono s2.mono) x2 h2
theorem e_op {op : Operator} {r : R2} {dop : D → D → Res D} {a b : Expr} {fa fb : FE} {pos : Pos} (hr : OpR X (binaryOp op) r) (ho : OpD g X.mg E r dop) (ha : PE X a (tF g X.mg E fa)) (hb : PE X b (tF g X.mg E fb)) : PE X (.BinOp a op b pos) (tF g X.mg E (fOp dop fa fb)) :=
  (pe_op hr ha hb).imp fun _ _ _ h => tOp_of ho h
theorem e_cmp {op : CmpOp} {r : R2} {dop : D → D → Res D} {a b : Expr} {fa fb : FE} {pos : Pos} (hr : OpR X (compareOp op) r) (ho : OpD g X.mg E r dop) (ha : PE X a (tF g X.mg E fa)) (hb : PE X b (tF g X.mg E fb)) (hm : behindInMarks op b = false) : PE X (.Compare a [op] [b] pos) (tF g X.mg E (fOp dop fa fb)) :=
  (pe_cmpR hr ha hb hm).imp fun _ _ _ h => tOp_of ho h
end

/-! ### which operator does what -/
def dAdd : D → D → Res D
  | .int i, .int j => .ok (.int (i + j))
  | .str a, .str b => if a.length + b.length ≤ 100000 then .ok (.str (a ++ b)) else .bad
  | .tup a, .tup b => if a.length + b.length ≤ 100000 then .ok (.tup (a ++ b)) else .bad
  | .lst a, .lst b => if a.length + b.length ≤ 100000 then .ok (.lst (a ++ b)) else .bad
  | _, _ => .bad
def dSub : D → D → Res D
  | .int i, .int j => .ok (.int (i - j))
  | _, _ => .bad
/-- one factor small, or a list or tuple so many times -/
def dMul : D → D → Res D
  | .int i, .int j => if (-(2 ^ 64) < i ∧ i < 2 ^ 64) ∨ (-(2 ^ 64) < j ∧ j < 2 ^ 64) then .ok (.int (i * j)) else .bad
  | .lst a, .int k => if -(2 ^ 63) ≤ k ∧ k < 2 ^ 63 ∧ a.length * k.toNat ≤ 100000 then .ok (.lst (List.replicate k.toNat a).flatten) else .bad
  | .tup a, .int k => if (a ≠ [] ∧ 2 ≤ k ∧ k ≤ 1000 ∧ a.length ≤ 1000) ∧ strsD (List.replicate k.toNat a).flatten = false then .ok (.tup (List.replicate k.toNat a).flatten) else .bad
  | _, _ => .bad
section
variable {X : Cx} {g : Gd} {E : XK}
theorem od_sub : OpD g X.mg E (rI0 fun i j => .int (i - j)) dSub := by
  intro I H x y v u Q rl hx hy p
  unfold dSub at p
  split at p
  · cases hx; cases hy
    exact ⟨_, _, rfl, rfl, p.here rl (.int _)⟩
  · exact p.elim
theorem e_sub {a b : Expr} {fa fb : FE} {pos : Pos} (ha : PE X a (tF g X.mg E fa)) (hb : PE X b (tF g X.mg E fb)) : PE X (.BinOp a .Sub b pos) (tF g X.mg E (fOp dSub fa fb)) := e_op op_sub od_sub ha hb
def rCatX (K : PySem.W.Frag) : R2 := fun x y H Q => ∃ a b xs ys, x = .ref a ∧ y = .ref b ∧ SqT K H a xs ∧ SqT K H b ys ∧ xs.length + ys.length ≤ sizeLine ∧
  (xs = [] → Q (.ref b) H) ∧ (xs ≠ [] → ys = [] → Q (.ref a) H) ∧ (xs ≠ [] → ys ≠ [] → ∀ p u, H p = none → TupO (xs ++ ys) u → Q (.ref p) (upd H p u))
theorem op_catX : OpR X (binaryOp .Add) (rCatX X.K) := by
  intro pins s σ H x y v u Q I rx ry h
  obtain ⟨a, b, xs, ys, rfl, rfl, ha, hb, hz, q0, q1, q2⟩ := h
  cases rx
  cases ry
  obtain ⟨its, r1, p1, _⟩ := I.tuple ha
  obtain ⟨its2, r2, p2, _⟩ := I.tuple hb
  by_cases hx : xs = []
  · subst hx
    cases r1
    exact cat_tup0 p1 p2 ⟨.ref b, H, I, rfl, q0 rfl⟩
  · refine HT.cat_tup p1 p2 (fun z => hx (r1.nil_iff.mp z)) (fun z => ⟨.ref a, H, I, rfl, q1 hx (r2.nil_iff.mp z)⟩) (fun z => ?_) (by rw [← r1.length, ← r2.length]; exact hz)
    obtain ⟨u, hu, J⟩ := inv_tup (t' := s.toks) I (fun b u e => Heap.get?_push_of_some _ e) (Nat.le_refl _) (Heap.get?_push_size _ rfl) (r1.append r2) (by rw [List.length_append]; exact hz)
    exact ⟨.ref s.heap.objs.size, _, J, rfl, q2 hx (fun w => z (r2.nil_iff.mpr w)) _ u (I.hok.fresh (Nat.le_refl _)) hu⟩
theorem od_add : OpD g X.mg E (fun x y H Q => rI0 (fun i j => .int (i + j)) x y H Q ∨ (∃ i j, x = .str i ∧ y = .str j ∧ i.length + j.length ≤ sizeLine ∧ Q (.str (i ++ j)) H) ∨ rCatX X.K x y H Q ∨ rCat x y H Q) dAdd := by
  intro I H x y v u Q rl hx hy p
  unfold dAdd at p
  split at p
  · cases hx; cases hy
    exact .inl ⟨_, _, rfl, rfl, p.here rl (.int _)⟩
  · split at p
    · rename_i c
      cases hx; cases hy
      exact .inr (.inl ⟨_, _, rfl, rfl, small_line c, p.here rl (.str _)⟩)
    · exact p.elim
  · split at p
    · rename_i a b c
      cases hx with
      | tup ha ua ra =>
        rename_i pa xs _
        cases hy with
        | tup hb ub rb =>
          rename_i pb ys _
          have la := ra.len
          have lb := rb.len
          refine .inr (.inr (.inl ⟨pa, pb, xs, ys, rfl, rfl, ua.sqt (rl.sub _ _ ha), ub.sqt (rl.sub _ _ hb), small_line (by omega), fun e => ?_, fun _ e => ?_, fun _ _ q u hq hu => ?_⟩))
          · have e0 : a = [] := List.length_eq_zero_iff.mp (by rw [← la, e]; rfl)
            rw [e0] at p
            exact p.here rl (.tup hb ub rb)
          · have e0 : b = [] := List.length_eq_zero_iff.mp (by rw [← lb, e]; rfl)
            rw [e0, List.append_nil] at p
            exact p.here rl (.tup ha ua ra)
          · have s := rl.put (o := u) hq hu.nt
            exact p _ _ _ s (.tup upd_same hu ((ra.app rb).mono s.mono))
    · exact p.elim
  · split at p
    · rename_i a b c
      cases hx with
      | lst ha ra =>
        rename_i pa xs
        cases hy with
        | lst hb rb =>
          rename_i pb ys
          have la := ra.len
          have lb := rb.len
          refine .inr (.inr (.inr ⟨pa, pb, xs, ys, rfl, rfl, rl.sub _ _ ha, rl.sub _ _ hb, small_line (by omega), fun q hq => ?_⟩))
          have s := rl.put (o := .lst (xs ++ ys)) hq
          exact p _ _ _ s (.lst upd_same ((ra.app rb).mono s.mono))
    · exact p.elim
  · exact p.elim
theorem e_add {a b : Expr} {fa fb : FE} {pos : Pos} (ha : PE X a (tF g X.mg E fa)) (hb : PE X b (tF g X.mg E fb)) : PE X (.BinOp a .Add b pos) (tF g X.mg E (fOp dAdd fa fb)) := e_op (op_add.or (op_add_str.or (op_catX.or op_cat))) od_add ha hb
theorem DRs.rep {I : Hp} {vs : List V} {ds : List D} (h : DRs g I vs ds) : ∀ n : Nat, DRs g I (List.replicate n vs).flatten (List.replicate n ds).flatten
  | 0 => .nil
  | n + 1 => by rw [List.replicate_succ, List.replicate_succ, List.flatten_cons, List.flatten_cons]; exact h.app (DRs.rep h n)
theorem od_mul : OpD g X.mg E (fun x y H Q => rI CMul (fun i j => .int (i * j)) x y H Q ∨ rRep x y H Q ∨ rRepT X.K x y H Q) dMul := by
  intro I H x y v u Q rl hx hy p
  unfold dMul at p
  split at p
  · split at p
    · rename_i c
      cases hx; cases hy
      exact .inl ⟨_, _, rfl, rfl, c, p.here rl (.int _)⟩
    · exact p.elim
  · split at p
    · rename_i a k c
      cases hy
      cases hx with
      | lst ha ra =>
        rename_i pa xs
        refine .inr (.inl ⟨pa, k, xs, rfl, rfl, rl.sub _ _ ha, c.1, c.2.1, small_line (by rw [ra.len]; exact c.2.2), fun q hq => ?_⟩)
        have s := rl.put (o := .lst (List.replicate k.toNat xs).flatten) hq
        exact p _ _ _ s (.lst upd_same ((ra.rep _).mono s.mono))
    · exact p.elim
  · split at p
    · rename_i a k c
      cases hy
      cases hx with
      | tup ha ua ra =>
        rename_i pa xs _
        obtain ⟨c, cs⟩ := c
        refine .inr (.inr ⟨pa, k, xs, rfl, rfl, ua.sqt (rl.sub _ _ ha), fun z => c.1 ?_, c.2.1, c.2.2.1, by rw [ra.len]; exact c.2.2.2, fun q hq => ?_⟩)
        · have := ra.len
          rw [z] at this
          exact List.length_eq_zero_iff.mp this.symm
        · have s := rl.put (o := .tup (List.replicate k.toNat xs).flatten) hq
          exact p _ _ _ s (.tup upd_same (.inl ⟨rfl, by rw [(ra.rep _).strs]; exact cs⟩) ((ra.rep _).mono s.mono))
    · exact p.elim
  · exact p.elim
end
end FW
/-! Comparisons, tests, items, calls of built-ins, by functions over data. -/
namespace FW
open PySem PySem.Spec PyProof.Rows L2

/-! ### == and != -/
def scalD : D → D → Bool
  | .str _, .str _ => true
  | .str _, .int _ => true
  | .str _, .bl _ => true
  | .str _, .non => true
  | .int _, .str _ => true
  | .bl _, .str _ => true
  | .non, .str _ => true
  | _, _ => false
def eqOk (x y : D) : Bool := (x.shp && y.shp) || scalD x y
def dEq (x y : D) : Res D := if eqOk x y = true then .ok (.bl (D.eqv x y)) else .bad
def dNe (x y : D) : Res D := if eqOk x y = true then .ok (.bl (!D.eqv x y)) else .bad
section
variable {X : Cx} {g : Gd} {E : XK}
theorem eq_parts {I H : Hp} {x y : D} {v u : V} (rl : Rl g I H) (hx : DR g I v x) (hy : DR g I u y) (c : eqOk x y = true) :
    (Dp X.K H v x.py ∧ Dp X.K H u y.py ∧ SeqAt.shaped x.py = true ∧ SeqAt.shaped y.py = true ∧ PyData.eqv x.py y.py = D.eqv x y) ∨ (scal v u = true ∧ decide (v = u) = D.eqv x y) := by
  unfold eqOk at c
  rw [Bool.or_eq_true, Bool.and_eq_true] at c
  rcases c with ⟨c1, c2⟩ | c
  · have l1 := (Bool.and_eq_true_iff.mp c1).1
    have l2 := (Bool.and_eq_true_iff.mp c2).1
    exact .inl ⟨(hx.mono rl.sub).dp X.K l1, (hy.mono rl.sub).dp X.K l2, D.shp_py c1, D.shp_py c2, D.eqv_py x y l1 l2⟩
  · refine .inr ?_
    unfold scalD at c
    split at c
    · cases hx; cases hy
      refine ⟨rfl, ?_⟩
      rw [D.eqv, dec_str]
    all_goals first
      | (cases hx; cases hy; refine ⟨rfl, ?_⟩; simp [D.eqv]; done)
      | cases c
theorem od_eq : OpD g X.mg E (fun x y H Q => rEqD X.K x y H Q ∨ rEq x y H Q) dEq := by
  intro I H x y v u Q rl hx hy p
  unfold dEq at p
  split at p
  · rename_i c
    have q := p.here rl (.bl _)
    rcases eq_parts (X := X) rl hx hy c with ⟨a, b, c1, c2, e⟩ | ⟨a, e⟩
    · exact .inl ⟨_, _, a, b, c1, c2, by rw [e]; exact q⟩
    · exact .inr ⟨a, by rw [e]; exact q⟩
  · exact p.elim
theorem od_ne : OpD g X.mg E (fun x y H Q => rNeD X.K x y H Q ∨ rNe x y H Q) dNe := by
  intro I H x y v u Q rl hx hy p
  unfold dNe at p
  split at p
  · rename_i c
    have q := p.here rl (.bl _)
    rcases eq_parts (X := X) rl hx hy c with ⟨a, b, c1, c2, e⟩ | ⟨a, e⟩
    · exact .inl ⟨_, _, a, b, c1, c2, by rw [e]; exact q⟩
    · exact .inr ⟨a, by rw [e]; exact q⟩
  · exact p.elim
variable {a b : Expr} {fa fb : FE} {pos : Pos} {k : Nat}
theorem e_eq (hr : Room k X.A) (ha : PE X a (tF g X.mg E fa)) (hb : PE X b (tF g X.mg E fb)) : PE X (.Compare a [.Eq] [b] pos) (tF g X.mg E (fOp dEq fa fb)) := e_cmp ((op_eqD hr.units).or op_eq) od_eq ha hb (nomark _)
/-! ### order -/
def dLt : D → D → Res D
  | .int i, .int j => .ok (.bl (decide (i < j)))
  | .str x, .str y => .ok (.bl (decide (x.cps.toList < y.cps.toList)))
  | _, _ => .bad
def dLe : D → D → Res D
  | .int i, .int j => .ok (.bl (decide (i ≤ j)))
  | .str x, .str y => .ok (.bl (!decide (y.cps.toList < x.cps.toList)))
  | _, _ => .bad
def dGt : D → D → Res D
  | .int i, .int j => .ok (.bl (decide (j < i)))
  | .str x, .str y => .ok (.bl (decide (y.cps.toList < x.cps.toList)))
  | _, _ => .bad
def dGe : D → D → Res D
  | .int i, .int j => .ok (.bl (decide (j ≤ i)))
  | .str x, .str y => .ok (.bl (!decide (x.cps.toList < y.cps.toList)))
  | _, _ => .bad
def rOrd (p : Int → Int → Bool) (q : Str → Str → Bool) : R2 := fun x y H Q => rI0 (fun i j => .bl (p i j)) x y H Q ∨ ∃ i j, x = .str i ∧ y = .str j ∧ Q (.bl (q i j)) H
theorem od_ord {p : Int → Int → Bool} {q : Str → Str → Bool} {dop : D → D → Res D} (h1 : ∀ i j, dop (.int i) (.int j) = .ok (.bl (p i j))) (h2 : ∀ i j, dop (.str i) (.str j) = .ok (.bl (q i j)))
    (h3 : ∀ x y, dop x y = .bad ∨ (∃ i j, x = .int i ∧ y = .int j) ∨ ∃ i j, x = .str i ∧ y = .str j) : OpD g X.mg E (rOrd p q) dop := by
  intro I H x y v u Q rl hx hy z
  rcases h3 x y with e | ⟨i, j, rfl, rfl⟩ | ⟨i, j, rfl, rfl⟩
  · rw [e] at z; exact z.elim
  · cases hx; cases hy
    rw [h1] at z
    exact .inl ⟨_, _, rfl, rfl, z.here rl (.bl _)⟩
  · cases hx; cases hy
    rw [h2] at z
    exact .inr ⟨_, _, rfl, rfl, z.here rl (.bl _)⟩
theorem od_lt : OpD g X.mg E (rOrd (fun i j => decide (i < j)) fun i j => decide (i.cps.toList < j.cps.toList)) dLt := od_ord (fun _ _ => rfl) (fun _ _ => rfl) fun x y => by
  unfold dLt; split <;> simp
theorem od_le : OpD g X.mg E (rOrd (fun i j => decide (i ≤ j)) fun i j => !decide (j.cps.toList < i.cps.toList)) dLe := od_ord (fun _ _ => rfl) (fun _ _ => rfl) fun x y => by
  unfold dLe; split <;> simp
theorem od_gt : OpD g X.mg E (rOrd (fun i j => decide (j < i)) fun i j => decide (j.cps.toList < i.cps.toList)) dGt := od_ord (fun _ _ => rfl) (fun _ _ => rfl) fun x y => by
  unfold dGt; split <;> simp
theorem od_ge : OpD g X.mg E (rOrd (fun i j => decide (j ≤ i)) fun i j => !decide (i.cps.toList < j.cps.toList)) dGe := od_ord (fun _ _ => rfl) (fun _ _ => rfl) fun x y => by
  unfold dGe; split <;> simp
theorem or_lt : OpR X (compareOp .Lt) (rOrd (fun i j => decide (i < j)) fun i j => decide (i.cps.toList < j.cps.toList)) := op_lt.or op_lt_str
theorem or_le : OpR X (compareOp .LtE) (rOrd (fun i j => decide (i ≤ j)) fun i j => !decide (j.cps.toList < i.cps.toList)) := op_le.or op_le_str
theorem or_gt : OpR X (compareOp .Gt) (rOrd (fun i j => decide (j < i)) fun i j => decide (j.cps.toList < i.cps.toList)) := op_gt.or op_gt_str
theorem or_ge : OpR X (compareOp .GtE) (rOrd (fun i j => decide (j ≤ i)) fun i j => !decide (i.cps.toList < j.cps.toList)) := op_ge.or op_ge_str
theorem e_lt (ha : PE X a (tF g X.mg E fa)) (hb : PE X b (tF g X.mg E fb)) : PE X (.Compare a [.Lt] [b] pos) (tF g X.mg E (fOp dLt fa fb)) := e_cmp or_lt od_lt ha hb (nomark _)
theorem e_ge (ha : PE X a (tF g X.mg E fa)) (hb : PE X b (tF g X.mg E fb)) : PE X (.Compare a [.GtE] [b] pos) (tF g X.mg E (fOp dGe fa fb)) := e_cmp or_ge od_ge ha hb (nomark _)

/-! ### is, is not -/
def dIsNot : D → D → Res D
  | .non, .non => .ok (.bl false)
  | _, .non => .ok (.bl true)
  | .bl a, .bl b => .ok (.bl (!decide (a = b)))
  | _, _ => .bad
theorem od_isnot : OpD g X.mg E (fun x y H Q => (y = .non ∧ Q (.bl (!decide (x = .non))) H) ∨ rNotB x y H Q) dIsNot := by
  intro I H x y v u Q rl hx hy p
  cases hy with
  | non =>
    refine .inl ⟨rfl, ?_⟩
    cases hx <;> exact p.here rl (.bl _)
  | bl b =>
    cases hx with
    | bl a => exact .inr ⟨a, b, rfl, rfl, p.here rl (.bl _)⟩
    | _ => exact p.elim
  | _ => cases hx <;> exact p.elim
/-! ### in, not in -/
def D.flat : D → Bool
  | .non => true
  | .bl _ => true
  | .int _ => true
  | .str _ => true
  | _ => false
def D.any (x : D) (ys : List D) : Bool := ys.any fun y => D.eqv y x
def inD (x : D) (y : D) : Option Bool := match y with
  | .tup ys => if x.flat && ys.all D.flat then some (x.any ys) else none
  | .lst ys => if (x.flat && ys.all D.flat) || (x.shp && (D.lst ys).shp) then some (x.any ys) else none
  | .str z => match x with
    | .str w => match w.cps.toList with
      | [c] => some (decide (c ∈ z.cps.toList))
      | _ => none
    | _ => none
  | _ => none
def dIn (x y : D) : Res D := match inD x y with
  | some b => .ok (.bl b)
  | none => .bad
def dNotIn (x y : D) : Res D := match inD x y with
  | some b => .ok (.bl (!b))
  | none => .bad
theorem DR.flatV {I : Hp} {v : V} {x : D} (h : DR g I v x) (f : x.flat = true) : L2.flatV v = true := by cases h <;> first | rfl | cases f
theorem DR.eqV {I : Hp} {v u : V} {x y : D} (h : DR g I v x) (h' : DR g I u y) (f : x.flat = true) (f' : y.flat = true) : L2.eqV v u = D.eqv x y := by
  cases h <;> cases h' <;> first | (simp only [L2.eqV, D.eqv]; done) | cases f | cases f'
theorem DRs.flatV {I : Hp} : ∀ {vs : List V} {ys : List D}, DRs g I vs ys → ys.all D.flat = true → vs.all L2.flatV = true
  | _, _, .nil, _ => rfl
  | _, _, .cons r t, f => by
    rw [List.all_cons, Bool.and_eq_true] at f ⊢
    exact ⟨r.flatV f.1, DRs.flatV t f.2⟩
theorem DRs.inV {I : Hp} {v : V} {x : D} (h : DR g I v x) (f : x.flat = true) : ∀ {vs : List V} {ys : List D}, DRs g I vs ys → ys.all D.flat = true → L2.inV v vs = x.any ys
  | _, _, .nil, _ => rfl
  | _, _, .cons (d := y) (ds := ys) r t, q => by
    rw [List.all_cons, Bool.and_eq_true] at q
    have e := DRs.inV h f t q.2
    unfold L2.inV at e ⊢
    unfold D.any at e ⊢
    rw [List.any_cons, List.any_cons, e, r.eqV h q.1 f]
theorem pys_any {x : D} (hx : x.lay = true) : ∀ {ys : List D}, D.lays ys = true → ((D.pys ys).any fun z => PyData.eqv z x.py) = x.any ys
  | [], _ => by rw [D.pys]; rfl
  | y :: ys, h => by
    rw [D.lays, Bool.and_eq_true] at h
    have e := pys_any hx h.2
    unfold D.any at e ⊢
    rw [D.pys, List.any_cons, List.any_cons, e, D.eqv_py y x h.1 hx]
theorem cps_one {w : Str} {c : Nat} (h : w.cps.toList = [c]) : w = ⟨#[c]⟩ := by
  obtain ⟨l⟩ := w
  have : l = #[c] := by
    apply Array.toList_inj.mp
    rw [h]
  rw [this]
def rInA (K : PySem.W.Frag) (neg : Bool) : R2 := fun x y H Q => rIn K neg x y H Q ∨ (if neg then rNotInD K x y H Q else rInD K x y H Q) ∨ ∃ (c : Nat) (z : Str), x = .str ⟨#[c]⟩ ∧ y = .str z ∧ Q (.bl (if neg then !decide (c ∈ z.cps.toList) else decide (c ∈ z.cps.toList))) H
theorem od_inA {neg : Bool} {dop : D → D → Res D} (h : ∀ x y, dop x y = match inD x y with | some b => .ok (.bl (if neg then !b else b)) | none => .bad) : OpD g X.mg E (rInA X.K neg) dop := by
  intro I H x y v u Q rl hx hy p
  rw [h] at p
  cases e : inD x y with
  | none => rw [e] at p; exact p.elim
  | some k =>
    rw [e] at p
    have q : Q (.bl (if neg then !k else k)) H := p.here rl (.bl _)
    unfold inD at e
    split at e
    · rename_i ys
      split at e
      · rename_i c
        cases e
        rw [Bool.and_eq_true] at c
        cases hy with
        | tup hu uu ru =>
          rename_i pu us _
          refine .inl ⟨pu, us, rfl, .inr (uu.sqt (rl.sub _ _ hu)), hx.flatV c.1, ru.flatV c.2, ?_⟩
          rw [DRs.inV hx c.1 ru c.2]
          exact q
      · cases e
    · rename_i ys
      split at e
      · rename_i c
        cases e
        rw [Bool.or_eq_true, Bool.and_eq_true, Bool.and_eq_true] at c
        cases hy with
        | lst hu ru =>
          rename_i pu us
          rcases c with c | c
          · refine .inl ⟨pu, us, rfl, .inl (SqL.of (rl.sub _ _ hu)), hx.flatV c.1, ru.flatV c.2, ?_⟩
            rw [DRs.inV hx c.1 ru c.2]
            exact q
          · refine .inr (.inl ?_)
            have l1 := (Bool.and_eq_true_iff.mp c.1).1
            have l2 := (Bool.and_eq_true_iff.mp c.2).1
            have hl : D.lays ys = true := by rw [D.lay] at l2; exact l2
            have dx := (hx.mono rl.sub).dp X.K l1
            have dy := ((DR.lst hu ru).mono rl.sub).dp X.K l2
            have sy := D.shp_py c.2
            rw [D.py] at dy sy
            have ea := pys_any l1 hl
            cases neg with
            | true => exact ⟨_, _, dx, dy, D.shp_py c.1, sy, by rw [ea]; exact q⟩
            | false => exact ⟨_, _, dx, dy, D.shp_py c.1, sy, by rw [ea]; exact q⟩
      · cases e
    · rename_i z
      split at e
      · rename_i w
        split at e
        · rename_i c hw
          cases e
          cases hx; cases hy
          exact .inr (.inr ⟨c, z, by rw [cps_one hw], rfl, q⟩)
        · cases e
      · cases e
    · cases e
theorem or_in (hr : Room k X.A) : OpR X (compareOp .In) (rInA X.K false) := op_in_seq.or ((op_inD (by have := hr.un; omega)).or op_in_sign)
theorem or_notin (hr : Room k X.A) : OpR X (compareOp .NotIn) (rInA X.K true) := op_notIn_seq.or ((op_notInD (by have := hr.un; omega)).or op_notIn_sign)
theorem e_in (hr : Room k X.A) (ha : PE X a (tF g X.mg E fa)) (hb : PE X b (tF g X.mg E fb)) (hm : behindInMarks .In b = false := by rfl) : PE X (.Compare a [.In] [b] pos) (tF g X.mg E (fOp dIn fa fb)) := e_cmp (or_in hr) (od_inA fun x y => by unfold dIn; cases inD x y <;> rfl) ha hb hm
end

/-! ### truth values, and, or, not, if -/
def fTest (f : FE) : FT := fun r => (f r).bind fun d => match d with
  | .bl b => .ok b
  | _ => .bad
def fAnd (p q : FT) : FT := fun r => (p r).bind fun b => if b = true then q r else .ok false
def fOr (p q : FT) : FT := fun r => (p r).bind fun b => if b = true then .ok true else q r
def fNot (p : FT) : FT := fun r => (p r).bind fun b => .ok (!b)
def fIf (c : FT) (fa fb : FE) : FE := fun r => (c r).bind fun b => if b = true then fa r else fb r
def fAndV (fa fb : FE) : FE := fun r => (fa r).bind fun d => match d with
  | .bl b => if b = true then fb r else .ok (.bl false)
  | _ => .bad
def fNotV (fa : FE) : FE := fun r => (fa r).bind fun d => match d with
  | .bl b => .ok (.bl (!b))
  | _ => .bad
def fNeg (fa : FE) : FE := fun r => (fa r).bind fun d => match d with
  | .int i => .ok (.int (-i))
  | _ => .bad
section
variable {X : Cx} {g : Gd} {E : XK} {a b c : Expr} {fa fb : FE} {p q : FT} {pos : Pos} {k : Nat} {rest : List Expr}
theorem tB_of {σ : L2.St} {H : Hp} {Q : Bool → Hp → Prop} (h : tFT g X.mg E (fTest fa) σ H Q) : tTest (tF g X.mg E fa) σ H Q := by
  obtain ⟨I, r, rl, er, h⟩ := h
  refine ⟨I, r, rl, er, Pst.first h fun d v I1 H1 _ s1 x1 h1 => ?_⟩
  cases x1 <;> first | exact h1.elim | exact ⟨_, rfl, h1.here s1.rl rfl⟩
theorem t_cmp {op : CmpOp} {r : R2} {dop : D → D → Res D} (hr : OpR X (compareOp op) r) (ho : OpD g X.mg E r dop) (ha : PE X a (tF g X.mg E fa)) (hb : PE X b (tF g X.mg E fb)) (hm : behindInMarks op b = false) : PT X (.Compare a [op] [b] pos) (tFT g X.mg E (fTest (fOp dop fa fb))) :=
  (pt_cmpR hr ha hb hm).imp fun σ H Q h => by
    obtain ⟨I, r, rl, er, h⟩ := tB_of h
    exact tOp_of ho ⟨I, r, rl, er, h⟩
theorem t_eq (hr : Room k X.A) (ha : PE X a (tF g X.mg E fa)) (hb : PE X b (tF g X.mg E fb)) : PT X (.Compare a [.Eq] [b] pos) (tFT g X.mg E (fTest (fOp dEq fa fb))) := t_cmp ((op_eqD hr.units).or op_eq) od_eq ha hb (nomark _)
theorem t_ne (hr : Room k X.A) (ha : PE X a (tF g X.mg E fa)) (hb : PE X b (tF g X.mg E fb)) : PT X (.Compare a [.NotEq] [b] pos) (tFT g X.mg E (fTest (fOp dNe fa fb))) := t_cmp ((op_neD hr.units).or op_ne) od_ne ha hb (nomark _)
theorem t_lt (ha : PE X a (tF g X.mg E fa)) (hb : PE X b (tF g X.mg E fb)) : PT X (.Compare a [.Lt] [b] pos) (tFT g X.mg E (fTest (fOp dLt fa fb))) := t_cmp or_lt od_lt ha hb (nomark _)
theorem t_gt (ha : PE X a (tF g X.mg E fa)) (hb : PE X b (tF g X.mg E fb)) : PT X (.Compare a [.Gt] [b] pos) (tFT g X.mg E (fTest (fOp dGt fa fb))) := t_cmp or_gt od_gt ha hb (nomark _)
theorem t_isnot (ha : PE X a (tF g X.mg E fa)) (hb : PE X b (tF g X.mg E fb)) : PT X (.Compare a [.IsNot] [b] pos) (tFT g X.mg E (fTest (fOp dIsNot fa fb))) := t_cmp (op_notN.or op_notBl) od_isnot ha hb (nomark _)
theorem t_notin (hr : Room k X.A) (ha : PE X a (tF g X.mg E fa)) (hb : PE X b (tF g X.mg E fb)) (hm : behindInMarks .NotIn b = false := by rfl) : PT X (.Compare a [.NotIn] [b] pos) (tFT g X.mg E (fTest (fOp dNotIn fa fb))) := t_cmp (or_notin hr) (od_inA fun x y => by unfold dNotIn; cases inD x y <;> rfl) ha hb hm
/-- an expression that gives a truth, as a test -/
theorem t_val {e : Expr} (h : PE X e (tF g X.mg E fa)) (he : ∀ whole, isTrue e X.env whole = (do let v ← whole; standAt e.pos; holding [v] (truthy v)) := by intro _; rfl) : PT X e (tFT g X.mg E (fTest fa)) :=
  (pt_val h he).imp fun _ _ _ h => tB_of h
theorem w_and1 (ha : PT X a (tFT g X.mg E p)) : PW X (.BoolOp .And [a] pos) (tFT g X.mg E p) := pw_and1 ha
theorem w_or1 (ha : PT X a (tFT g X.mg E p)) : PW X (.BoolOp .Or [a] pos) (tFT g X.mg E p) := pw_or1 ha
theorem _root_.L2.PW.imp {X : Cx} {e : Expr} {t u : TT} (h : PW X e t) (k : ∀ σ H Q, u σ H Q → t σ H Q) : PW X e u := ⟨fun w pins s σ H Q I q => h.run w pins s σ H Q I (k σ H Q q)⟩
theorem w_and (ha : PT X a (tFT g X.mg E p)) (hb : PW X (.BoolOp .And (b :: rest) pos) (tFT g X.mg E q)) : PW X (.BoolOp .And (a :: b :: rest) pos) (tFT g X.mg E (fAnd p q)) :=
  (pw_and ha hb).imp fun σ H Q h => by
    obtain ⟨I, r, rl, er, h⟩ := h
    refine ⟨I, r, rl, er, Pst.first h fun d v I1 H1 _ s1 x1 h1 => ?_⟩
    subst x1
    cases v with
    | true => exact ⟨I1, r, s1.rl, er.mono s1.mono, h1⟩
    | false => exact h1.here s1.rl rfl
theorem w_or (ha : PT X a (tFT g X.mg E p)) (hb : PW X (.BoolOp .Or (b :: rest) pos) (tFT g X.mg E q)) : PW X (.BoolOp .Or (a :: b :: rest) pos) (tFT g X.mg E (fOr p q)) :=
  (pw_or ha hb).imp fun σ H Q h => by
    obtain ⟨I, r, rl, er, h⟩ := h
    refine ⟨I, r, rl, er, Pst.first h fun d v I1 H1 _ s1 x1 h1 => ?_⟩
    subst x1
    cases v with
    | true => exact h1.here s1.rl rfl
    | false => exact ⟨I1, r, s1.rl, er.mono s1.mono, h1⟩
theorem t_not (ha : PT X a (tFT g X.mg E p)) : PT X (.UnaryOp .Not a pos) (tFT g X.mg E (fNot p)) :=
  (pt_not ha).imp fun σ H Q h => by
    obtain ⟨I, r, rl, er, h⟩ := h
    refine ⟨I, r, rl, er, Pst.first h fun d v I1 H1 _ s1 x1 h1 => ?_⟩
    subst x1
    exact h1.here s1.rl rfl
theorem e_one {op} (h : PE X a (tF g X.mg E fa)) : PE X (.BoolOp op [a] pos) (tF g X.mg E fa) := pe_one h
theorem e_and (ha : PE X a (tF g X.mg E fa)) (hb : PE X (.BoolOp .And (b :: rest) pos) (tF g X.mg E fb)) : PE X (.BoolOp .And (a :: b :: rest) pos) (tF g X.mg E (fAndV fa fb)) :=
  (pe_and ha hb).imp fun σ H Q h => by
    obtain ⟨I, r, rl, er, h⟩ := h
    refine ⟨I, r, rl, er, Pst.first h fun d v I1 H1 _ s1 x1 h1 => ?_⟩
    cases x1 with
    | bl b =>
      refine ⟨b, rfl, ?_⟩
      cases b with
      | true => exact ⟨I1, r, s1.rl, er.mono s1.mono, h1⟩
      | false => exact h1.here s1.rl (.bl false)
    | _ => exact h1.elim
theorem e_not (ha : PE X a (tF g X.mg E fa)) : PE X (.UnaryOp .Not a pos) (tF g X.mg E (fNotV fa)) :=
  (pe_not ha).imp fun σ H Q h => by
    obtain ⟨I, r, rl, er, h⟩ := h
    refine ⟨I, r, rl, er, Pst.first h fun d v I1 H1 _ s1 x1 h1 => ?_⟩
    cases x1 with
    | bl b => exact ⟨b, rfl, h1.here s1.rl (.bl _)⟩
    | _ => exact h1.elim
theorem e_neg (ha : PE X a (tF g X.mg E fa)) : PE X (.UnaryOp .USub a pos) (tF g X.mg E (fNeg fa)) :=
  (pe_un un_neg ha).imp fun σ H Q h => by
    obtain ⟨I, r, rl, er, h⟩ := h
    refine ⟨I, r, rl, er, Pst.first h fun d v I1 H1 _ s1 x1 h1 => ?_⟩
    cases x1 with
    | int b => exact ⟨b, rfl, h1.here s1.rl (.int _)⟩
    | _ => exact h1.elim
theorem e_if (hc : PT X c (tFT g X.mg E p)) (ha : PE X a (tF g X.mg E fa)) (hb : PE X b (tF g X.mg E fb)) : PE X (.IfExp c a b pos) (tF g X.mg E (fIf p fa fb)) :=
  (pe_ifExp hc ha hb).imp fun σ H Q h => by
    obtain ⟨I, r, rl, er, h⟩ := h
    refine ⟨I, r, rl, er, Pst.first h fun d v I1 H1 _ s1 x1 h1 => ?_⟩
    subst x1
    cases v with
    | true => exact ⟨I1, r, s1.rl, er.mono s1.mono, h1⟩
    | false => exact ⟨I1, r, s1.rl, er.mono s1.mono, h1⟩
/-- low <= x <= high and its kin -/
def fChain (o o' : D → D → Res D) (fa fb fc : FE) : FE := fun r => (fa r).bind fun x => (fb r).bind fun y => (o x y).bind fun z => match z with
  | .bl true => (fc r).bind fun w => o' y w
  | .bl false => .ok (.bl false)
  | _ => .bad
variable {fc : FE}
theorem tChain_of {r1 r2 : R2} {o o' : D → D → Res D} (ho : OpD g X.mg E r1 o) (ho' : OpD g X.mg E r2 o') {σ : L2.St} {H : Hp} {Q : VK} (h : tF g X.mg E (fChain o o' fa fb fc) σ H Q) : tChain r1 r2 (tF g X.mg E fa) (tF g X.mg E fb) (tF g X.mg E fc) σ H Q := by
  obtain ⟨I, r, rl, er, h⟩ := h
  refine ⟨I, r, rl, er, Pst.first h fun x v I1 H1 _ s1 x1 h1 => ?_⟩
  refine ⟨I1, r, s1.rl, er.mono s1.mono, Pst.first h1 fun y u I2 H2 _ s2 x2 h2 => ?_⟩
  refine ho I2 H2 x y v u _ s2.rl (x1.mono s2.mono) x2 (Pst.first h2 fun z w I3 H3 _ s3 x3 h3 => ?_)
  cases x3 with
  | bl b =>
    refine ⟨b, rfl, ?_⟩
    cases b with
    | true =>
      refine ⟨I3, r, s3.rl, er.mono (s1.trans (s2.trans s3)).mono, Pst.first h3 fun w' v' I4 H4 _ s4 x4 h4 => ?_⟩
      exact ho' I4 H4 y w' u v' Q s4.rl (x2.mono (s3.trans s4).mono) x4 h4
    | false => exact h3.here s3.rl (.bl false)
  | _ => exact h3.elim
end
end FW
/-! Calls of built-ins, items, slices, calls of defs. -/
namespace FW
open PySem PySem.Spec PyProof.Rows L2

section
variable {X : Cx} {g : Gd} {E : XK} {a b c : Expr} {fa fb fc : FE} {pos : Pos} {k : Nat}
theorem e_chain {op op' : CmpOp} {r1 r2 : R2} {o o' : D → D → Res D} (hr1 : OpR X (compareOp op) r1) (hr2 : OpR X (compareOp op') r2) (ho : OpD g X.mg E r1 o) (ho' : OpD g X.mg E r2 o') (ha : PE X a (tF g X.mg E fa)) (hb : PE X b (tF g X.mg E fb)) (hc : PE X c (tF g X.mg E fc))
    (hm : lastMarks [op, op'] [b, c] = false := by with_unfolding_all rfl) : PE X (.Compare a [op, op'] [b, c] pos) (tF g X.mg E (fChain o o' fa fb fc)) :=
  (pe_chain hr1 hr2 ha hb hc hm).imp fun _ _ _ h => tChain_of ho ho' h
theorem t_chain {op op' : CmpOp} {r1 r2 : R2} {o o' : D → D → Res D} (hr1 : OpR X (compareOp op) r1) (hr2 : OpR X (compareOp op') r2) (ho : OpD g X.mg E r1 o) (ho' : OpD g X.mg E r2 o') (ha : PE X a (tF g X.mg E fa)) (hb : PE X b (tF g X.mg E fb)) (hc : PE X c (tF g X.mg E fc))
    (hm : lastMarks [op, op'] [b, c] = false := by with_unfolding_all rfl) : PT X (.Compare a [op, op'] [b, c] pos) (tFT g X.mg E (fTest (fChain o o' fa fb fc))) :=
  (pt_chain hr1 hr2 ha hb hc hm).imp fun σ H Q h => by
    obtain ⟨I, r, rl, er, h⟩ := tB_of h
    exact tChain_of ho ho' ⟨I, r, rl, er, h⟩
theorem e_lele (ha : PE X a (tF g X.mg E fa)) (hb : PE X b (tF g X.mg E fb)) (hc : PE X c (tF g X.mg E fc)) (hm : lastMarks [.LtE, .LtE] [b, c] = false := by with_unfolding_all rfl) : PE X (.Compare a [.LtE, .LtE] [b, c] pos) (tF g X.mg E (fChain dLe dLe fa fb fc)) := e_chain or_le or_le od_le od_le ha hb hc hm
theorem t_lele (ha : PE X a (tF g X.mg E fa)) (hb : PE X b (tF g X.mg E fb)) (hc : PE X c (tF g X.mg E fc)) (hm : lastMarks [.LtE, .LtE] [b, c] = false := by with_unfolding_all rfl) : PT X (.Compare a [.LtE, .LtE] [b, c] pos) (tFT g X.mg E (fTest (fChain dLe dLe fa fb fc))) := t_chain or_le or_le od_le od_le ha hb hc hm
/-! ### isinstance -/
inductive Ty where
  | int | bool | str | tuple | list | dict
def Ty.nm : Ty → String
  | .int => "int" | .bool => "bool" | .str => "str" | .tuple => "tuple" | .list => "list" | .dict => "dict"
def D.ty : D → String
  | .non => "NoneType" | .bl _ => "bool" | .int _ => "int" | .str _ => "str" | .tup _ => "tuple" | .lst _ => "list" | .dct _ => "dict" | .dice => "list" | .par _ => "tuple" | .dtt _ => "dict" | .dtf _ => "dict"
def D.is : D → Ty → Bool
  | .int _, .int => true
  | .bl _, .int => true
  | .bl _, .bool => true
  | .str _, .str => true
  | .tup _, .tuple => true
  | .lst _, .list => true
  | .dct _, .dict => true
  | .dice, .list => true
  | .par _, .tuple => true
  | .dtt _, .dict => true
  | .dtf _, .dict => true
  | _, _ => false
theorem kit_is (d : D) (T : Ty) : kitB d.ty T.nm = some (d.is T) := by
  cases d <;> cases T <;> (simp only [D.ty, Ty.nm, D.is]; decide +kernel)
/-- a value's type, a locked dict of tuples too -/
inductive TyY (K : PySem.W.Frag) (H : Hp) : V → Value → Prop where
  | x {v : V} {t : Value} (h : TyX K H v t) : TyY K H v t
  | fT {a : Addr} {o : Obj} {kvs : List (List Key × V)} (e : H a = some (.frz o (.dT kvs))) : TyY K H (.ref a) (.type "dict")
theorem kit_ofY {pins : List (Addr × Obj)} {σ : L2.St} {H : Hp} {s : Shared} {x : V} {u t : Value} (J : Inv X pins σ H s) (rx : RelV x u) (ty : TyY X.K H x t) : ∃ P : Heap → Prop, PySem.W.KitX X.K u t P ∧ P s.heap ∧ u ≠ .builtin "__main__.__loader__#opaque" := by
  cases ty with
  | x h => exact kit_of J rx h
  | @fT a ob kvs ea =>
    cases (show u = Value.ref a from rx)
    obtain ⟨_, _, _, xs, _, o, es, ep, h1, h2, _⟩ := (show ObjOk X.prog X.w H s.heap a (.frz ob (.dT kvs)) from J.hok a _ ea)
    exact ⟨_, PySem.W.kitx_dict, ⟨o, h1, h2.1⟩, fun z => nomatch z⟩
def rIsiY (K : PySem.W.Frag) : List V → Hp → VK → Prop := fun xs H Q => ∃ (x c : V) (t u : Value) (b : Bool), xs = [x, c] ∧ ClsV c u ∧ TyY K H x t ∧ PySem.W.kitOne K t u = some b ∧ Q (.bl b) H
theorem call_isiY : CallR X (.builtin "isinstance") (rIsiY X.K) := by
  intro pins s σ H xs us Q J r h
  obtain ⟨x, c, t, u, b, rfl, k, ty, e, q⟩ := h
  obtain ⟨u1, u2, rfl, r1, r2⟩ := vals2 r
  have e2 := k.eq r2
  subst e2
  obtain ⟨P, Z, p, hx⟩ := kit_ofY J r1 ty
  exact PySem.W.kia_one Z J.kIn p e hx fun tk => ⟨.bl b, H, J.tok tk, rfl, q⟩
theorem DR.tyx {K : PySem.W.Frag} {I H : Hp} {v : V} {d : D} (rl : Rl g I H) (h : DR g I v d) : TyY K H v (.type d.ty) := by
  cases h with
  | non => exact .x (.base .non)
  | bl b => exact .x (.base (.bl b))
  | int i => exact .x (.base (.int i))
  | str x => exact .x (.base (.str x))
  | tup h u _ =>
    rcases u with ⟨e, _⟩ | ⟨o, _, e⟩
    · rw [e] at h; exact .x (.base (.tup (rl.sub _ _ h)))
    · rw [e] at h; exact .x (.fTuple (rl.sub _ _ h))
  | par h _ => exact .x (.base (.tup (rl.sub _ _ h)))
  | lst h _ => exact .x (.base (.lst (rl.sub _ _ h)))
  | dK h _ =>
    rcases rl.sub.rd h with e | ⟨o, e⟩
    · exact .x (.base (.dK e))
    · exact .x (.fDict e)
  | dT h _ =>
    rcases rl.sub.rd h with e | ⟨o, e⟩
    · exact .x (.base (.dT e))
    · exact .fT e
  | dF h _ => exact .fT (rl.sub _ _ h)
  | dice =>
    obtain ⟨x, y, q⟩ := rl.dice
    exact .x (.base (.lst q))
def fIsi (T : Ty) (fa : FE) : FE := fun r => (fa r).bind fun d => .ok (.bl (d.is T))
theorem e_isi {T : Ty} {y : Str} {p p' : Pos} (hg : Gl X "isinstance") (hm : X.mg "isinstance" = none) (hg2 : Gl X y) (hm2 : X.mg y = none) (hb2 : bootBuiltins y = some (.type T.nm)) (ha : PE X a (tF g X.mg E fa)) (hn : y ≠ "__name__" := by decide) (hd : (y == ("__debug__" : Str)) = false := by decide)
    (he : starEach (a :: [.Name y p']) X.env = (false, eval a X.env) :: starEach [.Name y p'] X.env := by rfl) :
    PE X (.Call (.Name "isinstance" p) [a, .Name y p'] [] pos) (tF g X.mg E (fIsi T fa)) :=
  (pe_callB (r := rIsiY X.K) call_isiY hg hm (by decide +kernel) (pa_cons ha (pa_cons (pe_bltn (v := .ty T.nm) hg2 hm2 hb2 rfl hn hd) pa_nil) he) (by decide) (by decide) he).imp fun σ H Q h => by
    obtain ⟨I, r, rl, er, h⟩ := h
    refine ⟨I, r, rl, er, Pst.first h fun d v I1 H1 _ s1 x1 h1 => ?_⟩
    exact ⟨v, .ty T.nm, .type d.ty, .type T.nm, d.is T, rfl, .ty _, x1.tyx s1.rl, kit_ty (kit_is d T), h1.here s1.rl (.bl _)⟩

/-! ### built-in functions of values -/
def CaD (g : Gd) (mg : Str → Option Value) (E : XK) (r : List V → Hp → VK → Prop) (dop : List D → Res D) : Prop := ∀ (I H : Hp) (ds : List D) (vs : List V) (Q : VK), Rl g I H → DRs g I vs ds → Pst g mg E (DR g) I H (dop ds) Q → r vs H Q
def fCB (dop : List D → Res D) (k : FA) : FE := fun r => (k r).bind dop
theorem tCB_of {r : List V → Hp → VK → Prop} {dop : List D → Res D} {k : FA} (hd : CaD g X.mg E r dop) {σ : L2.St} {H : Hp} {Q : VK} (h : tF g X.mg E (fCB dop k) σ H Q) : tCB r (tFA g X.mg E k) σ H Q := by
  obtain ⟨I, r, rl, er, h⟩ := h
  refine ⟨I, r, rl, er, Pst.first h fun ds vs I1 H1 _ s1 x1 h1 => ?_⟩
  exact hd I1 H1 ds vs Q s1.rl x1 h1
variable {e : Expr} {es : List Expr} {kk : FA} {x : Str} {p : Pos}
theorem e_callB {id : String} {r : List V → Hp → VK → Prop} {dop : List D → Res D} (hc : CallR X (.builtin id) r) (hd : CaD g X.mg E r dop) (hg : Gl X x) (hm : X.mg x = none) (hv : bootBuiltins x = some (.builtin id)) (ha : PA X (e :: es) (tFA g X.mg E kk)) (hn : x ≠ "__name__" := by decide) (hdb : (x == ("__debug__" : Str)) = false := by decide)
    (he : starEach (e :: es) X.env = (false, eval e X.env) :: starEach es X.env := by rfl) (hpl : (backTo pos (starEach es X.env)).any (·.1) = false := by rfl) : PE X (.Call (.Name x p) (e :: es) [] pos) (tF g X.mg E (fCB dop kk)) :=
  (pe_callB hc hg hm hv ha hn hdb he hpl).imp fun _ _ _ h => tCB_of hd h
theorem e_callTy {T : String} {r : List V → Hp → VK → Prop} {dop : List D → Res D} (hc : CallR X (.type T) r) (hd : CaD g X.mg E r dop) (hg : Gl X x) (hm : X.mg x = none) (hv : bootBuiltins x = some (.type T)) (ha : PA X (e :: es) (tFA g X.mg E kk)) (hn : x ≠ "__name__" := by decide) (hdb : (x == ("__debug__" : Str)) = false := by decide)
    (he : starEach (e :: es) X.env = (false, eval e X.env) :: starEach es X.env := by rfl) (hpl : (backTo pos (starEach es X.env)).any (·.1) = false := by rfl) : PE X (.Call (.Name x p) (e :: es) [] pos) (tF g X.mg E (fCB dop kk)) :=
  (pe_callTy hc hg hm hv ha hn hdb he hpl).imp fun _ _ _ h => tCB_of hd h
/-- len -/
def dLen : List D → Res D
  | [.str x] => if x.length ≤ 100000 then .ok (.int (x.length : Nat)) else .bad
  | [.tup xs] => .ok (.int (xs.length : Nat))
  | [.lst xs] => .ok (.int (xs.length : Nat))
  | _ => .bad
theorem cd_len : CaD g X.mg E (fun xs H Q => ∃ x n, xs = [x] ∧ LenV X.K x H n ∧ Q (.int n) H) dLen := by
  intro I H ds vs Q rl hs p
  unfold dLen at p
  split at p
  · split at p
    · rename_i c
      cases hs with
      | cons h t =>
        cases t
        cases h
        exact ⟨_, _, rfl, ⟨small_line c, rfl⟩, p.here rl (.int _)⟩
    · exact p.elim
  · cases hs with
    | cons h t =>
      cases t
      cases h with
      | tup h u r => exact ⟨_, _, rfl, .inr ⟨_, u.sqt (rl.sub _ _ h), rfl⟩, by rw [r.len]; exact p.here rl (.int _)⟩
  · cases hs with
    | cons h t =>
      cases t
      cases h with
      | lst h r => exact ⟨_, _, rfl, .inl ⟨_, SqL.of (rl.sub _ _ h), rfl⟩, by rw [r.len]; exact p.here rl (.int _)⟩
  · exact p.elim
/-- a list of truths -/
def bools : List D → Option (List Bool)
  | [] => some []
  | .bl b :: r => (bools r).map (b :: ·)
  | _ => none
theorem bools_map : ∀ bs : List Bool, bools (bs.map D.bl) = some bs
  | [] => rfl
  | b :: r => by rw [List.map_cons, bools, bools_map r]; rfl
theorem DRs.bls {I : Hp} : ∀ {vs : List V} {ds : List D} {bs : List Bool}, DRs g I vs ds → bools ds = some bs → vs = bs.map V.bl
  | _, _, _, .nil, h => by cases h; rfl
  | _, _, bs, .cons (ds := ds) r t, h => by
    cases r <;> first
      | (cases h; done)
      | (rename_i b
         rw [bools] at h
         cases e : bools ds with
         | none => rw [e] at h; cases h
         | some cs =>
           rw [e] at h; cases h
           rw [DRs.bls t e]; rfl)
def dAll : List D → Res D
  | [.lst xs] => match bools xs with
    | some bs => .ok (.bl (bs.all id))
    | none => .bad
  | _ => .bad
theorem cd_all : CaD g X.mg E (rAll X.K) dAll := by
  intro I H ds vs Q rl hs p
  unfold dAll at p
  split at p
  · split at p
    · rename_i bs e
      cases hs with
      | cons h t =>
        cases t
        cases h with
        | lst h r => exact ⟨_, bs, rfl, SqL.of (by rw [← r.bls e]; exact rl.sub _ _ h), p.here rl (.bl _)⟩
    · exact p.elim
  · exact p.elim
/-- a list of numbers -/
def intsOf : List D → Option (List Int)
  | [] => some []
  | .int b :: r => (intsOf r).map (b :: ·)
  | _ => none
theorem intsOf_map : ∀ bs : List Int, intsOf (bs.map D.int) = some bs
  | [] => rfl
  | b :: r => by rw [List.map_cons, intsOf, intsOf_map r]; rfl
theorem DRs.ints {I : Hp} : ∀ {vs : List V} {ds : List D} {bs : List Int}, DRs g I vs ds → intsOf ds = some bs → vs = bs.map V.int
  | _, _, _, .nil, h => by cases h; rfl
  | _, _, bs, .cons (ds := ds) r t, h => by
    cases r <;> first
      | (cases h; done)
      | (rename_i b
         rw [intsOf] at h
         cases e : intsOf ds with
         | none => rw [e] at h; cases h
         | some cs =>
           rw [e] at h; cases h
           rw [DRs.ints t e]; rfl)
/-- tuple(x), list(x) -/
def dTuple : List D → Res D
  | [.lst xs] => .ok (.tup xs)
  | [.tup xs] => .ok (.tup xs)
  | _ => .bad
def dList : List D → Res D
  | [.lst xs] => .ok (.lst xs)
  | [.tup xs] => .ok (.lst xs)
  | _ => .bad
theorem call_tupleX : CallR X (.type "tuple") (fun xs H Q => ∃ p ys, xs = [.ref p] ∧ ((SqL X.K H p ys ∧ ∀ l u, H l = none → TupO ys u → Q (.ref l) (upd H l u)) ∨ (SqT X.K H p ys ∧ Q (.ref p) H))) := by
  intro pins s σ H xs us Q I r h
  obtain ⟨p, ys, rfl, h⟩ := h
  obtain ⟨u, rfl, rx⟩ := vals1 r
  cases rx
  rcases h with ⟨hq, q⟩ | ⟨hq, q⟩
  · obtain ⟨its, r', pl, hz⟩ := I.list hq
    have hlen := r'.length
    refine call_tuple_list pl.isList (fun h' kp => ?_) (by simp only [List.size_toArray] <;> omega)
    have I1 : Inv X pins σ H { s with heap := h' } := I.kept (t' := s.toks) kp
    obtain ⟨u, hu, J⟩ := inv_tup (t' := s.toks) I1 (fun b u e => Heap.get?_push_of_some _ e) (Nat.le_refl _) (Heap.get?_push_size _ rfl) r' hz
    exact ⟨.ref h'.objs.size, _, J, rfl, q _ u (I1.hok.fresh (Nat.le_refl _)) hu⟩
  · obtain ⟨its, r', pl, hz⟩ := I.tuple hq
    exact call_tuple_same pl ⟨.ref p, H, I, rfl, q⟩
theorem cd_tuple : CaD g X.mg E (fun xs H Q => ∃ p ys, xs = [.ref p] ∧ ((SqL X.K H p ys ∧ ∀ l u, H l = none → TupO ys u → Q (.ref l) (upd H l u)) ∨ (SqT X.K H p ys ∧ Q (.ref p) H))) dTuple := by
  intro I H ds vs Q rl hs p
  unfold dTuple at p
  split at p
  · cases hs with
    | cons h t =>
      cases t
      cases h with
      | lst h r =>
        refine ⟨_, _, rfl, .inl ⟨SqL.of (rl.sub _ _ h), fun l u hl hu => ?_⟩⟩
        exact p _ _ _ (rl.put hl hu.nt) (.tup upd_same hu (r.mono (rl.put (o := u) hl hu.nt).mono))
  · cases hs with
    | cons h t =>
      cases t
      cases h with
      | tup h u r => exact ⟨_, _, rfl, .inr ⟨u.sqt (rl.sub _ _ h), p.here rl (.tup h u r)⟩⟩
  · exact p.elim
theorem cd_list : CaD g X.mg E (fun xs H Q => ∃ p ys, xs = [.ref p] ∧ (SqL X.K H p ys ∨ SqT X.K H p ys) ∧ ∀ l, H l = none → Q (.ref l) (upd H l (.lst ys))) dList := by
  intro I H ds vs Q rl hs p
  unfold dList at p
  split at p
  · cases hs with
    | cons h t =>
      cases t
      cases h with
      | lst h r =>
        refine ⟨_, _, rfl, .inl (SqL.of (rl.sub _ _ h)), fun l hl => ?_⟩
        exact p _ _ _ (rl.put hl) (.lst upd_same (r.mono (rl.put hl).mono))
  · cases hs with
    | cons h t =>
      cases t
      cases h with
      | tup h u r =>
        refine ⟨_, _, rfl, .inr (u.sqt (rl.sub _ _ h)), fun l hl => ?_⟩
        exact p _ _ _ (rl.put hl) (.lst upd_same (r.mono (rl.put hl).mono))
  · exact p.elim
/-- int(x), max(x, y), min(x, y), abs(x) -/
def dInt : List D → Res D
  | [.int i] => .ok (.int i)
  | [.bl b] => .ok (.int (if b then 1 else 0))
  | _ => .bad
theorem cd_int : CaD g X.mg E (fun xs H Q => (∃ i, xs = [.int i] ∧ Q (.int i) H) ∨ ∃ k, xs = [.bl k] ∧ Q (.int (if k then 1 else 0)) H) dInt := by
  intro I H ds vs Q rl hs p
  unfold dInt at p
  split at p
  · cases hs with
    | cons h t => cases t; cases h; exact .inl ⟨_, rfl, p.here rl (.int _)⟩
  · cases hs with
    | cons h t => cases t; cases h; exact .inr ⟨_, rfl, p.here rl (.int _)⟩
  · exact p.elim
theorem e_len (hg : Gl X "len") (hm : X.mg "len" = none) (ha : PA X (e :: es) (tFA g X.mg E kk)) (he : starEach (e :: es) X.env = (false, eval e X.env) :: starEach es X.env := by rfl) (hpl : (backTo pos (starEach es X.env)).any (·.1) = false := by rfl) : PE X (.Call (.Name "len" p) (e :: es) [] pos) (tF g X.mg E (fCB dLen kk)) := e_callB call_len cd_len hg hm boot_len ha (by decide) (by decide) he hpl
theorem e_all (hc : X.calm = true) (hg : Gl X "all") (hm : X.mg "all" = none) (ha : PA X (e :: es) (tFA g X.mg E kk)) (he : starEach (e :: es) X.env = (false, eval e X.env) :: starEach es X.env := by rfl) (hpl : (backTo pos (starEach es X.env)).any (·.1) = false := by rfl) : PE X (.Call (.Name "all" p) (e :: es) [] pos) (tF g X.mg E (fCB dAll kk)) := e_callB (cr_all hc) cd_all hg hm (by decide +kernel) ha (by decide) (by decide) he hpl
theorem e_tuple (hg : Gl X "tuple") (hm : X.mg "tuple" = none) (ha : PA X (e :: es) (tFA g X.mg E kk)) (he : starEach (e :: es) X.env = (false, eval e X.env) :: starEach es X.env := by rfl) (hpl : (backTo pos (starEach es X.env)).any (·.1) = false := by rfl) : PE X (.Call (.Name "tuple" p) (e :: es) [] pos) (tF g X.mg E (fCB dTuple kk)) := e_callTy call_tupleX cd_tuple hg hm (by decide +kernel) ha (by decide) (by decide) he hpl
theorem e_list (hg : Gl X "list") (hm : X.mg "list" = none) (ha : PA X (e :: es) (tFA g X.mg E kk)) (he : starEach (e :: es) X.env = (false, eval e X.env) :: starEach es X.env := by rfl) (hpl : (backTo pos (starEach es X.env)).any (·.1) = false := by rfl) : PE X (.Call (.Name "list" p) (e :: es) [] pos) (tF g X.mg E (fCB dList kk)) := e_callTy call_list_of cd_list hg hm (by decide +kernel) ha (by decide) (by decide) he hpl
theorem e_toint (hg : Gl X "int") (hm : X.mg "int" = none) (ha : PA X (e :: es) (tFA g X.mg E kk)) (he : starEach (e :: es) X.env = (false, eval e X.env) :: starEach es X.env := by rfl) (hpl : (backTo pos (starEach es X.env)).any (·.1) = false := by rfl) : PE X (.Call (.Name "int" p) (e :: es) [] pos) (tF g X.mg E (fCB dInt kk)) := e_callTy call_int1 cd_int hg hm (by decide +kernel) ha (by decide) (by decide) he hpl
/-! ### items and slices -/
def dIx : D → D → Res D
  | .lst xs, .int i => match atI xs i with
    | some d => .ok d
    | none => .bad
  | .tup xs, .int i => match atI xs i with
    | some d => .ok d
    | none => .bad
  | .str z, .int i => if z.length ≤ 100000 then (match atI z.cps.toList i with
    | some c => .ok (.str ⟨#[c]⟩)
    | none => .bad) else .bad
  | _, _ => .bad
theorem atI_dr {I : Hp} {vs : List V} {ds : List D} {i : Int} {d : D} (h : DRs g I vs ds) (e : atI ds i = some d) : ∃ v, atI vs i = some v ∧ DR g I v d := by
  unfold atI at e ⊢
  rw [h.len]
  cases q : ixN ds.length i with
  | none => rw [q] at e; cases e
  | some j =>
    rw [q] at e
    exact h.at_ e
theorem od_ix : OpD g X.mg E (rIx X.K) dIx := by
  intro I H x y v u Q rl hx hy p
  unfold dIx at p
  split at p
  · split at p
    · rename_i d e
      cases hy
      cases hx with
      | lst h r =>
        obtain ⟨w, h1, h2⟩ := atI_dr r e
        exact .inl ⟨_, _, _, w, rfl, rfl, SqL.of (rl.sub _ _ h), h1, p.here rl h2⟩
    · exact p.elim
  · split at p
    · rename_i d e
      cases hy
      cases hx with
      | tup h u r =>
        obtain ⟨w, h1, h2⟩ := atI_dr r e
        exact .inr (.inl ⟨_, _, _, w, rfl, rfl, u.sqt (rl.sub _ _ h), h1, p.here rl h2⟩)
    · exact p.elim
  · split at p
    · rename_i hz
      split at p
      · rename_i c e
        cases hx; cases hy
        exact .inr (.inr ⟨_, _, c, rfl, rfl, small_line hz, e, p.here rl (.str _)⟩)
      · exact p.elim
    · exact p.elim
  · exact p.elim
theorem e_ix (ha : PE X a (tF g X.mg E fa)) (hb : PE X b (tF g X.mg E fb)) (hs : PlainIx b := by exact fun _ _ => rfl) : PE X (.Subscript a b pos) (tF g X.mg E (fOp dIx fa fb)) :=
  (pe_ix ix_seq ha hb hs).imp fun _ _ _ h => tOp_of od_ix h
/-- a part of a slice -/
abbrev FO := Env → Res (Option Int)
def tFO (g : Gd) (mg : Str → Option Value) (E : XK) (f : FO) : TO := fun σ H Q => ∃ I r, Rl g I H ∧ ER g I σ r ∧ Pst g mg E (fun _ (v d : Option Int) => v = d) I H (f r) Q
def fNo : FO := fun _ => .ok none
def fPart (f : FE) : FO := fun r => (f r).bind fun d => match d with
  | .int i => .ok (some i)
  | _ => .bad
theorem _root_.L2.PO.imp {X : Cx} {e : Option Expr} {t u : TO} (h : PO X e t) (k : ∀ σ H Q, u σ H Q → t σ H Q) : PO X e u := ⟨fun pins s σ H Q I q => h.run pins s σ H Q I (k σ H Q q)⟩
theorem o_no : PO X none (tFO g X.mg E fNo) := po_none.imp fun σ H Q h => by
  obtain ⟨I, r, rl, er, h⟩ := h
  exact h.here rl rfl
theorem o_part (h : PE X e (tF g X.mg E fa)) : PO X (some e) (tFO g X.mg E (fPart fa)) := (po_some h).imp fun σ H Q h => by
  obtain ⟨I, r, rl, er, h⟩ := h
  refine ⟨I, r, rl, er, Pst.first h fun d v I1 H1 _ s1 x1 h1 => ?_⟩
  cases x1 with
  | int i => exact ⟨i, rfl, h1.here s1.rl rfl⟩
  | _ => exact h1.elim
def cutD (xs : List D) (lo hi : Option Int) : List D := (xs.drop (HT.sIx xs.length 0 lo)).take (HT.sIx xs.length xs.length hi - HT.sIx xs.length 0 lo)
def dCut (x : D) (lo hi : Option Int) : Res D := match x with
  | .lst xs => .ok (.lst (cutD xs lo hi))
  | .tup xs => .ok (.tup (cutD xs lo hi))
  | .str z => if z.length ≤ 100000 then .ok (.str (cutS z lo hi)) else .bad
  | _ => .bad
def fCut (fa : FE) (fl fh : FO) : FE := fun r => (fa r).bind fun x => (fl r).bind fun lo => (fh r).bind fun hi => dCut x lo hi
theorem cut_dr {I : Hp} {vs : List V} {ds : List D} (h : DRs g I vs ds) (lo hi : Option Int) : DRs g I (cutV vs lo hi) (cutD ds lo hi) := by
  unfold cutV cutD
  rw [h.len]
  exact (h.drop _).take _
theorem cut_whole {I : Hp} {vs : List V} {ds : List D} {lo hi : Option Int} (t : DRs g I vs ds) (hw : HT.sIx vs.length 0 lo = 0 ∧ HT.sIx vs.length vs.length hi = vs.length) : cutD ds lo hi = ds := by
  unfold cutD
  rw [← t.len, hw.1, hw.2, Nat.sub_zero, List.drop_zero, t.len, List.take_length]
def rSlX (K : PySem.W.Frag) : V → Option Int → Option Int → Hp → VK → Prop := fun x lo hi H Q => ∃ a xs, x = .ref a ∧ SqT K H a xs ∧
  (HT.sIx xs.length 0 lo = 0 ∧ HT.sIx xs.length xs.length hi = xs.length → Q (.ref a) H) ∧ (¬ (HT.sIx xs.length 0 lo = 0 ∧ HT.sIx xs.length xs.length hi = xs.length) → ∀ p u, H p = none → TupO (cutV xs lo hi) u → Q (.ref p) (upd H p u))
theorem sl_tupX : SlR X (rSlX X.K) := by
  intro pins s σ H x v vl vu lo hi sl Q I rx hs pl pu h
  obtain ⟨a, xs, rfl, hx, q1, q2⟩ := h
  cases rx
  obtain ⟨its, r, ht, hz⟩ := I.tuple hx
  have hlen : its.toArray.size = xs.length := by rw [List.size_toArray]; exact r.length.symm
  refine ⟨"tuple", _, PyProof.Rows.slot_tuple_getitem.lookup, ht.typeIs, ?_⟩
  by_cases hw : HT.sIx xs.length 0 lo = 0 ∧ HT.sIx xs.length xs.length hi = xs.length
  · exact getItem_tuple_whole ht hs pl pu (by rw [hlen]; exact hw) ⟨.ref a, H, I, rfl, q1 hw⟩
  · refine HT.getItem_tuple_cut ht hs pl pu (by rw [hlen]; exact hw) ?_ (by rw [hlen]; exact hz)
    rw [hlen]
    obtain ⟨u, hu, J⟩ := inv_tup (t' := s.toks) (xs := cutV xs lo hi) I (fun b u e => Heap.get?_push_of_some _ e) (Nat.le_refl _) (Heap.get?_push_size _ rfl) ((r.drop (HT.sIx xs.length 0 lo)).take (HT.sIx xs.length xs.length hi - HT.sIx xs.length 0 lo)) (Nat.le_trans (cutV_length xs lo hi) hz)
    exact ⟨.ref s.heap.objs.size, _, J, rfl, q2 hw _ u (I.hok.fresh (Nat.le_refl _)) hu⟩
theorem e_cut {lo hi : Option Expr} {fl fh : FO} {p2 : Pos} (ha : PE X a (tF g X.mg E fa)) (hl : PO X lo (tFO g X.mg E fl)) (hh : PO X hi (tFO g X.mg E fh)) : PE X (.Subscript a (.Slice lo hi none p2) pos) (tF g X.mg E (fCut fa fl fh)) :=
  (pe_slice (sl_list.or (sl_tupX.or sl_str)) ha hl hh).imp fun σ H Q h => by
    obtain ⟨I, r, rl, er, h⟩ := h
    refine ⟨I, r, rl, er, Pst.first h fun x v I1 H1 _ s1 x1 h1 => ?_⟩
    refine ⟨I1, r, s1.rl, er.mono s1.mono, Pst.first h1 fun l l' I2 H2 _ s2 x2 h2 => ?_⟩
    refine ⟨I2, r, s2.rl, er.mono (s1.trans s2).mono, Pst.first h2 fun u u' I3 H3 _ s3 x3 h3 => ?_⟩
    subst x2; subst x3
    have y := x1.mono (s2.trans s3).mono
    cases y with
    | lst q t =>
      refine .inl ⟨_, _, rfl, SqL.of (s3.rl.sub _ _ q), fun p hp => ?_⟩
      exact h3 _ _ _ (s3.rl.put hp) (.lst upd_same ((cut_dr t _ _).mono (s3.rl.put hp).mono))
    | tup q uq t =>
      rename_i pa vs _ _
      refine .inr (.inl ⟨_, _, rfl, uq.sqt (s3.rl.sub _ _ q), fun hw => ?_, fun _ p u hp hu => ?_⟩)
      · have e := cut_whole (lo := l') (hi := u') t hw
        exact h3 _ I3 H3 s3.rl.stp (.tup q uq (by rw [e]; exact t))
      · exact h3 _ _ _ (s3.rl.put hp hu.nt) (.tup upd_same hu ((cut_dr t _ _).mono (s3.rl.put (o := u) hp hu.nt).mono))
    | str z =>
      have h3' : Pst g X.mg E (DR g) I3 H3 (if z.length ≤ 100000 then .ok (.str (cutS z l' u')) else .bad) Q := h3
      split at h3'
      · rename_i c
        exact .inr (.inr ⟨_, rfl, small_line c, h3'.here s3.rl (.str _)⟩)
      · exact h3'.elim
    | _ => exact h3.elim

/-! ### calls of defs -/
def spF (mg : Str → Option Value) (f : List D → Res D) : Sp := fun vs H Q E => ∃ (g : Gd) (I : Hp) (ds : List D), Rl g I H ∧ DRs g I vs ds ∧ Pst g mg E (DR g) I H (f ds) Q
def fCall (f : List D → Res D) (k : FA) : FE := fun r => (k r).bind f
theorem e_call {CX : CXT} {kl : Nat} {f : Addr} {fd : FuncData} {ps : List Str} {fn : List D → Res D} (F : FnOk X.prog X.w X.K X.mg X.base CX kl f fd ps (spF X.mg fn)) (hr : Room kl X.A) (hg : Gl X x) (hm : X.mg x = some (.ref f)) (hk : PySem.W.keepIn X.K (.ref f) = true) (hb : Binds X.K fd ps []) (hx : Passes CX X E)
    (ha : PA X (e :: es) (tFA g X.mg E kk)) (hdb : (x == ("__debug__" : Str)) = false := by decide) (he : starEach (e :: es) X.env = (false, eval e X.env) :: starEach es X.env := by rfl) (hpl : (backTo pos (starEach es X.env)).any (·.1) = false := by rfl) :
    PE X (.Call (.Name x p) (e :: es) [] pos) (tF g X.mg E (fCall fn kk)) :=
  (pe_call F hr hg hm hk hb .nil hx ha hdb he hpl).imp fun σ H Q h => by
    obtain ⟨I, r, rl, er, h⟩ := h
    refine ⟨I, r, rl, er, Pst.first h fun ds vs I1 H1 _ s1 x1 h1 => ?_⟩
    show spF X.mg fn (vs ++ []) H1 Q E
    rw [List.append_nil]
    exact ⟨g, I1, ds, s1.rl, x1, h1⟩
end
end FW
/-! What is walked: lists, tuples, texts, ranges; enumerate and zip of lists and tuples in any mix. -/
namespace FW
open PySem PySem.Spec PyProof.Rows L2

/-! ### enumerate(v), one argument -/
theorem en1_new {v : Value} {o : Obj} {P : Heap → Prop} (B : Begins v o P) :
    Meets (Builtin.«enumerate.__new__» ⟨[.type "enumerate", v], []⟩) (fun _ R s => P s.heap ∧
      R (.ok (.ret (.ref (s.heap.push o).objs.size))) { s with heap := (s.heap.push o).push { cls := .type "enumerate", data := .fields #[.none, .bool false, .ref s.heap.objs.size, rawInt 0, .none, .none] } }) := by
  refine Meets.of_wp fun prog w A R s hh => ?_
  obtain ⟨hp, gs, dr, tk, os⟩ := s
  obtain ⟨h1, hR⟩ := hh
  have hsub := sub_enumerate
  have go : ∀ {A' : Around} {E : Value → Shared → Prop} {Q : Value → Shared → Prop}, Q (.ref hp.objs.size) ⟨hp.push o, gs, dr, tk, os⟩ → wpAny (model prog w) A' (pyIter v) Q E ⟨hp, gs, dr, tk, os⟩ := fun q => B.iter prog w _ _ ⟨hp, gs, dr, tk, os⟩ _ h1 q
  wp_walk using go
  refine wpAny_stack_any fun st => wpAny_pure ?_
  split
  · rename_i c _ _ _ _ _
    cases (c == Value.type "enumerate") <;> (wp_walk using go; exact ⟨_, rfl, hR⟩)
  · wp_walk using go
    exact ⟨_, rfl, hR⟩
section
variable {prog : Program} {w : World} {A : Around} {E : Value → Shared → Prop} {s : Shared}
theorem en1_call {v : Value} {o : Obj} {P : Heap → Prop} {Q : Value → Shared → Prop} (B : Begins v o P) (h1 : P s.heap)
    (h : ∀ h', IsEnum h' (s.heap.objs.size + 1) s.heap.objs.size 0 .none → h'.get? s.heap.objs.size = some o → (∀ b u, s.heap.get? b = some u → h'.get? b = some u) → Q (.ref (s.heap.objs.size + 1)) { s with heap := h' }) :
    wpAny (model prog w) A (call (.type "enumerate") [v]) Q E s := by
  refine callType_new F.called_enumerate (by decide) (F.typeCall_enumerate_1 _) (F.newCall_enumerate_1 _) (fun obj => F.args_object_init_2 obj _) F.entry_enumerate_new (en1_new B) ⟨h1, ?_⟩
  have sz : (s.heap.push o).objs.size = s.heap.objs.size + 1 := Heap.size_push ..
  have en : IsEnum ((s.heap.push o).push { cls := .type "enumerate", data := .fields #[.none, .bool false, .ref s.heap.objs.size, rawInt 0, .none, .none] }) (s.heap.objs.size + 1) s.heap.objs.size 0 .none := by
    have z := Heap.get?_push_size (s.heap.push o) (o := { cls := .type "enumerate", data := .fields #[.none, .bool false, .ref s.heap.objs.size, rawInt 0, .none, .none] }) rfl
    rw [sz] at z
    exact z
  show _ ∧ _
  rw [sz]
  exact ⟨⟨_, en, rfl⟩, h _ en (Heap.get?_push_of_some _ (Heap.get?_push_size _ B.free)) fun b u x => Heap.get?_push_of_some _ (Heap.get?_push_of_some _ x)⟩
end

/-! ### a sequence: list or tuple -/
/-- the sequence at a -/
def SqA (K : PySem.W.Frag) (H : Hp) (t : Bool) (a : Addr) (xs : List V) : Prop := if t then SqT K H a xs else SqL K H a xs
def IsSq (h : Heap) (t : Bool) (a : Addr) (its : Array Value) : Prop := if t then h.IsTuple a its else h.IsList a its
def IsSqIt (h : Heap) (t : Bool) (it a : Addr) (i : Nat) : Prop := if t then h.IsTupleIter it a i else h.IsListIter it a i
def sqIt (t : Bool) (a : Addr) : Obj := if t then { cls := .type "tuple_iterator", data := .fields #[.ref a, .int 0 0] } else { cls := .type "list_iterator", data := .fields #[.ref a, .int 0 0] }
theorem sq_of_inv {X : Cx} {pins : List (Addr × Obj)} {σ : L2.St} {H : Hp} {s : Shared} {t : Bool} {a : Addr} {xs : List V} (I : Inv X pins σ H s) (h : SqA X.K H t a xs) : ∃ its : List Value, Vals xs its ∧ IsSq s.heap t a its.toArray ∧ a < s.heap.objs.size := by
  cases t with
  | true =>
    obtain ⟨its, r, p, _⟩ := I.tuple h
    obtain ⟨o, ho, _⟩ := id p
    exact ⟨its, r, p, Heap.lt_size ho⟩
  | false =>
    obtain ⟨its, r, p, _⟩ := I.list h
    exact ⟨its, r, p.isList, p.lt⟩
theorem sq_inj {X : Cx} {pins : List (Addr × Obj)} {σ : L2.St} {H : Hp} {s : Shared} {t : Bool} {a : Addr} {xs ys : List V} (I : Inv X pins σ H s) (h : SqA X.K H t a xs) (h' : SqA X.K H t a ys) : xs = ys := by
  cases t with
  | true => exact I.tuple_inj h h'
  | false => exact I.list_inj h h'
theorem begins_sq (t : Bool) (a : Addr) (its : Array Value) : Begins (.ref a) (sqIt t a) fun h => IsSq h t a its := by
  cases t with
  | true => exact begins_tuple a its
  | false => exact begins_list a its
theorem draws_sq {prog : Program} {w : World} {A : Around} (hh : A.handled = none) (t : Bool) (it a : Addr) (ne : a ≠ it) (its : Array Value) :
    Draws prog w A it [it, a] its.size (fun i v => its[i]? = some v) (fun i h => IsSqIt h t it a i ∧ IsSq h t a its) := by
  cases t with
  | true => exact Draws.tuple hh it a ne its
  | false => exact Draws.list hh it a ne its
theorem sqIt_at {h : Heap} {t : Bool} {it a : Addr} (e : h.get? it = some (sqIt t a)) : IsSqIt h t it a 0 := by
  cases t with
  | true => exact ⟨_, e, rfl, rfl⟩
  | false => exact ⟨_, e, rfl, rfl⟩
theorem IsSqIt.keep {h h' : Heap} {t : Bool} {it a : Addr} {i : Nat} (x : IsSqIt h t it a i) (k : ∀ o, h.get? it = some o → h'.get? it = some o) : IsSqIt h' t it a i := by
  cases t with
  | true => exact Heap.IsTupleIter.at x k
  | false => exact Heap.IsListIter.at x k
theorem IsSqIt.obj {h : Heap} {t : Bool} {it a : Addr} {i : Nat} (x : IsSqIt h t it a i) : ∃ o, h.get? it = some o ∧ ∀ v, o.data ≠ .cell v := by
  cases t with
  | true =>
    obtain ⟨o, e, c, d⟩ := x
    exact ⟨o, e, fun v z => by rw [d] at z; cases z⟩
  | false =>
    obtain ⟨o, e, c, d⟩ := x
    exact ⟨o, e, fun v z => by rw [d] at z; cases z⟩

/-! ### enumerate of it -/
def ItE (K : PySem.W.Frag) (t : Bool) (a : Addr) : It :=
  ⟨fun i H => ∃ (xs : List V) (x : V), SqA K H t a xs ∧ xs[i]? = some x,
   fun i H v H' => ∃ T x, v = .ref T ∧ H T = none ∧ H' = upd H T (.tup [.int (i : Nat), x]) ∧ ∀ xs, SqA K H t a xs → xs[i]? = some x,
   fun i H => ∃ xs : List V, SqA K H t a xs ∧ xs.length = i⟩
theorem turn_E {P : Program} {w : World} {K : PySem.W.Frag} {elts : List Expr} {kk : Nat} {tpos : Pos} (t : Bool) (a e it : Addr) (hae : a ≠ e) (hai : a ≠ it) (hne : e ≠ it) :
    Turn P w K (.Tuple elts kk tpos) (ItE K t a) [e, it] e (fun i h => (∃ old, IsEnum h e it (0 + ((i : Nat) : Int)) old) ∧ IsSqIt h t it a i) where
  mem := List.mem_cons_self
  obj := fun i h st b hb => by
    obtain ⟨⟨old, he⟩, hi⟩ := st
    rcases List.mem_cons.mp hb with z | z
    · rw [z]; exact ⟨_, he, fun v q => nomatch q⟩
    · rw [List.mem_singleton.mp z]; exact hi.obj
  keep := fun i h h' st k => let ⟨⟨old, he⟩, hi⟩ := st; ⟨⟨old, k e List.mem_cons_self _ he⟩, hi.keep fun o q => k it (List.mem_cons_of_mem _ List.mem_cons_self) o q⟩
  item := by
    intro X hP hw hK hc i pins s σ H E I hf st hg
    subst hP hw hK
    obtain ⟨en, hi⟩ := st
    obtain ⟨xs, x, hq, hx⟩ := hg
    obtain ⟨its, rv, sq, _⟩ := sq_of_inv I hq
    obtain ⟨u, hu, ru⟩ := rv.get hx
    have hlen := rv.length
    have hlt : i < its.toArray.size := by
      have := (List.getElem?_eq_some_iff.mp hu).1
      simpa using this
    have hd : X.A.in1.handled = none := I.ok.hd hc
    have W := GoesN.enumFrom (prog := X.prog) (w := X.w) (A := X.A) (elts := elts) (x1 := kk) (pos := tpos) 0 (draws_sq hd t it a hai its.toArray) e hne (by simp [hne, hae.symm]) List.mem_cons_self
    obtain ⟨old, he⟩ := id en
    refine W.goes i s _ _ hlt ⟨en, hi, sq⟩ fun v h' tk hY st' hk _ => ?_
    obtain ⟨T, tt, y, rfl, hT, hy, hTT⟩ := hY
    have ey : y = u := by
      have hy' : its[i]? = some y := by simpa using hy
      rw [hu] at hy'
      exact (Option.some.inj hy').symm
    subst ey
    have new : ObjOk X.prog X.w (upd H T (.tup [.int (i : Nat), x])) h' T (.tup [.int (i : Nat), x]) :=
      ⟨by show 2 ≤ sizeLine; decide, [.int (0 + (i : Int)) tt, y], .cons ⟨tt, by rw [Int.zero_add]⟩ (.cons ru .nil), hTT⟩
    have fresh : ∀ b, b ∈ [e, it] → b ≠ T := fun b hb z => by
      obtain ⟨o, ho⟩ : ∃ o, s.heap.get? b = some o := by
        rcases List.mem_cons.mp hb with q | q
        · rw [q]; exact ⟨_, he⟩
        · rw [List.mem_singleton.mp q]; exact ⟨_, hi.obj.choose_spec.1⟩
      exact absurd (Nat.lt_of_lt_of_le (Heap.lt_size ho) hT) (by rw [z]; exact Nat.lt_irrefl _)
    have I1 : Inv X pins σ (upd H T (.tup [.int (i : Nat), x])) { s with heap := h', toks := tk } := I.turnedNew (ch := [e, it]) (fun b o hb q => hk b o hb q) hf hT new
    exact ⟨.ref T, _, I1, rfl, ⟨T, x, rfl, I.hok.fresh hT, rfl, fun ys hys => by rw [sq_inj I hys hq]; exact hx⟩, ⟨by
      obtain ⟨⟨o2, q2⟩, _⟩ := st'
      exact ⟨o2, q2⟩, st'.2.1⟩, fun b hb => by rw [upd_ne (fresh b hb)]; exact (hf b hb).1⟩
  done := by
    intro X hP hw hK hc i pins s σ H E I hf st hg
    subst hP hw hK
    obtain ⟨en, hi⟩ := st
    obtain ⟨xs, hq, hx⟩ := hg
    obtain ⟨its, rv, sq, _⟩ := sq_of_inv I hq
    have hlen := rv.length
    have ei : i = its.toArray.size := by
      rw [← hx, hlen]
      exact List.size_toArray.symm
    have hd : X.A.in1.handled = none := I.ok.hd hc
    have W := GoesN.enumFrom (prog := X.prog) (w := X.w) (A := X.A) (elts := elts) (x1 := kk) (pos := tpos) 0 (draws_sq hd t it a hai its.toArray) e hne (by simp [hne, hae.symm]) List.mem_cons_self
    subst ei
    exact wpAny_mono (W.stops s (fun s1 => Inv X pins σ H s1) E ⟨en, hi, sq⟩ fun h' tk hk _ => I.turnedL (ch := [e, it]) (fun b o hb q => hk b o hb q) hf) (fun r s1 ⟨h1, h2⟩ => ⟨h1, h2⟩) fun _ _ z => z
  self := fun A i s Q E st h => let ⟨⟨_, he⟩, _⟩ := st; wpAny_pyIter_enum he h
def iE (K : PySem.W.Frag) (ta : TA) : TI := fun σ H R => ta σ H fun vs H1 => ∃ t a xs, vs = [.ref a] ∧ SqA K H1 t a xs ∧ R (ItE K t a) H1
theorem pi_E {X : Cx} {e : Expr} {ta : TA} {p pos tpos : Pos} {elts : List Expr} {kk : Nat} (hg : Gl X "enumerate") (hm : X.mg "enumerate" = none) (ha : PA X [e] ta) (hs : starEach [e] X.env = [(false, eval e X.env)] := by rfl) :
    PI X (.Tuple elts kk tpos) (.Call (.Name "enumerate" p) [e] [] pos) (iE X.K ta) := by
  refine ⟨fun pins s σ H R I h => ?_⟩
  refine Call_ (ld_blt I hg hm boot_enumerate (PyProof.Rows.callWith_type1 (thn (ha.run pos pins s σ H _ I h) fun us s1 ⟨vs, H1, I1, r1, q1⟩ => ?_) hs rfl))
  obtain ⟨t, a, xs, ex, hq, q⟩ := q1
  subst ex
  obtain rfl := Vals.ref1 r1
  obtain ⟨its, rv, sq, hlt⟩ := sq_of_inv I1 hq
  refine en1_call (begins_sq t a its.toArray) sq fun h' he hit hk => wpAny_pyIter_enum he ?_
  have I2 : Inv X pins σ H1 { s1 with heap := h' } := I1.kept (t' := s1.toks) hk
  refine ⟨s1.heap.objs.size + 1, [s1.heap.objs.size + 1, s1.heap.objs.size], _, _, H1, rfl, I2, turn_E t a (s1.heap.objs.size + 1) s1.heap.objs.size (Nat.ne_of_lt (Nat.lt_succ_of_lt hlt)) (Nat.ne_of_lt hlt) (Nat.succ_ne_self _), ⟨⟨.none, he⟩, sqIt_at hit⟩, fun b hb => ?_, q⟩
  have hle : s1.heap.objs.size ≤ b := by
    rcases List.mem_cons.mp hb with z | z
    · rw [z]; exact Nat.le_add_right _ _
    · rw [List.mem_singleton.mp z]; exact Nat.le_refl _
  exact I1.fpOk hle (I1.hok.fresh hle)
end FW
/-! zip of two sequences, lists or tuples in any mix; what is walked, by functions over data. -/
namespace FW
open PySem PySem.Spec PyProof.Rows L2

def ItZ (K : PySem.W.Frag) (t t' : Bool) (a b : Addr) : It :=
  ⟨fun i H => ∃ (xs ys : List V) (x y : V), SqA K H t a xs ∧ SqA K H t' b ys ∧ xs[i]? = some x ∧ ys[i]? = some y,
   fun i H v H' => ∃ T x y, v = .ref T ∧ H T = none ∧ H' = upd H T (.tup [x, y]) ∧ (∀ xs, SqA K H t a xs → xs[i]? = some x) ∧ ∀ ys, SqA K H t' b ys → ys[i]? = some y,
   fun i H => ∃ xs ys : List V, SqA K H t a xs ∧ SqA K H t' b ys ∧ min xs.length ys.length = i⟩
def ZSt (t t' : Bool) (a b z TI TO i1 i2 : Addr) (i : Nat) (h : Heap) : Prop :=
  IsZip h z TI TO .none ∧ IsTupOf2 h TI (.ref i1) (.ref i2) ∧ (∃ a1 a2, IsTupOf2 h TO a1 a2) ∧ IsSqIt h t i1 a i ∧ IsSqIt h t' i2 b i
theorem zst_all {t t' : Bool} {a b z TI TO i1 i2 : Addr} {i : Nat} {h : Heap} (st : ZSt t t' a b z TI TO i1 i2 i h) : ∀ c ∈ [z, TI, TO, i1, i2], ∃ o, h.get? c = some o ∧ ∀ v, o.data ≠ .cell v := by
  obtain ⟨h1, h2, ⟨a1, a2, h3⟩, h4, h5⟩ := st
  intro c hc
  simp only [List.mem_cons, List.not_mem_nil, or_false] at hc
  rcases hc with rfl | rfl | rfl | rfl | rfl
  · exact ⟨_, h1, fun v q => nomatch q⟩
  · exact ⟨_, h2, fun v q => nomatch q⟩
  · exact ⟨_, h3, fun v q => nomatch q⟩
  · exact h4.obj
  · exact h5.obj
theorem turn_Z {P : Program} {w : World} {K : PySem.W.Frag} {elts : List Expr} {kk : Nat} {tpos : Pos} (t t' : Bool) {a b z TI TO i1 i2 : Addr} (S : ZipSep2 z TI TO i1 i2 [i1, a] [i2, b]) (na : a ≠ i1) (nb : b ≠ i2) :
    Turn P w K (.Tuple elts kk tpos) (ItZ K t t' a b) [z, TI, TO, i1, i2] z (ZSt t t' a b z TI TO i1 i2) where
  mem := List.mem_cons_self
  obj := fun i h st c hc => zst_all st c hc
  keep := fun i h h' st k => by
    obtain ⟨h1, h2, ⟨a1, a2, h3⟩, h4, h5⟩ := st
    exact ⟨k z (by simp) _ h1, k TI (by simp) _ h2, ⟨a1, a2, k TO (by simp) _ h3⟩, h4.keep fun o q => k i1 (by simp) o q, h5.keep fun o q => k i2 (by simp) o q⟩
  item := by
    intro X hP hw hK hc i pins s σ H E I hf st hg
    subst hP hw hK
    obtain ⟨xs, ys, x, y, hq, hq', hx, hy⟩ := hg
    obtain ⟨its, rv, sq, _⟩ := sq_of_inv I hq
    obtain ⟨jts, rw', sq', _⟩ := sq_of_inv I hq'
    obtain ⟨u, hu, ru⟩ := rv.get hx
    obtain ⟨u', hu', ru'⟩ := rw'.get hy
    have l1 : i < its.toArray.size := by simpa using (List.getElem?_eq_some_iff.mp hu).1
    have l2 : i < jts.toArray.size := by simpa using (List.getElem?_eq_some_iff.mp hu').1
    have hd : X.A.in1.handled = none := I.ok.hd hc
    have W := GoesN.zip2 (prog := X.prog) (w := X.w) (A := X.A) (elts := elts) (x1 := kk) (pos := tpos) S (draws_sq hd t i1 a na its.toArray) (draws_sq hd t' i2 b nb jts.toArray)
    have all := zst_all st
    obtain ⟨h1, h2, h3, h4, h5⟩ := st
    refine W.goes i s _ _ (Nat.lt_min.mpr ⟨l1, l2⟩) ⟨h1, h2, h3, ⟨h4, sq⟩, ⟨h5, sq'⟩⟩ fun v h' tk hY st' hk _ => ?_
    obtain ⟨T, v1, v2, rfl, hT, e1, e2, hTT⟩ := hY
    have z1 : v1 = u := by
      have q : its[i]? = some v1 := by simpa using e1
      rw [hu] at q
      exact (Option.some.inj q).symm
    have z2 : v2 = u' := by
      have q : jts[i]? = some v2 := by simpa using e2
      rw [hu'] at q
      exact (Option.some.inj q).symm
    subst z1; subst z2
    have new : ObjOk X.prog X.w (upd H T (.tup [x, y])) h' T (.tup [x, y]) := ⟨by show 2 ≤ sizeLine; decide, [v1, v2], .cons ru (.cons ru' .nil), hTT⟩
    have I1 : Inv X pins σ (upd H T (.tup [x, y])) { s with heap := h', toks := tk } :=
      I.turnedNew (ch := [z, TI, TO, i1, i2]) (fun c o hb q => hk c o (fun m => hb (by
        simp only [List.mem_cons, List.not_mem_nil, or_false] at m ⊢
        rcases m with m | m | m | m
        · exact .inl m
        · exact .inr (.inr (.inl m))
        · exact .inr (.inr (.inr (.inl m)))
        · exact .inr (.inr (.inr (.inr m))))) q) hf hT new
    refine ⟨.ref T, _, I1, rfl, ⟨T, x, y, rfl, I.hok.fresh hT, rfl, fun zs hz => by rw [sq_inj I hz hq]; exact hx, fun zs hz => by rw [sq_inj I hz hq']; exact hy⟩, ⟨st'.1, st'.2.1, st'.2.2.1, st'.2.2.2.1.1, st'.2.2.2.2.1⟩, fun c hc => ?_⟩
    obtain ⟨o, ho, _⟩ := all c hc
    rw [upd_ne (Nat.ne_of_lt (Nat.lt_of_lt_of_le (Heap.lt_size ho) hT))]
    exact (hf c hc).1
  done := by
    intro X hP hw hK hc i pins s σ H E I hf st hg
    subst hP hw hK
    obtain ⟨xs, ys, hq, hq', hn⟩ := hg
    obtain ⟨its, rv, sq, _⟩ := sq_of_inv I hq
    obtain ⟨jts, rw', sq', _⟩ := sq_of_inv I hq'
    have ei : i = min its.toArray.size jts.toArray.size := by
      rw [← hn, rv.length, rw'.length, List.size_toArray, List.size_toArray]
    have hd : X.A.in1.handled = none := I.ok.hd hc
    have W := GoesN.zip2 (prog := X.prog) (w := X.w) (A := X.A) (elts := elts) (x1 := kk) (pos := tpos) S (draws_sq hd t i1 a na its.toArray) (draws_sq hd t' i2 b nb jts.toArray)
    obtain ⟨h1, h2, h3, h4, h5⟩ := st
    subst ei
    refine wpAny_mono (W.stops s (fun s1 => Inv X pins σ H s1) E ⟨h1, h2, h3, ⟨h4, sq⟩, ⟨h5, sq'⟩⟩ fun h' tk hk _ => I.turnedL (ch := [z, TI, TO, i1, i2]) (fun c o hb q => hk c o (fun m => hb ?_) q) hf) (fun r s1 ⟨h1, h2⟩ => ⟨h1, h2⟩) fun _ _ z => z
    simp only [List.mem_cons, List.not_mem_nil, or_false] at m ⊢
    rcases m with m | m | m | m
    · exact .inl m
    · exact .inr (.inr (.inl m))
    · exact .inr (.inr (.inr (.inl m)))
    · exact .inr (.inr (.inr (.inr m)))
  self := fun A i s Q E st h => wpAny_pyIter_zip st.1 h
def iZ (K : PySem.W.Frag) (ta : TA) : TI := fun σ H R => ta σ H fun vs H1 => ∃ t t' a b xs ys, vs = [.ref a, .ref b] ∧ SqA K H1 t a xs ∧ SqA K H1 t' b ys ∧ R (ItZ K t t' a b) H1
theorem pi_Z {X : Cx} {e e2 : Expr} {ta : TA} {p pos tpos : Pos} {elts : List Expr} {kk : Nat} (hg : Gl X "zip") (hm : X.mg "zip" = none) (ha : PA X [e, e2] ta)
    (hs : starEach [e, e2] X.env = (false, eval e X.env) :: starEach [e2] X.env := by rfl) (hpl : (backTo pos (starEach [e2] X.env)).any (·.1) = false := by rfl) :
    PI X (.Tuple elts kk tpos) (.Call (.Name "zip" p) [e, e2] [] pos) (iZ X.K ta) := by
  refine ⟨fun pins s σ H R I h => ?_⟩
  refine Call_ (ld_blt I hg hm PyProof.Rows.boot_zip (PyProof.Rows.callWith_type1 (thn (ha.run pos pins s σ H _ I h) fun us s1 ⟨vs, H1, I1, r1, q1⟩ => ?_) hs hpl))
  obtain ⟨t, t', a, b, xs, ys, ex, hq, hq', q⟩ := q1
  subst ex
  obtain ⟨u1, u2, rfl, r1, r2⟩ := vals2 r1
  cases r1
  cases r2
  obtain ⟨its, rv, sq, la⟩ := sq_of_inv I1 hq
  obtain ⟨jts, rw', sq', lb⟩ := sq_of_inv I1 hq'
  refine zip_begins2 (begins_sq t a its.toArray) (begins_sq t' b jts.toArray) sq sq' fun h' hz hTI hTO h1 h2 _ hk => wpAny_pyIter_zip hz ?_
  have I2 : Inv X pins σ H1 { s1 with heap := h' } := I1.kept (t' := s1.toks) hk
  have S : ZipSep2 (s1.heap.objs.size + 4) (s1.heap.objs.size + 2) (s1.heap.objs.size + 3) s1.heap.objs.size (s1.heap.objs.size + 1) [s1.heap.objs.size, a] [s1.heap.objs.size + 1, b] :=
    zip_sep2 (fun c hc => by rw [List.mem_singleton.mp hc]; exact la) fun c hc => by rw [List.mem_singleton.mp hc]; exact lb
  refine ⟨s1.heap.objs.size + 4, [s1.heap.objs.size + 4, s1.heap.objs.size + 2, s1.heap.objs.size + 3, s1.heap.objs.size, s1.heap.objs.size + 1], _, _, H1, rfl, I2,
    turn_Z t t' S (Nat.ne_of_lt la) (Nat.ne_of_lt (Nat.lt_succ_of_lt lb)), ⟨hz, hTI, ⟨_, _, hTO⟩, sqIt_at h1, sqIt_at h2⟩, fun c hc => ?_, q⟩
  have hle : s1.heap.objs.size ≤ c := by
    simp only [List.mem_cons, List.not_mem_nil, or_false] at hc
    rcases hc with z | z | z | z | z
    · rw [z]; exact Nat.le_add_right _ _
    · rw [z]; exact Nat.le_add_right _ _
    · rw [z]; exact Nat.le_add_right _ _
    · rw [z]; exact Nat.le_refl _
    · rw [z]; exact Nat.le_add_right _ _
  exact I1.fpOk hle (I1.hok.fresh hle)

/-! ### what is walked, over data -/
structure Src (g : Gd) (J : It) (I0 : Hp) (ds : List D) : Prop where
  go : ∀ i I H, Rl g I H → Sub I0 I → i < ds.length → J.go i H
  yld : ∀ i d I H x H', Rl g I H → Sub I0 I → ds[i]? = some d → J.yld i H x H' → ∃ I', Stp g I H I' H' ∧ DR g I' x d
  stop : ∀ i I H, Rl g I H → Sub I0 I → i = ds.length → J.stop i H
abbrev FI := Env → Res (List D)
def tFI (g : Gd) (mg : Str → Option Value) (E : XK) (f : FI) : TI := fun σ H R => ∃ I r, Rl g I H ∧ ER g I σ r ∧ Pst g mg E (fun I' (J : It) ds => Src g J I' ds) I H (f r) R
theorem _root_.L2.PI.imp {X : Cx} {tg e : Expr} {t u : TI} (h : PI X tg e t) (k : ∀ σ H R, u σ H R → t σ H R) : PI X tg e u := ⟨fun pins s σ H R I q => h.run pins s σ H R I (k σ H R q)⟩
theorem _root_.L2.PI.either {X : Cx} {tg e : Expr} {t u : TI} (h : PI X tg e t) (k : PI X tg e u) : PI X tg e (fun σ H R => t σ H R ∨ u σ H R) := ⟨fun pins s σ H R I q => by
  rcases q with q | q
  · exact h.run pins s σ H R I q
  · exact k.run pins s σ H R I q⟩
section
variable {X : Cx} {g : Gd} {E : XK} {K : PySem.W.Frag}
theorem src_list {I0 : Hp} {a : Addr} {xs : List V} {ds : List D} (h : I0 a = some (.lst xs)) (r : DRs g I0 xs ds) : Src g (Itl K a) I0 ds where
  go := fun i I H rl s hi => by
    obtain ⟨v, hv, _⟩ := r.at_ (List.getElem?_eq_getElem hi)
    exact ⟨xs, v, SqL.of (rl.sub _ _ (s _ _ h)), hv⟩
  yld := fun i d I H x H' rl s hd y => by
    obtain ⟨rfl, y⟩ := y
    obtain ⟨v, hv, rv⟩ := r.at_ hd
    have e : x = v := Option.some.inj ((y xs (SqL.of (rl.sub _ _ (s _ _ h)))).symm.trans hv)
    rw [e]
    exact ⟨I, rl.stp, rv.mono s⟩
  stop := fun i I H rl s hi => ⟨xs, SqL.of (rl.sub _ _ (s _ _ h)), by rw [r.len, hi]; exact Nat.le_refl _⟩
theorem src_tup {I0 : Hp} {a : Addr} {xs : List V} {ds : List D} {u0 : HO} (h : I0 a = some u0) (hu : TupO xs u0) (r : DRs g I0 xs ds) : Src g (Itt K a) I0 ds where
  go := fun i I H rl s hi => by
    obtain ⟨v, hv, _⟩ := r.at_ (List.getElem?_eq_getElem hi)
    exact ⟨xs, v, hu.sqt (rl.sub _ _ (s _ _ h)), hv⟩
  yld := fun i d I H x H' rl s hd y => by
    obtain ⟨rfl, y⟩ := y
    obtain ⟨v, hv, rv⟩ := r.at_ hd
    have e : x = v := Option.some.inj ((y xs (hu.sqt (rl.sub _ _ (s _ _ h)))).symm.trans hv)
    rw [e]
    exact ⟨I, rl.stp, rv.mono s⟩
  stop := fun i I H rl s hi => ⟨xs, hu.sqt (rl.sub _ _ (s _ _ h)), by rw [r.len, hi]; exact Nat.le_refl _⟩
def signs (x : Str) : List D := x.cps.toList.map fun c => .str ⟨#[c]⟩
theorem src_str {I0 : Hp} {x : Str} : Src g (Its x) I0 (signs x) where
  go := fun i I H rl s hi => by
    show i < x.cps.size
    simpa [signs] using hi
  yld := fun i d I H v H' rl s hd y => by
    obtain ⟨rfl, c, hc, rfl⟩ := y
    have e : d = .str ⟨#[c]⟩ := by
      unfold signs at hd
      rw [List.getElem?_map, Array.getElem?_toList, hc] at hd
      exact (Option.some.inj hd).symm
    rw [e]
    exact ⟨I, rl.stp, .str _⟩
  stop := fun i I H rl s hi => by
    show x.cps.size ≤ i
    rw [hi]
    simp [signs]
/-- lo, lo + 1, .. -/
def upto (lo : Int) (n : Nat) : List D := (List.range n).map fun i => .int (lo + (i : Nat))
theorem src_range {I0 : Hp} {lo : Int} {n : Nat} : Src g (Itr lo n) I0 (upto lo n) where
  go := fun i I H rl s hi => by
    show i < n
    simpa [upto] using hi
  yld := fun i d I H v H' rl s hd y => by
    obtain ⟨rfl, rfl⟩ := y
    have e : d = .int (lo + i) := by
      unfold upto at hd
      rw [List.getElem?_map] at hd
      cases q : (List.range n)[i]? with
      | none => rw [q] at hd; cases hd
      | some j =>
        rw [q] at hd
        obtain ⟨h1, h2⟩ := List.getElem?_eq_some_iff.mp q
        rw [List.getElem_range] at h2
        rw [← h2] at hd
        exact (Option.some.inj hd).symm
    rw [e]
    exact ⟨I, rl.stp, .int _⟩
  stop := fun i I H rl s hi => by
    show n ≤ i
    rw [hi]
    simp [upto]
/-- pairs laid anew -/
theorem pair_put {I H : Hp} {x y : V} {d e : D} {T : Addr} (rl : Rl g I H) (hx : DR g I x d) (hy : DR g I y e) (hT : H T = none) : ∃ I', Stp g I H I' (upd H T (.tup [x, y])) ∧ DR g I' (.ref T) (.par [d, e]) := by
  have s := rl.put (o := .tup [x, y]) hT
  exact ⟨_, s, .par upd_same (.cons (hx.mono s.mono) (.cons (hy.mono s.mono) .nil))⟩
/-- a list or a tuple at a -/
def SrcA (g : Gd) (I : Hp) (t : Bool) (a : Addr) (xs : List V) (ds : List D) : Prop := (∃ u, I a = some u ∧ if t = true then TupO xs u else u = .lst xs) ∧ DRs g I xs ds
theorem SrcA.sq {I0 I H : Hp} {t : Bool} {a : Addr} {xs : List V} {ds : List D} (h : SrcA g I0 t a xs ds) (rl : Rl g I H) (s : Sub I0 I) : SqA K H t a xs := by
  obtain ⟨⟨u, e, hu⟩, _⟩ := h
  cases t with
  | true => exact TupO.sqt hu (rl.sub _ _ (s _ _ e))
  | false =>
    have hu : u = .lst xs := hu
    rw [hu] at e
    exact SqL.of (rl.sub _ _ (s _ _ e))
def enumD (ds : List D) : List D := ds.mapIdx fun i d => .par [.int (i : Nat), d]
def zipD (ds es : List D) : List D := List.zipWith (fun d e => .par [d, e]) ds es
theorem src_E {I0 : Hp} {t : Bool} {a : Addr} {xs : List V} {ds : List D} (h : SrcA g I0 t a xs ds) : Src g (ItE K t a) I0 (enumD ds) where
  go := fun i I H rl s hi => by
    have hi' : i < ds.length := by simpa [enumD] using hi
    obtain ⟨v, hv, _⟩ := h.2.at_ (List.getElem?_eq_getElem hi')
    exact ⟨xs, v, h.sq rl s, hv⟩
  yld := fun i d I H v H' rl s hd y => by
    obtain ⟨T, x, rfl, hT, rfl, hx⟩ := y
    unfold enumD at hd
    rw [List.getElem?_mapIdx] at hd
    cases q : ds[i]? with
    | none => rw [q] at hd; cases hd
    | some e =>
      rw [q] at hd
      obtain ⟨v, hv, rv⟩ := h.2.at_ q
      have ex : x = v := Option.some.inj ((hx xs (h.sq rl s)).symm.trans hv)
      have ed : d = .par [.int (i : Nat), e] := (Option.some.inj hd).symm
      rw [ed, ex]
      exact pair_put rl (.int _) (rv.mono s) hT
  stop := fun i I H rl s hi => ⟨xs, h.sq rl s, by rw [h.2.len, hi]; simp [enumD]⟩
theorem src_Z {I0 : Hp} {t t' : Bool} {a b : Addr} {xs ys : List V} {ds es : List D} (h : SrcA g I0 t a xs ds) (h' : SrcA g I0 t' b ys es) : Src g (ItZ K t t' a b) I0 (zipD ds es) where
  go := fun i I H rl s hi => by
    have hi' : i < ds.length ∧ i < es.length := by simpa [zipD, Nat.lt_min] using hi
    obtain ⟨v, hv, _⟩ := h.2.at_ (List.getElem?_eq_getElem hi'.1)
    obtain ⟨u, hu, _⟩ := h'.2.at_ (List.getElem?_eq_getElem hi'.2)
    exact ⟨xs, ys, v, u, h.sq rl s, h'.sq rl s, hv, hu⟩
  yld := fun i d I H v H' rl s hd y => by
    obtain ⟨T, x, y, rfl, hT, rfl, hx, hy⟩ := y
    unfold zipD at hd
    rw [List.getElem?_zipWith] at hd
    cases q : ds[i]? with
    | none => rw [q] at hd; cases hd
    | some d1 =>
      cases q' : es[i]? with
      | none => rw [q, q'] at hd; cases hd
      | some e1 =>
        rw [q, q'] at hd
        obtain ⟨v, hv, rv⟩ := h.2.at_ q
        obtain ⟨u, hu, ru⟩ := h'.2.at_ q'
        have ex : x = v := Option.some.inj ((hx xs (h.sq rl s)).symm.trans hv)
        have ey : y = u := Option.some.inj ((hy ys (h'.sq rl s)).symm.trans hu)
        have ed : d = .par [d1, e1] := (Option.some.inj hd).symm
        rw [ed, ex, ey]
        exact pair_put rl (rv.mono s) (ru.mono s) hT
  stop := fun i I H rl s hi => ⟨xs, ys, h.sq rl s, h'.sq rl s, by rw [h.2.len, h'.2.len, hi]; simp [zipD]⟩

/-- a value walked: a list, a tuple, a text -/
def dIter : D → Res (List D)
  | .lst ds => .ok ds
  | .tup ds => .ok ds
  | .str x => .ok (signs x)
  | _ => .bad
def fIter (f : FE) : FI := fun r => (f r).bind dIter
theorem i_val {tg e : Expr} {f : FE} (h : PE X e (tF g X.mg E f)) : PI X tg e (tFI g X.mg E (fIter f)) :=
  ((pi_list h).either ((pi_tup h).either (pi_str h))).imp fun σ H R q => by
    obtain ⟨I, r, rl, er, q⟩ := q
    unfold fIter at q
    cases e : f r with
    | bad => rw [e] at q; exact q.elim
    | exc c =>
      rw [e] at q
      exact .inl ⟨I, r, rl, er, by rw [e]; exact q⟩
    | ok d =>
      rw [e] at q
      cases d with
      | lst ds =>
        refine .inl ⟨I, r, rl, er, ?_⟩
        rw [e]
        intro v I' H' s x
        cases x with
        | lst hx rx => exact ⟨_, rfl, ⟨_, SqL.of (s.rl.sub _ _ hx)⟩, q _ I' H' s (src_list hx rx)⟩
      | tup ds =>
        refine .inr (.inl ⟨I, r, rl, er, ?_⟩)
        rw [e]
        intro v I' H' s x
        cases x with
        | tup hx ux rx => exact ⟨_, rfl, ⟨_, ux.sqt (s.rl.sub _ _ hx)⟩, q _ I' H' s (src_tup hx ux rx)⟩
      | str x =>
        refine .inr (.inr ⟨I, r, rl, er, ?_⟩)
        rw [e]
        intro v I' H' s y
        cases y
        exact ⟨_, rfl, q _ I' H' s src_str⟩
      | _ => exact q.elim
def dRange1 : List D → Res (List D)
  | [.int j] => if j ≤ 1000000 ∧ -1000000 ≤ j then .ok (upto 0 j.toNat) else .bad
  | _ => .bad
def dEnum : List D → Res (List D)
  | [.lst ds] => .ok (enumD ds)
  | [.tup ds] => .ok (enumD ds)
  | _ => .bad
def dZip : List D → Res (List D)
  | [.lst ds, .lst es] => .ok (zipD ds es)
  | [.lst ds, .tup es] => .ok (zipD ds es)
  | [.tup ds, .lst es] => .ok (zipD ds es)
  | [.tup ds, .tup es] => .ok (zipD ds es)
  | _ => .bad
def fItA (d : List D → Res (List D)) (k : FA) : FI := fun r => (k r).bind d
theorem i_range1 {tg a : Expr} {k : FA} {p pos : Pos} (hg : Gl X "range") (hm : X.mg "range" = none) (ha : PA X [a] (tFA g X.mg E k)) (hs : starEach [a] X.env = [(false, eval a X.env)] := by rfl) : PI X tg (.Call (.Name "range" p) [a] [] pos) (tFI g X.mg E (fItA dRange1 k)) :=
  (pi_range1 hg hm ha hs).imp fun σ H R q => by
    obtain ⟨I, r, rl, er, q⟩ := q
    refine ⟨I, r, rl, er, Pst.first q fun ds vs I1 H1 _ s1 x1 h1 => ?_⟩
    unfold dRange1 at h1
    split at h1
    · split at h1
      · rename_i c
        cases x1 with
        | cons y t =>
          cases t; cases y
          exact ⟨_, rfl, by omega, by omega, h1 _ I1 H1 s1.rl.stp src_range⟩
      · exact h1.elim
    · exact h1.elim
theorem i_enum {e : Expr} {k : FA} {p pos tpos : Pos} {elts : List Expr} {kk : Nat} (hg : Gl X "enumerate") (hm : X.mg "enumerate" = none) (ha : PA X [e] (tFA g X.mg E k)) (hs : starEach [e] X.env = [(false, eval e X.env)] := by rfl) :
    PI X (.Tuple elts kk tpos) (.Call (.Name "enumerate" p) [e] [] pos) (tFI g X.mg E (fItA dEnum k)) :=
  (pi_E hg hm ha hs).imp fun σ H R q => by
    obtain ⟨I, r, rl, er, q⟩ := q
    refine ⟨I, r, rl, er, Pst.first q fun ds vs I1 H1 _ s1 x1 h1 => ?_⟩
    unfold dEnum at h1
    split at h1
    · cases x1 with
      | cons y t =>
        cases t
        cases y with
        | lst hy ry => exact ⟨false, _, _, rfl, SqL.of (s1.rl.sub _ _ hy), h1 _ I1 H1 s1.rl.stp (src_E (t := false) ⟨⟨_, hy, rfl⟩, ry⟩)⟩
    · cases x1 with
      | cons y t =>
        cases t
        cases y with
        | tup hy uy ry => exact ⟨true, _, _, rfl, uy.sqt (s1.rl.sub _ _ hy), h1 _ I1 H1 s1.rl.stp (src_E (t := true) ⟨⟨_, hy, uy⟩, ry⟩)⟩
    · exact h1.elim
theorem i_zip {e e2 : Expr} {k : FA} {p pos tpos : Pos} {elts : List Expr} {kk : Nat} (hg : Gl X "zip") (hm : X.mg "zip" = none) (ha : PA X [e, e2] (tFA g X.mg E k))
    (hs : starEach [e, e2] X.env = (false, eval e X.env) :: starEach [e2] X.env := by rfl) (hpl : (backTo pos (starEach [e2] X.env)).any (·.1) = false := by rfl) :
    PI X (.Tuple elts kk tpos) (.Call (.Name "zip" p) [e, e2] [] pos) (tFI g X.mg E (fItA dZip k)) :=
  (pi_Z hg hm ha hs hpl).imp fun σ H R q => by
    obtain ⟨I, r, rl, er, q⟩ := q
    refine ⟨I, r, rl, er, Pst.first q fun ds vs I1 H1 _ s1 x1 h1 => ?_⟩
    have fin : ∀ {t t' : Bool} {a b : Addr} {xs ys : List V} {ds es : List D}, SrcA g I1 t a xs ds → SrcA g I1 t' b ys es → Pst g X.mg E (fun I' (J : It) ds => Src g J I' ds) I1 H1 (.ok (zipD ds es)) R →
        ∃ t t' a' b' xs ys, [V.ref a, V.ref b] = [.ref a', .ref b'] ∧ SqA X.K H1 t a' xs ∧ SqA X.K H1 t' b' ys ∧ R (ItZ X.K t t' a' b') H1 :=
      fun {t t' a b xs ys ds es} h h' z => ⟨t, t', a, b, xs, ys, rfl, h.sq s1.rl (Sub.refl _), h'.sq s1.rl (Sub.refl _), z _ I1 H1 s1.rl.stp (src_Z h h')⟩
    unfold dZip at h1
    split at h1
    · cases x1 with
      | cons y t =>
        cases t with
        | cons y' t' =>
          cases t'
          cases y with
          | lst hy ry => cases y' with
            | lst hz rz => exact fin (t := false) (t' := false) ⟨⟨_, hy, rfl⟩, ry⟩ ⟨⟨_, hz, rfl⟩, rz⟩ h1
    · cases x1 with
      | cons y t =>
        cases t with
        | cons y' t' =>
          cases t'
          cases y with
          | lst hy ry => cases y' with
            | tup hz uz rz => exact fin (t := false) (t' := true) ⟨⟨_, hy, rfl⟩, ry⟩ ⟨⟨_, hz, uz⟩, rz⟩ h1
    · cases x1 with
      | cons y t =>
        cases t with
        | cons y' t' =>
          cases t'
          cases y with
          | tup hy uy ry => cases y' with
            | lst hz rz => exact fin (t := true) (t' := false) ⟨⟨_, hy, uy⟩, ry⟩ ⟨⟨_, hz, rfl⟩, rz⟩ h1
    · cases x1 with
      | cons y t =>
        cases t with
        | cons y' t' =>
          cases t'
          cases y with
          | tup hy uy ry => cases y' with
            | tup hz uz rz => exact fin (t := true) (t' := true) ⟨⟨_, hy, uy⟩, ry⟩ ⟨⟨_, hz, uz⟩, rz⟩ h1
    · exact h1.elim
end
end FW
/-! Readings by wishes (for draws), targets, comprehensions. -/
namespace FW
open PySem PySem.Spec PyProof.Rows L2

/-! ### an expression by what is wished of its answer -/
structure WE where
  run : Env → (D → Prop) → (Str → Prop) → Prop
  mono : ∀ {r : Env} {Q Q' : D → Prop} {Z Z' : Str → Prop}, (∀ d, Q d → Q' d) → (∀ c, Z c → Z' c) → run r Q Z → run r Q' Z'
def resW {α : Type} (x : Res α) (Q : α → Prop) (Z : Str → Prop) : Prop := match x with
  | .ok d => Q d
  | .exc c => Z c
  | .bad => False
theorem resW.mono {α : Type} {x : Res α} {Q Q' : α → Prop} {Z Z' : Str → Prop} (h1 : ∀ d, Q d → Q' d) (h2 : ∀ c, Z c → Z' c) (h : resW x Q Z) : resW x Q' Z' := by
  cases x with
  | ok d => exact h1 d h
  | exc c => exact h2 c h
  | bad => exact h
def wOf (f : FE) : WE := ⟨fun r Q Z => resW (f r) Q Z, fun h1 h2 h => resW.mono h1 h2 h⟩
section
variable (g : Gd) (mg : Str → Option Value) (E : XK)
/-- the end of a reading, its refusal -/
def endW {α β : Type} (R : Hp → β → α → Prop) (I H : Hp) (Q : β → Hp → Prop) : α → Prop := fun d => ∀ v I' H', Stp g I H I' H' → R I' v d → Q v H'
def excW (I H : Hp) : Str → Prop := fun c => ∀ I' H', Stp g I H I' H' → EX mg E c H'
def tW (w : WE) : TE := fun σ H Q => ∃ I r, Rl g I H ∧ ER g I σ r ∧ w.run r (endW g (DR g) I H Q) (excW g mg E I H)
end
theorem Pst.iff {g : Gd} {mg : Str → Option Value} {E : XK} {α β : Type} {R : Hp → β → α → Prop} {I H : Hp} {x : Res α} {Q : β → Hp → Prop} : Pst g mg E R I H x Q ↔ resW x (endW g R I H Q) (excW g mg E I H) := by
  cases x <;> exact Iff.rfl
theorem tW_of {g : Gd} {mg : Str → Option Value} {E : XK} {f : FE} {σ : L2.St} {H : Hp} {Q : VK} : tF g mg E f σ H Q ↔ tW g mg E (wOf f) σ H Q := by
  constructor
  · rintro ⟨I, r, rl, er, h⟩
    exact ⟨I, r, rl, er, Pst.iff.mp h⟩
  · rintro ⟨I, r, rl, er, h⟩
    exact ⟨I, r, rl, er, Pst.iff.mpr h⟩
theorem w_of {X : Cx} {g : Gd} {E : XK} {e : Expr} {f : FE} (h : PE X e (tF g X.mg E f)) : PE X e (tW g X.mg E (wOf f)) := h.imp fun _ _ _ q => tW_of.mpr q
theorem endW.step {g : Gd} {α β : Type} {R : Hp → β → α → Prop} {I H I' H' : Hp} {Q : β → Hp → Prop} {d : α} (s : Stp g I H I' H') (h : endW g R I H Q d) : endW g R I' H' Q d := fun v I2 H2 q x => h v I2 H2 (s.trans q) x
theorem excW.step {g : Gd} {mg : Str → Option Value} {E : XK} {I H I' H' : Hp} {c : Str} (s : Stp g I H I' H') (h : excW g mg E I H c) : excW g mg E I' H' c := fun I2 H2 q => h I2 H2 (s.trans q)

/-- what is walked, by wishes -/
structure WI where
  run : Env → (List D → Prop) → (Str → Prop) → Prop
  mono : ∀ {r : Env} {Q Q' : List D → Prop} {Z Z' : Str → Prop}, (∀ d, Q d → Q' d) → (∀ c, Z c → Z' c) → run r Q Z → run r Q' Z'
def wiOf (f : FI) : WI := ⟨fun r Q Z => resW (f r) Q Z, fun h h2 q => resW.mono h h2 q⟩
def tWI (g : Gd) (mg : Str → Option Value) (E : XK) (w : WI) : TI := fun σ H R => ∃ I r, Rl g I H ∧ ER g I σ r ∧ w.run r (endW g (fun I' (J : It) ds => Src g J I' ds) I H R) (excW g mg E I H)
theorem i_of {X : Cx} {g : Gd} {E : XK} {tg e : Expr} {f : FI} (h : PI X tg e (tFI g X.mg E f)) : PI X tg e (tWI g X.mg E (wiOf f)) := h.imp fun σ H R q => by
  obtain ⟨I, r, rl, er, q⟩ := q
  exact ⟨I, r, rl, er, Pst.iff.mpr q⟩

/-! ### targets -/
abbrev FG := D → Env → Res Env
abbrev FGs := List D → Env → Res Env
def Diff (is : List Nat) (σ σ' : L2.St) : Prop := σ'.length = σ.length ∧ ∀ i, i ∉ is → σ'[i]? = σ[i]?
def tFG (g : Gd) (is : List Nat) (f : FG) : TG := fun v σ H Q => ∃ I r d, Rl g I H ∧ ER g I σ r ∧ DR g I v d ∧ resW (f d r) (fun r' => ∀ σ', ER g I σ' r' → Diff is σ σ' → Q σ' H) fun _ => False
def tFGs (g : Gd) (is : List Nat) (f : FGs) : TGs := fun vs σ H Q => ∃ I r ds, Rl g I H ∧ ER g I σ r ∧ DRs g I vs ds ∧ resW (f ds r) (fun r' => ∀ σ', ER g I σ' r' → Diff is σ σ' → Q σ' H) fun _ => False
def gN (i : Nat) : FG := fun d r => if i < r.length then .ok (r.set i (some d)) else .bad
def gsNil : FGs := fun ds r => match ds with
  | [] => .ok r
  | _ => .bad
def gsCons (f : FG) (k : FGs) : FGs := fun ds r => match ds with
  | d :: t => (f d r).bind (k t)
  | [] => .bad
def gT (n : Nat) (k : FGs) : FG := fun d r => match d with
  | .tup ds => if ds.length = n then k ds r else .bad
  | .par ds => if ds.length = n then k ds r else .bad
  | _ => .bad
theorem ER.set {g : Gd} {I : Hp} {σ : L2.St} {r : Env} {i : Nat} {v : V} {d : D} (e : ER g I σ r) (hi : i < r.length) (x : DR g I v d) : ER g I (σ.set i (some v)) (r.set i (some d)) := by
  refine ⟨by rw [List.length_set, List.length_set]; exact e.len, fun j c h => ?_⟩
  by_cases hj : j = i
  · subst hj
    rw [List.getElem?_set_self hi] at h
    cases h
    exact ⟨v, List.getElem?_set_self (by rw [e.len]; exact hi), x⟩
  · rw [List.getElem?_set_ne (Ne.symm hj)] at h
    obtain ⟨u, h1, h2⟩ := e.get j c h
    exact ⟨u, by rw [List.getElem?_set_ne (Ne.symm hj)]; exact h1, h2⟩
theorem _root_.L2.PG.imp {X : Cx} {e : Expr} {t u : TG} (h : PG X e t) (k : ∀ v σ H Q, u v σ H Q → t v σ H Q) : PG X e u := ⟨fun pins s σ H v w Q I r q => h.run pins s σ H v w Q I r (k v σ H Q q)⟩
theorem _root_.L2.PGs.imp {X : Cx} {e : List Expr} {t u : TGs} (h : PGs X e t) (k : ∀ v σ H Q, u v σ H Q → t v σ H Q) : PGs X e u := ⟨fun pins s σ H v w Q I r q => h.run pins s σ H v w Q I r (k v σ H Q q)⟩
section
variable {X : Cx} {g : Gd} {E : XK}
theorem g_name (i : Nat) {x : Str} {pos : Pos} (hN : X.N.Nodup) (hi : X.N[i]? = some x := by rfl) (hx : Loc X.env.scope x := by first | exact Or.inl rfl | exact Or.inr rfl) (hf : X.fn x = true ∨ X.env.scope.names.lookup x = some .local := by first | exact .inl rfl | exact .inr rfl | assumption) : PG X (.Name x pos) (tFG g [i] (gN i)) :=
  (pg_name (i := i) hN hi hx hf).imp fun v σ H Q h => by
    obtain ⟨I, r, d, rl, er, x, h⟩ := h
    unfold gN at h
    split at h
    · rename_i hi
      exact h _ (er.set hi x) ⟨List.length_set .., fun j hj => List.getElem?_set_ne fun e => hj (by rw [e]; exact List.mem_singleton.mpr rfl)⟩
    · exact h.elim
theorem gs_nil : PGs X [] (tFGs g [] gsNil) := pgs_nil.imp fun vs σ H Q h => by
  obtain ⟨I, r, ds, rl, er, x, h⟩ := h
  cases x with
  | nil => exact ⟨rfl, h σ er ⟨rfl, fun _ _ => rfl⟩⟩
  | cons _ _ => exact h.elim
theorem gs_cons {e : Expr} {es : List Expr} {is js : List Nat} {f : FG} {k : FGs} (h1 : PG X e (tFG g is f)) (h2 : PGs X es (tFGs g js k)) (hs : (assignEach (e :: es) X.env).map (·.2) = assign e X.env :: (assignEach es X.env).map (·.2) := by rfl) :
    PGs X (e :: es) (tFGs g (is ++ js) (gsCons f k)) := (pgs_cons h1 h2 hs).imp fun vs σ H Q h => by
  obtain ⟨I, r, ds, rl, er, x, h⟩ := h
  cases x with
  | nil => exact h.elim
  | cons y t =>
    rename_i v vt d dt
    refine ⟨_, _, rfl, I, r, d, rl, er, y, ?_⟩
    have h' : resW ((f d r).bind (k dt)) (fun r' => ∀ σ', ER g I σ' r' → Diff (is ++ js) σ σ' → Q σ' H) fun _ => False := h
    cases e : f d r with
    | bad => rw [e] at h'; exact h'.elim
    | exc c => rw [e] at h'; exact h'.elim
    | ok r1 =>
      rw [e] at h'
      intro σ1 er1 df
      refine ⟨I, r1, dt, rl, er1, t, resW.mono (fun r2 q σ2 er2 df2 => q σ2 er2 ⟨df2.1.trans df.1, fun i hi => ?_⟩) (fun _ z => z) h'⟩
      rw [df2.2 i fun z => hi (List.mem_append_right _ z), df.2 i fun z => hi (List.mem_append_left _ z)]
theorem g_tup {es : List Expr} {kk n : Nat} {pos : Pos} {is : List Nat} {k : FGs} (hc : X.calm = true) (h : PGs X es (tFGs g is k)) (hn : (assignEach es X.env).length = n := by rfl) (hst : (assignEach es X.env).findIdx? (·.1) = none := by rfl) :
    PG X (.Tuple es kk pos) (tFG g is (gT n k)) := (pg_tup hc h hn hst).imp fun v σ H Q h => by
  obtain ⟨I, r, d, rl, er, x, h⟩ := h
  cases x with
  | tup hx ux rx =>
    rename_i a xs ds _
    have h' : resW (if ds.length = n then k ds r else .bad) (fun r' => ∀ σ', ER g I σ' r' → Diff is σ σ' → Q σ' H) fun _ => False := h
    split at h'
    · rename_i c
      exact ⟨a, xs, rfl, ux.sqt (rl.sub _ _ hx), by rw [rx.len, c], I, r, ds, rl, er, rx, h'⟩
    · exact h'.elim
  | par hx rx =>
    rename_i a xs ds
    have h' : resW (if ds.length = n then k ds r else .bad) (fun r' => ∀ σ', ER g I σ' r' → Diff is σ σ' → Q σ' H) fun _ => False := h
    split at h'
    · rename_i c
      exact ⟨a, xs, rfl, SqT.of (rl.sub _ _ hx), by rw [rx.len, c], I, r, ds, rl, er, rx, h'⟩
    · exact h'.elim
  | _ => exact h.elim
end

/-! ### what stands beside the region and changes -/
theorem NT.none_of {H : Hp} {a : Addr} {o : HO} (h : NT H a) (e : H a = some o) (n : ∀ ps, o ≠ .tbl ps) : False := by
  obtain ⟨ps, z⟩ := h o e
  exact n ps z
theorem tabs_set {T : List (Addr × Str)} {H : Hp} {p : Addr} {o u : HO} (t : LamX.Tabs T H) (hp : H p = some o) (n1 : ∀ ps, o ≠ .tbl ps) (n2 : ∀ c q, o ≠ LamX.CodeO c q) : LamX.Tabs T (upd H p u) := fun x hx => by
  obtain ⟨ps, h1, h2, h3⟩ := t x hx
  refine ⟨ps, ?_, h2, fun pos cv hc => ?_⟩
  · rw [upd_ne fun e => n1 ps (by rw [e, hp] at h1; exact Option.some.inj h1)]
    exact h1
  · obtain ⟨c, e1, e2⟩ := h3 pos cv hc
    refine ⟨c, e1, ?_⟩
    rw [upd_ne fun e => n2 c x.2 (by
      have e3 := e2
      rw [e, hp] at e3
      rw [Option.some.inj e3, e])]
    exact e2
/-- what may change: a list, a dict -/
def Chg : HO → Bool
  | .lst _ => true
  | .dK _ => true
  | .dT _ => true
  | _ => false
theorem chg_tbl {o : HO} (h : Chg o = true) : ∀ ps, o ≠ .tbl ps := fun ps e => by rw [e] at h; cases h
theorem chg_code {o : HO} (h : Chg o = true) : ∀ c q, o ≠ LamX.CodeO c q := fun c q e => by rw [e] at h; cases h
section
variable {g : Gd} {I0 H0 I H I' H' : Hp} {p : Addr} {o u : HO}
/-- beside the region an object changes that was not there ahead -/
theorem Stp.chg (s : Stp g I0 H0 I H) (n : NT H0 p) (nz : p ≠ g.dz) (hI : I p = none) (hp : H p = some o) (c : Chg o = true) : Stp g I0 H0 I (upd H p u) :=
  ⟨s.mono, s.new, fun a v h1 h2 h3 => by
    rw [upd_ne fun e => n.none_of (by rw [← e]; exact h3) h2]
    exact s.keep a v h1 h2 h3, ⟨fun a v h => by
      rw [upd_ne fun e => by rw [e, hI] at h; cases h]
      exact s.rl.sub a v h, s.rl.dz, by
      obtain ⟨x, y, q⟩ := s.rl.dice
      exact ⟨x, y, by rw [upd_ne (Ne.symm nz)]; exact q⟩, tabs_set s.rl.tab hp (chg_tbl c) (chg_code c), s.rl.nt⟩⟩
/-- what stands beside the region is taken in -/
theorem Stp.take (s : Stp g I0 H0 I H) (n : NT H0 p) (nz : p ≠ g.dz) (hI : I p = none) (hp : H p = some o) (ho : ∀ ps, o ≠ .tbl ps := by intro _ h; cases h) : Stp g I0 H0 (upd I p o) H :=
  ⟨fun a v h => by
    have q := s.mono a v h
    rw [upd_ne fun e => by rw [e, hI] at q; cases q]
    exact q, fun a v h => by
    by_cases e : a = p
    · subst e; exact .inr (.inl n)
    · rw [upd_ne e] at h; exact s.new a v h, s.keep, s.rl.take hp hI nz ho⟩
theorem Stp.beside (s : Stp g I H I' H') (hI : I p = none) (nz : p ≠ g.dz) (hp : H p = some o) (c : Chg o = true) : I' p = none ∧ H' p = some o := by
  refine ⟨?_, s.keep p o nz (chg_tbl c) hp⟩
  cases e : I' p with
  | none => rfl
  | some w =>
    rcases s.new p w e with z | z | ⟨z, xs, q⟩
    · rw [hI] at z; cases z
    · exact (z.none_of hp (chg_tbl c)).elim
    · rw [hp] at z; cases z; rw [q] at c; cases c
theorem Rl.nz (r : Rl g I H) (h : H p = none) : p ≠ g.dz := fun e => by
  obtain ⟨x, y, q⟩ := r.dice
  rw [e, q] at h; cases h
theorem Rl.out (r : Rl g I H) (h : H p = none) : I p = none := by
  cases e : I p with
  | none => rfl
  | some w => rw [r.sub p w e] at h; cases h
end

/-! ### comprehensions -/
theorem wipe_get {σ : L2.St} : ∀ {vs : List Nat} {i : Nat}, i ∉ vs → (wipe σ vs)[i]? = σ[i]?
  | [], _, _ => rfl
  | v :: vs, i, h => by
    unfold wipe
    rw [List.getElem?_set_ne fun e => h (by rw [e]; exact List.mem_cons_self), wipe_get fun z => h (List.mem_cons_of_mem _ z)]
theorem wipe_in {σ : L2.St} : ∀ {vs : List Nat} {i : Nat}, i ∈ vs → i < σ.length → (wipe σ vs)[i]? = some none
  | [], _, h, _ => by cases h
  | v :: vs, i, h, l => by
    unfold wipe
    by_cases e : v = i
    · subst e
      rw [List.getElem?_set_self (by rw [wipe_length]; exact l)]
    · rw [List.getElem?_set_ne e]
      rcases List.mem_cons.mp h with z | z
      · exact absurd z.symm e
      · exact wipe_in z l
theorem wipe_eq {σ σ' : L2.St} {vs : List Nat} (hl : σ'.length = σ.length) (h : ∀ i, i ∉ vs → σ'[i]? = σ[i]?) : wipe σ' vs = wipe σ vs := by
  apply List.ext_getElem?
  intro i
  by_cases hi : i ∈ vs
  · by_cases l : i < σ.length
    · rw [wipe_in hi l, wipe_in hi (by rw [hl]; exact l)]
    · rw [List.getElem?_eq_none (by rw [wipe_length, hl]; omega), List.getElem?_eq_none (by rw [wipe_length]; omega)]
  · rw [wipe_get hi, wipe_get hi, h i hi]
def wipeE (r : Env) : List Nat → Env
  | [] => r
  | v :: vs => (wipeE r vs).set v none
theorem wipeE_len (r : Env) : ∀ vs : List Nat, (wipeE r vs).length = r.length
  | [] => rfl
  | v :: vs => by unfold wipeE; rw [List.length_set, wipeE_len r vs]
theorem wipeE_some {r : Env} {i : Nat} {d : D} : ∀ {vs : List Nat}, (wipeE r vs)[i]? = some (some d) → r[i]? = some (some d) ∧ i ∉ vs
  | [], h => ⟨h, by simp⟩
  | v :: vs, h => by
    unfold wipeE at h
    by_cases e : v = i
    · subst e
      by_cases l : v < (wipeE r vs).length
      · rw [List.getElem?_set_self l] at h; cases h
      · rw [List.getElem?_eq_none (by rw [List.length_set]; omega)] at h; cases h
    · rw [List.getElem?_set_ne e] at h
      obtain ⟨h1, h2⟩ := wipeE_some h
      exact ⟨h1, fun z => (List.mem_cons.mp z).elim (fun q => e q.symm) h2⟩
theorem ER.wipe {g : Gd} {I : Hp} {σ : L2.St} {r : Env} (e : ER g I σ r) (vs : List Nat) : ER g I (L2.wipe σ vs) (wipeE r vs) := by
  refine ⟨by rw [wipe_length, wipeE_len]; exact e.len, fun i d h => ?_⟩
  obtain ⟨h1, h2⟩ := wipeE_some h
  obtain ⟨v, q1, q2⟩ := e.get i d h1
  exact ⟨v, by rw [wipe_get h2]; exact q1, q2⟩
/-- the turns of a comprehension: r the names ahead of each -/
def lcW (fg : FG) (ft : FT) (we : WE) (r : Env) : List D → (List D → Prop) → Prop
  | [], Q => Q []
  | d :: ds, Q => resW (fg d r) (fun r1 => resW (ft r1) (fun b => if b = true then we.run r1 (fun y => lcW fg ft we r ds fun ys => Q (y :: ys)) (fun _ => False) else lcW fg ft we r ds Q) fun _ => False) fun _ => False
theorem lcW.mono {fg : FG} {ft : FT} {we : WE} {r : Env} : ∀ {ds : List D} {Q Q' : List D → Prop}, (∀ ys, Q ys → Q' ys) → lcW fg ft we r ds Q → lcW fg ft we r ds Q'
  | [], _, _, h, q => h _ q
  | d :: ds, _, _, h, q => resW.mono (fun r1 q => resW.mono (fun b q => by
      cases b with
      | true => exact we.mono (fun y q => lcW.mono (fun ys z => h _ z) q) (fun _ z => z) q
      | false => exact lcW.mono h q) (fun _ z => z) q) (fun _ z => z) q
def wLc (wi : WI) (fg : FG) (ft : FT) (we : WE) (vs : List Nat) : WE :=
  ⟨fun r Q Z => wi.run r (fun ds => ds.length ≤ 100000 ∧ lcW fg ft we (wipeE r vs) ds fun ys => Q (.lst ys)) Z,
   fun h1 h2 h => wi.mono (fun _ q => ⟨q.1, lcW.mono (fun _ z => h1 _ z) q.2⟩) h2 h⟩
/-- no name of the block ahead: what is wished of a new list -/
def endO (g : Gd) (I H : Hp) (Q : VK) : D → Prop := fun d => ∀ p I' H', Stp g I H I' H' → NT H p → p ≠ g.dz → I' p = none → (∀ ds, d = .lst ds → ∃ vs, H' p = some (.lst vs) ∧ DRs g I' vs ds) → Q (.ref p) H'
/-- a reading that gives a new list, beside the region -/
def tO (g : Gd) (mg : Str → Option Value) (E : XK) (w : WE) : TE := fun σ H Q => ∃ I r, Rl g I H ∧ ER g I σ r ∧ w.run r (fun d => (∃ ds, d = .lst ds) ∧ endO g I H Q d) (excW g mg E I H)
theorem endO_of {g : Gd} {I H : Hp} {Q : VK} {ds : List D} (h : endW g (DR g) I H Q (.lst ds)) : endO g I H Q (.lst ds) := fun p I' H' s hp hz hI hd => by
  obtain ⟨vs, h1, h2⟩ := hd ds rfl
  have t := s.take hp hz hI h1
  exact h _ _ _ t (.lst upd_same (h2.mono fun a o q => by rw [upd_ne fun e => by rw [e, hI] at q; cases q]; exact q))
section
variable {X : Cx} {g : Gd} {E : XK}
abbrev ForBlk (X : Cx) (scope : Scope) (J : Cx → Prop) : Prop := ∀ (s : Shared) (H : Hp) (C : Addr) (cl : List (Str × Addr)) (fp : List Addr), J (X.blk s H scope (compEnvC scope cl C X.env) fp)
/-- the reading of a comprehension over data, as the layer's -/
theorem lc_of {wi : WI} {fg : FG} {ft : FT} {we : WE} {vs is : List Nat} (his : ∀ i ∈ is, i ∈ vs) {σ : L2.St} {H : Hp} {Q : VK} (h : tO g X.mg E (wLc wi fg ft we vs) σ H Q) :
    tLc (tWI g X.mg E wi) (tFG g is fg) (tFT g X.mg E0 ft) (tW g X.mg E0 we) vs σ H Q := by
  obtain ⟨I, r, rl, er, h⟩ := h
  refine ⟨I, r, rl, er, wi.mono (fun ds q => ?_) (fun _ z => z) h⟩
  obtain ⟨hlen, q⟩ := q
  intro J I1 H1 s1 src q0 hD
  have dz : q0 ≠ g.dz := s1.rl.nz hD
  have base : Stp g I1 H1 I1 (upd H1 q0 (.lst [])) := s1.rl.lay hD
  refine ⟨fun i m H' => ∃ (I' : Hp) (acc : List V) (outs : List FW.D), m = ds.length - i ∧ i ≤ ds.length ∧ Stp g I1 H1 I' H' ∧ I' q0 = none ∧ H' q0 = some (.lst acc) ∧ DRs g I' acc outs ∧ outs.length ≤ i ∧
      lcW fg ft we (wipeE r vs) (ds.drop i) fun ys => (∃ zs, FW.D.lst (outs ++ ys) = .lst zs) ∧ endO g I H Q (.lst (outs ++ ys)),
    ⟨ds.length, I1, [], [], rfl, Nat.zero_le _, base, s1.rl.out hD, upd_same, .nil, Nat.le_refl _, by rw [List.drop_zero]; exact q⟩, ?_⟩
  rintro i m H' ⟨I', acc, outs, rfl, hi, s, hI, hDl, ra, lo, hq⟩
  by_cases hlt : i < ds.length
  · have hd : ds[i]? = some ds[i] := List.getElem?_eq_getElem hlt
    rw [List.drop_eq_getElem_cons hlt] at hq
    refine .inr ⟨src.go i I' H' s.rl s.mono hlt, fun H'' => ∃ (I' : Hp) (acc : List V) (outs : List FW.D), Stp g I1 H1 I' H'' ∧ I' q0 = none ∧ H'' q0 = some (.lst acc) ∧ DRs g I' acc outs ∧ outs.length ≤ i + 1 ∧
        lcW fg ft we (wipeE r vs) (ds.drop (i + 1)) fun ys => (∃ zs, FW.D.lst (outs ++ ys) = .lst zs) ∧ endO g I H Q (.lst (outs ++ ys)), fun H'' hN => ?_, fun x H2 y => ?_⟩
    · obtain ⟨I2, acc2, outs2, s2, hI2, hD2, ra2, lo2, hq2⟩ := hN
      exact ⟨ds.length - (i + 1), by omega, I2, acc2, outs2, rfl, hlt, s2, hI2, hD2, ra2, lo2, hq2⟩
    · obtain ⟨I2, s2, xd⟩ := src.yld i ds[i] I' H' x H2 s.rl s.mono hd y
      obtain ⟨hI2, hD2⟩ := s2.beside hI dz hDl rfl
      refine ⟨I2, wipeE r vs, ds[i], s2.rl, (er.mono ((s1.mono.trans s.mono).trans s2.mono)).wipe vs, xd, resW.mono (fun r1 q1 σ2 er2 df => ?_) (fun _ z => z) hq⟩
      refine ⟨?_, I2, r1, s2.rl, er2, Pst.iff.mpr (resW.mono (fun b q2 v I3 H3 s3 e => ?_) (fun _ z => z.elim) q1)⟩
      · rw [wipe_eq (σ := L2.wipe σ vs) df.1 fun j hj => df.2 j fun z => hj (his j z)]
        exact wipe_eq (wipe_length σ vs) fun j hj => wipe_get hj
      · subst e
        obtain ⟨hI3, hD3⟩ := s3.beside hI2 dz hD2 rfl
        have s03 := s.trans (s2.trans s3)
        cases v with
        | true =>
          refine ⟨I3, r1, s3.rl, er2.mono s3.mono, we.mono (fun y' q3 v4 I4 H4 s4 x4 => ?_) (fun _ z => z.elim) q2⟩
          obtain ⟨hI4, hD4⟩ := s4.beside hI3 dz hD3 rfl
          have s04 := s03.trans s4
          refine ⟨acc, hD4, ?_, I4, acc ++ [v4], outs ++ [y'], s04.chg (NT.of hD) dz hI4 hD4 rfl, hI4, upd_same, (ra.mono (s2.trans (s3.trans s4)).mono).app (.cons x4 .nil), ?_, ?_⟩
          · rw [ra.len]
            exact Nat.lt_of_le_of_lt (Nat.le_trans lo (Nat.le_of_lt (Nat.lt_of_lt_of_le hlt hlen))) (by decide)
          · rw [List.length_append]
            exact Nat.succ_le_succ lo
          · refine lcW.mono (fun ys z => ?_) q3
            rw [List.append_assoc]
            exact z
        | false => exact ⟨I3, acc, outs, s03, hI3, hD3, ra.mono (s2.trans s3).mono, Nat.le_succ_of_le lo, q2⟩
  · have ei : i = ds.length := by omega
    subst ei
    rw [List.drop_length] at hq
    refine .inl ⟨src.stop _ I' H' s.rl s.mono rfl, ?_⟩
    have hq' : endO g I H Q (.lst (outs ++ [])) := hq.2
    rw [List.append_nil] at hq'
    exact hq' q0 I' H' (s1.trans s) (s1.back (NT.of hD)) dz hI fun zs z => by
      cases z
      exact ⟨acc, hDl, ra⟩
/-- only lists come -/
def Lists (w : WE) : Prop := ∀ r Q Z, w.run r Q Z → w.run r (fun d => (∃ ds, d = D.lst ds) ∧ Q d) Z
theorem lists_lc {wi : WI} {fg : FG} {ft : FT} {we : WE} {vs : List Nat} : Lists (wLc wi fg ft we vs) := fun r Q Z h => wi.mono (fun ds q => ⟨q.1, lcW.mono (fun ys z => ⟨⟨ys, rfl⟩, z⟩) q.2⟩) (fun _ z => z) h
theorem tO_of {w : WE} (hl : Lists w) {σ : L2.St} {H : Hp} {Q : VK} (h : tW g X.mg E w σ H Q) : tO g X.mg E w σ H Q := by
  obtain ⟨I, r, rl, er, h⟩ := h
  refine ⟨I, r, rl, er, w.mono (fun d q => ⟨q.1, ?_⟩) (fun _ z => z) (hl r _ _ h)⟩
  obtain ⟨⟨ds, rfl⟩, q⟩ := q
  exact endO_of q
/-- a new list frozen at once -/
theorem w_ofO {e : Expr} {w : WE} (hl : Lists w) (h : PE X e (tO g X.mg E w)) : PE X e (tW g X.mg E w) := h.imp fun _ _ _ q => tO_of hl q
variable {elt tg iter : Expr} {ifs : List Expr} {scope : Scope} {own : List (Str × Nat)} {pos : Pos} {fi : FI} {wi : WI} {fg : FG} {ft : FT} {we : WE} {fe : FE} {is : List Nat}
theorem o_lc (hc : X.calm = true) (hN : X.N.Nodup) (hi : PI X tg iter (tWI g X.mg E wi)) (ok : BlkOk X.N X.env.scope scope own) (his : ∀ i ∈ is, i ∈ own.map (·.2)) (hg : ForBlk X scope fun B => PG B tg (tFG g is fg)) (ht : ForBlk X scope fun B => PTs B ifs (tFT g B.mg E0 ft))
    (he : ForBlk X scope fun B => PE B elt (tW g B.mg E0 we)) (hs : ∀ x, foldedSetIterable iter X.env x = pure x := by intro _; rfl) : PE X (.ListComp elt [⟨tg, iter, ifs, 0⟩] scope pos) (tO g X.mg E (wLc wi fg ft we (own.map (·.2)))) :=
  (pe_lc hc hN hi ok hg ht he hs).imp fun _ _ _ q => lc_of his q
theorem _root_.L2.PTs.imp {X : Cx} {e : List Expr} {t u : TT} (h : PTs X e t) (k : ∀ σ H Q, u σ H Q → t σ H Q) : PTs X e u := ⟨fun pins s σ H Q I q => h.run pins s σ H Q I (k σ H Q q)⟩
def fYes : FT := fun _ => .ok true
theorem ts_nil : PTs X [] (tFT g X.mg E fYes) := pts_nil.imp fun σ H Q h => by
  obtain ⟨I, r, rl, er, h⟩ := h
  exact h.here rl rfl
theorem ts_one {c : Expr} (h : PT X c (tFT g X.mg E ft)) : PTs X [c] (tFT g X.mg E ft) := pts_one h
/-- the same by functions -/
def Res.calm {α : Type} : Res α → Res α
  | .ok a => .ok a
  | _ => .bad
def lcF (fg : FG) (ft : FT) (fe : FE) (r : Env) : List D → Res (List D)
  | [] => .ok []
  | d :: ds => (fg d r).calm.bind fun r1 => (ft r1).calm.bind fun b => if b = true then (fe r1).calm.bind fun y => (lcF fg ft fe r ds).bind fun ys => .ok (y :: ys) else lcF fg ft fe r ds
def fLc (fi : FI) (fg : FG) (ft : FT) (fe : FE) (vs : List Nat) : FE := fun r => (fi r).bind fun ds => if ds.length ≤ 100000 then (lcF fg ft fe (wipeE r vs) ds).bind fun ys => .ok (.lst ys) else .bad
theorem calm_ok {α : Type} {x : Res α} {a : α} (h : x.calm = .ok a) : x = .ok a := by
  cases x with
  | ok b => exact h
  | exc c => cases h
  | bad => cases h
theorem bind_ok {α β : Type} {x : Res α} {k : α → Res β} {b : β} (h : x.bind k = .ok b) : ∃ a, x = .ok a ∧ k a = .ok b := by
  cases x with
  | ok a => exact ⟨a, rfl, h⟩
  | exc c => cases h
  | bad => cases h
theorem lcF_W {r : Env} : ∀ {ds ys : List D} {Q : List D → Prop}, lcF fg ft fe r ds = .ok ys → Q ys → lcW fg ft (wOf fe) r ds Q
  | [], _, _, h, q => by cases h; exact q
  | d :: ds, ys, Q, h, q => by
    unfold lcF at h
    obtain ⟨r1, e1, h⟩ := bind_ok h
    obtain ⟨b, e2, h⟩ := bind_ok h
    unfold lcW
    rw [calm_ok e1]
    show resW (ft r1) _ _
    rw [calm_ok e2]
    show if b = true then _ else _
    cases b with
    | true =>
      obtain ⟨y, e3, h⟩ := bind_ok h
      obtain ⟨zs, e4, h⟩ := bind_ok h
      cases h
      show resW (fe r1) _ _
      rw [calm_ok e3]
      exact lcF_W e4 q
    | false => exact lcF_W h q
theorem lcF_ne {r : Env} : ∀ {ds : List D} {c : Str}, lcF fg ft fe r ds ≠ .exc c
  | [], _, h => by cases h
  | d :: ds, c, h => by
    unfold lcF at h
    cases e1 : (fg d r).calm with
    | bad => rw [e1] at h; cases h
    | exc c' => cases q : fg d r <;> rw [q] at e1 <;> cases e1
    | ok r1 =>
      rw [e1] at h
      have h : ((ft r1).calm.bind fun b => if b = true then (fe r1).calm.bind fun y => (lcF fg ft fe r ds).bind fun ys => .ok (y :: ys) else lcF fg ft fe r ds) = .exc c := h
      cases e2 : (ft r1).calm with
      | bad => rw [e2] at h; cases h
      | exc c' => cases q : ft r1 <;> rw [q] at e2 <;> cases e2
      | ok b =>
        rw [e2] at h
        cases b with
        | false => exact lcF_ne h
        | true =>
          have h : ((fe r1).calm.bind fun y => (lcF fg ft fe r ds).bind fun ys => .ok (y :: ys)) = .exc c := h
          cases e3 : (fe r1).calm with
          | bad => rw [e3] at h; cases h
          | exc c' => cases q : fe r1 <;> rw [q] at e3 <;> cases e3
          | ok y =>
            rw [e3] at h
            have h : ((lcF fg ft fe r ds).bind fun ys => .ok (y :: ys)) = .exc c := h
            cases e4 : lcF fg ft fe r ds with
            | bad => rw [e4] at h; cases h
            | exc c' => exact lcF_ne e4
            | ok zs => rw [e4] at h; cases h
theorem fLc_W {vs : List Nat} {r : Env} {Q : D → Prop} {Z : Str → Prop} (h : resW (fLc fi fg ft fe vs r) Q Z) : (wLc (wiOf fi) fg ft (wOf fe) vs).run r Q Z := by
  unfold fLc at h
  show resW (fi r) _ _
  cases e : fi r with
  | bad => rw [e] at h; exact h
  | exc c => rw [e] at h; exact h
  | ok ds =>
    rw [e] at h
    have h : resW (if ds.length ≤ 100000 then (lcF fg ft fe (wipeE r vs) ds).bind fun ys => .ok (.lst ys) else .bad) Q Z := h
    split at h
    · rename_i c
      cases e2 : lcF fg ft fe (wipeE r vs) ds with
      | bad => rw [e2] at h; exact h.elim
      | exc c' => exact (lcF_ne e2).elim
      | ok ys =>
        rw [e2] at h
        exact ⟨c, lcF_W e2 h⟩
    · exact h.elim
theorem w_lc (hc : X.calm = true) (hN : X.N.Nodup) (hi : PI X tg iter (tWI g X.mg E wi)) (ok : BlkOk X.N X.env.scope scope own) (his : ∀ i ∈ is, i ∈ own.map (·.2)) (hg : ForBlk X scope fun B => PG B tg (tFG g is fg)) (ht : ForBlk X scope fun B => PTs B ifs (tFT g B.mg E0 ft))
    (he : ForBlk X scope fun B => PE B elt (tW g B.mg E0 we)) (hs : ∀ x, foldedSetIterable iter X.env x = pure x := by intro _; rfl) : PE X (.ListComp elt [⟨tg, iter, ifs, 0⟩] scope pos) (tW g X.mg E (wLc wi fg ft we (own.map (·.2)))) :=
  w_ofO lists_lc (o_lc hc hN hi ok his hg ht he hs)
theorem e_lc (hc : X.calm = true) (hN : X.N.Nodup) (hi : PI X tg iter (tFI g X.mg E fi)) (ok : BlkOk X.N X.env.scope scope own) (his : ∀ i ∈ is, i ∈ own.map (·.2)) (hg : ForBlk X scope fun B => PG B tg (tFG g is fg)) (ht : ForBlk X scope fun B => PTs B ifs (tFT g B.mg E0 ft))
    (he : ForBlk X scope fun B => PE B elt (tF g B.mg E0 fe)) (hs : ∀ x, foldedSetIterable iter X.env x = pure x := by intro _; rfl) : PE X (.ListComp elt [⟨tg, iter, ifs, 0⟩] scope pos) (tF g X.mg E (fLc fi fg ft fe (own.map (·.2)))) :=
  (w_lc hc hN (i_of hi) ok his hg ht (fun s H C cl fp => w_of (he s H C cl fp)) hs).imp fun σ H Q q => by
    obtain ⟨I, r, rl, er, q⟩ := q
    exact ⟨I, r, rl, er, fLc_W (Pst.iff.mp q)⟩
end
end FW
/-! Statements: slots that hold data, slots that own a list or dict that changes. -/
namespace FW
open PySem PySem.Spec PyProof.Rows L2

inductive Sl where
  | un | val (d : D) | own (d : D)
abbrev Env2 := List Sl
def Sl.plain : Sl → Option D
  | .val d => some d
  | _ => none
def Sl.any : Sl → Option D
  | .val d => some d
  | .own d => some d
  | .un => none
def plain (r : Env2) : Env := r.map Sl.plain
def allv (r : Env2) : Env := r.map Sl.any
def OwnR (g : Gd) (I : Hp) (o : HO) (d : D) : Prop := match o, d with
  | .lst vs, .lst ds => DRs g I vs ds
  | .dK es, .dct kvs => DRk g I es kvs
  | .dT es, .dtt kvs => DRt g I es kvs
  | _, _ => False
theorem OwnR.mono {g : Gd} {I J : Hp} {o : HO} {d : D} (s : Sub I J) (h : OwnR g I o d) : OwnR g J o d := by
  unfold OwnR at h ⊢
  split at h
  · exact DRs.mono s h
  · exact DRk.mono s h
  · exact DRt.mono s h
  · exact h.elim
theorem OwnR.chg {g : Gd} {I : Hp} {o : HO} {d : D} (h : OwnR g I o d) : Chg o = true := by
  unfold OwnR at h
  split at h
  · rfl
  · rfl
  · rfl
  · exact h.elim
theorem OwnR.dr {g : Gd} {I : Hp} {o : HO} {d : D} {p : Addr} (h : OwnR g I o d) (e : I p = some o) : DR g I (.ref p) d := by
  unfold OwnR at h
  split at h
  · exact .lst e h
  · exact .dK (.inl e) h
  · exact .dT (.inl e) h
  · exact h.elim
/-- the state of a def's body: I the region now; (I0, H0) where it began -/
structure SRI (g : Gd) (I0 H0 I : Hp) (r : Env2) (σ : L2.St) (H : Hp) : Prop where
  stp : Stp g I0 H0 I H
  len : σ.length = r.length
  val : ∀ (i : Nat) (d : D), r[i]? = some (Sl.val d) → ∃ v, σ[i]? = some (some v) ∧ DR g I v d
  own : ∀ (i : Nat) (d : D), r[i]? = some (Sl.own d) → ∃ p o, σ[i]? = some (some (.ref p)) ∧ NT H0 p ∧ p ≠ g.dz ∧ I p = none ∧ H p = some o ∧ OwnR g I o d
  inj : ∀ (i j : Nat) (d e : D) (p : Addr), r[i]? = some (Sl.own d) → r[j]? = some (Sl.own e) → σ[i]? = some (some (.ref p)) → σ[j]? = some (some (.ref p)) → i = j
def SR (g : Gd) (I0 H0 : Hp) (r : Env2) (σ : L2.St) (H : Hp) : Prop := ∃ I, SRI g I0 H0 I r σ H
theorem plain_get {r : Env2} {i : Nat} {d : D} (h : (plain r)[i]? = some (some d)) : r[i]? = some (Sl.val d) := by
  unfold plain at h
  rw [List.getElem?_map] at h
  cases e : r[i]? with
  | none => rw [e] at h; cases h
  | some s =>
    rw [e] at h
    cases s <;> first | (cases h; done) | (have := Option.some.inj (Option.some.inj h); rw [this])
theorem allv_get {r : Env2} {i : Nat} {d : D} (h : (allv r)[i]? = some (some d)) : r[i]? = some (Sl.val d) ∨ r[i]? = some (Sl.own d) := by
  unfold allv at h
  rw [List.getElem?_map] at h
  cases e : r[i]? with
  | none => rw [e] at h; cases h
  | some s =>
    rw [e] at h
    cases s with
    | un => cases h
    | val c => have q : c = d := Option.some.inj (Option.some.inj h); exact .inl (by rw [q])
    | own c => have q : c = d := Option.some.inj (Option.some.inj h); exact .inr (by rw [q])
section
variable {g : Gd} {I0 H0 I H I' H' : Hp} {r : Env2} {σ : L2.St}
theorem SRI.er (x : SRI g I0 H0 I r σ H) : ER g I σ (plain r) := ⟨by rw [x.len, plain, List.length_map], fun i d h => x.val i d (plain_get h)⟩
theorem SRI.go (x : SRI g I0 H0 I r σ H) (s : Stp g I H I' H') : SRI g I0 H0 I' r σ H' := by
  refine ⟨x.stp.trans s, x.len, fun i d h => ?_, fun i d h => ?_, x.inj⟩
  · obtain ⟨v, h1, h2⟩ := x.val i d h
    exact ⟨v, h1, h2.mono s.mono⟩
  · obtain ⟨p, o, h1, h2, h3, h4, h5, h6⟩ := x.own i d h
    obtain ⟨h7, h8⟩ := s.beside h4 h3 h5 h6.chg
    exact ⟨p, o, h1, h2, h3, h7, h8, h6.mono s.mono⟩
theorem SRI.setV (x : SRI g I0 H0 I r σ H) {i : Nat} {v : V} {d : D} (hi : i < r.length) (h : DR g I v d) : SRI g I0 H0 I (r.set i (Sl.val d)) (σ.set i (some v)) H := by
  have ne : ∀ {j : Nat} {e : D}, (r.set i (Sl.val d))[j]? = some (Sl.own e) → j ≠ i ∧ r[j]? = some (Sl.own e) := fun {j e} h => by
    by_cases hj : j = i
    · subst hj
      rw [List.getElem?_set_self hi] at h; cases h
    · rw [List.getElem?_set_ne (Ne.symm hj)] at h; exact ⟨hj, h⟩
  refine ⟨x.stp, by rw [List.length_set, List.length_set]; exact x.len, fun j c hc => ?_, fun j c hc => ?_, fun j k c e p h1 h2 h3 h4 => ?_⟩
  · by_cases hj : j = i
    · subst hj
      rw [List.getElem?_set_self hi] at hc
      cases hc
      exact ⟨v, List.getElem?_set_self (by rw [x.len]; exact hi), h⟩
    · rw [List.getElem?_set_ne (Ne.symm hj)] at hc
      obtain ⟨u, q1, q2⟩ := x.val j c hc
      exact ⟨u, by rw [List.getElem?_set_ne (Ne.symm hj)]; exact q1, q2⟩
  · obtain ⟨hj, hc⟩ := ne hc
    obtain ⟨p, o, q1, q⟩ := x.own j c hc
    exact ⟨p, o, by rw [List.getElem?_set_ne (Ne.symm hj)]; exact q1, q⟩
  · obtain ⟨hj, q1⟩ := ne h1
    obtain ⟨hk, q2⟩ := ne h2
    rw [List.getElem?_set_ne (Ne.symm hj)] at h3
    rw [List.getElem?_set_ne (Ne.symm hk)] at h4
    exact x.inj j k c e p q1 q2 h3 h4
/-- a new thing of one's own -/
theorem SRI.setO (x : SRI g I0 H0 I r σ H) {i : Nat} {p : Addr} {o : HO} {d : D} (hi : i < r.length) (n : NT H0 p) (nz : p ≠ g.dz) (hI : I p = none) (hp : H p = some o) (h : OwnR g I o d) (fr : ∀ (j : Nat) (e : D), r[j]? = some (Sl.own e) → σ[j]? ≠ some (some (.ref p))) :
    SRI g I0 H0 I (r.set i (Sl.own d)) (σ.set i (some (.ref p))) H := by
  refine ⟨x.stp, by rw [List.length_set, List.length_set]; exact x.len, fun j c hc => ?_, fun j c hc => ?_, fun j k c e q h1 h2 h3 h4 => ?_⟩
  · by_cases hj : j = i
    · subst hj
      rw [List.getElem?_set_self hi] at hc; cases hc
    · rw [List.getElem?_set_ne (Ne.symm hj)] at hc
      obtain ⟨u, q1, q2⟩ := x.val j c hc
      exact ⟨u, by rw [List.getElem?_set_ne (Ne.symm hj)]; exact q1, q2⟩
  · by_cases hj : j = i
    · subst hj
      rw [List.getElem?_set_self hi] at hc
      cases hc
      exact ⟨p, o, List.getElem?_set_self (by rw [x.len]; exact hi), n, nz, hI, hp, h⟩
    · rw [List.getElem?_set_ne (Ne.symm hj)] at hc
      obtain ⟨q, u, q1, q2⟩ := x.own j c hc
      exact ⟨q, u, by rw [List.getElem?_set_ne (Ne.symm hj)]; exact q1, q2⟩
  · by_cases hj : j = i
    · subst hj
      rw [List.getElem?_set_self (by rw [x.len]; exact hi)] at h3
      by_cases hk : k = j
      · exact hk.symm
      · rw [List.getElem?_set_ne (Ne.symm hk)] at h2 h4
        cases h3
        exact absurd h4 (fr k e h2)
    · rw [List.getElem?_set_ne (Ne.symm hj)] at h1 h3
      by_cases hk : k = i
      · subst hk
        rw [List.getElem?_set_self (by rw [x.len]; exact hi)] at h4
        cases h4
        exact absurd h3 (fr j c h1)
      · rw [List.getElem?_set_ne (Ne.symm hk)] at h2 h4
        exact x.inj j k c e q h1 h2 h3 h4
/-- what is one's own changes -/
theorem SRI.put (x : SRI g I0 H0 I r σ H) {i : Nat} {p : Addr} {d d' : D} {o : HO} (hr : r[i]? = some (Sl.own d)) (hs : σ[i]? = some (some (.ref p))) (h : OwnR g I o d') : SRI g I0 H0 I (r.set i (Sl.own d')) σ (upd H p o) := by
  obtain ⟨p', o', q1, q2, q3, q4, q5, q6⟩ := x.own i d hr
  have ep : p' = p := by rw [hs] at q1; cases q1; rfl
  subst ep
  have hi : i < r.length := (List.getElem?_eq_some_iff.mp hr).1
  refine ⟨x.stp.chg q2 q3 q4 q5 q6.chg, by rw [List.length_set]; exact x.len, fun j c hc => ?_, fun j c hc => ?_, fun j k c e q h1 h2 h3 h4 => ?_⟩
  · by_cases hj : j = i
    · subst hj
      rw [List.getElem?_set_self hi] at hc; cases hc
    · rw [List.getElem?_set_ne (Ne.symm hj)] at hc
      exact x.val j c hc
  · by_cases hj : j = i
    · subst hj
      rw [List.getElem?_set_self hi] at hc
      cases hc
      exact ⟨p', o, hs, q2, q3, q4, upd_same, h⟩
    · rw [List.getElem?_set_ne (Ne.symm hj)] at hc
      obtain ⟨q, u, z1, z2, z3, z4, z5, z6⟩ := x.own j c hc
      refine ⟨q, u, z1, z2, z3, z4, ?_, z6⟩
      rw [upd_ne fun e => hj (x.inj j i c d p' hc hr (by rw [← e]; exact z1) hs)]
      exact z5
  · have back : ∀ {m : Nat} {f : D}, (r.set i (Sl.own d'))[m]? = some (Sl.own f) → ∃ f', r[m]? = some (Sl.own f') := fun {m f} h => by
      by_cases hm : m = i
      · subst hm; exact ⟨d, hr⟩
      · rw [List.getElem?_set_ne (Ne.symm hm)] at h; exact ⟨f, h⟩
    obtain ⟨c', h1⟩ := back h1
    obtain ⟨e', h2⟩ := back h2
    exact x.inj j k c' e' q h1 h2 h3 h4
open Classical in
/-- the region with what is one's own -/
noncomputable def plusI (I H : Hp) (r : Env2) (σ : L2.St) : Hp := fun a => if ∃ (i : Nat) (d : D), r[i]? = some (Sl.own d) ∧ σ[i]? = some (some (V.ref a)) then H a else I a
theorem SRI.plus (x : SRI g I0 H0 I r σ H) : Sub I (plusI I H r σ) ∧ Stp g I0 H0 (plusI I H r σ) H ∧ ER g (plusI I H r σ) σ (allv r) := by
  have ow : ∀ a, (∃ (i : Nat) (d : D), r[i]? = some (Sl.own d) ∧ σ[i]? = some (some (V.ref a))) → NT H0 a ∧ a ≠ g.dz ∧ I a = none := fun a ⟨i, d, h1, h2⟩ => by
    obtain ⟨p, o, q1, q2, q3, q4, _⟩ := x.own i d h1
    rw [h2] at q1; cases q1
    exact ⟨q2, q3, q4⟩
  have sub : Sub I (plusI I H r σ) := fun a o h => by
    unfold plusI
    rw [if_neg fun z => by rw [(ow a z).2.2] at h; cases h]
    exact h
  refine ⟨sub, ⟨x.stp.mono.trans sub, fun a o h => ?_, x.stp.keep, ⟨fun a o h => ?_, ?_, x.stp.rl.dice, x.stp.rl.tab, fun a ps h => ?_⟩⟩, by rw [x.len, allv, List.length_map], fun i d h => ?_⟩
  · unfold plusI at h
    split at h
    · rename_i z; exact .inr (.inl (ow a z).1)
    · exact x.stp.new a o h
  · unfold plusI at h
    split at h
    · exact h
    · exact x.stp.rl.sub a o h
  · unfold plusI
    rw [if_neg fun z => (ow _ z).2.1 rfl]
    exact x.stp.rl.dz
  · unfold plusI at h
    split at h
    · rename_i z
      obtain ⟨i, d, h1, h2⟩ := z
      obtain ⟨p, o, q1, q2, q3, q4, q5, q6⟩ := x.own i d h1
      rw [h2] at q1; cases q1
      rw [q5] at h
      exact chg_tbl q6.chg ps (Option.some.inj h)
    · exact x.stp.rl.nt a ps h
  · rcases allv_get h with h | h
    · obtain ⟨v, h1, h2⟩ := x.val i d h
      exact ⟨v, h1, h2.mono sub⟩
    · obtain ⟨p, o, q1, q2, q3, q4, q5, q6⟩ := x.own i d h
      refine ⟨.ref p, q1, (q6.mono sub).dr ?_⟩
      unfold plusI
      rw [if_pos ⟨i, d, h, q1⟩]
      exact q5
/-- behind an expression that saw what is one's own too -/
theorem SRI.back {J J' : Hp} (x : SRI g I0 H0 I r σ H) (sb : Sub I J) (s : Stp g J H J' H') : SRI g I0 H0 I r σ H' := by
  refine ⟨⟨x.stp.mono, x.stp.new, fun a o h1 h2 h3 => s.keep a o h1 h2 (x.stp.keep a o h1 h2 h3), ⟨(sb.trans s.mono).trans s.rl.sub, x.stp.rl.dz, s.rl.dice, s.rl.tab, x.stp.rl.nt⟩⟩, x.len, x.val, fun i d h => ?_, x.inj⟩
  obtain ⟨p, o, h1, h2, h3, h4, h5, h6⟩ := x.own i d h
  exact ⟨p, o, h1, h2, h3, h4, s.keep p o h3 (chg_tbl h6.chg) h5, h6⟩
end

/-! ### statements by wishes -/
structure Kt where
  nx : Env2 → Prop
  rt : D → Prop
  bk : Env2 → Prop
  ct : Env2 → Prop
  ex : Str → Prop
structure Kt.Le (k k' : Kt) : Prop where
  nx : ∀ r, k.nx r → k'.nx r
  rt : ∀ d, k.rt d → k'.rt d
  bk : ∀ r, k.bk r → k'.bk r
  ct : ∀ r, k.ct r → k'.ct r
  ex : ∀ c, k.ex c → k'.ex c
theorem Kt.Le.refl (k : Kt) : k.Le k := ⟨fun _ z => z, fun _ z => z, fun _ z => z, fun _ z => z, fun _ z => z⟩
structure WS where
  run : Env2 → Kt → Prop
  mono : ∀ {r : Env2} {k k' : Kt}, k.Le k' → run r k → run r k'
/-- the wishes of the layer -/
def ktOf (g : Gd) (mg : Str → Option Value) (E : XK) (I0 H0 : Hp) (D : Ends) : Kt where
  nx := fun r => ∀ σ H, SR g I0 H0 r σ H → D.nx σ H
  rt := fun d => ∀ v I' H', Stp g I0 H0 I' H' → DR g I' v d → D.rt v H'
  bk := fun r => ∀ σ H, SR g I0 H0 r σ H → D.bk σ H
  ct := fun r => ∀ σ H, SR g I0 H0 r σ H → D.ct σ H
  ex := excW g mg E I0 H0
def tWS (g : Gd) (mg : Str → Option Value) (E : XK) (w : WS) : TS := fun D σ H => ∃ I0 H0 r, SR g I0 H0 r σ H ∧ w.run r (ktOf g mg E I0 H0 D)
theorem _root_.L2.PS.imp {X : Cx} {st : Stmt} {t u : TS} (h : PS X st t) (k : ∀ D σ H, u D σ H → t D σ H) : PS X st u := ⟨fun pins s σ H D I q => h.run pins s σ H D I (k D σ H q)⟩
theorem _root_.L2.PSs.imp {X : Cx} {st : List Stmt} {t u : TS} (h : PSs X st t) (k : ∀ D σ H, u D σ H → t D σ H) : PSs X st u := ⟨fun pins s σ H D I q => h.run pins s σ H D I (k D σ H q)⟩
def wsSkip : WS := ⟨fun r k => k.nx r, fun h q => h.nx _ q⟩
def wsSeq (a b : WS) : WS := ⟨fun r k => a.run r { k with nx := fun r' => b.run r' k }, fun {r k k'} h q => a.mono (k := { k with nx := fun r' => b.run r' k }) ⟨fun _ z => b.mono h z, h.rt, h.bk, h.ct, h.ex⟩ q⟩
def wsSet (i : Nat) (w : WE) : WS := ⟨fun r k => i < r.length ∧ w.run (plain r) (fun d => k.nx (r.set i (Sl.val d))) k.ex, fun h q => ⟨q.1, w.mono (fun _ z => h.nx _ z) h.ex q.2⟩⟩
/-- a new list, one's own -/
def wsSetO (i : Nat) (w : WE) : WS := ⟨fun r k => i < r.length ∧ w.run (plain r) (fun d => (∃ ds, d = .lst ds) ∧ k.nx (r.set i (Sl.own d))) k.ex, fun h q => ⟨q.1, w.mono (fun _ z => ⟨z.1, h.nx _ z.2⟩) h.ex q.2⟩⟩
def wsRet (w : WE) : WS := ⟨fun r k => w.run (allv r) k.rt k.ex, fun h q => w.mono h.rt h.ex q⟩
def wsIf (p : FT) (a b : WS) : WS := ⟨fun r k => resW (p (allv r)) (fun c => if c = true then a.run r k else b.run r k) k.ex, fun {r k k'} h q => resW.mono (fun c z => by
  cases c with
  | true => exact a.mono h z
  | false => exact b.mono h z) h.ex q⟩
def wsExpr (w : WE) : WS := ⟨fun r k => w.run (allv r) (fun _ => k.nx r) k.ex, fun h q => w.mono (fun _ z => h.nx _ z) h.ex q⟩
def wsRaise (c : Str) : WS := ⟨fun _ k => k.ex c, fun h q => h.ex _ q⟩
def wsNever : WS := ⟨fun _ _ => False, fun _ q => q⟩
/-- xs.append(e), xs one's own -/
def wsApp (i : Nat) (w : WE) : WS := ⟨fun r k => ∃ ds, r[i]? = some (Sl.own (.lst ds)) ∧ ds.length < 100000 ∧ w.run (plain r) (fun d => k.nx (r.set i (Sl.own (.lst (ds ++ [d]))))) k.ex, fun h ⟨ds, e, l, q⟩ => ⟨ds, e, l, w.mono (fun _ z => h.nx _ z) h.ex q⟩⟩
section
variable {X : Cx} {g : Gd} {E : XK} {st : Stmt} {rest : List Stmt} {e : Expr} {a b : WS} {w : WE} {pos : Pos}
theorem s_nil : PSs X [] (tWS g X.mg E wsSkip) := pss_nil.imp fun D σ H h => by
  obtain ⟨I0, H0, r, x, h⟩ := h
  exact h σ H x
theorem s_cons (h1 : PS X st (tWS g X.mg E a)) (h2 : PSs X rest (tWS g X.mg E b)) : PSs X (st :: rest) (tWS g X.mg E (wsSeq a b)) := (pss_cons h1 h2).imp fun D σ H h => by
  obtain ⟨I0, H0, r, x, h⟩ := h
  exact ⟨I0, H0, r, x, a.mono (k := { ktOf g X.mg E I0 H0 D with nx := fun r' => b.run r' (ktOf g X.mg E I0 H0 D) }) ⟨fun r' z σ' H' x' => ⟨I0, H0, r', x', z⟩, fun _ z => z, fun _ z => z, fun _ z => z, fun _ z => z⟩ h⟩
theorem s_one (h1 : PS X st (tWS g X.mg E a)) : PSs X [st] (tWS g X.mg E a) := pss_one h1
/-- a plain reading within the state -/
theorem SR.read {I0 H0 : Hp} {r : Env2} {σ : L2.St} {H : Hp} {Q : VK} {Qd : D → Prop} (x : SR g I0 H0 r σ H) (h : w.run (plain r) Qd (excW g X.mg E I0 H0)) (k : ∀ d v I' H', Qd d → SRI g I0 H0 I' r σ H' → DR g I' v d → Q v H') : tW g X.mg E w σ H Q := by
  obtain ⟨I, x⟩ := x
  exact ⟨I, plain r, x.stp.rl, x.er, w.mono (fun d z v I' H' s y => k d v I' H' z (x.go s) y) (fun c z => excW.step x.stp z) h⟩
/-- one that sees what is one's own too, its answer dropped but for the return -/
theorem SR.readA {I0 H0 : Hp} {r : Env2} {σ : L2.St} {H : Hp} {Q : VK} {Qd : D → Prop} (x : SR g I0 H0 r σ H) (h : w.run (allv r) Qd (excW g X.mg E I0 H0)) (k : ∀ d v I' H', Qd d → SR g I0 H0 r σ H' → Stp g I0 H0 I' H' → DR g I' v d → Q v H') : tW g X.mg E w σ H Q := by
  obtain ⟨I, x⟩ := x
  obtain ⟨sb, st, er⟩ := x.plus
  exact ⟨_, allv r, st.rl, er, w.mono (fun d z v I' H' s y => k d v I' H' z ⟨I, x.back sb s⟩ (st.trans s) y) (fun c z => excW.step st z) h⟩
theorem s_ret (he : PE X e (tW g X.mg E w)) : PS X (.Return (some e) pos) (tWS g X.mg E (wsRet w)) := (ps_ret he).imp fun D σ H h => by
  obtain ⟨I0, H0, r, x, h⟩ := h
  exact x.readA h fun d v I' H' z _ s y => z v I' H' s y
theorem s_expr (he : PE X e (tW g X.mg E w)) (hs : swapsWith e none pos.line X.env = pure false := by rfl) : PS X (.Expr e pos) (tWS g X.mg E (wsExpr w)) := (ps_expr he hs).imp fun D σ H h => by
  obtain ⟨I0, H0, r, x, h⟩ := h
  exact x.readA h fun d v I' H' z x' _ _ => z σ H' x'
theorem s_if {c : Expr} {p : FT} {s1 s2 : List Stmt} (hc : PT X c (tFT g X.mg E p)) (h1 : PSs X s1 (tWS g X.mg E a)) (h2 : PSs X s2 (tWS g X.mg E b)) : PS X (.If c s1 s2 pos) (tWS g X.mg E (wsIf p a b)) := (ps_if hc h1 h2).imp fun D σ H h => by
  obtain ⟨I0, H0, r, ⟨I, x⟩, h⟩ := h
  obtain ⟨sb, st, er⟩ := x.plus
  refine ⟨_, allv r, st.rl, er, Pst.iff.mpr (resW.mono (fun c z v I' H' s y => ?_) (fun c z => excW.step st z) h)⟩
  subst y
  cases v with
  | true => exact ⟨I0, H0, r, ⟨I, x.back sb s⟩, z⟩
  | false => exact ⟨I0, H0, r, ⟨I, x.back sb s⟩, z⟩
theorem s_set (i : Nat) {x : Str} {pos' : Pos} (hN : X.N.Nodup) (he : PE X e (tW g X.mg E w)) (hi : X.N[i]? = some x := by rfl) (hx : Loc X.env.scope x := by first | exact Or.inl rfl | exact Or.inr rfl) (hs : swapsWith e (some (.Name x pos')) pos.line X.env = pure false := by rfl) (hf : X.fn x = true ∨ X.env.scope.names.lookup x = some .local := by first | exact .inl rfl | exact .inr rfl | assumption) :
    PS X (.Assign [.Name x pos'] e pos) (tWS g X.mg E (wsSet i w)) := (ps_set (i := i) hN hi hx he hs hf).imp fun D σ H h => by
  obtain ⟨I0, H0, r, x, hl, h⟩ := h
  exact x.read h fun d v I' H' z x' y => z _ _ ⟨I', x'.setV hl y⟩
/-- a reading of a new list within the state -/
theorem SR.readO {I0 H0 : Hp} {r : Env2} {σ : L2.St} {H : Hp} {Q : VK} {Qd : D → Prop} (x : SR g I0 H0 r σ H) (h : w.run (plain r) (fun d => (∃ ds, d = .lst ds) ∧ Qd d) (excW g X.mg E I0 H0))
    (k : ∀ ds p vs I' H', Qd (.lst ds) → SRI g I0 H0 I' r σ H' → NT H0 p → p ≠ g.dz → I' p = none → H' p = some (.lst vs) → DRs g I' vs ds → (∀ (j : Nat) (e : D), r[j]? = some (Sl.own e) → σ[j]? ≠ some (some (.ref p))) → Q (.ref p) H') : tO g X.mg E w σ H Q := by
  obtain ⟨I, x⟩ := x
  refine ⟨I, plain r, x.stp.rl, x.er, w.mono (fun d z => ⟨z.1, fun p I' H' s n nz hI hd => ?_⟩) (fun c z => excW.step x.stp z) h⟩
  obtain ⟨⟨ds, rfl⟩, z⟩ := z
  obtain ⟨vs, h1, h2⟩ := hd ds rfl
  refine k ds p vs I' H' z (x.go s) (x.stp.back n) nz hI h1 h2 fun j e hj hs => ?_
  obtain ⟨p', o, q1, _, _, _, q5, q6⟩ := x.own j e hj
  rw [hs] at q1; cases q1
  exact n.none_of q5 (chg_tbl q6.chg)
theorem s_setO (i : Nat) {x : Str} {pos' : Pos} (hN : X.N.Nodup) (he : PE X e (tO g X.mg E w)) (hi : X.N[i]? = some x := by rfl) (hx : Loc X.env.scope x := by first | exact Or.inl rfl | exact Or.inr rfl) (hs : swapsWith e (some (.Name x pos')) pos.line X.env = pure false := by rfl) (hf : X.fn x = true ∨ X.env.scope.names.lookup x = some .local := by first | exact .inl rfl | exact .inr rfl | assumption) :
    PS X (.Assign [.Name x pos'] e pos) (tWS g X.mg E (wsSetO i w)) := (ps_set (i := i) hN hi hx he hs hf).imp fun D σ H h => by
  obtain ⟨I0, H0, r, x, hl, h⟩ := h
  exact x.readO h fun ds p vs I' H' z x' n nz hI hp y fr => z _ _ ⟨I', x'.setO hl n nz hI hp y fr⟩
theorem s_app (i : Nat) {x : Str} {ap p1 cp : Pos} (he : PE X e (tW g X.mg E w)) (hN : X.N[i]? = some x := by rfl) (hv : Vis X.env.scope x := by first | exact Or.inl rfl | exact Or.inr (Or.inl rfl) | exact Or.inr (Or.inr rfl)) (hd : (x == ("__debug__" : Str)) = false := by decide) (hcd : (x == ("__classdict__" : Str)) = false := by decide)
    (hbase : attributeBase (.Name x p1) "append" X.env (eval (.Name x p1) X.env) = eval (.Name x p1) X.env := by rfl)
    (hfew : ((backTo cp (starEach [e] X.env)).all (fun x => !x.1) && (backToKw cp (keywordEach [] X.env)).all (fun x => x.1.isSome) && decide ([e].length + ([] : List Keyword).length + (if ([] : List Keyword).isEmpty then 0 else 1) < 30)) = true := by rfl)
    (hline : (ap.endLine == cp.line) = true := by rfl) (hst : starEach [e] X.env = (false, eval e X.env) :: starEach [] X.env := by rfl) (hpl : (backTo cp (starEach [] X.env)).any (·.1) = false := by rfl)
    (hs : swapsWith (.Call (.Attribute (.Name x p1) "append" ap) [e] [] cp) none pos.line X.env = pure false := by rfl) :
    PS X (.Expr (.Call (.Attribute (.Name x p1) "append" ap) [e] [] cp) pos) (tWS g X.mg E (wsApp i w)) :=
  (ps_expr (pe_bm PySem.F.plainAttrs_list PySem.F.slot_list_append PySem.F.type_list_append mt_append (pv i hN hv hd hcd) (pa_cons he pa_nil hst) hbase hfew hline hst hpl) hs).imp fun D σ H h => by
    obtain ⟨I0, H0, r, ⟨I, x⟩, ds, hr, hl, h⟩ := h
    obtain ⟨p, o, q1, q2, q3, q4, q5, q6⟩ := x.own i _ hr
    cases o with
    | lst vs =>
      have rv : DRs g I vs ds := q6
      refine ⟨.ref p, q1, .inl ⟨rfl, vs, SqL.of q5⟩, SR.read (X := X) ⟨I, x⟩ h fun d v I' H' z x' y => ?_⟩
      obtain ⟨p', o', z1, z2, z3, z4, z5, z6⟩ := x'.own i _ hr
      have ep : p' = p := by rw [q1] at z1; cases z1; rfl
      subst ep
      cases o' with
      | lst vs' =>
        have rv' : DRs g I' vs' ds := z6
        exact ⟨p', vs', v, rfl, rfl, z5, by rw [rv'.len]; exact Nat.lt_of_lt_of_le hl (by decide), z _ _ ⟨I', x'.put hr q1 (rv'.app (.cons y .nil))⟩⟩
      | _ => exact (show False from z6).elim
    | _ => exact (show False from q6).elim
end
end FW
/-! Loops, targets, raises, whole defs. -/
namespace FW
open PySem PySem.Spec PyProof.Rows L2

/-! ### where a body stands -/
structure Bd (X : Cx) (E : XK) (k : Nat) : Prop where
  hc : X.calm = true
  nd : X.N.Nodup
  hr : Room k X.A
  ps : Passes (L2N.CX X.prog X.w) X E
  po : PassesOwn (model X.prog X.w) X.A X.env X.xe
theorem passN {X : Cx} : Passes (L2N.CX X.prog X.w) X E0 := fun _ _ _ _ _ _ _ h => by
  obtain ⟨_, _, _, _, _, _, _, _, _, _, _, _, z⟩ := h
  exact z.elim
theorem Bd.blk {X : Cx} {E : XK} {k : Nat} (B : Bd X E k) (s : Shared) (H : Hp) (scope : Scope) (ce : PySem.Env) (fp : List Addr) : Bd (X.blk s H scope ce fp) E0 k := ⟨B.hc, B.nd, B.hr, passN, PassesOwn.never⟩

/-! ### targets over slots -/
abbrev SG := D → Env2 → Res Env2
abbrev SGs := List D → Env2 → Res Env2
def tSG (g : Gd) (f : SG) : TG := fun v σ H Q => ∃ I0 H0 I r d, SRI g I0 H0 I r σ H ∧ DR g I v d ∧ resW (f d r) (fun r' => ∀ σ', SRI g I0 H0 I r' σ' H → Q σ' H) fun _ => False
def tSGs (g : Gd) (f : SGs) : TGs := fun vs σ H Q => ∃ I0 H0 I r ds, SRI g I0 H0 I r σ H ∧ DRs g I vs ds ∧ resW (f ds r) (fun r' => ∀ σ', SRI g I0 H0 I r' σ' H → Q σ' H) fun _ => False
def sgN (i : Nat) : SG := fun d r => if i < r.length then .ok (r.set i (.val d)) else .bad
def sgsNil : SGs := fun ds r => match ds with
  | [] => .ok r
  | _ => .bad
def sgsCons (f : SG) (k : SGs) : SGs := fun ds r => match ds with
  | d :: t => (f d r).bind (k t)
  | [] => .bad
def sgT (n : Nat) (k : SGs) : SG := fun d r => match d with
  | .tup ds => if ds.length = n then k ds r else .bad
  | .par ds => if ds.length = n then k ds r else .bad
  | _ => .bad
section
variable {X : Cx} {g : Gd} {E : XK}
theorem sg_name (i : Nat) {x : Str} {pos : Pos} (hN : X.N.Nodup) (hi : X.N[i]? = some x := by rfl) (hx : Loc X.env.scope x := by first | exact Or.inl rfl | exact Or.inr rfl) (hf : X.fn x = true ∨ X.env.scope.names.lookup x = some .local := by first | exact .inl rfl | exact .inr rfl | assumption) : PG X (.Name x pos) (tSG g (sgN i)) :=
  (pg_name (i := i) hN hi hx hf).imp fun v σ H Q h => by
    obtain ⟨I0, H0, I, r, d, x, y, h⟩ := h
    unfold sgN at h
    split at h
    · rename_i hi
      exact h _ (x.setV hi y)
    · exact h.elim
theorem sgs_nil : PGs X [] (tSGs g sgsNil) := pgs_nil.imp fun vs σ H Q h => by
  obtain ⟨I0, H0, I, r, ds, x, y, h⟩ := h
  cases y with
  | nil => exact ⟨rfl, h σ x⟩
  | cons _ _ => exact h.elim
theorem sgs_cons {e : Expr} {es : List Expr} {f : SG} {k : SGs} (h1 : PG X e (tSG g f)) (h2 : PGs X es (tSGs g k)) (hs : (assignEach (e :: es) X.env).map (·.2) = assign e X.env :: (assignEach es X.env).map (·.2) := by rfl) :
    PGs X (e :: es) (tSGs g (sgsCons f k)) := (pgs_cons h1 h2 hs).imp fun vs σ H Q h => by
  obtain ⟨I0, H0, I, r, ds, x, y, h⟩ := h
  cases y with
  | nil => exact h.elim
  | cons y t =>
    rename_i v vt d dt
    refine ⟨_, _, rfl, I0, H0, I, r, d, x, y, ?_⟩
    have h' : resW ((f d r).bind (k dt)) (fun r' => ∀ σ', SRI g I0 H0 I r' σ' H → Q σ' H) fun _ => False := h
    cases e : f d r with
    | bad => rw [e] at h'; exact h'.elim
    | exc c => rw [e] at h'; exact h'.elim
    | ok r1 =>
      rw [e] at h'
      exact fun σ1 x1 => ⟨I0, H0, I, r1, dt, x1, t, h'⟩
theorem sg_tup {es : List Expr} {kk n : Nat} {pos : Pos} {k : SGs} (hc : X.calm = true) (h : PGs X es (tSGs g k)) (hn : (assignEach es X.env).length = n := by rfl) (hst : (assignEach es X.env).findIdx? (·.1) = none := by rfl) :
    PG X (.Tuple es kk pos) (tSG g (sgT n k)) := (pg_tup hc h hn hst).imp fun v σ H Q h => by
  obtain ⟨I0, H0, I, r, d, x, y, h⟩ := h
  cases y with
  | tup hx ux rx =>
    rename_i a xs ds _
    have h' : resW (if ds.length = n then k ds r else .bad) (fun r' => ∀ σ', SRI g I0 H0 I r' σ' H → Q σ' H) fun _ => False := h
    split at h'
    · rename_i c
      exact ⟨a, xs, rfl, ux.sqt (x.stp.rl.sub _ _ hx), by rw [rx.len, c], I0, H0, I, r, ds, x, rx, h'⟩
    · exact h'.elim
  | par hx rx =>
    rename_i a xs ds
    have h' : resW (if ds.length = n then k ds r else .bad) (fun r' => ∀ σ', SRI g I0 H0 I r' σ' H → Q σ' H) fun _ => False := h
    split at h'
    · rename_i c
      exact ⟨a, xs, rfl, SqT.of (x.stp.rl.sub _ _ hx), by rw [rx.len, c], I0, H0, I, r, ds, x, rx, h'⟩
    · exact h'.elim
  | _ => exact h.elim
end
theorem resW.le {α : Type} {x : Res α} {Q : α → Prop} {Z : Str → Prop} (h : resW x Q fun _ => False) : resW x Q Z := resW.mono (fun _ z => z) (fun _ z => z.elim) h
/-- target = value -/
def wsAsg (sg : SG) (w : WE) : WS := ⟨fun r k => w.run (plain r) (fun d => resW (sg d r) k.nx fun _ => False) k.ex, fun h q => w.mono (fun _ z => resW.mono (fun _ z => h.nx _ z) (fun _ z => z) z) h.ex q⟩
/-- for -/
def forW (sg : SG) (body : WS) (k : Kt) : List D → Env2 → Prop
  | [], r => k.nx r
  | d :: ds, r => resW (sg d r) (fun r1 => body.run r1 { nx := forW sg body k ds, rt := k.rt, bk := k.nx, ct := forW sg body k ds, ex := k.ex }) fun _ => False
theorem forW.mono {sg : SG} {body : WS} {k k' : Kt} (h : k.Le k') : ∀ {ds : List D} {r : Env2}, forW sg body k ds r → forW sg body k' ds r
  | [], _, q => h.nx _ q
  | d :: ds, r, q => resW.mono (fun r1 z => body.mono (k := { nx := forW sg body k ds, rt := k.rt, bk := k.nx, ct := forW sg body k ds, ex := k.ex }) ⟨fun _ z => forW.mono h z, h.rt, h.nx, fun _ z => forW.mono h z, h.ex⟩ z) (fun _ z => z) q
def wsFor (wi : WI) (sg : SG) (body : WS) : WS := ⟨fun r k => wi.run (plain r) (fun ds => forW sg body k ds r) k.ex, fun h q => wi.mono (fun _ z => forW.mono h z) h.ex q⟩
/-- while: some number of turns is enough -/
def whileW (p : FT) (body : WS) (k : Kt) : Nat → Env2 → Prop
  | 0, _ => False
  | n + 1, r => resW (p (allv r)) (fun b => if b = true then body.run r { nx := whileW p body k n, rt := k.rt, bk := k.nx, ct := whileW p body k n, ex := k.ex } else k.nx r) k.ex
theorem whileW.mono {p : FT} {body : WS} {k k' : Kt} (h : k.Le k') : ∀ {n : Nat} {r : Env2}, whileW p body k n r → whileW p body k' n r
  | 0, _, q => q
  | n + 1, r, q => resW.mono (fun b z => by
      cases b with
      | true => exact body.mono (k := { nx := whileW p body k n, rt := k.rt, bk := k.nx, ct := whileW p body k n, ex := k.ex }) ⟨fun _ z => whileW.mono h z, h.rt, h.nx, fun _ z => whileW.mono h z, h.ex⟩ z
      | false => exact h.nx _ z) h.ex q
def wsWhile (p : FT) (body : WS) : WS := ⟨fun r k => ∃ n, whileW p body k n r, fun h ⟨n, q⟩ => ⟨n, whileW.mono h q⟩⟩
theorem Stp.rebase {g : Gd} {I0 H0 I1 H1 I' H' : Hp} (p : Stp g I0 H0 I1 H1) (q : Stp g I1 H0 I' H') : Stp g I0 H0 I' H' :=
  ⟨p.mono.trans q.mono, fun a o h => (q.new a o h).elim (fun z => p.new a o z) .inr, q.keep, q.rl⟩
theorem SR.rebase {g : Gd} {I0 H0 I1 H1 : Hp} {r : Env2} {σ : L2.St} {H : Hp} (p : Stp g I0 H0 I1 H1) (q : SR g I1 H0 r σ H) : SR g I0 H0 r σ H := by
  obtain ⟨I, x⟩ := q
  exact ⟨I, p.rebase x.stp, x.len, x.val, x.own, x.inj⟩
section
variable {X : Cx} {g : Gd} {E : XK} {k : Nat} {body : List Stmt} {a : WS} {pos : Pos}
theorem s_asg {tg e : Expr} {sg : SG} {w : WE} (he : PE X e (tW g X.mg E w)) (hg : PG X tg (tSG g sg)) (hs : swapsWithSole [tg] e pos.line X.env = pure false := by rfl) (hw : swappedStores [tg] e X.env = pure none := by rfl) (h1 : (assignEach [tg] X.env).map (·.2) = [assign tg X.env] := by rfl) :
    PS X (.Assign [tg] e pos) (tWS g X.mg E (wsAsg sg w)) := (ps_asg he hg hs hw h1).imp fun D σ H h => by
  obtain ⟨I0, H0, r, x, h⟩ := h
  exact x.read h fun d v I' H' z x' y => ⟨I0, H0, I', r, d, x', y, resW.mono (fun r' q σ' x2 => q σ' H' ⟨I', x2⟩) (fun _ z => z) z⟩
theorem s_for {tg iter : Expr} {wi : WI} {sg : SG} (B : Bd X E k) (hi : PI X tg iter (tWI g X.mg E wi)) (hg : PG X tg (tSG g sg)) (hb : PSs X body (tWS g X.mg E a)) (hs : ∀ x, foldedSetIterable iter X.env x = pure x := by intro _; rfl) :
    PS X (.For tg iter body [] pos) (tWS g X.mg E (wsFor wi sg a)) := (ps_for B.po B.hc hi hg hb hs).imp fun D σ H h => by
  obtain ⟨I0, H0, r, ⟨I, x⟩, h⟩ := h
  refine ⟨I, plain r, x.stp.rl, x.er, wi.mono (fun ds q => ?_) (fun c z => excW.step x.stp z) h⟩
  intro J I1 H1 s1 src
  have x1 := x.go s1
  have st1 := x1.stp
  refine ⟨fun i m σ' H' => ∃ r', m = ds.length - i ∧ i ≤ ds.length ∧ SR g I1 H0 r' σ' H' ∧ forW sg a (ktOf g X.mg E I0 H0 D) (ds.drop i) r',
    ⟨ds.length, r, rfl, Nat.zero_le _, ⟨I1, ⟨Sub.refl _, fun _ _ z => .inl z, st1.keep, st1.rl⟩, x1.len, x1.val, x1.own, x1.inj⟩, by rw [List.drop_zero]; exact q⟩, ?_⟩
  rintro i m σ' H' ⟨r', rfl, hi', ⟨I', x'⟩, hq⟩
  by_cases hlt : i < ds.length
  · rw [List.drop_eq_getElem_cons hlt] at hq
    refine .inr ⟨src.go i I' H' x'.stp.rl x'.stp.mono hlt, fun σ2 H2 => ∃ r2, SR g I1 H0 r2 σ2 H2 ∧ forW sg a (ktOf g X.mg E I0 H0 D) (ds.drop (i + 1)) r2, fun σ2 H2 ⟨r2, z1, z2⟩ => ⟨ds.length - (i + 1), by omega, r2, rfl, hlt, z1, z2⟩, fun v H2 y => ?_⟩
    obtain ⟨I2, s2, xd⟩ := src.yld i ds[i] I' H' v H2 x'.stp.rl x'.stp.mono (List.getElem?_eq_getElem hlt) y
    refine ⟨I1, H0, I2, r', ds[i], x'.go s2, xd, resW.mono (fun r1 z σ3 x3 => ?_) (fun _ z => z) hq⟩
    exact ⟨I1, H0, r1, ⟨I2, x3⟩, a.mono (k := { nx := forW sg a (ktOf g X.mg E I0 H0 D) (ds.drop (i + 1)), rt := (ktOf g X.mg E I0 H0 D).rt, bk := (ktOf g X.mg E I0 H0 D).nx, ct := forW sg a (ktOf g X.mg E I0 H0 D) (ds.drop (i + 1)), ex := (ktOf g X.mg E I0 H0 D).ex }) ⟨fun r2 z σ4 H4 q4 => ⟨r2, q4, z⟩, fun d z v' I4 H4 s4 y4 => z v' I4 H4 (st1.rebase s4) y4, fun r2 z σ4 H4 q4 => z σ4 H4 (SR.rebase st1 q4), fun r2 z σ4 H4 q4 => ⟨r2, q4, z⟩, fun c z I4 H4 s4 => z I4 H4 (st1.rebase s4)⟩ z⟩
  · have ei : i = ds.length := by omega
    subst ei
    rw [List.drop_length] at hq
    exact .inl ⟨src.stop _ I' H' x'.stp.rl x'.stp.mono rfl, hq σ' H' (SR.rebase st1 ⟨I', x'⟩)⟩
theorem s_while {c : Expr} {p : FT} (B : Bd X E k) (hc : PT X c (tFT g X.mg E p)) (hb : PSs X body (tWS g X.mg E a)) : PS X (.While c body [] pos) (tWS g X.mg E (wsWhile p a)) := (ps_while B.po hc hb).imp fun D σ H h => by
  obtain ⟨I0, H0, r, x, n, h⟩ := h
  refine ⟨fun m σ' H' => ∃ r', SR g I0 H0 r' σ' H' ∧ whileW p a (ktOf g X.mg E I0 H0 D) m r', ⟨n, r, x, h⟩, ?_⟩
  rintro m σ' H' ⟨r', ⟨I, x⟩, hq⟩
  cases m with
  | zero => exact hq.elim
  | succ m =>
    obtain ⟨sb, st, er⟩ := x.plus
    refine ⟨_, allv r', st.rl, er, Pst.iff.mpr (resW.mono (fun b z v I' H2 s y => ?_) (fun c z => excW.step st z) hq)⟩
    subst y
    cases v with
    | true => exact ⟨fun σ2 H2 => ∃ r2, SR g I0 H0 r2 σ2 H2 ∧ whileW p a (ktOf g X.mg E I0 H0 D) m r2, fun σ2 H2 ⟨r2, z1, z2⟩ => ⟨m, Nat.lt_succ_self _, r2, z1, z2⟩, I0, H0, r', ⟨I, x.back sb s⟩, a.mono (k := { nx := whileW p a (ktOf g X.mg E I0 H0 D) m, rt := (ktOf g X.mg E I0 H0 D).rt, bk := (ktOf g X.mg E I0 H0 D).nx, ct := whileW p a (ktOf g X.mg E I0 H0 D) m, ex := (ktOf g X.mg E I0 H0 D).ex }) ⟨fun r2 z σ4 H4 q4 => ⟨r2, q4, z⟩, fun _ z => z, fun _ z => z, fun r2 z σ4 H4 q4 => ⟨r2, q4, z⟩, fun _ z => z⟩ z⟩
    | false => exact z σ' H2 ⟨I, x.back sb s⟩
variable {i : Nat} {y : Str} {py spos : Pos} {elt tg iter : Expr} {ifs : List Expr} {scope : Scope} {own : List (Str × Nat)} {wi : WI} {fg : FG} {ft : FT} {we : WE} {is : List Nat}
theorem s_setLc (i : Nat) (B : Bd X E k) (hsw : swapsWith (.ListComp elt [⟨tg, iter, ifs, 0⟩] scope pos) (some (.Name y py)) spos.line X.env = pure true) (hi : PI X tg iter (tWI g X.mg E wi)) (ok : BlkOk X.N X.env.scope scope own) (his : ∀ i ∈ is, i ∈ own.map (·.2)) (hg : ForBlk X scope fun B => PG B tg (tFG g is fg)) (ht : ForBlk X scope fun B => PTs B ifs (tFT g B.mg E0 ft))
    (he : ForBlk X scope fun B => PE B elt (tW g B.mg E0 we)) (hy : X.N[i]? = some y := by rfl) (hyl : X.env.scope.names.lookup y = some .local := by rfl) (hs : ∀ x, foldedSetIterable iter X.env x = pure x := by intro _; rfl) :
    PS X (.Assign [.Name y py] (.ListComp elt [⟨tg, iter, ifs, 0⟩] scope pos) spos) (tWS g X.mg E (wsSet i (wLc wi fg ft we (own.map (·.2))))) :=
  (ps_setLc (i := i) B.hc B.nd hy hyl hsw hi ok hg ht he hs).imp fun D σ H h => by
    obtain ⟨I0, H0, r, x, hl, h⟩ := h
    refine lc_of his (tO_of lists_lc (x.read h fun d v I' H' z x' y => ?_))
    exact z _ _ ⟨I', x'.setV hl y⟩
/-- raise C('..') -/
structure ExcT (K : PySem.W.Frag) (mg : Str → Option Value) (x : Str) (C : Addr) : Prop where
  g : mg x = some (.ref C)
  q : PySem.W.excIn K C [.type "ValueError", .type "Exception", .type "BaseException", .type "object"] "ValueError.__new__" = true
  k : PySem.W.keepIn K (.ref C) = true
  b : PySem.W.subIn K (.ref C) (.type "BaseException") = some true
  t : PySem.W.typeIn K (.ref C) = some (.type "type")
theorem s_raise {x m : Str} {C : Addr} {j : Nat} {p p2 p3 : Pos} (T : ExcT X.K X.mg x C) (tk : L2N.Takes X (fun cls d _ H => E cls d H)) (B : Bd X E k) (hg : Gl X x) (hdb : (x == ("__debug__" : Str)) = false := by decide) :
    PS X (.Raise (some (.Call (.Name x p) [.Constant (.str m) j p2] [] p3)) none pos) (tWS g X.mg E (wsRaise x)) :=
  (L2N.ps_raise B.hc tk (L2N.pmk_own PySem.F.excBase_ValueError T.q T.g T.k (raises_own T.b T.t) hg hdb)).imp fun D σ H h => by
    obtain ⟨I0, H0, r, ⟨I, x⟩, h⟩ := h
    exact h I H x.stp C T.g
end

/-! ### a def -/
def initE (n : Nat) (ds : List D) : Env2 := ds.map Sl.val ++ List.replicate (n - ds.length) Sl.un
/-- what a def is asked: np parameters, n names -/
def fnW (np n : Nat) (w : WS) (ds : List D) (Q : D → Prop) (Z : Str → Prop) : Prop := ds.length = np ∧ w.run (initE n ds) { nx := fun _ => Q .non, rt := Q, bk := fun _ => False, ct := fun _ => False, ex := Z }
def spW (mg : Str → Option Value) (f : List D → (D → Prop) → (Str → Prop) → Prop) : Sp := fun vs H Q E => ∃ (g : Gd) (I : Hp) (ds : List D), Rl g I H ∧ DRs g I vs ds ∧ f ds (endW g (DR g) I H Q) (excW g mg E I H)
theorem sri_start {g : Gd} {I H : Hp} {N : List Str} {vs : List V} {ds : List D} (rl : Rl g I H) (h : DRs g I vs ds) (hl : ds.length ≤ N.length) : SRI g I H I (initE N.length ds) (L2.start N vs) H := by
  have le := h.len
  refine ⟨rl.stp, ?_, fun i d hi => ?_, fun i d hi => ?_, fun i j d e p hi => ?_⟩
  · unfold initE L2.start
    rw [List.length_append, List.length_append, List.length_map, List.length_map, List.length_replicate, List.length_replicate, le]
  · unfold initE at hi
    by_cases c : i < ds.length
    · rw [List.getElem?_append_left (by rw [List.length_map]; exact c), List.getElem?_map] at hi
      cases e : ds[i]? with
      | none => rw [e] at hi; cases hi
      | some d' =>
        rw [e] at hi
        have ed : d' = d := by
          have := Option.some.inj hi
          injection this
        subst ed
        obtain ⟨v, h1, h2⟩ := h.at_ e
        refine ⟨v, ?_, h2⟩
        unfold L2.start
        rw [List.getElem?_append_left (by rw [List.length_map, le]; exact c), List.getElem?_map, h1]; rfl
    · rw [List.getElem?_append_right (by rw [List.length_map]; omega), List.getElem?_replicate] at hi
      split at hi <;> cases hi
  · unfold initE at hi
    by_cases c : i < ds.length
    · rw [List.getElem?_append_left (by rw [List.length_map]; exact c), List.getElem?_map] at hi
      cases e : ds[i]? with
      | none => rw [e] at hi; cases hi
      | some d' => rw [e] at hi; cases hi
    · rw [List.getElem?_append_right (by rw [List.length_map]; omega), List.getElem?_replicate] at hi
      split at hi <;> cases hi
  · unfold initE at hi
    by_cases c : i < ds.length
    · rw [List.getElem?_append_left (by rw [List.length_map]; exact c), List.getElem?_map] at hi
      cases e : ds[i]? with
      | none => rw [e] at hi; cases hi
      | some d' => rw [e] at hi; cases hi
    · rw [List.getElem?_append_right (by rw [List.length_map]; omega), List.getElem?_replicate] at hi
      split at hi <;> cases hi
section
variable {P : Program} {w : World} {K : PySem.W.Frag} {mg : Str → Option Value} {base : Heap}
/-- THE RULE for a def -/
theorem fn_ok {x qual : Str} {st : Stmt} {f : Addr} {fd : FuncData} {N ps : List Str} {k np n : Nat} {ws : WS} (F : Fun K x qual st f fd) (S : FnScope N ps (defScope st)) (hnp : ps.length = np) (hn : N.length = n)
    (hbody : ∀ (cdv : Value) (A : Around) (outer : List PySem.Env) (s : Shared) (H : Hp) (E : XK) (g : Gd), Bd (cxOf (L2N.CX P w) P w K mg base N qual (defScope st) f cdv A outer s H E) E k → L2N.Takes (cxOf (L2N.CX P w) P w K mg base N qual (defScope st) f cdv A outer s H E) (fun cls d _ H => E cls d H) →
      PSs (cxOf (L2N.CX P w) P w K mg base N qual (defScope st) f cdv A outer s H E) (defBody st) (tWS g mg E ws)) : FnOk P w K mg base (L2N.CX P w) (k + 1) f fd ps (spW mg (fnW np n ws)) := by
  obtain ⟨oc, od, kV, doc, pm, an, cdv, ct, osl, rfl, lk, hcd⟩ := F.ex
  have len : ∀ vs H Q E, spW mg (fnW np n ws) vs H Q E → vs.length = ps.length := fun vs H Q E ⟨g, I, ds, rl, h, hl, _⟩ => by rw [h.len, hl, hnp]
  refine fn_of lk hcd S len fun A outer s H vs Q E hr hsp => ?_
  obtain ⟨g, I, ds, rl, h, hl, q⟩ := hsp
  have tk : L2N.Takes (cxOf (L2N.CX P w) P w K mg base N qual (defScope st) f cdv A outer s H E) (fun cls d _ H => E cls d H) := L2N.takes_of rfl rfl rfl rfl
  have B : Bd (cxOf (L2N.CX P w) P w K mg base N qual (defScope st) f cdv A outer s H E) E k := ⟨rfl, S.nd, hr, L2N.passes_call tk fun _ _ _ _ z => z, passes_of (K := fun e s'' => L2N.CX P w outer H s E e s'') (E₁ := fun e' s'' => L2N.CX P w outer H s E e' s'') rfl⟩
  refine ⟨_, hbody cdv A outer s H E g B tk, I, H, initE n ds, ⟨I, ?_⟩, ws.mono (k := { nx := fun _ => endW g (DR g) I H Q .non, rt := endW g (DR g) I H Q, bk := fun _ => False, ct := fun _ => False, ex := excW g mg E I H }) ⟨fun r z σ H' x => ?_, fun d z => z, fun _ z => z.elim, fun _ z => z.elim, fun _ z => z⟩ q⟩
  · have hpl : ps.length ≤ N.length := by
      have := congrArg List.length S.pre
      rw [List.length_take] at this
      omega
    rw [← hn]
    exact sri_start rl h (by rw [hl, ← hnp]; exact hpl)
  · obtain ⟨I', x⟩ := x
    exact z .non I' H' x.stp .non
end
end FW
/-! Statements by functions; expressions by wishes; calls. -/
namespace FW
open PySem PySem.Spec PyProof.Rows L2

/-! ### statements by functions -/
inductive Out where
  | nx (r : Env2) | rt (d : D) | bk (r : Env2) | ct (r : Env2)
abbrev FS := Env2 → Res Out
def outW (o : Out) (k : Kt) : Prop := match o with
  | .nx r => k.nx r
  | .rt d => k.rt d
  | .bk r => k.bk r
  | .ct r => k.ct r
def ImpS (f : FS) (w : WS) : Prop := ∀ (r : Env2) (k : Kt), resW (f r) (fun o => outW o k) k.ex → w.run r k
theorem resW_bind {α β : Type} {x : Res α} {k : α → Res β} {Q : β → Prop} {Z : Str → Prop} (h : resW (x.bind k) Q Z) : resW x (fun a => resW (k a) Q Z) Z := by
  cases x with
  | ok a => exact h
  | exc c => exact h
  | bad => exact h
def fsSkip : FS := fun r => .ok (.nx r)
def fsSeq (f h : FS) : FS := fun r => (f r).bind fun o => match o with
  | .nx r' => h r'
  | o => .ok o
def fsSet (i : Nat) (f : FE) : FS := fun r => if i < r.length then (f (plain r)).bind fun d => .ok (.nx (r.set i (.val d))) else .bad
def fsSetO (i : Nat) (f : FE) : FS := fun r => if i < r.length then (f (plain r)).bind fun d => match d with
  | .lst ds => .ok (.nx (r.set i (.own (.lst ds))))
  | _ => .bad else .bad
def fsRet (f : FE) : FS := fun r => (f (allv r)).bind fun d => .ok (.rt d)
def fsIf (p : FT) (f h : FS) : FS := fun r => (p (allv r)).bind fun b => if b = true then f r else h r
def fsExpr (f : FE) : FS := fun r => (f (allv r)).bind fun _ => .ok (.nx r)
def fsRaise (c : Str) : FS := fun _ => .exc c
def fsNever : FS := fun _ => .bad
def fsApp (i : Nat) (f : FE) : FS := fun r => match r[i]? with
  | some (.own (.lst ds)) => if ds.length < 100000 then (f (plain r)).bind fun d => .ok (.nx (r.set i (.own (.lst (ds ++ [d]))))) else .bad
  | _ => .bad
def fsAsg (sg : SG) (f : FE) : FS := fun r => (f (plain r)).bind fun d => (sg d r).calm.bind fun r' => .ok (.nx r')
def forF (sg : SG) (body : FS) : List D → Env2 → Res Out
  | [], r => .ok (.nx r)
  | d :: ds, r => (sg d r).calm.bind fun r1 => (body r1).bind fun o => match o with
    | .nx r2 => forF sg body ds r2
    | .ct r2 => forF sg body ds r2
    | .bk r2 => .ok (.nx r2)
    | .rt d => .ok (.rt d)
def fsFor (fi : FI) (sg : SG) (body : FS) : FS := fun r => (fi (plain r)).bind fun ds => forF sg body ds r
theorem calm_W {α : Type} {x : Res α} {Q : α → Prop} {Z : Str → Prop} (h : resW x.calm Q Z) : resW x Q fun _ => False := by
  cases x with
  | ok a => exact h
  | exc c => exact h.elim
  | bad => exact h
theorem imp_skip : ImpS fsSkip wsSkip := fun r k h => h
theorem imp_seq {f h : FS} {a b : WS} (h1 : ImpS f a) (h2 : ImpS h b) : ImpS (fsSeq f h) (wsSeq a b) := fun r k q => h1 r _ (resW.mono (fun o z => by
  cases o with
  | nx r' => exact h2 r' k z
  | rt d => exact z
  | bk r' => exact z
  | ct r' => exact z) (fun _ z => z) (resW_bind q))
theorem imp_set {i : Nat} {f : FE} : ImpS (fsSet i f) (wsSet i (wOf f)) := fun r k q => by
  unfold fsSet at q
  split at q
  · rename_i hi
    exact ⟨hi, resW.mono (fun d z => z) (fun _ z => z) (resW_bind q)⟩
  · exact q.elim
theorem imp_setLc {i : Nat} {fi : FI} {fg : FG} {ft : FT} {fe : FE} {vs : List Nat} : ImpS (fsSet i (fLc fi fg ft fe vs)) (wsSet i (wLc (wiOf fi) fg ft (wOf fe) vs)) := fun r k q => by
  unfold fsSet at q
  split at q
  · rename_i hi
    exact ⟨hi, fLc_W (resW.mono (fun d z => z) (fun _ z => z) (resW_bind q))⟩
  · exact q.elim
theorem setO_parts {i : Nat} {f : FE} {r : Env2} {k : Kt} (q : resW (fsSetO i f r) (fun o => outW o k) k.ex) : i < r.length ∧ resW (f (plain r)) (fun d => (∃ ds, d = .lst ds) ∧ k.nx (r.set i (.own d))) k.ex := by
  unfold fsSetO at q
  split at q
  · rename_i hi
    refine ⟨hi, resW.mono (fun d z => ?_) (fun _ z => z) (resW_bind q)⟩
    cases d <;> first | exact (show False from z).elim | exact ⟨⟨_, rfl⟩, z⟩
  · exact q.elim
theorem imp_setO {i : Nat} {f : FE} : ImpS (fsSetO i f) (wsSetO i (wOf f)) := fun r k q => setO_parts q
theorem imp_ret {f : FE} : ImpS (fsRet f) (wsRet (wOf f)) := fun r k q => resW.mono (fun _ z => z) (fun _ z => z) (resW_bind q)
theorem imp_if {p : FT} {f h : FS} {a b : WS} (h1 : ImpS f a) (h2 : ImpS h b) : ImpS (fsIf p f h) (wsIf p a b) := fun r k q => resW.mono (fun c z => by
  cases c with
  | true => exact h1 r k z
  | false => exact h2 r k z) (fun _ z => z) (resW_bind q)
theorem imp_expr {f : FE} : ImpS (fsExpr f) (wsExpr (wOf f)) := fun r k q => resW.mono (fun _ z => z) (fun _ z => z) (resW_bind q)
theorem imp_raise {c : Str} : ImpS (fsRaise c) (wsRaise c) := fun r k q => q
theorem imp_never : ImpS fsNever wsNever := fun r k q => q
theorem imp_app {i : Nat} {f : FE} : ImpS (fsApp i f) (wsApp i (wOf f)) := fun r k q => by
  unfold fsApp at q
  split at q
  · rename_i ds e
    split at q
    · rename_i hl
      exact ⟨ds, e, hl, resW.mono (fun _ z => z) (fun _ z => z) (resW_bind q)⟩
    · exact q.elim
  · exact q.elim
theorem imp_asg {sg : SG} {f : FE} : ImpS (fsAsg sg f) (wsAsg sg (wOf f)) := fun r k q => resW.mono (fun d z => calm_W (resW.mono (fun _ z => z) (fun _ z => z) (resW_bind z))) (fun _ z => z) (resW_bind q)
theorem forF_W {sg : SG} {f : FS} {a : WS} {k : Kt} (h : ImpS f a) : ∀ {ds : List D} {r : Env2}, resW (forF sg f ds r) (fun o => outW o k) k.ex → forW sg a k ds r
  | [], _, q => q
  | d :: ds, r, q => by
    refine resW.mono (fun r1 z => h r1 _ (resW.mono (fun o y => ?_) (fun _ z => z) (resW_bind z))) (fun _ z => z) (calm_W (resW_bind (show resW ((sg d r).calm.bind _) _ _ from q)))
    cases o with
    | nx r2 => exact forF_W h y
    | ct r2 => exact forF_W h y
    | bk r2 => exact y
    | rt d => exact y
theorem imp_for {fi : FI} {sg : SG} {f : FS} {a : WS} (h : ImpS f a) : ImpS (fsFor fi sg f) (wsFor (wiOf fi) sg a) := fun r k q => resW.mono (fun ds z => forF_W h z) (fun _ z => z) (resW_bind q)
/-- a while of at most n turns -/
def whileF (p : FT) (body : FS) : Nat → Env2 → Res Out
  | 0, _ => .bad
  | n + 1, r => (p (allv r)).bind fun b => if b = true then (body r).bind fun o => (match o with
    | .nx r2 => whileF p body n r2
    | .ct r2 => whileF p body n r2
    | .bk r2 => .ok (.nx r2)
    | .rt d => .ok (.rt d)) else .ok (.nx r)
def fsWhile (n : Nat) (p : FT) (body : FS) : FS := fun r => whileF p body n r
theorem whileF_W {p : FT} {f : FS} {a : WS} {k : Kt} (h : ImpS f a) : ∀ {n : Nat} {r : Env2}, resW (whileF p f n r) (fun o => outW o k) k.ex → whileW p a k n r
  | 0, _, q => q
  | n + 1, r, q => by
    refine resW.mono (fun b z => ?_) (fun _ z => z) (resW_bind (show resW ((p (allv r)).bind _) _ _ from q))
    cases b with
    | false => exact z
    | true =>
      refine h r _ (resW.mono (fun o y => ?_) (fun _ z => z) (resW_bind (show resW ((f r).bind _) _ _ from z)))
      cases o with
      | nx r2 => exact whileF_W h y
      | ct r2 => exact whileF_W h y
      | bk r2 => exact y
      | rt d => exact y
theorem imp_while {n : Nat} {p : FT} {f : FS} {a : WS} (h : ImpS f a) : ImpS (fsWhile n p f) (wsWhile p a) := fun r k q => ⟨n, whileF_W h q⟩
/-- a def by a function -/
def outF : Out → Res D
  | .rt d => .ok d
  | .nx _ => .ok .non
  | _ => .bad
def fnF (np n : Nat) (f : FS) : List D → Res D := fun ds => if ds.length = np then (f (initE n ds)).bind outF else .bad
theorem fnF_W {np n : Nat} {f : FS} {a : WS} (h : ImpS f a) {ds : List D} {Q : D → Prop} {Z : Str → Prop} (q : resW (fnF np n f ds) Q Z) : fnW np n a ds Q Z := by
  unfold fnF at q
  split at q
  · rename_i hl
    refine ⟨hl, h _ _ (resW.mono (fun o z => ?_) (fun _ z => z) (resW_bind q))⟩
    cases o with
    | rt d => exact z
    | nx r => exact z
    | bk r => exact (show False from z).elim
    | ct r => exact (show False from z).elim
  · exact q.elim
theorem fn_F {P : Program} {w : World} {K : PySem.W.Frag} {mg : Str → Option Value} {base : Heap} {CX : CXT} {k np n : Nat} {f : Addr} {fd : FuncData} {ps : List Str} {a : WS} {fs : FS} (G : FnOk P w K mg base CX k f fd ps (spW mg (fnW np n a))) (h : ImpS fs a) (hnp : ps.length = np) : FnOk P w K mg base CX k f fd ps (spF mg (fnF np n fs)) :=
  G.imp fun vs H Q E ⟨g, I, ds, rl, x, q⟩ => ⟨g, I, ds, rl, x, fnF_W h (Pst.iff.mp q)⟩

/-! ### expressions by wishes -/
structure WA where
  run : Env → (List D → Prop) → (Str → Prop) → Prop
  mono : ∀ {r : Env} {Q Q' : List D → Prop} {Z Z' : Str → Prop}, (∀ d, Q d → Q' d) → (∀ c, Z c → Z' c) → run r Q Z → run r Q' Z'
def tWA (g : Gd) (mg : Str → Option Value) (E : XK) (w : WA) : TA := fun σ H Q => ∃ I r, Rl g I H ∧ ER g I σ r ∧ w.run r (endW g (DRs g) I H Q) (excW g mg E I H)
def waNil : WA := ⟨fun _ Q _ => Q [], fun h _ q => h _ q⟩
def waCons (w : WE) (k : WA) : WA := ⟨fun r Q Z => w.run r (fun d => k.run r (fun ds => Q (d :: ds)) Z) Z, fun h h2 q => w.mono (fun _ z => k.mono (fun _ z => h _ z) h2 z) h2 q⟩
def waOf (f : FA) : WA := ⟨fun r Q Z => resW (f r) Q Z, fun h h2 q => resW.mono h h2 q⟩
section
variable {X : Cx} {g : Gd} {E : XK} {e a b : Expr} {es : List Expr} {w wa wb : WE} {ka : WA} {pos p : Pos}
theorem wa_nil : PA X [] (tWA g X.mg E waNil) := pa_nil.imp fun σ H Q h => by
  obtain ⟨I, r, rl, er, h⟩ := h
  exact h [] I H rl.stp .nil
theorem wa_cons (he : PE X e (tW g X.mg E w)) (hk : PA X es (tWA g X.mg E ka)) (hs : starEach (e :: es) X.env = (false, eval e X.env) :: starEach es X.env := by rfl) : PA X (e :: es) (tWA g X.mg E (waCons w ka)) :=
  (pa_cons he hk hs).imp fun σ H Q h => by
    obtain ⟨I, r, rl, er, h⟩ := h
    refine ⟨I, r, rl, er, w.mono (fun d z v I1 H1 s1 x1 => ?_) (fun _ z => z) h⟩
    exact ⟨I1, r, s1.rl, er.mono s1.mono, ka.mono (fun ds z vs I2 H2 s2 x2 => z (v :: vs) I2 H2 (s1.trans s2) (.cons (x1.mono s2.mono) x2)) (fun c z => excW.step s1 z) z⟩
theorem wa_of {f : FA} (h : PA X es (tFA g X.mg E f)) : PA X es (tWA g X.mg E (waOf f)) := h.imp fun σ H Q q => by
  obtain ⟨I, r, rl, er, q⟩ := q
  exact ⟨I, r, rl, er, Pst.iff.mpr q⟩
/-- how many -/
def LenW (k : WA) (n : Nat) : Prop := ∀ r Q Z, k.run r Q Z → k.run r (fun ds => ds.length = n ∧ Q ds) Z
theorem lenw_nil : LenW waNil 0 := fun r Q Z q => ⟨rfl, q⟩
theorem lenw_cons {n : Nat} (h : LenW ka n) : LenW (waCons w ka) (n + 1) := fun r Q Z q => w.mono (fun d z => ka.mono (fun ds y => ⟨by rw [List.length_cons, y.1], y.2⟩) (fun _ z => z) (h r _ _ z)) (fun _ z => z) q
def wTup (k : WA) : WE := ⟨fun r Q Z => k.run r (fun ds => Q (.tup ds)) Z, fun h h2 q => k.mono (fun _ z => h _ z) h2 q⟩
def wLst (k : WA) : WE := ⟨fun r Q Z => k.run r (fun ds => Q (.lst ds)) Z, fun h h2 q => k.mono (fun _ z => h _ z) h2 q⟩
theorem w_tup {x1 n : Nat} (hk : PA X es (tWA g X.mg E ka)) (hl : LenW ka n) (hn : n ≤ 100000 := by decide) : PE X (.Tuple es x1 pos) (tW g X.mg E (wTup ka)) :=
  (pe_tupX hk).imp fun σ H Q h => by
    obtain ⟨I, r, rl, er, h⟩ := h
    refine ⟨I, r, rl, er, ka.mono (fun ds z vs I1 H1 s1 x1 => ⟨small_line ?_, fun p u hp hu => ?_⟩) (fun _ z => z) (hl r _ _ h)⟩
    · rw [x1.len, z.1]; exact hn
    · have s2 := s1.rl.put (o := u) hp hu.nt
      exact z.2 _ _ _ (s1.trans s2) (.tup upd_same hu (x1.mono s2.mono))
theorem o_lst {n : Nat} (hk : PA X es (tWA g X.mg E ka)) (hl : LenW ka n) (hn : n ≤ 100000 := by decide) : PE X (.List es pos) (tO g X.mg E (wLst ka)) :=
  (pe_lst hk).imp fun σ H Q h => by
    obtain ⟨I, r, rl, er, h⟩ := h
    refine ⟨I, r, rl, er, ka.mono (fun ds z vs I1 H1 s1 x1 => ⟨small_line ?_, fun p hp => ?_⟩) (fun _ z => z) (hl r _ _ h)⟩
    · rw [x1.len, z.1]; exact hn
    · have s2 := s1.rl.lay (o := .lst vs) hp
      exact z.2.2 p I1 _ (s1.trans s2) (s1.back (NT.of hp)) (s1.rl.nz hp) (s1.rl.out hp) fun es e => by
        cases e
        exact ⟨vs, upd_same, x1⟩
/-- [..] of plain values, one's own -/
theorem oF_lst {f : FA} {n : Nat} (hk : PA X es (tFA g X.mg E f)) (hl : Len f n) (hn : n ≤ 100000 := by decide) : PE X (.List es pos) (tO g X.mg E (wOf (fLst f))) :=
  (o_lst (wa_of hk) (fun r Q Z q => by
    show resW (f r) _ _
    have q' : resW (f r) Q Z := q
    cases e : f r with
    | ok ds => rw [e] at q'; exact ⟨hl r ds e, q'⟩
    | exc c => rw [e] at q'; exact q'
    | bad => rw [e] at q'; exact q') hn).imp fun σ H Q h => by
    obtain ⟨I, r, rl, er, h⟩ := h
    exact ⟨I, r, rl, er, resW.mono (fun _ z => z) (fun _ z => z) (resW_bind h)⟩
def wOp (dop : D → D → Res D) (wa wb : WE) : WE := ⟨fun r Q Z => wa.run r (fun x => wb.run r (fun y => resW (dop x y) Q Z) Z) Z, fun h h2 q => wa.mono (fun _ z => wb.mono (fun _ z => resW.mono h h2 z) h2 z) h2 q⟩
theorem wOp_of {r2 : R2} {dop : D → D → Res D} (ho : OpD g X.mg E r2 dop) {σ : L2.St} {H : Hp} {Q : VK} (h : tW g X.mg E (wOp dop wa wb) σ H Q) : tOp r2 (tW g X.mg E wa) (tW g X.mg E wb) σ H Q := by
  obtain ⟨I, r, rl, er, h⟩ := h
  refine ⟨I, r, rl, er, wa.mono (fun x z v I1 H1 s1 x1 => ?_) (fun _ z => z) h⟩
  refine ⟨I1, r, s1.rl, er.mono s1.mono, wb.mono (fun y z u I2 H2 s2 x2 => ?_) (fun c z => excW.step s1 z) z⟩
  exact ho I2 H2 x y v u Q s2.rl (x1.mono s2.mono) x2 (Pst.iff.mpr (resW.mono (fun d z => endW.step (s1.trans s2) z) (fun c z => excW.step (s1.trans s2) z) z))
theorem w_op {op : Operator} {r2 : R2} {dop : D → D → Res D} (hr : OpR X (binaryOp op) r2) (ho : OpD g X.mg E r2 dop) (ha : PE X a (tW g X.mg E wa)) (hb : PE X b (tW g X.mg E wb)) : PE X (.BinOp a op b pos) (tW g X.mg E (wOp dop wa wb)) := (pe_op hr ha hb).imp fun _ _ _ h => wOp_of ho h
theorem w_add (ha : PE X a (tW g X.mg E wa)) (hb : PE X b (tW g X.mg E wb)) : PE X (.BinOp a .Add b pos) (tW g X.mg E (wOp dAdd wa wb)) := w_op (op_add.or (op_add_str.or (op_catX.or op_cat))) od_add ha hb
theorem w_ix (ha : PE X a (tW g X.mg E wa)) (hb : PE X b (tW g X.mg E wb)) (hs : PlainIx b := by exact fun _ _ => rfl) : PE X (.Subscript a b pos) (tW g X.mg E (wOp dIx wa wb)) := (pe_ix ix_seq ha hb hs).imp fun _ _ _ h => wOp_of od_ix h
def wCB (dop : List D → Res D) (k : WA) : WE := ⟨fun r Q Z => k.run r (fun ds => resW (dop ds) Q Z) Z, fun h h2 q => k.mono (fun _ z => resW.mono h h2 z) h2 q⟩
theorem wCB_of {rr : List V → Hp → VK → Prop} {dop : List D → Res D} (hd : CaD g X.mg E rr dop) {σ : L2.St} {H : Hp} {Q : VK} (h : tW g X.mg E (wCB dop ka) σ H Q) : tCB rr (tWA g X.mg E ka) σ H Q := by
  obtain ⟨I, r, rl, er, h⟩ := h
  refine ⟨I, r, rl, er, ka.mono (fun ds z vs I1 H1 s1 x1 => ?_) (fun _ z => z) h⟩
  exact hd I1 H1 ds vs Q s1.rl x1 (Pst.iff.mpr (resW.mono (fun d z => endW.step s1 z) (fun c z => excW.step s1 z) z))
theorem w_callTy {x : Str} {T : String} {rr : List V → Hp → VK → Prop} {dop : List D → Res D} (hc : CallR X (.type T) rr) (hd : CaD g X.mg E rr dop) (hg : Gl X x) (hm : X.mg x = none) (hv : bootBuiltins x = some (.type T)) (ha : PA X (e :: es) (tWA g X.mg E ka)) (hn : x ≠ "__name__" := by decide) (hdb : (x == ("__debug__" : Str)) = false := by decide)
    (he : starEach (e :: es) X.env = (false, eval e X.env) :: starEach es X.env := by rfl) (hpl : (backTo pos (starEach es X.env)).any (·.1) = false := by rfl) : PE X (.Call (.Name x p) (e :: es) [] pos) (tW g X.mg E (wCB dop ka)) := (pe_callTy hc hg hm hv ha hn hdb he hpl).imp fun _ _ _ h => wCB_of hd h
theorem w_tuple (hg : Gl X "tuple") (hm : X.mg "tuple" = none) (ha : PA X (e :: es) (tWA g X.mg E ka)) (he : starEach (e :: es) X.env = (false, eval e X.env) :: starEach es X.env := by rfl) (hpl : (backTo pos (starEach es X.env)).any (·.1) = false := by rfl) : PE X (.Call (.Name "tuple" p) (e :: es) [] pos) (tW g X.mg E (wCB dTuple ka)) := w_callTy call_tupleX cd_tuple hg hm (by decide +kernel) ha (by decide) (by decide) he hpl
/-- a call of a def that draws -/
abbrev FnW := List D → (D → Prop) → (Str → Prop) → Prop
structure MonoW (f : FnW) : Prop where
  mono : ∀ {ds : List D} {Q Q' : D → Prop} {Z Z' : Str → Prop}, (∀ d, Q d → Q' d) → (∀ c, Z c → Z' c) → f ds Q Z → f ds Q' Z'
theorem mono_fnW {np n : Nat} {a : WS} : MonoW (fnW np n a) := ⟨fun h h2 q => ⟨q.1, a.mono (k := { nx := _, rt := _, bk := fun _ => False, ct := fun _ => False, ex := _ }) ⟨fun _ z => h _ z, h, fun _ z => z, fun _ z => z, h2⟩ q.2⟩⟩
def wCall (f : FnW) (m : MonoW f) (k : WA) : WE := ⟨fun r Q Z => k.run r (fun ds => f ds Q Z) Z, fun h h2 q => k.mono (fun _ z => m.mono h h2 z) h2 q⟩
theorem w_call {x : Str} {CX : CXT} {kl : Nat} {f : Addr} {fd : FuncData} {ps : List Str} {fn : FnW} (m : MonoW fn) (F : FnOk X.prog X.w X.K X.mg X.base CX kl f fd ps (spW X.mg fn)) (hr : Room kl X.A) (hg : Gl X x) (hm : X.mg x = some (.ref f)) (hk : PySem.W.keepIn X.K (.ref f) = true) (hb : Binds X.K fd ps []) (hx : Passes CX X E)
    (ha : PA X (e :: es) (tWA g X.mg E ka)) (hdb : (x == ("__debug__" : Str)) = false := by decide) (he : starEach (e :: es) X.env = (false, eval e X.env) :: starEach es X.env := by rfl) (hpl : (backTo pos (starEach es X.env)).any (·.1) = false := by rfl) :
    PE X (.Call (.Name x p) (e :: es) [] pos) (tW g X.mg E (wCall fn m ka)) :=
  (pe_call F hr hg hm hk hb .nil hx ha hdb he hpl).imp fun σ H Q h => by
    obtain ⟨I, r, rl, er, h⟩ := h
    refine ⟨I, r, rl, er, ka.mono (fun ds z vs I1 H1 s1 x1 => ?_) (fun _ z => z) h⟩
    show spW X.mg fn (vs ++ []) H1 Q E
    rw [List.append_nil]
    exact ⟨g, I1, ds, s1.rl, x1, m.mono (fun d z => endW.step s1 z) (fun c z => excW.step s1 z) z⟩
/-- range(e), e drawn -/
def wiA (d : List D → Res (List D)) (k : WA) : WI := ⟨fun r Q Z => k.run r (fun ds => resW (d ds) Q Z) Z, fun h h2 q => k.mono (fun _ z => resW.mono h h2 z) h2 q⟩
theorem iw_range1 {tg : Expr} (hg : Gl X "range") (hm : X.mg "range" = none) (ha : PA X [a] (tWA g X.mg E ka)) (hs : starEach [a] X.env = [(false, eval a X.env)] := by rfl) : PI X tg (.Call (.Name "range" p) [a] [] pos) (tWI g X.mg E (wiA dRange1 ka)) :=
  (pi_range1 hg hm ha hs).imp fun σ H R q => by
    obtain ⟨I, r, rl, er, q⟩ := q
    refine ⟨I, r, rl, er, ka.mono (fun ds h1 vs I1 H1 s1 x1 => ?_) (fun _ z => z) q⟩
    unfold dRange1 at h1
    split at h1
    · split at h1
      · rename_i c
        cases x1 with
        | cons y t =>
          cases t; cases y
          exact ⟨_, rfl, by omega, by omega, h1 _ I1 H1 s1 src_range⟩
      · exact h1.elim
    · exact h1.elim
end
end FW
/-! Sets of tuples of any depth (texts, numbers, None within): set(x), its length. -/
namespace FW
open PySem PySem.Spec PyProof.Rows L2

/-- the tuple at b is the key k -/
def NIs (h : Heap) (k : NestedKey) (b : Addr) : Prop := NestedIs h k (.ref b) ∧ k.depth ≤ 8
theorem NIs.keep {h h' : Heap} {k : NestedKey} {b : Addr} (x : NIs h k b) (s : ∀ c o, h.get? c = some o → h'.get? c = some o) : NIs h' k b := ⟨NestedIs.at (fun c o _ _ e _ => s c o e) k _ x.1, x.2⟩
/-- a set that changes is no tuple -/
theorem NIs.beside {h h' : Heap} {k : NestedKey} {a b : Addr} {o : Obj} {es : Array (Int × Value)} {ep : Nat} {t : SetTable} (x : NIs h k b) (ho : h.get? a = some o) (hd : o.data = .set es ep t) (s : Heap.SameBut a h h') : NIs h' k b :=
  ⟨NestedIs.at (fun c u _ _ e q => (s.2 c fun z => by
    rw [z, ho] at e
    cases e
    rw [hd] at q
    cases q).trans e) k _ x.1, x.2⟩
section
variable {P : Program} {w : World} {A : Around} {E : Value → Shared → Prop} {s : Shared}
mutual
theorem ofClass_key : ∀ (k : NestedKey) (v : Value) (n : Nat) (Q : Bool → Shared → Prop), NestedIs s.heap k v → k.depth ≤ n → Q false s → wpAny (model P w) A (ofAClassStatement n v) Q E s
  | .none, _, n, Q, x, _, h => by cases x; cases n <;> exact wpAny_pure h
  | .num i, _, n, Q, x, _, h => by cases x <;> cases n <;> exact wpAny_pure h
  | .text y, _, n, Q, x, _, h => by cases x; cases n <;> exact wpAny_pure h
  | .tup ks, _, 0, Q, x, hn, h => absurd hn (by rw [NestedKey.depth]; omega)
  | .tup ks, _, n + 1, Q, x, hn, h => by
    cases x with
    | tup ho hc hd hk =>
      rename_i b o vs m
      rw [NestedKey.depth] at hn
      have all := ofClass_keys ks vs.toList n hk (by omega)
      have ty : s.TypeIs (.ref b) "tuple" := ⟨o, ho, hc⟩
      unfold ofAClassStatement
      refine wpAny_bind (wpAny_typeOf ty ?_)
      dsimp only
      simp only [show (("tuple" : String) == "tuple") = true from by decide, if_true, Bool.not_true, Bool.false_eq_true, if_false]
      try refine wpAny_bind (wpAny_pure ?_)
      try simp only [Bool.not_true, Bool.false_eq_true, if_false]
      show wpAny _ _ (seqItems? (.ref b) >>= _) _ _ s
      refine wpAny_bind (wpAny_seqItems ho hd ?_)
      dsimp only
      refine wpAny_bind ?_
      show wpAny _ _ (forIn vs _ _) _ _ s
      rw [← Array.forIn_toList]
      refine wpAny_forIn_list _ (fun rest r s' => r.1 = none ∧ s' = s ∧ ∀ v ∈ rest, ∀ Q : Bool → Shared → Prop, Q false s → wpAny (model P w) A (ofAClassStatement n v) Q E s) _ ?_ ?_ _ _ ⟨rfl, rfl, all⟩
      · rintro v rest r s' ⟨hr, rfl, al⟩
        refine wpAny_bind (al v List.mem_cons_self _ ?_)
        simp only [Bool.false_eq_true, if_false]
        exact wpAny_pure ⟨rfl, rfl, fun u hu => al u (List.mem_cons_of_mem _ hu)⟩
      · rintro ⟨r1, r2⟩ s' ⟨hr, rfl, _⟩
        simp only at hr
        subst hr
        exact wpAny_pure h
theorem ofClass_keys : ∀ (ks : List NestedKey) (vs : List Value) (n : Nat), NestedAll s.heap ks vs → NestedKey.depthAll ks ≤ n → ∀ v ∈ vs, ∀ Q : Bool → Shared → Prop, Q false s → wpAny (model P w) A (ofAClassStatement n v) Q E s
  | [], _, n, x, _, v, hv => by cases x; cases hv
  | k :: ks, _, n, x, hn, v, hv => by
    cases x with
    | cons x xs =>
      rw [NestedKey.depthAll] at hn
      rcases List.mem_cons.mp hv with z | z
      · rw [z]; exact fun Q h => ofClass_key k _ n Q x (by omega) h
      · exact ofClass_keys ks _ n xs (by omega) v z
end
mutual
/-- hashed by value, or not: either way nothing happens -/
theorem hashBy_key : ∀ (k : NestedKey) (v : Value) (n : Nat) (Q : Bool → Shared → Prop), NestedIs s.heap k v → k.depth ≤ n → (∀ b, Q b s) → wpAny (model P w) A (hashByValue n v) Q E s
  | .none, _, n, Q, x, _, h => by cases x; cases n <;> exact wpAny_pure (h _)
  | .num i, _, n, Q, x, _, h => by cases x <;> cases n <;> exact wpAny_pure (h _)
  | .text y, _, n, Q, x, _, h => by cases x; cases n <;> exact wpAny_pure (h _)
  | .tup ks, _, 0, Q, x, hn, h => absurd hn (by rw [NestedKey.depth]; omega)
  | .tup ks, _, n + 1, Q, x, hn, h => by
    cases x with
    | tup ho hc hd hk =>
      rename_i b o vs m
      rw [NestedKey.depth] at hn
      have all := hashBy_keys ks vs.toList n hk (by omega)
      have ty : s.TypeIs (.ref b) "tuple" := ⟨o, ho, hc⟩
      unfold hashByValue
      refine wpAny_bind (wpAny_specialOf ty F.slot_tuple_hash.lookup ?_)
      show wpAny _ _ (seqItems? (.ref b) >>= _) _ _ s
      refine wpAny_bind (wpAny_seqItems ho hd ?_)
      refine wpAny_bind ?_
      show wpAny _ _ (forIn vs _ _) _ _ s
      rw [← Array.forIn_toList]
      refine wpAny_forIn_list _ (fun rest r s' => s' = s ∧ ∀ v ∈ rest, ∀ Q : Bool → Shared → Prop, (∀ b, Q b s) → wpAny (model P w) A (hashByValue n v) Q E s) _ ?_ ?_ _ _ ⟨rfl, all⟩
      · rintro v rest r s' ⟨rfl, al⟩
        refine wpAny_bind (al v List.mem_cons_self _ fun c => ?_)
        cases c with
        | true =>
          simp only [Bool.not_true, Bool.false_eq_true, if_false]
          exact wpAny_pure ⟨rfl, fun u hu => al u (List.mem_cons_of_mem _ hu)⟩
        | false =>
          simp only [Bool.not_false, if_true]
          exact wpAny_pure (wpAny_pure (h _))
      · rintro ⟨r1, r2⟩ s' ⟨rfl, _⟩
        cases r1 with
        | none => exact wpAny_pure (h _)
        | some c => exact wpAny_pure (h _)
theorem hashBy_keys : ∀ (ks : List NestedKey) (vs : List Value) (n : Nat), NestedAll s.heap ks vs → NestedKey.depthAll ks ≤ n → ∀ v ∈ vs, ∀ Q : Bool → Shared → Prop, (∀ b, Q b s) → wpAny (model P w) A (hashByValue n v) Q E s
  | [], _, n, x, _, v, hv => by cases x; cases hv
  | k :: ks, _, n, x, hn, v, hv => by
    cases x with
    | cons x xs =>
      rw [NestedKey.depthAll] at hn
      rcases List.mem_cons.mp hv with z | z
      · rw [z]; exact fun Q h => hashBy_key k _ n Q x (by omega) h
      · exact hashBy_keys ks _ n xs (by omega) v z
end
/-- a search among such tuples shows nothing -/
theorem unseen_key {k : NestedKey} {b : Addr} {Q : Bool → Shared → Prop} (hk : NIs s.heap k b) {ys : List Value} (hy : ∀ y ∈ ys, ∃ k' c, y = Value.ref c ∧ NIs s.heap k' c) (h : Q false s) : wpAny (model P w) A (searchCouldBeSeen (.ref b) ys) Q E s := by
  unfold searchCouldBeSeen
  refine wpAny_bind ?_
  refine wpAny_forIn_list _ (fun rest r s' => r.1 = none ∧ s' = s ∧ ∀ y ∈ rest, ∃ k' c, y = Value.ref c ∧ NIs s.heap k' c) _ ?_ ?_ _ _ ⟨rfl, rfl, hy⟩
  · rintro v rest r s' ⟨hr, rfl, al⟩
    obtain ⟨k', c, rfl, hc⟩ := al v List.mem_cons_self
    have more : ∀ y ∈ rest, ∃ k' c, y = Value.ref c ∧ NIs s'.heap k' c := fun u hu => al u (List.mem_cons_of_mem _ hu)
    dsimp only
    by_cases hv : (b == c || (carriedByValue (.ref b) && carriedByValue (.ref c))) = true
    · exact wp_if_pos hv (wpAny_pure ⟨rfl, rfl, more⟩)
    · refine wp_if_neg hv ?_
      refine wpAny_bind (quiet_key k _ 8 s' hk.1 hk.2 _ _ _ ?_)
      simp only [Bool.not_true, Bool.false_eq_true, if_false]
      refine wpAny_bind (quiet_key k' _ 8 s' hc.1 hc.2 _ _ _ ?_)
      simp only [Bool.not_true, Bool.false_eq_true, if_false]
      refine wpAny_bind (ofClass_key k _ 8 _ hk.1 hk.2 ?_)
      simp only [Bool.false_eq_true, if_false]
      refine wpAny_bind (ofClass_key k' _ 8 _ hc.1 hc.2 ?_)
      simp only [Bool.false_eq_true, if_false]
      exact wpAny_pure ⟨rfl, rfl, more⟩
  · rintro ⟨r1, r2⟩ s' ⟨hr, rfl, _⟩
    simp only at hr
    subst hr
    exact wpAny_pure h

/-! ### the set -/
abbrev NL := List (Addr × NestedKey)
def nrows (w : World) (L : NL) : List (Int × Value) := L.map fun p => (p.2.hash w, Value.ref p.1)
structure SetN (w : World) (h : Heap) (a : Addr) (L : NL) (es : Array (Int × Value)) (ep : Nat) (t : SetTable) : Prop where
  ob : ∃ o, h.get? a = some o ∧ o.ExactSet ∧ o.data = .set es ep t
  rows : es.toList = nrows w L
  tab : TabOk t (L.map fun p => p.2.hash w)
  nd : (L.map (·.2)).Nodup
  key : ∀ p ∈ L, NIs h p.2 p.1
  room : L.length * 5 < t.mask * 3
  few : L.length < 64
variable {a : Addr} {L : NL} {es : Array (Int × Value)} {ep : Nat} {t : SetTable}
theorem nrows_size {es : Array (Int × Value)} {L : NL} (h : es.toList = nrows w L) : es.size = L.length := by
  have q := congrArg List.length h
  unfold nrows at q
  rw [Array.length_toList, List.length_map] at q
  exact q
theorem SetN.size (R : SetN w s.heap a L es ep t) : es.size = L.length := nrows_size R.rows
theorem fits_of {n : Nat} (h1 : t.place.size = n) (h2 : t.dummies = #[]) (h3 : n ≤ t.mask) : t.fits n = true := by
  unfold SetTable.fits SetTable.fill
  rw [h2, Bool.and_eq_true, beq_iff_eq, decide_eq_true_eq]
  show t.place.size = n ∧ t.place.size + 0 ≤ t.mask
  omega
theorem SetN.fits (R : SetN w s.heap a L es ep t) : t.fits es.size = true := by
  have h1 := R.tab.sz
  rw [List.length_map] at h1
  have h2 := R.size
  have h3 := R.room
  exact fits_of (by omega) R.tab.dm (by omega)
theorem SetN.entry (R : SetN w s.heap a L es ep t) {i : Nat} {p : Addr × NestedKey} (h : L[i]? = some p) : es[i]? = some (p.2.hash w, Value.ref p.1) := by
  rw [← Array.getElem?_toList, R.rows]
  unfold nrows
  rw [List.getElem?_map, h]; rfl
abbrev probeAt (m : Nat) (h : Int) (c : Nat) : SetTable.Probe := nth m (runAt m (SetTable.bits h % (m + 1)) (SetTable.bits h)) c
theorem probe_calm (m : Nat) (h : Int) (c : Nat) : (probeAt m h c).dummy = none := by
  have all : ∀ (n : Nat) (p : SetTable.Probe), p.dummy = none → (nth m p n).dummy = none := by
    intro n
    induction n with
    | zero => exact fun p q => q
    | succ n ih =>
      intro p q
      refine ih (adv m p) ?_
      unfold adv
      split <;> exact q
  exact all c _ rfl
theorem n_search (R : SetN w s.heap a L es ep t) {x : Addr} {k : NestedKey} (hx : NIs s.heap k x) (hu : A.units + 8 < cLine) {K : Nat} (hKf : K < 10 * SetTable.turns t.mask)
    (hK : way t.mask (k.hash w) K ∉ t.place.toList) (hKb : ∀ c, c < K → way t.mask (k.hash w) c ∈ t.place.toList) {Q : SetFound → Shared → Prop}
    (hin : k ∈ L.map (·.2) → Q (.there none) s) (hout : k ∉ L.map (·.2) → Q (.free (way t.mask (k.hash w) K) false) s) :
    ∀ (f c : Nat) (stand : Option SetTable.Probe), stand.getD (t.probeStart (k.hash w)) = probeAt t.mask (k.hash w) c → c ≤ K → K - c < f →
      (∀ (i : Nat) p, L[i]? = some p → p.2 = k → ∃ c', c ≤ c' ∧ c' < K ∧ t.place.toList[i]? = some (way t.mask (k.hash w) c')) →
      wpAny (model P w) A (setSearchFrom a (.ref x) (k.hash w) true f stand) Q E s := by
  intro f
  induction f with
  | zero => exact fun c stand _ _ hf _ => absurd hf (Nat.not_lt_zero _)
  | succ f ih =>
    intro c stand hst hc hf hre
    obtain ⟨o, ho, hex, hd⟩ := R.ob
    rw [setSearchFrom_succ]
    refine wpAny_bind (wpAny_setState_of ho hd R.fits ?_)
    dsimp only
    refine wp_if_neg (by unfold SetTable.gaveWay; rw [mask_odd R.tab.mok]; decide) ?_
    try refine wpAny_bind (wpAny_pure ?_)
    have sh : ∀ q, nth t.mask (probeAt t.mask (k.hash w) c) q = probeAt t.mask (k.hash w) (c + q) := fun q => (nth_add t.mask c _ q).symm
    have e1 : ∀ q, (nth t.mask (probeAt t.mask (k.hash w) c) q).j = way t.mask (k.hash w) (c + q) := fun q => congrArg SetTable.Probe.j (sh q)
    have spec := go_spec t R.tab.ris R.tab.dm (fun i => (es[i]?.map (·.1)).getD 0) (k.hash w) (10 * SetTable.turns t.mask) (K - c) _ (probe_calm t.mask (k.hash w) c) (by omega)
      (fun q hq => by rw [e1]; exact hKb (c + q) (by omega)) (by rw [e1, show c + (K - c) = K by omega]; exact hK)
    have hashAt : ∀ (i : Nat) p, L[i]? = some p → (es[i]?.map (·.1)).getD 0 = p.2.hash w := fun i p hp => by rw [R.entry hp]; rfl
    rcases spec with ⟨q, i, hq, hi, hh, hno, hpr⟩ | ⟨hno, hpr⟩
    · have pr : t.probe (fun i => (es[i]?.map (·.1)).getD 0) (k.hash w) (stand.getD (t.probeStart (k.hash w))) = some (.candidate (way t.mask (k.hash w) (c + q)) i (probeAt t.mask (k.hash w) (c + (q + 1)))) := by
        rw [hst, ← e1, ← sh]
        exact hpr
      rw [pr]
      dsimp only
      rw [e1] at hi
      have hil : i < L.length := by
        have h1 : i < t.place.toList.length := (List.getElem?_eq_some_iff.mp hi).1
        have h2 := R.tab.sz
        rw [List.length_map] at h2
        rw [Array.length_toList] at h1
        omega
      obtain ⟨p, hp⟩ : ∃ p, L[i]? = some p := ⟨_, List.getElem?_eq_getElem hil⟩
      have hm : p ∈ L := List.mem_of_getElem? hp
      have hpk := R.key p hm
      have go : wpAny (model P w) A (searchRest a (.ref x) (k.hash w) true f es t (way t.mask (k.hash w) (c + q)) i (probeAt t.mask (k.hash w) (c + (q + 1)))) Q E s := by
        unfold searchRest
        rw [R.entry hp]
        dsimp only
        refine wpAny_bind (wpAny_holding (eqAt_key p.2 k A s _ _ hpk.1 hx.1 (by have := hx.2; omega) _ _ _ _ ?_))
        refine wpAny_bind (wpAny_setState_of ho hd R.fits ?_)
        dsimp only
        rw [← NestedKey.decide_eq]
        by_cases hkk : p.2 = k
        · exact wp_if_pos (by simp [hkk]) (wpAny_pure (hin (List.mem_map.mpr ⟨p, hm, hkk⟩)))
        · refine wp_if_neg (by simp [hkk]) ?_
          try refine wpAny_bind (wpAny_pure ?_)
          rw [sameMem]
          dsimp only
          have hsl : t.slot (way t.mask (k.hash w) (c + q)) = .live i := slot_live R.tab.ris hi
          simp only [if_true, hsl, R.entry hp]
          refine wpAny_bind (wpAny_isSame_ref_self (wpAny_bind (wpAny_pure ?_)))
          simp only [if_true]
          refine wp_if_neg (by simp [hkk]) ?_
          refine ih (c + (q + 1)) _ rfl (by omega) (by omega) fun i0 p0 h0 hk0 => ?_
          obtain ⟨c', a1, a2, a3⟩ := hre i0 p0 h0 hk0
          refine ⟨c', ?_, a2, a3⟩
          rcases Nat.lt_trichotomy c' (c + q) with z | z | z
          · exact absurd ((hashAt i0 p0 h0).trans (congrArg (NestedKey.hash w) hk0)) (hno (c' - c) i0 (by omega) (by rw [e1, show c + (c' - c) = c' by omega]; exact a3))
          · exfalso
            rw [z] at a3
            have s0 := slot_live R.tab.ris a3
            rw [hsl] at s0
            injection s0 with s0
            rw [← s0, hp] at h0
            exact hkk ((congrArg Prod.snd (Option.some.inj h0)).trans hk0)
          · omega
      by_cases hl : t.led = true
      · refine wp_if_neg (by simp [hl]) ?_
        try refine wpAny_bind (wpAny_pure ?_)
        exact go
      · refine wp_if_pos (by simp [hl]) ?_
        refine wpAny_bind (unseen_key hx (fun y hy => ?_) ?_)
        · obtain ⟨e, he, ee⟩ := List.mem_map.mp hy
          have he1 : e ∈ es.toList := by
            have : e ∈ es ∧ e.1 = k.hash w := by simpa using he
            simpa using this.1
          rw [R.rows] at he1
          obtain ⟨p2, hp2, e2⟩ := List.mem_map.mp he1
          exact ⟨p2.2, p2.1, by rw [← ee, ← e2], R.key p2 hp2⟩
        · refine wp_if_neg (by decide) ?_
          try refine wpAny_bind (wpAny_pure ?_)
          exact go
    · have pr : t.probe (fun i => (es[i]?.map (·.1)).getD 0) (k.hash w) (stand.getD (t.probeStart (k.hash w))) = some (.empty (way t.mask (k.hash w) K) none) := by
        have e2 : way t.mask (k.hash w) K = (nth t.mask (probeAt t.mask (k.hash w) c) (K - c)).j := by rw [e1, show c + (K - c) = K by omega]
        rw [hst, e2]
        exact hpr
      rw [pr]
      dsimp only
      refine wpAny_pure (hout fun hm => ?_)
      obtain ⟨p0, h0, hk0⟩ := List.mem_map.mp hm
      obtain ⟨i0, hi0, e0⟩ := List.getElem_of_mem h0
      have h00 : L[i0]? = some p0 := by rw [List.getElem?_eq_getElem hi0, e0]
      obtain ⟨c', a1, a2, a3⟩ := hre i0 p0 h00 hk0
      exact hno (c' - c) i0 (by omega) (by rw [e1, show c + (c' - c) = c' by omega]; exact a3) ((hashAt i0 p0 h00).trans (congrArg (NestedKey.hash w) hk0))
theorem n_find (R : SetN w s.heap a L es ep t) {x : Addr} {k : NestedKey} (hx : NIs s.heap k x) (hu : A.units + 8 < cLine) {Q : SetFound → Shared → Prop} (hin : k ∈ L.map (·.2) → Q (.there none) s)
    (hout : ∀ K, k ∉ L.map (·.2) → way t.mask (k.hash w) K ∉ t.place.toList → (∀ c, c < K → way t.mask (k.hash w) c ∈ t.place.toList) → Q (.free (way t.mask (k.hash w) K) false) s) : wpAny (model P w) A (setSearch a (.ref x) (k.hash w) true) Q E s := by
  have hroom := R.room
  obtain ⟨K, hKf, hK, hKb⟩ := R.tab.first (by rw [List.length_map]; omega) (k.hash w)
  have big : K < 100000 := by
    have : 10 * SetTable.turns t.mask ≤ 1420 := by
      unfold SetTable.turns
      rcases R.tab.mok with e | e | e <;> omega
    omega
  unfold setSearch
  refine n_search R hx hu hKf hK hKb hin (fun z => hout K z hK hKb) 100000 0 none rfl (Nat.zero_le _) (by omega) fun i p hp hk => ?_
  have hi : (L.map fun p => p.2.hash w)[i]? = some (k.hash w) := by rw [List.getElem?_map, hp, ← hk]; rfl
  have hil : i < t.place.toList.length := by
    have h1 : i < L.length := (List.getElem?_eq_some_iff.mp hp).1
    have h2 := R.tab.sz
    rw [List.length_map] at h2
    rw [Array.length_toList]
    omega
  obtain ⟨c, hc, e⟩ := R.tab.before hK hi (List.getElem?_eq_getElem hil)
  exact ⟨c, Nat.zero_le _, hc, by rw [List.getElem?_eq_getElem hil, e]⟩
theorem n_order (L : NL) (es : Array (Int × Value)) (order : Array Nat) (hr : es.toList = nrows w L) (hp : order.toList.Perm (List.range L.length)) :
    ∃ M : NL, (order.filterMap (es[·]?)).toList = nrows w M ∧ M.Perm L ∧ (M.map fun p => p.2.hash w) = order.toList.map fun i => (es.map (·.1)).getD i 0 := by
  have hsz := nrows_size hr
  have ent : ∀ i (h : i < L.length), es[i]? = some ((L[i]).2.hash w, Value.ref (L[i]).1) := fun i h => by
    rw [← Array.getElem?_toList, hr]
    unfold nrows
    rw [List.getElem?_map, List.getElem?_eq_getElem h]; rfl
  have all : ∀ l : List Nat, (∀ i ∈ l, i < L.length) → l.filterMap (fun i => es[i]?) = nrows w (l.filterMap fun i => L[i]?) ∧ ((l.filterMap fun i => L[i]?).map fun p => p.2.hash w) = l.map fun i => (es.map (·.1)).getD i 0 := by
    intro l
    induction l with
    | nil => exact fun _ => ⟨rfl, rfl⟩
    | cons i l ih =>
      intro hl
      have hi := hl i List.mem_cons_self
      obtain ⟨e1, e2⟩ := ih fun j hj => hl j (List.mem_cons_of_mem _ hj)
      rw [List.filterMap_cons_some (ent i hi), List.filterMap_cons_some (List.getElem?_eq_getElem hi), e1, List.map_cons, List.map_cons, e2]
      refine ⟨rfl, ?_⟩
      have e5 : (es.map (·.1))[i]? = some ((L[i]).2.hash w) := by rw [Array.getElem?_map, ent i hi]; rfl
      have e4 : (es.map (·.1)).getD i 0 = (L[i]).2.hash w := by simp [Array.getD_eq_getD_getElem?, e5]
      rw [e4]
  obtain ⟨e1, e2⟩ := all order.toList fun i hi => List.mem_range.mp (hp.mem_iff.mp hi)
  refine ⟨order.toList.filterMap fun i => L[i]?, by first | (rw [Array.toList_filterMap]; exact e1) | simpa using e1, ?_, e2⟩
  have h2 : ∀ n, n ≤ L.length → (List.range n).filterMap (fun i => L[i]?) = L.take n := by
    intro n
    induction n with
    | zero => exact fun _ => rfl
    | succ n ih =>
      intro hn
      rw [List.range_succ, List.filterMap_append, ih (Nat.le_of_lt hn), List.take_succ, List.getElem?_eq_getElem (show n < L.length from hn), List.filterMap_cons_some (List.getElem?_eq_getElem (show n < L.length from hn))]; rfl
  have h3 := hp.filterMap fun i => L[i]?
  rw [h2 L.length (Nat.le_refl _), List.take_length] at h3
  exact h3
theorem n_relay {o : Obj} (ho : s.heap.get? a = some o) (hex : o.ExactSet) (hd : o.data = .set es ep t) (hr : es.toList = nrows w L) (hsz : t.place.size = es.size) (hdm : t.dummies = #[]) (hfl : es.size ≤ t.mask)
    (nd : (L.map (·.2)).Nodup) (key : ∀ p ∈ L, NIs s.heap p.2 p.1) (few : L.length < 64) {wanted M : Nat} (hw : SetTable.sizeAbove wanted - 1 = M) (hM : MaskOk M) (hw2 : SetTable.sizeAbove wanted ≤ 128) (hn : L.length * 5 < M * 3) {Q : Unit → Shared → Prop}
    (hQ : ∀ h' L' es' ep' t', Heap.SameBut a s.heap h' → SetN w h' a L' es' ep' t' → L'.Perm L → Q () { s with heap := h' }) : wpAny (model P w) A (setRelay a wanted) Q E s := by
  have hsl := nrows_size hr
  obtain ⟨t', order, e, hp, T, em, el, ep', ed⟩ := relaid_ok t (hs := es.map (·.1)) (wanted := wanted) hw hM (by rw [Array.size_map, hsl]; omega)
  rw [Array.size_map, hsl] at hp
  obtain ⟨L2, r1, r2, r3⟩ := n_order L es order hr hp
  rw [← r3] at T
  have hs2 : (order.filterMap (es[·]?)).size = es.size := by rw [nrows_size r1, r2.length_eq, hsl]
  rw [setRelay_eq]
  refine wpAny_bind (wpAny_setState_of ho hd (fits_of hsz hdm hfl) ?_)
  dsimp only
  refine wp_if_neg (by rw [sizeLine_eq]; omega) ?_
  try refine wpAny_bind (wpAny_pure ?_)
  rw [e]
  dsimp only
  refine wpAny_bind ?_
  refine wp_if_neg (by rw [hs2]; simp) ?_
  try refine wpAny_bind (wpAny_pure ?_)
  refine wpAny_pure ?_
  dsimp only
  refine wpAny_storeSet_of ho hd ?_ (by rw [hs2, hsl, sizeLine_eq]; omega)
  have sb : Heap.SameBut a s.heap (s.heap.update a (Obj.putSet (order.filterMap (es[·]?)) t')) := Heap.SameBut.update ..
  exact hQ _ L2 (order.filterMap (es[·]?)) (ep + 1) t' sb ⟨⟨_, store_at ho hd, ⟨hex.1, hex.2.1, hex.2.2⟩, rfl⟩, r1, T, (r2.map (·.2)).nodup_iff.mpr nd, fun p hpm => (key p (r2.mem_iff.mp hpm)).beside ho hd sb, by rw [r2.length_eq, em]; exact hn, by rw [r2.length_eq]; exact few⟩ r2
theorem n_add (R : SetN w s.heap a L es ep t) {x : Addr} {k : NestedKey} (hx : NIs s.heap k x) (hu : A.units + 8 < cLine) (hfew : L.length + 1 < 64) {Q : Bool → Shared → Prop}
    (hQ : ∀ b h' L' es' ep' t', Heap.SameBut a s.heap h' → SetN w h' a L' es' ep' t' → (k ∈ L.map (·.2) → L' = L) → (k ∉ L.map (·.2) → L'.Perm ((x, k) :: L)) → Q b { s with heap := h' }) : wpAny (model P w) A (setAddHashed a (.ref x) (k.hash w)) Q E s := by
  obtain ⟨o, ho, hex, hd⟩ := R.ob
  have hsl := R.size
  have hroom := R.room
  unfold setAddHashed
  refine wpAny_holding ?_
  rw [show (100000 : Nat) = 99999 + 1 from rfl, setAddHashedIn_succ]
  refine wpAny_bind (wpAny_setState_of ho hd R.fits ?_)
  dsimp only
  refine wp_if_neg (by simp [byScan, Value.scannable]) ?_
  try refine wpAny_bind (wpAny_pure ?_)
  refine wpAny_bind (n_find R hx hu (fun hm => ?_) fun K hm hK hb => ?_)
  · dsimp only
    exact wpAny_pure (hQ false s.heap L es ep t (Heap.SameBut.refl a s.heap) R (fun _ => rfl) fun z => absurd hm z)
  · dsimp only
    refine wpAny_bind (wpAny_setState_of ho hd R.fits ?_)
    dsimp only
    obtain ⟨q1, q2, q3, q4, q5, q6, q7, q8, q9⟩ := R.tab.put hK hb
    generalize hpt : t.put (way t.mask (k.hash w) K) = pt at q1 q3 q4 q5 q6 q7 q8 q9 ⊢
    obtain ⟨t1, p⟩ := pt
    dsimp only at q1 q3 q4 q5 q6 q7 q8 q9 ⊢
    subst q1
    have hin : (SetTable.insertAt es (SetTable.below t.place (way t.mask (k.hash w) K)) (k.hash w, Value.ref x)).toList = nrows w (L.take (SetTable.below t.place (way t.mask (k.hash w) K)) ++ (x, k) :: L.drop (SetTable.below t.place (way t.mask (k.hash w) K))) := by
      rw [SetTable.toList_insertAt, R.rows]
      unfold nrows
      rw [List.map_append, List.map_cons, List.map_take, List.map_drop]
    generalize hpp : SetTable.below t.place (way t.mask (k.hash w) K) = p at q2 q3 hin ⊢
    have pm := put_perm L p (x, k)
    have hlen : (L.take p ++ (x, k) :: L.drop p).length = L.length + 1 := pm.length_eq
    have hhs : (L.take p ++ (x, k) :: L.drop p).map (fun p => p.2.hash w) = (L.map fun p => p.2.hash w).take p ++ k.hash w :: (L.map fun p => p.2.hash w).drop p := by rw [List.map_append, List.map_cons, List.map_take, List.map_drop]
    rw [← hhs] at q3
    have nd1 : ((L.take p ++ (x, k) :: L.drop p).map (·.2)).Nodup := by
      refine (pm.map (·.2)).nodup_iff.mpr ?_
      rw [List.map_cons]
      exact List.nodup_cons.mpr ⟨hm, R.nd⟩
    have hes := nrows_size hin
    rw [hlen] at hes
    generalize SetTable.insertAt es p (k.hash w, Value.ref x) = es1 at hin hes ⊢
    generalize L.take p ++ (x, k) :: L.drop p = L1 at pm hlen q3 nd1 hin
    have fin : ∀ t2 : SetTable, TabOk t2 (L1.map fun p => p.2.hash w) → t2.mask = t.mask → t2.fill = (L.map fun p => p.2.hash w).length + 1 →
        wpAny (model P w) A (do
          storeSet a es1 t2
          if (!false && t2.tooFull) = true then
            setRelay a (SetTable.grown (es.size + 1))
          pure true) Q E s := by
      intro t2 T2 m2 f2
      refine wpAny_bind (wpAny_storeSet_of ho hd ?_ (by rw [hes, sizeLine_eq]; omega))
      have sb : Heap.SameBut a s.heap (s.heap.update a (Obj.putSet es1 t2)) := Heap.SameBut.update ..
      have ho1 := store_at (es' := es1) (t' := t2) ho hd
      generalize s.heap.update a (Obj.putSet es1 t2) = h1 at sb ho1 ⊢
      have key1 : ∀ p ∈ L1, NIs h1 p.2 p.1 := fun p hp => by
        rcases List.mem_cons.mp (pm.mem_iff.mp hp) with e | hp
        · rw [e]; exact hx.beside ho hd sb
        · exact (R.key p hp).beside ho hd sb
      by_cases hf : t2.tooFull = true
      · have hfull : (L.length + 1) * 5 ≥ t2.mask * 3 := by
          have h := hf
          unfold SetTable.tooFull at h
          rw [decide_eq_true_eq, f2, List.length_map] at h
          exact h
        have hsz1 : t2.place.size = es1.size := by
          have h := T2.sz
          rw [List.length_map, hlen] at h
          rw [h, hes]
        have two : (t.mask = 7 ∧ L.length = 4) ∨ (t.mask = 31 ∧ L.length = 18) := by
          rcases R.tab.mok with e | e | e
          · left; rw [m2, e] at hfull; rw [e] at hroom; exact ⟨e, by omega⟩
          · right; rw [m2, e] at hfull; rw [e] at hroom; exact ⟨e, by omega⟩
          · exfalso; rw [m2, e] at hfull; omega
        have go : ∀ M, SetTable.sizeAbove (SetTable.grown (L.length + 1)) - 1 = M → MaskOk M → SetTable.sizeAbove (SetTable.grown (L.length + 1)) ≤ 128 → (L.length + 1) * 5 < M * 3 →
            wpAny (model P w) A (setRelay a (SetTable.grown (L.length + 1))) (fun _ s' => wpAny (model P w) A (pure true) Q E s') E { s with heap := h1 } := fun M z1 z2 z3 z4 =>
          n_relay (s := { s with heap := h1 }) ho1 ⟨hex.1, hex.2.1, hex.2.2⟩ rfl hin hsz1 T2.dm (by rw [hes, m2]; rcases two with ⟨e, e2⟩ | ⟨e, e2⟩ <;> omega) nd1 key1 (by rw [hlen]; exact hfew) z1 z2 z3 (by rw [hlen]; exact z4)
            fun h2 L2 es2 ep2 t3 sb2 R2 pm2 => wpAny_pure (hQ true h2 L2 es2 ep2 t3 (sb.trans sb2) R2 (fun z => absurd z hm) fun _ => pm2.trans pm)
        rw [hsl]
        first
          | (refine wpAny_bind ?_; refine wp_if_pos (by simp [hf]) ?_)
          | (refine wp_if_pos (by simp [hf]) ?_; refine wpAny_bind ?_)
        rcases two with ⟨_, e2⟩ | ⟨_, e2⟩
        · exact go 31 (by rw [e2, size_20]) (.inr (.inl rfl)) (by rw [e2, size_20]; decide) (by omega)
        · exact go 127 (by rw [e2, size_76]) (.inr (.inr rfl)) (by rw [e2, size_76]; decide) (by omega)
      · first
          | refine wp_if_neg (by simp [hf]) ?_
          | (refine wpAny_bind ?_; refine wp_if_neg (by simp [hf]) ?_; refine wpAny_pure ?_)
        refine wpAny_pure (hQ true h1 L1 es1 (ep + 1) t2 sb ⟨⟨_, ho1, ⟨hex.1, hex.2.1, hex.2.2⟩, rfl⟩, hin, T2, nd1, key1, ?_, by rw [hlen]; exact hfew⟩ (fun z => absurd z hm) fun _ => pm)
        have h := hf
        unfold SetTable.tooFull at h
        rw [decide_eq_true_eq, f2, List.length_map] at h
        rw [hlen]
        omega
    by_cases hp1 : t1.plain = true
    · first
        | (refine wpAny_bind ?_; refine wp_if_pos hp1 ?_; refine hashBy_key k _ 8 _ hx.1 hx.2 fun bv => ?_)
        | refine wp_if_pos hp1 (wpAny_bind (hashBy_key k _ 8 _ hx.1 hx.2 fun bv => ?_))
      cases bv with
      | true =>
        simp only [if_true]
        exact fin t1 q3 q4 q9
      | false =>
        simp only [Bool.false_eq_true, if_false]
        exact fin { t1 with plain := false } ⟨q3.ris, q3.dm, q3.sz, q3.mok, q3.bd, q3.reach⟩ q4 q9
    · first
        | (refine wpAny_bind ?_; refine wp_if_neg hp1 ?_; refine wpAny_pure ?_)
        | refine wp_if_neg hp1 (wpAny_bind (wpAny_pure ?_))
      simp only [if_true]
      exact fin t1 q3 q4 q9
end
end FW
/-! len(set(x)), x a tuple of tuples. -/
namespace FW
open PySem PySem.Spec PyProof.Rows L2

/-- what the set has after the first i items -/
structure NGot (ks : NL) (i : Nat) (L : NL) : Prop where
  sub : ∀ p ∈ L, p ∈ ks.take i
  all : ∀ p ∈ ks.take i, p.2 ∈ L.map (·.2)
  len : L.length ≤ i
theorem NGot.zero (ks : NL) : NGot ks 0 [] := ⟨fun p h => (by cases h), fun p h => (by simp at h), Nat.le_refl _⟩
theorem NGot.same {ks L : NL} {i : Nat} {x : Addr × NestedKey} (g : NGot ks i L) (h : ks[i]? = some x) (hm : x.2 ∈ L.map (·.2)) : NGot ks (i + 1) L := by
  have tn := take_next h
  refine ⟨fun p hp => ?_, fun p hp => ?_, Nat.le_succ_of_le g.len⟩
  · rw [tn]; exact List.mem_append_left _ (g.sub p hp)
  · rw [tn] at hp
    rcases List.mem_append.mp hp with z | z
    · exact g.all p z
    · rw [List.mem_singleton.mp z]; exact hm
theorem NGot.more {ks L L' : NL} {i : Nat} {x : Addr × NestedKey} (g : NGot ks i L) (h : ks[i]? = some x) (pm : L'.Perm (x :: L)) : NGot ks (i + 1) L' := by
  have tn := take_next h
  refine ⟨fun p hp => ?_, fun p hp => ?_, ?_⟩
  · rw [tn]
    rcases List.mem_cons.mp (pm.mem_iff.mp hp) with e | z
    · rw [e]; exact List.mem_append_right _ (List.mem_singleton.mpr rfl)
    · exact List.mem_append_left _ (g.sub p z)
  · rw [(pm.map (·.2)).mem_iff, List.map_cons]
    rw [tn] at hp
    rcases List.mem_append.mp hp with z | z
    · exact List.mem_cons_of_mem _ (g.all p z)
    · rw [List.mem_singleton.mp z]; exact List.mem_cons_self
  · have := pm.length_eq
    rw [List.length_cons] at this
    have := g.len
    omega
section
variable {P : Program} {w : World} {A : Around} {E : Value → Shared → Prop} {s : Shared}
theorem SetN.keep {h h' : Heap} {a : Addr} {L : NL} {es : Array (Int × Value)} {ep : Nat} {t : SetTable} (R : SetN w h a L es ep t) (ha : ∀ o, h.get? a = some o → h'.get? a = some o) (ht : ∀ p ∈ L, NIs h' p.2 p.1) : SetN w h' a L es ep t := by
  obtain ⟨o, ho, r⟩ := R.ob
  exact ⟨⟨o, ha o ho, r⟩, R.rows, R.tab, R.nd, ht, R.room, R.few⟩
abbrev emptySet (w : World) : Obj := { cls := .type "set", dict := none, data := .set #[] 0 (.fresh 0 0 (!w.params.followText "set-order")) }
theorem setN_fresh {h : Heap} {a : Addr} (ho : h.get? a = some (emptySet w)) : SetN w h a [] #[] 0 (.fresh 0 0 (!w.params.followText "set-order")) where
  ob := ⟨_, ho, ⟨rfl, rfl, rfl⟩, rfl⟩
  rows := rfl
  tab := ⟨List.Pairwise.nil, rfl, rfl, .inl rfl, fun x hx => (by cases hx), fun i h j hi => (by simp at hi)⟩
  nd := List.nodup_nil
  key := fun p hp => (by cases hp)
  room := (by decide : 0 * 5 < 7 * 3)
  few := (by decide : 0 < 64)
theorem n_update {I : Addr} {fp wr : List Addr} {G : Array GenState → Array GenState → Prop} {n : Nat} {Pv : Nat → Value → Prop} {St : Nat → Shared → Prop} {R : Result → Shared → Prop}
    (W : WalksS P w A.in1 I fp wr G n Pv St) (S : Addr) (hSf : S ∉ fp) (ks : NL) (hn : n = ks.length) (hfew : ks.length < 64) (hval : ∀ i v, Pv i v → ∃ p, ks[i]? = some p ∧ v = .ref p.1)
    (h0 : Heap) (hk : ∀ p ∈ ks, NIs h0 p.2 p.1) (hS0 : h0.get? S = none) (hw0 : ∀ b ∈ wr, h0.get? b = none) (hu : A.in1.units + 9 < cLine) :
    ∀ (k i : Nat) (s : Shared), n - i = k → i ≤ n → St i s → (∀ b o, h0.get? b = some o → s.heap.get? b = some o) → (∃ L es ep t, SetN w s.heap S L es ep t ∧ NGot ks i L) →
      (∀ s' L es ep t, Moved (S :: wr) G s s' → SetN w s'.heap S L es ep t → NGot ks n L → (∀ b o, h0.get? b = some o → s'.heap.get? b = some o) → R (.ok (.ret .none)) s') →
      codeAny (model P w) A (.builtin "set.update.loop" ⟨[.ref S, .ref I], []⟩) R s := by
  have hSw : S ∉ wr := fun h => hSf (W.sub _ h)
  have more : ∀ b ∈ wr, b ∈ S :: wr := fun b hb => List.mem_cons_of_mem _ hb
  have keepM : ∀ {s s' : Shared}, Moved wr G s s' → (∀ b o, h0.get? b = some o → s.heap.get? b = some o) → ∀ b o, h0.get? b = some o → s'.heap.get? b = some o := fun hm kp b o e =>
    hm.heap b o (fun hb => by rw [hw0 b hb] at e; cases e) (kp b o e)
  intro k
  induction k with
  | zero =>
    intro i s hk' hi hst kp ⟨L, es, ep, t, hS, g⟩ hR
    obtain rfl : i = n := by omega
    refine codeAny_builtin F.entry_set_update_loop ?_
    rw [Around.under_plainId F.plain_set_update_loop _]
    show wpAny _ A.in1 (pyNext (.ref I) >>= _) _ _ s
    refine wpAny_bind (W.done s _ _ hst fun s' hm => ?_)
    show wpAny _ A.in1 (ret Value.none) _ _ s'
    have kp' := keepM hm kp
    exact wpAny_pure (hR s' L es ep t (hm.mono more) (hS.keep (fun o e => hm.heap S o hSw e) fun p hp => (hk p (List.mem_of_mem_take (g.sub p hp))).keep kp') g kp')
  | succ k ih =>
    intro i s hk' hi hst kp ⟨L, es, ep, t, hS, g⟩ hR
    have hlt : i < n := by omega
    refine codeAny_builtin F.entry_set_update_loop ?_
    rw [Around.under_plainId F.plain_set_update_loop _]
    show wpAny _ A.in1 (pyNext (.ref I) >>= _) _ _ s
    refine wpAny_bind (W.item i s _ _ hlt hst fun v s' hP hst' hm => ?_)
    obtain ⟨p, hp, rfl⟩ := hval i v hP
    have kp' := keepM hm kp
    have hS' : SetN w s'.heap S L es ep t := hS.keep (fun o e => hm.heap S o hSw e) fun q hq => (hk q (List.mem_of_mem_take (g.sub q hq))).keep kp'
    have hx : NIs s'.heap p.2 p.1 := (hk p (List.mem_of_getElem? hp)).keep kp'
    show wpAny _ A.in1 (holding [Value.ref p.1] (setAdd S (.ref p.1)) >>= _) _ _ s'
    refine wpAny_bind (wpAny_holding ?_)
    unfold setAdd
    refine wpAny_holding ?_
    have hd8 := hx.2
    refine wpAny_bind (pyHash_key p.2 _ _ _ _ hx.1 (by omega) ?_)
    refine n_add (s := { s' with toks := s'.toks + p.2.draws }) hS' hx (by omega) (by have := g.len; omega) fun b h' L' es' ep' t' sb hS2 c1 c2 => ?_
    have g' : NGot ks (i + 1) L' := by
      rcases Classical.em (p.2 ∈ L.map (·.2)) with c | c
      · rw [c1 c]; exact g.same hp c
      · exact g.more hp (c2 c)
    have kp2 : ∀ b o, h0.get? b = some o → h'.get? b = some o := fun b o e => (sb.2 b (fun z => by rw [z, hS0] at e; cases e)).trans (kp' b o e)
    refine wpAny_pure ⟨plainId_quiet F.plain_set_update_loop _, ih (i + 1) _ (by omega) hlt (W.frame _ s' _ _ hst' (Nat.le_add_right _ _) fun b hb o e => ?_) kp2 ⟨L', es', ep', t', hS2, g'⟩ fun s'' L2 es2 ep2 t2 hm2 hS3 g2 kp3 => ?_⟩
    · rw [sb.2 b (fun h : b = S => hSf (by rw [← h]; exact hb))]; exact e
    · refine hR s'' L2 es2 ep2 t2 (Moved.trans W.gtrans ((hm.mono more).then_heap (Nat.le_add_right _ _) fun b o hb e => ?_) hm2) hS3 g2 kp3
      rw [sb.2 b (fun h : b = S => hb (by rw [h]; exact List.mem_cons_self))]; exact e

/-- set(x), x a tuple of tuples -/
theorem n_set {l : Addr} {items : Array Value} (ks : NL) {Q : Value → Shared → Prop} (hh : A.handled = none) (hl : s.heap.IsTuple l items) (hit : items.toList = ks.map fun p => Value.ref p.1)
    (hk : ∀ p ∈ ks, NIs s.heap p.2 p.1) (hfew : ks.length < 64) (hu : A.units + 12 < cLine)
    (h : ∀ (h' : Heap) (tk : Nat) L es ep t, SetN w h' s.heap.objs.size L es ep t → NGot ks ks.length L → (∀ b o, s.heap.get? b = some o → h'.get? b = some o) → Q (.ref s.heap.objs.size) { s with heap := h', toks := tk }) :
    wpAny (model P w) A (call (.type "set") [.ref l]) Q E s := by
  have hisz : items.size = ks.length := by
    have q := congrArg List.length hit
    rw [Array.length_toList, List.length_map] at q
    exact q
  obtain ⟨c, tl, hmro⟩ := F.called_set.mro
  have hmade := F.called_set.made
  have hsub := F.called_set.sub
  refine wpAny_call (codeAny_of_tree ?_)
  show wpAny _ _ (callAny (.type "set") _) _ _ _
  refine wpAny_pure ⟨Code.quiet_builtin _ (by decide +kernel), codeAny_builtin F.entry_type_call ?_⟩
  rw [Around.under_plain (weight_type_call_type "set" [.ref l] []) rfl]
  have h1 := F.called_set.notType
  have h2 := F.called_set.canCreate
  have hct := F.typeCall_set_1 (.ref l)
  repeat (any_goals (first | assumption | wp_step))
  refine codeAny_mono (code_set_led1 (.ref l) (E := E) (Q₁ := fun obj s₁ => obj = .ref s.heap.objs.size ∧ s₁ = { s with heap := s.heap.push (emptySet w) }) ⟨rfl, rfl⟩) fun r s₁ hr => ?_
  cases r with
  | error e => exact hr
  | ok fl =>
    cases fl with
    | ret obj =>
      obtain ⟨rfl, rfl⟩ := hr
      have hS : (s.heap.push (emptySet w)).get? s.heap.objs.size = some (emptySet w) := Heap.get?_push_size _ rfl
      have hT : Shared.TypeIs { s with heap := s.heap.push (emptySet w) } (.ref s.heap.objs.size) "set" := ⟨_, hS, rfl⟩
      have hli := F.called_set.init.lookup
      have hbi := F.called_set.init.bind (.ref s.heap.objs.size)
      repeat (any_goals (first | assumption | wp_step))
      refine codeAny_mono (codeAny_call_builtin (R := wants (fun r s₂ => r = .none ∧ ∃ h' tk L es ep t, s₂ = { s with heap := h', toks := tk } ∧ SetN w h' s.heap.objs.size L es ep t ∧ NGot ks ks.length L ∧
          (∀ b o, s.heap.get? b = some o → h'.get? b = some o)) E) F.called_set.init.plain F.entry_set_init (check_set_init_1 hT ?_)) fun r₂ s₂ hr₂ => ?_
      · obtain ⟨ol, hol, hcl, nl, hdl⟩ := hl
        obtain ⟨ocls, odict, odata, oslots⟩ := ol
        simp only at hcl hdl
        subst hcl; subst hdl
        have hol' : (s.heap.push (emptySet w)).get? l = some { cls := .type "tuple", dict := odict, data := .seq items nl, slots := oslots } := Heap.get?_push_of_some _ hol
        have hsls := F.sub_tuple_set
        have hslf := F.sub_tuple_frozenset
        have hne : (Value.type "tuple" == Value.type "dict") = false := by decide
        have hl1 : (s.heap.push (emptySet w)).IsTuple l items := ⟨_, hol', rfl, nl, rfl⟩
        unfold Builtin.«set.__init__» noKeywords Builtin.Frozenset.updateFrom
        generalize hPI : pyIter = PI
        wp_walk
        subst hPI
        refine wpAny_pyIter_tuple hl1 ?_
        refine wpAny_bind (wpAny_runValue ?_)
        have hlS : l < s.heap.objs.size := Heap.lt_size hol
        have hh3 : A.in1.in1.in1.handled = none := by simp [hh]
        have hneI : l ≠ (s.heap.push (emptySet w)).objs.size := by
          rw [Heap.size_push]; exact Nat.ne_of_lt (Nat.lt_succ_of_lt hlS)
        have hSf : s.heap.objs.size ∉ [(s.heap.push (emptySet w)).objs.size, l] := by
          rw [Heap.size_push]; simp only [List.mem_cons, List.mem_singleton, List.not_mem_nil, or_false, not_or]
          exact ⟨Nat.ne_of_lt (Nat.lt_succ_self _), Nat.ne_of_gt hlS⟩
        have hval : ∀ (i : Nat) (v : Value), items[i]? = some v → ∃ p, ks[i]? = some p ∧ v = .ref p.1 := fun i v hv => by
          have q : items.toList[i]? = some v := by rw [Array.getElem?_toList]; exact hv
          rw [hit, List.getElem?_map] at q
          cases hq : ks[i]? with
          | none => rw [hq] at q; cases q
          | some p =>
            rw [hq] at q
            exact ⟨p, rfl, (Option.some.inj q).symm⟩
        have none_of : ∀ b, s.heap.objs.size ≤ b → s.heap.get? b = none := fun b hb => by
          cases q : s.heap.get? b with
          | none => rfl
          | some o => exact absurd (Nat.lt_of_lt_of_le (Heap.lt_size q) hb) (Nat.lt_irrefl _)
        refine n_update ((Walks.tuple hh3 _ l hneI items).toS) s.heap.objs.size
          hSf ks hisz hfew hval s.heap hk (none_of _ (Nat.le_refl _)) (fun b hb => none_of b (by
            rw [List.mem_singleton.mp hb, Heap.size_push]
            exact Nat.le_succ _)) (by simp only [Around.in1_units]; omega) (items.size - 0) 0 _ (by omega) (Nat.zero_le _)
          ⟨⟨_, Heap.get?_push_size _ rfl, rfl, rfl⟩, (hl1.at fun o e => Heap.get?_push_of_some _ e)⟩ (fun b o e => Heap.get?_push_of_some _ (Heap.get?_push_of_some _ e)) ?hS0 ?hR
        case hS0 => exact ⟨[], #[], 0, _, setN_fresh (Heap.get?_push_of_some _ hS), NGot.zero ks⟩
        case hR =>
          intro s' L es ep t hm hS' g' hkp
          obtain ⟨h', g2, d', tk', os'⟩ := s'
          have eg : g2 = s.gens := hm.gens
          have ed : d' = s.drawn := hm.drawn
          have eo : os' = s.os := hm.os
          subst eg; subst ed; subst eo
          show wpAny _ _ _ _ _ _
          refine wpAny_pure ?_
          show wpAny _ _ (ret Value.none) _ _ _
          rw [hisz] at g'
          exact wpAny_pure ⟨rfl, h', tk', L, es, ep, t, rfl, hS', g', hkp⟩
      · cases r₂ with
        | error e => exact hr₂
        | ok fl₂ =>
          cases fl₂ with
          | ret r =>
            obtain ⟨rfl, h', tk, L, es, ep, t, rfl, hS', g', hk'⟩ := hr₂
            repeat (any_goals (first | assumption | wp_step))
            exact h _ _ _ _ _ _ hS' g' hk'
          | _ => exact hr₂.elim
    | _ => exact hr.elim
end

end FW
/-! len(set(x)) by data. -/
namespace FW
open PySem PySem.Spec PyProof.Rows L2

/-! ### data as keys, how many differ -/
mutual
def D.key : D → Option NestedKey
  | .non => some .none
  | .bl b => some (.num (if b = true then 1 else 0))
  | .int i => some (.num i)
  | .str x => some (.text x)
  | .tup ds => (D.keys ds).map NestedKey.tup
  | .lst _ => none
  | .dct _ => none
  | .dice => none
  | .par _ => none
  | .dtt _ => none
  | .dtf _ => none
def D.keys : List D → Option (List NestedKey)
  | [] => some []
  | d :: ds => (D.key d).bind fun k => (D.keys ds).map (k :: ·)
end
def countK : List NestedKey → Nat
  | [] => 0
  | k :: ks => if ks.any (NestedKey.beq k) then countK ks else countK ks + 1
theorem any_beq {k : NestedKey} {ks : List NestedKey} : ks.any (NestedKey.beq k) = true ↔ k ∈ ks := by
  rw [List.any_eq_true]
  constructor
  · rintro ⟨x, hx, e⟩
    rw [NestedKey.eq_of_beq k x e]; exact hx
  · exact fun h => ⟨k, h, NestedKey.beq_self k⟩
theorem nodup_le {α : Type} {l m : List α} (hl : l.Nodup) (h : ∀ x ∈ l, x ∈ m) : l.length ≤ m.length := by
  induction l generalizing m with
  | nil => exact Nat.zero_le _
  | cons a l ih =>
    obtain ⟨s, t, e⟩ := List.append_of_mem (h a List.mem_cons_self)
    subst e
    have hn := List.nodup_cons.mp hl
    have := ih (m := s ++ t) hn.2 fun x hx => by
      have := h x (List.mem_cons_of_mem _ hx)
      rcases List.mem_append.mp this with z | z
      · exact List.mem_append_left _ z
      · rcases List.mem_cons.mp z with z | z
        · subst z; exact absurd hx hn.1
        · exact List.mem_append_right _ z
    simp only [List.length_append, List.length_cons] at this ⊢
    omega
/-- the first of each kind, from the end -/
def firsts : List NestedKey → List NestedKey
  | [] => []
  | k :: ks => if ks.any (NestedKey.beq k) then firsts ks else k :: firsts ks
theorem firsts_mem : ∀ (ks : List NestedKey) (k : NestedKey), k ∈ firsts ks ↔ k ∈ ks
  | [], k => Iff.rfl
  | x :: ks, k => by
    unfold firsts
    split
    · rename_i c
      rw [any_beq] at c
      rw [firsts_mem ks k, List.mem_cons]
      exact ⟨.inr, fun h => h.elim (fun e => e ▸ c) id⟩
    · rw [List.mem_cons, List.mem_cons, firsts_mem ks k]
theorem firsts_nodup : ∀ ks : List NestedKey, (firsts ks).Nodup
  | [] => List.nodup_nil
  | x :: ks => by
    unfold firsts
    split
    · exact firsts_nodup ks
    · rename_i c
      rw [any_beq] at c
      exact List.nodup_cons.mpr ⟨fun h => c ((firsts_mem ks x).mp h), firsts_nodup ks⟩
theorem firsts_len : ∀ ks : List NestedKey, (firsts ks).length = countK ks
  | [] => rfl
  | x :: ks => by
    unfold firsts countK
    split
    · exact firsts_len ks
    · rw [List.length_cons, firsts_len ks]
theorem count_of {l ks : List NestedKey} (hl : l.Nodup) (h : ∀ k, k ∈ l ↔ k ∈ ks) : l.length = countK ks := by
  rw [← firsts_len]
  refine Nat.le_antisymm (nodup_le hl fun x hx => (firsts_mem ks x).mpr ((h x).mp hx)) (nodup_le (firsts_nodup ks) fun x hx => (h x).mpr ((firsts_mem ks x).mp hx))
section
variable {X : Cx} {g : Gd} {I H : Hp} {pins : List (Addr × Obj)} {σ : L2.St} {s : Shared}
mutual
theorem key_is (J : Inv X pins σ H s) (rl : Rl g I H) : ∀ {v : V} {d : D} {k : NestedKey} {u : Value}, DR g I v d → d.key = some k → RelV v u → NestedIs s.heap k u
  | _, _, _, _, .non, e, r => by rw [D.key] at e; cases e; cases r; exact .none
  | _, _, _, _, .bl b, e, r => by rw [D.key] at e; cases e; cases r; exact .bool rfl
  | _, _, _, _, .int i, e, r => by rw [D.key] at e; cases e; obtain ⟨t, rfl⟩ := r; exact .int _ _
  | _, _, _, _, .str x, e, r => by rw [D.key] at e; cases e; obtain ⟨t, rfl⟩ := r; exact .text _ _
  | _, _, _, _, .par h t, e, r => by rw [D.key] at e; cases e
  | _, _, _, _, .tup (ds := ds) h hu t, e, r => by
    rw [D.key] at e
    cases q : D.keys ds with
    | none => rw [q] at e; cases e
    | some ks =>
      rw [q] at e; cases e
      cases r
      obtain ⟨its, rv, ⟨o, ho, hc, n, hd⟩, _⟩ := J.tuple (hu.sqt (rl.sub _ _ h))
      exact .tup ho hc hd (by simpa using keys_are J rl t q rv)
  | _, _, _, _, .lst h t, e, r => by rw [D.key] at e; cases e
  | _, _, _, _, .dK h t, e, r => by rw [D.key] at e; cases e
  | _, _, _, _, .dT h t, e, r => by rw [D.key] at e; cases e
  | _, _, _, _, .dF h t, e, r => by rw [D.key] at e; cases e
  | _, _, _, _, .dice, e, r => by rw [D.key] at e; cases e
theorem keys_are (J : Inv X pins σ H s) (rl : Rl g I H) : ∀ {vs : List V} {ds : List D} {ks : List NestedKey} {us : List Value}, DRs g I vs ds → D.keys ds = some ks → Vals vs us → NestedAll s.heap ks us
  | _, _, _, _, .nil, e, r => by rw [D.keys] at e; cases e; cases r; exact .nil
  | _, _, _, _, .cons (d := d) (ds := ds) h t, e, r => by
    rw [D.keys] at e
    cases q : D.key d with
    | none => rw [q] at e; cases e
    | some k =>
      cases q2 : D.keys ds with
      | none => rw [q, q2] at e; cases e
      | some ks =>
        rw [q, q2] at e; cases e
        cases r with
        | cons r rs => exact .cons (key_is J rl h q r) (keys_are J rl t q2 rs)
end
def D.isT : D → Bool
  | .tup _ => true
  | _ => false
/-- how many items differ -/
def dLenSet (d : D) : Res D := match d with
  | .tup ds => match D.keys ds with
    | some ks => if ds.all D.isT = true ∧ ks.length < 64 ∧ NestedKey.depthAll ks ≤ 8 then .ok (.int (countK ks : Nat)) else .bad
    | none => .bad
  | _ => .bad
def fLenSet (fa : FE) : FE := fun r => (fa r).bind dLenSet
theorem refs_of : ∀ {vs : List V} {ds : List D} {us : List Value} {ks : List NestedKey}, DRs g I vs ds → ds.all D.isT = true → Vals vs us → NestedAll s.heap ks us → NestedKey.depthAll ks ≤ 8 →
    ∃ L : NL, us = L.map (fun p => Value.ref p.1) ∧ ks = L.map (·.2) ∧ ∀ p ∈ L, NIs s.heap p.2 p.1
  | _, _, _, _, .nil, _, r, hn, _ => by cases r; cases hn; exact ⟨[], rfl, rfl, fun p hp => by cases hp⟩
  | _, _, _, _, .cons h t, ha, r, hn, hd => by
    rw [List.all_cons, Bool.and_eq_true] at ha
    cases r with
    | cons r rs =>
      cases hn with
      | cons n ns =>
        rw [NestedKey.depthAll] at hd
        obtain ⟨L, e1, e2, e3⟩ := refs_of t ha.2 rs ns (by omega)
        cases h with
        | tup h _ t =>
          cases r
          refine ⟨(_, _) :: L, by rw [e1]; rfl, by rw [e2]; rfl, fun p hp => ?_⟩
          rcases List.mem_cons.mp hp with e | hp
          · rw [e]; exact ⟨n, by dsimp only; omega⟩
          · exact e3 p hp
        | _ => cases ha.1
theorem e_lenset {E : XK} {a : Expr} {fa : FE} {p p2 q pos : Pos} (hc : X.calm = true) (hu : X.A.units + 64 < cLine) (hg : Gl X "len") (hm : X.mg "len" = none) (hg2 : Gl X "set") (hm2 : X.mg "set" = none) (ha : PE X a (tF g X.mg E fa))
    (na : starEach [a] X.env = (false, eval a X.env) :: starEach [] X.env := by rfl) : PE X (.Call (.Name "len" p) [.Call (.Name "set" p2) [a] [] q] [] pos) (tF g X.mg E (fLenSet fa)) := by
  refine ⟨fun pins s σ H Q J h => ?_⟩
  obtain ⟨I, r, rl, er, h⟩ := h
  refine Call_ (ld_blt J hg hm PySem.boot_len ?_)
  refine PyProof.Rows.callWith_builtin1 (PyProof.Rows.args_cons ?_ rfl) rfl rfl
  refine Call_ (ld_blt J hg2 hm2 PyProof.Rows.boot_set ?_)
  refine PyProof.Rows.callWith_type1 (PyProof.Rows.args_cons (thn (ha.run pins s σ H _ J ⟨I, r, rl, er, Pst.first h fun d v I1 H1 _ s1 x1 h1 => (⟨I1, d, s1, x1, h1⟩ : ∃ I1 d, Stp g I H I1 H1 ∧ DR g I1 v d ∧ Pst g X.mg E (DR g) I1 H1 (dLenSet d) Q)⟩) fun v s1 ⟨x, H1, J1, r1, q1⟩ => PyProof.Rows.args_nil ?_) na) na rfl
  obtain ⟨I1, d, s1', x1, h1⟩ := q1
  unfold dLenSet at h1
  split at h1
  · rename_i ds
    split at h1
    · rename_i ks hk
      split at h1
      · rename_i c
        obtain ⟨ct, cl, cd⟩ := c
        cases x1 with
        | tup hh hu t =>
          cases r1
          obtain ⟨its, rv, tp, hz⟩ := J1.tuple (hu.sqt (s1'.rl.sub _ _ hh))
          obtain ⟨L, e1, e2, e3⟩ := refs_of t ct rv (keys_are J1 s1'.rl t hk rv) cd
          have hl : L.length = ks.length := by rw [e2, List.length_map]
          refine n_set (P := X.prog) (w := X.w) L (J1.ok.hd hc) tp (by rw [List.toList_toArray]; exact e1) e3 (by omega) (by have := hu; omega) fun h' tk L' es ep t' R gt kp => ?_
          refine PyProof.Rows.args_nil ?_
          obtain ⟨o, ho, hex, hd⟩ := R.ob
          have J2 : Inv X pins σ H1 { s1 with heap := h', toks := tk } := J1.kept fun b o e => kp b o e
          have hn : es.size = countK ks := by
            rw [SetN.size (s := { s1 with heap := h', toks := tk }) R, ← List.length_map (f := (·.2))]
            refine count_of R.nd fun k => ?_
            rw [e2]
            constructor
            · intro hm
              obtain ⟨p, hp, e⟩ := List.mem_map.mp hm
              exact List.mem_map.mpr ⟨p, List.mem_of_mem_take (gt.sub p hp), e⟩
            · intro hm
              obtain ⟨p, hp, e⟩ := List.mem_map.mp hm
              rw [← e]
              exact gt.all p (by rw [List.take_length]; exact hp)
          have hs := SetN.size (s := { s1 with heap := h', toks := tk }) R
          have hf := R.few
          refine call_len_set ho hex hd (SetN.fits (s := { s1 with heap := h', toks := tk }) R) (by rw [hs]; omega) ⟨.int (countK ks : Nat), H1, J2.tok _, ⟨_, by rw [hn]⟩, ?_⟩
          exact h1.here s1'.rl (.int _)
      · exact h1.elim
    · exact h1.elim
  · exact h1.elim
end
end FW
/-! Within an except suite: lists walked there, sum([int(x) for x in xs]), xs.index(True), isinstance of what was caught. -/
namespace FW
open PySem PySem.Spec PyProof.Rows L2 HotX

section
variable {prog : Program} {w : World} {A : Around} {E : Value → Shared → Prop} {s : Shared}
theorem next_list_hot {it l x1 : Addr} {i : Nat} {items : Array Value} {Q : Option Value → Shared → Prop} (hot : HotAt A x1 s.heap) (hne : x1 ≠ it) (hit : s.heap.IsListIter it l i) (hl : s.heap.IsList l items) (hx : items[i]? = none)
    (hQ : ∀ h', (∀ b o, b ≠ it → s.heap.get? b = some o → h'.get? b = some o) → Q none { s with heap := h' }) : wpAny (model prog w) A (pyNext (.ref it)) Q E s := by
  obtain ⟨o, ho, hc, hd⟩ := id hit
  obtain ⟨ol, hol, _, nl, hdl⟩ := hl
  obtain ⟨hh, o1, vs1, h1, d1, c1⟩ := hot
  unfold pyNext
  refine wpAny_bind (wpAny_attempt (wpAny_callSpecial?_slot (name := Str.ofString "__next__") hit.typeIs slot_listiter_next (wpAny_call_entry slot_listiter_next hit.typeIs entry_listiter_next ?_ (args_listiter_next _))))
  show wpAny _ _ (field (.ref it) 0 >>= _) _ _ s
  refine wpAny_bind (wpAny_field ho hd (x := .ref l) rfl ?_)
  show wpAny _ _ (if (Value.ref l == Value.none) = true then _ else _) _ _ s
  rw [if_neg (show ¬ ((Value.ref l == Value.none) = true) from Bool.false_ne_true)]
  show wpAny _ _ (field (.ref it) 1 >>= _) _ _ s
  refine wpAny_bind (wpAny_field ho hd (x := .int i 0) rfl ?_)
  show wpAny _ _ (seqItems? (.ref l) >>= _) _ _ s
  refine wpAny_bind (wpAny_seqItems hol hdl ?_)
  simp only [Int.toNat_natCast, hx]
  refine wpAny_bind (wpAny_rule (wpAny_bind (wpAny_setField ho hd (by simp) ?_)))
  have h1' : (s.heap.update it (Obj.mapFields (·.setIfInBounds 0 Value.none))).get? x1 = some o1 := (Heap.get?_update_other _ _ (Ne.symm hne)).trans h1
  have old : ∀ b u, b ≠ it → s.heap.get? b = some u → (s.heap.update it (Obj.mapFields (·.setIfInBounds 0 Value.none))).get? b = some u := fun b u hb e => (Heap.get?_update_other _ _ (Ne.symm hb)).trans e
  generalize s.heap.update it (Obj.mapFields (·.setIfInBounds 0 Value.none)) = hp at h1' old ⊢
  show wpAny _ _ (newExc (.type "StopIteration") [] >>= _) _ _ _
  refine wpAny_bind ?_
  simp only [newExc, newTuple]
  refine wpAny_bind (wpAny_newObj_type ?_ (by size_fits))
  refine wpAny_bind (m := firstArgMember _ _) (wpAny_of_eq (a := Value.none) (by first | rfl | (simp only [firstArgMember]; rfl)) ?_)
  refine wpAny_newObj_type ?_ (by size_fits)
  refine raiseNew_hot ⟨hh, o1, vs1, Heap.get?_push_of_some _ (Heap.get?_push_of_some _ h1'), d1, c1⟩ (Nat.ne_of_lt (Heap.lt_size (Heap.get?_push_of_some _ h1'))) (Heap.get?_push_size _ rfl) rfl (by first | (simp; done) | (simp; omega) | (simp only [Array.size_append]; simp; omega)) ?_
  refine wpAny_bind (wpAny_isInstance (T := "StopIteration") (b := true) ⟨_, Heap.get?_update_self _ (Heap.get?_push_size _ rfl) rfl, rfl⟩ isSubtype_stop ?_)
  refine wpAny_pure (hQ _ fun b u hb e => ?_)
  have e' := old b u hb e
  rw [Heap.get?_update_other _ _ (Nat.ne_of_gt (Heap.lt_size (Heap.get?_push_of_some _ e')))]
  exact Heap.get?_push_of_some _ (Heap.get?_push_of_some _ e')
/-- a list walked while x1 is handled -/
theorem walks_hot (I ax x1 : Addr) (hne : ax ≠ I) (hn1 : x1 ≠ I) (items : Array Value) {o1 : Obj} {vs1 : Array Value} (hh : A.handled = some (.ref x1)) (d1 : o1.data = .fields vs1) (c1 : vs1[2]? = some .none) :
    Walks prog w A I [I, ax, x1] [I] items.size (fun i v => items[i]? = some v) (fun i h => h.IsListIter I ax i ∧ h.IsList ax items ∧ h.get? x1 = some o1) where
  sub := fun b hb => by simp at hb; simp [hb]
  frame := fun _ _ _ st hk => ⟨st.1.at fun o e => hk I (by simp) o e, st.2.1.at fun o e => hk ax (by simp) o e, hk x1 (by simp) _ st.2.2⟩
  item := fun i s Q E hi st hQ => by
    refine wpAny_pyNext_list_item st.1 st.2.1 (x := items[i]) (by simp [hi]) fun h' hit' hs' => ?_
    exact hQ _ h' s.toks (by simp [hi]) ⟨hit', st.2.1.extBut hs'.extBut hne, hs'.extBut x1 _ hn1 st.2.2⟩ fun b o hb e => hs'.extBut b o (fun h => hb (by simp [h])) e
  done := fun s Q E st hQ => by
    refine next_list_hot ⟨hh, o1, vs1, st.2.2, d1, c1⟩ hn1 st.1 st.2.1 (by simp) fun h' k => ?_
    exact hQ h' s.toks fun b o hb e => k b o (fun h => hb (by simp [h])) e
  self := fun i s Q E st h => wpAny_pyIter_listiter st.1 h
end

theorem paired_at {α β : Type} {R : α → β → Prop} : ∀ {xs : List α} {ys : List β} {i : Nat} {y : β}, Paired R xs ys → ys[i]? = some y → ∃ x, xs[i]? = some x ∧ R x y
  | _, _, _, _, .nil, h => by simp at h
  | _, _, 0, _, .cons r _, h => by simp at h; subst h; exact ⟨_, rfl, r⟩
  | _, _, i + 1, y, .cons _ t, h => by
    obtain ⟨x, h1, h2⟩ := paired_at (i := i) (y := y) t (by simpa using h)
    exact ⟨x, by simpa using h1, h2⟩
/-- the context bears the handled exception p -/
structure HotP (X : Cx) (p : Addr × Obj) : Prop where
  hd : X.A.handled = some (.ref p.1)
  fs : ∃ vs : Array Value, p.2.data = .fields vs ∧ vs[2]? = some .none
  pn : p ∈ X.pn
section
variable {X : Cx} {p : Addr × Obj}
theorem HotP.at {pins : List (Addr × Obj)} {σ : L2.St} {H : Hp} {s : Shared} (c : HotP X p) (J : Inv X pins σ H s) : s.heap.get? p.1 = some p.2 := (J.pin p (List.mem_append_left _ c.pn)).1
/-- sum([int(x) for x in xs]), xs a list of truths -/
def tSumB (K : PySem.W.Frag) (ta : TE) : TE := fun σ H Q => ta σ H fun v H1 => ∃ (l : Addr) (bs : List Bool), v = V.ref l ∧ SqL K H1 l (bs.map V.bl) ∧ bs.length ≤ 64 ∧ Q (.int ((bs.filter id).length : Nat)) H1
theorem bl_vals : ∀ {bs : List Bool} {us : List Value}, Vals (bs.map V.bl) us → us = bs.map Value.bool
  | [], _, r => by cases r; rfl
  | b :: bs, _, r => by
    rw [List.map_cons] at r
    cases r with
    | cons h t => cases h; rw [bl_vals t]; rfl
theorem pre_bools (bs : List Bool) : ∀ n, n ≤ bs.length → preSum (fun i => if bs.getD i false = true then 1 else 0) n = (((bs.take n).filter id).length : Nat)
  | 0, _ => rfl
  | n + 1, h => by
    have hn : n < bs.length := h
    have e := pre_bools bs n (Nat.le_of_lt hn)
    rw [preSum, e, List.take_succ, List.getElem?_eq_getElem hn, List.filter_append, List.length_append]
    have g : bs.getD n false = bs[n] := by simp [List.getD_eq_getElem?_getD, List.getElem?_eq_getElem hn]
    rw [g]
    cases hb : bs[n] <;> simp [hb]
theorem pe_sumB {iter : Expr} {x : Str} {px p1 p2 p3 p4 p5 pos : Pos} {scope : Scope} {ta : TE} (hp : HotP X p) (hg : Gl X "sum") (hm : X.mg "sum" = none) (hmi : X.mg "int" = none) (ha : PE X iter ta)
    (hgi : scope.names.lookup (Str.ofString "int") = some NameKind.globalImplicit) (hfree : ∀ y ∈ scope.names, y.2 ≠ .free) (hcell : ∀ y ∈ scope.names, y.2 ≠ .cell) (hkind : scope.kind = .function)
    (hnames : ∀ y ∈ scope.names, y.2 = .local → scope.names.lookup y.1 = some .local) (hx : scope.names.lookup x = some .local) (hxd : (x == ("__debug__" : Str)) = false := by decide) (hs : ∀ x, foldedSetIterable iter X.env x = pure x := by intro _; rfl) :
    PE X (.Call (.Name "sum" p1) [.ListComp (.Call (.Name "int" p2) [.Name x p3] [] p4) [⟨.Name x px, iter, [], 0⟩] scope p5] [] pos) (tSumB X.K ta) := by
  refine ⟨fun pins s σ H Q J h => ?_⟩
  refine Call_ (ld_blt (u := .builtin "sum") J hg hm (by decide +kernel) ?_)
  refine PyProof.Rows.callWith_builtin1 (PyProof.Rows.args_cons ?_ rfl) rfl rfl
  refine wpAny_ListComp_walk (fun _ => true) (fun v y => ∃ b t, v = Value.bool b ∧ y = Value.int (if b then 1 else 0) t) hfree hcell hkind hnames hx (thn (ha.run pins s σ H _ J h) fun v s1 ⟨xv, H1, J1, r1, l, bs, e1, hl, hz, q⟩ => ?_) hs
  subst e1
  cases r1
  obtain ⟨its, rv, pl, _⟩ := J1.list hl
  have ei := bl_vals rv
  subst ei
  have hex := hp.at J1
  obtain ⟨vs1, d1, c1⟩ := hp.fs
  have hl1 : s1.heap.IsList l (bs.map Value.bool).toArray := pl.isList
  have hlt : l < s1.heap.objs.size := by obtain ⟨_, e, _⟩ := hl1; exact Heap.lt_size e
  have hxt : p.1 < s1.heap.objs.size := Heap.lt_size hex
  refine wpAny_pyIter_list hl1 ⟨s1.heap.objs.size, [s1.heap.objs.size, l, p.1], [s1.heap.objs.size], _, _, _, rfl, walks_hot _ l p.1 (Nat.ne_of_lt hlt) (Nat.ne_of_lt hxt) _ hp.hd d1 c1, ?_, ⟨⟨_, Heap.get?_push_size _ rfl, rfl, rfl⟩, hl1.push _, Heap.get?_push_of_some _ hex⟩, ?_, ?_, ?_⟩
  · rw [List.size_toArray, List.length_map, sizeLine_eq]; omega
  · intro b hb
    rw [Heap.size_push]
    simp only [List.mem_cons, List.mem_singleton, List.not_mem_nil, or_false] at hb
    rcases hb with e | e | e
    · rw [e]; exact Nat.lt_succ_self _
    · rw [e]; exact Nat.lt_succ_of_lt hlt
    · rw [e]; exact Nat.lt_succ_of_lt hxt
  · have keep : ∀ (s3 : Shared), (∀ b o, b ∉ [s1.heap.objs.size] → (s1.heap.push { cls := .type "list_iterator", data := .fields #[.ref l, .int 0 0] }).get? b = some o → s3.heap.get? b = some o) → ∀ b o, s1.heap.get? b = some o → s3.heap.get? b = some o := fun s3 k b o e =>
      k b o (fun hm => Nat.lt_irrefl _ ((List.mem_singleton.mp hm) ▸ Heap.lt_size e)) (Heap.get?_push_of_some _ e)
    refine ⟨fun C i v s3 m3 E' hv hn hm k tk => wpAny_pure ⟨rfl, s3.heap, s3.toks, rfl, fun _ _ e => e⟩, fun C i v s3 m3 E' hv _ hn hm k tk => ?_⟩
    have kk := keep s3 k
    obtain ⟨mb, b1, b2⟩ := J1.mod.blt
    have hb : ∃ b, v = Value.bool b := by
      have q : (bs.map Value.bool)[i]? = some v := by simpa using hv
      rw [List.getElem?_map] at q
      cases hq : bs[i]? with
      | none => rw [hq] at q; cases q
      | some b => rw [hq] at q; exact ⟨b, (Option.some.inj q).symm⟩
    obtain ⟨b, rfl⟩ := hb
    refine Call_ (Calls.Name_function_global hkind hgi (Calls.loadGlobal_builtin (by show s3.heap.Ns X.env.globals _; rw [J1.ok.glob]; exact (J1.mod.glob.keeps J1.bk).keeps kk) hmi (by show s3.heap.Ns X.env.builtins _; rw [J1.ok.blt]; exact (b1.keeps J1.bk).keeps kk) ((b2 (Str.ofString "int") (by decide)).trans (show bootBuiltins (Str.ofString "int") = some (.type "int") by decide +kernel)) ?_) (by decide))
    refine PyProof.Rows.callWith_type1 (PyProof.Rows.args_cons (wpAny_Name (wpAny_loadName_local hkind hx hn hm (PyProof.Rows.args_nil ?_)) hxd) rfl) rfl rfl
    exact call_int_bool ⟨⟨b, _, rfl, rfl⟩, s3.heap, _, rfl, fun _ _ e => e⟩
  · intro D h' tk ys vs hD hli hpl hlen hP hF hk
    refine PyProof.Rows.args_nil ?_
    have kp : ∀ b o, s1.heap.get? b = some o → h'.get? b = some o := fun b o e => hk b o (fun hm => Nat.lt_irrefl _ ((List.mem_singleton.mp hm) ▸ Heap.lt_size e)) (Heap.get?_push_of_some _ e)
    have J2 : Inv X pins σ H1 { s1 with heap := h', toks := tk } := J1.kept kp
    have hlenb : vs.length = bs.length := by rw [hlen, List.size_toArray, List.length_map]
    have evs : vs = bs.map Value.bool := List.ext_getElem? fun j => by
      by_cases hj : j < vs.length
      · have q := hP j vs[j] (List.getElem?_eq_getElem hj)
        rw [List.getElem?_eq_getElem hj]
        exact (by simpa using q : (bs.map Value.bool)[j]? = some vs[j]).symm
      · rw [List.getElem?_eq_none (by omega), List.getElem?_eq_none (by rw [List.length_map]; omega)]
    have hsz : ys.size = bs.length := by
      have h1 := hF.length
      have h2 : vs.filter (fun _ => true) = vs := List.filter_eq_self.mpr (fun _ _ => rfl)
      rw [h2] at h1
      have h3 : ys.toList.length = ys.size := Array.length_toList
      omega
    rw [List.filter_eq_self.mpr (fun _ _ => rfl), evs] at hF
    have hys : ∀ (i : Nat) (v : Value), ys[i]? = some v → ∃ t, v = Value.int (if bs.getD i false = true then 1 else 0) t := fun i v hv => by
      have hv' : ys.toList[i]? = some v := by rw [Array.getElem?_toList]; exact hv
      have hi : i < bs.length := by
        have := (Array.getElem?_eq_some_iff.mp hv).1
        omega
      obtain ⟨u, hu, b, t, e1, e2⟩ := paired_at hF hv'
      rw [List.getElem?_map, List.getElem?_eq_getElem hi] at hu
      have e3 : bs[i] = b := by
        have := Option.some.inj hu
        rw [e1] at this
        injection this
      refine ⟨t, ?_⟩
      have g : bs.getD i false = bs[i] := by simp [List.getD_eq_getElem?_getD, List.getElem?_eq_getElem hi]
      rw [e2, g, e3]
    have hex2 := hp.at J2
    have hDl : D < h'.objs.size := by obtain ⟨_, e, _⟩ := hli; exact Heap.lt_size e
    have hxt2 : p.1 < h'.objs.size := Heap.lt_size hex2
    refine call_sum_walkG (wpAny_pyIter_list hli ⟨h'.objs.size, [h'.objs.size, D, p.1], [h'.objs.size], _, _, _, (fun i => if bs.getD i false = true then 1 else 0), rfl, walks_hot _ D p.1 (Nat.ne_of_lt hDl) (Nat.ne_of_lt hxt2) _ (by show X.A.handled = _; exact hp.hd) d1 c1, ⟨⟨_, Heap.get?_push_size _ rfl, rfl, rfl⟩, hli.push _, Heap.get?_push_of_some _ hex2⟩, ?_, hys, ?_⟩)
    · intro b hb
      rw [Heap.size_push]
      simp only [List.mem_cons, List.mem_singleton, List.not_mem_nil, or_false] at hb
      rcases hb with e | e | e
      · rw [e]; exact Nat.lt_succ_self _
      · rw [e]; exact Nat.lt_succ_of_lt hDl
      · rw [e]; exact Nat.lt_succ_of_lt hxt2
    · intro h2 tk2 t2 hk2
      have kp2 : ∀ b o, h'.get? b = some o → h2.get? b = some o := fun b o e => hk2 b o (fun hm => Nat.lt_irrefl _ ((List.mem_singleton.mp hm) ▸ Heap.lt_size e)) (Heap.get?_push_of_some _ e)
      rw [hsz, pre_bools bs _ (Nat.le_refl _), List.take_length]
      exact ⟨.int _, H1, J2.kept kp2, ⟨_, rfl⟩, q⟩
end
end FW
/-! t.index(x) of texts; {..}, d.get(k, x); a, b = x, y; slices by wishes. -/
namespace FW
open PySem PySem.Spec PyProof.Rows L2 HotX

/-! ### t.index(x) -/
/-- the texts of a tuple -/
def textsOf : List D → Option (List Str)
  | [] => some []
  | .str x :: r => (textsOf r).map (x :: ·)
  | _ => none
theorem textsOf_map : ∀ xs : List Str, textsOf (xs.map D.str) = some xs
  | [] => rfl
  | x :: r => by rw [List.map_cons, textsOf, textsOf_map r]; rfl
theorem textsOf_eq : ∀ {ds : List D} {xs : List Str}, textsOf ds = some xs → ds = xs.map D.str
  | [], _, h => by cases h; rfl
  | d :: ds, xs, h => by
    cases d <;> first
      | (cases h; done)
      | (rename_i y
         rw [textsOf] at h
         cases e : textsOf ds with
         | none => rw [e] at h; cases h
         | some ys => rw [e] at h; cases h; rw [textsOf_eq e]; rfl)
theorem DRs.texts {g : Gd} {I : Hp} : ∀ {xs : List Str} {vs : List V}, DRs g I vs (xs.map D.str) → vs = xs.map V.str
  | [], _, .nil => rfl
  | x :: xs, _, .cons h t => by cases h; rw [DRs.texts t]; rfl
theorem strsV_map {x : Str} {xs : List Str} : strsV ((x :: xs).map V.str) = true := by
  unfold strsV
  simp [strV]
/-- the texts of a tuple of at least one text -/
def tupTexts : D → Option (Str × List Str)
  | .tup ds => match textsOf ds with
    | some (x :: xs) => some (x, xs)
    | _ => none
  | _ => none
theorem tupTexts_eq {d : D} {p : Str × List Str} (h : tupTexts d = some p) : d = .tup ((p.1 :: p.2).map D.str) := by
  unfold tupTexts at h
  split at h
  · split at h
    · rename_i e
      cases h
      rw [textsOf_eq e]
    · cases h
  · cases h
def dIxOf (xs : List Str) : D → Res D
  | .str z => if z ∈ xs then .ok (.int (xs.idxOf z : Nat)) else .bad
  | _ => .bad
def fTIx (fa fb : FE) : FE := fun r => (fa r).bind fun d => match tupTexts d with
  | some p => (fb r).bind (dIxOf (p.1 :: p.2))
  | none => .bad
section
variable {X : Cx} {g : Gd} {E : XK} {o e f : Expr} {apos cpos pos : Pos} {fa fb fc : FE}
theorem e_tindex (ha : PE X o (tF g X.mg E fa)) (hb : PE X e (tF g X.mg E fb)) (hbase : attributeBase o "index" X.env (eval o X.env) = eval o X.env := by rfl)
    (hfew : ((backTo cpos (starEach [e] X.env)).all (fun x => !x.1) && (backToKw cpos (keywordEach [] X.env)).all (fun x => x.1.isSome) && decide (([e] : List Expr).length + ([] : List Keyword).length + (if ([] : List Keyword).isEmpty then 0 else 1) < 30)) = true := by rfl)
    (hline : (apos.endLine == cpos.line) = true := by rfl) (hs : backTo cpos (starEach [e] X.env) = [(false, eval e X.env)] := by rfl) : PE X (.Call (.Attribute o "index" apos) [e] [] cpos) (tF g X.mg E (fTIx fa fb)) := by
  refine ⟨fun pins s σ H Q J h => ?_⟩
  obtain ⟨I, r, rl, er, h⟩ := h
  refine wpAny_Call_method_late hbase hfew hline hs (thn (ha.run pins s σ H _ J ⟨I, r, rl, er, Pst.first h fun d v I1 H1 _ s1 x1 h1 => (⟨I1, d, s1, x1, h1⟩ : ∃ I1 d, Stp g I H I1 H1 ∧ DR g I1 v d ∧ Pst g X.mg E (DR g) I1 H1 (match tupTexts d with
    | some p => (fb r).bind (dIxOf (p.1 :: p.2))
    | none => .bad) Q)⟩) fun u s1 ⟨x, H1, J1, r1, q1⟩ => ?_)
  obtain ⟨I1, d, st1, x1, h1⟩ := q1
  cases et : tupTexts d with
  | none => rw [et] at h1; exact h1.elim
  | some p =>
    rw [et] at h1
    have ed := tupTexts_eq et
    subst ed
    obtain ⟨x, xs⟩ := p
    cases x1 with
    | tup hx hu t =>
      rename_i a vs uo
      obtain rfl : u = Value.ref a := r1
      have ev := DRs.texts (xs := x :: xs) t
      subst ev
      rcases hu with ⟨_, hf⟩ | ⟨oo, ⟨ho, _⟩, eu⟩
      · rw [strsV_map] at hf; cases hf
      · subst eu
        have hH1 := st1.rl.sub _ _ hx
        obtain ⟨hg1, _⟩ := J1.hok a _ hH1
        obtain ⟨its, rv, tp, hz⟩ := J1.tuple (.inl (.inr ⟨oo, hH1⟩))
        refine ⟨"tuple", "tuple.index", PySem.F.plainAttrs_tuple, PySem.F.slot_tuple_index, PySem.F.type_tuple_index, tp.typeIs, fun b eb => ?_, ?_⟩
        · cases eb
          exact ⟨oo, hg1, ho⟩
        · refine Calls.callWith_builtin rfl (Calls.evalArgs_plain (Calls.spliced_cons (thn (hb.run pins s1 σ H1 _ J1 ⟨I1, r, st1.rl, er.mono st1.mono, Pst.first h1 fun d v I2 H2 _ s2 x2 h2 => (⟨I2, d, s2, x2, h2⟩ : ∃ I2 d, Stp g I1 H1 I2 H2 ∧ DR g I2 v d ∧ Pst g X.mg E (DR g) I2 H2 (dIxOf (x :: xs) d) Q)⟩) fun u2 s2 ⟨v2, H2, J2, r2, q2⟩ => Calls.spliced_nil ?_)))
          obtain ⟨I2, d2, st2, x2, h2⟩ := q2
          unfold dIxOf at h2
          split at h2
          · rename_i z
            split at h2
            · rename_i hm
              cases x2
              obtain ⟨tk, rfl⟩ := r2
              have hx2 : I2 a = some (.frz oo (.tup ((x :: xs).map V.str))) := st2.mono _ _ hx
              obtain ⟨its2, rv2, tp2, hz2⟩ := J2.tuple (.inl (.inr ⟨oo, st2.rl.sub _ _ hx2⟩))
              refine SeqAt.call_tuple_index tp2 (SeqAt.ItemsEq.strs rv2.strs) hm ⟨.int ((x :: xs).idxOf z : Nat), H2, J2.tok _, ⟨_, rfl⟩, ?_⟩
              exact h2.here st2.rl (.int _)
            · exact h2.elim
          · exact h2.elim
end
end FW
/-! {..}, d.get(k, x); a, b = x, y; slices by wishes. -/
namespace FW
open PySem PySem.Spec PyProof.Rows L2 HotX

/-! ### dicts of texts and numbers -/
def keyOf : D → Option Key
  | .int i => some (.inl i)
  | .str x => some (.inr x)
  | _ => none
theorem keyOf_kD (k : Key) : keyOf (kD k) = some k := by cases k <;> rfl
theorem keyOf_eq {d : D} {k : Key} (h : keyOf d = some k) : d = kD k := by
  cases d <;> first | (cases h; done) | (cases h; rfl)
theorem keyOf_v {g : Gd} {I : Hp} {v : V} {d : D} {k : Key} (h : keyOf d = some k) (x : DR g I v d) : v = kV k := by
  cases d <;> first | (cases h; done) | (cases h; cases x; rfl)
/-- what stands at k -/
def valD (kvs : List (D × D)) (k : Key) : Option D := (kvs.find? fun kv => decide (keyOf kv.1 = some k)).map (·.2)
def putD (kvs : List (D × D)) (k : Key) (d : D) : List (D × D) := if (kvs.any fun kv => decide (keyOf kv.1 = some k)) = true then kvs.map (fun kv => if keyOf kv.1 = some k then (kv.1, d) else kv) else kvs ++ [(kD k, d)]
def mergeD (kvs : List (D × D)) (more : List (Key × D)) : List (D × D) := more.foldl (fun acc kv => putD acc kv.1 kv.2) kvs
section
variable {g : Gd} {I : Hp}
theorem dec_key (k k' : Key) : decide (keyOf (kD k) = some k') = decide (k = k') := by
  rw [keyOf_kD]
  by_cases e : k = k' <;> simp [e]
theorem DRk.val (k : Key) : ∀ {es : List (Key × V)} {kvs : List (D × D)}, DRk g I es kvs → (valV es k = none ∧ valD kvs k = none) ∨ ∃ v d, valV es k = some v ∧ valD kvs k = some d ∧ DR g I v d
  | _, _, .nil => .inl ⟨rfl, rfl⟩
  | _, _, .cons (k := k0) (v := v) (es := es) (d := d) (kvs := kvs) h t => by
    unfold valV valD
    rw [List.find?_cons, List.find?_cons]
    by_cases e : k0 = k
    · subst e
      rw [show decide (keyOf (kD k0, d).1 = some k0) = true from by rw [dec_key]; simp, show decide ((k0, v).1 = k0) = true from by simp]
      exact .inr ⟨v, d, rfl, rfl, h⟩
    · rw [show decide (keyOf (kD k0, d).1 = some k) = false from by rw [dec_key]; simp [e], show decide ((k0, v).1 = k) = false from by simp [e]]
      exact DRk.val k t
theorem DRk.any (k : Key) : ∀ {es : List (Key × V)} {kvs : List (D × D)}, DRk g I es kvs → (es.any fun kv => decide (kv.1 = k)) = kvs.any fun kv => decide (keyOf kv.1 = some k)
  | _, _, .nil => rfl
  | _, _, .cons h t => by
    rw [List.any_cons, List.any_cons, DRk.any k t, dec_key]
theorem DRk.app : ∀ {es es' : List (Key × V)} {kvs kvs' : List (D × D)}, DRk g I es kvs → DRk g I es' kvs' → DRk g I (es ++ es') (kvs ++ kvs')
  | _, _, _, _, .nil, h => h
  | _, _, _, _, .cons r t, h => .cons r (DRk.app t h)
theorem DRk.mapPut (k : Key) {v : V} {d : D} (x : DR g I v d) : ∀ {es : List (Key × V)} {kvs : List (D × D)}, DRk g I es kvs → DRk g I (es.map fun kv => if kv.1 = k then (kv.1, v) else kv) (kvs.map fun kv => if keyOf kv.1 = some k then (kv.1, d) else kv)
  | _, _, .nil => .nil
  | _, _, .cons (k := k0) h t => by
    rw [List.map_cons, List.map_cons]
    by_cases e : k0 = k
    · rw [if_pos e, if_pos (by rw [keyOf_kD, e])]
      exact .cons x (DRk.mapPut k x t)
    · rw [if_neg e, if_neg (by rw [keyOf_kD]; exact fun z => e (Option.some.inj z))]
      exact .cons h (DRk.mapPut k x t)
theorem DRk.put {k : Key} {v : V} {d : D} {es : List (Key × V)} {kvs : List (D × D)} (h : DRk g I es kvs) (x : DR g I v d) : DRk g I (putK es k v) (putD kvs k d) := by
  unfold putK putD
  rw [h.any k]
  split
  · exact h.mapPut k x
  · exact h.app (.cons x .nil)
theorem DRk.len : ∀ {es : List (Key × V)} {kvs : List (D × D)}, DRk g I es kvs → es.length = kvs.length
  | _, _, .nil => rfl
  | _, _, .cons _ t => congrArg (· + 1) (DRk.len t)
/-- pairs of keys and values -/
abbrev DRm (g : Gd) (I : Hp) : List (Key × V) → List (Key × D) → Prop := Paired fun p q => p.1 = q.1 ∧ DR g I p.2 q.2
theorem DRm.mono {J : Hp} (s : Sub I J) : ∀ {es : List (Key × V)} {ms : List (Key × D)}, DRm g I es ms → DRm g J es ms
  | _, _, .nil => .nil
  | _, _, .cons h t => .cons ⟨h.1, h.2.mono s⟩ (DRm.mono s t)
theorem DRk.merge : ∀ {more : List (Key × V)} {ms : List (Key × D)} {es : List (Key × V)} {kvs : List (D × D)}, DRm g I more ms → DRk g I es kvs → DRk g I (mergeK es more) (mergeD kvs ms)
  | _, _, _, _, .nil, h => h
  | _, _, es, kvs, .cons (a := p) (b := q) r t, h => by
    unfold mergeK mergeD
    rw [List.foldl_cons, List.foldl_cons]
    have e : DRk g I (putK es p.1 p.2) (putD kvs q.1 q.2) := by rw [r.1]; exact h.put r.2
    exact DRk.merge t e
end
def fPairs : List (FE × FE) → Env → Res (List (Key × D))
  | [], _ => .ok []
  | (fk, fv) :: rest, r => (fk r).bind fun k => (fv r).bind fun v => (fPairs rest r).bind fun ps => match keyOf k with
    | some k' => .ok ((k', v) :: ps)
    | none => .bad
def fDisp (l : List (FE × FE)) : FE := fun r => (fPairs l r).bind fun ps => .ok (.dct (mergeD [] ps))
def trsOf (g : Gd) (mg : Str → Option Value) (E : XK) (l : List (FE × FE)) : List (TE × TE) := l.map fun p => (tF g mg E p.1, tF g mg E p.2)
section
variable {X : Cx} {g : Gd} {E : XK} {o e f : Expr} {apos cpos pos : Pos} {fa fb fc : FE}
theorem pairs_of {σ : L2.St} {r : Env} : ∀ (l : List (FE × FE)) {I H : Hp} {Q : List (V × V) → Hp → Prop}, Rl g I H → ER g I σ r → Pst g X.mg E (fun I' (ps : List (V × V)) ms => ∃ es : List (Key × V), ps = es.map (fun kv => (kV kv.1, kv.2)) ∧ DRm g I' es ms) I H (fPairs l r) Q → tPairs (trsOf g X.mg E l) σ H Q
  | [], I, H, Q, rl, er, h => h [] I H rl.stp ⟨[], rfl, .nil⟩
  | (fk, fv) :: l, I, H, Q, rl, er, h => by
    unfold fPairs at h
    refine ⟨I, r, rl, er, Pst.first h fun k x I1 H1 _ s1 x1 h1 => ?_⟩
    refine ⟨I1, r, s1.rl, er.mono s1.mono, Pst.first h1 fun v y I2 H2 _ s2 x2 h2 => ?_⟩
    refine pairs_of l s2.rl (er.mono (s1.trans s2).mono) (Pst.first h2 fun ms ps I3 H3 _ s3 x3 h3 => ?_)
    obtain ⟨es, rfl, x3⟩ := x3
    cases ek : keyOf k with
    | none => rw [ek] at h3; exact h3.elim
    | some k' =>
      rw [ek] at h3
      rw [keyOf_v ek x1]
      exact h3 _ I3 H3 s3.rl.stp ⟨(k', y) :: es, rfl, .cons ⟨rfl, x2.mono s3.mono⟩ x3⟩
theorem fPairs_len : ∀ (l : List (FE × FE)) {r : Env} {ms : List (Key × D)}, fPairs l r = .ok ms → ms.length = l.length
  | [], _, _, h => by cases h; rfl
  | (fk, fv) :: l, r, ms, h => by
    unfold fPairs at h
    obtain ⟨k, _, h⟩ := bind_ok h
    obtain ⟨v, _, h⟩ := bind_ok h
    obtain ⟨ps, e, h⟩ := bind_ok h
    cases ek : keyOf k with
    | none => rw [ek] at h; cases h
    | some k' =>
      rw [ek] at h
      cases h
      rw [List.length_cons, List.length_cons, fPairs_len l e]
theorem e_disp {keys : List (Option Expr)} {values : List Expr} {l : List (FE × FE)} (h : PPs X pos keys values (trsOf g X.mg E l)) (hl : keys.length = l.length) (hall : keys.all (·.isSome) = true := by rfl) (hv : keys.length = values.length := by rfl) (h0 : keys ≠ [] := by simp) (h15 : keys.length ≤ 15 := by decide) :
    PE X (.Dict keys values pos) (tF g X.mg E (fDisp l)) := (pe_disp h hall hv h0 h15).imp fun σ H Q q => by
  obtain ⟨I, r, rl, er, q⟩ := q
  intro p hp
  have s0 := rl.lay (o := .dK []) hp
  have nz := rl.nz hp
  have ni := rl.out hp
  unfold fDisp at q
  refine pairs_of l s0.rl er ?_
  cases e : fPairs l r with
  | bad => rw [e] at q; exact q.elim
  | exc c => rw [e] at q; exact fun I2 H2 s2 => q I2 H2 (s0.trans s2)
  | ok ms =>
    rw [e] at q
    intro ps I1 H1 s1 x1
    obtain ⟨es, rfl, x1⟩ := x1
    obtain ⟨n1, k1⟩ := s1.beside ni nz upd_same rfl
    refine ⟨k1, es, rfl, ?_, ?_⟩
    · have e1 : es.length = ms.length := x1.length
      rw [e1, fPairs_len l e, ← hl]; exact h15
    · have s2 := (Stp.chg (u := .dK (mergeK [] es)) (s0.trans s1) (NT.of hp) nz n1 k1 rfl).take (NT.of hp) nz n1 upd_same
      have sb : Sub I1 (upd I1 p (.dK (mergeK [] es))) := fun a u z => by rw [upd_ne (ne_of_none z n1)]; exact z
      exact q _ _ _ s2 (.dK (.inl upd_same) ((DRk.merge x1 .nil).mono sb))
/-- d.get(k, x) -/
def fGet2 (fa fb fc : FE) : FE := fun r => (fa r).bind fun d => match d with
  | .dct kvs => (fb r).bind fun k => (fc r).bind fun x => match keyOf k with
    | some k' => .ok ((valD kvs k').getD x)
    | none => .bad
  | _ => .bad
theorem isD_of {I H : Hp} {v : V} {kvs : List (D × D)} (rl : Rl g I H) (h : DR g I v (.dct kvs)) : ∃ a, v = .ref a ∧ IsD H a := by
  cases h with
  | dK h _ => exact ⟨_, rfl, .inl ⟨_, rl.sub.rd h⟩⟩
theorem e_get2 (hu : X.A.units + 1 < cLine) (ha : PE X o (tF g X.mg E fa)) (hb : PE X e (tF g X.mg E fb)) (hc : PE X f (tF g X.mg E fc)) (m : M2 X o "get" apos e f cpos := by exact ⟨rfl, rfl, rfl, rfl⟩) : PE X (.Call (.Attribute o "get" apos) [e, f] [] cpos) (tF g X.mg E (fGet2 fa fb fc)) :=
  (pe_dget2 hu ha hb hc m).imp fun σ H Q h => by
    obtain ⟨I, r, rl, er, h⟩ := h
    unfold fGet2 at h
    refine ⟨I, r, rl, er, Pst.first h fun d v I1 H1 _ s1 x1 h1 => ?_⟩
    cases d with
    | dct kvs =>
      obtain ⟨a, rfl, hD⟩ := isD_of s1.rl x1
      refine ⟨a, rfl, hD, I1, r, s1.rl, er.mono s1.mono, Pst.first h1 fun k y I2 H2 _ s2 x2 h2 => ?_⟩
      refine ⟨I2, r, s2.rl, er.mono (s1.trans s2).mono, Pst.first h2 fun x z I3 H3 _ s3 x3 h3 => ?_⟩
      cases ek : keyOf k with
      | none => rw [ek] at h3; exact h3.elim
      | some k' =>
        rw [ek] at h3
        have h3 : Pst g X.mg E (DR g) I3 H3 (.ok ((valD kvs k').getD x)) Q := h3
        rw [keyOf_v ek x2]
        have x1' := x1.mono (s2.trans s3).mono
        cases x1' with
        | dK hx rx =>
          rename_i es
          refine ⟨valV es k', .inl ⟨_, _, s3.rl.sub.rd hx, rfl, rfl⟩, ?_⟩
          rcases rx.val k' with ⟨e1, e2⟩ | ⟨v, d, e1, e2, e3⟩
          · rw [e1]; rw [e2] at h3
            exact h3.here s3.rl x3
          · rw [e1]; rw [e2] at h3
            exact h3.here s3.rl e3
    | _ => exact h1.elim
end
end FW
/-! a, b = x, y; slices by wishes. -/
namespace FW
open PySem PySem.Spec PyProof.Rows L2 HotX

def wsParOV (i j : Nat) (w1 w2 : WE) : WS := ⟨fun r k => (i < r.length ∧ j < r.length) ∧ w1.run (plain r) (fun d => (∃ ds, d = .lst ds) ∧ w2.run (plain r) (fun e => k.nx ((r.set i (Sl.own d)).set j (Sl.val e))) k.ex) k.ex,
  fun h q => ⟨q.1, w1.mono (fun _ z => ⟨z.1, w2.mono (fun _ z => h.nx _ z) h.ex z.2⟩) h.ex q.2⟩⟩
def wsParVO (i j : Nat) (w1 w2 : WE) : WS := ⟨fun r k => (i < r.length ∧ j < r.length) ∧ w1.run (plain r) (fun d => w2.run (plain r) (fun e => (∃ ds, e = .lst ds) ∧ k.nx ((r.set i (Sl.val d)).set j (Sl.own e))) k.ex) k.ex,
  fun h q => ⟨q.1, w1.mono (fun _ z => w2.mono (fun _ z => ⟨z.1, h.nx _ z.2⟩) h.ex z) h.ex q.2⟩⟩
section
variable {X : Cx} {g : Gd} {E : XK} {i j : Nat} {x y : Str} {a b : Expr} {w1 w2 : WE} {px py pt pos pt2 : Pos} {kt k2 : Nat}
theorem s_parOV (i j : Nat) {k : Nat} (B : Bd X E k) (ha : PE X a (tO g X.mg E w1)) (hb : PE X b (tW g X.mg E w2)) (hi : X.N[i]? = some x := by rfl) (hj : X.N[j]? = some y := by rfl) (hij : i ≠ j := by decide) (hx : X.env.scope.names.lookup x = some .local := by rfl) (hy : X.env.scope.names.lookup y = some .local := by rfl)
    (hw : swappedStores [.Tuple [.Name x px, .Name y py] kt pt] (.Tuple [a, b] k2 pt2) X.env = pure (some [x, y]) := by rfl) (hs : swapsWithSole [.Tuple [.Name x px, .Name y py] kt pt] (.Tuple [a, b] k2 pt2) pos.line X.env = pure false := by rfl)
    (hst : starEach [a, b] X.env = (false, eval a X.env) :: starEach [b] X.env := by rfl) (hst2 : starEach [b] X.env = (false, eval b X.env) :: starEach [] X.env := by rfl) :
    PS X (.Assign [.Tuple [.Name x px, .Name y py] kt pt] (.Tuple [a, b] k2 pt2) pos) (tWS g X.mg E (wsParOV i j w1 w2)) :=
  (ps_par B.hc B.nd hi hj hij hx hy (pa_cons ha (pa_cons hb pa_nil hst2) hst) hw hs).imp fun D σ H h => by
    obtain ⟨I0, H0, r, z, ⟨li, lj⟩, h⟩ := h
    refine z.readO h fun ds p vs I1 H1 q z1 n nz hI hp y1 fr => ?_
    refine ⟨I1, plain r, z1.stp.rl, z1.er, w2.mono (fun e q u I2 H2 s2 x2 => ?_) (fun c q => excW.step z1.stp q) q⟩
    obtain ⟨hI2, hp2⟩ := s2.beside hI nz hp rfl
    exact ⟨.ref p, u, rfl, q _ _ ⟨I2, ((z1.go s2).setO (o := .lst vs) (d := .lst ds) li n nz hI2 hp2 (show DRs g I2 vs ds from y1.mono s2.mono) fr).setV (by rw [List.length_set]; exact lj) x2⟩⟩
theorem s_parVO (i j : Nat) {k : Nat} (B : Bd X E k) (ha : PE X a (tW g X.mg E w1)) (hb : PE X b (tO g X.mg E w2)) (hi : X.N[i]? = some x := by rfl) (hj : X.N[j]? = some y := by rfl) (hij : i ≠ j := by decide) (hx : X.env.scope.names.lookup x = some .local := by rfl) (hy : X.env.scope.names.lookup y = some .local := by rfl)
    (hw : swappedStores [.Tuple [.Name x px, .Name y py] kt pt] (.Tuple [a, b] k2 pt2) X.env = pure (some [x, y]) := by rfl) (hs : swapsWithSole [.Tuple [.Name x px, .Name y py] kt pt] (.Tuple [a, b] k2 pt2) pos.line X.env = pure false := by rfl)
    (hst : starEach [a, b] X.env = (false, eval a X.env) :: starEach [b] X.env := by rfl) (hst2 : starEach [b] X.env = (false, eval b X.env) :: starEach [] X.env := by rfl) :
    PS X (.Assign [.Tuple [.Name x px, .Name y py] kt pt] (.Tuple [a, b] k2 pt2) pos) (tWS g X.mg E (wsParVO i j w1 w2)) :=
  (ps_par B.hc B.nd hi hj hij hx hy (pa_cons ha (pa_cons hb pa_nil hst2) hst) hw hs).imp fun D σ H h => by
    obtain ⟨I0, H0, r, ⟨I, z⟩, ⟨li, lj⟩, h⟩ := h
    refine ⟨I, plain r, z.stp.rl, z.er, w1.mono (fun d q v I1 H1 s1 x1 => ?_) (fun c q => excW.step z.stp q) h⟩
    have z1 := z.go s1
    refine ⟨I1, plain r, z1.stp.rl, z1.er, w2.mono (fun e q => ⟨q.1, fun p I2 H2 s2 n nz hI hd => ?_⟩) (fun c q => excW.step z1.stp q) q⟩
    obtain ⟨⟨ds, rfl⟩, q⟩ := q
    obtain ⟨vs, hp, y2⟩ := hd ds rfl
    refine ⟨v, .ref p, rfl, q _ _ ⟨I2, ((z1.go s2).setV li (x1.mono s2.mono)).setO (o := .lst vs) (d := .lst ds) (by rw [List.length_set]; exact lj) (z1.stp.back n) nz hI hp (show DRs g I2 vs ds from y2) fun m e hm hs => ?_⟩⟩
    by_cases em : m = i
    · subst em
      rw [List.getElem?_set_self li] at hm; cases hm
    · rw [List.getElem?_set_ne (Ne.symm em)] at hm hs
      obtain ⟨p', o, q1, _, _, _, q5, q6⟩ := z1.own m e hm
      rw [hs] at q1; cases q1
      exact n.none_of q5 (chg_tbl q6.chg)
/-- a part of a slice by wishes -/
structure WO where
  run : Env → (Option Int → Prop) → (Str → Prop) → Prop
  mono : ∀ {r : Env} {Q Q' : Option Int → Prop} {Z Z' : Str → Prop}, (∀ d, Q d → Q' d) → (∀ c, Z c → Z' c) → run r Q Z → run r Q' Z'
def tWO (g : Gd) (mg : Str → Option Value) (E : XK) (w : WO) : TO := fun σ H Q => ∃ I r, Rl g I H ∧ ER g I σ r ∧ w.run r (endW g (fun _ (v d : Option Int) => v = d) I H Q) (excW g mg E I H)
def woNo : WO := ⟨fun _ Q _ => Q none, fun h _ q => h _ q⟩
def woPart (w : WE) : WO := ⟨fun r Q Z => w.run r (fun d => ∃ i, d = .int i ∧ Q (some i)) Z, fun h h2 q => w.mono (fun _ ⟨i, e, z⟩ => ⟨i, e, h _ z⟩) h2 q⟩
theorem wo_no : PO X none (tWO g X.mg E woNo) := po_none.imp fun σ H Q h => by
  obtain ⟨I, r, rl, er, h⟩ := h
  exact h none I H rl.stp rfl
theorem wo_part {e : Expr} {w : WE} (h : PE X e (tW g X.mg E w)) : PO X (some e) (tWO g X.mg E (woPart w)) := (po_some h).imp fun σ H Q h => by
  obtain ⟨I, r, rl, er, h⟩ := h
  refine ⟨I, r, rl, er, w.mono (fun d z v I1 H1 s1 x1 => ?_) (fun _ z => z) h⟩
  obtain ⟨i, rfl, z⟩ := z
  cases x1
  exact ⟨i, rfl, z (some i) I1 H1 s1 rfl⟩
def wCut (wa : WE) (wl wh : WO) : WE := ⟨fun r Q Z => wa.run r (fun x => wl.run r (fun lo => wh.run r (fun hi => resW (dCut x lo hi) Q Z) Z) Z) Z, fun h h2 q => wa.mono (fun _ z => wl.mono (fun _ z => wh.mono (fun _ z => resW.mono h h2 z) h2 z) h2 z) h2 q⟩
theorem w_cut {lo hi : Option Expr} {wa : WE} {wl wh : WO} {p2 : Pos} (ha : PE X a (tW g X.mg E wa)) (hl : PO X lo (tWO g X.mg E wl)) (hh : PO X hi (tWO g X.mg E wh)) : PE X (.Subscript a (.Slice lo hi none p2) pos) (tW g X.mg E (wCut wa wl wh)) :=
  (pe_slice (sl_list.or (sl_tupX.or sl_str)) ha hl hh).imp fun σ H Q h => by
    obtain ⟨I, r, rl, er, h⟩ := h
    refine ⟨I, r, rl, er, wa.mono (fun x z v I1 H1 s1 x1 => ?_) (fun _ z => z) h⟩
    refine ⟨I1, r, s1.rl, er.mono s1.mono, wl.mono (fun l z l' I2 H2 s2 x2 => ?_) (fun c z => excW.step s1 z) z⟩
    have s12 := s1.trans s2
    refine ⟨I2, r, s2.rl, er.mono s12.mono, wh.mono (fun u z u' I3 H3 s3 x3 => ?_) (fun c z => excW.step s12 z) z⟩
    subst x2; subst x3
    have s13 := s12.trans s3
    have y := x1.mono (s2.trans s3).mono
    cases y with
    | lst q t =>
      refine .inl ⟨_, _, rfl, SqL.of (s3.rl.sub _ _ q), fun p hp => ?_⟩
      have z : endW g (DR g) I H Q _ := z
      exact z _ _ _ (s13.trans (s3.rl.put hp)) (.lst upd_same ((cut_dr t _ _).mono (s3.rl.put hp).mono))
    | tup q uq t =>
      rename_i pa vs _ _
      have z : endW g (DR g) I H Q _ := z
      refine .inr (.inl ⟨_, _, rfl, uq.sqt (s3.rl.sub _ _ q), fun hw => ?_, fun _ p u hp hu => ?_⟩)
      · have e := cut_whole (lo := l') (hi := u') t hw
        exact z _ I3 H3 s13 (.tup q uq (by rw [e]; exact t))
      · exact z _ _ _ (s13.trans (s3.rl.put hp hu.nt)) (.tup upd_same hu ((cut_dr t _ _).mono (s3.rl.put (o := u) hp hu.nt).mono))
    | str y =>
      have z : resW (if y.length ≤ 100000 then .ok (.str (cutS y l' u')) else .bad) (endW g (DR g) I H Q) (excW g X.mg E I H) := z
      split at z
      · rename_i c
        exact .inr (.inr ⟨_, rfl, small_line c, z _ I3 H3 s13 (.str _)⟩)
      · exact z.elim
    | _ => exact (show False from z).elim
end
end FW
/-! The def that names what was caught: its body, read within the except suite. -/
namespace FW
open PySem PySem.Spec PyProof.Rows L2 HotX

section
variable {X : Cx} {p : Addr × Obj} {D0 : Addr}
theorem call_isX (C : ExcC X.K D0) (hz : Zc (.ref D0) none p.2) (hf : ∃ vs, p.2.data = .fields vs) (hp : p ∈ X.pn) : CallR X (.builtin "isinstance") (rIsE X.K D0 p.1) := by
  intro pins s σ H xs us Q I r h
  obtain ⟨c, cv, b, rfl, hcv, e, q⟩ := h
  cases r with
  | cons rx rr =>
    cases rr with
    | cons rt rr =>
      cases rr
      cases rx
      have ec := hcv _ rt
      subst ec
      obtain ⟨hget, _⟩ := I.pin p (List.mem_append_left _ hp)
      obtain ⟨vs, hv⟩ := hf
      have J : PySem.W.InstAt s.heap p.1 p.2 D0 none := by
        obtain ⟨a, oc, od, oda, osl⟩ := p
        obtain ⟨h1, h2⟩ := hz
        dsimp only at h1 h2 hv
        subst h1 h2 hv
        exact ⟨hget, rfl, rfl, trivial⟩
      exact PySem.W.kia_one (PySem.W.handS_kitx_exc C.hg C.hk C.hs C.hd C.ha C.hn C.ht C.hm) I.kIn J e (fun z => nomatch z) fun tk => ⟨.bl b, H, I.kept (t' := tk) fun _ _ z => z, rfl, q⟩
/-- isinstance(e, c): e in the first slot -/
def tIsE (a : Addr) (b : Bool) : TE := fun σ H Q => σ[0]? = some (some (.ref a)) ∧ Q (.bl b) H
/-- c names a class -/
structure ClsE (X : Cx) (D0 : Addr) (y : Str) (b : Bool) : Prop where
  g : Gl X y
  ex : ∃ (c : V) (cv : Value), (X.mg y = some cv ∨ (X.mg y = none ∧ bootBuiltins y = some cv ∧ y ≠ "__name__")) ∧ RelV c cv ∧ (∀ u, RelV c u → u = cv) ∧ PySem.W.kitOne X.K (.ref D0) cv = some b
theorem pe_isX {x y : Str} {b : Bool} {p1 p2 p3 pos : Pos} (C : ExcC X.K D0) (hz : Zc (.ref D0) none p.2) (hf : ∃ vs, p.2.data = .fields vs) (hp : p ∈ X.pn) (hg : Gl X "isinstance") (hm : X.mg "isinstance" = none) (hc : ClsE X D0 y b) (hN : X.N[0]? = some x) (hv : Vis X.env.scope x)
    (hd : (x == ("__debug__" : Str)) = false := by decide) (hcd : (x == ("__classdict__" : Str)) = false := by decide) (hdy : (y == ("__debug__" : Str)) = false := by decide)
    (he : starEach [.Name x p2, .Name y p3] X.env = (false, eval (.Name x p2) X.env) :: starEach [.Name y p3] X.env := by rfl) :
    PE X (.Call (.Name "isinstance" p1) [.Name x p2, .Name y p3] [] pos) (tIsE p.1 b) := by
  obtain ⟨c, cv, hcv, rc, uq, ek⟩ := hc.ex
  have pc : PE X (.Name y p3) (tC c) := by
    rcases hcv with h | ⟨h1, h2, h3⟩
    · exact pe_glob hc.g h rc hdy
    · exact pe_bltn hc.g h1 h2 rc h3 hdy
  exact (pe_callB (call_isX C hz hf hp) hg hm (by decide +kernel) (pa_cons (pe_var (i := 0) hN hv hd hcd) (pa_cons pc pa_nil) he) (by decide) (by decide) he).imp fun σ H Q h => ⟨.ref p.1, h.1, c, cv, b, rfl, uq, ek, h.2⟩

/-! ### xs.index(True) -/
theorem items_true {A : Around} {s : Shared} {bs : List Bool} (hu : A.units < cLine) : SeqAt.ItemsEq A s (bs.map Value.bool) bs (.bool true) true := by
  refine ⟨by rw [List.length_map], fun j h1 h2 => ?_⟩
  refine (eqAt_key (.num (if bs[j] = true then 1 else 0)) (.num 1) A s _ _ ?_ (.bool rfl) (by rw [NestedKey.depth, NestedKey.depth]; exact hu)).cast ?_
  · rw [List.getElem_map]; exact .bool rfl
  · cases bs[j] <;> decide
theorem mt_index (hu : X.A.units + 8 < cLine) : MtR X "list.index" (fun x xs H Q => ∃ (l : Addr) (bs : List Bool), x = .ref l ∧ xs = [.bl true] ∧ SqL X.K H l (bs.map V.bl) ∧ true ∈ bs ∧ Q (.int (bs.idxOf true : Nat)) H) := by
  intro pins s σ H x xs v us Q I rx rs h
  obtain ⟨l, bs, rfl, rfl, hl, hm, q⟩ := h
  cases rx
  obtain ⟨u, rfl, r1⟩ := vals1 rs
  cases r1
  obtain ⟨its, rv, pl, hz⟩ := I.list hl
  have ei := bl_vals rv
  subst ei
  rw [List.length_map] at hz
  exact SeqAt.call_list_index pl.isList (items_true (by simp only [Around.in1_units]; omega)) hz hm ⟨.int _, H, I.tok _, ⟨_, rfl⟩, q⟩

/-! ### the body -/
def TBits (a : Addr) : List Bool → TA
  | [] => tNil
  | b :: bs => tCons (tIsE a b) (TBits a bs)
def TStrs : List Str → TA
  | [] => tNil
  | x :: xs => tCons (tC (.str x)) (TStrs xs)
variable {e : Expr} {es : List Expr} {a : Addr}
theorem pb_nil : PA X [] (TBits a []) := pa_nil
theorem pb_cons {b : Bool} {bs : List Bool} (h : PE X e (tIsE a b)) (t : PA X es (TBits a bs)) (hs : starEach (e :: es) X.env = (false, eval e X.env) :: starEach es X.env := by rfl) : PA X (e :: es) (TBits a (b :: bs)) := pa_cons h t hs
theorem pz_nil : PA X [] (TStrs []) := pa_nil
theorem pz_cons {x : Str} {xs : List Str} (h : PE X e (tC (.str x))) (t : PA X es (TStrs xs)) (hs : starEach (e :: es) X.env = (false, eval e X.env) :: starEach es X.env := by rfl) : PA X (e :: es) (TStrs (x :: xs)) := pa_cons h t hs
theorem bits_run {σ : L2.St} {H : Hp} (h0 : σ[0]? = some (some (.ref a))) : ∀ {bs : List Bool} {Q : List V → Hp → Prop}, Q (bs.map V.bl) H → TBits a bs σ H Q
  | [], _, q => q
  | b :: bs, Q, q => ⟨h0, bits_run (Q := fun xs H2 => Q (.bl b :: xs) H2) h0 q⟩
theorem strs_run {σ : L2.St} {H : Hp} : ∀ {xs : List Str} {Q : List V → Hp → Prop}, Q (xs.map V.str) H → TStrs xs σ H Q
  | [], _, q => q
  | x :: xs, Q, q => strs_run (Q := fun ys H2 => Q (.str x :: ys) H2) q
abbrev rIdx (K : PySem.W.Frag) : V → List V → Hp → VK → Prop := fun x xs H Q => ∃ (l : Addr) (bs : List Bool), x = .ref l ∧ xs = [.bl true] ∧ SqL K H l (bs.map V.bl) ∧ true ∈ bs ∧ Q (.int (bs.idxOf true : Nat)) H
def tTerm (K : PySem.W.Frag) (a : Addr) (b1 b2 b3 b4 : List Bool) (k1 k2 : List Str) (bv : Bool) (to tn : TS) : TS :=
  tSeq (tAsg (tLst (TBits a b1)) (gName 1)) (tSeq (tAsg (tOp rCat (tVar 1) (tLst (TBits a b2))) (gName 1)) (tSeq (tAsg (tOp rCat (tVar 1) (tLst (TBits a b3))) (gName 1)) (tSeq (tAsg (tOp rCat (tVar 1) (tLst (TBits a b4))) (gName 1))
    (tSeq (tAsg (tLst (TStrs k1)) (gName 2)) (tSeq (tAsg (tOp rCat (tVar 2) (tLst (TStrs k2))) (gName 2)) (tSeq (tIfS (tOr (tB (tNeI (tSumB K (tVar 1)) (tC (.int 1)))) (tNot (tB (tIsE a bv)))) to tn)
      (tRet (tTupX (tCons (tC (.str "refused")) (tCons (tOp (rIx K) (tVar 2) (tBM K "list" (rIdx K) (tVar 1) (tCons (tC (.bl true)) tNil))) tNil)))))))))) 
/-- xs = xs + [..] -/
theorem cat_run {g : Gd} {I H0 H : Hp} {σ : L2.St} {i : Nat} {p0 : Addr} {xs ys : List V} {t : TA} {k : L2.St → Hp → Prop} (st : Stp g I H0 I H) (hp : σ[i]? = some (some (.ref p0))) (h0 : H p0 = some (.lst xs)) (nz : p0 ≠ g.dz) (ht : ∀ Q : List V → Hp → Prop, Q ys H → t σ H Q) (hz : xs.length + ys.length ≤ 1000)
    (hk : ∀ p H', Stp g I H0 I H' → H' p = some (.lst (xs ++ ys)) → p ≠ g.dz → (∀ b o, H b = some o → H' b = some o) → k (σ.set i (some (.ref p))) H') : tOp rCat (tVar i) (tLst t) σ H (fun x H1 => gName i x σ H1 k) := by
  refine ⟨.ref p0, hp, ht _ ⟨small_line (by omega), fun p1 hp1 => ?_⟩⟩
  have n0 : p0 ≠ p1 := ne_of_none h0 hp1
  refine ⟨p0, p1, xs, ys, rfl, rfl, by rw [upd_ne n0]; exact h0, upd_same, small_line (by omega), fun p2 hp2 => ?_⟩
  have s1 := st.rl.lay (o := .lst ys) hp1
  have s2 := s1.rl.lay (o := .lst (xs ++ ys)) hp2
  refine hk p2 _ (st.trans (s1.trans s2)) upd_same (s1.rl.nz hp2) fun b o e => ?_
  have e1 : upd H p1 (.lst ys) b = some o := by rw [upd_ne (ne_of_none e hp1)]; exact e
  rw [upd_ne (ne_of_none e1 hp2)]; exact e1
theorem new_run {g : Gd} {I H0 H : Hp} {σ : L2.St} {i : Nat} {ys : List V} {t : TA} {k : L2.St → Hp → Prop} (st : Stp g I H0 I H) (ht : ∀ Q : List V → Hp → Prop, Q ys H → t σ H Q) (hz : ys.length ≤ 1000)
    (hk : ∀ p H', Stp g I H0 I H' → H' p = some (.lst ys) → p ≠ g.dz → (∀ b o, H b = some o → H' b = some o) → k (σ.set i (some (.ref p))) H') : tLst t σ H (fun x H1 => gName i x σ H1 k) := by
  refine ht _ ⟨small_line (by omega), fun p hp => ?_⟩
  exact hk p _ (st.trans (st.rl.lay hp)) upd_same (st.rl.nz hp) fun b o e => by rw [upd_ne (ne_of_none e hp)]; exact e
theorem term_run {K : PySem.W.Frag} {g : Gd} {I H : Hp} {σ : L2.St} {b1 b2 b3 b4 : List Bool} {k1 k2 : List Str} {to : TS} {D : Ends} {kind : Str} (rl : Rl g I H) (h0 : σ[0]? = some (some (.ref a))) (hl : 2 < σ.length)
    (hc : ((b1 ++ b2 ++ b3 ++ b4).filter id).length = 1) (hk : (k1 ++ k2)[(b1 ++ b2 ++ b3 ++ b4).idxOf true]? = some kind) (hz : b1.length + b2.length + b3.length + b4.length ≤ 64) (hzk : k1.length + k2.length ≤ 64)
    (q : ∀ v I' H', Stp g I H I' H' → DR g I' v (.tup [.str "refused", .str kind]) → D.rt v H') : tTerm K a b1 b2 b3 b4 k1 k2 true to tNext D σ H := by
  have e0 : ∀ {τ : L2.St} {v : V} {i : Nat}, i ≠ 0 → τ[0]? = some (some (.ref a)) → (τ.set i (some v))[0]? = some (some (.ref a)) := fun hi e => by rw [List.getElem?_set_ne hi]; exact e
  have l1 := List.length_append (as := b1) (bs := b2)
  refine new_run rl.stp (fun Q z => bits_run h0 z) (by rw [List.length_map]; omega) fun p1 H1 s1 g1 z1 m1 => ?_
  have h1 := e0 (v := .ref p1) (by decide : (1:Nat) ≠ 0) h0
  refine cat_run (xs := b1.map V.bl) s1 (List.getElem?_set_self (by omega)) g1 z1 (fun Q z => bits_run h1 z) (by simp only [List.length_map]; omega) fun p2 H2 s2 g2 z2 m2 => ?_
  rw [← List.map_append] at g2
  have h2 := e0 (v := .ref p2) (by decide : (1:Nat) ≠ 0) h1
  refine cat_run (xs := (b1 ++ b2).map V.bl) s2 (List.getElem?_set_self (by rw [List.length_set]; omega)) g2 z2 (fun Q z => bits_run h2 z) (by simp only [List.length_map, List.length_append]; omega) fun p3 H3 s3 g3 z3 m3 => ?_
  rw [← List.map_append] at g3
  have h3 := e0 (v := .ref p3) (by decide : (1:Nat) ≠ 0) h2
  refine cat_run (xs := (b1 ++ b2 ++ b3).map V.bl) s3 (List.getElem?_set_self (by simp only [List.length_set]; omega)) g3 z3 (fun Q z => bits_run h3 z) (by simp only [List.length_map, List.length_append]; omega) fun p4 H4 s4 g4 z4 m4 => ?_
  rw [← List.map_append] at g4
  have h4 := e0 (v := .ref p4) (by decide : (1:Nat) ≠ 0) h3
  refine new_run s4 (fun Q z => strs_run z) (by rw [List.length_map]; omega) fun p5 H5 s5 g5 z5 m5 => ?_
  have h5 := e0 (v := .ref p5) (by decide : (2:Nat) ≠ 0) h4
  refine cat_run (xs := k1.map V.str) s5 (List.getElem?_set_self (by simp only [List.length_set]; omega)) g5 z5 (fun Q z => strs_run z) (by simp only [List.length_map]; omega) fun p6 H6 s6 g6 z6 m6 => ?_
  rw [← List.map_append] at g6
  have h6 := e0 (v := .ref p6) (by decide : (2:Nat) ≠ 0) h5
  have f4 : H6 p4 = some (.lst ((b1 ++ b2 ++ b3 ++ b4).map V.bl)) := m6 _ _ (m5 _ _ g4)
  generalize hτ : ((((((σ.set 1 (some (V.ref p1))).set 1 (some (V.ref p2))).set 1 (some (V.ref p3))).set 1 (some (V.ref p4))).set 2 (some (V.ref p5))).set 2 (some (V.ref p6))) = τ at h6 ⊢
  have t1 : τ[1]? = some (some (V.ref p4)) := by
    rw [← hτ, List.getElem?_set_ne (by decide), List.getElem?_set_ne (by decide), List.getElem?_set_self (by simp only [List.length_set]; omega)]
  have t2 : τ[2]? = some (some (V.ref p6)) := by
    rw [← hτ, List.getElem?_set_self (by simp only [List.length_set]; omega)]
  generalize hb : b1 ++ b2 ++ b3 ++ b4 = bs at hc hk f4
  have hbl : bs.length ≤ 64 := by rw [← hb]; simp only [List.length_append]; omega
  have hm : true ∈ bs := by
    cases e : bs.filter id with
    | nil => rw [e] at hc; cases hc
    | cons b r =>
      have : b ∈ bs.filter id := by rw [e]; exact List.mem_cons_self
      obtain ⟨m, t⟩ := List.mem_filter.mp this
      have : b = true := t
      rw [← this]; exact m
  refine ⟨.ref p4, t1, p4, bs, rfl, SqL.of f4, hbl, _, 1, rfl, rfl, _, rfl, ?_⟩
  rw [hc]
  refine ⟨h6, true, rfl, ?_⟩
  show (if (!true) = true then _ else tNext _ τ H6)
  rw [if_neg (by decide)]
  unfold tNext
  dsimp only
  refine ⟨.ref p6, t2, .ref p4, t1, .inl ⟨rfl, _, SqL.of f4⟩, p4, bs, rfl, rfl, SqL.of f4, hm, .inl ⟨p6, _, _, .str kind, rfl, rfl, SqL.of g6, ?_, ?_⟩⟩
  · refine atI_nat ?_
    rw [List.getElem?_map, hk]; rfl
  · refine ⟨by show 2 ≤ sizeLine; decide, fun pt u hpt hu => ?_⟩
    have s7 := s6.rl.put (o := u) hpt hu.nt
    exact q _ _ _ (s6.trans s7) (.tup upd_same hu (.cons (.str _) (.cons (.str _) .nil)))
end
end FW
/-! f(lambda: e), f a def that tries its argument and names what it caught. -/
namespace FW
open PySem PySem.Spec PyProof.Rows L2 HotX LamX

/-! ### the def that names what was caught, called in the suite -/
/-- its promise for a class -/
def FnT (P : Program) (w : World) (K : PySem.W.Frag) (mg : Str → Option Value) (base : Heap) (k : Nat) (f : Addr) (fd : FuncData) (x : Str) (D0 : Addr) (kind : Str) : Prop :=
  ∀ (A : Around) (outer : List PySem.Env) (s : Shared) (H : Hp) (args : Args) (g : Gd) (I : Hp) (Q : VK) (p : Addr × Obj), L2H.RoomH k A → L2H.Hot1 A p → Zc (.ref D0) none p.2 → L2H.PinOk outer H s p → Env0 P w K mg base A outer s H → BindsTo s fd args [(x, .ref p.1)] → Rl g I H →
    (∀ v I' H', Stp g I H I' H' → DR g I' v (.tup [.str "refused", .str kind]) → Q v H') → codeAny (model P w) A (.call (.ref f) args) (CR C8.CX0 outer P w H s Q C8.E0) s
section
variable {P : Program} {w : World} {K : PySem.W.Frag} {mg : Str → Option Value} {base : Heap}
theorem fn_term {x qual y : Str} {st : Stmt} {f : Addr} {fd : FuncData} {N : List Str} {k : Nat} {D0 : Addr} {kind : Str} {b1 b2 b3 b4 : List Bool} {k1 k2 : List Str} {to : TS} (F : Fun K x qual st f fd) (S : FnScope N [y] (defScope st)) (hN : 2 < N.length)
    (hc : ((b1 ++ b2 ++ b3 ++ b4).filter id).length = 1) (hk : (k1 ++ k2)[(b1 ++ b2 ++ b3 ++ b4).idxOf true]? = some kind) (hz : b1.length + b2.length + b3.length + b4.length ≤ 64) (hzk : k1.length + k2.length ≤ 64)
    (hbody : ∀ (cdv : Value) (A : Around) (outer : List PySem.Env) (s : Shared) (H : Hp) (p : Addr × Obj), HotP (L2H.cxH C8.CX0 P w K mg base N qual (defScope st) f cdv A outer s H C8.E0 p) p → Zc (.ref D0) none p.2 → L2H.RoomH k (A.deeper (envOfC qual (defScope st) s.heap.objs.size f cdv)) →
      PSs (L2H.cxH C8.CX0 P w K mg base N qual (defScope st) f cdv A outer s H C8.E0 p) (defBody st) (tTerm K p.1 b1 b2 b3 b4 k1 k2 true to tNext)) : FnT P w K mg base (k + 1) f fd y D0 kind := by
  obtain ⟨oc, od, kV, doc, pm, an, cdv, ct, osl, rfl, lk, hcd⟩ := F.ex
  intro A outer s H args g I Q p hr hot hz' hpin e0 hb rl q
  have KX : K.In s.heap := e0.mod.kin.keeps fun b o e => (e0.bs b o e).1
  have kind1 : ∀ z ∈ [(y, Value.ref p.1)], (defScope st).names.lookup z.1 = some .local ∨ ((defScope st).names.lookup z.1 = some .cell ∧ ((cellsFrom (s.heap.objs.size + 1) (defScope st).names []).lookup z.1).isSome = true) := fun z hz => by
    rw [List.mem_singleton.mp hz]
    exact (S.par y List.mem_cons_self).imp id fun q => ⟨q, PySem.W.cellsFrom_some _ _ _ (.inl q)⟩
  refine codeAny_call_function hr.depth (KX _ _ lk) rfl S.co S.gen rfl (PySem.W.codeRec_of KX hcd) (hb _ _ _ _ (wpAny_newFunctionEnv_cells S.kind kind1 fun env he s1 x => ?_))
  subst he
  refine ⟨(e0.mod.nolimit.keeps fun b o e => (e0.bs b o e).1).keeps x.toInCall.keep, codeAny_func ?_⟩
  have J : Inv (L2H.cxH C8.CX0 P w K mg base N qual (defScope st) f cdv A outer s H C8.E0 p) [] (L2.start N [.ref p.1]) H s1 := L2H.inv_startH S (us := [.ref p.1]) hpin e0 rfl (.cons rfl .nil) x
  have hl0 : (L2.start N [V.ref p.1]).length = N.length := by
    unfold L2.start
    rw [List.length_append, List.length_map, List.length_replicate, List.length_singleton]; omega
  have tr := term_run (K := K) (to := to) (D := { nx := fun _ H' => Q .non H', rt := Q }) (σ := L2.start N [V.ref p.1]) rl rfl (by rw [hl0]; exact hN) hc hk hz hzk q
  refine wpAny_mono ((hbody cdv A outer s H p ⟨hot.1, hot.2, List.mem_cons_self⟩ hz' (hr.deeper _)).run [] s1 _ H _ J tr) (fun fl s' hs => ?_) fun e s' hs => hs
  cases fl with
  | ret u =>
    obtain ⟨v, σ', H', J', rv, q⟩ := hs
    exact ⟨v, H', J'.os, J'.bare, J'.base, J'.hok, rv, q⟩
  | next =>
    obtain ⟨σ', H', J', q⟩ := hs
    exact ⟨.non, H', J'.os, J'.bare, J'.base, J'.hok, rfl, q⟩
  | brk => obtain ⟨_, _, _, q⟩ := hs; exact q.elim
  | cont => obtain ⟨_, _, _, q⟩ := hs; exact q.elim
end
section
variable {X : Cx}
/-- t(n) in the suite, n the caught one in slot i -/
theorem pe_term {k i : Nat} {f D0 : Addr} {fd : FuncData} {x n y kind : Str} {p : Addr × Obj} {g : Gd} {p1 p2 pos : Pos} (F : FnT X.prog X.w X.K X.mg X.base k f fd y D0 kind) (hr : L2H.RoomH k X.A) (hot : L2H.Hot1 X.A p) (hz : Zc (.ref D0) none p.2) (hp : p ∈ X.pn) (hg : Gl X x) (hm : X.mg x = some (.ref f)) (hk : PySem.W.keepIn X.K (.ref f) = true)
    (hb : Binds X.K fd [y] []) (hN : X.N[i]? = some n) (hv : Vis X.env.scope n) (hdb : (x == ("__debug__" : Str)) = false := by decide) (hd : (n == ("__debug__" : Str)) = false := by decide) (hcd : (n == ("__classdict__" : Str)) = false := by decide)
    (he : starEach [.Name n p2] X.env = (false, eval (.Name n p2) X.env) :: starEach [] X.env := by rfl) :
    PE X (.Call (.Name x p1) [.Name n p2] [] pos) (fun σ H Q => σ[i]? = some (some (.ref p.1)) ∧ ∃ I, Rl g I H ∧ ∀ v I' H', Stp g I H I' H' → DR g I' v (.tup [.str "refused", .str kind]) → Q v H') := by
  refine ⟨fun pins s σ H Q J h => ?_⟩
  obtain ⟨h0, I, rl, q⟩ := h
  refine wpAny_Call_Name_kw (ld_glob J hg hm ?_ hdb)
  refine PySem.W.callWith_K (h₀ := X.base) J.ok.mod.kin hk (thn ((pa_cons (pe_var (i := i) hN hv hd hcd) pa_nil he).run pos pins s σ H (fun vs H1 => vs = [.ref p.1] ∧ H1 = H) J ⟨_, h0, rfl, rfl⟩) fun us s1 ⟨vs, H1, J1, r, e1, e2⟩ => ⟨J1.kIn, ?_⟩) he rfl
  subst e1 e2
  obtain rfl : us = [.ref p.1] := by
    cases r with
    | cons r1 r2 => cases r1; cases r2; rfl
  have P1 := J1.pin p (List.mem_append_left _ hp)
  have b := hb s1 [.ref p.1] J1.kIn rfl
  refine wpAny_call (codeAny_mono (F X.A X.stack s1 H1 ⟨[.ref p.1], []⟩ g I Q p hr hot hz ⟨P1.1, P1.2.1, fun hm => (List.mem_cons.mp (J1.stkSub p.1 hm)).elim P1.2.2.1 P1.2.2.2.1, P1.2.2.2.2⟩ J1.env0 b rl q) fun r s' hq => ?_)
  cases r with
  | error e => exact (show False from hq).elim
  | ok fl =>
    cases fl with
    | ret u => exact J1.after hq
    | next => exact False.elim hq
    | brk => exact False.elim hq
    | cont => exact False.elim hq
end
end FW
/-! f(lambda: e): the lambda made, handed over, called under try. -/
namespace FW
open PySem PySem.Spec PyProof.Rows L2 HotX LamX

/-- the lambda's context, an exception's context told -/
abbrev lamN (X : Cx) (A : Around) (outer : List PySem.Env) (s : Shared) (H : Hp) (E : XK) (scope : Scope) (f c' : Addr) : Cx :=
  (lamCx X A outer s H E scope f c').wish fun e s' => wpAny (model X.prog X.w) (A.deeper (lamEnv X scope s.heap.objs.size f c')) (leaving (lamEnv X scope s.heap.objs.size f c') e) (fun _ s'' => L2N.CX X.prog X.w outer H s E e s'') (fun e' s'' => L2N.CX X.prog X.w outer H s E e' s'') s'
section
variable {X : Cx} {pins : List (Addr × Obj)} {σ : L2.St} {H : Hp} {s : Shared}
theorem lam_takes {A : Around} {outer : List PySem.Env} {E : XK} {scope : Scope} {f c' : Addr} : L2N.Takes (lamN X A outer s H E scope f c') (fun cls d _ H => E cls d H) := L2N.takes_of rfl rfl rfl rfl
/-- what the lambda promises, called from the def that got it -/
theorem lam_call {Ng : List Str} {qg : Str} {sg : Scope} {gT f c' : Addr} {cdg pm ctv : Value} {params : Arguments} {body : Expr} {scope : Scope} {k : Nat} {a : Str} {pn : List (Addr × Obj)} {xe : Value → Shared → Prop} {W : WX} {E : XK} {tb : TE} {p1 p2 : Pos}
    (J : Inv X pins σ H s) (L : LamS X.env.scope scope) (hf : s.heap.get? f = some (PySem.W.kla_obj "<lambda>" (X.env.qual ++ "<lambda>") params body scope (cloFrom X.env.cells scope.names []) pm c' ctv)) (hfn : H f = none) (hfr : f ∉ frs X.stack)
    (hbind : bindArgs (PySem.W.kla_fn "<lambda>" (X.env.qual ++ "<lambda>") params body scope (cloFrom X.env.cells scope.names []) pm (.ref c') ctv) ⟨[], []⟩ = pure [])
    (tk : L2N.Takes ((cxOf C8.CX0 X.prog X.w X.K X.mg X.base Ng qg sg gT cdg X.A X.stack s H C8.E0).nox.tr pn xe) W) (hr : Room (k + 1) (X.A.deeper (envOfC qg sg s.heap.objs.size gT cdg)))
    (hbody : ∀ (A : Around) (outer : List PySem.Env) (s : Shared) (H : Hp), Room k (A.deeper (lamEnv X scope s.heap.objs.size f c')) → PE (lamN X A outer s H E scope f c') body tb)
    (hN : Ng[0]? = some a) (hv : Vis sg a) (hd : (a == ("__debug__" : Str)) = false) (hcd : (a == ("__classdict__" : Str)) = false) :
    PE ((cxOf C8.CX0 X.prog X.w X.K X.mg X.base Ng qg sg gT cdg X.A X.stack s H C8.E0).nox.tr pn xe) (.Call (.Name a p1) [] [] p2) (fun σZ HZ Q => σZ[0]? = some (some (.ref f)) ∧ HZ c' = some (CodeO c' (X.env.qual ++ "<lambda>")) ∧ (∀ cls d H', E cls d H' → W cls d σZ H') ∧ tb σ HZ Q) := by
  refine ⟨fun pinsZ sZ σZ HZ Q JZ h => ?_⟩
  obtain ⟨hs, hc, hW, ht⟩ := h
  refine wpAny_Call_Name_kw (thn ((pe_var (pos := p1) (i := 0) hN hv hd hcd).run pinsZ sZ σZ HZ (fun v H1 => v = .ref f ∧ H1 = HZ) JZ ⟨.ref f, hs, rfl, rfl⟩) fun u s1 ⟨v, H1, J1, r1, e1, e2⟩ => ?_)
  subst e1 e2
  obtain rfl : u = Value.ref f := r1
  have at1 : s1.heap.get? f = some (PySem.W.kla_obj "<lambda>" (X.env.qual ++ "<lambda>") params body scope (cloFrom X.env.cells scope.names []) pm c' ctv) := J1.base.keep f _ hf hfn hfr (fun z => by cases z)
  obtain ⟨⟨oc, vs, t, hoc, hdc, hvc⟩, _, _⟩ := J1.hok c' _ hc
  have rc : codeAny (model X.prog X.w) (X.A.deeper (envOfC qg sg s.heap.objs.size gT cdg)) (.call (.ref f) ⟨[], []⟩) (CR (L2N.CX X.prog X.w) (envOfC qg sg s.heap.objs.size gT cdg :: X.stack) X.prog X.w H1 s1 Q E) s1 := by
    refine PySem.W.kla_callFunE hr.depth at1 rfl L.co L.gen rfl ⟨c', oc, vs, t, rfl, hoc, hdc, hvc⟩ ?_
    rw [hbind]
    refine wpAny_pure (wpAny_newFunctionEnv (fun y hy => (L.own y hy).2) (fun y hy => by cases hy) (fun h₁ hns sb => ⟨J1.nolimit.fresh _ sb, ?_⟩) L.kind)
    have J2 := lam_start2 (E := E) (f := f) (c' := c') (tk := s1.toks + 0) J L J1.env0 hr.hd J1.base hns fun b o e => sb.extBut b o (Nat.ne_of_lt (Heap.lt_size e)) (Heap.get?_push_of_some _ e)
    show codeAny _ _ (.expr body (lamEnv X scope s1.heap.objs.size f c')) _ _
    refine PySem.W.kla_codeExpr (wpAny_mono ((hbody _ _ s1 H1 (hr.deeper _)).run [] _ _ H1 Q (J2.wish _) ht) (fun v s' hq => ?_) fun e s' hq => hq)
    obtain ⟨w', H', J', rv, q⟩ := hq
    exact ⟨w', H', J'.os, J'.bare, J'.base, J'.hok, rv, q⟩
  refine PySem.W.callWith_F0 ⟨_, _, _, _, at1⟩ (wpAny_call (codeAny_mono rc fun r s' hq => ?_))
  · cases r with
    | error e => exact tk e s' (L2N.XE.of_call J1 hW hq)
    | ok fl =>
      cases fl with
      | ret u => exact J1.after hq
      | next => exact False.elim hq
      | brk => exact False.elim hq
      | cont => exact False.elim hq
end
end FW
/-! f(lambda: e) by functions over data. -/
namespace FW
open PySem PySem.Spec PyProof.Rows L2 HotX LamX

/-- a def x(a): try: return a() except ec as n: return t(n) -/
structure ToldS (P : Program) (w : World) (K : PySem.W.Frag) (mg : Str → Option Value) (base : Heap) (k : Nat) (x : Str) (names : List Str) (st : Stmt) (gT : Addr) (fd : FuncData) (a n t ec y : Str) (CT fT : Addr) (fdT : FuncData) : Prop where
  fn : Fun K x x st gT fd
  at_ : mg x = some (.ref gT)
  bi : Binds K fd [a] []
  sc : FnScope [a, n] [a] (defScope st)
  va : Vis (defScope st) a
  ln : (defScope st).names.lookup n = some .local
  ge : (defScope st).names.lookup ec = some .globalImplicit
  gt : (defScope st).names.lookup t = some .globalImplicit
  me : mg ec = some (.ref CT)
  mt : mg t = some (.ref fT)
  kt : PySem.W.keepIn K (.ref fT) = true
  bt : Binds K fdT [y] []
  nd : (x == ("__debug__" : Str)) = false ∧ (a == ("__debug__" : Str)) = false ∧ (a == ("__classdict__" : Str)) = false ∧ (n == ("__debug__" : Str)) = false ∧ (n == ("__classdict__" : Str)) = false ∧ (ec == ("__debug__" : Str)) = false ∧ (t == ("__debug__" : Str)) = false
  body : ∃ p1 p2 p3 p4 p5 p6 p7 p8 p9 p10 : Pos, defBody st = [.Try [.Return (some (.Call (.Name a p1) [] [] p2)) p3] [.ExceptHandler (some (.Name ec p4)) (some n) [.Return (some (.Call (.Name t p5) [.Name n p6] [] p7)) p8] p9] [] [] p10]
  cls : ∀ c, c ∈ names → ∀ C, mg c = some (.ref C) → PySem.W.exmOne K (.ref C) (.ref CT) = some true ∧ FnT P w K mg base k fT fdT y C c
def fTold (names : List Str) (f : FE) : FE := fun r => match f r with
  | .ok d => .ok d
  | .exc c => if c ∈ names then .ok (.tup [.str "refused", .str c]) else .bad
  | .bad => .bad
theorem takes_no {X : Cx} : L2N.Takes X (fun _ _ _ _ => False) := fun _ _ x => by
  obtain ⟨_, _, _, _, _, _, _, _, _, _, _, _, _, _, _, _, z⟩ := x
  exact z.elim
section
variable {X : Cx} {g : Gd} {E : XK}
theorem stp_ext {I H H1 : Hp} (rl : Rl g I H) (eN : ExtN H H1) (T1 : Tabs g.T H1) : Stp g I H I H1 := by
  refine ⟨Sub.refl I, fun _ _ h => .inl h, fun a o _ ht h => eN a o h ht, ⟨fun a o h => eN a o (rl.sub a o h) fun ps e => rl.nt a ps (by rw [h, e]), rl.dz, ?_, T1, rl.nt⟩⟩
  obtain ⟨x, y, q⟩ := rl.dice
  exact ⟨x, y, eN _ _ q fun ps e => by cases e⟩
/-- what the suite does -/
def tSuit (g : Gd) (mg : Str → Option Value) (names : List Str) : Addr → Value → Option Addr → TS := fun ad cls d D σ H => ∃ C c0 I, cls = .ref C ∧ d = none ∧ c0 ∈ names ∧ mg c0 = some (.ref C) ∧ σ[1]? = some (some (.ref ad)) ∧ Rl g I H ∧ ∀ v I2 H2, Stp g I H I2 H2 → DR g I2 v (.tup [.str "refused", .str c0]) → D.rt v H2
def tTryB (f c' : Addr) (q : Str) (tl : XK → Hp → VK → Prop) (W : WX) : TS := fun D σ H => ∃ Ec : XK, (∀ cls d H2, Ec cls d H2 → W cls d σ H2) ∧ σ[0]? = some (some (.ref f)) ∧ H c' = some (CodeO c' q) ∧ tl Ec H D.rt
theorem told_body {k : Nat} {x : Str} {names : List Str} {st : Stmt} {gT : Addr} {fd : FuncData} {a n t ec y q : Str} {CT fT f c' : Addr} {fdT : FuncData} {cdv : Value} {s : Shared} {H : Hp} {tl : XK → Hp → VK → Prop} (F : ToldS X.prog X.w X.K X.mg X.base k x names st gT fd a n t ec y CT fT fdT)
    (hr : Room k (X.A.deeper (envOfC x (defScope st) s.heap.objs.size gT cdv)))
    (act : ∀ (W : WX) (pn : List (Addr × Obj)) (xe : Value → Shared → Prop) (Ec : XK) (p1 p2 : Pos), L2N.Takes ((cxOf C8.CX0 X.prog X.w X.K X.mg X.base [a, n] x (defScope st) gT cdv X.A X.stack s H C8.E0).nox.tr pn xe) W →
      PE ((cxOf C8.CX0 X.prog X.w X.K X.mg X.base [a, n] x (defScope st) gT cdv X.A X.stack s H C8.E0).nox.tr pn xe) (.Call (.Name a p1) [] [] p2) (fun σZ HZ Q => σZ[0]? = some (some (.ref f)) ∧ HZ c' = some (CodeO c' q) ∧ (∀ cls d H', Ec cls d H' → W cls d σZ H') ∧ tl Ec HZ Q)) :
    PSs (cxOf C8.CX0 X.prog X.w X.K X.mg X.base [a, n] x (defScope st) gT cdv X.A X.stack s H C8.E0).nox (defBody st) (fun D σ H => tTryB f c' q tl (wAs X.K (.ref CT) 1 (tSuit g X.mg names) (fun _ _ _ _ => False) D) D σ H) := by
  obtain ⟨n1, n2, n3, n4, n5, n6, n7⟩ := F.nd
  obtain ⟨p1, p2, p3, p4, p5, p6, p7, p8, p9, p10, hb⟩ := F.body
  rw [hb]
  refine pss_one (L2N.ps_try_as (X := (cxOf C8.CX0 X.prog X.w X.K X.mg X.base [a, n] x (defScope st) gT cdv X.A X.stack s H C8.E0).nox) (c := .ref CT) (i := 1) (tb := tTryB f c' q tl) (ts := tSuit g X.mg names) (Wout := fun _ _ _ _ => False) rfl rfl F.sc.nd rfl F.ln ⟨F.ge, n6, .inl F.me⟩ takes_no (fun W pn xe tk _ => ?_) fun ad oe cls d pn hz hfs => ?_)
  · refine ⟨fun pins s' σ H' D J h => ?_⟩
    obtain ⟨Ec, hW, h1, h2, h3⟩ := h
    exact (pss_one (ps_ret (act W pn xe Ec p1 p2 tk))).run pins s' σ H' D J ⟨h1, h2, hW, h3⟩
  · refine ⟨fun pins s' σ H' D J h => ?_⟩
    obtain ⟨C, c0, I, rfl, rfl, hc, hm, h1, rl, q⟩ := h
    obtain ⟨_, FT⟩ := F.cls c0 hc C hm
    obtain ⟨vs, hvs⟩ := hfs
    refine (pss_one (ps_ret (pe_term (X := (cxOf C8.CX0 X.prog X.w X.K X.mg X.base [a, n] x (defScope st) gT cdv X.A X.stack s H C8.E0).nox.suite ad ((ad, oe) :: pn)) (p := (ad, oe)) (i := 1) (n := n) (x := t) (g := g) FT ?_ ⟨rfl, vs, hvs, hz.2.2 vs hvs⟩ hz.zc List.mem_cons_self F.gt F.mt F.kt F.bt rfl (.inl F.ln) n7 n4 n5))).run pins s' σ H' D J ⟨h1, I, rl, q⟩
    exact ⟨hr.dp, hr.un⟩
theorem e_told {k : Nat} {x : Str} {names : List Str} {st : Stmt} {gT : Addr} {fd : FuncData} {a n t ec y : Str} {CT fT : Addr} {fdT : FuncData} {c P : Addr} {params : Arguments} {body : Expr} {scope : Scope} {fb : FE} {p lpos pos : Pos}
    (F : ToldS X.prog X.w X.K X.mg X.base (k + 1) x names st gT fd a n t ec y CT fT fdT) (hg : Gl X x) (TB : TabB X.base X.mg c P) (hcode : X.env.code = .ref c) (hmT : (P, X.env.qual ++ "<lambda>") ∈ g.T) (hu : ∀ p ∈ g.T, p.1 = P → p.2 = X.env.qual ++ "<lambda>") (hr : Room (k + 2) X.A)
    (L : LamS X.env.scope scope) (hbody : ∀ (A : Around) (outer : List PySem.Env) (s : Shared) (H : Hp) (E : XK) (f c' : Addr), Room k (A.deeper (lamEnv X scope s.heap.objs.size f c')) → PE (lamN X A outer s H E scope f c') body (tF g X.mg E fb))
    (hdef : defaultsOf params X.env = ([], []) := by rfl) (hbind : ∀ (q : Str) (cl : List (Str × Addr)) (pm cv ctv : Value), bindArgs (PySem.W.kla_fn "<lambda>" q params body scope cl pm cv ctv) ⟨[], []⟩ = pure [] := by intros; rfl) :
    PE X (.Call (.Name x p) [.Lambda params body scope lpos] [] pos) (tF g X.mg E (fTold names fb)) := by
  obtain ⟨n1, n2, n3, n4, n5, n6, n7⟩ := F.nd
  obtain ⟨p1, p2, p3, p4, p5, p6, p7, p8, p9, p10, hb⟩ := F.body
  obtain ⟨oc, od, kV, doc, pm, an, cdv, ct, osl, efd, lk, hcd⟩ := F.fn.ex
  subst efd
  refine ⟨fun pins s σ H Q J h => ?_⟩
  obtain ⟨I, r, rl, er, h⟩ := h
  refine wpAny_Call_Name_kw (ld_glob J hg F.at_ ?_ n1)
  refine PySem.W.callWith_K (h₀ := X.base) J.ok.mod.kin F.fn.kp ?_ (by rfl) (by rfl)
  show wpAny _ _ (spliced ((false, eval (.Lambda params body scope lpos) X.env) :: backTo pos (starEach [] X.env))) _ _ s
  refine Calls.spliced_cons (lam_make2 J TB hcode hmT hu rl.tab hdef (L.has J.ok) fun f c' pm' ctv H1 s' J1 eN T1 hf hfn hfr hco => ?_)
  refine Calls.spliced_nil ⟨J1.kIn, ?_⟩
  have st1 : Stp g I H I H1 := stp_ext rl eN T1
  have rc : codeAny (model X.prog X.w) X.A (.call (.ref gT) ⟨[.ref f], []⟩) (CR C8.CX0 X.stack X.prog X.w H1 s' Q C8.E0) s' := by
    refine run_ofS (N := [a, n]) (ps := [a]) (us := [.ref f]) (vs := [.ref f]) lk hcd F.sc hr J1.env0 (F.bi s' [.ref f] J1.kIn rfl) (.cons rfl .nil) rfl fun hr' => ?_
    refine ⟨_, PSs.nox (told_body (g := g) (tl := fun Ec H' Q' => tF g X.mg Ec fb σ H' Q') F hr' fun W pn xe Ec p1 p2 tk => lam_call J1 L hf hfn hfr (hbind _ _ _ _ _) tk hr' (fun A outer s H hr2 => hbody A outer s H Ec f c' hr2) rfl F.va n2 n3), ?_⟩
    have er1 : ER g I σ r := er
    refine ⟨fun cls d H' => ∃ c0 C I', fb r = .exc c0 ∧ X.mg c0 = some (.ref C) ∧ cls = .ref C ∧ d = none ∧ Stp g I H1 I' H', fun cls d H2 hE => ?_, rfl, hco, I, r, st1.rl, er, ?_⟩
    · obtain ⟨c0, C, I', e0, hm, rfl, rfl, st2⟩ := hE
      unfold fTold at h
      rw [e0] at h
      have h : Pst g X.mg E (DR g) I H (if c0 ∈ names then .ok (.tup [.str "refused", .str c0]) else .bad) Q := h
      by_cases hc0 : c0 ∈ names
      · rw [if_pos hc0] at h
        exact ⟨true, (F.cls c0 hc0 C hm).1, fun _ ad had => ⟨C, c0, I', rfl, rfl, hc0, hm, rfl, st2.rl, fun v I2 H2 s2 x2 => h v I2 H2 ((st1.trans st2).trans s2) x2⟩, fun z => by cases z⟩
      · rw [if_neg hc0] at h
        exact h.elim
    · unfold fTold at h
      cases e0 : fb r with
      | ok d =>
        rw [e0] at h
        exact fun v I' H' s2 x2 => h v I' H' (st1.trans s2) x2
      | exc c0 => exact fun I' H' s2 C hC => ⟨c0, C, I', rfl, hC, rfl, rfl, s2⟩
      | bad => rw [e0] at h; exact h.elim
  refine wpAny_call (codeAny_mono rc fun r s2 hq => ?_)
  cases r with
  | error e => exact (show False from hq).elim
  | ok fl =>
    cases fl with
    | ret u => exact J1.after hq
    | next => exact False.elim hq
    | brk => exact False.elim hq
    | cont => exact False.elim hq
end
end FW
/-! The head: what stands behind the top, the tables of code objects among it. -/
namespace FW
open PySem PySem.Spec PyProof.Rows L2 LamX

/-- a table of code objects -/
def isTab (o : Obj) : Bool := match o.cls, o.data with
  | .none, .fields _ => true
  | _, _ => false
def kG (g : Addr → Option Obj) (n : Nat) : PySem.W.Frag := (He.frG g (He.asD g n)).filter fun e => !isTab e.2
theorem mem_frG {g : Addr → Option Obj} {as : List Addr} {a : Addr} {o : Obj} (h : (a, o) ∈ He.frG g as) : g a = some o := by
  unfold He.frG at h
  obtain ⟨b, _, e⟩ := List.mem_filterMap.mp h
  cases hb : g b with
  | none => rw [hb] at e; cases e
  | some u => rw [hb] at e; cases e; exact hb
theorem look_mem {a : Addr} {o : Obj} : ∀ {l : List (Addr × Obj)}, l.lookup a = some o → (a, o) ∈ l
  | [], e => by cases e
  | (b, u) :: l, e => by
    rw [List.lookup_cons] at e
    cases q : (a == b) with
    | true =>
      rw [q] at e
      have e1 : u = o := Option.some.inj e
      have e2 : a = b := beq_iff_eq.mp q
      rw [e1, e2]; exact List.mem_cons_self
    | false =>
      rw [q] at e
      exact List.mem_cons_of_mem _ (look_mem e)
theorem kG_in {h : Heap} {n : Nat} : (kG h.get? n).In h := fun a o e => by
  have m : (a, o) ∈ kG h.get? n := look_mem e
  unfold kG at m
  exact mem_frG (List.mem_filter.mp m).1
/-- the code object of the def x and its empty table -/
def tabAt (g : Addr → Option Obj) (K : PySem.W.Frag) (x : Str) : Option (Addr × Addr) := match K.lookup (He.ga K x) with
  | some ⟨_, _, .func fd, _⟩ => (match fd.code with
    | .ref c => (match g c with
      | some ⟨.type T, _, .fields vs, _⟩ => (match (vs[11]? : Option Value), vs.getD 18 .none, vs.getD 7 .none, vs.getD 9 .none, vs.getD 10 .none with
        | some (.ref P), .str _ _, .int _ _, .bool _, .int _ _ => (match g P with
          | some ⟨.none, none, .fields ps, sl⟩ => if (T == "code" && (ps.isEmpty && (sl.isEmpty && (!(c == P) && (K.lookup P).isNone)))) = true then some (c, P) else none
          | _ => none)
        | _, _, _, _, _ => none)
      | _ => none)
    | _ => none)
  | _ => none
/-- what tabAt's answer says -/
structure TabFacts (h : Heap) (K : PySem.W.Frag) (x : Str) (c P : Addr) : Prop where
  fn : ∃ o1 o2 fd o3, K.lookup (He.ga K x) = some ⟨o1, o2, .func fd, o3⟩ ∧ fd.code = .ref c
  em : h.get? P = some { cls := .none, data := .fields #[] }
  no : K.lookup P = none
  hd : PySem.W.CodeHd h c P
theorem tabAt_ok {h : Heap} {K : PySem.W.Frag} {x : Str} {c P : Addr} (e : tabAt h.get? K x = some (c, P)) : TabFacts h K x c P := by
  unfold tabAt at e
  split at e
  · rename_i o1 o2 fd o3 hk
    split at e
    · rename_i c0 hc
      split at e
      · rename_i T d1 vs d2 hg
        split at e
        · rename_i P0 z18 t18 z7 t7 z9 z10 t10 e11 e18 e7 e9 e10
          split at e
          · rename_i ps sl hP
            split at e
            · rename_i q
              rw [Bool.and_eq_true, Bool.and_eq_true, Bool.and_eq_true, Bool.and_eq_true] at q
              obtain ⟨q1, q2, q3, q4, q5⟩ := q
              cases e
              have eT : T = "code" := by simpa using q1
              subst eT
              have ep : ps = #[] := Array.isEmpty_iff.mp q2
              have es : sl = #[] := Array.isEmpty_iff.mp q3
              subst ep es
              refine ⟨⟨o1, o2, fd, o3, hk, hc⟩, hP, Option.isNone_iff_eq_none.mp q5, ⟨_, vs, z18, t18, z7, t7, z9, z10, t10, hg, rfl, rfl, e11, ?_, e18, e7, e9, e10, ?_⟩⟩
              · rw [Array.getD_eq_getD_getElem?, e11]; rfl
              · simpa using q4
            · cases e
          · cases e
        · cases e
      · cases e
    · cases e
  · cases e
theorem TabFacts.keep {h h' : Heap} {K : PySem.W.Frag} {x : Str} {c P : Addr} (t : TabFacts h K x c P) (k : ∀ b o, h.get? b = some o → h'.get? b = some o) : TabFacts h' K x c P :=
  ⟨t.fn, k _ _ t.em, t.no, t.hd.keeps k⟩
abbrev AlX : Type := He.AlD × Bool × Bool
def obsX (n : Nat) (fa : List He.Fa) (fn : List He.DefD) (more : PySem.W.Frag → Bool) (tabs : List Str) (g : Addr → Option Obj) : AlX := (He.obsD fa fn (kG g n), more (kG g n), tabs.all fun x => (tabAt g (kG g n) x).isSome)
structure SaysX (fa : List He.Fa) (fn : List He.DefD) (more : PySem.W.Frag → Bool) (tabs : List Str) (K : PySem.W.Frag) (h : Heap) : Prop where
  kin : K.In h
  fac : He.SaysD fa fn K
  mor : more K = true
  tab : ∀ x ∈ tabs, ∃ c P, TabFacts h K x c P
def hookX (n : Nat) (fa : List He.Fa) (fn : List He.DefD) (more : PySem.W.Frag → Bool) (tabs : List Str) : PySem.W.Hook where
  α := AlX
  obs := fun s => obsX n fa fn more tabs s.heap.get?
  val := fun _ => (He.valD fn, true, true)
  says := fun _ h => ∃ K : PySem.W.Frag, SaysX fa fn more tabs K h
  of := fun _ s e => by
    unfold obsX at e
    injection e with e1 e2
    injection e2 with e2 e3
    refine ⟨kG s.heap.get? n, kG_in, e1, e2, fun x hx => ?_⟩
    have q := List.all_eq_true.mp e3 x hx
    obtain ⟨p, hp⟩ := Option.isSome_iff_exists.mp q
    exact ⟨p.1, p.2, tabAt_ok hp⟩
  keeps := fun _ _ _ ⟨K, t⟩ k => ⟨K, PySem.W.Frag.In.keeps t.kin k, t.fac, t.mor, fun x hx => by
    obtain ⟨c, P, z⟩ := t.tab x hx
    exact ⟨c, P, z.keep k⟩⟩
theorem obsX_eq {n : Nat} {fa : List He.Fa} {fn : List He.DefD} {more : PySem.W.Frag → Bool} {tabs : List Str} {g : Addr → Option Obj} {s : Shared} (h : ∀ a, g a = s.heap.get? a) : obsX n fa fn more tabs g = (hookX n fa fn more tabs).obs s := by
  have e : g = s.heap.get? := funext h
  rw [e]; rfl
/-- a def without defaults -/
theorem fun_of {K : PySem.W.Frag} {x qual : Str} {st : Stmt} {f : Addr} {fd : FuncData} (F : FunD K x qual (defArgs st) (defBody st) (defScope st) [] [] f fd) : Fun K x qual st f fd := by
  obtain ⟨oc, od, dV, kV, doc, pm, an, cdv, ct, osl, e, lk, hcd, hD, _⟩ := F.ex
  rcases hD with ⟨_, rfl⟩ | ⟨z, _⟩
  · exact ⟨⟨oc, od, kV, doc, pm, an, cdv, ct, osl, e, lk, hcd⟩, F.kp⟩
  · exact absurd rfl z
end FW
/-! The draws: the defs that make the rounds and roll the dice. -/
namespace FW
open PySem PySem.Spec PyProof.Rows L2

section
variable {P : Program} {w : World} {K : PySem.W.Frag} {mg : Str → Option Value} {base : Heap}
/-- a def by a reading over the layer's values -/
theorem fn_V {x qual : Str} {st : Stmt} {f : Addr} {fd : FuncData} {N ps : List Str} {k : Nat} {sp : Sp} {t : XK → TS} (F : Fun K x qual st f fd) (S : FnScope N ps (defScope st)) (len : ∀ vs H Q E, sp vs H Q E → vs.length = ps.length)
    (hbody : ∀ (cdv : Value) (A : Around) (outer : List PySem.Env) (s : Shared) (H : Hp) (E : XK), Bd (cxOf (L2N.CX P w) P w K mg base N qual (defScope st) f cdv A outer s H E) E k → PSs (cxOf (L2N.CX P w) P w K mg base N qual (defScope st) f cdv A outer s H E) (defBody st) (t E))
    (hrun : ∀ vs H Q E, sp vs H Q E → t E { nx := fun _ H' => Q .non H', rt := Q } (L2.start N vs) H) : FnOk P w K mg base (L2N.CX P w) (k + 1) f fd ps sp := by
  obtain ⟨oc, od, kV, doc, pm, an, cdv, ct, osl, rfl, lk, hcd⟩ := F.ex
  refine fn_of lk hcd S len fun A outer s H vs Q E hr hsp => ⟨t E, hbody cdv A outer s H E ?_, hrun vs H Q E hsp⟩
  exact ⟨rfl, S.nd, hr, L2N.passes_call (L2N.takes_of rfl rfl rfl rfl) fun _ _ _ _ z => z, passes_of (K := fun e s'' => L2N.CX P w outer H s E e s'') (E₁ := fun e' s'' => L2N.CX P w outer H s E e' s'') rfl⟩
end
/-- all stands that stood -/
def Ext (H H' : Hp) : Prop := ∀ b o, H b = some o → H' b = some o
theorem Ext.refl (H : Hp) : Ext H H := fun _ _ e => e
theorem Ext.trans {H H1 H2 : Hp} (p : Ext H H1) (q : Ext H1 H2) : Ext H H2 := fun b o e => q b o (p b o e)
theorem Ext.new {H : Hp} {p : Addr} {o : HO} (h : H p = none) : Ext H (upd H p o) := fun b u e => by rw [upd_ne (ne_of_none e h)]; exact e
theorem sql_ext {K : PySem.W.Frag} {H H' : Hp} {a : Addr} {xs : List V} (h : SqL K H a xs) (e : Ext H H') : SqL K H' a xs := by
  rcases h with (h | ⟨o, h⟩) | h
  · exact .inl (.inl (e _ _ h))
  · exact .inl (.inr ⟨o, e _ _ h⟩)
  · exact .inr h

/-! ### one number of the script, a stir -/
abbrev rAdd : R2 := rI0 fun i j => .int (i + j)
abbrev rMul : R2 := rI CMul fun i j => .int (i * j)
abbrev rMulW : R2 := rI CMulW fun i j => .int (i * j)
abbrev rDvW : R2 := rI CDivW fun i j => .int (i / j)
abbrev rMd : R2 := rI (fun _ j => 0 < j) fun i j => .int (i % j)
abbrev rLenC (K : PySem.W.Frag) : List V → Hp → VK → Prop := fun xs H Q => ∃ x n, xs = [x] ∧ LenV K x H n ∧ Q (.int n) H
abbrev tI (i : Int) : TE := tC (.int i)
def spDrawn : Sp := fun vs H Q _ => ∃ c k : Int, vs = [.int c, .int k] ∧ ∀ v : Int, Q (.int v) H
def tDrawn (A B M1 M2 m : Int) : TS := tSeq (tAsg (tOp rMd (tOp rAdd (tOp rMul (tVar 0) (tI A)) (tOp rMul (tOp rAdd (tVar 1) (tI 1)) (tI B))) (tI M1)) (gName 2)) (tSeq (tAsg (tOp rMd (tOp rMulW (tVar 2) (tVar 2)) (tI M2)) (gName 2))
  (tSeq (tAsg (tOp rMulW (tOp rMulW (tOp rAdd (tOp rMd (tVar 2) (tI m)) (tI 1)) (tOp rAdd (tOp rDvW (tVar 2) (tI m)) (tI 1))) (tVar 2)) (gName 2)) (tRet (tOp rMd (tVar 2) (tI M1)))))
theorem log2_lt {n : Nat} {k : Nat} (h : n < 2 ^ k) (hk : 0 < k) : n.log2 < k := by
  by_cases e : n = 0
  · subst e
    have : Nat.log2 0 = 0 := by decide
    omega
  · exact (Nat.log2_lt e).mpr h
theorem mulW_ok {i j : Int} (h1 : i.natAbs < 2 ^ 250) (h2 : j.natAbs < 2 ^ 250) : CMulW i j := by
  have a := log2_lt h1 (by decide)
  have b := log2_lt h2 (by decide)
  show i.natAbs.log2 + j.natAbs.log2 < 1000000
  omega
theorem nat_small {z : Int} {a b : Nat} (h0 : 0 ≤ z) (h : z < ((2 ^ a : Nat) : Int)) (hab : a ≤ b) : z.natAbs < 2 ^ b :=
  Nat.lt_of_lt_of_le (by omega : z.natAbs < 2 ^ a) (Nat.pow_le_pow_right (by decide) hab)
theorem drawn_run {A B M1 M2 m : Int} {N : List Str} (hN : N.length = 3) (hA : -(2 ^ 64) < A ∧ A < 2 ^ 64) (hB : -(2 ^ 64) < B ∧ B < 2 ^ 64) (h1 : 0 < M1 ∧ M1 < ((2 ^ 129 : Nat) : Int)) (h2 : 0 < M2 ∧ M2 < ((2 ^ 129 : Nat) : Int)) (hm : 0 < m ∧ m < ((2 ^ 64 : Nat) : Int)) (vs : List V) (H : Hp) (Q : VK) (E : XK) (h : spDrawn vs H Q E) :
    tDrawn A B M1 M2 m { nx := fun _ H' => Q .non H', rt := Q } (L2.start N vs) H := by
  obtain ⟨c, k, rfl, q⟩ := h
  have s2 : (L2.start N [V.int c, V.int k]) = [some (V.int c), some (V.int k), none] := by
    unfold L2.start
    rw [hN]; rfl
  rw [s2]
  generalize hx : (c * A + (k + 1) * B) % M1 = x
  have bx : 0 ≤ x ∧ x < M1 := by rw [← hx]; exact ⟨Int.emod_nonneg _ (by omega), Int.emod_lt_of_pos _ h1.1⟩
  have nx := nat_small (b := 250) bx.1 (Int.lt_trans bx.2 h1.2) (by decide)
  generalize hy : x * x % M2 = y
  have yb : 0 ≤ y ∧ y < M2 := by rw [← hy]; exact ⟨Int.emod_nonneg _ (by omega), Int.emod_lt_of_pos _ h2.1⟩
  have ny := nat_small (b := 250) yb.1 (Int.lt_trans yb.2 h2.2) (by decide)
  have ym : 0 ≤ y % m ∧ y % m < m := ⟨Int.emod_nonneg _ (by omega), Int.emod_lt_of_pos _ hm.1⟩
  have yd : 0 ≤ y / m ∧ y / m ≤ y := ⟨Int.ediv_nonneg yb.1 (by omega), Int.ediv_le_self _ yb.1⟩
  have e65 : ((2 ^ 65 : Nat) : Int) = 2 * ((2 ^ 64 : Nat) : Int) := by decide
  have e130 : ((2 ^ 130 : Nat) : Int) = 2 * ((2 ^ 129 : Nat) : Int) := by decide
  have p64 : (1 : Int) ≤ ((2 ^ 64 : Nat) : Int) := by decide
  have p129 : (1 : Int) ≤ ((2 ^ 129 : Nat) : Int) := by decide
  have u1 : (y % m + 1).natAbs < 2 ^ 65 := nat_small (a := 65) (by omega) (by rw [e65]; omega) (Nat.le_refl _)
  have u2 : (y / m + 1).natAbs < 2 ^ 130 := nat_small (a := 130) (by omega) (by rw [e130]; omega) (Nat.le_refl _)
  have up : ((y % m + 1) * (y / m + 1)).natAbs < 2 ^ 250 := by
    rw [Int.natAbs_mul]
    exact Nat.lt_of_le_of_lt (Nat.mul_le_mul (Nat.le_of_lt u1) (Nat.le_of_lt u2)) (by decide)
  have lm : m.natAbs.log2 < 9000 := Nat.lt_trans (log2_lt (nat_small (a := 64) (b := 64) (by omega) hm.2 (Nat.le_refl _)) (by decide)) (by decide)
  subst hy
  subst hx
  refine ⟨_, rfl, _, _, rfl, rfl, .inr hA, _, rfl, _, _, rfl, rfl, _, _, rfl, rfl, .inr hB, _, _, rfl, rfl, _, _, rfl, rfl, h1.1, ?_⟩
  refine ⟨_, rfl, _, rfl, _, _, rfl, rfl, mulW_ok nx nx, _, _, rfl, rfl, h2.1, ?_⟩
  refine ⟨_, rfl, _, _, rfl, rfl, hm.1, _, _, rfl, rfl, _, rfl, _, _, rfl, rfl, ⟨hm.1, lm⟩, _, _, rfl, rfl, _, _, rfl, rfl, mulW_ok (Nat.lt_trans u1 (by decide)) (Nat.lt_trans u2 (by decide)), _, rfl, _, _, rfl, rfl, mulW_ok up ny, _, rfl, _, _, rfl, rfl, h1.1, q _⟩
end FW
/-! The roll, the cells, the rounds. -/
namespace FW
open PySem PySem.Spec PyProof.Rows L2

abbrev rGeI : R2 := rI0 fun i j => .bl (decide (j ≤ i))
abbrev rPw : R2 := rI CPow fun i j => .int (i ^ j.toNat)
abbrev tDx (K : PySem.W.Frag) (i : Int) : TE := tOp (rIx K) (tVar 0) (tI i)
def tRoll (K : PySem.W.Frag) (E : XK) : TS := tSeq (tIfS (tTest (tOp rGeI (tDx K 0) (tOp rPw (tI 10) (tI 18)))) (tSeq (tAsg (tOp rMd (tDx K 0) (tVar 1)) (gName 2)) (tSeq (tAsg (tOp rDvW (tDx K 0) (tVar 1)) (gSub (tVar 0) (tI 0) rSetL)) (tRet (tVar 2)))) tNext)
  (tSeq (tAsg (tOp rAdd (tDx K 1) (tI 1)) (gSub (tVar 0) (tI 1) rSetL)) (tRet (tOp rMd (tOp rDvW (tCall spDrawn [] E (tCons (tDx K 0) (tCons (tDx K 1) tNil))) (tI 8)) (tVar 1))))
/-- what a roll gives: any number below -/
def fnRoll (ds : List D) (Q : D → Prop) (_ : Str → Prop) : Prop := ∃ m : Int, ds = [.dice, .int m] ∧ (0 < m ∧ m < ((2 ^ 64 : Nat) : Int)) ∧ ∀ r : Int, 0 ≤ r → r < m → Q (.int r)
theorem stp_dice {g : Gd} {I H : Hp} (rl : Rl g I H) (x y : Int) : Stp g I H I (upd H g.dz (.lst [.int x, .int y])) := by
  obtain ⟨x0, y0, h0⟩ := rl.dice
  refine ⟨Sub.refl I, fun _ _ h => .inl h, fun a o ha _ h => by rw [upd_ne ha]; exact h, ⟨fun a o h => ?_, rl.dz, ⟨x, y, upd_same⟩, tabs_set rl.tab h0 (fun _ z => by cases z) (fun _ _ z => by cases z), rl.nt⟩⟩
  rw [upd_ne fun e => by rw [e, rl.dz] at h; cases h]
  exact rl.sub a o h
theorem roll_run {K : PySem.W.Frag} {mg : Str → Option Value} {N : List Str} (hN : N.length = 3) (vs : List V) (H : Hp) (Q : VK) (E : XK) (h : spW mg fnRoll vs H Q E) : tRoll K E { nx := fun _ H' => Q .non H', rt := Q } (L2.start N vs) H := by
  obtain ⟨g, I, ds, rl, hd, m, rfl, hm, q⟩ := h
  obtain ⟨x, y, h0⟩ := rl.dice
  have evs : vs = [.ref g.dz, .int m] := by
    cases hd with
    | cons a b =>
      cases a
      cases b with
      | cons a b => cases a; cases b; rfl
  subst evs
  have s2 : (L2.start N [V.ref g.dz, V.int m]) = [some (V.ref g.dz), some (V.int m), none] := by
    unfold L2.start
    rw [hN]; rfl
  rw [s2]
  have lm : m.natAbs.log2 < 9000 := Nat.lt_trans (log2_lt (nat_small (a := 64) (b := 64) (by omega) hm.2 (Nat.le_refl _)) (by decide)) (by decide)
  have ix0 : ∀ {H : Hp} {a b : V} {QQ : VK}, H g.dz = some (.lst [a, b]) → QQ a H → rIx K (.ref g.dz) (.int 0) H QQ := fun {H a b QQ} e z => .inl ⟨g.dz, [a, b], 0, a, rfl, rfl, SqL.of e, rfl, z⟩
  have ix1 : ∀ {H : Hp} {a b : V} {QQ : VK}, H g.dz = some (.lst [a, b]) → QQ b H → rIx K (.ref g.dz) (.int 1) H QQ := fun {H a b QQ} e z => .inl ⟨g.dz, [a, b], 1, b, rfl, rfl, SqL.of e, rfl, z⟩
  refine ⟨_, rfl, ix0 h0 ⟨_, _, rfl, rfl, ⟨by decide, by decide, by decide⟩, _, _, rfl, rfl, _, rfl, ?_⟩⟩
  by_cases c : (10 : Int) ^ Int.toNat 18 ≤ x
  · show (if decide ((10 : Int) ^ Int.toNat 18 ≤ x) = true then _ else _)
    rw [if_pos (decide_eq_true c)]
    refine ⟨_, rfl, ix0 h0 ⟨_, rfl, _, _, rfl, rfl, hm.1, ?_⟩⟩
    refine ⟨_, rfl, ix0 h0 ⟨_, rfl, _, _, rfl, rfl, ⟨hm.1, lm⟩, ?_⟩⟩
    refine ⟨_, rfl, g.dz, _, 0, 0, rfl, rfl, h0, rfl, _, rfl, ?_⟩
    exact q _ (Int.emod_nonneg _ (by omega)) (Int.emod_lt_of_pos _ hm.1) _ I _ (stp_dice rl _ _) (.int _)
  · show (if decide ((10 : Int) ^ Int.toNat 18 ≤ x) = true then _ else _)
    rw [if_neg (by simpa using c)]
    refine ⟨_, rfl, ix1 h0 ⟨_, _, rfl, rfl, ?_⟩⟩
    refine ⟨_, rfl, g.dz, _, 1, 1, rfl, rfl, h0, rfl, ?_⟩
    have h1 : upd H g.dz (.lst [.int x, .int (y + 1)]) g.dz = some (.lst [.int x, .int (y + 1)]) := upd_same
    refine ⟨_, rfl, ix0 h1 ⟨_, rfl, ix1 h1 ⟨x, y + 1, rfl, fun v => ⟨_, _, rfl, rfl, ⟨by decide, by decide⟩, _, rfl, _, _, rfl, rfl, hm.1, ?_⟩⟩⟩⟩
    exact q _ (Int.emod_nonneg _ (by omega)) (Int.emod_lt_of_pos _ hm.1) _ I _ (stp_dice rl _ _) (.int _)

/-! ### a cell of the script -/
def spCell (K : PySem.W.Frag) : Sp := fun vs H Q _ => ∃ (a : Addr) (k : Int) (ns : List Int), vs = [.ref a, .int k] ∧ SqL K H a (ns.map V.int) ∧ ns.length ≤ 1000 ∧ (0 ≤ k ∧ k ≤ 1000) ∧ ∀ (v : Int) H', Ext H H' → Q (.int v) H'
abbrev tLenC (K : PySem.W.Frag) (i : Nat) : TE := tCB (rLenC K) (tCons (tVar i) tNil)
def tCell (K : PySem.W.Frag) (A B : Int) : TS := tSeq (tIfS (tTest (tOp (rEqD K) (tVar 0) (tLst tNil))) (tRet (tOp rMul (tVar 1) (tI A))) tNext) (tRet (tOp rAdd (tOp (rIx K) (tVar 0) (tOp rMd (tVar 1) (tLenC K 0))) (tOp rMul (tOp rDvW (tVar 1) (tLenC K 0)) (tI B))))
theorem dp_ints {K : PySem.W.Frag} {H : Hp} : ∀ ns : List Int, DpAll K H (ns.map V.int) (ns.map PyData.int)
  | [] => .nil
  | n :: ns => .cons (.int n) (dp_ints ns)
theorem lay_ints : ∀ ns : List Int, PyData.canLayAll0 (ns.map PyData.int) = true
  | [] => by rw [List.map_nil, PyData.canLayAll0]
  | n :: ns => by rw [List.map_cons, PyData.canLayAll0, lay_ints ns, PyData.canLay0]; rfl
theorem depth_ints : ∀ ns : List Int, PyData.depthAll (ns.map PyData.int) = 0
  | [] => by rw [List.map_nil, PyData.depthAll]
  | n :: ns => by rw [List.map_cons, PyData.depthAll, depth_ints ns, PyData.depth]; rfl
theorem cell_run {K : PySem.W.Frag} {A B : Int} {N : List Str} (hN : N.length = 2) (hA : -(2 ^ 64) < A ∧ A < 2 ^ 64) (hB : -(2 ^ 64) < B ∧ B < 2 ^ 64) (vs : List V) (H : Hp) (Q : VK) (E : XK) (h : spCell K vs H Q E) : tCell K A B { nx := fun _ H' => Q .non H', rt := Q } (L2.start N vs) H := by
  obtain ⟨a, k, ns, rfl, hS, hn, hk, q⟩ := h
  have s2 : (L2.start N [V.ref a, V.int k]) = [some (V.ref a), some (V.int k)] := by
    unfold L2.start
    rw [hN]; rfl
  rw [s2]
  refine ⟨_, rfl, by show 0 ≤ sizeLine; decide, fun p hp => ?_⟩
  have e1 : Ext H (upd H p (.lst [])) := Ext.new hp
  have hS1 := sql_ext hS e1
  refine ⟨.list (ns.map PyData.int), .list [], .lst hS1 (dp_ints ns), .lst (SqL.of upd_same) .nil, ?_, by decide +kernel, _, rfl, ?_⟩
  · unfold SeqAt.shaped
    rw [Bool.and_eq_true, decide_eq_true_eq]
    exact ⟨by rw [PyData.canLay0]; exact lay_ints ns, by rw [PyData.depth, depth_ints]; decide⟩
  · cases ns with
    | nil =>
      refine ⟨_, rfl, _, _, rfl, rfl, .inr hA, q _ _ e1⟩
    | cons n ns =>
      have hl : LenV K (.ref a) (upd H p (.lst [])) (((n :: ns).map V.int).length : Nat) := .inl ⟨_, hS1, rfl⟩
      have hp0 : (0 : Int) < (((n :: ns).map V.int).length : Nat) := by rw [List.length_map, List.length_cons]; omega
      have hb : ((((n :: ns).map V.int).length : Nat) : Int) ≤ 1000 := by rw [List.length_map]; omega
      have m0 := Int.emod_nonneg k (Int.ne_of_gt hp0)
      have m1 := Int.emod_lt_of_pos k hp0
      obtain ⟨j, hj⟩ := Int.eq_ofNat_of_zero_le m0
      have hjl : j < ((n :: ns).map V.int).length := by omega
      have hjl' : j < (n :: ns).length := by rw [List.length_map] at hjl; exact hjl
      refine ⟨_, rfl, _, rfl, _, rfl, _, _, rfl, hl, _, _, rfl, rfl, hp0, .inl ⟨a, _, _, .int (n :: ns)[j], rfl, rfl, hS1, ?_, ?_⟩⟩
      · rw [hj]
        refine atI_nat ?_
        rw [List.getElem?_map, List.getElem?_eq_getElem hjl']; rfl
      · refine ⟨_, rfl, _, rfl, _, _, rfl, hl, _, _, rfl, rfl, ⟨hp0, ?_⟩, _, _, rfl, rfl, .inr hB, _, _, rfl, rfl, q _ _ e1⟩
        exact Nat.lt_trans (log2_lt (nat_small (a := 10) (b := 10) (by omega) (by omega) (Nat.le_refl _)) (by decide)) (by decide)
end FW
/-! The rounds, the law's loop over them. -/
namespace FW
open PySem PySem.Spec PyProof.Rows L2

/-- lists of dice, made anew -/
structure RoundsAt (H H' : Hp) (L : Addr) (ps : List Addr) : Prop where
  ext : Ext H H'
  lst : H' L = some (.lst (ps.map V.ref))
  new : H L = none
  dis : ps.Nodup
  each : ∀ p ∈ ps, H p = none ∧ p ≠ L ∧ ∃ x : Int, H' p = some (.lst [.int x, .int 0])
def spRounds (K : PySem.W.Frag) : Sp := fun vs H Q _ => ∃ (a : Addr) (high : Int) (ns : List Int), vs = [.ref a, .int high] ∧ SqL K H a (ns.map V.int) ∧ ns.length ≤ 1000 ∧ (0 ≤ high ∧ high ≤ 1000) ∧ ∀ L ps H', RoundsAt H H' L ps → Q (.ref L) H'
abbrev rMx : List V → Hp → VK → Prop := fun xs H Q => ∃ i j, xs = [.int i, .int j] ∧ Q (.int (if j > i then j else i)) H
abbrev rMn : List V → Hp → VK → Prop := fun xs H Q => ∃ i j, xs = [.int i, .int j] ∧ Q (.int (if j < i then j else i)) H
def tRounds (K : PySem.W.Frag) : TS := tRet (tLc (iRng1 (tCons (tCB rMx (tCons (tI 1) (tCons (tCB rMn (tCons (tVar 1) (tCons (tLenC K 0) tNil))) tNil))) tNil)) (gName 2) tYes (tLst (tCons (tCall (spCell K) [] E0 (tCons (tVar 0) (tCons (tVar 2) tNil))) (tCons (tI 0) tNil))) [2])
theorem nodup_snoc {α : Type} {l : List α} {x : α} (h : l.Nodup) (hx : x ∉ l) : (l ++ [x]).Nodup := by
  rw [List.nodup_append]
  exact ⟨h, List.nodup_cons.mpr ⟨List.not_mem_nil, List.nodup_nil⟩, fun a ha b hb e => hx (by rw [List.mem_singleton.mp hb] at e; rw [← e]; exact ha)⟩
theorem rounds_run {K : PySem.W.Frag} {N : List Str} (hN : N.length = 3) (vs : List V) (H : Hp) (Q : VK) (E : XK) (h : spRounds K vs H Q E) : tRounds K { nx := fun _ H' => Q .non H', rt := Q } (L2.start N vs) H := by
  obtain ⟨a, high, ns, rfl, hS, hn, hh, q⟩ := h
  have s2 : (L2.start N [V.ref a, V.int high]) = [some (V.ref a), some (V.int high), none] := by
    unfold L2.start
    rw [hN]; rfl
  rw [s2]
  have hl : LenV K (.ref a) H ((ns.map V.int).length : Nat) := .inl ⟨_, hS, rfl⟩
  have hln : (((ns.map V.int).length : Nat) : Int) ≤ 1000 := by rw [List.length_map]; omega
  refine ⟨_, rfl, _, rfl, _, _, rfl, hl, _, _, rfl, _, _, rfl, ?_⟩
  generalize hm : (if (((ns.map V.int).length : Nat) : Int) < high then (((ns.map V.int).length : Nat) : Int) else high) = m
  have bm : m ≤ 1000 := by rw [← hm]; split <;> omega
  refine ⟨_, rfl, ?_, ?_, fun D hD => ?_⟩
  · split <;> omega
  · split <;> omega
  have bt : (if m > 1 then m else 1).toNat ≤ 1000 := by split <;> omega
  refine lc_range (fun i H' => ∃ ps : List Addr, ps.length = i ∧ Ext H H' ∧ H' D = some (.lst (ps.map V.ref)) ∧ ps.Nodup ∧ ∀ p ∈ ps, H p = none ∧ p ≠ D ∧ ∃ x : Int, H' p = some (.lst [.int x, .int 0])) ⟨[], rfl, Ext.new hD, upd_same, List.nodup_nil, fun p hp => by cases hp⟩ ?_ fun H' ⟨ps, _, h2, h3, h4, h5⟩ => q D ps H' ⟨h2, h3, hD, h4, h5⟩
  rintro i H1 hi ⟨ps, rfl, h2, h3, h4, h5⟩
  refine ⟨rfl, ?_⟩
  unfold tYes
  dsimp only
  rw [if_pos rfl]
  refine ⟨_, rfl, _, rfl, a, _, ns, rfl, sql_ext hS h2, hn, ⟨by omega, by omega⟩, fun v H2 e2 => ⟨by show 2 ≤ sizeLine; decide, fun p hp => ?_⟩⟩
  have e3 : Ext H1 (upd H2 p (.lst [.int v, .int 0])) := e2.trans (Ext.new hp)
  have hpD : D ≠ p := ne_of_none (e2 _ _ h3) hp
  have hp1 : H1 p = none := by
    cases e : H1 p with
    | none => rfl
    | some o => rw [e2 _ _ e] at hp; cases hp
  have hp0 : H p = none := by
    cases e : H p with
    | none => rfl
    | some o => rw [h2 _ _ e] at hp1; cases hp1
  refine ⟨_, e3 _ _ h3, ?_, ps ++ [p], by rw [List.length_append]; rfl, ?_, ?_, ?_, ?_⟩
  · rw [List.length_map]
    exact Nat.lt_of_lt_of_le hi (Nat.le_trans bt (by decide))
  · intro b o e
    rw [upd_ne (ne_of_none e hD)]
    exact e3 _ _ (h2 _ _ e)
  · rw [upd_same, List.map_append]; rfl
  · refine nodup_snoc h4 fun hm => ?_
    obtain ⟨_, _, x, e⟩ := h5 p hm
    rw [hp1] at e; cases e
  · intro p' hp'
    rcases List.mem_append.mp hp' with z | z
    · obtain ⟨z1, z2, x, z3⟩ := h5 p' z
      exact ⟨z1, z2, x, by rw [upd_ne z2]; exact e3 _ _ z3⟩
    · rw [List.mem_singleton.mp z]
      exact ⟨hp0, Ne.symm hpD, v, by rw [upd_ne (Ne.symm hpD)]; exact upd_same⟩
end FW
/-! The law's loop over the rounds. -/
namespace FW
open PySem PySem.Spec PyProof.Rows L2 LamX

/-- wishes that may count on the number of the slots -/
def lenD (n : Nat) (D : Ends) : Ends := { nx := fun σ H => σ.length = n → D.nx σ H, rt := D.rt, bk := fun σ H => σ.length = n → D.bk σ H, ct := fun σ H => σ.length = n → D.ct σ H }
theorem pss_len {X : Cx} {st : List Stmt} {t : TS} (h : PSs X st t) : PSs X st (fun D σ H => t (lenD X.N.length D) σ H) := by
  refine ⟨fun pins s σ H D J q => wpAny_mono (h.run pins s σ H _ J q) (fun f s' z => ?_) fun _ _ z => z⟩
  cases f with
  | next => obtain ⟨σ', H', J', q⟩ := z; exact ⟨σ', H', J', q J'.len⟩
  | brk => obtain ⟨σ', H', J', q⟩ := z; exact ⟨σ', H', J', q J'.len⟩
  | cont => obtain ⟨σ', H', J', q⟩ := z; exact ⟨σ', H', J', q J'.len⟩
  | ret u => obtain ⟨v, σ', H', J', r, q⟩ := z; exact ⟨v, σ', H', J', r, q⟩
/-- the slots as a round begins -/
def r0 (n : Nat) : Env2 := .un :: .val .dice :: List.replicate (n - 2) .un
/-- what is asked of a round -/
def kRound : Kt := { nx := fun _ => True, rt := fun _ => False, bk := fun _ => False, ct := fun _ => True, ex := fun _ => False }
def tRound (T : List (Addr × Str)) (mg : Str → Option Value) (E : XK) (n : Nat) (w : WS) : TS := fun D σ H => ∃ g : Gd, g.T = T ∧ tWS g mg E w (lenD n D) σ H
theorem pss_round {X : Cx} {st : List Stmt} {w : WS} {T : List (Addr × Str)} {E : XK} (h : ∀ g : Gd, g.T = T → PSs X st (tWS g X.mg E w)) : PSs X st (tRound T X.mg E X.N.length w) :=
  ⟨fun pins s σ H D J ⟨g, e, q⟩ => (pss_len (h g e)).run pins s σ H D J q⟩
def tLaw (K : PySem.W.Frag) (T : List (Addr × Str)) (mg : Str → Option Value) (E : XK) (n : Nat) (m : Int) (w : WS) : TS := tSeq (tFor (iList K (tCall (spRounds K) [] E (tCons (tVar 0) (tCons (tI m) tNil)))) (gName 1) (tRound T mg E n w)) (tRet (tC (.bl true)))
def spLaw (K : PySem.W.Frag) (T : List (Addr × Str)) : Sp := fun vs H Q _ => ∃ (a : Addr) (ns : List Int), vs = [.ref a] ∧ SqL K H a (ns.map V.int) ∧ ns.length ≤ 1000 ∧ Tabs T H ∧ ∀ H', Q (.bl true) H'
theorem law_run {K : PySem.W.Frag} {T : List (Addr × Str)} {mg : Str → Option Value} {m : Int} {w : WS} {N : List Str} (hN : 2 ≤ N.length) (hm : 0 ≤ m ∧ m ≤ 1000) (hw : w.run (r0 N.length) kRound) (vs : List V) (H : Hp) (Q : VK) (E : XK) (h : spLaw K T vs H Q E) :
    tLaw K T mg E N.length m w { nx := fun _ H' => Q .non H', rt := Q } (L2.start N vs) H := by
  obtain ⟨a, ns, rfl, hS, hn, hT, q⟩ := h
  have hl0 : (L2.start N [V.ref a]).length = N.length := by
    unfold L2.start
    rw [List.length_append, List.length_map, List.length_replicate, List.length_singleton]; omega
  refine ⟨_, rfl, a, m, ns, rfl, hS, hn, hm, fun L ps H1 R => ⟨L, rfl, ⟨_, SqL.of R.lst⟩, ?_⟩⟩
  refine ⟨fun i j σ H' => σ.length = N.length ∧ j = ps.length - i ∧ i ≤ ps.length ∧ H' L = some (.lst (ps.map V.ref)) ∧ Tabs T H' ∧ ∀ p ∈ ps, ∃ x y : Int, H' p = some (.lst [.int x, .int y]), ⟨ps.length, hl0, rfl, Nat.zero_le _, R.lst, hT.ext R.ext, fun p hp => ?_⟩, ?_⟩
  · obtain ⟨_, _, x, e⟩ := R.each p hp
    exact ⟨x, 0, e⟩
  rintro i j σ H2 ⟨hσ, rfl, hi, hL, hT2, hP⟩
  by_cases hlt : i < ps.length
  · refine .inr ⟨⟨_, .ref ps[i], SqL.of hL, ?_⟩, fun σ' H' => σ'.length = N.length ∧ H' L = some (.lst (ps.map V.ref)) ∧ Tabs T H' ∧ ∀ p ∈ ps, ∃ x y : Int, H' p = some (.lst [.int x, .int y]), fun σ' H' ⟨z1, z2, z3, z4⟩ => ⟨ps.length - (i + 1), by omega, z1, rfl, hlt, z2, z3, z4⟩, fun x H3 y => ?_⟩
    · rw [List.getElem?_map, List.getElem?_eq_getElem hlt]; rfl
    obtain ⟨rfl, y⟩ := y
    have ex : x = .ref ps[i] := by
      have := y _ (SqL.of hL)
      rw [List.getElem?_map, List.getElem?_eq_getElem hlt] at this
      exact (Option.some.inj this).symm
    subst ex
    have hmem : ps[i] ∈ ps := List.getElem_mem hlt
    have neL : ∀ p ∈ ps, p ≠ L := fun p hp => (R.each p hp).2.1
    have rl : Rl ⟨ps[i], T⟩ (fun _ => none) H3 := ⟨fun a o z => (by cases z), rfl, hP _ hmem, hT2, fun a p z => (by cases z)⟩
    have hlen : (σ.set 1 (some (V.ref ps[i]))).length = (r0 N.length).length := by
      unfold r0
      rw [List.length_set, hσ, List.length_cons, List.length_cons, List.length_replicate]; omega
    have noOwn : ∀ (k : Nat) (d : D), (r0 N.length)[k]? ≠ some (Sl.own d) := fun k d e => by
      have hm : Sl.own d ∈ r0 N.length := List.mem_of_getElem? e
      unfold r0 at hm
      simp only [List.mem_cons, List.mem_replicate] at hm
      rcases hm with z | z | ⟨_, z⟩ <;> cases z
    have sri : SRI ⟨ps[i], T⟩ (fun _ => none) H3 (fun _ => none) (r0 N.length) (σ.set 1 (some (V.ref ps[i]))) H3 := by
      refine ⟨rl.stp, hlen, fun k d e => ?_, fun k d e => absurd e (noOwn k d), fun k l d e p h1 => absurd h1 (noOwn k d)⟩
      unfold r0 at e
      match k, e with
      | 0, e => cases e
      | 1, e =>
        have ed : d = .dice := by
          have := Option.some.inj e
          injection this with this
          exact this.symm
        subst ed
        exact ⟨_, List.getElem?_set_self (by omega), .dice⟩
      | k + 2, e =>
        rw [List.getElem?_cons_succ, List.getElem?_cons_succ, List.getElem?_replicate] at e
        split at e <;> cases e
    have fin : ∀ {r' : Env2} {σ' : L2.St} {H' : Hp}, SR ⟨ps[i], T⟩ (fun _ => none) H3 r' σ' H' → σ'.length = N.length → σ'.length = N.length ∧ H' L = some (.lst (ps.map V.ref)) ∧ Tabs T H' ∧ ∀ p ∈ ps, ∃ x y : Int, H' p = some (.lst [.int x, .int y]) := fun {r' σ' H'} ⟨I', z⟩ zl => by
      refine ⟨zl, z.stp.keep L _ (Ne.symm (neL _ hmem)) (fun _ e => by cases e) hL, z.stp.rl.tab, fun p hp => ?_⟩
      by_cases ep : p = ps[i]
      · subst ep; exact z.stp.rl.dice
      · obtain ⟨x, y, e⟩ := hP p hp
        exact ⟨x, y, z.stp.keep p _ ep (fun _ e => by cases e) e⟩
    refine ⟨⟨ps[i], T⟩, rfl, fun _ => none, H3, r0 N.length, ⟨_, sri⟩, w.mono (k := kRound) ⟨fun r' _ σ' H' z zl => fin z zl, fun _ z => z.elim, fun _ z => z.elim, fun r' _ σ' H' z zl => fin z zl, fun _ z => z.elim⟩ hw⟩
  · have ei : i = ps.length := by omega
    exact .inl ⟨⟨_, SqL.of hL, by rw [List.length_map]; omega⟩, q H2⟩
end FW
/-! Defs by name: what a law's walk hands from def to def. -/
namespace FW
open PySem PySem.Spec PyProof.Rows L2 LamX

/-- names of built-ins that the module leaves free -/
structure Fre (mg : Str → Option Value) : Prop where
  len : mg "len" = none
  all : mg "all" = none
  any : mg "any" = none
  sum : mg "sum" = none
  tuple : mg "tuple" = none
  list : mg "list" = none
  int : mg "int" = none
  max : mg "max" = none
  min : mg "min" = none
  range : mg "range" = none
  enumerate : mg "enumerate" = none
  zip : mg "zip" = none
  isinstance : mg "isinstance" = none
  str : mg "str" = none
  bool : mg "bool" = none
  dict : mg "dict" = none
  set : mg "set" = none
  sorted : mg "sorted" = none
  abs : mg "abs" = none
/-- the def x at the statement st -/
structure FunA (K : PySem.W.Frag) (mg : Str → Option Value) (x : Str) (st : Stmt) (ps : List Str) : Prop where
  ex : ∃ f fd, Fun K x x st f fd ∧ mg x = some (.ref f) ∧ Binds K fd ps []
structure CalF (P : Program) (w : World) (K : PySem.W.Frag) (mg : Str → Option Value) (base : Heap) (k : Nat) (x : Str) (ps : List Str) (fn : List D → Res D) : Prop where
  ex : ∃ f fd, FnOk P w K mg base (L2N.CX P w) k f fd ps (spF mg fn) ∧ mg x = some (.ref f) ∧ PySem.W.keepIn K (.ref f) = true ∧ Binds K fd ps []
structure CalW (P : Program) (w : World) (K : PySem.W.Frag) (mg : Str → Option Value) (base : Heap) (k : Nat) (x : Str) (ps : List Str) (fn : FnW) : Prop where
  ex : ∃ f fd, FnOk P w K mg base (L2N.CX P w) k f fd ps (spW mg fn) ∧ mg x = some (.ref f) ∧ PySem.W.keepIn K (.ref f) = true ∧ Binds K fd ps []
section
variable {P : Program} {w : World} {K : PySem.W.Frag} {mg : Str → Option Value} {base : Heap}
abbrev Body (P : Program) (w : World) (K : PySem.W.Frag) (mg : Str → Option Value) (base : Heap) (N : List Str) (x : Str) (st : Stmt) (k : Nat) (ws : WS) : Prop :=
  ∀ (f : Addr) (cdv : Value) (A : Around) (outer : List PySem.Env) (s : Shared) (H : Hp) (E : XK) (g : Gd), Bd (cxOf (L2N.CX P w) P w K mg base N x (defScope st) f cdv A outer s H E) E k → L2N.Takes (cxOf (L2N.CX P w) P w K mg base N x (defScope st) f cdv A outer s H E) (fun cls d _ H => E cls d H) →
    PSs (cxOf (L2N.CX P w) P w K mg base N x (defScope st) f cdv A outer s H E) (defBody st) (tWS g mg E ws)
theorem calW_of {x : Str} {st : Stmt} {N ps : List Str} {k np n : Nat} {ws : WS} (F : FunA K mg x st ps) (S : FnScope N ps (defScope st)) (hb : Body P w K mg base N x st k ws) (hnp : ps.length = np := by rfl) (hn : N.length = n := by rfl) : CalW P w K mg base (k + 1) x ps (fnW np n ws) := by
  obtain ⟨f, fd, F, e, b⟩ := F.ex
  exact ⟨f, fd, fn_ok F S hnp hn (fun cdv A outer s H E g B tk => hb f cdv A outer s H E g B tk), e, F.kp, b⟩
theorem calF_of {x : Str} {st : Stmt} {N ps : List Str} {k np n : Nat} {ws : WS} {fs : FS} (F : FunA K mg x st ps) (S : FnScope N ps (defScope st)) (hi : ImpS fs ws) (hb : Body P w K mg base N x st k ws) (hnp : ps.length = np := by rfl) (hn : N.length = n := by rfl) : CalF P w K mg base (k + 1) x ps (fnF np n fs) := by
  obtain ⟨f, fd, F, e, b⟩ := F.ex
  exact ⟨f, fd, fn_F (fn_ok F S hnp hn (fun cdv A outer s H E g B tk => hb f cdv A outer s H E g B tk)) hi hnp, e, F.kp, b⟩
theorem calV_of {x : Str} {st : Stmt} {N ps : List Str} {k : Nat} {fn : FnW} {t : XK → TS} (F : FunA K mg x st ps) (S : FnScope N ps (defScope st)) (len : ∀ vs H Q E, spW mg fn vs H Q E → vs.length = ps.length)
    (hb : ∀ (f : Addr) (cdv : Value) (A : Around) (outer : List PySem.Env) (s : Shared) (H : Hp) (E : XK), Bd (cxOf (L2N.CX P w) P w K mg base N x (defScope st) f cdv A outer s H E) E k → PSs (cxOf (L2N.CX P w) P w K mg base N x (defScope st) f cdv A outer s H E) (defBody st) (t E))
    (hr : ∀ vs H Q E, spW mg fn vs H Q E → t E { nx := fun _ H' => Q .non H', rt := Q } (L2.start N vs) H) : CalW P w K mg base (k + 1) x ps fn := by
  obtain ⟨f, fd, F, e, b⟩ := F.ex
  exact ⟨f, fd, fn_V F S len (fun cdv A outer s H E B => hb f cdv A outer s H E B) hr, e, F.kp, b⟩
/-- a def of the layer's values -/
structure CalV (P : Program) (w : World) (K : PySem.W.Frag) (mg : Str → Option Value) (base : Heap) (k : Nat) (x : Str) (ps : List Str) (sp : Sp) : Prop where
  ex : ∃ f fd, FnOk P w K mg base (L2N.CX P w) k f fd ps sp ∧ mg x = some (.ref f) ∧ PySem.W.keepIn K (.ref f) = true ∧ Binds K fd ps []
theorem calS_of {x : Str} {st : Stmt} {N ps : List Str} {k : Nat} {sp : Sp} {t : XK → TS} (F : FunA K mg x st ps) (S : FnScope N ps (defScope st)) (len : ∀ vs H Q E, sp vs H Q E → vs.length = ps.length)
    (hb : ∀ (f : Addr) (cdv : Value) (A : Around) (outer : List PySem.Env) (s : Shared) (H : Hp) (E : XK), Bd (cxOf (L2N.CX P w) P w K mg base N x (defScope st) f cdv A outer s H E) E k → PSs (cxOf (L2N.CX P w) P w K mg base N x (defScope st) f cdv A outer s H E) (defBody st) (t E))
    (hr : ∀ vs H Q E, sp vs H Q E → t E { nx := fun _ H' => Q .non H', rt := Q } (L2.start N vs) H) : CalV P w K mg base (k + 1) x ps sp := by
  obtain ⟨f, fd, F, e, b⟩ := F.ex
  exact ⟨f, fd, fn_V F S len (fun cdv A outer s H E B => hb f cdv A outer s H E B) hr, e, F.kp, b⟩
end
section
variable {X : Cx} {g : Gd} {E : XK} {k kl : Nat} {x : Str} {ps : List Str} {e : Expr} {es : List Expr} {p pos : Pos}
theorem e_callF {fn : List D → Res D} {kk : FA} (C : CalF X.prog X.w X.K X.mg X.base kl x ps fn) (B : Bd X E k) (ha : PA X (e :: es) (tFA g X.mg E kk)) (hle : kl ≤ k := by decide) (hg : Gl X x := by rfl) (hdb : (x == ("__debug__" : Str)) = false := by decide) (he : starEach (e :: es) X.env = (false, eval e X.env) :: starEach es X.env := by rfl)
    (hpl : (backTo pos (starEach es X.env)).any (·.1) = false := by rfl) : PE X (.Call (.Name x p) (e :: es) [] pos) (tF g X.mg E (fCall fn kk)) := by
  obtain ⟨f, fd, F, hm, hk, hb⟩ := C.ex
  exact e_call F (B.hr.mono hle) hg hm hk hb B.ps ha hdb he hpl
theorem w_callW {fn : FnW} {ka : WA} (m : MonoW fn) (C : CalW X.prog X.w X.K X.mg X.base kl x ps fn) (B : Bd X E k) (ha : PA X (e :: es) (tWA g X.mg E ka)) (hle : kl ≤ k := by decide) (hg : Gl X x := by rfl) (hdb : (x == ("__debug__" : Str)) = false := by decide) (he : starEach (e :: es) X.env = (false, eval e X.env) :: starEach es X.env := by rfl)
    (hpl : (backTo pos (starEach es X.env)).any (·.1) = false := by rfl) : PE X (.Call (.Name x p) (e :: es) [] pos) (tW g X.mg E (wCall fn m ka)) := by
  obtain ⟨f, fd, F, hm, hk, hb⟩ := C.ex
  exact w_call m F (B.hr.mono hle) hg hm hk hb B.ps ha hdb he hpl
theorem v_call {sp : Sp} {t : TA} (C : CalV X.prog X.w X.K X.mg X.base kl x ps sp) (B : Bd X E k) (ha : PA X (e :: es) t) (hle : kl ≤ k := by decide) (hg : Gl X x := by rfl) (hdb : (x == ("__debug__" : Str)) = false := by decide) (he : starEach (e :: es) X.env = (false, eval e X.env) :: starEach es X.env := by rfl)
    (hpl : (backTo pos (starEach es X.env)).any (·.1) = false := by rfl) : PE X (.Call (.Name x p) (e :: es) [] pos) (tCall sp [] E t) := by
  obtain ⟨f, fd, F, hm, hk, hb⟩ := C.ex
  exact pe_call F (B.hr.mono hle) hg hm hk hb .nil B.ps ha hdb he hpl
theorem mono_roll : MonoW fnRoll := ⟨fun h _ ⟨m, e, hm, q⟩ => ⟨m, e, hm, fun r h1 h2 => h _ (q r h1 h2)⟩⟩
theorem inBlk {scope : Scope} {J : Cx → Prop} (B : Bd X E k) (f : ∀ (s : Shared) (H : Hp) (C : Addr) (cl : List (Str × Addr)) (fp : List Addr), Bd (X.blk s H scope (compEnvC scope cl C X.env) fp) E0 k → J (X.blk s H scope (compEnvC scope cl C X.env) fp)) : ForBlk X scope J :=
  fun s H C cl fp => f s H C cl fp (B.blk s H scope _ fp)
end
end FW
/-! The law's def with its table; classes that are named. -/
namespace FW
open PySem PySem.Spec PyProof.Rows L2 LamX

section
variable {P : Program} {w : World} {K : PySem.W.Frag} {mg : Str → Option Value} {base : Heap}
/-- a def whose code object is known -/
theorem fn_Vc {x qual : Str} {st : Stmt} {f : Addr} {fd : FuncData} {N ps : List Str} {k : Nat} {sp : Sp} {t : XK → TS} {cv : Value} (F : Fun K x qual st f fd) (hcv : ∀ o1 o2 fd o3, K.lookup f = some ⟨o1, o2, .func fd, o3⟩ → fd.code = cv) (S : FnScope N ps (defScope st)) (len : ∀ vs H Q E, sp vs H Q E → vs.length = ps.length)
    (hbody : ∀ (A : Around) (outer : List PySem.Env) (s : Shared) (H : Hp) (E : XK), Bd (cxOf (L2N.CX P w) P w K mg base N qual (defScope st) f cv A outer s H E) E k → L2N.Takes (cxOf (L2N.CX P w) P w K mg base N qual (defScope st) f cv A outer s H E) (fun cls d _ H => E cls d H) → PSs (cxOf (L2N.CX P w) P w K mg base N qual (defScope st) f cv A outer s H E) (defBody st) (t E))
    (hrun : ∀ vs H Q E, sp vs H Q E → t E { nx := fun _ H' => Q .non H', rt := Q } (L2.start N vs) H) : FnOk P w K mg base (L2N.CX P w) (k + 1) f fd ps sp := by
  obtain ⟨oc, od, kV, doc, pm, an, cdv, ct, osl, rfl, lk, hcd⟩ := F.ex
  obtain rfl : cdv = cv := hcv _ _ _ _ lk
  have tk : ∀ (A : Around) (outer : List PySem.Env) (s : Shared) (H : Hp) (E : XK), L2N.Takes (cxOf (L2N.CX P w) P w K mg base N qual (defScope st) f cdv A outer s H E) (fun cls d _ H => E cls d H) := fun A outer s H E => L2N.takes_of rfl rfl rfl rfl
  refine fn_of lk hcd S len fun A outer s H vs Q E hr hsp => ⟨t E, hbody A outer s H E ?_ (tk A outer s H E), hrun vs H Q E hsp⟩
  exact ⟨rfl, S.nd, hr, L2N.passes_call (tk A outer s H E) fun _ _ _ _ z => z, passes_of (K := fun e s'' => L2N.CX P w outer H s E e s'') (E₁ := fun e' s'' => L2N.CX P w outer H s E e' s'') rfl⟩
end
section
variable {X : Cx} {g : Gd} {E : XK}
theorem bd_lam {A : Around} {outer : List PySem.Env} {s : Shared} {H : Hp} {E : XK} {scope : Scope} {f c' : Addr} {k : Nat} (nd : X.N.Nodup) (hr : Room k (A.deeper (lamEnv X scope s.heap.objs.size f c'))) : Bd (lamN X A outer s H E scope f c') E k :=
  ⟨rfl, nd, hr, L2N.passes_call lam_takes fun _ _ _ _ z => z, passes_of (X := lamN X A outer s H E scope f c') (K := fun e s'' => L2N.CX X.prog X.w outer H s E e s'') (E₁ := fun e' s'' => L2N.CX X.prog X.w outer H s E e' s'') rfl⟩
/-- a def's own table among the known ones -/
structure OwnT (X : Cx) (T : List (Addr × Str)) : Prop where
  ex : ∃ c P, TabB X.base X.mg c P ∧ X.env.code = .ref c ∧ (P, X.env.qual ++ "<lambda>") ∈ T ∧ ∀ p ∈ T, p.1 = P → p.2 = X.env.qual ++ "<lambda>"
theorem e_toldB {k m : Nat} {x : Str} {names : List Str} {st : Stmt} {gT : Addr} {fd : FuncData} {a n t ec y : Str} {CT fT : Addr} {fdT : FuncData} {T : List (Addr × Str)} {params : Arguments} {body : Expr} {scope : Scope} {fb : FE} {p lpos pos : Pos}
    (F : ToldS X.prog X.w X.K X.mg X.base (k + 1) x names st gT fd a n t ec y CT fT fdT) (B : Bd X E m) (O : OwnT X T) (hT : g.T = T) (hle : k + 2 ≤ m)
    (hbody : ∀ (A : Around) (outer : List PySem.Env) (s : Shared) (H : Hp) (E : XK) (f c' : Addr), Bd (lamN X A outer s H E scope f c') E k → PE (lamN X A outer s H E scope f c') body (tF g X.mg E fb))
    (hg : Gl X x := by rfl) (hL : lamSB X.env.scope scope = true := by rfl) (hdef : defaultsOf params X.env = ([], []) := by rfl) (hbind : ∀ (q : Str) (cl : List (Str × Addr)) (pm cv ctv : Value), bindArgs (PySem.W.kla_fn "<lambda>" q params body scope cl pm cv ctv) ⟨[], []⟩ = pure [] := by intros; rfl) :
    PE X (.Call (.Name x p) [.Lambda params body scope lpos] [] pos) (tF g X.mg E (fTold names fb)) := by
  obtain ⟨c, P, h1, h2, h3, h4⟩ := O.ex
  exact e_told F hg h1 h2 (by rw [hT]; exact h3) (by rw [hT]; exact h4) (B.hr.mono hle) (lamS_by hL) (fun A outer s H E f c' hr => hbody A outer s H E f c' (bd_lam B.nd hr)) hdef hbind
end
/-! ### the classes -/
def excB (K : PySem.W.Frag) (D : Addr) : Bool :=
  decide (PySem.W.findIn K (.ref D) "__getattribute__" = some (some (.builtin "BaseException.__getattribute__"))) && (decide (PySem.W.findIn K (.ref D) "__getattr__" = some none) && (decide (PySem.W.subIn K (.ref D) (.type "BaseException") = some true) && (PySem.W.hasDictIn K D &&
    (decide (PySem.W.findIn K (.ref D) "__class__" = some (some (.builtin "object.__class__"))) && (decide (PySem.W.specialIn K (.builtin "object.__class__") "__get__" = some (some (.builtin "getset_descriptor.__get__"))) && (decide (PySem.W.takesIn K (.builtin "object.__class__") = some true) && decide (PySem.W.mroIn K D (.type "object") = some true)))))))
theorem excB_ok {K : PySem.W.Frag} {D : Addr} (h : excB K D = true) : ExcC K D := by
  unfold excB at h
  simp only [Bool.and_eq_true, decide_eq_true_eq] at h
  obtain ⟨h1, h2, h3, h4, h5, h6, h7, h8⟩ := h
  exact ⟨h1, h2, h3, h4, h5, h6, h7, h8⟩
/-- a class among the named: what it says of the others -/
def clsB (K : PySem.W.Frag) (base : Str) (names : List Str) (c : Str) : Bool := excB K (He.ga K c) && ((names.all fun y => decide (PySem.W.kitOne K (.ref (He.ga K c)) (.ref (He.ga K y)) = some (decide (c = y)))) && (decide (PySem.W.kitOne K (.ref (He.ga K c)) (.type "ValueError") = some true) && decide (PySem.W.exmOne K (.ref (He.ga K c)) (.ref (He.ga K base)) = some true)))
structure ClsF (K : PySem.W.Frag) (base : Str) (names : List Str) (c : Str) : Prop where
  exc : ExcC K (He.ga K c)
  kit : ∀ y ∈ names, PySem.W.kitOne K (.ref (He.ga K c)) (.ref (He.ga K y)) = some (decide (c = y))
  val : PySem.W.kitOne K (.ref (He.ga K c)) (.type "ValueError") = some true
  exm : PySem.W.exmOne K (.ref (He.ga K c)) (.ref (He.ga K base)) = some true
theorem clsB_ok {K : PySem.W.Frag} {base : Str} {names : List Str} {c : Str} (h : clsB K base names c = true) : ClsF K base names c := by
  unfold clsB at h
  simp only [Bool.and_eq_true, decide_eq_true_eq] at h
  obtain ⟨h1, h2, h3, h4⟩ := h
  exact ⟨excB_ok h1, fun y hy => by simpa using List.all_eq_true.mp h2 y hy, h3, h4⟩
section
variable {X : Cx} {p : Addr × Obj} {c y : Str} {base : Str} {names : List Str}
theorem cls_own (F : ClsF X.K base names c) (hy : y ∈ names) (hm : X.mg y = some (.ref (He.ga X.K y))) (hg : Gl X y := by rfl) : ClsE X (He.ga X.K c) y (decide (c = y)) := ⟨hg, .ref (He.ga X.K y), .ref (He.ga X.K y), .inl hm, rfl, fun u r => r, F.kit y hy⟩
theorem cls_val (F : ClsF X.K base names c) (hm : X.mg "ValueError" = none) (hg : Gl X "ValueError" := by rfl) : ClsE X (He.ga X.K c) "ValueError" true := ⟨hg, .ty "ValueError", .type "ValueError", .inr ⟨hm, by decide +kernel, by decide⟩, rfl, fun u r => r, F.val⟩
end
end FW
namespace Lk06
open PySem PySem.Spec PyProof.Rows L2 LamX FW
def top (i : Nat) : Stmt := PySem.Challenge.pw_manyends_k06_whole_reached.main.body.getD i (.Pass ⟨0, 0, 0, 0⟩)
abbrev st_is_whole : Stmt := top 19
abbrev st_is_word : Stmt := top 20
abbrev st_are_counts : Stmt := top 21
abbrev st_is_state : Stmt := top 22
abbrev st_is_rule : Stmt := top 23
abbrev st_are_states : Stmt := top 24
abbrev st_is_talk : Stmt := top 25
abbrev st_need_talk : Stmt := top 26
abbrev st_begun : Stmt := top 27
abbrev st_is_over : Stmt := top 28
abbrev st_vector : Stmt := top 30
abbrev st_needed : Stmt := top 31
abbrev st_granted : Stmt := top 32
abbrev st_can : Stmt := top 33
abbrev st_done : Stmt := top 34
abbrev st_steps_from : Stmt := top 35
abbrev st_need_targets : Stmt := top 39
abbrev st_need_size : Stmt := top 40
abbrev st_walked : Stmt := top 41
abbrev st_need_few : Stmt := top 42
abbrev st_reached : Stmt := top 43
abbrev st_is_hit : Stmt := top 44
abbrev st_run_of : Stmt := top 45
abbrev st_run_to : Stmt := top 46
abbrev st_ends_of : Stmt := top 47
abbrev st_can_return : Stmt := top 48
abbrev st_Lcell : Stmt := top 50
abbrev st_Ldrawn : Stmt := top 51
abbrev st_Lroll : Stmt := top 52
abbrev st_Lrounds : Stmt := top 53
abbrev st_Lterm : Stmt := top 54
abbrev st_Ltold : Stmt := top 55
abbrev st_Lany_rule : Stmt := top 56
abbrev st_Lany_talk : Stmt := top 57
abbrev st_Lat_start : Stmt := top 58
abbrev st_Lafter : Stmt := top 59
abbrev st_Lsteps_on : Stmt := top 60
abbrev st_Lcome_to : Stmt := top 61
abbrev st_law : Stmt := top 62
def names : List Str := ["BadTalk", "BadStanding", "BadNumber", "BadTargets", "BadPaper", "BadWeights", "BadTable", "BadRun", "BadRule", "BadName", "Taken", "NoName", "Nothing", "Full", "BadText"]
/-! ### the head -/
def d_is_whole : He.DefD := ⟨("is_whole", none), "is_whole", "is_whole", defArgs st_is_whole, defBody st_is_whole, defScope st_is_whole, [], []⟩
def d_is_word : He.DefD := ⟨("is_word", none), "is_word", "is_word", defArgs st_is_word, defBody st_is_word, defScope st_is_word, [], []⟩
def d_are_counts : He.DefD := ⟨("are_counts", none), "are_counts", "are_counts", defArgs st_are_counts, defBody st_are_counts, defScope st_are_counts, [], []⟩
def d_is_state : He.DefD := ⟨("is_state", none), "is_state", "is_state", defArgs st_is_state, defBody st_is_state, defScope st_is_state, [], []⟩
def d_is_rule : He.DefD := ⟨("is_rule", none), "is_rule", "is_rule", defArgs st_is_rule, defBody st_is_rule, defScope st_is_rule, [], []⟩
def d_are_states : He.DefD := ⟨("are_states", none), "are_states", "are_states", defArgs st_are_states, defBody st_are_states, defScope st_are_states, [], []⟩
def d_is_talk : He.DefD := ⟨("is_talk", none), "is_talk", "is_talk", defArgs st_is_talk, defBody st_is_talk, defScope st_is_talk, [], []⟩
def d_need_talk : He.DefD := ⟨("need_talk", none), "need_talk", "need_talk", defArgs st_need_talk, defBody st_need_talk, defScope st_need_talk, [], []⟩
def d_begun : He.DefD := ⟨("begun", none), "begun", "begun", defArgs st_begun, defBody st_begun, defScope st_begun, [], []⟩
def d_vector : He.DefD := ⟨("vector", none), "vector", "vector", defArgs st_vector, defBody st_vector, defScope st_vector, [], []⟩
def d_needed : He.DefD := ⟨("needed", none), "needed", "needed", defArgs st_needed, defBody st_needed, defScope st_needed, [], []⟩
def d_granted : He.DefD := ⟨("granted", none), "granted", "granted", defArgs st_granted, defBody st_granted, defScope st_granted, [], []⟩
def d_can : He.DefD := ⟨("can", none), "can", "can", defArgs st_can, defBody st_can, defScope st_can, [], []⟩
def d_done : He.DefD := ⟨("done", none), "done", "done", defArgs st_done, defBody st_done, defScope st_done, [], []⟩
def d_steps_from : He.DefD := ⟨("steps_from", none), "steps_from", "steps_from", defArgs st_steps_from, defBody st_steps_from, defScope st_steps_from, [], []⟩
def d_need_size : He.DefD := ⟨("need_size", none), "need_size", "need_size", defArgs st_need_size, defBody st_need_size, defScope st_need_size, [], []⟩
def d_walked : He.DefD := ⟨("walked", none), "walked", "walked", defArgs st_walked, defBody st_walked, defScope st_walked, [], []⟩
def d_reached : He.DefD := ⟨("reached", none), "reached", "reached", defArgs st_reached, defBody st_reached, defScope st_reached, [], []⟩
def d_run_to : He.DefD := ⟨("run_to", none), "run_to", "run_to", defArgs st_run_to, defBody st_run_to, defScope st_run_to, [], []⟩
def d_ends_of : He.DefD := ⟨("ends_of", none), "ends_of", "ends_of", defArgs st_ends_of, defBody st_ends_of, defScope st_ends_of, [], []⟩
def d_can_return : He.DefD := ⟨("can_return", none), "can_return", "can_return", defArgs st_can_return, defBody st_can_return, defScope st_can_return, [], []⟩
def d_Lcell : He.DefD := ⟨("_law_cell", none), "_law_cell", "_law_cell", defArgs st_Lcell, defBody st_Lcell, defScope st_Lcell, [], []⟩
def d_Ldrawn : He.DefD := ⟨("_law_drawn", none), "_law_drawn", "_law_drawn", defArgs st_Ldrawn, defBody st_Ldrawn, defScope st_Ldrawn, [], []⟩
def d_Lroll : He.DefD := ⟨("_law_roll", none), "_law_roll", "_law_roll", defArgs st_Lroll, defBody st_Lroll, defScope st_Lroll, [], []⟩
def d_Lrounds : He.DefD := ⟨("_law_rounds", none), "_law_rounds", "_law_rounds", defArgs st_Lrounds, defBody st_Lrounds, defScope st_Lrounds, [], []⟩
def d_Lterm : He.DefD := ⟨("_law_term", none), "_law_term", "_law_term", defArgs st_Lterm, defBody st_Lterm, defScope st_Lterm, [], []⟩
def d_Ltold : He.DefD := ⟨("_law_told", none), "_law_told", "_law_told", defArgs st_Ltold, defBody st_Ltold, defScope st_Ltold, [], []⟩
def d_Lany_rule : He.DefD := ⟨("_law_any_rule", none), "_law_any_rule", "_law_any_rule", defArgs st_Lany_rule, defBody st_Lany_rule, defScope st_Lany_rule, [], []⟩
def d_Lany_talk : He.DefD := ⟨("_law_any_talk", none), "_law_any_talk", "_law_any_talk", defArgs st_Lany_talk, defBody st_Lany_talk, defScope st_Lany_talk, [], []⟩
def d_Lat_start : He.DefD := ⟨("_law_at_start", none), "_law_at_start", "_law_at_start", defArgs st_Lat_start, defBody st_Lat_start, defScope st_Lat_start, [], []⟩
def d_Lafter : He.DefD := ⟨("_law_after", none), "_law_after", "_law_after", defArgs st_Lafter, defBody st_Lafter, defScope st_Lafter, [], []⟩
def d_Lsteps_on : He.DefD := ⟨("_law_steps_on", none), "_law_steps_on", "_law_steps_on", defArgs st_Lsteps_on, defBody st_Lsteps_on, defScope st_Lsteps_on, [], []⟩
def d_Lcome_to : He.DefD := ⟨("_law_come_to", none), "_law_come_to", "_law_come_to", defArgs st_Lcome_to, defBody st_Lcome_to, defScope st_Lcome_to, [], []⟩
def d_law : He.DefD := ⟨("law", none), "law", "law", defArgs st_law, defBody st_law, defScope st_law, [], []⟩
def fnL : List He.DefD := [d_is_whole, d_is_word, d_are_counts, d_is_state, d_is_rule, d_are_states, d_is_talk, d_need_talk, d_begun, d_vector, d_needed, d_granted, d_can, d_done, d_steps_from, d_need_size, d_walked, d_reached, d_run_to, d_ends_of, d_can_return, d_Lcell, d_Ldrawn, d_Lroll, d_Lrounds, d_Lterm, d_Ltold, d_Lany_rule, d_Lany_talk, d_Lat_start, d_Lafter, d_Lsteps_on, d_Lcome_to, d_law]
def fa0 : List He.Fa := [.glo "is_whole", .glo "is_word", .glo "are_counts", .glo "is_state", .glo "is_rule", .glo "are_states", .glo "is_talk", .glo "need_talk", .glo "begun", .glo "vector", .glo "needed", .glo "granted", .glo "can", .glo "done", .glo "steps_from", .glo "need_size", .glo "walked", .glo "reached", .glo "run_to", .glo "ends_of", .glo "can_return", .glo "_law_cell", .glo "_law_drawn", .glo "_law_roll", .glo "_law_rounds", .glo "_law_term", .glo "_law_told", .glo "_law_any_rule", .glo "_law_any_talk", .glo "_law_at_start"]
def fa1 : List He.Fa := [.glo "_law_after", .glo "_law_steps_on", .glo "_law_come_to", .glo "law", .glo "TalkError", .glo "BadTalk", .glo "BadStanding", .glo "BadNumber", .glo "BadTargets", .glo "BadPaper", .glo "BadWeights", .glo "BadTable", .glo "BadRun", .glo "BadRule", .glo "BadName", .glo "Taken", .glo "NoName", .glo "Nothing", .glo "Full", .glo "BadText", .free "len", .free "all", .free "any", .free "sum", .free "tuple", .free "list", .free "int", .free "max", .free "min", .free "range"]
def fa2 : List He.Fa := [.free "enumerate", .free "zip", .free "isinstance", .free "str", .free "bool", .free "dict", .free "set", .free "sorted", .free "abs", .free "ValueError", .str "SMALL" "abcdefghijklmnopqrstuvwxyz", .int "MOST_SIZE" 12, .int "MOST_REACHED" 4000, .exc "BadTalk", .exc "BadStanding", .exc "BadNumber", .exc "BadTargets", .exc "BadPaper", .exc "BadWeights", .exc "BadTable", .exc "BadRun", .exc "BadRule", .exc "BadName", .exc "Taken", .exc "NoName", .exc "Nothing", .exc "Full", .exc "BadText"]
def faL : List He.Fa := fa0 ++ fa1 ++ fa2
def moreB (K : PySem.W.Frag) : Bool := names.all fun c => clsB K "TalkError" names c
abbrev R : PySem.W.OpenRow := PySem.W.OpenLaw.row PySem.Challenge.rw_manyends_k06_whole_reached
abbrev hkL : PySem.W.Hook := hookX 5 faL fnL moreB ["law"]
def obL (s : PySem.W.SharedT) : AlX := obsX 5 faL fnL moreB ["law"] (HandSHeadRun.getT s)
theorem obL_eq (s : PySem.W.SharedT) : obL s = hkL.obs s.abs := obsX_eq (HandSHeadRun.getT_eq s)
def lo0 : List Str := ["TalkError", "BadTalk", "BadStanding", "BadNumber", "BadTargets", "BadPaper", "BadWeights", "BadTable", "BadRun", "BadRule", "BadName", "Taken", "NoName", "Nothing", "Full", "BadText", "SMALL", "MOST_SIZE", "MOST_REACHED", "is_whole", "is_word", "are_counts", "is_state", "is_rule", "are_states", "is_talk", "need_talk", "begun", "is_over", "vector"]
def lo1 : List Str := ["needed", "granted", "can", "done", "steps_from", "need_targets", "need_size", "walked", "need_few", "reached", "is_hit", "run_of", "run_to", "ends_of", "can_return", "_law_cell", "_law_drawn", "_law_roll", "_law_rounds", "_law_term", "_law_told", "_law_any_rule", "_law_any_talk", "_law_at_start", "_law_after", "_law_steps_on", "_law_come_to"]
abbrev looseL : List Str := lo0 ++ lo1
theorem runL (w : World) : HandSHeadRun.RunEq R (PySem.W.view R.prog [62]) hkL obL 6000 looseL w := by
  intro os
  kernel_rfl
end Lk06
/-! Plain laws of the functions: how they are evaluated. -/
namespace FW
open PySem

section
variable {r : Env} {r2 : Env2} {fa fb fc : FE} {p q : FT} {np n i : Nat} {ds : List D} {d : D} {b : Bool}
theorem lcF_map {fe : FE} {f : D → D} (hi : i < r.length) : ∀ ds : List D, (∀ d ∈ ds, fe (r.set i (some d)) = .ok (f d)) → lcF (gN i) fYes fe r ds = .ok (ds.map f)
  | [], _ => rfl
  | d :: ds, h => by
    have e1 : gN i d r = .ok (r.set i (some d)) := by unfold gN; rw [if_pos hi]
    have e2 := h d List.mem_cons_self
    have e3 := lcF_map hi ds fun x hx => h x (List.mem_cons_of_mem _ hx)
    show ((gN i d r).calm.bind fun r1 => (fYes r1).calm.bind fun b => if b = true then (fe r1).calm.bind fun y => (lcF (gN i) fYes fe r ds).bind fun ys => .ok (y :: ys) else lcF (gN i) fYes fe r ds) = _
    rw [e1, e3]
    show ((fe (r.set i (some d))).calm.bind fun y => .ok (y :: ds.map f)) = _
    rw [e2]
    rfl
theorem fLc_map {fi : FI} {fe : FE} {f : D → D} {vs : List Nat} (hfi : fi r = .ok ds) (hl : ds.length ≤ 100000) (hi : i < r.length) (h : ∀ d ∈ ds, fe ((wipeE r vs).set i (some d)) = .ok (f d)) : fLc fi (gN i) fYes fe vs r = .ok (.lst (ds.map f)) := by
  unfold fLc
  rw [hfi]
  show (if ds.length ≤ 100000 then _ else _) = _
  rw [if_pos hl, lcF_map (by rw [wipeE_len]; exact hi) ds h]
theorem fn_eval {fs : FS} (h : ds.length = np) : fnF np n fs ds = (fs (initE n ds)).bind outF := by unfold fnF; rw [if_pos h]
theorem fn_rt {fs : FS} (h : ds.length = np) (e : fs (initE n ds) = .ok (.rt d)) : fnF np n fs ds = .ok d := by rw [fn_eval h, e]; rfl
theorem fn_nx {fs : FS} {r' : Env2} (h : ds.length = np) (e : fs (initE n ds) = .ok (.nx r')) : fnF np n fs ds = .ok .non := by rw [fn_eval h, e]; rfl
theorem fn_exc {fs : FS} {c : Str} (h : ds.length = np) (e : fs (initE n ds) = .exc c) : fnF np n fs ds = .exc c := by rw [fn_eval h, e]
theorem ret_ok {f : FE} (e : f (allv r2) = .ok d) : fsRet f r2 = .ok (.rt d) := by unfold fsRet; rw [e]
theorem fn_ret {f : FE} (h : ds.length = np) (e : f (allv (initE n ds)) = .ok d) : fnF np n (fsRet f) ds = .ok d := fn_rt h (ret_ok e)
theorem seq_nx {f g : FS} {r' : Env2} (e : f r2 = .ok (.nx r')) : fsSeq f g r2 = g r' := by unfold fsSeq; rw [e]
theorem seq_rt {f g : FS} (e : f r2 = .ok (.rt d)) : fsSeq f g r2 = .ok (.rt d) := by unfold fsSeq; rw [e]
theorem seq_exc {f g : FS} {c : Str} (e : f r2 = .exc c) : fsSeq f g r2 = .exc c := by unfold fsSeq; rw [e]
theorem if_t {f g : FS} (e : p (allv r2) = .ok true) : fsIf p f g r2 = f r2 := by unfold fsIf; rw [e]; rfl
theorem if_f {f g : FS} (e : p (allv r2) = .ok false) : fsIf p f g r2 = g r2 := by unfold fsIf; rw [e]; rfl
theorem set_ok {f : FE} (h : i < r2.length) (e : f (plain r2) = .ok d) : fsSet i f r2 = .ok (.nx (r2.set i (.val d))) := by unfold fsSet; rw [if_pos h, e]
theorem expr_ok {f : FE} (e : f (allv r2) = .ok d) : fsExpr f r2 = .ok (.nx r2) := by unfold fsExpr; rw [e]
theorem expr_exc {f : FE} {c : Str} (e : f (allv r2) = .exc c) : fsExpr f r2 = .exc c := by unfold fsExpr; rw [e]
theorem and_t (e : fa r = .ok (.bl true)) : fAndV fa fb r = fb r := by unfold fAndV; rw [e]; rfl
theorem and_f (e : fa r = .ok (.bl false)) : fAndV fa fb r = .ok (.bl false) := by unfold fAndV; rw [e]; rfl
theorem fif_t (e : p r = .ok true) : fIf p fa fb r = fa r := by unfold fIf; rw [e]; rfl
theorem fif_f (e : p r = .ok false) : fIf p fa fb r = fb r := by unfold fIf; rw [e]; rfl
theorem test_ok (e : fa r = .ok (.bl b)) : fTest fa r = .ok b := by unfold fTest; rw [e]
theorem not_ok (e : p r = .ok b) : fNot p r = .ok (!b) := by unfold fNot; rw [e]
theorem or_t (e : p r = .ok true) : fOr p q r = .ok true := by unfold fOr; rw [e]; rfl
theorem or_f (e : p r = .ok false) : fOr p q r = q r := by unfold fOr; rw [e]; rfl
theorem andT_t (e : p r = .ok true) : fAnd p q r = q r := by unfold fAnd; rw [e]; rfl
theorem andT_f (e : p r = .ok false) : fAnd p q r = .ok false := by unfold fAnd; rw [e]; rfl
theorem op_ok {o : D → D → Res D} {x y : D} (e1 : fa r = .ok x) (e2 : fb r = .ok y) : fOp o fa fb r = o x y := by unfold fOp; rw [e1]; show (fb r).bind _ = _; rw [e2]
theorem cb1 {o : List D → Res D} {x : D} (e : fa r = .ok x) : fCB o (fCons fa fNil) r = o [x] := by unfold fCB fCons; rw [e]; rfl
theorem call1 {o : List D → Res D} {x : D} (e : fa r = .ok x) : fCall o (fCons fa fNil) r = o [x] := by unfold fCall fCons; rw [e]; rfl
theorem call2 {o : List D → Res D} {x y : D} (e : fa r = .ok x) (e2 : fb r = .ok y) : fCall o (fCons fa (fCons fb fNil)) r = o [x, y] := by unfold fCall fCons; rw [e]; show (((fb r).bind _).bind _ : Res (List D)).bind _ = _; rw [e2]; rfl
theorem call3 {o : List D → Res D} {x y z : D} (e : fa r = .ok x) (e2 : fb r = .ok y) (e3 : fc r = .ok z) : fCall o (fCons fa (fCons fb (fCons fc fNil))) r = o [x, y, z] := by
  have h : fCons fa (fCons fb (fCons fc fNil)) r = .ok [x, y, z] := by
    unfold fCons
    rw [e]
    show ((fb r).bind fun d => ((fc r).bind fun d => _).bind _).bind _ = _
    rw [e2]
    show (((fc r).bind fun d => _).bind _).bind _ = _
    rw [e3]; rfl
  unfold fCall; rw [h]
theorem flat_strs (ss : List Str) : (ss.map D.str).all D.flat = true := by
  rw [List.all_map]
  exact List.all_eq_true.mpr fun _ _ => rfl
theorem any_strs (ss : List Str) (x : Str) : D.any (.str x) (ss.map D.str) = decide (x ∈ ss) := by
  unfold D.any
  rw [List.any_map]
  induction ss with
  | nil => rfl
  | cons s ss ih =>
    rw [List.any_cons, ih]
    show ((D.eqv (.str s) (.str x)) || decide (x ∈ ss)) = _
    rw [D.eqv]
    by_cases e : s = x
    · subst e; simp
    · have : (s == x) = false := by simpa using e
      rw [this, Bool.false_or]
      exact decide_eq_decide.mpr ⟨fun h => List.mem_cons_of_mem _ h, fun h => (List.mem_cons.mp h).elim (fun z => absurd z.symm e) id⟩
theorem in_strs (ss : List Str) (x : Str) : dIn (.str x) (.tup (ss.map D.str)) = .ok (.bl (decide (x ∈ ss))) := by
  show (match (if (true && (ss.map D.str).all D.flat) = true then some (D.any (.str x) (ss.map D.str)) else none) with | some b => Res.ok (D.bl b) | none => Res.bad) = _
  rw [flat_strs, any_strs]; rfl
theorem all_true {α : Type} (l : List α) : dAll [.lst (l.map fun _ => D.bl true)] = .ok (.bl true) := by
  have e : bools (l.map fun _ => D.bl true) = some (l.map fun _ => true) := by
    have := bools_map (l.map fun _ => true)
    rw [List.map_map] at this
    exact this
  unfold dAll
  dsimp only
  rw [e]
  dsimp only
  rw [show (List.map (fun _ => true) l).all id = true from List.all_eq_true.mpr fun x hx => by obtain ⟨_, _, rfl⟩ := List.mem_map.mp hx; rfl]
theorem eq_int (i j : Int) : dEq (.int i) (.int j) = .ok (.bl (i == j)) := by
  unfold dEq
  rw [if_pos (show eqOk (.int i) (.int j) = true from rfl), D.eqv]
theorem ne_int (i j : Int) : dNe (.int i) (.int j) = .ok (.bl (!(i == j))) := by
  unfold dNe
  rw [if_pos (show eqOk (.int i) (.int j) = true from rfl), D.eqv]
theorem eq_str (x y : Str) : dEq (.str x) (.str y) = .ok (.bl (x == y)) := by
  unfold dEq
  rw [if_pos (show eqOk (.str x) (.str y) = true from by unfold eqOk scalD; simp), D.eqv]
theorem ne_str (x y : Str) : dNe (.str x) (.str y) = .ok (.bl (!(x == y))) := by
  unfold dNe
  rw [if_pos (show eqOk (.str x) (.str y) = true from by unfold eqOk scalD; simp), D.eqv]
/-! ### draws -/
theorem roll_ok {k : FA} {Q : D → Prop} {Z : Str → Prop} {m : Int} (e : k r = .ok [.dice, .int m]) (hm : 0 < m ∧ m < ((2 ^ 64 : Nat) : Int)) (h : ∀ x : Int, 0 ≤ x → x < m → Q (.int x)) : (wCall fnRoll mono_roll (waOf k)).run r Q Z := by
  show resW (k r) _ _
  rw [e]
  exact ⟨m, rfl, hm, h⟩
theorem lcW_all {we : WE} {P : D → Prop} (hi : i < r.length) : ∀ (ds : List D) {Q : List D → Prop}, (∀ d ∈ ds, ∀ Q' : D → Prop, (∀ y, P y → Q' y) → we.run (r.set i (some d)) Q' (fun _ => False)) → (∀ ys : List D, ys.length = ds.length → (∀ y ∈ ys, P y) → Q ys) → lcW (gN i) fYes we r ds Q
  | [], Q, _, q => q [] rfl fun y hy => by cases hy
  | d :: ds, Q, h, q => by
    have e1 : gN i d r = .ok (r.set i (some d)) := by unfold gN; rw [if_pos hi]
    show resW (gN i d r) (fun r1 => resW (fYes r1) (fun b => if b = true then we.run r1 (fun y => lcW (gN i) fYes we r ds fun ys => Q (y :: ys)) (fun _ => False) else lcW (gN i) fYes we r ds Q) fun _ => False) fun _ => False
    rw [e1]
    refine h d List.mem_cons_self _ fun y hy => ?_
    refine lcW_all hi ds (fun x hx => h x (List.mem_cons_of_mem _ hx)) fun ys hl hp => q (y :: ys) (by rw [List.length_cons, hl, List.length_cons]) fun z hz => ?_
    rcases List.mem_cons.mp hz with e | hz
    · rw [e]; exact hy
    · exact hp z hz
/-- xs[roll]: any item -/
theorem ix_any {xs : List D} {x : Int} (h0 : 0 ≤ x) (h1 : x < xs.length) : ∃ d ∈ xs, dIx (.lst xs) (.int x) = .ok d := by
  obtain ⟨j, rfl⟩ := Int.eq_ofNat_of_zero_le h0
  have hj : j < xs.length := by omega
  refine ⟨xs[j], List.getElem_mem hj, ?_⟩
  show (match L2.atI xs ((j : Nat) : Int) with | some d => Res.ok d | none => .bad) = _
  rw [L2.atI_nat (List.getElem?_eq_getElem hj)]
theorem ixroll_ok {wa : FE} {k : FA} {xs : List D} {P Q : D → Prop} {Z : Str → Prop} (ha : wa r = .ok (.lst xs)) (e : k r = .ok [.dice, .int (xs.length : Nat)]) (hn : xs ≠ []) (hl : xs.length ≤ 1000) (hp : ∀ d ∈ xs, P d) (h : ∀ d, P d → Q d) : (wOp dIx (wOf wa) (wCall fnRoll mono_roll (waOf k))).run r Q Z := by
  show resW (wa r) _ _
  rw [ha]
  have h0 : 0 < xs.length := List.length_pos_iff.mpr hn
  refine roll_ok e ⟨by omega, Int.lt_of_le_of_lt (by omega : ((xs.length : Nat) : Int) ≤ 1000) (by decide)⟩ fun x h1 h2 => ?_
  obtain ⟨d, hd, ed⟩ := ix_any h1 h2
  show resW (dIx (.lst xs) (.int x)) _ _
  rw [ed]
  exact h d (hp d hd)
/-! ### statements by wishes -/
section
variable {a c : WS} {k : Kt} {w w2 : WE} {f : FE} {Q : D → Prop} {Z : Str → Prop}
theorem run_seq (h : a.run r2 { k with nx := fun r' => c.run r' k }) : (wsSeq a c).run r2 k := h
theorem run_if_t (e : p (allv r2) = .ok true) (h : a.run r2 k) : (wsIf p a c).run r2 k := by
  show resW (p (allv r2)) _ _
  rw [e]
  exact h
theorem run_if_f (e : p (allv r2) = .ok false) (h : c.run r2 k) : (wsIf p a c).run r2 k := by
  show resW (p (allv r2)) _ _
  rw [e]
  exact h
theorem run_guard (e : p (allv r2) = .ok false) (h : c.run r2 k) : (wsSeq (wsIf p a wsSkip) c).run r2 k := run_seq (run_if_f (c := wsSkip) e h)
theorem run_ret (h : w.run (allv r2) k.rt k.ex) : (wsRet w).run r2 k := h
theorem run_retF (e : f (allv r2) = .ok d) (h : k.rt d) : (wsRet (wOf f)).run r2 k := by
  show resW (f (allv r2)) _ _
  rw [e]
  exact h
theorem run_set (hi : i < r2.length) (h : w.run (plain r2) (fun d => k.nx (r2.set i (.val d))) k.ex) : (wsSet i w).run r2 k := ⟨hi, h⟩
theorem run_setF (hi : i < r2.length) (e : f (plain r2) = .ok d) (h : k.nx (r2.set i (.val d))) : (wsSet i (wOf f)).run r2 k := by
  refine ⟨hi, ?_⟩
  show resW (f (plain r2)) _ _
  rw [e]
  exact h
theorem run_setOF (hi : i < r2.length) (e : f (plain r2) = .ok (.lst ds)) (h : k.nx (r2.set i (.own (.lst ds)))) : (wsSetO i (wOf f)).run r2 k := by
  refine ⟨hi, ?_⟩
  show resW (f (plain r2)) _ _
  rw [e]
  exact ⟨⟨ds, rfl⟩, h⟩
theorem run_appF (hr : r2[i]? = some (.own (.lst ds))) (hl : ds.length < 100000) (e : f (plain r2) = .ok d) (h : k.nx (r2.set i (.own (.lst (ds ++ [d]))))) : (wsApp i (wOf f)).run r2 k := by
  refine ⟨ds, hr, hl, ?_⟩
  show resW (f (plain r2)) _ _
  rw [e]
  exact h
theorem run_for {fi : FI} {sg : SG} (e : fi (plain r2) = .ok ds) (h : forW sg a k ds r2) : (wsFor (wiOf fi) sg a).run r2 k := by
  show resW (fi (plain r2)) _ _
  rw [e]
  exact h
/-- a for by an invariant of what is left -/
theorem for_inv {sg : SG} (I : List D → Env2 → Prop) (hn : ∀ r, I [] r → k.nx r) (hs : ∀ d ds r, I (d :: ds) r → ∃ r1, sg d r = .ok r1 ∧ a.run r1 { nx := fun r' => I ds r', rt := k.rt, bk := k.nx, ct := fun r' => I ds r', ex := k.ex }) : ∀ (ds : List D) (r : Env2), I ds r → forW sg a k ds r
  | [], r, h => hn r h
  | d :: ds, r, h => by
    obtain ⟨r1, e, q⟩ := hs d ds r h
    show resW (sg d r) _ _
    rw [e]
    exact a.mono (k := { nx := fun r' => I ds r', rt := k.rt, bk := k.nx, ct := fun r' => I ds r', ex := k.ex }) ⟨fun r' z => for_inv I hn hs ds r' z, fun _ z => z, fun _ z => z, fun r' z => for_inv I hn hs ds r' z, fun _ z => z⟩ q
theorem wtup {ka : WA} (h : ka.run r (fun ds => Q (.tup ds)) Z) : (wTup ka).run r Q Z := h
theorem waF {ka : WA} {QQ : List D → Prop} (e : f r = .ok d) (h : ka.run r (fun ds => QQ (d :: ds)) Z) : (waCons (wOf f) ka).run r QQ Z := by
  show resW (f r) _ _
  rw [e]
  exact h
theorem waW {ka : WA} {QQ : List D → Prop} (h : w.run r (fun d => ka.run r (fun ds => QQ (d :: ds)) Z) Z) : (waCons w ka).run r QQ Z := h
theorem waN {QQ : List D → Prop} (h : QQ []) : waNil.run r QQ Z := h
theorem wcb {ka : WA} {o : List D → Res D} (h : ka.run r (fun ds => resW (o ds) Q Z) Z) : (wCB o ka).run r Q Z := h
theorem wcutTo {fa : FE} {x : D} (e : fa r = .ok x) (h : w.run r (fun d => ∃ i, d = .int i ∧ resW (dCut x none (some i)) Q Z) Z) : (wCut (wOf fa) woNo (woPart w)).run r Q Z := by
  show resW (fa r) _ _
  rw [e]
  exact h
theorem wopF {o : D → D → Res D} {fa : FE} {x : D} (e : fa r = .ok x) (h : w.run r (fun y => resW (o x y) Q Z) Z) : (wOp o (wOf fa) w).run r Q Z := by
  show resW (fa r) _ _
  rw [e]
  exact h
theorem wcall {fn : FnW} {m : MonoW fn} {ka : WA} (h : ka.run r (fun ds => fn ds Q Z) Z) : (wCall fn m ka).run r Q Z := h
theorem run_forW {dd : List D → Res (List D)} {ka : WA} {sg : SG} (h : ka.run (plain r2) (fun ds => resW (dd ds) (fun xs => forW sg a k xs r2) k.ex) k.ex) : (wsFor (wiA dd ka) sg a).run r2 k := h
theorem run_parOV {j : Nat} {f2 : FE} {e2 : D} (hi : i < r2.length) (hj : j < r2.length) (e : f (plain r2) = .ok (.lst ds)) (e' : f2 (plain r2) = .ok e2) (h : k.nx ((r2.set i (.own (.lst ds))).set j (.val e2))) : (wsParOV i j (wOf f) (wOf f2)).run r2 k := by
  refine ⟨⟨hi, hj⟩, ?_⟩
  show resW (f (plain r2)) _ _
  rw [e]
  refine ⟨⟨ds, rfl⟩, ?_⟩
  show resW (f2 (plain r2)) _ _
  rw [e']
  exact h
theorem wlc {wi : WI} {fi : FI} {fg : FG} {ft : FT} {vs : List Nat} (e : fi r = .ok ds) (hl : ds.length ≤ 100000) (h : lcW fg ft w (wipeE r vs) ds fun ys => Q (.lst ys)) : (wLc (wiOf fi) fg ft w vs).run r Q Z := by
  show resW (fi r) _ _
  rw [e]
  exact ⟨hl, h⟩
end
end
end FW
/-! What is never come to; tuple * 1, text * n; pairs of stores by functions. -/
namespace FW
open PySem PySem.Spec PyProof.Rows L2
section
variable {X : Cx} {g : Gd} {E : XK} {e : Expr} {st : Stmt} {sts : List Stmt}
theorem s_never : PS X st (tWS g X.mg E wsNever) := ⟨fun _ _ _ _ _ _ ⟨_, _, _, _, h⟩ => h.elim⟩
end
section
variable {X : Cx} {g : Gd} {E : XK}
/-! ### tuple * 1 -/
theorem tuple_mul1 (l : Addr) (items : Array Value) (n : Nat) (dd : Option Addr) (sl : Array (Option Value)) (u : Tok) :
    Meets (Builtin.«tuple.__mul__» ⟨[.ref l, .int 1 u], []⟩) (fun _ R s => s.heap.get? l = some { cls := .type "tuple", dict := dd, data := .seq items n, slots := sl } ∧
      R (.ok (.ret (Value.ref l))) s) :=
  .of_wp fun prog w A R s h => by
    obtain ⟨hp, g, d, tk, os⟩ := s
    obtain ⟨hl, h⟩ := h
    have f1 := AutoSeq1.idx_int
    have c1 : (items.isEmpty || (1 : Int) == 1) = true := by simp
    wp_walk using wpAny_loadPart' hl
    repeat (first
      | (refine wpAny_ite_true (decide_eq_true c1) ?_; wp_walk using wpAny_loadPart' hl)
      | (refine wpAny_ite_false (decide_eq_false (by decide)) ?_; wp_walk using wpAny_loadPart' hl))
    exact ⟨_, rfl, h⟩
def rRepT1 (K : PySem.W.Frag) : R2 := fun x y H Q => ∃ l xs, x = .ref l ∧ y = .int 1 ∧ SqT K H l xs ∧ Q (.ref l) H
theorem op_repT1 : OpR X (binaryOp .Mult) (rRepT1 X.K) := by
  intro pins s σ H x y v u Q I rx ry h
  obtain ⟨l, xs, rfl, rfl, hT, q⟩ := h
  cases rx
  obtain ⟨t, rfl⟩ := ry
  obtain ⟨its, r, ⟨⟨cls, dd, data, sl⟩, ho, hc, n, hd⟩, hs⟩ := I.tuple hT
  simp only at hc hd
  subst hc hd
  refine wpAny_binaryOp_repeat_ref (T := "tuple") (U := "int") (by decide) ⟨_, ho, rfl⟩ (fun s' => typeIs_int s' 1 t) noFill_tuple_mul F.fills_int_mul F.slot_int_rmul repeat_tuple F.slot_int_index.lookup
    (call_meets F.slot_int_rmul (typeIs_int s 1 t) F.entry_int_rmul (F.args_int_rmul_2 _ _) (int_rmul_tuple 1 t l its.toArray n dd sl)
      ⟨ho, rfl, ⟨_, ho, rfl⟩, call_meets F.slot_tuple_mul ⟨_, ho, rfl⟩ F.entry_tuple_mul (F.args_tuple_mul_2 _ _) (tuple_mul1 l its.toArray n dd sl t) ⟨ho, ?_⟩⟩)
  exact ⟨.ref l, H, I, rfl, q⟩
/-! ### text * n -/
def repS (z : Str) (n : Nat) : Str := ⟨(List.replicate n z.cps).foldl (· ++ ·) #[]⟩
theorem rep_size (b : Array Nat) : ∀ (n : Nat) (a : Array Nat), (List.foldl (fun x1 x2 => x1 ++ x2) a (List.replicate n b)).size = a.size + n * b.size
  | 0, a => by simp
  | n + 1, a => by
    rw [List.replicate_succ, List.foldl_cons, rep_size b n, Array.size_append, Nat.add_mul]
    omega
def rRepS : R2 := fun x y H Q => ∃ z k, x = .str z ∧ y = .int k ∧ 2 ≤ k ∧ k ≤ 1000 ∧ 0 < z.length ∧ z.length ≤ 1000 ∧ Q (.str (repS z k.toNat)) H
theorem op_repS : OpR X (binaryOp .Mult) rRepS := by
  intro pins s σ H x y v u Q I rx ry h
  obtain ⟨z, k, rfl, rfl, h1, h2, h3, h4, q⟩ := h
  obtain ⟨t, rfl⟩ := rx
  obtain ⟨t', rfl⟩ := ry
  have hd : (z.length : Int) * k ≤ 1000000 := by
    have a1 : (z.length : Int) * k ≤ 1000 * k := Int.mul_le_mul_of_nonneg_right (by omega) (by omega)
    omega
  have e1 : (k == 1 || z.length == 0) = false := by
    rw [beq_eq_false_iff_ne.mpr (by omega : k ≠ 1), beq_eq_false_iff_ne.mpr (by omega : z.length ≠ 0)]; rfl
  refine PySem.P.mul_str (by rw [decide_eq_false (by omega), decide_eq_false (by omega)] <;> rfl) (fun _ _ => ?_) (fun _ _ => ?_) ?_
  · intro hc
    have h5 : (2 ^ 63 - 1 : Int) < (z.length : Int) * k := Int.lt_mul_of_ediv_lt (by omega) hc
    omega
  · unfold Builtin.Str.tooLong
    exact decide_eq_false (by rw [sizeLine_eq]; have : z.length * k.toNat ≤ 1000 * 1000 := Nat.mul_le_mul h4 (by omega); omega)
  · rw [if_neg (by omega), e1]
    refine ⟨?_, ⟨.str (repS z k.toNat), H, I.tok _, ⟨_, rfl⟩, q⟩⟩
    have := rep_size z.cps k.toNat #[]
    have h6 : k.toNat * z.cps.size ≤ 1000 * 1000 := Nat.mul_le_mul (by omega) h4
    rw [sizeLine_eq]
    show (List.foldl (· ++ ·) #[] (List.replicate k.toNat z.cps)).size ≤ _
    rw [this]
    simp only [Array.size_empty, Nat.zero_add]
    omega
/-! ### all of * -/
def dMulX (x y : D) : Res D := match x, y with
  | .tup a, .int 1 => .ok (.tup a)
  | .str z, .int k => if 2 ≤ k ∧ k ≤ 1000 ∧ 0 < z.length ∧ z.length ≤ 1000 then .ok (.str (repS z k.toNat)) else .bad
  | x, y => dMul x y
theorem od_mulX : OpD g X.mg E (fun x y H Q => rRepT1 X.K x y H Q ∨ rRepS x y H Q ∨ (rI CMul (fun i j => .int (i * j)) x y H Q ∨ rRep x y H Q ∨ rRepT X.K x y H Q)) dMulX := by
  intro I H x y v u Q rl hx hy p
  unfold dMulX at p
  split at p
  · cases hy
    cases hx with
    | tup ha ua ra => exact .inl ⟨_, _, rfl, rfl, ua.sqt (rl.sub _ _ ha), p.here rl (.tup ha ua ra)⟩
  · split at p
    · rename_i c
      cases hx; cases hy
      exact .inr (.inl ⟨_, _, rfl, rfl, c.1, c.2.1, c.2.2.1, c.2.2.2, p.here rl (.str _)⟩)
    · exact p.elim
  · exact .inr (.inr (od_mul I H _ _ v u Q rl hx hy p))
theorem or_mulX : OpR X (binaryOp .Mult) (fun x y H Q => rRepT1 X.K x y H Q ∨ rRepS x y H Q ∨ (rI CMul (fun i j => .int (i * j)) x y H Q ∨ rRep x y H Q ∨ rRepT X.K x y H Q)) := op_repT1.or (op_repS.or (op_mul.or (op_rep.or op_repT)))
theorem e_mulX {a b : Expr} {fa fb : FE} {pos : Pos} (ha : PE X a (tF g X.mg E fa)) (hb : PE X b (tF g X.mg E fb)) : PE X (.BinOp a .Mult b pos) (tF g X.mg E (fOp dMulX fa fb)) := e_op or_mulX od_mulX ha hb
end
/-! ### pairs of stores by functions -/
def fsParVO (i j : Nat) (f1 f2 : FE) : FS := fun r => if i < r.length ∧ j < r.length then (f1 (plain r)).bind fun d => (f2 (plain r)).bind fun e => match e with
  | .lst ds => .ok (.nx ((r.set i (.val d)).set j (.own (.lst ds))))
  | _ => .bad else .bad
theorem imp_parVO {i j : Nat} {f1 f2 : FE} : ImpS (fsParVO i j f1 f2) (wsParVO i j (wOf f1) (wOf f2)) := fun r k q => by
  unfold fsParVO at q
  split at q
  · rename_i c
    refine ⟨c, resW.mono (fun d z => resW.mono (fun e z => ?_) (fun _ z => z) (resW_bind z)) (fun _ z => z) (resW_bind q)⟩
    cases e with
    | lst ds => exact ⟨⟨ds, rfl⟩, z⟩
    | _ => exact z.elim
  · exact q.elim
end FW
/-! Plain laws, second part. -/
namespace FW
open PySem
section
variable {r : Env} {r2 : Env2} {fa fb fc : FE} {p q : FT} {np n i j : Nat} {ds : List D} {d : D} {b : Bool}
theorem all_eq {α : Type} (l : List α) (f : α → Bool) : dAll [.lst (l.map fun x => D.bl (f x))] = .ok (.bl (l.all f)) := by
  have e : bools (l.map fun x => D.bl (f x)) = some (l.map f) := by
    have := bools_map (l.map f)
    rw [List.map_map] at this
    exact this
  unfold dAll
  dsimp only
  rw [e]
  dsimp only
  rw [List.all_map]
  rfl
abbrev tupI (xs : List Int) : D := .tup (xs.map D.int)
theorem lays_ints : ∀ xs : List Int, D.lays (xs.map D.int) = true
  | [] => by rw [List.map_nil, D.lays]
  | x :: xs => by rw [List.map_cons, D.lays, D.lay, lays_ints xs]; rfl
theorem deps_ints : ∀ xs : List Int, D.deps (xs.map D.int) = 0
  | [] => by rw [List.map_nil, D.deps]
  | x :: xs => by rw [List.map_cons, D.deps, D.dep, deps_ints xs]; rfl
theorem eqvs_ints : ∀ xs ys : List Int, D.eqvs (xs.map D.int) (ys.map D.int) = decide (xs = ys)
  | [], [] => by rw [List.map_nil, D.eqvs]; rfl
  | [], u :: us => by simp [D.eqvs]
  | t :: ts, [] => by simp [D.eqvs]
  | t :: ts, u :: us => by
    rw [List.map_cons, List.map_cons, D.eqvs, D.eqv, eqvs_ints ts us]
    by_cases e : t = u
    · subst e; simp
    · have : (t == u) = false := by simpa using e
      rw [this, Bool.false_and]
      exact (decide_eq_false fun h => e (by injection h)).symm
theorem eq_of_shp {x y : D} (h : x.shp = true) (h' : y.shp = true) : dEq x y = .ok (.bl (D.eqv x y)) := by
  unfold dEq
  rw [if_pos (by unfold eqOk; rw [h, h']; rfl)]
theorem ne_of_shp {x y : D} (h : x.shp = true) (h' : y.shp = true) : dNe x y = .ok (.bl (!D.eqv x y)) := by
  unfold dNe
  rw [if_pos (by unfold eqOk; rw [h, h']; rfl)]
theorem ix_tup {xs : List D} {k : Nat} {d : D} (h : xs[k]? = some d) : dIx (.tup xs) (.int (k : Nat)) = .ok d := by
  show (match L2.atI xs ((k : Nat) : Int) with | some d => Res.ok d | none => .bad) = _
  rw [L2.atI_nat h]
theorem ix_lst {xs : List D} {k : Nat} {d : D} (h : xs[k]? = some d) : dIx (.lst xs) (.int (k : Nat)) = .ok d := by
  show (match L2.atI xs ((k : Nat) : Int) with | some d => Res.ok d | none => .bad) = _
  rw [L2.atI_nat h]
theorem add_tup {a b : List D} (h : a.length + b.length ≤ 100000) : dAdd (.tup a) (.tup b) = .ok (.tup (a ++ b)) := by
  show (if a.length + b.length ≤ 100000 then _ else _) = _
  rw [if_pos h]
theorem cut_to {xs : List D} {k : Nat} (h : k ≤ xs.length) : dCut (.tup xs) none (some (k : Nat)) = .ok (.tup (xs.take k)) := by
  show Res.ok (D.tup (cutD xs none (some ((k : Nat) : Int)))) = _
  unfold cutD
  rw [HT.sIx_none, HT.sIx_nat, List.drop_zero, Nat.min_eq_left h, Nat.sub_zero]
theorem cut_from {xs : List D} {k : Nat} (h : k ≤ xs.length) : dCut (.tup xs) (some (k : Nat)) none = .ok (.tup (xs.drop k)) := by
  show Res.ok (D.tup (cutD xs (some ((k : Nat) : Int)) none)) = _
  unfold cutD
  rw [HT.sIx_none, HT.sIx_nat, Nat.min_eq_left h, List.take_of_length_le (by rw [List.length_drop]; exact Nat.le_refl _)]
theorem lcF_of {α : Type} {fg : FG} {ft : FT} {fe : FE} {c : α → D} {bb : α → Bool} {f : α → D} : ∀ l : List α, (∀ x ∈ l, ∃ r1, fg (c x) r = .ok r1 ∧ ft r1 = .ok (bb x) ∧ (bb x = true → fe r1 = .ok (f x))) → lcF fg ft fe r (l.map c) = .ok ((l.filter bb).map f)
  | [], _ => rfl
  | d :: ds, h => by
    obtain ⟨r1, e1, e2, e3⟩ := h d List.mem_cons_self
    have ih := lcF_of ds fun x hx => h x (List.mem_cons_of_mem _ hx)
    show ((fg (c d) r).calm.bind fun r1 => (ft r1).calm.bind fun b => if b = true then (fe r1).calm.bind fun y => (lcF fg ft fe r (ds.map c)).bind fun ys => .ok (y :: ys) else lcF fg ft fe r (ds.map c)) = _
    rw [e1, ih]
    show ((ft r1).calm.bind fun b => if b = true then (fe r1).calm.bind fun y => .ok (y :: (ds.filter bb).map f) else .ok ((ds.filter bb).map f)) = _
    rw [e2]
    cases hb : bb d with
    | false =>
      rw [List.filter_cons_of_neg (by rw [hb]; exact Bool.false_ne_true)]; rfl
    | true =>
      rw [List.filter_cons_of_pos hb, List.map_cons]
      show ((fe r1).calm.bind fun y => .ok (y :: (ds.filter bb).map f)) = _
      rw [e3 hb]; rfl
/-- a comprehension over plain things -/
theorem plc_of {α : Type} {fi : FI} {fg : FG} {ft : FT} {fe : FE} {vs : List Nat} {l : List α} {c : α → D} {bb : α → Bool} {f : α → D} (hfi : fi r = .ok (l.map c)) (hl : l.length ≤ 100000) (h : ∀ x ∈ l, ∃ r1, fg (c x) (wipeE r vs) = .ok r1 ∧ ft r1 = .ok (bb x) ∧ (bb x = true → fe r1 = .ok (f x))) : fLc fi fg ft fe vs r = .ok (.lst ((l.filter bb).map f)) := by
  unfold fLc
  rw [hfi]
  show (if (l.map c).length ≤ 100000 then _ else _) = _
  rw [if_pos (by rw [List.length_map]; exact hl), lcF_of l h]
theorem plc_all {α : Type} {fi : FI} {fg : FG} {fe : FE} {vs : List Nat} {l : List α} {c : α → D} {f : α → D} (hfi : fi r = .ok (l.map c)) (hl : l.length ≤ 100000) (h : ∀ x ∈ l, ∃ r1, fg (c x) (wipeE r vs) = .ok r1 ∧ fe r1 = .ok (f x)) : fLc fi fg fYes fe vs r = .ok (.lst (l.map f)) := by
  have := plc_of (r := r) (fi := fi) (fg := fg) (ft := fYes) (fe := fe) (vs := vs) (bb := fun _ => true) (f := f) hfi hl fun d hd => by
    obtain ⟨r1, e1, e2⟩ := h d hd
    exact ⟨r1, e1, rfl, fun _ => e2⟩
  rw [List.filter_eq_self.mpr (fun _ _ => rfl)] at this
  exact this
theorem zipD_map {α β : Type} (ca : α → D) (cb : β → D) : ∀ (a : List α) (b : List β), zipD (a.map ca) (b.map cb) = (a.zip b).map fun p => D.par [ca p.1, cb p.2]
  | [], _ => rfl
  | _ :: _, [] => rfl
  | x :: a, y :: b => by
    have ih := zipD_map ca cb a b
    unfold zipD at ih ⊢
    rw [List.map_cons, List.map_cons, List.zipWith_cons_cons, ih, List.zip_cons_cons, List.map_cons]
theorem tst_ne {x y : D} (e1 : fa r = .ok x) (e2 : fb r = .ok y) (h : dNe x y = .ok (.bl b)) : fTest (fOp dNe fa fb) r = .ok b := test_ok (by rw [op_ok e1 e2, h])
theorem tst_eq {x y : D} (e1 : fa r = .ok x) (e2 : fb r = .ok y) (h : dEq x y = .ok (.bl b)) : fTest (fOp dEq fa fb) r = .ok b := test_ok (by rw [op_ok e1 e2, h])
theorem tst_isnot {x y : D} (e1 : fa r = .ok x) (e2 : fb r = .ok y) (h : dIsNot x y = .ok (.bl b)) : fTest (fOp dIsNot fa fb) r = .ok b := test_ok (by rw [op_ok e1 e2, h])
end
end FW
/-! Readings of what is one's own, whose answer is kept; stores into it; moves. -/
namespace FW
open PySem PySem.Spec PyProof.Rows L2
mutual
def D.hsh : D → Bool
  | .non => true
  | .bl _ => true
  | .int _ => true
  | .str _ => true
  | .tup ds => D.hshs ds
  | .par ds => D.hshs ds
  | .lst _ => false
  | .dct _ => false
  | .dice => false
  | .dtt _ => false
  | .dtf _ => false
def D.hshs : List D → Bool
  | [] => true
  | d :: ds => D.hsh d && D.hshs ds
end
section
variable {g : Gd} {J K : Hp}
mutual
theorem DR.less (hs : ∀ a o, J a = some o → Chg o = false → K a = some o) : ∀ {v : V} {d : D}, DR g J v d → d.hsh = true → DR g K v d
  | _, _, .non, _ => .non
  | _, _, .bl b, _ => .bl b
  | _, _, .int i, _ => .int i
  | _, _, .str x, _ => .str x
  | _, _, .tup h u t, e => .tup (hs _ _ h (by rcases u with ⟨u, _⟩ | ⟨o, _, u⟩ <;> (rw [u]; rfl))) u (DRs.less hs t (by rw [D.hsh] at e; exact e))
  | _, _, .par h t, e => .par (hs _ _ h rfl) (DRs.less hs t (by rw [D.hsh] at e; exact e))
  | _, _, .lst _ _, e => by rw [D.hsh] at e; cases e
  | _, _, .dK _ _, e => by rw [D.hsh] at e; cases e
  | _, _, .dT _ _, e => by rw [D.hsh] at e; cases e
  | _, _, .dF _ _, e => by rw [D.hsh] at e; cases e
  | _, _, .dice, e => by rw [D.hsh] at e; cases e
theorem DRs.less (hs : ∀ a o, J a = some o → Chg o = false → K a = some o) : ∀ {v : List V} {d : List D}, DRs g J v d → D.hshs d = true → DRs g K v d
  | _, _, .nil, _ => .nil
  | _, _, .cons h t, e => by
    rw [D.hshs] at e
    obtain ⟨e1, e2⟩ := Bool.and_eq_true_iff.mp e
    exact .cons (DR.less hs h e1) (DRs.less hs t e2)
end
end
section
variable {g : Gd} {I0 H0 I H I' H' : Hp} {r : Env2} {σ : L2.St}
open Classical in
noncomputable def lessI (J : Hp) (r : Env2) (σ : L2.St) : Hp := fun a => if ∃ (i : Nat) (d : D), r[i]? = some (Sl.own d) ∧ σ[i]? = some (some (V.ref a)) then none else J a
/-- behind an expression that saw what is one's own: the region without it -/
theorem SRI.less {J' : Hp} (x : SRI g I0 H0 I r σ H) (s : Stp g (plusI I H r σ) H J' H') : ∃ I2, SRI g I0 H0 I2 r σ H' ∧ Sub I I2 ∧ ∀ a o, J' a = some o → Chg o = false → I2 a = some o := by
  obtain ⟨sb, st, er⟩ := x.plus
  have ow : ∀ a, (∃ (i : Nat) (d : D), r[i]? = some (Sl.own d) ∧ σ[i]? = some (some (V.ref a))) → NT H0 a ∧ a ≠ g.dz ∧ I a = none ∧ ∃ o, J' a = some o ∧ Chg o = true := fun a ⟨i, d, h1, h2⟩ => by
    obtain ⟨p, o, q1, q2, q3, q4, q5, q6⟩ := x.own i d h1
    rw [h2] at q1; cases q1
    refine ⟨q2, q3, q4, o, s.mono _ _ ?_, q6.chg⟩
    unfold plusI
    rw [if_pos ⟨i, d, h1, h2⟩]
    exact q5
  have sub : Sub I (lessI J' r σ) := fun a o h => by
    unfold lessI
    rw [if_neg fun z => by rw [(ow a z).2.2.1] at h; cases h]
    exact s.mono _ _ (sb _ _ h)
  have inn : ∀ a o, lessI J' r σ a = some o → J' a = some o := fun a o h => by
    unfold lessI at h
    split at h
    · cases h
    · exact h
  refine ⟨lessI J' r σ, ⟨⟨x.stp.mono.trans sub, fun a o h => ?_, fun a o h1 h2 h3 => s.keep a o h1 h2 (x.stp.keep a o h1 h2 h3), ⟨fun a o h => s.rl.sub _ _ (inn a o h), ?_, s.rl.dice, s.rl.tab, fun a ps h => s.rl.nt a ps (inn _ _ h)⟩⟩, x.len, fun i d h => ?_, fun i d h => ?_, x.inj⟩, sub, fun a o h c => ?_⟩
  · unfold lessI at h
    split at h
    · cases h
    · rename_i z
      rcases s.new a o h with q | q
      · unfold plusI at q
        rw [if_neg z] at q
        exact x.stp.new a o q
      · exact .inr (x.stp.backW q)
  · unfold lessI
    split
    · rfl
    · exact s.rl.dz
  · obtain ⟨v, h1, h2⟩ := x.val i d h
    exact ⟨v, h1, h2.mono sub⟩
  · obtain ⟨p, o, h1, h2, h3, h4, h5, h6⟩ := x.own i d h
    refine ⟨p, o, h1, h2, h3, ?_, s.keep p o h3 (chg_tbl h6.chg) h5, h6.mono sub⟩
    unfold lessI
    rw [if_pos ⟨i, d, h, h1⟩]
  · unfold lessI
    rw [if_neg fun z => ?_]
    · exact h
    · obtain ⟨_, _, _, o', e1, e2⟩ := ow a z
      rw [h] at e1; cases e1
      rw [c] at e2; cases e2
/-- what is one's own is so no more: it stays as it is -/
theorem SRI.freeze (x : SRI g I0 H0 I r σ H) {j : Nat} {d : D} (hr : r[j]? = some (Sl.own d)) : ∃ I' v, σ[j]? = some (some v) ∧ DR g I' v d ∧ SRI g I0 H0 I' (r.set j (.val d)) σ H := by
  obtain ⟨p, o, q1, q2, q3, q4, q5, q6⟩ := x.own j d hr
  have hj : j < r.length := (List.getElem?_eq_some_iff.mp hr).1
  have sb : Sub I (upd I p o) := fun a u z => by rw [upd_ne (ne_of_none z q4)]; exact z
  have dr : DR g (upd I p o) (.ref p) d := (q6.mono sb).dr upd_same
  refine ⟨upd I p o, .ref p, q1, dr, ⟨x.stp.take q2 q3 q4 q5 (chg_tbl q6.chg), by rw [List.length_set]; exact x.len, fun i c hc => ?_, fun i c hc => ?_, fun i k c e q h1 h2 h3 h4 => ?_⟩⟩
  · by_cases e : i = j
    · subst e
      rw [List.getElem?_set_self hj] at hc
      cases hc
      exact ⟨_, q1, dr⟩
    · rw [List.getElem?_set_ne (Ne.symm e)] at hc
      obtain ⟨v, z1, z2⟩ := x.val i c hc
      exact ⟨v, z1, z2.mono sb⟩
  · by_cases e : i = j
    · subst e
      rw [List.getElem?_set_self hj] at hc; cases hc
    · rw [List.getElem?_set_ne (Ne.symm e)] at hc
      obtain ⟨p', o', z1, z2, z3, z4, z5, z6⟩ := x.own i c hc
      refine ⟨p', o', z1, z2, z3, ?_, z5, z6.mono sb⟩
      rw [upd_ne fun ee => e (x.inj i j c d p hc hr (by rw [← ee]; exact z1) q1)]
      exact z4
  · have back : ∀ {m : Nat} {f : D}, (r.set j (Sl.val d))[m]? = some (Sl.own f) → r[m]? = some (Sl.own f) := fun {m f} h => by
      by_cases hm : m = j
      · subst hm; rw [List.getElem?_set_self hj] at h; cases h
      · rw [List.getElem?_set_ne (Ne.symm hm)] at h; exact h
    exact x.inj i k c e q (back h1) (back h2) h3 h4
/-- a name is given up -/
theorem SRI.drop (x : SRI g I0 H0 I r σ H) (j : Nat) : SRI g I0 H0 I (r.set j .un) σ H := by
  have back : ∀ {m : Nat} {s : Sl}, s ≠ .un → (r.set j Sl.un)[m]? = some s → m ≠ j ∧ r[m]? = some s := fun {m s} hs h => by
    by_cases hm : m = j
    · subst hm
      by_cases hl : m < r.length
      · rw [List.getElem?_set_self hl] at h; cases h; exact absurd rfl hs
      · rw [List.getElem?_eq_none (by rw [List.length_set]; omega)] at h; cases h
    · rw [List.getElem?_set_ne (Ne.symm hm)] at h; exact ⟨hm, h⟩
  exact ⟨x.stp, by rw [List.length_set]; exact x.len, fun i c hc => x.val i c (back (by intro z; cases z) hc).2, fun i c hc => x.own i c (back (by intro z; cases z) hc).2,
    fun i k c e q h1 h2 h3 h4 => x.inj i k c e q (back (by intro z; cases z) h1).2 (back (by intro z; cases z) h2).2 h3 h4⟩
end
/-! ### statements -/
/-- x[y] = d -/
def putAny (x y d : D) : Option D := match x, y with
  | .lst ds, .int n => (ixN ds.length n).map fun j => .lst (ds.set j d)
  | .dct kvs, y => match keyOf y with
    | some k => if kvs.length < 100000 then some (.dct (putD kvs k d)) else none
    | none => none
  | _, _ => none
def wsPut (i : Nat) (wk wv : WE) : WS := ⟨fun r k => ∃ x, r[i]? = some (Sl.own x) ∧ wv.run (allv r) (fun d => d.hsh = true ∧ wk.run (allv r) (fun y => y.hsh = true ∧ ∃ x', putAny x y d = some x' ∧ k.nx (r.set i (Sl.own x'))) k.ex) k.ex,
  fun h ⟨x, e, q⟩ => ⟨x, e, wv.mono (fun _ ⟨z1, z2⟩ => ⟨z1, wk.mono (fun _ ⟨y1, x', y3, y4⟩ => ⟨y1, x', y3, h.nx _ y4⟩) h.ex z2⟩) h.ex q⟩⟩
def wsMove (i j : Nat) : WS := ⟨fun r k => i < r.length ∧ ∃ d, r[j]? = some (Sl.own d) ∧ k.nx ((r.set j Sl.un).set i (Sl.own d)), fun h ⟨q1, d, q2, q3⟩ => ⟨q1, d, q2, h.nx _ q3⟩⟩
def wsFreeze (i j : Nat) : WS := ⟨fun r k => i < r.length ∧ ∃ d, r[j]? = some (Sl.own d) ∧ k.nx ((r.set j (Sl.val d)).set i (Sl.val d)), fun h ⟨q1, d, q2, q3⟩ => ⟨q1, d, q2, h.nx _ q3⟩⟩
section
variable {X : Cx} {g : Gd} {E : XK} {st : Stmt} {e e2 : Expr} {w wk wv : WE} {pos : Pos} {k : Nat}
theorem SR.readH {I0 H0 : Hp} {r : Env2} {σ : L2.St} {H : Hp} {Q : VK} {Qd : D → Prop} {I : Hp} (x : SRI g I0 H0 I r σ H) (h : w.run (allv r) (fun d => d.hsh = true ∧ Qd d) (excW g X.mg E I0 H0)) (k : ∀ d v I' H', Qd d → SRI g I0 H0 I' r σ H' → Sub I I' → DR g I' v d → Q v H') : tW g X.mg E w σ H Q := by
  obtain ⟨sb, st, er⟩ := x.plus
  refine ⟨_, allv r, st.rl, er, w.mono (fun d z v I' H' s y => ?_) (fun c z => excW.step st z) h⟩
  obtain ⟨I2, x2, s2, le⟩ := x.less s
  exact k d v I2 H' z.2 x2 s2 (y.less le z.1)
theorem pset_or {t u : TSet} (h1 : PSet X t) (h2 : PSet X u) : PSet X (fun o i v H Q => t o i v H Q ∨ u o i v H Q) := by
  intro pins s σ H o i v ov iv uu Q I ro ri rv h
  rcases h with h | h
  · exact h1 pins s σ H o i v ov iv uu Q I ro ri rv h
  · exact h2 pins s σ H o i v ov iv uu Q I ro ri rv h
/-- x[k] = v, x one's own -/
theorem s_put (i : Nat) {x : Str} {px ps : Pos} {ek ev : Expr} (hu : X.A.units + 1 < cLine) (hk : PE X ek (tW g X.mg E wk)) (hv : PE X ev (tW g X.mg E wv)) (hN : X.N[i]? = some x := by rfl) (hvis : Vis X.env.scope x := by first | exact Or.inl rfl | exact Or.inr (Or.inl rfl) | exact Or.inr (Or.inr rfl)) (hd : (x == ("__debug__" : Str)) = false := by decide) (hcd : (x == ("__classdict__" : Str)) = false := by decide)
    (ha : ∀ v, assign (.Subscript (.Name x px) ek ps) X.env v = (do
      let ov ← holding [v] (eval (.Name x px) X.env)
      let iv ← holding [v, ov] (eval ek X.env)
      standAt ps
      holding [v, ov, iv] (setItem ov iv v)
      release [v, ov, iv] []) := by intro _; rfl)
    (hs : swapsWithSole [.Subscript (.Name x px) ek ps] ev pos.line X.env = pure false := by rfl) (hw : swappedStores [.Subscript (.Name x px) ek ps] ev X.env = pure none := by rfl) (h1 : (assignEach [.Subscript (.Name x px) ek ps] X.env).map (·.2) = [assign (.Subscript (.Name x px) ek ps) X.env] := by rfl) :
    PS X (.Assign [.Subscript (.Name x px) ek ps] ev pos) (tWS g X.mg E (wsPut i wk wv)) :=
  (ps_asg hv (pg_sub (pv i hN hvis hd hcd) hk (pset_or set_list (set_dict hu)) ha) hs hw h1).imp fun D σ H h => by
    obtain ⟨I0, H0, r, ⟨I, x⟩, x0, hr, h⟩ := h
    refine SR.readH x h fun d v I1 H1 z x1 s1 y1 => ?_
    obtain ⟨p, o, q1, qq⟩ := x1.own i _ hr
    clear qq
    refine ⟨.ref p, q1, SR.readH x1 z fun y u I2 H2 z2 x2 s2 y2 => ?_⟩
    obtain ⟨x', e', z2⟩ := z2
    obtain ⟨p', o', r1, r2, r3, r4, r5, r6⟩ := x2.own i _ hr
    have ep : p' = p := by rw [q1] at r1; cases r1; rfl
    subst ep
    unfold putAny at e'
    split at e'
    · rename_i ds n
      cases o' with
      | lst vs =>
        have rv : DRs g I2 vs ds := r6
        obtain ⟨j, hj, rfl⟩ := Option.map_eq_some_iff.mp e'
        cases y2
        exact .inl ⟨p', vs, n, j, rfl, rfl, r5, by rw [rv.len]; exact hj, z2 _ _ ⟨I2, x2.put hr q1 (show DRs g I2 (vs.set j v) (ds.set j d) from rv.set j (y1.mono s2))⟩⟩
      | _ => exact (show False from r6).elim
    · rename_i kvs
      cases o' with
      | dK es =>
        have rv : DRk g I2 es kvs := r6
        cases ek : keyOf y with
        | none => rw [ek] at e'; cases e'
        | some k' =>
          rw [ek] at e'
          dsimp only at e'
          split at e'
          · rename_i hl
            cases e'
            rw [keyOf_v ek y2]
            exact .inr ⟨p', _, rfl, DPut.k r5 (by rw [rv.len]; exact Nat.lt_of_lt_of_le hl (by decide)), z2 _ _ ⟨I2, x2.put hr q1 (show DRk g I2 (putK es k' v) (putD kvs k' d) from rv.put (y1.mono s2))⟩⟩
          · cases e'
      | _ => exact (show False from r6).elim
    · cases e'
/-- x = y, both change -/
theorem s_move (i j : Nat) {x y : Str} {py pos' : Pos} (hN : X.N.Nodup) (hij : i ≠ j := by decide) (hj : X.N[j]? = some y := by rfl) (hv : Vis X.env.scope y := by first | exact Or.inl rfl | exact Or.inr (Or.inl rfl) | exact Or.inr (Or.inr rfl)) (hd : (y == ("__debug__" : Str)) = false := by decide) (hcd : (y == ("__classdict__" : Str)) = false := by decide)
    (hi : X.N[i]? = some x := by rfl) (hx : Loc X.env.scope x := by first | exact Or.inl rfl | exact Or.inr rfl) (hs : swapsWith (.Name y py) (some (.Name x pos')) pos.line X.env = pure false := by rfl) (hf : X.fn x = true ∨ X.env.scope.names.lookup x = some .local := by first | exact .inl rfl | exact .inr rfl | assumption) :
    PS X (.Assign [.Name x pos'] (.Name y py) pos) (tWS g X.mg E (wsMove i j)) := (ps_set (i := i) hN hi hx (pv j hj hv hd hcd) hs hf).imp fun D σ H h => by
  obtain ⟨I0, H0, r, ⟨I, x⟩, hl, d, hr, h⟩ := h
  obtain ⟨p, o, q1, q2, q3, q4, q5, q6⟩ := x.own j _ hr
  refine ⟨.ref p, q1, h _ _ ⟨I, (x.drop j).setO (by rw [List.length_set]; exact hl) q2 q3 q4 q5 q6 fun m e hm hs => ?_⟩⟩
  by_cases em : m = j
  · subst em
    rw [List.getElem?_set_self ((List.getElem?_eq_some_iff.mp hr).1)] at hm; cases hm
  · rw [List.getElem?_set_ne (Ne.symm em)] at hm
    exact em (x.inj m j e d p hm hr hs q1)
/-- x = y, y changes no more -/
theorem s_freeze (i j : Nat) {x y : Str} {py pos' : Pos} (hN : X.N.Nodup) (hj : X.N[j]? = some y := by rfl) (hv : Vis X.env.scope y := by first | exact Or.inl rfl | exact Or.inr (Or.inl rfl) | exact Or.inr (Or.inr rfl)) (hd : (y == ("__debug__" : Str)) = false := by decide) (hcd : (y == ("__classdict__" : Str)) = false := by decide)
    (hi : X.N[i]? = some x := by rfl) (hx : Loc X.env.scope x := by first | exact Or.inl rfl | exact Or.inr rfl) (hs : swapsWith (.Name y py) (some (.Name x pos')) pos.line X.env = pure false := by rfl) (hf : X.fn x = true ∨ X.env.scope.names.lookup x = some .local := by first | exact .inl rfl | exact .inr rfl | assumption) :
    PS X (.Assign [.Name x pos'] (.Name y py) pos) (tWS g X.mg E (wsFreeze i j)) := (ps_set (i := i) hN hi hx (pv j hj hv hd hcd) hs hf).imp fun D σ H h => by
  obtain ⟨I0, H0, r, ⟨I, x⟩, hl, d, hr, h⟩ := h
  obtain ⟨I', v, e1, e2, x'⟩ := x.freeze hr
  exact ⟨v, e1, h _ _ ⟨I', x'.setV (by rw [List.length_set]; exact hl) e2⟩⟩
end
/-! ### by functions -/
def fsPut (i : Nat) (fk fv : FE) : FS := fun r => match r[i]? with
  | some (.own x) => (fv (allv r)).bind fun d => if d.hsh = true then (fk (allv r)).bind fun y => if y.hsh = true then (match putAny x y d with
    | some x' => .ok (.nx (r.set i (.own x')))
    | none => .bad) else .bad else .bad
  | _ => .bad
def fsMove (i j : Nat) : FS := fun r => if i < r.length then (match r[j]? with
  | some (.own d) => .ok (.nx ((r.set j .un).set i (.own d)))
  | _ => .bad) else .bad
def fsFreeze (i j : Nat) : FS := fun r => if i < r.length then (match r[j]? with
  | some (.own d) => .ok (.nx ((r.set j (.val d)).set i (.val d)))
  | _ => .bad) else .bad
theorem imp_put {i : Nat} {fk fv : FE} : ImpS (fsPut i fk fv) (wsPut i (wOf fk) (wOf fv)) := fun r k q => by
  unfold fsPut at q
  split at q
  · rename_i x e
    refine ⟨x, e, resW.mono (fun d z => ?_) (fun _ z => z) (resW_bind q)⟩
    split at z
    · rename_i h
      refine ⟨h, resW.mono (fun y z => ?_) (fun _ z => z) (resW_bind z)⟩
      split at z
      · rename_i h2
        refine ⟨h2, ?_⟩
        split at z
        · rename_i x' e2; exact ⟨x', e2, z⟩
        · exact z.elim
      · exact z.elim
    · exact z.elim
  · exact q.elim
theorem imp_move {i j : Nat} : ImpS (fsMove i j) (wsMove i j) := fun r k q => by
  unfold fsMove at q
  split at q
  · rename_i c
    split at q
    · rename_i d e; exact ⟨c, d, e, q⟩
    · exact q.elim
  · exact q.elim
theorem imp_freeze {i j : Nat} : ImpS (fsFreeze i j) (wsFreeze i j) := fun r k q => by
  unfold fsFreeze at q
  split at q
  · rename_i c
    split at q
    · rename_i d e; exact ⟨c, d, e, q⟩
    · exact q.elim
  · exact q.elim
end FW
/-! Dicts read, asked, made by a comprehension; texts split, joined, formatted. -/
namespace FW
open PySem PySem.Spec PyProof.Rows L2
theorem _root_.L2.PE.either {X : Cx} {e : Expr} {t u : TE} (h : PE X e t) (k : PE X e u) : PE X e (fun σ H Q => t σ H Q ∨ u σ H Q) := ⟨fun pins s σ H Q I q => by
  rcases q with q | q
  · exact h.run pins s σ H Q I q
  · exact k.run pins s σ H Q I q⟩
section
variable {X : Cx} {g : Gd} {E : XK} {a b e o : Expr} {es : List Expr} {fa fb : FE} {kk : FA} {p pos apos : Pos} {k : Nat}
/-! ### d[k] -/
def dIxX (x y : D) : Res D := match x with
  | .dct kvs => match keyOf y with
    | some k => match valD kvs k with
      | some d => .ok d
      | none => .bad
    | none => .bad
  | x => dIx x y
theorem e_ixX (hr : Room k X.A) (ha : PE X a (tF g X.mg E fa)) (hb : PE X b (tF g X.mg E fb)) (hs : PlainIx b := by exact fun _ _ => rfl) : PE X (.Subscript a b pos) (tF g X.mg E (fOp dIxX fa fb)) :=
  ((pe_ix ix_seq ha hb hs).either (pe_dget (Nat.lt_of_le_of_lt (Nat.add_le_add_left (by decide) _) hr.units) ha hb hs)).imp fun σ H Q h => by
    obtain ⟨I, r, rl, er, h⟩ := h
    have left : fOp dIxX fa fb r = fOp dIx fa fb r → (tOp (rIx X.K) (tF g X.mg E fa) (tF g X.mg E fb) σ H Q ∨ tDGet (tF g X.mg E fa) (tF g X.mg E fb) σ H Q) := fun e => .inl (tOp_of od_ix ⟨I, r, rl, er, by rw [← e]; exact h⟩)
    cases ex : fa r with
    | bad => unfold fOp at h; rw [ex] at h; exact h.elim
    | exc c => exact left (by unfold fOp; rw [ex])
    | ok x =>
      cases x with
      | dct kvs =>
        refine .inr ⟨I, r, rl, er, Pst.first h fun d v I1 H1 ed s1 x1 h1 => ?_⟩
        rw [ex] at ed
        cases ed
        refine ⟨I1, r, s1.rl, er.mono s1.mono, Pst.first h1 fun y u I2 H2 _ s2 x2 h2 => ?_⟩
        cases ek : keyOf y with
        | none =>
          have : dIxX (.dct kvs) y = .bad := by show (match keyOf y with | some k => _ | none => _) = _; rw [ek]
          rw [this] at h2; exact h2.elim
        | some k' =>
          have e3 : dIxX (.dct kvs) y = (match valD kvs k' with | some d => .ok d | none => .bad) := by show (match keyOf y with | some k => _ | none => _) = _; rw [ek]
          rw [e3] at h2
          rw [keyOf_v ek x2]
          have x1' := x1.mono s2.mono
          cases x1' with
          | dK hx rx =>
            rename_i es
            rcases rx.val k' with ⟨e1, e2⟩ | ⟨v', d', e1, e2, e3⟩
            · rw [e2] at h2; exact h2.elim
            · rw [e2] at h2
              have gd : DGet H2 _ (kV k') (valV es k') := .inl ⟨_, _, s2.rl.sub.rd hx, rfl, rfl⟩
              rw [e1] at gd
              exact ⟨_, v', rfl, gd, h2.here s2.rl e3⟩
      | _ => exact left (by unfold fOp; rw [ex]; rfl)
/-! ### k in d -/
theorem or_notinDict (hu : X.A.units + 1 < cLine) : OpR X (compareOp .NotIn) (fun x y H Q => ∃ a o, y = .ref a ∧ DGet H a x o ∧ Q (.bl (!o.isSome)) H) := by
  intro pins s σ H x y v u Q I rx ry h
  obtain ⟨a, o, rfl, gd, q⟩ := h
  cases ry
  exact d_notIn hu I gd rx fun s' I' => ⟨.bl (!o.isSome), H, I', rfl, q⟩
/-! ### texts -/
/-! ### f'..' -/
end
end FW
/-! Dicts of one's own by a comprehension; lists of one's own by *, list(). -/
namespace FW
open PySem PySem.Spec PyProof.Rows L2
def endOD (g : Gd) (I H : Hp) (Q : VK) : D → Prop := fun d => ∀ p I' H', Stp g I H I' H' → NT H p → p ≠ g.dz → I' p = none → (∀ kvs, d = .dct kvs → ∃ es, H' p = some (.dK es) ∧ DRk g I' es kvs) → Q (.ref p) H'
def tOD (g : Gd) (mg : Str → Option Value) (E : XK) (w : WE) : TE := fun σ H Q => ∃ I r, Rl g I H ∧ ER g I σ r ∧ w.run r (fun d => (∃ kvs, d = .dct kvs) ∧ endOD g I H Q d) (excW g mg E I H)
section
variable {X : Cx} {g : Gd} {E : XK}
def wsSetOD (i : Nat) (w : WE) : WS := ⟨fun r k => i < r.length ∧ w.run (plain r) (fun d => (∃ kvs, d = .dct kvs) ∧ k.nx (r.set i (Sl.own d))) k.ex, fun h q => ⟨q.1, w.mono (fun _ z => ⟨z.1, h.nx _ z.2⟩) h.ex q.2⟩⟩
theorem SR.readOD {w : WE} {I0 H0 : Hp} {r : Env2} {σ : L2.St} {H : Hp} {Q : VK} {Qd : D → Prop} (x : SR g I0 H0 r σ H) (h : w.run (plain r) (fun d => (∃ kvs, d = .dct kvs) ∧ Qd d) (excW g X.mg E I0 H0))
    (k : ∀ kvs p es I' H', Qd (.dct kvs) → SRI g I0 H0 I' r σ H' → NT H0 p → p ≠ g.dz → I' p = none → H' p = some (.dK es) → DRk g I' es kvs → (∀ (j : Nat) (e : D), r[j]? = some (Sl.own e) → σ[j]? ≠ some (some (.ref p))) → Q (.ref p) H') : tOD g X.mg E w σ H Q := by
  obtain ⟨I, x⟩ := x
  refine ⟨I, plain r, x.stp.rl, x.er, w.mono (fun d z => ⟨z.1, fun p I' H' s n nz hI hd => ?_⟩) (fun c z => excW.step x.stp z) h⟩
  obtain ⟨⟨ds, rfl⟩, z⟩ := z
  obtain ⟨vs, h1, h2⟩ := hd ds rfl
  refine k ds p vs I' H' z (x.go s) (x.stp.back n) nz hI h1 h2 fun j e hj hs => ?_
  obtain ⟨p', o, q1, _, _, _, q5, q6⟩ := x.own j e hj
  rw [hs] at q1; cases q1
  exact n.none_of q5 (chg_tbl q6.chg)
theorem s_setOD (i : Nat) {w : WE} {e : Expr} {x : Str} {pos pos' : Pos} (hN : X.N.Nodup) (he : PE X e (tOD g X.mg E w)) (hi : X.N[i]? = some x := by rfl) (hx : Loc X.env.scope x := by first | exact Or.inl rfl | exact Or.inr rfl) (hs : swapsWith e (some (.Name x pos')) pos.line X.env = pure false := by rfl) (hf : X.fn x = true ∨ X.env.scope.names.lookup x = some .local := by first | exact .inl rfl | exact .inr rfl | assumption) :
    PS X (.Assign [.Name x pos'] e pos) (tWS g X.mg E (wsSetOD i w)) := (ps_set (i := i) hN hi hx he hs hf).imp fun D σ H h => by
  obtain ⟨I0, H0, r, x, hl, h⟩ := h
  exact x.readOD h fun ds p vs I' H' z x' n nz hI hp y fr => z _ _ ⟨I', x'.setO hl n nz hI hp y fr⟩
variable {kx vx tg iter : Expr} {ifs : List Expr} {scope : Scope} {own : List (Str × Nat)} {pos : Pos} {fi : FI} {fg : FG} {ft : FT} {fk fv : FE} {is : List Nat}
end
def fsSetOD (i : Nat) (f : FE) : FS := fun r => if i < r.length then (f (plain r)).bind fun d => match d with
  | .dct kvs => .ok (.nx (r.set i (.own (.dct kvs))))
  | _ => .bad else .bad
theorem imp_setOD {i : Nat} {f : FE} : ImpS (fsSetOD i f) (wsSetOD i (wOf f)) := fun r k q => by
  unfold fsSetOD at q
  split at q
  · rename_i c
    refine ⟨c, resW.mono (fun d z => ?_) (fun _ z => z) (resW_bind q)⟩
    cases d with
    | dct kvs => exact ⟨⟨kvs, rfl⟩, z⟩
    | _ => exact z.elim
  · exact q.elim
end FW
/-! dict(zip(x, y)), x and y lists or tuples. -/
namespace FW
open PySem PySem.Spec PyProof.Rows L2
section
variable {prog : Program} {w : World} {A : Around} {E : Value → Shared → Prop} {s : Shared} {z TI TO T i1 i2 : Addr} {fp1 fp2 : List Addr} {n1 n2 i : Nat} {P1 P2 : Nat → Value → Prop} {St1 St2 : Nat → Heap → Prop} {f : Bool} {oT : Obj}
/-- a zip's turn while the pair that it gave last is still held -/
theorem zH_item {Q : Value → Shared → Prop} (S : ZipSep2 z TI TO i1 i2 fp1 fp2) (D1 : Draws prog w A i1 fp1 n1 P1 St1) (D2 : Draws prog w A i2 fp2 n2 P2 St2) (hz : IsZipHeld s.heap z TI TO T f) (hT : s.heap.get? T = some oT) (hTI : IsTupOf2 s.heap TI (.ref i1) (.ref i2))
    (st1 : St1 i s.heap) (st2 : St2 i s.heap) (l1 : i < n1) (l2 : i < n2)
    (hQ : ∀ x1 x2 h' tk, P1 i x1 → P2 i x2 → IsZipHeld h' z TI TO T true → St1 (i + 1) h' → St2 (i + 1) h' → IsTupOf2 h' s.heap.objs.size x1 x2 → (∀ c o, c ≠ z → c ≠ i1 → c ≠ i2 → s.heap.get? c = some o → h'.get? c = some o) → Q (.ref s.heap.objs.size) { s with heap := h', toks := tk }) :
    wpAny (model prog w) A (Builtin.«zip.__next__» ⟨[.ref z], []⟩) (fun fin s' => ∃ v, fin = .done (.ret v) ∧ Q v s') E s := by
  obtain ⟨hp, gg, dd, tk0, os⟩ := s
  show wpAny _ _ (field (.ref z) 2 >>= _) _ _ _; refine wpAny_bind (wpAny_field hz rfl (x := .bool false) rfl ?_)
  show wpAny _ _ (field (.ref z) 3 >>= _) _ _ _; refine wpAny_bind (wpAny_field hz rfl (x := .ref TI) rfl ?_)
  refine wpAny_bind (wpAny_seqItems hTI rfl ?_); show wpAny _ _ (Builtin.SmallTypes.ownedTupleIsFree (.ref z) >>= _) _ _ _
  refine wpAny_bind (wpAny_tupleHeld_zip hz hT fun u0 zz0 k0 => ?_); replace k0 : Heap.SameBut z hp u0 := k0
  simp only [Bool.false_eq_true, if_false]; refine wpAny_bind ?_
  rw [← Array.forIn_toList]; simp only [List.forIn_cons, List.forIn_nil]
  refine wpAny_bind (wpAny_bind (wpAny_holding ?_)); show wpAny _ _ (Builtin.SmallTypes.nextOf (.ref i1) >>= _) _ _ ⟨u0, gg, dd, tk0, os⟩
  refine wpAny_bind (D1.item i _ _ _ l1 (D1.over st1 k0 S.zf1) fun x1 u1 tk1 hx1 sn1 k1 => wpAny_pure ?_); replace k1 : Heap.SameBut i1 u0 u1 := k1
  refine wpAny_pure ?_; refine wpAny_bind (wpAny_bind (wpAny_holding ?_))
  show wpAny _ _ (Builtin.SmallTypes.nextOf (.ref i2) >>= _) _ _ ⟨u1, gg, dd, tk1, os⟩
  refine wpAny_bind (D2.item i _ _ _ l2 (D2.over (D2.over st2 k0 S.zf2) k1 S.sep1_2) fun x2 u2 tk2 hx2 sn2 k2 => wpAny_pure ?_); replace k2 : Heap.SameBut i2 u1 u2 := k2
  refine wpAny_pure (wpAny_pure ?_); show wpAny _ _ (newTuple [x1, x2] >>= _) _ _ ⟨u2, gg, dd, tk2, os⟩
  refine wpAny_bind (wpAny_newTuple (wpAny_pure ⟨_, rfl, ?_⟩))
  have hsz : u2.objs.size = hp.objs.size := by rw [k2.1, k1.1, k0.1]
  show Q (.ref u2.objs.size) _
  have hpair : IsTupOf2 (u2.push { cls := .type "tuple", data := .seq #[x1, x2] }) u2.objs.size x1 x2 := Heap.get?_push_size _ rfl
  rw [hsz] at hpair ⊢
  refine hQ x1 x2 _ tk2 hx1 hx2 (Heap.get?_push_of_some _ (k2.extBut _ _ S.zi2 (k1.extBut _ _ S.zi1 zz0))) (D1.frame _ _ _ (D1.over sn1 k2 S.sep2_1) fun b _ o e => Heap.get?_push_of_some _ e) (D2.frame _ _ _ sn2 fun b _ o e => Heap.get?_push_of_some _ e) hpair fun c o c0 c1 c2 e => ?_
  exact Heap.get?_push_of_some _ (k2.extBut _ _ c2 (k1.extBut _ _ c1 (k0.extBut _ _ c0 e)))
theorem zH_end {Q : Fin → Shared → Prop} (S : ZipSep2 z TI TO i1 i2 fp1 fp2) (D1 : Draws prog w A i1 fp1 n1 P1 St1) (D2 : Draws prog w A i2 fp2 n2 P2 St2) (hz : IsZipHeld s.heap z TI TO T f) (hT : s.heap.get? T = some oT) (hTI : IsTupOf2 s.heap TI (.ref i1) (.ref i2))
    (st1 : St1 i s.heap) (st2 : St2 i s.heap) (l1 : i ≤ n1) (l2 : i ≤ n2) (hend : i = n1 ∨ i = n2)
    (hE : ∀ h' tk e, (∀ c o, c ≠ z → c ≠ i1 → c ≠ i2 → s.heap.get? c = some o → h'.get? c = some o) → (∃ o, h'.get? e = some o ∧ o.cls = .type "StopIteration") → E (.ref e) { s with heap := h', toks := tk }) :
    wpAny (model prog w) A (Builtin.«zip.__next__» ⟨[.ref z], []⟩) Q E s := by
  obtain ⟨hp, gg, dd, tk0, os⟩ := s
  show wpAny _ _ (field (.ref z) 2 >>= _) _ _ _; refine wpAny_bind (wpAny_field hz rfl (x := .bool false) rfl ?_)
  show wpAny _ _ (field (.ref z) 3 >>= _) _ _ _; refine wpAny_bind (wpAny_field hz rfl (x := .ref TI) rfl ?_)
  refine wpAny_bind (wpAny_seqItems hTI rfl ?_); show wpAny _ _ (Builtin.SmallTypes.ownedTupleIsFree (.ref z) >>= _) _ _ _
  refine wpAny_bind (wpAny_tupleHeld_zip hz hT fun u0 zz0 k0 => ?_); replace k0 : Heap.SameBut z hp u0 := k0
  simp only [Bool.false_eq_true, if_false]; refine wpAny_bind ?_
  rw [← Array.forIn_toList]; simp only [List.forIn_cons, List.forIn_nil]
  refine wpAny_bind (wpAny_bind (wpAny_holding ?_)); show wpAny _ _ (Builtin.SmallTypes.nextOf (.ref i1) >>= _) _ _ ⟨u0, gg, dd, tk0, os⟩
  by_cases hlt : i < n1
  · refine wpAny_bind (D1.item i _ _ _ hlt (D1.over st1 k0 S.zf1) fun x1 u1 tk1 hx1 sn1 k1 => wpAny_pure ?_); replace k1 : Heap.SameBut i1 u0 u1 := k1
    refine wpAny_pure ?_; refine wpAny_bind (wpAny_bind (wpAny_holding ?_))
    show wpAny _ _ (Builtin.SmallTypes.nextOf (.ref i2) >>= _) _ _ ⟨u1, gg, dd, tk1, os⟩
    have ei : i = n2 := by omega
    refine wpAny_bind (D2.done ⟨u1, gg, dd, tk1, os⟩ _ _ (by rw [← ei]; exact D2.over (D2.over st2 k0 S.zf2) k1 S.sep1_2) fun u2 e k2 he => ?_)
    exact hE u2 tk1 e (fun c o c0 c1 c2 q => k2 _ _ c2 (k1.extBut _ _ c1 (k0.extBut _ _ c0 q))) he
  · have ei : i = n1 := by omega
    refine wpAny_bind (D1.done ⟨u0, gg, dd, tk0, os⟩ _ _ (by rw [← ei]; exact D1.over st1 k0 S.zf1) fun u2 e k2 he => ?_)
    exact hE u2 tk0 e (fun c o c0 c1 _ q => k2 _ _ c1 (k0.extBut _ _ c0 q)) he
theorem zH_nextI {Q : Option Value → Shared → Prop} (S : ZipSep2 z TI TO i1 i2 fp1 fp2) (D1 : Draws prog w A.in1 i1 fp1 n1 P1 St1) (D2 : Draws prog w A.in1 i2 fp2 n2 P2 St2) (hz : IsZipHeld s.heap z TI TO T f) (hT : s.heap.get? T = some oT) (hTI : IsTupOf2 s.heap TI (.ref i1) (.ref i2))
    (st1 : St1 i s.heap) (st2 : St2 i s.heap) (l1 : i < n1) (l2 : i < n2)
    (hQ : ∀ x1 x2 h' tk, P1 i x1 → P2 i x2 → IsZipHeld h' z TI TO T true → St1 (i + 1) h' → St2 (i + 1) h' → IsTupOf2 h' s.heap.objs.size x1 x2 → (∀ c o, c ≠ z → c ≠ i1 → c ≠ i2 → s.heap.get? c = some o → h'.get? c = some o) → Q (some (.ref s.heap.objs.size)) { s with heap := h', toks := tk }) :
    wpAny (model prog w) A (pyNext (.ref z)) Q E s := by
  have ht : s.TypeIs (.ref z) "zip" := ⟨_, hz, rfl⟩
  unfold pyNext
  exact wpAny_bind (wpAny_attempt (wpAny_callSpecial?_slot (name := Str.ofString "__next__") ht F.slot_zip_next (wpAny_call_entry F.slot_zip_next ht F.entry_zip_next (zH_item S D1 D2 hz hT hTI st1 st2 l1 l2 fun x1 x2 h' tk b1 b2 b3 b4 b5 b6 b7 => wpAny_pure (hQ x1 x2 h' tk b1 b2 b3 b4 b5 b6 b7)) (F.args_zip_next_1 _))))
theorem zH_nextE {Q : Option Value → Shared → Prop} (S : ZipSep2 z TI TO i1 i2 fp1 fp2) (D1 : Draws prog w A.in1 i1 fp1 n1 P1 St1) (D2 : Draws prog w A.in1 i2 fp2 n2 P2 St2) (hz : IsZipHeld s.heap z TI TO T f) (hT : s.heap.get? T = some oT) (hTI : IsTupOf2 s.heap TI (.ref i1) (.ref i2))
    (st1 : St1 i s.heap) (st2 : St2 i s.heap) (l1 : i ≤ n1) (l2 : i ≤ n2) (hend : i = n1 ∨ i = n2)
    (hQ : ∀ h' tk, (∀ c o, c ≠ z → c ≠ i1 → c ≠ i2 → s.heap.get? c = some o → h'.get? c = some o) → Q none { s with heap := h', toks := tk }) : wpAny (model prog w) A (pyNext (.ref z)) Q E s := by
  have ht : s.TypeIs (.ref z) "zip" := ⟨_, hz, rfl⟩
  unfold pyNext
  refine wpAny_bind (wpAny_attempt (wpAny_callSpecial?_slot (name := Str.ofString "__next__") ht F.slot_zip_next (wpAny_call_entry F.slot_zip_next ht F.entry_zip_next (zH_end S D1 D2 hz hT hTI st1 st2 l1 l2 hend fun h' tk e hk he => ?_) (F.args_zip_next_1 _))))
  obtain ⟨o, ho, hc⟩ := he; refine wpAny_bind (wpAny_isInstance (T := "StopIteration") (b := true) ⟨o, ho, hc⟩ isSubtype_stop ?_)
  exact wpAny_pure (hQ _ _ hk)
/-- a zip of any two walks as the pairs of a dict -/
theorem pairs_zip (S : ZipSep2 z TI TO i1 i2 fp1 fp2) (D1 : ∀ A : Around, A.handled = none → Draws prog w A i1 fp1 n1 P1 St1) (D2 : ∀ A : Around, A.handled = none → Draws prog w A i2 fp2 n2 P2 St2) (t1 : ∀ h, St1 0 h → ∀ b ∈ fp1, ∃ o, h.get? b = some o) (t2 : ∀ h, St2 0 h → ∀ b ∈ fp2, ∃ o, h.get? b = some o) (A0 : Around) (hA0 : A0.handled = none) :
    PairArg prog w "zip" z (z :: TI :: TO :: (fp1 ++ fp2)) [z, TO, i1, i2] (min n1 n2) (fun i k v => P1 i k ∧ P2 i v) (fun h => IsZip h z TI TO .none ∧ IsTupOf2 h TI (.ref i1) (.ref i2) ∧ (∃ a1 a2, IsTupOf2 h TO a1 a2) ∧ St1 0 h ∧ St2 0 h) where
  type := fun s ok => ⟨_, ok.1, rfl⟩
  notDict := by decide
  keep := fun h h' ⟨q1, q2, ⟨a1, a2, q3⟩, q4, q5⟩ k => ⟨k _ _ q1, k _ _ q2, ⟨a1, a2, k _ _ q3⟩, (D1 A0 hA0).frame _ _ _ q4 fun b _ o e => k b o e, (D2 A0 hA0).frame _ _ _ q5 fun b _ o e => k b o e⟩
  there := fun h ⟨q1, q2, ⟨a1, a2, q3⟩, q4, q5⟩ b hb => by
    simp only [List.mem_cons, List.mem_append] at hb
    rcases hb with rfl | rfl | rfl | hb | hb
    · exact ⟨_, q1⟩
    · exact ⟨_, q2⟩
    · exact ⟨_, q3⟩
    · exact t1 h q4 b hb
    · exact t2 h q5 b hb
  sub := fun b hb => by
    have m1 := S.mem1; have m2 := S.mem2
    simp only [List.mem_cons, List.not_mem_nil, or_false] at hb; simp only [List.mem_cons, List.mem_append]
    rcases hb with rfl | rfl | rfl | rfl
    · exact .inl rfl
    · exact .inr (.inr (.inl rfl))
    · exact .inr (.inr (.inr (.inl m1)))
    · exact .inr (.inr (.inr (.inr m2)))
  noKeys := fun A s Q E hA ok h => getAttrOr_miss_zip ok.1 rfl rfl rfl zip_no_keys (by decide +kernel) hA h
  iter := fun A s d Q E hA ok hd hdf h => by
    obtain ⟨hz, hTI, ⟨a1, a2, hTO⟩, q1, q2⟩ := ok
    simp only [List.mem_cons, List.mem_append, not_or] at hdf
    obtain ⟨dz, dTI, dTO, d1, d2⟩ := hdf
    have e1 := D1 A.in1 hA; have e2 := D2 A.in1 hA
    have di1 : d ≠ i1 := fun e => d1 (e ▸ S.mem1); have di2 : d ≠ i2 := fun e => d2 (e ▸ S.mem2)
    refine wpAny_pyIter_zip hz (h z [z, TO, i1, i2] (fun i h => IsTupOf2 h TI (.ref i1) (.ref i2) ∧ St1 i h ∧ St2 i h ∧ ((IsZip h z TI TO .none ∧ ∃ a1 a2, IsTupOf2 h TO a1 a2) ∨ ∃ T f oT, IsZipHeld h z TI TO T f ∧ h.get? T = some oT ∧ T ≠ z ∧ T ≠ i1 ∧ T ≠ i2 ∧ T ≠ d)) s.heap s.toks ?_ ⟨hTI, q1, q2, .inl ⟨hz, a1, a2, hTO⟩⟩ (fun _ _ e => e) fun b hb => .inl hb)
    refine ⟨fun hm => ?_, fun i h1 h2 st k => ?_, fun i s1 Q1 E1 hi st hds hQ => ?_, fun s1 Q1 E1 st hQ => ?_⟩
    · simp only [List.mem_cons, List.not_mem_nil, or_false] at hm
      rcases hm with e | e | e | e
      · exact dz e
      · exact dTO e
      · exact di1 e
      · exact di2 e
    · obtain ⟨c1, c2, c3, c4⟩ := st
      refine ⟨k _ _ (Ne.symm dTI) c1, e1.frame _ _ _ c2 fun b hb o e => k b o (fun q => d1 (q ▸ hb)) e, e2.frame _ _ _ c3 fun b hb o e => k b o (fun q => d2 (q ▸ hb)) e, ?_⟩
      rcases c4 with ⟨c4, x1, x2, c5⟩ | ⟨T, f, oT, c4, c5, r1, r2, r3, r4⟩
      · exact .inl ⟨k _ _ (Ne.symm dz) c4, x1, x2, k _ _ (Ne.symm dTO) c5⟩
      · exact .inr ⟨T, f, oT, k _ _ (Ne.symm dz) c4, k _ _ r4 c5, r1, r2, r3, r4⟩
    · obtain ⟨c1, c2, c3, c4⟩ := st
      have lt : ∀ {c o}, s1.heap.get? c = some o → s1.heap.objs.size ≠ c := fun e => Nat.ne_of_gt (Heap.lt_size e)
      have n1' : s1.heap.objs.size ≠ i1 := by obtain ⟨_, e⟩ := e1.live _ _ c2; exact lt e
      have n2' : s1.heap.objs.size ≠ i2 := by obtain ⟨_, e⟩ := e2.live _ _ c3; exact lt e
      rcases c4 with ⟨c4, x1, x2, c5⟩ | ⟨T, f, oT, c4, c5, r1, r2, r3, r4⟩
      · refine wpAny_pyNext_zipD2_item S e1 e2 c4 c1 c5 c2 c3 (by omega) (by omega) fun x1 x2 h' tk y1 y2 b1 b2 b3 b4 b5 b6 hk => ?_
        exact hQ s1.heap.objs.size x1 x2 h' tk ⟨y1, y2⟩ (.inl ⟨_, b5, rfl, _, rfl⟩) ⟨hk _ _ S.TIz S.TITO S.TIi1 S.TIi2 c1, b3, b4, .inr ⟨_, false, _, b1, b5, lt c4, n1', n2', Nat.ne_of_gt hds⟩⟩ fun c o hc e => hk c o (fun x => hc (by simp [x])) (fun x => hc (by simp [x])) (fun x => hc (by simp [x])) (fun x => hc (by simp [x])) e
      · refine zH_nextI S e1 e2 c4 c5 c1 c2 c3 (by omega) (by omega) fun x1 x2 h' tk y1 y2 b1 b3 b4 b5 hk => ?_
        exact hQ s1.heap.objs.size x1 x2 h' tk ⟨y1, y2⟩ (.inl ⟨_, b5, rfl, _, rfl⟩) ⟨hk _ _ S.TIz S.TIi1 S.TIi2 c1, b3, b4, .inr ⟨T, true, oT, b1, hk _ _ r1 r2 r3 c5, r1, r2, r3, r4⟩⟩ fun c o hc e => hk c o (fun x => hc (by simp [x])) (fun x => hc (by simp [x])) (fun x => hc (by simp [x])) e
    · obtain ⟨c1, c2, c3, c4⟩ := st
      rcases c4 with ⟨c4, x1, x2, c5⟩ | ⟨T, f, oT, c4, c5, r1, r2, r3, r4⟩
      · exact wpAny_pyNext_zipD2_end S e1 e2 c4 c1 c5 c2 c3 (by omega) (by omega) (by omega) fun h' tk hk => hQ h' tk fun c o hc e => hk c o (fun x => hc (by simp [x])) (fun x => hc (by simp [x])) (fun x => hc (by simp [x])) (fun x => hc (by simp [x])) e
      · exact zH_nextE S e1 e2 c4 c5 c1 c2 c3 (by omega) (by omega) (by omega) fun h' tk hk => hQ h' tk fun c o hc e => hk c o (fun x => hc (by simp [x])) (fun x => hc (by simp [x])) (fun x => hc (by simp [x])) e
end
end FW
/-! dict(zip(x, y)) as an expression. -/
namespace FW
open PySem PySem.Spec PyProof.Rows L2
theorem IsSq.keep {h h' : Heap} {t : Bool} {a : Addr} {its : Array Value} (x : IsSq h t a its) (k : ∀ o, h.get? a = some o → h'.get? a = some o) : IsSq h' t a its := by
  cases t with
  | true => exact Heap.IsTuple.at x k
  | false => exact Heap.IsList.at x k
theorem IsSq.there {h : Heap} {t : Bool} {a : Addr} {its : Array Value} (x : IsSq h t a its) : ∃ o, h.get? a = some o := by
  cases t with
  | true => obtain ⟨o, ho, _⟩ := x; exact ⟨o, ho⟩
  | false => obtain ⟨o, ho, _⟩ := x; exact ⟨o, ho⟩
theorem kv_zip : ∀ {ks : List Key} {ys : List V} {its jts : List Value}, Vals (ks.map kV) its → Vals ys jts → KV (ks.zip ys) (ks.zip jts)
  | [], _, _, _, _, _ => .nil
  | _ :: _, [], _, [], _, _ => .nil
  | k :: ks, y :: ys, _ :: _, _ :: _, .cons r1 r2, .cons r3 r4 => .cons ⟨rfl, r3⟩ (kv_zip r2 r4)
theorem key_at : ∀ {ks : List Key} {its : List Value} {i : Nat} {u : Value}, Vals (ks.map kV) its → its[i]? = some u → ∃ k, ks[i]? = some k ∧ RelV (kV k) u
  | [], _, _, _, .nil, h => by cases h
  | k :: ks, _ :: _, 0, _, .cons r _, h => by cases h; exact ⟨k, rfl, r⟩
  | k :: ks, _ :: _, i + 1, _, .cons _ r, h => by obtain ⟨k', e, z⟩ := key_at (i := i) r h; exact ⟨k', e, z⟩
def tDZ (K : PySem.W.Frag) (ta : TA) : TE := fun σ H Q => ta σ H fun vs H1 => ∃ t t' a b, ∃ (ks : List Key) (ys : List V), vs = [.ref a, .ref b] ∧ SqA K H1 t a (ks.map kV) ∧ SqA K H1 t' b ys ∧ ks.length ≤ 100000 ∧ ∀ p, H1 p = none → Q (.ref p) (upd H1 p (.dK (mergeK [] (ks.zip ys))))
section
variable {X : Cx} {g : Gd} {E : XK} {e e2 : Expr} {ta : TA} {p p2 q pos : Pos}
theorem pe_dictZip (hc : X.calm = true) (hg : Gl X "dict") (hm : X.mg "dict" = none) (hg2 : Gl X "zip") (hm2 : X.mg "zip" = none) (ha : PA X [e, e2] ta)
    (hs0 : starEach [.Call (.Name "zip" p2) [e, e2] [] q] X.env = (false, eval (.Call (.Name "zip" p2) [e, e2] [] q) X.env) :: starEach [] X.env := by rfl)
    (hs : starEach [e, e2] X.env = (false, eval e X.env) :: starEach [e2] X.env := by rfl) (hpl : (backTo q (starEach [e2] X.env)).any (·.1) = false := by rfl) :
    PE X (.Call (.Name "dict" p) [.Call (.Name "zip" p2) [e, e2] [] q] [] pos) (tDZ X.K ta) := by
  refine ⟨fun pins s σ H Q I h => ?_⟩
  refine wpAny_Call_Name_kw (ld_blt I hg hm PyProof.Rows.boot_dict (PyProof.Rows.callWith_type1 ?_ hs0 rfl))
  rw [hs0]
  show wpAny _ _ (spliced ((false, eval (.Call (.Name "zip" p2) [e, e2] [] q) X.env) :: backTo pos (starEach [] X.env))) _ _ s
  refine Calls.spliced_cons ?_
  refine Call_ (ld_blt I hg2 hm2 PyProof.Rows.boot_zip (PyProof.Rows.callWith_type1 (thn (ha.run q pins s σ H _ I h) fun us s1 ⟨vs, H1, I1, r1, q1⟩ => ?_) hs hpl))
  obtain ⟨t, t', a, b, ks, ys, ex, hq, hq', hl, qq⟩ := q1
  subst ex
  obtain ⟨u1, u2, rfl, r1, r2⟩ := vals2 r1
  cases r1; cases r2
  obtain ⟨its, rv, sq, la⟩ := sq_of_inv I1 hq
  obtain ⟨jts, rw', sq', lb⟩ := sq_of_inv I1 hq'
  refine zip_begins2 (begins_sq t a its.toArray) (begins_sq t' b jts.toArray) sq sq' fun h' hz hTI hTO h1 h2 hsz hk => Calls.spliced_nil ?_
  have S : ZipSep2 (s1.heap.objs.size + 4) (s1.heap.objs.size + 2) (s1.heap.objs.size + 3) s1.heap.objs.size (s1.heap.objs.size + 1) [s1.heap.objs.size, a] [s1.heap.objs.size + 1, b] :=
    zip_sep2 (fun c hc => by rw [List.mem_singleton.mp hc]; exact la) fun c hc => by rw [List.mem_singleton.mp hc]; exact lb
  have hd : X.A.handled = none := I1.ok.hd hc
  have d1 : ∀ A : Around, A.handled = none → Draws X.prog X.w A s1.heap.objs.size [s1.heap.objs.size, a] its.toArray.size _ _ := fun A hA => draws_sq (prog := X.prog) (w := X.w) hA t s1.heap.objs.size a (Nat.ne_of_lt la) its.toArray
  have d2 : ∀ A : Around, A.handled = none → Draws X.prog X.w A (s1.heap.objs.size + 1) [s1.heap.objs.size + 1, b] jts.toArray.size _ _ := fun A hA => draws_sq (prog := X.prog) (w := X.w) hA t' (s1.heap.objs.size + 1) b (Nat.ne_of_lt (Nat.lt_succ_of_lt lb)) jts.toArray
  have th : ∀ {t : Bool} {it a : Addr} {i : Nat} {its : Array Value} {h : Heap}, IsSqIt h t it a i ∧ IsSq h t a its → ∀ c ∈ [it, a], ∃ o, h.get? c = some o := fun {t it a i its h} st c hc => by
    simp only [List.mem_cons, List.not_mem_nil, or_false] at hc
    rcases hc with rfl | rfl
    · obtain ⟨o, ho, _⟩ := st.1.obj; exact ⟨o, ho⟩
    · exact st.2.there
  have rl := rv.length
  rw [List.length_map] at rl
  have rl2 := rw'.length
  refine call_dict_pairs (s := { s1 with heap := h' }) (knd := mixKind X.prog X.w) (kvs := ks.zip jts) (pairs_zip S d1 d2 (fun h st => th st) (fun h st => th st) X.A hd) hd ⟨hz, hTI, ⟨_, _, hTO⟩, ⟨sqIt_at h1, sq.keep fun o e => hk _ o e⟩, ⟨sqIt_at h2, sq'.keep fun o e => hk _ o e⟩⟩ ⟨?_, fun i key v hr => ?_⟩ ?_ fun h2' tk dd hk2 => ?_
  · rw [List.length_zip, List.size_toArray, List.size_toArray, rl]
  · obtain ⟨x1, x2⟩ := hr
    have x1 : its[i]? = some key := by simpa using x1
    have x2 : jts[i]? = some v := by simpa using x2
    obtain ⟨k, ek, rk⟩ := key_at rv x1
    refine ⟨k, ?_, kV_is rk⟩
    rw [List.getElem?_zip_eq_some]
    exact ⟨ek, x2⟩
  · rw [List.size_toArray, ← rl]
    exact Nat.le_trans (Nat.min_le_left _ _) (Nat.le_trans hl (by decide))
  · have hz5 : h'.objs.size = s1.heap.objs.size + 5 := hsz
    have hlen : (mergeK [] (ks.zip ys)).length ≤ sizeLine := by
      refine Nat.le_trans (length_mergeK _ []) ?_
      rw [List.length_nil, Nat.zero_add, List.length_zip]
      exact Nat.le_trans (Nat.min_le_left _ _) (Nat.le_trans hl (by decide))
    have kp : ∀ c o, s1.heap.get? c = some o → h2'.get? c = some o := fun c o e => hk2 c o (fun hm => by
      have lt : c < s1.heap.objs.size := Heap.lt_size e
      simp only [List.mem_cons, List.not_mem_nil, or_false] at hm
      rcases hm with z | z | z | z
      · rw [z] at lt; exact absurd lt (Nat.not_lt.mpr (Nat.le_add_right _ _))
      · rw [z] at lt; exact absurd lt (Nat.not_lt.mpr (Nat.le_add_right _ _))
      · rw [z] at lt; exact Nat.lt_irrefl _ lt
      · rw [z] at lt; exact absurd lt (Nat.not_lt.mpr (Nat.le_add_right _ _))) (hk c o e)
    have hp : s1.heap.objs.size ≤ h'.objs.size := by omega
    exact ⟨.ref h'.objs.size, _, I1.laid (t' := tk) (o := .dK (mergeK [] (ks.zip ys))) kp hp (dk_new hlen (beq_eq_false_iff_ne.mpr (Ne.symm (Nat.ne_of_lt (Nat.lt_of_lt_of_le I1.big hp)))) ((kv_zip rv rw').merge .nil) dd), rfl, qq _ (I1.hok.fresh hp)⟩
/-! ### over data -/
def keysOf : List D → Option (List Key)
  | [] => some []
  | d :: ds => match keyOf d, keysOf ds with
    | some k, some ks => some (k :: ks)
    | _, _ => none
theorem keysOf_v {I : Hp} : ∀ {vs : List V} {ds : List D} {ks : List Key}, DRs g I vs ds → keysOf ds = some ks → vs = ks.map kV
  | _, _, _, .nil, h => by cases h; rfl
  | _, _, ks, .cons (d := d) (ds := ds) r t, h => by
    unfold keysOf at h
    cases e1 : keyOf d with
    | none => rw [e1] at h; cases h
    | some k =>
      cases e2 : keysOf ds with
      | none => rw [e1, e2] at h; cases h
      | some ks' =>
        rw [e1, e2] at h
        cases h
        rw [List.map_cons, keyOf_v e1 r, keysOf_v t e2]
def seqD : D → Option (List D)
  | .lst ds => some ds
  | .tup ds => some ds
  | _ => none
def dZipDict : List D → Res D
  | [x, y] => match seqD x with
    | some ds => match seqD y with
      | some es => match keysOf ds with
        | some ks => if ks.length ≤ 100000 then .ok (.dct (mergeD [] (ks.zip es))) else .bad
        | none => .bad
      | none => .bad
    | none => .bad
  | _ => .bad
theorem drm_zip {I : Hp} : ∀ {ks : List Key} {ys : List V} {es : List D}, DRs g I ys es → DRm g I (ks.zip ys) (ks.zip es)
  | [], _, _, _ => .nil
  | _ :: _, _, _, .nil => .nil
  | k :: ks, _, _, .cons h t => .cons ⟨rfl, h⟩ (drm_zip t)
theorem srcA_of {I H : Hp} {v : V} {x : D} {ds : List D} (rl : Rl g I H) (hx : DR g I v x) (e : seqD x = some ds) : ∃ t a xs, v = .ref a ∧ SqA X.K H t a xs ∧ DRs g I xs ds := by
  cases hx with
  | tup h u r => cases e; exact ⟨true, _, _, rfl, u.sqt (rl.sub _ _ h), r⟩
  | lst h r => cases e; exact ⟨false, _, _, rfl, SqL.of (rl.sub _ _ h), r⟩
  | _ => cases e
theorem zipDict_parts {ds : List D} : dZipDict ds = .bad ∨ ∃ x y xs ys ks, ds = [x, y] ∧ seqD x = some xs ∧ seqD y = some ys ∧ keysOf xs = some ks ∧ ks.length ≤ 100000 ∧ dZipDict ds = .ok (.dct (mergeD [] (ks.zip ys))) := by
  unfold dZipDict
  split
  · rename_i x y
    cases e1 : seqD x with
    | none => exact .inl rfl
    | some xs =>
      cases e2 : seqD y with
      | none => exact .inl rfl
      | some ys =>
        dsimp only
        cases e3 : keysOf xs with
        | none => exact .inl rfl
        | some ks =>
          dsimp only
          by_cases hl : ks.length ≤ 100000
          · exact .inr ⟨x, y, xs, ys, ks, rfl, e1, e2, e3, hl, if_pos hl⟩
          · exact .inl (if_neg hl)
  · exact .inl rfl
theorem o_dictZip {kk : FA} (hc : X.calm = true) (hg : Gl X "dict") (hm : X.mg "dict" = none) (hg2 : Gl X "zip") (hm2 : X.mg "zip" = none) (ha : PA X [e, e2] (tFA g X.mg E kk))
    (hs0 : starEach [.Call (.Name "zip" p2) [e, e2] [] q] X.env = (false, eval (.Call (.Name "zip" p2) [e, e2] [] q) X.env) :: starEach [] X.env := by rfl)
    (hs : starEach [e, e2] X.env = (false, eval e X.env) :: starEach [e2] X.env := by rfl) (hpl : (backTo q (starEach [e2] X.env)).any (·.1) = false := by rfl) :
    PE X (.Call (.Name "dict" p) [.Call (.Name "zip" p2) [e, e2] [] q] [] pos) (tOD g X.mg E (wOf (fCB dZipDict kk))) := (pe_dictZip hc hg hm hg2 hm2 ha hs0 hs hpl).imp fun σ H Q h => by
  obtain ⟨I, r, rl, er, h⟩ := h
  have h : resW (fCB dZipDict kk r) _ _ := h
  unfold fCB at h
  refine ⟨I, r, rl, er, ?_⟩
  cases ek : kk r with
  | bad => rw [ek] at h; exact h.elim
  | exc c => rw [ek] at h; exact h
  | ok ds =>
    rw [ek] at h
    intro vs I1 H1 s1 x1
    have h : resW (dZipDict ds) _ _ := h
    rcases zipDict_parts (ds := ds) with ed | ⟨x, y, xs, ys, ks, rfl, e1, e2, e3, hl, ed⟩
    · rw [ed] at h; exact h.elim
    · rw [ed] at h
      cases x1 with
      | cons hx t =>
        cases t with
        | cons hy t =>
          cases t
          obtain ⟨t, a, us, rfl, q1, r1⟩ := srcA_of (X := X) s1.rl hx e1
          obtain ⟨t', b, ws, rfl, q2, r2⟩ := srcA_of (X := X) s1.rl hy e2
          rw [keysOf_v r1 e3] at q1
          refine ⟨t, t', a, b, ks, ws, rfl, q1, q2, hl, fun pp hp => ?_⟩
          have s2 := s1.rl.lay (o := .dK (mergeK [] (ks.zip ws))) hp
          refine h.2 pp I1 _ (s1.trans s2) (s1.back (NT.of hp)) (s1.rl.nz hp) (s1.rl.out hp) fun kvs ez => ?_
          cases ez
          exact ⟨_, upd_same, DRk.merge (drm_zip r2) .nil⟩
end
end FW
/-! list.count; lists of one's own by * and list(). -/
namespace FW
open PySem PySem.Spec PyProof.Rows L2
section
variable {X : Cx} {g : Gd} {E : XK} {a b e o : Expr} {es : List Expr} {fa fb : FE} {kk : FA} {p pos apos cpos : Pos}
def rCntV (K : PySem.W.Frag) : V → List V → Hp → VK → Prop := fun x xs H Q => ∃ (a : Addr) (ys : List V) (y : V), x = V.ref a ∧ xs = [y] ∧ SqL K H a ys ∧ L2.flatV y = true ∧ ys.all L2.flatV = true ∧ Q (.int (ys.countP (fun z => L2.eqV z y) : Nat)) H
theorem cnt_vals {y : V} : ∀ {ys : List V} {us : List Value}, Vals ys us → ys.all L2.flatV = true → us.countP (eqU y) = ys.countP (fun z => L2.eqV z y)
  | _, _, .nil, _ => rfl
  | z :: ys, u :: us, .cons r t, f => by
    rw [List.all_cons, Bool.and_eq_true] at f
    rw [List.countP_cons, List.countP_cons, cnt_vals t f.2, eqU_of r f.1]
theorem mt_cntV : MtR X "list.count" (rCntV X.K) := by
  intro pins s σ H x xs v us Q I rx rxs h
  obtain ⟨p, ys, y, rfl, rfl, hs, fy, fys, q⟩ := h
  cases rx
  cases rxs with
  | cons ry rt =>
    rename_i uy ut
    cases rt
    obtain ⟨its, rv, ⟨⟨cls, dd, data, sl⟩, n, ho, hc, hdn, hd⟩, hlen⟩ := I.list hs
    simp only at hc hd
    subst hc hd
    refine call_meets PySem.F.slot_list_count ⟨_, ho, rfl⟩ PySem.F.entry_list_count (PySem.F.args_list_count_2 _ _) (SeqAt.list_countAt p its.toArray n dd sl uy (eqU y)) ⟨ho, fun u hu => mem_eqAt ry fy rv fys u (by simpa using hu), ?_⟩
    have ec : its.toArray.toList.countP (eqU y) = ys.countP (fun z => L2.eqV z y) := cnt_vals rv fys
    refine ⟨.int (ys.countP (fun z => L2.eqV z y) : Nat), H, I.tok _, ⟨s.toks, ?_⟩, q⟩
    rw [ec]
def dCount (x y : D) : Res D := match x with
  | .lst ds => if (y.flat && ds.all D.flat) = true then .ok (.int (ds.countP (fun z => D.eqv z y) : Nat)) else .bad
  | _ => .bad
def fCount (fa fb : FE) : FE := fun r => (fa r).bind fun x => match x with
  | .lst ds => (fb r).bind fun y => dCount (.lst ds) y
  | _ => .bad
theorem cnt_dr {I : Hp} {y : D} {u : V} (hy : DR g I u y) (fy : y.flat = true) : ∀ {vs : List V} {ds : List D}, DRs g I vs ds → ds.all D.flat = true → vs.countP (fun z => L2.eqV z u) = ds.countP (fun z => D.eqv z y)
  | _, _, .nil, _ => rfl
  | _, _, .cons h t, f => by
    rw [List.all_cons, Bool.and_eq_true] at f
    rw [List.countP_cons, List.countP_cons, cnt_dr hy fy t f.2, h.eqV hy f.1 fy]
theorem e_count (ha : PE X o (tF g X.mg E fa)) (hb : PE X e (tF g X.mg E fb)) (hbase : attributeBase o "count" X.env (eval o X.env) = eval o X.env := by rfl)
    (hfew : ((backTo cpos (starEach [e] X.env)).all (fun x => !x.1) && (backToKw cpos (keywordEach [] X.env)).all (fun x => x.1.isSome) && decide ([e].length + ([] : List Keyword).length + (if ([] : List Keyword).isEmpty then 0 else 1) < 30)) = true := by rfl)
    (hline : (apos.endLine == cpos.line) = true := by rfl) (hs : starEach [e] X.env = (false, eval e X.env) :: starEach [] X.env := by rfl) (hpl : (backTo cpos (starEach [] X.env)).any (·.1) = false := by rfl) :
    PE X (.Call (.Attribute o "count" apos) [e] [] cpos) (tF g X.mg E (fCount fa fb)) :=
  (pe_bm PySem.F.plainAttrs_list PySem.F.slot_list_count PySem.F.type_list_count mt_cntV ha (pa_cons hb pa_nil hs) hbase hfew hline hs hpl).imp fun σ H Q h => by
    obtain ⟨I, r, rl, er, h⟩ := h
    unfold fCount at h
    refine ⟨I, r, rl, er, Pst.first h fun d v I1 H1 _ s1 x1 h1 => ?_⟩
    cases d with
    | lst ds =>
      cases x1 with
      | lst hx rx =>
        rename_i a vs
        refine ⟨.inl ⟨rfl, vs, SqL.of (s1.rl.sub _ _ hx)⟩, I1, r, s1.rl, er.mono s1.mono, Pst.first h1 fun y u I2 H2 _ s2 x2 h2 => ?_⟩
        unfold dCount at h2
        dsimp only at h2
        split at h2
        · rename_i c
          rw [Bool.and_eq_true] at c
          have rx2 := rx.mono s2.mono
          refine ⟨a, vs, u, rfl, rfl, SqL.of (s2.rl.sub _ _ (s2.mono _ _ hx)), x2.flatV c.1, rx2.flatV c.2, ?_⟩
          rw [cnt_dr x2 c.1 rx2 c.2]
          exact h2.here s2.rl (.int _)
        · exact h2.elim
    | _ => exact h1.elim
/-! ### lists of one's own -/
def dMulL (x y : D) : Res D := match x, y with
  | .lst a, .int k => if -(2 ^ 63) ≤ k ∧ k < 2 ^ 63 ∧ a.length * k.toNat ≤ 100000 then .ok (.lst (List.replicate k.toNat a).flatten) else .bad
  | _, _ => .bad
theorem oF_mul (ha : PE X a (tF g X.mg E fa)) (hb : PE X b (tF g X.mg E fb)) : PE X (.BinOp a .Mult b pos) (tO g X.mg E (wOf (fOp dMulL fa fb))) := (pe_op op_rep ha hb).imp fun σ H Q h => by
  obtain ⟨I, r, rl, er, h⟩ := h
  have h : resW (fOp dMulL fa fb r) _ _ := h
  unfold fOp at h
  refine ⟨I, r, rl, er, ?_⟩
  cases e1 : fa r with
  | bad => rw [e1] at h; exact h.elim
  | exc c => rw [e1] at h; exact h
  | ok x =>
    rw [e1] at h
    intro v I1 H1 s1 x1
    refine ⟨I1, r, s1.rl, er.mono s1.mono, ?_⟩
    have h : resW ((fb r).bind fun y => dMulL x y) _ _ := h
    cases e2 : fb r with
    | bad => rw [e2] at h; exact h.elim
    | exc c => rw [e2] at h; exact excW.step s1 h
    | ok y =>
      rw [e2] at h
      intro u I2 H2 s2 x2
      have h : resW (dMulL x y) _ _ := h
      unfold dMulL at h
      split at h
      · split at h
        · rename_i c
          have x1' := x1.mono s2.mono
          cases x2
          cases x1' with
          | lst hx rx =>
            rename_i pa xs
            refine ⟨pa, _, xs, rfl, rfl, s2.rl.sub _ _ hx, c.1, c.2.1, small_line (by rw [rx.len]; exact c.2.2), fun q hq => ?_⟩
            have s12 := s1.trans s2
            exact h.2 q I2 _ (s12.trans (s2.rl.lay hq)) (s12.back (NT.of hq)) (s2.rl.nz hq) (s2.rl.out hq) fun zs ez => by
              cases ez
              exact ⟨_, upd_same, rx.rep _⟩
        · exact h.elim
      · exact h.elim
end
end FW
/-! Sets of texts: made of a list or a tuple, their length, sorted. -/
namespace FW
open PySem PySem.Spec PyProof.Rows L2

def txK (e : Int × Value) : Str := match e.2 with
  | .str k _ => k
  | _ => Str.empty
def TxE (w : World) (e : Int × Value) : Prop := ∃ k tk, e.2 = Value.str k tk ∧ e.1 = hashStr w k
/-- the set at a has just the texts L, each once -/
structure TxS (w : World) (h : Heap) (a : Addr) (L : List Str) : Prop where
  ex : ∃ o es ep t, (h.get? a = some o ∧ o.ExactSet ∧ o.data = .set es ep t) ∧ ((∀ e ∈ es.toList, TxE w e) ∧ (es.toList.map txK) = L) ∧ (es.size < scanBound ∧ t.fits es.size = true) ∧ (Ris t.place.toList ∧ (w.params.followText "set-order" = true ∨ t.led = true))
  nd : L.Nodup
section
variable {P : Program} {w : World} {A : Around} {E : Value → Shared → Prop} {s : Shared} {a : Addr} {L : List Str}
theorem TxS.keep {h h' : Heap} (R : TxS w h a L) (k : ∀ o, h.get? a = some o → h'.get? a = some o) : TxS w h' a L := by
  obtain ⟨o, es, ep, t, ⟨q1, q2⟩, q3⟩ := R.ex
  exact ⟨⟨o, es, ep, t, ⟨k o q1, q2⟩, q3⟩, R.nd⟩
end
end FW
/-! Dicts as values: comprehensions, len, sorted, dict(pairs), list(d); what walks a dict's keys (locked meanwhile). max of a list or tuple. -/
namespace FW
open PySem PySem.Spec PyProof.Rows L2 LamX
section
variable {X : Cx} {g : Gd} {E : XK} {a e : Expr} {es : List Expr} {fa : FE} {kk : FA} {p pos : Pos}
theorem _root_.L2.CallR.either {X : Cx} {f : Value} {r1 r2 : List V → Hp → VK → Prop} (h1 : CallR X f r1) (h2 : CallR X f r2) : CallR X f (fun xs H Q => r1 xs H Q ∨ r2 xs H Q) := fun pins s σ H xs us Q I r q => by
  rcases q with q | q
  · exact h1 pins s σ H xs us Q I r q
  · exact h2 pins s σ H xs us Q I r q
/-! ### len -/
/-! ### sorted(d), list(d), dict(pairs) -/
theorem DR.kV {I : Hp} : ∀ k : Key, DR g I (kV k) (kD k)
  | .inl i => .int i
  | .inr x => .str x
theorem DRk.fst {I : Hp} : ∀ {es : List (Key × V)} {kvs : List (D × D)}, DRk g I es kvs → DRs g I (es.map fun kv => L2.kV kv.1) (kvs.map Prod.fst)
  | _, _, .nil => .nil
  | _, _, .cons _ t => .cons (DR.kV _) (DRk.fst t)
/-! ### a comprehension's dict as a value -/
variable {kx vx tg iter : Expr} {ifs : List Expr} {scope : Scope} {own : List (Str × Nat)} {fi : FI} {fg : FG} {ft : FT} {fk fv : FE} {is : List Nat}
end
end FW
/-! A comprehension over the keys of a dict that is a value: the dict is locked meanwhile. -/
namespace FW
open PySem PySem.Spec PyProof.Rows L2 LamX
section
variable {g : Gd} {I J : Hp} {a : Addr} {es0 : List (Key × V)}
/-- a dict locked or unlocked -/
structure Swp (I J : Hp) (a : Addr) (es0 : List (Key × V)) : Prop where
  oth : ∀ b o, b ≠ a → I b = some o → J b = some o
  old : Rd I a (.dK es0)
  new : Rd J a (.dK es0)
theorem Swp.not (s : Swp I J a es0) {b : Addr} {o : HO} (h : I b = some o) (h1 : ∀ es, o ≠ .dK es) (h2 : ∀ q es, o ≠ .frz q (.dK es)) : J b = some o := by
  refine s.oth b o (fun e => ?_) h
  subst e
  rcases s.old with z | ⟨q, z⟩
  · rw [h] at z; exact h1 _ (Option.some.inj z)
  · rw [h] at z; exact h2 _ _ (Option.some.inj z)
theorem Swp.rd (s : Swp I J a es0) {b : Addr} {es : List (Key × V)} (h : Rd I b (.dK es)) : Rd J b (.dK es) := by
  by_cases e : b = a
  · subst e
    have : es = es0 := by
      rcases s.old with z | ⟨q, z⟩ <;> rcases h with y | ⟨q', y⟩ <;> rw [z] at y <;> cases y <;> rfl
    rw [this]; exact s.new
  · exact h.elim (fun z => .inl (s.oth _ _ e z)) fun ⟨q, z⟩ => .inr ⟨q, s.oth _ _ e z⟩
theorem Rl.swap {H : Hp} {o u : HO} (rl : Rl g I H) (hI : I a = some u) (n1 : ∀ ps, u ≠ .tbl ps) (n2 : ∀ c q, u ≠ LamX.CodeO c q) (ho : ∀ ps, o ≠ .tbl ps) : Rl g (upd I a o) (upd H a o) := by
  have nz : g.dz ≠ a := fun e => by have := rl.dz; rw [e, hI] at this; cases this
  refine ⟨fun b w e => ?_, by rw [upd_ne nz]; exact rl.dz, ?_, tabs_set rl.tab (rl.sub _ _ hI) n1 n2, fun b ps e => ?_⟩
  · by_cases z : b = a
    · subst z; rw [upd_same] at e ⊢; exact e
    · rw [upd_ne z] at e ⊢; exact rl.sub b w e
  · obtain ⟨x, y, q⟩ := rl.dice
    exact ⟨x, y, by rw [upd_ne nz]; exact q⟩
  · by_cases z : b = a
    · subst z; rw [upd_same] at e; exact ho ps (Option.some.inj e)
    · rw [upd_ne z] at e; exact rl.nt b ps e
end
section
variable {X : Cx} {g : Gd} {E : XK}
variable {elt tg iter : Expr} {ifs : List Expr} {scope : Scope} {own : List (Str × Nat)} {pos : Pos} {fi : FI} {fg : FG} {ft : FT} {fe : FE} {is : List Nat}
end
end FW
/-! Dicts of one's own: copies, two or three at once, pop; what is one's own is given up ahead of a statement. -/
namespace FW
open PySem PySem.Spec PyProof.Rows L2 LamX
section
variable {X : Cx} {g : Gd} {E : XK} {e : Expr} {es : List Expr} {fa : FE} {p pos : Pos}
end
/-! ### two, three at once -/
section
variable {X : Cx} {g : Gd} {E : XK} {i j l : Nat} {x y z : Str} {a b c : Expr} {w1 w2 w3 : WE} {px py pz pt pos pt2 : Pos} {kt k2 : Nat}
theorem SRI.fresh {I0 H0 I H : Hp} {r : Env2} {σ : L2.St} (z : SRI g I0 H0 I r σ H) {p : Addr} (n : NT H p) : ∀ (m : Nat) (e : D), r[m]? = some (Sl.own e) → σ[m]? ≠ some (some (.ref p)) := fun m e hm hs => by
  obtain ⟨p', o, q1, _, _, _, q5, q6⟩ := z.own m e hm
  rw [hs] at q1; cases q1
  exact n.none_of q5 (chg_tbl q6.chg)
end
/-! ### pop -/
section
variable {X : Cx} {g : Gd} {E : XK} {wk : WE} {e : Expr} {pos : Pos}
end
/-! ### by functions -/
def asD (d : D) (k : List (D × D) → Res Out) : Res Out := match d with
  | .dct kvs => k kvs
  | _ => .bad
end FW
/-! sorted of a list of tuples of whole numbers. -/
namespace FW
open PySem PySem.Spec PyProof.Rows L2 LamX
/-! ### sorting by an order, in plain words -/
def insB {α : Type} (le : α → α → Bool) (x : α) : List α → List α
  | [] => [x]
  | y :: r => if le x y = true then x :: y :: r else y :: insB le x r
def sortB {α : Type} (le : α → α → Bool) : List α → List α
  | [] => []
  | x :: r => insB le x (sortB le r)
structure TotO {α : Type} (le : α → α → Bool) : Prop where
  tr : ∀ a b c, le a b = true → le b c = true → le a c = true
  to : ∀ a b, (le a b || le b a) = true
  an : ∀ a b, le a b = true → le b a = true → a = b
section
variable {α : Type} {le : α → α → Bool}
theorem insB_perm (x : α) : ∀ l : List α, (insB le x l).Perm (x :: l)
  | [] => List.Perm.refl _
  | y :: r => by
    rw [insB]
    split
    · exact List.Perm.refl _
    · exact ((insB_perm x r).cons y).trans (List.Perm.swap x y r)
theorem sortB_perm : ∀ l : List α, (sortB le l).Perm l
  | [] => List.Perm.refl _
  | x :: r => (insB_perm x _).trans ((sortB_perm r).cons x)
theorem insB_pw (O : TotO le) (x : α) : ∀ {l : List α}, l.Pairwise (fun a b => le a b = true) → (insB le x l).Pairwise fun a b => le a b = true
  | [], _ => List.pairwise_singleton ..
  | y :: r, h => by
    rw [List.pairwise_cons] at h
    rw [insB]
    split
    · rename_i c
      refine List.pairwise_cons.mpr ⟨fun z hz => ?_, List.pairwise_cons.mpr h⟩
      rcases List.mem_cons.mp hz with e | hz
      · rw [e]; exact c
      · exact O.tr _ _ _ c (h.1 z hz)
    · rename_i c
      refine List.pairwise_cons.mpr ⟨fun z hz => ?_, insB_pw O x h.2⟩
      rcases List.mem_cons.mp ((insB_perm x r).mem_iff.mp hz) with e | hz
      · have := O.to x y
        rw [Bool.or_eq_true] at this
        rw [e]; exact this.resolve_left c
      · exact h.1 z hz
theorem sortB_pw (O : TotO le) : ∀ l : List α, (sortB le l).Pairwise fun a b => le a b = true
  | [] => List.Pairwise.nil
  | x :: r => insB_pw O x (sortB_pw O r)
theorem pw_uniq (O : TotO le) : ∀ {l m : List α}, l.Pairwise (fun a b => le a b = true) → m.Pairwise (fun a b => le a b = true) → l.Perm m → l = m
  | [], m, _, _, p => by rw [List.nil_perm.mp p]
  | x :: l, [], _, _, p => by have := p.length_eq; simp at this
  | x :: l, y :: m, h1, h2, p => by
    rw [List.pairwise_cons] at h1 h2
    have e : x = y := by
      have hx : x ∈ y :: m := p.mem_iff.mp List.mem_cons_self
      have hy : y ∈ x :: l := p.mem_iff.mpr List.mem_cons_self
      rcases List.mem_cons.mp hx with e | hx
      · exact e
      · rcases List.mem_cons.mp hy with e | hy
        · exact e.symm
        · exact O.an _ _ (h1.1 y hy) (h2.1 x hx)
    subst e
    rw [pw_uniq O h1.2 h2.2 (List.Perm.cons_inv p)]
theorem merge_eq (O : TotO le) (l : List α) : l.mergeSort le = sortB le l := by
  refine pw_uniq O ?_ (sortB_pw O l) ((List.mergeSort_perm l le).trans (sortB_perm l).symm)
  exact List.pairwise_mergeSort (fun a b c h1 h2 => O.tr a b c h1 h2) (fun a b => O.to a b) l
end
/-! ### rows of whole numbers -/
def leR : List Int → List Int → Bool
  | [], _ => true
  | _ :: _, [] => false
  | x :: xs, y :: ys => if x = y then leR xs ys else decide (x < y)
theorem leR_le : ∀ xs ys : List Int, leR xs ys = decide (xs ≤ ys)
  | [], ys => by rw [leR]; symm; exact decide_eq_true (List.nil_le ys)
  | x :: xs, [] => by
    rw [leR]; symm
    exact decide_eq_false (by simp)
  | x :: xs, y :: ys => by
    rw [leR, leR_le xs ys]
    by_cases h : x = y
    · subst h
      rw [if_pos rfl, decide_eq_decide, List.cons_le_cons_iff]
      exact ⟨fun z => .inr ⟨rfl, z⟩, fun z => z.elim (fun q => absurd q (Int.lt_irrefl x)) fun q => q.2⟩
    · rw [if_neg h, decide_eq_decide, List.cons_le_cons_iff]
      exact ⟨.inl, fun z => z.elim id fun q => absurd q.1 h⟩
theorem totR : TotO leR where
  tr := fun a b c h1 h2 => by
    rw [leR_le, decide_eq_true_iff] at *
    exact List.le_trans h1 h2
  to := fun a b => by
    rw [leR_le, leR_le, Bool.or_eq_true, decide_eq_true_iff, decide_eq_true_iff]
    exact List.le_total a b
  an := fun a b h1 h2 => by
    rw [leR_le, decide_eq_true_iff] at *
    exact List.le_antisymm h1 h2
theorem dataLe_tups {β : Type} (x : β → List Int) : PySem.W.dataLe false (fun b => .tuple ((x b).map .int)) = fun p q => leR (x p) (x q) := by
  funext p q
  show (!PySem.W.dataLt (.tuple ((x q).map .int)) (.tuple ((x p).map .int))) = _
  rw [PySem.W.dataLt_tuple, leR_le]
  show (!PySem.W.rowLt ((x q).map .int) ((x p).map .int)) = _
  rw [PySem.W.dataLt_ints]
  by_cases h : x q < x p
  · have h' : ¬ x p ≤ x q := fun r => List.not_lt.mpr r h
    simp [h, h']
  · have h' : x p ≤ x q := List.not_lt.mp h
    simp [h, h']
abbrev tupR (ns : List Int) : D := .tup (ns.map D.int)
/-- a list's items as rows, none empty -/
def rowsD : List D → Option (List (List Int))
  | [] => some []
  | .tup ds :: r => match intsOf ds with
    | some (n :: ns) => (rowsD r).map ((n :: ns) :: ·)
    | _ => none
  | _ => none
theorem intsOf_eq : ∀ {ds : List D} {ns : List Int}, intsOf ds = some ns → ds = ns.map D.int
  | [], ns, h => by cases h; rfl
  | d :: ds, ns, h => by
    cases d with
    | int i =>
      have h : (intsOf ds).map (i :: ·) = some ns := h
      cases q : intsOf ds with
      | none => rw [q] at h; cases h
      | some zs => rw [q] at h; cases h; rw [intsOf_eq q]; rfl
    | _ => cases h
theorem rowsD_eq : ∀ {ds : List D} {rs : List (List Int)}, rowsD ds = some rs → ds = rs.map tupR ∧ ∀ r ∈ rs, ∃ n ns, r = n :: ns
  | [], rs, h => by cases h; exact ⟨rfl, fun r hr => by cases hr⟩
  | d :: ds, rs, h => by
    cases d with
    | tup xs =>
      have h : (match intsOf xs with | some (n :: ns) => (rowsD ds).map ((n :: ns) :: ·) | _ => none) = some rs := h
      split at h
      · rename_i n ns e
        cases q : rowsD ds with
        | none => rw [q] at h; cases h
        | some zs =>
          rw [q] at h; cases h
          obtain ⟨e1, e2⟩ := rowsD_eq q
          refine ⟨by rw [e1, intsOf_eq e]; rfl, fun r hr => ?_⟩
          rcases List.mem_cons.mp hr with z | z
          · exact ⟨n, ns, z⟩
          · exact e2 r z
      · cases h
    | _ => cases h
section
variable {X : Cx} {g : Gd} {E : XK} {I H : Hp} {pins : List (Addr × Obj)} {σ : L2.St} {s : Shared}
/-- u stands for the row -/
def StR (g : Gd) (I : Hp) (u : Value) (row : List Int) : Prop := ∃ v, RelV v u ∧ DR g I v (tupR row)
theorem rows_out : ∀ {us : List Value} {rs : List (List Int)}, PySem.W.EachIs (StR g I) us rs → ∃ vs, Vals vs us ∧ DRs g I vs (rs.map tupR)
  | _, _, .nil => ⟨[], .nil, .nil⟩
  | _, _, .cons ⟨v, h1, h2⟩ t => by
    obtain ⟨vs, q1, q2⟩ := rows_out t
    exact ⟨v :: vs, .cons h1 q1, .cons h2 q2⟩
theorem lays_intsR : ∀ ns : List Int, D.lays (ns.map D.int) = true
  | [] => by rw [List.map_nil, D.lays]
  | n :: ns => by rw [List.map_cons, D.lays, D.lay, lays_intsR ns]; rfl
theorem py_ints : ∀ ns : List Int, D.pys (ns.map D.int) = ns.map PyData.int
  | [] => by rw [List.map_nil, D.pys]; rfl
  | n :: ns => by rw [List.map_cons, D.pys, D.py, py_ints ns]; rfl
theorem StR.reads (J : Inv X pins σ H s) (rl : Rl g I H) {u : Value} {row : List Int} (h : StR g I u row) : ∃ as, Reads s.heap u (.tuple (row.map .int)) as := by
  obtain ⟨v, h1, h2⟩ := h
  have := Dp.reads J (tupR row).py v u ((h2.mono rl.sub).dp X.K (by rw [D.lay]; exact lays_intsR row)) h1
  rw [D.py, py_ints] at this
  exact this
end
end FW
/-! `for p in zip(x, y)`, the target a name. -/
namespace FW
open PySem PySem.Spec PyProof.Rows L2 LamX
/-- a zip: its field 0 and whether it is known to be out -/
abbrev ZF (h : Heap) (z TI TO : Addr) (v : Value) (f : Bool) : Prop :=
  h.get? z = some { cls := .type "zip", dict := none, data := .fields #[v, .bool f, .bool false, .ref TI, .ref TO], slots := #[] }
section
variable {prog : Program} {w : World} {A : Around} {E : Value → Shared → Prop} {s : Shared} {z TI TO T i1 i2 : Addr} {fp1 fp2 : List Addr} {n1 n2 i : Nat} {P1 P2 : Nat → Value → Prop} {St1 St2 : Nat → Heap → Prop} {f : Bool} {oT : Obj} {a1 a2 : Value}
/-- a zip between turns, its target a name -/
def ZSN (z TI TO i1 i2 : Addr) (St1 St2 : Nat → Heap → Prop) (i : Nat) (h : Heap) : Prop :=
  IsTupOf2 h TI (.ref i1) (.ref i2) ∧ (∃ a1 a2, IsTupOf2 h TO a1 a2) ∧ St1 i h ∧ St2 i h ∧ (ZF h z TI TO .none false ∨ ∃ (T : Addr) (f : Bool), ZF h z TI TO (rawInt T) f)
end
section
variable {X : Cx} {g : Gd} {E : XK} {K : PySem.W.Frag}
end
end FW
/-! Dicts whose keys are tuples; several names at once, each by its own kind; pop of a list. -/
namespace FW
open PySem PySem.Spec PyProof.Rows L2 LamX

/-! ### data -/
def keyT : D → Option (List Key)
  | .tup ds => keysOf ds
  | _ => none
theorem keysOf_kD : ∀ k : List Key, keysOf (k.map kD) = some k
  | [] => rfl
  | k :: ks => by rw [List.map_cons, keysOf, keyOf_kD, keysOf_kD ks]
theorem keyT_kD (k : List Key) : keyT (.tup (k.map kD)) = some k := keysOf_kD k
def valT (kvs : List (D × D)) (k : List Key) : Option D := (kvs.find? fun kv => decide (keyT kv.1 = some k)).map (·.2)
def putT (kvs : List (D × D)) (k : List Key) (d : D) : List (D × D) := if (kvs.any fun kv => decide (keyT kv.1 = some k)) = true then kvs.map (fun kv => if keyT kv.1 = some k then (kv.1, d) else kv) else kvs ++ [(.tup (k.map kD), d)]
section
variable {g : Gd} {I : Hp}
theorem dec_keyT (k k' : List Key) : decide (keyT (.tup (k.map kD)) = some k') = decide (k = k') := by
  rw [keyT_kD]
  by_cases e : k = k' <;> simp [e]
theorem DRt.val (k : List Key) : ∀ {es : List (List Key × V)} {kvs : List (D × D)}, DRt g I es kvs → (valV es k = none ∧ valT kvs k = none) ∨ ∃ v d, valV es k = some v ∧ valT kvs k = some d ∧ DR g I v d
  | _, _, .nil => .inl ⟨rfl, rfl⟩
  | _, _, .cons (k := k0) (v := v) (es := es) (d := d) (kvs := kvs) h t => by
    unfold valV valT
    rw [List.find?_cons, List.find?_cons]
    by_cases e : k0 = k
    · subst e
      rw [show decide (keyT (D.tup (k0.map kD), d).1 = some k0) = true from by rw [dec_keyT]; simp, show decide ((k0, v).1 = k0) = true from by simp]
      exact .inr ⟨v, d, rfl, rfl, h⟩
    · rw [show decide (keyT (D.tup (k0.map kD), d).1 = some k) = false from by rw [dec_keyT]; simp [e], show decide ((k0, v).1 = k) = false from by simp [e]]
      exact DRt.val k t
theorem DRt.any (k : List Key) : ∀ {es : List (List Key × V)} {kvs : List (D × D)}, DRt g I es kvs → (es.any fun kv => decide (kv.1 = k)) = kvs.any fun kv => decide (keyT kv.1 = some k)
  | _, _, .nil => rfl
  | _, _, .cons h t => by
    rw [List.any_cons, List.any_cons, DRt.any k t, dec_keyT]
theorem DRt.app : ∀ {es es' : List (List Key × V)} {kvs kvs' : List (D × D)}, DRt g I es kvs → DRt g I es' kvs' → DRt g I (es ++ es') (kvs ++ kvs')
  | _, _, _, _, .nil, h => h
  | _, _, _, _, .cons r t, h => .cons r (DRt.app t h)
theorem DRt.mapPut (k : List Key) {v : V} {d : D} (x : DR g I v d) : ∀ {es : List (List Key × V)} {kvs : List (D × D)}, DRt g I es kvs → DRt g I (es.map fun kv => if kv.1 = k then (kv.1, v) else kv) (kvs.map fun kv => if keyT kv.1 = some k then (kv.1, d) else kv)
  | _, _, .nil => .nil
  | _, _, .cons (k := k0) h t => by
    rw [List.map_cons, List.map_cons]
    by_cases e : k0 = k
    · rw [if_pos e, if_pos (by rw [keyT_kD, e])]
      exact .cons x (DRt.mapPut k x t)
    · rw [if_neg e, if_neg (by rw [keyT_kD]; exact fun z => e (Option.some.inj z))]
      exact .cons h (DRt.mapPut k x t)
theorem DRt.put {k : List Key} {v : V} {d : D} {es : List (List Key × V)} {kvs : List (D × D)} (h : DRt g I es kvs) (x : DR g I v d) : DRt g I (putK es k v) (putT kvs k d) := by
  unfold putK putT
  rw [h.any k]
  split
  · exact h.mapPut k x
  · exact h.app (.cons x .nil)
theorem DRt.len : ∀ {es : List (List Key × V)} {kvs : List (D × D)}, DRt g I es kvs → es.length = kvs.length
  | _, _, .nil => rfl
  | _, _, .cons _ t => congrArg (· + 1) (DRt.len t)
/-- ints alone -/
def intsK (k : List Key) : Bool := k.all fun x => match x with
  | .inl _ => true
  | .inr _ => false
theorem strs_ints : ∀ k : List Key, intsK k = true → strsV (k.map kV) = false
  | [], _ => rfl
  | .inl i :: ks, _ => by unfold strsV; rw [List.map_cons, List.all_cons, List.all_cons]; rfl
  | .inr x :: ks, h => by unfold intsK at h; rw [List.all_cons] at h; cases h
/-- a tuple of ints as it stands -/
theorem keyT_at {H : Hp} {x : D} {v : V} {k : List Key} (rl : Rl g I H) (hx : DR g I v x) (ek : keyT x = some k) (hi : intsK k = true) : ∃ b, v = .ref b ∧ H b = some (.tup (k.map kV)) := by
  cases hx with
  | tup h u t =>
    rename_i a xs ds uu
    have e : xs = k.map kV := keysOf_v t ek
    subst e
    rcases u with ⟨e, _⟩ | ⟨o, ⟨_, z⟩, _⟩
    · rw [e] at h; exact ⟨a, rfl, rl.sub _ _ h⟩
    · rw [strs_ints k hi] at z; cases z
  | _ => cases ek
end
/-! ### k in d, d[k] -/
def keyI (x : D) : Option (List Key) := match keyT x with
  | some k => if intsK k = true then some k else none
  | none => none
theorem keyI_of {x : D} {k : List Key} (h : keyI x = some k) : keyT x = some k ∧ intsK k = true := by
  unfold keyI at h
  split at h
  · rename_i k' e
    split at h
    · rename_i c; cases h; exact ⟨e, c⟩
    · cases h
  · cases h
/-- the pairs of a dict of tuples -/
def dictT : D → Option (List (D × D))
  | .dtt kvs => some kvs
  | .dtf kvs => some kvs
  | _ => none
def dNotInT (x y : D) : Res D := match dictT y with
  | some kvs => match keyI x with
    | some k => .ok (.bl (!(valT kvs k).isSome))
    | none => .bad
  | none => .bad
def dIxT (x y : D) : Res D := match dictT x with
  | some kvs => match keyI y with
    | some k => match valT kvs k with
      | some d => .ok d
      | none => .bad
    | none => .bad
  | none => .bad
theorem dictT_rd {g : Gd} {I : Hp} {u : V} {y : D} {kvs : List (D × D)} (hy : DR g I u y) (e : dictT y = some kvs) : ∃ a es, u = .ref a ∧ Rd I a (.dT es) ∧ DRt g I es kvs := by
  cases hy with
  | dT h rx => cases e; exact ⟨_, _, rfl, h, rx⟩
  | dF h rx => cases e; exact ⟨_, _, rfl, .inr ⟨_, h⟩, rx⟩
  | _ => cases e
section
variable {X : Cx} {g : Gd} {E : XK} {a b e o : Expr} {es : List Expr} {fa fb : FE} {kk : FA} {p pos apos : Pos} {k : Nat}
theorem dgetT_of {I H : Hp} {x y : D} {v u : V} {kvs : List (D × D)} {k : List Key} (rl : Rl g I H) (hx : DR g I v x) (hy : DR g I u y) (ed : dictT y = some kvs) (ek : keyI x = some k) : ∃ a es, u = .ref a ∧ DRt g I es kvs ∧ DGet H a v (valV es k) := by
  obtain ⟨e1, e2⟩ := keyI_of ek
  obtain ⟨a, es, rfl, h, rx⟩ := dictT_rd hy ed
  obtain ⟨b, rfl, hb⟩ := keyT_at rl hx e1 e2
  exact ⟨a, es, rfl, rx, .inr ⟨_, _, b, rl.sub.rd h, rfl, hb, rfl⟩⟩
theorem od_notinT : OpD g X.mg E (fun x y H Q => ∃ a o, y = .ref a ∧ DGet H a x o ∧ Q (.bl (!o.isSome)) H) dNotInT := by
  intro I H x y v u Q rl hx hy p
  unfold dNotInT at p
  cases ed : dictT y with
  | none => rw [ed] at p; exact p.elim
  | some kvs =>
  rw [ed] at p
  have p : Pst g X.mg E (DR g) I H (match keyI x with | some k => .ok (.bl (!(valT kvs k).isSome)) | none => .bad) Q := p
  cases ek : keyI x with
  | none => rw [ek] at p; exact p.elim
  | some k =>
    rw [ek] at p
    obtain ⟨a, es, e1, e2, e3⟩ := dgetT_of rl hx hy ed ek
    refine ⟨a, _, e1, e3, ?_⟩
    have : (valV es k).isSome = (valT kvs k).isSome := by
      rcases e2.val k with ⟨z1, z2⟩ | ⟨v', d', z1, z2, _⟩
      · rw [z1, z2]; rfl
      · rw [z1, z2]; rfl
    rw [this]
    exact p.here rl (.bl _)
theorem t_notinT (hr : Room k X.A) (ha : PE X a (tF g X.mg E fa)) (hb : PE X b (tF g X.mg E fb)) (hm : behindInMarks .NotIn b = false := by rfl) : PT X (.Compare a [.NotIn] [b] pos) (tFT g X.mg E (fTest (fOp dNotInT fa fb))) := t_cmp (or_notinDict (Nat.lt_of_le_of_lt (Nat.add_le_add_left (by decide) _) hr.units)) od_notinT ha hb hm
/-- len(d) -/
def dLenT : List D → Res D
  | [x] => match dictT x with
    | some kvs => .ok (.int (kvs.length : Nat))
    | none => .bad
  | _ => .bad
end
end FW
/-! Several names at once, each by its own kind; stores into dicts of tuples; pop of a list. -/
namespace FW
open PySem PySem.Spec PyProof.Rows L2 LamX

/-! ### len -/
section
variable {X : Cx} {g : Gd} {E : XK} {e : Expr} {es : List Expr} {kk : FA} {p pos : Pos}
def rLenTR : List V → Hp → VK → Prop := fun xs H Q => ∃ (p : Addr) (kvs : List (List Key × V)), xs = [.ref p] ∧ Rd H p (.dT kvs) ∧ Q (.int ((kvs.length : Nat) : Int)) H
theorem call_lenTR : CallR X (.builtin "len") rLenTR := by
  intro pins s σ H xs us Q I r h
  obtain ⟨p, kvs, rfl, hp, q⟩ := h
  obtain ⟨u, rfl, rx⟩ := vals1 r
  obtain rfl : u = .ref p := rx
  obtain ⟨z, hd, ys, rel, dd⟩ := dt_rd I.hok hp
  have hl : kvs.length = ys.length := Paired.length rel
  refine call_len_dictH hd dd (by rw [← hl]; rw [sizeLine_eq] at z; omega) ?_
  rw [← hl]
  exact ⟨.int ((kvs.length : Nat) : Int), H, I.tok _, ⟨_, rfl⟩, q⟩
theorem cd_lenT : CaD g X.mg E rLenTR dLenT := by
  intro I H ds vs Q rl hs q
  unfold dLenT at q
  split at q
  · split at q
    · rename_i kvs ed
      cases hs with
      | cons h t =>
        cases t
        obtain ⟨a, es, rfl, hr, hk⟩ := dictT_rd h ed
        exact ⟨_, _, rfl, rl.sub.rd hr, by rw [hk.len]; exact q.here rl (.int _)⟩
    · exact q.elim
  · exact q.elim
theorem e_lenT (hg : Gl X "len") (hm : X.mg "len" = none) (ha : PA X (e :: es) (tFA g X.mg E kk)) (he : starEach (e :: es) X.env = (false, eval e X.env) :: starEach es X.env := by rfl) (hpl : (backTo pos (starEach es X.env)).any (·.1) = false := by rfl) : PE X (.Call (.Name "len" p) (e :: es) [] pos) (tF g X.mg E (fCB dLenT kk)) :=
  e_callB call_lenTR cd_lenT hg hm (by decide +kernel) ha (by decide) (by decide) he hpl
end
/-! ### kinds -/
inductive Kd where
  | v | l | k | t
def Kd.ok : Kd → D → Bool
  | .v, _ => true
  | .l, .lst _ => true
  | .k, .dct _ => true
  | .t, .dtt _ => true
  | _, _ => false
def Kd.sl : Kd → D → Sl
  | .v, d => .val d
  | .l, d => .own d
  | .k, d => .own d
  | .t, d => .own d
def endA (g : Gd) (I H : Hp) (Q : VK) (d : D) : Prop := ∀ p o I' H', Stp g I H I' H' → NT H p → p ≠ g.dz → I' p = none → H' p = some o → OwnR g I' o d → Q (.ref p) H'
def endK (c : Kd) (g : Gd) (I H : Hp) (Q : VK) (d : D) : Prop := match c with
  | .v => endW g (DR g) I H Q d
  | _ => endA g I H Q d
def tK (c : Kd) (g : Gd) (mg : Str → Option Value) (E : XK) (w : WE) : TE := fun σ H Q => ∃ I r, Rl g I H ∧ ER g I σ r ∧ w.run r (fun d => c.ok d = true ∧ endK c g I H Q d) (excW g mg E I H)
/-- what is held of a kind -/
def Held (c : Kd) (g : Gd) (H0 I H : Hp) (v : V) (d : D) : Prop := match c with
  | .v => DR g I v d
  | _ => ∃ p o, v = .ref p ∧ NT H0 p ∧ p ≠ g.dz ∧ I p = none ∧ H p = some o ∧ OwnR g I o d
section
variable {g : Gd} {I0 H0 I H I' H' : Hp} {r : Env2} {σ : L2.St} {c : Kd} {v : V} {d : D}
theorem Held.go (h : Held c g H0 I H v d) (s : Stp g I H I' H') : Held c g H0 I' H' v d := by
  have own : (∃ p o, v = .ref p ∧ NT H0 p ∧ p ≠ g.dz ∧ I p = none ∧ H p = some o ∧ OwnR g I o d) → ∃ p o, v = .ref p ∧ NT H0 p ∧ p ≠ g.dz ∧ I' p = none ∧ H' p = some o ∧ OwnR g I' o d := fun ⟨p, o, h1, h2, h3, h4, h5, h6⟩ => by
    obtain ⟨h7, h8⟩ := s.beside h4 h3 h5 h6.chg
    exact ⟨p, o, h1, h2, h3, h7, h8, h6.mono s.mono⟩
  cases c with
  | v => exact DR.mono s.mono h
  | l => exact own h
  | k => exact own h
  | t => exact own h
theorem Held.own (h : Held c g H0 I H v d) (hc : c ≠ .v) : ∃ p o, v = .ref p ∧ NT H0 p ∧ p ≠ g.dz ∧ I p = none ∧ H p = some o ∧ OwnR g I o d := by
  cases c with
  | v => exact absurd rfl hc
  | l => exact h
  | k => exact h
  | t => exact h
theorem SRI.setK (x : SRI g I0 H0 I r σ H) {i : Nat} (hi : i < r.length) (h : Held c g H0 I H v d) (fr : c ≠ .v → ∀ (j : Nat) (e : D), r[j]? = some (Sl.own e) → σ[j]? ≠ some (some v)) : SRI g I0 H0 I (r.set i (c.sl d)) (σ.set i (some v)) H := by
  have own : c ≠ .v → SRI g I0 H0 I (r.set i (.own d)) (σ.set i (some v)) H := fun hc => by
    obtain ⟨p, o, rfl, h2, h3, h4, h5, h6⟩ := h.own hc
    exact x.setO hi h2 h3 h4 h5 h6 (fr hc)
  cases c with
  | v => exact x.setV hi h
  | l => exact own (fun z => by cases z)
  | k => exact own (fun z => by cases z)
  | t => exact own (fun z => by cases z)
theorem sl_own {e : D} (h : c.sl d = .own e) : c ≠ .v ∧ e = d := by
  cases c <;> cases h <;> exact ⟨fun z => (by cases z), rfl⟩
end
section
variable {X : Cx} {g : Gd} {E : XK} {e : Expr} {w : WE}
theorem tk_v (h : PE X e (tW g X.mg E w)) : PE X e (tK .v g X.mg E w) := h.imp fun σ H Q ⟨I, r, rl, er, q⟩ => ⟨I, r, rl, er, w.mono (fun d z => z.2) (fun _ z => z) q⟩
theorem tk_l (h : PE X e (tO g X.mg E w)) : PE X e (tK .l g X.mg E w) := h.imp fun σ H Q ⟨I, r, rl, er, q⟩ => ⟨I, r, rl, er, w.mono (fun d z => by
  obtain ⟨z1, z2⟩ := z
  cases d <;> first | (cases z1; done) | skip
  exact ⟨⟨_, rfl⟩, fun p I' H' s n nz hI hd => by
    obtain ⟨vs, h1, h2⟩ := hd _ rfl
    exact z2 p (.lst vs) I' H' s n nz hI h1 h2⟩) (fun _ z => z) q⟩
theorem SRI.readK {c : Kd} {I0 H0 I H : Hp} {r : Env2} {σ : L2.St} {Q : VK} {Qd : D → Prop} (z : SRI g I0 H0 I r σ H) (h : w.run (plain r) (fun d => c.ok d = true ∧ Qd d) (excW g X.mg E I0 H0)) (k : ∀ d v I' H', Stp g I H I' H' → Qd d → Held c g H0 I' H' v d → (c ≠ .v → ∃ p, v = .ref p ∧ NT H p) → Q v H') : tK c g X.mg E w σ H Q := by
  refine ⟨I, plain r, z.stp.rl, z.er, w.mono (fun d q => ⟨q.1, ?_⟩) (fun c q => excW.step z.stp q) h⟩
  have own : endA g I H (fun v H' => (Held c g H0 I H v d → c ≠ .v → Q v H') → c ≠ .v → Q v H') d := fun p o I' H' s n nz hI hp ho z1 z2 => by
    refine k d _ I' H' s q.2 ?_ fun _ => ⟨p, rfl, n⟩
    cases c with
    | v => exact absurd rfl z2
    | l => exact ⟨p, o, rfl, z.stp.back n, nz, hI, hp, ho⟩
    | k => exact ⟨p, o, rfl, z.stp.back n, nz, hI, hp, ho⟩
    | t => exact ⟨p, o, rfl, z.stp.back n, nz, hI, hp, ho⟩
  cases c with
  | v => exact fun v I' H' s y => k d v I' H' s q.2 y fun z => absurd rfl z
  | l => exact fun p o I' H' s n nz hI hp ho => k d _ I' H' s q.2 ⟨p, o, rfl, z.stp.back n, nz, hI, hp, ho⟩ fun _ => ⟨p, rfl, n⟩
  | k => exact fun p o I' H' s n nz hI hp ho => k d _ I' H' s q.2 ⟨p, o, rfl, z.stp.back n, nz, hI, hp, ho⟩ fun _ => ⟨p, rfl, n⟩
  | t => exact fun p o I' H' s n nz hI hp ho => k d _ I' H' s q.2 ⟨p, o, rfl, z.stp.back n, nz, hI, hp, ho⟩ fun _ => ⟨p, rfl, n⟩
/-- what stands there is apart from what is new -/
theorem Held.fresh {c c2 : Kd} {I0 H0 I H : Hp} {r : Env2} {σ : L2.St} {i : Nat} {v v2 : V} {d : D} (hi : i < r.length) (hl : σ.length = r.length) (hd : Held c g H0 I H v d) (h : ∀ (m : Nat) (e : D), r[m]? = some (Sl.own e) → σ[m]? ≠ some (some v2)) (n : ∃ p, v2 = .ref p ∧ NT H p) : ∀ (m : Nat) (e : D), (r.set i (c.sl d))[m]? = some (Sl.own e) → (σ.set i (some v))[m]? ≠ some (some v2) := fun m e hm hs => by
  by_cases em : m = i
  · subst em
    rw [List.getElem?_set_self hi] at hm
    rw [List.getElem?_set_self (by rw [hl]; exact hi)] at hs
    cases hs
    obtain ⟨hc, _⟩ := sl_own (Option.some.inj hm)
    obtain ⟨p, o, rfl, _, _, _, hp, ho⟩ := hd.own hc
    obtain ⟨p2, e2, n⟩ := n
    cases e2
    exact n.none_of hp (chg_tbl ho.chg)
  · rw [List.getElem?_set_ne (Ne.symm em)] at hm hs
    exact h m e hm hs
theorem SRI.fresh' {I0 H0 I H : Hp} {r : Env2} {σ : L2.St} {v : V} (z : SRI g I0 H0 I r σ H) (n : ∃ p, v = .ref p ∧ NT H p) : ∀ (m : Nat) (e : D), r[m]? = some (Sl.own e) → σ[m]? ≠ some (some v) := by
  obtain ⟨p, rfl, n⟩ := n
  exact z.fresh n
end
/-! ### two, three at once -/
def wsPar2 (i j : Nat) (c1 c2 : Kd) (w1 w2 : WE) : WS := ⟨fun r k => (i < r.length ∧ j < r.length) ∧ w1.run (plain r) (fun d => c1.ok d = true ∧ w2.run (plain r) (fun e => c2.ok e = true ∧ k.nx ((r.set i (c1.sl d)).set j (c2.sl e))) k.ex) k.ex,
  fun h q => ⟨q.1, w1.mono (fun _ z => ⟨z.1, w2.mono (fun _ z => ⟨z.1, h.nx _ z.2⟩) h.ex z.2⟩) h.ex q.2⟩⟩
def wsPar3 (i j l : Nat) (c1 c2 c3 : Kd) (w1 w2 w3 : WE) : WS := ⟨fun r k => (i < r.length ∧ j < r.length ∧ l < r.length) ∧ w1.run (plain r) (fun d => c1.ok d = true ∧ w2.run (plain r) (fun e => c2.ok e = true ∧ w3.run (plain r) (fun f => c3.ok f = true ∧ k.nx (((r.set i (c1.sl d)).set j (c2.sl e)).set l (c3.sl f))) k.ex) k.ex) k.ex,
  fun h q => ⟨q.1, w1.mono (fun _ z => ⟨z.1, w2.mono (fun _ z => ⟨z.1, w3.mono (fun _ z => ⟨z.1, h.nx _ z.2⟩) h.ex z.2⟩) h.ex z.2⟩) h.ex q.2⟩⟩
section
variable {X : Cx} {g : Gd} {E : XK} {i j l : Nat} {x y z : Str} {a b c : Expr} {w1 w2 w3 : WE} {px py pz pt pos pt2 : Pos} {kt k2 : Nat} {c1 c2 c3 : Kd}
theorem s_par2 (i j : Nat) {k : Nat} (B : Bd X E k) (ha : PE X a (tK c1 g X.mg E w1)) (hb : PE X b (tK c2 g X.mg E w2)) (hi : X.N[i]? = some x := by rfl) (hj : X.N[j]? = some y := by rfl) (hij : i ≠ j := by decide) (hx : X.env.scope.names.lookup x = some .local := by rfl) (hy : X.env.scope.names.lookup y = some .local := by rfl)
    (hw : swappedStores [.Tuple [.Name x px, .Name y py] kt pt] (.Tuple [a, b] k2 pt2) X.env = pure (some [x, y]) := by rfl) (hs : swapsWithSole [.Tuple [.Name x px, .Name y py] kt pt] (.Tuple [a, b] k2 pt2) pos.line X.env = pure false := by rfl)
    (hst : starEach [a, b] X.env = (false, eval a X.env) :: starEach [b] X.env := by rfl) (hst2 : starEach [b] X.env = (false, eval b X.env) :: starEach [] X.env := by rfl) :
    PS X (.Assign [.Tuple [.Name x px, .Name y py] kt pt] (.Tuple [a, b] k2 pt2) pos) (tWS g X.mg E (wsPar2 i j c1 c2 w1 w2)) :=
  (ps_par B.hc B.nd hi hj hij hx hy (pa_cons ha (pa_cons hb pa_nil hst2) hst) hw hs).imp fun D σ H h => by
    obtain ⟨I0, H0, r, ⟨I, z⟩, ⟨li, lj⟩, h⟩ := h
    refine z.readK h fun d1 v1 I1 H1 s1 q1 hd1 f1 => (z.go s1).readK q1 fun d2 v2 I2 H2 s2 q2 hd2 f2 => ?_
    refine ⟨v1, v2, rfl, q2 _ _ ⟨I2, (((z.go s1).go s2).setK li (hd1.go s2) fun hc => z.fresh' (f1 hc)).setK (by rw [List.length_set]; exact lj) hd2 fun hc => ?_⟩⟩
    exact Held.fresh (c2 := c2) (I0 := I0) li z.len hd1 ((z.go s1).fresh' (f2 hc)) (f2 hc)
theorem s_par3 (i j l : Nat) {k : Nat} (B : Bd X E k) (ha : PE X a (tK c1 g X.mg E w1)) (hb : PE X b (tK c2 g X.mg E w2)) (hc : PE X c (tK c3 g X.mg E w3)) (hi : X.N[i]? = some x := by rfl) (hj : X.N[j]? = some y := by rfl) (hl : X.N[l]? = some z := by rfl) (hij : i ≠ j := by decide) (hil : i ≠ l := by decide) (hjl : j ≠ l := by decide) (hx : X.env.scope.names.lookup x = some .local := by rfl) (hy : X.env.scope.names.lookup y = some .local := by rfl) (hz : X.env.scope.names.lookup z = some .local := by rfl)
    (hw : swappedStores [.Tuple [.Name x px, .Name y py, .Name z pz] kt pt] (.Tuple [a, b, c] k2 pt2) X.env = pure (some [x, y, z]) := by rfl) (hs : swapsWithSole [.Tuple [.Name x px, .Name y py, .Name z pz] kt pt] (.Tuple [a, b, c] k2 pt2) pos.line X.env = pure false := by rfl)
    (hst : starEach [a, b, c] X.env = (false, eval a X.env) :: starEach [b, c] X.env := by rfl) (hst2 : starEach [b, c] X.env = (false, eval b X.env) :: starEach [c] X.env := by rfl) (hst3 : starEach [c] X.env = (false, eval c X.env) :: starEach [] X.env := by rfl) :
    PS X (.Assign [.Tuple [.Name x px, .Name y py, .Name z pz] kt pt] (.Tuple [a, b, c] k2 pt2) pos) (tWS g X.mg E (wsPar3 i j l c1 c2 c3 w1 w2 w3)) :=
  (ps_par3 B.hc B.nd hi hj hl hij hil hjl hx hy hz (pa_cons ha (pa_cons hb (pa_cons hc pa_nil hst3) hst2) hst) hw hs).imp fun D σ H h => by
    obtain ⟨I0, H0, r, ⟨I, z⟩, ⟨li, lj, ll⟩, h⟩ := h
    refine z.readK h fun d1 v1 I1 H1 s1 q1 hd1 f1 => (z.go s1).readK q1 fun d2 v2 I2 H2 s2 q2 hd2 f2 => ((z.go s1).go s2).readK q2 fun d3 v3 I3 H3 s3 q3 hd3 f3 => ?_
    refine ⟨v1, v2, v3, rfl, q3 _ _ ⟨I3, (((((z.go s1).go s2).go s3).setK li ((hd1.go s2).go s3) fun hc => z.fresh' (f1 hc)).setK (by rw [List.length_set]; exact lj) (hd2.go s3) fun hc => ?_).setK (by rw [List.length_set, List.length_set]; exact ll) hd3 fun hc => ?_⟩⟩
    · exact Held.fresh (c2 := c2) (I0 := I0) li z.len hd1 ((z.go s1).fresh' (f2 hc)) (f2 hc)
    · exact Held.fresh (c2 := c3) (I0 := I0) (by rw [List.length_set]; exact lj) (by rw [List.length_set, List.length_set]; exact z.len) hd2 (Held.fresh (c2 := c3) (I0 := I0) li z.len (hd1.go s2) (((z.go s1).go s2).fresh' (f3 hc)) (f3 hc)) (f3 hc)
end
def fsPar2 (i j : Nat) (c1 c2 : Kd) (f1 f2 : FE) : FS := fun r => if i < r.length ∧ j < r.length then (f1 (plain r)).bind fun d => if c1.ok d = true then (f2 (plain r)).bind fun e => if c2.ok e = true then .ok (.nx ((r.set i (c1.sl d)).set j (c2.sl e))) else .bad else .bad else .bad
def fsPar3 (i j l : Nat) (c1 c2 c3 : Kd) (f1 f2 f3 : FE) : FS := fun r => if i < r.length ∧ j < r.length ∧ l < r.length then (f1 (plain r)).bind fun d => if c1.ok d = true then (f2 (plain r)).bind fun e => if c2.ok e = true then (f3 (plain r)).bind fun f => if c3.ok f = true then .ok (.nx (((r.set i (c1.sl d)).set j (c2.sl e)).set l (c3.sl f))) else .bad else .bad else .bad else .bad
theorem resW_if {α : Type} {p : Bool} {x : Res α} {Q : α → Prop} {Z : Str → Prop} (h : resW (if p = true then x else .bad) Q Z) : p = true ∧ resW x Q Z := by
  split at h
  · rename_i c; exact ⟨c, h⟩
  · exact h.elim
theorem imp_par2 {i j : Nat} {c1 c2 : Kd} {f1 f2 : FE} : ImpS (fsPar2 i j c1 c2 f1 f2) (wsPar2 i j c1 c2 (wOf f1) (wOf f2)) := fun r k q => by
  unfold fsPar2 at q
  split at q
  · rename_i hi
    exact ⟨hi, resW.mono (fun d z => ⟨(resW_if z).1, resW.mono (fun e y => by obtain ⟨y1, y2⟩ := resW_if y; exact ⟨y1, y2⟩) (fun _ z => z) (resW_bind (resW_if z).2)⟩) (fun _ z => z) (resW_bind q)⟩
  · exact q.elim
theorem imp_par3 {i j l : Nat} {c1 c2 c3 : Kd} {f1 f2 f3 : FE} : ImpS (fsPar3 i j l c1 c2 c3 f1 f2 f3) (wsPar3 i j l c1 c2 c3 (wOf f1) (wOf f2) (wOf f3)) := fun r k q => by
  unfold fsPar3 at q
  split at q
  · rename_i hi
    exact ⟨hi, resW.mono (fun d z => ⟨(resW_if z).1, resW.mono (fun e y => ⟨(resW_if y).1, resW.mono (fun f y => by obtain ⟨y1, y2⟩ := resW_if y; exact ⟨y1, y2⟩) (fun _ z => z) (resW_bind (resW_if y).2)⟩) (fun _ z => z) (resW_bind (resW_if z).2)⟩) (fun _ z => z) (resW_bind q)⟩
  · exact q.elim
/-! ### {k: v}, a dict of one tuple -/
def fDispT (fk fv : FE) : FE := fun r => (fk r).bind fun k => (fv r).bind fun v => match keyI k with
  | some ks => .ok (.dtt [(.tup (ks.map kD), v)])
  | none => .bad
section
variable {X : Cx} {g : Gd} {E : XK} {ek ev : Expr} {fk fv : FE} {pos : Pos}
def tDispT (tk tv : TE) : TE := fun σ H Q => ∀ p, H p = none → tk σ (upd H p (.dT [])) fun x H1 => tv σ H1 fun y H2 => H2 p = some (.dT []) ∧ ∃ b k, x = .ref b ∧ H2 b = some (.tup (List.map kV k)) ∧ Q (.ref p) (upd H2 p (.dT [(k, y)]))
theorem wpAny_Dict_oneH {prog : Program} {w : World} {K : Type} [DecidableEq K] {knd : HeapKind prog w K} {A : Around} {E : Value → Shared → Prop} {s : Shared} {env : PySem.Env} {keys : List (Option Expr)} {values : List Expr} {pos : Pos} {pairs : List (Sem Value × Sem Value)} {Q : Value → Shared → Prop} (hu : knd.room A)
    (hshape : (evalEachOpt keys env).zip ((evalEach values env).map fun v => do let x ← v; standAt pos; pure x) = pairs.map fun p => (some p.1, p.2)) (h0 : pairs ≠ []) (hlen : pairs.length ≤ 15)
    (h : wpAny (model prog w) A (evalPairs pairs) (fun vs s₁ => ∃ ps, CarriesH knd s₁.heap vs ps ∧ s₁.heap.DictOfH knd s.heap.objs.size [] ∧
      ∀ h' tk, h'.DictOfH knd s.heap.objs.size (storedAllH [] ps) → Heap.SameBut s.heap.objs.size s₁.heap h' → Q (.ref s.heap.objs.size) { s₁ with heap := h', toks := tk }) E
      { s with heap := s.heap.push { cls := .type "dict", data := .dict #[] } }) :
    wpAny (model prog w) A (eval (.Dict keys values pos) env) Q E s := by
  rw [arm_eval_Dict, hshape, dictDisplay_pairs pairs h0 (by omega)]
  exact wpAny_bind (wpAny_standAt (wpAny_bind (wpAny_subDictH (knd := knd) (Q := fun d s' => wpAny (model prog w) A (pure (Value.ref d)) Q E s') hu hlen
    (wpAny_mono h (fun vs s₁ ⟨ps, hc, hm, hq⟩ => ⟨ps, hc, hm, fun h' tk a b => wpAny_pure (hq h' tk a b)⟩) fun _ _ e => e))))
theorem pe_dispT {tk tv : TE} (hu : X.A.units + 1 < cLine) (hk : PE X ek tk) (hv : PE X ev tv) : PE X (.Dict [some ek] [ev] pos) (tDispT tk tv) := by
  refine ⟨fun pins s σ H Q I q => ?_⟩
  have hn := I.hok.fresh (Nat.le_refl s.heap.objs.size)
  have I1 := I.laid (a := s.heap.objs.size) (o := .dT []) (h' := s.heap.push { cls := .type "dict", data := .dict #[] }) (t' := s.toks) (fun _ _ q => Heap.get?_push_of_some _ q) (Nat.le_refl _) (dt_empty s.heap I.big)
  refine wpAny_Dict_oneH (knd := tupleKind (mixKind X.prog X.w)) (pairs := pairTrees [some ek] [ev] X.env pos) (show X.A.units < cLine from by omega) (zip_pairTrees [some ek] [ev] X.env pos rfl rfl) (by intro z; cases z) (by show 1 ≤ 15; decide) ?_
  refine pairTrees_cons_walk (thn (hk.run pins _ σ _ _ I1 (q _ hn)) fun u s1 ⟨x, H1, J1, rx, q1⟩ => thn (hv.run pins s1 σ H1 _ J1 q1) fun w2 s2 ⟨y, H2, J2, ry, q2⟩ => ?_)
  obtain ⟨e, b, k, rfl, hb, q2⟩ := q2
  refine pairTrees_nil_walk ?_
  cases (show u = Value.ref b from rx)
  obtain ⟨z, hd, xs, rel, dd⟩ := dt_of J2.hok e
  cases rel
  refine ⟨[(k, b, w2)], ⟨rfl, rfl, key_of J2.hok hb, trivial⟩, dd, fun h' tk dd' hs => ⟨.ref s.heap.objs.size, _, ?_, rfl, q2⟩⟩
  obtain ⟨o, es, ep, hq, h2, h3, h4, h5, h6⟩ := dd'
  refine d_write J2 (by rw [e]; exact True.intro) hs ⟨o, hq⟩ ⟨by show 1 ≤ sizeLine; decide, hd, [(k, b, w2)], .cons ⟨rfl, ?_, ry⟩ .nil, o, es, ep, hq, h2, h3, h4, h6⟩
  rw [upd_ne (ne_of hb e (fun z => nomatch z))]
  exact hb
theorem tk_t {k : Nat} (hr : Room k X.A) (hk : PE X ek (tF g X.mg E fk)) (hv : PE X ev (tF g X.mg E fv)) : PE X (.Dict [some ek] [ev] pos) (tK .t g X.mg E (wOf (fDispT fk fv))) :=
  (pe_dispT (Nat.lt_of_le_of_lt (Nat.add_le_add_left (by decide) _) hr.units) hk hv).imp fun σ H Q h => by
    obtain ⟨I, r, rl, er, h⟩ := h
    have h : resW (fDispT fk fv r) _ _ := h
    unfold fDispT at h
    intro p hp
    have s0 := rl.lay (o := .dT []) hp
    refine ⟨I, r, s0.rl, er, Pst.iff.mpr ?_⟩
    cases ek : fk r with
    | bad => rw [ek] at h; exact h.elim
    | exc c => rw [ek] at h; exact excW.step s0 h
    | ok k =>
      rw [ek] at h
      intro v1 I1 H1 s1 x1
      refine ⟨I1, r, s1.rl, er.mono s1.mono, Pst.iff.mpr ?_⟩
      cases ev : fv r with
      | bad => rw [ev] at h; exact h.elim
      | exc c => rw [ev] at h; exact excW.step (s0.trans s1) h
      | ok d =>
        rw [ev] at h
        have h : resW (match keyI k with | some ks => Res.ok (D.dtt [(D.tup (ks.map kD), d)]) | none => .bad) _ _ := h
        intro v2 I2 H2 s2 x2
        cases eki : keyI k with
        | none => rw [eki] at h; exact h.elim
        | some ks =>
          rw [eki] at h
          obtain ⟨e1, e2⟩ := keyI_of eki
          obtain ⟨b, rfl, hb⟩ := keyT_at s2.rl (x1.mono s2.mono) e1 e2
          have out : I p = none := rl.out hp
          have nz : p ≠ g.dz := rl.nz hp
          obtain ⟨o1, o2⟩ := (s1.trans s2).beside out nz upd_same rfl
          refine ⟨o2, b, ks, rfl, hb, ?_⟩
          have h : Kd.ok .t (.dtt [(.tup (ks.map kD), d)]) = true ∧ endA g I H Q (.dtt [(.tup (ks.map kD), d)]) := h
          refine h.2 p (.dT [(ks, v2)]) I2 _ ?_ (NT.of hp) nz o1 upd_same (show DRt g I2 [(ks, v2)] _ from .cons x2 .nil)
          exact ((s0.trans s1).trans s2).chg (NT.of hp) nz o1 o2 rfl
end
/-! ### d[k] = v -/
def wsPutT (i : Nat) (wk wv : WE) : WS := ⟨fun r k => ∃ kvs, r[i]? = some (Sl.own (.dtt kvs)) ∧ wv.run (allv r) (fun d => d.hsh = true ∧ wk.run (allv r) (fun y => y.hsh = true ∧ ∃ k', keyI y = some k' ∧ kvs.length < 100000 ∧ k.nx (r.set i (Sl.own (.dtt (putT kvs k' d))))) k.ex) k.ex,
  fun h ⟨x, e, q⟩ => ⟨x, e, wv.mono (fun _ ⟨z1, z2⟩ => ⟨z1, wk.mono (fun _ ⟨y1, x', y3, y4, y5⟩ => ⟨y1, x', y3, y4, h.nx _ y5⟩) h.ex z2⟩) h.ex q⟩⟩
def fsPutT (i : Nat) (fk fv : FE) : FS := fun r => match r[i]? with
  | some (.own (.dtt kvs)) => (fv (allv r)).bind fun d => if d.hsh = true then (fk (allv r)).bind fun y => if y.hsh = true then (match keyI y with
    | some k' => if kvs.length < 100000 then .ok (.nx (r.set i (.own (.dtt (putT kvs k' d))))) else .bad
    | none => .bad) else .bad else .bad
  | _ => .bad
theorem imp_putT {i : Nat} {fk fv : FE} : ImpS (fsPutT i fk fv) (wsPutT i (wOf fk) (wOf fv)) := fun r k q => by
  unfold fsPutT at q
  split at q
  · rename_i kvs e
    refine ⟨kvs, e, resW.mono (fun d z => ?_) (fun _ z => z) (resW_bind q)⟩
    obtain ⟨z1, z⟩ := resW_if z
    refine ⟨z1, resW.mono (fun y z => ?_) (fun _ z => z) (resW_bind z)⟩
    obtain ⟨z2, z⟩ := resW_if z
    split at z
    · rename_i k' ek
      split at z
      · rename_i hl
        exact ⟨z2, k', ek, hl, z⟩
      · exact z.elim
    · exact z.elim
  · exact q.elim
section
variable {X : Cx} {g : Gd} {E : XK} {wk wv : WE} {pos : Pos}
theorem s_putT (i : Nat) {x : Str} {px ps : Pos} {ek ev : Expr} (hu : X.A.units + 1 < cLine) (hk : PE X ek (tW g X.mg E wk)) (hv : PE X ev (tW g X.mg E wv)) (hN : X.N[i]? = some x := by rfl) (hvis : Vis X.env.scope x := by first | exact Or.inl rfl | exact Or.inr (Or.inl rfl) | exact Or.inr (Or.inr rfl)) (hd : (x == ("__debug__" : Str)) = false := by decide) (hcd : (x == ("__classdict__" : Str)) = false := by decide)
    (ha : ∀ v, assign (.Subscript (.Name x px) ek ps) X.env v = (do
      let ov ← holding [v] (eval (.Name x px) X.env)
      let iv ← holding [v, ov] (eval ek X.env)
      standAt ps
      holding [v, ov, iv] (setItem ov iv v)
      release [v, ov, iv] []) := by intro _; rfl)
    (hs : swapsWithSole [.Subscript (.Name x px) ek ps] ev pos.line X.env = pure false := by rfl) (hw : swappedStores [.Subscript (.Name x px) ek ps] ev X.env = pure none := by rfl) (h1 : (assignEach [.Subscript (.Name x px) ek ps] X.env).map (·.2) = [assign (.Subscript (.Name x px) ek ps) X.env] := by rfl) :
    PS X (.Assign [.Subscript (.Name x px) ek ps] ev pos) (tWS g X.mg E (wsPutT i wk wv)) :=
  (ps_asg hv (pg_sub (pv i hN hvis hd hcd) hk (set_dict hu) ha) hs hw h1).imp fun D σ H h => by
    obtain ⟨I0, H0, r, ⟨I, x⟩, kvs, hr, h⟩ := h
    refine SR.readH x h fun d v I1 H1 z x1 s1 y1 => ?_
    obtain ⟨p, o, q1, qq⟩ := x1.own i _ hr
    clear qq
    refine ⟨.ref p, q1, SR.readH x1 z fun y u I2 H2 z2 x2 s2 y2 => ?_⟩
    obtain ⟨k', ek, hl, z2⟩ := z2
    obtain ⟨p', o', r1, r2, r3, r4, r5, r6⟩ := x2.own i _ hr
    have ep : p' = p := by rw [q1] at r1; cases r1; rfl
    subst ep
    cases o' with
    | dT es =>
      have rv : DRt g I2 es kvs := r6
      obtain ⟨e1, e2⟩ := keyI_of ek
      obtain ⟨b, rfl, hb⟩ := keyT_at x2.stp.rl y2 e1 e2
      exact ⟨p', _, rfl, DPut.t r5 hb (by rw [rv.len]; exact Nat.lt_of_lt_of_le hl (by decide)), z2 _ _ ⟨I2, x2.put hr q1 (show DRt g I2 (putK es k' v) (putT kvs k' d) from rv.put (y1.mono s2))⟩⟩
    | _ => exact (show False from r6).elim
end
end FW
/-! Defs that give a new list of their own; min with a default; the least of lists. -/
namespace FW
open PySem PySem.Spec PyProof.Rows L2 LamX
section
variable {X : Cx} {g : Gd} {E : XK}
end
/-! ### a def that ends with a new list -/
section
variable {X : Cx} {g : Gd} {E : XK} {st : Stmt} {rest : List Stmt} {e : Expr} {a b : WS} {wr : WE} {pos : Pos}
end
theorem endO.step {g : Gd} {I H I' H' : Hp} {Q : VK} {d : D} (s : Stp g I H I' H') (h : endO g I H Q d) : endO g I' H' Q d := fun p I2 H2 q n nz hI hd => h p I2 H2 (s.trans q) (s.back n) nz hI hd
section
variable {X : Cx} {g : Gd} {E : XK} {k kl : Nat} {x : Str} {ps : List Str} {e : Expr} {es : List Expr} {p pos : Pos} {T : List (Addr × Str)}
end
section
variable {P : Program} {w : World} {K : PySem.W.Frag} {mg : Str → Option Value} {base : Heap} {T : List (Addr × Str)}
end
/-! ### min with a default -/
section
variable {X : Cx} {g : Gd} {E : XK}
end
end FW
/-! The least of a list of lists of ints. -/
namespace FW
open PySem PySem.Spec PyProof.Rows L2 LamX
def lstR (r : List Int) : D := .lst (r.map .int)
section
variable {X : Cx} {g : Gd} {E : XK} {I H : Hp} {pins : List (Addr × Obj)} {σ : L2.St} {s : Shared}
def StL (g : Gd) (I : Hp) (u : Value) (row : List Int) : Prop := ∃ v, RelV v u ∧ DR g I v (lstR row)
theorem StL.reads (J : Inv X pins σ H s) (rl : Rl g I H) {u : Value} {row : List Int} (h : StL g I u row) : ∃ as, Reads s.heap u (.list (row.map .int)) as := by
  obtain ⟨v, h1, h2⟩ := h
  have := Dp.reads J (lstR row).py v u ((h2.mono rl.sub).dp X.K (by unfold lstR; rw [D.lay]; exact lays_intsR row)) h1
  unfold lstR at this
  rw [D.py, py_ints] at this
  exact this
end
end FW
namespace FW
open PySem PySem.Spec PyProof.Rows L2 LamX
section
variable {X : Cx} {g : Gd} {E : XK} {a e : Expr} {es : List Expr} {fa : FE} {kk : FA} {p pos : Pos}
/-! ### min of a list or tuple of ints -/
end
end FW
/-! `for i, (a, b) in enumerate(zip(x, y))`. -/
namespace FW
open PySem PySem.Spec PyProof.Rows L2 LamX
section
variable {prog : Program} {w : World} {A : Around} {E : Value → Shared → Prop} {s : Shared} {z TI TO e i1 i2 : Addr} {fp1 fp2 : List Addr} {n1 n2 i : Nat} {P1 P2 : Nat → Value → Prop} {St1 St2 : Nat → Heap → Prop} {c : Int} {old : Value}
theorem ZSN.keep {h h' : Heap} (D1 : Draws prog w A i1 fp1 n1 P1 St1) (D2 : Draws prog w A i2 fp2 n2 P2 St2) (st : ZSN z TI TO i1 i2 St1 St2 i h) (k : ∀ b, b ∈ z :: TI :: TO :: (fp1 ++ fp2) → ∀ o, h.get? b = some o → h'.get? b = some o) : ZSN z TI TO i1 i2 St1 St2 i h' := by
  obtain ⟨c1, ⟨a1, a2, c2⟩, c3, c4, c5⟩ := st
  refine ⟨k TI (by simp) _ c1, ⟨a1, a2, k TO (by simp) _ c2⟩, D1.frame _ _ _ c3 fun b hb o y => k b (by simp [hb]) o y, D2.frame _ _ _ c4 fun b hb o y => k b (by simp [hb]) o y, ?_⟩
  rcases c5 with c5 | ⟨T, f, c5⟩
  · exact .inl (k z (by simp) _ c5)
  · exact .inr ⟨T, f, k z (by simp) _ c5⟩
end
end FW
/-! A dict of tuples is given back locked; its keys walked. -/
namespace FW
open PySem PySem.Spec PyProof.Rows L2 LamX
section
variable {X : Cx} {g : Gd} {E : XK} {e : Expr} {pos : Pos}
theorem pe_lockV {t : TE} (h : PE X e t) : PE X e (fun σ H Q => t σ H fun v H1 => ∃ a u, v = .ref a ∧ H1 a = some u ∧ Mut (some u) ∧ ∀ od, Q v (upd H1 a (.frz od u))) := by
  refine ⟨fun pins s σ H Q I hw => ?_⟩
  refine thn (h.run pins s σ H _ I hw) fun v s1 ⟨x, H1, I1, r, a, u, ex, ha, mu, q⟩ => ?_
  obtain ⟨od, I2⟩ := I1.lock ha mu
  exact ⟨x, _, I2, r, q od⟩
/-- return d, a dict of one's own: locked from now on -/
def wsRetT (i : Nat) : WS := ⟨fun r k => ∃ kvs, r[i]? = some (Sl.own (.dtt kvs)) ∧ k.rt (.dtf kvs), fun h ⟨kvs, e, q⟩ => ⟨kvs, e, h.rt _ q⟩⟩
theorem s_retT (i : Nat) {x : Str} {px : Pos} (hN : X.N[i]? = some x := by rfl) (hv : Vis X.env.scope x := by first | exact Or.inl rfl | exact Or.inr (Or.inl rfl) | exact Or.inr (Or.inr rfl)) (hd : (x == ("__debug__" : Str)) = false := by decide) (hcd : (x == ("__classdict__" : Str)) = false := by decide) :
    PS X (.Return (some (.Name x px)) pos) (tWS g X.mg E (wsRetT i)) := (ps_ret (pe_lockV (pv i hN hv hd hcd))).imp fun D σ H h => by
  obtain ⟨I0, H0, r, ⟨I, x⟩, kvs, hr, h⟩ := h
  obtain ⟨p, o, q1, q2, q3, q4, q5, q6⟩ := x.own i _ hr
  cases o with
  | dT es =>
    have rv : DRt g I es kvs := q6
    refine ⟨.ref p, q1, p, .dT es, rfl, q5, trivial, fun od => ?_⟩
    have s1 : Stp g I0 H0 I (upd H p (.frz od (.dT es))) := x.stp.chg q2 q3 q4 q5 rfl
    have s2 := s1.take (o := .frz od (.dT es)) q2 q3 q4 upd_same
    refine h _ _ _ s2 (.dF upd_same (rv.mono fun a u z => ?_))
    rw [upd_ne (ne_of_none z q4)]; exact z
  | _ => exact (show False from q6).elim
def fsRetT (i : Nat) : FS := fun r => match r[i]? with
  | some (.own (.dtt kvs)) => .ok (.rt (.dtf kvs))
  | _ => .bad
theorem imp_retT {i : Nat} : ImpS (fsRetT i) (wsRetT i) := fun r k q => by
  unfold fsRetT at q
  split at q
  · rename_i kvs e; exact ⟨kvs, e, q⟩
  · exact q.elim
/-! ### the keys -/
theorem DRs.keys {I : Hp} : ∀ k : List Key, DRs g I (k.map kV) (k.map kD)
  | [] => .nil
  | .inl i :: ks => .cons (.int i) (DRs.keys ks)
  | .inr x :: ks => .cons (.str x) (DRs.keys ks)
theorem DRt.at_ {I : Hp} : ∀ {es : List (List Key × V)} {kvs : List (D × D)} {i : Nat} {k : List Key} {v : V}, DRt g I es kvs → es[i]? = some (k, v) → ∃ d, kvs[i]? = some (.tup (k.map kD), d)
  | _, _, _, _, _, .nil, h => by simp at h
  | _, _, 0, _, _, .cons _ _, h => by simp at h; obtain ⟨rfl, rfl⟩ := h; exact ⟨_, rfl⟩
  | _, _, i + 1, k, v, .cons _ t, h => by
    obtain ⟨d, e⟩ := DRt.at_ (i := i) (k := k) (v := v) t (by simpa using h)
    exact ⟨d, by simpa using e⟩
theorem tup_in {I H : Hp} {q : Addr} {k : List Key} (rl : Rl g I H) (hq : H q = some (.tup (k.map kV))) (hi : intsK k = true) : ∃ I', Stp g I H I' H ∧ DR g I' (.ref q) (.tup (k.map kD)) := by
  have to : TupO (k.map kV) (.tup (k.map kV)) := .inl ⟨rfl, strs_ints k hi⟩
  cases e : I q with
  | some u =>
    have := rl.sub q u e
    rw [hq] at this; cases this
    exact ⟨I, rl.stp, .tup e to (DRs.keys k)⟩
  | none =>
    have nz : q ≠ g.dz := fun z => by
      obtain ⟨x, y, h⟩ := rl.dice
      rw [z, h] at hq; cases hq
    refine ⟨upd I q (.tup (k.map kV)), ⟨fun a u z => ?_, fun a u z => ?_, fun _ _ _ _ z => z, rl.take hq e nz (fun ps z => by cases z)⟩, .tup upd_same to (DRs.keys k)⟩
    · rw [upd_ne (ne_of_none z e)]; exact z
    · by_cases c : a = q
      · subst c; rw [upd_same] at z; cases z; exact .inr (.inr ⟨hq, _, rfl⟩)
      · rw [upd_ne c] at z; exact .inl z
def intsKD (kvs : List (D × D)) : Bool := kvs.all fun kv => (keyI kv.1).isSome
theorem src_keysF {I : Hp} {a : Addr} {o : Obj} {es : List (List Key × V)} {kvs : List (D × D)} (h : I a = some (.frz o (.dT es))) (hk : DRt g I es kvs) (hi : intsKD kvs = true) : Src g (Itkt a o es) I (kvs.map Prod.fst) where
  go := fun i I' H rl s hl => ⟨rl.sub _ _ (s _ _ h), by rw [hk.len]; simpa using hl⟩
  yld := fun i d I' H x H' rl s hd y => by
    obtain ⟨rfl, k, v, q, e1, rfl, hq⟩ := y
    obtain ⟨d', e2⟩ := hk.at_ e1
    have e3 : d = .tup (k.map kD) := by
      rw [List.getElem?_map, e2] at hd
      exact (Option.some.inj hd).symm
    subst e3
    have := List.all_eq_true.mp hi _ (List.mem_of_getElem? e2)
    have hik : intsK k = true := by
      have q : (keyI (.tup (k.map kD))).isSome = true := this
      unfold keyI at q
      rw [keyT_kD] at q
      dsimp only at q
      split at q
      · rename_i c; exact c
      · cases q
    exact tup_in rl hq hik
  stop := fun i I' H rl s hl => ⟨rl.sub _ _ (s _ _ h), by rw [hk.len, hl, List.length_map]; exact Nat.le_refl _⟩
def dIterF : D → Res (List D)
  | .dtf kvs => if intsKD kvs = true then .ok (kvs.map Prod.fst) else .bad
  | _ => .bad
def fIterF (f : FE) : FI := fun r => (f r).bind dIterF
theorem i_keysF {tg e : Expr} {f : FE} (h : PE X e (tF g X.mg E f)) : PI X tg e (tFI g X.mg E (fIterF f)) :=
  (pi_keys h).imp fun σ H R q => by
    obtain ⟨I, r, rl, er, q⟩ := q
    refine ⟨I, r, rl, er, Pst.first q fun d v I1 H1 _ s1 x1 h1 => ?_⟩
    unfold dIterF at h1
    split at h1
    · split at h1
      · rename_i c
        cases x1 with
        | dF hx rx => exact ⟨_, _, rfl, .inr ⟨_, s1.rl.sub _ _ hx, h1 _ I1 H1 s1.rl.stp (src_keysF hx rx c)⟩⟩
      · exact h1.elim
    · exact h1.elim
end
end FW
/-! sorted(d) of a locked dict whose keys are tuples of whole numbers, of any length. -/
namespace FW
open PySem PySem.Spec PyProof.Rows L2 LamX
section
variable {prog : Program} {w : World} {d : Addr} {o : Obj} {es : Array DictEntry} {ep : Nat}
theorem walks_keysO {A : Around} (hh : A.handled = none) (it : Addr) (hne : d ≠ it) (hd : o.data = .dict es ep) : Walks prog w A it [it, d] [it] es.size (fun i v => ∃ en : DictEntry, es[i]? = some en ∧ v = en.key) (fun i h => h.IsKeyIter it d i es.size ep ∧ h.get? d = some o) where
  sub := fun b hb => by simp at hb; simp [hb]
  frame := fun _ _ _ st hk => ⟨st.1.at fun o e => hk it (by simp) o e, hk d (by simp) o st.2⟩
  item := fun i s Q E hi st hQ => next_key_item st.1 st.2 hd rfl (Array.getElem?_eq_getElem hi) fun h' hit' hs' => hQ _ h' s.toks ⟨_, Array.getElem?_eq_getElem hi, rfl⟩ ⟨hit', (hs'.2 d hne).trans st.2⟩ fun b u hb e => (hs'.2 b (fun z => hb (by simp [z]))).trans e
  done := fun s Q E st hQ => next_key_end hh st.1 st.2 hd rfl (Nat.le_refl _) fun h' he' => hQ h' s.toks fun b u hb e => he' b u (fun z => hb (by simp [z])) e
  self := fun i s Q E st h => by
    refine wpAny_pyIter_slot st.1.typeIs F.slot_dict_keyiterator_iter (wpAny_call_entry F.slot_dict_keyiterator_iter st.1.typeIs F.entry_dict_keyiterator_iter ?_ (F.args_dict_keyiterator_iter_1 _))
    show wpAny _ _ (ret (.ref it)) _ _ s
    exact wpAny_pure ⟨_, rfl, "dict_keyiterator", _, st.1.typeIs, F.slot_dict_keyiterator_next.lookup, h⟩
theorem kdl_dictO (hs : (d == sysModules) = false) (hx : o.ExactDict) (hd : o.data = .dict es ep) : PySem.W.KdlSrc prog w "dict" d d es.size (fun i v => ∃ en : DictEntry, es[i]? = some en ∧ v = en.key) (fun h => h.get? d = some o) where
  type := fun _ h => ⟨o, h, hx.1⟩
  there := fun _ h => ⟨Heap.lt_size h, Heap.lt_size h⟩
  keep := fun _ _ h k => k d (.inl rfl) o h
  notList := by decide
  notTuple := by decide
  hint := fun _ _ _ _ h hq => PySem.W.kdl_hint_dict ⟨o, h, hx.1⟩ hq
  iter := fun A s hh h => ⟨_, _, fun _ _ hq => iter_keys hs h hx hd hq, walks_keysO hh _ (Nat.ne_of_lt (Heap.lt_size h)) hd, ⟨⟨_, Heap.get?_push_size _ rfl, rfl, rfl⟩, Heap.get?_push_of_some _ h⟩⟩
end
section
variable {X : Cx} {g : Gd} {E : XK} {I H : Hp} {pins : List (Addr × Obj)} {σ : L2.St} {s : Shared}
theorem ints_kD : ∀ {k : List Key} {row : List Int}, k.map kD = row.map D.int → k = row.map Sum.inl
  | [], [], _ => rfl
  | [], _ :: _, h => by cases h
  | _ :: _, [], h => by cases h
  | .inl i :: k, j :: row, h => by
    rw [List.map_cons, List.map_cons] at h
    injection h with h1 h2
    have h1 : D.int i = D.int j := h1
    injection h1 with h1
    rw [List.map_cons, ← ints_kD h2, h1]
  | .inr x :: k, j :: row, h => by
    rw [List.map_cons, List.map_cons] at h
    injection h with h1 h2
    cases h1
theorem ints_inl : ∀ row : List Int, intsK (row.map Sum.inl) = true := fun row => by
  unfold intsK
  rw [List.all_map]
  exact List.all_eq_true.mpr fun _ _ => rfl
theorem kD_inl (row : List Int) : (row.map (Sum.inl : Int → Key)).map kD = row.map D.int := by
  rw [List.map_map]; rfl
/-- the keys' tuples are taken in -/
theorem keys_in : ∀ {us : List Value} {rs : List (List Int)} {I : Hp}, Rl g I H → us.length = rs.length → (∀ (j : Nat) (row : List Int), rs[j]? = some row → ∃ q : Addr, us[j]? = some (Value.ref q) ∧ H q = some (.tup ((row.map (Sum.inl : Int → Key)).map kV))) → ∃ I', Stp g I H I' H ∧ PySem.W.EachIs (StR g I') us rs
  | [], [], I, rl, _, _ => ⟨I, rl.stp, .nil⟩
  | [], _ :: _, _, _, h, _ => by simp at h
  | _ :: _, [], _, _, h, _ => by simp at h
  | u :: us, row :: rs, I, rl, hl, hk => by
    obtain ⟨q, e1, e2⟩ := hk 0 row rfl
    obtain ⟨I1, s1, y1⟩ := tup_in rl e2 (ints_inl row)
    obtain ⟨I2, s2, y2⟩ := keys_in s1.rl (by simpa using hl) fun j r h => hk (j + 1) r (by simpa using h)
    have e1 : u = .ref q := by simpa using e1
    rw [kD_inl] at y1
    exact ⟨I2, s1.trans s2, .cons ⟨.ref q, e1, y1.mono s2.mono⟩ y2⟩
theorem readsA_nil {h : Heap} : ∀ {vs : List Value} {row : List Int} {as : List Addr}, ReadsAll h vs (row.map .int) as → as = []
  | _, [], _, r => by
    have r : ReadsAll h _ [] _ := r
    cases r; rfl
  | _, x :: row, _, r => by
    have r : ReadsAll h _ (.int x :: row.map .int) _ := r
    cases r with
    | cons h1 h2 =>
      cases h1
      rw [readsA_nil h2]; rfl
theorem reads_nil {h : Heap} {v : Value} {row : List Int} {as : List Addr} (r : Reads h v (.tuple (row.map .int)) as) : as = [] := by
  cases r with
  | tuple h1 h2 h3 h4 => exact readsA_nil h4
def dSortF (d : D) : Res D := match d with
  | .dtf kvs => match rowsD (kvs.map (·.1)) with
    | some rs => if rs.length ≤ 100000 then .ok (.lst ((sortB leR rs).map tupR)) else .bad
    | none => .bad
  | _ => .bad
def fSortF (fa : FE) : FE := fun r => (fa r).bind dSortF
theorem e_sortF {k : Nat} {a : Expr} {fa : FE} {p pos : Pos} (hc : X.calm = true) (hr : Room k X.A) (hg : Gl X "sorted") (hm : X.mg "sorted" = none) (ha : PE X a (tF g X.mg E fa))
    (na : starEach [a] X.env = (false, eval a X.env) :: starEach [] X.env := by rfl) : PE X (.Call (.Name "sorted" p) [a] [] pos) (tF g X.mg E (fSortF fa)) := by
  refine ⟨fun pins s σ H Q J h => ?_⟩
  obtain ⟨I, r, rl, er, h⟩ := h
  refine Call_ (ld_blt J hg hm (by decide +kernel : bootBuiltins "sorted" = some (.builtin "sorted")) ?_)
  refine PyProof.Rows.callWith_builtin1 (PyProof.Rows.args_cons (thn (ha.run pins s σ H _ J ⟨I, r, rl, er, Pst.first h fun d v I1 H1 _ s1 x1 h1 => (⟨I1, d, s1, x1, h1⟩ : ∃ I1 d, Stp g I H I1 H1 ∧ DR g I1 v d ∧ Pst g X.mg E (DR g) I1 H1 (dSortF d) Q)⟩) fun u s1 ⟨x, H1, J1, r1, q1⟩ => PyProof.Rows.args_nil ?_) na) na rfl
  obtain ⟨I1, d, st, x1, h1⟩ := q1
  unfold dSortF at h1
  split at h1
  · rename_i kvs
    split at h1
    · rename_i rs ers
      split at h1
      · rename_i hlen
        obtain ⟨ek, hne⟩ := rowsD_eq ers
        cases x1 with
        | @dF a o es _ hI t =>
          cases r1
          obtain ⟨hs, hgd, hx, ds, ep, hdt, hsz, ent⟩ := J1.frzT (st.rl.sub _ _ hI)
          have hkl : es.length = rs.length := by
            rw [t.len]
            have := congrArg List.length ek
            rw [List.length_map, List.length_map] at this
            exact this
          have hz : rs.length ≤ sizeLine := Nat.le_trans hlen (by rw [sizeLine_eq]; decide)
          refine Calls.call_function_entry PyProof.Rows.kind_sorted PyProof.Rows.plain_sorted PyProof.Rows.entry_sorted (PyProof.Rows.args_sorted1 _) ?_
          unfold Builtin.«sorted»
          refine wpAny_bind (m := checkCount "sorted" 1 1 _) (wpAny_pure ?_)
          refine wpAny_bind (PySem.W.kdu_collect (A := X.A.in1) (kdl_dictO hs hx hdt) (J1.ok.hd hc) hgd (by rw [hsz, hkl]; exact hz) fun h' tk acc hk hacc => ?_)
          have hal : acc.toList.length = rs.length := by rw [Array.length_toList, hacc.1, hsz, hkl]
          have J2 : Inv X pins σ H1 { s1 with heap := h', toks := tk } := J1.kept hk
          obtain ⟨I2, s2, ea⟩ := keys_in (us := acc.toList) (rs := rs) (I := I1) (H := H1) st.rl hal fun j row hj => by
            have hjl : j < es.length := by rw [hkl]; exact (List.getElem?_eq_some_iff.mp hj).1
            obtain ⟨⟨k, v⟩, e1⟩ : ∃ p, es[j]? = some p := ⟨es[j], List.getElem?_eq_getElem hjl⟩
            obtain ⟨en, q, e2, e3, e4⟩ := ent j k v e1
            have hja : j < acc.toList.length := by rw [hal, ← hkl]; exact hjl
            obtain ⟨en', e5, e6⟩ := hacc.2 j acc.toList[j] (by rw [← Array.getElem?_toList]; exact List.getElem?_eq_getElem hja)
            rw [e2] at e5
            cases e5
            refine ⟨q, by rw [List.getElem?_eq_getElem hja, e6, e3], ?_⟩
            obtain ⟨d', e7⟩ := t.at_ e1
            have e8 : (kvs.map (·.1))[j]? = some (.tup (k.map kD)) := by rw [List.getElem?_map, e7]; rfl
            rw [ek, List.getElem?_map, hj] at e8
            have e9 : tupR row = D.tup (k.map kD) := Option.some.inj e8
            injection e9 with e9
            rw [← ints_kD e9.symm]
            exact e4
          have rl2 := s2.rl
          have hal2 : PySem.W.AllAlike (rs.map fun row => PyData.tuple (row.map .int)) := PySem.W.AllAlike.of fun b b' => by rw [PySem.W.alike]; exact PySem.W.alike_ints b b'
          refine wpAny_bind (wpAny_newList ?_ (by rw [hal]; exact hz))
          have hoL : (h'.push (seqObj "list" acc.toList.toArray 0)).get? h'.objs.size = some (seqObj "list" acc.toList.toArray 0) := Heap.get?_push_size _ rfl
          show wpAny _ _ _ _ _ { s1 with heap := h'.push (seqObj "list" acc.toList.toArray 0), toks := tk }
          refine wpAny_bind (wpAny_holding (PySem.W.list_sort_data (s := { s1 with heap := h'.push (seqObj "list" acc.toList.toArray 0), toks := tk }) (bs := rs) (enc := fun row => .tuple (row.map .int)) (R := StR g I2) hoL ea (ea.mono fun u row q => ?_) hal2 (.inl fun d hd => ?_) hz (fun b hb => ?_) fun out hol hout => ?_))
          · obtain ⟨as, rd⟩ := q.reads J2 rl2
            have e := reads_nil rd
            subst e
            exact ⟨[], PyProof.Rows.Reads.keeps (fun _ _ => Heap.get?_push_of_some _) rd, by simp⟩
          · obtain ⟨row, hr', rfl⟩ := List.mem_map.mp hd
            obtain ⟨n, ns, rfl⟩ := hne row hr'
            exact ⟨.int n, ns.map .int, rfl⟩
          · show X.A.in1.units + 1 + (PyData.depthAll (b.map .int) + 1) < cLine
            rw [PySem.W.depth_ints]
            have := hr.un
            have e : X.A.in1.units = X.A.units + 1 := rfl
            omega
          · rw [dataLe_tups fun row => row, merge_eq totR] at hout
            obtain ⟨ys, y1, y2⟩ := rows_out hout
            obtain ⟨e', he'⟩ := PyProof.Rows.sortedHeap_at (vs := acc.toList) (out := List.toArray out) hoL
            have hle : ys.length ≤ sizeLine := by rw [y1.length, hol]; exact hz
            have hnS : H1 h'.objs.size = none := J2.hok.fresh (Nat.le_refl _)
            refine wpAny_pure ⟨_, rfl, .ref h'.objs.size, upd H1 h'.objs.size (.lst ys), J2.laid (t' := tk) (fun b u e => ?_) (Nat.le_refl _) ⟨hle, out, e', y1, he'⟩, rfl, ?_⟩
            · have hb : b < h'.objs.size := Heap.lt_size e
              rw [PyProof.Rows.sortedHeap_old (Nat.ne_of_lt hb) (by rw [size_push']; exact Nat.lt_succ_of_lt hb)]
              exact Heap.get?_push_of_some _ e
            · have s3 := rl2.put (o := .lst ys) hnS
              exact h1 _ _ _ (s2.trans s3) (.lst upd_same (y2.mono s3.mono))
      · exact h1.elim
    · exact h1.elim
  · exact h1.elim
end
end FW
set_option pp.maxSteps 800
/-! A dict comprehension whose keys are tuples. -/
namespace FW
open PySem PySem.Spec PyProof.Rows L2 LamX
section
variable {X : Cx} {pins : List (Addr × Obj)} {σ : L2.St} {H : Hp} {s : Shared}
/-- the comprehension's store, the key a tuple -/
theorem dictSetT {E : Value → Shared → Prop} {D q : Addr} {kvs : List (List Key × V)} {k : List Key} {v : V} {r : Value} {Q : Unit → Shared → Prop} (hu : X.A.units < cLine) (J : Inv X pins σ H s) (hD : H D = some (.dT kvs)) (hl : kvs.length < sizeLine) (hq : H q = some (.tup (k.map kV))) (rv : RelV v r)
    (go : ∀ s', Inv X pins σ (upd H D (.dT (putK kvs k v))) s' → Q () s') : wpAny (model X.prog X.w) X.A (dictSet D (.ref q) r) Q E s := by
  obtain ⟨z, lo, xs, rel, dd⟩ := dt_of J.hok hD
  have hxs : xs.length ≤ sizeLine := by rw [← Paired.length rel]; exact z
  have hpl : (putK kvs k v).length ≤ sizeLine := Nat.le_trans (length_putK kvs k v) hl
  refine wpAny_dictSet_heap (knd := tupleKind (mixKind X.prog X.w)) (hsz := hxs) (show X.A.units < cLine from hu) (key_of J.hok hq) dd fun h2 d2 sb => go _ ?_
  obtain ⟨o, es, ep, g1, g2, g3, g4, _, g5⟩ := d2
  refine d_write J (by rw [hD]; exact True.intro) sb ⟨o, g1⟩ ⟨hpl, lo, _, (rel.put k hq rv).keeps fun c ys ec => ?_, o, es, ep, g1, g2, g3, g4, g5⟩
  rw [upd_ne (ne_of ec hD fun z => nomatch z)]
  exact ec
/-- what the comprehension asks: D the new dict -/
def tDcT (wi : TI) (tg : TG) (tt : TT) (tk tv : TE) (vs : List Nat) : TE := fun σ H Q => wi σ H fun J H1 => ∀ D, H1 D = none → ∃ W : Nat → Nat → Hp → Prop, (∃ m, W 0 m (upd H1 D (.dT []))) ∧ ∀ i m H2, W i m H2 →
  (J.stop i H2 ∧ Q (.ref D) H2) ∨ (J.go i H2 ∧ ∃ Nx : Hp → Prop, (∀ H', Nx H' → ∃ m', m' < m ∧ W (i + 1) m' H') ∧ ∀ x H', J.yld i H2 x H' → tg x (wipe σ vs) H' fun σ2 H3 => wipe σ2 vs = wipe σ vs ∧ tt σ2 H3 fun b H4 =>
    if b = true then tk σ2 H4 fun y H5 => tv σ2 H5 fun z H6 => ∃ kvs k q, y = .ref q ∧ H6 q = some (.tup (List.map kV k)) ∧ H6 D = some (.dT kvs) ∧ kvs.length < sizeLine ∧ Nx (upd H6 D (.dT (putK kvs k z))) else Nx H4)
theorem dcT_core {kx vx tg iter : Expr} {ifs : List Expr} {scope : Scope} {own : List (Str × Nat)} {pos pos2 : Pos} {wi : TI} {gg : TG} {tt : TT} {tk tv : TE} {use : Option (Value → Sem Unit)} {Qf : Value → Shared → Prop} {Q : VK} (hu : X.A.units < cLine) (hc : X.calm = true) (hN : X.N.Nodup) (J0 : Inv X pins σ H s) (hi : PI X tg iter wi) (ok : BlkOk X.N X.env.scope scope own)
    (hg : ForBlk X scope fun B => PG B tg gg) (ht : ForBlk X scope fun B => PTs B ifs tt) (hk : ForBlk X scope fun B => PE B kx tk) (he : ForBlk X scope fun B => PE B vx tv) (hs : ∀ x, foldedSetIterable iter X.env x = pure x) (h : tDcT wi gg tt tk tv (own.map (·.2)) σ H Q)
    (fin : ∀ D C s' m H', Inv X pins σ H' s' → Q (.ref D) H' → s'.heap.Ns C m → FpOk X pins H' C → compPost (model X.prog X.w) X.A X.xe use Qf (.ref D) C (.ok .next) s') :
    wpAny (model X.prog X.w) X.A (comprehension (.DictComp kx vx [⟨tg, iter, ifs, 0⟩] scope pos) scope X.env pos2 newDict false (eval iter X.env) use) Qf X.xe s := by
  have cap : ∀ y ∈ scope.names, y.2 = .free → ∃ c, X.env.cells.lookup y.1 = some c := fun y hy e => (ok.free y hy e).elim (fun z => J0.ok.has _ (.inl z)) fun z => J0.ok.has _ (.inr z)
  refine wpAny_comprehension_free (use := use) rfl hs (closure_ok cap) ok.kind (fun y hy e => by rw [ok.uniq y hy, e]) (thn (hi.run pins s σ H _ J0 h) fun xv s1 hx => thn hx fun itv s2 h2 => ?_)
  obtain ⟨it, fp, tn, J, H2, rfl, J2, T, st2, f2, q⟩ := h2
  refine wpAny_newObj_type (newEnv_comp ?_)
  generalize hD : s2.heap.objs.size = D
  have hDn : H2 D = none := J2.hok.fresh (Nat.le_of_eq hD)
  obtain ⟨W, ⟨m0, w0⟩, turn⟩ := q D hDn
  -- the new dict
  generalize hs3 : ({ s2 with heap := s2.heap.push { cls := .type "dict", data := .dict #[] } } : Shared) = s3
  have h3 : s3.heap = s2.heap.push { cls := .type "dict", data := .dict #[] } := by rw [← hs3]
  have J3 : Inv X pins σ (upd H2 D (.dT [])) s3 := by
    subst hs3 hD
    exact J2.laid (t' := s2.toks) (fun _ _ => Heap.get?_push_of_some _) (Nat.le_refl _) (dt_empty s2.heap J2.big)
  have small : ∀ b ∈ fp, b < s2.heap.objs.size := fun b hb => Heap.lt_size (T.obj _ _ st2 b hb).choose_spec.1
  have f3 : ∀ b ∈ fp, FpOk X pins (upd H2 D (.dT [])) b ∧ b < s3.heap.objs.size := fun b hb => by
    have lt := small b hb
    refine ⟨⟨?_, (f2 b hb).2⟩, by rw [h3, Heap.size_push]; exact Nat.lt_succ_of_lt lt⟩
    rw [upd_ne (fun z => Nat.lt_irrefl _ (by rw [z, hD] at lt; exact lt))]
    exact (f2 b hb).1
  have st3 : tn 0 s3.heap := T.keep _ _ _ st2 fun _ _ _ e => by rw [h3]; exact Heap.get?_push_of_some _ e
  have J4 := block_start J3 ok hN f3
  generalize hcl : cellsFrom (s3.heap.objs.size + 1) scope.names (cloFrom X.env.cells scope.names []) = cl at J4
  have pg := hg s3 (upd H2 D (.dT [])) s3.heap.objs.size cl fp
  have pt := ht s3 (upd H2 D (.dT [])) s3.heap.objs.size cl fp
  have pk := hk s3 (upd H2 D (.dT [])) s3.heap.objs.size cl fp
  have pv := he s3 (upd H2 D (.dT [])) s3.heap.objs.size cl fp
  have none3 : ∀ b ∈ fp, (upd H2 D (.dT [])) b = none := fun b hb => (f3 b hb).1.1
  generalize hce : compEnvC scope cl s3.heap.objs.size X.env = ce at J4 pg pt pk pv
  have cL : ce.locals = s3.heap.objs.size := by rw [← hce]; rfl
  generalize hH3 : upd H2 D (.dT []) = H3 at J3 J4 pg pt pk pv w0 none3 f3
  generalize hs4 : ({ s3 with heap := pushCells (s3.heap.push { cls := .type "dict", data := .dict #[] }) scope.names } : Shared) = s4 at J4
  have st4 : tn 0 s4.heap := T.keep _ _ _ st3 fun _ _ _ e => by rw [← hs4]; exact pushCells_keeps _ _ _ _ (Heap.get?_push_of_some _ e)
  have held : ∀ {σ' : L2.St} {H' : Hp} {s' : Shared}, Inv (X.blk s3 H3 scope ce fp) [] σ' H' s' → (∀ b ∈ fp, H' b = none) → ∀ b ∈ fp, FpOk (X.blk s3 H3 scope ce fp) [] H' b := fun {σ' H' s'} J' nn b hb =>
    ⟨nn b hb, (J'.ok.exf b hb).1, J'.ok.exfs b hb, .inl hb, (J'.ok.exf b hb).2, fun p hp => by cases (show p ∈ ([] : List (Addr × Obj)) from hp)⟩
  have body : codeAny (model X.prog X.w) X.A (.compLoop (.DictComp kx vx [⟨tg, iter, ifs, 0⟩] scope pos) 0 (.ref it) (.ref D) ce) (compPost (model X.prog X.w) X.A X.xe use Qf (.ref D) s3.heap.objs.size) s4 := by
    refine compLoop_anyD (fun n s' => ∃ i H', Inv (X.blk s3 H3 scope ce fp) [] (wipe σ (own.map (·.2))) H' s' ∧ tn i s'.heap ∧ (∀ b ∈ fp, H' b = none) ∧ W i n H') ?_ m0 ⟨0, H3, J4, st4, none3, w0⟩
    rintro n s5 ⟨i, H5, J5, st5, none5, w5⟩
    rcases turn i n H5 w5 with ⟨hstop, hQ⟩ | ⟨hgo, Nx, hNx, step⟩
    · have out := T.done (X.blk s3 H3 scope ce fp) rfl rfl rfl hc i [] s5 _ H5 (fun _ _ => False) J5 (held J5 none5) st5 hstop
      refine thnF out fun r s6 ⟨hr, J6⟩ => ?_
      subst hr
      have J7 : Inv X pins σ H5 s6 := J3.call' (ch := fp) J6.os J6.base J6.hok J6.bare fun b hb => ⟨(f3 b hb).1.2.2.2.1, (f3 b hb).1.2.1, (f3 b hb).1.2.2.2.2.1, (f3 b hb).1.2.2.2.2.2⟩
      obtain ⟨m, hns, _⟩ := J6.loc
      have hns : s6.heap.Ns ce.locals m := hns
      have nC : H5 ce.locals = none := J6.free
      rw [cL] at hns nC
      exact fin D s3.heap.objs.size s6 m H5 J7 hQ hns (J3.fpOk (Nat.le_refl _) nC)
    · have nxt := T.item (X.blk s3 H3 scope ce fp) rfl rfl rfl hc i [] s5 _ H5 (fun _ _ => False) J5 (held J5 none5) st5 hgo
      refine thnF nxt fun r s6 ⟨u, hr, h6⟩ => ?_
      subst hr
      refine thnF h6 fun _ s7 ⟨x, H7, J7, r7, y7, st7, none7⟩ => ?_
      have J7p := J7.pinned (held J7 none7) (T.obj _ _ st7)
      refine thnF (pg.run _ s7 _ H7 x u _ J7p r7 (step x H7 y7)) fun _ s8 ⟨σ8, H8, J8, w8, q8⟩ => ?_
      refine thnF (pt.run _ s8 σ8 H8 _ J8 q8) fun b s9 ⟨H9, J9, q9⟩ => ?_
      have again : ∀ {s' : Shared} {H' : Hp}, Inv (X.blk s3 H3 scope ce fp) ([] ++ pinsAt fp s7.heap) σ8 H' s' → Nx H' → ∃ m, m < n ∧ ∃ i H', Inv (X.blk s3 H3 scope ce fp) [] (wipe σ (own.map (·.2))) H' s' ∧ tn i s'.heap ∧ (∀ b ∈ fp, H' b = none) ∧ W i m H' := fun {s' H'} J' nx => by
        obtain ⟨m', hm, w'⟩ := hNx H' nx
        have pinned : ∀ b ∈ fp, ∀ o, s7.heap.get? b = some o → s'.heap.get? b = some o ∧ H' b = none := fun b hb o e => by
          have z := J'.pin (b, o) (List.mem_append_right _ (List.mem_append_right _ (mem_pinsAt hb e)))
          exact ⟨z.1, z.2.1⟩
        refine ⟨m', hm, i + 1, H', (J'.unpinned (pins := [])).weak (by rw [← w8, wipe_length]) (fun j v e => ?_), T.keep _ _ _ st7 fun b hb o e => (pinned b hb o e).1, fun b hb => ?_, w'⟩
        · rw [← w8] at e
          exact (wipe_some e).1
        · exact (pinned b hb _ (T.obj _ _ st7 b hb).choose_spec.1).2
      cases b with
      | false => exact again J9 q9
      | true =>
        refine thnF (pk.run _ s9 σ8 H9 _ J9 q9) fun z s10 ⟨yk, H10, J10, r10, q10⟩ => ?_
        refine thnF (pv.run _ s10 σ8 H10 _ J10 q10) fun z2 s11 ⟨yv, H11, J11, r11, kvs, k, q, ek, hq11, hD11, hz11, nx⟩ => ?_
        subst ek
        cases (show z = Value.ref q from r10)
        exact dictSetT (X := X.blk s3 H3 scope ce fp) hu J11 hD11 hz11 hq11 r11 fun s12 J12 => again J12 nx
  have done := codeAny_compStart_dict body (T.self X.A 0 _ _ _ st4 body)
  rw [← hce] at done
  exact done
theorem sw_trueD {kx vx : Expr} {gs : List Comprehension} {scope : Scope} {pos py : Pos} {y : Str} {l : Nat} {env : PySem.Env} (h1 : env.scope.kind = .function) (h2 : env.scope.names.lookup y = some .local) (h3 : (py.line == pos.line) = true)
    (h4 : (scope.names.any fun (n, k) => n == y && (k == .local || k == .cell)) = false) : swapsWith (.DictComp kx vx gs scope pos) (some (.Name y py)) l env = pure true := by
  have e1 : env.blockKind = .function := by unfold PySem.Env.blockKind; rw [h1]; rfl
  have e2 : env.kindOf y = some .local := h2
  unfold swapsWith
  simp only [e1, e2, h4, Expr.pos, h3]
  rfl
/-- y = {k: v for ..} on one line, y a local -/
theorem ps_setDcT {i : Nat} {y : Str} {py : Pos} {kx vx tg iter : Expr} {ifs : List Expr} {scope : Scope} {own : List (Str × Nat)} {pos spos : Pos} {wi : TI} {gg : TG} {tt : TT} {tk tv : TE} (hu : X.A.units < cLine) (hc : X.calm = true) (hN : X.N.Nodup) (hy : X.N[i]? = some y) (hl : X.env.scope.names.lookup y = some .local)
    (sw : swapsWith (.DictComp kx vx [⟨tg, iter, ifs, 0⟩] scope pos) (some (.Name y py)) spos.line X.env = pure true) (hi : PI X tg iter wi) (ok : BlkOk X.N X.env.scope scope own) (hg : ForBlk X scope fun B => PG B tg gg) (ht : ForBlk X scope fun B => PTs B ifs tt) (hk : ForBlk X scope fun B => PE B kx tk) (he : ForBlk X scope fun B => PE B vx tv) (hs : ∀ x, foldedSetIterable iter X.env x = pure x) :
    PS X (.Assign [.Name y py] (.DictComp kx vx [⟨tg, iter, ifs, 0⟩] scope pos) spos) (fun D σ H => tDcT wi gg tt tk tv (own.map (·.2)) σ H fun x H1 => D.nx (σ.set i (some x)) H1) := by
  refine ⟨fun pins s σ H D J h => ?_⟩
  rw [exec_Assign_Name_used _ _ _ _ sw]
  refine wpAny_bind (wpAny_standAt (wpAny_bind ?_))
  show wpAny _ X.A (do let _ ← comprehension (.DictComp kx vx [⟨tg, iter, ifs, 0⟩] scope pos) scope X.env (firstIterPos [⟨tg, iter, ifs, 0⟩] pos) newDict false (eval iter X.env) (some (assign (.Name y py) X.env))) _ _ s
  refine wpAny_bind (thn (dcT_core (Qf := fun _ s2 => SP X pins D .next s2) hu hc hN J hi ok hg ht hk he hs h fun L C s1 m H1 J1 q ns fp => ?_) fun _ s2 q => wpAny_pure (wpAny_pure q))
  show wpAny _ _ (assign (.Name y py) X.env (.ref L)) _ _ _
  refine wpAny_assign_Name (store_ok2 (v := V.ref L) J1 hN hy (.inl hl) rfl (fun s2 J2 ⟨a, sb, ha⟩ => ?_) (.inr hl))
  obtain ⟨k0, k1, k2, k3, k4, k5⟩ := fp
  have ne : C ≠ a := ha.elim (fun z => by rw [z]; exact k1) fun z e => k4 y a z e.symm
  exact ⟨m, ns.sameBut sb ne, fun h2 sb2 => ⟨_, H1, J2.turned (t' := s2.toks) (fun b o hb e => (sb2.2 b hb).trans e) k0 k1 k3 k4 k5, q⟩⟩
end
end FW
set_option pp.maxSteps 800
/-! A dict of lists of one's own: made by a comprehension, its lists appended to, then kept as a value. -/
namespace FW
open PySem PySem.Spec PyProof.Rows L2 LamX
abbrev KL := List (List Key × List D)
/-- the lists ps stand beside the region, each with its data -/
inductive ME (g : Gd) (H0 I H : Hp) : List (List Key × V) → KL → List Addr → Prop
  | nil : ME g H0 I H [] [] []
  | cons {k : List Key} {p : Addr} {vs : List V} {ds : List D} {es : List (List Key × V)} {K : KL} {ps : List Addr} : H p = some (.lst vs) → DRs g I vs ds → NT H0 p → p ≠ g.dz → I p = none → p ∉ ps → ME g H0 I H es K ps → ME g H0 I H ((k, .ref p) :: es) ((k, ds) :: K) (p :: ps)
def pushK : KL → List Key → D → KL
  | [], _, _ => []
  | (k', ds) :: K, k, d => if k' = k then (k', ds ++ [d]) :: K else (k', ds) :: pushK K k d
def dKL (K : KL) : List (D × D) := K.map fun x => (.tup (x.1.map kD), .lst x.2)
section
variable {g : Gd} {H0 I H I' H' : Hp}
theorem ME.go {es : List (List Key × V)} {K : KL} {ps : List Addr} (h : ME g H0 I H es K ps) (s : Stp g I H I' H') : ME g H0 I' H' es K ps := by
  induction h with
  | nil => exact .nil
  | cons h1 h2 h3 h4 h5 h6 _ ih =>
    obtain ⟨a, b⟩ := s.beside h5 h4 h1 rfl
    exact .cons b (h2.mono s.mono) h3 h4 a h6 ih
theorem ME.upd {es : List (List Key × V)} {K : KL} {ps : List Addr} {a : Addr} {o : HO} (h : ME g H0 I H es K ps) (n : a ∉ ps) : ME g H0 I (L2.upd H a o) es K ps := by
  induction h with
  | nil => exact .nil
  | @cons k p vs ds es K ps h1 h2 h3 h4 h5 h6 _ ih =>
    rw [List.mem_cons, not_or] at n
    exact .cons (by rw [upd_ne (Ne.symm n.1)]; exact h1) h2 h3 h4 h5 h6 (ih n.2)
theorem ME.lists {es : List (List Key × V)} {K : KL} {ps : List Addr} (h : ME g H0 I H es K ps) : ∀ p ∈ ps, ∃ vs, H p = some (.lst vs) := by
  induction h with
  | nil => intro p hp; cases hp
  | cons h1 h2 h3 h4 h5 h6 _ ih =>
    intro q hq
    rcases List.mem_cons.mp hq with z | z
    · subst z; exact ⟨_, h1⟩
    · exact ih q z
theorem ME.snoc {es : List (List Key × V)} {K : KL} {ps : List Addr} {k : List Key} {p : Addr} {vs : List V} {ds : List D} (h : ME g H0 I H es K ps) (h1 : H p = some (.lst vs)) (h2 : DRs g I vs ds) (h3 : NT H0 p) (h4 : p ≠ g.dz) (h5 : I p = none) (n : p ∉ ps) : ME g H0 I H (es ++ [(k, .ref p)]) (K ++ [(k, ds)]) (ps ++ [p]) := by
  induction h with
  | nil => exact .cons h1 h2 h3 h4 h5 (by simp) .nil
  | @cons k' q vs' ds' es K ps g1 g2 g3 g4 g5 g6 _ ih =>
    rw [List.mem_cons, not_or] at n
    exact .cons g1 g2 g3 g4 g5 (fun z => (List.mem_append.mp z).elim g6 fun z => n.1 (List.mem_singleton.mp z).symm) (ih n.2)
theorem ME.keys {es : List (List Key × V)} {K : KL} {ps : List Addr} (h : ME g H0 I H es K ps) : es.map (·.1) = K.map (·.1) := by
  induction h with
  | nil => rfl
  | cons _ _ _ _ _ _ _ ih => rw [List.map_cons, List.map_cons, ih]
theorem ME.nt {es : List (List Key × V)} {K : KL} {ps : List Addr} (h : ME g H0 I H es K ps) {H1 : Hp} (k : ∀ p, NT H0 p → NT H1 p) : ME g H1 I H es K ps := by
  induction h with
  | nil => exact .nil
  | cons h1 h2 h3 h4 h5 h6 _ ih => exact .cons h1 h2 (k _ h3) h4 h5 h6 ih
/-- one of the lists grows -/
theorem ME.push {es : List (List Key × V)} {K : KL} {ps : List Addr} {k : List Key} (h : ME g H0 I H es K ps) (hk : k ∈ K.map (·.1)) : ∃ p vs ds, valV es k = some (.ref p) ∧ p ∈ ps ∧ H p = some (.lst vs) ∧ vs.length = ds.length ∧ (∃ x ∈ K, x.2 = ds) ∧ NT H0 p ∧ p ≠ g.dz ∧ I p = none ∧ ∀ x d, DR g I x d → ME g H0 I (L2.upd H p (.lst (vs ++ [x]))) es (pushK K k d) ps := by
  induction h with
  | nil => cases hk
  | @cons k' q vs' ds' es K ps g1 g2 g3 g4 g5 g6 g7 ih =>
    by_cases e : k' = k
    · subst e
      refine ⟨q, vs', ds', valV_pos rfl, List.mem_cons_self, g1, g2.len, ⟨_, List.mem_cons_self, rfl⟩, g3, g4, g5, fun x d y => ?_⟩
      rw [pushK, if_pos rfl]
      exact .cons upd_same (g2.app (.cons y .nil)) g3 g4 g5 g6 (g7.upd g6)
    · have hk' : k ∈ K.map (·.1) := by
        rw [List.map_cons] at hk
        exact (List.mem_cons.mp hk).resolve_left fun z => e z.symm
      obtain ⟨p, vs, ds, z1, z2, z3, z4, z5, z6, z7, z8, z9⟩ := ih hk'
      refine ⟨p, vs, ds, ?_, List.mem_cons_of_mem _ z2, z3, z4, let ⟨x, a, b⟩ := z5; ⟨x, List.mem_cons_of_mem _ a, b⟩, z6, z7, z8, fun x d y => ?_⟩
      · unfold valV at z1 ⊢
        rw [List.find?_cons]
        show Option.map _ (match decide (k' = k) with | true => _ | false => _) = _
        rw [decide_eq_false e]
        exact z1
      · rw [pushK, if_neg e]
        have hne : q ≠ p := fun z => g6 (by rw [z]; exact z2)
        exact .cons (by rw [upd_ne hne]; exact g1) g2 g3 g4 g5 g6 (z9 x d y)
/-- the lists become values -/
theorem ME.take {I0 : Hp} {es : List (List Key × V)} {K : KL} {ps : List Addr} (h : ME g H0 I H es K ps) (s : Stp g I0 H0 I H) : ∃ I', Stp g I0 H0 I' H ∧ Sub I I' ∧ DRt g I' es (dKL K) ∧ ∀ a, a ∉ ps → I' a = I a := by
  induction h with
  | nil => exact ⟨I, s, Sub.refl I, .nil, fun _ _ => rfl⟩
  | @cons k p vs ds es K ps h1 h2 h3 h4 h5 h6 _ ih =>
    obtain ⟨I1, s1, sb, r1, out⟩ := ih
    have hp : I1 p = none := by rw [out p h6]; exact h5
    have s2 := s1.take (o := .lst vs) h3 h4 hp h1
    have sb2 : Sub I1 (L2.upd I1 p (.lst vs)) := fun a u z => by rw [upd_ne (ne_of_none z hp)]; exact z
    refine ⟨_, s2, sb.trans sb2, .cons (.lst upd_same (h2.mono (sb.trans sb2))) (r1.mono sb2), fun a ha => ?_⟩
    rw [List.mem_cons, not_or] at ha
    rw [upd_ne ha.1]
    exact out a ha.2
end
section
variable {X : Cx} {g : Gd} {E : XK} {kx vx tg iter : Expr} {ifs : List Expr} {scope : Scope} {own : List (Str × Nat)} {pos : Pos} {fi : FI} {i : Nat}
def tupK (k : List Key) : D := .tup (k.map kD)
/-- {k: [] for k in ..} -/
def tMkL (g : Gd) (i : Nat) (fi : FI) : TE := fun σ H Q => ∃ (I : Hp) (r : Env) (ks : List (List Key)), Rl g I H ∧ ER g I σ r ∧ i < r.length ∧ fi r = .ok (ks.map tupK) ∧ ks.Nodup ∧ (∀ k ∈ ks, intsK k = true) ∧ ks.length ≤ 100000 ∧
  ∀ a I' H' es ps, Stp g I H I' H' → NT H a → a ≠ g.dz → I' a = none → H' a = some (.dT es) → ME g H I' H' es (ks.map fun k => (k, [])) ps → a ∉ ps → Q (.ref a) H'
theorem mkL_of {vs : List Nat} (his : i ∈ vs) {σ : L2.St} {H : Hp} {Q : VK} (h : tMkL g i fi σ H Q) : tDcT (tFI g X.mg E fi) (tFG g [i] (gN i)) (tFT g X.mg E0 fYes) (tF g X.mg E0 (fVar i)) (tLst tNil) vs σ H Q := by
  obtain ⟨I, r, ks, rl, er, hir, hf, nd, hin, hlen, hQ⟩ := h
  refine ⟨I, r, rl, er, ?_⟩
  rw [hf]
  intro J I1 H1 s1 src q0 hD
  have dz : q0 ≠ g.dz := s1.rl.nz hD
  have base : Stp g I1 H1 I1 (upd H1 q0 (.dT [])) := s1.rl.lay hD
  have dl : (ks.map tupK).length = ks.length := List.length_map ..
  let P : Nat → Hp → Prop := fun j H' => ∃ (I' : Hp) (es : List (List Key × V)) (ps : List Addr), Stp g I1 H1 I' H' ∧ I' q0 = none ∧ H' q0 = some (.dT es) ∧ ME g H I' H' es ((ks.take j).map fun k => (k, [])) ps ∧ q0 ∉ ps
  refine ⟨fun j m H' => m = ks.length - j ∧ j ≤ ks.length ∧ P j H', ⟨ks.length, rfl, Nat.zero_le _, I1, [], [], base, s1.rl.out hD, upd_same, by rw [List.take_zero]; exact .nil, by simp⟩, ?_⟩
  rintro j m H' ⟨rfl, hj, I', es, ps, s, hI, hDl, me, hq⟩
  by_cases hlt : j < ks.length
  · have hd : (ks.map tupK)[j]? = some (tupK ks[j]) := by rw [List.getElem?_map, List.getElem?_eq_getElem hlt]; rfl
    refine .inr ⟨src.go j I' H' s.rl s.mono (by rw [dl]; exact hlt), P (j + 1), fun H'' hN => ⟨ks.length - (j + 1), by omega, rfl, hlt, hN⟩, fun x H2 y => ?_⟩
    obtain ⟨I2, s2, xd⟩ := src.yld j (tupK ks[j]) I' H' x H2 s.rl s.mono hd y
    obtain ⟨hI2, hD2⟩ := s2.beside hI dz hDl rfl
    have il : i < (wipeE r vs).length := by rw [wipeE_len]; exact hir
    refine ⟨I2, wipeE r vs, tupK ks[j], s2.rl, (er.mono ((s1.mono.trans s.mono).trans s2.mono)).wipe _, xd, ?_⟩
    unfold gN
    rw [if_pos il]
    intro σ2 er2 df
    refine ⟨?_, I2, _, s2.rl, er2, ?_⟩
    · rw [wipe_eq (σ := L2.wipe σ vs) df.1 fun j hj => df.2 j fun z => hj (by rw [List.mem_singleton.mp z]; exact his)]
      exact wipe_eq (wipe_length σ _) fun j hj => wipe_get hj
    · intro v I3 H3 s3 e
      subst e
      refine ⟨I3, _, s3.rl, er2.mono s3.mono, ?_⟩
      have ev : fVar i ((wipeE r vs).set i (some (tupK ks[j]))) = .ok (tupK ks[j]) := by
        unfold fVar
        rw [List.getElem?_set_self il]
      rw [ev]
      intro v4 I4 H4 s4 x4
      have s24 := (s2.trans s3).trans s4
      obtain ⟨hI4, hD4⟩ := (s3.trans s4).beside hI2 dz hD2 rfl
      refine ⟨Nat.zero_le _, fun p hp => ?_⟩
      have hpn : p ≠ q0 := (ne_of_none hD4 hp).symm
      obtain ⟨b, rfl, hb⟩ := keyT_at s4.rl x4 (keyT_kD ks[j]) (hin _ (List.getElem_mem hlt))
      have s5 := s4.rl.lay (o := .lst []) hp
      have me5 := (me.go s24).go s5
      have nz : p ≠ g.dz := s4.rl.nz hp
      have pn : p ∉ ps := fun z => by
        obtain ⟨vs, e⟩ := (me.go s24).lists p z
        rw [hp] at e; cases e
      have hnt : NT H p := ((s1.trans s).trans s24).back (NT.of hp)
      have h5D : (upd H4 p (.lst [])) q0 = some (.dT es) := by rw [upd_ne hpn.symm]; exact hD4
      have hkeys := me.keys
      have hel : es.length ≤ j := by
        have := congrArg List.length hkeys
        rw [List.length_map, List.length_map, List.length_map, List.length_take] at this
        omega
      have hnk : (es.any fun kv => decide (kv.1 = ks[j])) = false := by
        rw [List.any_eq_false]
        intro kv hkv z
        have z := of_decide_eq_true z
        have m : kv.1 ∈ es.map (·.1) := List.mem_map_of_mem hkv
        rw [hkeys, List.map_map, z] at m
        obtain ⟨k', hk', e'⟩ := List.mem_map.mp m
        have e' : k' = ks[j] := e'
        subst e'
        obtain ⟨n, hn, e⟩ := List.getElem_of_mem hk'
        rw [List.getElem_take] at e
        rw [List.length_take] at hn
        exact List.pairwise_iff_getElem.mp nd n j (by omega) hlt (by omega) e
      refine ⟨es, ks[j], b, rfl, by rw [upd_ne (ne_of_none hb hp)]; exact hb, h5D, by rw [sizeLine_eq]; omega, I4, es ++ [(ks[j], .ref p)], ps ++ [p], ?_, hI4, ?_, ?_, fun z => ?_⟩
      · exact ((s.trans s24).trans s5).chg (NT.of hD) dz hI4 h5D rfl
      · unfold putK
        rw [hnk, if_neg (by decide)]
        exact upd_same
      · have := (me5.snoc (k := ks[j]) (p := p) (vs := []) (ds := []) upd_same .nil hnt nz (by
          cases e : I4 p with
          | none => rfl
          | some u => rw [s4.rl.sub p u e] at hp; cases hp) pn).upd (a := q0) (o := .dT (putK es ks[j] (.ref p))) fun z => (List.mem_append.mp z).elim hq fun z => hpn.symm (List.mem_singleton.mp z)
        rw [List.take_succ, List.getElem?_eq_getElem hlt]
        rw [List.map_append]
        exact this
      · exact (List.mem_append.mp z).elim hq fun z => hpn.symm (List.mem_singleton.mp z)
  · have ej : j = ks.length := by omega
    subst ej
    rw [List.take_length] at me
    exact .inl ⟨src.stop _ I' H' s.rl s.mono dl.symm, hQ q0 I' H' es ps (s1.trans s) (s1.back (NT.of hD)) dz hI hDl me hq⟩
theorem s_mkL {m : Nat} {y : Str} {py spos : Pos} (hu : X.A.units < cLine) (hc : X.calm = true) (hN : X.N.Nodup) (sw : swapsWith (.DictComp kx vx [⟨tg, iter, [], 0⟩] scope pos) (some (.Name y py)) spos.line X.env = pure true) (hi : PI X tg iter (tFI g X.mg E fi)) (ok : BlkOk X.N X.env.scope scope own) (his : i ∈ own.map (·.2)) (hg : ForBlk X scope fun B => PG B tg (tFG g [i] (gN i)))
    (hk : ForBlk X scope fun B => PE B kx (tF g B.mg E0 (fVar i))) (hv : ForBlk X scope fun B => PE B vx (tLst tNil)) (ht : ForBlk X scope fun B => PTs B [] (tFT g B.mg E0 fYes)) (hy : X.N[m]? = some y := by rfl) (hl : X.env.scope.names.lookup y = some .local := by rfl) (hs : ∀ x, foldedSetIterable iter X.env x = pure x := by intro _; rfl) :
    PS X (.Assign [.Name y py] (.DictComp kx vx [⟨tg, iter, [], 0⟩] scope pos) spos) (fun D σ H => tMkL g i fi σ H fun x H1 => D.nx (σ.set m (some x)) H1) :=
  (ps_setDcT (i := m) (gg := tFG g [i] (gN i)) (tt := tFT g X.mg E0 fYes) (tk := tF g X.mg E0 (fVar i)) (tv := tLst tNil) hu hc hN hy hl sw hi ok hg ht hk hv hs).imp fun D σ H h => mkL_of his h
end
end FW
set_option pp.maxSteps 800
/-! d = {k: [] for k in ..}; for s in ..: for n, y in ..: d[y].append(s): two statements at once. -/
namespace FW
open PySem PySem.Spec PyProof.Rows L2 LamX
def noOwn (r : Env2) : Bool := r.all fun s => match s with
  | .own _ => false
  | _ => true
theorem noOwn_get {r : Env2} (h : noOwn r = true) {i : Nat} {d : D} : r[i]? ≠ some (Sl.own d) := fun e => by
  have := List.all_eq_true.mp h _ (List.mem_of_getElem? e)
  cases this
theorem noOwn_set {r : Env2} (h : noOwn r = true) (i : Nat) (d : D) : noOwn (r.set i (.val d)) = true := List.all_eq_true.mpr fun s hs => by
  rcases List.mem_or_eq_of_mem_set hs with z | z
  · exact List.all_eq_true.mp h s z
  · rw [z]
theorem noOwn_un {r : Env2} (h : noOwn r = true) (i : Nat) : noOwn (r.set i .un) = true := List.all_eq_true.mpr fun s hs => by
  rcases List.mem_or_eq_of_mem_set hs with z | z
  · exact List.all_eq_true.mp h s z
  · rw [z]
def grow1 (n y : Nat) (s : D) : List D → Env2 → KL → Res (Env2 × KL)
  | [], r, K => .ok (r, K)
  | d :: ds, r, K => match d with
    | .tup [a, b] => match keyI b with
      | some k => if ((K.any fun x => decide (x.1 = k)) && K.all fun x => decide (x.2.length < 100000)) = true then grow1 n y s ds ((r.set n (.val a)).set y (.val b)) (pushK K k s) else .bad
      | none => .bad
    | _ => .bad
def grow (fi : FI) (s n y : Nat) : List D → Env2 → KL → Res (Env2 × KL)
  | [], r, K => .ok (r, K)
  | d :: ds, r, K => match fi (plain (r.set s (.val d))) with
    | .ok es => match grow1 n y d es (r.set s (.val d)) K with
      | .ok p => grow fi s n y ds p.1 p.2
      | _ => .bad
    | _ => .bad
/-- the state while the lists grow -/
structure GS (g : Gd) (I1 H0 : Hp) (m : Nat) (a : Addr) (r : Env2) (K : KL) (I : Hp) (σ : L2.St) (H : Hp) : Prop where
  sri : SRI g I1 H0 I r σ H
  no : noOwn r = true
  un : r[m]? = some .un
  at_ : σ[m]? = some (some (.ref a))
  na : NT H0 a
  nz : a ≠ g.dz
  ni : I a = none
  me : ∃ es ps, H a = some (.dT es) ∧ ME g H0 I H es K ps ∧ a ∉ ps
section
variable {g : Gd} {I1 H0 I H I' H' : Hp} {m : Nat} {a : Addr} {r : Env2} {K : KL} {σ : L2.St}
theorem GS.go (x : GS g I1 H0 m a r K I σ H) (s : Stp g I H I' H') : GS g I1 H0 m a r K I' σ H' := by
  obtain ⟨es, ps, h1, h2, h3⟩ := x.me
  obtain ⟨z1, z2⟩ := s.beside x.ni x.nz h1 rfl
  exact ⟨x.sri.go s, x.no, x.un, x.at_, x.na, x.nz, z1, es, ps, z2, h2.go s, h3⟩
theorem GS.setV (x : GS g I1 H0 m a r K I σ H) {i : Nat} {v : V} {d : D} (hi : i < r.length) (hm : i ≠ m) (y : DR g I v d) : GS g I1 H0 m a (r.set i (.val d)) K I (σ.set i (some v)) H :=
  ⟨x.sri.setV hi y, noOwn_set x.no i d, by rw [List.getElem?_set_ne hm]; exact x.un, by rw [List.getElem?_set_ne hm]; exact x.at_, x.na, x.nz, x.ni, x.me⟩
/-- one of the lists grows -/
theorem GS.push (x : GS g I1 H0 m a r K I σ H) {k : List Key} (hk : k ∈ K.map (·.1)) (hK : ∀ x ∈ K, x.2.length < 100000) : ∃ es p vs, H a = some (.dT es) ∧ valV es k = some (.ref p) ∧ H p = some (.lst vs) ∧ vs.length < sizeLine ∧ ∀ v d, DR g I v d → GS g I1 H0 m a r (pushK K k d) I σ (upd H p (.lst (vs ++ [v]))) := by
  obtain ⟨es, ps, h1, h2, h3⟩ := x.me
  obtain ⟨p, vs, ds, z1, z2, z3, z4, ⟨w, w1, w2⟩, z6, z7, z8, z9⟩ := h2.push hk
  refine ⟨es, p, vs, h1, z1, z3, ?_, fun v d y => ?_⟩
  · have := hK w w1
    rw [z4, ← w2, sizeLine_eq]; omega
  · have hap : a ≠ p := fun z => h3 (by rw [z]; exact z2)
    have s : SRI g I1 H0 I r σ (upd H p (.lst (vs ++ [v]))) := ⟨x.sri.stp.chg z6 z7 z8 z3 rfl, x.sri.len, x.sri.val, fun i e h => absurd h (noOwn_get x.no), fun i j e f q h => absurd h (noOwn_get x.no)⟩
    exact ⟨s, x.no, x.un, x.at_, x.na, x.nz, x.ni, es, ps, by rw [upd_ne hap]; exact h1, z9 v d y, h3⟩
/-- behind the loops the dict is a value -/
theorem GS.done (x : GS g I1 H0 m a r K I σ H) : SR g I1 H0 (r.set m (.val (.dtt (dKL K)))) σ H := by
  obtain ⟨es, ps, h1, h2, h3⟩ := x.me
  obtain ⟨I2, s2, sb, r2, out⟩ := h2.take x.sri.stp
  have na2 : I2 a = none := by rw [out a h3]; exact x.ni
  have s3 := s2.take (o := .dT es) x.na x.nz na2 h1
  have sb3 : Sub I2 (upd I2 a (.dT es)) := fun b u z => by rw [upd_ne (ne_of_none z na2)]; exact z
  have hm : m < r.length := (List.getElem?_eq_some_iff.mp x.un).1
  refine ⟨_, s3, by rw [List.length_set]; exact x.sri.len, fun i d h => ?_, fun i d h => ?_, fun i j d e q h => ?_⟩
  · by_cases e : i = m
    · subst e
      rw [List.getElem?_set_self hm] at h
      cases h
      exact ⟨.ref a, x.at_, .dT (.inl upd_same) (r2.mono sb3)⟩
    · rw [List.getElem?_set_ne (Ne.symm e)] at h
      obtain ⟨v, h1, h2⟩ := x.sri.val i d h
      exact ⟨v, h1, h2.mono (sb.trans sb3)⟩
  · exact absurd h (noOwn_get (noOwn_set x.no m _))
  · exact absurd h (noOwn_get (noOwn_set x.no m _))
end
section
variable {X : Cx} {g : Gd} {E : XK} {k : Nat}
/-- the inner loop's body -/
theorem ps_grow {s y m : Nat} {xm xs xy : Str} {p1 p2 p3 sp ap cp ep : Pos} (B : Bd X E k) (hm : X.N[m]? = some xm := by rfl) (hs : X.N[s]? = some xs := by rfl) (hy : X.N[y]? = some xy := by rfl)
    (vm : Vis X.env.scope xm := by first | exact Or.inl rfl | exact Or.inr (Or.inl rfl) | exact Or.inr (Or.inr rfl)) (vs : Vis X.env.scope xs := by first | exact Or.inl rfl | exact Or.inr (Or.inl rfl) | exact Or.inr (Or.inr rfl)) (vy : Vis X.env.scope xy := by first | exact Or.inl rfl | exact Or.inr (Or.inl rfl) | exact Or.inr (Or.inr rfl))
    (dm : (xm == ("__debug__" : Str)) = false := by decide) (ds : (xs == ("__debug__" : Str)) = false := by decide) (dy : (xy == ("__debug__" : Str)) = false := by decide)
    (cm : (xm == ("__classdict__" : Str)) = false := by decide) (cs : (xs == ("__classdict__" : Str)) = false := by decide) (cy : (xy == ("__classdict__" : Str)) = false := by decide)
    (hbase : attributeBase (.Subscript (.Name xm p1) (.Name xy p2) sp) "append" X.env (eval (.Subscript (.Name xm p1) (.Name xy p2) sp) X.env) = eval (.Subscript (.Name xm p1) (.Name xy p2) sp) X.env := by rfl)
    (hfew : ((backTo cp (starEach [.Name xs p3] X.env)).all (fun x => !x.1) && (backToKw cp (keywordEach [] X.env)).all (fun x => x.1.isSome) && decide ([Expr.Name xs p3].length + ([] : List Keyword).length + (if ([] : List Keyword).isEmpty then 0 else 1) < 30)) = true := by rfl)
    (hline : (ap.endLine == cp.line) = true := by rfl) (hst : starEach [.Name xs p3] X.env = (false, eval (.Name xs p3) X.env) :: starEach [] X.env := by rfl) (hpl : (backTo cp (starEach [] X.env)).any (·.1) = false := by rfl)
    (hsw : swapsWith (.Call (.Attribute (.Subscript (.Name xm p1) (.Name xy p2) sp) "append" ap) [.Name xs p3] [] cp) none ep.line X.env = pure false := by rfl) (hns : NoSl (.Name xy p2) := by exact fun _ _ => rfl) :
    PS X (.Expr (.Call (.Attribute (.Subscript (.Name xm p1) (.Name xy p2) sp) "append" ap) [.Name xs p3] [] cp) ep) (fun D σ H => ∃ I1 H0 a r K I b kk d, GS g I1 H0 m a r K I σ H ∧ r[y]? = some (.val b) ∧ keyI b = some kk ∧ r[s]? = some (.val d) ∧ kk ∈ K.map (·.1) ∧ (∀ x ∈ K, x.2.length < 100000) ∧ ∀ H', GS g I1 H0 m a r (pushK K kk d) I σ H' → D.nx σ H') :=
  (ps_expr (pe_bm PySem.F.plainAttrs_list PySem.F.slot_list_append PySem.F.type_list_append mt_append (pe_dget (Nat.lt_of_le_of_lt (Nat.add_le_add_left (by decide) _) B.hr.units) (pv m hm vm dm cm) (pv y hy vy dy cy) hns) (pa_cons (pv s hs vs ds cs) pa_nil hst) hbase hfew hline hst hpl) hsw).imp fun D σ H h => by
    obtain ⟨I1, H0, a, r, K, I, b, kk, d, x, hb, hk, hd, hin, hK, h⟩ := h
    obtain ⟨es, p, vs, g1, g2, g3, g4, g5⟩ := x.push hin hK
    obtain ⟨vb, b1, b2⟩ := x.sri.val y b hb
    obtain ⟨vd, d1, d2⟩ := x.sri.val s d hd
    obtain ⟨ek, ei⟩ := keyI_of hk
    obtain ⟨q, rfl, hq⟩ := keyT_at x.sri.stp.rl b2 ek ei
    refine ⟨.ref a, x.at_, .ref q, b1, a, .ref p, rfl, .inr ⟨es, kk, q, .inl g1, rfl, hq, g2.symm⟩, .inl ⟨rfl, vs, SqL.of g3⟩, vd, d1, ?_⟩
    exact ⟨p, vs, vd, rfl, rfl, g3, g4, h _ (g5 vd d d2)⟩
/-- the inner loop -/
theorem ps_growIn {s n y m kk : Nat} {xm xs xn xy : Str} {iter : Expr} {p1 p2 p3 p4 p5 sp ap cp ep tp fp : Pos} {fi : FI} (B : Bd X E k) (hi : PI X (.Tuple [.Name xn p4, .Name xy p5] kk tp) iter (tFI g X.mg E fi))
    (hb : PS X (.Expr (.Call (.Attribute (.Subscript (.Name xm p1) (.Name xy p2) sp) "append" ap) [.Name xs p3] [] cp) ep) (fun D σ H => ∃ I1 H0 a r K I b kk d, GS g I1 H0 m a r K I σ H ∧ r[y]? = some (.val b) ∧ keyI b = some kk ∧ r[s]? = some (.val d) ∧ kk ∈ K.map (·.1) ∧ (∀ x ∈ K, x.2.length < 100000) ∧ ∀ H', GS g I1 H0 m a r (pushK K kk d) I σ H' → D.nx σ H'))
    (hn : X.N[n]? = some xn := by rfl) (hy : X.N[y]? = some xy := by rfl) (ln : Loc X.env.scope xn := by first | exact Or.inl rfl | exact Or.inr rfl) (ly : Loc X.env.scope xy := by first | exact Or.inl rfl | exact Or.inr rfl)
    (fn : X.fn xn = true ∨ X.env.scope.names.lookup xn = some .local := by first | exact .inl rfl | exact .inr rfl | assumption) (fy : X.fn xy = true ∨ X.env.scope.names.lookup xy = some .local := by first | exact .inl rfl | exact .inr rfl | assumption)
    (dnm : n ≠ m := by decide) (dym : y ≠ m := by decide) (dny : n ≠ y := by decide) (dns : n ≠ s := by decide) (dys : y ≠ s := by decide)
    (as : (assignEach [.Name xn p4, .Name xy p5] X.env).map (·.2) = assign (.Name xn p4) X.env :: (assignEach [.Name xy p5] X.env).map (·.2) := by rfl) (as2 : (assignEach [.Name xy p5] X.env).map (·.2) = assign (.Name xy p5) X.env :: (assignEach [] X.env).map (·.2) := by rfl)
    (al : (assignEach [.Name xn p4, .Name xy p5] X.env).length = 2 := by rfl) (ast : (assignEach [.Name xn p4, .Name xy p5] X.env).findIdx? (·.1) = none := by rfl) (hs : ∀ x, foldedSetIterable iter X.env x = pure x := by intro _; rfl) :
    PS X (.For (.Tuple [.Name xn p4, .Name xy p5] kk tp) iter [.Expr (.Call (.Attribute (.Subscript (.Name xm p1) (.Name xy p2) sp) "append" ap) [.Name xs p3] [] cp) ep] [] fp) (fun D σ H => ∃ I1 H0 a r K I d es r' K', GS g I1 H0 m a r K I σ H ∧ r[s]? = some (.val d) ∧ n < r.length ∧ y < r.length ∧ fi (plain r) = .ok es ∧ grow1 n y d es r K = .ok (r', K') ∧ ∀ I' σ' H', GS g I1 H0 m a r' K' I' σ' H' → D.nx σ' H') :=
  (ps_for B.po B.hc hi (pg_tup B.hc (pgs_cons (pg_name B.nd hn ln fn) (pgs_cons (pg_name B.nd hy ly fy) pgs_nil as2) as) al ast) (pss_one hb) hs).imp fun D σ H h => by
    obtain ⟨I1, H0, a, r, K, I, d, es, r', K', x, hd, hnl, hyl, hfi, hg, h⟩ := h
    refine ⟨I, plain r, x.sri.stp.rl, x.sri.er, ?_⟩
    rw [hfi]
    intro J I2 H2 s2 src
    have x2 := x.go s2
    have reb : ∀ {r K I' σ' H'}, GS g I2 H0 m a r K I' σ' H' → GS g I1 H0 m a r K I' σ' H' := fun z => ⟨⟨x2.sri.stp.rebase z.sri.stp, z.sri.len, z.sri.val, z.sri.own, z.sri.inj⟩, z.no, z.un, z.at_, z.na, z.nz, z.ni, z.me⟩
    have base : GS g I2 H0 m a r K I2 σ H2 := ⟨⟨⟨Sub.refl _, fun _ _ z => .inl z, x2.sri.stp.keep, x2.sri.stp.rl⟩, x2.sri.len, x2.sri.val, x2.sri.own, x2.sri.inj⟩, x2.no, x2.un, x2.at_, x2.na, x2.nz, x2.ni, x2.me⟩
    refine ⟨fun i q σ' H' => ∃ r1 K1 I', q = es.length - i ∧ i ≤ es.length ∧ GS g I2 H0 m a r1 K1 I' σ' H' ∧ r1[s]? = some (.val d) ∧ n < r1.length ∧ y < r1.length ∧ grow1 n y d (es.drop i) r1 K1 = .ok (r', K'), ⟨es.length, r, K, I2, rfl, Nat.zero_le _, base, hd, hnl, hyl, by rw [List.drop_zero]; exact hg⟩, ?_⟩
    rintro i q σ' H' ⟨r1, K1, I', rfl, hle, y1, hd1, hn1, hy1, hg1⟩
    by_cases hlt : i < es.length
    · rw [List.drop_eq_getElem_cons hlt] at hg1
      refine .inr ⟨src.go i I' H' y1.sri.stp.rl y1.sri.stp.mono hlt, fun σ3 H3 => ∃ r1 K1 I', GS g I2 H0 m a r1 K1 I' σ3 H3 ∧ r1[s]? = some (.val d) ∧ n < r1.length ∧ y < r1.length ∧ grow1 n y d (es.drop (i + 1)) r1 K1 = .ok (r', K'), fun σ3 H3 ⟨r3, K3, I3, z1, z2, z3, z4, z5⟩ => ⟨es.length - (i + 1), by omega, r3, K3, I3, rfl, hlt, z1, z2, z3, z4, z5⟩, fun v H3 yy => ?_⟩
      obtain ⟨I3, s3, xd⟩ := src.yld i es[i] I' H' v H3 y1.sri.stp.rl y1.sri.stp.mono (List.getElem?_eq_getElem hlt) yy
      have y3 := y1.go s3
      unfold grow1 at hg1
      split at hg1
      · rename_i a1 b1 e1
        split at hg1
        · rename_i k1 ek1
          split at hg1
          · rename_i c1
            rw [Bool.and_eq_true, List.any_eq_true, List.all_eq_true] at c1
            have c2 : k1 ∈ K1.map (·.1) := let ⟨x, h1, h2⟩ := c1.1; by
              rw [← of_decide_eq_true h2]; exact List.mem_map_of_mem h1
            rw [e1] at xd
            cases xd with
            | tup hx ux rx =>
              rename_i aa vs u
              cases rx with
              | @cons va _ _ _ ra rx =>
                cases rx with
                | @cons vb _ _ _ rb rx =>
                  cases rx
                  refine ⟨aa, [va, vb], rfl, ux.sqt (y3.sri.stp.rl.sub _ _ hx), rfl, va, [vb], rfl, vb, [], rfl, rfl, ?_⟩
                  have y4 := (y3.setV hn1 dnm ra).setV (i := y) (by rw [List.length_set]; exact hy1) dym rb
                  refine ⟨I2, H0, a, _, K1, I3, b1, k1, d, y4, List.getElem?_set_self (by rw [List.length_set]; exact hy1), ek1, ?_, c2, fun x hx => of_decide_eq_true (c1.2 x hx), fun H5 y5 => ⟨_, _, I3, y5, ?_, by rw [List.length_set, List.length_set]; exact hn1, by rw [List.length_set, List.length_set]; exact hy1, hg1⟩⟩
                  · rw [List.getElem?_set_ne dys, List.getElem?_set_ne dns]; exact hd1
                  · rw [List.getElem?_set_ne dys, List.getElem?_set_ne dns]; exact hd1
          · cases hg1
        · cases hg1
      · cases hg1
    · have ei : i = es.length := by omega
      subst ei
      rw [List.drop_length] at hg1
      cases hg1
      exact .inl ⟨src.stop _ I' H' y1.sri.stp.rl y1.sri.stp.mono rfl, h _ _ _ (reb y1)⟩
end
end FW
set_option pp.maxSteps 800
/-! The dict of lists made and filled, as one rule. -/
namespace FW
open PySem PySem.Spec PyProof.Rows L2 LamX
theorem grow1_len {n y : Nat} {d : D} : ∀ {es : List D} {r r' : Env2} {K K' : KL}, grow1 n y d es r K = .ok (r', K') → r'.length = r.length
  | [], r, r', K, K', e => by cases e; rfl
  | e0 :: es, r, r', K, K', e => by
    unfold grow1 at e
    split at e
    · split at e
      · split at e
        · rw [grow1_len e, List.length_set, List.length_set]
        · cases e
      · cases e
    · cases e
section
variable {X : Cx} {g : Gd} {E : XK} {k : Nat}
/-- the outer loop -/
theorem ps_growOut {s n y m : Nat} {xs : Str} {iter2 : Expr} {inner : Stmt} {ps fp : Pos} {fi2 fi3 : FI} (B : Bd X E k) (hi : PI X (.Name xs ps) iter2 (tFI g X.mg E fi2))
    (hb : PS X inner (fun D σ H => ∃ I1 H0 a r K I d es r' K', GS g I1 H0 m a r K I σ H ∧ r[s]? = some (.val d) ∧ n < r.length ∧ y < r.length ∧ fi3 (plain r) = .ok es ∧ grow1 n y d es r K = .ok (r', K') ∧ ∀ I' σ' H', GS g I1 H0 m a r' K' I' σ' H' → D.nx σ' H'))
    (hs : X.N[s]? = some xs := by rfl) (ls : Loc X.env.scope xs := by first | exact Or.inl rfl | exact Or.inr rfl) (fs : X.fn xs = true ∨ X.env.scope.names.lookup xs = some .local := by first | exact .inl rfl | exact .inr rfl | assumption) (dsm : s ≠ m := by decide)
    (hf : ∀ x, foldedSetIterable iter2 X.env x = pure x := by intro _; rfl) :
    PS X (.For (.Name xs ps) iter2 [inner] [] fp) (fun D σ H => ∃ I1 H0 a r K I ss r' K', GS g I1 H0 m a r K I σ H ∧ s < r.length ∧ n < r.length ∧ y < r.length ∧ fi2 (plain r) = .ok ss ∧ grow fi3 s n y ss r K = .ok (r', K') ∧ ∀ I' σ' H', GS g I1 H0 m a r' K' I' σ' H' → D.nx σ' H') :=
  (ps_for B.po B.hc hi (pg_name B.nd hs ls fs) (pss_one hb) hf).imp fun D σ H h => by
    obtain ⟨I1, H0, a, r, K, I, ss, r', K', x, hsl, hnl, hyl, hfi, hg, h⟩ := h
    refine ⟨I, plain r, x.sri.stp.rl, x.sri.er, ?_⟩
    rw [hfi]
    intro J I2 H2 s2 src
    have x2 := x.go s2
    have reb : ∀ {r K I' σ' H'}, GS g I2 H0 m a r K I' σ' H' → GS g I1 H0 m a r K I' σ' H' := fun z => ⟨⟨x2.sri.stp.rebase z.sri.stp, z.sri.len, z.sri.val, z.sri.own, z.sri.inj⟩, z.no, z.un, z.at_, z.na, z.nz, z.ni, z.me⟩
    have base : GS g I2 H0 m a r K I2 σ H2 := ⟨⟨⟨Sub.refl _, fun _ _ z => .inl z, x2.sri.stp.keep, x2.sri.stp.rl⟩, x2.sri.len, x2.sri.val, x2.sri.own, x2.sri.inj⟩, x2.no, x2.un, x2.at_, x2.na, x2.nz, x2.ni, x2.me⟩
    refine ⟨fun i q σ' H' => ∃ r1 K1 I', q = ss.length - i ∧ i ≤ ss.length ∧ GS g I2 H0 m a r1 K1 I' σ' H' ∧ r1.length = r.length ∧ grow fi3 s n y (ss.drop i) r1 K1 = .ok (r', K'), ⟨ss.length, r, K, I2, rfl, Nat.zero_le _, base, rfl, by rw [List.drop_zero]; exact hg⟩, ?_⟩
    rintro i q σ' H' ⟨r1, K1, I', rfl, hle, y1, hl1, hg1⟩
    by_cases hlt : i < ss.length
    · rw [List.drop_eq_getElem_cons hlt] at hg1
      refine .inr ⟨src.go i I' H' y1.sri.stp.rl y1.sri.stp.mono hlt, fun σ3 H3 => ∃ r1 K1 I', GS g I2 H0 m a r1 K1 I' σ3 H3 ∧ r1.length = r.length ∧ grow fi3 s n y (ss.drop (i + 1)) r1 K1 = .ok (r', K'), fun σ3 H3 ⟨r3, K3, I3, z1, z2, z3⟩ => ⟨ss.length - (i + 1), by omega, r3, K3, I3, rfl, hlt, z1, z2, z3⟩, fun v H3 yy => ?_⟩
      obtain ⟨I3, s3, xd⟩ := src.yld i ss[i] I' H' v H3 y1.sri.stp.rl y1.sri.stp.mono (List.getElem?_eq_getElem hlt) yy
      have y3 := (y1.go s3).setV (i := s) (by rw [hl1]; exact hsl) dsm xd
      unfold grow at hg1
      split at hg1
      · rename_i es e3
        split at hg1
        · rename_i p e4
          obtain ⟨r5, K5⟩ := p
          refine ⟨I2, H0, a, _, K1, I3, ss[i], es, r5, K5, y3, List.getElem?_set_self (by rw [hl1]; exact hsl), by rw [List.length_set, hl1]; exact hnl, by rw [List.length_set, hl1]; exact hyl, e3, e4, fun I5 σ5 H5 y5 => ⟨r5, K5, I5, y5, ?_, hg1⟩⟩
          rw [grow1_len e4, List.length_set, hl1]
        · cases hg1
      · cases hg1
    · have ei : i = ss.length := by omega
      subst ei
      rw [List.drop_length] at hg1
      cases hg1
      exact .inl ⟨src.stop _ I' H' y1.sri.stp.rl y1.sri.stp.mono rfl, h _ _ _ (reb y1)⟩
end
/-! ### the two statements -/
def wsAhead (m s n y : Nat) (fi1 fi2 fi3 : FI) : WS := ⟨fun r k => noOwn r = true ∧ (m < r.length ∧ s < r.length ∧ n < r.length ∧ y < r.length) ∧ ∃ (ks : List (List Key)) (ss : List D) (r' : Env2) (K : KL), fi1 (plain r) = .ok (ks.map tupK) ∧ ks.Nodup ∧ (∀ k ∈ ks, intsK k = true) ∧ ks.length ≤ 100000 ∧ fi2 (plain (r.set m .un)) = .ok ss ∧ grow fi3 s n y ss (r.set m .un) (ks.map fun k => (k, [])) = .ok (r', K) ∧ k.nx (r'.set m (.val (.dtt (dKL K)))),
  fun h ⟨a, b, ks, ss, r', K, q1, q2, q3, q4, q5, q6, q7⟩ => ⟨a, b, ks, ss, r', K, q1, q2, q3, q4, q5, q6, h.nx _ q7⟩⟩
section
variable {X : Cx} {g : Gd} {E : XK} {k : Nat}
theorem ss_ahead {s n y m : Nat} {st1 st2 : Stmt} {rest : List Stmt} {fi1 fi2 fi3 : FI} {b : WS} (B : Bd X E k) (h1 : PS X st1 (fun D σ H => tMkL g s fi1 σ H fun x H1 => D.nx (σ.set m (some x)) H1))
    (h2 : PS X st2 (fun D σ H => ∃ I1 H0 a r K I ss r' K', GS g I1 H0 m a r K I σ H ∧ s < r.length ∧ n < r.length ∧ y < r.length ∧ fi2 (plain r) = .ok ss ∧ grow fi3 s n y ss r K = .ok (r', K') ∧ ∀ I' σ' H', GS g I1 H0 m a r' K' I' σ' H' → D.nx σ' H'))
    (h3 : PSs X rest (tWS g X.mg E b)) : PSs X (st1 :: st2 :: rest) (tWS g X.mg E (wsSeq (wsAhead m s n y fi1 fi2 fi3) b)) :=
  (pss_cons h1 (pss_cons h2 h3)).imp fun D σ H h => by
    obtain ⟨I0, H0, r, ⟨I, x⟩, no, ⟨lm, ls, ln, ly⟩, ks, ss, r', K, q1, q2, q3, q4, q5, q6, q7⟩ := h
    refine ⟨I, plain r, ks, x.stp.rl, x.er, by rw [plain, List.length_map]; exact ls, q1, q2, q3, q4, fun a I' H' es ps st na nz ni ha me hps => ?_⟩
    have x1 := x.go st
    have g1 : GS g I0 H0 m a (r.set m .un) (ks.map fun k => (k, [])) I' (σ.set m (some (.ref a))) H' := by
      have hu := noOwn_un no m
      refine ⟨⟨x1.stp, by rw [List.length_set, List.length_set]; exact x1.len, fun i d h => ?_, fun i d h => absurd h (noOwn_get hu), fun i j d e q h => absurd h (noOwn_get hu)⟩, hu, List.getElem?_set_self lm, List.getElem?_set_self (by rw [x.len]; exact lm), x.stp.back na, nz, ni, es, ps, ha, me.nt fun p z => x.stp.back z, hps⟩
      by_cases e : i = m
      · subst e
        rw [List.getElem?_set_self lm] at h; cases h
      · rw [List.getElem?_set_ne (Ne.symm e)] at h ⊢
        exact x1.val i d h
    refine ⟨I0, H0, a, _, _, I', ss, r', K, g1, by rw [List.length_set]; exact ls, by rw [List.length_set]; exact ln, by rw [List.length_set]; exact ly, q5, q6, fun I2 σ2 H2 y2 => ?_⟩
    exact ⟨I0, H0, _, y2.done, q7⟩
end
/-! ### as a function -/
def keysD (ds : List D) : Option (List (List Key)) := if (ds.all fun d => (keyI d).isSome) = true then some (ds.map fun d => (keyI d).getD []) else none
def nodK : List (List Key) → Bool
  | [] => true
  | k :: ks => !(ks.any fun x => decide (x = k)) && nodK ks
theorem nodK_ok : ∀ {ks : List (List Key)}, nodK ks = true → ks.Nodup
  | [], _ => List.nodup_nil
  | k :: ks, h => by
    rw [nodK, Bool.and_eq_true, Bool.not_eq_true', List.any_eq_false] at h
    exact List.nodup_cons.mpr ⟨fun z => h.1 k z (decide_eq_true rfl), nodK_ok h.2⟩
theorem keysOf_tup : ∀ {ds : List D} {k : List Key}, keysOf ds = some k → ds = k.map kD
  | [], k, h => by cases h; rfl
  | d :: ds, k, h => by
    rw [keysOf] at h
    cases e1 : keyOf d with
    | none => rw [e1] at h; cases h
    | some x =>
      rw [e1] at h
      cases e2 : keysOf ds with
      | none => rw [e2] at h; cases h
      | some xs =>
        rw [e2] at h
        cases h
        rw [List.map_cons, ← keyOf_eq e1, ← keysOf_tup e2]
theorem keyI_tup {d : D} {k : List Key} (h : keyI d = some k) : d = tupK k ∧ intsK k = true := by
  obtain ⟨e, i⟩ := keyI_of h
  refine ⟨?_, i⟩
  cases d with
  | tup ds => unfold tupK; rw [← keysOf_tup e]
  | _ => cases e
theorem keysD_ok {ds : List D} {ks : List (List Key)} (h : keysD ds = some ks) : ds = ks.map tupK ∧ ∀ k ∈ ks, intsK k = true := by
  unfold keysD at h
  split at h
  · rename_i c
    cases h
    have c := List.all_eq_true.mp c
    refine ⟨?_, fun k hk => ?_⟩
    · rw [List.map_map]
      refine (List.map_id ds).symm.trans (List.map_congr_left fun d hd => ?_)
      obtain ⟨k, e⟩ := Option.isSome_iff_exists.mp (c d hd)
      show d = tupK ((keyI d).getD [])
      rw [e]
      exact (keyI_tup e).1
    · obtain ⟨d, hd, rfl⟩ := List.mem_map.mp hk
      obtain ⟨k, e⟩ := Option.isSome_iff_exists.mp (c d hd)
      rw [e]
      exact (keyI_tup e).2
  · cases h
def fsAhead (m s n y : Nat) (fi1 fi2 fi3 : FI) : FS := fun r => if noOwn r = true ∧ m < r.length ∧ s < r.length ∧ n < r.length ∧ y < r.length then match fi1 (plain r) with
  | .ok ds => match keysD ds with
    | some ks => if nodK ks = true ∧ ks.length ≤ 100000 then match fi2 (plain (r.set m .un)) with
      | .ok ss => match grow fi3 s n y ss (r.set m .un) (ks.map fun k => (k, [])) with
        | .ok p => .ok (.nx (p.1.set m (.val (.dtt (dKL p.2)))))
        | _ => .bad
      | _ => .bad else .bad
    | none => .bad
  | _ => .bad else .bad
theorem imp_ahead {m s n y : Nat} {fi1 fi2 fi3 : FI} : ImpS (fsAhead m s n y fi1 fi2 fi3) (wsAhead m s n y fi1 fi2 fi3) := fun r k q => by
  unfold fsAhead at q
  split at q
  · rename_i c
    split at q
    · rename_i ds e1
      split at q
      · rename_i ks e2
        obtain ⟨e3, e4⟩ := keysD_ok e2
        split at q
        · rename_i c2
          split at q
          · rename_i ss e5
            split at q
            · rename_i p e6
              exact ⟨c.1, c.2, ks, ss, p.1, p.2, by rw [← e3]; exact e1, nodK_ok c2.1, e4, c2.2, e5, e6, q⟩
            · exact q.elim
          · exact q.elim
        · exact q.elim
      · exact q.elim
    · exact q.elim
  · exact q.elim
end FW
set_option pp.maxSteps 800
/-! for s in d[w.pop()]: d a dict of lists that is a value, w a list of one's own. -/
namespace FW
open PySem PySem.Spec PyProof.Rows L2 LamX
theorem DRs.last {g : Gd} {I : Hp} {vs : List V} {ds : List D} {x : D} (h : DRs g I vs (ds ++ [x])) : ∃ v, vs[vs.length - 1]? = some v ∧ DR g I v x ∧ DRs g I vs.dropLast ds := by
  have hl := h.len
  rw [List.length_append, List.length_singleton] at hl
  obtain ⟨v, h1, h2⟩ := h.at_ (i := ds.length) (d := x) (by simp)
  refine ⟨v, by rw [hl]; exact h1, h2, ?_⟩
  have := h.take ds.length
  rw [List.take_left' rfl] at this
  rw [List.dropLast_eq_take, hl]
  exact this
def wsForPop (m i : Nat) (sg : SG) (body : WS) : WS := ⟨fun r k => ∃ A ds x es, r[m]? = some (Sl.val A) ∧ r[i]? = some (Sl.own (.lst (ds ++ [x]))) ∧ dIxT A x = .ok (.lst es) ∧ forW sg body k es (r.set i (Sl.own (.lst ds))), fun h ⟨A, ds, x, es, q1, q2, q3, q4⟩ => ⟨A, ds, x, es, q1, q2, q3, forW.mono h q4⟩⟩
def fsForPop (m i : Nat) (sg : SG) (body : FS) : FS := fun r => match r[m]?, r[i]? with
  | some (.val A), some (.own (.lst ds)) => match ds.getLast? with
    | some x => match dIxT A x with
      | .ok (.lst es) => forF sg body es (r.set i (.own (.lst ds.dropLast)))
      | _ => .bad
    | none => .bad
  | _, _ => .bad
theorem imp_forPop {m i : Nat} {sg : SG} {b : FS} {a : WS} (h : ImpS b a) : ImpS (fsForPop m i sg b) (wsForPop m i sg a) := fun r k q => by
  unfold fsForPop at q
  split at q
  · rename_i A ds e1 e2
    split at q
    · rename_i x e3
      split at q
      · rename_i es e4
        have e5 : ds = ds.dropLast ++ [x] := by
          have hn : ds ≠ [] := fun z => by rw [z] at e3; cases e3
          rw [List.getLast?_eq_some_getLast hn] at e3
          rw [← Option.some.inj e3]
          exact (List.dropLast_concat_getLast hn).symm
        exact ⟨A, ds.dropLast, x, es, e1, by rw [← e5]; exact e2, e4, forF_W h q⟩
      · exact q.elim
    · exact q.elim
  · exact q.elim
section
variable {X : Cx} {g : Gd} {E : XK} {k : Nat} {body : List Stmt} {a : WS} {pos : Pos}
theorem s_forPop (m i : Nat) {tg : Expr} {sg : SG} {xd xw : Str} {p1 p2 sp ap cp : Pos} (B : Bd X E k) (hg : PG X tg (tSG g sg)) (hb : PSs X body (tWS g X.mg E a)) (hm : X.N[m]? = some xd := by rfl) (hi : X.N[i]? = some xw := by rfl)
    (vd : Vis X.env.scope xd := by first | exact Or.inl rfl | exact Or.inr (Or.inl rfl) | exact Or.inr (Or.inr rfl)) (vw : Vis X.env.scope xw := by first | exact Or.inl rfl | exact Or.inr (Or.inl rfl) | exact Or.inr (Or.inr rfl))
    (dd : (xd == ("__debug__" : Str)) = false := by decide) (dw : (xw == ("__debug__" : Str)) = false := by decide) (cd : (xd == ("__classdict__" : Str)) = false := by decide) (cw : (xw == ("__classdict__" : Str)) = false := by decide)
    (hbase : attributeBase (.Name xw p2) "pop" X.env (eval (.Name xw p2) X.env) = eval (.Name xw p2) X.env := by rfl) (hline : (ap.endLine == cp.line) = true := by rfl) (hns : NoSl (.Call (.Attribute (.Name xw p2) "pop" ap) [] [] cp) := by exact fun _ _ => rfl)
    (hs : ∀ x, foldedSetIterable (.Subscript (.Name xd p1) (.Call (.Attribute (.Name xw p2) "pop" ap) [] [] cp) sp) X.env x = pure x := by intro _; rfl) :
    PS X (.For tg (.Subscript (.Name xd p1) (.Call (.Attribute (.Name xw p2) "pop" ap) [] [] cp) sp) body [] pos) (tWS g X.mg E (wsForPop m i sg a)) :=
  (ps_for B.po B.hc (pi_list (pe_dget (Nat.lt_of_le_of_lt (Nat.add_le_add_left (by decide) _) B.hr.units) (pv m hm vd dd cd) (pe_bm0 PySem.F.plainAttrs_list PySem.F.slot_list_pop PySem.F.type_list_pop mt_pop (pv i hi vw dw cw) hbase hline) hns)) hg hb hs).imp fun D σ H h => by
    obtain ⟨I0, H0, r, ⟨I, x⟩, A, ds0, y, es, hA, hw, hix, q⟩ := h
    obtain ⟨va, a1, a2⟩ := x.val m A hA
    obtain ⟨p, o, q1, q2, q3, q4, q5, q6⟩ := x.own i _ hw
    cases o with
    | lst vs =>
      have rv : DRs g I vs (ds0 ++ [y]) := q6
      obtain ⟨vy, y1, y2, y3⟩ := rv.last
      have x1 := x.put (o := .lst vs.dropLast) (d' := .lst ds0) hw q1 (show DRs g I vs.dropLast ds0 from y3)
      unfold dIxT at hix
      cases ed : dictT A with
      | none => rw [ed] at hix; cases hix
      | some kvs =>
      rw [ed] at hix
      cases ek : keyI y with
      | none => rw [ek] at hix; cases hix
      | some kk =>
      rw [ek] at hix
      obtain ⟨ad, fs, rfl, f2, f3⟩ := dgetT_of x1.stp.rl y2 a2 ed ek
      rcases f2.val kk with ⟨z1, z2⟩ | ⟨vl, dl, z1, z2, z3⟩
      · dsimp only at hix; rw [z2] at hix; cases hix
      dsimp only at hix
      rw [z2] at hix
      cases hix
      rw [z1] at f3
      cases z3 with
      | lst hy ry =>
      rename_i la lxs
      refine ⟨.ref ad, a1, .ref p, q1, .inl ⟨rfl, vs, SqL.of q5⟩, p, vs, vy, rfl, rfl, q5, y1, ad, .ref la, rfl, f3, la, rfl, ⟨lxs, SqL.of (x1.stp.rl.sub _ _ hy)⟩, ?_⟩
      have src := src_list (K := X.K) hy ry
      have st1 := x1.stp
      refine ⟨fun j n σ' H' => ∃ r', n = es.length - j ∧ j ≤ es.length ∧ SR g I H0 r' σ' H' ∧ forW sg a (ktOf g X.mg E I0 H0 D) (es.drop j) r',
        ⟨es.length, _, rfl, Nat.zero_le _, ⟨I, ⟨Sub.refl _, fun _ _ z => .inl z, st1.keep, st1.rl⟩, x1.len, x1.val, x1.own, x1.inj⟩, by rw [List.drop_zero]; exact q⟩, ?_⟩
      rintro j n σ' H' ⟨r', rfl, hj, ⟨I', x'⟩, hq⟩
      by_cases hlt : j < es.length
      · rw [List.drop_eq_getElem_cons hlt] at hq
        refine .inr ⟨src.go j I' H' x'.stp.rl x'.stp.mono hlt, fun σ2 H2 => ∃ r2, SR g I H0 r2 σ2 H2 ∧ forW sg a (ktOf g X.mg E I0 H0 D) (es.drop (j + 1)) r2, fun σ2 H2 ⟨r2, w1, w2⟩ => ⟨es.length - (j + 1), by omega, r2, rfl, hlt, w1, w2⟩, fun v H2 yy => ?_⟩
        obtain ⟨I2, s2, xd⟩ := src.yld j es[j] I' H' v H2 x'.stp.rl x'.stp.mono (List.getElem?_eq_getElem hlt) yy
        refine ⟨I, H0, I2, r', es[j], x'.go s2, xd, resW.mono (fun r1 w σ3 x3 => ?_) (fun _ w => w) hq⟩
        exact ⟨I, H0, r1, ⟨I2, x3⟩, a.mono (k := { nx := forW sg a (ktOf g X.mg E I0 H0 D) (es.drop (j + 1)), rt := (ktOf g X.mg E I0 H0 D).rt, bk := (ktOf g X.mg E I0 H0 D).nx, ct := forW sg a (ktOf g X.mg E I0 H0 D) (es.drop (j + 1)), ex := (ktOf g X.mg E I0 H0 D).ex }) ⟨fun r2 w σ4 H4 q4 => ⟨r2, q4, w⟩, fun d w v' I4 H4 s4 y4 => w v' I4 H4 (st1.rebase s4) y4, fun r2 w σ4 H4 q4 => w σ4 H4 (SR.rebase st1 q4), fun r2 w σ4 H4 q4 => ⟨r2, q4, w⟩, fun c w I4 H4 s4 => w I4 H4 (st1.rebase s4)⟩ w⟩
      · have ej : j = es.length := by omega
        subst ej
        rw [List.drop_length] at hq
        exact .inl ⟨src.stop _ I' H' x'.stp.rl x'.stp.mono rfl, hq σ' H' (SR.rebase st1 ⟨I', x'⟩)⟩
    | _ => exact (show False from q6).elim
end
end FW
/-! Rows of whole numbers: elimination, in plain words. -/
namespace Lin
abbrev Row := List Int
def ev (r : Row) (d : Nat) : Int := r.getD d 0
theorem ev_succ (x : Int) (r : Row) (d : Nat) : ev (x :: r) (d + 1) = ev r d := by simp [ev]
theorem ev_out {r : Row} {d : Nat} (h : r.length ≤ d) : ev r d = 0 := by
  unfold ev
  rw [List.getD_eq_getElem?_getD, List.getElem?_eq_none h]; rfl
theorem ev_get {r : Row} {d : Nat} (h : d < r.length) : r[d]? = some (ev r d) := by
  unfold ev
  rw [List.getD_eq_getElem?_getD, List.getElem?_eq_getElem h]; rfl
theorem ev_mem {r : Row} {x : Int} (h : x ∈ r) : ∃ d, d < r.length ∧ ev r d = x := by
  obtain ⟨d, hd, e⟩ := List.getElem_of_mem h
  exact ⟨d, hd, by unfold ev; rw [List.getD_eq_getElem?_getD, List.getElem?_eq_getElem hd, e]; rfl⟩
theorem ev_in {r : Row} {d : Nat} (h : d < r.length) : ev r d ∈ r := List.mem_of_getElem? (ev_get h)
theorem row_ext {a b : Row} (hl : a.length = b.length) (h : ∀ d, ev a d = ev b d) : a = b := by
  refine List.ext_getElem? fun d => ?_
  by_cases hd : d < a.length
  · rw [ev_get hd, ev_get (hl ▸ hd), h d]
  · rw [List.getElem?_eq_none (by omega), List.getElem?_eq_none (by omega)]
def smul (k : Int) (r : Row) : Row := r.map fun x => k * x
def comb (a : Int) (u : Row) (b : Int) (v : Row) : Row := List.zipWith (fun x y => a * x + b * y) u v
def zeros (n : Nat) : Row := List.replicate n 0
theorem smul_len (k : Int) (r : Row) : (smul k r).length = r.length := by simp [smul]
theorem comb_len {a b : Int} {u v : Row} (h : u.length = v.length) : (comb a u b v).length = u.length := by simp [comb, h]
theorem ev_smul (k : Int) : ∀ (r : Row) (d : Nat), ev (smul k r) d = k * ev r d
  | [], d => by simp [smul, ev]
  | x :: r, 0 => by simp [smul, ev]
  | x :: r, d + 1 => by
    have := ev_smul k r d
    unfold smul at *
    rw [List.map_cons, ev_succ, ev_succ, this]
theorem ev_comb (a b : Int) : ∀ (u v : Row) (d : Nat), u.length = v.length → ev (comb a u b v) d = a * ev u d + b * ev v d
  | [], [], d, _ => by simp [comb, ev]
  | [], _ :: _, d, h => by cases h
  | _ :: _, [], d, h => by cases h
  | x :: u, y :: v, 0, h => by simp [comb, ev]
  | x :: u, y :: v, d + 1, h => by
    have := ev_comb a b u v d (by simpa using h)
    unfold comb at *
    rw [List.zipWith_cons_cons, ev_succ, ev_succ, ev_succ, this]
/-! ### bared -/
def gcdL (r : Row) : Int := r.foldl (fun b x => ((Int.gcd b x : Nat) : Int)) 0
theorem gcd_fold : ∀ (r : Row) (b : Int), 0 ≤ b → (0 ≤ r.foldl (fun b x => ((Int.gcd b x : Nat) : Int)) b) ∧ (r.foldl (fun b x => ((Int.gcd b x : Nat) : Int)) b ∣ b) ∧ (∀ x ∈ r, r.foldl (fun b x => ((Int.gcd b x : Nat) : Int)) b ∣ x) ∧ (∀ k : Int, k ∣ b → (∀ x ∈ r, k ∣ x) → k ∣ r.foldl (fun b x => ((Int.gcd b x : Nat) : Int)) b)
  | [], b, h => ⟨h, Int.dvd_refl b, fun x hx => (by cases hx), fun k hk _ => hk⟩
  | y :: r, b, h => by
    rw [List.foldl_cons]
    obtain ⟨h1, h2, h3, h4⟩ := gcd_fold r ((Int.gcd b y : Nat) : Int) (by omega)
    refine ⟨h1, Int.dvd_trans h2 (Int.gcd_dvd_left ..), fun x hx => ?_, fun k hk hr => h4 k (Int.dvd_coe_gcd hk (hr y List.mem_cons_self)) fun x hx => hr x (List.mem_cons_of_mem _ hx)⟩
    rcases List.mem_cons.mp hx with e | hx
    · rw [e]; exact Int.dvd_trans h2 (Int.gcd_dvd_right ..)
    · exact h3 x hx
theorem gcdL_dvd {r : Row} {x : Int} (h : x ∈ r) : gcdL r ∣ x := (gcd_fold r 0 (Int.le_refl 0)).2.2.1 x h
/-- the first number but 0 -/
def fst (r : Row) : Int := (r.filter fun x => decide (x ≠ 0)).headD 0
def sgn (x : Int) : Int := if 0 < x then 1 else -1
def bared (r : Row) : Row := if gcdL r = 0 then r else r.map fun x => x.fdiv (gcdL r) * sgn (fst r)
theorem sgn_sq (x : Int) : sgn x * sgn x = 1 := by unfold sgn; split <;> rfl
theorem sgn_ne (x : Int) : sgn x ≠ 0 := by unfold sgn; split <;> decide
theorem bared_len (r : Row) : (bared r).length = r.length := by unfold bared; split <;> simp
theorem fdiv_mul {x g : Int} (h : g ∣ x) : x.fdiv g * g = x := Int.fdiv_mul_cancel h
theorem bared_smul (r : Row) : ∃ k : Int, k ≠ 0 ∧ r = smul k (bared r) := by
  unfold bared
  split
  · exact ⟨1, by decide, by unfold smul; simp⟩
  · rename_i hg
    refine ⟨gcdL r * sgn (fst r), fun z => (Int.mul_eq_zero.mp z).elim hg (sgn_ne _), ?_⟩
    unfold smul
    rw [List.map_map]
    conv => lhs; rw [← List.map_id r]
    refine List.map_congr_left fun x hx => ?_
    show x = gcdL r * sgn (fst r) * (x.fdiv (gcdL r) * sgn (fst r))
    have e := fdiv_mul (gcdL_dvd hx)
    have : gcdL r * sgn (fst r) * (x.fdiv (gcdL r) * sgn (fst r)) = (x.fdiv (gcdL r) * gcdL r) * (sgn (fst r) * sgn (fst r)) := by
      rw [Int.mul_comm (gcdL r), Int.mul_assoc, ← Int.mul_assoc (gcdL r), Int.mul_comm (gcdL r), ← Int.mul_assoc, Int.mul_comm (sgn _), Int.mul_assoc]
    rw [this, e, sgn_sq, Int.mul_one]
theorem bared_ev (r : Row) (d : Nat) : ev (bared r) d = 0 ↔ ev r d = 0 := by
  obtain ⟨k, hk, e⟩ := bared_smul r
  have : ev r d = k * ev (bared r) d := by conv => lhs; rw [e]
                                           rw [ev_smul]
  rw [this]
  exact ⟨fun z => by rw [z]; simp, fun z => (Int.mul_eq_zero.mp z).resolve_left hk⟩
def Bd (B : Nat) (r : Row) : Prop := ∀ x ∈ r, x.natAbs ≤ B
theorem Bd.evb {B : Nat} {r : Row} (h : Bd B r) (d : Nat) : (ev r d).natAbs ≤ B := by
  by_cases hd : d < r.length
  · exact h _ (ev_in hd)
  · rw [ev_out (by omega)]; simp
theorem Bd.bared {B : Nat} {r : Row} (h : Bd B r) : Bd B (bared r) := by
  obtain ⟨k, hk, e⟩ := bared_smul r
  intro x hx
  obtain ⟨d, hd, rfl⟩ := ev_mem hx
  have q := h.evb d
  rw [e, ev_smul, Int.natAbs_mul] at q
  have : 1 ≤ k.natAbs := by omega
  exact Nat.le_trans (Nat.le_mul_of_pos_left _ this) q
/-! ### cleared -/
def cleared (r h : Row) (c : Nat) : Row := List.zipWith (fun x y => x * ev h c - ev r c * y) r h
theorem cleared_comb (r h : Row) (c : Nat) : cleared r h c = comb (ev h c) r (-(ev r c)) h := by
  unfold cleared comb
  congr 1
  funext x y
  rw [Int.neg_mul, Int.mul_comm x]; rfl
theorem cleared_len {r h : Row} {c : Nat} (e : r.length = h.length) : (cleared r h c).length = r.length := by rw [cleared_comb, comb_len e]
theorem ev_cleared {r h : Row} {c : Nat} (e : r.length = h.length) (d : Nat) : ev (cleared r h c) d = ev h c * ev r d - ev r c * ev h d := by
  rw [cleared_comb, ev_comb _ _ _ _ _ e, Int.neg_mul]; omega
theorem Bd.cleared {B : Nat} {r h : Row} (c : Nat) (e : r.length = h.length) (h1 : Bd B r) (h2 : Bd B h) : Bd (2 * B * B) (cleared r h c) := by
  intro x hx
  obtain ⟨d, hd, rfl⟩ := ev_mem hx
  rw [ev_cleared e]
  have a1 : (ev h c * ev r d).natAbs ≤ B * B := by rw [Int.natAbs_mul]; exact Nat.mul_le_mul (h2.evb c) (h1.evb d)
  have a2 : (ev r c * ev h d).natAbs ≤ B * B := by rw [Int.natAbs_mul]; exact Nat.mul_le_mul (h1.evb c) (h2.evb d)
  have a3 : 2 * B * B = B * B + B * B := by rw [Nat.mul_assoc]; omega
  omega
/-! ### reduced -/
def step (c : Nat) (s : List Row × List Row) : List Row × List Row := match s.1.find? fun r => decide (ev r c ≠ 0) with
  | none => s
  | some r => ((s.1.erase r).map fun x => cleared x (bared r) c, (s.2.map fun x => cleared x (bared r) c) ++ [bared r])
def steps (rows : List Row) : Nat → List Row × List Row
  | 0 => (rows, [])
  | c + 1 => step c (steps rows c)
def reduced (rows : List Row) (n : Nat) : List Row := (steps rows n).2.map bared
/-- what is closed under sums, multiples and quotients -/
structure Cl (n : Nat) (Z : Row → Prop) : Prop where
  zero : Z (zeros n)
  lin : ∀ (a b : Int) (u v : Row), u.length = n → v.length = n → Z u → Z v → Z (comb a u b v)
  div : ∀ (k : Int) (u : Row), u.length = n → k ≠ 0 → Z (smul k u) → Z u
theorem Cl.smul {n : Nat} {Z : Row → Prop} (C : Cl n Z) (k : Int) {u : Row} (hu : u.length = n) (h : Z u) : Z (smul k u) := by
  have := C.lin k 0 u u hu hu h h
  have e : comb k u 0 u = Lin.smul k u := row_ext (by rw [comb_len rfl, smul_len]) fun d => by rw [ev_comb _ _ _ _ _ rfl, ev_smul]; omega
  rwa [e] at this
theorem Cl.bared {n : Nat} {Z : Row → Prop} (C : Cl n Z) {u : Row} (hu : u.length = n) : Z (Lin.bared u) ↔ Z u := by
  obtain ⟨k, hk, e⟩ := bared_smul u
  have hl : (Lin.bared u).length = n := by rw [bared_len, hu]
  constructor
  · intro h; rw [e]; exact C.smul k hl h
  · intro h; rw [e] at h; exact C.div k _ hl hk h
theorem Cl.cleared {n : Nat} {Z : Row → Prop} (C : Cl n Z) {r h : Row} {c : Nat} (hr : r.length = n) (hh : h.length = n) (hc : ev h c ≠ 0) (zh : Z h) : Z (Lin.cleared r h c) ↔ Z r := by
  have e : r.length = h.length := by omega
  constructor
  · intro z
    refine C.div (ev h c) r hr hc ?_
    have := C.lin 1 (ev r c) _ h (by rw [cleared_len e, hr]) hh z zh
    have q : comb 1 (Lin.cleared r h c) (ev r c) h = Lin.smul (ev h c) r := row_ext (by rw [comb_len (by rw [cleared_len e, e]), smul_len, cleared_len e]) fun d => by
      rw [ev_comb _ _ _ _ _ (by rw [cleared_len e, e]), ev_smul, ev_cleared e]; omega
    rwa [q] at this
  · intro z
    rw [cleared_comb]
    exact C.lin _ _ r h hr hh z zh
structure Pv (n c : Nat) (l : List (Nat × Row)) : Prop where
  inc : (l.map (·.1)).Pairwise (· < ·)
  len : ∀ p ∈ l, p.2.length = n
  lt : ∀ p ∈ l, p.1 < c
  ne : ∀ p ∈ l, ev p.2 p.1 ≠ 0
  lo : ∀ p ∈ l, ∀ d, d < p.1 → ev p.2 d = 0
  oth : ∀ p ∈ l, ∀ q ∈ l, p.1 ≠ q.1 → ev q.2 p.1 = 0
structure St (n c : Nat) (s : List Row × List Row) : Prop where
  len : ∀ r ∈ s.1, r.length = n
  zer : ∀ r ∈ s.1, ∀ d, d < c → ev r d = 0
  pv : ∃ l, s.2 = l.map (·.2) ∧ Pv n c l
/-- bared rows stand as before -/
theorem Pv.bared {n c : Nat} {l : List (Nat × Row)} (P : Pv n c l) : Pv n c (l.map fun p => (p.1, bared p.2)) := by
  have mem : ∀ q ∈ l.map (fun p => (p.1, Lin.bared p.2)), ∃ p ∈ l, q = (p.1, Lin.bared p.2) := fun q hq => by
    obtain ⟨p, hp, e⟩ := List.mem_map.mp hq
    exact ⟨p, hp, e.symm⟩
  refine ⟨?_, fun q hq => ?_, fun q hq => ?_, fun q hq => ?_, fun q hq d hd => ?_, fun q hq q' hq' hne => ?_⟩
  · rw [List.map_map]; exact P.inc
  all_goals obtain ⟨p, hp, rfl⟩ := mem q hq
  · show (Lin.bared p.2).length = n
    rw [bared_len]; exact P.len p hp
  · exact P.lt p hp
  · exact fun z => P.ne p hp ((bared_ev _ _).mp z)
  · exact (bared_ev _ _).mpr (P.lo p hp d hd)
  · obtain ⟨p', hp', rfl⟩ := mem q' hq'
    exact (bared_ev _ _).mpr (P.oth p hp p' hp' hne)
/-! ### sizes -/
def grow : Nat → Nat → Nat
  | B, 0 => B
  | B, c + 1 => 2 * grow B c * grow B c
theorem Bd.mono {B B' : Nat} {r : Row} (h : Bd B r) (hb : B ≤ B') : Bd B' r := fun x hx => Nat.le_trans (h x hx) hb
end Lin
/-! Rows of whole numbers: the kernel. -/
namespace Lin
/-- a common multiple of the pivots -/
def lcmP (l : List (Nat × Row)) : Int := l.foldl (fun b p => (b * ev p.2 p.1).fdiv ((Int.gcd b (ev p.2 p.1) : Nat) : Int)) 1
/-- the kernel's row for a free column -/
def put1 (by_ : Int) (f : Nat) (own : Row) (p : Nat × Row) : Row := own.set p.1 ((-(ev p.2 f) * by_).fdiv (ev p.2 p.1))
def kerRow (n : Nat) (l : List (Nat × Row)) (f : Nat) : Row := l.foldl (put1 (lcmP l) f) ((zeros n).set f (lcmP l))
def frees (n : Nat) (l : List (Nat × Row)) : List Nat := (List.range n).filter fun d => !((l.map (·.1)).contains d)
theorem nodup_of_inc : ∀ {l : List Nat}, l.Pairwise (· < ·) → l.Nodup
  | [], _ => List.nodup_nil
  | x :: l, h => by
    rw [List.pairwise_cons] at h
    exact List.nodup_cons.mpr ⟨fun z => Nat.lt_irrefl _ (h.1 x z), nodup_of_inc h.2⟩
section
variable {n : Nat} {l : List (Nat × Row)}
theorem Pv.uniq (P : Pv n n l) {p q : Nat × Row} (hp : p ∈ l) (hq : q ∈ l) (e : p.1 = q.1) : p = q := by
  have nd := nodup_of_inc P.inc
  have : ∀ {l : List (Nat × Row)}, (l.map (·.1)).Nodup → p ∈ l → q ∈ l → p = q := by
    intro l
    induction l with
    | nil => intro _ h; cases h
    | cons x l ih =>
      intro h1 h2 h3
      rw [List.map_cons, List.nodup_cons] at h1
      rcases List.mem_cons.mp h2 with e2 | h2 <;> rcases List.mem_cons.mp h3 with e3 | h3
      · rw [e2, e3]
      · exact absurd (by rw [← e2, e]; exact List.mem_map_of_mem h3) h1.1
      · exact absurd (by rw [← e3, ← e]; exact List.mem_map_of_mem h2) h1.1
      · exact ih h1.2 h2 h3
  exact this nd hp hq
def ker (n : Nat) (l : List (Nat × Row)) : List Row := (frees n l).map (kerRow n l)
end
/-! ### what weights keep -/
/-- the kernel's rows by demands -/
def pairs (rows : List Row) (n : Nat) : List (Nat × Row) := (reduced rows n).map fun r => (r.findIdx (fun x => decide (x ≠ 0)), r)
def kernel (rows : List Row) (n : Nat) : List Row := ker n (pairs rows n)
/-- all kept weights' rows -/
def kept (rows : List Row) (n : Nat) : List Row := reduced (kernel rows n) n
end Lin
/-! Coming from one to another, level by level, in plain words. -/
namespace Bfs
section
variable {R V : Type} [DecidableEq R]
def add (acc : List (R × V) × List R) (p : R × V) : List (R × V) × List R := if p.1 ∈ acc.1.map (·.1) then acc else (acc.1 ++ [p], acc.2 ++ [p.1])
def lev (items : List (R × V)) (found : List (R × V)) : List (R × V) × List R := items.foldl add (found, [])
def bfs (nxt : Nat → R → List (R × V)) : Nat → Nat → List (R × V) → List R → List (R × V)
  | 0, _, found, _ => found
  | n + 1, k, found, row => if row = [] then found else bfs nxt n (k + 1) (lev (row.flatMap (nxt (k + 1))) found).1 (lev (row.flatMap (nxt (k + 1))) found).2
abbrev keys (l : List (R × V)) : List R := l.map (·.1)
theorem add_keys (acc : List (R × V) × List R) (p : R × V) : ∃ new : List (R × V), (add acc p).1 = acc.1 ++ new ∧ (add acc p).2 = acc.2 ++ keys new ∧ (∀ q ∈ new, q = p ∧ q.1 ∉ keys acc.1) ∧ p.1 ∈ keys (add acc p).1 ∧ ((keys acc.1).Nodup → (keys (add acc p).1).Nodup) := by
  unfold add
  split
  · rename_i h
    exact ⟨[], by simp, by simp, fun q hq => (by cases hq), h, id⟩
  · rename_i h
    refine ⟨[p], rfl, rfl, fun q hq => ?_, by simp [keys], fun nd => ?_⟩
    · rw [List.mem_singleton.mp hq]; exact ⟨rfl, h⟩
    · show ((acc.1 ++ [p]).map (·.1)).Nodup
      rw [List.map_append]
      refine List.nodup_append.mpr ⟨nd, by simp, fun a ha b hb => ?_⟩
      simp at hb
      rw [hb]
      exact fun z => h (z ▸ ha)
theorem fold_keys : ∀ (items : List (R × V)) (acc : List (R × V) × List R), ∃ new : List (R × V), (items.foldl add acc).1 = acc.1 ++ new ∧ (items.foldl add acc).2 = acc.2 ++ keys new ∧ (∀ q ∈ new, q ∈ items ∧ q.1 ∉ keys acc.1) ∧ (∀ p ∈ items, p.1 ∈ keys (items.foldl add acc).1) ∧ ((keys acc.1).Nodup → (keys (items.foldl add acc).1).Nodup)
  | [], acc => ⟨[], by simp, by simp, fun q hq => (by cases hq), fun p hp => (by cases hp), id⟩
  | p :: items, acc => by
    obtain ⟨n1, a1, a2, a3, a4, a5⟩ := add_keys acc p
    obtain ⟨n2, b1, b2, b3, b4, b5⟩ := fold_keys items (add acc p)
    rw [List.foldl_cons]
    refine ⟨n1 ++ n2, by rw [b1, a1, List.append_assoc], by rw [b2, a2, List.append_assoc]; simp [keys], fun q hq => ?_, fun q hq => ?_, fun nd => b5 (a5 nd)⟩
    · rcases List.mem_append.mp hq with z | z
      · exact ⟨by rw [(a3 q z).1]; exact List.mem_cons_self, (a3 q z).2⟩
      · refine ⟨List.mem_cons_of_mem _ (b3 q z).1, fun h => (b3 q z).2 ?_⟩
        rw [a1]
        show q.1 ∈ (acc.1 ++ n1).map (·.1)
        rw [List.map_append]
        exact List.mem_append_left _ h
    · rcases List.mem_cons.mp hq with z | z
      · rw [z, b1]
        show p.1 ∈ ((add acc p).1 ++ n2).map (·.1)
        rw [List.map_append]
        exact List.mem_append_left _ a4
      · exact b4 q z
theorem lev_keys (items found : List (R × V)) : ∃ new : List (R × V), (lev items found).1 = found ++ new ∧ (lev items found).2 = keys new ∧ (∀ q ∈ new, q ∈ items ∧ q.1 ∉ keys found) ∧ (∀ p ∈ items, p.1 ∈ keys (lev items found).1) ∧ ((keys found).Nodup → (keys (lev items found).1).Nodup) := by
  obtain ⟨new, h1, h2, h3, h4, h5⟩ := fold_keys items (found, [])
  exact ⟨new, h1, by unfold lev; rw [h2]; rfl, h3, h4, h5⟩
/-- each once among some: no more than those -/
theorem few : ∀ {l m : List R}, l.Nodup → (∀ x ∈ l, x ∈ m) → l.length ≤ m.length
  | [], m, _, _ => Nat.zero_le _
  | x :: l, m, nd, h => by
    obtain ⟨h1, h2⟩ := List.nodup_cons.mp nd
    have hx := h x List.mem_cons_self
    have := few (l := l) (m := m.erase x) h2 fun y hy => by
      have hne : y ≠ x := fun e => h1 (e ▸ hy)
      exact (List.mem_erase_of_ne hne).mpr (h y (List.mem_cons_of_mem _ hy))
    have hl := List.length_erase_of_mem hx
    have hp := List.length_pos_of_mem hx
    rw [List.length_cons]
    omega
/-- what holds between levels -/
structure Inv (U : List R) (nxt : Nat → R → List (R × V)) (found : List (R × V)) (row : List R) : Prop where
  nd : (keys found).Nodup
  sub : ∀ x ∈ keys found, x ∈ U
  rl : row.length ≤ found.length
  row : ∀ x ∈ row, x ∈ keys found
theorem Inv.few {U : List R} {nxt : Nat → R → List (R × V)} {found : List (R × V)} {row : List R} (h : Inv U nxt found row) : found.length ≤ U.length := by
  have := Bfs.few h.nd h.sub
  simpa [keys] using this
theorem Inv.lev {U : List R} {nxt : Nat → R → List (R × V)} {found : List (R × V)} {row : List R} {k : Nat} (h : Inv U nxt found row) (cl : ∀ x ∈ U, ∀ p ∈ nxt k x, p.1 ∈ U) : Inv U nxt (lev (row.flatMap (nxt k)) found).1 (lev (row.flatMap (nxt k)) found).2 ∧ ((lev (row.flatMap (nxt k)) found).2 ≠ [] → found.length < (lev (row.flatMap (nxt k)) found).1.length) := by
  obtain ⟨new, h1, h2, h3, h4, h5⟩ := lev_keys (row.flatMap (nxt k)) found
  refine ⟨⟨h5 h.nd, fun x hx => ?_, by rw [h1, h2, List.length_append]; simp [keys], fun x hx => ?_⟩, fun hne => ?_⟩
  · rw [h1] at hx
    have hx : x ∈ (found ++ new).map (·.1) := hx
    rw [List.map_append] at hx
    rcases List.mem_append.mp hx with z | z
    · exact h.sub x z
    · obtain ⟨q, hq, rfl⟩ := List.mem_map.mp z
      obtain ⟨y, hy, hz⟩ := List.mem_flatMap.mp (h3 q hq).1
      exact cl y (h.sub y (h.row y hy)) q hz
  · rw [h2] at hx
    rw [h1]
    show x ∈ (found ++ new).map (·.1)
    rw [List.map_append]
    exact List.mem_append_right _ hx
  · rw [h1, List.length_append]
    cases new with
    | nil => rw [h2] at hne; exact absurd rfl hne
    | cons q qs => simp
/-- a run ends in time -/
theorem bfs_ind {U : List R} {nxt : Nat → R → List (R × V)} (cl : ∀ k, ∀ x ∈ U, ∀ p ∈ nxt k x, p.1 ∈ U) {M : Nat → Nat → List (R × V) → List R → Prop} (h0 : ∀ n k found, Inv U nxt found [] → M (n + 1) k found []) (hs : ∀ n k found row, row ≠ [] → Inv U nxt found row → M n (k + 1) (lev (row.flatMap (nxt (k + 1))) found).1 (lev (row.flatMap (nxt (k + 1))) found).2 → M (n + 1) k found row) :
    ∀ (n k : Nat) (found : List (R × V)) (row : List R), Inv U nxt found row → (row = [] ∧ 1 ≤ n ∨ U.length + 2 ≤ n + found.length) → M n k found row
  | 0, k, found, row, hI, hn => by
    have := hI.few
    rcases hn with ⟨_, z⟩ | z <;> omega
  | n + 1, k, found, row, hI, hn => by
    by_cases e : row = []
    · subst e; exact h0 n k found hI
    · obtain ⟨i1, i2⟩ := hI.lev (k := k + 1) (cl (k + 1))
      refine hs n k found row e hI (bfs_ind cl h0 hs n (k + 1) _ _ i1 ?_)
      rcases hn with ⟨z, _⟩ | z
      · exact absurd z e
      · by_cases e2 : (lev (row.flatMap (nxt (k + 1))) found).2 = []
        · have := hI.few
          exact .inl ⟨e2, by omega⟩
        · have := i2 e2
          exact .inr (by omega)
theorem bfs_step {nxt : Nat → R → List (R × V)} {n k : Nat} {found : List (R × V)} {row : List R} (h : row ≠ []) : bfs nxt (n + 1) k found row = bfs nxt n (k + 1) (lev (row.flatMap (nxt (k + 1))) found).1 (lev (row.flatMap (nxt (k + 1))) found).2 := by
  rw [bfs, if_neg h]
theorem bfs_end {nxt : Nat → R → List (R × V)} {n k : Nat} {found : List (R × V)} : bfs nxt n k found [] = found := by
  cases n with
  | zero => rfl
  | succ n => rw [bfs, if_pos rfl]
/-- all that is found: each once, among the U; begun with what there was; closed -/
structure Post (U : List R) (nxt : Nat → R → List (R × V)) (found F : List (R × V)) : Prop where
  nd : (keys F).Nodup
  sub : ∀ x ∈ keys F, x ∈ U
  pre : ∃ l, F = found ++ l
theorem bfs_post {U : List R} {nxt : Nat → R → List (R × V)} (cl : ∀ k, ∀ x ∈ U, ∀ p ∈ nxt k x, p.1 ∈ U) {n k : Nat} {found : List (R × V)} {row : List R} (hI : Inv U nxt found row) (hn : U.length + 2 ≤ n + found.length) : Post U nxt found (bfs nxt n k found row) := by
  refine bfs_ind cl (M := fun n k found row => Post U nxt found (bfs nxt n k found row)) (fun n k found hI => ?_) (fun n k found row hne hI ih => ?_) n k found row hI (.inr hn)
  · rw [bfs_end]
    exact ⟨hI.nd, hI.sub, [], by simp⟩
  · rw [bfs_step hne]
    obtain ⟨new, h1, _⟩ := lev_keys (row.flatMap (nxt (k + 1))) found
    obtain ⟨l, e⟩ := ih.pre
    exact ⟨ih.nd, ih.sub, new ++ l, by rw [e, h1, List.append_assoc]⟩
end
/-! ### the keys alone -/
section
variable {R V W : Type} [DecidableEq R]
theorem fold_same : ∀ (a : List (R × V)) (b : List (R × W)) (x : List (R × V) × List R) (y : List (R × W) × List R), keys a = keys b → keys x.1 = keys y.1 → x.2 = y.2 → keys (a.foldl add x).1 = keys (b.foldl add y).1 ∧ (a.foldl add x).2 = (b.foldl add y).2
  | [], [], x, y, _, h1, h2 => ⟨h1, h2⟩
  | [], _ :: _, _, _, h, _, _ => by cases h
  | _ :: _, [], _, _, h, _, _ => by cases h
  | p :: a, q :: b, x, y, h, h1, h2 => by
    have h : p.1 :: keys a = q.1 :: keys b := h
    injection h with e h
    rw [List.foldl_cons, List.foldl_cons]
    refine fold_same a b _ _ h ?_ ?_
    · unfold add
      have h1' : x.1.map (·.1) = y.1.map (·.1) := h1
      rw [← e, ← h1']
      split
      · exact h1
      · show (x.1 ++ [p]).map (·.1) = (y.1 ++ [q]).map (·.1)
        rw [List.map_append, List.map_append, h1']
        simp [e]
    · unfold add
      have h1' : x.1.map (·.1) = y.1.map (·.1) := h1
      rw [← e, ← h1']
      split
      · exact h2
      · show x.2 ++ [p.1] = y.2 ++ [p.1]
        rw [h2]
theorem bfs_same {nx : Nat → R → List (R × V)} {ny : Nat → R → List (R × W)} (h : ∀ k j x, keys (nx k x) = keys (ny j x)) : ∀ (n k j : Nat) (f : List (R × V)) (g : List (R × W)) (row : List R), keys f = keys g → keys (bfs nx n k f row) = keys (bfs ny n j g row)
  | 0, k, j, f, g, row, e => e
  | n + 1, k, j, f, g, row, e => by
    by_cases er : row = []
    · subst er; rw [bfs_end, bfs_end]; exact e
    · rw [bfs_step er, bfs_step er]
      have hk : keys (row.flatMap (nx (k + 1))) = keys (row.flatMap (ny (j + 1))) := by
        clear er
        induction row with
        | nil => rfl
        | cons x row ih =>
          show ((x :: row).flatMap (nx (k + 1))).map (·.1) = ((x :: row).flatMap (ny (j + 1))).map (·.1)
          rw [List.flatMap_cons, List.flatMap_cons, List.map_append, List.map_append]
          have := h (k + 1) (j + 1) x
          show keys (nx (k + 1) x) ++ keys (row.flatMap (nx (k + 1))) = _
          rw [this, ih]
      obtain ⟨h1, h2⟩ := fold_same (row.flatMap (nx (k + 1))) (row.flatMap (ny (j + 1))) (f, []) (g, []) hk e rfl
      unfold lev
      rw [h2]
      exact bfs_same h n (k + 1) (j + 1) _ _ _ h1
end
end Bfs
/-! Paths by rule numbers; least ones among the shortest. -/
namespace Bfs
open FW
section
variable {R : Type} [DecidableEq R]
/-- the numbers of a run from a to a standing -/
inductive Path (suc : R → List (Nat × R)) (a : R) : List Int → R → Prop
  | nil : Path suc a [] a
  | snoc {p : List Int} {v u : R} {n : Nat} : Path suc a p v → (n, u) ∈ suc v → Path suc a (p ++ [(n : Int)]) u
variable {suc : R → List (Nat × R)} {a : R}
theorem Path.inv {p : List Int} {u : R} (h : Path suc a p u) : (p = [] ∧ u = a) ∨ ∃ q v n, p = q ++ [((n : Nat) : Int)] ∧ Path suc a q v ∧ (n, u) ∈ suc v := by
  cases h with
  | nil => exact .inl ⟨rfl, rfl⟩
  | snoc h m => exact .inr ⟨_, _, _, rfl, h, m⟩
/-- by numbers there is one way -/
def OneWay (suc : R → List (Nat × R)) : Prop := ∀ v n u u', (n, u) ∈ suc v → (n, u') ∈ suc v → u = u'
theorem snoc_inj {p q : List Int} {x y : Int} (h : p ++ [x] = q ++ [y]) : p = q ∧ x = y := by
  have := List.append_inj' h rfl
  exact ⟨this.1, by simpa using this.2⟩
theorem Path.det (ow : OneWay suc) {p : List Int} {u u' : R} (h : Path suc a p u) (h' : Path suc a p u') : u = u' := by
  induction h generalizing u' with
  | nil =>
    rcases h'.inv with ⟨_, e⟩ | ⟨q, v, n, e, _⟩
    · exact e.symm
    · simp at e
  | snoc h m ih =>
    rcases h'.inv with ⟨e, _⟩ | ⟨q, v, n, e, hq, hm⟩
    · simp at e
    · obtain ⟨e1, e2⟩ := snoc_inj e
      subst e1
      have ev := ih hq
      subst ev
      have en : _ = n := Int.ofNat_inj.mp e2
      subst en
      exact ow _ _ _ _ m hm
/-- just so far -/
def Dst (suc : R → List (Nat × R)) (a : R) (k : Nat) (v : R) : Prop := (∃ p, Path suc a p v ∧ p.length = k) ∧ ∀ j, j < k → ¬ ∃ p, Path suc a p v ∧ p.length = j
theorem Dst.uniq {j k : Nat} {v : R} (h : Dst suc a j v) (h' : Dst suc a k v) : j = k := by
  rcases Nat.lt_trichotomy j k with c | c | c
  · exact absurd h.1 (h'.2 j c)
  · exact c
  · exact absurd h'.1 (h.2 k c)
theorem dst_of {k : Nat} {v : R} (h : ∃ p, Path suc a p v ∧ p.length = k) : ∃ j, j ≤ k ∧ Dst suc a j v := by
  induction k using Nat.strongRecOn with
  | _ k ih =>
    by_cases c : ∃ j, j < k ∧ ∃ p, Path suc a p v ∧ p.length = j
    · obtain ⟨j, hj, hp⟩ := c
      obtain ⟨i, hi, hd⟩ := ih j hj hp
      exact ⟨i, by omega, hd⟩
    · exact ⟨k, Nat.le_refl k, h, fun j hj hp => c ⟨j, hj, hp⟩⟩
theorem dst_zero : Dst suc a 0 a := ⟨⟨[], .nil, rfl⟩, fun j hj => by omega⟩
theorem dst_zero_eq {v : R} (h : Dst suc a 0 v) : v = a := by
  obtain ⟨p, hp, hl⟩ := h.1
  rcases hp.inv with ⟨_, e⟩ | ⟨q, u, n, e, _⟩
  · exact e
  · rw [e] at hl; simp at hl
/-- one step on -/
theorem dst_succ {k : Nat} {v : R} : Dst suc a (k + 1) v ↔ (∃ u n, Dst suc a k u ∧ (n, v) ∈ suc u) ∧ ∀ j, j ≤ k → ¬ Dst suc a j v := by
  constructor
  · intro h
    refine ⟨?_, fun j hj hd => h.2 j (by omega) hd.1⟩
    obtain ⟨p, hp, hl⟩ := h.1
    rcases hp.inv with ⟨e, _⟩ | ⟨q, u, n, e, hq, hm⟩
    · rw [e] at hl; simp at hl
    · rw [e, List.length_append, List.length_singleton] at hl
      refine ⟨u, n, ⟨⟨q, hq, by omega⟩, fun j hj ⟨p', hp', hl'⟩ => h.2 (j + 1) (by omega) ⟨_, .snoc hp' hm, by simp [hl']⟩⟩, hm⟩
  · rintro ⟨⟨u, n, hu, hm⟩, h2⟩
    obtain ⟨p, hp, hl⟩ := hu.1
    refine ⟨⟨_, .snoc hp hm, by simp [hl]⟩, fun j hj hp' => ?_⟩
    obtain ⟨i, hi, hd⟩ := dst_of hp'
    exact h2 i (by omega) hd
/-! ### the order of rows of one length -/
theorem leR_snoc : ∀ {p q : List Int} {x y : Int}, p.length = q.length → (p = q → x ≤ y) → leR p q = true → leR (p ++ [x]) (q ++ [y]) = true
  | [], [], x, y, _, h, _ => by
    show leR [x] [y] = true
    have := h rfl
    rw [leR]
    split
    · rw [leR]
    · exact decide_eq_true (by omega)
  | [], _ :: _, _, _, h, _, _ => by cases h
  | _ :: _, [], _, _, h, _, _ => by cases h
  | u :: p, v :: q, x, y, hl, h, hle => by
    rw [List.cons_append, List.cons_append, leR]
    rw [leR] at hle
    by_cases e : u = v
    · rw [if_pos e] at hle ⊢
      exact leR_snoc (by simpa using hl) (fun z => h (by rw [e, z])) hle
    · rw [if_neg e] at hle ⊢
      exact hle
/-! ### levels of runs -/
structure Lvl (suc : R → List (Nat × R)) (a : R) (k : Nat) (rows : List (R × List Int)) : Prop where
  nd : (keys rows).Nodup
  mem : ∀ v, v ∈ keys rows ↔ Dst suc a k v
  path : ∀ x ∈ rows, Path suc a x.2 x.1 ∧ x.2.length = k
  least : ∀ x ∈ rows, ∀ q, Path suc a q x.1 → q.length = k → leR x.2 q = true
/-- two lists of one level hold the same -/
theorem Lvl.same {k : Nat} {r1 r2 : List (R × List Int)} (h1 : Lvl suc a k r1) (h2 : Lvl suc a k r2) : ∀ x, x ∈ r1 → x ∈ r2 := fun x hx => by
  have hk : x.1 ∈ keys r2 := (h2.mem _).mpr ((h1.mem _).mp (List.mem_map_of_mem hx))
  obtain ⟨y, hy, e⟩ := List.mem_map.mp hk
  have p1 := h1.path x hx
  have p2 := h2.path y hy
  have l1 := h1.least x hx y.2 (by rw [← e]; exact p2.1) p2.2
  have l2 := h2.least y hy x.2 (by rw [e]; exact p1.1) p1.2
  have : x = y := Prod.ext e.symm (totR.an _ _ l1 l2)
  rw [this]; exact hy
def cand (suc : R → List (Nat × R)) (x : R × List Int) : List (R × List Int) := (suc x.1).map fun p => (p.2, x.2 ++ [(p.1 : Int)])
theorem mem_cand {rows : List (R × List Int)} {y : R × List Int} : y ∈ rows.flatMap (cand suc) ↔ ∃ x ∈ rows, ∃ n, (n, y.1) ∈ suc x.1 ∧ y.2 = x.2 ++ [((n : Nat) : Int)] := by
  rw [List.mem_flatMap]
  constructor
  · rintro ⟨x, hx, hy⟩
    obtain ⟨p, hp, rfl⟩ := List.mem_map.mp hy
    exact ⟨x, hx, p.1, hp, rfl⟩
  · rintro ⟨x, hx, n, hn, e⟩
    exact ⟨x, hx, List.mem_map.mpr ⟨(n, y.1), hn, Prod.ext rfl e.symm⟩⟩
/-- what the candidates of a level say -/
theorem Lvl.next {k : Nat} {rows new : List (R × List Int)} (h : Lvl suc a k rows) (nd : (keys new).Nodup) (hm : ∀ v, v ∈ keys new ↔ v ∈ keys (rows.flatMap (cand suc)) ∧ ∀ j, j ≤ k → ¬ Dst suc a j v) (hin : ∀ x ∈ new, x ∈ rows.flatMap (cand suc)) (hl : ∀ x ∈ new, ∀ y ∈ rows.flatMap (cand suc), y.1 = x.1 → leR x.2 y.2 = true) : Lvl suc a (k + 1) new where
  nd := nd
  mem := fun v => by
    rw [hm, dst_succ]
    refine and_congr ⟨fun hv => ?_, fun ⟨u, n, hu, hn⟩ => ?_⟩ Iff.rfl
    · obtain ⟨y, hy, rfl⟩ := List.mem_map.mp hv
      obtain ⟨x, hx, n, hn, _⟩ := mem_cand.mp hy
      exact ⟨x.1, n, (h.mem _).mp (List.mem_map_of_mem hx), hn⟩
    · obtain ⟨x, hx, rfl⟩ := List.mem_map.mp ((h.mem u).mpr hu)
      exact List.mem_map.mpr ⟨(v, x.2 ++ [((n : Nat) : Int)]), mem_cand.mpr ⟨x, hx, n, hn, rfl⟩, rfl⟩
  path := fun y hy => by
    obtain ⟨x, hx, n, hn, e⟩ := mem_cand.mp (hin y hy)
    obtain ⟨p1, p2⟩ := h.path x hx
    rw [e]
    exact ⟨.snoc p1 hn, by simp [p2]⟩
  least := fun y hy q hq hql => by
    rcases hq.inv with ⟨e, _⟩ | ⟨q', u, n, e, hq', hn⟩
    · rw [e] at hql; simp at hql
    · rw [e, List.length_append, List.length_singleton] at hql
      have hd : Dst suc a (k + 1) y.1 := by
        have := (hm y.1).mp (List.mem_map_of_mem hy)
        obtain ⟨x, hx, m, hm', _⟩ := mem_cand.mp (hin y hy)
        exact dst_succ.mpr ⟨⟨x.1, m, (h.mem _).mp (List.mem_map_of_mem hx), hm'⟩, this.2⟩
      have hu : Dst suc a k u := ⟨⟨q', hq', by omega⟩, fun j hj ⟨p', hp', hl'⟩ => hd.2 (j + 1) (by omega) ⟨_, .snoc hp' hn, by simp [hl']⟩⟩
      obtain ⟨x, hx, e2⟩ := List.mem_map.mp ((h.mem u).mpr hu)
      have h1 := h.least x hx q' (by rw [e2]; exact hq') (by omega)
      have h2 := hl y hy (y.1, x.2 ++ [((n : Nat) : Int)]) (mem_cand.mpr ⟨x, hx, n, by rw [e2]; exact hn, rfl⟩) rfl
      rw [e]
      exact totR.tr _ _ _ h2 (leR_snoc (by rw [(h.path x hx).2]; omega) (fun _ => Int.le_refl _) h1)
/-! ### in the order of finding -/
def addN {V : Type} (acc : List (R × V) × List (R × V)) (p : R × V) : List (R × V) × List (R × V) := if p.1 ∈ keys acc.1 then acc else (acc.1 ++ [p], acc.2 ++ [p])
def Sor (rows : List (R × List Int)) : Prop := rows.Pairwise fun x y => leR x.2 y.2 = true
theorem foldN : ∀ (items : List (R × List Int)) (acc : List (R × List Int) × List (R × List Int)), Sor items → ∃ new, (items.foldl addN acc).1 = acc.1 ++ new ∧ (items.foldl addN acc).2 = acc.2 ++ new ∧ new.Sublist items ∧ (∀ q ∈ new, q.1 ∉ keys acc.1) ∧ ((keys acc.1).Nodup → (keys (acc.1 ++ new)).Nodup) ∧ (∀ p ∈ items, p.1 ∈ keys (acc.1 ++ new)) ∧ (∀ q ∈ new, ∀ p ∈ items, p.1 = q.1 → leR q.2 p.2 = true)
  | [], acc, _ => ⟨[], by simp, by simp, List.Sublist.refl _, fun q hq => (by cases hq), fun h => by simpa using h, fun p hp => (by cases hp), fun q hq => (by cases hq)⟩
  | p :: items, acc, hs => by
    obtain ⟨s1, s2⟩ := List.pairwise_cons.mp hs
    rw [List.foldl_cons]
    by_cases hp : p.1 ∈ keys acc.1
    · have e : addN acc p = acc := if_pos hp
      rw [e]
      obtain ⟨new, h1, h2, h3, h4, h5, h6, h7⟩ := foldN items acc s2
      refine ⟨new, h1, h2, h3.cons _, h4, h5, fun q hq => ?_, fun q hq x hx ex => ?_⟩
      · rcases List.mem_cons.mp hq with z | z
        · rw [z]
          show p.1 ∈ (acc.1 ++ new).map (·.1)
          rw [List.map_append]; exact List.mem_append_left _ hp
        · exact h6 q z
      · rcases List.mem_cons.mp hx with z | z
        · subst z; exact absurd (ex ▸ hp) (h4 q hq)
        · exact h7 q hq x z ex
    · have e : addN acc p = (acc.1 ++ [p], acc.2 ++ [p]) := if_neg hp
      rw [e]
      obtain ⟨new, h1, h2, h3, h4, h5, h6, h7⟩ := foldN items (acc.1 ++ [p], acc.2 ++ [p]) s2
      refine ⟨p :: new, by rw [h1]; simp, by rw [h2]; simp, h3.cons_cons _, fun q hq => ?_, fun nd => ?_, fun q hq => ?_, fun q hq x hx ex => ?_⟩
      · rcases List.mem_cons.mp hq with z | z
        · rw [z]; exact hp
        · intro hk
          refine h4 q z ?_
          show q.1 ∈ (acc.1 ++ [p]).map (·.1)
          rw [List.map_append]; exact List.mem_append_left _ hk
      · have : (keys (acc.1 ++ [p])).Nodup := by
          show ((acc.1 ++ [p]).map (·.1)).Nodup
          rw [List.map_append]
          refine List.nodup_append.mpr ⟨nd, by simp, fun u hu w hw => ?_⟩
          simp at hw
          rw [hw]
          exact fun z => hp (z ▸ hu)
        have := h5 this
        rwa [List.append_assoc] at this
      · have hq' : q = p ∨ q ∈ items := List.mem_cons.mp hq
        have key : keys (acc.1 ++ p :: new) = keys (acc.1 ++ [p] ++ new) := by rw [List.append_assoc]; rfl
        rw [key]
        rcases hq' with z | z
        · rw [z]
          show p.1 ∈ (acc.1 ++ [p] ++ new).map (·.1)
          simp
        · exact h6 q z
      · rcases List.mem_cons.mp hq with z | z
        · subst z
          rcases List.mem_cons.mp hx with y | y
          · subst y
            have := totR.to x.2 x.2
            simpa using this
          · exact s1 x y
        · rcases List.mem_cons.mp hx with y | y
          · subst y
            refine absurd ?_ (h4 q z)
            show q.1 ∈ (acc.1 ++ [x]).map (·.1)
            rw [← ex]; simp
          · exact h7 q z x y ex
/-- the candidates of a sorted level are sorted -/
theorem cand_sor {k : Nat} {rows : List (R × List Int)} (ow : OneWay suc) (inc : ∀ v, (suc v).Pairwise fun p q => p.1 < q.1) (h : Lvl suc a k rows) (hs : Sor rows) : Sor (rows.flatMap (cand suc)) := by
  have key : ∀ (l : List (R × List Int)), (∀ x ∈ l, x ∈ rows) → (keys l).Nodup → Sor l → Sor (l.flatMap (cand suc)) := by
    intro l
    induction l with
    | nil => intro _ _ _; exact List.Pairwise.nil
    | cons x l ih =>
      intro hm nd hs
      obtain ⟨s1, s2⟩ := List.pairwise_cons.mp hs
      have nd' : x.1 ∉ keys l ∧ (keys l).Nodup := List.nodup_cons.mp nd
      rw [List.flatMap_cons]
      refine List.pairwise_append.mpr ⟨?_, ih (fun y hy => hm y (List.mem_cons_of_mem _ hy)) nd'.2 s2, fun u hu w hw => ?_⟩
      · unfold cand
        rw [List.pairwise_map]
        refine (inc x.1).imp fun {p q} hpq => leR_snoc rfl (fun _ => by omega) ?_
        have := totR.to x.2 x.2
        simpa using this
      · obtain ⟨p, hp, rfl⟩ := List.mem_map.mp hu
        obtain ⟨y, hy, n, hn, e⟩ := mem_cand.mp hw
        rw [e]
        have px := h.path x (hm x List.mem_cons_self)
        have py := h.path y (hm y (List.mem_cons_of_mem _ hy))
        refine leR_snoc (by rw [px.2, py.2]) (fun z => ?_) (s1 y hy)
        have : x.1 = y.1 := Path.det ow px.1 (by rw [z]; exact py.1)
        exact absurd (by rw [this]; exact List.mem_map_of_mem hy) nd'.1
  exact key rows (fun x hx => hx) h.nd hs
/-- one level of the search that keeps runs -/
theorem Lvl.step {k : Nat} {found rows : List (R × List Int)} (ow : OneWay suc) (inc : ∀ v, (suc v).Pairwise fun p q => p.1 < q.1) (h : Lvl suc a k rows) (hs : Sor rows) (ndf : (keys found).Nodup) (hf : ∀ v, v ∈ keys found ↔ ∃ j, j ≤ k ∧ Dst suc a j v) :
    ∃ new, ((rows.flatMap (cand suc)).foldl addN (found, [])).1 = found ++ new ∧ ((rows.flatMap (cand suc)).foldl addN (found, [])).2 = new ∧ Lvl suc a (k + 1) new ∧ Sor new ∧ (keys (found ++ new)).Nodup ∧ ∀ v, v ∈ keys (found ++ new) ↔ ∃ j, j ≤ k + 1 ∧ Dst suc a j v := by
  have hc := cand_sor ow inc h hs
  obtain ⟨new, h1, h2, h3, h4, h5, h6, h7⟩ := foldN (rows.flatMap (cand suc)) (found, []) hc
  have ndn := h5 ndf
  have ndnew : (keys new).Nodup := by
    have : ((found ++ new).map (·.1)).Nodup := ndn
    rw [List.map_append] at this
    exact (List.nodup_append.mp this).2.1
  have hk : ∀ v, v ∈ keys (found ++ new) ↔ v ∈ keys found ∨ v ∈ keys new := fun v => by
    show v ∈ (found ++ new).map (·.1) ↔ _
    rw [List.map_append, List.mem_append]
  have hmem : ∀ v, v ∈ keys new ↔ v ∈ keys (rows.flatMap (cand suc)) ∧ ∀ j, j ≤ k → ¬ Dst suc a j v := fun v => by
    constructor
    · intro hv
      obtain ⟨x, hx, rfl⟩ := List.mem_map.mp hv
      exact ⟨List.mem_map_of_mem (h3.subset hx), fun j hj hd => h4 x hx ((hf _).mpr ⟨j, hj, hd⟩)⟩
    · rintro ⟨hv, hn⟩
      obtain ⟨x, hx, rfl⟩ := List.mem_map.mp hv
      rcases (hk _).mp (h6 x hx) with z | z
      · obtain ⟨j, hj, hd⟩ := (hf _).mp z
        exact absurd hd (hn j hj)
      · exact z
  have hL := h.next ndnew hmem (fun x hx => h3.subset hx) h7
  refine ⟨new, h1, by rw [h2]; rfl, hL, hc.sublist h3, ndn, fun v => ?_⟩
  rw [hk, hf, hL.mem]
  constructor
  · rintro (⟨j, hj, hd⟩ | hd)
    · exact ⟨j, by omega, hd⟩
    · exact ⟨k + 1, Nat.le_refl _, hd⟩
  · rintro ⟨j, hj, hd⟩
    by_cases e : j = k + 1
    · rw [e] at hd; exact .inr hd
    · exact .inl ⟨j, by omega, hd⟩
end
end Bfs
/-! Who comes to one: found from the end, one by one. -/
namespace Bfs
open FW
section
variable {R : Type} [DecidableEq R]
def addB (acc : List R × List R) (v : R) : List R × List R := if v ∈ acc.1 then acc else (acc.1 ++ [v], acc.2 ++ [v])
inductive BackR (pre : R → List R) (a : R) : R → Prop
  | refl : BackR pre a a
  | step {u v : R} : BackR pre a v → u ∈ pre v → BackR pre a u
structure Back (pre : R → List R) (a : R) (U F ws : List R) : Prop where
  nd : F.Nodup
  sub : ∀ v ∈ F, v ∈ U
  wsub : ∀ v ∈ ws, v ∈ F
  reach : ∀ v ∈ F, BackR pre a v
  cl : ∀ v ∈ F, v ∉ ws → ∀ u ∈ pre v, u ∈ F
  st : a ∈ F
theorem foldB (l : List R) : ∀ (acc : List R × List R), acc.1.Nodup → ∃ new, l.foldl addB acc = (acc.1 ++ new, acc.2 ++ new) ∧ (acc.1 ++ new).Nodup ∧ (∀ v ∈ new, v ∈ l) ∧ ∀ v ∈ l, v ∈ acc.1 ++ new := by
  induction l with
  | nil => intro acc h; exact ⟨[], by simp, by simpa using h, fun v hv => (by cases hv), fun v hv => (by cases hv)⟩
  | cons x l ih =>
    intro acc h
    rw [List.foldl_cons]
    by_cases hx : x ∈ acc.1
    · have e : addB acc x = acc := by unfold addB; exact if_pos hx
      rw [e]
      obtain ⟨new, h1, h2, h3, h4⟩ := ih acc h
      refine ⟨new, h1, h2, fun v hv => List.mem_cons_of_mem _ (h3 v hv), fun v hv => ?_⟩
      rcases List.mem_cons.mp hv with z | z
      · rw [z]; exact List.mem_append_left _ hx
      · exact h4 v z
    · have e : addB acc x = (acc.1 ++ [x], acc.2 ++ [x]) := by unfold addB; exact if_neg hx
      rw [e]
      obtain ⟨new, h1, h2, h3, h4⟩ := ih (acc.1 ++ [x], acc.2 ++ [x]) (List.nodup_append.mpr ⟨h, by simp, fun a ha b hb => by
        rw [List.mem_singleton.mp hb]; exact fun z => hx (by rw [← z]; exact ha)⟩)
      refine ⟨x :: new, ?_, ?_, fun v hv => ?_, fun v hv => ?_⟩
      · rw [h1]; simp
      · simpa using h2
      · rcases List.mem_cons.mp hv with z | z
        · rw [z]; exact List.mem_cons_self
        · exact List.mem_cons_of_mem _ (h3 v z)
      · have e2 : acc.1 ++ x :: new = (acc.1 ++ [x]) ++ new := by simp
        rw [e2]
        rcases List.mem_cons.mp hv with z | z
        · rw [z]; exact List.mem_append_left _ (List.mem_append_right _ List.mem_cons_self)
        · exact h4 v z
theorem Back.turn {pre : R → List R} {a x : R} {U F ws : List R} (hp : ∀ v ∈ U, ∀ u ∈ pre v, u ∈ U) (h : Back pre a U F (ws ++ [x])) : ∃ new, (pre x).foldl addB (F, ws) = (F ++ new, ws ++ new) ∧ Back pre a U (F ++ new) (ws ++ new) := by
  obtain ⟨new, h1, h2, h3, h4⟩ := foldB (pre x) (F, ws) h.nd
  have hx : x ∈ F := h.wsub x (List.mem_append_right _ List.mem_cons_self)
  refine ⟨new, h1, h2, fun v hv => ?_, fun v hv => ?_, fun v hv => ?_, fun v hv hw u hu => ?_, List.mem_append_left _ h.st⟩
  · rcases List.mem_append.mp hv with z | z
    · exact h.sub v z
    · exact hp x (h.sub x hx) v (h3 v z)
  · rcases List.mem_append.mp hv with z | z
    · exact List.mem_append_left _ (h.wsub v (List.mem_append_left _ z))
    · exact List.mem_append_right _ z
  · rcases List.mem_append.mp hv with z | z
    · exact h.reach v z
    · exact .step (h.reach x hx) (h3 v z)
  · by_cases e : v = x
    · subst e; exact h4 u hu
    · have hvF : v ∈ F := by
        rcases List.mem_append.mp hv with z | z
        · exact z
        · exact absurd (List.mem_append_right _ z) hw
      refine List.mem_append_left _ (h.cl v hvF (fun z => ?_) u hu)
      rcases List.mem_append.mp z with z | z
      · exact hw (List.mem_append_left _ z)
      · exact e (List.mem_singleton.mp z)
theorem Back.all {pre : R → List R} {a : R} {U F : List R} (h : Back pre a U F []) {v : R} (r : BackR pre a v) : v ∈ F := by
  induction r with
  | refl => exact h.st
  | step _ hu ih => exact h.cl _ ih (by simp) _ hu
theorem Back.few {pre : R → List R} {a : R} {U F ws : List R} (h : Back pre a U F ws) : F.length ≤ U.length := Bfs.few h.nd h.sub
theorem full_iff {F U : List R} (nF : F.Nodup) (nU : U.Nodup) (hs : ∀ v ∈ F, v ∈ U) : F.length = U.length ↔ ∀ v ∈ U, v ∈ F := by
  constructor
  · intro e v hv
    by_cases c : v ∈ F
    · exact c
    · have := Bfs.few (l := v :: F) (m := U) (List.nodup_cons.mpr ⟨c, nF⟩) fun y hy => by
        rcases List.mem_cons.mp hy with z | z
        · rw [z]; exact hv
        · exact hs y z
      rw [List.length_cons] at this
      omega
  · intro h
    exact Nat.le_antisymm (Bfs.few nF hs) (Bfs.few nU h)
/-- a run ahead of a run -/
theorem Path.front {suc : R → List (Nat × R)} {u v w : R} {n : Nat} {p : List Int} (hm : (n, v) ∈ suc u) (h : Path suc v p w) : ∃ q, Path suc u q w := by
  induction h with
  | nil => exact ⟨_, .snoc .nil hm⟩
  | snoc _ hm2 ih =>
    obtain ⟨q, hq⟩ := ih
    exact ⟨_, .snoc hq hm2⟩
theorem back_iff {suc : R → List (Nat × R)} {pre : R → List R} {a : R} {U : List R} (hU : ∀ u ∈ U, ∀ p ∈ suc u, p.2 ∈ U) (hpre : ∀ v u, v ∈ U → (u ∈ pre v ↔ u ∈ U ∧ v ∈ (suc u).map (·.2))) (ha : a ∈ U) {v : R} (hv : v ∈ U) : BackR pre a v ↔ ∃ p, Path suc v p a := by
  have inU : ∀ {u}, BackR pre a u → u ∈ U := fun r => by
    induction r with
    | refl => exact ha
    | step _ hu ih => exact ((hpre _ _ ih).mp hu).1
  constructor
  · intro r
    induction r with
    | refl => exact ⟨[], .nil⟩
    | step r hu ih =>
      have hvU := inU r
      obtain ⟨p, hp⟩ := ih hvU
      obtain ⟨_, hm⟩ := (hpre _ _ hvU).mp hu
      obtain ⟨q, hq, e⟩ := List.mem_map.mp hm
      obtain ⟨n, w⟩ := q
      subst e
      exact Path.front hq hp
  · rintro ⟨p, hp⟩
    have go : ∀ {w : R} {p : List Int}, Path suc v p w → w ∈ U ∧ (BackR pre a w → BackR pre a v) := fun h => by
      induction h with
      | nil => exact ⟨hv, id⟩
      | @snoc p x w n hx hm ih =>
        have hw := hU x ih.1 _ hm
        exact ⟨hw, fun r => ih.2 (.step r ((hpre w x hw).mpr ⟨ih.1, List.mem_map_of_mem (f := (·.2)) hm⟩))⟩
    exact (go hp).2 .refl
end
end Bfs
/-! Printed by wip/gen: the defs of the linked text, each by its function and its derivation. -/
namespace Lk06
open PySem PySem.Spec PyProof.Rows L2 LamX FW
abbrev N_is_whole : List Str := ["thing", "low", "high"]
abbrev p_is_whole : List Str := ["thing", "low", "high"]
theorem sc_is_whole : FnScope N_is_whole p_is_whole (defScope st_is_whole) := ⟨rfl, rfl, rfl, by decide +kernel, rfl, by decide +kernel, by decide +kernel⟩
abbrev N_is_word : List Str := ["thing", "sign"]
abbrev p_is_word : List Str := ["thing"]
theorem sc_is_word : FnScope N_is_word p_is_word (defScope st_is_word) := ⟨rfl, rfl, rfl, by decide +kernel, rfl, by decide +kernel, by decide +kernel⟩
abbrev N_are_counts : List Str := ["thing", "many", "high", "one"]
abbrev p_are_counts : List Str := ["thing", "many", "high"]
theorem sc_are_counts : FnScope N_are_counts p_are_counts (defScope st_are_counts) := ⟨rfl, rfl, rfl, by decide +kernel, rfl, by decide +kernel, by decide +kernel⟩
abbrev N_is_state : List Str := ["states", "thing"]
abbrev p_is_state : List Str := ["states", "thing"]
theorem sc_is_state : FnScope N_is_state p_is_state (defScope st_is_state) := ⟨rfl, rfl, rfl, by decide +kernel, rfl, by decide +kernel, by decide +kernel⟩
abbrev N_is_rule : List Str := ["states", "thing", "size", "one"]
abbrev p_is_rule : List Str := ["states", "thing"]
theorem sc_is_rule : FnScope N_is_rule p_is_rule (defScope st_is_rule) := ⟨rfl, rfl, rfl, by decide +kernel, rfl, by decide +kernel, by decide +kernel⟩
abbrev N_are_states : List Str := ["thing", "one", "other"]
abbrev p_are_states : List Str := ["thing"]
theorem sc_are_states : FnScope N_are_states p_are_states (defScope st_are_states) := ⟨rfl, rfl, rfl, by decide +kernel, rfl, by decide +kernel, by decide +kernel⟩
abbrev N_is_talk : List Str := ["thing", "states", "home", "crew", "rules", "rule"]
abbrev p_is_talk : List Str := ["thing"]
theorem sc_is_talk : FnScope N_is_talk p_is_talk (defScope st_is_talk) := ⟨rfl, rfl, rfl, by decide +kernel, rfl, by decide +kernel, by decide +kernel⟩
abbrev N_need_talk : List Str := ["thing"]
abbrev p_need_talk : List Str := ["thing"]
theorem sc_need_talk : FnScope N_need_talk p_need_talk (defScope st_need_talk) := ⟨rfl, rfl, rfl, by decide +kernel, rfl, by decide +kernel, by decide +kernel⟩
abbrev N_begun : List Str := ["talk", "size", "at"]
abbrev p_begun : List Str := ["talk", "size"]
theorem sc_begun : FnScope N_begun p_begun (defScope st_begun) := ⟨rfl, rfl, rfl, by decide +kernel, rfl, by decide +kernel, by decide +kernel⟩
abbrev N_is_over : List Str := ["one", "other", "left", "right"]
abbrev p_is_over : List Str := ["one", "other"]
theorem sc_is_over : FnScope N_is_over p_is_over (defScope st_is_over) := ⟨rfl, rfl, rfl, by decide +kernel, rfl, by decide +kernel, by decide +kernel⟩
abbrev N_vector : List Str := ["talk", "states", "state"]
abbrev p_vector : List Str := ["talk", "states"]
theorem sc_vector : FnScope N_vector p_vector (defScope st_vector) := ⟨rfl, rfl, rfl, by decide +kernel, rfl, by decide +kernel, by decide +kernel⟩
abbrev N_needed : List Str := ["talk", "rule"]
abbrev p_needed : List Str := ["talk", "rule"]
theorem sc_needed : FnScope N_needed p_needed (defScope st_needed) := ⟨rfl, rfl, rfl, by decide +kernel, rfl, by decide +kernel, by decide +kernel⟩
abbrev N_granted : List Str := ["talk", "rule"]
abbrev p_granted : List Str := ["talk", "rule"]
theorem sc_granted : FnScope N_granted p_granted (defScope st_granted) := ⟨rfl, rfl, rfl, by decide +kernel, rfl, by decide +kernel, by decide +kernel⟩
abbrev N_can : List Str := ["talk", "standing", "rule", "have", "need"]
abbrev p_can : List Str := ["talk", "standing", "rule"]
theorem sc_can : FnScope N_can p_can (defScope st_can) := ⟨rfl, rfl, rfl, by decide +kernel, rfl, by decide +kernel, by decide +kernel⟩
abbrev N_done : List Str := ["talk", "standing", "rule", "rest", "moved", "many", "goal", "spot", "have", "need", "more"]
abbrev p_done : List Str := ["talk", "standing", "rule"]
theorem sc_done : FnScope N_done p_done (defScope st_done) := ⟨rfl, rfl, rfl, by decide +kernel, rfl, by decide +kernel, by decide +kernel⟩
abbrev N_steps_from : List Str := ["talk", "standing", "some", "number", "rule"]
abbrev p_steps_from : List Str := ["talk", "standing"]
theorem sc_steps_from : FnScope N_steps_from p_steps_from (defScope st_steps_from) := ⟨rfl, rfl, rfl, by decide +kernel, rfl, by decide +kernel, by decide +kernel⟩
abbrev N_need_targets : List Str := ["talk", "targets", "one"]
abbrev p_need_targets : List Str := ["talk", "targets"]
theorem sc_need_targets : FnScope N_need_targets p_need_targets (defScope st_need_targets) := ⟨rfl, rfl, rfl, by decide +kernel, rfl, by decide +kernel, by decide +kernel⟩
abbrev N_need_size : List Str := ["size"]
abbrev p_need_size : List Str := ["size"]
theorem sc_need_size : FnScope N_need_size p_need_size (defScope st_need_size) := ⟨rfl, rfl, rfl, by decide +kernel, rfl, by decide +kernel, by decide +kernel⟩
abbrev N_walked : List Str := ["talk", "first", "found", "row", "further", "here", "number", "goal"]
abbrev p_walked : List Str := ["talk", "first"]
theorem sc_walked : FnScope N_walked p_walked (defScope st_walked) := ⟨rfl, rfl, rfl, by decide +kernel, rfl, by decide +kernel, by decide +kernel⟩
abbrev N_need_few : List Str := ["talk", "first"]
abbrev p_need_few : List Str := ["talk", "first"]
theorem sc_need_few : FnScope N_need_few p_need_few (defScope st_need_few) := ⟨rfl, rfl, rfl, by decide +kernel, rfl, by decide +kernel, by decide +kernel⟩
abbrev N_reached : List Str := ["talk", "size"]
abbrev p_reached : List Str := ["talk", "size"]
theorem sc_reached : FnScope N_reached p_reached (defScope st_reached) := ⟨rfl, rfl, rfl, by decide +kernel, rfl, by decide +kernel, by decide +kernel⟩
abbrev N_is_hit : List Str := ["standing", "targets", "target"]
abbrev p_is_hit : List Str := ["standing", "targets"]
theorem sc_is_hit : FnScope N_is_hit p_is_hit (defScope st_is_hit) := ⟨rfl, rfl, rfl, by decide +kernel, rfl, by decide +kernel, by decide +kernel⟩
abbrev N_run_of : List Str := ["talk", "first", "targets", "found", "row", "hits", "further", "here", "numbers", "number", "goal"]
abbrev p_run_of : List Str := ["talk", "first", "targets"]
theorem sc_run_of : FnScope N_run_of p_run_of (defScope st_run_of) := ⟨rfl, rfl, rfl, by decide +kernel, rfl, by decide +kernel, by decide +kernel⟩
abbrev N_run_to : List Str := ["talk", "size", "targets"]
abbrev p_run_to : List Str := ["talk", "size", "targets"]
theorem sc_run_to : FnScope N_run_to p_run_to (defScope st_run_to) := ⟨rfl, rfl, rfl, by decide +kernel, rfl, by decide +kernel, by decide +kernel⟩
abbrev N_ends_of : List Str := ["talk", "size", "standing"]
abbrev p_ends_of : List Str := ["talk", "size"]
theorem sc_ends_of : FnScope N_ends_of p_ends_of (defScope st_ends_of) := ⟨rfl, rfl, rfl, by decide +kernel, rfl, by decide +kernel, by decide +kernel⟩
abbrev N_can_return : List Str := ["talk", "size", "first", "some", "ahead", "standing", "number", "goal", "found", "work", "one"]
abbrev p_can_return : List Str := ["talk", "size"]
theorem sc_can_return : FnScope N_can_return p_can_return (defScope st_can_return) := ⟨rfl, rfl, rfl, by decide +kernel, rfl, by decide +kernel, by decide +kernel⟩
abbrev N_Lcell : List Str := ["_law_script", "_law_k"]
abbrev p_Lcell : List Str := ["_law_script", "_law_k"]
theorem sc_Lcell : FnScope N_Lcell p_Lcell (defScope st_Lcell) := ⟨rfl, rfl, rfl, by decide +kernel, rfl, by decide +kernel, by decide +kernel⟩
abbrev N_Ldrawn : List Str := ["_law_cell_here", "_law_k", "_law_more"]
abbrev p_Ldrawn : List Str := ["_law_cell_here", "_law_k"]
theorem sc_Ldrawn : FnScope N_Ldrawn p_Ldrawn (defScope st_Ldrawn) := ⟨rfl, rfl, rfl, by decide +kernel, rfl, by decide +kernel, by decide +kernel⟩
abbrev N_Lroll : List Str := ["_law_dice", "_law_many", "_law_told_here"]
abbrev p_Lroll : List Str := ["_law_dice", "_law_many"]
theorem sc_Lroll : FnScope N_Lroll p_Lroll (defScope st_Lroll) := ⟨rfl, rfl, rfl, by decide +kernel, rfl, by decide +kernel, by decide +kernel⟩
abbrev N_Lrounds : List Str := ["_law_script", "_law_high", "_law_k"]
abbrev p_Lrounds : List Str := ["_law_script", "_law_high"]
theorem sc_Lrounds : FnScope N_Lrounds p_Lrounds (defScope st_Lrounds) := ⟨rfl, rfl, rfl, by decide +kernel, rfl, by decide +kernel, by decide +kernel⟩
abbrev N_Lterm : List Str := ["_law_e", "_law_flags", "_law_kinds", "_law_flag"]
abbrev p_Lterm : List Str := ["_law_e"]
theorem sc_Lterm : FnScope N_Lterm p_Lterm (defScope st_Lterm) := ⟨rfl, rfl, rfl, by decide +kernel, rfl, by decide +kernel, by decide +kernel⟩
abbrev N_Ltold : List Str := ["_law_deed", "_law_e"]
abbrev p_Ltold : List Str := ["_law_deed"]
theorem sc_Ltold : FnScope N_Ltold p_Ltold (defScope st_Ltold) := ⟨rfl, rfl, rfl, by decide +kernel, rfl, by decide +kernel, by decide +kernel⟩
abbrev N_Lany_rule : List Str := ["_law_dice", "_law_states", "_law_act", "_law_some", "_law_turn"]
abbrev p_Lany_rule : List Str := ["_law_dice", "_law_states", "_law_act"]
theorem sc_Lany_rule : FnScope N_Lany_rule p_Lany_rule (defScope st_Lany_rule) := ⟨rfl, rfl, rfl, by decide +kernel, rfl, by decide +kernel, by decide +kernel⟩
abbrev N_Lany_talk : List Str := ["_law_dice", "_law_high", "_law_states", "_law_rules", "_law_calls", "_law_turn", "_law_rule", "_law_crew", "_law_state"]
abbrev p_Lany_talk : List Str := ["_law_dice", "_law_high"]
theorem sc_Lany_talk : FnScope N_Lany_talk p_Lany_talk (defScope st_Lany_talk) := ⟨rfl, rfl, rfl, by decide +kernel, rfl, by decide +kernel, by decide +kernel⟩
abbrev N_Lat_start : List Str := ["_law_talk", "_law_size", "_law_found", "_law_state", "_law_many"]
abbrev p_Lat_start : List Str := ["_law_talk", "_law_size"]
theorem sc_Lat_start : FnScope N_Lat_start p_Lat_start (defScope st_Lat_start) := ⟨rfl, rfl, rfl, by decide +kernel, rfl, by decide +kernel, by decide +kernel⟩
abbrev N_Lafter : List Str := ["_law_talk", "_law_standing", "_law_rule", "_law_counts", "_law_state", "_law_more", "_law_goal"]
abbrev p_Lafter : List Str := ["_law_talk", "_law_standing", "_law_rule"]
theorem sc_Lafter : FnScope N_Lafter p_Lafter (defScope st_Lafter) := ⟨rfl, rfl, rfl, by decide +kernel, rfl, by decide +kernel, by decide +kernel⟩
abbrev N_Lsteps_on : List Str := ["_law_talk", "_law_standing", "_law_found", "_law_number", "_law_rule", "_law_later"]
abbrev p_Lsteps_on : List Str := ["_law_talk", "_law_standing"]
theorem sc_Lsteps_on : FnScope N_Lsteps_on p_Lsteps_on (defScope st_Lsteps_on) := ⟨rfl, rfl, rfl, by decide +kernel, rfl, by decide +kernel, by decide +kernel⟩
abbrev N_Lcome_to : List Str := ["_law_talk", "_law_first", "_law_found", "_law_row", "_law_steps", "_law_further", "_law_here", "_law_number", "_law_later"]
abbrev p_Lcome_to : List Str := ["_law_talk", "_law_first"]
theorem sc_Lcome_to : FnScope N_Lcome_to p_Lcome_to (defScope st_Lcome_to) := ⟨rfl, rfl, rfl, by decide +kernel, rfl, by decide +kernel, by decide +kernel⟩
abbrev N_law : List Str := ["_law_script", "_law_dice", "_law_talk", "_law_size", "_law_first", "_law_some", "_law_lost", "_law_bad", "_law_made", "_law_standing"]
abbrev p_law : List Str := ["_law_script"]
theorem sc_law : FnScope N_law p_law (defScope st_law) := ⟨rfl, rfl, rfl, by decide +kernel, rfl, by decide +kernel, by decide +kernel⟩
/-- texts and numbers of the module -/
structure Glob (mg : Str → Option Value) : Prop where
  SMALL : ∃ t, mg "SMALL" = some (.str "abcdefghijklmnopqrstuvwxyz" t)
  MOST_SIZE : ∃ t, mg "MOST_SIZE" = some (.int 12 t)
  MOST_REACHED : ∃ t, mg "MOST_REACHED" = some (.int 4000 t)
/-- classes that are raised -/
structure Excs (K : PySem.W.Frag) (mg : Str → Option Value) : Prop where
  BadTalk : ExcT K mg "BadTalk" (He.ga K "BadTalk")
  BadStanding : ExcT K mg "BadStanding" (He.ga K "BadStanding")
  BadNumber : ExcT K mg "BadNumber" (He.ga K "BadNumber")
  BadTargets : ExcT K mg "BadTargets" (He.ga K "BadTargets")
  BadPaper : ExcT K mg "BadPaper" (He.ga K "BadPaper")
  BadWeights : ExcT K mg "BadWeights" (He.ga K "BadWeights")
  BadTable : ExcT K mg "BadTable" (He.ga K "BadTable")
  BadRun : ExcT K mg "BadRun" (He.ga K "BadRun")
  BadRule : ExcT K mg "BadRule" (He.ga K "BadRule")
  BadName : ExcT K mg "BadName" (He.ga K "BadName")
  Taken : ExcT K mg "Taken" (He.ga K "Taken")
  NoName : ExcT K mg "NoName" (He.ga K "NoName")
  Nothing : ExcT K mg "Nothing" (He.ga K "Nothing")
  Full : ExcT K mg "Full" (He.ga K "Full")
  BadText : ExcT K mg "BadText" (He.ga K "BadText")
def fs_is_whole : FS := (fsRet (fAndV (fIsi .int (fVar 0)) (fAndV (fNotV (fIsi .bool (fVar 0))) (fChain dLe dLe (fVar 1) (fVar 0) (fVar 2)))))
def fn_is_whole : List D → Res D := fnF 3 3 fs_is_whole
def fs_is_word : FS := (fsRet (fAndV (fIsi .str (fVar 0)) (fAndV (fChain dLe dLe (fC (.int 1)) (fCB dLen (fCons (fVar 0) fNil)) (fC (.int 8))) (fCB dAll (fCons (fLc (fIter (fVar 0)) (gN 1) fYes (fOp dIn (fVar 1) (fC (.str "abcdefghijklmnopqrstuvwxyz"))) [1]) fNil)))))
def fn_is_word : List D → Res D := fnF 1 2 fs_is_word
def fs_are_counts : FS := (fsRet (fAndV (fIsi .tuple (fVar 0)) (fAndV (fOp dEq (fCB dLen (fCons (fVar 0) fNil)) (fVar 1)) (fCB dAll (fCons (fLc (fIter (fVar 0)) (gN 3) fYes (fCall fn_is_whole (fCons (fVar 3) (fCons (fC (.int 0)) (fCons (fVar 2) fNil)))) [3]) fNil)))))
def fn_are_counts : List D → Res D := fnF 3 4 fs_are_counts
def fs_is_state : FS := (fsRet (fAndV (fIsi .str (fVar 1)) (fOp dIn (fVar 1) (fVar 0))))
def fn_is_state : List D → Res D := fnF 2 2 fs_is_state
def fs_is_rule : FS := (fsSeq (fsIf (fOr (fNot (fTest (fIsi .tuple (fVar 1)))) (fOr (fTest (fOp dEq (fVar 1) (fTup fNil))) (fNot (fTest (fIsi .str (fOp dIx (fVar 1) (fC (.int 0)))))))) (fsRet (fC (.bl false))) fsSkip) (fsSeq (fsIf (fTest (fOp dEq (fOp dIx (fVar 1) (fC (.int 0))) (fC (.str "call")))) (fsSeq (fsIf (fOr (fTest (fOp dNe (fCB dLen (fCons (fVar 1) fNil)) (fC (.int 4)))) (fOr (fNot (fTest (fIsi .tuple (fOp dIx (fVar 1) (fC (.int 3)))))) (fTest (fOp dNe (fCB dLen (fCons (fOp dIx (fVar 1) (fC (.int 3))) fNil)) (fCB dLen (fCons (fVar 0) fNil)))))) (fsRet (fC (.bl false))) fsSkip) (fsRet (fCB dAll (fCons (fLc (fIter (fOp dAdd (fCut (fVar 1) (fPart (fC (.int 1))) (fPart (fC (.int 3)))) (fOp dIx (fVar 1) (fC (.int 3))))) (gN 3) fYes (fCall fn_is_state (fCons (fVar 0) (fCons (fVar 3) fNil))) [3]) fNil)))) fsSkip) (fsSeq (fsSet 2 (fGet2 (fDisp [((fC (.str "alone")), (fC (.int 3))), ((fC (.str "meet")), (fC (.int 5)))]) (fOp dIx (fVar 1) (fC (.int 0))) (fC (.int 0)))) (fsRet (fAndV (fOp dEq (fCB dLen (fCons (fVar 1) fNil)) (fVar 2)) (fCB dAll (fCons (fLc (fIter (fCut (fVar 1) (fPart (fC (.int 1))) fNo)) (gN 3) fYes (fCall fn_is_state (fCons (fVar 0) (fCons (fVar 3) fNil))) [3]) fNil)))))))
def fn_is_rule : List D → Res D := fnF 2 4 fs_is_rule
def fs_are_states : FS := (fsSeq (fsIf (fOr (fNot (fTest (fIsi .tuple (fVar 0)))) (fOr (fNot (fTest (fChain dLe dLe (fC (.int 2)) (fCB dLen (fCons (fVar 0) fNil)) (fC (.int 6))))) (fNot (fTest (fCB dAll (fCons (fLc (fIter (fVar 0)) (gN 1) fYes (fCall fn_is_word (fCons (fVar 1) fNil)) [1]) fNil)))))) (fsRet (fC (.bl false))) fsSkip) (fsRet (fCB dAll (fCons (fLc (fItA dZip (fCons (fVar 0) (fCons (fCut (fVar 0) (fPart (fC (.int 1))) fNo) fNil))) (gT 2 (gsCons (gN 1) (gsCons (gN 2) gsNil))) fYes (fOp dLt (fVar 1) (fVar 2)) [1, 2]) fNil))))
def fn_are_states : List D → Res D := fnF 1 3 fs_are_states
def fs_is_talk : FS := (fsSeq (fsIf (fOr (fNot (fTest (fIsi .tuple (fVar 0)))) (fOr (fTest (fOp dNe (fCB dLen (fCons (fVar 0) fNil)) (fC (.int 4)))) (fNot (fTest (fCall fn_are_states (fCons (fOp dIx (fVar 0) (fC (.int 0))) fNil)))))) (fsRet (fC (.bl false))) fsSkip) (fsSeq (fsAsg (sgT 4 (sgsCons (sgN 1) (sgsCons (sgN 2) (sgsCons (sgN 3) (sgsCons (sgN 4) sgsNil))))) (fVar 0)) (fsSeq (fsIf (fOr (fNot (fTest (fCall fn_is_state (fCons (fVar 1) (fCons (fVar 2) fNil))))) (fNot (fTest (fCall fn_are_counts (fCons (fVar 3) (fCons (fCB dLen (fCons (fVar 1) fNil)) (fCons (fC (.int 3)) fNil))))))) (fsRet (fC (.bl false))) fsSkip) (fsSeq (fsIf (fOr (fNot (fTest (fIsi .tuple (fVar 4)))) (fOr (fTest (fOp dGt (fCB dLen (fCons (fVar 4) fNil)) (fC (.int 12)))) (fNot (fTest (fCB dAll (fCons (fLc (fIter (fVar 4)) (gN 5) fYes (fCall fn_is_rule (fCons (fVar 1) (fCons (fVar 5) fNil))) [5]) fNil)))))) (fsRet (fC (.bl false))) fsSkip) (fsRet (fOp dEq (fLenSet (fVar 4)) (fCB dLen (fCons (fVar 4) fNil))))))))
def fn_is_talk : List D → Res D := fnF 1 6 fs_is_talk
def fs_need_talk : FS := (fsIf (fNot (fTest (fCall fn_is_talk (fCons (fVar 0) fNil)))) (fsRaise "BadTalk") fsSkip)
def fn_need_talk : List D → Res D := fnF 1 1 fs_need_talk
def fs_begun : FS := (fsSeq (fsSet 2 (fTIx (fOp dIx (fVar 0) (fC (.int 0))) (fOp dIx (fVar 0) (fC (.int 1))))) (fsRet (fOp dAdd (fOp dAdd (fCut (fOp dIx (fVar 0) (fC (.int 2))) fNo (fPart (fVar 2))) (fTup (fCons (fOp dAdd (fOp dIx (fOp dIx (fVar 0) (fC (.int 2))) (fVar 2)) (fVar 1)) fNil))) (fCut (fOp dIx (fVar 0) (fC (.int 2))) (fPart (fOp dAdd (fVar 2) (fC (.int 1)))) fNo))))
def fn_begun : List D → Res D := fnF 2 3 fs_begun
def fs_vector : FS := (fsRet (fCB dTuple (fCons (fLc (fIter (fOp dIx (fVar 0) (fC (.int 0)))) (gN 2) fYes (fCount (fVar 1) (fVar 2)) [2]) fNil)))
def fn_vector : List D → Res D := fnF 2 3 fs_vector
def fs_needed : FS := (fsRet (fCall fn_vector (fCons (fVar 0) (fCons (fIf (fTest (fOp dEq (fOp dIx (fVar 1) (fC (.int 0))) (fC (.str "meet")))) (fCB dList (fCons (fCut (fVar 1) (fPart (fC (.int 1))) (fPart (fC (.int 3)))) fNil)) (fLst (fCons (fOp dIx (fVar 1) (fC (.int 1))) fNil))) fNil))))
def fn_needed : List D → Res D := fnF 2 2 fs_needed
def fs_granted : FS := (fsRet (fCall fn_vector (fCons (fVar 0) (fCons (fIf (fTest (fOp dEq (fOp dIx (fVar 1) (fC (.int 0))) (fC (.str "meet")))) (fCB dList (fCons (fCut (fVar 1) (fPart (fC (.int 3))) (fPart (fC (.int 5)))) fNil)) (fLst (fCons (fOp dIx (fVar 1) (fC (.int 2))) fNil))) fNil))))
def fn_granted : List D → Res D := fnF 2 2 fs_granted
def fs_can : FS := (fsRet (fCB dAll (fCons (fLc (fItA dZip (fCons (fVar 1) (fCons (fCall fn_needed (fCons (fVar 0) (fCons (fVar 2) fNil))) fNil))) (gT 2 (gsCons (gN 3) (gsCons (gN 4) gsNil))) fYes (fOp dGe (fVar 3) (fVar 4)) [3, 4]) fNil)))
def fn_can : List D → Res D := fnF 3 5 fs_can
def fs_done : FS := (fsSeq (fsSet 3 (fLc (fItA dZip (fCons (fVar 1) (fCons (fCall fn_needed (fCons (fVar 0) (fCons (fVar 2) fNil))) fNil))) (gT 2 (gsCons (gN 8) (gsCons (gN 9) gsNil))) fYes (fOp dSub (fVar 8) (fVar 9)) [8, 9])) (fsSeq (fsIf (fTest (fOp dEq (fOp dIx (fVar 2) (fC (.int 0))) (fC (.str "call")))) (fsSeq (fsSetO 4 (fOp dMulL (fLst (fCons (fC (.int 0)) fNil)) (fCB dLen (fCons (fVar 3) fNil)))) (fsSeq (fsFor (fItA dZip (fCons (fVar 3) (fCons (fOp dIx (fVar 2) (fC (.int 3))) fNil))) (sgT 2 (sgsCons (sgN 5) (sgsCons (sgN 6) sgsNil))) (fsSeq (fsSet 7 (fTIx (fOp dIx (fVar 0) (fC (.int 0))) (fVar 6))) (fsPut 4 (fVar 7) (fOp dAdd (fOp dIx (fVar 4) (fVar 7)) (fVar 5))))) (fsFreeze 3 4))) fsSkip) (fsRet (fCB dTuple (fCons (fLc (fItA dZip (fCons (fVar 3) (fCons (fCall fn_granted (fCons (fVar 0) (fCons (fVar 2) fNil))) fNil))) (gT 2 (gsCons (gN 8) (gsCons (gN 10) gsNil))) fYes (fOp dAdd (fVar 8) (fVar 10)) [8, 10]) fNil)))))
def fn_done : List D → Res D := fnF 3 11 fs_done
def fs_steps_from : FS := (fsSeq (fsSet 2 (fLc (fItA dEnum (fCons (fOp dIx (fVar 0) (fC (.int 3))) fNil)) (gT 2 (gsCons (gN 3) (gsCons (gN 4) gsNil))) (fTest (fCall fn_can (fCons (fVar 0) (fCons (fVar 1) (fCons (fVar 4) fNil))))) (fTup (fCons (fVar 3) (fCons (fVar 4) fNil))) [3, 4])) (fsRet (fLc (fIter (fVar 2)) (gT 2 (gsCons (gN 3) (gsCons (gN 4) gsNil))) fYes (fTup (fCons (fVar 3) (fCons (fCall fn_done (fCons (fVar 0) (fCons (fVar 1) (fCons (fVar 4) fNil)))) fNil))) [3, 4])))
def fn_steps_from : List D → Res D := fnF 2 5 fs_steps_from
def fs_need_size : FS := (fsIf (fNot (fTest (fCall fn_is_whole (fCons (fVar 0) (fCons (fC (.int 0)) (fCons (fC (.int 12)) fNil)))))) (fsRaise "BadNumber") fsSkip)
def fn_need_size : List D → Res D := fnF 1 1 fs_need_size
def fs_walked : FS := (fsSeq (fsPar2 2 3 .t .v (fDispT (fVar 1) (fC .non)) (fLst (fCons (fVar 1) fNil))) (fsSeq (fsWhile 10000 (fTest (fOp dNe (fVar 3) (fLst fNil))) (fsSeq (fsSetO 4 (fLst fNil)) (fsSeq (fsFor (fIter (fVar 3)) (sgN 5) (fsFor (fIter (fCall fn_steps_from (fCons (fVar 0) (fCons (fVar 5) fNil)))) (sgT 2 (sgsCons (sgN 6) (sgsCons (sgN 7) sgsNil))) (fsIf (fTest (fOp dNotInT (fVar 7) (fVar 2))) (fsSeq (fsPutT 2 (fVar 7) (fTup (fCons (fVar 5) (fCons (fVar 6) fNil)))) (fsApp 4 (fVar 7))) fsSkip))) (fsSeq (fsIf (fTest (fOp dGt (fCB dLenT (fCons (fVar 2) fNil)) (fC (.int 4000)))) (fsRaise "Full") fsSkip) (fsFreeze 3 4))))) (fsRetT 2)))
def fn_walked : List D → Res D := fnF 2 8 fs_walked
def fs_reached : FS := (fsSeq (fsExpr (fCall fn_need_talk (fCons (fVar 0) fNil))) (fsSeq (fsExpr (fCall fn_need_size (fCons (fVar 1) fNil))) (fsRet (fSortF (fCall fn_walked (fCons (fVar 0) (fCons (fCall fn_begun (fCons (fVar 0) (fCons (fVar 1) fNil))) fNil)))))))
def fn_reached : List D → Res D := fnF 2 2 fs_reached
def fs_run_to : FS := (fsSeq (fsExpr (fCall fn_need_talk (fCons (fVar 0) fNil))) (fsSeq (fsExpr (fCall fn_need_size (fCons (fVar 1) fNil))) (fsSeq fsNever (fsSeq fsNever fsNever))))
def fn_run_to : List D → Res D := fnF 3 3 fs_run_to
def fs_ends_of : FS := (fsSeq (fsExpr (fCall fn_need_talk (fCons (fVar 0) fNil))) (fsSeq (fsExpr (fCall fn_need_size (fCons (fVar 1) fNil))) (fsRet (fLc (fIter (fSortF (fCall fn_walked (fCons (fVar 0) (fCons (fCall fn_begun (fCons (fVar 0) (fCons (fVar 1) fNil))) fNil))))) (gN 2) (fTest (fOp dEq (fCall fn_steps_from (fCons (fVar 0) (fCons (fVar 2) fNil))) (fLst fNil))) (fVar 2) [2]))))
def fn_ends_of : List D → Res D := fnF 2 3 fs_ends_of
def fs_can_return : FS := (fsSeq (fsExpr (fCall fn_need_talk (fCons (fVar 0) fNil))) (fsSeq (fsExpr (fCall fn_need_size (fCons (fVar 1) fNil))) (fsSeq (fsSet 2 (fCall fn_begun (fCons (fVar 0) (fCons (fVar 1) fNil)))) (fsSeq (fsSet 3 (fCall fn_walked (fCons (fVar 0) (fCons (fVar 2) fNil)))) (fsSeq (fsAhead 4 5 6 7 (fIterF (fVar 3)) (fIterF (fVar 3)) (fIter (fCall fn_steps_from (fCons (fVar 0) (fCons (fVar 5) fNil))))) (fsSeq (fsPar2 8 9 .t .l (fDispT (fVar 2) (fC (.bl true))) (fLst (fCons (fVar 2) fNil))) (fsSeq (fsWhile 10000 (fTest (fOp dNe (fVar 9) (fLst fNil))) (fsForPop 4 9 (sgN 10) (fsIf (fTest (fOp dNotInT (fVar 10) (fVar 8))) (fsSeq (fsPutT 8 (fVar 10) (fC (.bl true))) (fsApp 9 (fVar 10))) fsSkip))) (fsRet (fOp dEq (fCB dLenT (fCons (fVar 8) fNil)) (fCB dLenT (fCons (fVar 3) fNil)))))))))))
def fn_can_return : List D → Res D := fnF 2 11 fs_can_return
def ws_Lany_rule : WS := (wsSeq (wsSet 3 (wLc (wiOf (fItA dRange1 (fCons (fC (.int 4)) fNil))) (gN 4) fYes (wOp dIx (wOf (fVar 1)) (wCall fnRoll mono_roll (waOf (fCons (fVar 0) (fCons (fCB dLen (fCons (fVar 1) fNil)) fNil))))) [4])) (wsSeq (wsIf (fTest (fOp dLt (fVar 2) (fC (.int 3)))) (wsRet (wOf (fTup (fCons (fC (.str "alone")) (fCons (fOp dIx (fVar 3) (fC (.int 0))) (fCons (fOp dIx (fVar 3) (fC (.int 1))) fNil)))))) wsSkip) (wsSeq (wsIf (fTest (fOp dLt (fVar 2) (fC (.int 7)))) (wsRet (wOf (fTup (fCons (fC (.str "meet")) (fCons (fOp dIx (fVar 3) (fC (.int 0))) (fCons (fOp dIx (fVar 3) (fC (.int 1))) (fCons (fOp dIx (fVar 3) (fC (.int 2))) (fCons (fOp dIx (fVar 3) (fC (.int 3))) fNil)))))))) wsSkip) (wsRet (wTup (waCons (wOf (fC (.str "call"))) (waCons (wOf (fOp dIx (fVar 3) (fC (.int 0)))) (waCons (wOf (fOp dIx (fVar 3) (fC (.int 1)))) (waCons (wCB dTuple (waCons (wLc (wiOf (fIter (fVar 1))) (gN 4) fYes (wOp dIx (wOf (fVar 1)) (wCall fnRoll mono_roll (waOf (fCons (fVar 0) (fCons (fCB dLen (fCons (fVar 1) fNil)) fNil))))) [4]) waNil)) waNil)))))))))
abbrev fn_Lany_rule : FnW := fnW 3 5 ws_Lany_rule
def ws_Lany_talk : WS := (wsSeq (wsSet 2 (wCut (wOf (fLst (fCons (fC (.str "busy")) (fCons (fC (.str "free")) (fCons (fC (.str "own")) (fCons (fC (.str "wait")) fNil)))))) woNo (woPart (wOp dAdd (wOf (fC (.int 2))) (wCall fnRoll mono_roll (waOf (fCons (fVar 0) (fCons (fC (.int 3)) fNil)))))))) (wsSeq (wsParOV 3 4 (wOf (fLst fNil)) (wOf (fC (.int 0)))) (wsSeq (wsFor (wiA dRange1 (waCons (wCall fnRoll mono_roll (waOf (fCons (fVar 0) (fCons (fOp dAdd (fVar 1) (fC (.int 1))) fNil)))) waNil)) (sgN 5) (wsSeq (wsSet 6 (wCall fn_Lany_rule mono_fnW (waCons (wOf (fVar 0)) (waCons (wOf (fVar 2)) (waCons (wCall fnRoll mono_roll (waOf (fCons (fVar 0) (fCons (fC (.int 8)) fNil)))) waNil))))) (wsIf (fAnd (fTest (fOp dNotIn (fVar 6) (fVar 3))) (fOr (fTest (fOp dNe (fOp dIx (fVar 6) (fC (.int 0))) (fC (.str "call")))) (fTest (fOp dEq (fVar 4) (fC (.int 0)))))) (wsSeq (wsApp 3 (wOf (fVar 6))) (wsSet 4 (wOf (fOp dAdd (fVar 4) (fCB dInt (fCons (fOp dEq (fOp dIx (fVar 6) (fC (.int 0))) (fC (.str "call"))) fNil)))))) wsSkip))) (wsSeq (wsSet 7 (wCB dTuple (waCons (wLc (wiOf (fIter (fVar 2))) (gN 8) fYes (wOp dIx (wOf (fLst (fCons (fC (.int 0)) (fCons (fC (.int 0)) (fCons (fC (.int 1)) (fCons (fC (.int 2)) fNil)))))) (wCall fnRoll mono_roll (waOf (fCons (fVar 0) (fCons (fC (.int 4)) fNil))))) [8]) waNil))) (wsRet (wTup (waCons (wOf (fCB dTuple (fCons (fVar 2) fNil))) (waCons (wOp dIx (wOf (fVar 2)) (wCall fnRoll mono_roll (waOf (fCons (fVar 0) (fCons (fCB dLen (fCons (fVar 2) fNil)) fNil))))) (waCons (wOf (fVar 7)) (waCons (wOf (fCB dTuple (fCons (fVar 3) fNil))) waNil))))))))))
abbrev fn_Lany_talk : FnW := fnW 2 9 ws_Lany_talk
def fs_Lat_start : FS := (fsSeq (fsSetO 2 (fLst fNil)) (fsSeq (fsFor (fItA dZip (fCons (fOp dIx (fVar 0) (fC (.int 0))) (fCons (fOp dIx (fVar 0) (fC (.int 2))) fNil))) (sgT 2 (sgsCons (sgN 3) (sgsCons (sgN 4) sgsNil))) (fsApp 2 (fIf (fTest (fOp dEq (fVar 3) (fOp dIx (fVar 0) (fC (.int 1))))) (fOp dAdd (fVar 4) (fVar 1)) (fVar 4)))) (fsRet (fCB dTuple (fCons (fVar 2) fNil)))))
def fn_Lat_start : List D → Res D := fnF 2 5 fs_Lat_start
def fs_Lafter : FS := (fsSeq (fsSetOD 3 (fCB dZipDict (fCons (fOp dIx (fVar 0) (fC (.int 0))) (fCons (fVar 1) fNil)))) (fsSeq (fsFor (fIter (fIf (fTest (fOp dEq (fOp dIx (fVar 2) (fC (.int 0))) (fC (.str "meet")))) (fCut (fVar 2) (fPart (fC (.int 1))) (fPart (fC (.int 3)))) (fCut (fVar 2) (fPart (fC (.int 1))) (fPart (fC (.int 2)))))) (sgN 4) (fsSeq (fsPut 3 (fVar 4) (fOp dSub (fOp dIxX (fVar 3) (fVar 4)) (fC (.int 1)))) (fsIf (fTest (fOp dLt (fOp dIxX (fVar 3) (fVar 4)) (fC (.int 0)))) (fsRet (fC .non)) fsSkip))) (fsSeq (fsIf (fTest (fOp dEq (fOp dIx (fVar 2) (fC (.int 0))) (fC (.str "call")))) (fsSeq (fsSetOD 5 (fCB dZipDict (fCons (fOp dIx (fVar 0) (fC (.int 0))) (fCons (fOp dMulX (fLst (fCons (fC (.int 0)) fNil)) (fCB dLen (fCons (fVar 1) fNil))) fNil)))) (fsSeq (fsFor (fItA dZip (fCons (fOp dIx (fVar 0) (fC (.int 0))) (fCons (fOp dIx (fVar 2) (fC (.int 3))) fNil))) (sgT 2 (sgsCons (sgN 4) (sgsCons (sgN 6) sgsNil))) (fsPut 5 (fVar 6) (fOp dAdd (fOp dIxX (fVar 5) (fVar 6)) (fOp dIxX (fVar 3) (fVar 4))))) (fsMove 3 5))) fsSkip) (fsSeq (fsFor (fIter (fIf (fTest (fOp dEq (fOp dIx (fVar 2) (fC (.int 0))) (fC (.str "meet")))) (fCut (fVar 2) (fPart (fC (.int 3))) (fPart (fC (.int 5)))) (fCut (fVar 2) (fPart (fC (.int 2))) (fPart (fC (.int 3)))))) (sgN 4) (fsPut 3 (fVar 4) (fOp dAdd (fOp dIxX (fVar 3) (fVar 4)) (fC (.int 1))))) (fsRet (fCB dTuple (fCons (fLc (fIter (fOp dIx (fVar 0) (fC (.int 0)))) (gN 4) fYes (fOp dIxX (fVar 3) (fVar 4)) [4]) fNil)))))))
def fn_Lafter : List D → Res D := fnF 3 7 fs_Lafter
def fs_Lsteps_on : FS := (fsSeq (fsSetO 2 (fLst fNil)) (fsSeq (fsFor (fItA dEnum (fCons (fOp dIx (fVar 0) (fC (.int 3))) fNil)) (sgT 2 (sgsCons (sgN 3) (sgsCons (sgN 4) sgsNil))) (fsSeq (fsSet 5 (fCall fn_Lafter (fCons (fVar 0) (fCons (fVar 1) (fCons (fVar 4) fNil))))) (fsIf (fTest (fOp dIsNot (fVar 5) (fC .non))) (fsApp 2 (fTup (fCons (fVar 3) (fCons (fVar 5) fNil)))) fsSkip))) (fsRet (fVar 2))))
def fn_Lsteps_on : List D → Res D := fnF 2 6 fs_Lsteps_on
def fs_Lcome_to : FS := (fsSeq (fsPar3 2 3 4 .t .v .v (fDispT (fVar 1) (fC (.int 0))) (fLst (fCons (fVar 1) fNil)) (fC (.int 0))) (fsSeq (fsWhile 10000 (fTest (fOp dNe (fVar 3) (fLst fNil))) (fsSeq (fsParVO 4 5 (fOp dAdd (fVar 4) (fC (.int 1))) (fLst fNil)) (fsSeq (fsFor (fIter (fVar 3)) (sgN 6) (fsFor (fIter (fCall fn_Lsteps_on (fCons (fVar 0) (fCons (fVar 6) fNil)))) (sgT 2 (sgsCons (sgN 7) (sgsCons (sgN 8) sgsNil))) (fsIf (fTest (fOp dNotInT (fVar 8) (fVar 2))) (fsSeq (fsPutT 2 (fVar 8) (fVar 4)) (fsApp 5 (fVar 8))) fsSkip))) (fsFreeze 3 5)))) (fsRetT 2)))
def fn_Lcome_to : List D → Res D := fnF 2 9 fs_Lcome_to
def ws_law : WS := (wsSeq (wsAsg (sgT 2 (sgsCons (sgN 2) (sgsCons (sgN 3) sgsNil))) (wTup (waCons (wCall fn_Lany_talk mono_fnW (waOf (fCons (fVar 1) (fCons (fC (.int 7)) fNil)))) (waCons (wCall fnRoll mono_roll (waOf (fCons (fVar 1) (fCons (fC (.int 5)) fNil)))) waNil)))) (wsSeq (wsSet 4 (wOf (fCall fn_Lat_start (fCons (fVar 2) (fCons (fVar 3) fNil))))) (wsSeq (wsSet 5 (wOf (fCall fn_Lcome_to (fCons (fVar 2) (fCons (fVar 4) fNil))))) (wsSeq (wsIf (fTest (fOp dNe (fCall fn_reached (fCons (fVar 2) (fCons (fVar 3) fNil))) (fSortF (fVar 5)))) (wsRet (wOf (fC (.bl false)))) wsSkip) (wsSeq (wsIf (fTest (fOp dNe (fCall fn_ends_of (fCons (fVar 2) (fCons (fVar 3) fNil))) (fLc (fIter (fSortF (fVar 5))) (gN 9) (fTest (fOp dEq (fCall fn_Lsteps_on (fCons (fVar 2) (fCons (fVar 9) fNil))) (fLst fNil))) (fVar 9) [9]))) (wsRet (wOf (fC (.bl false)))) wsSkip) (wsSeq (wsSet 6 (wLc (wiOf (fIterF (fVar 5))) (gN 9) (fTest (fOp dNotInT (fVar 4) (fCall fn_Lcome_to (fCons (fVar 2) (fCons (fVar 9) fNil))))) (wOf (fVar 9)) [9])) (wsSeq (wsIf (fTest (fOp dNe (fCall fn_can_return (fCons (fVar 2) (fCons (fVar 3) fNil))) (fOp dEq (fVar 6) (fLst fNil)))) (wsRet (wOf (fC (.bl false)))) wsSkip) (wsFor (wiOf (fIter (fLst (fCons (fNeg (fC (.int 1))) (fCons (fC (.int 13)) (fCons (fC (.bl true)) (fCons (fC .non) (fCons (fC (.str "1")) fNil)))))))) (sgN 7) (wsSeq (wsSetO 8 (wOf (fLst (fCons (fTold names (fCall fn_reached (fCons (fVar 2) (fCons (fVar 7) fNil)))) fNil)))) (wsSeq (wsApp 8 (wOf (fTold names (fCall fn_ends_of (fCons (fVar 2) (fCons (fVar 7) fNil)))))) (wsSeq (wsApp 8 (wOf (fTold names (fCall fn_can_return (fCons (fVar 2) (fCons (fVar 7) fNil)))))) (wsSeq (wsApp 8 (wOf (fTold names (fCall fn_run_to (fCons (fVar 2) (fCons (fVar 7) (fCons (fC .non) fNil))))))) (wsIf (fTest (fOp dNe (fVar 8) (fOp dMulX (fLst (fCons (fTup (fCons (fC (.str "refused")) (fCons (fC (.str "BadNumber")) fNil))) fNil)) (fC (.int 4))))) (wsRet (wOf (fC (.bl false)))) wsSkip)))))))))))))
/-- what draws nothing more -/
def ws_rest : WS := (wsSeq (wsSet 4 (wOf (fCall fn_Lat_start (fCons (fVar 2) (fCons (fVar 3) fNil))))) (wsSeq (wsSet 5 (wOf (fCall fn_Lcome_to (fCons (fVar 2) (fCons (fVar 4) fNil))))) (wsSeq (wsIf (fTest (fOp dNe (fCall fn_reached (fCons (fVar 2) (fCons (fVar 3) fNil))) (fSortF (fVar 5)))) (wsRet (wOf (fC (.bl false)))) wsSkip) (wsSeq (wsIf (fTest (fOp dNe (fCall fn_ends_of (fCons (fVar 2) (fCons (fVar 3) fNil))) (fLc (fIter (fSortF (fVar 5))) (gN 9) (fTest (fOp dEq (fCall fn_Lsteps_on (fCons (fVar 2) (fCons (fVar 9) fNil))) (fLst fNil))) (fVar 9) [9]))) (wsRet (wOf (fC (.bl false)))) wsSkip) (wsSeq (wsSet 6 (wLc (wiOf (fIterF (fVar 5))) (gN 9) (fTest (fOp dNotInT (fVar 4) (fCall fn_Lcome_to (fCons (fVar 2) (fCons (fVar 9) fNil))))) (wOf (fVar 9)) [9])) (wsSeq (wsIf (fTest (fOp dNe (fCall fn_can_return (fCons (fVar 2) (fCons (fVar 3) fNil))) (fOp dEq (fVar 6) (fLst fNil)))) (wsRet (wOf (fC (.bl false)))) wsSkip) (wsFor (wiOf (fIter (fLst (fCons (fNeg (fC (.int 1))) (fCons (fC (.int 13)) (fCons (fC (.bl true)) (fCons (fC .non) (fCons (fC (.str "1")) fNil)))))))) (sgN 7) (wsSeq (wsSetO 8 (wOf (fLst (fCons (fTold names (fCall fn_reached (fCons (fVar 2) (fCons (fVar 7) fNil)))) fNil)))) (wsSeq (wsApp 8 (wOf (fTold names (fCall fn_ends_of (fCons (fVar 2) (fCons (fVar 7) fNil)))))) (wsSeq (wsApp 8 (wOf (fTold names (fCall fn_can_return (fCons (fVar 2) (fCons (fVar 7) fNil)))))) (wsSeq (wsApp 8 (wOf (fTold names (fCall fn_run_to (fCons (fVar 2) (fCons (fVar 7) (fCons (fC .non) fNil))))))) (wsIf (fTest (fOp dNe (fVar 8) (fOp dMulX (fLst (fCons (fTup (fCons (fC (.str "refused")) (fCons (fC (.str "BadNumber")) fNil))) fNil)) (fC (.int 4))))) (wsRet (wOf (fC (.bl false)))) wsSkip))))))))))))
def fs_rest : FS := (fsSeq (fsSet 4 (fCall fn_Lat_start (fCons (fVar 2) (fCons (fVar 3) fNil)))) (fsSeq (fsSet 5 (fCall fn_Lcome_to (fCons (fVar 2) (fCons (fVar 4) fNil)))) (fsSeq (fsIf (fTest (fOp dNe (fCall fn_reached (fCons (fVar 2) (fCons (fVar 3) fNil))) (fSortF (fVar 5)))) (fsRet (fC (.bl false))) fsSkip) (fsSeq (fsIf (fTest (fOp dNe (fCall fn_ends_of (fCons (fVar 2) (fCons (fVar 3) fNil))) (fLc (fIter (fSortF (fVar 5))) (gN 9) (fTest (fOp dEq (fCall fn_Lsteps_on (fCons (fVar 2) (fCons (fVar 9) fNil))) (fLst fNil))) (fVar 9) [9]))) (fsRet (fC (.bl false))) fsSkip) (fsSeq (fsSet 6 (fLc (fIterF (fVar 5)) (gN 9) (fTest (fOp dNotInT (fVar 4) (fCall fn_Lcome_to (fCons (fVar 2) (fCons (fVar 9) fNil))))) (fVar 9) [9])) (fsSeq (fsIf (fTest (fOp dNe (fCall fn_can_return (fCons (fVar 2) (fCons (fVar 3) fNil))) (fOp dEq (fVar 6) (fLst fNil)))) (fsRet (fC (.bl false))) fsSkip) (fsFor (fIter (fLst (fCons (fNeg (fC (.int 1))) (fCons (fC (.int 13)) (fCons (fC (.bl true)) (fCons (fC .non) (fCons (fC (.str "1")) fNil))))))) (sgN 7) (fsSeq (fsSetO 8 (fLst (fCons (fTold names (fCall fn_reached (fCons (fVar 2) (fCons (fVar 7) fNil)))) fNil))) (fsSeq (fsApp 8 (fTold names (fCall fn_ends_of (fCons (fVar 2) (fCons (fVar 7) fNil))))) (fsSeq (fsApp 8 (fTold names (fCall fn_can_return (fCons (fVar 2) (fCons (fVar 7) fNil))))) (fsSeq (fsApp 8 (fTold names (fCall fn_run_to (fCons (fVar 2) (fCons (fVar 7) (fCons (fC .non) fNil)))))) (fsIf (fTest (fOp dNe (fVar 8) (fOp dMulX (fLst (fCons (fTup (fCons (fC (.str "refused")) (fCons (fC (.str "BadNumber")) fNil))) fNil)) (fC (.int 4))))) (fsRet (fC (.bl false))) fsSkip))))))))))))
theorem imp_rest : ImpS fs_rest ws_rest := (imp_seq imp_set (imp_seq imp_set (imp_seq (imp_if imp_ret imp_skip) (imp_seq (imp_if imp_ret imp_skip) (imp_seq imp_setLc (imp_seq (imp_if imp_ret imp_skip) (imp_for (imp_seq imp_setO (imp_seq imp_app (imp_seq imp_app (imp_seq imp_app (imp_if imp_ret imp_skip))))))))))))
section
variable {P : Program} {w : World} {K : PySem.W.Frag} {mg : Str → Option Value} {base : Heap}
theorem ok_is_whole (F : FunA K mg "is_whole" st_is_whole p_is_whole) (hF : Fre mg) (hS : Glob mg) (hT : Excs K mg) : CalF P w K mg base 1 "is_whole" p_is_whole fn_is_whole :=
  calF_of F sc_is_whole imp_ret fun f cdv A outer s H E g B tk => (s_one (s_ret (w_of (e_and (e_isi (T := .int) (by rfl) hF.isinstance (by rfl) hF.int (by decide +kernel) (e_var 0)) (e_and (e_not (e_isi (T := .bool) (by rfl) hF.isinstance (by rfl) hF.bool (by decide +kernel) (e_var 0))) (e_one (e_lele (e_var 1) (e_var 0) (e_var 2))))))))
theorem ok_is_word (F : FunA K mg "is_word" st_is_word p_is_word) (hF : Fre mg) (hS : Glob mg) (hT : Excs K mg) : CalF P w K mg base 1 "is_word" p_is_word fn_is_word :=
  calF_of F sc_is_word imp_ret fun f cdv A outer s H E g B tk => (s_one (s_ret (w_of (e_and (e_isi (T := .str) (by rfl) hF.isinstance (by rfl) hF.str (by decide +kernel) (e_var 0)) (e_and (e_lele e_int (e_len (by rfl) hF.len (a_cons (e_var 0) a_nil)) e_int) (e_one (e_all B.hc (by rfl) hF.all (a_cons (e_lc B.hc B.nd (i_val (e_var 0)) (blkOk_by (own := [("sign", 1)]) rfl) (by decide) (inBlk B fun _ _ _ _ _ B => (g_name 1 B.nd)) (inBlk B fun _ _ _ _ _ B => ts_nil) (inBlk B fun _ _ _ _ _ B => (e_in B.hr (e_var 1) (e_gstr (by rfl) hS.SMALL.choose_spec)))) a_nil))))))))
theorem ok_are_counts (F : FunA K mg "are_counts" st_are_counts p_are_counts) (hF : Fre mg) (hS : Glob mg) (hT : Excs K mg) (C_is_whole : CalF P w K mg base 1 "is_whole" p_is_whole fn_is_whole) : CalF P w K mg base 2 "are_counts" p_are_counts fn_are_counts :=
  calF_of F sc_are_counts imp_ret fun f cdv A outer s H E g B tk => (s_one (s_ret (w_of (e_and (e_isi (T := .tuple) (by rfl) hF.isinstance (by rfl) hF.tuple (by decide +kernel) (e_var 0)) (e_and (e_eq B.hr (e_len (by rfl) hF.len (a_cons (e_var 0) a_nil)) (e_var 1)) (e_one (e_all B.hc (by rfl) hF.all (a_cons (e_lc B.hc B.nd (i_val (e_var 0)) (blkOk_by (own := [("one", 3)]) rfl) (by decide) (inBlk B fun _ _ _ _ _ B => (g_name 3 B.nd)) (inBlk B fun _ _ _ _ _ B => ts_nil) (inBlk B fun _ _ _ _ _ B => (e_callF C_is_whole B (a_cons (e_var 3) (a_cons e_int (a_cons (e_var 2) a_nil)))))) a_nil))))))))
theorem ok_is_state (F : FunA K mg "is_state" st_is_state p_is_state) (hF : Fre mg) (hS : Glob mg) (hT : Excs K mg) : CalF P w K mg base 1 "is_state" p_is_state fn_is_state :=
  calF_of F sc_is_state imp_ret fun f cdv A outer s H E g B tk => (s_one (s_ret (w_of (e_and (e_isi (T := .str) (by rfl) hF.isinstance (by rfl) hF.str (by decide +kernel) (e_var 1)) (e_one (e_in B.hr (e_var 1) (e_var 0)))))))
theorem ok_is_rule (F : FunA K mg "is_rule" st_is_rule p_is_rule) (hF : Fre mg) (hS : Glob mg) (hT : Excs K mg) (C_is_state : CalF P w K mg base 1 "is_state" p_is_state fn_is_state) : CalF P w K mg base 2 "is_rule" p_is_rule fn_is_rule :=
  calF_of F sc_is_rule (imp_seq (imp_if imp_ret imp_skip) (imp_seq (imp_if (imp_seq (imp_if imp_ret imp_skip) imp_ret) imp_skip) (imp_seq imp_set imp_ret))) fun f cdv A outer s H E g B tk => (s_cons (s_if (PW.pt (w_or (t_not (t_val (e_isi (T := .tuple) (by rfl) hF.isinstance (by rfl) hF.tuple (by decide +kernel) (e_var 1)))) (w_or (t_eq B.hr (e_var 1) (e_tup a_nil len_nil)) (w_or1 (t_not (t_val (e_isi (T := .str) (by rfl) hF.isinstance (by rfl) hF.str (by decide +kernel) (e_ix (e_var 1) e_int)))))))) (s_one (s_ret (w_of e_bl))) s_nil)
    (s_cons (s_if (t_eq B.hr (e_ix (e_var 1) e_int) e_str) (s_cons (s_if (PW.pt (w_or (t_ne B.hr (e_len (by rfl) hF.len (a_cons (e_var 1) a_nil)) e_int) (w_or (t_not (t_val (e_isi (T := .tuple) (by rfl) hF.isinstance (by rfl) hF.tuple (by decide +kernel) (e_ix (e_var 1) e_int)))) (w_or1 (t_ne B.hr (e_len (by rfl) hF.len (a_cons (e_ix (e_var 1) e_int) a_nil)) (e_len (by rfl) hF.len (a_cons (e_var 0) a_nil))))))) (s_one (s_ret (w_of e_bl))) s_nil)
    (s_one (s_ret (w_of (e_all B.hc (by rfl) hF.all (a_cons (e_lc B.hc B.nd (i_val (e_add (e_cut (e_var 1) (o_part e_int) (o_part e_int)) (e_ix (e_var 1) e_int))) (blkOk_by (own := [("one", 3)]) rfl) (by decide) (inBlk B fun _ _ _ _ _ B => (g_name 3 B.nd)) (inBlk B fun _ _ _ _ _ B => ts_nil) (inBlk B fun _ _ _ _ _ B => (e_callF C_is_state B (a_cons (e_var 0) (a_cons (e_var 3) a_nil))))) a_nil)))))) s_nil)
    (s_cons (s_set 2 B.nd (w_of (e_get2 (Nat.lt_of_le_of_lt (Nat.add_le_add_left (by decide) _) B.hr.units) (e_disp (l := [((fC (.str "alone")), (fC (.int 3))), ((fC (.str "meet")), (fC (.int 5)))]) (pps_cons e_str e_int (pps_cons e_str e_int pps_nil)) rfl) (e_ix (e_var 1) e_int) e_int)))
    (s_one (s_ret (w_of (e_and (e_eq B.hr (e_len (by rfl) hF.len (a_cons (e_var 1) a_nil)) (e_var 2)) (e_one (e_all B.hc (by rfl) hF.all (a_cons (e_lc B.hc B.nd (i_val (e_cut (e_var 1) (o_part e_int) o_no)) (blkOk_by (own := [("one", 3)]) rfl) (by decide) (inBlk B fun _ _ _ _ _ B => (g_name 3 B.nd)) (inBlk B fun _ _ _ _ _ B => ts_nil) (inBlk B fun _ _ _ _ _ B => (e_callF C_is_state B (a_cons (e_var 0) (a_cons (e_var 3) a_nil))))) a_nil))))))))))
theorem ok_are_states (F : FunA K mg "are_states" st_are_states p_are_states) (hF : Fre mg) (hS : Glob mg) (hT : Excs K mg) (C_is_word : CalF P w K mg base 1 "is_word" p_is_word fn_is_word) : CalF P w K mg base 2 "are_states" p_are_states fn_are_states :=
  calF_of F sc_are_states (imp_seq (imp_if imp_ret imp_skip) imp_ret) fun f cdv A outer s H E g B tk => (s_cons (s_if (PW.pt (w_or (t_not (t_val (e_isi (T := .tuple) (by rfl) hF.isinstance (by rfl) hF.tuple (by decide +kernel) (e_var 0)))) (w_or (t_not (t_lele e_int (e_len (by rfl) hF.len (a_cons (e_var 0) a_nil)) e_int)) (w_or1 (t_not (t_val (e_all B.hc (by rfl) hF.all (a_cons (e_lc B.hc B.nd (i_val (e_var 0)) (blkOk_by (own := [("one", 1)]) rfl) (by decide) (inBlk B fun _ _ _ _ _ B => (g_name 1 B.nd)) (inBlk B fun _ _ _ _ _ B => ts_nil) (inBlk B fun _ _ _ _ _ B => (e_callF C_is_word B (a_cons (e_var 1) a_nil)))) a_nil)))))))) (s_one (s_ret (w_of e_bl))) s_nil)
    (s_one (s_ret (w_of (e_all B.hc (by rfl) hF.all (a_cons (e_lc B.hc B.nd (i_zip (by rfl) hF.zip (a_cons (e_var 0) (a_cons (e_cut (e_var 0) (o_part e_int) o_no) a_nil))) (blkOk_by (own := [("one", 1), ("other", 2)]) rfl) (by decide) (inBlk B fun _ _ _ _ _ B => (g_tup B.hc (gs_cons (g_name 1 B.nd) (gs_cons (g_name 2 B.nd) gs_nil)))) (inBlk B fun _ _ _ _ _ B => ts_nil) (inBlk B fun _ _ _ _ _ B => (e_lt (e_var 1) (e_var 2)))) a_nil))))))
theorem ok_is_talk (F : FunA K mg "is_talk" st_is_talk p_is_talk) (hF : Fre mg) (hS : Glob mg) (hT : Excs K mg) (C_are_counts : CalF P w K mg base 2 "are_counts" p_are_counts fn_are_counts) (C_is_state : CalF P w K mg base 1 "is_state" p_is_state fn_is_state) (C_is_rule : CalF P w K mg base 2 "is_rule" p_is_rule fn_is_rule) (C_are_states : CalF P w K mg base 2 "are_states" p_are_states fn_are_states) : CalF P w K mg base 3 "is_talk" p_is_talk fn_is_talk :=
  calF_of F sc_is_talk (imp_seq (imp_if imp_ret imp_skip) (imp_seq imp_asg (imp_seq (imp_if imp_ret imp_skip) (imp_seq (imp_if imp_ret imp_skip) imp_ret)))) fun f cdv A outer s H E g B tk => (s_cons (s_if (PW.pt (w_or (t_not (t_val (e_isi (T := .tuple) (by rfl) hF.isinstance (by rfl) hF.tuple (by decide +kernel) (e_var 0)))) (w_or (t_ne B.hr (e_len (by rfl) hF.len (a_cons (e_var 0) a_nil)) e_int) (w_or1 (t_not (t_val (e_callF C_are_states B (a_cons (e_ix (e_var 0) e_int) a_nil)))))))) (s_one (s_ret (w_of e_bl))) s_nil)
    (s_cons (s_asg (w_of (e_var 0)) (sg_tup B.hc (sgs_cons (sg_name 1 B.nd) (sgs_cons (sg_name 2 B.nd) (sgs_cons (sg_name 3 B.nd) (sgs_cons (sg_name 4 B.nd) sgs_nil))))))
    (s_cons (s_if (PW.pt (w_or (t_not (t_val (e_callF C_is_state B (a_cons (e_var 1) (a_cons (e_var 2) a_nil))))) (w_or1 (t_not (t_val (e_callF C_are_counts B (a_cons (e_var 3) (a_cons (e_len (by rfl) hF.len (a_cons (e_var 1) a_nil)) (a_cons e_int a_nil))))))))) (s_one (s_ret (w_of e_bl))) s_nil)
    (s_cons (s_if (PW.pt (w_or (t_not (t_val (e_isi (T := .tuple) (by rfl) hF.isinstance (by rfl) hF.tuple (by decide +kernel) (e_var 4)))) (w_or (t_gt (e_len (by rfl) hF.len (a_cons (e_var 4) a_nil)) e_int) (w_or1 (t_not (t_val (e_all B.hc (by rfl) hF.all (a_cons (e_lc B.hc B.nd (i_val (e_var 4)) (blkOk_by (own := [("rule", 5)]) rfl) (by decide) (inBlk B fun _ _ _ _ _ B => (g_name 5 B.nd)) (inBlk B fun _ _ _ _ _ B => ts_nil) (inBlk B fun _ _ _ _ _ B => (e_callF C_is_rule B (a_cons (e_var 1) (a_cons (e_var 5) a_nil))))) a_nil)))))))) (s_one (s_ret (w_of e_bl))) s_nil)
    (s_one (s_ret (w_of (e_eq B.hr (e_lenset B.hc B.hr.units (by rfl) hF.len (by rfl) hF.set (e_var 4)) (e_len (by rfl) hF.len (a_cons (e_var 4) a_nil))))))))))
theorem ok_need_talk (F : FunA K mg "need_talk" st_need_talk p_need_talk) (hF : Fre mg) (hS : Glob mg) (hT : Excs K mg) (C_is_talk : CalF P w K mg base 3 "is_talk" p_is_talk fn_is_talk) : CalF P w K mg base 4 "need_talk" p_need_talk fn_need_talk :=
  calF_of F sc_need_talk (imp_if imp_raise imp_skip) fun f cdv A outer s H E g B tk => (s_one (s_if (t_not (t_val (e_callF C_is_talk B (a_cons (e_var 0) a_nil)))) (s_one (s_raise hT.BadTalk tk B rfl)) s_nil))
theorem ok_begun (F : FunA K mg "begun" st_begun p_begun) (hF : Fre mg) (hS : Glob mg) (hT : Excs K mg) : CalF P w K mg base 1 "begun" p_begun fn_begun :=
  calF_of F sc_begun (imp_seq imp_set imp_ret) fun f cdv A outer s H E g B tk => (s_cons (s_set 2 B.nd (w_of (e_tindex (e_ix (e_var 0) e_int) (e_ix (e_var 0) e_int))))
    (s_one (s_ret (w_of (e_add (e_add (e_cut (e_ix (e_var 0) e_int) o_no (o_part (e_var 2))) (e_tup (a_cons (e_add (e_ix (e_ix (e_var 0) e_int) (e_var 2)) (e_var 1)) a_nil) (len_cons len_nil))) (e_cut (e_ix (e_var 0) e_int) (o_part (e_add (e_var 2) e_int)) o_no))))))
theorem ok_vector (F : FunA K mg "vector" st_vector p_vector) (hF : Fre mg) (hS : Glob mg) (hT : Excs K mg) : CalF P w K mg base 1 "vector" p_vector fn_vector :=
  calF_of F sc_vector imp_ret fun f cdv A outer s H E g B tk => (s_one (s_ret (w_of (e_tuple (by rfl) hF.tuple (a_cons (e_lc B.hc B.nd (i_val (e_ix (e_var 0) e_int)) (blkOk_by (own := [("state", 2)]) rfl) (by decide) (inBlk B fun _ _ _ _ _ B => (g_name 2 B.nd)) (inBlk B fun _ _ _ _ _ B => ts_nil) (inBlk B fun _ _ _ _ _ B => (e_count (e_var 1) (e_var 2)))) a_nil)))))
theorem ok_needed (F : FunA K mg "needed" st_needed p_needed) (hF : Fre mg) (hS : Glob mg) (hT : Excs K mg) (C_vector : CalF P w K mg base 1 "vector" p_vector fn_vector) : CalF P w K mg base 2 "needed" p_needed fn_needed :=
  calF_of F sc_needed imp_ret fun f cdv A outer s H E g B tk => (s_one (s_ret (w_of (e_callF C_vector B (a_cons (e_var 0) (a_cons (e_if (t_eq B.hr (e_ix (e_var 1) e_int) e_str) (e_list (by rfl) hF.list (a_cons (e_cut (e_var 1) (o_part e_int) (o_part e_int)) a_nil)) (e_lst (a_cons (e_ix (e_var 1) e_int) a_nil) (len_cons len_nil))) a_nil))))))
theorem ok_granted (F : FunA K mg "granted" st_granted p_granted) (hF : Fre mg) (hS : Glob mg) (hT : Excs K mg) (C_vector : CalF P w K mg base 1 "vector" p_vector fn_vector) : CalF P w K mg base 2 "granted" p_granted fn_granted :=
  calF_of F sc_granted imp_ret fun f cdv A outer s H E g B tk => (s_one (s_ret (w_of (e_callF C_vector B (a_cons (e_var 0) (a_cons (e_if (t_eq B.hr (e_ix (e_var 1) e_int) e_str) (e_list (by rfl) hF.list (a_cons (e_cut (e_var 1) (o_part e_int) (o_part e_int)) a_nil)) (e_lst (a_cons (e_ix (e_var 1) e_int) a_nil) (len_cons len_nil))) a_nil))))))
theorem ok_can (F : FunA K mg "can" st_can p_can) (hF : Fre mg) (hS : Glob mg) (hT : Excs K mg) (C_needed : CalF P w K mg base 2 "needed" p_needed fn_needed) : CalF P w K mg base 3 "can" p_can fn_can :=
  calF_of F sc_can imp_ret fun f cdv A outer s H E g B tk => (s_one (s_ret (w_of (e_all B.hc (by rfl) hF.all (a_cons (e_lc B.hc B.nd (i_zip (by rfl) hF.zip (a_cons (e_var 1) (a_cons (e_callF C_needed B (a_cons (e_var 0) (a_cons (e_var 2) a_nil))) a_nil))) (blkOk_by (own := [("have", 3), ("need", 4)]) rfl) (by decide) (inBlk B fun _ _ _ _ _ B => (g_tup B.hc (gs_cons (g_name 3 B.nd) (gs_cons (g_name 4 B.nd) gs_nil)))) (inBlk B fun _ _ _ _ _ B => ts_nil) (inBlk B fun _ _ _ _ _ B => (e_ge (e_var 3) (e_var 4)))) a_nil)))))
theorem ok_done (F : FunA K mg "done" st_done p_done) (hF : Fre mg) (hS : Glob mg) (hT : Excs K mg) (C_needed : CalF P w K mg base 2 "needed" p_needed fn_needed) (C_granted : CalF P w K mg base 2 "granted" p_granted fn_granted) : CalF P w K mg base 3 "done" p_done fn_done :=
  calF_of F sc_done (imp_seq imp_setLc (imp_seq (imp_if (imp_seq imp_setO (imp_seq (imp_for (imp_seq imp_set imp_put)) imp_freeze)) imp_skip) imp_ret)) fun f cdv A outer s H E g B tk => (s_cons (s_setLc 3 B (sw_true rfl rfl rfl rfl) (i_of (i_zip (by rfl) hF.zip (a_cons (e_var 1) (a_cons (e_callF C_needed B (a_cons (e_var 0) (a_cons (e_var 2) a_nil))) a_nil)))) (blkOk_by (own := [("have", 8), ("need", 9)]) rfl) (by decide) (inBlk B fun _ _ _ _ _ B => (g_tup B.hc (gs_cons (g_name 8 B.nd) (gs_cons (g_name 9 B.nd) gs_nil)))) (inBlk B fun _ _ _ _ _ B => ts_nil) (inBlk B fun _ _ _ _ _ B => (w_of (e_sub (e_var 8) (e_var 9)))))
    (s_cons (s_if (t_eq B.hr (e_ix (e_var 2) e_int) e_str) (s_cons (s_setO 4 B.nd (oF_mul (e_lst (a_cons e_int a_nil) (len_cons len_nil)) (e_len (by rfl) hF.len (a_cons (e_var 3) a_nil))))
    (s_cons (s_for B (i_of (i_zip (by rfl) hF.zip (a_cons (e_var 3) (a_cons (e_ix (e_var 2) e_int) a_nil)))) (sg_tup B.hc (sgs_cons (sg_name 5 B.nd) (sgs_cons (sg_name 6 B.nd) sgs_nil))) (s_cons (s_set 7 B.nd (w_of (e_tindex (e_ix (e_var 0) e_int) (e_var 6))))
    (s_one (s_put 4 (Nat.lt_of_le_of_lt (Nat.add_le_add_left (by decide) _) B.hr.units) (w_of (e_var 7)) (w_of (e_add (e_ix (e_var 4) (e_var 7)) (e_var 5)))))))
    (s_one (s_freeze 3 4 B.nd)))) s_nil)
    (s_one (s_ret (w_of (e_tuple (by rfl) hF.tuple (a_cons (e_lc B.hc B.nd (i_zip (by rfl) hF.zip (a_cons (e_var 3) (a_cons (e_callF C_granted B (a_cons (e_var 0) (a_cons (e_var 2) a_nil))) a_nil))) (blkOk_by (own := [("have", 8), ("more", 10)]) rfl) (by decide) (inBlk B fun _ _ _ _ _ B => (g_tup B.hc (gs_cons (g_name 8 B.nd) (gs_cons (g_name 10 B.nd) gs_nil)))) (inBlk B fun _ _ _ _ _ B => ts_nil) (inBlk B fun _ _ _ _ _ B => (e_add (e_var 8) (e_var 10)))) a_nil)))))))
theorem ok_steps_from (F : FunA K mg "steps_from" st_steps_from p_steps_from) (hF : Fre mg) (hS : Glob mg) (hT : Excs K mg) (C_can : CalF P w K mg base 3 "can" p_can fn_can) (C_done : CalF P w K mg base 3 "done" p_done fn_done) : CalF P w K mg base 4 "steps_from" p_steps_from fn_steps_from :=
  calF_of F sc_steps_from (imp_seq imp_setLc imp_ret) fun f cdv A outer s H E g B tk => (s_cons (s_setLc 2 B (sw_true rfl rfl rfl rfl) (i_of (i_enum (by rfl) hF.enumerate (a_cons (e_ix (e_var 0) e_int) a_nil))) (blkOk_by (own := [("number", 3), ("rule", 4)]) rfl) (by decide) (inBlk B fun _ _ _ _ _ B => (g_tup B.hc (gs_cons (g_name 3 B.nd) (gs_cons (g_name 4 B.nd) gs_nil)))) (inBlk B fun _ _ _ _ _ B => (ts_one (t_val (e_callF C_can B (a_cons (e_var 0) (a_cons (e_var 1) (a_cons (e_var 4) a_nil))))))) (inBlk B fun _ _ _ _ _ B => (w_of (e_tup (a_cons (e_var 3) (a_cons (e_var 4) a_nil)) (len_cons (len_cons len_nil))))))
    (s_one (s_ret (w_of (e_lc B.hc B.nd (i_val (e_var 2)) (blkOk_by (own := [("number", 3), ("rule", 4)]) rfl) (by decide) (inBlk B fun _ _ _ _ _ B => (g_tup B.hc (gs_cons (g_name 3 B.nd) (gs_cons (g_name 4 B.nd) gs_nil)))) (inBlk B fun _ _ _ _ _ B => ts_nil) (inBlk B fun _ _ _ _ _ B => (e_tup (a_cons (e_var 3) (a_cons (e_callF C_done B (a_cons (e_var 0) (a_cons (e_var 1) (a_cons (e_var 4) a_nil)))) a_nil)) (len_cons (len_cons len_nil)))))))))
theorem ok_need_size (F : FunA K mg "need_size" st_need_size p_need_size) (hF : Fre mg) (hS : Glob mg) (hT : Excs K mg) (C_is_whole : CalF P w K mg base 1 "is_whole" p_is_whole fn_is_whole) : CalF P w K mg base 2 "need_size" p_need_size fn_need_size :=
  calF_of F sc_need_size (imp_if imp_raise imp_skip) fun f cdv A outer s H E g B tk => (s_one (s_if (t_not (t_val (e_callF C_is_whole B (a_cons (e_var 0) (a_cons e_int (a_cons (e_gint (by rfl) hS.MOST_SIZE.choose_spec) a_nil)))))) (s_one (s_raise hT.BadNumber tk B rfl)) s_nil))
theorem ok_walked (F : FunA K mg "walked" st_walked p_walked) (hF : Fre mg) (hS : Glob mg) (hT : Excs K mg) (C_steps_from : CalF P w K mg base 4 "steps_from" p_steps_from fn_steps_from) : CalF P w K mg base 5 "walked" p_walked fn_walked :=
  calF_of F sc_walked (imp_seq imp_par2 (imp_seq (imp_while (imp_seq imp_setO (imp_seq (imp_for (imp_for (imp_if (imp_seq imp_putT imp_app) imp_skip))) (imp_seq (imp_if imp_raise imp_skip) imp_freeze)))) imp_retT)) fun f cdv A outer s H E g B tk => (s_cons (s_par2 2 3 B (tk_t B.hr (e_var 1) e_non) (tk_v (w_of (e_lst (a_cons (e_var 1) a_nil) (len_cons len_nil)))))
    (s_cons (s_while B (t_ne B.hr (e_var 3) (e_lst a_nil len_nil)) (s_cons (s_setO 4 B.nd (oF_lst a_nil len_nil))
    (s_cons (s_for B (i_of (i_val (e_var 3))) (sg_name 5 B.nd) (s_one (s_for B (i_of (i_val (e_callF C_steps_from B (a_cons (e_var 0) (a_cons (e_var 5) a_nil))))) (sg_tup B.hc (sgs_cons (sg_name 6 B.nd) (sgs_cons (sg_name 7 B.nd) sgs_nil))) (s_one (s_if (t_notinT B.hr (e_var 7) (e_var 2)) (s_cons (s_putT 2 (Nat.lt_of_le_of_lt (Nat.add_le_add_left (by decide) _) B.hr.units) (w_of (e_var 7)) (w_of (e_tup (a_cons (e_var 5) (a_cons (e_var 6) a_nil)) (len_cons (len_cons len_nil)))))
    (s_one (s_app 4 (w_of (e_var 7))))) s_nil)))))
    (s_cons (s_if (t_gt (e_lenT (by rfl) hF.len (a_cons (e_var 2) a_nil)) (e_gint (by rfl) hS.MOST_REACHED.choose_spec)) (s_one (s_raise hT.Full tk B rfl)) s_nil)
    (s_one (s_freeze 3 4 B.nd))))))
    (s_one (s_retT 2))))
theorem ok_reached (F : FunA K mg "reached" st_reached p_reached) (hF : Fre mg) (hS : Glob mg) (hT : Excs K mg) (C_need_talk : CalF P w K mg base 4 "need_talk" p_need_talk fn_need_talk) (C_begun : CalF P w K mg base 1 "begun" p_begun fn_begun) (C_need_size : CalF P w K mg base 2 "need_size" p_need_size fn_need_size) (C_walked : CalF P w K mg base 5 "walked" p_walked fn_walked) : CalF P w K mg base 6 "reached" p_reached fn_reached :=
  calF_of F sc_reached (imp_seq imp_expr (imp_seq imp_expr imp_ret)) fun f cdv A outer s H E g B tk => (s_cons (s_expr (w_of (e_callF C_need_talk B (a_cons (e_var 0) a_nil))))
    (s_cons (s_expr (w_of (e_callF C_need_size B (a_cons (e_var 1) a_nil))))
    (s_one (s_ret (w_of (e_sortF B.hc B.hr (by rfl) hF.sorted (e_callF C_walked B (a_cons (e_var 0) (a_cons (e_callF C_begun B (a_cons (e_var 0) (a_cons (e_var 1) a_nil))) a_nil)))))))))
theorem ok_run_to (F : FunA K mg "run_to" st_run_to p_run_to) (hF : Fre mg) (hS : Glob mg) (hT : Excs K mg) (C_need_talk : CalF P w K mg base 4 "need_talk" p_need_talk fn_need_talk) (C_need_size : CalF P w K mg base 2 "need_size" p_need_size fn_need_size) : CalF P w K mg base 5 "run_to" p_run_to fn_run_to :=
  calF_of F sc_run_to (imp_seq imp_expr (imp_seq imp_expr (imp_seq imp_never (imp_seq imp_never imp_never)))) fun f cdv A outer s H E g B tk => (s_cons (s_expr (w_of (e_callF C_need_talk B (a_cons (e_var 0) a_nil))))
    (s_cons (s_expr (w_of (e_callF C_need_size B (a_cons (e_var 1) a_nil))))
    (s_cons s_never
    (s_cons s_never
    (s_one s_never)))))
theorem ok_ends_of (F : FunA K mg "ends_of" st_ends_of p_ends_of) (hF : Fre mg) (hS : Glob mg) (hT : Excs K mg) (C_need_talk : CalF P w K mg base 4 "need_talk" p_need_talk fn_need_talk) (C_begun : CalF P w K mg base 1 "begun" p_begun fn_begun) (C_steps_from : CalF P w K mg base 4 "steps_from" p_steps_from fn_steps_from) (C_need_size : CalF P w K mg base 2 "need_size" p_need_size fn_need_size) (C_walked : CalF P w K mg base 5 "walked" p_walked fn_walked) : CalF P w K mg base 6 "ends_of" p_ends_of fn_ends_of :=
  calF_of F sc_ends_of (imp_seq imp_expr (imp_seq imp_expr imp_ret)) fun f cdv A outer s H E g B tk => (s_cons (s_expr (w_of (e_callF C_need_talk B (a_cons (e_var 0) a_nil))))
    (s_cons (s_expr (w_of (e_callF C_need_size B (a_cons (e_var 1) a_nil))))
    (s_one (s_ret (w_of (e_lc B.hc B.nd (i_val (e_sortF B.hc B.hr (by rfl) hF.sorted (e_callF C_walked B (a_cons (e_var 0) (a_cons (e_callF C_begun B (a_cons (e_var 0) (a_cons (e_var 1) a_nil))) a_nil))))) (blkOk_by (own := [("standing", 2)]) rfl) (by decide) (inBlk B fun _ _ _ _ _ B => (g_name 2 B.nd)) (inBlk B fun _ _ _ _ _ B => (ts_one (t_eq B.hr (e_callF C_steps_from B (a_cons (e_var 0) (a_cons (e_var 2) a_nil))) (e_lst a_nil len_nil)))) (inBlk B fun _ _ _ _ _ B => (e_var 2))))))))
theorem ok_can_return (F : FunA K mg "can_return" st_can_return p_can_return) (hF : Fre mg) (hS : Glob mg) (hT : Excs K mg) (C_need_talk : CalF P w K mg base 4 "need_talk" p_need_talk fn_need_talk) (C_begun : CalF P w K mg base 1 "begun" p_begun fn_begun) (C_steps_from : CalF P w K mg base 4 "steps_from" p_steps_from fn_steps_from) (C_need_size : CalF P w K mg base 2 "need_size" p_need_size fn_need_size) (C_walked : CalF P w K mg base 5 "walked" p_walked fn_walked) : CalF P w K mg base 6 "can_return" p_can_return fn_can_return :=
  calF_of F sc_can_return (imp_seq imp_expr (imp_seq imp_expr (imp_seq imp_set (imp_seq imp_set (imp_seq imp_ahead (imp_seq imp_par2 (imp_seq (imp_while (imp_forPop (imp_if (imp_seq imp_putT imp_app) imp_skip))) imp_ret))))))) fun f cdv A outer s H E g B tk => (s_cons (s_expr (w_of (e_callF C_need_talk B (a_cons (e_var 0) a_nil))))
    (s_cons (s_expr (w_of (e_callF C_need_size B (a_cons (e_var 1) a_nil))))
    (s_cons (s_set 2 B.nd (w_of (e_callF C_begun B (a_cons (e_var 0) (a_cons (e_var 1) a_nil)))))
    (s_cons (s_set 3 B.nd (w_of (e_callF C_walked B (a_cons (e_var 0) (a_cons (e_var 2) a_nil)))))
    (ss_ahead B (s_mkL (E := E) (Nat.lt_of_le_of_lt (Nat.le_add_right _ _) B.hr.units) B.hc B.nd (sw_trueD rfl rfl rfl rfl) (i_keysF (e_var 3)) (blkOk_by (own := [("standing", 5)]) rfl) (by decide) (inBlk B fun _ _ _ _ _ B => (g_name 5 B.nd)) (inBlk B fun _ _ _ _ _ B => (e_var 5)) (inBlk B fun _ _ _ _ _ B => (pe_lst pa_nil)) (inBlk B fun _ _ _ _ _ B => ts_nil)) (ps_growOut B (i_keysF (e_var 3)) (ps_growIn B (i_val (e_callF C_steps_from B (a_cons (e_var 0) (a_cons (e_var 5) a_nil)))) (ps_grow B)))
    (s_cons (s_par2 8 9 B (tk_t B.hr (e_var 2) e_bl) (tk_l (oF_lst (a_cons (e_var 2) a_nil) (len_cons len_nil))))
    (s_cons (s_while B (t_ne B.hr (e_var 9) (e_lst a_nil len_nil)) (s_one (s_forPop 4 9 B (sg_name 10 B.nd) (s_one (s_if (t_notinT B.hr (e_var 10) (e_var 8)) (s_cons (s_putT 8 (Nat.lt_of_le_of_lt (Nat.add_le_add_left (by decide) _) B.hr.units) (w_of (e_var 10)) (w_of e_bl))
    (s_one (s_app 9 (w_of (e_var 10))))) s_nil)))))
    (s_one (s_ret (w_of (e_eq B.hr (e_lenT (by rfl) hF.len (a_cons (e_var 8) a_nil)) (e_lenT (by rfl) hF.len (a_cons (e_var 3) a_nil)))))))))))))
theorem ok_Lany_rule (F : FunA K mg "_law_any_rule" st_Lany_rule p_Lany_rule) (hF : Fre mg) (hS : Glob mg) (hT : Excs K mg) (C_Lroll : CalW P w K mg base 3 "_law_roll" p_Lroll fnRoll) : CalW P w K mg base 4 "_law_any_rule" p_Lany_rule fn_Lany_rule :=
  calW_of F sc_Lany_rule fun f cdv A outer s H E g B tk => (s_cons (s_setLc 3 B (sw_true rfl rfl rfl rfl) (i_of (i_range1 (by rfl) hF.range (a_cons e_int a_nil))) (blkOk_by (own := [("_law_turn", 4)]) rfl) (by decide) (inBlk B fun _ _ _ _ _ B => (g_name 4 B.nd)) (inBlk B fun _ _ _ _ _ B => ts_nil) (inBlk B fun _ _ _ _ _ B => (w_ix (w_of (e_var 1)) (w_callW mono_roll C_Lroll B (wa_of (a_cons (e_var 0) (a_cons (e_len (by rfl) hF.len (a_cons (e_var 1) a_nil)) a_nil)))))))
    (s_cons (s_if (t_lt (e_var 2) e_int) (s_one (s_ret (w_of (e_tup (a_cons e_str (a_cons (e_ix (e_var 3) e_int) (a_cons (e_ix (e_var 3) e_int) a_nil))) (len_cons (len_cons (len_cons len_nil))))))) s_nil)
    (s_cons (s_if (t_lt (e_var 2) e_int) (s_one (s_ret (w_of (e_tup (a_cons e_str (a_cons (e_ix (e_var 3) e_int) (a_cons (e_ix (e_var 3) e_int) (a_cons (e_ix (e_var 3) e_int) (a_cons (e_ix (e_var 3) e_int) a_nil))))) (len_cons (len_cons (len_cons (len_cons (len_cons len_nil))))))))) s_nil)
    (s_one (s_ret (w_tup (wa_cons (w_of e_str) (wa_cons (w_of (e_ix (e_var 3) e_int)) (wa_cons (w_of (e_ix (e_var 3) e_int)) (wa_cons (w_tuple (by rfl) hF.tuple (wa_cons (w_lc B.hc B.nd (i_of (i_val (e_var 1))) (blkOk_by (own := [("_law_turn", 4)]) rfl) (by decide) (inBlk B fun _ _ _ _ _ B => (g_name 4 B.nd)) (inBlk B fun _ _ _ _ _ B => ts_nil) (inBlk B fun _ _ _ _ _ B => (w_ix (w_of (e_var 1)) (w_callW mono_roll C_Lroll B (wa_of (a_cons (e_var 0) (a_cons (e_len (by rfl) hF.len (a_cons (e_var 1) a_nil)) a_nil))))))) wa_nil)) wa_nil)))) (lenw_cons (lenw_cons (lenw_cons (lenw_cons lenw_nil))))))))))
theorem ok_Lany_talk (F : FunA K mg "_law_any_talk" st_Lany_talk p_Lany_talk) (hF : Fre mg) (hS : Glob mg) (hT : Excs K mg) (C_Lroll : CalW P w K mg base 3 "_law_roll" p_Lroll fnRoll) (C_Lany_rule : CalW P w K mg base 4 "_law_any_rule" p_Lany_rule fn_Lany_rule) : CalW P w K mg base 5 "_law_any_talk" p_Lany_talk fn_Lany_talk :=
  calW_of F sc_Lany_talk fun f cdv A outer s H E g B tk => (s_cons (s_set 2 B.nd (w_cut (w_of (e_lst (a_cons e_str (a_cons e_str (a_cons e_str (a_cons e_str a_nil)))) (len_cons (len_cons (len_cons (len_cons len_nil)))))) wo_no (wo_part (w_add (w_of e_int) (w_callW mono_roll C_Lroll B (wa_of (a_cons (e_var 0) (a_cons e_int a_nil))))))))
    (s_cons (s_parOV 3 4 B (oF_lst a_nil len_nil) (w_of e_int))
    (s_cons (s_for B (iw_range1 (by rfl) hF.range (wa_cons (w_callW mono_roll C_Lroll B (wa_of (a_cons (e_var 0) (a_cons (e_add (e_var 1) e_int) a_nil)))) wa_nil)) (sg_name 5 B.nd) (s_cons (s_set 6 B.nd (w_callW mono_fnW C_Lany_rule B (wa_cons (w_of (e_var 0)) (wa_cons (w_of (e_var 2)) (wa_cons (w_callW mono_roll C_Lroll B (wa_of (a_cons (e_var 0) (a_cons e_int a_nil)))) wa_nil)))))
    (s_one (s_if (PW.pt (w_and (t_notin B.hr (e_var 6) (e_var 3)) (w_and1 (PW.pt (w_or (t_ne B.hr (e_ix (e_var 6) e_int) e_str) (w_or1 (t_eq B.hr (e_var 4) e_int))))))) (s_cons (s_app 3 (w_of (e_var 6)))
    (s_one (s_set 4 B.nd (w_of (e_add (e_var 4) (e_toint (by rfl) hF.int (a_cons (e_eq B.hr (e_ix (e_var 6) e_int) e_str) a_nil))))))) s_nil))))
    (s_cons (s_set 7 B.nd (w_tuple (by rfl) hF.tuple (wa_cons (w_lc B.hc B.nd (i_of (i_val (e_var 2))) (blkOk_by (own := [("_law_state", 8)]) rfl) (by decide) (inBlk B fun _ _ _ _ _ B => (g_name 8 B.nd)) (inBlk B fun _ _ _ _ _ B => ts_nil) (inBlk B fun _ _ _ _ _ B => (w_ix (w_of (e_lst (a_cons e_int (a_cons e_int (a_cons e_int (a_cons e_int a_nil)))) (len_cons (len_cons (len_cons (len_cons len_nil)))))) (w_callW mono_roll C_Lroll B (wa_of (a_cons (e_var 0) (a_cons e_int a_nil))))))) wa_nil)))
    (s_one (s_ret (w_tup (wa_cons (w_of (e_tuple (by rfl) hF.tuple (a_cons (e_var 2) a_nil))) (wa_cons (w_ix (w_of (e_var 2)) (w_callW mono_roll C_Lroll B (wa_of (a_cons (e_var 0) (a_cons (e_len (by rfl) hF.len (a_cons (e_var 2) a_nil)) a_nil))))) (wa_cons (w_of (e_var 7)) (wa_cons (w_of (e_tuple (by rfl) hF.tuple (a_cons (e_var 3) a_nil))) wa_nil)))) (lenw_cons (lenw_cons (lenw_cons (lenw_cons lenw_nil)))))))))))
theorem ok_Lat_start (F : FunA K mg "_law_at_start" st_Lat_start p_Lat_start) (hF : Fre mg) (hS : Glob mg) (hT : Excs K mg) : CalF P w K mg base 1 "_law_at_start" p_Lat_start fn_Lat_start :=
  calF_of F sc_Lat_start (imp_seq imp_setO (imp_seq (imp_for imp_app) imp_ret)) fun f cdv A outer s H E g B tk => (s_cons (s_setO 2 B.nd (oF_lst a_nil len_nil))
    (s_cons (s_for B (i_of (i_zip (by rfl) hF.zip (a_cons (e_ix (e_var 0) e_int) (a_cons (e_ix (e_var 0) e_int) a_nil)))) (sg_tup B.hc (sgs_cons (sg_name 3 B.nd) (sgs_cons (sg_name 4 B.nd) sgs_nil))) (s_one (s_app 2 (w_of (e_if (t_eq B.hr (e_var 3) (e_ix (e_var 0) e_int)) (e_add (e_var 4) (e_var 1)) (e_var 4))))))
    (s_one (s_ret (w_of (e_tuple (by rfl) hF.tuple (a_cons (e_var 2) a_nil)))))))
theorem ok_Lafter (F : FunA K mg "_law_after" st_Lafter p_Lafter) (hF : Fre mg) (hS : Glob mg) (hT : Excs K mg) : CalF P w K mg base 1 "_law_after" p_Lafter fn_Lafter :=
  calF_of F sc_Lafter (imp_seq imp_setOD (imp_seq (imp_for (imp_seq imp_put (imp_if imp_ret imp_skip))) (imp_seq (imp_if (imp_seq imp_setOD (imp_seq (imp_for imp_put) imp_move)) imp_skip) (imp_seq (imp_for imp_put) imp_ret)))) fun f cdv A outer s H E g B tk => (s_cons (s_setOD 3 B.nd (o_dictZip B.hc (by rfl) hF.dict (by rfl) hF.zip (a_cons (e_ix (e_var 0) e_int) (a_cons (e_var 1) a_nil))))
    (s_cons (s_for B (i_of (i_val (e_if (t_eq B.hr (e_ix (e_var 2) e_int) e_str) (e_cut (e_var 2) (o_part e_int) (o_part e_int)) (e_cut (e_var 2) (o_part e_int) (o_part e_int))))) (sg_name 4 B.nd) (s_cons (s_put 3 (Nat.lt_of_le_of_lt (Nat.add_le_add_left (by decide) _) B.hr.units) (w_of (e_var 4)) (w_of (e_sub (e_ixX B.hr (e_var 3) (e_var 4)) e_int)))
    (s_one (s_if (t_lt (e_ixX B.hr (e_var 3) (e_var 4)) e_int) (s_one (s_ret (w_of e_non))) s_nil))))
    (s_cons (s_if (t_eq B.hr (e_ix (e_var 2) e_int) e_str) (s_cons (s_setOD 5 B.nd (o_dictZip B.hc (by rfl) hF.dict (by rfl) hF.zip (a_cons (e_ix (e_var 0) e_int) (a_cons (e_mulX (e_lst (a_cons e_int a_nil) (len_cons len_nil)) (e_len (by rfl) hF.len (a_cons (e_var 1) a_nil))) a_nil))))
    (s_cons (s_for B (i_of (i_zip (by rfl) hF.zip (a_cons (e_ix (e_var 0) e_int) (a_cons (e_ix (e_var 2) e_int) a_nil)))) (sg_tup B.hc (sgs_cons (sg_name 4 B.nd) (sgs_cons (sg_name 6 B.nd) sgs_nil))) (s_one (s_put 5 (Nat.lt_of_le_of_lt (Nat.add_le_add_left (by decide) _) B.hr.units) (w_of (e_var 6)) (w_of (e_add (e_ixX B.hr (e_var 5) (e_var 6)) (e_ixX B.hr (e_var 3) (e_var 4)))))))
    (s_one (s_move 3 5 B.nd)))) s_nil)
    (s_cons (s_for B (i_of (i_val (e_if (t_eq B.hr (e_ix (e_var 2) e_int) e_str) (e_cut (e_var 2) (o_part e_int) (o_part e_int)) (e_cut (e_var 2) (o_part e_int) (o_part e_int))))) (sg_name 4 B.nd) (s_one (s_put 3 (Nat.lt_of_le_of_lt (Nat.add_le_add_left (by decide) _) B.hr.units) (w_of (e_var 4)) (w_of (e_add (e_ixX B.hr (e_var 3) (e_var 4)) e_int)))))
    (s_one (s_ret (w_of (e_tuple (by rfl) hF.tuple (a_cons (e_lc B.hc B.nd (i_val (e_ix (e_var 0) e_int)) (blkOk_by (own := [("_law_state", 4)]) rfl) (by decide) (inBlk B fun _ _ _ _ _ B => (g_name 4 B.nd)) (inBlk B fun _ _ _ _ _ B => ts_nil) (inBlk B fun _ _ _ _ _ B => (e_ixX B.hr (e_var 3) (e_var 4)))) a_nil)))))))))
theorem ok_Lsteps_on (F : FunA K mg "_law_steps_on" st_Lsteps_on p_Lsteps_on) (hF : Fre mg) (hS : Glob mg) (hT : Excs K mg) (C_Lafter : CalF P w K mg base 1 "_law_after" p_Lafter fn_Lafter) : CalF P w K mg base 2 "_law_steps_on" p_Lsteps_on fn_Lsteps_on :=
  calF_of F sc_Lsteps_on (imp_seq imp_setO (imp_seq (imp_for (imp_seq imp_set (imp_if imp_app imp_skip))) imp_ret)) fun f cdv A outer s H E g B tk => (s_cons (s_setO 2 B.nd (oF_lst a_nil len_nil))
    (s_cons (s_for B (i_of (i_enum (by rfl) hF.enumerate (a_cons (e_ix (e_var 0) e_int) a_nil))) (sg_tup B.hc (sgs_cons (sg_name 3 B.nd) (sgs_cons (sg_name 4 B.nd) sgs_nil))) (s_cons (s_set 5 B.nd (w_of (e_callF C_Lafter B (a_cons (e_var 0) (a_cons (e_var 1) (a_cons (e_var 4) a_nil))))))
    (s_one (s_if (t_isnot (e_var 5) e_non) (s_one (s_app 2 (w_of (e_tup (a_cons (e_var 3) (a_cons (e_var 5) a_nil)) (len_cons (len_cons len_nil)))))) s_nil))))
    (s_one (s_ret (w_of (e_var 2))))))
theorem ok_Lcome_to (F : FunA K mg "_law_come_to" st_Lcome_to p_Lcome_to) (hF : Fre mg) (hS : Glob mg) (hT : Excs K mg) (C_Lsteps_on : CalF P w K mg base 2 "_law_steps_on" p_Lsteps_on fn_Lsteps_on) : CalF P w K mg base 3 "_law_come_to" p_Lcome_to fn_Lcome_to :=
  calF_of F sc_Lcome_to (imp_seq imp_par3 (imp_seq (imp_while (imp_seq imp_parVO (imp_seq (imp_for (imp_for (imp_if (imp_seq imp_putT imp_app) imp_skip))) imp_freeze))) imp_retT)) fun f cdv A outer s H E g B tk => (s_cons (s_par3 2 3 4 B (tk_t B.hr (e_var 1) e_int) (tk_v (w_of (e_lst (a_cons (e_var 1) a_nil) (len_cons len_nil)))) (tk_v (w_of e_int)))
    (s_cons (s_while B (t_ne B.hr (e_var 3) (e_lst a_nil len_nil)) (s_cons (s_parVO 4 5 B (w_of (e_add (e_var 4) e_int)) (oF_lst a_nil len_nil))
    (s_cons (s_for B (i_of (i_val (e_var 3))) (sg_name 6 B.nd) (s_one (s_for B (i_of (i_val (e_callF C_Lsteps_on B (a_cons (e_var 0) (a_cons (e_var 6) a_nil))))) (sg_tup B.hc (sgs_cons (sg_name 7 B.nd) (sgs_cons (sg_name 8 B.nd) sgs_nil))) (s_one (s_if (t_notinT B.hr (e_var 8) (e_var 2)) (s_cons (s_putT 2 (Nat.lt_of_le_of_lt (Nat.add_le_add_left (by decide) _) B.hr.units) (w_of (e_var 8)) (w_of (e_var 4)))
    (s_one (s_app 5 (w_of (e_var 8))))) s_nil)))))
    (s_one (s_freeze 3 5 B.nd)))))
    (s_one (s_retT 2))))
theorem ok_Lcell (F : FunA K mg "_law_cell" st_Lcell p_Lcell) (hF : Fre mg) : CalV P w K mg base 1 "_law_cell" p_Lcell (FW.spCell K) :=
  calS_of (t := fun _ => tCell K 7919 104729) F sc_Lcell (fun vs H Q E ⟨a, k, ns, e, _⟩ => by rw [e]; rfl) (fun f cdv A outer s H E B =>
    pss_cons (ps_if (pt_cmpR (op_eqD B.hr.units) (pv 0) (pe_lst pa_nil) (nomark _)) (pss_one (ps_ret (pe_op op_mul (pv 1) pe_int))) pss_nil) (pss_one (ps_ret (pe_op op_add (pe_ix ix_seq (pv 0) (pe_op op_mod (pv 1) (pe_callB call_len (by rfl) hF.len boot_len (pa_cons (pv 0) pa_nil))) (fun _ _ => rfl)) (pe_op op_mul (pe_op op_fdivW (pv 1) (pe_callB call_len (by rfl) hF.len boot_len (pa_cons (pv 0) pa_nil))) pe_int)))))
    (fun vs H Q E h => cell_run rfl (by decide) (by decide) vs H Q E h)
theorem ok_Ldrawn (F : FunA K mg "_law_drawn" st_Ldrawn p_Ldrawn) : CalV P w K mg base 1 "_law_drawn" p_Ldrawn FW.spDrawn :=
  calS_of (t := fun _ => tDrawn 6364136223846793005 1442695040888963407 340282366920938463463374607431768211507 340282366920938463463374607431768211297 18446744073709551557) F sc_Ldrawn (fun vs H Q E ⟨c, k, e, _⟩ => by rw [e]; rfl) (fun f cdv A outer s H E B =>
    pss_cons (ps_set (i := 2) B.nd rfl (Or.inl rfl) (pe_op op_mod (pe_op op_add (pe_op op_mul (pv 0) pe_int) (pe_op op_mul (pe_op op_add (pv 1) pe_int) pe_int)) pe_int)) (pss_cons (ps_set (i := 2) B.nd rfl (Or.inl rfl) (pe_op op_mod (pe_op op_mulW (pv 2) (pv 2)) pe_int)) (pss_cons (ps_set (i := 2) B.nd rfl (Or.inl rfl) (pe_op op_mulW (pe_op op_mulW (pe_op op_add (pe_op op_mod (pv 2) pe_int) pe_int) (pe_op op_add (pe_op op_fdivW (pv 2) pe_int) pe_int)) (pv 2))) (pss_one (ps_ret (pe_op op_mod (pv 2) pe_int))))))
    (fun vs H Q E h => drawn_run rfl (by decide) (by decide) (by decide) (by decide) (by decide) vs H Q E h)
theorem ok_Lroll (F : FunA K mg "_law_roll" st_Lroll p_Lroll) (C_Ldrawn : CalV P w K mg base 1 "_law_drawn" p_Ldrawn FW.spDrawn) : CalW P w K mg base 3 "_law_roll" p_Lroll fnRoll :=
  calV_of (t := fun E => tRoll K E) F sc_Lroll (fun vs H Q E ⟨g, I, ds, rl, hd, m, e, _⟩ => by rw [hd.len, e]; rfl) (fun f cdv A outer s H E B =>
    pss_cons (ps_if (pt_cmpR op_ge (pe_ix ix_seq (pv 0) pe_int (fun _ _ => rfl)) (pe_op op_pow pe_int pe_int) (nomark _)) (pss_cons (ps_set (i := 2) B.nd rfl (Or.inl rfl) (pe_op op_mod (pe_ix ix_seq (pv 0) pe_int (fun _ _ => rfl)) (pv 1))) (pss_cons (ps_asg (pe_op op_fdivW (pe_ix ix_seq (pv 0) pe_int (fun _ _ => rfl)) (pv 1)) (pg_sub (pv 0) pe_int set_list)) (pss_one (ps_ret (pv 2))))) pss_nil)
      (pss_cons (ps_asg (pe_op op_add (pe_ix ix_seq (pv 0) pe_int (fun _ _ => rfl)) pe_int) (pg_sub (pv 0) pe_int set_list)) (pss_one (ps_ret (pe_op op_mod (pe_op op_fdivW (v_call C_Ldrawn B (pa_cons (pe_ix ix_seq (pv 0) pe_int (fun _ _ => rfl)) (pa_cons (pe_ix ix_seq (pv 0) pe_int (fun _ _ => rfl)) pa_nil))) pe_int) (pv 1))))))
    (fun vs H Q E h => roll_run rfl vs H Q E h)
theorem ok_Lrounds (F : FunA K mg "_law_rounds" st_Lrounds p_Lrounds) (hF : Fre mg) (C_Lcell : CalV P w K mg base 1 "_law_cell" p_Lcell (FW.spCell K)) : CalV P w K mg base 2 "_law_rounds" p_Lrounds (FW.spRounds K) :=
  calS_of (t := fun _ => tRounds K) F sc_Lrounds (fun vs H Q E ⟨a, k, ns, e, _⟩ => by rw [e]; rfl) (fun f cdv A outer s H E B =>
    pss_one (ps_ret (pe_lc B.hc B.nd (pi_range1 (by rfl) hF.range (pa_cons (pe_callB (call_max2 B.hc) (by rfl) hF.max (by decide +kernel) (pa_cons pe_int (pa_cons (pe_callB (call_min2 B.hc) (by rfl) hF.min (by decide +kernel) (pa_cons (pv 1) (pa_cons (pe_callB call_len (by rfl) hF.len boot_len (pa_cons (pv 0) pa_nil)) pa_nil))) pa_nil))) pa_nil)) (blkOk_by (own := [("_law_k", 2)]) rfl)
      (fun s H C cl fp => pg_name (i := 2) B.nd rfl (Or.inl rfl)) (fun s H C cl fp => pts_nil) (fun s H C cl fp => pe_lst (pa_cons (v_call C_Lcell (B.blk s H _ _ fp) (pa_cons (pv 0) (pa_cons (pv 2) pa_nil))) (pa_cons pe_int pa_nil))))))
    (fun vs H Q E h => rounds_run rfl vs H Q E h)
theorem body_law {T : List (Addr × Str)} (F : FunA K mg "law" st_law p_law) (hF : Fre mg) (hS : Glob mg) (hT : Excs K mg) (C_Lroll : CalW P w K mg base 3 "_law_roll" p_Lroll fnRoll) (C_Lrounds : CalV P w K mg base 2 "_law_rounds" p_Lrounds (FW.spRounds K)) (C_reached : CalF P w K mg base 6 "reached" p_reached fn_reached) (C_run_to : CalF P w K mg base 5 "run_to" p_run_to fn_run_to) (C_ends_of : CalF P w K mg base 6 "ends_of" p_ends_of fn_ends_of) (C_can_return : CalF P w K mg base 6 "can_return" p_can_return fn_can_return) (C_Lany_talk : CalW P w K mg base 5 "_law_any_talk" p_Lany_talk fn_Lany_talk) (C_Lat_start : CalF P w K mg base 1 "_law_at_start" p_Lat_start fn_Lat_start) (C_Lsteps_on : CalF P w K mg base 2 "_law_steps_on" p_Lsteps_on fn_Lsteps_on) (C_Lcome_to : CalF P w K mg base 3 "_law_come_to" p_Lcome_to fn_Lcome_to) {gT fT CT : Addr} {fdL fdT : FuncData} (FTold : ToldS P w K mg base 7 "_law_told" names st_Ltold gT fdL "_law_deed" "_law_e" "_law_term" "TalkError" "_law_e" CT fT fdT) {f c Pt : Addr} (TB : TabB base mg c Pt) (hTi : (Pt, ((envOfC "law" (defScope st_law) 0 0 .none).qual ++ "<lambda>")) ∈ T) (hTu : ∀ p ∈ T, p.1 = Pt → p.2 = ((envOfC "law" (defScope st_law) 0 0 .none).qual ++ "<lambda>")) (A : Around) (outer : List PySem.Env) (s : Shared) (H : Hp) (E : XK) (g : Gd) (hgT : g.T = T) (B : Bd (cxOf (L2N.CX P w) P w K mg base N_law "law" (defScope st_law) f (.ref c) A outer s H E) E 10) (tk : L2N.Takes (cxOf (L2N.CX P w) P w K mg base N_law "law" (defScope st_law) f (.ref c) A outer s H E) (fun cls d _ H => E cls d H)) (body : List Stmt)
    (hbd : ∃ tg it p r, defBody st_law = .For tg it body [] p :: r) : PSs (cxOf (L2N.CX P w) P w K mg base N_law "law" (defScope st_law) f (.ref c) A outer s H E) body (tWS g mg E ws_law) := by
  have O : OwnT (cxOf (L2N.CX P w) P w K mg base N_law "law" (defScope st_law) f (.ref c) A outer s H E) T := ⟨c, Pt, TB, rfl, hTi, hTu⟩
  obtain ⟨tg, it, p, r, e⟩ := hbd
  obtain rfl : body = _ := (by injection e with e1 _; injection e1 with _ _ e3 _ _; exact e3.symm)
  exact (s_cons (s_asg (w_tup (wa_cons (w_callW mono_fnW C_Lany_talk B (wa_of (a_cons (e_var 1) (a_cons e_int a_nil)))) (wa_cons (w_callW mono_roll C_Lroll B (wa_of (a_cons (e_var 1) (a_cons e_int a_nil)))) wa_nil)) (lenw_cons (lenw_cons lenw_nil))) (sg_tup B.hc (sgs_cons (sg_name 2 B.nd) (sgs_cons (sg_name 3 B.nd) sgs_nil))))
    (s_cons (s_set 4 B.nd (w_of (e_callF C_Lat_start B (a_cons (e_var 2) (a_cons (e_var 3) a_nil)))))
    (s_cons (s_set 5 B.nd (w_of (e_callF C_Lcome_to B (a_cons (e_var 2) (a_cons (e_var 4) a_nil)))))
    (s_cons (s_if (t_ne B.hr (e_callF C_reached B (a_cons (e_var 2) (a_cons (e_var 3) a_nil))) (e_sortF B.hc B.hr (by rfl) hF.sorted (e_var 5))) (s_one (s_ret (w_of e_bl))) s_nil)
    (s_cons (s_if (t_ne B.hr (e_callF C_ends_of B (a_cons (e_var 2) (a_cons (e_var 3) a_nil))) (e_lc B.hc B.nd (i_val (e_sortF B.hc B.hr (by rfl) hF.sorted (e_var 5))) (blkOk_by (own := [("_law_standing", 9)]) rfl) (by decide) (inBlk B fun _ _ _ _ _ B => (g_name 9 B.nd)) (inBlk B fun _ _ _ _ _ B => (ts_one (t_eq B.hr (e_callF C_Lsteps_on B (a_cons (e_var 2) (a_cons (e_var 9) a_nil))) (e_lst a_nil len_nil)))) (inBlk B fun _ _ _ _ _ B => (e_var 9)))) (s_one (s_ret (w_of e_bl))) s_nil)
    (s_cons (s_setLc 6 B (sw_true rfl rfl rfl rfl) (i_of (i_keysF (e_var 5))) (blkOk_by (own := [("_law_standing", 9)]) rfl) (by decide) (inBlk B fun _ _ _ _ _ B => (g_name 9 B.nd)) (inBlk B fun _ _ _ _ _ B => (ts_one (t_notinT B.hr (e_var 4) (e_callF C_Lcome_to B (a_cons (e_var 2) (a_cons (e_var 9) a_nil)))))) (inBlk B fun _ _ _ _ _ B => (w_of (e_var 9))))
    (s_cons (s_if (t_ne B.hr (e_callF C_can_return B (a_cons (e_var 2) (a_cons (e_var 3) a_nil))) (e_eq B.hr (e_var 6) (e_lst a_nil len_nil))) (s_one (s_ret (w_of e_bl))) s_nil)
    (s_one (s_for B (i_of (i_val (e_lst (a_cons (e_neg e_int) (a_cons e_int (a_cons e_bl (a_cons e_non (a_cons e_str a_nil))))) (len_cons (len_cons (len_cons (len_cons (len_cons len_nil)))))))) (sg_name 7 B.nd) (s_cons (s_setO 8 B.nd (oF_lst (a_cons (e_toldB FTold B O hgT (by decide) (fun A outer s H E f c' B => (e_callF C_reached B (a_cons (e_var 2) (a_cons (e_var 7) a_nil))))) a_nil) (len_cons len_nil)))
    (s_cons (s_app 8 (w_of (e_toldB FTold B O hgT (by decide) (fun A outer s H E f c' B => (e_callF C_ends_of B (a_cons (e_var 2) (a_cons (e_var 7) a_nil)))))))
    (s_cons (s_app 8 (w_of (e_toldB FTold B O hgT (by decide) (fun A outer s H E f c' B => (e_callF C_can_return B (a_cons (e_var 2) (a_cons (e_var 7) a_nil)))))))
    (s_cons (s_app 8 (w_of (e_toldB FTold B O hgT (by decide) (fun A outer s H E f c' B => (e_callF C_run_to B (a_cons (e_var 2) (a_cons (e_var 7) (a_cons e_non a_nil))))))))
    (s_one (s_if (t_ne B.hr (e_var 8) (e_mulX (e_lst (a_cons (e_tup (a_cons e_str (a_cons e_str a_nil)) (len_cons (len_cons len_nil))) a_nil) (len_cons len_nil)) e_int)) (s_one (s_ret (w_of e_bl))) s_nil)))))))))))))))
end
end Lk06
namespace Lk06
open PySem PySem.Spec PyProof.Rows L2 LamX FW
def tOther : TS := tRet (tTup (tCons (tC (.str "refused")) (tCons (tC (.str "other")) tNil)))
section
variable {P : Program} {w : World} {K : PySem.W.Frag} {mg : Str → Option Value} {base : Heap}
theorem room8 {k : Nat} {A : Around} (r : L2H.RoomH k A) : A.units + 8 < cLine := by have := r.un; omega
theorem body_Lterm {c : Str} (hF : Fre mg) (hC : ClsF K "TalkError" names c) (hm : ∀ y, y ∈ names → mg y = some (.ref (He.ga K y))) (hV : mg "ValueError" = none) {f : Addr} {cdv : Value} {A : Around} {outer : List PySem.Env} {s : Shared} {H : Hp} {p : Addr × Obj} {k : Nat}
    (hp : HotP (L2H.cxH C8.CX0 P w K mg base N_Lterm "_law_term" (defScope st_Lterm) f cdv A outer s H C8.E0 p) p) (hz : Zc (.ref (He.ga K c)) none p.2) (hr : L2H.RoomH k (A.deeper (envOfC "_law_term" (defScope st_Lterm) s.heap.objs.size f cdv))) :
    PSs (L2H.cxH C8.CX0 P w K mg base N_Lterm "_law_term" (defScope st_Lterm) f cdv A outer s H C8.E0 p) (defBody st_Lterm) (tTerm K p.1 [decide (c = "BadTalk"), decide (c = "BadStanding"), decide (c = "BadNumber"), decide (c = "BadTargets")] [decide (c = "BadPaper"), decide (c = "BadWeights"), decide (c = "BadTable"), decide (c = "BadRun")] [decide (c = "BadRule"), decide (c = "BadName"), decide (c = "Taken"), decide (c = "NoName")] [decide (c = "Nothing"), decide (c = "Full"), decide (c = "BadText")] ["BadTalk", "BadStanding", "BadNumber", "BadTargets", "BadPaper", "BadWeights", "BadTable", "BadRun"] ["BadRule", "BadName", "Taken", "NoName", "Nothing", "Full", "BadText"] true tOther tNext) :=
  pss_cons (ps_set (i := 1) sc_Lterm.nd rfl (Or.inl rfl) (pe_lst (pb_cons (pe_isX hC.exc hz ⟨_, hp.fs.choose_spec.1⟩ hp.pn (by rfl) hF.isinstance (cls_own hC (by decide) (hm "BadTalk" (by decide))) rfl (Or.inl rfl)) (pb_cons (pe_isX hC.exc hz ⟨_, hp.fs.choose_spec.1⟩ hp.pn (by rfl) hF.isinstance (cls_own hC (by decide) (hm "BadStanding" (by decide))) rfl (Or.inl rfl)) (pb_cons (pe_isX hC.exc hz ⟨_, hp.fs.choose_spec.1⟩ hp.pn (by rfl) hF.isinstance (cls_own hC (by decide) (hm "BadNumber" (by decide))) rfl (Or.inl rfl)) (pb_cons (pe_isX hC.exc hz ⟨_, hp.fs.choose_spec.1⟩ hp.pn (by rfl) hF.isinstance (cls_own hC (by decide) (hm "BadTargets" (by decide))) rfl (Or.inl rfl)) pb_nil)))))) (pss_cons (ps_set (i := 1) sc_Lterm.nd rfl (Or.inl rfl) (pe_op op_cat (pv 1) (pe_lst (pb_cons (pe_isX hC.exc hz ⟨_, hp.fs.choose_spec.1⟩ hp.pn (by rfl) hF.isinstance (cls_own hC (by decide) (hm "BadPaper" (by decide))) rfl (Or.inl rfl)) (pb_cons (pe_isX hC.exc hz ⟨_, hp.fs.choose_spec.1⟩ hp.pn (by rfl) hF.isinstance (cls_own hC (by decide) (hm "BadWeights" (by decide))) rfl (Or.inl rfl)) (pb_cons (pe_isX hC.exc hz ⟨_, hp.fs.choose_spec.1⟩ hp.pn (by rfl) hF.isinstance (cls_own hC (by decide) (hm "BadTable" (by decide))) rfl (Or.inl rfl)) (pb_cons (pe_isX hC.exc hz ⟨_, hp.fs.choose_spec.1⟩ hp.pn (by rfl) hF.isinstance (cls_own hC (by decide) (hm "BadRun" (by decide))) rfl (Or.inl rfl)) pb_nil))))))) (pss_cons (ps_set (i := 1) sc_Lterm.nd rfl (Or.inl rfl) (pe_op op_cat (pv 1) (pe_lst (pb_cons (pe_isX hC.exc hz ⟨_, hp.fs.choose_spec.1⟩ hp.pn (by rfl) hF.isinstance (cls_own hC (by decide) (hm "BadRule" (by decide))) rfl (Or.inl rfl)) (pb_cons (pe_isX hC.exc hz ⟨_, hp.fs.choose_spec.1⟩ hp.pn (by rfl) hF.isinstance (cls_own hC (by decide) (hm "BadName" (by decide))) rfl (Or.inl rfl)) (pb_cons (pe_isX hC.exc hz ⟨_, hp.fs.choose_spec.1⟩ hp.pn (by rfl) hF.isinstance (cls_own hC (by decide) (hm "Taken" (by decide))) rfl (Or.inl rfl)) (pb_cons (pe_isX hC.exc hz ⟨_, hp.fs.choose_spec.1⟩ hp.pn (by rfl) hF.isinstance (cls_own hC (by decide) (hm "NoName" (by decide))) rfl (Or.inl rfl)) pb_nil))))))) (pss_cons (ps_set (i := 1) sc_Lterm.nd rfl (Or.inl rfl) (pe_op op_cat (pv 1) (pe_lst (pb_cons (pe_isX hC.exc hz ⟨_, hp.fs.choose_spec.1⟩ hp.pn (by rfl) hF.isinstance (cls_own hC (by decide) (hm "Nothing" (by decide))) rfl (Or.inl rfl)) (pb_cons (pe_isX hC.exc hz ⟨_, hp.fs.choose_spec.1⟩ hp.pn (by rfl) hF.isinstance (cls_own hC (by decide) (hm "Full" (by decide))) rfl (Or.inl rfl)) (pb_cons (pe_isX hC.exc hz ⟨_, hp.fs.choose_spec.1⟩ hp.pn (by rfl) hF.isinstance (cls_own hC (by decide) (hm "BadText" (by decide))) rfl (Or.inl rfl)) pb_nil))))))
    (pss_cons (ps_set (i := 2) sc_Lterm.nd rfl (Or.inl rfl) (pe_lst (pz_cons pe_str (pz_cons pe_str (pz_cons pe_str (pz_cons pe_str (pz_cons pe_str (pz_cons pe_str (pz_cons pe_str (pz_cons pe_str pz_nil)))))))))) (pss_cons (ps_set (i := 2) sc_Lterm.nd rfl (Or.inl rfl) (pe_op op_cat (pv 2) (pe_lst (pz_cons pe_str (pz_cons pe_str (pz_cons pe_str (pz_cons pe_str (pz_cons pe_str (pz_cons pe_str (pz_cons pe_str pz_nil))))))))))
    (pss_cons (ps_if (PW.pt (pw_or (pt_cmp (pc_neI (pe_sumB hp (by rfl) hF.sum hF.int (pv 1) (by rfl) (by decide +kernel) (by decide +kernel) rfl (by decide +kernel) (by rfl)) pe_int)) (pw_or1 (pt_not (pt_val (pe_isX hC.exc hz ⟨_, hp.fs.choose_spec.1⟩ hp.pn (by rfl) hF.isinstance (cls_val hC hV) rfl (Or.inl rfl))))))) (pss_one (ps_ret (pe_tup (pa_cons pe_str (pa_cons pe_str pa_nil))))) pss_nil)
      (pss_one (ps_ret (pe_tupX (pa_cons pe_str (pa_cons (pe_ix ix_seq (pv 2) (pe_bm PySem.F.plainAttrs_list PySem.F.slot_list_index PySem.F.type_list_index (mt_index (room8 hr)) (pv 1) (pa_cons pe_bl pa_nil)) (fun _ _ => rfl)) pa_nil)))))))))))
theorem ok_Lterm {f : Addr} {fd : FuncData} (F : Fun K "_law_term" "_law_term" st_Lterm f fd) (hF : Fre mg) (hC : ∀ c, c ∈ names → ClsF K "TalkError" names c) (hm : ∀ y, y ∈ names → mg y = some (.ref (He.ga K y))) (hV : mg "ValueError" = none) (k : Nat) : ∀ c, c ∈ names → FnT P w K mg base (k + 1) f fd "_law_e" (He.ga K c) c := by
  intro c hc
  have h := hC c hc
  unfold names at hc
  simp only [List.mem_cons, List.not_mem_nil, or_false] at hc
  rcases hc with rfl | rfl | rfl | rfl | rfl | rfl | rfl | rfl | rfl | rfl | rfl | rfl | rfl | rfl | rfl <;> exact fn_term F sc_Lterm (by decide) (by decide) (by decide) (by decide) (by decide) fun cdv A outer s H p hp hz hr => body_Lterm hF h hm hV hp hz hr
theorem ok_Ltold (Ft : FunA K mg "_law_told" st_Ltold p_Ltold) (Fm : FunA K mg "_law_term" st_Lterm p_Lterm) (hF : Fre mg) (hC : ∀ c, c ∈ names → ClsF K "TalkError" names c) (hm : ∀ y, y ∈ names → mg y = some (.ref (He.ga K y))) (hV : mg "ValueError" = none) (hE : mg "TalkError" = some (.ref (He.ga K "TalkError"))) (k : Nat) :
    ∃ gT fT fdL fdT, ToldS P w K mg base (k + 1) "_law_told" names st_Ltold gT fdL "_law_deed" "_law_e" "_law_term" "TalkError" "_law_e" (He.ga K "TalkError") fT fdT := by
  obtain ⟨gT, fdL, F1, a1, b1⟩ := Ft.ex
  obtain ⟨fT, fdT, F2, a2, b2⟩ := Fm.ex
  refine ⟨gT, fT, fdL, fdT, F1, a1, b1, sc_Ltold, Or.inl rfl, rfl, rfl, rfl, hE, a2, F2.kp, b2, by decide, ⟨_, _, _, _, _, _, _, _, _, _, rfl⟩, fun c hc C e => ?_⟩
  have ec : C = He.ga K c := by rw [hm c hc] at e; cases e; rfl
  subst ec
  exact ⟨(hC c hc).exm, ok_Lterm F2 hF hC hm hV k c hc⟩
end
end Lk06
namespace Lk06
open PySem PySem.Spec PyProof.Rows L2 LamX FW
section
variable {w : World} {K : PySem.W.Frag} {mg : Str → Option Value} {h base : Heap}
abbrev Says (K : PySem.W.Frag) (h : Heap) : Prop := SaysX faL fnL moreB ["law"] K h
theorem fa_is_whole (S : Says K h) (G : h.Ns mainGlobals mg) : FunA K mg "is_whole" st_is_whole p_is_whole := by
  obtain ⟨fd, F⟩ := S.fac.def_ 0 (d := d_is_whole) rfl
  exact ⟨_, fd, fun_of F, (He.glo_ok S.kin G (S.fac.fact 0 (f := .glo "is_whole") rfl)), FunD.bindsN F fun _ _ _ _ _ _ us hl => match us, hl with | [_, _, _], _ => rfl⟩
theorem fa_is_word (S : Says K h) (G : h.Ns mainGlobals mg) : FunA K mg "is_word" st_is_word p_is_word := by
  obtain ⟨fd, F⟩ := S.fac.def_ 1 (d := d_is_word) rfl
  exact ⟨_, fd, fun_of F, (He.glo_ok S.kin G (S.fac.fact 1 (f := .glo "is_word") rfl)), FunD.bindsN F fun _ _ _ _ _ _ us hl => match us, hl with | [_], _ => rfl⟩
theorem fa_are_counts (S : Says K h) (G : h.Ns mainGlobals mg) : FunA K mg "are_counts" st_are_counts p_are_counts := by
  obtain ⟨fd, F⟩ := S.fac.def_ 2 (d := d_are_counts) rfl
  exact ⟨_, fd, fun_of F, (He.glo_ok S.kin G (S.fac.fact 2 (f := .glo "are_counts") rfl)), FunD.bindsN F fun _ _ _ _ _ _ us hl => match us, hl with | [_, _, _], _ => rfl⟩
theorem fa_is_state (S : Says K h) (G : h.Ns mainGlobals mg) : FunA K mg "is_state" st_is_state p_is_state := by
  obtain ⟨fd, F⟩ := S.fac.def_ 3 (d := d_is_state) rfl
  exact ⟨_, fd, fun_of F, (He.glo_ok S.kin G (S.fac.fact 3 (f := .glo "is_state") rfl)), FunD.bindsN F fun _ _ _ _ _ _ us hl => match us, hl with | [_, _], _ => rfl⟩
theorem fa_is_rule (S : Says K h) (G : h.Ns mainGlobals mg) : FunA K mg "is_rule" st_is_rule p_is_rule := by
  obtain ⟨fd, F⟩ := S.fac.def_ 4 (d := d_is_rule) rfl
  exact ⟨_, fd, fun_of F, (He.glo_ok S.kin G (S.fac.fact 4 (f := .glo "is_rule") rfl)), FunD.bindsN F fun _ _ _ _ _ _ us hl => match us, hl with | [_, _], _ => rfl⟩
theorem fa_are_states (S : Says K h) (G : h.Ns mainGlobals mg) : FunA K mg "are_states" st_are_states p_are_states := by
  obtain ⟨fd, F⟩ := S.fac.def_ 5 (d := d_are_states) rfl
  exact ⟨_, fd, fun_of F, (He.glo_ok S.kin G (S.fac.fact 5 (f := .glo "are_states") rfl)), FunD.bindsN F fun _ _ _ _ _ _ us hl => match us, hl with | [_], _ => rfl⟩
theorem fa_is_talk (S : Says K h) (G : h.Ns mainGlobals mg) : FunA K mg "is_talk" st_is_talk p_is_talk := by
  obtain ⟨fd, F⟩ := S.fac.def_ 6 (d := d_is_talk) rfl
  exact ⟨_, fd, fun_of F, (He.glo_ok S.kin G (S.fac.fact 6 (f := .glo "is_talk") rfl)), FunD.bindsN F fun _ _ _ _ _ _ us hl => match us, hl with | [_], _ => rfl⟩
theorem fa_need_talk (S : Says K h) (G : h.Ns mainGlobals mg) : FunA K mg "need_talk" st_need_talk p_need_talk := by
  obtain ⟨fd, F⟩ := S.fac.def_ 7 (d := d_need_talk) rfl
  exact ⟨_, fd, fun_of F, (He.glo_ok S.kin G (S.fac.fact 7 (f := .glo "need_talk") rfl)), FunD.bindsN F fun _ _ _ _ _ _ us hl => match us, hl with | [_], _ => rfl⟩
theorem fa_begun (S : Says K h) (G : h.Ns mainGlobals mg) : FunA K mg "begun" st_begun p_begun := by
  obtain ⟨fd, F⟩ := S.fac.def_ 8 (d := d_begun) rfl
  exact ⟨_, fd, fun_of F, (He.glo_ok S.kin G (S.fac.fact 8 (f := .glo "begun") rfl)), FunD.bindsN F fun _ _ _ _ _ _ us hl => match us, hl with | [_, _], _ => rfl⟩
theorem fa_vector (S : Says K h) (G : h.Ns mainGlobals mg) : FunA K mg "vector" st_vector p_vector := by
  obtain ⟨fd, F⟩ := S.fac.def_ 9 (d := d_vector) rfl
  exact ⟨_, fd, fun_of F, (He.glo_ok S.kin G (S.fac.fact 9 (f := .glo "vector") rfl)), FunD.bindsN F fun _ _ _ _ _ _ us hl => match us, hl with | [_, _], _ => rfl⟩
theorem fa_needed (S : Says K h) (G : h.Ns mainGlobals mg) : FunA K mg "needed" st_needed p_needed := by
  obtain ⟨fd, F⟩ := S.fac.def_ 10 (d := d_needed) rfl
  exact ⟨_, fd, fun_of F, (He.glo_ok S.kin G (S.fac.fact 10 (f := .glo "needed") rfl)), FunD.bindsN F fun _ _ _ _ _ _ us hl => match us, hl with | [_, _], _ => rfl⟩
theorem fa_granted (S : Says K h) (G : h.Ns mainGlobals mg) : FunA K mg "granted" st_granted p_granted := by
  obtain ⟨fd, F⟩ := S.fac.def_ 11 (d := d_granted) rfl
  exact ⟨_, fd, fun_of F, (He.glo_ok S.kin G (S.fac.fact 11 (f := .glo "granted") rfl)), FunD.bindsN F fun _ _ _ _ _ _ us hl => match us, hl with | [_, _], _ => rfl⟩
theorem fa_can (S : Says K h) (G : h.Ns mainGlobals mg) : FunA K mg "can" st_can p_can := by
  obtain ⟨fd, F⟩ := S.fac.def_ 12 (d := d_can) rfl
  exact ⟨_, fd, fun_of F, (He.glo_ok S.kin G (S.fac.fact 12 (f := .glo "can") rfl)), FunD.bindsN F fun _ _ _ _ _ _ us hl => match us, hl with | [_, _, _], _ => rfl⟩
theorem fa_done (S : Says K h) (G : h.Ns mainGlobals mg) : FunA K mg "done" st_done p_done := by
  obtain ⟨fd, F⟩ := S.fac.def_ 13 (d := d_done) rfl
  exact ⟨_, fd, fun_of F, (He.glo_ok S.kin G (S.fac.fact 13 (f := .glo "done") rfl)), FunD.bindsN F fun _ _ _ _ _ _ us hl => match us, hl with | [_, _, _], _ => rfl⟩
theorem fa_steps_from (S : Says K h) (G : h.Ns mainGlobals mg) : FunA K mg "steps_from" st_steps_from p_steps_from := by
  obtain ⟨fd, F⟩ := S.fac.def_ 14 (d := d_steps_from) rfl
  exact ⟨_, fd, fun_of F, (He.glo_ok S.kin G (S.fac.fact 14 (f := .glo "steps_from") rfl)), FunD.bindsN F fun _ _ _ _ _ _ us hl => match us, hl with | [_, _], _ => rfl⟩
theorem fa_need_size (S : Says K h) (G : h.Ns mainGlobals mg) : FunA K mg "need_size" st_need_size p_need_size := by
  obtain ⟨fd, F⟩ := S.fac.def_ 15 (d := d_need_size) rfl
  exact ⟨_, fd, fun_of F, (He.glo_ok S.kin G (S.fac.fact 15 (f := .glo "need_size") rfl)), FunD.bindsN F fun _ _ _ _ _ _ us hl => match us, hl with | [_], _ => rfl⟩
theorem fa_walked (S : Says K h) (G : h.Ns mainGlobals mg) : FunA K mg "walked" st_walked p_walked := by
  obtain ⟨fd, F⟩ := S.fac.def_ 16 (d := d_walked) rfl
  exact ⟨_, fd, fun_of F, (He.glo_ok S.kin G (S.fac.fact 16 (f := .glo "walked") rfl)), FunD.bindsN F fun _ _ _ _ _ _ us hl => match us, hl with | [_, _], _ => rfl⟩
theorem fa_reached (S : Says K h) (G : h.Ns mainGlobals mg) : FunA K mg "reached" st_reached p_reached := by
  obtain ⟨fd, F⟩ := S.fac.def_ 17 (d := d_reached) rfl
  exact ⟨_, fd, fun_of F, (He.glo_ok S.kin G (S.fac.fact 17 (f := .glo "reached") rfl)), FunD.bindsN F fun _ _ _ _ _ _ us hl => match us, hl with | [_, _], _ => rfl⟩
theorem fa_run_to (S : Says K h) (G : h.Ns mainGlobals mg) : FunA K mg "run_to" st_run_to p_run_to := by
  obtain ⟨fd, F⟩ := S.fac.def_ 18 (d := d_run_to) rfl
  exact ⟨_, fd, fun_of F, (He.glo_ok S.kin G (S.fac.fact 18 (f := .glo "run_to") rfl)), FunD.bindsN F fun _ _ _ _ _ _ us hl => match us, hl with | [_, _, _], _ => rfl⟩
theorem fa_ends_of (S : Says K h) (G : h.Ns mainGlobals mg) : FunA K mg "ends_of" st_ends_of p_ends_of := by
  obtain ⟨fd, F⟩ := S.fac.def_ 19 (d := d_ends_of) rfl
  exact ⟨_, fd, fun_of F, (He.glo_ok S.kin G (S.fac.fact 19 (f := .glo "ends_of") rfl)), FunD.bindsN F fun _ _ _ _ _ _ us hl => match us, hl with | [_, _], _ => rfl⟩
theorem fa_can_return (S : Says K h) (G : h.Ns mainGlobals mg) : FunA K mg "can_return" st_can_return p_can_return := by
  obtain ⟨fd, F⟩ := S.fac.def_ 20 (d := d_can_return) rfl
  exact ⟨_, fd, fun_of F, (He.glo_ok S.kin G (S.fac.fact 20 (f := .glo "can_return") rfl)), FunD.bindsN F fun _ _ _ _ _ _ us hl => match us, hl with | [_, _], _ => rfl⟩
theorem fa_Lcell (S : Says K h) (G : h.Ns mainGlobals mg) : FunA K mg "_law_cell" st_Lcell p_Lcell := by
  obtain ⟨fd, F⟩ := S.fac.def_ 21 (d := d_Lcell) rfl
  exact ⟨_, fd, fun_of F, (He.glo_ok S.kin G (S.fac.fact 21 (f := .glo "_law_cell") rfl)), FunD.bindsN F fun _ _ _ _ _ _ us hl => match us, hl with | [_, _], _ => rfl⟩
theorem fa_Ldrawn (S : Says K h) (G : h.Ns mainGlobals mg) : FunA K mg "_law_drawn" st_Ldrawn p_Ldrawn := by
  obtain ⟨fd, F⟩ := S.fac.def_ 22 (d := d_Ldrawn) rfl
  exact ⟨_, fd, fun_of F, (He.glo_ok S.kin G (S.fac.fact 22 (f := .glo "_law_drawn") rfl)), FunD.bindsN F fun _ _ _ _ _ _ us hl => match us, hl with | [_, _], _ => rfl⟩
theorem fa_Lroll (S : Says K h) (G : h.Ns mainGlobals mg) : FunA K mg "_law_roll" st_Lroll p_Lroll := by
  obtain ⟨fd, F⟩ := S.fac.def_ 23 (d := d_Lroll) rfl
  exact ⟨_, fd, fun_of F, (He.glo_ok S.kin G (S.fac.fact 23 (f := .glo "_law_roll") rfl)), FunD.bindsN F fun _ _ _ _ _ _ us hl => match us, hl with | [_, _], _ => rfl⟩
theorem fa_Lrounds (S : Says K h) (G : h.Ns mainGlobals mg) : FunA K mg "_law_rounds" st_Lrounds p_Lrounds := by
  obtain ⟨fd, F⟩ := S.fac.def_ 24 (d := d_Lrounds) rfl
  exact ⟨_, fd, fun_of F, (He.glo_ok S.kin G (S.fac.fact 24 (f := .glo "_law_rounds") rfl)), FunD.bindsN F fun _ _ _ _ _ _ us hl => match us, hl with | [_, _], _ => rfl⟩
theorem fa_Lterm (S : Says K h) (G : h.Ns mainGlobals mg) : FunA K mg "_law_term" st_Lterm p_Lterm := by
  obtain ⟨fd, F⟩ := S.fac.def_ 25 (d := d_Lterm) rfl
  exact ⟨_, fd, fun_of F, (He.glo_ok S.kin G (S.fac.fact 25 (f := .glo "_law_term") rfl)), FunD.bindsN F fun _ _ _ _ _ _ us hl => match us, hl with | [_], _ => rfl⟩
theorem fa_Ltold (S : Says K h) (G : h.Ns mainGlobals mg) : FunA K mg "_law_told" st_Ltold p_Ltold := by
  obtain ⟨fd, F⟩ := S.fac.def_ 26 (d := d_Ltold) rfl
  exact ⟨_, fd, fun_of F, (He.glo_ok S.kin G (S.fac.fact 26 (f := .glo "_law_told") rfl)), FunD.bindsN F fun _ _ _ _ _ _ us hl => match us, hl with | [_], _ => rfl⟩
theorem fa_Lany_rule (S : Says K h) (G : h.Ns mainGlobals mg) : FunA K mg "_law_any_rule" st_Lany_rule p_Lany_rule := by
  obtain ⟨fd, F⟩ := S.fac.def_ 27 (d := d_Lany_rule) rfl
  exact ⟨_, fd, fun_of F, (He.glo_ok S.kin G (S.fac.fact 27 (f := .glo "_law_any_rule") rfl)), FunD.bindsN F fun _ _ _ _ _ _ us hl => match us, hl with | [_, _, _], _ => rfl⟩
theorem fa_Lany_talk (S : Says K h) (G : h.Ns mainGlobals mg) : FunA K mg "_law_any_talk" st_Lany_talk p_Lany_talk := by
  obtain ⟨fd, F⟩ := S.fac.def_ 28 (d := d_Lany_talk) rfl
  exact ⟨_, fd, fun_of F, (He.glo_ok S.kin G (S.fac.fact 28 (f := .glo "_law_any_talk") rfl)), FunD.bindsN F fun _ _ _ _ _ _ us hl => match us, hl with | [_, _], _ => rfl⟩
theorem fa_Lat_start (S : Says K h) (G : h.Ns mainGlobals mg) : FunA K mg "_law_at_start" st_Lat_start p_Lat_start := by
  obtain ⟨fd, F⟩ := S.fac.def_ 29 (d := d_Lat_start) rfl
  exact ⟨_, fd, fun_of F, (He.glo_ok S.kin G (S.fac.fact 29 (f := .glo "_law_at_start") rfl)), FunD.bindsN F fun _ _ _ _ _ _ us hl => match us, hl with | [_, _], _ => rfl⟩
theorem fa_Lafter (S : Says K h) (G : h.Ns mainGlobals mg) : FunA K mg "_law_after" st_Lafter p_Lafter := by
  obtain ⟨fd, F⟩ := S.fac.def_ 30 (d := d_Lafter) rfl
  exact ⟨_, fd, fun_of F, (He.glo_ok S.kin G (S.fac.fact 30 (f := .glo "_law_after") rfl)), FunD.bindsN F fun _ _ _ _ _ _ us hl => match us, hl with | [_, _, _], _ => rfl⟩
theorem fa_Lsteps_on (S : Says K h) (G : h.Ns mainGlobals mg) : FunA K mg "_law_steps_on" st_Lsteps_on p_Lsteps_on := by
  obtain ⟨fd, F⟩ := S.fac.def_ 31 (d := d_Lsteps_on) rfl
  exact ⟨_, fd, fun_of F, (He.glo_ok S.kin G (S.fac.fact 31 (f := .glo "_law_steps_on") rfl)), FunD.bindsN F fun _ _ _ _ _ _ us hl => match us, hl with | [_, _], _ => rfl⟩
theorem fa_Lcome_to (S : Says K h) (G : h.Ns mainGlobals mg) : FunA K mg "_law_come_to" st_Lcome_to p_Lcome_to := by
  obtain ⟨fd, F⟩ := S.fac.def_ 32 (d := d_Lcome_to) rfl
  exact ⟨_, fd, fun_of F, (He.glo_ok S.kin G (S.fac.fact 32 (f := .glo "_law_come_to") rfl)), FunD.bindsN F fun _ _ _ _ _ _ us hl => match us, hl with | [_, _], _ => rfl⟩
theorem fa_law (S : Says K h) (G : h.Ns mainGlobals mg) : FunA K mg "law" st_law p_law := by
  obtain ⟨fd, F⟩ := S.fac.def_ 33 (d := d_law) rfl
  exact ⟨_, fd, fun_of F, (He.glo_ok S.kin G (S.fac.fact 33 (f := .glo "law") rfl)), FunD.bindsN F fun _ _ _ _ _ _ us hl => match us, hl with | [_], _ => rfl⟩
theorem freL (S : Says K h) (G : h.Ns mainGlobals mg) : Fre mg := ⟨He.free_ok S.kin G (S.fac.fact 50 (f := .free "len") rfl), He.free_ok S.kin G (S.fac.fact 51 (f := .free "all") rfl), He.free_ok S.kin G (S.fac.fact 52 (f := .free "any") rfl), He.free_ok S.kin G (S.fac.fact 53 (f := .free "sum") rfl), He.free_ok S.kin G (S.fac.fact 54 (f := .free "tuple") rfl), He.free_ok S.kin G (S.fac.fact 55 (f := .free "list") rfl), He.free_ok S.kin G (S.fac.fact 56 (f := .free "int") rfl), He.free_ok S.kin G (S.fac.fact 57 (f := .free "max") rfl), He.free_ok S.kin G (S.fac.fact 58 (f := .free "min") rfl), He.free_ok S.kin G (S.fac.fact 59 (f := .free "range") rfl), He.free_ok S.kin G (S.fac.fact 60 (f := .free "enumerate") rfl), He.free_ok S.kin G (S.fac.fact 61 (f := .free "zip") rfl), He.free_ok S.kin G (S.fac.fact 62 (f := .free "isinstance") rfl), He.free_ok S.kin G (S.fac.fact 63 (f := .free "str") rfl), He.free_ok S.kin G (S.fac.fact 64 (f := .free "bool") rfl), He.free_ok S.kin G (S.fac.fact 65 (f := .free "dict") rfl), He.free_ok S.kin G (S.fac.fact 66 (f := .free "set") rfl), He.free_ok S.kin G (S.fac.fact 67 (f := .free "sorted") rfl), He.free_ok S.kin G (S.fac.fact 68 (f := .free "abs") rfl)⟩
theorem globL (S : Says K h) (G : h.Ns mainGlobals mg) : Glob mg := ⟨He.str_ok S.kin G (S.fac.fact 70 (f := .str "SMALL" "abcdefghijklmnopqrstuvwxyz") rfl), He.int_ok S.kin G (S.fac.fact 71 (f := .int "MOST_SIZE" 12) rfl), He.int_ok S.kin G (S.fac.fact 72 (f := .int "MOST_REACHED" 4000) rfl)⟩
theorem excT_of {x : Str} (hg : mg x = some (.ref (He.ga K x))) (c : (He.Fa.exc x).ok K = true) : ExcT K mg x (He.ga K x) := ⟨hg, (He.exc_ok c).1, (He.exc_ok c).2.1, (He.exc_ok c).2.2.1, (He.exc_ok c).2.2.2⟩
theorem excsL (S : Says K h) (G : h.Ns mainGlobals mg) : Excs K mg := ⟨excT_of (He.glo_ok S.kin G (S.fac.fact 35 (f := .glo "BadTalk") rfl)) (S.fac.fact 73 (f := .exc "BadTalk") rfl), excT_of (He.glo_ok S.kin G (S.fac.fact 36 (f := .glo "BadStanding") rfl)) (S.fac.fact 74 (f := .exc "BadStanding") rfl), excT_of (He.glo_ok S.kin G (S.fac.fact 37 (f := .glo "BadNumber") rfl)) (S.fac.fact 75 (f := .exc "BadNumber") rfl), excT_of (He.glo_ok S.kin G (S.fac.fact 38 (f := .glo "BadTargets") rfl)) (S.fac.fact 76 (f := .exc "BadTargets") rfl), excT_of (He.glo_ok S.kin G (S.fac.fact 39 (f := .glo "BadPaper") rfl)) (S.fac.fact 77 (f := .exc "BadPaper") rfl), excT_of (He.glo_ok S.kin G (S.fac.fact 40 (f := .glo "BadWeights") rfl)) (S.fac.fact 78 (f := .exc "BadWeights") rfl), excT_of (He.glo_ok S.kin G (S.fac.fact 41 (f := .glo "BadTable") rfl)) (S.fac.fact 79 (f := .exc "BadTable") rfl), excT_of (He.glo_ok S.kin G (S.fac.fact 42 (f := .glo "BadRun") rfl)) (S.fac.fact 80 (f := .exc "BadRun") rfl), excT_of (He.glo_ok S.kin G (S.fac.fact 43 (f := .glo "BadRule") rfl)) (S.fac.fact 81 (f := .exc "BadRule") rfl), excT_of (He.glo_ok S.kin G (S.fac.fact 44 (f := .glo "BadName") rfl)) (S.fac.fact 82 (f := .exc "BadName") rfl), excT_of (He.glo_ok S.kin G (S.fac.fact 45 (f := .glo "Taken") rfl)) (S.fac.fact 83 (f := .exc "Taken") rfl), excT_of (He.glo_ok S.kin G (S.fac.fact 46 (f := .glo "NoName") rfl)) (S.fac.fact 84 (f := .exc "NoName") rfl), excT_of (He.glo_ok S.kin G (S.fac.fact 47 (f := .glo "Nothing") rfl)) (S.fac.fact 85 (f := .exc "Nothing") rfl), excT_of (He.glo_ok S.kin G (S.fac.fact 48 (f := .glo "Full") rfl)) (S.fac.fact 86 (f := .exc "Full") rfl), excT_of (He.glo_ok S.kin G (S.fac.fact 49 (f := .glo "BadText") rfl)) (S.fac.fact 87 (f := .exc "BadText") rfl)⟩
theorem namL (S : Says K h) (G : h.Ns mainGlobals mg) : ∀ y, y ∈ names → mg y = some (.ref (He.ga K y)) := by
  intro y hy
  unfold names at hy
  simp only [List.mem_cons, List.not_mem_nil, or_false] at hy
  rcases hy with rfl | rfl | rfl | rfl | rfl | rfl | rfl | rfl | rfl | rfl | rfl | rfl | rfl | rfl | rfl
  · exact (He.glo_ok S.kin G (S.fac.fact 35 (f := .glo "BadTalk") rfl))
  · exact (He.glo_ok S.kin G (S.fac.fact 36 (f := .glo "BadStanding") rfl))
  · exact (He.glo_ok S.kin G (S.fac.fact 37 (f := .glo "BadNumber") rfl))
  · exact (He.glo_ok S.kin G (S.fac.fact 38 (f := .glo "BadTargets") rfl))
  · exact (He.glo_ok S.kin G (S.fac.fact 39 (f := .glo "BadPaper") rfl))
  · exact (He.glo_ok S.kin G (S.fac.fact 40 (f := .glo "BadWeights") rfl))
  · exact (He.glo_ok S.kin G (S.fac.fact 41 (f := .glo "BadTable") rfl))
  · exact (He.glo_ok S.kin G (S.fac.fact 42 (f := .glo "BadRun") rfl))
  · exact (He.glo_ok S.kin G (S.fac.fact 43 (f := .glo "BadRule") rfl))
  · exact (He.glo_ok S.kin G (S.fac.fact 44 (f := .glo "BadName") rfl))
  · exact (He.glo_ok S.kin G (S.fac.fact 45 (f := .glo "Taken") rfl))
  · exact (He.glo_ok S.kin G (S.fac.fact 46 (f := .glo "NoName") rfl))
  · exact (He.glo_ok S.kin G (S.fac.fact 47 (f := .glo "Nothing") rfl))
  · exact (He.glo_ok S.kin G (S.fac.fact 48 (f := .glo "Full") rfl))
  · exact (He.glo_ok S.kin G (S.fac.fact 49 (f := .glo "BadText") rfl))
abbrev TL (Pt : Addr) : List (Addr × Str) := [(Pt, (envOfC "law" (defScope st_law) 0 0 .none).qual ++ "<lambda>")]
theorem okLaw (pure_law : ws_law.run (r0 N_law.length) kRound) (S : Says K h) (G : h.Ns mainGlobals mg) (hfa : mg "law" = some (.ref fa)) : LamX.LawAtS PySem.Challenge.rw_manyends_k06_whole_reached w K (L2N.CX PySem.Challenge.pw_manyends_k06_whole_reached w) 11 63 "_law_script" mg fa h := by
  obtain ⟨fd, F⟩ := S.fac.def_ 33 (d := d_law) rfl
  obtain ⟨c, Pt, T⟩ := S.tab "law" (List.mem_singleton.mpr rfl)
  have e := hfa.symm.trans (He.glo_ok S.kin G (S.fac.fact 33 (f := .glo "law") rfl))
  cases e
  have hF := freL S G
  have hS := globL S G
  have hT := excsL S G
  have b := FunD.bindsA (ps := ["_law_script"]) F fun _ _ _ _ _ _ us hl => match us, hl with | [_], _ => rfl
  refine ⟨fd, [(c, Pt)], FW.spLaw K (TL Pt), fun p hp => ?_, fun p hp => ?_, fun p hp => ?_, fun s u => b s [u] rfl, fun H a ns hn _ hH hSq => ⟨a, ns, rfl, hSq, by omega, fun p hp => ?_, fun _ => rfl⟩, fun base _ _ hTB => ?_⟩
  · rw [List.mem_singleton.mp hp]; exact T.em
  · rw [List.mem_singleton.mp hp]; exact T.no
  · rw [List.mem_singleton.mp hp]; exact T.hd
  · rw [List.mem_singleton.mp hp]; exact TabS.nil (hH _ (List.mem_singleton.mpr rfl))
  · have TB := hTB (c, Pt) (List.mem_singleton.mpr rfl)
    have C_Lcell := ok_Lcell (P := PySem.Challenge.pw_manyends_k06_whole_reached) (w := w) (base := base) (fa_Lcell S G) hF
    have C_Ldrawn := ok_Ldrawn (P := PySem.Challenge.pw_manyends_k06_whole_reached) (w := w) (base := base) (fa_Ldrawn S G)
    have C_Lroll := ok_Lroll (fa_Lroll S G) C_Ldrawn
    have C_Lrounds := ok_Lrounds (fa_Lrounds S G) hF C_Lcell
    have C_is_whole := ok_is_whole (P := PySem.Challenge.pw_manyends_k06_whole_reached) (w := w) (base := base) (fa_is_whole S G) hF hS hT
    have C_is_word := ok_is_word (P := PySem.Challenge.pw_manyends_k06_whole_reached) (w := w) (base := base) (fa_is_word S G) hF hS hT
    have C_are_counts := ok_are_counts (P := PySem.Challenge.pw_manyends_k06_whole_reached) (w := w) (base := base) (fa_are_counts S G) hF hS hT C_is_whole
    have C_is_state := ok_is_state (P := PySem.Challenge.pw_manyends_k06_whole_reached) (w := w) (base := base) (fa_is_state S G) hF hS hT
    have C_is_rule := ok_is_rule (P := PySem.Challenge.pw_manyends_k06_whole_reached) (w := w) (base := base) (fa_is_rule S G) hF hS hT C_is_state
    have C_are_states := ok_are_states (P := PySem.Challenge.pw_manyends_k06_whole_reached) (w := w) (base := base) (fa_are_states S G) hF hS hT C_is_word
    have C_is_talk := ok_is_talk (P := PySem.Challenge.pw_manyends_k06_whole_reached) (w := w) (base := base) (fa_is_talk S G) hF hS hT C_are_counts C_is_state C_is_rule C_are_states
    have C_need_talk := ok_need_talk (P := PySem.Challenge.pw_manyends_k06_whole_reached) (w := w) (base := base) (fa_need_talk S G) hF hS hT C_is_talk
    have C_begun := ok_begun (P := PySem.Challenge.pw_manyends_k06_whole_reached) (w := w) (base := base) (fa_begun S G) hF hS hT
    have C_vector := ok_vector (P := PySem.Challenge.pw_manyends_k06_whole_reached) (w := w) (base := base) (fa_vector S G) hF hS hT
    have C_needed := ok_needed (P := PySem.Challenge.pw_manyends_k06_whole_reached) (w := w) (base := base) (fa_needed S G) hF hS hT C_vector
    have C_granted := ok_granted (P := PySem.Challenge.pw_manyends_k06_whole_reached) (w := w) (base := base) (fa_granted S G) hF hS hT C_vector
    have C_can := ok_can (P := PySem.Challenge.pw_manyends_k06_whole_reached) (w := w) (base := base) (fa_can S G) hF hS hT C_needed
    have C_done := ok_done (P := PySem.Challenge.pw_manyends_k06_whole_reached) (w := w) (base := base) (fa_done S G) hF hS hT C_needed C_granted
    have C_steps_from := ok_steps_from (P := PySem.Challenge.pw_manyends_k06_whole_reached) (w := w) (base := base) (fa_steps_from S G) hF hS hT C_can C_done
    have C_need_size := ok_need_size (P := PySem.Challenge.pw_manyends_k06_whole_reached) (w := w) (base := base) (fa_need_size S G) hF hS hT C_is_whole
    have C_walked := ok_walked (P := PySem.Challenge.pw_manyends_k06_whole_reached) (w := w) (base := base) (fa_walked S G) hF hS hT C_steps_from
    have C_reached := ok_reached (P := PySem.Challenge.pw_manyends_k06_whole_reached) (w := w) (base := base) (fa_reached S G) hF hS hT C_need_talk C_begun C_need_size C_walked
    have C_run_to := ok_run_to (P := PySem.Challenge.pw_manyends_k06_whole_reached) (w := w) (base := base) (fa_run_to S G) hF hS hT C_need_talk C_need_size
    have C_ends_of := ok_ends_of (P := PySem.Challenge.pw_manyends_k06_whole_reached) (w := w) (base := base) (fa_ends_of S G) hF hS hT C_need_talk C_begun C_steps_from C_need_size C_walked
    have C_can_return := ok_can_return (P := PySem.Challenge.pw_manyends_k06_whole_reached) (w := w) (base := base) (fa_can_return S G) hF hS hT C_need_talk C_begun C_steps_from C_need_size C_walked
    have C_Lany_rule := ok_Lany_rule (P := PySem.Challenge.pw_manyends_k06_whole_reached) (w := w) (base := base) (fa_Lany_rule S G) hF hS hT C_Lroll
    have C_Lany_talk := ok_Lany_talk (P := PySem.Challenge.pw_manyends_k06_whole_reached) (w := w) (base := base) (fa_Lany_talk S G) hF hS hT C_Lroll C_Lany_rule
    have C_Lat_start := ok_Lat_start (P := PySem.Challenge.pw_manyends_k06_whole_reached) (w := w) (base := base) (fa_Lat_start S G) hF hS hT
    have C_Lafter := ok_Lafter (P := PySem.Challenge.pw_manyends_k06_whole_reached) (w := w) (base := base) (fa_Lafter S G) hF hS hT
    have C_Lsteps_on := ok_Lsteps_on (P := PySem.Challenge.pw_manyends_k06_whole_reached) (w := w) (base := base) (fa_Lsteps_on S G) hF hS hT C_Lafter
    have C_Lcome_to := ok_Lcome_to (P := PySem.Challenge.pw_manyends_k06_whole_reached) (w := w) (base := base) (fa_Lcome_to S G) hF hS hT C_Lsteps_on
    obtain ⟨gT, fT, fdL, fdT, FTold⟩ := ok_Ltold (P := PySem.Challenge.pw_manyends_k06_whole_reached) (w := w) (base := base) (fa_Ltold S G) (fa_Lterm S G) hF (fun c hc => clsB_ok (List.all_eq_true.mp S.mor c hc)) (namL S G) (He.free_ok S.kin G (S.fac.fact 69 (f := .free "ValueError") rfl)) (He.glo_ok S.kin G (S.fac.fact 34 (f := .glo "TalkError") rfl)) 6
    refine fn_Vc (cv := .ref c) (t := fun E => tLaw K (TL Pt) mg E N_law.length 4 ws_law) (fun_of F) (fun o1 o2 fd1 o3 k1 => ?_) sc_law (fun vs H Q E ⟨a, ns, e, _⟩ => by rw [e]; rfl) (fun A outer s H E B tk => ?_) (fun vs H Q E hh => law_run (by decide) (by decide) pure_law vs H Q E hh)
    · obtain ⟨q1, q2, q3, q4, q5, q6⟩ := T.fn
      have k2 : K.lookup (He.ga K "law") = some ⟨o1, o2, .func fd1, o3⟩ := k1
      rw [q5] at k2
      cases k2
      exact q6
    · exact pss_cons (ps_for B.po B.hc (pi_list (v_call C_Lrounds B (pa_cons (pv 0) (pa_cons pe_int pa_nil)))) (pg_name (i := 1) sc_law.nd rfl (by first | exact Or.inl rfl | exact Or.inr rfl)) (pss_round (fun g hg => body_law (fa_law S G) hF hS hT C_Lroll C_Lrounds C_reached C_run_to C_ends_of C_can_return C_Lany_talk C_Lat_start C_Lsteps_on C_Lcome_to FTold TB (List.mem_singleton.mpr rfl) (fun p hp _ => by rw [List.mem_singleton.mp hp]) A outer s H E g hg B tk _ ⟨_, _, _, _, rfl⟩))) (pss_one (ps_ret pe_bl))
end
end Lk06
namespace Lk06
open PySem FW
/-! ### the checks, on plain talks -/
theorem is_state_eq (ss : List Str) (x : Str) : fn_is_state [.tup (ss.map D.str), .str x] = .ok (.bl (decide (x ∈ ss))) := by
  refine fn_ret rfl ?_
  rw [and_t rfl, op_ok (x := .str x) (y := .tup (ss.map D.str)) rfl rfl]
  exact in_strs ss x
theorem is_state_no (ss : List Str) (d : D) (h : d.is .str = false) : fn_is_state [.tup (ss.map D.str), d] = .ok (.bl false) := by
  refine fn_ret rfl ?_
  have e : fIsi .str (fVar 1) (allv (initE 2 [.tup (ss.map D.str), d])) = .ok (.bl (d.is .str)) := rfl
  rw [h] at e
  exact and_f e
def four : List Str := ["busy", "free", "own", "wait"]
theorem are_states_ok {ss : List Str} (h : ∃ n, 2 ≤ n ∧ n ≤ 4 ∧ ss = four.take n) : fn_are_states [.tup (ss.map D.str)] = .ok (.bl true) := by
  obtain ⟨n, h1, h2, rfl⟩ := h
  match n, h1, h2 with
  | 2, _, _ => rfl
  | 3, _, _ => rfl
  | 4, _, _ => rfl
theorem is_whole_ok (i lo hi : Int) (h : lo ≤ i ∧ i ≤ hi) : fn_is_whole [.int i, .int lo, .int hi] = .ok (.bl true) := by
  refine fn_ret rfl ?_
  rw [and_t rfl, and_t rfl]
  have e1 : dLe (.int lo) (.int i) = .ok (.bl true) := by show Res.ok (D.bl (decide (lo ≤ i))) = _; rw [decide_eq_true h.1]
  have e2 : dLe (.int i) (.int hi) = .ok (.bl true) := by show Res.ok (D.bl (decide (i ≤ hi))) = _; rw [decide_eq_true h.2]
  show ((dLe (.int lo) (.int i)).bind fun z => (match z with | .bl true => dLe (.int i) (.int hi) | .bl false => .ok (.bl false) | _ => .bad)) = _
  rw [e1]
  exact e2
/-! ### rules, talks -/
inductive PR where
  | alone (a b : Str) | meet (a b c d : Str) | call (a b : Str) (ts : List Str)
  deriving DecidableEq
def PR.d : PR → D
  | .alone a b => .tup [.str "alone", .str a, .str b]
  | .meet a b c d => .tup [.str "meet", .str a, .str b, .str c, .str d]
  | .call a b ts => .tup [.str "call", .str a, .str b, .tup (ts.map D.str)]
/-- over the states -/
def PR.In (ss : List Str) : PR → Prop
  | .alone a b => a ∈ ss ∧ b ∈ ss
  | .meet a b c d => a ∈ ss ∧ b ∈ ss ∧ c ∈ ss ∧ d ∈ ss
  | .call a b ts => a ∈ ss ∧ b ∈ ss ∧ ts.length = ss.length ∧ ∀ t ∈ ts, t ∈ ss
structure PTk where
  ss : List Str
  home : Str
  crew : List Int
  rules : List PR
def PTk.d (t : PTk) : D := .tup [.tup (t.ss.map D.str), .str t.home, .tup (t.crew.map D.int), .tup (t.rules.map PR.d)]
/-- a drawn talk of at most m rules -/
structure PTk.Ok (m : Nat) (t : PTk) : Prop where
  ss : ∃ n, 2 ≤ n ∧ n ≤ 4 ∧ t.ss = four.take n
  home : t.home ∈ t.ss
  crew : t.crew.length = t.ss.length ∧ ∀ c ∈ t.crew, 0 ≤ c ∧ c ≤ 2
  inn : ∀ r ∈ t.rules, r.In t.ss
  few : t.rules.length ≤ m
  dis : t.rules.Nodup
theorem PTk.Ok.len {m : Nat} {t : PTk} (h : t.Ok m) : 2 ≤ t.ss.length ∧ t.ss.length ≤ 4 := by
  obtain ⟨n, h1, h2, e⟩ := h.ss
  rw [e, List.length_take]
  have : four.length = 4 := rfl
  omega
theorem are_counts_ok (cr : List Int) (n : Nat) (hl : cr.length = n) (hs : n ≤ 100) (h : ∀ c ∈ cr, 0 ≤ c ∧ c ≤ 2) : fn_are_counts [.tup (cr.map D.int), .int n, .int 3] = .ok (.bl true) := by
  refine fn_ret rfl ?_
  rw [and_t rfl]
  have e1 : fOp dEq (fCB dLen (fCons (fVar 0) fNil)) (fVar 1) (allv (initE 4 [.tup (cr.map D.int), .int n, .int 3])) = .ok (.bl true) := by
    rw [op_ok (x := .int ((cr.map D.int).length : Nat)) (y := .int n) rfl rfl, eq_int, List.length_map, hl]
    simp
  rw [and_t e1]
  have e2 : fLc (fIter (fVar 0)) (gN 3) fYes (fCall fn_is_whole (fCons (fVar 3) (fCons (fC (.int 0)) (fCons (fVar 2) fNil)))) [3] (allv (initE 4 [.tup (cr.map D.int), .int n, .int 3])) = .ok (.lst ((cr.map D.int).map fun _ => D.bl true)) := by
    refine fLc_map (ds := cr.map D.int) rfl (by rw [List.length_map]; omega) (show 3 < 4 by decide) fun d hd => ?_
    obtain ⟨c, hc, rfl⟩ := List.mem_map.mp hd
    rw [call3 (x := .int c) (y := .int 0) (z := .int 3) rfl rfl rfl]
    exact is_whole_ok c 0 3 ⟨(h c hc).1, by have := (h c hc).2; omega⟩
  rw [cb1 e2]
  exact all_true _
theorem states_all {ss ts : List Str} {r : FW.Env} {i : Nat} {fi : FI} {v : FE} {vs : List Nat} (hfi : fi r = .ok (ts.map D.str)) (hl : ts.length ≤ 100) (hi : i < r.length) (hv : ∀ d, v ((wipeE r vs).set i (some d)) = .ok (.tup (ss.map D.str))) (hx : ∀ d, fVar i ((wipeE r vs).set i (some d)) = .ok d) (h : ∀ t ∈ ts, t ∈ ss) :
    fCB dAll (fCons (fLc fi (gN i) fYes (fCall fn_is_state (fCons v (fCons (fVar i) fNil))) vs) fNil) r = .ok (.bl true) := by
  have e2 : fLc fi (gN i) fYes (fCall fn_is_state (fCons v (fCons (fVar i) fNil))) vs r = .ok (.lst ((ts.map D.str).map fun _ => D.bl true)) := by
    refine fLc_map hfi (by rw [List.length_map]; omega) hi fun d hd => ?_
    obtain ⟨t, ht, rfl⟩ := List.mem_map.mp hd
    rw [call2 (hv _) (hx _), is_state_eq, decide_eq_true (h t ht)]
  rw [cb1 e2]
  exact all_true _
/-- a text of plain signs -/
def LayS (x : Str) : Prop := x.cps.all (· < 0x110000) = true
theorem lay_str {x : Str} (h : LayS x) : (D.str x).lay = true := by rw [D.lay]; exact h
theorem lays_strs : ∀ {ts : List Str}, (∀ t ∈ ts, LayS t) → D.lays (ts.map D.str) = true
  | [], _ => by rw [List.map_nil, D.lays]
  | t :: ts, h => by rw [List.map_cons, D.lays, lay_str (h t List.mem_cons_self), lays_strs fun x hx => h x (List.mem_cons_of_mem _ hx)]; rfl
theorem deps_strs : ∀ ts : List Str, D.deps (ts.map D.str) = 0
  | [] => by rw [List.map_nil, D.deps]
  | t :: ts => by rw [List.map_cons, D.deps, deps_strs ts, D.dep]; rfl
theorem four_lay {ss : List Str} (h : ∃ n, 2 ≤ n ∧ n ≤ 4 ∧ ss = four.take n) : ∀ s ∈ ss, LayS s := by
  obtain ⟨n, _, _, rfl⟩ := h
  intro s hs
  have hm : s ∈ four := List.mem_of_mem_take hs
  unfold four at hm
  simp only [List.mem_cons, List.not_mem_nil, or_false] at hm
  rcases hm with rfl | rfl | rfl | rfl <;> (unfold LayS; decide +kernel)
theorem lay_alone : (D.str "alone").lay = true := lay_str (by unfold LayS; decide +kernel)
theorem lay_meet : (D.str "meet").lay = true := lay_str (by unfold LayS; decide +kernel)
theorem lay_call : (D.str "call").lay = true := lay_str (by unfold LayS; decide +kernel)
theorem shp_tup {ds : List D} (h1 : D.lays ds = true) (h2 : D.deps ds ≤ 63) : (D.tup ds).shp = true := by
  unfold D.shp
  rw [D.lay, h1, D.dep, Bool.true_and]
  exact decide_eq_true (by omega)
theorem lays_cons {d : D} {ds : List D} (h1 : d.lay = true) (h2 : D.lays ds = true) : D.lays (d :: ds) = true := by rw [D.lays, h1, h2]; rfl
theorem lays_nil : D.lays [] = true := by rw [D.lays]
theorem deps_str {x : Str} {ds : List D} : D.deps (.str x :: ds) = D.deps ds := by rw [D.deps, D.dep, Nat.zero_max]
theorem deps_nil : D.deps [] = 0 := by rw [D.deps]
theorem PR.shp {ss : List Str} {r : PR} (hl : ∀ s ∈ ss, LayS s) (h : r.In ss) : r.d.shp = true := by
  have ly : ∀ {x : Str}, x ∈ ss → (D.str x).lay = true := fun hx => lay_str (hl _ hx)
  cases r with
  | alone a b =>
    obtain ⟨h1, h2⟩ := h
    exact shp_tup (lays_cons lay_alone (lays_cons (ly h1) (lays_cons (ly h2) lays_nil))) (by simp only [deps_str, deps_nil]; omega)
  | meet a b c d =>
    obtain ⟨h1, h2, h3, h4⟩ := h
    exact shp_tup (lays_cons lay_meet (lays_cons (ly h1) (lays_cons (ly h2) (lays_cons (ly h3) (lays_cons (ly h4) lays_nil))))) (by simp only [deps_str, deps_nil]; omega)
  | call a b ts =>
    obtain ⟨h1, h2, _, h4⟩ := h
    refine shp_tup (lays_cons lay_call (lays_cons (ly h1) (lays_cons (ly h2) (lays_cons ?_ lays_nil)))) ?_
    · rw [D.lay]; exact lays_strs fun t ht => hl t (h4 t ht)
    · simp only [deps_str]
      rw [D.deps, D.dep, deps_strs, deps_nil]
      decide
theorem eq_tup_nil {ds : List D} (h : (D.tup ds).shp = true) (hn : ds ≠ []) : dEq (.tup ds) (.tup []) = .ok (.bl false) := by
  unfold dEq
  have e : (D.tup []).shp = true := by decide +kernel
  rw [if_pos (show eqOk (.tup ds) (.tup []) = true from by unfold eqOk; rw [h, e]; rfl), D.eqv]
  cases ds with
  | nil => exact absurd rfl hn
  | cons d ds => simp [D.eqvs]
theorem ix_head {d : D} {ds : List D} : dIx (.tup (d :: ds)) (.int 0) = .ok d := by
  show (match L2.atI (d :: ds) ((0 : Nat) : Int) with | some d => Res.ok d | none => .bad) = _
  rw [L2.atI_nat (v := d) rfl]
theorem word_eq {r : FW.Env} {k : Nat} {w v : Str} {ds : List D} (h : fVar k r = .ok (.tup (.str w :: ds))) : fTest (fOp dEq (fOp dIx (fVar k) (fC (.int 0))) (fC (.str v))) r = .ok (w == v) := by
  refine test_ok ?_
  have e : fOp dIx (fVar k) (fC (.int 0)) r = .ok (.str w) := by rw [op_ok (y := .int 0) h rfl, ix_head]
  rw [op_ok (y := .str v) e rfl, eq_str]
theorem rule_first {ss : List Str} {w : Str} {ds : List D} (h : (D.tup (.str w :: ds)).shp = true) :
    fsIf (fOr (fNot (fTest (fIsi .tuple (fVar 1)))) (fOr (fTest (fOp dEq (fVar 1) (fTup fNil))) (fNot (fTest (fIsi .str (fOp dIx (fVar 1) (fC (.int 0)))))))) (fsRet (fC (.bl false))) fsSkip (initE 4 [.tup (ss.map D.str), .tup (.str w :: ds)]) = .ok (.nx (initE 4 [.tup (ss.map D.str), .tup (.str w :: ds)])) := by
  refine if_f ?_
  rw [or_f rfl]
  rw [or_f (test_ok (by rw [op_ok (x := .tup (.str w :: ds)) (y := .tup []) rfl rfl]; exact eq_tup_nil h (by simp)))]
  have e : fIsi .str (fOp dIx (fVar 1) (fC (.int 0))) (allv (initE 4 [.tup (ss.map D.str), .tup (.str w :: ds)])) = .ok (.bl true) := by
    unfold fIsi
    rw [op_ok (x := .tup (.str w :: ds)) (y := .int 0) rfl rfl, ix_head]
    rfl
  exact not_ok (test_ok e)
theorem is_rule_ok {ss : List Str} {r : PR} (hs : ss.length ≤ 50) (hl : ∀ s ∈ ss, LayS s) (h : r.In ss) : fn_is_rule [.tup (ss.map D.str), r.d] = .ok (.bl true) := by
  have sh := PR.shp hl h
  cases r with
  | alone a b =>
    refine fn_rt rfl ?_
    unfold fs_is_rule
    refine (seq_nx (rule_first sh)).trans ?_
    refine (seq_nx (r' := initE 4 [.tup (ss.map D.str), (PR.alone a b).d]) (if_f ((word_eq rfl).trans (by rfl)))).trans ?_
    refine (seq_nx (r' := [.val (.tup (ss.map D.str)), .val (PR.alone a b).d, .val (.int 3), .un]) rfl).trans ?_
    refine ret_ok ?_
    rw [and_t rfl]
    exact states_all (ts := [a, b]) rfl (show 2 ≤ 100 by decide) (show 3 < 4 by decide) (fun _ => rfl) (fun _ => rfl) (by simp [h.1, h.2])
  | meet a b c d =>
    refine fn_rt rfl ?_
    unfold fs_is_rule
    refine (seq_nx (rule_first sh)).trans ?_
    refine (seq_nx (r' := initE 4 [.tup (ss.map D.str), (PR.meet a b c d).d]) (if_f ((word_eq rfl).trans (by rfl)))).trans ?_
    refine (seq_nx (r' := [.val (.tup (ss.map D.str)), .val (PR.meet a b c d).d, .val (.int 5), .un]) rfl).trans ?_
    refine ret_ok ?_
    rw [and_t rfl]
    exact states_all (ts := [a, b, c, d]) rfl (show 4 ≤ 100 by decide) (show 3 < 4 by decide) (fun _ => rfl) (fun _ => rfl) (by simp [h.1, h.2.1, h.2.2.1, h.2.2.2])
  | call a b ts =>
    obtain ⟨h1, h2, h3, h4⟩ := h
    refine fn_rt rfl ?_
    unfold fs_is_rule
    refine (seq_nx (rule_first sh)).trans ?_
    refine seq_rt ((if_t ((word_eq rfl).trans (by rfl))).trans ?_)
    refine (seq_nx (r' := initE 4 [.tup (ss.map D.str), (PR.call a b ts).d]) (if_f ?_)).trans (ret_ok ?_)
    · rw [or_f (test_ok rfl), or_f rfl]
      refine test_ok ?_
      rw [op_ok (x := .int ((ts.map D.str).length : Nat)) (y := .int ((ss.map D.str).length : Nat)) rfl rfl, ne_int, List.length_map, List.length_map, h3]
      simp
    · refine states_all (ts := a :: b :: ts) ?_ (by simp only [List.length_cons]; omega) (show 3 < 4 by decide) (fun _ => rfl) (fun _ => rfl) (by
        intro t ht
        rcases List.mem_cons.mp ht with e | ht
        · rw [e]; exact h1
        · rcases List.mem_cons.mp ht with e | ht
          · rw [e]; exact h2
          · exact h4 t ht)
      show ((if ([D.str a, D.str b].length + (ts.map D.str).length ≤ 100000) then Res.ok (D.tup ([D.str a, D.str b] ++ ts.map D.str)) else .bad).bind dIter) = _
      rw [if_pos (by simp only [List.length_cons, List.length_nil, List.length_map]; omega)]
      rfl
end Lk06
namespace Lk06
open PySem FW
/-! ### distinct rules -/
def PR.key : PR → NestedKey
  | .alone a b => .tup [.text "alone", .text a, .text b]
  | .meet a b c d => .tup [.text "meet", .text a, .text b, .text c, .text d]
  | .call a b ts => .tup [.text "call", .text a, .text b, .tup (ts.map NestedKey.text)]
theorem keys_texts : ∀ ts : List Str, D.keys (ts.map D.str) = some (ts.map NestedKey.text)
  | [] => by rw [List.map_nil, D.keys]; rfl
  | t :: ts => by rw [List.map_cons, D.keys, keys_texts ts, D.key]; rfl
theorem PR.key_d (r : PR) : r.d.key = some r.key := by
  cases r with
  | alone a b => simp [PR.d, PR.key, D.key, D.keys]
  | meet a b c d => simp [PR.d, PR.key, D.key, D.keys]
  | call a b ts => simp [PR.d, PR.key, D.key, D.keys, keys_texts]
theorem keys_rules : ∀ rs : List PR, D.keys (rs.map PR.d) = some (rs.map PR.key)
  | [] => by rw [List.map_nil, D.keys]; rfl
  | r :: rs => by rw [List.map_cons, D.keys, keys_rules rs, PR.key_d]; rfl
theorem text_inj {ts us : List Str} (h : ts.map NestedKey.text = us.map NestedKey.text) : ts = us := by
  induction ts generalizing us with
  | nil => cases us with
    | nil => rfl
    | cons u us => cases h
  | cons t ts ih => cases us with
    | nil => cases h
    | cons u us =>
      rw [List.map_cons, List.map_cons] at h
      injection h with h1 h2
      injection h1 with h1
      rw [h1, ih h2]
theorem PR.key_inj : ∀ {r s : PR}, r.key = s.key → r = s
  | .alone a b, .alone c d, h => by
    injection h with h
    injection h with _ h
    injection h with h1 h
    injection h with h2 _
    injection h1 with h1
    injection h2 with h2
    rw [h1, h2]
  | .meet a b c d, .meet a2 b2 c2 d2, h => by
    injection h with h
    injection h with _ h
    injection h with h1 h
    injection h with h2 h
    injection h with h3 h
    injection h with h4 _
    injection h1 with h1
    injection h2 with h2
    injection h3 with h3
    injection h4 with h4
    rw [h1, h2, h3, h4]
  | .call a b ts, .call c d us, h => by
    injection h with h
    injection h with _ h
    injection h with h1 h
    injection h with h2 h
    injection h with h3 _
    injection h1 with h1
    injection h2 with h2
    injection h3 with h3
    rw [h1, h2, text_inj h3]
  | .alone a b, .meet c d e f, h => by
    injection h with h
    injection h with h _
    injection h with h
    exact absurd h (by decide +kernel)
  | .alone a b, .call c d e, h => by
    injection h with h
    injection h with h _
    injection h with h
    exact absurd h (by decide +kernel)
  | .meet a b c d, .alone e f, h => by
    injection h with h
    injection h with h _
    injection h with h
    exact absurd h (by decide +kernel)
  | .meet a b c d, .call e f g, h => by
    injection h with h
    injection h with h _
    injection h with h
    exact absurd h (by decide +kernel)
  | .call a b c, .alone e f, h => by
    injection h with h
    injection h with h _
    injection h with h
    exact absurd h (by decide +kernel)
  | .call a b c, .meet e f g i, h => by
    injection h with h
    injection h with h _
    injection h with h
    exact absurd h (by decide +kernel)
theorem count_nodup : ∀ {ks : List NestedKey}, ks.Nodup → countK ks = ks.length
  | [], _ => rfl
  | k :: ks, h => by
    obtain ⟨h1, h2⟩ := List.nodup_cons.mp h
    unfold countK
    rw [if_neg (fun z => h1 (any_beq.mp z)), count_nodup h2, List.length_cons]
theorem nodup_keys {rs : List PR} (h : rs.Nodup) : (rs.map PR.key).Nodup := by
  induction rs with
  | nil => exact List.nodup_nil
  | cons r rs ih =>
    obtain ⟨h1, h2⟩ := List.nodup_cons.mp h
    rw [List.map_cons]
    refine List.nodup_cons.mpr ⟨fun hm => ?_, ih h2⟩
    obtain ⟨s, hs, e⟩ := List.mem_map.mp hm
    rw [← PR.key_inj e] at h1
    exact h1 hs
theorem depth_texts : ∀ ts : List Str, NestedKey.depthAll (ts.map NestedKey.text) = 0
  | [] => by rw [List.map_nil, NestedKey.depthAll]
  | t :: ts => by rw [List.map_cons, NestedKey.depthAll, depth_texts ts, NestedKey.depth]; rfl
theorem PR.depth (r : PR) : r.key.depth ≤ 2 := by
  cases r with
  | alone a b => simp [PR.key, NestedKey.depth, NestedKey.depthAll]
  | meet a b c d => simp [PR.key, NestedKey.depth, NestedKey.depthAll]
  | call a b ts => simp [PR.key, NestedKey.depth, NestedKey.depthAll, depth_texts]
theorem depth_rules : ∀ rs : List PR, NestedKey.depthAll (rs.map PR.key) ≤ 2
  | [] => by rw [List.map_nil, NestedKey.depthAll]; decide
  | r :: rs => by
    rw [List.map_cons, NestedKey.depthAll]
    have := PR.depth r
    have := depth_rules rs
    omega
theorem PR.isT (r : PR) : r.d.isT = true := by cases r <;> rfl
theorem lenset_rules {rs : List PR} (hn : rs.Nodup) (hl : rs.length < 64) : dLenSet (.tup (rs.map PR.d)) = .ok (.int rs.length) := by
  have hall : (rs.map PR.d).all D.isT = true := List.all_eq_true.mpr fun d hd => by
    obtain ⟨r, _, rfl⟩ := List.mem_map.mp hd
    exact PR.isT r
  unfold dLenSet
  dsimp only
  rw [keys_rules]
  dsimp only
  rw [if_pos ⟨hall, by rw [List.length_map]; exact hl, Nat.le_trans (depth_rules rs) (by decide)⟩, count_nodup (nodup_keys hn), List.length_map]
/-! ### a drawn talk is a talk -/
theorem is_talk_ok {m : Nat} {t : PTk} (h : t.Ok m) (hm : m ≤ 12) : fn_is_talk [t.d] = .ok (.bl true) := by
  have hs := h.len
  have hly := four_lay h.ss
  refine fn_rt rfl ?_
  unfold fs_is_talk
  refine (seq_nx (r' := initE 6 [t.d]) (if_f ?_)).trans ?_
  · rw [or_f rfl, or_f rfl]
    refine not_ok (b := true) (test_ok ?_)
    rw [call1 (x := .tup (t.ss.map D.str)) rfl]
    exact are_states_ok h.ss
  refine (seq_nx (r' := [.val t.d, .val (.tup (t.ss.map D.str)), .val (.str t.home), .val (.tup (t.crew.map D.int)), .val (.tup (t.rules.map PR.d)), .un]) rfl).trans ?_
  refine (seq_nx (r' := [.val t.d, .val (.tup (t.ss.map D.str)), .val (.str t.home), .val (.tup (t.crew.map D.int)), .val (.tup (t.rules.map PR.d)), .un]) (if_f ?_)).trans ?_
  · have e1 : fTest (fCall fn_is_state (fCons (fVar 1) (fCons (fVar 2) fNil))) (allv [.val t.d, .val (.tup (t.ss.map D.str)), .val (.str t.home), .val (.tup (t.crew.map D.int)), .val (.tup (t.rules.map PR.d)), .un]) = .ok true := by
      refine test_ok ?_
      rw [call2 (x := .tup (t.ss.map D.str)) (y := .str t.home) rfl rfl, is_state_eq, decide_eq_true h.home]
    rw [or_f (not_ok e1)]
    refine not_ok (b := true) (test_ok ?_)
    rw [call3 (x := .tup (t.crew.map D.int)) (y := .int ((t.ss.map D.str).length : Nat)) (z := .int 3) rfl rfl rfl, List.length_map]
    exact are_counts_ok t.crew _ h.crew.1 (by omega) h.crew.2
  refine (seq_nx (r' := [.val t.d, .val (.tup (t.ss.map D.str)), .val (.str t.home), .val (.tup (t.crew.map D.int)), .val (.tup (t.rules.map PR.d)), .un]) (if_f ?_)).trans ?_
  · have hf := h.few
    have e1 : fTest (fOp dGt (fCB dLen (fCons (fVar 4) fNil)) (fC (.int 12))) (allv [.val t.d, .val (.tup (t.ss.map D.str)), .val (.str t.home), .val (.tup (t.crew.map D.int)), .val (.tup (t.rules.map PR.d)), .un]) = .ok false := by
      refine test_ok ?_
      rw [op_ok (x := .int ((t.rules.map PR.d).length : Nat)) (y := .int 12) rfl rfl, List.length_map]
      show Res.ok (D.bl (decide ((12 : Int) < (t.rules.length : Nat)))) = _
      rw [decide_eq_false (by omega)]
    rw [or_f rfl, or_f e1]
    refine not_ok (b := true) (test_ok ?_)
    have e2 : fLc (fIter (fVar 4)) (gN 5) fYes (fCall fn_is_rule (fCons (fVar 1) (fCons (fVar 5) fNil))) [5] (allv [.val t.d, .val (.tup (t.ss.map D.str)), .val (.str t.home), .val (.tup (t.crew.map D.int)), .val (.tup (t.rules.map PR.d)), .un]) = .ok (.lst ((t.rules.map PR.d).map fun _ => D.bl true)) := by
      refine fLc_map (ds := t.rules.map PR.d) rfl (by rw [List.length_map]; omega) (show 5 < 6 by decide) fun d hd => ?_
      obtain ⟨r, hr, rfl⟩ := List.mem_map.mp hd
      rw [call2 (x := .tup (t.ss.map D.str)) (y := r.d) rfl rfl]
      exact is_rule_ok (by omega) hly (h.inn r hr)
    rw [cb1 e2]
    exact all_true _
  refine ret_ok ?_
  have hf := h.few
  have e1 : fLenSet (fVar 4) (allv [.val t.d, .val (.tup (t.ss.map D.str)), .val (.str t.home), .val (.tup (t.crew.map D.int)), .val (.tup (t.rules.map PR.d)), .un]) = .ok (.int t.rules.length) := lenset_rules h.dis (by omega)
  rw [op_ok (y := .int ((t.rules.map PR.d).length : Nat)) e1 rfl, eq_int, List.length_map]
  simp
theorem need_talk_ok {m : Nat} {t : PTk} (h : t.Ok m) (hm : m ≤ 12) : fn_need_talk [t.d] = .ok .non := by
  refine fn_nx (r' := initE 1 [t.d]) rfl ?_
  refine if_f (not_ok (b := true) (test_ok ?_))
  rw [call1 (x := t.d) rfl]
  exact is_talk_ok h hm
end Lk06
namespace Lk06
open PySem FW
/-! ### drawn rules -/
theorem any_rule_ok {ss : List Str} {act : Int} {Q : D → Prop} {Z : Str → Prop} (ha : 0 ≤ act) (hn : ss ≠ []) (hl : ss.length ≤ 100) (q : ∀ r : PR, r.In ss → Q r.d) : fn_Lany_rule [.dice, .lst (ss.map D.str), .int act] Q Z := by
  have hn' : ss.map D.str ≠ [] := fun e => hn (List.map_eq_nil_iff.mp e)
  have hl' : (ss.map D.str).length ≤ 1000 := by rw [List.length_map]; omega
  have hp : ∀ d ∈ ss.map D.str, ∃ s ∈ ss, d = .str s := fun d hd => by
    obtain ⟨s, hs, e⟩ := List.mem_map.mp hd
    exact ⟨s, hs, e.symm⟩
  refine ⟨rfl, show 3 < 5 by decide, show (4 : Nat) ≤ 100000 by decide, ?_⟩
  refine lcW_all (P := fun d => ∃ s ∈ ss, d = .str s) (show 4 < 5 by decide) _ (fun d _ Q' h => ?_) fun ys hy hP => ?_
  · exact ixroll_ok (xs := ss.map D.str) (P := fun d => ∃ s ∈ ss, d = .str s) rfl rfl hn' hl' hp h
  obtain ⟨y1, y2, y3, y4, rfl⟩ : ∃ y1 y2 y3 y4, ys = [y1, y2, y3, y4] := by
    match ys, hy with
    | [y1, y2, y3, y4], _ => exact ⟨y1, y2, y3, y4, rfl⟩
  obtain ⟨a, ha1, rfl⟩ := hP y1 (by simp)
  obtain ⟨b, hb1, rfl⟩ := hP y2 (by simp)
  obtain ⟨c, hc1, rfl⟩ := hP y3 (by simp)
  obtain ⟨d, hd1, rfl⟩ := hP y4 (by simp)
  dsimp only
  rw [show List.set (initE 5 [D.dice, D.lst (ss.map D.str), D.int act]) 3 (Sl.val (D.lst [D.str a, D.str b, D.str c, D.str d])) = [.val .dice, .val (.lst (ss.map D.str)), .val (.int act), .val (.lst [.str a, .str b, .str c, .str d]), .un] from rfl]
  have t3 : ∀ {n : Int} {b1 : Bool}, decide (act < n) = b1 → fTest (fOp dLt (fVar 2) (fC (.int n))) (allv [.val .dice, .val (.lst (ss.map D.str)), .val (.int act), .val (.lst [.str a, .str b, .str c, .str d]), .un]) = .ok b1 := fun {n b1} e => by rw [← e]; rfl
  by_cases c1 : act < 3
  · exact run_seq <| run_if_t (t3 (decide_eq_true c1)) (run_retF (d := (PR.alone a b).d) rfl (q (.alone a b) ⟨ha1, hb1⟩))
  refine run_guard (t3 (decide_eq_false c1)) ?_
  by_cases c2 : act < 7
  · exact run_seq <| run_if_t (t3 (decide_eq_true c2)) (run_retF (d := (PR.meet a b c d).d) rfl (q (.meet a b c d) ⟨ha1, hb1, hc1, hd1⟩))
  refine run_guard (t3 (decide_eq_false c2)) (run_ret ?_)
  refine wtup (waF (d := .str "call") rfl (waF (d := .str a) rfl (waF (d := .str b) rfl (waW (wcb (waW ?_))))))
  refine wlc (wi := wiOf (fIter (fVar 1))) (ds := ss.map D.str) rfl (by omega) ?_
  refine lcW_all (P := fun d => ∃ s ∈ ss, d = .str s) (show 4 < 5 by decide) _ (fun d _ Q' h => ?_) fun zs hz hP2 => ?_
  · exact ixroll_ok (xs := ss.map D.str) (P := fun d => ∃ s ∈ ss, d = .str s) rfl rfl hn' hl' hp h
  obtain ⟨ts, et, hts⟩ : ∃ ts : List Str, zs = ts.map D.str ∧ ∀ t ∈ ts, t ∈ ss := by
    clear hz
    induction zs with
    | nil => exact ⟨[], rfl, fun t ht => by cases ht⟩
    | cons z zs ih =>
      obtain ⟨ts, e, h⟩ := ih fun y hy => hP2 y (List.mem_cons_of_mem _ hy)
      obtain ⟨s, hs, es⟩ := hP2 z List.mem_cons_self
      refine ⟨s :: ts, by rw [e, es]; rfl, fun t ht => ?_⟩
      rcases List.mem_cons.mp ht with e | ht
      · rw [e]; exact hs
      · exact h t ht
  subst et
  rw [List.length_map, List.length_map] at hz
  exact q (.call a b ts) ⟨ha1, hb1, hz, hts⟩
end Lk06
namespace Lk06
open PySem FW
/-! ### drawn talks -/
theorem eqvs_texts : ∀ ts us : List Str, D.eqvs (ts.map D.str) (us.map D.str) = decide (ts = us)
  | [], [] => by rw [List.map_nil, D.eqvs]; rfl
  | [], u :: us => by simp [D.eqvs]
  | t :: ts, [] => by simp [D.eqvs]
  | t :: ts, u :: us => by
    rw [List.map_cons, List.map_cons, D.eqvs, D.eqv, eqvs_texts ts us]
    by_cases e : t = u
    · subst e; simp
    · have : (t == u) = false := by simpa using e
      rw [this, Bool.false_and]
      exact (decide_eq_false fun h => e (by injection h)).symm
theorem ne_words : ((("alone" : Str) == "meet") = false ∧ (("alone" : Str) == "call") = false ∧ (("meet" : Str) == "alone") = false) ∧ ((("meet" : Str) == "call") = false ∧ (("call" : Str) == "alone") = false ∧ (("call" : Str) == "meet") = false) := by decide +kernel
theorem PR.eqv (r s : PR) : D.eqv r.d s.d = decide (r = s) := by
  obtain ⟨⟨n1, n2, n3⟩, n4, n5, n6⟩ := ne_words
  have bs : ∀ x y : Str, D.eqv (.str x) (.str y) = (x == y) := fun x y => by rw [D.eqv]
  cases r <;> cases s <;> simp only [PR.d, D.eqv, D.eqvs, n1, n2, n3, n4, n5, n6, Bool.false_and, eqvs_texts, PR.alone.injEq, PR.meet.injEq, PR.call.injEq, reduceCtorEq, decide_false, beq_self_eq_true, Bool.true_and, Bool.and_true] <;> first
    | rfl
    | (rw [Bool.eq_iff_iff]; simp)
theorem any_rules (r : PR) : ∀ rs : List PR, D.any r.d (rs.map PR.d) = decide (r ∈ rs)
  | [] => rfl
  | s :: rs => by
    have ih := any_rules r rs
    unfold D.any at ih ⊢
    rw [List.map_cons, List.any_cons, ih, PR.eqv]
    by_cases e : s = r
    · subst e; simp
    · rw [decide_eq_false e, Bool.false_or]
      exact decide_eq_decide.mpr ⟨fun h => List.mem_cons_of_mem _ h, fun h => (List.mem_cons.mp h).elim (fun z => absurd z.symm e) id⟩
theorem lays_rules {ss : List Str} (hl : ∀ s ∈ ss, LayS s) : ∀ {rs : List PR}, (∀ r ∈ rs, r.In ss) → D.lays (rs.map PR.d) = true
  | [], _ => by rw [List.map_nil, D.lays]
  | r :: rs, h => by
    rw [List.map_cons]
    refine lays_cons ?_ (lays_rules hl fun x hx => h x (List.mem_cons_of_mem _ hx))
    have := PR.shp hl (h r List.mem_cons_self)
    unfold D.shp at this
    exact (Bool.and_eq_true_iff.mp this).1
theorem PR.dep (r : PR) : r.d.dep ≤ 2 := by
  cases r with
  | alone a b => simp [PR.d, D.dep, D.deps]
  | meet a b c d => simp [PR.d, D.dep, D.deps]
  | call a b ts => simp [PR.d, D.dep, D.deps, deps_strs]
theorem deps_rules : ∀ rs : List PR, D.deps (rs.map PR.d) ≤ 2
  | [] => by rw [List.map_nil, D.deps]; decide
  | r :: rs => by
    rw [List.map_cons, D.deps]
    have := PR.dep r
    have := deps_rules rs
    omega
theorem notin_rules {ss : List Str} (hl : ∀ s ∈ ss, LayS s) {r : PR} {rs : List PR} (h : r.In ss) (hs : ∀ r ∈ rs, r.In ss) : dNotIn r.d (.lst (rs.map PR.d)) = .ok (.bl (!decide (r ∈ rs))) := by
  have s1 := PR.shp hl h
  have s2 : (D.lst (rs.map PR.d)).shp = true := by
    unfold D.shp
    rw [D.lay, lays_rules hl hs, D.dep, Bool.true_and]
    have := deps_rules rs
    exact decide_eq_true (by omega)
  unfold dNotIn inD
  show (match (if (_ || (r.d.shp && (D.lst (rs.map PR.d)).shp)) = true then some (D.any r.d (rs.map PR.d)) else none) with | some b => Res.ok (D.bl (!b)) | none => Res.bad) = _
  rw [s1, s2, Bool.and_self, Bool.or_true, if_pos rfl, any_rules]
end Lk06
namespace Lk06
open PySem FW
theorem cut_four {x : Int} (h0 : 0 ≤ x) (h1 : x < 3) : ∃ n, 2 ≤ n ∧ n ≤ 4 ∧ dCut (.lst (four.map D.str)) none (some (2 + x)) = .ok (.lst ((four.take n).map D.str)) := by
  have : x = 0 ∨ x = 1 ∨ x = 2 := by omega
  rcases this with rfl | rfl | rfl
  · exact ⟨2, by decide, by decide, rfl⟩
  · exact ⟨3, by decide, by decide, rfl⟩
  · exact ⟨4, by decide, by decide, rfl⟩
theorem PR.word (r : PR) : ∃ w ds, r.d = .tup (.str w :: ds) := by
  cases r with
  | alone a b => exact ⟨_, _, rfl⟩
  | meet a b c d => exact ⟨_, _, rfl⟩
  | call a b ts => exact ⟨_, _, rfl⟩
abbrev envT (m : Nat) (ss : List Str) (rs : List PR) (c : Int) (s5 s6 : Sl) : Env2 := [.val .dice, .val (.int m), .val (.lst (ss.map D.str)), .own (.lst (rs.map PR.d)), .val (.int c), s5, s6, .un, .un]
theorem any_talk_ok {m : Nat} {Q : D → Prop} {Z : Str → Prop} (hm : m ≤ 12) (q : ∀ t : PTk, t.Ok m → Q t.d) : fn_Lany_talk [.dice, .int m] Q Z := by
  refine ⟨rfl, run_seq (run_set (show 2 < 9 by decide) ?_)⟩
  refine wcutTo (x := .lst (four.map D.str)) rfl (wopF (x := .int 2) rfl (roll_ok (m := 3) rfl (by decide) fun x h0 h1 => ⟨2 + x, rfl, ?_⟩))
  obtain ⟨n, n1, n2, en⟩ := cut_four h0 h1
  show resW (dCut (.lst (four.map D.str)) none (some (2 + x))) _ _
  rw [en]
  generalize hss : four.take n = ss
  have hS : ∃ n, 2 ≤ n ∧ n ≤ 4 ∧ ss = four.take n := ⟨n, n1, n2, hss.symm⟩
  have hly := four_lay hS
  have hlen : 2 ≤ ss.length ∧ ss.length ≤ 4 := by
    rw [← hss, List.length_take]
    have : four.length = 4 := rfl
    omega
  have hne : ss ≠ [] := fun e => by rw [e] at hlen; exact absurd hlen.1 (by decide)
  refine run_seq (run_parOV (ds := []) (e2 := .int 0) (show 3 < 9 by decide) (show 4 < 9 by decide) rfl rfl ?_)
  dsimp only
  refine run_seq (run_forW ?_)
  refine waW (roll_ok (m := (m : Int) + 1) rfl ⟨by omega, Int.lt_of_le_of_lt (by omega : (m : Int) + 1 ≤ 13) (by decide)⟩ fun y y0 y1 => waN ?_)
  show resW (if y ≤ 1000000 ∧ -1000000 ≤ y then Res.ok (upto 0 y.toNat) else .bad) _ _
  rw [if_pos ⟨by omega, by omega⟩]
  refine for_inv (fun ds r => ∃ rs c s5 s6, r = envT m ss rs c s5 s6 ∧ rs.length + ds.length ≤ m ∧ (∀ r ∈ rs, r.In ss) ∧ rs.Nodup) ?_ ?_ _ _ ⟨[], 0, .un, .un, rfl, by simp [upto]; omega, fun r hr => (by cases hr), List.nodup_nil⟩
  · rintro r ⟨rs, c, s5, s6, rfl, hl, hin, hnd⟩
    dsimp only
    refine run_seq (run_set (show 7 < 9 by decide) (wcb (waW ?_)))
    refine wlc (wi := wiOf (fIter (fVar 2))) (ds := ss.map D.str) rfl (by rw [List.length_map]; omega) ?_
    refine lcW_all (P := fun d => ∃ c : Int, d = .int c ∧ 0 ≤ c ∧ c ≤ 2) (show 8 < 9 by decide) _ (fun d _ Q' h => ?_) fun ys hy hP => ?_
    · refine ixroll_ok (xs := [.int 0, .int 0, .int 1, .int 2]) (P := fun d => ∃ c : Int, d = .int c ∧ 0 ≤ c ∧ c ≤ 2) rfl rfl (by simp) (show 4 ≤ 1000 by decide) (fun d hd => ?_) h
      simp only [List.mem_cons, List.not_mem_nil, or_false] at hd
      rcases hd with rfl | rfl | rfl | rfl <;> exact ⟨_, rfl, by decide, by decide⟩
    obtain ⟨cr, ec, hcr⟩ : ∃ cr : List Int, ys = cr.map D.int ∧ ∀ c ∈ cr, 0 ≤ c ∧ c ≤ 2 := by
      clear hy
      induction ys with
      | nil => exact ⟨[], rfl, fun c hc => by cases hc⟩
      | cons y ys ih =>
        obtain ⟨cr, e, h⟩ := ih fun z hz => hP z (List.mem_cons_of_mem _ hz)
        obtain ⟨c, ec, hc⟩ := hP y List.mem_cons_self
        refine ⟨c :: cr, by rw [e, ec]; rfl, fun z hz => ?_⟩
        rcases List.mem_cons.mp hz with e | hz
        · rw [e]; exact hc
        · exact h z hz
    subst ec
    rw [List.length_map, List.length_map] at hy
    refine waN ?_
    show Kt.nx _ _
    dsimp only
    refine run_ret (wtup (waF (d := .tup (ss.map D.str)) rfl (waW ?_)))
    refine ixroll_ok (xs := ss.map D.str) (P := fun d => ∃ s ∈ ss, d = .str s) rfl rfl (fun e => hne (List.map_eq_nil_iff.mp e)) (by rw [List.length_map]; omega) (fun d hd => ?_) fun d hd => ?_
    · obtain ⟨s, hs, e⟩ := List.mem_map.mp hd
      exact ⟨s, hs, e.symm⟩
    obtain ⟨s, hs, rfl⟩ := hd
    refine waF (d := .tup (cr.map D.int)) rfl (waF (d := .tup (rs.map PR.d)) rfl (waN ?_))
    exact q ⟨ss, s, cr, rs⟩ ⟨hS, hs, ⟨hy, hcr⟩, hin, by have : rs.length + ([] : List D).length ≤ m := hl; simpa using this, hnd⟩
  · rintro d ds r ⟨rs, c, s5, s6, rfl, hl, hin, hnd⟩
    refine ⟨envT m ss rs c (.val d) s6, rfl, ?_⟩
    refine run_seq (run_set (show 6 < 9 by decide) ?_)
    refine wcall (waF (d := .dice) rfl (waF (d := .lst (ss.map D.str)) rfl (waW (roll_ok (m := 8) rfl (by decide) fun z z0 z1 => waN ?_))))
    refine any_rule_ok z0 hne (by omega) fun r hr => ?_
    dsimp only
    rw [show List.set (envT m ss rs c (.val d) s6) 6 (Sl.val r.d) = envT m ss rs c (.val d) (.val r.d) from rfl]
    have hl2 : rs.length + ds.length + 1 ≤ m := by rw [List.length_cons] at hl; omega
    have e1 : ∀ {b : Bool}, (!decide (r ∈ rs)) = b → fTest (fOp dNotIn (fVar 6) (fVar 3)) (allv (envT m ss rs c (.val d) (.val r.d))) = .ok b := fun {b} e => by
      refine test_ok ?_
      rw [op_ok (x := r.d) (y := .lst (rs.map PR.d)) rfl rfl, notin_rules hly hr hin, e]
    by_cases hmem : r ∈ rs
    · refine run_if_f (andT_f (e1 (by simp [hmem]))) ?_
      exact ⟨rs, c, .val d, .val r.d, rfl, by omega, hin, hnd⟩
    obtain ⟨wd, dd, ew⟩ := r.word
    have hw : fVar 6 (allv (envT m ss rs c (.val d) (.val r.d))) = .ok (.tup (.str wd :: dd)) := by rw [← ew]; rfl
    have hx : fOp dIx (fVar 6) (fC (.int 0)) (allv (envT m ss rs c (.val d) (.val r.d))) = .ok (.str wd) := by rw [op_ok (y := .int 0) hw rfl, ix_head]
    have stay : ∃ rs' c' s5 s6, envT m ss rs c (.val d) (.val r.d) = envT m ss rs' c' s5 s6 ∧ rs'.length + ds.length ≤ m ∧ (∀ r ∈ rs', r.In ss) ∧ rs'.Nodup := ⟨rs, c, .val d, .val r.d, rfl, by omega, hin, hnd⟩
    have more : ∀ c' : Int, ∃ rs' c2 s5 s6, envT m ss (rs ++ [r]) c' (.val d) (.val r.d) = envT m ss rs' c2 s5 s6 ∧ rs'.length + ds.length ≤ m ∧ (∀ r ∈ rs', r.In ss) ∧ rs'.Nodup := fun c' => by
      refine ⟨rs ++ [r], c', .val d, .val r.d, rfl, by rw [List.length_append, List.length_singleton]; omega, fun x hx => ?_, nodup_snoc hnd hmem⟩
      rcases List.mem_append.mp hx with z | z
      · exact hin x z
      · rw [List.mem_singleton.mp z]; exact hr
    have body : ∀ k : Kt, (∀ c' : Int, k.nx (envT m ss (rs ++ [r]) c' (.val d) (.val r.d))) → (wsSeq (wsApp 3 (wOf (fVar 6))) (wsSet 4 (wOf (fOp dAdd (fVar 4) (fCB dInt (fCons (fOp dEq (fOp dIx (fVar 6) (fC (.int 0))) (fC (.str "call"))) fNil)))))).run (envT m ss rs c (.val d) (.val r.d)) k := fun k hk => by
      refine run_seq (run_appF (ds := rs.map PR.d) (d := r.d) rfl (by rw [List.length_map]; omega) rfl ?_)
      dsimp only
      rw [show List.set (envT m ss rs c (.val d) (.val r.d)) 3 (Sl.own (D.lst (rs.map PR.d ++ [r.d]))) = envT m ss (rs ++ [r]) c (.val d) (.val r.d) from by rw [show rs.map PR.d ++ [r.d] = (rs ++ [r]).map PR.d from by rw [List.map_append]; rfl]; rfl]
      have hw2 : fVar 6 (plain (envT m ss (rs ++ [r]) c (.val d) (.val r.d))) = .ok (.tup (.str wd :: dd)) := by rw [← ew]; rfl
      have hx2 : fOp dIx (fVar 6) (fC (.int 0)) (plain (envT m ss (rs ++ [r]) c (.val d) (.val r.d))) = .ok (.str wd) := by rw [op_ok (y := .int 0) hw2 rfl, ix_head]
      have hq : fOp dEq (fOp dIx (fVar 6) (fC (.int 0))) (fC (.str "call")) (plain (envT m ss (rs ++ [r]) c (.val d) (.val r.d))) = .ok (.bl (wd == "call")) := by rw [op_ok (y := .str "call") hx2 rfl, eq_str]
      refine run_setF (d := .int (c + (if (wd == "call") = true then 1 else 0))) (show 4 < 9 by decide) ?_ (hk _)
      have hi : fCB dInt (fCons (fOp dEq (fOp dIx (fVar 6) (fC (.int 0))) (fC (.str "call"))) fNil) (plain (envT m ss (rs ++ [r]) c (.val d) (.val r.d))) = .ok (.int (if (wd == "call") = true then 1 else 0)) := by rw [cb1 hq]; rfl
      rw [op_ok (x := .int c) rfl hi]
      rfl
    have t2 : fTest (fOp dNe (fOp dIx (fVar 6) (fC (.int 0))) (fC (.str "call"))) (allv (envT m ss rs c (.val d) (.val r.d))) = .ok (!(wd == "call")) := by
      refine test_ok ?_
      rw [op_ok (y := .str "call") hx rfl, ne_str]
    have t3 : fTest (fOp dEq (fVar 4) (fC (.int 0))) (allv (envT m ss rs c (.val d) (.val r.d))) = .ok (c == 0) := by
      refine test_ok ?_
      rw [op_ok (x := .int c) (y := .int 0) rfl rfl, eq_int]
    have t1 := e1 (b := true) (by simp [hmem])
    cases hb : (wd == "call") with
    | false =>
      rw [hb] at t2
      exact run_if_t (by rw [andT_t t1, or_t t2]) (body _ more)
    | true =>
      rw [hb] at t2
      cases hc : (c == 0) with
      | true =>
        rw [hc] at t3
        exact run_if_t (by rw [andT_t t1, or_f t2, t3]) (body _ more)
      | false =>
        rw [hc] at t3
        exact run_if_f (by rw [andT_t t1, or_f t2, t3]) stay
end Lk06
namespace Lk06
open PySem FW
/-! ### numbers, counts, standings -/
def isW (lo hi : Int) : D → Bool
  | .int i => decide (lo ≤ i) && decide (i ≤ hi)
  | _ => false
theorem is_whole_eq (d : D) (lo hi : Int) : fn_is_whole [d, .int lo, .int hi] = .ok (.bl (isW lo hi d)) := by
  refine fn_ret rfl ?_
  cases d with
  | int i =>
    rw [and_t rfl, and_t rfl]
    show ((dLe (.int lo) (.int i)).bind fun z => (match z with | .bl true => dLe (.int i) (.int hi) | .bl false => .ok (.bl false) | _ => .bad)) = _
    show (match (D.bl (decide (lo ≤ i))) with | .bl true => dLe (.int i) (.int hi) | .bl false => .ok (.bl false) | _ => .bad) = _
    show _ = Res.ok (D.bl (decide (lo ≤ i) && decide (i ≤ hi)))
    by_cases h : lo ≤ i
    · rw [decide_eq_true h]; rfl
    · rw [decide_eq_false h]; rfl
  | bl b => rw [and_t rfl, and_f rfl]; rfl
  | non => rw [and_f rfl]; rfl
  | str x => rw [and_f rfl]; rfl
  | tup x => rw [and_f rfl]; rfl
  | lst x => rw [and_f rfl]; rfl
  | dct x => rw [and_f rfl]; rfl
  | dice => rw [and_f rfl]; rfl
  | par x => rw [and_f rfl]; rfl
  | dtt x => rw [and_f rfl]; rfl
  | dtf x => rw [and_f rfl]; rfl
/-- a thing that a law hands in: no half-made pair -/
def D.fine : D → Bool
  | .par _ => false
  | .tup ds => decide (ds.length ≤ 100000)
  | _ => true
def cntB (n : Nat) (hi : Int) : D → Bool
  | .tup ds => decide (ds.length = n) && ds.all (isW 0 hi)
  | _ => false
theorem are_counts_eq (d : D) (n : Nat) (hi : Int) (hf : D.fine d = true) : fn_are_counts [d, .int n, .int hi] = .ok (.bl (cntB n hi d)) := by
  refine fn_ret rfl ?_
  cases d with
  | tup ds =>
    rw [and_t rfl]
    have e1 : fOp dEq (fCB dLen (fCons (fVar 0) fNil)) (fVar 1) (allv (initE 4 [.tup ds, .int n, .int hi])) = .ok (.bl (decide (ds.length = n))) := by
      rw [op_ok (x := .int (ds.length : Nat)) (y := .int n) rfl rfl, eq_int]
      by_cases h : ds.length = n
      · rw [h]; simp
      · have : ((ds.length : Nat) : Int) ≠ n := fun z => h (by omega)
        rw [decide_eq_false h, beq_eq_false_iff_ne.mpr this]
    show _ = Res.ok (D.bl (decide (ds.length = n) && ds.all (isW 0 hi)))
    by_cases h : ds.length = n
    · rw [decide_eq_true h] at e1
      rw [and_t e1, decide_eq_true h, Bool.true_and]
      have e2 : fLc (fIter (fVar 0)) (gN 3) fYes (fCall fn_is_whole (fCons (fVar 3) (fCons (fC (.int 0)) (fCons (fVar 2) fNil)))) [3] (allv (initE 4 [.tup ds, .int n, .int hi])) = .ok (.lst (ds.map fun d => D.bl (isW 0 hi d))) := by
        refine fLc_map (ds := ds) rfl (of_decide_eq_true hf) (show 3 < 4 by decide) fun d hd => ?_
        rw [call3 (x := d) (y := .int 0) (z := .int hi) rfl rfl rfl]
        exact is_whole_eq d 0 hi
      rw [cb1 e2]
      exact all_eq ds _
    · rw [decide_eq_false h] at e1
      rw [and_f e1, decide_eq_false h]; rfl
  | par x => cases hf
  | int i => rw [and_f rfl]; rfl
  | bl b => rw [and_f rfl]; rfl
  | non => rw [and_f rfl]; rfl
  | str x => rw [and_f rfl]; rfl
  | lst x => rw [and_f rfl]; rfl
  | dct x => rw [and_f rfl]; rfl
  | dice => rw [and_f rfl]; rfl
  | dtt x => rw [and_f rfl]; rfl
  | dtf x => rw [and_f rfl]; rfl
theorem cnt_ints {n : Nat} {hi : Int} {xs : List Int} (hl : xs.length = n) (h : ∀ x ∈ xs, 0 ≤ x ∧ x ≤ hi) : cntB n hi (tupI xs) = true := by
  show (decide ((xs.map D.int).length = n) && (xs.map D.int).all (isW 0 hi)) = true
  rw [List.length_map, decide_eq_true hl, Bool.true_and, List.all_map]
  exact List.all_eq_true.mpr fun x hx => by
    show (decide (0 ≤ x) && decide (x ≤ hi)) = true
    rw [decide_eq_true (h x hx).1, decide_eq_true (h x hx).2]; rfl
theorem fine_ints {xs : List Int} (h : xs.length ≤ 1000) : D.fine (tupI xs) = true := by
  show decide ((xs.map D.int).length ≤ 100000) = true
  rw [List.length_map]
  exact decide_eq_true (by omega)
theorem tix_ok {ss : List Str} {x : Str} {r : FW.Env} {fa fb : FE} (hs : x ∈ ss) (ea : fa r = .ok (.tup (ss.map D.str))) (eb : fb r = .ok (.str x)) : fTIx fa fb r = .ok (.int (ss.idxOf x : Nat)) := by
  unfold fTIx
  rw [ea]
  obtain ⟨p, ep, es⟩ : ∃ p : Str × List Str, tupTexts (.tup (ss.map D.str)) = some p ∧ p.1 :: p.2 = ss := by
    cases ss with
    | nil => cases hs
    | cons z zs =>
      refine ⟨(z, zs), ?_, rfl⟩
      show (match textsOf ((z :: zs).map D.str) with | some (x :: xs) => some (x, xs) | _ => none) = _
      rw [textsOf_map]
  show (match tupTexts (.tup (ss.map D.str)) with | some p => (fb r).bind (dIxOf (p.1 :: p.2)) | none => .bad) = _
  rw [ep]
  show (fb r).bind (dIxOf (p.1 :: p.2)) = _
  rw [eb, es]
  show (if x ∈ ss then _ else _) = _
  rw [if_pos hs]
end Lk06
namespace Lk06
open PySem FW
/-! ### standings by functions of the states -/
def updF (h : Str → Int) (s : Str) (v : Int) : Str → Int := fun x => if x = s then v else h x
theorem updF_same {h : Str → Int} {s : Str} {v : Int} : updF h s v s = v := if_pos rfl
theorem updF_ne {h : Str → Int} {s x : Str} {v : Int} (e : x ≠ s) : updF h s v x = h x := if_neg e
theorem by_fun {ss : List Str} {xs : List Int} (nd : ss.Nodup) (hl : xs.length = ss.length) : ∃ f : Str → Int, xs = ss.map f := by
  induction ss generalizing xs with
  | nil => exact ⟨fun _ => 0, List.length_eq_zero_iff.mp hl⟩
  | cons s ss ih =>
    cases xs with
    | nil => cases hl
    | cons x xs =>
      obtain ⟨h1, h2⟩ := List.nodup_cons.mp nd
      obtain ⟨f, e⟩ := ih h2 (by simpa using hl)
      refine ⟨updF f s x, ?_⟩
      rw [List.map_cons, updF_same, e]
      congr 1
      refine List.map_congr_left fun y hy => (updF_ne fun z => h1 (by rw [← z]; exact hy)).symm
theorem set_fun {ss : List Str} (nd : ss.Nodup) {h : Str → Int} {s : Str} {v : Int} (hs : s ∈ ss) : (ss.map h).set (ss.idxOf s) v = ss.map (updF h s v) := by
  induction ss with
  | nil => cases hs
  | cons x ss ih =>
    obtain ⟨h1, h2⟩ := List.nodup_cons.mp nd
    by_cases e : x = s
    · subst e
      rw [List.idxOf_cons_self, List.map_cons, List.set_cons_zero, List.map_cons, updF_same]
      congr 1
      exact List.map_congr_left fun y hy => (updF_ne fun z => h1 (by rw [← z]; exact hy)).symm
    · have hs' : s ∈ ss := (List.mem_cons.mp hs).elim (fun z => absurd z.symm e) id
      have hb : (x == s) = false := beq_eq_false_iff_ne.mpr e
      rw [List.idxOf_cons, hb, cond_false, List.map_cons, List.set_cons_succ, ih h2 hs', List.map_cons, updF_ne e]
theorem get_fun {ss : List Str} {h : Str → Int} {s : Str} (hs : s ∈ ss) : ((ss.map h).map D.int)[ss.idxOf s]? = some (.int (h s)) := by
  have hi := List.idxOf_lt_length_iff.mpr hs
  rw [List.getElem?_map, List.getElem?_map, List.getElem?_eq_getElem hi, List.getElem_idxOf]
  rfl
/-! ### what a rule takes and gives -/
def PR.takes : PR → List Str
  | .alone a _ => [a]
  | .meet a b _ _ => [a, b]
  | .call a _ _ => [a]
def PR.gives : PR → List Str
  | .alone _ b => [b]
  | .meet _ _ c d => [c, d]
  | .call _ b _ => [b]
theorem PR.takes_in {ss : List Str} {r : PR} (h : r.In ss) : ∀ s ∈ r.takes, s ∈ ss := by
  cases r with
  | alone a b => intro s hs; rw [List.mem_singleton.mp hs]; exact h.1
  | meet a b c d =>
    intro s hs
    simp only [PR.takes, List.mem_cons, List.not_mem_nil, or_false] at hs
    rcases hs with rfl | rfl
    · exact h.1
    · exact h.2.1
  | call a b ts => intro s hs; rw [List.mem_singleton.mp hs]; exact h.1
theorem PR.gives_in {ss : List Str} {r : PR} (h : r.In ss) : ∀ s ∈ r.gives, s ∈ ss := by
  cases r with
  | alone a b => intro s hs; rw [List.mem_singleton.mp hs]; exact h.2
  | meet a b c d =>
    intro s hs
    simp only [PR.gives, List.mem_cons, List.not_mem_nil, or_false] at hs
    rcases hs with rfl | rfl
    · exact h.2.2.1
    · exact h.2.2.2
  | call a b ts => intro s hs; rw [List.mem_singleton.mp hs]; exact h.2.1
theorem PR.lens (r : PR) : r.takes.length = r.gives.length := by cases r <;> rfl
def cntS (l : List Str) (s : Str) : Int := (l.count s : Nat)
theorem count_strs (l : List Str) (s : Str) : (l.map D.str).countP (fun z => D.eqv z (.str s)) = l.count s := by
  rw [List.countP_map, List.count]
  refine List.countP_congr fun x _ => ?_
  show D.eqv (.str x) (.str s) = true ↔ (x == s) = true
  rw [D.eqv]
theorem vector_ok {ss : List Str} {x1 x2 x3 : D} (l : List Str) (hn : ss.length ≤ 50) : fn_vector [.tup [.tup (ss.map D.str), x1, x2, x3], .lst (l.map D.str)] = .ok (tupI (ss.map (cntS l))) := by
  refine fn_ret rfl ?_
  have e : fLc (fIter (fOp dIx (fVar 0) (fC (.int 0)))) (gN 2) fYes (fCount (fVar 1) (fVar 2)) [2] (allv (initE 3 [.tup [.tup (ss.map D.str), x1, x2, x3], .lst (l.map D.str)])) = .ok (.lst (ss.map fun s => D.int (cntS l s))) := by
    refine plc_all (c := D.str) (l := ss) rfl (by omega) fun s hs => ⟨_, rfl, ?_⟩
    show dCount (.lst (l.map D.str)) (.str s) = _
    unfold dCount
    dsimp only
    rw [flat_strs, count_strs]
    rfl
  rw [cb1 e]
  show Res.ok (D.tup (ss.map fun s => D.int (cntS l s))) = _
  unfold tupI
  rw [List.map_map]
  rfl
def PR.isM : PR → Bool
  | .meet _ _ _ _ => true
  | _ => false
def PR.isC : PR → Bool
  | .call _ _ _ => true
  | _ => false
theorem PR.d_word (r : PR) : ∃ w ds, r.d = .tup (.str w :: ds) ∧ ((w == "meet") = r.isM) ∧ ((w == "call") = r.isC) := by
  obtain ⟨⟨n1, n2, n3⟩, n4, n5, n6⟩ := ne_words
  cases r with
  | alone a b => exact ⟨_, _, rfl, n1, n2⟩
  | meet a b c d => exact ⟨_, _, rfl, beq_self_eq_true _, n4⟩
  | call a b ts => exact ⟨_, _, rfl, n6, beq_self_eq_true _⟩
theorem meet_test {r : PR} {env : FW.Env} {k : Nat} (h : fVar k env = .ok r.d) : fTest (fOp dEq (fOp dIx (fVar k) (fC (.int 0))) (fC (.str "meet"))) env = .ok (r.isM) := by
  obtain ⟨w, ds, e, e1, _⟩ := r.d_word
  rw [e] at h
  rw [word_eq h, e1]
theorem call_test {r : PR} {env : FW.Env} {k : Nat} (h : fVar k env = .ok r.d) : fTest (fOp dEq (fOp dIx (fVar k) (fC (.int 0))) (fC (.str "call"))) env = .ok (r.isC) := by
  obtain ⟨w, ds, e, _, e2⟩ := r.d_word
  rw [e] at h
  rw [word_eq h, e2]
theorem needed_ok {ss : List Str} {x1 x2 x3 : D} (r : PR) (hn : ss.length ≤ 50) : fn_needed [.tup [.tup (ss.map D.str), x1, x2, x3], r.d] = .ok (tupI (ss.map (cntS r.takes))) := by
  refine fn_ret rfl ?_
  have e : fIf (fTest (fOp dEq (fOp dIx (fVar 1) (fC (.int 0))) (fC (.str "meet")))) (fCB dList (fCons (fCut (fVar 1) (fPart (fC (.int 1))) (fPart (fC (.int 3)))) fNil)) (fLst (fCons (fOp dIx (fVar 1) (fC (.int 1))) fNil)) (allv (initE 2 [.tup [.tup (ss.map D.str), x1, x2, x3], r.d])) = .ok (.lst (r.takes.map D.str)) := by
    have ht := meet_test (r := r) (k := 1) (env := allv (initE 2 [.tup [.tup (ss.map D.str), x1, x2, x3], r.d])) rfl
    cases r with
    | alone a b => rw [fif_f ht]; rfl
    | meet a b c d => rw [fif_t ht]; rfl
    | call a b ts => rw [fif_f ht]; rfl
  rw [call2 (x := .tup [.tup (ss.map D.str), x1, x2, x3]) rfl e]
  exact vector_ok _ hn
theorem granted_ok {ss : List Str} {x1 x2 x3 : D} (r : PR) (hn : ss.length ≤ 50) : fn_granted [.tup [.tup (ss.map D.str), x1, x2, x3], r.d] = .ok (tupI (ss.map (cntS r.gives))) := by
  refine fn_ret rfl ?_
  have e : fIf (fTest (fOp dEq (fOp dIx (fVar 1) (fC (.int 0))) (fC (.str "meet")))) (fCB dList (fCons (fCut (fVar 1) (fPart (fC (.int 3))) (fPart (fC (.int 5)))) fNil)) (fLst (fCons (fOp dIx (fVar 1) (fC (.int 2))) fNil)) (allv (initE 2 [.tup [.tup (ss.map D.str), x1, x2, x3], r.d])) = .ok (.lst (r.gives.map D.str)) := by
    have ht := meet_test (r := r) (k := 1) (env := allv (initE 2 [.tup [.tup (ss.map D.str), x1, x2, x3], r.d])) rfl
    cases r with
    | alone a b => rw [fif_f ht]; rfl
    | meet a b c d => rw [fif_t ht]; rfl
    | call a b ts => rw [fif_f ht]; rfl
  rw [call2 (x := .tup [.tup (ss.map D.str), x1, x2, x3]) rfl e]
  exact vector_ok _ hn
theorem itA2 {d : List D → Res (List D)} {fa fb : FE} {r : FW.Env} {x y : D} (e1 : fa r = .ok x) (e2 : fb r = .ok y) : fItA d (fCons fa (fCons fb fNil)) r = d [x, y] := by
  have h : fCons fa (fCons fb fNil) r = .ok [x, y] := by
    unfold fCons
    rw [e1]
    show ((fb r).bind fun d => _).bind _ = _
    rw [e2]; rfl
  unfold fItA
  rw [h]
theorem zip_funs {ss : List Str} (f h : Str → Int) : zipD ((ss.map f).map D.int) ((ss.map h).map D.int) = ss.map fun s => D.par [.int (f s), .int (h s)] := by
  unfold zipD
  rw [List.zipWith_map, List.zipWith_map]
  induction ss with
  | nil => rfl
  | cons s ss ih => rw [List.zipWith_cons_cons, List.map_cons, ih]
def canB (ss : List Str) (f : Str → Int) (r : PR) : Bool := ss.all fun s => decide (cntS r.takes s ≤ f s)
theorem can_ok {ss : List Str} {x1 x2 x3 : D} (f : Str → Int) (r : PR) (hn : ss.length ≤ 50) : fn_can [.tup [.tup (ss.map D.str), x1, x2, x3], tupI (ss.map f), r.d] = .ok (.bl (canB ss f r)) := by
  refine fn_ret rfl ?_
  have en : fCall fn_needed (fCons (fVar 0) (fCons (fVar 2) fNil)) (allv (initE 5 [.tup [.tup (ss.map D.str), x1, x2, x3], tupI (ss.map f), r.d])) = .ok (tupI (ss.map (cntS r.takes))) := by
    rw [call2 (x := .tup [.tup (ss.map D.str), x1, x2, x3]) (y := r.d) rfl rfl]; exact needed_ok r hn
  have e : fLc (fItA dZip (fCons (fVar 1) (fCons (fCall fn_needed (fCons (fVar 0) (fCons (fVar 2) fNil))) fNil))) (gT 2 (gsCons (gN 3) (gsCons (gN 4) gsNil))) fYes (fOp dGe (fVar 3) (fVar 4)) [3, 4] (allv (initE 5 [.tup [.tup (ss.map D.str), x1, x2, x3], tupI (ss.map f), r.d])) = .ok (.lst (ss.map fun s => D.bl (decide (cntS r.takes s ≤ f s)))) := by
    refine plc_all (c := fun s => D.par [.int (f s), .int (cntS r.takes s)]) (l := ss) ?_ (by omega) fun s hs => ⟨_, rfl, rfl⟩
    rw [← zip_funs, itA2 (x := tupI (ss.map f)) rfl en]
    rfl
  rw [cb1 e]
  exact all_eq _ _
end Lk06
namespace Lk06
open PySem FW
/-! ### done -/
def restF (f : Str → Int) (r : PR) : Str → Int := fun s => f s - cntS r.takes s
def foldM (rf : Str → Int) : List (Str × Str) → (Str → Int) → (Str → Int)
  | [], h => h
  | p :: l, h => foldM rf l (updF h p.2 (h p.2 + rf p.1))
def midF (ss : List Str) (f : Str → Int) : PR → (Str → Int)
  | .call a b ts => foldM (restF f (.call a b ts)) (ss.zip ts) (fun _ => 0)
  | .alone a b => restF f (.alone a b)
  | .meet a b c d => restF f (.meet a b c d)
def doneF (ss : List Str) (f : Str → Int) (r : PR) : Str → Int := fun s => midF ss f r s + cntS r.gives s
abbrev TK (ss : List Str) (x1 x2 x3 : D) : D := .tup [.tup (ss.map D.str), x1, x2, x3]
abbrev LI (ss : List Str) (h : Str → Int) : D := .lst ((ss.map h).map D.int)
theorem put_lst {ss : List Str} (nd : ss.Nodup) {h : Str → Int} {s : Str} {v : Int} (hs : s ∈ ss) : putAny (LI ss h) (.int (ss.idxOf s : Nat)) (.int v) = some (LI ss (updF h s v)) := by
  have hi := List.idxOf_lt_length_iff.mpr hs
  show (L2.ixN ((ss.map h).map D.int).length ((ss.idxOf s : Nat) : Int)).map (fun j => D.lst (((ss.map h).map D.int).set j (.int v))) = _
  have e : L2.ixN ((ss.map h).map D.int).length ((ss.idxOf s : Nat) : Int) = some (ss.idxOf s) := by
    unfold L2.ixN
    rw [List.length_map, List.length_map, if_pos (by omega), if_pos (by omega), Int.toNat_natCast]
  rw [e, Option.map_some, ← List.map_set, set_fun nd hs]
theorem done_loop {ss : List Str} (nd : ss.Nodup) {x1 x2 x3 S R : D} {rf : Str → Int} {v3 : Sl} : ∀ (l : List (Str × Str)) (h : Str → Int) (s5 s6 s7 : Sl), (∀ p ∈ l, p.2 ∈ ss) → ∃ s5' s6' s7',
    forF (sgT 2 (sgsCons (sgN 5) (sgsCons (sgN 6) sgsNil))) (fsSeq (fsSet 7 (fTIx (fOp dIx (fVar 0) (fC (.int 0))) (fVar 6))) (fsPut 4 (fVar 7) (fOp dAdd (fOp dIx (fVar 4) (fVar 7)) (fVar 5)))) (l.map fun p => D.par [.int (rf p.1), .str p.2]) [.val (TK ss x1 x2 x3), .val S, .val R, v3, .own (LI ss h), s5, s6, s7, .un, .un, .un]
      = .ok (.nx [.val (TK ss x1 x2 x3), .val S, .val R, v3, .own (LI ss (foldM rf l h)), s5', s6', s7', .un, .un, .un])
  | [], h, s5, s6, s7, _ => ⟨s5, s6, s7, rfl⟩
  | p :: l, h, s5, s6, s7, hg => by
    have hp := hg p List.mem_cons_self
    obtain ⟨s5', s6', s7', e⟩ := done_loop nd (x1 := x1) (x2 := x2) (x3 := x3) (S := S) (R := R) (rf := rf) (v3 := v3) l (updF h p.2 (h p.2 + rf p.1)) (.val (.int (rf p.1))) (.val (.str p.2)) (.val (.int (ss.idxOf p.2 : Nat))) (fun q hq => hg q (List.mem_cons_of_mem _ hq))
    refine ⟨s5', s6', s7', ?_⟩
    have hb : (fsSeq (fsSet 7 (fTIx (fOp dIx (fVar 0) (fC (.int 0))) (fVar 6))) (fsPut 4 (fVar 7) (fOp dAdd (fOp dIx (fVar 4) (fVar 7)) (fVar 5)))) [.val (TK ss x1 x2 x3), .val S, .val R, v3, .own (LI ss h), .val (.int (rf p.1)), .val (.str p.2), s7, .un, .un, .un]
        = .ok (.nx [.val (TK ss x1 x2 x3), .val S, .val R, v3, .own (LI ss (updF h p.2 (h p.2 + rf p.1))), .val (.int (rf p.1)), .val (.str p.2), .val (.int (ss.idxOf p.2 : Nat)), .un, .un, .un]) := by
      refine (seq_nx (set_ok (d := .int (ss.idxOf p.2 : Nat)) (show 7 < 11 by decide) (tix_ok hp rfl rfl))).trans ?_
      have ev : fOp dAdd (fOp dIx (fVar 4) (fVar 7)) (fVar 5) (allv [.val (TK ss x1 x2 x3), .val S, .val R, v3, .own (LI ss h), .val (.int (rf p.1)), .val (.str p.2), .val (.int (ss.idxOf p.2 : Nat)), .un, .un, .un]) = .ok (.int (h p.2 + rf p.1)) := by
        have e1 : fOp dIx (fVar 4) (fVar 7) (allv [.val (TK ss x1 x2 x3), .val S, .val R, v3, .own (LI ss h), .val (.int (rf p.1)), .val (.str p.2), .val (.int (ss.idxOf p.2 : Nat)), .un, .un, .un]) = .ok (.int (h p.2)) := by
          rw [op_ok (x := LI ss h) (y := .int (ss.idxOf p.2 : Nat)) rfl rfl]
          exact ix_lst (get_fun hp)
        rw [op_ok e1 (y := .int (rf p.1)) rfl]; rfl
      show (((fOp dAdd (fOp dIx (fVar 4) (fVar 7)) (fVar 5) (allv [.val (TK ss x1 x2 x3), .val S, .val R, v3, .own (LI ss h), .val (.int (rf p.1)), .val (.str p.2), .val (.int (ss.idxOf p.2 : Nat)), .un, .un, .un])).bind fun d => if d.hsh = true then (Res.ok (D.int (ss.idxOf p.2 : Nat))).bind fun y => if y.hsh = true then (match putAny (LI ss h) y d with | some x' => Res.ok (Out.nx (List.set _ 4 (Sl.own x'))) | none => .bad) else .bad else .bad) : Res Out) = _
      rw [ev]
      show (if (D.int (h p.2 + rf p.1)).hsh = true then (if (D.int ((ss.idxOf p.2 : Nat) : Int)).hsh = true then (match putAny (LI ss h) (.int (ss.idxOf p.2 : Nat)) (.int (h p.2 + rf p.1)) with | some x' => Res.ok (Out.nx (List.set _ 4 (Sl.own x'))) | none => .bad) else .bad) else .bad : Res Out) = _
      rw [put_lst nd hp, if_pos (by rw [D.hsh]), if_pos (by rw [D.hsh])]
      rfl
    rw [List.map_cons]
    show ((fsSeq (fsSet 7 (fTIx (fOp dIx (fVar 0) (fC (.int 0))) (fVar 6))) (fsPut 4 (fVar 7) (fOp dAdd (fOp dIx (fVar 4) (fVar 7)) (fVar 5)))) [.val (TK ss x1 x2 x3), .val S, .val R, v3, .own (LI ss h), .val (.int (rf p.1)), .val (.str p.2), s7, .un, .un, .un]).bind _ = _
    rw [hb]
    exact e
theorem zip_fs {ss ts : List Str} (f : Str → Int) : zipD ((ss.map f).map D.int) (ts.map D.str) = (ss.zip ts).map fun p => D.par [.int (f p.1), .str p.2] := by
  rw [List.map_map, zipD_map]
  rfl
theorem done_end {ss : List Str} {x1 x2 x3 S : D} (hn : ss.length ≤ 50) (r : PR) (h : Str → Int) (s4 s5 s6 s7 : Sl) : fsRet (fCB dTuple (fCons (fLc (fItA dZip (fCons (fVar 3) (fCons (fCall fn_granted (fCons (fVar 0) (fCons (fVar 2) fNil))) fNil))) (gT 2 (gsCons (gN 8) (gsCons (gN 10) gsNil))) fYes (fOp dAdd (fVar 8) (fVar 10)) [8, 10]) fNil)) [.val (TK ss x1 x2 x3), .val S, .val r.d, .val (LI ss h), s4, s5, s6, s7, .un, .un, .un] = .ok (.rt (tupI (ss.map fun s => h s + cntS r.gives s))) := by
  refine ret_ok ?_
  have en : fCall fn_granted (fCons (fVar 0) (fCons (fVar 2) fNil)) (allv [.val (TK ss x1 x2 x3), .val S, .val r.d, .val (LI ss h), s4, s5, s6, s7, .un, .un, .un]) = .ok (tupI (ss.map (cntS r.gives))) := by
    rw [call2 (x := TK ss x1 x2 x3) (y := r.d) rfl rfl]; exact granted_ok r hn
  have e : fLc (fItA dZip (fCons (fVar 3) (fCons (fCall fn_granted (fCons (fVar 0) (fCons (fVar 2) fNil))) fNil))) (gT 2 (gsCons (gN 8) (gsCons (gN 10) gsNil))) fYes (fOp dAdd (fVar 8) (fVar 10)) [8, 10] (allv [.val (TK ss x1 x2 x3), .val S, .val r.d, .val (LI ss h), s4, s5, s6, s7, .un, .un, .un]) = .ok (.lst (ss.map fun s => D.int (h s + cntS r.gives s))) := by
    refine plc_all (c := fun s => D.par [.int (h s), .int (cntS r.gives s)]) (l := ss) ?_ (by omega) fun s hs => ⟨_, rfl, rfl⟩
    rw [← zip_funs, itA2 (x := LI ss h) rfl en]
    rfl
  rw [cb1 e]
  show Res.ok (D.tup (ss.map fun s => D.int (h s + cntS r.gives s))) = _
  unfold tupI
  rw [List.map_map]
  rfl
theorem reps {n : Nat} {ss : List Str} (h : ss.length = n) : (List.replicate n [D.int 0]).flatten = (ss.map fun _ => (0 : Int)).map D.int := by
  subst h
  induction ss with
  | nil => rfl
  | cons s ss ih => rw [List.length_cons, List.replicate_succ, List.flatten_cons, ih]; rfl
theorem done_ok {ss : List Str} {x1 x2 x3 : D} (nd : ss.Nodup) (f : Str → Int) (r : PR) (hn : ss.length ≤ 50) (hr : r.In ss) : fn_done [TK ss x1 x2 x3, tupI (ss.map f), r.d] = .ok (tupI (ss.map (doneF ss f r))) := by
  refine fn_rt rfl ?_
  unfold fs_done
  have en : fCall fn_needed (fCons (fVar 0) (fCons (fVar 2) fNil)) (plain (initE 11 [TK ss x1 x2 x3, tupI (ss.map f), r.d])) = .ok (tupI (ss.map (cntS r.takes))) := by
    rw [call2 (x := TK ss x1 x2 x3) (y := r.d) rfl rfl]; exact needed_ok r hn
  have e1 : fLc (fItA dZip (fCons (fVar 1) (fCons (fCall fn_needed (fCons (fVar 0) (fCons (fVar 2) fNil))) fNil))) (gT 2 (gsCons (gN 8) (gsCons (gN 9) gsNil))) fYes (fOp dSub (fVar 8) (fVar 9)) [8, 9] (plain (initE 11 [TK ss x1 x2 x3, tupI (ss.map f), r.d])) = .ok (LI ss (restF f r)) := by
    have e0 : fLc (fItA dZip (fCons (fVar 1) (fCons (fCall fn_needed (fCons (fVar 0) (fCons (fVar 2) fNil))) fNil))) (gT 2 (gsCons (gN 8) (gsCons (gN 9) gsNil))) fYes (fOp dSub (fVar 8) (fVar 9)) [8, 9] (plain (initE 11 [TK ss x1 x2 x3, tupI (ss.map f), r.d])) = .ok (.lst (ss.map fun s => D.int (restF f r s))) := by
      refine plc_all (c := fun s => D.par [.int (f s), .int (cntS r.takes s)]) (l := ss) ?_ (by omega) fun s hs => ⟨_, rfl, rfl⟩
      rw [← zip_funs, itA2 (x := tupI (ss.map f)) rfl en]
      rfl
    rw [e0]
    unfold LI
    rw [List.map_map]
    rfl
  refine (seq_nx (set_ok (show 3 < 11 by decide) e1)).trans ?_
  have hT := call_test (r := r) (k := 2) (env := allv [.val (TK ss x1 x2 x3), .val (tupI (ss.map f)), .val r.d, .val (LI ss (restF f r)), .un, .un, .un, .un, .un, .un, .un]) rfl
  cases r with
  | alone a b => exact (seq_nx (if_f hT)).trans (done_end hn (.alone a b) _ .un .un .un .un)
  | meet a b c d => exact (seq_nx (if_f hT)).trans (done_end hn (.meet a b c d) _ .un .un .un .un)
  | call a b ts =>
    obtain ⟨h1, h2, h3, h4⟩ := hr
    obtain ⟨s5, s6, s7, el⟩ := done_loop nd (x1 := x1) (x2 := x2) (x3 := x3) (S := tupI (ss.map f)) (R := (PR.call a b ts).d) (rf := restF f (.call a b ts)) (v3 := .val (LI ss (restF f (.call a b ts)))) (ss.zip ts) (fun _ => 0) .un .un .un (fun p hp => h4 p.2 (List.of_mem_zip hp).2)
    refine (seq_nx ((if_t hT).trans ?_)).trans (done_end (x1 := x1) (x2 := x2) (x3 := x3) (S := tupI (ss.map f)) hn (.call a b ts) (foldM (restF f (.call a b ts)) (ss.zip ts) fun _ => 0) (.val (LI ss (foldM (restF f (.call a b ts)) (ss.zip ts) fun _ => 0))) s5 s6 s7)
    refine (seq_nx (r' := [.val (TK ss x1 x2 x3), .val (tupI (ss.map f)), .val (PR.call a b ts).d, .val (LI ss (restF f (.call a b ts))), .own (LI ss fun _ => 0), .un, .un, .un, .un, .un, .un]) ?_).trans ?_
    · show (if 4 < 11 then (fOp dMulL (fLst (fCons (fC (.int 0)) fNil)) (fCB dLen (fCons (fVar 3) fNil)) (plain [.val (TK ss x1 x2 x3), .val (tupI (ss.map f)), .val (PR.call a b ts).d, .val (LI ss (restF f (.call a b ts))), .un, .un, .un, .un, .un, .un, .un])).bind _ else _) = _
      have em : fOp dMulL (fLst (fCons (fC (.int 0)) fNil)) (fCB dLen (fCons (fVar 3) fNil)) (plain [.val (TK ss x1 x2 x3), .val (tupI (ss.map f)), .val (PR.call a b ts).d, .val (LI ss (restF f (.call a b ts))), .un, .un, .un, .un, .un, .un, .un]) = .ok (LI ss fun _ => 0) := by
        rw [op_ok (x := .lst [.int 0]) (y := .int (((ss.map (restF f (.call a b ts))).map D.int).length : Nat)) rfl rfl, List.length_map, List.length_map]
        unfold dMulL
        dsimp only
        rw [if_pos ⟨by omega, by omega, by rw [List.length_singleton, Int.toNat_natCast]; omega⟩, Int.toNat_natCast, reps rfl]
      rw [if_pos (by decide), em]
      rfl
    · refine (seq_nx ?_).trans (show fsFreeze 3 4 [.val (TK ss x1 x2 x3), .val (tupI (ss.map f)), .val (PR.call a b ts).d, .val (LI ss (restF f (.call a b ts))), .own (LI ss (foldM (restF f (.call a b ts)) (ss.zip ts) fun _ => 0)), s5, s6, s7, .un, .un, .un] = _ from rfl)
      unfold fsFor
      rw [itA2 (x := LI ss (restF f (.call a b ts))) (y := .tup (ts.map D.str)) rfl rfl]
      show forF _ _ (zipD ((ss.map (restF f (.call a b ts))).map D.int) (ts.map D.str)) _ = _
      rw [zip_fs]
      exact el
end Lk06
namespace Lk06
open PySem FW
/-! ### the law's own step: dicts of the states -/
def mkD (ss : List Str) (f : Str → Int) : List (D × D) := ss.map fun s => (.str s, .int (f s))
abbrev DD (ss : List Str) (f : Str → Int) : D := .dct (mkD ss f)
theorem keysOf_strs : ∀ ss : List Str, keysOf (ss.map D.str) = some (ss.map Sum.inr)
  | [] => rfl
  | s :: ss => by
    rw [List.map_cons, List.map_cons]
    unfold keysOf
    rw [keysOf_strs ss]; rfl
theorem any_mkD {ss : List Str} {f : Str → Int} {s : Str} : ((mkD ss f).any fun kv => decide (keyOf kv.1 = some (Sum.inr s))) = decide (s ∈ ss) := by
  unfold mkD
  rw [List.any_map]
  induction ss with
  | nil => rfl
  | cons x ss ih =>
    rw [List.any_cons, ih]
    show (decide (some (Sum.inr x : L2.Key) = some (Sum.inr s)) || _) = _
    by_cases e : x = s
    · subst e; simp
    · have : decide (some (Sum.inr x : L2.Key) = some (Sum.inr s)) = false := decide_eq_false fun z => e (by injection z with z; injection z)
      rw [this, Bool.false_or]
      exact decide_eq_decide.mpr ⟨fun h => List.mem_cons_of_mem _ h, fun h => (List.mem_cons.mp h).elim (fun z => absurd z.symm e) id⟩
theorem put_new {ss : List Str} {f : Str → Int} {s : Str} (hs : s ∉ ss) : putD (mkD ss f) (Sum.inr s) (.int (f s)) = mkD (ss ++ [s]) f := by
  unfold putD
  rw [any_mkD, if_neg (by simp [hs])]
  unfold mkD
  rw [List.map_append]
  rfl
theorem put_old {ss : List Str} {f : Str → Int} {s : Str} {v : Int} (hs : s ∈ ss) : putD (mkD ss f) (Sum.inr s) (.int v) = mkD ss (updF f s v) := by
  unfold putD
  rw [any_mkD, if_pos (by simp [hs])]
  unfold mkD
  rw [List.map_map]
  refine List.map_congr_left fun x _ => ?_
  show (if some (Sum.inr x : L2.Key) = some (Sum.inr s) then (D.str x, D.int v) else (D.str x, D.int (f x))) = (D.str x, D.int (updF f s v x))
  by_cases e : x = s
  · subst e; rw [if_pos rfl, updF_same]
  · rw [if_neg (fun z => e (by injection z with z; injection z)), updF_ne e]
theorem val_mkD {ss : List Str} {f : Str → Int} {s : Str} (hs : s ∈ ss) : valD (mkD ss f) (Sum.inr s) = some (.int (f s)) := by
  unfold valD mkD
  induction ss with
  | nil => cases hs
  | cons x ss ih =>
    rw [List.map_cons, List.find?_cons]
    by_cases e : x = s
    · subst e
      have : decide (keyOf (D.str x, D.int (f x)).1 = some (Sum.inr x)) = true := decide_eq_true rfl
      rw [this]; rfl
    · have : decide (keyOf (D.str x, D.int (f x)).1 = some (Sum.inr s)) = false := decide_eq_false fun z => e (by injection z with z; injection z)
      rw [this]
      exact ih ((List.mem_cons.mp hs).elim (fun z => absurd z.symm e) id)
theorem merge_mkD {f : Str → Int} : ∀ (vs us : List Str), (us ++ vs).Nodup → mergeD (mkD us f) (vs.map fun s => ((Sum.inr s : L2.Key), D.int (f s))) = mkD (us ++ vs) f
  | [], us, _ => by rw [List.append_nil]; rfl
  | v :: vs, us, h => by
    have hv : v ∉ us := fun z => by
      have := List.nodup_append.mp h
      exact (this.2.2 v z v List.mem_cons_self) rfl
    show mergeD (putD (mkD us f) (Sum.inr v) (.int (f v))) (vs.map fun s => ((Sum.inr s : L2.Key), D.int (f s))) = _
    rw [put_new hv, merge_mkD vs (us ++ [v]) (by rw [List.append_assoc]; exact h), List.append_assoc]
    rfl
theorem zipDict_ok {ss : List Str} {y : D} (nd : ss.Nodup) (hn : ss.length ≤ 50) (f : Str → Int) (hy : seqD y = some ((ss.map f).map D.int)) : dZipDict [.tup (ss.map D.str), y] = .ok (DD ss f) := by
  show (match seqD y with | some es => (match keysOf (ss.map D.str) with | some ks => if ks.length ≤ 100000 then Res.ok (D.dct (mergeD [] (ks.zip es))) else .bad | none => .bad) | none => .bad) = _
  rw [hy, keysOf_strs]
  dsimp only
  rw [if_pos (by rw [List.length_map]; omega)]
  have e : (ss.map Sum.inr).zip ((ss.map f).map D.int) = ss.map fun s => ((Sum.inr s : L2.Key), D.int (f s)) := by
    rw [List.map_map, List.zip_map']
    rfl
  rw [e]
  have := merge_mkD (f := f) ss [] (by simpa using nd)
  rw [List.nil_append] at this
  exact congrArg (fun k => Res.ok (D.dct k)) this
theorem dget_ok {ss : List Str} {f : Str → Int} {s : Str} (hs : s ∈ ss) : dIxX (DD ss f) (.str s) = .ok (.int (f s)) := by
  show (match valD (mkD ss f) (Sum.inr s) with | some d => Res.ok d | none => .bad) = _
  rw [val_mkD hs]
theorem dput_ok {ss : List Str} {f : Str → Int} {s : Str} {v : Int} (hs : s ∈ ss) (hn : ss.length ≤ 50) : putAny (DD ss f) (.str s) (.int v) = some (DD ss (updF f s v)) := by
  show (if (mkD ss f).length < 100000 then some (D.dct (putD (mkD ss f) (Sum.inr s) (.int v))) else none) = _
  rw [if_pos (by unfold mkD; rw [List.length_map]; omega), put_old hs]
/-- x[k] = v, all known -/
theorem put_ok {i : Nat} {fk fv : FE} {r : Env2} {x y d x' : D} (hr : r[i]? = some (.own x)) (ev : fv (allv r) = .ok d) (hd : d.hsh = true) (ek : fk (allv r) = .ok y) (hy : y.hsh = true) (hp : putAny x y d = some x') : fsPut i fk fv r = .ok (.nx (r.set i (.own x'))) := by
  unfold fsPut
  rw [hr]
  dsimp only
  rw [ev]
  show (if d.hsh = true then (fk (allv r)).bind _ else Res.bad) = _
  rw [if_pos hd, ek]
  show (if y.hsh = true then (match putAny x y d with | some x' => Res.ok (Out.nx (r.set i (.own x'))) | none => .bad) else Res.bad) = _
  rw [if_pos hy, hp]
theorem hsh_int (i : Int) : (D.int i).hsh = true := by rw [D.hsh]
theorem hsh_str (x : Str) : (D.str x).hsh = true := by rw [D.hsh]
def seqOk : (Str → Int) → List Str → Bool
  | _, [] => true
  | f, s :: l => (!decide (f s - 1 < 0)) && seqOk (updF f s (f s - 1)) l
def seqF (k : Int) : (Str → Int) → List Str → (Str → Int)
  | f, [] => f
  | f, s :: l => seqF k (updF f s (f s + k)) l
theorem cntS_cons (s x : Str) (l : List Str) : cntS (s :: l) x = cntS l x + (if x = s then 1 else 0) := by
  unfold cntS
  rw [List.count_cons]
  by_cases e : x = s
  · subst e; simp
  · have : (s == x) = false := beq_eq_false_iff_ne.mpr (Ne.symm e)
    rw [this, if_neg e]; simp
theorem seqF_eq (k : Int) : ∀ (l : List Str) (f : Str → Int), seqF k f l = fun s => f s + k * cntS l s
  | [], f => by funext s; show f s = f s + k * ((0 : Nat) : Int); simp
  | x :: l, f => by
    rw [seqF, seqF_eq k l]
    funext s
    rw [cntS_cons, Int.mul_add]
    by_cases e : s = x
    · subst e; rw [updF_same, if_pos rfl]; omega
    · rw [updF_ne e, if_neg e]; omega
theorem cntS_nn (l : List Str) (s : Str) : 0 ≤ cntS l s := by unfold cntS; omega
theorem cntS_pos {l : List Str} {s : Str} (h : s ∈ l) : 1 ≤ cntS l s := by
  unfold cntS
  have := List.count_pos_iff.mpr h
  omega
theorem cntS_zero {l : List Str} {s : Str} (h : s ∉ l) : cntS l s = 0 := by
  unfold cntS
  rw [List.count_eq_zero.mpr h]; rfl
theorem seqOk_iff : ∀ (l : List Str) (f : Str → Int), seqOk f l = true ↔ ∀ s ∈ l, cntS l s ≤ f s
  | [], f => by simp [seqOk]
  | x :: l, f => by
    rw [seqOk, Bool.and_eq_true, seqOk_iff l, Bool.not_eq_true', decide_eq_false_iff_not]
    constructor
    · rintro ⟨h1, h2⟩ s hs
      rw [cntS_cons]
      by_cases e : s = x
      · subst e
        rw [if_pos rfl]
        by_cases hm : s ∈ l
        · have := h2 s hm; rw [updF_same] at this; omega
        · rw [cntS_zero hm]; omega
      · rw [if_neg e]
        have := h2 s ((List.mem_cons.mp hs).elim (fun z => absurd z e) id)
        rw [updF_ne e] at this; omega
    · intro h
      refine ⟨?_, fun s hs => ?_⟩
      · have := h x List.mem_cons_self
        rw [cntS_cons, if_pos rfl] at this
        have := cntS_nn l x
        omega
      · have := h s (List.mem_cons_of_mem _ hs)
        rw [cntS_cons] at this
        by_cases e : s = x
        · subst e; rw [if_pos rfl] at this; rw [updF_same]; omega
        · rw [if_neg e] at this; rw [updF_ne e]; omega
theorem can_seq {ss : List Str} {f : Str → Int} {r : PR} (hr : r.In ss) (hf : ∀ s ∈ ss, 0 ≤ f s) : canB ss f r = seqOk f r.takes := by
  rw [Bool.eq_iff_iff, seqOk_iff]
  unfold canB
  rw [List.all_eq_true]
  constructor
  · intro h s hs
    exact of_decide_eq_true (h s (PR.takes_in hr s hs))
  · intro h s hs
    refine decide_eq_true ?_
    by_cases hm : s ∈ r.takes
    · exact h s hm
    · rw [cntS_zero hm]; exact hf s hs
abbrev envA (ss : List Str) (x1 x2 x3 S R : D) (s3 s4 s5 s6 : Sl) : Env2 := [.val (TK ss x1 x2 x3), .val S, .val R, s3, s4, s5, s6]
theorem take_loop {ss : List Str} {x1 x2 x3 S R : D} (hn : ss.length ≤ 50) : ∀ (l : List Str) (f : Str → Int) (s4 : Sl), (∀ s ∈ l, s ∈ ss) → ∃ s4',
    forF (sgN 4) (fsSeq (fsPut 3 (fVar 4) (fOp dSub (fOp dIxX (fVar 3) (fVar 4)) (fC (.int 1)))) (fsIf (fTest (fOp dLt (fOp dIxX (fVar 3) (fVar 4)) (fC (.int 0)))) (fsRet (fC .non)) fsSkip)) (l.map D.str) (envA ss x1 x2 x3 S R (.own (DD ss f)) s4 .un .un)
      = .ok (if seqOk f l = true then .nx (envA ss x1 x2 x3 S R (.own (DD ss (seqF (-1) f l))) s4' .un .un) else .rt .non)
  | [], f, s4, _ => ⟨s4, rfl⟩
  | s :: l, f, s4, hl => by
    have hs := hl s List.mem_cons_self
    obtain ⟨s4', e⟩ := take_loop (x1 := x1) (x2 := x2) (x3 := x3) (S := S) (R := R) hn l (updF f s (f s - 1)) (.val (.str s)) (fun x hx => hl x (List.mem_cons_of_mem _ hx))
    refine ⟨s4', ?_⟩
    have g1 : fOp dSub (fOp dIxX (fVar 3) (fVar 4)) (fC (.int 1)) (allv (envA ss x1 x2 x3 S R (.own (DD ss f)) (.val (.str s)) .un .un)) = .ok (.int (f s - 1)) := by
      have e1 : fOp dIxX (fVar 3) (fVar 4) (allv (envA ss x1 x2 x3 S R (.own (DD ss f)) (.val (.str s)) .un .un)) = .ok (.int (f s)) := by
        rw [op_ok (x := DD ss f) (y := .str s) rfl rfl]; exact dget_ok hs
      rw [op_ok e1 (y := .int 1) rfl]; rfl
    have g2 : fTest (fOp dLt (fOp dIxX (fVar 3) (fVar 4)) (fC (.int 0))) (allv (envA ss x1 x2 x3 S R (.own (DD ss (updF f s (f s - 1)))) (.val (.str s)) .un .un)) = .ok (decide (f s - 1 < 0)) := by
      have e1 : fOp dIxX (fVar 3) (fVar 4) (allv (envA ss x1 x2 x3 S R (.own (DD ss (updF f s (f s - 1)))) (.val (.str s)) .un .un)) = .ok (.int (f s - 1)) := by
        rw [op_ok (x := DD ss (updF f s (f s - 1))) (y := .str s) rfl rfl, dget_ok hs, updF_same]
      refine test_ok ?_
      rw [op_ok e1 (y := .int 0) rfl]; rfl
    have hp : fsPut 3 (fVar 4) (fOp dSub (fOp dIxX (fVar 3) (fVar 4)) (fC (.int 1))) (envA ss x1 x2 x3 S R (.own (DD ss f)) (.val (.str s)) .un .un) = .ok (.nx (envA ss x1 x2 x3 S R (.own (DD ss (updF f s (f s - 1)))) (.val (.str s)) .un .un)) :=
      put_ok (x := DD ss f) (y := .str s) rfl g1 (hsh_int _) rfl (hsh_str _) (dput_ok hs hn)
    rw [List.map_cons]
    show ((fsSeq (fsPut 3 (fVar 4) (fOp dSub (fOp dIxX (fVar 3) (fVar 4)) (fC (.int 1)))) (fsIf (fTest (fOp dLt (fOp dIxX (fVar 3) (fVar 4)) (fC (.int 0)))) (fsRet (fC .non)) fsSkip)) (envA ss x1 x2 x3 S R (.own (DD ss f)) (.val (.str s)) .un .un)).bind _ = _
    rw [seq_nx hp, seqOk, seqF]
    by_cases hneg : f s - 1 < 0
    · rw [decide_eq_true hneg] at g2 ⊢
      rw [if_t g2]
      rfl
    · rw [decide_eq_false hneg] at g2 ⊢
      rw [if_f g2]
      exact e
theorem give_loop {ss : List Str} {x1 x2 x3 S R : D} (hn : ss.length ≤ 50) {s5 s6 : Sl} : ∀ (l : List Str) (f : Str → Int) (s4 : Sl), (∀ s ∈ l, s ∈ ss) → ∃ s4',
    forF (sgN 4) (fsPut 3 (fVar 4) (fOp dAdd (fOp dIxX (fVar 3) (fVar 4)) (fC (.int 1)))) (l.map D.str) (envA ss x1 x2 x3 S R (.own (DD ss f)) s4 s5 s6)
      = .ok (.nx (envA ss x1 x2 x3 S R (.own (DD ss (seqF 1 f l))) s4' s5 s6))
  | [], f, s4, _ => ⟨s4, rfl⟩
  | s :: l, f, s4, hl => by
    have hs := hl s List.mem_cons_self
    obtain ⟨s4', e⟩ := give_loop (x1 := x1) (x2 := x2) (x3 := x3) (S := S) (R := R) hn (s5 := s5) (s6 := s6) l (updF f s (f s + 1)) (.val (.str s)) (fun x hx => hl x (List.mem_cons_of_mem _ hx))
    refine ⟨s4', ?_⟩
    have g1 : fOp dAdd (fOp dIxX (fVar 3) (fVar 4)) (fC (.int 1)) (allv (envA ss x1 x2 x3 S R (.own (DD ss f)) (.val (.str s)) s5 s6)) = .ok (.int (f s + 1)) := by
      have e1 : fOp dIxX (fVar 3) (fVar 4) (allv (envA ss x1 x2 x3 S R (.own (DD ss f)) (.val (.str s)) s5 s6)) = .ok (.int (f s)) := by
        rw [op_ok (x := DD ss f) (y := .str s) rfl rfl]; exact dget_ok hs
      rw [op_ok e1 (y := .int 1) rfl]; rfl
    have hp : fsPut 3 (fVar 4) (fOp dAdd (fOp dIxX (fVar 3) (fVar 4)) (fC (.int 1))) (envA ss x1 x2 x3 S R (.own (DD ss f)) (.val (.str s)) s5 s6) = .ok (.nx (envA ss x1 x2 x3 S R (.own (DD ss (updF f s (f s + 1)))) (.val (.str s)) s5 s6)) :=
      put_ok (x := DD ss f) (y := .str s) rfl g1 (hsh_int _) rfl (hsh_str _) (dput_ok hs hn)
    rw [List.map_cons]
    show (fsPut 3 (fVar 4) (fOp dAdd (fOp dIxX (fVar 3) (fVar 4)) (fC (.int 1))) (envA ss x1 x2 x3 S R (.own (DD ss f)) (.val (.str s)) s5 s6)).bind _ = _
    rw [hp, seqF]
    exact e
theorem call_loop {ss : List Str} {x1 x2 x3 S R : D} (hn : ss.length ≤ 50) {f : Str → Int} : ∀ (l : List (Str × Str)) (h : Str → Int) (s4 s6 : Sl), (∀ p ∈ l, p.1 ∈ ss ∧ p.2 ∈ ss) → ∃ s4' s6',
    forF (sgT 2 (sgsCons (sgN 4) (sgsCons (sgN 6) sgsNil))) (fsPut 5 (fVar 6) (fOp dAdd (fOp dIxX (fVar 5) (fVar 6)) (fOp dIxX (fVar 3) (fVar 4)))) (l.map fun p => D.par [.str p.1, .str p.2]) (envA ss x1 x2 x3 S R (.own (DD ss f)) s4 (.own (DD ss h)) s6)
      = .ok (.nx (envA ss x1 x2 x3 S R (.own (DD ss f)) s4' (.own (DD ss (foldM f l h))) s6'))
  | [], h, s4, s6, _ => ⟨s4, s6, rfl⟩
  | p :: l, h, s4, s6, hl => by
    obtain ⟨h1, h2⟩ := hl p List.mem_cons_self
    obtain ⟨s4', s6', e⟩ := call_loop (x1 := x1) (x2 := x2) (x3 := x3) (S := S) (R := R) hn (f := f) l (updF h p.2 (h p.2 + f p.1)) (.val (.str p.1)) (.val (.str p.2)) (fun x hx => hl x (List.mem_cons_of_mem _ hx))
    refine ⟨s4', s6', ?_⟩
    have g1 : fOp dAdd (fOp dIxX (fVar 5) (fVar 6)) (fOp dIxX (fVar 3) (fVar 4)) (allv (envA ss x1 x2 x3 S R (.own (DD ss f)) (.val (.str p.1)) (.own (DD ss h)) (.val (.str p.2)))) = .ok (.int (h p.2 + f p.1)) := by
      have e1 : fOp dIxX (fVar 5) (fVar 6) (allv (envA ss x1 x2 x3 S R (.own (DD ss f)) (.val (.str p.1)) (.own (DD ss h)) (.val (.str p.2)))) = .ok (.int (h p.2)) := by
        rw [op_ok (x := DD ss h) (y := .str p.2) rfl rfl]; exact dget_ok h2
      have e2 : fOp dIxX (fVar 3) (fVar 4) (allv (envA ss x1 x2 x3 S R (.own (DD ss f)) (.val (.str p.1)) (.own (DD ss h)) (.val (.str p.2)))) = .ok (.int (f p.1)) := by
        rw [op_ok (x := DD ss f) (y := .str p.1) rfl rfl]; exact dget_ok h1
      rw [op_ok e1 e2]; rfl
    have hp : fsPut 5 (fVar 6) (fOp dAdd (fOp dIxX (fVar 5) (fVar 6)) (fOp dIxX (fVar 3) (fVar 4))) (envA ss x1 x2 x3 S R (.own (DD ss f)) (.val (.str p.1)) (.own (DD ss h)) (.val (.str p.2))) = .ok (.nx (envA ss x1 x2 x3 S R (.own (DD ss f)) (.val (.str p.1)) (.own (DD ss (updF h p.2 (h p.2 + f p.1)))) (.val (.str p.2)))) :=
      put_ok (x := DD ss h) (y := .str p.2) rfl g1 (hsh_int _) rfl (hsh_str _) (dput_ok h2 hn)
    rw [List.map_cons]
    show (fsPut 5 (fVar 6) (fOp dAdd (fOp dIxX (fVar 5) (fVar 6)) (fOp dIxX (fVar 3) (fVar 4))) (envA ss x1 x2 x3 S R (.own (DD ss f)) (.val (.str p.1)) (.own (DD ss h)) (.val (.str p.2)))).bind _ = _
    rw [hp]
    exact e
end Lk06
namespace Lk06
open PySem FW
theorem cb2 {o : List D → Res D} {fa fb : FE} {r : FW.Env} {x y : D} (e1 : fa r = .ok x) (e2 : fb r = .ok y) : fCB o (fCons fa (fCons fb fNil)) r = o [x, y] := by
  have h : fCons fa (fCons fb fNil) r = .ok [x, y] := by
    unfold fCons
    rw [e1]
    show ((fb r).bind fun d => _).bind _ = _
    rw [e2]; rfl
  unfold fCB
  rw [h]
theorem setOD_ok {i : Nat} {f : FE} {r : Env2} {kvs : List (D × D)} (hi : i < r.length) (e : f (plain r) = .ok (.dct kvs)) : fsSetOD i f r = .ok (.nx (r.set i (.own (.dct kvs)))) := by
  unfold fsSetOD
  rw [if_pos hi, e]
theorem for_ok {fi : FI} {sg : SG} {body : FS} {r : Env2} {ds : List D} (e : fi (plain r) = .ok ds) : fsFor fi sg body r = forF sg body ds r := by
  unfold fsFor
  rw [e]
theorem rest_seq (f : Str → Int) (r : PR) : seqF (-1) f r.takes = restF f r := by
  rw [seqF_eq]
  funext s
  unfold restF
  omega
theorem after_end {ss : List Str} {x1 x2 x3 S R : D} (hn : ss.length ≤ 50) (h : Str → Int) (s4 s5 s6 : Sl) : fsRet (fCB dTuple (fCons (fLc (fIter (fOp dIx (fVar 0) (fC (.int 0)))) (gN 4) fYes (fOp dIxX (fVar 3) (fVar 4)) [4]) fNil)) (envA ss x1 x2 x3 S R (.own (DD ss h)) s4 s5 s6) = .ok (.rt (tupI (ss.map h))) := by
  refine ret_ok ?_
  have e : fLc (fIter (fOp dIx (fVar 0) (fC (.int 0)))) (gN 4) fYes (fOp dIxX (fVar 3) (fVar 4)) [4] (allv (envA ss x1 x2 x3 S R (.own (DD ss h)) s4 s5 s6)) = .ok (.lst (ss.map fun s => D.int (h s))) := by
    refine plc_all (c := D.str) (l := ss) rfl (by omega) fun s hs => ⟨_, rfl, ?_⟩
    rw [op_ok (x := DD ss h) (y := .str s) rfl rfl]
    exact dget_ok hs
  rw [cb1 e]
  show Res.ok (D.tup (ss.map fun s => D.int (h s))) = _
  unfold tupI
  rw [List.map_map]
  rfl
theorem after_rest {ss : List Str} {x1 x2 x3 S : D} (hn : ss.length ≤ 50) (r : PR) (hr : r.In ss) (h : Str → Int) (s4 s6 : Sl) :
    (fsSeq (fsFor (fIter (fIf (fTest (fOp dEq (fOp dIx (fVar 2) (fC (.int 0))) (fC (.str "meet")))) (fCut (fVar 2) (fPart (fC (.int 3))) (fPart (fC (.int 5)))) (fCut (fVar 2) (fPart (fC (.int 2))) (fPart (fC (.int 3)))))) (sgN 4) (fsPut 3 (fVar 4) (fOp dAdd (fOp dIxX (fVar 3) (fVar 4)) (fC (.int 1))))) (fsRet (fCB dTuple (fCons (fLc (fIter (fOp dIx (fVar 0) (fC (.int 0)))) (gN 4) fYes (fOp dIxX (fVar 3) (fVar 4)) [4]) fNil)))) (envA ss x1 x2 x3 S r.d (.own (DD ss h)) s4 .un s6) = .ok (.rt (tupI (ss.map fun s => h s + cntS r.gives s))) := by
  have eg : fIter (fIf (fTest (fOp dEq (fOp dIx (fVar 2) (fC (.int 0))) (fC (.str "meet")))) (fCut (fVar 2) (fPart (fC (.int 3))) (fPart (fC (.int 5)))) (fCut (fVar 2) (fPart (fC (.int 2))) (fPart (fC (.int 3))))) (plain (envA ss x1 x2 x3 S r.d (.own (DD ss h)) s4 .un s6)) = .ok (r.gives.map D.str) := by
    have hM := meet_test (r := r) (k := 2) (env := plain (envA ss x1 x2 x3 S r.d (.own (DD ss h)) s4 .un s6)) rfl
    unfold fIter
    cases r with
    | alone a b => rw [fif_f hM]; rfl
    | meet a b c d => rw [fif_t hM]; rfl
    | call a b ts => rw [fif_f hM]; rfl
  obtain ⟨s4', el⟩ := give_loop (x1 := x1) (x2 := x2) (x3 := x3) (S := S) (R := r.d) hn (s5 := .un) (s6 := s6) r.gives h s4 (PR.gives_in hr)
  refine (seq_nx ((for_ok eg).trans el)).trans ((after_end hn _ _ _ _).trans ?_)
  rw [seqF_eq]
  refine congrArg (fun g => Res.ok (Out.rt (tupI (ss.map g)))) ?_
  funext s
  omega
theorem after_ok {ss : List Str} {x1 x2 x3 : D} (nd : ss.Nodup) (f : Str → Int) (r : PR) (hn : ss.length ≤ 50) (hr : r.In ss) (hf : ∀ s ∈ ss, 0 ≤ f s) : fn_Lafter [TK ss x1 x2 x3, tupI (ss.map f), r.d] = .ok (if canB ss f r = true then tupI (ss.map (doneF ss f r)) else .non) := by
  rw [can_seq hr hf]
  have e0 : fsSetOD 3 (fCB dZipDict (fCons (fOp dIx (fVar 0) (fC (.int 0))) (fCons (fVar 1) fNil))) (initE 7 [TK ss x1 x2 x3, tupI (ss.map f), r.d]) = .ok (.nx (envA ss x1 x2 x3 (tupI (ss.map f)) r.d (.own (DD ss f)) .un .un .un)) :=
    setOD_ok (show 3 < 7 by decide) ((cb2 (x := .tup (ss.map D.str)) (y := tupI (ss.map f)) rfl rfl).trans (zipDict_ok nd hn f rfl))
  have et : fIter (fIf (fTest (fOp dEq (fOp dIx (fVar 2) (fC (.int 0))) (fC (.str "meet")))) (fCut (fVar 2) (fPart (fC (.int 1))) (fPart (fC (.int 3)))) (fCut (fVar 2) (fPart (fC (.int 1))) (fPart (fC (.int 2))))) (plain (envA ss x1 x2 x3 (tupI (ss.map f)) r.d (.own (DD ss f)) .un .un .un)) = .ok (r.takes.map D.str) := by
    have hM := meet_test (r := r) (k := 2) (env := plain (envA ss x1 x2 x3 (tupI (ss.map f)) r.d (.own (DD ss f)) .un .un .un)) rfl
    unfold fIter
    cases r with
    | alone a b => rw [fif_f hM]; rfl
    | meet a b c d => rw [fif_t hM]; rfl
    | call a b ts => rw [fif_f hM]; rfl
  obtain ⟨s4, el⟩ := take_loop (x1 := x1) (x2 := x2) (x3 := x3) (S := tupI (ss.map f)) (R := r.d) hn r.takes f .un (PR.takes_in hr)
  refine fn_rt rfl ?_
  unfold fs_Lafter
  refine (seq_nx e0).trans ?_
  cases hk : seqOk f r.takes with
  | false =>
    rw [hk, if_neg (by decide)] at el
    rw [if_neg (by decide)]
    exact seq_rt ((for_ok et).trans el)
  | true =>
    rw [hk, if_pos rfl, rest_seq] at el
    rw [if_pos rfl]
    refine (seq_nx ((for_ok et).trans el)).trans ?_
    have hT := call_test (r := r) (k := 2) (env := allv (envA ss x1 x2 x3 (tupI (ss.map f)) r.d (.own (DD ss (restF f r))) s4 .un .un)) rfl
    cases r with
    | alone a b => exact (seq_nx (if_f hT)).trans (after_rest hn (.alone a b) hr _ _ _)
    | meet a b c d => exact (seq_nx (if_f hT)).trans (after_rest hn (.meet a b c d) hr _ _ _)
    | call a b ts =>
      obtain ⟨h1, h2, h3, h4⟩ := hr
      have e5 : fsSetOD 5 (fCB dZipDict (fCons (fOp dIx (fVar 0) (fC (.int 0))) (fCons (fOp dMulX (fLst (fCons (fC (.int 0)) fNil)) (fCB dLen (fCons (fVar 1) fNil))) fNil))) (envA ss x1 x2 x3 (tupI (ss.map f)) (PR.call a b ts).d (.own (DD ss (restF f (.call a b ts)))) s4 .un .un) = .ok (.nx (envA ss x1 x2 x3 (tupI (ss.map f)) (PR.call a b ts).d (.own (DD ss (restF f (.call a b ts)))) s4 (.own (DD ss fun _ => 0)) .un)) := by
        refine setOD_ok (show 5 < 7 by decide) ((cb2 (x := .tup (ss.map D.str)) (y := LI ss fun _ => 0) rfl ?_).trans (zipDict_ok nd hn (fun _ => 0) rfl))
        rw [op_ok (x := .lst [.int 0]) (y := .int (((ss.map f).map D.int).length : Nat)) rfl rfl, List.length_map, List.length_map]
        show dMul (.lst [.int 0]) (.int (ss.length : Nat)) = _
        unfold dMul
        dsimp only
        rw [if_pos ⟨by omega, by omega, by rw [List.length_singleton, Int.toNat_natCast]; omega⟩, Int.toNat_natCast, reps rfl]
      obtain ⟨s4', s6', ec⟩ := call_loop (x1 := x1) (x2 := x2) (x3 := x3) (S := tupI (ss.map f)) (R := (PR.call a b ts).d) hn (f := restF f (.call a b ts)) (ss.zip ts) (fun _ => 0) s4 .un (fun p hp => ⟨(List.of_mem_zip hp).1, h4 p.2 (List.of_mem_zip hp).2⟩)
      have ei : fItA dZip (fCons (fOp dIx (fVar 0) (fC (.int 0))) (fCons (fOp dIx (fVar 2) (fC (.int 3))) fNil)) (plain (envA ss x1 x2 x3 (tupI (ss.map f)) (PR.call a b ts).d (.own (DD ss (restF f (.call a b ts)))) s4 (.own (DD ss fun _ => 0)) .un)) = .ok ((ss.zip ts).map fun p => D.par [.str p.1, .str p.2]) := by
        rw [itA2 (x := .tup (ss.map D.str)) (y := .tup (ts.map D.str)) rfl rfl, ← zipD_map]
        rfl
      have eb : (fsSeq (fsSetOD 5 (fCB dZipDict (fCons (fOp dIx (fVar 0) (fC (.int 0))) (fCons (fOp dMulX (fLst (fCons (fC (.int 0)) fNil)) (fCB dLen (fCons (fVar 1) fNil))) fNil)))) (fsSeq (fsFor (fItA dZip (fCons (fOp dIx (fVar 0) (fC (.int 0))) (fCons (fOp dIx (fVar 2) (fC (.int 3))) fNil))) (sgT 2 (sgsCons (sgN 4) (sgsCons (sgN 6) sgsNil))) (fsPut 5 (fVar 6) (fOp dAdd (fOp dIxX (fVar 5) (fVar 6)) (fOp dIxX (fVar 3) (fVar 4))))) (fsMove 3 5))) (envA ss x1 x2 x3 (tupI (ss.map f)) (PR.call a b ts).d (.own (DD ss (restF f (.call a b ts)))) s4 .un .un)
          = .ok (.nx (envA ss x1 x2 x3 (tupI (ss.map f)) (PR.call a b ts).d (.own (DD ss (foldM (restF f (.call a b ts)) (ss.zip ts) fun _ => 0))) s4' .un s6')) := by
        refine (seq_nx e5).trans ((seq_nx ((for_ok ei).trans ec)).trans ?_)
        rfl
      exact (seq_nx ((if_t hT).trans eb)).trans (after_rest hn (.call a b ts) ⟨h1, h2, h3, h4⟩ _ _ _)
/-! ### sums -/
theorem sum_add (ss : List Str) (g h : Str → Int) : (ss.map fun s => g s + h s).sum = (ss.map g).sum + (ss.map h).sum := by
  induction ss with
  | nil => rfl
  | cons s ss ih => simp only [List.map_cons, List.sum_cons, ih]; omega
theorem sum_upd {ss : List Str} (nd : ss.Nodup) {h : Str → Int} {x : Str} {v : Int} (hx : x ∈ ss) : (ss.map (updF h x v)).sum = (ss.map h).sum + v - h x := by
  induction ss with
  | nil => cases hx
  | cons s ss ih =>
    obtain ⟨n1, n2⟩ := List.nodup_cons.mp nd
    simp only [List.map_cons, List.sum_cons]
    by_cases e : s = x
    · subst e
      rw [updF_same, List.map_congr_left (g := h) fun y hy => updF_ne fun z => n1 (by rw [← z]; exact hy)]
      omega
    · rw [updF_ne e, ih n2 ((List.mem_cons.mp hx).elim (fun z => absurd z.symm e) id)]
      omega
theorem sum_cnt {ss : List Str} (nd : ss.Nodup) : ∀ l : List Str, (∀ x ∈ l, x ∈ ss) → (ss.map (cntS l)).sum = l.length
  | [], _ => by
    have : ∀ us : List Str, (us.map (cntS [])).sum = 0 := fun us => by
      induction us with
      | nil => rfl
      | cons u us ih => rw [List.map_cons, List.sum_cons, ih]; rfl
    rw [this]; rfl
  | x :: l, h => by
    have e : cntS (x :: l) = updF (cntS l) x (cntS l x + 1) := by
      funext s
      rw [cntS_cons]
      by_cases e : s = x
      · subst e; rw [updF_same, if_pos rfl]
      · rw [updF_ne e, if_neg e]; omega
    rw [e, sum_upd nd (h x List.mem_cons_self), sum_cnt nd l fun y hy => h y (List.mem_cons_of_mem _ hy), List.length_cons]
    omega
theorem sum_foldM {ss : List Str} (nd : ss.Nodup) (rf : Str → Int) : ∀ (l : List (Str × Str)) (h : Str → Int), (∀ p ∈ l, p.2 ∈ ss) → (ss.map (foldM rf l h)).sum = (ss.map h).sum + (l.map fun p => rf p.1).sum
  | [], h, _ => by rw [foldM]; simp
  | p :: l, h, hl => by
    rw [foldM, sum_foldM nd rf l _ fun q hq => hl q (List.mem_cons_of_mem _ hq), sum_upd nd (hl p List.mem_cons_self), List.map_cons, List.sum_cons]
    omega
theorem sum_rest {ss : List Str} (nd : ss.Nodup) (f : Str → Int) (r : PR) (hr : r.In ss) : (ss.map (restF f r)).sum = (ss.map f).sum - r.takes.length := by
  have h1 := sum_add ss (restF f r) (cntS r.takes)
  rw [sum_cnt nd r.takes (PR.takes_in hr)] at h1
  have h2 : (fun s => restF f r s + cntS r.takes s) = f := by funext s; unfold restF; omega
  rw [h2] at h1
  omega
theorem sum_done {ss : List Str} (nd : ss.Nodup) (f : Str → Int) (r : PR) (hr : r.In ss) : (ss.map (doneF ss f r)).sum = (ss.map f).sum := by
  unfold doneF
  rw [sum_add, sum_cnt nd r.gives (PR.gives_in hr)]
  have hl := r.lens
  have hm : (ss.map (midF ss f r)).sum = (ss.map (restF f r)).sum := by
    cases r with
    | alone a b => rfl
    | meet a b c d => rfl
    | call a b ts =>
      obtain ⟨h1, h2, h3, h4⟩ := hr
      rw [midF, sum_foldM nd _ _ _ fun p hp => h4 p.2 (List.of_mem_zip hp).2]
      have e1 : (ss.map fun _ => (0 : Int)).sum = 0 := by
        have : ∀ us : List Str, (us.map fun _ => (0 : Int)).sum = 0 := fun us => by
          induction us with
          | nil => rfl
          | cons u us ih => rw [List.map_cons, List.sum_cons, ih]; rfl
        exact this ss
      have e2 : ((ss.zip ts).map fun p => restF f (.call a b ts) p.1) = ss.map (restF f (.call a b ts)) := by
        rw [show ((ss.zip ts).map fun p => restF f (.call a b ts) p.1) = ((ss.zip ts).map Prod.fst).map (restF f (.call a b ts)) from by rw [List.map_map]; rfl, List.map_fst_zip (by omega)]
      rw [e1, e2]; omega
  rw [hm, sum_rest nd f r hr]
  omega
end Lk06
namespace Lk06
open PySem FW
/-! ### all steps -/
theorem enum_rules (rs : List PR) : enumD (rs.map PR.d) = rs.zipIdx.map fun p => D.par [.int (p.2 : Nat), p.1.d] := by
  unfold enumD
  rw [List.mapIdx_eq_zipIdx_map, List.zipIdx_map, List.map_map]
  rfl
def stepD (ss : List Str) (f : Str → Int) (p : PR × Nat) : D := .tup [.int (p.2 : Nat), tupI (ss.map (doneF ss f p.1))]
def stepsL (t : PTk) (f : Str → Int) : List D := (t.rules.zipIdx.filter fun p => canB t.ss f p.1).map (stepD t.ss f)
theorem tup_ok2 {r : FW.Env} {fa fb : FE} {x y : D} (e1 : fa r = .ok x) (e2 : fb r = .ok y) : fTup (fCons fa (fCons fb fNil)) r = .ok (.tup [x, y]) := by
  unfold fTup fCons
  rw [e1]
  show (((fb r).bind fun d => _).bind _).bind _ = _
  rw [e2]; rfl
theorem itA1 {d : List D → Res (List D)} {fa : FE} {r : FW.Env} {x : D} (e1 : fa r = .ok x) : fItA d (fCons fa fNil) r = d [x] := by
  unfold fItA fCons
  rw [e1]; rfl
theorem mem_idx {rs : List PR} {p : PR × Nat} (h : p ∈ rs.zipIdx) : p.1 ∈ rs ∧ rs[p.2]? = some p.1 := by
  obtain ⟨r, i⟩ := p
  have := List.mem_zipIdx_iff_getElem?.mp h
  exact ⟨List.mem_of_getElem? this, this⟩
theorem steps_from_ok {m : Nat} {t : PTk} (h : t.Ok m) (hm : m ≤ 12) (nd : t.ss.Nodup) (f : Str → Int) : fn_steps_from [t.d, tupI (t.ss.map f)] = .ok (.lst (stepsL t f)) := by
  have hl := h.len
  have hfew := h.few
  refine fn_rt rfl ?_
  unfold fs_steps_from
  have e1 : fLc (fItA dEnum (fCons (fOp dIx (fVar 0) (fC (.int 3))) fNil)) (gT 2 (gsCons (gN 3) (gsCons (gN 4) gsNil))) (fTest (fCall fn_can (fCons (fVar 0) (fCons (fVar 1) (fCons (fVar 4) fNil))))) (fTup (fCons (fVar 3) (fCons (fVar 4) fNil))) [3, 4] (plain (initE 5 [t.d, tupI (t.ss.map f)])) = .ok (.lst ((t.rules.zipIdx.filter fun p => canB t.ss f p.1).map fun p => D.tup [.int (p.2 : Nat), p.1.d])) := by
    refine plc_of (c := fun p : PR × Nat => D.par [.int (p.2 : Nat), p.1.d]) (l := t.rules.zipIdx) ?_ (by rw [List.length_zipIdx]; omega) fun p hp => ⟨_, rfl, ?_, fun _ => rfl⟩
    · rw [itA1 (x := .tup (t.rules.map PR.d)) rfl, ← enum_rules]; rfl
    · refine test_ok ?_
      rw [call3 (x := t.d) (y := tupI (t.ss.map f)) (z := p.1.d) rfl rfl rfl]
      exact can_ok f p.1 (by omega)
  refine (seq_nx (set_ok (show 2 < 5 by decide) e1)).trans (ret_ok ?_)
  generalize hE : allv _ = env
  have v0 : fVar 0 env = .ok t.d := by rw [← hE]; rfl
  show fLc _ _ fYes _ _ env = .ok (.lst ((t.rules.zipIdx.filter fun p => canB t.ss f p.1).map (stepD t.ss f)))
  subst hE
  refine plc_all (c := fun p : PR × Nat => D.tup [.int (p.2 : Nat), p.1.d]) (l := t.rules.zipIdx.filter fun p => canB t.ss f p.1) (f := stepD t.ss f) ?_ ?_ ?_
  · rfl
  · exact Nat.le_trans (List.length_filter_le _ _) (by rw [List.length_zipIdx]; omega)
  intro p hp
  refine ⟨[some t.d, some (tupI (t.ss.map f)), some (.lst ((t.rules.zipIdx.filter fun p => canB t.ss f p.1).map fun p => D.tup [.int (p.2 : Nat), p.1.d])), some (.int (p.2 : Nat)), some p.1.d], rfl, ?_⟩
  refine tup_ok2 rfl ?_
  rw [call3 (x := t.d) (y := tupI (t.ss.map f)) (z := p.1.d) rfl rfl rfl]
  exact done_ok nd f p.1 (by omega) (h.inn _ (mem_idx (List.mem_filter.mp hp).1).1)
theorem on_loop {m : Nat} {t : PTk} (h : t.Ok m) (nd : t.ss.Nodup) {f : Str → Int} (hf : ∀ s ∈ t.ss, 0 ≤ f s) : ∀ (l : List (PR × Nat)) (acc : List D) (s3 s4 s5 : Sl), (∀ p ∈ l, p.1.In t.ss) → acc.length + l.length ≤ 1000 → ∃ s3' s4' s5',
    forF (sgT 2 (sgsCons (sgN 3) (sgsCons (sgN 4) sgsNil))) (fsSeq (fsSet 5 (fCall fn_Lafter (fCons (fVar 0) (fCons (fVar 1) (fCons (fVar 4) fNil))))) (fsIf (fTest (fOp dIsNot (fVar 5) (fC .non))) (fsApp 2 (fTup (fCons (fVar 3) (fCons (fVar 5) fNil)))) fsSkip)) (l.map fun p => D.par [.int (p.2 : Nat), p.1.d]) [.val t.d, .val (tupI (t.ss.map f)), .own (.lst acc), s3, s4, s5]
      = .ok (.nx [.val t.d, .val (tupI (t.ss.map f)), .own (.lst (acc ++ (l.filter fun p => canB t.ss f p.1).map (stepD t.ss f))), s3', s4', s5'])
  | [], acc, s3, s4, s5, _, _ => ⟨s3, s4, s5, by simp only [List.filter_nil, List.map_nil, List.append_nil]; rfl⟩
  | p :: l, acc, s3, s4, s5, hl, ha => by
    have hlen := h.len
    rw [List.length_cons] at ha
    have ea : fCall fn_Lafter (fCons (fVar 0) (fCons (fVar 1) (fCons (fVar 4) fNil))) (plain [.val t.d, .val (tupI (t.ss.map f)), .own (.lst acc), .val (.int (p.2 : Nat)), .val p.1.d, s5]) = .ok (if canB t.ss f p.1 = true then tupI (t.ss.map (doneF t.ss f p.1)) else .non) := by
      rw [call3 (x := t.d) (y := tupI (t.ss.map f)) (z := p.1.d) rfl rfl rfl]
      exact after_ok nd f p.1 (by omega) (hl p List.mem_cons_self) hf
    rw [List.map_cons]
    cases hc : canB t.ss f p.1 with
    | false =>
      rw [hc, if_neg (by decide)] at ea
      obtain ⟨s3', s4', s5', e⟩ := on_loop h nd hf l acc (.val (.int (p.2 : Nat))) (.val p.1.d) (.val .non) (fun q hq => hl q (List.mem_cons_of_mem _ hq)) (by omega)
      refine ⟨s3', s4', s5', ?_⟩
      show ((fsSeq (fsSet 5 (fCall fn_Lafter (fCons (fVar 0) (fCons (fVar 1) (fCons (fVar 4) fNil))))) (fsIf (fTest (fOp dIsNot (fVar 5) (fC .non))) (fsApp 2 (fTup (fCons (fVar 3) (fCons (fVar 5) fNil)))) fsSkip)) [.val t.d, .val (tupI (t.ss.map f)), .own (.lst acc), .val (.int (p.2 : Nat)), .val p.1.d, s5]).bind _ = _
      rw [seq_nx (set_ok (show 5 < 6 by decide) ea), if_f (tst_isnot (x := .non) (y := .non) rfl rfl rfl), List.filter_cons_of_neg (by rw [hc]; decide)]
      exact e
    | true =>
      rw [hc, if_pos rfl] at ea
      obtain ⟨s3', s4', s5', e⟩ := on_loop h nd hf l (acc ++ [stepD t.ss f p]) (.val (.int (p.2 : Nat))) (.val p.1.d) (.val (tupI (t.ss.map (doneF t.ss f p.1)))) (fun q hq => hl q (List.mem_cons_of_mem _ hq)) (by rw [List.length_append, List.length_singleton]; omega)
      refine ⟨s3', s4', s5', ?_⟩
      have eap : fsApp 2 (fTup (fCons (fVar 3) (fCons (fVar 5) fNil))) [.val t.d, .val (tupI (t.ss.map f)), .own (.lst acc), .val (.int (p.2 : Nat)), .val p.1.d, .val (tupI (t.ss.map (doneF t.ss f p.1)))] = .ok (.nx [.val t.d, .val (tupI (t.ss.map f)), .own (.lst (acc ++ [stepD t.ss f p])), .val (.int (p.2 : Nat)), .val p.1.d, .val (tupI (t.ss.map (doneF t.ss f p.1)))]) := by
        show (if acc.length < 100000 then _ else _) = _
        rw [if_pos (by omega)]
        rfl
      show ((fsSeq (fsSet 5 (fCall fn_Lafter (fCons (fVar 0) (fCons (fVar 1) (fCons (fVar 4) fNil))))) (fsIf (fTest (fOp dIsNot (fVar 5) (fC .non))) (fsApp 2 (fTup (fCons (fVar 3) (fCons (fVar 5) fNil)))) fsSkip)) [.val t.d, .val (tupI (t.ss.map f)), .own (.lst acc), .val (.int (p.2 : Nat)), .val p.1.d, s5]).bind _ = _
      rw [seq_nx (set_ok (show 5 < 6 by decide) ea), if_t (tst_isnot (x := tupI (t.ss.map (doneF t.ss f p.1))) (y := .non) rfl rfl rfl)]
      show (fsApp 2 (fTup (fCons (fVar 3) (fCons (fVar 5) fNil))) [.val t.d, .val (tupI (t.ss.map f)), .own (.lst acc), .val (.int (p.2 : Nat)), .val p.1.d, .val (tupI (t.ss.map (doneF t.ss f p.1)))]).bind _ = _
      rw [eap, List.filter_cons_of_pos (by rw [hc]), List.map_cons]
      rw [List.append_assoc] at e
      exact e
theorem steps_on_ok {m : Nat} {t : PTk} (h : t.Ok m) (hm : m ≤ 12) (nd : t.ss.Nodup) {f : Str → Int} (hf : ∀ s ∈ t.ss, 0 ≤ f s) : fn_Lsteps_on [t.d, tupI (t.ss.map f)] = .ok (.lst (stepsL t f)) := by
  have hfew := h.few
  refine fn_rt rfl ?_
  unfold fs_Lsteps_on
  refine (seq_nx (r' := [.val t.d, .val (tupI (t.ss.map f)), .own (.lst []), .un, .un, .un]) rfl).trans ?_
  obtain ⟨s3, s4, s5, e⟩ := on_loop h nd hf t.rules.zipIdx [] .un .un .un (fun p hp => h.inn _ (mem_idx hp).1) (by rw [List.length_zipIdx]; simp only [List.length_nil]; omega)
  have ei : fItA dEnum (fCons (fOp dIx (fVar 0) (fC (.int 3))) fNil) (plain [.val t.d, .val (tupI (t.ss.map f)), .own (.lst []), .un, .un, .un]) = .ok (t.rules.zipIdx.map fun p => D.par [.int (p.2 : Nat), p.1.d]) := by
    rw [itA1 (x := .tup (t.rules.map PR.d)) rfl, ← enum_rules]; rfl
  exact (seq_nx ((for_ok ei).trans e)).trans (ret_ok rfl)
/-! ### may, behind -/
section
variable {m : Nat} {t : PTk} {f : Str → Int}
end
end Lk06
namespace Lk06
open PySem FW
/-! ### starts -/
def begunL (t : PTk) (n : Int) : List Int := t.crew.take (t.ss.idxOf t.home) ++ ((t.crew.getD (t.ss.idxOf t.home) 0 + n) :: t.crew.drop (t.ss.idxOf t.home + 1))
theorem begun_ok {m : Nat} {t : PTk} (h : t.Ok m) (n : Int) : fn_begun [t.d, .int n] = .ok (tupI (begunL t n)) := by
  have hl := h.len
  have hc := h.crew.1
  have ha : t.ss.idxOf t.home < t.ss.length := List.idxOf_lt_length_iff.mpr h.home
  refine fn_rt rfl ?_
  unfold fs_begun
  refine (seq_nx (set_ok (d := .int (t.ss.idxOf t.home : Nat)) (show 2 < 3 by decide) (tix_ok h.home rfl rfl))).trans (ret_ok ?_)
  generalize hE : allv _ = env
  have v2 : fVar 2 env = .ok (.int (t.ss.idxOf t.home : Nat)) := by rw [← hE]; rfl
  have v1 : fVar 1 env = .ok (.int n) := by rw [← hE]; rfl
  have vc : fOp dIx (fVar 0) (fC (.int 2)) env = .ok (tupI t.crew) := by rw [← hE]; rfl
  have c1 : fCut (fOp dIx (fVar 0) (fC (.int 2))) fNo (fPart (fVar 2)) env = .ok (.tup ((t.crew.map D.int).take (t.ss.idxOf t.home))) := by
    unfold fCut
    rw [vc]
    show (fPart (fVar 2) env).bind (fun hi => dCut (tupI t.crew) none hi) = _
    unfold fPart
    rw [v2]
    exact cut_to (by rw [List.length_map]; omega)
  have c2 : fCut (fOp dIx (fVar 0) (fC (.int 2))) (fPart (fOp dAdd (fVar 2) (fC (.int 1)))) fNo env = .ok (.tup ((t.crew.map D.int).drop (t.ss.idxOf t.home + 1))) := by
    unfold fCut
    rw [vc]
    show (fPart (fOp dAdd (fVar 2) (fC (.int 1))) env).bind (fun lo => dCut (tupI t.crew) lo none) = _
    unfold fPart
    rw [op_ok (y := .int 1) v2 rfl]
    exact cut_from (k := t.ss.idxOf t.home + 1) (by rw [List.length_map]; omega)
  have gx : fOp dIx (fOp dIx (fVar 0) (fC (.int 2))) (fVar 2) env = .ok (.int (t.crew.getD (t.ss.idxOf t.home) 0)) := by
    rw [op_ok vc v2]
    refine ix_tup ?_
    rw [List.getElem?_map, List.getD_eq_getElem?_getD, List.getElem?_eq_getElem (by omega)]
    rfl
  have c3 : fTup (fCons (fOp dAdd (fOp dIx (fOp dIx (fVar 0) (fC (.int 2))) (fVar 2)) (fVar 1)) fNil) env = .ok (.tup [.int (t.crew.getD (t.ss.idxOf t.home) 0 + n)]) := by
    unfold fTup fCons
    rw [op_ok gx v1]; rfl
  rw [op_ok (x := .tup ((t.crew.map D.int).take (t.ss.idxOf t.home) ++ [.int (t.crew.getD (t.ss.idxOf t.home) 0 + n)])) ?_ c2]
  · rw [add_tup (by simp only [List.length_append, List.length_take, List.length_drop, List.length_map, List.length_cons, List.length_nil]; omega)]
    unfold begunL tupI
    rw [List.map_append, List.map_cons, ← List.map_take, ← List.map_drop, List.append_assoc]
    rfl
  · rw [op_ok c1 c3]
    exact add_tup (by simp only [List.length_take, List.length_map, List.length_cons, List.length_nil]; omega)
end Lk06
namespace Lk06
open PySem FW
/-! ### the law's own -/
def atL (t : PTk) (n : Int) : List Int := (t.ss.zip t.crew).map fun p => if (p.1 == t.home) = true then p.2 + n else p.2
theorem at_loop {t : PTk} {n : Int} : ∀ (l : List (Str × Int)) (acc : List Int) (s3 s4 : Sl), acc.length + l.length ≤ 1000 → ∃ s3' s4',
    forF (sgT 2 (sgsCons (sgN 3) (sgsCons (sgN 4) sgsNil))) (fsApp 2 (fIf (fTest (fOp dEq (fVar 3) (fOp dIx (fVar 0) (fC (.int 1))))) (fOp dAdd (fVar 4) (fVar 1)) (fVar 4))) (l.map fun p => D.par [.str p.1, .int p.2]) [.val t.d, .val (.int n), .own (.lst (acc.map D.int)), s3, s4]
      = .ok (.nx [.val t.d, .val (.int n), .own (.lst ((acc ++ l.map fun p => if (p.1 == t.home) = true then p.2 + n else p.2).map D.int)), s3', s4'])
  | [], acc, s3, s4, _ => ⟨s3, s4, by rw [List.map_nil, List.map_nil, List.append_nil]; rfl⟩
  | p :: l, acc, s3, s4, hl => by
    rw [List.length_cons] at hl
    obtain ⟨s3', s4', e⟩ := at_loop (t := t) (n := n) l (acc ++ [if (p.1 == t.home) = true then p.2 + n else p.2]) (.val (.str p.1)) (.val (.int p.2)) (by rw [List.length_append, List.length_singleton]; omega)
    refine ⟨s3', s4', ?_⟩
    have hb : fsApp 2 (fIf (fTest (fOp dEq (fVar 3) (fOp dIx (fVar 0) (fC (.int 1))))) (fOp dAdd (fVar 4) (fVar 1)) (fVar 4)) [.val t.d, .val (.int n), .own (.lst (acc.map D.int)), .val (.str p.1), .val (.int p.2)] = .ok (.nx [.val t.d, .val (.int n), .own (.lst ((acc ++ [if (p.1 == t.home) = true then p.2 + n else p.2]).map D.int)), .val (.str p.1), .val (.int p.2)]) := by
      have ef : fIf (fTest (fOp dEq (fVar 3) (fOp dIx (fVar 0) (fC (.int 1))))) (fOp dAdd (fVar 4) (fVar 1)) (fVar 4) (plain [.val t.d, .val (.int n), .own (.lst (acc.map D.int)), .val (.str p.1), .val (.int p.2)]) = .ok (.int (if (p.1 == t.home) = true then p.2 + n else p.2)) := by
        have et : fTest (fOp dEq (fVar 3) (fOp dIx (fVar 0) (fC (.int 1)))) (plain [.val t.d, .val (.int n), .own (.lst (acc.map D.int)), .val (.str p.1), .val (.int p.2)]) = .ok (p.1 == t.home) := tst_eq (x := .str p.1) (y := .str t.home) rfl rfl (eq_str _ _)
        cases hb : (p.1 == t.home) with
        | true => rw [hb] at et; rw [fif_t et]; rfl
        | false => rw [hb] at et; rw [fif_f et]; rfl
      show (if (acc.map D.int).length < 100000 then (_ : Res D).bind _ else _) = _
      rw [if_pos (by rw [List.length_map]; omega), ef]
      rw [List.map_append]
      rfl
    rw [List.map_cons, List.map_cons]
    show ((fsApp 2 (fIf (fTest (fOp dEq (fVar 3) (fOp dIx (fVar 0) (fC (.int 1))))) (fOp dAdd (fVar 4) (fVar 1)) (fVar 4)) [.val t.d, .val (.int n), .own (.lst (acc.map D.int)), .val (.str p.1), .val (.int p.2)]).bind _) = _
    rw [hb]
    rw [List.append_assoc] at e
    exact e
theorem at_start_ok {m : Nat} {t : PTk} (h : t.Ok m) (n : Int) : fn_Lat_start [t.d, .int n] = .ok (tupI (atL t n)) := by
  have hl := h.len
  have hc := h.crew.1
  refine fn_rt rfl ?_
  unfold fs_Lat_start
  refine (seq_nx (r' := [.val t.d, .val (.int n), .own (.lst []), .un, .un]) rfl).trans ?_
  obtain ⟨s3, s4, e⟩ := at_loop (t := t) (n := n) (t.ss.zip t.crew) [] .un .un (by rw [List.length_zip]; simp only [List.length_nil]; omega)
  refine (seq_nx (r' := [.val t.d, .val (.int n), .own (.lst ((atL t n).map D.int)), s3, s4]) ?_).trans (ret_ok rfl)
  unfold fsFor
  have ei : fItA dZip (fCons (fOp dIx (fVar 0) (fC (.int 0))) (fCons (fOp dIx (fVar 0) (fC (.int 2))) fNil)) (plain [.val t.d, .val (.int n), .own (.lst []), .un, .un]) = .ok ((t.ss.zip t.crew).map fun p => D.par [.str p.1, .int p.2]) := by
    rw [← zipD_map]; rfl
  rw [ei]
  exact e
theorem at_idx : ∀ (ss : List Str) (cr : List Int) (x : Str) (n : Int), ss.Nodup → x ∈ ss → cr.length = ss.length →
    (ss.zip cr).map (fun p => if (p.1 == x) = true then p.2 + n else p.2) = cr.take (ss.idxOf x) ++ ((cr.getD (ss.idxOf x) 0 + n) :: cr.drop (ss.idxOf x + 1))
  | [], _, _, _, _, h, _ => by cases h
  | s :: ss, [], _, _, _, _, h => by cases h
  | s :: ss, c :: cr, x, n, nd, hx, hl => by
    obtain ⟨n1, n2⟩ := List.nodup_cons.mp nd
    rw [List.zip_cons_cons, List.map_cons]
    have hl' : cr.length = ss.length := by simpa using hl
    by_cases e : s = x
    · subst e
      have e2 : (ss.zip cr).map (fun p => if (p.1 == s) = true then p.2 + n else p.2) = cr := by
        have : ∀ (us : List Str) (ds : List Int), s ∉ us → ds.length = us.length → (us.zip ds).map (fun p => if (p.1 == s) = true then p.2 + n else p.2) = ds := by
          intro us
          induction us with
          | nil => intro ds _ h; cases ds with
            | nil => rfl
            | cons _ _ => cases h
          | cons u us ih =>
            intro ds h1 h2
            cases ds with
            | nil => cases h2
            | cons d ds =>
              rw [List.zip_cons_cons, List.map_cons, ih ds (fun z => h1 (List.mem_cons_of_mem _ z)) (by simpa using h2)]
              have : (u == s) = false := beq_eq_false_iff_ne.mpr fun z => h1 (by rw [z]; exact List.mem_cons_self)
              dsimp only
              rw [this]; rfl
        exact this ss cr n1 hl'
      rw [e2, List.idxOf_cons_self]
      simp
    · have hx' : x ∈ ss := (List.mem_cons.mp hx).elim (fun z => absurd z.symm e) id
      have hb : (s == x) = false := beq_eq_false_iff_ne.mpr e
      rw [at_idx ss cr x n n2 hx' hl', List.idxOf_cons, hb]
      simp
theorem four_nodup {ss : List Str} (h : ∃ n, 2 ≤ n ∧ n ≤ 4 ∧ ss = four.take n) : ss.Nodup := by
  obtain ⟨n, _, _, rfl⟩ := h
  exact (List.take_sublist n four).nodup (by decide +kernel)
theorem at_begun {m : Nat} {t : PTk} (h : t.Ok m) (n : Int) : atL t n = begunL t n := at_idx t.ss t.crew t.home n (four_nodup h.ss) h.home h.crew.1
theorem sum_begun {m : Nat} {t : PTk} (h : t.Ok m) (n : Int) : (begunL t n).sum = t.crew.sum + n := by
  have ha : t.ss.idxOf t.home < t.crew.length := by rw [h.crew.1]; exact List.idxOf_lt_length_iff.mpr h.home
  unfold begunL
  have e : t.crew = t.crew.take (t.ss.idxOf t.home) ++ (t.crew.getD (t.ss.idxOf t.home) 0 :: t.crew.drop (t.ss.idxOf t.home + 1)) := by
    rw [List.getD_eq_getElem?_getD, List.getElem?_eq_getElem ha, Option.getD_some, ← List.drop_eq_getElem_cons ha, List.take_append_drop]
  have e2 := congrArg List.sum e
  rw [List.sum_append, List.sum_cons] at e2
  rw [List.sum_append, List.sum_cons, e2]
  omega
theorem begun_cnt {m : Nat} {t : PTk} (h : t.Ok m) {n : Int} (h0 : 0 ≤ n) (h1 : n ≤ 9000) : (begunL t n).length = t.ss.length ∧ ∀ x ∈ begunL t n, 0 ≤ x ∧ x ≤ 9999 := by
  rw [← at_begun h]
  unfold atL
  refine ⟨by rw [List.length_map, List.length_zip, h.crew.1, Nat.min_self], fun x hx => ?_⟩
  obtain ⟨p, hp, rfl⟩ := List.mem_map.mp hx
  have := h.crew.2 p.2 (List.of_mem_zip hp).2
  split <;> omega
end Lk06
namespace Lk06
open PySem FW
theorem for_go {fi : FI} {sg : SG} {body : FS} {r : Env2} {ds : List D} (e : fi (plain r) = .ok ds) : fsFor fi sg body r = forF sg body ds r := by
  unfold fsFor
  rw [e]
theorem forF_inv {α : Type} {sg : SG} {body : FS} (f : α → D) (I : List α → Env2 → Prop) (h : ∀ x l r, I (x :: l) r → ∃ r1 r2, sg (f x) r = .ok r1 ∧ body r1 = .ok (.nx r2) ∧ I l r2) : ∀ (l : List α) (r : Env2), I l r → ∃ r', forF sg body (l.map f) r = .ok (.nx r') ∧ I [] r'
  | [], r, hI => ⟨r, rfl, hI⟩
  | x :: l, r, hI => by
    obtain ⟨r1, r2, e1, e2, h2⟩ := h x l r hI
    obtain ⟨r', e3, h3⟩ := forF_inv f I h l r2 h2
    refine ⟨r', ?_, h3⟩
    rw [List.map_cons]
    show ((sg (f x) r).calm.bind fun r1 => (body r1).bind _) = _
    rw [e1]
    show (body r1).bind _ = _
    rw [e2]
    exact e3
theorem upto_map (n : Nat) : upto 0 n = (List.range' 0 n).map fun i => D.int (i : Nat) := by
  unfold upto
  rw [List.range_eq_range']
  exact List.map_congr_left fun i _ => by rw [Int.zero_add]
theorem range_ok {n : Nat} (hn : n ≤ 1000) : dRange1 [.int (n : Nat)] = .ok ((List.range' 0 n).map fun i => D.int (i : Nat)) := by
  show (if ((n : Nat) : Int) ≤ 1000000 ∧ -1000000 ≤ ((n : Nat) : Int) then Res.ok (upto 0 (n : Int).toNat) else .bad) = _
  rw [if_pos ⟨by omega, by omega⟩, Int.toNat_natCast, upto_map]
theorem hshI (i : Int) : (D.int i).hsh = true := by rw [D.hsh]
end Lk06
namespace Lk06
open PySem FW
/-! ### standings by rows -/
abbrev Row := List Int
def fOf (ss : List Str) (v : Row) : Str → Int := fun s => v.getD (ss.idxOf s) 0
theorem map_fOf : ∀ {ss : List Str} {v : Row}, ss.Nodup → v.length = ss.length → ss.map (fOf ss v) = v
  | [], [], _, _ => rfl
  | [], _ :: _, _, h => by cases h
  | _ :: _, [], _, h => by cases h
  | s :: ss, x :: v, nd, h => by
    obtain ⟨n1, n2⟩ := List.nodup_cons.mp nd
    have ih := map_fOf (ss := ss) (v := v) n2 (by simpa using h)
    rw [List.map_cons]
    have e0 : fOf (s :: ss) (x :: v) s = x := by unfold fOf; rw [List.idxOf_cons_self]; rfl
    rw [e0]
    congr 1
    refine Eq.trans (List.map_congr_left (g := fOf ss v) fun y hy => ?_) ih
    have hb : (s == y) = false := beq_eq_false_iff_ne.mpr fun z => n1 (by rw [z]; exact hy)
    unfold fOf
    rw [List.idxOf_cons, hb]
    simp
/-- a standing of so many ends -/
structure Gd1 (t : PTk) (T : Int) (v : Row) : Prop where
  len : v.length = t.ss.length
  nn : ∀ x ∈ v, 0 ≤ x
  sum : v.sum = T
theorem fOf_nn {ss : List Str} {v : Row} (h : ∀ x ∈ v, 0 ≤ x) (s : Str) : 0 ≤ fOf ss v s := by
  unfold fOf
  rw [List.getD_eq_getElem?_getD]
  cases e : v[ss.idxOf s]? with
  | none => exact Int.le_refl 0
  | some x => exact h x (List.mem_of_getElem? e)
theorem foldM_nn {ss : List Str} {rf : Str → Int} : ∀ (l : List (Str × Str)) (h : Str → Int), (∀ p ∈ l, 0 ≤ rf p.1) → (∀ s, 0 ≤ h s) → ∀ s, 0 ≤ foldM rf l h s
  | [], h, _, h0 => h0
  | p :: l, h, h1, h0 => by
    rw [foldM]
    refine foldM_nn (ss := ss) l _ (fun q hq => h1 q (List.mem_cons_of_mem _ hq)) fun s => ?_
    unfold updF
    split
    · have := h1 p List.mem_cons_self
      have := h0 p.2
      omega
    · exact h0 s
theorem rest_nn {ss : List Str} {f : Str → Int} {r : PR} (hc : canB ss f r = true) : ∀ s ∈ ss, 0 ≤ restF f r s := fun s hs => by
  have := of_decide_eq_true (List.all_eq_true.mp hc s hs)
  unfold restF
  omega
theorem done_nn {ss : List Str} {f : Str → Int} {r : PR} (hc : canB ss f r = true) : ∀ s ∈ ss, 0 ≤ doneF ss f r s := fun s hs => by
  have hg := cntS_nn r.gives s
  have hm : 0 ≤ midF ss f r s := by
    cases r with
    | alone a b => exact rest_nn hc s hs
    | meet a b c d => exact rest_nn hc s hs
    | call a b ts => exact foldM_nn (ss := ss) _ _ (fun p hp => rest_nn hc p.1 (List.of_mem_zip hp).1) (fun _ => Int.le_refl 0) s
  unfold doneF
  omega
def sucP (t : PTk) (v : Row) : List (Nat × Row) := (t.rules.zipIdx.filter fun p => canB t.ss (fOf t.ss v) p.1).map fun p => (p.2, t.ss.map (doneF t.ss (fOf t.ss v) p.1))
theorem suc_good {m : Nat} {t : PTk} (h : t.Ok m) (nd : t.ss.Nodup) {T : Int} {v : Row} (hv : Gd1 t T v) : ∀ p ∈ sucP t v, Gd1 t T p.2 := fun p hp => by
  obtain ⟨q, hq, rfl⟩ := List.mem_map.mp hp
  obtain ⟨hq1, hq2⟩ := List.mem_filter.mp hq
  refine ⟨by rw [List.length_map], fun x hx => ?_, ?_⟩
  · obtain ⟨s, hs, rfl⟩ := List.mem_map.mp hx
    exact done_nn hq2 s hs
  · show (t.ss.map (doneF t.ss (fOf t.ss v) q.1)).sum = T
    rw [sum_done nd _ _ (h.inn _ (mem_idx hq1).1), map_fOf nd hv.len, hv.sum]
theorem suc_few {m : Nat} {t : PTk} (h : t.Ok m) (v : Row) : (sucP t v).length ≤ m := by
  unfold sucP
  rw [List.length_map]
  exact Nat.le_trans (List.length_filter_le _ _) (by rw [List.length_zipIdx]; exact h.few)
abbrev stpD (p : Nat × Row) : D := .tup [.int (p.1 : Nat), tupI p.2]
theorem steps_on_row {m : Nat} {t : PTk} (h : t.Ok m) (hm : m ≤ 12) (nd : t.ss.Nodup) {T : Int} {v : Row} (hv : Gd1 t T v) : fn_Lsteps_on [t.d, tupI v] = .ok (.lst ((sucP t v).map stpD)) := by
  have := steps_on_ok h hm nd (f := fOf t.ss v) (fun s _ => fOf_nn hv.nn s)
  rw [map_fOf nd hv.len] at this
  rw [this]
  unfold stepsL sucP
  rw [List.map_map]
  rfl
/-! ### all standings of so many ends -/
def allOf : Nat → Nat → List Row
  | 0, _ => []
  | 1, k => [[(k : Nat)]]
  | n + 2, k => (List.range (k + 1)).flatMap fun i => (allOf (n + 1) (k - i)).map fun r => ((i : Nat) : Int) :: r
theorem mem_allOf : ∀ (n k : Nat) (v : Row), v.length = n + 1 → (∀ x ∈ v, 0 ≤ x) → v.sum = k → v ∈ allOf (n + 1) k
  | 0, k, [x], _, h, hs => by
    have : x = k := by simpa using hs
    rw [this]; exact List.mem_singleton.mpr rfl
  | n + 1, k, x :: v, hl, h, hs => by
    have hx := h x List.mem_cons_self
    rw [List.sum_cons] at hs
    have hv : 0 ≤ v.sum := by
      have : ∀ l : Row, (∀ x ∈ l, 0 ≤ x) → 0 ≤ l.sum := fun l => by
        induction l with
        | nil => intro _; exact Int.le_refl 0
        | cons y l ih =>
          intro h
          rw [List.sum_cons]
          have := h y List.mem_cons_self
          have := ih fun z hz => h z (List.mem_cons_of_mem _ hz)
          omega
      exact this v fun z hz => h z (List.mem_cons_of_mem _ hz)
    refine List.mem_flatMap.mpr ⟨x.toNat, List.mem_range.mpr (by omega), List.mem_map.mpr ⟨v, mem_allOf n (k - x.toNat) v (by simpa using hl) (fun z hz => h z (List.mem_cons_of_mem _ hz)) (by omega), ?_⟩⟩
    rw [Int.toNat_of_nonneg hx]
theorem allOf_few : ∀ n, n ≤ 4 → ∀ k, k ≤ 12 → (allOf n k).length ≤ 455 := by decide +kernel
/-! ### the law's own runs -/
abbrev Fd := List (Row × D)
def dkv (F : Fd) : List (D × D) := F.map fun p => (tupI p.1, p.2)
theorem keyT_ints (v : Row) : keyT (tupI v) = some (v.map Sum.inl) := by
  have : (v.map D.int) = (v.map Sum.inl).map kD := by rw [List.map_map]; rfl
  unfold tupI
  rw [this]
  exact keyT_kD _
theorem keyI_ints (v : Row) : keyI (tupI v) = some (v.map Sum.inl) := by
  unfold keyI
  rw [keyT_ints]
  show (if intsK (v.map Sum.inl) = true then _ else _) = _
  rw [if_pos]
  unfold intsK
  rw [List.all_map]
  exact List.all_eq_true.mpr fun _ _ => rfl
theorem inl_inj {v u : Row} (h : v.map (Sum.inl : Int → L2.Key) = u.map Sum.inl) : v = u := by
  induction v generalizing u with
  | nil => cases u with
    | nil => rfl
    | cons _ _ => cases h
  | cons x v ih => cases u with
    | nil => cases h
    | cons y u =>
      rw [List.map_cons, List.map_cons] at h
      injection h with h1 h2
      injection h1 with h1
      rw [h1, ih h2]
theorem dec_key (v u : Row) : decide (keyT (tupI v) = some (u.map Sum.inl)) = decide (v = u) := by
  rw [keyT_ints]
  refine decide_eq_decide.mpr ⟨fun h => inl_inj (Option.some.inj h), fun h => by rw [h]⟩
theorem any_dkv (F : Fd) (v : Row) : ((dkv F).any fun kv => decide (keyT kv.1 = some (v.map Sum.inl))) = decide (v ∈ Bfs.keys F) := by
  unfold dkv Bfs.keys
  rw [List.any_map]
  induction F with
  | nil => rfl
  | cons p F ih =>
    rw [List.any_cons, ih, List.map_cons]
    show (decide (keyT (tupI p.1) = some (v.map Sum.inl)) || _) = _
    rw [dec_key]
    by_cases e : p.1 = v
    · subst e; simp
    · rw [decide_eq_false e, Bool.false_or]
      exact decide_eq_decide.mpr ⟨fun h => List.mem_cons_of_mem _ h, fun h => (List.mem_cons.mp h).elim (fun z => absurd z.symm e) id⟩
theorem val_dkv (F : Fd) (v : Row) : (valT (dkv F) (v.map Sum.inl)).isSome = decide (v ∈ Bfs.keys F) := by
  rw [← any_dkv]
  unfold valT
  rw [Option.isSome_map, Bool.eq_iff_iff, List.find?_isSome, List.any_eq_true]
theorem notin_dkv (F : Fd) (v : Row) : dNotInT (tupI v) (.dtt (dkv F)) = .ok (.bl (!decide (v ∈ Bfs.keys F))) := by
  show (match keyI (tupI v) with | some k => Res.ok (D.bl (!(valT (dkv F) k).isSome)) | none => .bad) = _
  rw [keyI_ints]
  show Res.ok (D.bl (!(valT (dkv F) (v.map Sum.inl)).isSome)) = _
  rw [val_dkv]
theorem put_dkv {F : Fd} {v : Row} {d : D} (h : v ∉ Bfs.keys F) : putT (dkv F) (v.map Sum.inl) d = dkv (F ++ [(v, d)]) := by
  unfold putT
  rw [any_dkv, decide_eq_false h, if_neg (by decide)]
  unfold dkv
  rw [List.map_append, List.map_map]
  rfl
theorem hsh_row (v : Row) : (tupI v).hsh = true := by
  have : ∀ v : Row, D.hshs (v.map D.int) = true := fun v => by
    induction v with
    | nil => rw [List.map_nil, D.hshs]
    | cons x v ih => rw [List.map_cons, D.hshs, D.hsh, ih]; rfl
  unfold tupI
  rw [D.hsh]
  exact this v
theorem putT_ok {i : Nat} {fk fv : FE} {r : Env2} {F : Fd} {v : Row} {d : D} (hr : r[i]? = some (.own (.dtt (dkv F)))) (ev : fv (allv r) = .ok d) (hd : d.hsh = true) (ek : fk (allv r) = .ok (tupI v)) (hv : v ∉ Bfs.keys F) (hl : F.length < 100000) : fsPutT i fk fv r = .ok (.nx (r.set i (.own (.dtt (dkv (F ++ [(v, d)])))))) := by
  unfold fsPutT
  rw [hr]
  dsimp only
  rw [ev]
  show (if d.hsh = true then (fk (allv r)).bind _ else Res.bad) = _
  rw [if_pos hd, ek]
  show (if (tupI v).hsh = true then (match keyI (tupI v) with | some k' => if (dkv F).length < 100000 then Res.ok (Out.nx (r.set i (.own (.dtt (putT (dkv F) k' d))))) else .bad | none => .bad) else Res.bad) = _
  rw [if_pos (hsh_row v), keyI_ints]
  show (if (dkv F).length < 100000 then Res.ok (Out.nx (r.set i (.own (.dtt (putT (dkv F) (v.map Sum.inl) d))))) else .bad) = _
  rw [if_pos (by unfold dkv; rw [List.length_map]; exact hl), put_dkv hv]
abbrev lstT (l : List Row) : D := .lst (l.map tupI)
theorem shp_lstT (l : List Row) : (lstT l).shp = true := by
  have : D.lays (l.map tupI) = true ∧ D.deps (l.map tupI) ≤ 1 := by
    induction l with
    | nil => simp [D.lays, D.deps]
    | cons v l ih =>
      rw [List.map_cons, D.lays, D.deps, D.lay, lays_ints, D.dep, deps_ints, ih.1]
      exact ⟨rfl, Nat.max_le.mpr ⟨Nat.le_refl 1, ih.2⟩⟩
  unfold D.shp
  rw [D.lay, this.1, D.dep, Bool.true_and]
  exact decide_eq_true (by omega)
theorem ne_nil_lstT (l : List Row) : dNe (lstT l) (.lst []) = .ok (.bl (!l.isEmpty)) := by
  show dNe (lstT l) (lstT []) = _
  rw [ne_of_shp (shp_lstT l) (shp_lstT []), D.eqv]
  cases l with
  | nil => rw [List.map_nil, D.eqvs]; rfl
  | cons r l => simp [D.eqvs]
abbrev envC (t : PTk) (first : Row) (F : Fd) (row : List Row) (k : Nat) (s5 s6 s7 s8 : Sl) : Env2 := [.val t.d, .val (tupI first), .own (.dtt (dkv F)), .val (lstT row), .val (.int (k : Nat)), s5, s6, s7, s8]
def nxtC (t : PTk) (k : Nat) (v : Row) : Fd := (sucP t v).map fun p => (p.2, D.int (k : Nat))
theorem fold_len {items : Fd} : ∀ (acc : Fd × List Row), acc.2.length ≤ acc.1.length → (items.foldl Bfs.add acc).1.length ≤ acc.1.length + items.length ∧ (items.foldl Bfs.add acc).2.length ≤ (items.foldl Bfs.add acc).1.length := by
  induction items with
  | nil => intro acc h; exact ⟨Nat.le_refl _, h⟩
  | cons p items ih =>
    intro acc h
    rw [List.foldl_cons, List.length_cons]
    have h1 : (Bfs.add acc p).1.length ≤ acc.1.length + 1 ∧ (Bfs.add acc p).2.length ≤ (Bfs.add acc p).1.length := by
      unfold Bfs.add
      split
      · exact ⟨by omega, h⟩
      · simp; omega
    obtain ⟨a, b⟩ := ih (Bfs.add acc p) h1.2
    exact ⟨by omega, b⟩
theorem come_in {t : PTk} {first : Row} {row : List Row} {k : Nat} {here : D} : ∀ (ps : List (Nat × Row)) (acc : Fd × List Row) (s7 s8 : Sl), acc.2.length ≤ acc.1.length → acc.1.length + ps.length ≤ 50000 → ∃ s7' s8',
    forF (sgT 2 (sgsCons (sgN 7) (sgsCons (sgN 8) sgsNil))) (fsIf (fTest (fOp dNotInT (fVar 8) (fVar 2))) (fsSeq (fsPutT 2 (fVar 8) (fVar 4)) (fsApp 5 (fVar 8))) fsSkip) (ps.map stpD) (envC t first acc.1 row k (.own (lstT acc.2)) (.val here) s7 s8)
      = .ok (.nx (envC t first ((ps.map fun p => (p.2, D.int (k : Nat))).foldl Bfs.add acc).1 row k (.own (lstT ((ps.map fun p => (p.2, D.int (k : Nat))).foldl Bfs.add acc).2)) (.val here) s7' s8'))
  | [], acc, s7, s8, _, _ => ⟨s7, s8, rfl⟩
  | p :: ps, acc, s7, s8, h2, hl => by
    rw [List.length_cons] at hl
    have ht : fTest (fOp dNotInT (fVar 8) (fVar 2)) (allv (envC t first acc.1 row k (.own (lstT acc.2)) (.val here) (.val (.int (p.1 : Nat))) (.val (tupI p.2)))) = .ok (!decide (p.2 ∈ Bfs.keys acc.1)) := test_ok (by rw [op_ok (x := tupI p.2) (y := .dtt (dkv acc.1)) rfl rfl]; exact notin_dkv _ _)
    have hb : fsIf (fTest (fOp dNotInT (fVar 8) (fVar 2))) (fsSeq (fsPutT 2 (fVar 8) (fVar 4)) (fsApp 5 (fVar 8))) fsSkip (envC t first acc.1 row k (.own (lstT acc.2)) (.val here) (.val (.int (p.1 : Nat))) (.val (tupI p.2))) = .ok (.nx (envC t first (Bfs.add acc (p.2, D.int (k : Nat))).1 row k (.own (lstT (Bfs.add acc (p.2, D.int (k : Nat))).2)) (.val here) (.val (.int (p.1 : Nat))) (.val (tupI p.2)))) := by
      by_cases hm : p.2 ∈ Bfs.keys acc.1
      · rw [decide_eq_true hm] at ht
        have e : Bfs.add acc (p.2, D.int (k : Nat)) = acc := by unfold Bfs.add; exact if_pos hm
        rw [e]
        exact if_f ht
      · rw [decide_eq_false hm] at ht
        have e : Bfs.add acc (p.2, D.int (k : Nat)) = (acc.1 ++ [(p.2, D.int (k : Nat))], acc.2 ++ [p.2]) := by unfold Bfs.add; exact if_neg hm
        rw [e]
        refine (if_t ht).trans ?_
        refine (seq_nx (putT_ok (F := acc.1) (v := p.2) (d := .int (k : Nat)) rfl rfl (hshI _) rfl hm (by omega))).trans ?_
        show fsApp 5 (fVar 8) (envC t first (acc.1 ++ [(p.2, D.int (k : Nat))]) row k (.own (lstT acc.2)) (.val here) (.val (.int (p.1 : Nat))) (.val (tupI p.2))) = _
        show (if (acc.2.map tupI).length < 100000 then Res.ok (Out.nx _) else .bad) = _
        rw [if_pos (by rw [List.length_map]; omega)]
        show Res.ok (Out.nx (envC t first (acc.1 ++ [(p.2, D.int (k : Nat))]) row k (.own (.lst (acc.2.map tupI ++ [tupI p.2]))) (.val here) (.val (.int (p.1 : Nat))) (.val (tupI p.2)))) = _
        rw [show acc.2.map tupI ++ [tupI p.2] = (acc.2 ++ [p.2]).map tupI from by rw [List.map_append]; rfl]
    have hadd := fold_len (items := [(p.2, D.int (k : Nat))]) acc h2
    obtain ⟨s7', s8', e⟩ := come_in (t := t) (first := first) (row := row) (k := k) (here := here) ps (Bfs.add acc (p.2, D.int (k : Nat))) (.val (.int (p.1 : Nat))) (.val (tupI p.2)) hadd.2 (by have := hadd.1; simp at this; omega)
    refine ⟨s7', s8', ?_⟩
    rw [List.map_cons]
    show (fsIf _ _ _ (envC t first acc.1 row k (.own (lstT acc.2)) (.val here) (.val (.int (p.1 : Nat))) (.val (tupI p.2)))).bind _ = _
    rw [hb]
    exact e
theorem come_row {m : Nat} {t : PTk} (h : t.Ok m) (hm : m ≤ 12) (nd : t.ss.Nodup) {T : Int} {first : Row} {row : List Row} {k : Nat} : ∀ (l : List Row) (acc : Fd × List Row) (s6 s7 s8 : Sl), (∀ v ∈ l, Gd1 t T v) → acc.2.length ≤ acc.1.length → acc.1.length + l.length * 12 ≤ 50000 → ∃ s6' s7' s8',
    forF (sgN 6) (fsFor (fIter (fCall fn_Lsteps_on (fCons (fVar 0) (fCons (fVar 6) fNil)))) (sgT 2 (sgsCons (sgN 7) (sgsCons (sgN 8) sgsNil))) (fsIf (fTest (fOp dNotInT (fVar 8) (fVar 2))) (fsSeq (fsPutT 2 (fVar 8) (fVar 4)) (fsApp 5 (fVar 8))) fsSkip)) (l.map tupI) (envC t first acc.1 row k (.own (lstT acc.2)) s6 s7 s8)
      = .ok (.nx (envC t first ((l.flatMap (nxtC t k)).foldl Bfs.add acc).1 row k (.own (lstT ((l.flatMap (nxtC t k)).foldl Bfs.add acc).2)) s6' s7' s8'))
  | [], acc, s6, s7, s8, _, _, _ => ⟨s6, s7, s8, rfl⟩
  | v :: l, acc, s6, s7, s8, hg, h2, hl => by
    rw [List.length_cons] at hl
    have hv := hg v List.mem_cons_self
    have hf := suc_few h v
    obtain ⟨s7', s8', e1⟩ := come_in (t := t) (first := first) (row := row) (k := k) (here := tupI v) (sucP t v) acc s7 s8 h2 (by omega)
    have hadd := fold_len (items := nxtC t k v) acc h2
    have hnl : (nxtC t k v).length ≤ 12 := by unfold nxtC; rw [List.length_map]; omega
    obtain ⟨s6'', s7'', s8'', e2⟩ := come_row h hm nd (first := first) (row := row) (k := k) l ((nxtC t k v).foldl Bfs.add acc) (.val (tupI v)) s7' s8' (fun x hx => hg x (List.mem_cons_of_mem _ hx)) hadd.2 (by have := hadd.1; omega)
    refine ⟨s6'', s7'', s8'', ?_⟩
    have ei : fIter (fCall fn_Lsteps_on (fCons (fVar 0) (fCons (fVar 6) fNil))) (plain (envC t first acc.1 row k (.own (lstT acc.2)) (.val (tupI v)) s7 s8)) = .ok ((sucP t v).map stpD) := by
      unfold fIter
      rw [call2 (x := t.d) (y := tupI v) rfl rfl, steps_on_row h hm nd hv]; rfl
    rw [List.map_cons]
    show (fsFor _ _ _ (envC t first acc.1 row k (.own (lstT acc.2)) (.val (tupI v)) s7 s8)).bind _ = _
    rw [(for_go ei).trans e1, List.flatMap_cons, List.foldl_append]
    exact e2
/-- the run of levels ends -/
theorem come_ok {m : Nat} {t : PTk} (h : t.Ok m) (hm : m ≤ 12) (nd : t.ss.Nodup) {T : Nat} (hT : T ≤ 12) {first : Row} (hf : Gd1 t T first) : fn_Lcome_to [t.d, tupI first] = .ok (.dtf (dkv (Bfs.bfs (nxtC t) 10000 0 [(first, .int 0)] [first]))) := by
  have hlen := h.len
  have hU : (allOf t.ss.length T).length ≤ 455 := allOf_few _ (by omega) _ hT
  have hmem : ∀ v, Gd1 t T v → v ∈ allOf t.ss.length T := fun v hv => by
    obtain ⟨n, hn⟩ : ∃ n, t.ss.length = n + 1 := ⟨t.ss.length - 1, by omega⟩
    rw [hn]
    exact mem_allOf n T v (by rw [hv.len, hn]) hv.nn hv.sum
  refine fn_rt rfl ?_
  unfold fs_Lcome_to
  have e0 : fsPar3 2 3 4 .t .v .v (fDispT (fVar 1) (fC (.int 0))) (fLst (fCons (fVar 1) fNil)) (fC (.int 0)) (initE 9 [t.d, tupI first]) = .ok (.nx (envC t first [(first, .int 0)] [first] 0 .un .un .un .un)) := by
    have e1 : fDispT (fVar 1) (fC (.int 0)) (plain (initE 9 [t.d, tupI first])) = .ok (.dtt (dkv [(first, .int 0)])) := by
      show (match keyI (tupI first) with | some ks => Res.ok (D.dtt [(.tup (ks.map kD), .int 0)]) | none => .bad) = _
      rw [keyI_ints]
      show Res.ok (D.dtt [(.tup ((first.map Sum.inl).map kD), .int 0)]) = _
      rw [List.map_map]; rfl
    unfold fsPar3
    rw [e1]; rfl
  refine (seq_nx e0).trans ?_
  let U := (allOf t.ss.length T).filter fun v => decide (v.length = t.ss.length) && (v.all fun x => decide (0 ≤ x)) && decide (v.sum = (T : Int))
  have hUg : ∀ v, v ∈ U ↔ Gd1 t T v := fun v => by
    constructor
    · intro hv
      have := (List.mem_filter.mp hv).2
      rw [Bool.and_eq_true, Bool.and_eq_true, decide_eq_true_iff, decide_eq_true_iff, List.all_eq_true] at this
      exact ⟨this.1.1, fun x hx => of_decide_eq_true (this.1.2 x hx), this.2⟩
    · intro hv
      refine List.mem_filter.mpr ⟨hmem v hv, ?_⟩
      rw [Bool.and_eq_true, Bool.and_eq_true, decide_eq_true_iff, decide_eq_true_iff, List.all_eq_true]
      exact ⟨⟨hv.len, fun x hx => decide_eq_true (hv.nn x hx)⟩, hv.sum⟩
  have hUl : U.length ≤ 455 := Nat.le_trans (List.length_filter_le _ _) hU
  have cl : ∀ k, ∀ x ∈ U, ∀ p ∈ nxtC t k x, p.1 ∈ U := fun k x hx p hp => by
    obtain ⟨q, hq, rfl⟩ := List.mem_map.mp hp
    exact (hUg _).mpr (suc_good h nd ((hUg x).mp hx) q hq)
  have hI : Bfs.Inv U (nxtC t) [(first, D.int 0)] [first] := ⟨by simp [Bfs.keys], fun x hx => by simp [Bfs.keys] at hx; rw [hx]; exact (hUg _).mpr hf, Nat.le_refl _, fun x hx => by simpa [Bfs.keys] using hx⟩
  obtain ⟨k', s5, s6, s7, s8, ew⟩ := Bfs.bfs_ind cl (M := fun n k F row => ∀ s5 s6 s7 s8 : Sl, ∃ (k' : Nat) (s5' s6' s7' s8' : Sl), whileF (fTest (fOp dNe (fVar 3) (fLst fNil))) (fsSeq (fsParVO 4 5 (fOp dAdd (fVar 4) (fC (.int 1))) (fLst fNil)) (fsSeq (fsFor (fIter (fVar 3)) (sgN 6) (fsFor (fIter (fCall fn_Lsteps_on (fCons (fVar 0) (fCons (fVar 6) fNil)))) (sgT 2 (sgsCons (sgN 7) (sgsCons (sgN 8) sgsNil))) (fsIf (fTest (fOp dNotInT (fVar 8) (fVar 2))) (fsSeq (fsPutT 2 (fVar 8) (fVar 4)) (fsApp 5 (fVar 8))) fsSkip))) (fsFreeze 3 5))) n (envC t first F row k s5 s6 s7 s8) = .ok (.nx (envC t first (Bfs.bfs (nxtC t) n k F row) [] k' s5' s6' s7' s8')))
    (fun n k F hI s5 s6 s7 s8 => by
      refine ⟨k, s5, s6, s7, s8, ?_⟩
      have ht : fTest (fOp dNe (fVar 3) (fLst fNil)) (allv (envC t first F [] k s5 s6 s7 s8)) = .ok false := tst_ne (x := lstT []) (y := .lst []) rfl rfl (ne_nil_lstT [])
      rw [Bfs.bfs_end]
      unfold whileF
      rw [ht]; rfl)
    (fun n k F row hne hI ih s5 s6 s7 s8 => by
      have ht : fTest (fOp dNe (fVar 3) (fLst fNil)) (allv (envC t first F row k s5 s6 s7 s8)) = .ok true := tst_ne (x := lstT row) (y := .lst []) rfl rfl (by
        rw [ne_nil_lstT]
        cases row with
        | nil => exact absurd rfl hne
        | cons _ _ => rfl)
      have hfl := hI.few
      have hrl := hI.rl
      have hg : ∀ v ∈ row, Gd1 t T v := fun v hv => (hUg v).mp (hI.sub v (hI.row v hv))
      obtain ⟨t6, t7, t8, el⟩ := come_row h hm nd (first := first) (row := row) (k := k + 1) row (F, []) s6 s7 s8 hg (Nat.zero_le _) (by show F.length + row.length * 12 ≤ 50000; omega)
      obtain ⟨k', u5, u6, u7, u8, ei⟩ := ih (.val (lstT (Bfs.lev (row.flatMap (nxtC t (k + 1))) F).2)) t6 t7 t8
      refine ⟨k', u5, u6, u7, u8, ?_⟩
      rw [Bfs.bfs_step hne, ← ei]
      conv => lhs; unfold whileF
      rw [ht]
      have eb : (fsSeq (fsParVO 4 5 (fOp dAdd (fVar 4) (fC (.int 1))) (fLst fNil)) (fsSeq (fsFor (fIter (fVar 3)) (sgN 6) (fsFor (fIter (fCall fn_Lsteps_on (fCons (fVar 0) (fCons (fVar 6) fNil)))) (sgT 2 (sgsCons (sgN 7) (sgsCons (sgN 8) sgsNil))) (fsIf (fTest (fOp dNotInT (fVar 8) (fVar 2))) (fsSeq (fsPutT 2 (fVar 8) (fVar 4)) (fsApp 5 (fVar 8))) fsSkip))) (fsFreeze 3 5))) (envC t first F row k s5 s6 s7 s8) = .ok (.nx (envC t first (Bfs.lev (row.flatMap (nxtC t (k + 1))) F).1 (Bfs.lev (row.flatMap (nxtC t (k + 1))) F).2 (k + 1) (.val (lstT (Bfs.lev (row.flatMap (nxtC t (k + 1))) F).2)) t6 t7 t8)) := by
        refine (seq_nx (r' := envC t first F row (k + 1) (.own (lstT [])) s6 s7 s8) rfl).trans ?_
        refine (seq_nx ((for_go (ds := row.map tupI) rfl).trans el)).trans ?_
        rfl
      show ((fsSeq _ _ (envC t first F row k s5 s6 s7 s8)).bind _) = _
      rw [eb]) 10000 0 [(first, D.int 0)] [first] hI (.inr (by have := hUl; simp; omega)) .un .un .un .un
  refine (seq_nx ew).trans ?_
  rfl
end Lk06
namespace Lk06
open PySem FW
theorem iterF_ok {F : Fd} {f : FE} {r : FW.Env} (e : f r = .ok (.dtf (dkv F))) : fIterF f r = .ok ((Bfs.keys F).map tupI) := by
  unfold fIterF
  rw [e]
  show (if intsKD (dkv F) = true then Res.ok ((dkv F).map Prod.fst) else .bad) = _
  have hk : intsKD (dkv F) = true := List.all_eq_true.mpr fun kv hkv => by
    obtain ⟨p, _, rfl⟩ := List.mem_map.mp hkv
    show (keyI (tupI p.1)).isSome = true
    rw [keyI_ints]; rfl
  rw [if_pos hk]
  unfold dkv Bfs.keys
  rw [List.map_map, List.map_map]
  rfl
theorem at_good {m : Nat} {t : PTk} (h : t.Ok m) {n : Nat} (hn : n ≤ 4) : ∃ T : Nat, T ≤ 12 ∧ Gd1 t T (atL t n) := by
  have hlen := h.len
  obtain ⟨b1, b2⟩ := begun_cnt h (n := (n : Nat)) (by omega) (by omega)
  rw [← at_begun h] at b1 b2
  have hs : (atL t n).sum = t.crew.sum + n := by rw [at_begun h]; exact sum_begun h n
  have hc : 0 ≤ t.crew.sum ∧ t.crew.sum ≤ 2 * t.crew.length := by
    have := h.crew.2
    generalize t.crew = l at this
    induction l with
    | nil => exact ⟨Int.le_refl 0, Int.le_refl 0⟩
    | cons c l ih =>
      have h1 := this c List.mem_cons_self
      obtain ⟨h2, h3⟩ := ih fun x hx => this x (List.mem_cons_of_mem _ hx)
      rw [List.sum_cons, List.length_cons]
      omega
  have hcl := h.crew.1
  refine ⟨(atL t n).sum.toNat, by omega, b1, fun x hx => (b2 x hx).1, by rw [Int.toNat_of_nonneg (by omega)]⟩
theorem come_size {m : Nat} {t : PTk} (h : t.Ok m) (nd : t.ss.Nodup) {T : Nat} (hT : T ≤ 12) {first : Row} (hf : Gd1 t T first) : (Bfs.keys (Bfs.bfs (nxtC t) 10000 0 [(first, D.int 0)] [first])).length ≤ 455 ∧ first ∈ Bfs.keys (Bfs.bfs (nxtC t) 10000 0 [(first, D.int 0)] [first]) := by
  have hlen := h.len
  have hU : (allOf t.ss.length T).length ≤ 455 := allOf_few _ (by omega) _ hT
  have hmem : ∀ v, Gd1 t T v → v ∈ allOf t.ss.length T := fun v hv => by
    obtain ⟨n, hn⟩ : ∃ n, t.ss.length = n + 1 := ⟨t.ss.length - 1, by omega⟩
    rw [hn]
    exact mem_allOf n T v (by rw [hv.len, hn]) hv.nn hv.sum
  let U := (allOf t.ss.length T).filter fun v => decide (v.length = t.ss.length) && (v.all fun x => decide (0 ≤ x)) && decide (v.sum = (T : Int))
  have hUg : ∀ v, v ∈ U ↔ Gd1 t T v := fun v => by
    constructor
    · intro hv
      have := (List.mem_filter.mp hv).2
      rw [Bool.and_eq_true, Bool.and_eq_true, decide_eq_true_iff, decide_eq_true_iff, List.all_eq_true] at this
      exact ⟨this.1.1, fun x hx => of_decide_eq_true (this.1.2 x hx), this.2⟩
    · intro hv
      refine List.mem_filter.mpr ⟨hmem v hv, ?_⟩
      rw [Bool.and_eq_true, Bool.and_eq_true, decide_eq_true_iff, decide_eq_true_iff, List.all_eq_true]
      exact ⟨⟨hv.len, fun x hx => decide_eq_true (hv.nn x hx)⟩, hv.sum⟩
  have hUl : U.length ≤ 455 := Nat.le_trans (List.length_filter_le _ _) hU
  have cl : ∀ k, ∀ x ∈ U, ∀ p ∈ nxtC t k x, p.1 ∈ U := fun k x hx p hp => by
    obtain ⟨q, hq, rfl⟩ := List.mem_map.mp hp
    exact (hUg _).mpr (suc_good h nd ((hUg x).mp hx) q hq)
  have hI : Bfs.Inv U (nxtC t) [(first, D.int 0)] [first] := ⟨by simp [Bfs.keys], fun x hx => by simp [Bfs.keys] at hx; rw [hx]; exact (hUg _).mpr hf, Nat.le_refl _, fun x hx => by simpa [Bfs.keys] using hx⟩
  have P := Bfs.bfs_post cl hI (n := 10000) (k := 0) (by simp; omega)
  refine ⟨Nat.le_trans (Bfs.few P.nd P.sub) hUl, ?_⟩
  obtain ⟨l, e⟩ := P.pre
  rw [e]
  exact List.mem_cons_self
theorem wopW {o : D → D → Res D} {wa wb : WE} {r : FW.Env} {Q : D → Prop} {Z : Str → Prop} (h : wa.run r (fun x => wb.run r (fun y => resW (o x y) Q Z) Z) Z) : (wOp o wa wb).run r Q Z := h
end Lk06
namespace Lk06
open PySem FW
theorem suc_inc (t : PTk) (v : Row) : (sucP t v).Pairwise fun p q => p.1 < q.1 := by
  unfold sucP
  rw [List.pairwise_map]
  refine List.Pairwise.filter _ ?_
  have : ∀ (l : List PR) (k : Nat), (l.zipIdx k).Pairwise fun p q => p.2 < q.2 := fun l => by
    induction l with
    | nil => intro k; exact List.Pairwise.nil
    | cons x l ih =>
      intro k
      rw [List.zipIdx_cons]
      refine List.pairwise_cons.mpr ⟨fun q hq => ?_, ih (k + 1)⟩
      obtain ⟨y, i⟩ := q
      have := List.mem_zipIdx hq
      show k < i
      omega
  exact this t.rules 0
theorem suc_one (t : PTk) : Bfs.OneWay (sucP t) := fun v n u u' h h' => by
  obtain ⟨p, hp, e⟩ := List.mem_map.mp h
  obtain ⟨q, hq, e'⟩ := List.mem_map.mp h'
  have hp1 := (mem_idx (List.mem_filter.mp hp).1).2
  have hq1 := (mem_idx (List.mem_filter.mp hq).1).2
  injection e with e1 e2
  injection e' with e1' e2'
  rw [e1] at hp1
  rw [e1'] at hq1
  rw [hp1] at hq1
  have := Option.some.inj hq1
  rw [← e2, ← e2', this]
theorem steps_from_row {m : Nat} {t : PTk} (h : t.Ok m) (hm : m ≤ 12) (nd : t.ss.Nodup) {v : Row} (hv : v.length = t.ss.length) : fn_steps_from [t.d, tupI v] = .ok (.lst ((sucP t v).map stpD)) := by
  have := steps_from_ok h hm nd (fOf t.ss v)
  rw [map_fOf nd hv] at this
  rw [this]
  unfold stepsL sucP
  rw [List.map_map]
  rfl
def univ (t : PTk) (T : Nat) : List Row := (allOf t.ss.length T).filter fun v => decide (v.length = t.ss.length) && (v.all fun x => decide (0 ≤ x)) && decide (v.sum = (T : Int))
theorem univ_mem {m : Nat} {t : PTk} (h : t.Ok m) {T : Nat} (v : Row) : v ∈ univ t T ↔ Gd1 t T v := by
  have hlen := h.len
  constructor
  · intro hv
    have := (List.mem_filter.mp hv).2
    rw [Bool.and_eq_true, Bool.and_eq_true, decide_eq_true_iff, decide_eq_true_iff, List.all_eq_true] at this
    exact ⟨this.1.1, fun x hx => of_decide_eq_true (this.1.2 x hx), this.2⟩
  · intro hv
    refine List.mem_filter.mpr ⟨?_, ?_⟩
    · obtain ⟨n, hn⟩ : ∃ n, t.ss.length = n + 1 := ⟨t.ss.length - 1, by omega⟩
      rw [hn]
      exact mem_allOf n T v (by rw [hv.len, hn]) hv.nn hv.sum
    · rw [Bool.and_eq_true, Bool.and_eq_true, decide_eq_true_iff, decide_eq_true_iff, List.all_eq_true]
      exact ⟨⟨hv.len, fun x hx => decide_eq_true (hv.nn x hx)⟩, hv.sum⟩
theorem univ_few {m : Nat} {t : PTk} (h : t.Ok m) {T : Nat} (hT : T ≤ 12) : (univ t T).length ≤ 455 := Nat.le_trans (List.length_filter_le _ _) (allOf_few _ h.len.2 _ hT)
theorem path_good {m : Nat} {t : PTk} (h : t.Ok m) (nd : t.ss.Nodup) {T : Int} {first : Row} (hf : Gd1 t T first) {p : List Int} {v : Row} (hp : Bfs.Path (sucP t) first p v) : Gd1 t T v := by
  induction hp with
  | nil => exact hf
  | snoc hp hm ih => exact suc_good h nd ih _ hm
theorem dst_none {suc : Row → List (Nat × Row)} {a : Row} {k : Nat} (h : ∀ v, ¬ Bfs.Dst suc a k v) : ∀ j, k ≤ j → ∀ v, ¬ Bfs.Dst suc a j v := fun j hj => by
  induction j with
  | zero => have : k = 0 := by omega
            rw [this] at h; exact h
  | succ j ih =>
    by_cases e : k = j + 1
    · rw [← e]; exact h
    · intro v hd
      obtain ⟨⟨u, n, hu, _⟩, _⟩ := Bfs.dst_succ.mp hd
      exact ih (by omega) u hu
end Lk06
namespace Lk06
open PySem FW
abbrev envW (t : PTk) (first : Row) (F : Fd) (row : List Row) (s4 s5 s6 s7 : Sl) : Env2 := [.val t.d, .val (tupI first), .own (.dtt (dkv F)), .val (lstT row), s4, s5, s6, s7]
abbrev valW (v : Row) (n : Nat) : D := .tup [tupI v, .int (n : Nat)]
def nxtW (t : PTk) (_ : Nat) (v : Row) : Fd := (sucP t v).map fun p => (p.2, valW v p.1)
theorem hsh_valW (v : Row) (n : Nat) : (valW v n).hsh = true := by
  rw [D.hsh, D.hshs, D.hshs, D.hshs, hsh_row, D.hsh]; rfl
theorem walk_in {t : PTk} {first : Row} {row : List Row} {v : Row} : ∀ (ps : List (Nat × Row)) (acc : Fd × List Row) (s6 s7 : Sl), acc.2.length ≤ acc.1.length → acc.1.length + ps.length ≤ 50000 → ∃ s6' s7',
    forF (sgT 2 (sgsCons (sgN 6) (sgsCons (sgN 7) sgsNil))) (fsIf (fTest (fOp dNotInT (fVar 7) (fVar 2))) (fsSeq (fsPutT 2 (fVar 7) (fTup (fCons (fVar 5) (fCons (fVar 6) fNil)))) (fsApp 4 (fVar 7))) fsSkip) (ps.map stpD) (envW t first acc.1 row (.own (lstT acc.2)) (.val (tupI v)) s6 s7)
      = .ok (.nx (envW t first ((ps.map fun p => (p.2, valW v p.1)).foldl Bfs.add acc).1 row (.own (lstT ((ps.map fun p => (p.2, valW v p.1)).foldl Bfs.add acc).2)) (.val (tupI v)) s6' s7'))
  | [], acc, s6, s7, _, _ => ⟨s6, s7, rfl⟩
  | p :: ps, acc, s6, s7, h2, hl => by
    rw [List.length_cons] at hl
    have ht : fTest (fOp dNotInT (fVar 7) (fVar 2)) (allv (envW t first acc.1 row (.own (lstT acc.2)) (.val (tupI v)) (.val (.int (p.1 : Nat))) (.val (tupI p.2)))) = .ok (!decide (p.2 ∈ Bfs.keys acc.1)) := test_ok (by rw [op_ok (x := tupI p.2) (y := .dtt (dkv acc.1)) rfl rfl]; exact notin_dkv _ _)
    have hb : fsIf (fTest (fOp dNotInT (fVar 7) (fVar 2))) (fsSeq (fsPutT 2 (fVar 7) (fTup (fCons (fVar 5) (fCons (fVar 6) fNil)))) (fsApp 4 (fVar 7))) fsSkip (envW t first acc.1 row (.own (lstT acc.2)) (.val (tupI v)) (.val (.int (p.1 : Nat))) (.val (tupI p.2))) = .ok (.nx (envW t first (Bfs.add acc (p.2, valW v p.1)).1 row (.own (lstT (Bfs.add acc (p.2, valW v p.1)).2)) (.val (tupI v)) (.val (.int (p.1 : Nat))) (.val (tupI p.2)))) := by
      by_cases hm : p.2 ∈ Bfs.keys acc.1
      · rw [decide_eq_true hm] at ht
        have e : Bfs.add acc (p.2, valW v p.1) = acc := by unfold Bfs.add; exact if_pos hm
        rw [e]
        exact if_f ht
      · rw [decide_eq_false hm] at ht
        have e : Bfs.add acc (p.2, valW v p.1) = (acc.1 ++ [(p.2, valW v p.1)], acc.2 ++ [p.2]) := by unfold Bfs.add; exact if_neg hm
        rw [e]
        refine (if_t ht).trans ?_
        refine (seq_nx (putT_ok (F := acc.1) (v := p.2) (d := valW v p.1) rfl rfl (hsh_valW _ _) rfl hm (by omega))).trans ?_
        show (if (acc.2.map tupI).length < 100000 then Res.ok (Out.nx _) else .bad) = _
        rw [if_pos (by rw [List.length_map]; omega)]
        show Res.ok (Out.nx (envW t first (acc.1 ++ [(p.2, valW v p.1)]) row (.own (.lst (acc.2.map tupI ++ [tupI p.2]))) (.val (tupI v)) (.val (.int (p.1 : Nat))) (.val (tupI p.2)))) = _
        rw [show acc.2.map tupI ++ [tupI p.2] = (acc.2 ++ [p.2]).map tupI from by rw [List.map_append]; rfl]
    have hadd := fold_len (items := [(p.2, valW v p.1)]) acc h2
    obtain ⟨s6', s7', e⟩ := walk_in (t := t) (first := first) (row := row) (v := v) ps (Bfs.add acc (p.2, valW v p.1)) (.val (.int (p.1 : Nat))) (.val (tupI p.2)) hadd.2 (by have := hadd.1; simp at this; omega)
    refine ⟨s6', s7', ?_⟩
    rw [List.map_cons]
    show (fsIf _ _ _ (envW t first acc.1 row (.own (lstT acc.2)) (.val (tupI v)) (.val (.int (p.1 : Nat))) (.val (tupI p.2)))).bind _ = _
    rw [hb]
    exact e
theorem walk_row {m : Nat} {t : PTk} (h : t.Ok m) (hm : m ≤ 12) (nd : t.ss.Nodup) {first : Row} {row : List Row} {k : Nat} : ∀ (l : List Row) (acc : Fd × List Row) (s5 s6 s7 : Sl), (∀ v ∈ l, v.length = t.ss.length) → acc.2.length ≤ acc.1.length → acc.1.length + l.length * 12 ≤ 50000 → ∃ s5' s6' s7',
    forF (sgN 5) (fsFor (fIter (fCall fn_steps_from (fCons (fVar 0) (fCons (fVar 5) fNil)))) (sgT 2 (sgsCons (sgN 6) (sgsCons (sgN 7) sgsNil))) (fsIf (fTest (fOp dNotInT (fVar 7) (fVar 2))) (fsSeq (fsPutT 2 (fVar 7) (fTup (fCons (fVar 5) (fCons (fVar 6) fNil)))) (fsApp 4 (fVar 7))) fsSkip)) (l.map tupI) (envW t first acc.1 row (.own (lstT acc.2)) s5 s6 s7)
      = .ok (.nx (envW t first ((l.flatMap (nxtW t k)).foldl Bfs.add acc).1 row (.own (lstT ((l.flatMap (nxtW t k)).foldl Bfs.add acc).2)) s5' s6' s7'))
  | [], acc, s5, s6, s7, _, _, _ => ⟨s5, s6, s7, rfl⟩
  | v :: l, acc, s5, s6, s7, hg, h2, hl => by
    rw [List.length_cons] at hl
    have hv := hg v List.mem_cons_self
    have hf := suc_few h v
    obtain ⟨s6', s7', e1⟩ := walk_in (t := t) (first := first) (row := row) (v := v) (sucP t v) acc s6 s7 h2 (by omega)
    have hadd := fold_len (items := nxtW t k v) acc h2
    have hnl : (nxtW t k v).length ≤ 12 := by unfold nxtW; rw [List.length_map]; omega
    obtain ⟨s5'', s6'', s7'', e2⟩ := walk_row h hm nd (first := first) (row := row) (k := k) l ((nxtW t k v).foldl Bfs.add acc) (.val (tupI v)) s6' s7' (fun x hx => hg x (List.mem_cons_of_mem _ hx)) hadd.2 (by have := hadd.1; omega)
    refine ⟨s5'', s6'', s7'', ?_⟩
    have ei : fIter (fCall fn_steps_from (fCons (fVar 0) (fCons (fVar 5) fNil))) (plain (envW t first acc.1 row (.own (lstT acc.2)) (.val (tupI v)) s6 s7)) = .ok ((sucP t v).map stpD) := by
      unfold fIter
      rw [call2 (x := t.d) (y := tupI v) rfl rfl, steps_from_row h hm nd hv]; rfl
    rw [List.map_cons]
    show (fsFor _ _ _ (envW t first acc.1 row (.own (lstT acc.2)) (.val (tupI v)) s6 s7)).bind _ = _
    rw [(for_go ei).trans e1, List.flatMap_cons, List.foldl_append]
    exact e2
theorem walked_ok {m : Nat} {t : PTk} (h : t.Ok m) (hm : m ≤ 12) (nd : t.ss.Nodup) {T : Nat} (hT : T ≤ 12) {first : Row} (hf : Gd1 t T first) : fn_walked [t.d, tupI first] = .ok (.dtf (dkv (Bfs.bfs (nxtW t) 10000 0 [(first, .non)] [first]))) := by
  have hUl := univ_few h hT
  refine fn_rt rfl ?_
  unfold fs_walked
  have e0 : fsPar2 2 3 .t .v (fDispT (fVar 1) (fC .non)) (fLst (fCons (fVar 1) fNil)) (initE 8 [t.d, tupI first]) = .ok (.nx (envW t first [(first, .non)] [first] .un .un .un .un)) := by
    have e1 : fDispT (fVar 1) (fC .non) (plain (initE 8 [t.d, tupI first])) = .ok (.dtt (dkv [(first, .non)])) := by
      show (match keyI (tupI first) with | some ks => Res.ok (D.dtt [(.tup (ks.map kD), .non)]) | none => .bad) = _
      rw [keyI_ints]
      show Res.ok (D.dtt [(.tup ((first.map Sum.inl).map kD), .non)]) = _
      rw [List.map_map]; rfl
    unfold fsPar2
    rw [e1]; rfl
  refine (seq_nx e0).trans ?_
  have cl : ∀ k, ∀ x ∈ univ t T, ∀ p ∈ nxtW t k x, p.1 ∈ univ t T := fun k x hx p hp => by
    obtain ⟨q, hq, rfl⟩ := List.mem_map.mp hp
    exact (univ_mem h _).mpr (suc_good h nd ((univ_mem h x).mp hx) q hq)
  have hI : Bfs.Inv (univ t T) (nxtW t) [(first, D.non)] [first] := ⟨by simp [Bfs.keys], fun x hx => by simp [Bfs.keys] at hx; rw [hx]; exact (univ_mem h _).mpr hf, Nat.le_refl _, fun x hx => by simpa [Bfs.keys] using hx⟩
  obtain ⟨s4, s5, s6, s7, ew⟩ := Bfs.bfs_ind cl (M := fun n k F row => ∀ s4 s5 s6 s7 : Sl, ∃ (s4' s5' s6' s7' : Sl), whileF (fTest (fOp dNe (fVar 3) (fLst fNil))) (fsSeq (fsSetO 4 (fLst fNil)) (fsSeq (fsFor (fIter (fVar 3)) (sgN 5) (fsFor (fIter (fCall fn_steps_from (fCons (fVar 0) (fCons (fVar 5) fNil)))) (sgT 2 (sgsCons (sgN 6) (sgsCons (sgN 7) sgsNil))) (fsIf (fTest (fOp dNotInT (fVar 7) (fVar 2))) (fsSeq (fsPutT 2 (fVar 7) (fTup (fCons (fVar 5) (fCons (fVar 6) fNil)))) (fsApp 4 (fVar 7))) fsSkip))) (fsSeq (fsIf (fTest (fOp dGt (fCB dLenT (fCons (fVar 2) fNil)) (fC (.int 4000)))) (fsRaise "Full") fsSkip) (fsFreeze 3 4)))) n (envW t first F row s4 s5 s6 s7) = .ok (.nx (envW t first (Bfs.bfs (nxtW t) n k F row) [] s4' s5' s6' s7')))
    (fun n k F hI s4 s5 s6 s7 => by
      refine ⟨s4, s5, s6, s7, ?_⟩
      have ht : fTest (fOp dNe (fVar 3) (fLst fNil)) (allv (envW t first F [] s4 s5 s6 s7)) = .ok false := tst_ne (x := lstT []) (y := .lst []) rfl rfl (ne_nil_lstT [])
      rw [Bfs.bfs_end]
      unfold whileF
      rw [ht]; rfl)
    (fun n k F row hne hI ih s4 s5 s6 s7 => by
      have ht : fTest (fOp dNe (fVar 3) (fLst fNil)) (allv (envW t first F row s4 s5 s6 s7)) = .ok true := tst_ne (x := lstT row) (y := .lst []) rfl rfl (by
        rw [ne_nil_lstT]
        cases row with
        | nil => exact absurd rfl hne
        | cons _ _ => rfl)
      have hfl := hI.few
      have hrl := hI.rl
      have hg : ∀ v ∈ row, v.length = t.ss.length := fun v hv => ((univ_mem h v).mp (hI.sub v (hI.row v hv))).len
      obtain ⟨t5, t6, t7, el⟩ := walk_row h hm nd (first := first) (row := row) (k := k + 1) row (F, []) s5 s6 s7 hg (Nat.zero_le _) (by show F.length + row.length * 12 ≤ 50000; omega)
      have hnl := (hI.lev (k := k + 1) (cl (k + 1))).1.few
      obtain ⟨u4, u5, u6, u7, ei⟩ := ih (.val (lstT (Bfs.lev (row.flatMap (nxtW t (k + 1))) F).2)) t5 t6 t7
      refine ⟨u4, u5, u6, u7, ?_⟩
      rw [Bfs.bfs_step hne, ← ei]
      conv => lhs; unfold whileF
      rw [ht]
      have eb : (fsSeq (fsSetO 4 (fLst fNil)) (fsSeq (fsFor (fIter (fVar 3)) (sgN 5) (fsFor (fIter (fCall fn_steps_from (fCons (fVar 0) (fCons (fVar 5) fNil)))) (sgT 2 (sgsCons (sgN 6) (sgsCons (sgN 7) sgsNil))) (fsIf (fTest (fOp dNotInT (fVar 7) (fVar 2))) (fsSeq (fsPutT 2 (fVar 7) (fTup (fCons (fVar 5) (fCons (fVar 6) fNil)))) (fsApp 4 (fVar 7))) fsSkip))) (fsSeq (fsIf (fTest (fOp dGt (fCB dLenT (fCons (fVar 2) fNil)) (fC (.int 4000)))) (fsRaise "Full") fsSkip) (fsFreeze 3 4)))) (envW t first F row s4 s5 s6 s7) = .ok (.nx (envW t first (Bfs.lev (row.flatMap (nxtW t (k + 1))) F).1 (Bfs.lev (row.flatMap (nxtW t (k + 1))) F).2 (.val (lstT (Bfs.lev (row.flatMap (nxtW t (k + 1))) F).2)) t5 t6 t7)) := by
        refine (seq_nx (r' := envW t first F row (.own (lstT [])) s5 s6 s7) rfl).trans ?_
        refine (seq_nx ((for_go (ds := row.map tupI) rfl).trans el)).trans ?_
        refine (seq_nx (if_f ?_)).trans rfl
        refine test_ok ?_
        have eln : fCB dLenT (fCons (fVar 2) fNil) (allv (envW t first ((row.flatMap (nxtW t (k + 1))).foldl Bfs.add (F, [])).1 row (.own (lstT ((row.flatMap (nxtW t (k + 1))).foldl Bfs.add (F, [])).2)) t5 t6 t7)) = .ok (.int ((((row.flatMap (nxtW t (k + 1))).foldl Bfs.add (F, [])).1.length : Nat) : Int)) := by
          show Res.ok (D.int ((dkv ((row.flatMap (nxtW t (k + 1))).foldl Bfs.add (F, [])).1).length : Nat)) = _
          unfold dkv
          rw [List.length_map]
        rw [op_ok eln (y := .int 4000) rfl]
        show Res.ok (D.bl (decide ((4000 : Int) < _))) = _
        have hnl' : ((row.flatMap (nxtW t (k + 1))).foldl Bfs.add (F, [])).1.length ≤ (univ t T).length := hnl
        rw [decide_eq_false (by omega)]
      show ((fsSeq _ _ (envW t first F row s4 s5 s6 s7)).bind _) = _
      rw [eb]) 10000 0 [(first, D.non)] [first] hI (.inr (by simp; omega)) .un .un .un .un
  refine (seq_nx ew).trans ?_
  rfl
end Lk06
namespace Lk06
open PySem FW
theorem dst_good {m : Nat} {t : PTk} (h : t.Ok m) (nd : t.ss.Nodup) {T : Int} {first : Row} (hf : Gd1 t T first) {k : Nat} {v : Row} (hd : Bfs.Dst (sucP t) first k v) : Gd1 t T v := by
  obtain ⟨p, hp, _⟩ := hd.1
  exact path_good h nd hf hp
structure Seen (t : PTk) (first : Row) (F : Fd) : Prop where
  nd : (Bfs.keys F).Nodup
  val : ∀ p ∈ F, ∃ j : Nat, p.2 = .int (j : Nat) ∧ Bfs.Dst (sucP t) first j p.1
  all : ∀ j v, Bfs.Dst (sucP t) first j v → (v, D.int (j : Nat)) ∈ F
theorem seen_ok {m : Nat} {t : PTk} (h : t.Ok m) (nd : t.ss.Nodup) {T : Nat} (hT : T ≤ 12) {first : Row} (hf : Gd1 t T first) : Seen t first (Bfs.bfs (nxtC t) 10000 0 [(first, .int 0)] [first]) := by
  have hUl := univ_few h hT
  have cl : ∀ k, ∀ x ∈ univ t T, ∀ p ∈ nxtC t k x, p.1 ∈ univ t T := fun k x hx p hp => by
    obtain ⟨q, hq, rfl⟩ := List.mem_map.mp hp
    exact (univ_mem h _).mpr (suc_good h nd ((univ_mem h x).mp hx) q hq)
  have hI : Bfs.Inv (univ t T) (nxtC t) [(first, D.int 0)] [first] := ⟨by simp [Bfs.keys], fun x hx => by simp [Bfs.keys] at hx; rw [hx]; exact (univ_mem h _).mpr hf, Nat.le_refl _, fun x hx => by simpa [Bfs.keys] using hx⟩
  have P := Bfs.bfs_post cl hI (n := 10000) (k := 0) (by simp; omega)
  have key := Bfs.bfs_ind cl (M := fun n k F row => (∀ p ∈ F, ∃ j : Nat, j ≤ k ∧ p.2 = .int (j : Nat) ∧ Bfs.Dst (sucP t) first j p.1) → (∀ j v, j ≤ k → Bfs.Dst (sucP t) first j v → v ∈ Bfs.keys F) → (∀ v, v ∈ row ↔ Bfs.Dst (sucP t) first k v) → (∀ p ∈ Bfs.bfs (nxtC t) n k F row, ∃ j : Nat, p.2 = .int (j : Nat) ∧ Bfs.Dst (sucP t) first j p.1) ∧ ∀ j v, Bfs.Dst (sucP t) first j v → v ∈ Bfs.keys (Bfs.bfs (nxtC t) n k F row))
    (fun n k F hI h1 h2 h3 => by
      rw [Bfs.bfs_end]
      have none : ∀ v, ¬ Bfs.Dst (sucP t) first k v := fun v hd => by have := (h3 v).mpr hd; cases this
      refine ⟨fun p hp => ?_, fun j v hd => ?_⟩
      · obtain ⟨j, _, e1, e2⟩ := h1 p hp
        exact ⟨j, e1, e2⟩
      · by_cases c : j ≤ k
        · exact h2 j v c hd
        · exact absurd hd (dst_none none j (by omega) v))
    (fun n k F row hne hI ih h1 h2 h3 => by
      rw [Bfs.bfs_step hne]
      obtain ⟨new, g1, g2, g3, g4, g5⟩ := Bfs.lev_keys (row.flatMap (nxtC t (k + 1))) F
      have hnew : ∀ q ∈ new, q.2 = .int ((k + 1 : Nat) : Int) ∧ Bfs.Dst (sucP t) first (k + 1) q.1 := fun q hq => by
        obtain ⟨x, hx, hq2⟩ := List.mem_flatMap.mp (g3 q hq).1
        obtain ⟨p, hp, rfl⟩ := List.mem_map.mp hq2
        refine ⟨rfl, Bfs.dst_succ.mpr ⟨⟨x, p.1, (h3 x).mp hx, hp⟩, fun j hj hd => (g3 _ hq).2 (h2 j _ hj hd)⟩⟩
      have hk1 : ∀ v, Bfs.Dst (sucP t) first (k + 1) v → v ∈ Bfs.keys new := fun v hd => by
        obtain ⟨⟨u, n', hu, hn'⟩, hno⟩ := Bfs.dst_succ.mp hd
        have hin : (v, D.int ((k + 1 : Nat) : Int)) ∈ row.flatMap (nxtC t (k + 1)) := List.mem_flatMap.mpr ⟨u, (h3 u).mpr hu, List.mem_map.mpr ⟨(n', v), hn', rfl⟩⟩
        have := g4 _ hin
        rw [g1] at this
        have this : v ∈ (F ++ new).map (·.1) := this
        rw [List.map_append] at this
        rcases List.mem_append.mp this with z | z
        · obtain ⟨p, hp, e⟩ := List.mem_map.mp z
          obtain ⟨j, hj, _, hdj⟩ := h1 p hp
          rw [e] at hdj
          exact absurd hdj (hno j hj)
        · exact z
      refine ih (fun p hp => ?_) (fun j v hj hd => ?_) fun v => ?_
      · rw [g1] at hp
        rcases List.mem_append.mp hp with z | z
        · obtain ⟨j, hj, e1, e2⟩ := h1 p z
          exact ⟨j, by omega, e1, e2⟩
        · obtain ⟨e1, e2⟩ := hnew p z
          exact ⟨k + 1, Nat.le_refl _, e1, e2⟩
      · rw [g1]
        show v ∈ (F ++ new).map (·.1)
        rw [List.map_append]
        by_cases c : j = k + 1
        · subst c; exact List.mem_append_right _ (hk1 v hd)
        · exact List.mem_append_left _ (h2 j v (by omega) hd)
      · rw [g2]
        constructor
        · intro hv
          obtain ⟨q, hq, rfl⟩ := List.mem_map.mp hv
          exact (hnew q hq).2
        · exact hk1 v) 10000 0 [(first, D.int 0)] [first] hI (.inr (by simp; omega))
    (fun p hp => by rw [List.mem_singleton.mp hp]; exact ⟨0, Nat.le_refl 0, rfl, Bfs.dst_zero⟩)
    (fun j v hj hd => by
      have : j = 0 := by omega
      subst this
      rw [Bfs.dst_zero_eq hd]; simp [Bfs.keys])
    (fun v => ⟨fun hv => by rw [List.mem_singleton.mp hv]; exact Bfs.dst_zero, fun hd => by rw [Bfs.dst_zero_eq hd]; exact List.mem_singleton.mpr rfl⟩)
  refine ⟨P.nd, key.1, fun j v hd => ?_⟩
  obtain ⟨p, hp, e⟩ := List.mem_map.mp (key.2 j v hd)
  obtain ⟨i, e1, e2⟩ := key.1 p hp
  rw [e] at e2
  have : i = j := e2.uniq hd
  subst this
  have : p = (v, D.int (i : Nat)) := Prod.ext e e1
  rw [← this]; exact hp
end Lk06
namespace Lk06
open PySem FW
/-! ### who comes to each, in lists -/
def toK (S : List Row) (L : Row → List Row) : KL := S.map fun v => (v.map Sum.inl, (L v).map tupI)
def updL (L : Row → List Row) (w s : Row) : Row → List Row := fun v => if v = w then L v ++ [s] else L v
def growS (ps : List (Nat × Row)) (s : Row) (L : Row → List Row) : Row → List Row := ps.foldl (fun L p => updL L p.2 s) L
def growA (t : PTk) (l : List Row) (L : Row → List Row) : Row → List Row := l.foldl (fun L v => growS (sucP t v) v L) L
theorem inlR_inj : ∀ {v w : Row}, v.map (Sum.inl : Int → L2.Key) = w.map Sum.inl → v = w
  | [], [], _ => rfl
  | [], _ :: _, h => by cases h
  | _ :: _, [], h => by cases h
  | x :: v, y :: w, h => by
    rw [List.map_cons, List.map_cons] at h
    injection h with h1 h2
    injection h1 with h1
    rw [h1, inlR_inj h2]
theorem push_toK (L : Row → List Row) (w s : Row) : ∀ {S : List Row}, S.Nodup → pushK (toK S L) (w.map Sum.inl) (tupI s) = toK S (updL L w s)
  | [], _ => rfl
  | v :: S, nd => by
    obtain ⟨h1, h2⟩ := List.nodup_cons.mp nd
    show pushK ((v.map Sum.inl, (L v).map tupI) :: toK S L) _ _ = (v.map Sum.inl, (updL L w s v).map tupI) :: toK S (updL L w s)
    rw [pushK]
    by_cases e : v = w
    · subst e
      rw [if_pos rfl]
      have e1 : updL L v s v = L v ++ [s] := if_pos rfl
      rw [e1, List.map_append]
      congr 1
      exact List.map_congr_left fun u hu => by
        have : updL L v s u = L u := if_neg fun z => h1 (by rw [← z]; exact hu)
        rw [this]
    · rw [if_neg fun z => e (inlR_inj z), push_toK L w s h2]
      have : updL L w s v = L v := if_neg e
      rw [this]
theorem mem_growS {s v u : Row} : ∀ {ps : List (Nat × Row)} {L : Row → List Row}, u ∈ growS ps s L v ↔ u ∈ L v ∨ (u = s ∧ v ∈ ps.map (·.2))
  | [], L => by simp [growS]
  | p :: ps, L => by
    show u ∈ growS ps s (updL L p.2 s) v ↔ _
    rw [mem_growS (ps := ps), List.map_cons, List.mem_cons]
    unfold updL
    by_cases e : v = p.2
    · rw [if_pos e, List.mem_append, List.mem_singleton]
      constructor
      · rintro ((h | h) | ⟨h, h2⟩)
        · exact .inl h
        · exact .inr ⟨h, .inl e⟩
        · exact .inr ⟨h, .inr h2⟩
      · rintro (h | ⟨h, _⟩)
        · exact .inl (.inl h)
        · exact .inl (.inr h)
    · rw [if_neg e]
      constructor
      · rintro (h | ⟨h, h2⟩)
        · exact .inl h
        · exact .inr ⟨h, .inr h2⟩
      · rintro (h | ⟨h, h2 | h2⟩)
        · exact .inl h
        · exact absurd h2 e
        · exact .inr ⟨h, h2⟩
theorem mem_growA {t : PTk} {v u : Row} : ∀ {l : List Row} {L : Row → List Row}, u ∈ growA t l L v ↔ u ∈ L v ∨ (u ∈ l ∧ v ∈ (sucP t u).map (·.2))
  | [], L => by simp [growA]
  | x :: l, L => by
    show u ∈ growA t l (growS (sucP t x) x L) v ↔ _
    rw [mem_growA (l := l), mem_growS, List.mem_cons]
    constructor
    · rintro ((h | ⟨h, h2⟩) | ⟨h, h2⟩)
      · exact .inl h
      · exact .inr ⟨.inl h, by rw [h]; exact h2⟩
      · exact .inr ⟨.inr h, h2⟩
    · rintro (h | ⟨h | h, h2⟩)
      · exact .inl (.inl h)
      · exact .inl (.inr ⟨h, by rw [← h]; exact h2⟩)
      · exact .inr ⟨h, h2⟩
theorem len_growS {s v : Row} : ∀ (ps : List (Nat × Row)) (L : Row → List Row), (growS ps s L v).length ≤ (L v).length + ps.length
  | [], L => Nat.le_refl _
  | p :: ps, L => by
    have h := len_growS (s := s) (v := v) ps (updL L p.2 s)
    have h2 : (updL L p.2 s v).length ≤ (L v).length + 1 := by
      unfold updL
      split
      · simp
      · omega
    rw [List.length_cons]
    show (growS ps s (updL L p.2 s) v).length ≤ _
    omega
theorem any_toK {S : List Row} {L : Row → List Row} {w : Row} (hw : w ∈ S) : ((toK S L).any fun x => decide (x.1 = w.map Sum.inl)) = true := List.any_eq_true.mpr ⟨_, List.mem_map.mpr ⟨w, hw, rfl⟩, decide_eq_true rfl⟩
theorem all_toK {S : List Row} {L : Row → List Row} (h : ∀ v, (L v).length < 100000) : ((toK S L).all fun x => decide (x.2.length < 100000)) = true := List.all_eq_true.mpr fun x hx => by
  obtain ⟨v, _, rfl⟩ := List.mem_map.mp hx
  exact decide_eq_true (by rw [List.length_map]; exact h v)
abbrev envR (t : PTk) (n : D) (first : Row) (F : Fd) (s5 s6 s7 : Sl) : Env2 := [.val t.d, .val n, .val (tupI first), .val (.dtf (dkv F)), .un, s5, s6, s7, .un, .un, .un]
theorem grow1_row {t : PTk} {n : D} {first : Row} {F : Fd} {S : List Row} (nd : S.Nodup) {s : Row} {s5 : Sl} : ∀ (ps : List (Nat × Row)) (L : Row → List Row) (s6 s7 : Sl), (∀ p ∈ ps, p.2 ∈ S) → (∀ v, (L v).length + ps.length ≤ 90000) → ∃ s6' s7',
    grow1 6 7 (tupI s) (ps.map stpD) (envR t n first F s5 s6 s7) (toK S L) = .ok (envR t n first F s5 s6' s7', toK S (growS ps s L))
  | [], L, s6, s7, _, _ => ⟨s6, s7, rfl⟩
  | p :: ps, L, s6, s7, hS, hl => by
    have hlen : ∀ v, (updL L p.2 s v).length + ps.length ≤ 90000 := fun v => by
      have := hl v
      rw [List.length_cons] at this
      unfold updL
      split
      · rw [List.length_append, List.length_singleton]; omega
      · omega
    obtain ⟨s6', s7', e⟩ := grow1_row nd (t := t) (n := n) (first := first) (F := F) (s := s) (s5 := s5) ps (updL L p.2 s) (.val (.int (p.1 : Nat))) (.val (tupI p.2)) (fun x hx => hS x (List.mem_cons_of_mem _ hx)) hlen
    refine ⟨s6', s7', ?_⟩
    rw [List.map_cons, grow1]
    show (match keyI (tupI p.2) with | some k => if ((toK S L).any (fun x => decide (x.1 = k)) && (toK S L).all fun x => decide (x.2.length < 100000)) = true then grow1 6 7 (tupI s) (ps.map stpD) (((envR t n first F s5 s6 s7).set 6 (.val (.int (p.1 : Nat)))).set 7 (.val (tupI p.2))) (pushK (toK S L) k (tupI s)) else .bad | none => .bad) = _
    rw [keyI_ints]
    show (if ((toK S L).any (fun x => decide (x.1 = p.2.map Sum.inl)) && (toK S L).all fun x => decide (x.2.length < 100000)) = true then grow1 6 7 (tupI s) (ps.map stpD) (((envR t n first F s5 s6 s7).set 6 (.val (.int (p.1 : Nat)))).set 7 (.val (tupI p.2))) (pushK (toK S L) (p.2.map Sum.inl) (tupI s)) else .bad) = _
    rw [any_toK (hS p List.mem_cons_self), all_toK fun v => by have := hl v; omega, if_pos (by rfl), push_toK L p.2 s nd]
    exact e
theorem grow_row {m : Nat} {t : PTk} (h : t.Ok m) (hm : m ≤ 12) (nd : t.ss.Nodup) {n : D} {first : Row} {F : Fd} {S : List Row} (nS : S.Nodup) (hl : ∀ v ∈ S, v.length = t.ss.length) (hS : ∀ v ∈ S, ∀ p ∈ sucP t v, p.2 ∈ S) : ∀ (l : List Row) (L : Row → List Row) (s5 s6 s7 : Sl), (∀ v ∈ l, v ∈ S) → (∀ v, (L v).length + 12 * l.length ≤ 80000) → ∃ s5' s6' s7',
    grow (fIter (fCall fn_steps_from (fCons (fVar 0) (fCons (fVar 5) fNil)))) 5 6 7 (l.map tupI) (envR t n first F s5 s6 s7) (toK S L) = .ok (envR t n first F s5' s6' s7', toK S (growA t l L))
  | [], L, s5, s6, s7, _, _ => ⟨s5, s6, s7, rfl⟩
  | v :: l, L, s5, s6, s7, hin, hlen => by
    have hv := hin v List.mem_cons_self
    have hf := suc_few h v
    have e1 : fIter (fCall fn_steps_from (fCons (fVar 0) (fCons (fVar 5) fNil))) (plain ((envR t n first F s5 s6 s7).set 5 (.val (tupI v)))) = .ok ((sucP t v).map stpD) := by
      unfold fIter
      rw [call2 (x := t.d) (y := tupI v) rfl rfl, steps_from_row h hm nd (hl v hv)]; rfl
    obtain ⟨s6', s7', e2⟩ := grow1_row nS (t := t) (n := n) (first := first) (F := F) (s := v) (s5 := .val (tupI v)) (sucP t v) L s6 s7 (fun p hp => hS v hv p hp) fun w => by have := hlen w; omega
    obtain ⟨s5'', s6'', s7'', e3⟩ := grow_row h hm nd (n := n) (first := first) (F := F) nS hl hS l (growS (sucP t v) v L) (.val (tupI v)) s6' s7' (fun x hx => hin x (List.mem_cons_of_mem _ hx)) fun w => by
      have h1 := hlen w
      have h2 := len_growS (s := v) (v := w) (sucP t v) L
      rw [List.length_cons] at h1
      omega
    refine ⟨s5'', s6'', s7'', ?_⟩
    rw [List.map_cons, grow, e1]
    show (match grow1 6 7 (tupI v) ((sucP t v).map stpD) (envR t n first F (.val (tupI v)) s6 s7) (toK S L) with | .ok p => grow _ 5 6 7 (l.map tupI) p.1 p.2 | _ => .bad) = _
    rw [e2]
    exact e3
theorem dKL_toK (S : List Row) (L : Row → List Row) : dKL (toK S L) = dkv (S.map fun v => (v, lstT (L v))) := by
  unfold dKL toK dkv
  rw [List.map_map, List.map_map]
  refine List.map_congr_left fun v _ => ?_
  show (D.tup ((v.map Sum.inl).map kD), D.lst ((L v).map tupI)) = (tupI v, lstT (L v))
  rw [kD_inl]
theorem keysD_rows (S : List Row) : keysD (S.map tupI) = some (S.map fun v => v.map Sum.inl) := by
  unfold keysD
  rw [if_pos]
  · congr 1
    rw [List.map_map]
    refine List.map_congr_left fun v _ => ?_
    show (keyI (tupI v)).getD [] = _
    rw [keyI_ints]; rfl
  · rw [List.all_map]
    exact List.all_eq_true.mpr fun v _ => by
      show (keyI (tupI v)).isSome = true
      rw [keyI_ints]; rfl
theorem nodK_rows : ∀ {S : List Row}, S.Nodup → nodK (S.map fun v => v.map Sum.inl) = true
  | [], _ => rfl
  | v :: S, nd => by
    obtain ⟨h1, h2⟩ := List.nodup_cons.mp nd
    rw [List.map_cons, nodK, nodK_rows h2, Bool.and_true, Bool.not_eq_true', List.any_eq_false]
    intro x hx z
    obtain ⟨w, hw, rfl⟩ := List.mem_map.mp hx
    exact h1 (by rw [← inlR_inj (of_decide_eq_true z)]; exact hw)
theorem ahead_ok {m : Nat} {t : PTk} (h : t.Ok m) (hm : m ≤ 12) (nd : t.ss.Nodup) {n : D} {first : Row} {F : Fd} (nS : (Bfs.keys F).Nodup) (hl : ∀ v ∈ Bfs.keys F, v.length = t.ss.length) (hS : ∀ v ∈ Bfs.keys F, ∀ p ∈ sucP t v, p.2 ∈ Bfs.keys F) (hf : F.length ≤ 455) : ∃ s5 s6 s7,
    fsAhead 4 5 6 7 (fIterF (fVar 3)) (fIterF (fVar 3)) (fIter (fCall fn_steps_from (fCons (fVar 0) (fCons (fVar 5) fNil)))) (envR t n first F .un .un .un) = .ok (.nx ((envR t n first F s5 s6 s7).set 4 (.val (.dtt (dkv ((Bfs.keys F).map fun v => (v, lstT (growA t (Bfs.keys F) (fun _ => []) v)))))))) := by
  have hkl : (Bfs.keys F).length ≤ 455 := by simpa [Bfs.keys] using hf
  obtain ⟨s5, s6, s7, e⟩ := grow_row h hm nd (n := n) (first := first) (F := F) nS hl hS (Bfs.keys F) (fun _ => []) .un .un .un (fun _ z => z) fun v => by simp only [List.length_nil]; omega
  refine ⟨s5, s6, s7, ?_⟩
  unfold fsAhead
  rw [if_pos ⟨rfl, show 4 < 11 by decide, show 5 < 11 by decide, show 6 < 11 by decide, show 7 < 11 by decide⟩]
  have e1 : fIterF (fVar 3) (plain (envR t n first F .un .un .un)) = .ok ((Bfs.keys F).map tupI) := iterF_ok rfl
  have e2 : fIterF (fVar 3) (plain ((envR t n first F .un .un .un).set 4 .un)) = .ok ((Bfs.keys F).map tupI) := iterF_ok rfl
  rw [e1]
  show (match keysD ((Bfs.keys F).map tupI) with | some ks => _ | none => _) = _
  rw [keysD_rows]
  show (if nodK ((Bfs.keys F).map fun v => v.map Sum.inl) = true ∧ ((Bfs.keys F).map fun v => v.map (Sum.inl : Int → L2.Key)).length ≤ 100000 then _ else _) = _
  rw [if_pos ⟨nodK_rows nS, by rw [List.length_map]; omega⟩, e2]
  have e3 : ((Bfs.keys F).map fun v => v.map (Sum.inl : Int → L2.Key)).map (fun k => (k, ([] : List D))) = toK (Bfs.keys F) fun _ => [] := by
    rw [List.map_map]; rfl
  rw [e3]
  show (match grow _ 5 6 7 ((Bfs.keys F).map tupI) (envR t n first F .un .un .un) (toK (Bfs.keys F) fun _ => []) with | .ok p => _ | _ => _) = _
  rw [e]
  show Res.ok (Out.nx ((envR t n first F s5 s6 s7).set 4 (.val (.dtt (dKL (toK (Bfs.keys F) (growA t (Bfs.keys F) fun _ => []))))))) = _
  rw [dKL_toK]
end Lk06
namespace Lk06
open PySem FW
theorem val_at {F : Fd} {v : Row} {d : D} (nd : (Bfs.keys F).Nodup) (h : (v, d) ∈ F) : valT (dkv F) (v.map Sum.inl) = some d := by
  unfold valT dkv
  rw [List.find?_map]
  have : F.find? ((fun kv : D × D => decide (keyT kv.1 = some (v.map Sum.inl))) ∘ fun p : Row × D => (tupI p.1, p.2)) = some (v, d) := by
    induction F with
    | nil => cases h
    | cons p F ih =>
      have nd' : p.1 ∉ Bfs.keys F ∧ (Bfs.keys F).Nodup := List.nodup_cons.mp nd
      rw [List.find?_cons]
      show (match decide (keyT (tupI p.1) = some (v.map Sum.inl)) with | true => some p | false => _) = _
      rw [dec_key]
      rcases List.mem_cons.mp h with e | h
      · rw [← e, decide_eq_true rfl]
      · have : p.1 ≠ v := fun e => nd'.1 (by rw [e]; exact List.mem_map.mpr ⟨_, h, rfl⟩)
        rw [decide_eq_false this]
        exact ih nd'.2 h
  rw [this]; rfl
theorem ix_dtf {F : Fd} {v : Row} {d : D} (nd : (Bfs.keys F).Nodup) (h : (v, d) ∈ F) : dIxT (.dtf (dkv F)) (tupI v) = .ok d := by
  show (match keyI (tupI v) with | some k => (match valT (dkv F) k with | some d => Res.ok d | none => .bad) | none => .bad) = _
  rw [keyI_ints]
  show (match valT (dkv F) (v.map Sum.inl) with | some d => Res.ok d | none => .bad) = _
  rw [val_at nd h]
theorem ix_dtt {F : Fd} {v : Row} {d : D} (nd : (Bfs.keys F).Nodup) (h : (v, d) ∈ F) : dIxT (.dtt (dkv F)) (tupI v) = .ok d := by
  show (match keyI (tupI v) with | some k => (match valT (dkv F) k with | some d => Res.ok d | none => .bad) | none => .bad) = _
  rw [keyI_ints]
  show (match valT (dkv F) (v.map Sum.inl) with | some d => Res.ok d | none => .bad) = _
  rw [val_at nd h]
end Lk06
namespace Lk06
open PySem FW
/-! ### can_return -/
def trB (G : List Row) : Fd := G.map fun v => (v, D.bl true)
theorem keys_trB (G : List Row) : Bfs.keys (trB G) = G := by
  unfold trB Bfs.keys
  rw [List.map_map]
  exact List.map_id G
abbrev envQ (t : PTk) (n : D) (first : Row) (F : Fd) (A : D) (s5 s6 s7 : Sl) (G ws : List Row) (s10 : Sl) : Env2 := [.val t.d, .val n, .val (tupI first), .val (.dtf (dkv F)), .val A, s5, s6, s7, .own (.dtt (dkv (trB G))), .own (lstT ws), s10]
theorem addB_len (acc : List Row × List Row) (v : Row) : (Bfs.addB acc v).1.length ≤ acc.1.length + 1 ∧ (Bfs.addB acc v).2.length ≤ acc.2.length + 1 := by
  unfold Bfs.addB
  split
  · omega
  · simp
theorem ret_in {t : PTk} {n : D} {first : Row} {F : Fd} {A : D} {s5 s6 s7 : Sl} : ∀ (l : List Row) (acc : List Row × List Row) (s10 : Sl), acc.1.length + l.length ≤ 50000 → acc.2.length + l.length ≤ 50000 → ∃ s10',
    forF (sgN 10) (fsIf (fTest (fOp dNotInT (fVar 10) (fVar 8))) (fsSeq (fsPutT 8 (fVar 10) (fC (.bl true))) (fsApp 9 (fVar 10))) fsSkip) (l.map tupI) (envQ t n first F A s5 s6 s7 acc.1 acc.2 s10)
      = .ok (.nx (envQ t n first F A s5 s6 s7 (l.foldl Bfs.addB acc).1 (l.foldl Bfs.addB acc).2 s10'))
  | [], acc, s10, _, _ => ⟨s10, rfl⟩
  | v :: l, acc, s10, h1, h2 => by
    rw [List.length_cons] at h1 h2
    have hk := keys_trB acc.1
    have ht : fTest (fOp dNotInT (fVar 10) (fVar 8)) (allv (envQ t n first F A s5 s6 s7 acc.1 acc.2 (.val (tupI v)))) = .ok (!decide (v ∈ acc.1)) := test_ok (by
      rw [op_ok (x := tupI v) (y := .dtt (dkv (trB acc.1))) rfl rfl]
      have := notin_dkv (trB acc.1) v
      rw [hk] at this
      exact this)
    have hb : fsIf (fTest (fOp dNotInT (fVar 10) (fVar 8))) (fsSeq (fsPutT 8 (fVar 10) (fC (.bl true))) (fsApp 9 (fVar 10))) fsSkip (envQ t n first F A s5 s6 s7 acc.1 acc.2 (.val (tupI v))) = .ok (.nx (envQ t n first F A s5 s6 s7 (Bfs.addB acc v).1 (Bfs.addB acc v).2 (.val (tupI v)))) := by
      by_cases hm : v ∈ acc.1
      · rw [decide_eq_true hm] at ht
        have e : Bfs.addB acc v = acc := by unfold Bfs.addB; exact if_pos hm
        rw [e]
        exact if_f ht
      · rw [decide_eq_false hm] at ht
        have e : Bfs.addB acc v = (acc.1 ++ [v], acc.2 ++ [v]) := by unfold Bfs.addB; exact if_neg hm
        rw [e]
        refine (if_t ht).trans ?_
        refine (seq_nx (putT_ok (F := trB acc.1) (v := v) (d := .bl true) rfl rfl (by rw [D.hsh]) rfl (by rw [hk]; exact hm) (by unfold trB; rw [List.length_map]; omega))).trans ?_
        show (if (acc.2.map tupI).length < 100000 then Res.ok (Out.nx _) else .bad) = _
        rw [if_pos (by rw [List.length_map]; omega)]
        show Res.ok (Out.nx ([.val t.d, .val n, .val (tupI first), .val (.dtf (dkv F)), .val A, s5, s6, s7, .own (.dtt (dkv (trB acc.1 ++ [(v, .bl true)]))), .own (.lst (acc.2.map tupI ++ [tupI v])), .val (tupI v)])) = _
        rw [show acc.2.map tupI ++ [tupI v] = (acc.2 ++ [v]).map tupI from by rw [List.map_append]; rfl, show trB acc.1 ++ [(v, .bl true)] = trB (acc.1 ++ [v]) from by unfold trB; rw [List.map_append]; rfl]
    have hadd := addB_len acc v
    obtain ⟨s10', e⟩ := ret_in (t := t) (n := n) (first := first) (F := F) (A := A) (s5 := s5) (s6 := s6) (s7 := s7) l (Bfs.addB acc v) (.val (tupI v)) (by omega) (by omega)
    refine ⟨s10', ?_⟩
    rw [List.map_cons]
    show (fsIf _ _ _ (envQ t n first F A s5 s6 s7 acc.1 acc.2 (.val (tupI v)))).bind _ = _
    rw [hb]
    exact e
theorem ret_loop {t : PTk} {n : D} {first : Row} {F : Fd} {S : List Row} {L : Row → List Row} {s5 s6 s7 : Sl} (nS : S.Nodup) (hS : S.length ≤ 455) (hL : ∀ v, (L v).length ≤ 10000) (hp : ∀ v ∈ S, ∀ u ∈ L v, u ∈ S) : ∀ (k : Nat) (G ws : List Row) (s10 : Sl), Bfs.Back L first S G ws → (S.length - G.length) + ws.length < k → (S.length - G.length) + ws.length ≤ 455 → ∃ G' s10',
    whileF (fTest (fOp dNe (fVar 9) (fLst fNil))) (fsForPop 4 9 (sgN 10) (fsIf (fTest (fOp dNotInT (fVar 10) (fVar 8))) (fsSeq (fsPutT 8 (fVar 10) (fC (.bl true))) (fsApp 9 (fVar 10))) fsSkip)) k (envQ t n first F (.dtt (dkv (S.map fun v => (v, lstT (L v))))) s5 s6 s7 G ws s10)
      = .ok (.nx (envQ t n first F (.dtt (dkv (S.map fun v => (v, lstT (L v))))) s5 s6 s7 G' [] s10')) ∧ Bfs.Back L first S G' []
  | 0, G, ws, s10, _, h, _ => absurd h (Nat.not_lt_zero _)
  | k + 1, G, ws, s10, hB, h, h4 => by
    have ht : fTest (fOp dNe (fVar 9) (fLst fNil)) (allv (envQ t n first F (.dtt (dkv (S.map fun v => (v, lstT (L v))))) s5 s6 s7 G ws s10)) = .ok (!ws.isEmpty) := tst_ne (x := lstT ws) (y := .lst []) rfl rfl (ne_nil_lstT ws)
    rcases List.eq_nil_or_concat ws with e | ⟨ws0, x, e⟩
    · subst e
      refine ⟨G, s10, ?_, hB⟩
      rw [whileF, ht]; rfl
    · have e : ws = ws0 ++ [x] := by rw [e]; simp
      subst e
      have hxS : x ∈ S := hB.sub x (hB.wsub x (List.mem_append_right _ List.mem_cons_self))
      obtain ⟨new, e1, hB2⟩ := hB.turn hp
      have hfew := hB.few
      have hfew2 := hB2.few
      rw [List.length_append] at hfew2
      rw [List.length_append, List.length_singleton] at h h4
      obtain ⟨s10', e2⟩ := ret_in (t := t) (n := n) (first := first) (F := F) (A := .dtt (dkv (S.map fun v => (v, lstT (L v))))) (s5 := s5) (s6 := s6) (s7 := s7) (L x) (G, ws0) s10 (by have := hL x; show G.length + _ ≤ _; omega) (by have := hL x; show ws0.length + _ ≤ _; omega)
      rw [e1] at e2
      have hix : dIxT (.dtt (dkv (S.map fun v => (v, lstT (L v))))) (tupI x) = .ok (lstT (L x)) := ix_dtt (F := S.map fun v => (v, lstT (L v))) (by
        have : Bfs.keys (S.map fun v => (v, lstT (L v))) = S := by
          unfold Bfs.keys
          rw [List.map_map]
          exact List.map_id S
        rw [this]; exact nS) (List.mem_map.mpr ⟨x, hxS, rfl⟩)
      have hb : fsForPop 4 9 (sgN 10) (fsIf (fTest (fOp dNotInT (fVar 10) (fVar 8))) (fsSeq (fsPutT 8 (fVar 10) (fC (.bl true))) (fsApp 9 (fVar 10))) fsSkip) (envQ t n first F (.dtt (dkv (S.map fun v => (v, lstT (L v))))) s5 s6 s7 G (ws0 ++ [x]) s10) = .ok (.nx (envQ t n first F (.dtt (dkv (S.map fun v => (v, lstT (L v))))) s5 s6 s7 (G ++ new) (ws0 ++ new) s10')) := by
        unfold fsForPop
        show (match ((ws0 ++ [x]).map tupI).getLast? with | some y => (match dIxT (.dtt (dkv (S.map fun v => (v, lstT (L v))))) y with | .ok (.lst es) => forF (sgN 10) _ es ((envQ t n first F (.dtt (dkv (S.map fun v => (v, lstT (L v))))) s5 s6 s7 G (ws0 ++ [x]) s10).set 9 (.own (.lst ((ws0 ++ [x]).map tupI).dropLast))) | _ => .bad) | none => .bad) = _
        have g1 : ((ws0 ++ [x]).map tupI).getLast? = some (tupI x) := by rw [List.map_append]; exact List.getLast?_concat
        have g2 : ((ws0 ++ [x]).map tupI).dropLast = ws0.map tupI := by rw [List.map_append]; exact List.dropLast_concat
        rw [g1, g2]
        show (match dIxT (.dtt (dkv (S.map fun v => (v, lstT (L v))))) (tupI x) with | .ok (.lst es) => _ | _ => _) = _
        rw [hix]
        exact e2
      obtain ⟨G', s10'', e3, hB3⟩ := ret_loop nS hS hL hp (t := t) (n := n) (first := first) (F := F) (s5 := s5) (s6 := s6) (s7 := s7) k (G ++ new) (ws0 ++ new) s10' hB2 (by rw [List.length_append, List.length_append]; omega) (by rw [List.length_append, List.length_append]; omega)
      refine ⟨G', s10'', ?_, hB3⟩
      rw [whileF, ht]
      have ne : (ws0 ++ [x]).isEmpty = false := by cases ws0 <;> rfl
      rw [ne]
      show ((fsForPop 4 9 (sgN 10) _ (envQ t n first F (.dtt (dkv (S.map fun v => (v, lstT (L v))))) s5 s6 s7 G (ws0 ++ [x]) s10)).bind _ : Res Out) = _
      rw [hb]
      exact e3
end Lk06
namespace Lk06
open PySem FW
/-! ### what is reached -/
abbrev fW (t : PTk) (first : Row) : Fd := Bfs.bfs (nxtW t) 10000 0 [(first, .non)] [first]
abbrev fC0 (t : PTk) (first : Row) : Fd := Bfs.bfs (nxtC t) 10000 0 [(first, .int 0)] [first]
theorem keys_WC (t : PTk) (first : Row) : Bfs.keys (fW t first) = Bfs.keys (fC0 t first) := Bfs.bfs_same (fun k j x => by
  unfold nxtW nxtC Bfs.keys
  rw [List.map_map, List.map_map]; rfl) 10000 0 0 _ _ _ rfl
structure Rea (t : PTk) (T : Nat) (first : Row) (S : List Row) : Prop where
  nd : S.Nodup
  few : S.length ≤ 455
  mem : ∀ v, v ∈ S ↔ ∃ p, Bfs.Path (sucP t) first p v
  good : ∀ v ∈ S, Gd1 t T v
theorem Rea.st {t : PTk} {T : Nat} {first : Row} {S : List Row} (h : Rea t T first S) : first ∈ S := (h.mem first).mpr ⟨[], .nil⟩
theorem Rea.cl {t : PTk} {T : Nat} {first : Row} {S : List Row} (h : Rea t T first S) : ∀ v ∈ S, ∀ p ∈ sucP t v, p.2 ∈ S := fun v hv p hp => by
  obtain ⟨q, hq⟩ := (h.mem v).mp hv
  exact (h.mem _).mpr ⟨_, .snoc hq (show (p.1, p.2) ∈ sucP t v from hp)⟩
theorem rea_ok {m : Nat} {t : PTk} (h : t.Ok m) (nd : t.ss.Nodup) {T : Nat} (hT : T ≤ 12) {first : Row} (hf : Gd1 t T first) : Rea t T first (Bfs.keys (fC0 t first)) := by
  have hS := seen_ok h nd hT hf
  obtain ⟨c1, _⟩ := come_size h nd hT hf
  have hm : ∀ v, v ∈ Bfs.keys (fC0 t first) ↔ ∃ p, Bfs.Path (sucP t) first p v := fun v => by
    constructor
    · intro hv
      obtain ⟨p, hp, rfl⟩ := List.mem_map.mp hv
      obtain ⟨j, _, hd⟩ := hS.val p hp
      obtain ⟨q, hq, _⟩ := hd.1
      exact ⟨q, hq⟩
    · rintro ⟨p, hp⟩
      obtain ⟨j, _, hd⟩ := Bfs.dst_of ⟨p, hp, rfl⟩
      exact List.mem_map_of_mem (f := (·.1)) (hS.all j v hd)
  exact ⟨hS.nd, c1, hm, fun v hv => by obtain ⟨p, hp⟩ := (hm v).mp hv; exact path_good h nd hf hp⟩
/-! ### sorted -/
theorem rowsD_map : ∀ {rows : List Row}, (∀ r ∈ rows, r ≠ []) → rowsD (rows.map tupI) = some rows
  | [], _ => rfl
  | [] :: rows, h => absurd rfl (h _ List.mem_cons_self)
  | (x :: xs) :: rows, h => by
    have ih := rowsD_map fun r hr => h r (List.mem_cons_of_mem _ hr)
    show (match intsOf ((x :: xs).map D.int) with | some (n :: ns) => (rowsD (rows.map tupI)).map ((n :: ns) :: ·) | _ => none) = _
    rw [intsOf_map, ih]; rfl
theorem sortF_ok {f : FE} {r : FW.Env} {F : Fd} (e : f r = .ok (.dtf (dkv F))) (hn : ∀ v ∈ Bfs.keys F, v ≠ []) (hl : (Bfs.keys F).length ≤ 100000) : fSortF f r = .ok (lstT (sortB leR (Bfs.keys F))) := by
  unfold fSortF
  rw [e]
  show (match rowsD ((dkv F).map (·.1)) with | some rs => if rs.length ≤ 100000 then Res.ok (D.lst ((sortB leR rs).map tupR)) else .bad | none => .bad) = _
  have e2 : (dkv F).map (·.1) = (Bfs.keys F).map tupI := by
    unfold dkv Bfs.keys
    rw [List.map_map, List.map_map]; rfl
  rw [e2, rowsD_map hn]
  show (if (Bfs.keys F).length ≤ 100000 then _ else _) = _
  rw [if_pos hl]
theorem need_size_ok {n : Int} (h0 : 0 ≤ n) (h1 : n ≤ 12) : fn_need_size [.int n] = .ok .non := by
  refine fn_nx (r' := initE 1 [.int n]) rfl ?_
  refine if_f (not_ok (b := true) (test_ok ?_))
  rw [call3 (x := .int n) (y := .int 0) (z := .int 12) rfl rfl rfl, is_whole_eq]
  show Res.ok (D.bl (decide (0 ≤ n) && decide (n ≤ 12))) = _
  rw [decide_eq_true h0, decide_eq_true h1]; rfl
theorem need_size_bad {d : D} (h : isW 0 12 d = false) : fn_need_size [d] = .exc "BadNumber" := by
  refine fn_exc rfl ?_
  refine (if_t (not_ok (b := false) (test_ok ?_))).trans rfl
  rw [call3 (x := d) (y := .int 0) (z := .int 12) rfl rfl rfl, is_whole_eq, h]
/-- told of a size -/
structure At (m : Nat) (t : PTk) (n T : Nat) : Prop where
  ok : t.Ok m
  few : m ≤ 12
  nd : t.ss.Nodup
  size : n ≤ 12
  le : T ≤ 12
  good : Gd1 t T (atL t (n : Nat))
theorem At.walk {m : Nat} {t : PTk} {n T : Nat} (h : At m t n T) {r : FW.Env} {ft fn : FE} (e0 : ft r = .ok t.d) (e1 : fn r = .ok (.int (n : Nat))) : fCall fn_walked (fCons ft (fCons (fCall fn_begun (fCons ft (fCons fn fNil))) fNil)) r = .ok (.dtf (dkv (fW t (atL t (n : Nat))))) := by
  have eb : fCall fn_begun (fCons ft (fCons fn fNil)) r = .ok (tupI (atL t (n : Nat))) := by
    rw [call2 e0 e1, at_begun h.ok]; exact begun_ok h.ok _
  rw [call2 e0 eb]
  exact walked_ok h.ok h.few h.nd h.le h.good
theorem At.ne {m : Nat} {t : PTk} {n T : Nat} (h : At m t n T) : ∀ v ∈ Bfs.keys (fC0 t (atL t (n : Nat))), v ≠ [] := fun v hv z => by
  have := ((rea_ok h.ok h.nd h.le h.good).good v hv).len
  have hl := h.ok.len
  rw [z] at this
  simp at this
  omega
theorem At.sort {m : Nat} {t : PTk} {n T : Nat} (h : At m t n T) {r : FW.Env} {f : FE} {F : Fd} (e : f r = .ok (.dtf (dkv F))) (hk : Bfs.keys F = Bfs.keys (fC0 t (atL t (n : Nat)))) : fSortF f r = .ok (lstT (sortB leR (Bfs.keys (fC0 t (atL t (n : Nat)))))) := by
  have hf := (rea_ok h.ok h.nd h.le h.good).few
  have := sortF_ok e (by rw [hk]; exact h.ne) (by rw [hk]; omega)
  rw [hk] at this
  exact this
theorem reached_ok {m : Nat} {t : PTk} {n T : Nat} (h : At m t n T) : fn_reached [t.d, .int (n : Nat)] = .ok (lstT (sortB leR (Bfs.keys (fC0 t (atL t (n : Nat)))))) := by
  have hs := h.size
  refine fn_rt rfl ?_
  unfold fs_reached
  refine (seq_nx (expr_ok (d := .non) (by rw [call1 (x := t.d) rfl]; exact need_talk_ok h.ok h.few))).trans ?_
  refine (seq_nx (expr_ok (d := .non) (by rw [call1 (x := .int (n : Nat)) rfl]; exact need_size_ok (by omega) (by omega)))).trans (ret_ok ?_)
  exact h.sort (h.walk rfl rfl) (keys_WC _ _)
def stuck (t : PTk) (v : Row) : Bool := (sucP t v).isEmpty
theorem shp_steps (l : List (Nat × Row)) : (D.lst (l.map stpD)).shp = true := by
  have h1 : D.lays (l.map stpD) = true := by
    induction l with
    | nil => rw [List.map_nil, D.lays]
    | cons x l ih =>
      rw [List.map_cons, D.lays, ih, Bool.and_true]
      show D.lay (.tup [.int (x.1 : Nat), tupI x.2]) = true
      rw [D.lay, D.lays, D.lays, D.lays, D.lay, D.lay, lays_ints]; rfl
  have h2 : D.deps (l.map stpD) ≤ 2 := by
    clear h1
    induction l with
    | nil => rw [List.map_nil, D.deps]; decide
    | cons x l ih =>
      rw [List.map_cons, D.deps]
      refine Nat.max_le.mpr ⟨?_, ih⟩
      show D.dep (.tup [.int (x.1 : Nat), tupI x.2]) ≤ 2
      rw [D.dep, D.deps, D.deps, D.deps, D.dep, D.dep, deps_ints]; decide
  unfold D.shp
  rw [D.lay, h1, D.dep, Bool.true_and]
  exact decide_eq_true (by omega)
theorem eq_nil_steps (l : List (Nat × Row)) : dEq (.lst (l.map stpD)) (.lst []) = .ok (.bl l.isEmpty) := by
  rw [eq_of_shp (shp_steps l) (show (D.lst []).shp = true from by decide +kernel), D.eqv]
  cases l with
  | nil => rw [List.map_nil, D.eqvs]; rfl
  | cons x l => simp [D.eqvs]
theorem ends_ok {m : Nat} {t : PTk} {n T : Nat} (h : At m t n T) : fn_ends_of [t.d, .int (n : Nat)] = .ok (lstT ((sortB leR (Bfs.keys (fC0 t (atL t (n : Nat))))).filter (stuck t))) := by
  have hs := h.size
  have hR := rea_ok h.ok h.nd h.le h.good
  have hf := hR.few
  refine fn_rt rfl ?_
  unfold fs_ends_of
  refine (seq_nx (expr_ok (d := .non) (by rw [call1 (x := t.d) rfl]; exact need_talk_ok h.ok h.few))).trans ?_
  refine (seq_nx (expr_ok (d := .non) (by rw [call1 (x := .int (n : Nat)) rfl]; exact need_size_ok (by omega) (by omega)))).trans (ret_ok ?_)
  have el : (sortB leR (Bfs.keys (fC0 t (atL t (n : Nat))))).length ≤ 455 := by rw [(sortB_perm _).length_eq]; exact hf
  refine plc_of (c := tupI) (l := sortB leR (Bfs.keys (fC0 t (atL t (n : Nat))))) ?_ (by omega) fun v hv => ⟨_, rfl, ?_, fun _ => rfl⟩
  · unfold fIter
    rw [h.sort (h.walk rfl rfl) (keys_WC _ _)]; rfl
  · have hv' := (sortB_perm _).mem_iff.mp hv
    refine tst_eq (x := .lst ((sucP t v).map stpD)) (y := .lst []) ?_ rfl (eq_nil_steps _)
    rw [call2 (x := t.d) (y := tupI v) rfl rfl]
    exact steps_from_row h.ok h.few h.nd (hR.good v hv').len
end Lk06
namespace Lk06
open PySem FW
theorem can_return_ok {m : Nat} {t : PTk} {n T : Nat} (h : At m t n T) : ∃ b, fn_can_return [t.d, .int (n : Nat)] = .ok (.bl b) ∧ (b = true ↔ ∀ v ∈ Bfs.keys (fC0 t (atL t (n : Nat))), ∃ p, Bfs.Path (sucP t) v p (atL t (n : Nat))) := by
  have hs := h.size
  have hR := rea_ok h.ok h.nd h.le h.good
  have hk := keys_WC t (atL t (n : Nat))
  generalize hF : fW t (atL t (n : Nat)) = F at hk
  rw [← hk] at hR ⊢
  have hgood := h.good
  have hwalk := fun r ft fn e0 e1 => h.walk (r := r) (ft := ft) (fn := fn) e0 e1
  have hfirst : fn_walked [t.d, tupI (atL t (n : Nat))] = .ok (.dtf (dkv F)) := by rw [← hF]; exact walked_ok h.ok h.few h.nd h.le h.good
  generalize hfi : atL t (n : Nat) = first at hR hgood hfirst ⊢
  have hFl : F.length ≤ 455 := by have := hR.few; simpa [Bfs.keys] using this
  obtain ⟨s5, s6, s7, ea⟩ := ahead_ok h.ok h.few h.nd (n := .int (n : Nat)) (first := first) (F := F) hR.nd (fun v hv => (hR.good v hv).len) hR.cl hFl
  let S := Bfs.keys F
  let L := growA t S (fun _ => [])
  have hL : ∀ v u, u ∈ L v ↔ u ∈ S ∧ v ∈ (sucP t u).map (·.2) := fun v u => by
    show u ∈ growA t S (fun _ => []) v ↔ _
    rw [mem_growA]
    simp
  have hLl : ∀ v, (L v).length ≤ 10000 := fun v => by
    have go : ∀ (l : List Row) (L0 : Row → List Row), (growA t l L0 v).length ≤ (L0 v).length + 12 * l.length := fun l => by
      induction l with
      | nil => intro L0; exact Nat.le_refl _
      | cons x l ih =>
        intro L0
        have h1 := ih (growS (sucP t x) x L0)
        have h2 := len_growS (s := x) (v := v) (sucP t x) L0
        have h3 := suc_few h.ok x
        have h4 := h.few
        rw [List.length_cons]
        show (growA t l (growS (sucP t x) x L0) v).length ≤ _
        omega
    have h5 := go S fun _ => []
    have h6 := hR.few
    show (growA t S (fun _ => []) v).length ≤ _
    have h7 : S.length ≤ 455 := h6
    simp only [List.length_nil] at h5
    omega
  have hB : Bfs.Back L first S [first] [first] := ⟨by simp, fun v hv => by rw [List.mem_singleton.mp hv]; exact hR.st, fun v hv => hv, fun v hv => by rw [List.mem_singleton.mp hv]; exact .refl, fun v hv hn => absurd hv hn, List.mem_singleton.mpr rfl⟩
  obtain ⟨G', s10', ew, hB'⟩ := ret_loop (t := t) (n := .int (n : Nat)) (first := first) (F := F) (S := S) (L := L) (s5 := s5) (s6 := s6) (s7 := s7) hR.nd hR.few hLl (fun v hv u hu => ((hL v u).mp hu).1) 10000 [first] [first] .un hB (by
    have h6 : S.length ≤ 455 := hR.few
    simp only [List.length_singleton]; omega) (by
    have h6 : S.length ≤ 455 := hR.few
    have h7 : 1 ≤ S.length := List.length_pos_of_mem hR.st
    simp only [List.length_singleton]; omega)
  refine ⟨decide (((G'.length : Nat) : Int) = ((F.length : Nat) : Int)), fn_rt rfl ?_, ?_⟩
  · unfold fs_can_return
    refine (seq_nx (expr_ok (d := .non) (by rw [call1 (x := t.d) rfl]; exact need_talk_ok h.ok h.few))).trans ?_
    refine (seq_nx (expr_ok (d := .non) (by rw [call1 (x := .int (n : Nat)) rfl]; exact need_size_ok (by omega) (by omega)))).trans ?_
    refine (seq_nx (set_ok (d := tupI first) (show 2 < 11 by decide) (by rw [call2 (x := t.d) (y := .int (n : Nat)) rfl rfl, ← hfi, at_begun h.ok]; exact begun_ok h.ok _))).trans ?_
    refine (seq_nx (set_ok (d := .dtf (dkv F)) (show 3 < 11 by decide) (by rw [call2 (x := t.d) (y := tupI first) rfl rfl]; exact hfirst))).trans ?_
    refine (seq_nx ea).trans ?_
    have e2 : fsPar2 8 9 .t .l (fDispT (fVar 2) (fC (.bl true))) (fLst (fCons (fVar 2) fNil)) ((envR t (.int (n : Nat)) first F s5 s6 s7).set 4 (.val (.dtt (dkv (S.map fun v => (v, lstT (L v))))))) = .ok (.nx (envQ t (.int (n : Nat)) first F (.dtt (dkv (S.map fun v => (v, lstT (L v))))) s5 s6 s7 [first] [first] .un)) := by
      have e1 : fDispT (fVar 2) (fC (.bl true)) (plain ((envR t (.int (n : Nat)) first F s5 s6 s7).set 4 (.val (.dtt (dkv (S.map fun v => (v, lstT (L v)))))))) = .ok (.dtt (dkv (trB [first]))) := by
        show (match keyI (tupI first) with | some ks => Res.ok (D.dtt [(.tup (ks.map kD), .bl true)]) | none => .bad) = _
        rw [keyI_ints]
        show Res.ok (D.dtt [(.tup ((first.map Sum.inl).map kD), .bl true)]) = _
        rw [List.map_map]; rfl
      unfold fsPar2
      rw [e1]; rfl
    refine (seq_nx e2).trans ((seq_nx ew).trans (ret_ok ?_))
    have e3 : fCB dLenT (fCons (fVar 8) fNil) (allv (envQ t (.int (n : Nat)) first F (.dtt (dkv (S.map fun v => (v, lstT (L v))))) s5 s6 s7 G' [] s10')) = .ok (.int (G'.length : Nat)) := by
      rw [cb1 (x := .dtt (dkv (trB G'))) rfl]
      show Res.ok (D.int ((dkv (trB G')).length : Nat)) = _
      unfold dkv trB
      rw [List.length_map, List.length_map]
    have e4 : fCB dLenT (fCons (fVar 3) fNil) (allv (envQ t (.int (n : Nat)) first F (.dtt (dkv (S.map fun v => (v, lstT (L v))))) s5 s6 s7 G' [] s10')) = .ok (.int (F.length : Nat)) := by
      rw [cb1 (x := .dtf (dkv F)) rfl]
      show Res.ok (D.int ((dkv F).length : Nat)) = _
      unfold dkv
      rw [List.length_map]
    rw [op_ok e3 e4]
    exact eq_int _ _
  · rw [decide_eq_true_iff]
    have hSl : S.length = F.length := by show (F.map (·.1)).length = _; rw [List.length_map]
    have e1 : ((G'.length : Nat) : Int) = ((F.length : Nat) : Int) ↔ ∀ v ∈ S, v ∈ G' := by
      rw [← Bfs.full_iff hB'.nd hR.nd hB'.sub, hSl]
      omega
    rw [e1]
    refine forall_congr' fun v => forall_congr' fun hv => ?_
    rw [← Bfs.back_iff (pre := L) (U := S) (fun u hu p hp => hR.cl u hu p hp) (fun v u _ => hL v u) hR.st hv]
    exact ⟨fun z => hB'.reach v z, fun z => hB'.all z⟩
/-! ### bad sizes -/
theorem reached_bad {m : Nat} {t : PTk} (h : t.Ok m) (hm : m ≤ 12) {d : D} (hd : isW 0 12 d = false) : fn_reached [t.d, d] = .exc "BadNumber" := by
  refine fn_exc rfl ?_
  unfold fs_reached
  refine (seq_nx (expr_ok (d := .non) (by rw [call1 (x := t.d) rfl]; exact need_talk_ok h hm))).trans ?_
  exact seq_exc (expr_exc (by rw [call1 (x := d) rfl]; exact need_size_bad hd))
theorem ends_bad {m : Nat} {t : PTk} (h : t.Ok m) (hm : m ≤ 12) {d : D} (hd : isW 0 12 d = false) : fn_ends_of [t.d, d] = .exc "BadNumber" := by
  refine fn_exc rfl ?_
  unfold fs_ends_of
  refine (seq_nx (expr_ok (d := .non) (by rw [call1 (x := t.d) rfl]; exact need_talk_ok h hm))).trans ?_
  exact seq_exc (expr_exc (by rw [call1 (x := d) rfl]; exact need_size_bad hd))
theorem return_bad {m : Nat} {t : PTk} (h : t.Ok m) (hm : m ≤ 12) {d : D} (hd : isW 0 12 d = false) : fn_can_return [t.d, d] = .exc "BadNumber" := by
  refine fn_exc rfl ?_
  unfold fs_can_return
  refine (seq_nx (expr_ok (d := .non) (by rw [call1 (x := t.d) rfl]; exact need_talk_ok h hm))).trans ?_
  exact seq_exc (expr_exc (by rw [call1 (x := d) rfl]; exact need_size_bad hd))
theorem to_bad {m : Nat} {t : PTk} (h : t.Ok m) (hm : m ≤ 12) {d e : D} (hd : isW 0 12 d = false) : fn_run_to [t.d, d, e] = .exc "BadNumber" := by
  refine fn_exc rfl ?_
  unfold fs_run_to
  refine (seq_nx (expr_ok (d := .non) (by rw [call1 (x := t.d) rfl]; exact need_talk_ok h hm))).trans ?_
  exact seq_exc (expr_exc (by rw [call1 (x := d) rfl]; exact need_size_bad hd))
end Lk06
namespace Lk06
open PySem FW
/-! ### the law k06 -/
theorem told_exc {r : FW.Env} {f : FE} {c : Str} (e : f r = .exc c) (h : c ∈ names) : fTold names f r = .ok (.tup [.str "refused", .str c]) := by
  unfold fTold
  rw [e]
  show (if c ∈ names then _ else _) = _
  rw [if_pos h]
theorem ne_same {x : D} (h : x.shp = true) (e : D.eqv x x = true) : dNe x x = .ok (.bl false) := by
  rw [ne_of_shp h h, e]; rfl
theorem lst1 {fa : FE} {r : FW.Env} {d : D} (e : fa r = .ok d) : fLst (fCons fa fNil) r = .ok (.lst [d]) := by
  unfold fLst fCons
  rw [e]; rfl
theorem run_asg {w : WE} {sg : SG} {r : Env2} {k : Kt} (h : w.run (plain r) (fun d => resW (sg d r) k.nx fun _ => False) k.ex) : (wsAsg sg w).run r k := h
theorem resW_of {α : Type} {x : Res α} {d : α} {Q : α → Prop} {Z : Str → Prop} (e : x = .ok d) (h : Q d) : resW x Q Z := by rw [e]; exact h
theorem shp_rows (rows : List Row) : (lstT rows).shp = true := by
  have h1 : D.lays (rows.map tupI) = true := by
    induction rows with
    | nil => rw [List.map_nil, D.lays]
    | cons x xs ih => rw [List.map_cons, D.lays, ih, D.lay, lays_ints]; rfl
  have h2 : D.deps (rows.map tupI) ≤ 1 := by
    clear h1
    induction rows with
    | nil => rw [List.map_nil, D.deps]; decide
    | cons x xs ih => rw [List.map_cons, D.deps, D.dep, deps_ints]; exact Nat.max_le.mpr ⟨Nat.le_refl _, ih⟩
  unfold D.shp
  rw [D.lay, h1, D.dep, Bool.true_and]
  exact decide_eq_true (by omega)
theorem eqvs_same (rows : List Row) : D.eqvs (rows.map tupI) (rows.map tupI) = true := by
  induction rows with
  | nil => rw [List.map_nil, D.eqvs]
  | cons x xs ih => rw [List.map_cons, D.eqvs, ih, D.eqv, eqvs_ints, decide_eq_true rfl]; rfl
theorem ne_same_rows (rows : List Row) : dNe (lstT rows) (lstT rows) = .ok (.bl false) := ne_same (shp_rows rows) (by rw [D.eqv]; exact eqvs_same rows)
theorem eq_nil_rows (rows : List Row) : dEq (lstT rows) (.lst []) = .ok (.bl rows.isEmpty) := by
  rw [eq_of_shp (shp_rows rows) (show (D.lst []).shp = true from by decide +kernel), D.eqv]
  cases rows with
  | nil => rw [List.map_nil, D.eqvs]; rfl
  | cons x l => simp [D.eqvs]
abbrev BNB : D := .tup [.str "refused", .str "BadNumber"]
theorem ne_bnb : dNe (.lst [BNB, BNB, BNB, BNB]) (.lst [BNB, BNB, BNB, BNB]) = .ok (.bl false) := ne_same (by decide +kernel) (by decide +kernel)
abbrev envZ (t : PTk) (n : Nat) (s4 s5 s6 s7 s8 s9 : Sl) : Env2 := [.un, .val .dice, .val t.d, .val (.int (n : Nat)), s4, s5, s6, s7, s8, s9]
theorem bad_turn {m : Nat} {t : PTk} (h : t.Ok m) (hm : m ≤ 12) {n : Nat} {s4 s5 s6 s8 s9 : Sl} {d : D} (hd : isW 0 12 d = false) {k : Kt} (q : ∀ s, k.nx (envZ t n s4 s5 s6 (.val d) s s9)) : (wsSeq (wsSetO 8 (wOf (fLst (fCons (fTold names (fCall fn_reached (fCons (fVar 2) (fCons (fVar 7) fNil)))) fNil)))) 
(wsSeq (wsApp 8 (wOf (fTold names (fCall fn_ends_of (fCons (fVar 2) (fCons (fVar 7) fNil)))))) 
(wsSeq (wsApp 8 (wOf (fTold names (fCall fn_can_return (fCons (fVar 2) (fCons (fVar 7) fNil)))))) 
(wsSeq (wsApp 8 (wOf (fTold names (fCall fn_run_to (fCons (fVar 2) (fCons (fVar 7) (fCons (fC .non) fNil))))))) (wsIf (fTest (fOp dNe (fVar 8) (fOp dMulX (fLst (fCons (fTup (fCons (fC (.str "refused")) (fCons (fC (.str "BadNumber")) fNil))) fNil)) (fC (.int 4))))) (wsRet (wOf (fC (.bl false)))) wsSkip))))).run (envZ t n s4 s5 s6 (.val d) s8 s9) k := by
  have hB : ("BadNumber" : Str) ∈ names := by decide +kernel
  have e2 : ∀ (f : List D → Res D), f [t.d, d] = .exc "BadNumber" → ∀ s, fTold names (fCall f (fCons (fVar 2) (fCons (fVar 7) fNil))) (plain (envZ t n s4 s5 s6 (.val d) s s9)) = .ok BNB := fun f hf s => told_exc (by rw [call2 (x := t.d) (y := d) rfl rfl]; exact hf) hB
  refine run_seq (run_setOF (ds := [BNB]) (show 8 < 10 by decide) (lst1 (e2 _ (reached_bad h hm hd) _)) ?_)
  dsimp only
  refine run_seq (run_appF (ds := [BNB]) (d := BNB) rfl (by decide) (e2 _ (ends_bad h hm hd) _) ?_)
  dsimp only
  refine run_seq (run_appF (ds := [BNB, BNB]) (d := BNB) rfl (by decide) (e2 _ (return_bad h hm hd) _) ?_)
  dsimp only
  refine run_seq (run_appF (ds := [BNB, BNB, BNB]) (d := BNB) rfl (by decide) (told_exc (by rw [call3 (x := t.d) (y := d) (z := .non) rfl rfl rfl]; exact to_bad h hm hd) hB) ?_)
  dsimp only
  show WS.run _ (envZ t n s4 s5 s6 (.val d) (.own (.lst [BNB, BNB, BNB, BNB])) s9) _
  exact run_if_f (tst_ne (x := .lst [BNB, BNB, BNB, BNB]) (y := .lst [BNB, BNB, BNB, BNB]) rfl (by kernel_rfl) ne_bnb) (q _)
theorem pure_law : ws_law.run (r0 N_law.length) kRound := by
  unfold ws_law
  refine run_seq (run_asg (wtup (waW (wcall ?_))))
  show fn_Lany_talk [.dice, .int (7 : Nat)] _ _
  refine any_talk_ok (m := 7) (by decide) fun t ht => ?_
  refine waW (roll_ok (m := 5) rfl (by decide) fun n0 n1 n2 => waN ?_)
  show Kt.nx _ _
  obtain ⟨n, rfl⟩ := Int.eq_ofNat_of_zero_le n1
  dsimp only
  have hlen := ht.len
  have nd := four_nodup ht.ss
  have hn : n ≤ 4 := by omega
  show WS.run _ (envZ t n .un .un .un .un .un .un) _
  obtain ⟨T, hT, hf⟩ := at_good ht hn
  have hA : At 7 t n T := ⟨ht, by decide, nd, by omega, hT, hf⟩
  have hR := rea_ok ht nd hT hf
  have hre := reached_ok hA
  have hen := ends_ok hA
  obtain ⟨b, hb1, hb2⟩ := can_return_ok hA
  have hcome : fn_Lcome_to [t.d, tupI (atL t (n : Nat))] = .ok (.dtf (dkv (fC0 t (atL t (n : Nat))))) := come_ok ht (by decide) nd hT hf
  have hsort := fun (r : FW.Env) (f : FE) (e : f r = .ok (.dtf (dkv (fC0 t (atL t (n : Nat)))))) => hA.sort (r := r) (f := f) e rfl
  refine run_seq (run_setF (d := tupI (atL t (n : Nat))) (show 4 < 10 by decide) (by rw [call2 (x := t.d) (y := .int (n : Nat)) rfl rfl]; exact at_start_ok ht _) ?_)
  dsimp only
  generalize hfi : atL t (n : Nat) = first at hf hR hre hen hb2 hcome hsort ⊢
  refine run_seq (run_setF (d := .dtf (dkv (fC0 t first))) (show 5 < 10 by decide) (by rw [call2 (x := t.d) (y := tupI first) rfl rfl]; exact hcome) ?_)
  dsimp only
  show WS.run _ (envZ t n (.val (tupI first)) (.val (.dtf (dkv (fC0 t first)))) .un .un .un .un) _
  have hS := hR.few
  refine run_guard (tst_ne (x := lstT (sortB leR (Bfs.keys (fC0 t first)))) (y := lstT (sortB leR (Bfs.keys (fC0 t first)))) ?_ (hsort _ _ rfl) (ne_same_rows _)) ?_
  · rw [call2 (x := t.d) (y := .int (n : Nat)) rfl rfl]; exact hre
  refine run_guard (tst_ne (x := lstT ((sortB leR (Bfs.keys (fC0 t first))).filter (stuck t))) (y := lstT ((sortB leR (Bfs.keys (fC0 t first))).filter (stuck t))) ?_ ?_ (ne_same_rows _)) ?_
  · rw [call2 (x := t.d) (y := .int (n : Nat)) rfl rfl]; exact hen
  · have el : (sortB leR (Bfs.keys (fC0 t first))).length ≤ 455 := by rw [(sortB_perm _).length_eq]; exact hS
    refine plc_of (c := tupI) (l := sortB leR (Bfs.keys (fC0 t first))) ?_ (by omega) fun v hv => ⟨_, rfl, ?_, fun _ => rfl⟩
    · unfold fIter
      rw [hsort _ _ rfl]; rfl
    · have hv' := (sortB_perm _).mem_iff.mp hv
      refine tst_eq (x := .lst ((sucP t v).map stpD)) (y := .lst []) ?_ rfl (eq_nil_steps _)
      rw [call2 (x := t.d) (y := tupI v) rfl rfl]
      exact steps_on_row ht (by decide) nd (hR.good v hv')
  have lost : fLc (fIterF (fVar 5)) (gN 9) (fTest (fOp dNotInT (fVar 4) (fCall fn_Lcome_to (fCons (fVar 2) (fCons (fVar 9) fNil))))) (fVar 9) [9] (plain (envZ t n (.val (tupI first)) (.val (.dtf (dkv (fC0 t first)))) .un .un .un .un)) = .ok (lstT ((Bfs.keys (fC0 t first)).filter fun v => !decide (first ∈ Bfs.keys (fC0 t v)))) := by
    refine plc_of (c := tupI) (l := Bfs.keys (fC0 t first)) (iterF_ok rfl) (by omega) fun v hv => ⟨_, rfl, ?_, fun _ => rfl⟩
    refine test_ok ?_
    have e1 : fCall fn_Lcome_to (fCons (fVar 2) (fCons (fVar 9) fNil)) ((wipeE (plain (envZ t n (.val (tupI first)) (.val (.dtf (dkv (fC0 t first)))) .un .un .un .un)) [9]).set 9 (some (tupI v))) = .ok (.dtf (dkv (fC0 t v))) := by
      rw [call2 (x := t.d) (y := tupI v) rfl rfl]
      exact come_ok ht (by decide) nd hT (hR.good v hv)
    rw [op_ok (x := tupI first) rfl e1]
    exact notin_dkv (fC0 t v) first
  refine run_seq (imp_setLc _ _ (resW_of (set_ok (show 6 < 10 by decide) lost) ?_))
  show Kt.nx _ _
  dsimp only
  show WS.run _ (envZ t n (.val (tupI first)) (.val (.dtf (dkv (fC0 t first)))) (.val (lstT ((Bfs.keys (fC0 t first)).filter fun v => !decide (first ∈ Bfs.keys (fC0 t v))))) .un .un .un) _
  have hbb : b = ((Bfs.keys (fC0 t first)).filter fun v => !decide (first ∈ Bfs.keys (fC0 t v))).isEmpty := by
    rw [Bool.eq_iff_iff, hb2, List.isEmpty_iff, List.filter_eq_nil_iff]
    refine forall_congr' fun v => forall_congr' fun hv => ?_
    have hRv := rea_ok ht nd hT (hR.good v hv)
    rw [← hRv.mem first]
    simp
  refine run_guard (tst_ne (x := .bl b) (y := .bl b) ?_ ?_ (by cases b <;> exact ne_same (by decide +kernel) (by decide +kernel))) ?_
  · rw [call2 (x := t.d) (y := .int (n : Nat)) rfl rfl]; exact hb1
  · rw [op_ok (x := lstT ((Bfs.keys (fC0 t first)).filter fun v => !decide (first ∈ Bfs.keys (fC0 t v)))) (y := .lst []) rfl rfl, eq_nil_rows, hbb]
  refine run_for (ds := [.int (-1), .int 13, .bl true, .non, .str "1"]) rfl ?_
  refine for_inv (fun ds r => ∃ s7 s8, r = envZ t n (.val (tupI first)) (.val (.dtf (dkv (fC0 t first)))) (.val (lstT ((Bfs.keys (fC0 t first)).filter fun v => !decide (first ∈ Bfs.keys (fC0 t v))))) s7 s8 .un ∧ ∀ d ∈ ds, isW 0 12 d = false) ?_ ?_ _ _ ⟨_, _, rfl, fun d hd => ?_⟩
  · rintro r ⟨s7, s8, rfl, _⟩
    exact trivial
  · rintro d ds r ⟨s7, s8, rfl, hd⟩
    refine ⟨envZ t n (.val (tupI first)) (.val (.dtf (dkv (fC0 t first)))) (.val (lstT ((Bfs.keys (fC0 t first)).filter fun v => !decide (first ∈ Bfs.keys (fC0 t v))))) (.val d) s8 .un, rfl, ?_⟩
    exact bad_turn ht (by decide) (hd d List.mem_cons_self) fun s => ⟨_, _, rfl, fun x hx => hd x (List.mem_cons_of_mem _ hx)⟩
  · simp only [List.mem_cons, List.not_mem_nil, or_false] at hd
    rcases hd with rfl | rfl | rfl | rfl | rfl <;> rfl
end Lk06
open PySem PySem.W PySem.Calls PyProof.Rows
theorem PySem.Challenge.cw_manyends_k06_whole_reached_holds : PySem.Challenge.rw_manyends_k06_whole_reached.Holds := by
  w_on; o_law
  refine HandSHeadRun.head_any (r := OpenLaw.row PySem.Challenge.rw_manyends_k06_whole_reached) (q := view (OpenLaw.row PySem.Challenge.rw_manyends_k06_whole_reached).prog [62]) (H := Lk06.hkL) (ob := Lk06.obL) (M := 6000) (loose := Lk06.looseL) (d := HandSHeadRun.topDef (OpenLaw.row PySem.Challenge.rw_manyends_k06_whole_reached).prog 62) (kwd := []) Lk06.obL_eq
    (by kernel_rfl) (fun s => by kernel_rfl) Lk06.runL (by kernel_rfl) (by kernel_rfl) (by kernel_rfl) (by rfl) (by first | assumption | decide +kernel) (by decide +kernel) ⟨rfl, rfl, rfl, rfl, rfl, by decide +kernel⟩ ?hw ?hc
  case hw => w_witness2
  case hc =>
    refine LamX.walk_ofTsE (l := PySem.Challenge.rw_manyends_k06_whole_reached) (n := 63) (k := 11) (x := "_law_script") (CX := fun w => L2N.CX PySem.Challenge.pw_manyends_k06_whole_reached w) rfl (by decide) (by kernel_rfl) ⟨rfl, by decide, by decide⟩ (fun w mg fa h Y G hmg0 => ?_) (fun w H s e s' z => by obtain ⟨_, _, _, _, _, _, _, _, _, _, _, _, z⟩ := z; exact z)
    obtain ⟨K, S⟩ := Y
    have hmg : mg ("law" : PySem.Str) = some (.ref fa) := by
      have e : (HandSHeadRun.topDef (OpenLaw.row PySem.Challenge.rw_manyends_k06_whole_reached).prog 62).name = ("law" : PySem.Str) := by kernel_rfl
      rw [← e]
      exact hmg0
    exact ⟨K, S.kin, Lk06.okLaw Lk06.pure_law S G hmg⟩
