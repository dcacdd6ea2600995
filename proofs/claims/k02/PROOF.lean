import PyProof.Rows.All
import Wide.All
import OpenK.AllK
import Wide.FinOn
import HandS.ForMost
import HandS.Head0
import HandS.Head1
import HandS.Head2
import HandS.HeadEnd
import HandS.HeadHook1
import HandS.HeadHook2
import HandS.HeadHook4
import HandS.IsInst
import HandS.TupAny
import HandS.Style
import PyProof.StrOps2
import HandS.Gcd
import HandS.Deep
import HandS.Defaults
import HandS.SortInts
import HandS.SetFor
import HandS.Zip
import KE.GoesEnum
import KE.GoesMore
import PyProof.Rows.StrRev
import HandS.Codes
import HandS.TupMul
import PyProof.P3In
import PyProof.Transfer
import KE.SortData
import KE.KDictList
import HandS.DictTup
import HandS.Conv
import KE.KDictSum
import PySem.Challenge.RW_shadehall_k02_whole_echoes_of_masks_rows
set_option Elab.async false
set_option linter.all false
set_option maxRecDepth 100000
set_option maxHeartbeats 4000000
namespace L3
open PySem PySem.Spec PyProof.Rows L2

/-! ### data, cells, the state by data -/
abbrev D := PyData
open Classical in
/-- what stands still: the tracked heap without the things that may be changed -/
noncomputable def Fz (H : Hp) (M : Addr → Prop) : Hp := fun a => if M a then none else H a
theorem Fz.at {H : Hp} {M : Addr → Prop} {a : Addr} {u : HO} (h : Fz H M a = some u) : ¬ M a ∧ H a = some u := by
  unfold Fz at h
  split at h
  · cases h
  · rename_i n
    exact ⟨n, h⟩
theorem Fz.of {H : Hp} {M : Addr → Prop} {a : Addr} {u : HO} (n : ¬ M a) (h : H a = some u) : Fz H M a = some u := by
  unfold Fz
  rw [if_neg n]
  exact h
/-- more is held -/
def Sub (H H' : Hp) : Prop := ∀ a u, H a = some u → H' a = some u
theorem Sub.refl (H : Hp) : Sub H H := fun _ _ h => h
theorem Sub.trans {H H1 H2 : Hp} (h : Sub H H1) (h' : Sub H1 H2) : Sub H H2 := fun a u e => h' a u (h a u e)
theorem Fz.sub {H : Hp} {M : Addr → Prop} : Sub (Fz H M) H := fun _ _ h => (Fz.at h).2
theorem Sub.sqL {K : PySem.W.Frag} {H H' : Hp} (s : Sub H H') {a : Addr} {xs : List V} (h : SqL K H a xs) : SqL K H' a xs := by
  rcases h with (h | ⟨o, h⟩) | h
  · exact .inl (.inl (s _ _ h))
  · exact .inl (.inr ⟨o, s _ _ h⟩)
  · exact .inr h
theorem Sub.sqT {K : PySem.W.Frag} {H H' : Hp} (s : Sub H H') {a : Addr} {xs : List V} (h : SqT K H a xs) : SqT K H' a xs := by
  rcases h with (h | ⟨o, h⟩) | h
  · exact .inl (.inl (s _ _ h))
  · exact .inl (.inr ⟨o, s _ _ h⟩)
  · exact .inr h
/-- the script, as data -/
def scrD (ns : List Int) : D := .dict [(.none, .list (ns.map .int))]
mutual
/-- a value and the data that it is, in things that stand still -/
inductive Rp (K : PySem.W.Frag) (H : Hp) : V → D → Prop
  | non : Rp K H .non .none
  | bl (b : Bool) : Rp K H (.bl b) (.bool b)
  | int (i : Int) : Rp K H (.int i) (.int i)
  | str (x : Str) : Rp K H (.str x) (.str x)
  | lst {a : Addr} {vs : List V} {ds : List D} : H a = some (.lst vs) → RpAll K H vs ds → Rp K H (.ref a) (.list ds)
  | tup {a : Addr} {vs : List V} {ds : List D} : H a = some (.tup vs) → RpAll K H vs ds → Rp K H (.ref a) (.tuple ds)
  | scr {a : Addr} {ns : List Int} : SqL K H a (ns.map V.int) → Rp K H (.ref a) (scrD ns)
inductive RpAll (K : PySem.W.Frag) (H : Hp) : List V → List D → Prop
  | nil : RpAll K H [] []
  | cons {v : V} {vs : List V} {d : D} {ds : List D} : Rp K H v d → RpAll K H vs ds → RpAll K H (v :: vs) (d :: ds)
end
mutual
theorem Rp.sub {K : PySem.W.Frag} {H H' : Hp} (s : Sub H H') : ∀ {v : V} {d : D}, Rp K H v d → Rp K H' v d
  | _, _, .non => .non
  | _, _, .bl b => .bl b
  | _, _, .int i => .int i
  | _, _, .str x => .str x
  | _, _, .lst h r => .lst (s _ _ h) (RpAll.sub s r)
  | _, _, .tup h r => .tup (s _ _ h) (RpAll.sub s r)
  | _, _, .scr h => .scr (s.sqL h)
theorem RpAll.sub {K : PySem.W.Frag} {H H' : Hp} (s : Sub H H') : ∀ {vs : List V} {ds : List D}, RpAll K H vs ds → RpAll K H' vs ds
  | _, _, .nil => .nil
  | _, _, .cons h r => .cons (Rp.sub s h) (RpAll.sub s r)
end
mutual
/-- as the library's comparisons want it -/
theorem Rp.dp {K : PySem.W.Frag} {H : Hp} : ∀ {v : V} {d : D}, Rp K H v d → d.canLay0 = true → Dp K H v d
  | _, _, .non, _ => .non
  | _, _, .bl b, _ => .bl b
  | _, _, .int i, _ => .int i
  | _, _, .str x, _ => .str x
  | _, _, .lst h r, c => .lst (SqL.of h) (RpAll.dp r (by simpa [PyData.canLay0] using c))
  | _, _, .tup h r, c => .tup (SqT.of h) (RpAll.dp r (by simpa [PyData.canLay0] using c))
  | _, _, .scr h, c => by simp [scrD, PyData.canLay0] at c
theorem RpAll.dp {K : PySem.W.Frag} {H : Hp} : ∀ {vs : List V} {ds : List D}, RpAll K H vs ds → PyData.canLayAll0 ds = true → DpAll K H vs ds
  | _, _, .nil, _ => .nil
  | _, _, .cons h r, c => by
    simp only [PyData.canLayAll0, Bool.and_eq_true] at c
    exact .cons (Rp.dp h c.1) (RpAll.dp r c.2)
end
theorem RpAll.length {K : PySem.W.Frag} {H : Hp} : ∀ {vs : List V} {ds : List D}, RpAll K H vs ds → vs.length = ds.length
  | _, _, .nil => rfl
  | _, _, .cons _ r => congrArg (· + 1) (RpAll.length r)
theorem RpAll.append {K : PySem.W.Frag} {H : Hp} : ∀ {vs ws : List V} {ds es : List D}, RpAll K H vs ds → RpAll K H ws es → RpAll K H (vs ++ ws) (ds ++ es)
  | _, _, _, _, .nil, h => h
  | _, _, _, _, .cons a r, h => .cons a (RpAll.append r h)
theorem RpAll.get {K : PySem.W.Frag} {H : Hp} : ∀ {vs : List V} {ds : List D} {i : Nat} {d : D}, RpAll K H vs ds → ds[i]? = some d → ∃ v, vs[i]? = some v ∧ Rp K H v d
  | _, _, _, _, .nil, e => by simp at e
  | _, _, 0, _, .cons h _, e => by simp at e; subst e; exact ⟨_, rfl, h⟩
  | _, _, i + 1, d, .cons _ r, e => by
    obtain ⟨v, h1, h2⟩ := RpAll.get (i := i) (d := d) r (by simpa using e)
    exact ⟨v, by simpa using h1, h2⟩
theorem RpAll.getV {K : PySem.W.Frag} {H : Hp} : ∀ {vs : List V} {ds : List D} {i : Nat} {v : V}, RpAll K H vs ds → vs[i]? = some v → ∃ d, ds[i]? = some d ∧ Rp K H v d
  | _, _, _, _, .nil, e => by simp at e
  | _, _, 0, _, .cons h _, e => by simp at e; subst e; exact ⟨_, rfl, h⟩
  | _, _, i + 1, v, .cons _ r, e => by
    obtain ⟨d, h1, h2⟩ := RpAll.getV (i := i) (v := v) r (by simpa using e)
    exact ⟨d, by simpa using h1, h2⟩
theorem RpAll.take {K : PySem.W.Frag} {H : Hp} : ∀ {vs : List V} {ds : List D} (n : Nat), RpAll K H vs ds → RpAll K H (vs.take n) (ds.take n)
  | _, _, 0, _ => .nil
  | _, _, _ + 1, .nil => .nil
  | _, _, n + 1, .cons h r => .cons h (RpAll.take n r)
theorem RpAll.drop {K : PySem.W.Frag} {H : Hp} : ∀ {vs : List V} {ds : List D} (n : Nat), RpAll K H vs ds → RpAll K H (vs.drop n) (ds.drop n)
  | _, _, 0, h => h
  | _, _, _ + 1, .nil => .nil
  | _, _, n + 1, .cons _ r => RpAll.drop n r
theorem RpAll.reverse {K : PySem.W.Frag} {H : Hp} : ∀ {vs : List V} {ds : List D}, RpAll K H vs ds → RpAll K H vs.reverse ds.reverse
  | _, _, .nil => .nil
  | _, _, .cons h r => by
    rw [List.reverse_cons, List.reverse_cons]
    exact RpAll.append (RpAll.reverse r) (.cons h .nil)
theorem RpAll.set {K : PySem.W.Frag} {H : Hp} {v : V} {d : D} (x : Rp K H v d) : ∀ {vs : List V} {ds : List D} (i : Nat), RpAll K H vs ds → RpAll K H (vs.set i v) (ds.set i d)
  | _, _, _, .nil => .nil
  | _, _, 0, .cons _ r => .cons x r
  | _, _, i + 1, .cons h r => .cons h (RpAll.set x i r)

/-- a thing that may be changed -/
inductive Cell where
  | lst (xs : List D)
  | dK (kvs : List (Key × D))
  | dT (kvs : List (List Key × D))
/-- a value by data: data that stands still, a thing of the store, a thing of one's own slot -/
inductive DV where
  | d (x : D)
  | ref (n : Nat)
  | loc (i : Nat)
inductive Slot where
  | no
  | val (v : DV)
  | own (c : Cell)
abbrev Env3 := List Slot
abbrev Sto := List Cell

def KRp (K : PySem.W.Frag) (H : Hp) : List (Key × V) → List (Key × D) → Prop := Paired fun p q => p.1 = q.1 ∧ Rp K H p.2 q.2
def KTRp (K : PySem.W.Frag) (H : Hp) : List (List Key × V) → List (List Key × D) → Prop := Paired fun p q => p.1 = q.1 ∧ Rp K H p.2 q.2
def CellOk (K : PySem.W.Frag) (H Hz : Hp) (a : Addr) : Cell → Prop
  | .lst xs => ∃ vs, H a = some (.lst vs) ∧ RpAll K Hz vs xs
  | .dK kvs => ∃ ws, H a = some (.dK ws) ∧ KRp K Hz ws kvs
  | .dT kvs => ∃ ws, H a = some (.dT ws) ∧ KTRp K Hz ws kvs
/-- the addresses of what may be changed: the callers' own things, the store's, one's own -/
def Mu (F : Addr → Prop) (m o : Nat → Option Addr) : Addr → Prop := fun a => F a ∨ (∃ n, m n = some a) ∨ ∃ i, o i = some a
def SlotOk (K : PySem.W.Frag) (m : Nat → Option Addr) (H Hz : Hp) (oi : Option Addr) (x : Option (Option V)) : Slot → Prop
  | .no => oi = none
  | .val (.d d) => oi = none ∧ ∃ v, x = some (some v) ∧ Rp K Hz v d
  | .val (.ref n) => oi = none ∧ ∃ a, x = some (some (.ref a)) ∧ m n = some a
  | .val (.loc _) => False
  | .own c => ∃ a, oi = some a ∧ x = some (some (.ref a)) ∧ CellOk K H Hz a c
/-- a thing that is no tuple -/
def NT (x : Option HO) : Prop := ∃ u, x = some u ∧ ∀ xs, u ≠ .tup xs
theorem NT.ne {x : Option HO} (h : NT x) : x ≠ none := by
  obtain ⟨u, rfl, _⟩ := h
  exact Option.some_ne_none u
theorem CellOk.nt {K : PySem.W.Frag} {H Hz : Hp} {a : Addr} {c : Cell} (h : CellOk K H Hz a c) : NT (H a) := by
  cases c with
  | lst xs => obtain ⟨vs, h1, _⟩ := h; exact ⟨_, h1, fun _ e => nomatch e⟩
  | dK kvs => obtain ⟨vs, h1, _⟩ := h; exact ⟨_, h1, fun _ e => nomatch e⟩
  | dT kvs => obtain ⟨vs, h1, _⟩ := h; exact ⟨_, h1, fun _ e => nomatch e⟩
structure Stor (K : PySem.W.Frag) (F : Addr → Prop) (m o : Nat → Option Addr) (S : Sto) (H : Hp) : Prop where
  there : ∀ n c, S[n]? = some c → ∃ a, m n = some a
  is : ∀ n a, m n = some a → ∃ c, S[n]? = some c ∧ CellOk K H (Fz H (Mu F m o)) a c
  inj : ∀ n k a, m n = some a → m k = some a → n = k
  injO : ∀ n i a, m n = some a → o i = some a → False
  injF : ∀ n a, m n = some a → F a → False
  oo : ∀ i j a, o i = some a → o j = some a → i = j
  oF : ∀ i a, o i = some a → F a → False
  liv : ∀ a, Mu F m o a → NT (H a)
theorem Stor.alive {K : PySem.W.Frag} {F : Addr → Prop} {m o : Nat → Option Addr} {S : Sto} {H : Hp} (r : Stor K F m o S H) : ∀ a, Mu F m o a → H a ≠ none := fun a h => (r.liv a h).ne
structure Rel (K : PySem.W.Frag) (F : Addr → Prop) (m o : Nat → Option Addr) (ρ : Env3) (S : Sto) (σ : L2.St) (H : Hp) : Prop where
  st : Stor K F m o S H
  len : σ.length = ρ.length
  sl : ∀ i s, ρ[i]? = some s → SlotOk K m H (Fz H (Mu F m o)) (o i) (σ[i]?) s
  far : ∀ i, ρ.length ≤ i → o i = none
/-- how the heap grows while code runs -/
structure Grow (F : Addr → Prop) (m o : Nat → Option Addr) (H : Hp) (m' o' : Nat → Option Addr) (H' : Hp) : Prop where
  f : ∀ a, F a → H' a = H a
  z : Sub (Fz H (Mu F m o)) (Fz H' (Mu F m' o'))
  m : ∀ n a, m n = some a → m' n = some a
theorem Grow.refl {F : Addr → Prop} {m o : Nat → Option Addr} {H : Hp} : Grow F m o H m o H := ⟨fun _ _ => rfl, Sub.refl _, fun _ _ h => h⟩
theorem Grow.trans {F : Addr → Prop} {m o m1 o1 m2 o2 : Nat → Option Addr} {H H1 H2 : Hp} (g : Grow F m o H m1 o1 H1) (g' : Grow F m1 o1 H1 m2 o2 H2) : Grow F m o H m2 o2 H2 :=
  ⟨fun a h => (g'.f a h).trans (g.f a h), g.z.trans g'.z, fun n a h => g'.m n a (g.m n a h)⟩

def DRep (K : PySem.W.Frag) (F : Addr → Prop) (m o : Nat → Option Addr) (H : Hp) (v : V) : DV → Prop
  | .d x => Rp K (Fz H (Mu F m o)) v x
  | .ref n => ∃ a, m n = some a ∧ v = .ref a
  | .loc i => ∃ a, o i = some a ∧ v = .ref a
theorem DRep.grow {K : PySem.W.Frag} {F : Addr → Prop} {m o m' : Nat → Option Addr} {H H' : Hp} {v : V} {d : DV} (r : DRep K F m o H v d) (g : Grow F m o H m' o H') : DRep K F m' o H' v d := by
  cases d with
  | d x => exact Rp.sub g.z r
  | ref n => obtain ⟨a, h, e⟩ := r; exact ⟨a, g.m n a h, e⟩
  | loc i => exact r

/-! ### readings by data -/
abbrev DK := DV → Sto → Prop
abbrev dTE := Env3 → Sto → DK → Prop
abbrev dTT := Env3 → Sto → (Bool → Sto → Prop) → Prop
abbrev dTA := Env3 → Sto → (List DV → Sto → Prop) → Prop
structure dEnds where
  nx : Env3 → Sto → Prop
  rt : DK
  bk : Env3 → Sto → Prop := fun _ _ => False
  ct : Env3 → Sto → Prop := fun _ _ => False
abbrev dTS := dEnds → Env3 → Sto → Prop

def DReps (K : PySem.W.Frag) (F : Addr → Prop) (m o : Nat → Option Addr) (H : Hp) : List V → List DV → Prop := Paired fun v d => DRep K F m o H v d
theorem DReps.grow {K : PySem.W.Frag} {F : Addr → Prop} {m o m' : Nat → Option Addr} {H H' : Hp} {vs : List V} {ds : List DV} (r : DReps K F m o H vs ds) (g : Grow F m o H m' o H') : DReps K F m' o H' vs ds :=
  Paired.mapP r fun _ _ h => h.grow g

/-- from a reading by data to one over the heap -/
def lift (K : PySem.W.Frag) (t : dTE) : TE := fun σ H Q => ∃ F m o ρ S k, Rel K F m o ρ S σ H ∧ t ρ S k ∧
  ∀ d S' m' H' v, k d S' → Rel K F m' o ρ S' σ H' → Grow F m o H m' o H' → DRep K F m' o H' v d → Q v H'
def liftT (K : PySem.W.Frag) (t : dTT) : TT := fun σ H Q => ∃ F m o ρ S k, Rel K F m o ρ S σ H ∧ t ρ S k ∧
  ∀ b S' m' H', k b S' → Rel K F m' o ρ S' σ H' → Grow F m o H m' o H' → Q b H'
def liftA (K : PySem.W.Frag) (t : dTA) : TA := fun σ H Q => ∃ F m o ρ S k, Rel K F m o ρ S σ H ∧ t ρ S k ∧
  ∀ ds S' m' H' vs, k ds S' → Rel K F m' o ρ S' σ H' → Grow F m o H m' o H' → DReps K F m' o H' vs ds → Q vs H'
structure EndsOk (K : PySem.W.Frag) (F : Addr → Prop) (m o : Nat → Option Addr) (H : Hp) (E : dEnds) (E' : Ends) : Prop where
  nx : ∀ ρ S m' o' σ' H', E.nx ρ S → Rel K F m' o' ρ S σ' H' → Grow F m o H m' o' H' → E'.nx σ' H'
  bk : ∀ ρ S m' o' σ' H', E.bk ρ S → Rel K F m' o' ρ S σ' H' → Grow F m o H m' o' H' → E'.bk σ' H'
  ct : ∀ ρ S m' o' σ' H', E.ct ρ S → Rel K F m' o' ρ S σ' H' → Grow F m o H m' o' H' → E'.ct σ' H'
  rt : ∀ d ρ S m' o' σ' H' v, E.rt d S → Rel K F m' o' ρ S σ' H' → Grow F m o H m' o' H' → DRep K F m' o' H' v d → E'.rt v H'
def liftS (K : PySem.W.Frag) (t : dTS) : TS := fun E' σ H => ∃ F m o ρ S E, Rel K F m o ρ S σ H ∧ t E ρ S ∧ EndsOk K F m o H E E'
theorem EndsOk.grow {K : PySem.W.Frag} {F : Addr → Prop} {m o m1 o1 : Nat → Option Addr} {H H1 : Hp} {E : dEnds} {E' : Ends} (e : EndsOk K F m o H E E') (g : Grow F m o H m1 o1 H1) : EndsOk K F m1 o1 H1 E E' :=
  ⟨fun ρ S m' o' σ' H' h r g' => e.nx ρ S m' o' σ' H' h r (g.trans g'), fun ρ S m' o' σ' H' h r g' => e.bk ρ S m' o' σ' H' h r (g.trans g'),
   fun ρ S m' o' σ' H' h r g' => e.ct ρ S m' o' σ' H' h r (g.trans g'), fun d ρ S m' o' σ' H' v h r g' q => e.rt d ρ S m' o' σ' H' v h r (g.trans g') q⟩

abbrev DE (X : Cx) (e : Expr) (t : dTE) : Prop := PE X e (lift X.K t)
abbrev DT (X : Cx) (e : Expr) (t : dTT) : Prop := PT X e (liftT X.K t)
abbrev DW (X : Cx) (e : Expr) (t : dTT) : Prop := PW X e (liftT X.K t)
abbrev DA (X : Cx) (es : List Expr) (t : dTA) : Prop := PA X es (liftA X.K t)
abbrev DS (X : Cx) (st : Stmt) (t : dTS) : Prop := PS X st (liftS X.K t)
abbrev DSs (X : Cx) (st : List Stmt) (t : dTS) : Prop := PSs X st (liftS X.K t)
theorem PE.imp {X : Cx} {e : Expr} {t t' : TE} (h : PE X e t) (i : ∀ σ H Q, t' σ H Q → t σ H Q) : PE X e t' := ⟨fun pins s σ H Q I q => h.run pins s σ H Q I (i σ H Q q)⟩
theorem PT.imp {X : Cx} {e : Expr} {t t' : TT} (h : PT X e t) (i : ∀ σ H Q, t' σ H Q → t σ H Q) : PT X e t' := ⟨fun pins s σ H Q I q => h.run pins s σ H Q I (i σ H Q q)⟩
theorem PW.imp {X : Cx} {e : Expr} {t t' : TT} (h : PW X e t) (i : ∀ σ H Q, t' σ H Q → t σ H Q) : PW X e t' := ⟨fun wh pins s σ H Q I q => h.run wh pins s σ H Q I (i σ H Q q)⟩
theorem PA.imp {X : Cx} {e : List Expr} {t t' : TA} (h : PA X e t) (i : ∀ σ H Q, t' σ H Q → t σ H Q) : PA X e t' := ⟨fun pos pins s σ H Q I q => h.run pos pins s σ H Q I (i σ H Q q)⟩
theorem PS.imp {X : Cx} {e : Stmt} {t t' : TS} (h : PS X e t) (i : ∀ E σ H, t' E σ H → t E σ H) : PS X e t' := ⟨fun pins s σ H D I q => h.run pins s σ H D I (i D σ H q)⟩
theorem PSs.imp {X : Cx} {e : List Stmt} {t t' : TS} (h : PSs X e t) (i : ∀ E σ H, t' E σ H → t E σ H) : PSs X e t' := ⟨fun pins s σ H D I q => h.run pins s σ H D I (i D σ H q)⟩

/-! ### the state when something new is laid -/
section
variable {K : PySem.W.Frag} {F : Addr → Prop} {m o : Nat → Option Addr} {ρ : Env3} {S : Sto} {σ : L2.St} {H H' : Hp}
/-- nothing that stood is changed -/
theorem fz_sub (s : Sub H H') : Sub (Fz H (Mu F m o)) (Fz H' (Mu F m o)) := fun _ _ h => Fz.of (Fz.at h).1 (s _ _ (Fz.at h).2)
theorem KRp.sub (s : Sub H H') {ws : List (Key × V)} {kvs : List (Key × D)} (h : KRp K H ws kvs) : KRp K H' ws kvs := Paired.mapP h fun _ _ q => ⟨q.1, Rp.sub s q.2⟩
theorem KTRp.sub (s : Sub H H') {ws : List (List Key × V)} {kvs : List (List Key × D)} (h : KTRp K H ws kvs) : KTRp K H' ws kvs := Paired.mapP h fun _ _ q => ⟨q.1, Rp.sub s q.2⟩
theorem CellOk.sub {Hz Hz' : Hp} {a : Addr} {c : Cell} (h : CellOk K H Hz a c) (e : H' a = H a) (s : Sub Hz Hz') : CellOk K H' Hz' a c := by
  cases c with
  | lst xs => obtain ⟨vs, h1, h2⟩ := h; exact ⟨vs, e.trans h1, RpAll.sub s h2⟩
  | dK kvs => obtain ⟨vs, h1, h2⟩ := h; exact ⟨vs, e.trans h1, h2.sub s⟩
  | dT kvs => obtain ⟨vs, h1, h2⟩ := h; exact ⟨vs, e.trans h1, h2.sub s⟩
theorem sub_eq (s : Sub H H') {a : Addr} (h : H a ≠ none) : H' a = H a := by
  cases e : H a with
  | none => exact absurd e h
  | some u => exact s a u e
theorem Stor.sub (r : Stor K F m o S H) (s : Sub H H') : Stor K F m o S H' :=
  ⟨r.there, fun n a e => let ⟨c, h1, h2⟩ := r.is n a e; ⟨c, h1, h2.sub (sub_eq s (r.alive a (.inr (.inl ⟨n, e⟩)))) (fz_sub s)⟩, r.inj, r.injO, r.injF, r.oo, r.oF, fun a h => by
    rw [sub_eq s (r.alive a h)]
    exact r.liv a h⟩
theorem SlotOk.sub {Hz Hz' : Hp} {oi : Option Addr} {x : Option (Option V)} {c : Slot} (h : SlotOk K m H Hz oi x c) (e : ∀ a, oi = some a → H' a = H a) (s : Sub Hz Hz') : SlotOk K m H' Hz' oi x c := by
  cases c with
  | no => exact h
  | val v =>
    cases v with
    | d x => obtain ⟨h0, v, h1, h2⟩ := h; exact ⟨h0, v, h1, Rp.sub s h2⟩
    | ref n => exact h
    | loc i => exact h
  | own c => obtain ⟨a, h0, h1, h2⟩ := h; exact ⟨a, h0, h1, h2.sub (e a h0) s⟩
theorem Rel.sub (r : Rel K F m o ρ S σ H) (s : Sub H H') : Rel K F m o ρ S σ H' :=
  ⟨r.st.sub s, r.len, fun i c e => (r.sl i c e).sub (fun a h => sub_eq s (r.st.alive a (.inr (.inr ⟨i, h⟩)))) (fz_sub s), r.far⟩
theorem Grow.sub (r : Rel K F m o ρ S σ H) (s : Sub H H') : Grow F m o H m o H' := ⟨fun a h => sub_eq s (r.st.alive a (.inl h)), fz_sub s, fun _ _ h => h⟩
theorem sub_upd {p : Addr} {u : HO} (h : H p = none) : Sub H (upd H p u) := fun a w e => by
  rw [upd_ne (ne_of_none e h)]
  exact e
theorem fz_new (r : Stor K F m o S H) {p : Addr} {u : HO} (h : H p = none) : Fz (upd H p u) (Mu F m o) p = some u := Fz.of (fun z => r.alive p z h) upd_same
end
end L3

set_option maxHeartbeats 4000000
namespace L3
open PySem PySem.Spec L2

section
variable {K : PySem.W.Frag} {F : Addr → Prop} {m o : Nat → Option Addr} {ρ : Env3} {S : Sto} {σ : L2.St} {H H' : Hp}
def ersO (o : Nat → Option Addr) (i : Nat) : Nat → Option Addr := fun j => if j = i then none else o j
def putO (o : Nat → Option Addr) (i : Nat) (a : Addr) : Nat → Option Addr := fun j => if j = i then some a else o j
theorem ers_some {i j : Nat} {a : Addr} (h : ersO o i j = some a) : j ≠ i ∧ o j = some a := by
  unfold ersO at h
  split at h
  · cases h
  · rename_i n
    exact ⟨n, h⟩
theorem ers_ne {i j : Nat} (h : j ≠ i) : ersO o i j = o j := if_neg h
theorem ers_same {i : Nat} : ersO o i i = none := if_pos rfl
theorem put_ne {i j : Nat} {a : Addr} (h : j ≠ i) : putO o i a j = o j := if_neg h
theorem put_same {i : Nat} {a : Addr} : putO o i a i = some a := if_pos rfl
theorem mu_ers {i : Nat} {a : Addr} (h : Mu F m (ersO o i) a) : Mu F m o a := by
  rcases h with h | h | ⟨j, h⟩
  · exact .inl h
  · exact .inr (.inl h)
  · exact .inr (.inr ⟨j, (ers_some h).2⟩)
theorem fz_ers (i : Nat) : Sub (Fz H (Mu F m o)) (Fz H (Mu F m (ersO o i))) := fun a u h => Fz.of (fun z => (Fz.at h).1 (mu_ers z)) (Fz.at h).2
theorem Stor.ers (r : Stor K F m o S H) (i : Nat) : Stor K F m (ersO o i) S H :=
  ⟨r.there, fun n a e => let ⟨c, h1, h2⟩ := r.is n a e; ⟨c, h1, h2.sub rfl (fz_ers i)⟩, r.inj, fun n j a h e => r.injO n j a h (ers_some e).2, r.injF,
   fun j k a h h' => r.oo j k a (ers_some h).2 (ers_some h').2, fun j a h => r.oF j a (ers_some h).2, fun a h => r.liv a (mu_ers h)⟩
theorem Grow.ers (i : Nat) : Grow F m o H m (ersO o i) H := ⟨fun _ _ => rfl, fz_ers i, fun _ _ h => h⟩
theorem DRep.ers {v : V} {d : DV} (i : Nat) (r : DRep K F m o H v d) (n : ∀ j, d ≠ .loc j) : DRep K F m (ersO o i) H v d := by
  cases d with
  | d x => exact Rp.sub (fz_ers i) r
  | ref k => exact r
  | loc j => exact absurd rfl (n j)
def isLoc : DV → Bool
  | .loc _ => true
  | _ => false
theorem isLoc_no {d : DV} (h : isLoc d = false) : ∀ j, d ≠ .loc j := fun j e => by subst e; cases h
/-- slot i takes a value -/
theorem Rel.put (r : Rel K F m o ρ S σ H) (i : Nat) {v : V} {d : DV} (q : DRep K F m o H v d) (n : isLoc d = false) : Rel K F m (ersO o i) (ρ.set i (.val d)) S (σ.set i (some v)) H := by
  have q' := q.ers i (isLoc_no n)
  refine ⟨r.st.ers i, by rw [List.length_set, List.length_set, r.len], fun j s e => ?_, fun j h => ?_⟩
  · by_cases hj : i = j
    · subst hj
      have hlt : i < ρ.length := by
        have := (List.getElem?_eq_some_iff.mp e).1
        rwa [List.length_set] at this
      rw [List.getElem?_set_self hlt] at e
      cases e
      rw [ers_same, List.getElem?_set_self (by rw [r.len]; exact hlt)]
      cases d with
      | d x => exact ⟨rfl, v, rfl, q'⟩
      | ref k =>
        obtain ⟨a, h1, h2⟩ := q'
        exact ⟨rfl, a, by rw [h2], h1⟩
      | loc k => cases n
    · rw [List.getElem?_set_ne hj] at e
      rw [ers_ne (Ne.symm hj), List.getElem?_set_ne hj]
      exact (r.sl j s e).sub (fun _ _ => rfl) (fz_ers i)
  · rw [List.length_set] at h
    by_cases hj : j = i
    · subst hj; exact ers_same
    · rw [ers_ne hj]; exact r.far j h
theorem mu_put {i : Nat} {a b : Addr} (h : Mu F m (putO (ersO o i) i a) b) : b = a ∨ Mu F m o b := by
  rcases h with h | h | ⟨j, h⟩
  · exact .inr (.inl h)
  · exact .inr (.inr (.inl h))
  · by_cases hj : j = i
    · subst hj; rw [put_same] at h; cases h; exact .inl rfl
    · rw [put_ne hj] at h
      exact .inr (.inr (.inr ⟨j, (ers_some h).2⟩))
/-- slot i takes a new thing of its own -/
theorem fz_own {i : Nat} {p : Addr} {u : HO} (h : H p = none) : Sub (Fz H (Mu F m o)) (Fz (upd H p u) (Mu F m (putO (ersO o i) i p))) := fun a w e => by
  obtain ⟨e1, e2⟩ := Fz.at e
  have hne : a ≠ p := ne_of_none e2 h
  refine Fz.of (fun z => ?_) (by rw [upd_ne hne]; exact e2)
  rcases mu_put z with z | z
  · exact hne z
  · exact e1 z
theorem Grow.own (r : Stor K F m o S H) {i : Nat} {p : Addr} {u : HO} (h : H p = none) : Grow F m o H m (putO (ersO o i) i p) (upd H p u) :=
  ⟨fun a f => upd_ne (fun e => r.alive a (.inl f) (by rw [e]; exact h)), fz_own h, fun _ _ e => e⟩
theorem Rel.own (r : Rel K F m o ρ S σ H) {i : Nat} {p : Addr} {u : HO} {c : Cell} (h : H p = none) (hi : i < ρ.length)
    (q : CellOk K (upd H p u) (Fz (upd H p u) (Mu F m (putO (ersO o i) i p))) p c) : Rel K F m (putO (ersO o i) i p) (ρ.set i (.own c)) S (σ.set i (some (.ref p))) (upd H p u) := by
  have g := Grow.own (i := i) (u := u) r.st h
  have keep : ∀ a, Mu F m o a → (upd H p u) a = H a := fun a z => upd_ne fun e => r.st.alive a z (by rw [e]; exact h)
  have nop : ∀ {P : Prop}, Mu F m o p → P := fun z => absurd h (r.st.alive p z)
  refine ⟨⟨r.st.there, fun n a e => ?_, r.st.inj, fun n j a e z => ?_, r.st.injF, fun j k a e z => ?_, fun j a e f => ?_, fun a z => ?_⟩, by rw [List.length_set, List.length_set, r.len], fun j s e => ?_, fun j z => ?_⟩
  · obtain ⟨c, h1, h2⟩ := r.st.is n a e
    exact ⟨c, h1, h2.sub (keep a (.inr (.inl ⟨n, e⟩))) g.z⟩
  · by_cases hj : j = i
    · subst hj; rw [put_same] at z; cases z; exact nop (.inr (.inl ⟨n, e⟩))
    · rw [put_ne hj] at z; exact r.st.injO n j a e (ers_some z).2
  · by_cases hj : j = i
    · subst hj
      rw [put_same] at e
      cases e
      by_cases hk : k = j
      · exact hk.symm
      · rw [put_ne hk] at z
        exact nop (.inr (.inr ⟨k, (ers_some z).2⟩))
    · rw [put_ne hj] at e
      by_cases hk : k = i
      · subst hk
        rw [put_same] at z
        cases z
        exact nop (.inr (.inr ⟨j, (ers_some e).2⟩))
      · rw [put_ne hk] at z
        exact r.st.oo j k a (ers_some e).2 (ers_some z).2
  · by_cases hj : j = i
    · subst hj; rw [put_same] at e; cases e; exact nop (.inl f)
    · rw [put_ne hj] at e; exact r.st.oF j a (ers_some e).2 f
  · rcases mu_put z with z | z
    · subst z; exact q.nt
    · rw [keep a z]; exact r.st.liv a z
  · by_cases hj : i = j
    · subst hj
      rw [List.getElem?_set_self hi] at e
      cases e
      exact ⟨p, put_same, List.getElem?_set_self (by rw [r.len]; exact hi), q⟩
    · rw [List.getElem?_set_ne hj] at e
      rw [put_ne (Ne.symm hj), ers_ne (Ne.symm hj), List.getElem?_set_ne hj]
      exact (r.sl j s e).sub (fun a z => keep a (.inr (.inr ⟨j, z⟩))) g.z
  · rw [List.length_set] at z
    have hj : j ≠ i := by omega
    rw [put_ne hj, ers_ne hj]
    exact r.far j z
end
/-! ### what an operand is, seen from outside -/
def keyD : Key → D
  | .inl i => .int i
  | .inr x => .str x
def cellD : Cell → D
  | .lst xs => .list xs
  | .dK kvs => .dict (kvs.map fun p => (keyD p.1, p.2))
  | .dT kvs => .dict (kvs.map fun p => (.tuple (p.1.map keyD), p.2))
def view (ρ : Env3) (S : Sto) : DV → D
  | .d x => x
  | .ref n => match S[n]? with
    | some c => cellD c
    | none => .none
  | .loc i => match ρ[i]? with
    | some (.own c) => cellD c
    | _ => .none
/-- an operand -/
inductive VRep (K : PySem.W.Frag) (H Hz : Hp) : V → D → Prop
  | d {v : V} {x : D} : Rp K Hz v x → VRep K H Hz v x
  | cell {a : Addr} {c : Cell} : CellOk K H Hz a c → VRep K H Hz (.ref a) (cellD c)
section
variable {K : PySem.W.Frag} {F : Addr → Prop} {m o : Nat → Option Addr} {ρ : Env3} {S : Sto} {σ : L2.St} {H H' Hz : Hp}
theorem Rel.view (r : Rel K F m o ρ S σ H) {v : V} {d : DV} (q : DRep K F m o H v d) : VRep K H (Fz H (Mu F m o)) v (view ρ S d) := by
  cases d with
  | d x => exact .d q
  | ref n =>
    obtain ⟨a, h1, rfl⟩ := q
    obtain ⟨c, h2, h3⟩ := r.st.is n a h1
    show VRep K H (Fz H (Mu F m o)) _ (match S[n]? with | some c => cellD c | none => .none)
    rw [h2]
    exact .cell h3
  | loc i =>
    obtain ⟨a, h1, rfl⟩ := q
    have hi : i < ρ.length := by
      by_cases z : i < ρ.length
      · exact z
      · have := r.far i (by omega)
        rw [h1] at this
        cases this
    have hs := r.sl i ρ[i] (List.getElem?_eq_getElem hi)
    show VRep K H (Fz H (Mu F m o)) _ (match ρ[i]? with | some (.own c) => cellD c | _ => .none)
    rw [List.getElem?_eq_getElem hi]
    rw [h1] at hs
    cases e : ρ[i] with
    | no => rw [e] at hs; cases hs
    | val w =>
      rw [e] at hs
      cases w with
      | d x => obtain ⟨z, _⟩ := hs; cases z
      | ref n => obtain ⟨z, _⟩ := hs; cases z
      | loc j => exact hs.elim
    | own c =>
      rw [e] at hs
      obtain ⟨b, h2, _, h3⟩ := hs
      cases h2
      exact .cell h3
theorem VRep.list {M : Addr → Prop} {v : V} {xs : List D} (h : VRep K H (Fz H M) v (.list xs)) : ∃ a vs, v = .ref a ∧ H a = some (.lst vs) ∧ RpAll K (Fz H M) vs xs := by
  generalize hx : (PyData.list xs : D) = y at h
  cases h with
  | d q =>
    subst hx
    cases q with
    | lst h r => exact ⟨_, _, rfl, Fz.sub _ _ h, r⟩
  | @cell a c q =>
    cases c with
    | lst ys =>
      cases hx
      obtain ⟨vs, h1, h2⟩ := q
      exact ⟨a, vs, rfl, h1, h2⟩
    | dK kvs => cases hx
    | dT kvs => cases hx
theorem VRep.tup {v : V} {xs : List D} (h : VRep K H Hz v (.tuple xs)) : ∃ a vs, v = .ref a ∧ Hz a = some (.tup vs) ∧ RpAll K Hz vs xs := by
  generalize hx : (PyData.tuple xs : D) = y at h
  cases h with
  | d q =>
    subst hx
    cases q with
    | tup h r => exact ⟨_, _, rfl, h, r⟩
  | @cell a c q => cases c <;> cases hx
theorem VRep.scr {M : Addr → Prop} {v : V} {ns : List Int} (h : VRep K H (Fz H M) v (scrD ns)) (n : v ≠ v ∨ True := .inr trivial) : (∃ a, v = .ref a ∧ SqL K H a (ns.map V.int)) ∨ ∃ a kvs, v = .ref a ∧ H a = some (.dK kvs) := by
  generalize hx : (scrD ns : D) = y at h
  cases h with
  | d q =>
    cases q with
    | @scr a ms h =>
      have e : ns = ms := by
        simp only [scrD, PyData.dict.injEq, List.cons.injEq, Prod.mk.injEq, PyData.list.injEq, and_true, true_and] at hx
        exact (List.map_inj_right fun _ _ q => PyData.int.inj q).mp hx
      subst e
      exact .inl ⟨a, rfl, Fz.sub.sqL h⟩
    | _ => cases hx
  | @cell a c q =>
    cases c with
    | lst ys => cases hx
    | dK kvs =>
      obtain ⟨ws, h1, h2⟩ := q
      exact .inr ⟨a, ws, rfl, h1⟩
    | dT kvs =>
      exfalso
      simp only [scrD, cellD, PyData.dict.injEq] at hx
      cases kvs with
      | nil => cases hx
      | cons p r => cases hx
theorem VRep.int {v : V} {i : Int} (h : VRep K H Hz v (.int i)) : v = .int i := by
  generalize hx : (PyData.int i : D) = y at h
  cases h with
  | d q => subst hx; cases q; rfl
  | @cell a c q => cases c <;> cases hx
theorem VRep.str {v : V} {i : Str} (h : VRep K H Hz v (.str i)) : v = .str i := by
  generalize hx : (PyData.str i : D) = y at h
  cases h with
  | d q => subst hx; cases q; rfl
  | @cell a c q => cases c <;> cases hx
theorem VRep.bl {v : V} {i : Bool} (h : VRep K H Hz v (.bool i)) : v = .bl i := by
  generalize hx : (PyData.bool i : D) = y at h
  cases h with
  | d q => subst hx; cases q; rfl
  | @cell a c q => cases c <;> cases hx
theorem VRep.non {v : V} (h : VRep K H Hz v .none) : v = .non := by
  generalize hx : (PyData.none : D) = y at h
  cases h with
  | d q => subst hx; cases q; rfl
  | @cell a c q => cases c <;> cases hx
/-- data at any depth, as the comparisons want it -/
theorem VRep.dp {v : V} {x : D} (h : VRep K H Hz v x) (s : Sub Hz H) (n : x.canLay0 = true) : Dp K H v x := by
  cases h with
  | d q => exact Rp.dp (Rp.sub s q) n
  | @cell a c q =>
    cases c with
    | lst ys =>
      obtain ⟨vs, h1, h2⟩ := q
      exact .lst (SqL.of h1) (RpAll.dp (RpAll.sub s h2) (by simpa [cellD, PyData.canLay0] using n))
    | dK kvs => simp [cellD, PyData.canLay0] at n
    | dT kvs => simp [cellD, PyData.canLay0] at n
end
end L3

set_option maxHeartbeats 4000000
namespace L3
open PySem PySem.Spec L2

/-- two ways -/
def Br (b : Bool) (A B : Prop) : Prop := match b with
  | true => A
  | false => B
theorem Br.t {A B : Prop} (h : A) : Br true A B := h
theorem Br.f {A B : Prop} (h : B) : Br false A B := h
theorem Br.i {b : Bool} {A B : Prop} (h : b = true → A) (h' : b = false → B) : Br b A B := by
  cases b
  · exact h' rfl
  · exact h rfl
theorem Br.eT {A B : Prop} (h : Br true A B) : A := h
theorem Br.eF {A B : Prop} (h : Br false A B) : B := h
/-! ### names, constants -/
def dVar (i : Nat) : dTE := fun ρ S Q => match ρ[i]? with
  | some (.val d) => Q d S
  | some (.own _) => Q (.loc i) S
  | _ => False
def dC (x : D) : dTE := fun _ S Q => Q (.d x) S
section
variable {X : Cx}
theorem lift_var {K : PySem.W.Frag} {i : Nat} {σ : L2.St} {H : Hp} {Q : VK} (h : lift K (dVar i) σ H Q) : tVar i σ H Q := by
  obtain ⟨F, m, o, ρ, S, k, r, t, hk⟩ := h
  unfold dVar at t
  cases e : ρ[i]? with
  | none => rw [e] at t; exact t.elim
  | some s =>
    rw [e] at t
    have hs := r.sl i s e
    cases s with
    | no => exact t.elim
    | val d =>
      cases d with
      | d x => obtain ⟨_, v, h1, h2⟩ := hs; exact ⟨v, h1, hk _ S m H v t r Grow.refl h2⟩
      | ref n => obtain ⟨_, a, h1, h2⟩ := hs; exact ⟨_, h1, hk _ S m H _ t r Grow.refl ⟨a, h2, rfl⟩⟩
      | loc j => exact hs.elim
    | own c => obtain ⟨a, h1, h2, h3⟩ := hs; exact ⟨_, h2, hk _ S m H _ t r Grow.refl ⟨a, h1, rfl⟩⟩
theorem de_var {e : Expr} {i : Nat} (h : PE X e (tVar i)) : DE X e (dVar i) := PE.imp h fun _ _ _ => lift_var
theorem lift_c {K : PySem.W.Frag} {v : V} {x : D} (dp : ∀ H : Hp, Rp K H v x) {σ : L2.St} {H : Hp} {Q : VK} (h : lift K (dC x) σ H Q) : tC v σ H Q := by
  obtain ⟨F, m, o, ρ, S, k, r, t, hk⟩ := h
  exact hk _ S m H v t r Grow.refl (dp _)
theorem de_int {i : Int} {j pos} : DE X (.Constant (.int i) j pos) (dC (.int i)) := PE.imp pe_int fun _ _ _ => lift_c fun _ => .int i
theorem de_bl {i : Bool} {j pos} : DE X (.Constant (.bool i) j pos) (dC (.bool i)) := PE.imp pe_bl fun _ _ _ => lift_c fun _ => .bl i
theorem de_str {i : Str} {j pos} : DE X (.Constant (.str i) j pos) (dC (.str i)) := PE.imp pe_str fun _ _ _ => lift_c fun _ => .str i
theorem de_non {j pos} : DE X (.Constant .none j pos) (dC .none) := PE.imp pe_non fun _ _ _ => lift_c fun _ => .non
end

/-! ### operators by values -/
abbrev F1 := D → (D → Prop) → Prop
abbrev F2 := D → D → (D → Prop) → Prop
abbrev FN := List D → (D → Prop) → Prop
def dOp (f : F2) (ta tb : dTE) : dTE := fun ρ S Q => ta ρ S fun d S1 => tb ρ S1 fun e S2 => f (view ρ S2 d) (view ρ S2 e) fun z => Q (.d z) S2
def dUn (f : F1) (ta : dTE) : dTE := fun ρ S Q => ta ρ S fun d S1 => f (view ρ S1 d) fun z => Q (.d z) S1
def dNil : dTA := fun _ S Q => Q [] S
def dCons (ta : dTE) (tr : dTA) : dTA := fun ρ S Q => ta ρ S fun d S1 => tr ρ S1 fun ds S2 => Q (d :: ds) S2
def views (ρ : Env3) (S : Sto) : List DV → List D
  | [] => []
  | d :: ds => view ρ S d :: views ρ S ds
/-- a built-in call, its arguments seen from outside -/
def dCB (f : FN) (ta : dTA) : dTE := fun ρ S Q => ta ρ S fun ds S1 => f (views ρ S1 ds) fun z => Q (.d z) S1
/-- all that may be changed is there -/
def Alive (M : Addr → Prop) (H : Hp) : Prop := ∀ a, M a → NT (H a)
/-- what a rule over values makes of a function of data; u says which units there are -/
def OpD (K : PySem.W.Frag) (r : R2) (f : F2) : Prop := ∀ (M : Addr → Prop) (H : Hp) (x y : V) (dx dy : D) (k : D → Prop) (Q : VK), Alive M H →
  VRep K H (Fz H M) x dx → VRep K H (Fz H M) y dy → f dx dy k → (∀ z v H', k z → Sub H H' → Rp K (Fz H' M) v z → Q v H') → r x y H Q
def UnD (K : PySem.W.Frag) (r : V → Hp → VK → Prop) (f : F1) : Prop := ∀ (M : Addr → Prop) (H : Hp) (x : V) (dx : D) (k : D → Prop) (Q : VK), Alive M H →
  VRep K H (Fz H M) x dx → f dx k → (∀ z v H', k z → Sub H H' → Rp K (Fz H' M) v z → Q v H') → r x H Q
abbrev VReps (K : PySem.W.Frag) (H Hz : Hp) : List V → List D → Prop := Paired fun v x => VRep K H Hz v x
def CallD (K : PySem.W.Frag) (r : List V → Hp → VK → Prop) (f : FN) : Prop := ∀ (M : Addr → Prop) (H : Hp) (xs : List V) (ds : List D) (k : D → Prop) (Q : VK), Alive M H →
  VReps K H (Fz H M) xs ds → f ds k → (∀ z v H', k z → Sub H H' → Rp K (Fz H' M) v z → Q v H') → r xs H Q
section
variable {K : PySem.W.Frag}
theorem lift2 {r : R2} {f : F2} {ta tb : dTE} (hf : OpD K r f) {σ : L2.St} {H : Hp} {Q : VK} (h : lift K (dOp f ta tb) σ H Q) : tOp r (lift K ta) (lift K tb) σ H Q := by
  obtain ⟨F, m, o, ρ, S, k, rel, t, hk⟩ := h
  refine ⟨F, m, o, ρ, S, _, rel, t, fun d S1 m1 H1 v h1 rel1 g1 r1 => ?_⟩
  refine ⟨F, m1, o, ρ, S1, _, rel1, h1, fun e S2 m2 H2 w h2 rel2 g2 r2 => ?_⟩
  exact hf (Mu F m2 o) H2 v w _ _ _ _ rel2.st.liv (rel2.view (r1.grow g2)) (rel2.view r2) h2 fun z u H' kz s dz =>
    hk (.d z) S2 m2 H' u kz (rel2.sub s) ((g1.trans g2).trans (Grow.sub rel2 s)) dz
theorem lift1 {r : V → Hp → VK → Prop} {f : F1} {ta : dTE} (hf : UnD K r f) {σ : L2.St} {H : Hp} {Q : VK} (h : lift K (dUn f ta) σ H Q) : tUn r (lift K ta) σ H Q := by
  obtain ⟨F, m, o, ρ, S, k, rel, t, hk⟩ := h
  refine ⟨F, m, o, ρ, S, _, rel, t, fun d S1 m1 H1 v h1 rel1 g1 r1 => ?_⟩
  exact hf (Mu F m1 o) H1 v _ _ _ rel1.st.liv (rel1.view r1) h1 fun z u H' kz s dz =>
    hk (.d z) S1 m1 H' u kz (rel1.sub s) (g1.trans (Grow.sub rel1 s)) dz
theorem lift_nil {σ : L2.St} {H : Hp} {Q : List V → Hp → Prop} (h : liftA K dNil σ H Q) : tNil σ H Q := by
  obtain ⟨F, m, o, ρ, S, k, rel, t, hk⟩ := h
  exact hk [] S m H [] t rel Grow.refl .nil
theorem lift_cons {ta : dTE} {tr : dTA} {σ : L2.St} {H : Hp} {Q : List V → Hp → Prop} (h : liftA K (dCons ta tr) σ H Q) : tCons (lift K ta) (liftA K tr) σ H Q := by
  obtain ⟨F, m, o, ρ, S, k, rel, t, hk⟩ := h
  refine ⟨F, m, o, ρ, S, _, rel, t, fun d S1 m1 H1 v h1 rel1 g1 r1 => ?_⟩
  refine ⟨F, m1, o, ρ, S1, _, rel1, h1, fun ds S2 m2 H2 vs h2 rel2 g2 r2 => ?_⟩
  exact hk (d :: ds) S2 m2 H2 (v :: vs) h2 rel2 (g1.trans g2) (.cons (r1.grow g2) r2)
theorem Rel.views {F : Addr → Prop} {m o : Nat → Option Addr} {ρ : Env3} {S : Sto} {σ : L2.St} {H : Hp} (r : Rel K F m o ρ S σ H) : ∀ {vs : List V} {ds : List DV}, DReps K F m o H vs ds → VReps K H (Fz H (Mu F m o)) vs (views ρ S ds)
  | _, _, .nil => .nil
  | _, _, .cons h t => .cons (r.view h) (r.views t)
theorem liftCB {r : List V → Hp → VK → Prop} {f : FN} {ta : dTA} (hf : CallD K r f) {σ : L2.St} {H : Hp} {Q : VK} (h : lift K (dCB f ta) σ H Q) : tCB r (liftA K ta) σ H Q := by
  obtain ⟨F, m, o, ρ, S, k, rel, t, hk⟩ := h
  refine ⟨F, m, o, ρ, S, _, rel, t, fun ds S1 m1 H1 vs h1 rel1 g1 r1 => ?_⟩
  exact hf (Mu F m1 o) H1 vs _ _ _ rel1.st.liv (rel1.views r1) h1 fun z u H' kz s dz =>
    hk (.d z) S1 m1 H' u kz (rel1.sub s) (g1.trans (Grow.sub rel1 s)) dz
end
section
variable {X : Cx} {a b : Expr} {ta tb : dTE} {es : List Expr} {tas : dTA} {e : Expr}
theorem de_op {op : Operator} {pos : Pos} {f : F2} (ho : ∃ r, OpR X (binaryOp op) r ∧ OpD X.K r f) (ha : DE X a ta) (hb : DE X b tb) : DE X (.BinOp a op b pos) (dOp f ta tb) :=
  let ⟨r, h1, h2⟩ := ho; PE.imp (pe_op h1 ha hb) fun _ _ _ => lift2 h2
theorem de_un {op : UnaryOp} {pos : Pos} {f : F1} (ho : ∃ r, UnR X (unaryOp op) r ∧ UnD X.K r f) (ha : DE X a ta) : DE X (.UnaryOp op a pos) (dUn f ta) :=
  let ⟨r, h1, h2⟩ := ho; PE.imp (pe_un h1 ha) fun _ _ _ => lift1 h2
theorem de_cmp {op : CmpOp} {pos : Pos} {f : F2} (ho : ∃ r, OpR X (compareOp op) r ∧ OpD X.K r f) (ha : DE X a ta) (hb : DE X b tb) (hm : behindInMarks op b = false := by first | exact nomark _ | rfl) : DE X (.Compare a [op] [b] pos) (dOp f ta tb) :=
  let ⟨r, h1, h2⟩ := ho; PE.imp (pe_cmpR h1 ha hb hm) fun _ _ _ => lift2 h2
theorem da_nil : DA X [] dNil := PA.imp pa_nil fun _ _ _ => lift_nil
theorem da_cons (ha : DE X e ta) (hr : DA X es tas) (hs : starEach (e :: es) X.env = (false, eval e X.env) :: starEach es X.env := by rfl) : DA X (e :: es) (dCons ta tas) :=
  PA.imp (pa_cons ha hr hs) fun _ _ _ => lift_cons
theorem de_callB {id : String} {x : Str} {f : FN} {p pos : Pos} (hc : ∃ r, CallR X (.builtin id) r ∧ CallD X.K r f) (hm : X.mg x = none) (hg : Gl X x) (hv : bootBuiltins x = some (.builtin id)) (ha : DA X (e :: es) tas) (hn : x ≠ "__name__" := by decide) (hdb : (x == ("__debug__" : Str)) = false := by decide)
    (he : starEach (e :: es) X.env = (false, eval e X.env) :: starEach es X.env := by rfl) (hpl : (backTo pos (starEach es X.env)).any (·.1) = false := by rfl) : DE X (.Call (.Name x p) (e :: es) [] pos) (dCB f tas) :=
  let ⟨r, h1, h2⟩ := hc; PE.imp (pe_callB h1 hg hm hv ha hn hdb he hpl) fun _ _ _ => liftCB h2
theorem de_callT {T : String} {x : Str} {f : FN} {p pos : Pos} (hc : ∃ r, CallR X (.type T) r ∧ CallD X.K r f) (hm : X.mg x = none) (hg : Gl X x) (hv : bootBuiltins x = some (.type T)) (ha : DA X (e :: es) tas) (hn : x ≠ "__name__" := by decide) (hdb : (x == ("__debug__" : Str)) = false := by decide)
    (he : starEach (e :: es) X.env = (false, eval e X.env) :: starEach es X.env := by rfl) (hpl : (backTo pos (starEach es X.env)).any (·.1) = false := by rfl) : DE X (.Call (.Name x p) (e :: es) [] pos) (dCB f tas) :=
  let ⟨r, h1, h2⟩ := hc; PE.imp (pe_callTy h1 hg hm hv ha hn hdb he hpl) fun _ _ _ => liftCB h2
end

/-! ### displays -/
/-- only data that stands still -/
def datas : List DV → Option (List D)
  | [] => some []
  | .d x :: r => (datas r).map (x :: ·)
  | _ :: _ => none
theorem datas_rep {K : PySem.W.Frag} {F : Addr → Prop} {m o : Nat → Option Addr} {H : Hp} : ∀ {vs : List V} {ds : List DV} {xs : List D}, DReps K F m o H vs ds → datas ds = some xs → RpAll K (Fz H (Mu F m o)) vs xs
  | _, [], _, .nil, e => by cases e; exact .nil
  | _, .d x :: r, _, .cons h t, e => by
    unfold datas at e
    cases q : datas r with
    | none => rw [q] at e; cases e
    | some ys => rw [q] at e; cases e; exact .cons h (datas_rep t q)
  | _, .ref _ :: _, _, _, e => by cases e
  | _, .loc _ :: _, _, _, e => by cases e
def withDs (ds : List DV) (k : List D → Prop) : Prop := match datas ds with
  | some xs => k xs
  | none => False
theorem withDs_of {ds : List DV} {k : List D → Prop} (h : withDs ds k) : ∃ xs, datas ds = some xs ∧ k xs := by
  unfold withDs at h
  split at h
  · exact ⟨_, by assumption, h⟩
  · exact h.elim
/-- no more than n items -/
def okLen : Nat → List D → Prop → Prop
  | _, [], k => k
  | 0, _ :: _, _ => False
  | n + 1, _ :: xs, k => okLen n xs k
theorem okLen_of : ∀ {n : Nat} {xs : List D} {k : Prop}, okLen n xs k → xs.length ≤ n ∧ k
  | 0, [], _, h => ⟨Nat.le_refl _, h⟩
  | n + 1, [], _, h => ⟨Nat.zero_le _, h⟩
  | 0, _ :: _, _, h => h.elim
  | n + 1, _ :: xs, k, h => let ⟨h1, h2⟩ := okLen_of (n := n) (xs := xs) (k := k) h; ⟨Nat.succ_le_succ h1, h2⟩
abbrev dTF := Env3 → Sto → (List D → Sto → Prop) → Prop
/-- a new list, nobody else's -/
def liftF (K : PySem.W.Frag) (t : dTF) : TE := fun σ H Q => ∃ F m o ρ S k, Rel K F m o ρ S σ H ∧ t ρ S k ∧
  ∀ xs S' m' H1 p vs, k xs S' → Rel K F m' o ρ S' σ H1 → Grow F m o H m' o H1 → H1 p = none → RpAll K (Fz H1 (Mu F m' o)) vs xs → Q (.ref p) (upd H1 p (.lst vs))
abbrev DF (X : Cx) (e : Expr) (t : dTF) : Prop := PE X e (liftF X.K t)
def dFz (t : dTF) : dTE := fun ρ S Q => t ρ S fun xs S' => Q (.d (.list xs)) S'
theorem lift_fz {K : PySem.W.Frag} {t : dTF} {σ : L2.St} {H : Hp} {Q : VK} (h : lift K (dFz t) σ H Q) : liftF K t σ H Q := by
  obtain ⟨F, m, o, ρ, S, k, rel, t, hk⟩ := h
  refine ⟨F, m, o, ρ, S, _, rel, t, fun xs S1 m1 H1 p vs h1 rel1 g1 hp hd => ?_⟩
  have s := sub_upd (u := .lst vs) hp
  refine hk _ S1 m1 _ _ h1 (rel1.sub s) (g1.trans (Grow.sub rel1 s)) ?_
  exact .lst (fz_new rel1.st hp) (RpAll.sub (fz_sub s) hd)
theorem de_fz {X : Cx} {e : Expr} {t : dTF} (h : DF X e t) : DE X e (dFz t) := PE.imp h fun _ _ _ => lift_fz
def fLst (ta : dTA) : dTF := fun ρ S Q => ta ρ S fun ds S1 => withDs ds fun xs => okLen 100 xs (Q xs S1)
theorem df_lst {X : Cx} {es : List Expr} {pos : Pos} {tas : dTA} (h : DA X es tas) : DF X (.List es pos) (fLst tas) := PE.imp (pe_lst h) fun σ H Q q => by
  obtain ⟨F, m, o, ρ, S, k, rel, t, hk⟩ := q
  refine ⟨F, m, o, ρ, S, _, rel, t, fun ds S1 m1 H1 vs h1 rel1 g1 r1 => ?_⟩
  obtain ⟨xs, e, hq⟩ := withDs_of h1
  obtain ⟨hl, hq⟩ := okLen_of hq
  have dp := datas_rep r1 e
  exact ⟨by rw [RpAll.length dp]; exact Nat.le_trans hl (by decide), fun p hp => hk xs S1 m1 H1 p vs hq rel1 g1 hp dp⟩
def dTup (ta : dTA) : dTE := fun ρ S Q => ta ρ S fun ds S1 => withDs ds fun xs => okLen 100 xs (Q (.d (.tuple xs)) S1)
theorem de_tup {X : Cx} {es : List Expr} {x1 : Nat} {pos : Pos} {tas : dTA} (h : DA X es tas) : DE X (.Tuple es x1 pos) (dTup tas) := PE.imp (pe_tup h) fun σ H Q q => by
  obtain ⟨F, m, o, ρ, S, k, rel, t, hk⟩ := q
  refine ⟨F, m, o, ρ, S, _, rel, t, fun ds S1 m1 H1 vs h1 rel1 g1 r1 => ?_⟩
  obtain ⟨xs, e, hq⟩ := withDs_of h1
  obtain ⟨hl, hq⟩ := okLen_of hq
  have dp := datas_rep r1 e
  refine ⟨by rw [RpAll.length dp]; exact Nat.le_trans hl (by decide), fun p hp => ?_⟩
  have s := sub_upd (u := .tup vs) hp
  exact hk _ S1 m1 _ _ hq (rel1.sub s) (g1.trans (Grow.sub rel1 s)) (.tup (fz_new rel1.st hp) (RpAll.sub (fz_sub s) dp))

/-! ### tests -/
def asB (d : DV) (k : Bool → Prop) : Prop := match d with
  | .d (.bool b) => k b
  | _ => False
theorem asB_of {d : DV} {k : Bool → Prop} (h : asB d k) : ∃ b, d = .d (.bool b) ∧ k b := by
  unfold asB at h
  split at h
  · exact ⟨_, rfl, h⟩
  · exact h.elim
theorem dp_bl {K : PySem.W.Frag} {H : Hp} {v : V} {b : Bool} (h : Rp K H v (.bool b)) : v = .bl b := by cases h; rfl
theorem dp_int {K : PySem.W.Frag} {H : Hp} {v : V} {b : Int} (h : Rp K H v (.int b)) : v = .int b := by cases h; rfl
theorem dp_str {K : PySem.W.Frag} {H : Hp} {v : V} {b : Str} (h : Rp K H v (.str b)) : v = .str b := by cases h; rfl
theorem dp_non {K : PySem.W.Frag} {H : Hp} {v : V} (h : Rp K H v .none) : v = .non := by cases h; rfl
/-- a value that is True or False, as a test -/
def dB (t : dTE) : dTT := fun ρ S Q => t ρ S fun d S1 => asB d fun b => Q b S1
theorem lift_b {K : PySem.W.Frag} {t : dTE} {σ : L2.St} {H : Hp} {Q : Bool → Hp → Prop} (h : liftT K (dB t) σ H Q) : lift K t σ H fun x H1 => ∃ c, x = .bl c ∧ Q c H1 := by
  obtain ⟨F, m, o, ρ, S, k, rel, t, hk⟩ := h
  refine ⟨F, m, o, ρ, S, _, rel, t, fun d S1 m1 H1 v h1 rel1 g1 r1 => ?_⟩
  obtain ⟨b, rfl, h2⟩ := asB_of h1
  exact ⟨b, dp_bl r1, hk b S1 m1 H1 h2 rel1 g1⟩
theorem dt_val {X : Cx} {e : Expr} {t : dTE} (h : DE X e t) (he : ∀ whole, isTrue e X.env whole = (do let v ← whole; standAt e.pos; holding [v] (truthy v)) := by intro _; rfl) : DT X e (dB t) :=
  PT.imp (pt_val h he) fun _ _ _ => lift_b
theorem dt_cmp {X : Cx} {a b : Expr} {ta tb : dTE} {op : CmpOp} {pos : Pos} {f : F2} (ho : ∃ r, OpR X (compareOp op) r ∧ OpD X.K r f) (ha : DE X a ta) (hb : DE X b tb) (hm : behindInMarks op b = false := by first | exact nomark _ | rfl) :
    DT X (.Compare a [op] [b] pos) (dB (dOp f ta tb)) := let ⟨r, h1, h2⟩ := ho; PT.imp (pt_cmpR h1 ha hb hm) fun σ H Q q => by
  have h := lift_b q
  exact lift2 h2 h
def dAnd (t u : dTT) : dTT := fun ρ S Q => t ρ S fun c S1 => Br c (u ρ S1 Q) (Q false S1)
def dOr (t u : dTT) : dTT := fun ρ S Q => t ρ S fun c S1 => Br c (Q true S1) (u ρ S1 Q)
def dNot (t : dTT) : dTT := fun ρ S Q => t ρ S fun c S1 => Q (!c) S1
section
variable {X : Cx} {a b : Expr} {ta tb : dTT} {rest : List Expr} {pos : Pos}
theorem dw_pt (h : DW X a ta) : DT X a ta := PW.pt h
theorem dw_and1 (ha : DT X a ta) : DW X (.BoolOp .And [a] pos) ta := pw_and1 ha
theorem dw_or1 (ha : DT X a ta) : DW X (.BoolOp .Or [a] pos) ta := pw_or1 ha
theorem dw_and (ha : DT X a ta) (hb : DW X (.BoolOp .And (b :: rest) pos) tb) : DW X (.BoolOp .And (a :: b :: rest) pos) (dAnd ta tb) := PW.imp (pw_and ha hb) fun σ H Q q => by
  obtain ⟨F, m, o, ρ, S, k, rel, t, hk⟩ := q
  refine ⟨F, m, o, ρ, S, _, rel, t, fun c S1 m1 H1 h1 rel1 g1 => ?_⟩
  cases c with
  | true => exact iteT ⟨F, m1, o, ρ, S1, _, rel1, h1.eT, fun c S2 m2 H2 h2 rel2 g2 => hk c S2 m2 H2 h2 rel2 (g1.trans g2)⟩
  | false => exact iteF (hk false S1 m1 H1 h1.eF rel1 g1)
theorem dw_or (ha : DT X a ta) (hb : DW X (.BoolOp .Or (b :: rest) pos) tb) : DW X (.BoolOp .Or (a :: b :: rest) pos) (dOr ta tb) := PW.imp (pw_or ha hb) fun σ H Q q => by
  obtain ⟨F, m, o, ρ, S, k, rel, t, hk⟩ := q
  refine ⟨F, m, o, ρ, S, _, rel, t, fun c S1 m1 H1 h1 rel1 g1 => ?_⟩
  cases c with
  | true => exact iteT (hk true S1 m1 H1 h1.eT rel1 g1)
  | false => exact iteF ⟨F, m1, o, ρ, S1, _, rel1, h1.eF, fun c S2 m2 H2 h2 rel2 g2 => hk c S2 m2 H2 h2 rel2 (g1.trans g2)⟩
theorem dt_not (ha : DT X a ta) : DT X (.UnaryOp .Not a pos) (dNot ta) := PT.imp (pt_not ha) fun σ H Q q => by
  obtain ⟨F, m, o, ρ, S, k, rel, t, hk⟩ := q
  exact ⟨F, m, o, ρ, S, _, rel, t, fun c S1 m1 H1 h1 rel1 g1 => hk (!c) S1 m1 H1 h1 rel1 g1⟩
end
/-- as values -/
def dAndV (ta tb : dTE) : dTE := fun ρ S Q => ta ρ S fun d S1 => asB d fun c => Br c (tb ρ S1 Q) (Q (.d (.bool false)) S1)
def dOrV (ta tb : dTE) : dTE := fun ρ S Q => ta ρ S fun d S1 => asB d fun c => Br c (Q (.d (.bool true)) S1) (tb ρ S1 Q)
def dNotV (ta : dTE) : dTE := fun ρ S Q => ta ρ S fun d S1 => asB d fun c => Q (.d (.bool (!c))) S1
section
variable {X : Cx} {a b : Expr} {ta tb : dTE} {tt : dTT} {rest : List Expr} {pos : Pos}
theorem de_one {op} (h : DE X a ta) : DE X (.BoolOp op [a] pos) ta := pe_one h
theorem de_and (ha : DE X a ta) (hb : DE X (.BoolOp .And (b :: rest) pos) tb) : DE X (.BoolOp .And (a :: b :: rest) pos) (dAndV ta tb) := PE.imp (pe_and ha hb) fun σ H Q q => by
  obtain ⟨F, m, o, ρ, S, k, rel, t, hk⟩ := q
  refine ⟨F, m, o, ρ, S, _, rel, t, fun d S1 m1 H1 v h1 rel1 g1 r1 => ?_⟩
  obtain ⟨c, rfl, h2⟩ := asB_of h1
  refine ⟨c, dp_bl r1, ?_⟩
  cases c with
  | true => exact iteT ⟨F, m1, o, ρ, S1, _, rel1, h2.eT, fun d S2 m2 H2 w h2 rel2 g2 r2 => hk d S2 m2 H2 w h2 rel2 (g1.trans g2) r2⟩
  | false => exact iteF (hk _ S1 m1 H1 _ h2.eF rel1 g1 (.bl false))
theorem de_or (ha : DE X a ta) (hb : DE X (.BoolOp .Or (b :: rest) pos) tb) : DE X (.BoolOp .Or (a :: b :: rest) pos) (dOrV ta tb) := PE.imp (pe_or ha hb) fun σ H Q q => by
  obtain ⟨F, m, o, ρ, S, k, rel, t, hk⟩ := q
  refine ⟨F, m, o, ρ, S, _, rel, t, fun d S1 m1 H1 v h1 rel1 g1 r1 => ?_⟩
  obtain ⟨c, rfl, h2⟩ := asB_of h1
  refine ⟨c, dp_bl r1, ?_⟩
  cases c with
  | true => exact iteT (hk _ S1 m1 H1 _ h2.eT rel1 g1 (.bl true))
  | false => exact iteF ⟨F, m1, o, ρ, S1, _, rel1, h2.eF, fun d S2 m2 H2 w h2 rel2 g2 r2 => hk d S2 m2 H2 w h2 rel2 (g1.trans g2) r2⟩
theorem de_not (ha : DE X a ta) : DE X (.UnaryOp .Not a pos) (dNotV ta) := PE.imp (pe_not ha) fun σ H Q q => by
  obtain ⟨F, m, o, ρ, S, k, rel, t, hk⟩ := q
  refine ⟨F, m, o, ρ, S, _, rel, t, fun d S1 m1 H1 v h1 rel1 g1 r1 => ?_⟩
  obtain ⟨c, rfl, h2⟩ := asB_of h1
  exact ⟨c, dp_bl r1, hk _ S1 m1 H1 _ h2 rel1 g1 (.bl _)⟩
def dIfE (t : dTT) (ta tb : dTE) : dTE := fun ρ S Q => t ρ S fun c S1 => Br c (ta ρ S1 Q) (tb ρ S1 Q)
theorem de_ifExp {c : Expr} (hc : DT X c tt) (ha : DE X a ta) (hb : DE X b tb) : DE X (.IfExp c a b pos) (dIfE tt ta tb) := PE.imp (pe_ifExp hc ha hb) fun σ H Q q => by
  obtain ⟨F, m, o, ρ, S, k, rel, t, hk⟩ := q
  refine ⟨F, m, o, ρ, S, _, rel, t, fun c S1 m1 H1 h1 rel1 g1 => ?_⟩
  cases c with
  | true => exact iteT ⟨F, m1, o, ρ, S1, _, rel1, h1.eT, fun d S2 m2 H2 w h2 rel2 g2 r2 => hk d S2 m2 H2 w h2 rel2 (g1.trans g2) r2⟩
  | false => exact iteF ⟨F, m1, o, ρ, S1, _, rel1, h1.eF, fun d S2 m2 H2 w h2 rel2 g2 r2 => hk d S2 m2 H2 w h2 rel2 (g1.trans g2) r2⟩
end
end L3

set_option maxHeartbeats 4000000
namespace L3
open PySem PySem.Spec L2

theorem RpAll.ints {K : PySem.W.Frag} {H : Hp} : ∀ {vs : List V} {ns : List Int}, RpAll K H vs (ns.map .int) → vs = ns.map V.int
  | _, [], .nil => rfl
  | _, n :: ns, .cons h r => by
    cases h
    rw [RpAll.ints r]
    rfl
theorem RpAll.bls {K : PySem.W.Frag} {H : Hp} : ∀ {vs : List V} {ns : List Bool}, RpAll K H vs (ns.map .bool) → vs = ns.map V.bl
  | _, [], .nil => rfl
  | _, n :: ns, .cons h r => by
    cases h
    rw [RpAll.bls r]
    rfl
theorem RpAll.strs {K : PySem.W.Frag} {H : Hp} : ∀ {vs : List V} {ns : List Str}, RpAll K H vs (ns.map .str) → vs = ns.map V.str
  | _, [], .nil => rfl
  | _, n :: ns, .cons h r => by
    cases h
    rw [RpAll.strs r]
    rfl
theorem VRep.tup' {K : PySem.W.Frag} {H : Hp} {M : Addr → Prop} {v : V} {xs : List D} (h : VRep K H (Fz H M) v (.tuple xs)) : ∃ a vs, v = .ref a ∧ SqT K H a vs ∧ H a = some (.tup vs) ∧ ¬ M a ∧ RpAll K (Fz H M) vs xs := by
  obtain ⟨a, vs, e, h1, h2⟩ := h.tup
  obtain ⟨n, h3⟩ := Fz.at h1
  exact ⟨a, vs, e, SqT.of h3, h3, n, h2⟩
theorem VRep.list' {K : PySem.W.Frag} {H : Hp} {M : Addr → Prop} {v : V} {xs : List D} (h : VRep K H (Fz H M) v (.list xs)) : ∃ a vs, v = .ref a ∧ SqL K H a vs ∧ H a = some (.lst vs) ∧ RpAll K (Fz H M) vs xs := by
  obtain ⟨a, vs, e, h1, h2⟩ := h.list
  exact ⟨a, vs, e, SqL.of h1, h1, h2⟩
/-- what a new list, a new tuple is -/
theorem new_lst {K : PySem.W.Frag} {H : Hp} {M : Addr → Prop} {p : Addr} {vs : List V} {xs : List D} (al : Alive M H) (hp : H p = none) (h : RpAll K (Fz H M) vs xs) : Rp K (Fz (upd H p (.lst vs)) M) (.ref p) (.list xs) := by
  have s : Sub (Fz H M) (Fz (upd H p (.lst vs)) M) := fun a u e => Fz.of (Fz.at e).1 (sub_upd hp a u (Fz.at e).2)
  exact .lst (Fz.of (fun z => (al p z).ne hp) upd_same) (RpAll.sub s h)
theorem new_tup {K : PySem.W.Frag} {H : Hp} {M : Addr → Prop} {p : Addr} {vs : List V} {xs : List D} (al : Alive M H) (hp : H p = none) (h : RpAll K (Fz H M) vs xs) : Rp K (Fz (upd H p (.tup vs)) M) (.ref p) (.tuple xs) := by
  have s : Sub (Fz H M) (Fz (upd H p (.tup vs)) M) := fun a u e => Fz.of (Fz.at e).1 (sub_upd hp a u (Fz.at e).2)
  exact .tup (Fz.of (fun z => (al p z).ne hp) upd_same) (RpAll.sub s h)

/-! ### + - * // % ** -/
def fAdd : F2 := fun x y k => match x, y with
  | .int i, .int j => k (.int (i + j))
  | .str a, .str b => a.length + b.length ≤ sizeLine ∧ k (.str (a ++ b))
  | .tuple xs, .tuple ys => xs.length + ys.length ≤ sizeLine ∧ k (.tuple (xs ++ ys))
  | .list xs, .list ys => xs.length + ys.length ≤ sizeLine ∧ k (.list (xs ++ ys))
  | _, _ => False
def fSub : F2 := fun x y k => match x, y with
  | .int i, .int j => k (.int (i - j))
  | _, _ => False
def strTimes (z : Str) (n : Int) : Str := ⟨(List.replicate n.toNat z.cps.toList).flatten.toArray⟩
def fMul : F2 := fun x y k => match x, y with
  | .int i, .int j => CMul i j ∧ k (.int (i * j))
  | .str z, .int n => (-(2 ^ 63) ≤ n ∧ n < 2 ^ 63 ∧ z.length * n.toNat ≤ sizeLine) ∧ k (.str (strTimes z n))
  | .list xs, .int n => (-(2 ^ 63) ≤ n ∧ n < 2 ^ 63 ∧ xs.length * n.toNat ≤ sizeLine) ∧ k (.list (List.replicate n.toNat xs).flatten)
  | _, _ => False
def fDiv : F2 := fun x y k => match x, y with
  | .int i, .int j => CDiv i j ∧ k (.int (i / j))
  | _, _ => False
def fMod : F2 := fun x y k => match x, y with
  | .int i, .int j => 0 < j ∧ k (.int (i % j))
  | _, _ => False
def fPow : F2 := fun x y k => match x, y with
  | .int i, .int j => CPow i j ∧ k (.int (i ^ j.toNat))
  | _, _ => False
def fNeg : F1 := fun x k => match x with
  | .int i => k (.int (-i))
  | _ => False
theorem flat_rep {K : PySem.W.Frag} {H : Hp} {vs : List V} {xs : List D} (h : RpAll K H vs xs) : ∀ n : Nat, RpAll K H (List.replicate n vs).flatten (List.replicate n xs).flatten
  | 0 => .nil
  | n + 1 => by
    rw [List.replicate_succ, List.replicate_succ, List.flatten_cons, List.flatten_cons]
    exact RpAll.append h (flat_rep h n)
section
variable {X : Cx}
theorem op_mulS : OpR X (binaryOp .Mult) (fun x y H Q => ∃ (z : Str) (n : Int), x = .str z ∧ y = .int n ∧ (-(2 ^ 63) ≤ n ∧ n < 2 ^ 63 ∧ z.length * n.toNat ≤ sizeLine) ∧ Q (.str (strTimes z n)) H) := by
  intro pins s σ H x y v u Q I rx ry h
  obtain ⟨z, n, rfl, rfl, ⟨h1, h2, h3⟩, q⟩ := h
  obtain ⟨t, rfl⟩ := rx
  obtain ⟨t', rfl⟩ := ry
  have e0 : (decide (n < -(2 ^ 63 : Int)) || decide (n ≥ 2 ^ 63)) = false := by
    rw [decide_eq_false (by omega), decide_eq_false (by omega)]
    rfl
  have foldl_arr : ∀ (m : Nat) (acc : Array Nat), ((List.replicate m z.cps).foldl (· ++ ·) acc) = (acc.toList ++ (List.replicate m z.cps.toList).flatten).toArray := by
    intro m
    induction m with
    | zero => intro acc; simp
    | succ m ih =>
      intro acc
      rw [List.replicate_succ, List.foldl_cons, ih, List.replicate_succ, List.flatten_cons]
      simp
  have e1 : ¬ n < 1 → (n == 1 || z.length == 0) = false → ¬ ((z.length : Int) > (2 ^ 63 - 1) / n) := by
    intro a b c
    have hn : 0 < n := by omega
    have hs : (sizeLine : Nat) = 16777216 := sizeLine_eq
    have hz : z.length ≤ 16777216 := by
      have : z.length * 1 ≤ z.length * n.toNat := Nat.mul_le_mul_left _ (by omega)
      omega
    have : (z.length : Int) * n ≤ 16777216 := by
      have e : n = (n.toNat : Int) := by omega
      rw [e]
      have : ((z.length * n.toNat : Nat) : Int) ≤ 16777216 := by omega
      rw [Int.natCast_mul] at this
      exact this
    have c2 := Int.lt_ediv_add_one_mul_self (2 ^ 63 - 1) hn
    have c3 : ((2 ^ 63 - 1) / n + 1) * n ≤ (z.length : Int) * n := Int.mul_le_mul_of_nonneg_right (by omega) (by omega)
    omega
  have e2 : ¬ n < 1 → (n == 1 || z.length == 0) = false → Builtin.Str.tooLong (z.length * n.toNat) = false := fun _ _ => decide_eq_false (by omega)
  refine PySem.P.mul_str e0 e1 e2 ?_
  split
  · rename_i hn
    have en : strTimes z n = Str.empty := by
      unfold strTimes
      rw [show n.toNat = 0 by omega]
      rfl
    rw [en] at q
    exact ⟨by decide, .str Str.empty, H, I.tok _, ⟨_, rfl⟩, q⟩
  · split
    · rename_i hn hc
      have en : strTimes z n = z := by
        simp only [Bool.or_eq_true, beq_iff_eq] at hc
        unfold strTimes
        rcases hc with hc | hc
        · subst hc
          simp
        · have ez : z.cps.toList = [] := by
            have : z.cps.size = 0 := hc
            rw [← List.length_eq_zero_iff, Array.length_toList]
            exact this
          have ez2 : z = ⟨#[]⟩ := by
            cases z with
            | mk c =>
              have : c = #[] := by
                have := congrArg List.toArray ez
                simpa using this
              rw [this]
          rw [ez, ez2]
          simp
      rw [en] at q
      exact ⟨.str z, H, I, ⟨_, rfl⟩, q⟩
    · have en : strTimes z n = ⟨(List.replicate n.toNat z.cps).foldl (· ++ ·) #[]⟩ := by
        unfold strTimes
        rw [foldl_arr]
        simp
      rw [← en]
      refine ⟨?_, .str (strTimes z n), H, I.tok _, ⟨_, rfl⟩, q⟩
      show (List.flatten (List.replicate n.toNat z.cps.toList)).toArray.size ≤ sizeLine
      rw [List.size_toArray, PyProof.Rows.lm_len_rep_flat, Array.length_toList, Nat.mul_comm]
      exact h3

theorem o_add : ∃ r, OpR X (binaryOp .Add) r ∧ OpD X.K r fAdd := by
  refine ⟨_, op_add.or (op_add_str.or (op_catA.or op_cat)), fun M H x y dx dy k Q al rx ry h fin => ?_⟩
  unfold fAdd at h
  split at h
  · exact .inl ⟨_, _, rx.int, ry.int, fin _ _ _ h (Sub.refl _) (.int _)⟩
  · exact .inr (.inl ⟨_, _, rx.str, ry.str, h.1, fin _ _ _ h.2 (Sub.refl _) (.str _)⟩)
  · obtain ⟨a, vs, rfl, h1, h1', n1, h2⟩ := rx.tup'
    obtain ⟨b, ws, rfl, g1, g1', n2, g2⟩ := ry.tup'
    refine .inr (.inr (.inl ⟨a, b, vs, ws, rfl, rfl, h1, g1, by rw [RpAll.length h2, RpAll.length g2]; exact h.1, fun e => ?_, fun e e2 => ?_, fun e e2 p hp => ?_⟩))
    · subst e
      cases h2
      exact fin _ _ _ h.2 (Sub.refl _) (.tup (Fz.of n2 g1') g2)
    · subst e2
      cases g2
      have hk := h.2
      rw [List.append_nil] at hk
      exact fin _ _ _ hk (Sub.refl _) (.tup (Fz.of n1 h1') h2)
    · exact fin _ _ _ h.2 (sub_upd hp) (new_tup al hp (RpAll.append h2 g2))
  · obtain ⟨a, vs, rfl, h1, h1', h2⟩ := rx.list'
    obtain ⟨b, ws, rfl, g1, g1', g2⟩ := ry.list'
    exact .inr (.inr (.inr ⟨a, b, vs, ws, rfl, rfl, h1', g1', by rw [RpAll.length h2, RpAll.length g2]; exact h.1, fun p hp => fin _ _ _ h.2 (sub_upd hp) (new_lst al hp (RpAll.append h2 g2))⟩))
  · exact h.elim
theorem o_sub : ∃ r, OpR X (binaryOp .Sub) r ∧ OpD X.K r fSub := by
  refine ⟨_, op_sub, fun M H x y dx dy k Q al rx ry h fin => ?_⟩
  unfold fSub at h
  split at h
  · exact ⟨_, _, rx.int, ry.int, fin _ _ _ h (Sub.refl _) (.int _)⟩
  · exact h.elim
theorem o_mul : ∃ r, OpR X (binaryOp .Mult) r ∧ OpD X.K r fMul := by
  refine ⟨_, op_mul.or (op_mulS.or op_rep), fun M H x y dx dy k Q al rx ry h fin => ?_⟩
  unfold fMul at h
  split at h
  · exact .inl ⟨_, _, rx.int, ry.int, h.1, fin _ _ _ h.2 (Sub.refl _) (.int _)⟩
  · exact .inr (.inl ⟨_, _, rx.str, ry.int, h.1, fin _ _ _ h.2 (Sub.refl _) (.str _)⟩)
  · obtain ⟨a, vs, rfl, h1, h1', h2⟩ := rx.list'
    obtain ⟨⟨c1, c2, c3⟩, hk⟩ := h
    exact .inr (.inr ⟨a, _, vs, rfl, ry.int, h1', c1, c2, by rw [RpAll.length h2]; exact c3, fun p hp => fin _ _ _ hk (sub_upd hp) (new_lst al hp (flat_rep h2 _))⟩)
  · exact h.elim
theorem o_div : ∃ r, OpR X (binaryOp .FloorDiv) r ∧ OpD X.K r fDiv := by
  refine ⟨_, op_fdiv, fun M H x y dx dy k Q al rx ry h fin => ?_⟩
  unfold fDiv at h
  split at h
  · exact ⟨_, _, rx.int, ry.int, h.1, fin _ _ _ h.2 (Sub.refl _) (.int _)⟩
  · exact h.elim
theorem o_mod : ∃ r, OpR X (binaryOp .Mod) r ∧ OpD X.K r fMod := by
  refine ⟨_, op_mod, fun M H x y dx dy k Q al rx ry h fin => ?_⟩
  unfold fMod at h
  split at h
  · exact ⟨_, _, rx.int, ry.int, h.1, fin _ _ _ h.2 (Sub.refl _) (.int _)⟩
  · exact h.elim
theorem o_pow : ∃ r, OpR X (binaryOp .Pow) r ∧ OpD X.K r fPow := by
  refine ⟨_, op_pow, fun M H x y dx dy k Q al rx ry h fin => ?_⟩
  unfold fPow at h
  split at h
  · exact ⟨_, _, rx.int, ry.int, h.1, fin _ _ _ h.2 (Sub.refl _) (.int _)⟩
  · exact h.elim
theorem u_neg : ∃ r, UnR X (unaryOp .USub) r ∧ UnD X.K r fNeg := by
  refine ⟨_, un_neg, fun M H x dx k Q al rx h fin => ?_⟩
  unfold fNeg at h
  split at h
  · exact ⟨_, rx.int, fin _ _ _ h (Sub.refl _) (.int _)⟩
  · exact h.elim

/-! ### comparisons -/
def fEq : F2 := fun x y k => match x, y with
  | .int i, .int j => k (.bool (decide (i = j)))
  | .str a, .str b => k (.bool (decide (a = b)))
  | .bool a, .bool b => k (.bool (decide (a = b)))
  | x, y => SeqAt.shaped x = true ∧ SeqAt.shaped y = true ∧ k (.bool (PyData.eqv x y))
def fNe : F2 := fun x y k => match x, y with
  | .int i, .int j => k (.bool (!decide (i = j)))
  | .str a, .str b => k (.bool (!decide (a = b)))
  | .bool a, .bool b => k (.bool (!decide (a = b)))
  | x, y => SeqAt.shaped x = true ∧ SeqAt.shaped y = true ∧ k (.bool (!PyData.eqv x y))
theorem o_eq (hu : X.A.units + 64 < cLine) : ∃ r, OpR X (compareOp .Eq) r ∧ OpD X.K r fEq := by
  refine ⟨_, op_eq.or (op_eqD hu), fun M H x y dx dy k Q al rx ry h fin => ?_⟩
  unfold fEq at h
  split at h
  · have e1 := rx.int
    have e2 := ry.int
    subst e1 e2
    refine .inl ⟨rfl, fin _ _ _ h (Sub.refl _) ?_⟩
    rw [show decide (V.int _ = V.int _) = decide _ from decide_eq_decide.mpr ⟨V.int.inj, congrArg V.int⟩]
    exact .bl _
  · have e1 := rx.str
    have e2 := ry.str
    subst e1 e2
    refine .inl ⟨rfl, fin _ _ _ h (Sub.refl _) ?_⟩
    rw [show decide (V.str _ = V.str _) = decide _ from decide_eq_decide.mpr ⟨V.str.inj, congrArg V.str⟩]
    exact .bl _
  · have e1 := rx.bl
    have e2 := ry.bl
    subst e1 e2
    refine .inl ⟨rfl, fin _ _ _ h (Sub.refl _) ?_⟩
    rw [show decide (V.bl _ = V.bl _) = decide _ from decide_eq_decide.mpr ⟨V.bl.inj, congrArg V.bl⟩]
    exact .bl _
  · obtain ⟨h1, h2, h3⟩ := h
    exact .inr ⟨_, _, rx.dp Fz.sub (SeqAt.canLay_of_shaped h1), ry.dp Fz.sub (SeqAt.canLay_of_shaped h2), h1, h2, fin _ _ _ h3 (Sub.refl _) (.bl _)⟩
theorem o_ne (hu : X.A.units + 64 < cLine) : ∃ r, OpR X (compareOp .NotEq) r ∧ OpD X.K r fNe := by
  refine ⟨_, op_ne.or (op_neD hu), fun M H x y dx dy k Q al rx ry h fin => ?_⟩
  unfold fNe at h
  split at h
  · have e1 := rx.int
    have e2 := ry.int
    subst e1 e2
    refine .inl ⟨rfl, fin _ _ _ h (Sub.refl _) ?_⟩
    rw [show decide (V.int _ = V.int _) = decide _ from decide_eq_decide.mpr ⟨V.int.inj, congrArg V.int⟩]
    exact .bl _
  · have e1 := rx.str
    have e2 := ry.str
    subst e1 e2
    refine .inl ⟨rfl, fin _ _ _ h (Sub.refl _) ?_⟩
    rw [show decide (V.str _ = V.str _) = decide _ from decide_eq_decide.mpr ⟨V.str.inj, congrArg V.str⟩]
    exact .bl _
  · have e1 := rx.bl
    have e2 := ry.bl
    subst e1 e2
    refine .inl ⟨rfl, fin _ _ _ h (Sub.refl _) ?_⟩
    rw [show decide (V.bl _ = V.bl _) = decide _ from decide_eq_decide.mpr ⟨V.bl.inj, congrArg V.bl⟩]
    exact .bl _
  · obtain ⟨h1, h2, h3⟩ := h
    exact .inr ⟨_, _, rx.dp Fz.sub (SeqAt.canLay_of_shaped h1), ry.dp Fz.sub (SeqAt.canLay_of_shaped h2), h1, h2, fin _ _ _ h3 (Sub.refl _) (.bl _)⟩
def fLt : F2 := fun x y k => match x, y with
  | .int i, .int j => k (.bool (decide (i < j)))
  | _, _ => False
def fLe : F2 := fun x y k => match x, y with
  | .int i, .int j => k (.bool (decide (i ≤ j)))
  | _, _ => False
def fGt : F2 := fun x y k => match x, y with
  | .int i, .int j => k (.bool (decide (j < i)))
  | _, _ => False
def fGe : F2 := fun x y k => match x, y with
  | .int i, .int j => k (.bool (decide (j ≤ i)))
  | _, _ => False
theorem o_lt : ∃ r, OpR X (compareOp .Lt) r ∧ OpD X.K r fLt := by
  refine ⟨_, op_lt, fun M H x y dx dy k Q al rx ry h fin => ?_⟩
  unfold fLt at h
  split at h
  · exact ⟨_, _, rx.int, ry.int, fin _ _ _ h (Sub.refl _) (.bl _)⟩
  · exact h.elim
theorem o_le : ∃ r, OpR X (compareOp .LtE) r ∧ OpD X.K r fLe := by
  refine ⟨_, op_le, fun M H x y dx dy k Q al rx ry h fin => ?_⟩
  unfold fLe at h
  split at h
  · exact ⟨_, _, rx.int, ry.int, fin _ _ _ h (Sub.refl _) (.bl _)⟩
  · exact h.elim
theorem o_gt : ∃ r, OpR X (compareOp .Gt) r ∧ OpD X.K r fGt := by
  refine ⟨_, op_gt, fun M H x y dx dy k Q al rx ry h fin => ?_⟩
  unfold fGt at h
  split at h
  · exact ⟨_, _, rx.int, ry.int, fin _ _ _ h (Sub.refl _) (.bl _)⟩
  · exact h.elim
theorem o_ge : ∃ r, OpR X (compareOp .GtE) r ∧ OpD X.K r fGe := by
  refine ⟨_, op_ge, fun M H x y dx dy k Q al rx ry h fin => ?_⟩
  unfold fGe at h
  split at h
  · exact ⟨_, _, rx.int, ry.int, fin _ _ _ h (Sub.refl _) (.bl _)⟩
  · exact h.elim
/-- is None, is True, is False -/
def isNon : D → Bool
  | .none => true
  | _ => false
def fIs : F2 := fun x y k => match y with
  | .none => k (.bool (isNon x))
  | .bool b => match x with
    | .bool a => k (.bool (decide (a = b)))
    | _ => False
  | _ => False
def fIsNot : F2 := fun x y k => match y with
  | .none => k (.bool (!isNon x))
  | .bool b => match x with
    | .bool a => k (.bool (!decide (a = b)))
    | _ => False
  | _ => False
theorem VRep.isNon {K : PySem.W.Frag} {H Hz : Hp} {v : V} {x : D} (h : VRep K H Hz v x) : decide (v = .non) = isNon x := by
  cases h with
  | d q => cases q <;> rfl
  | @cell a c q => cases c <;> rfl
theorem o_is : ∃ r, OpR X (compareOp .Is) r ∧ OpD X.K r fIs := by
  refine ⟨_, op_isN.or op_isBl, fun M H x y dx dy k Q al rx ry h fin => ?_⟩
  unfold fIs at h
  split at h
  · refine .inl ⟨ry.non, ?_⟩
    rw [rx.isNon]
    exact fin _ _ _ h (Sub.refl _) (.bl _)
  · split at h
    · exact .inr ⟨_, _, rx.bl, ry.bl, fin _ _ _ h (Sub.refl _) (.bl _)⟩
    · exact h.elim
  · exact h.elim
theorem o_isnot : ∃ r, OpR X (compareOp .IsNot) r ∧ OpD X.K r fIsNot := by
  refine ⟨_, op_notN.or op_notBl, fun M H x y dx dy k Q al rx ry h fin => ?_⟩
  unfold fIsNot at h
  split at h
  · refine .inl ⟨ry.non, ?_⟩
    rw [rx.isNon]
    exact fin _ _ _ h (Sub.refl _) (.bl _)
  · split at h
    · exact .inr ⟨_, _, rx.bl, ry.bl, fin _ _ _ h (Sub.refl _) (.bl _)⟩
    · exact h.elim
  · exact h.elim
end
end L3

set_option maxHeartbeats 4000000
namespace L3
open PySem PySem.Spec L2

/-! ### items, slices -/
def At {α : Type} (xs : List α) (i : Int) (k : α → Prop) : Prop := ∃ z, atI xs i = some z ∧ k z
def keyEq1 : D → D → Bool
  | .str a, .str b => decide (a = b)
  | .int a, .int b => decide (a = b)
  | _, _ => false
def keyEqs : List D → List D → Bool
  | [], [] => true
  | a :: r, b :: t => keyEq1 a b && keyEqs r t
  | _, _ => false
def keyEq : D → D → Bool
  | .str a, .str b => decide (a = b)
  | .int a, .int b => decide (a = b)
  | .tuple a, .tuple b => keyEqs a b
  | _, _ => false
def lookD : List (D × D) → D → Option D
  | [], _ => none
  | p :: r, y => bif keyEq p.1 y then some p.2 else lookD r y
def fIx : F2 := fun x y k => match x, y with
  | .list xs, .int i => At xs i k
  | .tuple xs, .int i => At xs i k
  | .str z, .int i => z.length ≤ sizeLine ∧ At z.cps.toList i fun c => k (.str ⟨#[c]⟩)
  | .dict [(.none, .list xs)], .int i => At xs i k
  | .dict kvs, y => ∃ z, lookD kvs y = some z ∧ k z
  | _, _ => False
theorem look_rep {K : PySem.W.Frag} {H : Hp} {y : D} {v : V} {z : D} (hv : Rp K H v y) : ∀ {ws : List (Key × V)} {kvs : List (Key × D)}, KRp K H ws kvs → lookD (kvs.map fun p => (keyD p.1, p.2)) y = some z → ∃ key w, v = kV key ∧ valV ws key = some w ∧ Rp K H w z
  | _, [], _, e => by simp [lookD] at e
  | _, (key, x) :: kvs, h, e => by
    cases h with
    | @cons a _ l1 _ q h =>
      obtain ⟨q1, q2⟩ := q
      simp only [List.map_cons, lookD, cond_eq_ite] at e
      split at e
      · rename_i hk
        cases e
        have hv' : v = kV key := by
          cases key with
          | inl i =>
            cases y <;> simp [keyD, keyEq] at hk
            subst hk
            exact dp_int hv
          | inr s =>
            cases y <;> simp [keyD, keyEq] at hk
            subst hk
            exact dp_str hv
        exact ⟨key, a.2, hv', valV_pos q1, q2⟩
      · rename_i hk
        obtain ⟨k2, w, e1, e2, e3⟩ := look_rep hv h e
        refine ⟨k2, w, e1, ?_, e3⟩
        rw [valV_neg]
        · exact e2
        · intro z0
          apply hk
          have : key = k2 := by rw [← z0]; exact q1.symm
          subst this
          subst e1
          cases key with
          | inl i => cases hv; simp [keyD, keyEq]
          | inr s => cases hv; simp [keyD, keyEq]
theorem keyEqs_of : ∀ {k : List Key} {ds : List D}, keyEqs (k.map keyD) ds = true → ds = k.map keyD
  | [], [], _ => rfl
  | [], _ :: _, h => by simp [keyEqs] at h
  | _ :: _, [], h => by simp [keyEqs] at h
  | a :: r, d :: t, h => by
    simp only [List.map_cons, keyEqs, Bool.and_eq_true] at h
    rw [keyEqs_of h.2, List.map_cons]
    congr 1
    cases a with
    | inl i => cases d <;> simp [keyD, keyEq1] at h ⊢; exact h.1.symm
    | inr i => cases d <;> simp [keyD, keyEq1] at h ⊢; exact h.1.symm
theorem keyEqs_self : ∀ k : List Key, keyEqs (k.map keyD) (k.map keyD) = true
  | [] => rfl
  | a :: r => by
    simp only [List.map_cons, keyEqs, keyEqs_self r, Bool.and_true]
    cases a <;> simp [keyD, keyEq1]
theorem keyEqs_iff {k : List Key} {ds : List D} : keyEqs (k.map keyD) ds = true ↔ ds = k.map keyD := ⟨keyEqs_of, fun e => by rw [e]; exact keyEqs_self k⟩
theorem keyD_inj {a b : Key} (h : keyD a = keyD b) : a = b := by
  cases a <;> cases b <;> simp [keyD] at h <;> rw [h]
theorem keysD_inj : ∀ {a b : List Key}, a.map keyD = b.map keyD → a = b
  | [], [], _ => rfl
  | [], _ :: _, h => by cases h
  | _ :: _, [], h => by cases h
  | a :: r, b :: t, h => by
    simp only [List.map_cons, List.cons.injEq] at h
    rw [keyD_inj h.1, keysD_inj h.2]
theorem keys_rep {K : PySem.W.Frag} {H : Hp} : ∀ {k : List Key} {vs : List V}, RpAll K H vs (k.map keyD) → vs = k.map kV
  | [], _, h => by cases h; rfl
  | a :: r, _, h => by
    rw [List.map_cons] at h
    cases h with
    | cons q t =>
      rw [keys_rep t, List.map_cons]
      congr 1
      cases a with
      | inl i => exact dp_int q
      | inr i => exact dp_str q
theorem look_repT {K : PySem.W.Frag} {H : Hp} {dy z : D} {v : V} : ∀ {ws : List (List Key × V)} {kvs : List (List Key × D)}, Rp K H v dy → KTRp K H ws kvs → lookD (kvs.map fun p => (PyData.tuple (p.1.map keyD), p.2)) dy = some z →
    ∃ (k : List Key) (b : Addr) (w : V), v = .ref b ∧ H b = some (.tup (k.map kV)) ∧ dy = .tuple (k.map keyD) ∧ valV ws k = some w ∧ Rp K H w z
  | _, [], _, _, e => by simp [lookD] at e
  | _, (key, x) :: kvs, hv, h, e => by
    cases h with
    | @cons a _ l1 _ q h =>
      obtain ⟨q1, q2⟩ := q
      simp only [List.map_cons, lookD, cond_eq_ite] at e
      split at e
      · rename_i hk
        cases e
        cases dy with
        | tuple ds =>
          have e2 := keyEqs_of (show keyEqs (key.map keyD) ds = true from hk)
          subst e2
          cases hv with
          | tup h1 h2 =>
            have e3 := keys_rep h2
            subst e3
            exact ⟨key, _, a.2, rfl, h1, rfl, valV_pos q1, q2⟩
        | _ => simp [keyEq] at hk
      · rename_i hk
        obtain ⟨k2, b, w, e1, e2, e3, e4, e5⟩ := look_repT hv h e
        refine ⟨k2, b, w, e1, e2, e3, ?_, e5⟩
        rw [valV_neg]
        · exact e4
        · intro z0
          apply hk
          have : key = k2 := by rw [← z0]; exact q1.symm
          subst this
          rw [e3]
          exact keyEqs_self key
theorem at_rep {K : PySem.W.Frag} {H : Hp} {vs : List V} {xs : List D} {i : Int} {z : D} (h : RpAll K H vs xs) (e : atI xs i = some z) : ∃ v, atI vs i = some v ∧ Rp K H v z := by
  unfold atI at e ⊢
  rw [RpAll.length h]
  cases q : ixN xs.length i with
  | none => rw [q] at e; cases e
  | some j =>
    rw [q] at e
    exact RpAll.get h e
theorem VRep.scrL {K : PySem.W.Frag} {H : Hp} {M : Addr → Prop} {v : V} {xs : List D} (h : VRep K H (Fz H M) v (.dict [(.none, .list xs)])) : ∃ (a : Addr) (ns : List Int), v = .ref a ∧ xs = ns.map .int ∧ SqL K H a (ns.map V.int) := by
  generalize hx : (PyData.dict [(.none, .list xs)] : D) = y at h
  cases h with
  | d q =>
    cases q with
    | @scr a ms h =>
      simp only [scrD, PyData.dict.injEq, List.cons.injEq, Prod.mk.injEq, PyData.list.injEq, and_true, true_and] at hx
      exact ⟨a, ms, rfl, hx, Fz.sub.sqL h⟩
    | _ => cases hx
  | @cell a c q =>
    cases c with
    | lst ys => cases hx
    | dK kvs =>
      exfalso
      simp only [cellD, PyData.dict.injEq] at hx
      cases kvs with
      | nil => cases hx
      | cons p r =>
        simp only [List.map_cons, List.cons.injEq, Prod.mk.injEq] at hx
        have := hx.1.1
        cases hp : p.1 <;> rw [hp] at this <;> cases this
    | dT kvs =>
      exfalso
      simp only [cellD, PyData.dict.injEq] at hx
      cases kvs with
      | nil => cases hx
      | cons p r => cases hx
section
variable {X : Cx}
theorem ix_dict (hu : X.A.units + 1 < cLine) : IxR X (fun x y H Q => ∃ a v, x = .ref a ∧ DGet H a y (some v) ∧ Q v H) := by
  intro value slice pins s σ H x y v u Q I rx ry h hs
  obtain ⟨a, w, rfl, g, q⟩ := h
  obtain rfl : v = Value.ref a := rx
  exact PyProof.Rows.tail_any (dict_typeIs I g) PySem.F.slot_dict_getitem.lookup (d_getItem hu I g ry fun w' s' I' r' => ⟨w, H, I', r', q⟩) hs
theorem i_x (hu : X.A.units + 1 < cLine) : ∃ r, IxR X r ∧ OpD X.K r fIx := by
  refine ⟨_, ix_seq.or (ix_dict hu), fun M H x y dx dy k Q al rx ry h fin => ?_⟩
  unfold fIx at h
  split at h
  · obtain ⟨z, e, h⟩ := h
    obtain ⟨a, vs, rfl, h1, h1', h2⟩ := rx.list'
    obtain ⟨v, g1, g2⟩ := at_rep h2 e
    exact .inl (.inl ⟨a, vs, _, v, rfl, ry.int, h1, g1, fin _ _ _ h (Sub.refl _) g2⟩)
  · obtain ⟨z, e, h⟩ := h
    obtain ⟨a, vs, rfl, h1, h1', _, h2⟩ := rx.tup'
    obtain ⟨v, g1, g2⟩ := at_rep h2 e
    exact .inl (.inr (.inl ⟨a, vs, _, v, rfl, ry.int, h1, g1, fin _ _ _ h (Sub.refl _) g2⟩))
  · obtain ⟨hz, c, e, h⟩ := h
    exact .inl (.inr (.inr ⟨_, _, c, rx.str, ry.int, hz, e, fin _ _ _ h (Sub.refl _) (.str _)⟩))
  · rename_i xs0 i0
    obtain ⟨z, e, h⟩ := h
    obtain ⟨a, ns, rfl, rfl, hs⟩ := rx.scrL
    have : ∃ n, atI ns i0 = some n ∧ z = .int n := by
      unfold atI at e
      rw [List.length_map] at e
      cases q : ixN ns.length i0 with
      | none => rw [q] at e; cases e
      | some j =>
        rw [q] at e
        simp only [Option.bind_some, List.getElem?_map] at e
        cases w : ns[j]? with
        | none => rw [w] at e; cases e
        | some n =>
          rw [w] at e
          cases e
          exact ⟨n, by unfold atI; rw [q]; exact w, rfl⟩
    obtain ⟨n, e1, rfl⟩ := this
    refine .inl (.inl ⟨a, _, _, .int n, rfl, ry.int, hs, ?_, fin _ _ _ h (Sub.refl _) (.int n)⟩)
    unfold atI at e1 ⊢
    rw [List.length_map]
    cases q : ixN ns.length i0 with
    | none => rw [q] at e1; cases e1
    | some j =>
      rw [q] at e1
      simp only [Option.bind_some, List.getElem?_map] at e1 ⊢
      rw [e1]
      rfl
  · rename_i kvs _
    obtain ⟨z, e, h⟩ := h
    generalize hx : (PyData.dict kvs : D) = w at rx
    cases rx with
    | d q =>
      cases q with
      | @scr a ms h0 =>
        simp only [scrD, PyData.dict.injEq] at hx
        subst hx
        simp [lookD, keyEq] at e
      | _ => cases hx
    | @cell a c q =>
      cases c with
      | lst ys => cases hx
      | dK kv =>
        simp only [cellD, PyData.dict.injEq] at hx
        subst hx
        obtain ⟨ws, h1, h2⟩ := q
        have ryd : Rp X.K (Fz H M) y dy := by
          cases ry with
          | d q => exact q
          | @cell b c q =>
            exfalso
            have : ∀ (l : List (D × D)), lookD l (cellD c) = none := by
              intro l
              induction l with
              | nil => rfl
              | cons p r ih =>
                have : keyEq p.1 (cellD c) = false := by cases c <;> cases hp : p.1 <;> rfl
                simp only [lookD, this, cond_false, ih]
            rw [this] at e
            cases e
        obtain ⟨key, w, e1, e2, e3⟩ := look_rep ryd h2 e
        refine .inr ⟨a, w, rfl, ?_, fin _ _ _ h (Sub.refl _) e3⟩
        rw [e1, ← e2]
        exact DGet.k h1
      | dT kv =>
        simp only [cellD, PyData.dict.injEq] at hx
        subst hx
        obtain ⟨ws, h1, h2⟩ := q
        have ryd : Rp X.K (Fz H M) y dy := by
          cases ry with
          | d q => exact q
          | @cell b c q =>
            exfalso
            have : ∀ (l : List (List Key × D)), lookD (l.map fun p => (PyData.tuple (p.1.map keyD), p.2)) (cellD c) = none := by
              intro l
              induction l with
              | nil => rfl
              | cons p r ih =>
                have : keyEq (PyData.tuple (p.1.map keyD)) (cellD c) = false := by cases c <;> rfl
                simp only [List.map_cons, lookD, this, cond_false, ih]
            rw [this] at e
            cases e
        obtain ⟨key, b, w, e1, e2, e3, e4, e5⟩ := look_repT ryd h2 e
        refine .inr ⟨a, w, rfl, ?_, fin _ _ _ h (Sub.refl _) e5⟩
        rw [e1, ← e4]
        exact DGet.t h1 (Fz.sub _ _ e2)
  · exact h.elim
theorem de_ix {a b : Expr} {ta tb : dTE} {pos : Pos} (hu : X.A.units + 1 < cLine) (ha : DE X a ta) (hb : DE X b tb) (hs : PlainIx b := by exact fun _ _ => rfl) : DE X (.Subscript a b pos) (dOp fIx ta tb) :=
  let ⟨_, h1, h2⟩ := i_x hu; PE.imp (pe_ix h1 ha hb hs) fun _ _ _ => lift2 h2
end
abbrev dTO := Env3 → Sto → (Option Int → Sto → Prop) → Prop
def liftO (K : PySem.W.Frag) (t : dTO) : TO := fun σ H Q => ∃ F m o ρ S k, Rel K F m o ρ S σ H ∧ t ρ S k ∧
  ∀ b S' m' H', k b S' → Rel K F m' o ρ S' σ H' → Grow F m o H m' o H' → Q b H'
abbrev DO (X : Cx) (e : Option Expr) (t : dTO) : Prop := PO X e (liftO X.K t)
def asI (d : DV) (k : Int → Prop) : Prop := match d with
  | .d (.int b) => k b
  | _ => False
theorem asI_of {d : DV} {k : Int → Prop} (h : asI d k) : ∃ b, d = .d (.int b) ∧ k b := by
  unfold asI at h
  split at h
  · exact ⟨_, rfl, h⟩
  · exact h.elim
def dNoPart : dTO := fun _ S Q => Q none S
def dPart (t : dTE) : dTO := fun ρ S Q => t ρ S fun d S1 => asI d fun i => Q (some i) S1
theorem PO.imp {X : Cx} {e : Option Expr} {t t' : TO} (h : PO X e t) (i : ∀ σ H Q, t' σ H Q → t σ H Q) : PO X e t' := ⟨fun pins s σ H Q I q => h.run pins s σ H Q I (i σ H Q q)⟩
section
variable {X : Cx}
theorem do_none : DO X none dNoPart := PO.imp po_none fun σ H Q q => by
  obtain ⟨F, m, o, ρ, S, k, rel, t, hk⟩ := q
  exact hk none S m H t rel Grow.refl
theorem do_some {e : Expr} {te : dTE} (h : DE X e te) : DO X (some e) (dPart te) := PO.imp (po_some h) fun σ H Q q => by
  obtain ⟨F, m, o, ρ, S, k, rel, t, hk⟩ := q
  refine ⟨F, m, o, ρ, S, _, rel, t, fun d S1 m1 H1 v h1 rel1 g1 r1 => ?_⟩
  obtain ⟨b, rfl, h2⟩ := asI_of h1
  exact ⟨b, dp_int r1, hk _ S1 m1 H1 h2 rel1 g1⟩
end
def cut {α : Type} (xs : List α) (lo hi : Option Int) : List α := (xs.drop (HT.sIx xs.length 0 lo)).take (HT.sIx xs.length xs.length hi - HT.sIx xs.length 0 lo)
theorem cut_rep {K : PySem.W.Frag} {H : Hp} {vs : List V} {xs : List D} (h : RpAll K H vs xs) (lo hi : Option Int) : RpAll K H (cutV vs lo hi) (cut xs lo hi) := by
  unfold cutV cut
  rw [RpAll.length h]
  exact RpAll.take _ (RpAll.drop _ h)
def fSl (x : D) (l u : Option Int) (k : D → Prop) : Prop := match x with
  | .str z => z.length ≤ sizeLine ∧ k (.str (cutS z l u))
  | .tuple xs => k (.tuple (cut xs l u))
  | .list xs => k (.list (cut xs l u))
  | _ => False
def dSl (tx : dTE) (tl th : dTO) : dTE := fun ρ S Q => tx ρ S fun d S1 => tl ρ S1 fun l S2 => th ρ S2 fun u S3 => fSl (view ρ S3 d) l u fun z => Q (.d z) S3
section
variable {X : Cx}
theorem de_sl {e : Expr} {lo hi : Option Expr} {te : dTE} {tl th : dTO} {p2 pos : Pos} (he : DE X e te) (hl : DO X lo tl) (hu : DO X hi th) : DE X (.Subscript e (.Slice lo hi none p2) pos) (dSl te tl th) :=
  PE.imp (pe_slice (sl_str.or (sl_tupA.or sl_list)) he hl hu) fun σ H Q q => by
    obtain ⟨F, m, o, ρ, S, k, rel, t, hk⟩ := q
    refine ⟨F, m, o, ρ, S, _, rel, t, fun d S1 m1 H1 v h1 rel1 g1 r1 => ?_⟩
    refine ⟨F, m1, o, ρ, S1, _, rel1, h1, fun l S2 m2 H2 h2 rel2 g2 => ?_⟩
    refine ⟨F, m2, o, ρ, S2, _, rel2, h2, fun u S3 m3 H3 h3 rel3 g3 => ?_⟩
    have gg := (g1.trans g2).trans g3
    have rv := rel3.view (r1.grow (g2.trans g3))
    have fin : ∀ z w H', k (.d z) S3 → Sub H3 H' → Rp X.K (Fz H' (Mu F m3 o)) w z → Q w H' := fun z w H' kz s dz => hk (.d z) S3 m3 H' w kz (rel3.sub s) (gg.trans (Grow.sub rel3 s)) dz
    unfold fSl at h3
    split at h3
    · rename_i z hz
      rw [hz] at rv
      exact .inl ⟨z, rv.str, h3.1, fin _ _ _ h3.2 (Sub.refl _) (.str _)⟩
    · rename_i xs hz
      rw [hz] at rv
      obtain ⟨a, vs, rfl, e1, e1', en, e2⟩ := rv.tup'
      refine .inr (.inl ⟨a, vs, rfl, e1, fun hw => ?_, fun hw p hp => fin _ _ _ h3 (sub_upd hp) (new_tup rel3.st.liv hp (cut_rep e2 l u))⟩)
      have ec : cut xs l u = xs := by
        unfold cut
        rw [RpAll.length e2] at hw
        rw [hw.1, hw.2, List.drop_zero, Nat.sub_zero, List.take_length]
      rw [ec] at h3
      exact fin _ _ _ h3 (Sub.refl _) (.tup (Fz.of en e1') e2)
    · rename_i xs hz
      rw [hz] at rv
      obtain ⟨a, vs, rfl, e1, e1', e2⟩ := rv.list'
      exact .inr (.inr ⟨a, vs, rfl, e1, fun p hp => fin _ _ _ h3 (sub_upd hp) (new_lst rel3.st.liv hp (cut_rep e2 l u))⟩)
    · exact h3.elim
/-- xs[::-1] of a list -/
def fRev : F1 := fun x k => match x with
  | .list xs => k (.list xs.reverse)
  | _ => False
theorem de_rev {e : Expr} {te : dTE} {k : Nat} {p1 p2 p3 pos : Pos} (he : DE X e te) : DE X (.Subscript e (.Slice none none (some (.UnaryOp .USub (.Constant (.int 1) k p1) p2)) p3) pos) (dUn fRev te) :=
  PE.imp (pe_revL he) fun σ H Q q => by
    obtain ⟨F, m, o, ρ, S, k, rel, t, hk⟩ := q
    refine ⟨F, m, o, ρ, S, _, rel, t, fun d S1 m1 H1 v h1 rel1 g1 r1 => ?_⟩
    have rv := rel1.view r1
    unfold fRev at h1
    split at h1
    · rename_i xs hz
      rw [hz] at rv
      obtain ⟨a, vs, rfl, e1, e1', e2⟩ := rv.list'
      exact ⟨a, vs, rfl, e1, fun p hp => hk _ S1 m1 _ _ h1 (rel1.sub (sub_upd hp)) (g1.trans (Grow.sub rel1 (sub_upd hp))) (new_lst rel1.st.liv hp (RpAll.reverse e2))⟩
    · exact h1.elim
end

/-! ### built-in calls -/
def fLen : FN := fun ds k => match ds with
  | [.str z] => z.length ≤ sizeLine ∧ k (.int z.length)
  | [.tuple xs] => k (.int xs.length)
  | [.list xs] => k (.int xs.length)
  | [.dict [(.none, .list xs)]] => k (.int xs.length)
  | _ => False
def fAbs : FN := fun ds k => match ds with
  | [.int i] => k (.int (if i < 0 then -i else i))
  | _ => False
def fInt : FN := fun ds k => match ds with
  | [.int i] => k (.int i)
  | [.bool b] => k (.int (if b then 1 else 0))
  | _ => False
def intsOf : List D → Option (List Int)
  | [] => some []
  | .int i :: r => (intsOf r).map (i :: ·)
  | _ :: _ => none
theorem intsOf_map (ns : List Int) : intsOf (ns.map .int) = some ns := by
  induction ns with
  | nil => rfl
  | cons n r ih => show (intsOf (r.map .int)).map (n :: ·) = _; rw [ih]; rfl
theorem intsOf_is : ∀ {xs : List D} {ns : List Int}, intsOf xs = some ns → xs = ns.map .int
  | [], _, e => by cases e; rfl
  | .int i :: r, ns, e => by
    unfold intsOf at e
    cases q : intsOf r with
    | none => rw [q] at e; cases e
    | some ms => rw [q] at e; cases e; rw [intsOf_is q]; rfl
  | .none :: _, _, e => by cases e
  | .bool _ :: _, _, e => by cases e
  | .str _ :: _, _, e => by cases e
  | .list _ :: _, _, e => by cases e
  | .tuple _ :: _, _, e => by cases e
  | .dict _ :: _, _, e => by cases e
def boolsOf : List D → Option (List Bool)
  | [] => some []
  | .bool i :: r => (boolsOf r).map (i :: ·)
  | _ :: _ => none
theorem boolsOf_map (ns : List Bool) : boolsOf (ns.map .bool) = some ns := by
  induction ns with
  | nil => rfl
  | cons n r ih => show (boolsOf (r.map .bool)).map (n :: ·) = _; rw [ih]; rfl
theorem boolsOf_is : ∀ {xs : List D} {ns : List Bool}, boolsOf xs = some ns → xs = ns.map .bool
  | [], _, e => by cases e; rfl
  | .bool i :: r, ns, e => by
    unfold boolsOf at e
    cases q : boolsOf r with
    | none => rw [q] at e; cases e
    | some ms => rw [q] at e; cases e; rw [boolsOf_is q]; rfl
  | .none :: _, _, e => by cases e
  | .int _ :: _, _, e => by cases e
  | .str _ :: _, _, e => by cases e
  | .list _ :: _, _, e => by cases e
  | .tuple _ :: _, _, e => by cases e
  | .dict _ :: _, _, e => by cases e
def strsOf : List D → Option (List Str)
  | [] => some []
  | .str i :: r => (strsOf r).map (i :: ·)
  | _ :: _ => none
theorem strsOf_map (ns : List Str) : strsOf (ns.map .str) = some ns := by
  induction ns with
  | nil => rfl
  | cons n r ih => show (strsOf (r.map .str)).map (n :: ·) = _; rw [ih]; rfl
theorem strsOf_is : ∀ {xs : List D} {ns : List Str}, strsOf xs = some ns → xs = ns.map .str
  | [], _, e => by cases e; rfl
  | .str i :: r, ns, e => by
    unfold strsOf at e
    cases q : strsOf r with
    | none => rw [q] at e; cases e
    | some ms => rw [q] at e; cases e; rw [strsOf_is q]; rfl
  | .none :: _, _, e => by cases e
  | .int _ :: _, _, e => by cases e
  | .bool _ :: _, _, e => by cases e
  | .list _ :: _, _, e => by cases e
  | .tuple _ :: _, _, e => by cases e
  | .dict _ :: _, _, e => by cases e
/-- the greatest, the least (0 of none) -/
def maxL : List Int → Int
  | [] => 0
  | [x] => x
  | x :: y :: r => max x (maxL (y :: r))
def minL : List Int → Int
  | [] => 0
  | [x] => x
  | x :: y :: r => min x (minL (y :: r))
theorem maxL_mem : ∀ {ns : List Int}, 0 < ns.length → maxL ns ∈ ns ∧ ∀ y ∈ ns, y ≤ maxL ns
  | [x], _ => ⟨List.mem_singleton.mpr rfl, fun y h => by rw [List.mem_singleton.mp h]; exact Int.le_refl _⟩
  | x :: y :: r, _ => by
    obtain ⟨h1, h2⟩ := maxL_mem (ns := y :: r) (by simp)
    show max x (maxL (y :: r)) ∈ _ ∧ ∀ z ∈ _, z ≤ max x (maxL (y :: r))
    refine ⟨?_, fun z h => ?_⟩
    · rcases Int.le_total x (maxL (y :: r)) with q | q
      · rw [Int.max_eq_right q]; exact List.mem_cons_of_mem _ h1
      · rw [Int.max_eq_left q]; exact List.mem_cons_self
    · rcases List.mem_cons.mp h with h | h
      · subst h; exact Int.le_max_left _ _
      · exact Int.le_trans (h2 z h) (Int.le_max_right _ _)
theorem minL_mem : ∀ {ns : List Int}, 0 < ns.length → minL ns ∈ ns ∧ ∀ y ∈ ns, minL ns ≤ y
  | [x], _ => ⟨List.mem_singleton.mpr rfl, fun y h => by rw [List.mem_singleton.mp h]; exact Int.le_refl _⟩
  | x :: y :: r, _ => by
    obtain ⟨h1, h2⟩ := minL_mem (ns := y :: r) (by simp)
    show min x (minL (y :: r)) ∈ _ ∧ ∀ z ∈ _, min x (minL (y :: r)) ≤ z
    refine ⟨?_, fun z h => ?_⟩
    · rcases Int.le_total x (minL (y :: r)) with q | q
      · rw [Int.min_eq_left q]; exact List.mem_cons_self
      · rw [Int.min_eq_right q]; exact List.mem_cons_of_mem _ h1
    · rcases List.mem_cons.mp h with h | h
      · subst h; exact Int.min_le_left _ _
      · exact Int.le_trans (Int.min_le_right _ _) (h2 z h)
def withL {α : Type} (x : Option α) (k : α → Prop) : Prop := match x with
  | some a => k a
  | none => False
theorem withL_of {α : Type} {x : Option α} {k : α → Prop} (h : withL x k) : ∃ a, x = some a ∧ k a := by
  unfold withL at h
  split at h
  · exact ⟨_, rfl, h⟩
  · exact h.elim
def fMax : FN := fun ds k => match ds with
  | [.int i, .int j] => k (.int (max i j))
  | [.list xs] => withL (intsOf xs) fun ns => 0 < ns.length ∧ k (.int (maxL ns))
  | _ => False
def fMin : FN := fun ds k => match ds with
  | [.int i, .int j] => k (.int (min i j))
  | [.list xs] => withL (intsOf xs) fun ns => 0 < ns.length ∧ k (.int (minL ns))
  | _ => False
def fSum : FN := fun ds k => match ds with
  | [.list xs] => withL (intsOf xs) fun ns => k (.int ns.sum)
  | _ => False
def fAll : FN := fun ds k => match ds with
  | [.list xs] => withL (boolsOf xs) fun ns => k (.bool (ns.all id))
  | _ => False
def fAny : FN := fun ds k => match ds with
  | [.list xs] => withL (boolsOf xs) fun ns => k (.bool (ns.any id))
  | _ => False
def fTuple : FN := fun ds k => match ds with
  | [.list xs] => k (.tuple xs)
  | [.tuple xs] => k (.tuple xs)
  | _ => False
def fList : FN := fun ds k => match ds with
  | [.list xs] => k (.list xs)
  | [.tuple xs] => k (.list xs)
  | _ => False
theorem vreps1 {K : PySem.W.Frag} {H Hz : Hp} {xs : List V} {d : D} (r : VReps K H Hz xs [d]) : ∃ v, xs = [v] ∧ VRep K H Hz v d := by
  cases r with
  | cons h t => cases t; exact ⟨_, rfl, h⟩
theorem vreps2 {K : PySem.W.Frag} {H Hz : Hp} {xs : List V} {d e : D} (r : VReps K H Hz xs [d, e]) : ∃ v w, xs = [v, w] ∧ VRep K H Hz v d ∧ VRep K H Hz w e := by
  cases r with
  | cons h t =>
    obtain ⟨w, rfl, h2⟩ := vreps1 t
    exact ⟨_, w, rfl, h, h2⟩
section
variable {X : Cx}
theorem c_len : ∃ r, CallR X (.builtin "len") r ∧ CallD X.K r fLen := by
  refine ⟨_, call_len, fun M H xs ds k Q al rx h fin => ?_⟩
  unfold fLen at h
  split at h
  · obtain ⟨v, rfl, r1⟩ := vreps1 rx
    have e := r1.str
    subst e
    exact ⟨_, _, rfl, ⟨h.1, rfl⟩, fin _ _ _ h.2 (Sub.refl _) (.int _)⟩
  · obtain ⟨v, rfl, r1⟩ := vreps1 rx
    obtain ⟨a, vs, rfl, h1, _, _, h2⟩ := r1.tup'
    exact ⟨_, _, rfl, .inr ⟨vs, h1, rfl⟩, by rw [RpAll.length h2]; exact fin _ _ _ h (Sub.refl _) (.int _)⟩
  · obtain ⟨v, rfl, r1⟩ := vreps1 rx
    obtain ⟨a, vs, rfl, h1, _, h2⟩ := r1.list'
    exact ⟨_, _, rfl, .inl ⟨vs, h1, rfl⟩, by rw [RpAll.length h2]; exact fin _ _ _ h (Sub.refl _) (.int _)⟩
  · obtain ⟨v, rfl, r1⟩ := vreps1 rx
    obtain ⟨a, ns, rfl, rfl, hs⟩ := r1.scrL
    rw [List.length_map] at h
    exact ⟨_, _, rfl, .inl ⟨_, hs, rfl⟩, by rw [List.length_map]; exact fin _ _ _ h (Sub.refl _) (.int _)⟩
  · exact h.elim
theorem c_abs : ∃ r, CallR X (.builtin "abs") r ∧ CallD X.K r fAbs := by
  refine ⟨_, call_abs, fun M H xs ds k Q al rx h fin => ?_⟩
  unfold fAbs at h
  split at h
  · obtain ⟨v, rfl, r1⟩ := vreps1 rx
    have e := r1.int
    subst e
    exact ⟨_, rfl, fin _ _ _ h (Sub.refl _) (.int _)⟩
  · exact h.elim
theorem c_int : ∃ r, CallR X (.type "int") r ∧ CallD X.K r fInt := by
  refine ⟨_, call_int1, fun M H xs ds k Q al rx h fin => ?_⟩
  unfold fInt at h
  split at h
  · obtain ⟨v, rfl, r1⟩ := vreps1 rx
    have e := r1.int
    subst e
    exact .inl ⟨_, rfl, fin _ _ _ h (Sub.refl _) (.int _)⟩
  · obtain ⟨v, rfl, r1⟩ := vreps1 rx
    have e := r1.bl
    subst e
    exact .inr ⟨_, rfl, fin _ _ _ h (Sub.refl _) (.int _)⟩
  · exact h.elim
theorem c_max (hc : X.calm = true) : ∃ r, CallR X (.builtin "max") r ∧ CallD X.K r fMax := by
  refine ⟨_, (call_max2 hc).or (cr_max hc), fun M H xs ds k Q al rx h fin => ?_⟩
  unfold fMax at h
  split at h
  · obtain ⟨v, w, rfl, r1, r2⟩ := vreps2 rx
    have e := r1.int
    have e2 := r2.int
    subst e e2
    rename_i i j
    refine .inl ⟨_, _, rfl, ?_⟩
    rw [show (if j > i then j else i) = max i j by omega]
    exact fin _ _ _ h (Sub.refl _) (.int _)
  · obtain ⟨ns, e, h0, h⟩ := withL_of h
    obtain ⟨v, rfl, r1⟩ := vreps1 rx
    obtain ⟨a, vs, rfl, h1, _, h2⟩ := r1.list'
    rw [intsOf_is e] at h2
    have e3 := RpAll.ints h2
    subst e3
    refine .inr ⟨a, ns, rfl, h1, h0, fun m hm hle => ?_⟩
    have : m = maxL ns := Int.le_antisymm ((maxL_mem h0).2 m hm) (hle _ (maxL_mem h0).1)
    rw [this]
    exact fin _ _ _ h (Sub.refl _) (.int _)
  · exact h.elim
theorem c_min (hc : X.calm = true) : ∃ r, CallR X (.builtin "min") r ∧ CallD X.K r fMin := by
  refine ⟨_, (call_min2 hc).or (cr_min hc), fun M H xs ds k Q al rx h fin => ?_⟩
  unfold fMin at h
  split at h
  · obtain ⟨v, w, rfl, r1, r2⟩ := vreps2 rx
    have e := r1.int
    have e2 := r2.int
    subst e e2
    rename_i i j
    refine .inl ⟨_, _, rfl, ?_⟩
    rw [show (if j < i then j else i) = min i j by omega]
    exact fin _ _ _ h (Sub.refl _) (.int _)
  · obtain ⟨ns, e, h0, h⟩ := withL_of h
    obtain ⟨v, rfl, r1⟩ := vreps1 rx
    obtain ⟨a, vs, rfl, h1, _, h2⟩ := r1.list'
    rw [intsOf_is e] at h2
    have e3 := RpAll.ints h2
    subst e3
    refine .inr ⟨a, ns, rfl, h1, h0, fun m hm hle => ?_⟩
    have : m = minL ns := Int.le_antisymm (hle _ (minL_mem h0).1) ((minL_mem h0).2 m hm)
    rw [this]
    exact fin _ _ _ h (Sub.refl _) (.int _)
  · exact h.elim
theorem c_sum (hc : X.calm = true) : ∃ r, CallR X (.builtin "sum") r ∧ CallD X.K r fSum := by
  refine ⟨_, cr_sum hc, fun M H xs ds k Q al rx h fin => ?_⟩
  unfold fSum at h
  split at h
  · obtain ⟨ns, e, h⟩ := withL_of h
    obtain ⟨v, rfl, r1⟩ := vreps1 rx
    obtain ⟨a, vs, rfl, h1, _, h2⟩ := r1.list'
    rw [intsOf_is e] at h2
    have e3 := RpAll.ints h2
    subst e3
    exact ⟨a, ns, rfl, h1, fin _ _ _ h (Sub.refl _) (.int _)⟩
  · exact h.elim
theorem c_all (hc : X.calm = true) : ∃ r, CallR X (.builtin "all") r ∧ CallD X.K r fAll := by
  refine ⟨_, cr_all hc, fun M H xs ds k Q al rx h fin => ?_⟩
  unfold fAll at h
  split at h
  · obtain ⟨ns, e, h⟩ := withL_of h
    obtain ⟨v, rfl, r1⟩ := vreps1 rx
    obtain ⟨a, vs, rfl, h1, _, h2⟩ := r1.list'
    rw [boolsOf_is e] at h2
    have e3 := RpAll.bls h2
    subst e3
    exact ⟨a, ns, rfl, h1, fin _ _ _ h (Sub.refl _) (.bl _)⟩
  · exact h.elim
theorem c_any (hc : X.calm = true) : ∃ r, CallR X (.builtin "any") r ∧ CallD X.K r fAny := by
  refine ⟨_, cr_any hc, fun M H xs ds k Q al rx h fin => ?_⟩
  unfold fAny at h
  split at h
  · obtain ⟨ns, e, h⟩ := withL_of h
    obtain ⟨v, rfl, r1⟩ := vreps1 rx
    obtain ⟨a, vs, rfl, h1, _, h2⟩ := r1.list'
    rw [boolsOf_is e] at h2
    have e3 := RpAll.bls h2
    subst e3
    exact ⟨a, ns, rfl, h1, fin _ _ _ h (Sub.refl _) (.bl _)⟩
  · exact h.elim
theorem c_tuple : ∃ r, CallR X (.type "tuple") r ∧ CallD X.K r fTuple := by
  refine ⟨_, call_tuple_of, fun M H xs ds k Q al rx h fin => ?_⟩
  unfold fTuple at h
  split at h
  · obtain ⟨v, rfl, r1⟩ := vreps1 rx
    obtain ⟨a, vs, rfl, h1, _, h2⟩ := r1.list'
    exact ⟨a, vs, rfl, .inl ⟨h1, fun p hp => fin _ _ _ h (sub_upd hp) (new_tup al hp h2)⟩⟩
  · obtain ⟨v, rfl, r1⟩ := vreps1 rx
    obtain ⟨a, vs, rfl, h1, h1', hn, h2⟩ := r1.tup'
    exact ⟨a, vs, rfl, .inr ⟨h1, fin _ _ _ h (Sub.refl _) (.tup (Fz.of hn h1') h2)⟩⟩
  · exact h.elim
theorem c_list : ∃ r, CallR X (.type "list") r ∧ CallD X.K r fList := by
  refine ⟨_, call_list_of, fun M H xs ds k Q al rx h fin => ?_⟩
  unfold fList at h
  split at h
  · obtain ⟨v, rfl, r1⟩ := vreps1 rx
    obtain ⟨a, vs, rfl, h1, _, h2⟩ := r1.list'
    exact ⟨a, vs, rfl, .inl h1, fun p hp => fin _ _ _ h (sub_upd hp) (new_lst al hp h2)⟩
  · obtain ⟨v, rfl, r1⟩ := vreps1 rx
    obtain ⟨a, vs, rfl, h1, h1', hn, h2⟩ := r1.tup'
    exact ⟨a, vs, rfl, .inr h1, fun p hp => fin _ _ _ h (sub_upd hp) (new_lst al hp h2)⟩
  · exact h.elim
end
/-! ### isinstance of a built-in type -/
def tyName : D → String
  | .none => "NoneType"
  | .bool _ => "bool"
  | .int _ => "int"
  | .str _ => "str"
  | .list _ => "list"
  | .tuple _ => "tuple"
  | .dict _ => "dict"
section
variable {X : Cx}
theorem VRep.ty {K : PySem.W.Frag} {H : Hp} {M : Addr → Prop} {v : V} {x : D} (h : VRep K H (Fz H M) v x) (n : ∀ kvs, x ≠ .dict kvs) : TyX K H v (.type (tyName x)) := by
  cases x with
  | none => rw [h.non]; exact .base .non
  | bool b => rw [h.bl]; exact .base (.bl b)
  | int i => rw [h.int]; exact .base (.int i)
  | str i => rw [h.str]; exact .base (.str i)
  | list xs => obtain ⟨a, vs, rfl, _, h1, _⟩ := h.list'; exact .base (.lst h1)
  | tuple xs => obtain ⟨a, vs, rfl, _, h1, _⟩ := h.tup'; exact .base (.tup h1)
  | dict kvs => exact absurd rfl (n kvs)
def isInt : D → Bool
  | .int _ => true
  | .bool _ => true
  | _ => false
def isBl : D → Bool
  | .bool _ => true
  | _ => false
def isStr : D → Bool
  | .str _ => true
  | _ => false
def isTup : D → Bool
  | .tuple _ => true
  | _ => false
def isLst : D → Bool
  | .list _ => true
  | _ => false
def IsT (Tn : String) (p : D → Bool) : Prop := ∀ x : D, (∀ kvs, x ≠ .dict kvs) → kitB (tyName x) Tn = some (p x)
theorem ist_int : IsT "int" isInt := fun x n => by cases x <;> first | exact absurd rfl (n _) | rfl
theorem ist_bl : IsT "bool" isBl := fun x n => by cases x <;> first | exact absurd rfl (n _) | rfl
theorem ist_str : IsT "str" isStr := fun x n => by cases x <;> first | exact absurd rfl (n _) | rfl
theorem ist_tup : IsT "tuple" isTup := fun x n => by cases x <;> first | exact absurd rfl (n _) | rfl
theorem ist_lst : IsT "list" isLst := fun x n => by cases x <;> first | exact absurd rfl (n _) | rfl
def fI (p : D → Bool) : F1 := fun x k => match x with
  | .dict _ => False
  | x => k (.bool (p x))
theorem de_isi {e : Expr} {te : dTE} {T : Str} {Tn : String} {q : D → Bool} {p pT pos : Pos} (hq : IsT Tn q) (he : DE X e te) (hm : X.mg "isinstance" = none) (hmT : X.mg T = none) (hg : Gl X "isinstance") (hgT : Gl X T) (hvT : bootBuiltins T = some (.type Tn)) (hnT : T ≠ "__name__" := by decide) (hdT : (T == ("__debug__" : Str)) = false := by decide)
    (hv : bootBuiltins "isinstance" = some (.builtin "isinstance") := by decide +kernel)
    (he1 : starEach [e, .Name T pT] X.env = (false, eval e X.env) :: starEach [.Name T pT] X.env := by rfl) (he2 : starEach [.Name T pT] X.env = (false, eval (.Name T pT) X.env) :: starEach [] X.env := by rfl)
    (hpl : (backTo pos (starEach [.Name T pT] X.env)).any (·.1) = false := by rfl) : DE X (.Call (.Name "isinstance" p) [e, .Name T pT] [] pos) (dUn (fI q) te) :=
  PE.imp (pe_callB call_isi hg hm hv (pa_cons he (pa_cons (pe_bltn (v := .ty Tn) hgT hmT hvT rfl hnT hdT) pa_nil he2) he1) (by decide) (by decide) he1 hpl) fun σ H Q hh => by
    obtain ⟨F, m, o, ρ, S, k, rel, t, hk⟩ := hh
    refine ⟨F, m, o, ρ, S, _, rel, t, fun d S1 m1 H1 v h1 rel1 g1 r1 => ?_⟩
    have rv := rel1.view r1
    have nd : ∀ kvs, L3.view ρ S1 d ≠ .dict kvs := fun kvs e => by
      rw [e] at h1
      exact h1
    have h2 : k (.d (.bool (q (L3.view ρ S1 d)))) S1 := by
      cases z : L3.view ρ S1 d with
      | dict kvs => exact absurd z (nd kvs)
      | _ => rw [z] at h1; exact h1
    exact ⟨v, .ty Tn, _, _, _, rfl, .ty Tn, rv.ty nd, kit_ty (hq _ nd), hk _ S1 m1 H1 _ h2 rel1 g1 (.bl _)⟩
end

/-! ### methods of texts, of lists that are read -/
abbrev FM := D → List D → (D → Prop) → Prop
def MtD (K : PySem.W.Frag) (r : V → List V → Hp → VK → Prop) (f : FM) : Prop := ∀ (M : Addr → Prop) (H : Hp) (x : V) (xs : List V) (dx : D) (ds : List D) (k : D → Prop) (Q : VK), Alive M H →
  VRep K H (Fz H M) x dx → VReps K H (Fz H M) xs ds → f dx ds k → (∀ z v H', k z → Sub H H' → Rp K (Fz H' M) v z → Q v H') → r x xs H Q
def dBM (T : String) (f : FM) (to : dTE) (ta : dTA) : dTE := fun ρ S Q => to ρ S fun d S1 => tyName (view ρ S1 d) = T ∧ ta ρ S1 fun ds S2 => f (view ρ S2 d) (views ρ S2 ds) fun z => Q (.d z) S2
def dBM0 (T : String) (f : FM) (to : dTE) : dTE := fun ρ S Q => to ρ S fun d S1 => tyName (view ρ S1 d) = T ∧ f (view ρ S1 d) [] fun z => Q (.d z) S1
section
variable {X : Cx}
theorem VRep.tyV {K : PySem.W.Frag} {H : Hp} {M : Addr → Prop} {v : V} {x : D} {T : String} (h : VRep K H (Fz H M) v x) (e : tyName x = T) (hT : T = "str" ∨ T = "list") : L2.tyV K T v H := by
  cases x with
  | str z => rw [h.str]; exact e.symm
  | list xs => obtain ⟨a, vs, rfl, h1, _⟩ := h.list'; exact .inl ⟨e.symm, vs, h1⟩
  | none => subst e; rcases hT with z | z <;> simp [tyName] at z
  | bool b => subst e; rcases hT with z | z <;> simp [tyName] at z
  | int b => subst e; rcases hT with z | z <;> simp [tyName] at z
  | tuple b => subst e; rcases hT with z | z <;> simp [tyName] at z
  | dict b => subst e; rcases hT with z | z <;> simp [tyName] at z
theorem lift_bm {K : PySem.W.Frag} {r : V → List V → Hp → VK → Prop} {f : FM} {T : String} {to : dTE} {ta : dTA} (hT : T = "str" ∨ T = "list") (hf : MtD K r f) {σ : L2.St} {H : Hp} {Q : VK} (h : lift K (dBM T f to ta) σ H Q) : tBM K T r (lift K to) (liftA K ta) σ H Q := by
  obtain ⟨F, m, o, ρ, S, k, rel, t, hk⟩ := h
  refine ⟨F, m, o, ρ, S, _, rel, t, fun d S1 m1 H1 v h1 rel1 g1 r1 => ?_⟩
  obtain ⟨e, h2⟩ := h1
  refine ⟨(rel1.view r1).tyV e hT, F, m1, o, ρ, S1, _, rel1, h2, fun ds S2 m2 H2 vs h3 rel2 g2 r2 => ?_⟩
  exact hf (Mu F m2 o) H2 v vs _ _ _ _ rel2.st.liv (rel2.view (r1.grow g2)) (rel2.views r2) h3 fun z u H' kz s dz =>
    hk (.d z) S2 m2 H' u kz (rel2.sub s) ((g1.trans g2).trans (Grow.sub rel2 s)) dz
theorem lift_bm0 {K : PySem.W.Frag} {r : V → List V → Hp → VK → Prop} {f : FM} {T : String} {to : dTE} (hT : T = "str" ∨ T = "list") (hf : MtD K r f) {σ : L2.St} {H : Hp} {Q : VK} (h : lift K (dBM0 T f to) σ H Q) : tBM0 K T r (lift K to) σ H Q := by
  obtain ⟨F, m, o, ρ, S, k, rel, t, hk⟩ := h
  refine ⟨F, m, o, ρ, S, _, rel, t, fun d S1 m1 H1 v h1 rel1 g1 r1 => ?_⟩
  obtain ⟨e, h2⟩ := h1
  exact ⟨(rel1.view r1).tyV e hT, hf (Mu F m1 o) H1 v [] _ _ _ _ rel1.st.liv (rel1.view r1) .nil h2 fun z u H' kz s dz =>
    hk (.d z) S1 m1 H' u kz (rel1.sub s) (g1.trans (Grow.sub rel1 s)) dz⟩
variable {o e : Expr} {es : List Expr} {to : dTE} {t : dTA} {name : Str} {apos cpos : Pos} {T id : String} {f : FM}
theorem de_bm (hm : ∃ r, MtR X id r ∧ MtD X.K r f) (hT : T = "str" ∨ T = "list") (pa : PlainAttrs T) (slot : PySem.Slot T name id) (hty : typeOf (.builtin id) = pure (.type "method_descriptor")) (ho : DE X o to) (ha : DA X (e :: es) t)
    (hbase : attributeBase o name X.env (eval o X.env) = eval o X.env := by rfl) (he : starEach (e :: es) X.env = (false, eval e X.env) :: starEach es X.env := by rfl)
    (hfew : ((backTo cpos (starEach (e :: es) X.env)).all (fun x => !x.1) && (backToKw cpos (keywordEach [] X.env)).all (fun x => x.1.isSome)
      && decide ((e :: es).length + ([] : List Keyword).length + (if ([] : List Keyword).isEmpty then 0 else 1) < 30)) = true := by rfl)
    (hpl : (backTo cpos (starEach es X.env)).any (·.1) = false := by rfl) (hline : (apos.endLine == cpos.line) = true := by rfl) : DE X (.Call (.Attribute o name apos) (e :: es) [] cpos) (dBM T f to t) := by
  obtain ⟨r, h1, h2⟩ := hm
  exact PE.imp (pe_bm pa slot hty h1 ho ha hbase hfew hline he hpl) fun _ _ _ => lift_bm hT h2
theorem de_bm0 (hm : ∃ r, MtR X id r ∧ MtD X.K r f) (hT : T = "str" ∨ T = "list") (pa : PlainAttrs T) (slot : PySem.Slot T name id) (hty : typeOf (.builtin id) = pure (.type "method_descriptor")) (ho : DE X o to)
    (hbase : attributeBase o name X.env (eval o X.env) = eval o X.env := by rfl) (hline : (apos.endLine == cpos.line) = true := by rfl) : DE X (.Call (.Attribute o name apos) [] [] cpos) (dBM0 T f to) := by
  obtain ⟨r, h1, h2⟩ := hm
  exact PE.imp (pe_bm0 pa slot hty h1 ho hbase hline) fun _ _ _ => lift_bm0 hT h2
def fJoin : FM := fun x ds k => match x, ds with
  | .str a, [.list xs] => withL (strsOf xs) fun ys => (ys.map (·.length)).sum + ys.length * a.length ≤ 16777216 ∧ k (.str (Txt.join a ys))
  | .str a, [.tuple xs] => withL (strsOf xs) fun ys => (ys.map (·.length)).sum + ys.length * a.length ≤ 16777216 ∧ k (.str (Txt.join a ys))
  | _, _ => False
theorem m_join : ∃ r, MtR X "str.join" r ∧ MtD X.K r fJoin := by
  refine ⟨_, mt_join, fun M H x xs dx ds k Q al rx rs h fin => ?_⟩
  unfold fJoin at h
  split at h
  · obtain ⟨ys, e, h0, h⟩ := withL_of h
    obtain ⟨v, rfl, r1⟩ := vreps1 rs
    obtain ⟨a, vs, rfl, h1, _, h2⟩ := r1.list'
    rw [strsOf_is e] at h2
    have e3 := RpAll.strs h2
    subst e3
    exact ⟨_, a, ys, rx.str, rfl, .inl h1, h0, fin _ _ _ h (Sub.refl _) (.str _)⟩
  · obtain ⟨ys, e, h0, h⟩ := withL_of h
    obtain ⟨v, rfl, r1⟩ := vreps1 rs
    obtain ⟨a, vs, rfl, h1, _, _, h2⟩ := r1.tup'
    rw [strsOf_is e] at h2
    have e3 := RpAll.strs h2
    subst e3
    exact ⟨_, a, ys, rx.str, rfl, .inr h1, h0, fin _ _ _ h (Sub.refl _) (.str _)⟩
  · exact h.elim
end
/-! ### in, not in, for flat things -/
def flatD : D → Bool
  | .none => true
  | .bool _ => true
  | .int _ => true
  | .str _ => true
  | _ => false
theorem eqv_flat {K : PySem.W.Frag} {H : Hp} {v w : V} {x y : D} (hx : Rp K H v x) (hy : Rp K H w y) (fx : flatD x = true) (fy : flatD y = true) : eqV w v = PyData.eqv y x := by
  cases hx <;> cases hy <;> first | rfl | (simp [flatD] at fx fy; done) | (simp [eqV, PyData.eqv]; done) | skip
theorem flat_V {K : PySem.W.Frag} {H : Hp} {v : V} {x : D} (hx : Rp K H v x) (fx : flatD x = true) : flatV v = true := by
  cases hx <;> first | rfl | (simp [flatD, scrD] at fx; done)
/-- x in ys -/
def isIn (x : D) (ys : List D) : Bool := ys.any fun z => PyData.eqv z x
def fIn : F2 := fun x y k => match y with
  | .list ys => ((flatD x && ys.all flatD) || (SeqAt.shaped x && SeqAt.shaped (.list ys))) = true ∧ k (.bool (isIn x ys))
  | .tuple ys => (flatD x && ys.all flatD) = true ∧ k (.bool (isIn x ys))
  | _ => False
def fNotIn : F2 := fun x y k => match y with
  | .list ys => ((flatD x && ys.all flatD) || (SeqAt.shaped x && SeqAt.shaped (.list ys))) = true ∧ k (.bool (!isIn x ys))
  | .tuple ys => (flatD x && ys.all flatD) = true ∧ k (.bool (!isIn x ys))
  | _ => False
theorem VRep.rp {K : PySem.W.Frag} {H : Hp} {M : Addr → Prop} {v : V} {x : D} (h : VRep K H (Fz H M) v x) (f : flatD x = true) : Rp K H v x := by
  cases h with
  | d q => exact Rp.sub Fz.sub q
  | @cell a c q => cases c <;> simp [cellD, flatD] at f
theorem inV_is {K : PySem.W.Frag} {H : Hp} {v : V} {x : D} (hx : Rp K H v x) (fx : flatD x = true) : ∀ {vs : List V} {ys : List D}, RpAll K H vs ys → ys.all flatD = true → inV v vs = isIn x ys ∧ vs.all flatV = true
  | _, _, .nil, _ => ⟨rfl, rfl⟩
  | _, _, .cons h r, f => by
    simp only [List.all_cons, Bool.and_eq_true] at f
    obtain ⟨e1, e2⟩ := inV_is hx fx r f.2
    refine ⟨?_, by rw [List.all_cons, flat_V h f.1, e2]; rfl⟩
    unfold inV isIn at *
    rw [List.any_cons, List.any_cons, e1, eqv_flat hx h fx f.1]
section
variable {X : Cx}
theorem o_in (hu : X.A.units + 65 < cLine) : ∃ r, OpR X (compareOp .In) r ∧ OpD X.K r fIn := by
  refine ⟨_, op_in_seq.or (op_inD hu), fun M H x y dx dy k Q al rx ry h fin => ?_⟩
  unfold fIn at h
  split at h
  · obtain ⟨c, h⟩ := h
    rw [Bool.or_eq_true] at c
    rcases c with c | c
    · rw [Bool.and_eq_true] at c
      obtain ⟨a, vs, rfl, h1, _, h2⟩ := ry.list'
      obtain ⟨e1, e2⟩ := inV_is (rx.rp c.1) c.1 (RpAll.sub Fz.sub h2) c.2
      refine .inl ⟨a, vs, rfl, .inl h1, flat_V (rx.rp c.1) c.1, e2, ?_⟩
      rw [if_neg Bool.false_ne_true, e1]
      exact fin _ _ _ h (Sub.refl _) (.bl _)
    · rw [Bool.and_eq_true] at c
      exact .inr ⟨_, _, rx.dp Fz.sub (SeqAt.canLay_of_shaped c.1), ry.dp Fz.sub (SeqAt.canLay_of_shaped c.2), c.1, c.2, fin _ _ _ h (Sub.refl _) (.bl _)⟩
  · obtain ⟨c, h⟩ := h
    rw [Bool.and_eq_true] at c
    obtain ⟨a, vs, rfl, h1, _, _, h2⟩ := ry.tup'
    obtain ⟨e1, e2⟩ := inV_is (rx.rp c.1) c.1 (RpAll.sub Fz.sub h2) c.2
    refine .inl ⟨a, vs, rfl, .inr h1, flat_V (rx.rp c.1) c.1, e2, ?_⟩
    rw [if_neg Bool.false_ne_true, e1]
    exact fin _ _ _ h (Sub.refl _) (.bl _)
  · exact h.elim
theorem o_notin (hu : X.A.units + 65 < cLine) : ∃ r, OpR X (compareOp .NotIn) r ∧ OpD X.K r fNotIn := by
  refine ⟨_, op_notIn_seq.or (op_notInD hu), fun M H x y dx dy k Q al rx ry h fin => ?_⟩
  unfold fNotIn at h
  split at h
  · obtain ⟨c, h⟩ := h
    rw [Bool.or_eq_true] at c
    rcases c with c | c
    · rw [Bool.and_eq_true] at c
      obtain ⟨a, vs, rfl, h1, _, h2⟩ := ry.list'
      obtain ⟨e1, e2⟩ := inV_is (rx.rp c.1) c.1 (RpAll.sub Fz.sub h2) c.2
      refine .inl ⟨a, vs, rfl, .inl h1, flat_V (rx.rp c.1) c.1, e2, ?_⟩
      rw [if_pos rfl, e1]
      exact fin _ _ _ h (Sub.refl _) (.bl _)
    · rw [Bool.and_eq_true] at c
      exact .inr ⟨_, _, rx.dp Fz.sub (SeqAt.canLay_of_shaped c.1), ry.dp Fz.sub (SeqAt.canLay_of_shaped c.2), c.1, c.2, fin _ _ _ h (Sub.refl _) (.bl _)⟩
  · obtain ⟨c, h⟩ := h
    rw [Bool.and_eq_true] at c
    obtain ⟨a, vs, rfl, h1, _, _, h2⟩ := ry.tup'
    obtain ⟨e1, e2⟩ := inV_is (rx.rp c.1) c.1 (RpAll.sub Fz.sub h2) c.2
    refine .inl ⟨a, vs, rfl, .inr h1, flat_V (rx.rp c.1) c.1, e2, ?_⟩
    rw [if_pos rfl, e1]
    exact fin _ _ _ h (Sub.refl _) (.bl _)
  · exact h.elim
end
end L3

set_option maxHeartbeats 4000000
namespace L3
open PySem PySem.Spec L2

/-! ### blocks and small statements -/
def dNext : dTS := fun E ρ S => E.nx ρ S
def dSeq (t u : dTS) : dTS := fun E ρ S => t { E with nx := u E } ρ S
def dBrk : dTS := fun E ρ S => E.bk ρ S
def dCnt : dTS := fun E ρ S => E.ct ρ S
def dDrop (te : dTE) : dTS := fun E ρ S => te ρ S fun _ S1 => E.nx ρ S1
def dRet (te : dTE) : dTS := fun E ρ S => te ρ S E.rt
def dRetN : dTS := fun E _ S => E.rt (.d .none) S
def dIfS (c : dTT) (t u : dTS) : dTS := fun E ρ S => c ρ S fun b S1 => Br b (t E ρ S1) (u E ρ S1)
/-- a value that may be kept: none of one's own things -/
def nl (d : DV) (k : Prop) : Prop := match d with
  | .loc _ => False
  | .d _ => k
  | .ref _ => k
theorem nl_of {d : DV} {k : Prop} (h : nl d k) : isLoc d = false ∧ k := by
  cases d with
  | d x => exact ⟨rfl, h⟩
  | ref n => exact ⟨rfl, h⟩
  | loc i => exact h.elim
def dSet (i : Nat) (te : dTE) : dTS := fun E ρ S => te ρ S fun d S1 => nl d (E.nx (ρ.set i (.val d)) S1)
/-- a new list that is one's own -/
def dSetO (i : Nat) (t : dTF) : dTS := fun E ρ S => t ρ S fun xs S1 => match ρ[i]? with
  | some _ => E.nx (ρ.set i (.own (.lst xs))) S1
  | none => False
/-- from here on what slot i owns stands still -/
def frz (ρ : Env3) (i : Nat) : Env3 := match ρ[i]? with
  | some (.own (.lst xs)) => ρ.set i (.val (.d (.list xs)))
  | _ => ρ
def dFrz (i : Nat) (t : dTS) : dTS := fun E ρ S => t E (frz ρ i) S
section
variable {X : Cx} {K : PySem.W.Frag}
theorem EndsOk.seq {F : Addr → Prop} {m o : Nat → Option Addr} {H : Hp} {E : dEnds} {E' : Ends} {u : dTS} (ok : EndsOk K F m o H E E') : EndsOk K F m o H { E with nx := u E } { E' with nx := liftS K u E' } :=
  ⟨fun ρ S m' o' σ' H' h r g => ⟨F, m', o', ρ, S, E, r, h, ok.grow g⟩, ok.bk, ok.ct, ok.rt⟩
theorem dss_nil : DSs X [] dNext := PSs.imp pss_nil fun E σ H q => by
  obtain ⟨F, m, o, ρ, S, E', rel, t, ok⟩ := q
  exact ok.nx ρ S m o σ H t rel Grow.refl
theorem lift_seq {t u : dTS} {E : Ends} {σ : L2.St} {H : Hp} (q : liftS K (dSeq t u) E σ H) : tSeq (liftS K t) (liftS K u) E σ H := by
  obtain ⟨F, m, o, ρ, S, E', rel, t, ok⟩ := q
  exact ⟨F, m, o, ρ, S, _, rel, t, ok.seq⟩
theorem dss_cons {st : Stmt} {rest : List Stmt} {t u : dTS} (h1 : DS X st t) (h2 : DSs X rest u) : DSs X (st :: rest) (dSeq t u) := PSs.imp (pss_cons h1 h2) fun _ _ _ => lift_seq
theorem dss_one {st : Stmt} {t : dTS} (h1 : DS X st t) : DSs X [st] t := pss_one h1
theorem ds_pass {pos : Pos} : DS X (.Pass pos) dNext := PS.imp ps_pass fun E σ H q => by
  obtain ⟨F, m, o, ρ, S, E', rel, t, ok⟩ := q
  exact ok.nx ρ S m o σ H t rel Grow.refl
theorem ds_brk {pos : Pos} : DS X (.Break pos) dBrk := PS.imp ps_break fun E σ H q => by
  obtain ⟨F, m, o, ρ, S, E', rel, t, ok⟩ := q
  exact ok.bk ρ S m o σ H t rel Grow.refl
theorem ds_cnt {pos : Pos} : DS X (.Continue pos) dCnt := PS.imp ps_continue fun E σ H q => by
  obtain ⟨F, m, o, ρ, S, E', rel, t, ok⟩ := q
  exact ok.ct ρ S m o σ H t rel Grow.refl
theorem ds_doc {x j pos pos'} : DS X (.Expr (.Constant (.str x) j pos) pos') dNext := PS.imp ps_doc fun E σ H q => by
  obtain ⟨F, m, o, ρ, S, E', rel, t, ok⟩ := q
  exact ok.nx ρ S m o σ H t rel Grow.refl
theorem ds_expr {e : Expr} {te : dTE} {pos : Pos} (he : DE X e te) (hs : swapsWith e none pos.line X.env = pure false := by rfl) : DS X (.Expr e pos) (dDrop te) := PS.imp (ps_expr he hs) fun E σ H q => by
  obtain ⟨F, m, o, ρ, S, E', rel, t, ok⟩ := q
  exact ⟨F, m, o, ρ, S, _, rel, t, fun d S' m' H' v h r g _ => ok.nx ρ S' m' o σ H' h r g⟩
theorem ds_ret {e : Expr} {te : dTE} {pos : Pos} (he : DE X e te) : DS X (.Return (some e) pos) (dRet te) := PS.imp (ps_ret he) fun E σ H q => by
  obtain ⟨F, m, o, ρ, S, E', rel, t, ok⟩ := q
  exact ⟨F, m, o, ρ, S, _, rel, t, fun d S' m' H' v h r g q => ok.rt d ρ S' m' o σ H' v h r g q⟩
theorem ds_retN {pos : Pos} : DS X (.Return none pos) dRetN := PS.imp ps_retN fun E σ H q => by
  obtain ⟨F, m, o, ρ, S, E', rel, t, ok⟩ := q
  exact ok.rt _ ρ S m o σ H .non t rel Grow.refl .non
theorem ds_if {c : Expr} {a b : List Stmt} {tc : dTT} {t u : dTS} {pos : Pos} (hc : DT X c tc) (ha : DSs X a t) (hb : DSs X b u) : DS X (.If c a b pos) (dIfS tc t u) := PS.imp (ps_if hc ha hb) fun E σ H q => by
  obtain ⟨F, m, o, ρ, S, E', rel, t, ok⟩ := q
  refine ⟨F, m, o, ρ, S, _, rel, t, fun b S1 m1 H1 h r g => ?_⟩
  cases b with
  | true => exact iteT ⟨F, m1, o, ρ, S1, E', r, h.eT, ok.grow g⟩
  | false => exact iteF ⟨F, m1, o, ρ, S1, E', r, h.eF, ok.grow g⟩
theorem ds_set {i : Nat} {x : Str} {e : Expr} {te : dTE} {pos pos' : Pos} (hN : X.N.Nodup) (hi : X.N[i]? = some x) (hx : Loc X.env.scope x) (he : DE X e te) (hf : X.fn x = true ∨ X.env.scope.names.lookup x = some .local) (hs : swapsWith e (some (.Name x pos')) pos.line X.env = pure false := by rfl) :
    DS X (.Assign [.Name x pos'] e pos) (dSet i te) := PS.imp (ps_set hN hi hx he hs hf) fun E σ H q => by
  obtain ⟨F, m, o, ρ, S, E', rel, t, ok⟩ := q
  refine ⟨F, m, o, ρ, S, _, rel, t, fun d S1 m1 H1 v h r g q => ?_⟩
  obtain ⟨n, h⟩ := nl_of h
  exact ok.nx _ S1 m1 _ _ H1 h (r.put i q n) (g.trans (Grow.ers i))
theorem own_fin {F : Addr → Prop} {m o : Nat → Option Addr} {ρ : Env3} {S : Sto} {σ : L2.St} {H : Hp} {E : dEnds} {E' : Ends} {i : Nat} {p : Addr} {vs : List V} {xs : List D} (rel : Rel K F m o ρ S σ H) (hp : H p = none) (dp : RpAll K (Fz H (Mu F m o)) vs xs)
    (h : match ρ[i]? with | some _ => E.nx (ρ.set i (.own (.lst xs))) S | none => False) (ok : EndsOk K F m o H E E') : gName i (.ref p) σ (upd H p (.lst vs)) E'.nx := by
  have hi : i < ρ.length := by
    by_cases z : i < ρ.length
    · exact z
    · rw [List.getElem?_eq_none_iff.mpr (by omega)] at h
      exact h.elim
  rw [List.getElem?_eq_getElem hi] at h
  exact ok.nx _ S m _ _ _ h (rel.own hp hi ⟨vs, upd_same, RpAll.sub (fz_own hp) dp⟩) (Grow.own rel.st hp)
theorem ds_setO {i : Nat} {x : Str} {e : Expr} {t : dTF} {pos pos' : Pos} (hN : X.N.Nodup) (hi : X.N[i]? = some x) (hx : Loc X.env.scope x) (he : DF X e t) (hf : X.fn x = true ∨ X.env.scope.names.lookup x = some .local) (hs : swapsWith e (some (.Name x pos')) pos.line X.env = pure false := by rfl) :
    DS X (.Assign [.Name x pos'] e pos) (dSetO i t) := PS.imp (ps_set hN hi hx he hs hf) fun E σ H q => by
  obtain ⟨F, m, o, ρ, S, E', rel, t, ok⟩ := q
  exact ⟨F, m, o, ρ, S, _, rel, t, fun xs S1 m1 H1 p vs h r g hp dp => own_fin r hp dp h (ok.grow g)⟩
theorem frz_rel {F : Addr → Prop} {m o : Nat → Option Addr} {ρ : Env3} {S : Sto} {σ : L2.St} {H : Hp} (r : Rel K F m o ρ S σ H) (i : Nat) : ∃ o', Rel K F m o' (frz ρ i) S σ H ∧ Grow F m o H m o' H := by
  unfold frz
  split
  · rename_i xs e
    obtain ⟨a, h1, h2, vs, h3, h4⟩ := r.sl i _ e
    have q : DRep K F m (ersO o i) H (.ref a) (.d (.list xs)) := by
      refine .lst (Fz.of (fun z => ?_) h3) (RpAll.sub (fz_ers i) h4)
      rcases z with z | ⟨n, z⟩ | ⟨j, z⟩
      · exact r.st.oF i a h1 z
      · exact r.st.injO n i a z h1
      · obtain ⟨z1, z2⟩ := ers_some z
        exact z1 (r.st.oo j i a z2 h1)
    have hi : i < ρ.length := (List.getElem?_eq_some_iff.mp e).1
    refine ⟨ersO o i, ⟨r.st.ers i, by rw [List.length_set]; exact r.len, fun j s e2 => ?_, fun j h => ?_⟩, Grow.ers i⟩
    · by_cases hj : i = j
      · subst hj
        rw [List.getElem?_set_self hi] at e2
        cases e2
        exact ⟨ers_same, _, h2, q⟩
      · rw [List.getElem?_set_ne hj] at e2
        rw [ers_ne (Ne.symm hj)]
        exact (r.sl j s e2).sub (fun _ _ => rfl) (fz_ers i)
    · rw [List.length_set] at h
      by_cases hj : j = i
      · subst hj; exact ers_same
      · rw [ers_ne hj]; exact r.far j h
  · exact ⟨o, r, Grow.refl⟩
theorem dss_frz {sts : List Stmt} {t : dTS} (i : Nat) (h : DSs X sts t) : DSs X sts (dFrz i t) := PSs.imp h fun E σ H q => by
  obtain ⟨F, m, o, ρ, S, E', rel, t, ok⟩ := q
  obtain ⟨o', r, g⟩ := frz_rel rel i
  exact ⟨F, m, o', _, S, E', r, t, ok.grow g⟩
theorem ds_frz {st : Stmt} {t : dTS} (i : Nat) (h : DS X st t) : DS X st (dFrz i t) := PS.imp h fun E σ H q => by
  obtain ⟨F, m, o, ρ, S, E', rel, t, ok⟩ := q
  obtain ⟨o', r, g⟩ := frz_rel rel i
  exact ⟨F, m, o', _, S, E', r, t, ok.grow g⟩
end

/-! ### targets -/
abbrev dTG := D → Env3 → Sto → (Env3 → Sto → Prop) → Prop
abbrev dTGs := List D → Env3 → Sto → (Env3 → Sto → Prop) → Prop
def wipeD (ρ : Env3) : List Nat → Env3
  | [] => ρ
  | v :: vs => (wipeD ρ vs).set v .no
theorem wipeD_length (ρ : Env3) : ∀ vs : List Nat, (wipeD ρ vs).length = ρ.length
  | [] => rfl
  | v :: vs => by unfold wipeD; rw [List.length_set, wipeD_length ρ vs]
theorem wipe_set (σ : L2.St) (i : Nat) (x : Option V) : ∀ {vs : List Nat}, i ∈ vs → wipe (σ.set i x) vs = wipe σ vs
  | v :: vs, h => by
    unfold wipe
    by_cases e : i ∈ vs
    · rw [wipe_set σ i x e]
    · have hv : i = v := by
        rcases List.mem_cons.mp h with h | h
        · exact h
        · exact absurd h e
      subst hv
      have go : ∀ ws : List Nat, i ∉ ws → wipe (σ.set i x) ws = (wipe σ ws).set i x := by
        intro ws hw
        induction ws with
        | nil => rfl
        | cons w ws ih =>
          have h1 : i ≠ w := fun z => hw (by rw [z]; exact List.mem_cons_self)
          have h2 : i ∉ ws := fun z => hw (List.mem_cons_of_mem _ z)
          unfold wipe
          rw [ih h2, List.set_comm _ _ h1]
      rw [go vs e, List.set_set]
theorem wipeD_set (σ : Env3) (i : Nat) (x : Slot) : ∀ {vs : List Nat}, i ∈ vs → wipeD (σ.set i x) vs = wipeD σ vs
  | v :: vs, h => by
    unfold wipeD
    by_cases e : i ∈ vs
    · rw [wipeD_set σ i x e]
    · have hv : i = v := by
        rcases List.mem_cons.mp h with h | h
        · exact h
        · exact absurd h e
      subst hv
      have go : ∀ ws : List Nat, i ∉ ws → wipeD (σ.set i x) ws = (wipeD σ ws).set i x := by
        intro ws hw
        induction ws with
        | nil => rfl
        | cons w ws ih =>
          have h1 : i ≠ w := fun z => hw (by rw [z]; exact List.mem_cons_self)
          have h2 : i ∉ ws := fun z => hw (List.mem_cons_of_mem _ z)
          unfold wipeD
          rw [ih h2, List.set_comm _ _ h1]
      rw [go vs e, List.set_set]
/-- a target's reading: its slots are among vs -/
def liftG (K : PySem.W.Frag) (vs : List Nat) (g : dTG) : TG := fun v σ H Q => ∃ F m o ρ S x k, Rel K F m o ρ S σ H ∧ Rp K (Fz H (Mu F m o)) v x ∧ g x ρ S k ∧
  ∀ ρ' S' m' o' σ' H', k ρ' S' → Rel K F m' o' ρ' S' σ' H' → Grow F m o H m' o' H' → wipe σ' vs = wipe σ vs → (∀ i a, o' i = some a → o i = some a) → Q σ' H'
def liftGs (K : PySem.W.Frag) (vs : List Nat) (g : dTGs) : TGs := fun us σ H Q => ∃ F m o ρ S xs k, Rel K F m o ρ S σ H ∧ RpAll K (Fz H (Mu F m o)) us xs ∧ g xs ρ S k ∧
  ∀ ρ' S' m' o' σ' H', k ρ' S' → Rel K F m' o' ρ' S' σ' H' → Grow F m o H m' o' H' → wipe σ' vs = wipe σ vs → (∀ i a, o' i = some a → o i = some a) → Q σ' H'
structure DG (X : Cx) (vs : List Nat) (e : Expr) (g : dTG) : Prop where
  pg : PG X e (liftG X.K vs g)
  sat : ∀ x ρ S k, g x ρ S k → ∃ ρ1 S1, k ρ1 S1
  w : ∀ x ρ S k, g x ρ S k → g x ρ S fun ρ1 S1 => k ρ1 S1 ∧ wipeD ρ1 vs = wipeD ρ vs
structure DGs (X : Cx) (vs : List Nat) (n : Nat) (es : List Expr) (g : dTGs) : Prop where
  pg : PGs X es (liftGs X.K vs g)
  sat : ∀ x ρ S k, g x ρ S k → x.length = n ∧ ∃ ρ1 S1, k ρ1 S1
  w : ∀ x ρ S k, g x ρ S k → g x ρ S fun ρ1 S1 => k ρ1 S1 ∧ wipeD ρ1 vs = wipeD ρ vs
def gNm (i : Nat) : dTG := fun x ρ S Q => Q (ρ.set i (.val (.d x))) S
def gsNil : dTGs := fun xs ρ S Q => match xs with
  | [] => Q ρ S
  | _ :: _ => False
def gsCons (g : dTG) (gs : dTGs) : dTGs := fun xs ρ S Q => match xs with
  | [] => False
  | x :: r => g x ρ S fun ρ1 S1 => gs r ρ1 S1 Q
def gTp (gs : dTGs) : dTG := fun x ρ S Q => match x with
  | .tuple xs => gs xs ρ S Q
  | _ => False
theorem PG.imp {X : Cx} {e : Expr} {t t' : TG} (h : PG X e t) (i : ∀ v σ H Q, t' v σ H Q → t v σ H Q) : PG X e t' := ⟨fun pins s σ H v u Q I r q => h.run pins s σ H v u Q I r (i v σ H Q q)⟩
theorem PGs.imp {X : Cx} {e : List Expr} {t t' : TGs} (h : PGs X e t) (i : ∀ v σ H Q, t' v σ H Q → t v σ H Q) : PGs X e t' := ⟨fun pins s σ H v u Q I r q => h.run pins s σ H v u Q I r (i v σ H Q q)⟩
section
variable {X : Cx} {vs : List Nat}
theorem dg_nm {i : Nat} {x : Str} {pos : Pos} (hN : X.N.Nodup) (hi : X.N[i]? = some x) (hx : Loc X.env.scope x) (hf : X.fn x = true ∨ X.env.scope.names.lookup x = some .local) (hv : i ∈ vs := by decide) : DG X vs (.Name x pos) (gNm i) where
  pg := PG.imp (pg_name hN hi hx hf) fun v σ H Q q => by
    obtain ⟨F, m, o, ρ, S, x, k, rel, dp, t, hk⟩ := q
    exact hk _ S m _ _ H t (rel.put (d := .d x) i dp rfl) (Grow.ers i) (wipe_set _ _ _ hv) fun j a e => (ers_some e).2
  sat := fun x ρ S k h => ⟨_, _, h⟩
  w := fun x ρ S k h => ⟨h, wipeD_set _ _ _ hv⟩
theorem dgs_nil : DGs X vs 0 [] gsNil where
  pg := PGs.imp pgs_nil fun us σ H Q q => by
    obtain ⟨F, m, o, ρ, S, xs, k, rel, dp, t, hk⟩ := q
    cases dp with
    | nil => exact ⟨rfl, hk _ S m _ _ H t rel Grow.refl rfl fun _ _ e => e⟩
    | cons h r => exact t.elim
  sat := fun xs ρ S k h => by
    cases xs with
    | nil => exact ⟨rfl, _, _, h⟩
    | cons x r => exact h.elim
  w := fun xs ρ S k h => by
    cases xs with
    | nil => exact ⟨h, rfl⟩
    | cons x r => exact h.elim
theorem dgs_cons {e : Expr} {es : List Expr} {g : dTG} {gs : dTGs} {n : Nat} (h1 : DG X vs e g) (h2 : DGs X vs n es gs)
    (mono : ∀ x ρ S k k', g x ρ S k → (∀ ρ1 S1, k ρ1 S1 → k' ρ1 S1) → g x ρ S k')
    (hs : (assignEach (e :: es) X.env).map (·.2) = assign e X.env :: (assignEach es X.env).map (·.2) := by rfl) : DGs X vs (n + 1) (e :: es) (gsCons g gs) where
  pg := PGs.imp (pgs_cons h1.pg h2.pg hs) fun us σ H Q q => by
    obtain ⟨F, m, o, ρ, S, xs, k, rel, dp, t, hk⟩ := q
    cases dp with
    | nil => exact t.elim
    | cons h r =>
      refine ⟨_, _, rfl, F, m, o, ρ, S, _, _, rel, h, t, fun ρ1 S1 m1 o1 σ1 H1 h1 rel1 g1 w1 oo1 => ?_⟩
      exact ⟨F, m1, o1, ρ1, S1, _, _, rel1, RpAll.sub g1.z r, h1, fun ρ2 S2 m2 o2 σ2 H2 h2 rel2 g2 w2 oo2 => hk ρ2 S2 m2 o2 σ2 H2 h2 rel2 (g1.trans g2) (w2.trans w1) fun j a e => oo1 j a (oo2 j a e)⟩
  sat := fun xs ρ S k h => by
    cases xs with
    | nil => exact h.elim
    | cons x r =>
      obtain ⟨ρ1, S1, q⟩ := h1.sat _ _ _ _ h
      obtain ⟨q1, q2⟩ := h2.sat _ _ _ _ q
      exact ⟨by rw [List.length_cons, q1], q2⟩
  w := fun xs ρ S k h => by
    cases xs with
    | nil => exact h.elim
    | cons x r =>
      show g x ρ S _
      exact mono _ _ _ _ _ (h1.w _ _ _ _ h) fun ρ1 S1 q => by
        have z := h2.w _ _ _ _ q.1
        rw [q.2] at z
        exact z
theorem mono_nm (i : Nat) : ∀ x ρ S k k', gNm i x ρ S k → (∀ ρ1 S1, k ρ1 S1 → k' ρ1 S1) → gNm i x ρ S k' := fun _ _ _ _ _ h q => q _ _ h
theorem mono_nil : ∀ x ρ S k k', gsNil x ρ S k → (∀ ρ1 S1, k ρ1 S1 → k' ρ1 S1) → gsNil x ρ S k' := fun x _ _ _ _ h q => by
  cases x with
  | nil => exact q _ _ h
  | cons => exact h.elim
theorem mono_cons {g : dTG} {gs : dTGs} (h1 : ∀ x ρ S k k', g x ρ S k → (∀ ρ1 S1, k ρ1 S1 → k' ρ1 S1) → g x ρ S k') (h2 : ∀ x ρ S k k', gs x ρ S k → (∀ ρ1 S1, k ρ1 S1 → k' ρ1 S1) → gs x ρ S k') :
    ∀ x ρ S k k', gsCons g gs x ρ S k → (∀ ρ1 S1, k ρ1 S1 → k' ρ1 S1) → gsCons g gs x ρ S k' := fun x ρ S k k' h q => by
  cases x with
  | nil => exact h.elim
  | cons x r => exact h1 _ _ _ _ _ h fun ρ1 S1 z => h2 _ _ _ _ _ z q
theorem mono_tp {gs : dTGs} (h2 : ∀ x ρ S k k', gs x ρ S k → (∀ ρ1 S1, k ρ1 S1 → k' ρ1 S1) → gs x ρ S k') :
    ∀ x ρ S k k', gTp gs x ρ S k → (∀ ρ1 S1, k ρ1 S1 → k' ρ1 S1) → gTp gs x ρ S k' := fun x ρ S k k' h q => by
  cases x with
  | tuple xs => exact h2 _ _ _ _ _ h q
  | _ => exact h.elim
theorem dg_tp {es : List Expr} {k : Nat} {gs : dTGs} {n : Nat} {pos : Pos} (hc : X.calm = true) (h : DGs X vs n es gs)
    (hn : (assignEach es X.env).length = n := by rfl) (hst : (assignEach es X.env).findIdx? (·.1) = none := by rfl) : DG X vs (.Tuple es k pos) (gTp gs) where
  pg := PG.imp (pg_tup hc h.pg hn hst) fun v σ H Q q => by
    obtain ⟨F, m, o, ρ, S, x, k, rel, dp, t, hk⟩ := q
    unfold gTp at t
    split at t
    · cases dp with
      | tup e r => exact ⟨_, _, rfl, SqT.of (Fz.at e).2, by rw [RpAll.length r]; exact (h.sat _ _ _ _ t).1, F, m, o, ρ, S, _, k, rel, r, t, hk⟩
    · exact t.elim
  sat := fun x ρ S k q => by
    cases x with
    | tuple xs => exact (h.sat _ _ _ _ q).2
    | _ => exact q.elim
  w := fun x ρ S k q => by
    cases x with
    | tuple xs => exact h.w _ _ _ _ q
    | _ => exact q.elim
def dAsg (te : dTE) (g : dTG) : dTS := fun E ρ S => te ρ S fun d S1 => match d with
  | .d x => g x ρ S1 E.nx
  | _ => False
theorem ds_asg {tg e : Expr} {te : dTE} {g : dTG} {pos : Pos} (hg : DG X vs tg g) (he : DE X e te) (hs : swapsWithSole [tg] e pos.line X.env = pure false := by rfl) (hw : swappedStores [tg] e X.env = pure none := by rfl)
    (h1 : (assignEach [tg] X.env).map (·.2) = [assign tg X.env] := by rfl) : DS X (.Assign [tg] e pos) (dAsg te g) := PS.imp (ps_asg he hg.pg hs hw h1) fun E σ H q => by
  obtain ⟨F, m, o, ρ, S, E', rel, t, ok⟩ := q
  refine ⟨F, m, o, ρ, S, _, rel, t, fun d S1 m1 H1 v h r g1 q => ?_⟩
  cases d with
  | d x => exact ⟨F, m1, o, ρ, S1, x, _, r, q, h, fun ρ' S' m' o' σ' H' hh r' g' _ _ => ok.nx ρ' S' m' o' σ' H' hh r' (g1.trans g')⟩
  | ref n => exact h.elim
  | loc i => exact h.elim
/-- a, b = x, y -/
def dPar (i j : Nat) (ta : dTA) : dTS := fun E ρ S => ta ρ S fun ds S1 => match ds with
  | [d, e] => nl d (nl e (E.nx ((ρ.set i (.val d)).set j (.val e)) S1))
  | _ => False
theorem ds_par {i j : Nat} {x y : Str} {a b : Expr} {ta : dTA} {px py pt : Pos} {kt k2 pt2} {pos : Pos} (hc : X.calm = true) (hN : X.N.Nodup) (hi : X.N[i]? = some x) (hj : X.N[j]? = some y) (hij : i ≠ j)
    (hx : X.env.scope.names.lookup x = some .local) (hy : X.env.scope.names.lookup y = some .local) (ha : DA X [a, b] ta)
    (hw : swappedStores [.Tuple [.Name x px, .Name y py] kt pt] (.Tuple [a, b] k2 pt2) X.env = pure (some [x, y]) := by rfl)
    (hs : swapsWithSole [.Tuple [.Name x px, .Name y py] kt pt] (.Tuple [a, b] k2 pt2) pos.line X.env = pure false := by rfl) :
    DS X (.Assign [.Tuple [.Name x px, .Name y py] kt pt] (.Tuple [a, b] k2 pt2) pos) (dPar i j ta) := PS.imp (ps_par hc hN hi hj hij hx hy ha hw hs) fun E σ H q => by
  obtain ⟨F, m, o, ρ, S, E', rel, t, ok⟩ := q
  refine ⟨F, m, o, ρ, S, _, rel, t, fun ds S1 m1 H1 vs h r g q => ?_⟩
  match ds, h with
  | [d, e], h =>
    cases q with
    | cons q1 q =>
      cases q with
      | cons q2 q =>
        cases q
        obtain ⟨n1, h⟩ := nl_of h
        obtain ⟨n2, h⟩ := nl_of h
        exact ⟨_, _, rfl, ok.nx _ S1 m1 _ _ H1 h ((r.put i q1 n1).put j (q2.ers i (isLoc_no n2)) n2) ((g.trans (Grow.ers i)).trans (Grow.ers j))⟩
/-- a, b, c = x, y, z -/
def dPar3 (i j l : Nat) (ta : dTA) : dTS := fun E ρ S => ta ρ S fun ds S1 => match ds with
  | [d, e, f] => nl d (nl e (nl f (E.nx (((ρ.set i (.val d)).set j (.val e)).set l (.val f)) S1)))
  | _ => False
theorem ds_par3 {i j l : Nat} {x y z : Str} {a b c : Expr} {ta : dTA} {px py pz pt : Pos} {kt k2 pt2} {pos : Pos} (hc : X.calm = true) (hN : X.N.Nodup) (hi : X.N[i]? = some x) (hj : X.N[j]? = some y) (hl : X.N[l]? = some z) (hij : i ≠ j) (hil : i ≠ l) (hjl : j ≠ l)
    (hx : X.env.scope.names.lookup x = some .local) (hy : X.env.scope.names.lookup y = some .local) (hz : X.env.scope.names.lookup z = some .local) (ha : DA X [a, b, c] ta)
    (hw : swappedStores [.Tuple [.Name x px, .Name y py, .Name z pz] kt pt] (.Tuple [a, b, c] k2 pt2) X.env = pure (some [x, y, z]) := by rfl)
    (hs : swapsWithSole [.Tuple [.Name x px, .Name y py, .Name z pz] kt pt] (.Tuple [a, b, c] k2 pt2) pos.line X.env = pure false := by rfl) :
    DS X (.Assign [.Tuple [.Name x px, .Name y py, .Name z pz] kt pt] (.Tuple [a, b, c] k2 pt2) pos) (dPar3 i j l ta) := PS.imp (ps_par3 hc hN hi hj hl hij hil hjl hx hy hz ha hw hs) fun E σ H q => by
  obtain ⟨F, m, o, ρ, S, E', rel, t, ok⟩ := q
  refine ⟨F, m, o, ρ, S, _, rel, t, fun ds S1 m1 H1 vs h r g q => ?_⟩
  match ds, h with
  | [d, e, f], h =>
    cases q with
    | cons q1 q =>
      cases q with
      | cons q2 q =>
        cases q with
        | cons q3 q =>
          cases q
          obtain ⟨n1, h⟩ := nl_of h
          obtain ⟨n2, h⟩ := nl_of h
          obtain ⟨n3, h⟩ := nl_of h
          exact ⟨_, _, _, rfl, ok.nx _ S1 m1 _ _ H1 h (((r.put i q1 n1).put j (q2.ers i (isLoc_no n2)) n2).put l ((q3.ers i (isLoc_no n3)).ers j (isLoc_no n3)) n3) (((g.trans (Grow.ers i)).trans (Grow.ers j)).trans (Grow.ers l))⟩
end
end L3

set_option maxHeartbeats 4000000
namespace L3
open PySem PySem.Spec L2

/-! ### x op= e -/
def dAug (i : Nat) (f : F2) (te : dTE) : dTS := fun E ρ S => match ρ[i]? with
  | some (.val (.d x)) => te ρ S fun e S1 => f x (view ρ S1 e) fun z => E.nx (ρ.set i (.val (.d z))) S1
  | _ => False
def fIAdd : F2 := fun x y k => match x, y with
  | .int i, .int j => k (.int (i + j))
  | .str a, .str b => a.length + b.length ≤ sizeLine ∧ k (.str (a ++ b))
  | _, _ => False
section
variable {X : Cx}
theorem ds_aug {i : Nat} {x : Str} {e : Expr} {te : dTE} {op : Operator} {f : F2} {pos pos' : Pos} (ho : ∃ r, PIp X op r ∧ OpD X.K r f) (hN : X.N.Nodup) (hi : X.N[i]? = some x) (hx : Loc X.env.scope x) (he : DE X e te) (hf : X.fn x = true ∨ X.env.scope.names.lookup x = some .local) :
    DS X (.AugAssign (.Name x pos') op e pos) (dAug i f te) := by
  obtain ⟨r, h1, h2⟩ := ho
  refine PS.imp (ps_aug hN hi hx he h1 hf) fun E σ H q => ?_
  obtain ⟨F, m, o, ρ, S, E', rel, t, ok⟩ := q
  unfold dAug at t
  cases e1 : ρ[i]? with
  | none => rw [e1] at t; exact t.elim
  | some s =>
    rw [e1] at t
    have hs := rel.sl i s e1
    match s, t, hs with
    | .val (.d y), t, hs =>
      obtain ⟨_, v, h3, h4⟩ := hs
      refine ⟨v, h3, F, m, o, ρ, S, _, rel, t, fun d S1 m1 H1 w h r1 g q => ?_⟩
      refine h2 (Mu F m1 o) H1 v w _ _ _ _ r1.st.liv (.d (Rp.sub g.z h4)) (r1.view q) h fun z u H' kz s dz => ?_
      have r2 := r1.sub s
      exact ok.nx _ S1 m1 _ _ H' kz (r2.put (d := .d z) i dz rfl) ((g.trans (Grow.sub r1 s)).trans (Grow.ers i))
theorem p_iadd : ∃ r, PIp X .Add r ∧ OpD X.K r fIAdd := by
  refine ⟨_, (show OpR X (inplaceOp .Add) _ from iop_add.or iop_add_str), fun M H x y dx dy k Q al rx ry h fin => ?_⟩
  unfold fIAdd at h
  split at h
  · exact .inl ⟨_, _, rx.int, ry.int, fin _ _ _ h (Sub.refl _) (.int _)⟩
  · exact .inr ⟨_, _, rx.str, ry.str, h.1, fin _ _ _ h.2 (Sub.refl _) (.str _)⟩
  · exact h.elim
theorem p_isub : ∃ r, PIp X .Sub r ∧ OpD X.K r fSub := by
  refine ⟨_, (show OpR X (inplaceOp .Sub) _ from iop_sub), fun M H x y dx dy k Q al rx ry h fin => ?_⟩
  unfold fSub at h
  split at h
  · exact ⟨_, _, rx.int, ry.int, fin _ _ _ h (Sub.refl _) (.int _)⟩
  · exact h.elim

/-! ### while -/
def dWhile (c : dTT) (b : dTS) : dTS := fun E ρ S => ∃ W : Nat → Env3 → Sto → Prop, (∃ n, W n ρ S) ∧ ∀ n ρ S, W n ρ S →
  c ρ S fun t S1 => Br t (b { E with nx := fun ρ' S' => ∃ k, k < n ∧ W k ρ' S', ct := fun ρ' S' => ∃ k, k < n ∧ W k ρ' S', bk := E.nx } ρ S1) (E.nx ρ S1)
theorem ds_while {c : Expr} {body : List Stmt} {tc : dTT} {tb : dTS} {pos : Pos} (hp : PassesOwn (model X.prog X.w) X.A X.env X.xe) (hc : DT X c tc) (hb : DSs X body tb) : DS X (.While c body [] pos) (dWhile tc tb) :=
  PS.imp (ps_while hp hc hb) fun E σ H q => by
    obtain ⟨F, m, o, ρ, S, E', rel, ⟨W, ⟨n, w0⟩, hw⟩, ok⟩ := q
    refine ⟨fun n σ1 H1 => ∃ m1 o1 ρ1 S1, Rel X.K F m1 o1 ρ1 S1 σ1 H1 ∧ Grow F m o H m1 o1 H1 ∧ W n ρ1 S1, ⟨n, m, o, ρ, S, rel, Grow.refl, w0⟩, fun n σ1 H1 hW => ?_⟩
    obtain ⟨m1, o1, ρ1, S1, r1, g1, w1⟩ := hW
    refine ⟨F, m1, o1, ρ1, S1, _, r1, hw n ρ1 S1 w1, fun t S2 m2 H2 h r2 g2 => ?_⟩
    have ok2 := ok.grow (g1.trans g2)
    cases t with
    | true =>
      refine iteT ⟨fun σ' H' => ∃ k, k < n ∧ ∃ m3 o3 ρ3 S3, Rel X.K F m3 o3 ρ3 S3 σ' H' ∧ Grow F m o H m3 o3 H' ∧ W k ρ3 S3, fun σ' H' hN => hN, ?_⟩
      refine ⟨F, m2, o1, ρ1, S2, _, r2, h.eT, ⟨fun ρ' S' m' o' σ' H' hh r' g' => ?_, ok2.nx, fun ρ' S' m' o' σ' H' hh r' g' => ?_, ok2.rt⟩⟩
      · obtain ⟨k, hk, hW⟩ := hh
        exact ⟨k, hk, m', o', ρ', S', r', (g1.trans g2).trans g', hW⟩
      · obtain ⟨k, hk, hW⟩ := hh
        exact ⟨k, hk, m', o', ρ', S', r', (g1.trans g2).trans g', hW⟩
    | false => exact iteF (ok2.nx _ _ _ _ _ _ h.eF r2 Grow.refl)

/-! ### what is walked -/
structure Src where
  xs : List D
  ok : Env3 → Sto → Prop
abbrev dTI := Env3 → Sto → (Src → Sto → Prop) → Prop
structure Goes (K : PySem.W.Frag) (F : Addr → Prop) (m o : Nat → Option Addr) (H : Hp) (J : It) (src : Src) : Prop where
  go : ∀ (i : Nat) F1 m1 o1 ρ1 S1 σ1 H1, Rel K F1 m1 o1 ρ1 S1 σ1 H1 → Sub (Fz H (Mu F m o)) (Fz H1 (Mu F1 m1 o1)) → (∀ n a, m n = some a → m1 n = some a) → src.ok ρ1 S1 → ∀ x, src.xs[i]? = some x → J.go i H1 ∧ ∀ v H2, J.yld i H1 v H2 → Sub H1 H2 ∧ Rp K (Fz H2 (Mu F1 m1 o1)) v x
  stop : ∀ (i : Nat) F1 m1 o1 ρ1 S1 σ1 H1, Rel K F1 m1 o1 ρ1 S1 σ1 H1 → Sub (Fz H (Mu F m o)) (Fz H1 (Mu F1 m1 o1)) → (∀ n a, m n = some a → m1 n = some a) → src.ok ρ1 S1 → src.xs.length = i → J.stop i H1
def liftI (K : PySem.W.Frag) (t : dTI) : TI := fun σ H R => ∃ F m o ρ S k, Rel K F m o ρ S σ H ∧ t ρ S k ∧
  ∀ src S' m' H' J, k src S' → Rel K F m' o ρ S' σ H' → Grow F m o H m' o H' → Goes K F m' o H' J src → R J H'
abbrev DI (X : Cx) (tg e : Expr) (t : dTI) : Prop := PI X tg e (liftI X.K t)
theorem PI.imp {tg e : Expr} {t t' : TI} (h : PI X tg e t) (i : ∀ σ H Q, t' σ H Q → t σ H Q) : PI X tg e t' := ⟨fun pins s σ H Q I q => h.run pins s σ H Q I (i σ H Q q)⟩
/-- a list, a tuple, a text -/
def iAny (K : PySem.W.Frag) (tl : TE) : TI := fun σ H R => tl σ H fun x H1 => (∃ a, x = .ref a ∧ (∃ xs, SqL K H1 a xs) ∧ R (Itl K a) H1) ∨ (∃ a, x = .ref a ∧ (∃ xs, SqT K H1 a xs) ∧ R (Itt K a) H1) ∨ ∃ z, x = .str z ∧ R (Its z) H1
theorem pi_any {tg l : Expr} {tl : TE} (hl : PE X l tl) : PI X tg l (iAny X.K tl) := by
  refine ⟨fun pins s σ H R I h => ?_⟩
  refine thn (hl.run pins s σ H _ I h) fun v s1 ⟨x, H1, I1, r1, q1⟩ => ?_
  rcases q1 with ⟨a, e, ⟨xs, hq⟩, q⟩ | ⟨a, e, ⟨xs, hq⟩, q⟩ | ⟨z, e, q⟩
  · subst e
    cases r1
    obtain ⟨its, rv, p, hz⟩ := I1.list hq
    refine wpAny_pyIter_list p.isList ?_
    refine ⟨s1.heap.objs.size, [s1.heap.objs.size], _, _, H1, rfl, I1.kept (t' := s1.toks) fun b o e => Heap.get?_push_of_some _ e, turn_list a _, ⟨_, Heap.get?_push_size _ rfl, rfl, rfl⟩, fun b hb => ?_, q⟩
    have e : b = s1.heap.objs.size := by simpa using hb
    subst e
    exact I1.fpOk (Nat.le_refl _) (I1.hok.fresh (Nat.le_refl _))
  · subst e
    cases r1
    obtain ⟨its, rv, p, hz⟩ := I1.tuple hq
    refine wpAny_pyIter_tuple (show s1.heap.IsTuple a its.toArray from p) ?_
    refine ⟨s1.heap.objs.size, [s1.heap.objs.size], _, _, H1, rfl, I1.kept (t' := s1.toks) fun b o e => Heap.get?_push_of_some _ e, turn_tuple a _, ⟨_, Heap.get?_push_size _ rfl, rfl, rfl⟩, fun b hb => ?_, q⟩
    have e : b = s1.heap.objs.size := by simpa using hb
    subst e
    exact I1.fpOk (Nat.le_refl _) (I1.hok.fresh (Nat.le_refl _))
  · subst e
    obtain ⟨t, rfl⟩ := r1
    cases ha : z.cps.all (· < 128)
    · exact wpAny_pyIter_wide ha (pi_one (tk := s1.toks) I1 _ (turn_str _ z t "str_iterator" (.inr rfl)) ⟨_, Heap.get?_push_size _ rfl, rfl, rfl⟩ q)
    · exact wpAny_pyIter_ascii ha (pi_one (tk := s1.toks) I1 _ (turn_str _ z t "str_ascii_iterator" (.inl rfl)) ⟨_, Heap.get?_push_size _ rfl, rfl, rfl⟩ q)
/-- the signs of a text -/
def signs (z : Str) : List D := z.cps.toList.map fun c => .str ⟨#[c]⟩
def dItV (te : dTE) : dTI := fun ρ S K => te ρ S fun d S1 => nl d (match view ρ S1 d with
  | .list xs => K ⟨xs, fun ρ' S' => view ρ' S' d = .list xs⟩ S1
  | .tuple xs => K ⟨xs, fun _ _ => True⟩ S1
  | .str z => K ⟨signs z, fun _ _ => True⟩ S1
  | _ => False)
theorem sqL_inj {K : PySem.W.Frag} {H : Hp} {a : Addr} {vs ws : List V} (h : H a = some (.lst vs)) (hk : K.lookup a = none) (h' : SqL K H a ws) : ws = vs := by
  rcases h' with (h' | ⟨o, h'⟩) | ⟨o, its, n, h', _⟩
  · rw [h] at h'; cases h'; rfl
  · rw [h] at h'; cases h'
  · rw [hk] at h'; cases h'
/-- the source stands as the same data -/
theorem src_list {K : PySem.W.Frag} {F F2 : Addr → Prop} {m o m2 o2 : Nat → Option Addr} {ρ2 : Env3} {S1 S2 : Sto} {ρ : Env3} {σ2 : L2.St} {H1 H2 : Hp} {v : V} {d : DV} {xs : List D} (q : DRep K F m o H1 v d) (nd : isLoc d = false) (hz : view ρ S1 d = .list xs)
    (r2 : Rel K F2 m2 o2 ρ2 S2 σ2 H2) (gz : Sub (Fz H1 (Mu F m o)) (Fz H2 (Mu F2 m2 o2))) (gm : ∀ n a, m n = some a → m2 n = some a) (okk : view ρ2 S2 d = .list xs) : ∃ a vs, v = .ref a ∧ SqL K H2 a vs ∧ H2 a = some (.lst vs) ∧ RpAll K (Fz H2 (Mu F2 m2 o2)) vs xs := by
  cases d with
  | d y =>
    have : y = .list xs := hz
    subst this
    exact VRep.list' (.d (Rp.sub gz q))
  | ref n =>
    have z := r2.view (v := v) (d := .ref n) (let ⟨b, e1, e2⟩ := q; ⟨b, gm n b e1, e2⟩)
    rw [okk] at z
    exact z.list'
  | loc j => cases nd
theorem di_any {tg l : Expr} {te : dTE} (hl : DE X l te) : DI X tg l (dItV te) := PI.imp (pi_any hl) fun σ H R q => by
  obtain ⟨F, m, o, ρ, S, k, rel, t, hk⟩ := q
  refine ⟨F, m, o, ρ, S, _, rel, t, fun d S1 m1 H1 v h r g q => ?_⟩
  have rv := r.view q
  obtain ⟨nd, h⟩ := nl_of h
  split at h
  · rename_i xs hz
    rw [hz] at rv
    obtain ⟨a, vs, rfl, h1, h1', h2⟩ := rv.list'
    refine .inl ⟨a, rfl, ⟨vs, h1⟩, hk _ S1 m1 H1 _ h r g ⟨fun i F2 m2 o2 ρ2 S2 σ2 H2 r2 gz gm okk x hx => ?_, fun i F2 m2 o2 ρ2 S2 σ2 H2 r2 gz gm okk hx => ?_⟩⟩
    · obtain ⟨b, ws, e, h3, h3', h4⟩ := src_list q nd hz r2 gz gm okk
      cases e
      obtain ⟨w, e1, e2⟩ := RpAll.get h4 hx
      refine ⟨⟨ws, w, h3, e1⟩, fun u H3 hy => ?_⟩
      obtain ⟨rfl, hy⟩ := hy
      have := (hy ws h3).symm.trans e1
      cases this
      exact ⟨Sub.refl _, e2⟩
    · obtain ⟨b, ws, e, h3, h3', h4⟩ := src_list q nd hz r2 gz gm okk
      cases e
      exact ⟨ws, h3, by rw [RpAll.length h4]; exact Nat.le_of_eq hx⟩
  · rename_i xs hz
    rw [hz] at rv
    cases d with
    | d y =>
      have : y = .tuple xs := hz
      subst this
      obtain ⟨a, vs, rfl, h1, h1', hn, h2⟩ := rv.tup'
      refine .inr (.inl ⟨a, rfl, ⟨vs, h1⟩, hk _ S1 m1 H1 _ h r g ⟨fun i F2 m2 o2 ρ2 S2 σ2 H2 r2 gz gm okk x hx => ?_, fun i F2 m2 o2 ρ2 S2 σ2 H2 r2 gz gm okk hx => ?_⟩⟩)
      · obtain ⟨b, ws, e, h3, h3', _, h4⟩ := VRep.tup' (.d (Rp.sub gz q) : VRep X.K H2 (Fz H2 (Mu F2 m2 o2)) (.ref a) (.tuple xs))
        cases e
        obtain ⟨w, e1, e2⟩ := RpAll.get h4 hx
        refine ⟨⟨ws, w, h3, e1⟩, fun u H3 hy => ?_⟩
        obtain ⟨rfl, hy⟩ := hy
        have := (hy ws h3).symm.trans e1
        cases this
        exact ⟨Sub.refl _, e2⟩
      · obtain ⟨b, ws, e, h3, h3', _, h4⟩ := VRep.tup' (.d (Rp.sub gz q) : VRep X.K H2 (Fz H2 (Mu F2 m2 o2)) (.ref a) (.tuple xs))
        cases e
        exact ⟨ws, h3, by rw [RpAll.length h4]; exact Nat.le_of_eq hx⟩
    | ref n =>
      have : ∀ c, cellD c ≠ .tuple xs := fun c e => by cases c <;> cases e
      exfalso
      unfold view at hz
      cases e : S1[n]? with
      | none => simp [e] at hz
      | some c => simp [e] at hz; exact this c hz
    | loc j => cases nd
  · rename_i z hz
    rw [hz] at rv
    refine .inr (.inr ⟨z, rv.str, hk _ S1 m1 H1 _ h r g ⟨fun i F2 m2 o2 ρ2 S2 σ2 H2 r2 gz gm okk x hx => ?_, fun i F2 m2 o2 ρ2 S2 σ2 H2 r2 gz gm okk hx => ?_⟩⟩)
    · have hx : (signs z)[i]? = some x := hx
      unfold signs at hx
      rw [List.getElem?_map] at hx
      cases e : z.cps.toList[i]? with
      | none => rw [e] at hx; cases hx
      | some c =>
        rw [e] at hx
        cases hx
        have hi : i < z.cps.size := by
          have := (List.getElem?_eq_some_iff.mp e).1
          rwa [Array.length_toList] at this
        refine ⟨hi, fun u H3 hy => ?_⟩
        obtain ⟨rfl, c', e1, rfl⟩ := hy
        rw [← Array.getElem?_toList, e] at e1
        cases e1
        exact ⟨Sub.refl _, .str _⟩
    · have hx : (signs z).length = i := hx
      unfold signs at hx
      rw [List.length_map, Array.length_toList] at hx
      exact Nat.le_of_eq hx
  · exact h.elim
/-- lo, lo + 1, .. : n of them -/
def rng (lo : Int) (n : Nat) : List D := (List.range n).map fun i => .int (lo + (i : Nat))
theorem rng_len (lo : Int) (n : Nat) : (rng lo n).length = n := by unfold rng; rw [List.length_map, List.length_range]
theorem rng_get {lo : Int} {n i : Nat} {x : D} (h : (rng lo n)[i]? = some x) : i < n ∧ x = .int (lo + (i : Nat)) := by
  unfold rng at h
  rw [List.getElem?_map] at h
  cases e : (List.range n)[i]? with
  | none => rw [e] at h; cases h
  | some j =>
    rw [e] at h
    cases h
    obtain ⟨h1, h2⟩ := List.getElem?_eq_some_iff.mp e
    rw [List.getElem_range] at h2
    subst h2
    exact ⟨by rwa [List.length_range] at h1, rfl⟩
theorem goes_rng {K : PySem.W.Frag} {F : Addr → Prop} {m o : Nat → Option Addr} {H : Hp} (lo : Int) (n : Nat) : Goes K F m o H (Itr lo n) ⟨rng lo n, fun _ _ => True⟩ where
  go := fun i F2 m2 o2 ρ2 S2 σ2 H2 r2 gz gm okk x hx => by
    obtain ⟨h1, rfl⟩ := rng_get hx
    exact ⟨h1, fun v H3 hy => by obtain ⟨rfl, rfl⟩ := hy; exact ⟨Sub.refl _, .int _⟩⟩
  stop := fun i F2 m2 o2 ρ2 S2 σ2 H2 r2 gz gm okk hx => by
    have hx : (rng lo n).length = i := hx
    rw [rng_len] at hx
    exact Nat.le_of_eq hx
def small62 (i : Int) : Prop := -(2 ^ 62) ≤ i ∧ i < 2 ^ 62
def dRng1 (ta : dTA) : dTI := fun ρ S K => ta ρ S fun ds S1 => match ds with
  | [.d (.int j)] => small62 j ∧ K ⟨rng 0 j.toNat, fun _ _ => True⟩ S1
  | _ => False
def dRng2 (ta : dTA) : dTI := fun ρ S K => ta ρ S fun ds S1 => match ds with
  | [.d (.int i), .d (.int j)] => small62 i ∧ small62 j ∧ K ⟨rng i (j - i).toNat, fun _ _ => True⟩ S1
  | _ => False
theorem di_rng1 {tg a : Expr} {ta : dTA} {p pos : Pos} (hm : X.mg "range" = none) (hg : Gl X "range") (ha : DA X [a] ta) (hs : starEach [a] X.env = [(false, eval a X.env)] := by rfl) : DI X tg (.Call (.Name "range" p) [a] [] pos) (dRng1 ta) :=
  PI.imp (pi_range1 hg hm ha hs) fun σ H R q => by
    obtain ⟨F, m, o, ρ, S, k, rel, t, hk⟩ := q
    refine ⟨F, m, o, ρ, S, _, rel, t, fun ds S1 m1 H1 vs h r g q => ?_⟩
    split at h
    · cases q with
      | cons q1 q =>
        cases q
        exact ⟨_, by rw [dp_int q1], h.1.1, h.1.2, hk _ S1 m1 H1 _ h.2 r g (goes_rng 0 _)⟩
    · exact h.elim
theorem di_rng2 {tg a b : Expr} {ta : dTA} {p pos : Pos} (hm : X.mg "range" = none) (hg : Gl X "range") (ha : DA X [a, b] ta) (hs : starEach [a, b] X.env = [(false, eval a X.env), (false, eval b X.env)] := by rfl) (hs2 : starEach [b] X.env = [(false, eval b X.env)] := by rfl) : DI X tg (.Call (.Name "range" p) [a, b] [] pos) (dRng2 ta) :=
  PI.imp (pi_range2 hg hm ha hs hs2) fun σ H R q => by
    obtain ⟨F, m, o, ρ, S, k, rel, t, hk⟩ := q
    refine ⟨F, m, o, ρ, S, _, rel, t, fun ds S1 m1 H1 vs h r g q => ?_⟩
    split at h
    · cases q with
      | cons q1 q =>
        cases q with
        | cons q2 q =>
          cases q
          exact ⟨_, _, by rw [dp_int q1, dp_int q2], ⟨h.1.1, h.1.2, h.2.1.1, h.2.1.2⟩, hk _ S1 m1 H1 _ h.2.2 r g (goes_rng _ _)⟩
    · exact h.elim

/-! ### for -/
def dLoop (ok : Env3 → Sto → Prop) (g : dTG) (b : dTS) (E : dEnds) : List D → Env3 → Sto → Prop
  | [], ρ, S => ok ρ S ∧ E.nx ρ S
  | x :: xs, ρ, S => ok ρ S ∧ g x ρ S fun ρ1 S1 => b { E with nx := dLoop ok g b E xs, ct := dLoop ok g b E xs, bk := E.nx } ρ1 S1
/-- a for not yet unrolled -/
@[irreducible] def dLp (ok : Env3 → Sto → Prop) (g : dTG) (b : dTS) (E : dEnds) (xs : List D) (ρ : Env3) (S : Sto) : Prop := dLoop ok g b E xs ρ S
theorem dLp_of {ok : Env3 → Sto → Prop} {g : dTG} {b : dTS} {E : dEnds} {xs : List D} {ρ : Env3} {S : Sto} (h : dLoop ok g b E xs ρ S) : dLp ok g b E xs ρ S := by
  unfold dLp
  exact h
theorem dLp_to {ok : Env3 → Sto → Prop} {g : dTG} {b : dTS} {E : dEnds} {xs : List D} {ρ : Env3} {S : Sto} (h : dLp ok g b E xs ρ S) : dLoop ok g b E xs ρ S := by
  unfold dLp at h
  exact h
def dFor (it : dTI) (g : dTG) (b : dTS) : dTS := fun E ρ S => it ρ S fun src S1 => dLp src.ok g b E src.xs ρ S1
theorem ds_for {tg iter : Expr} {body : List Stmt} {it : dTI} {g : dTG} {tb : dTS} {vs : List Nat} {pos : Pos} (hp : PassesOwn (model X.prog X.w) X.A X.env X.xe) (hc : X.calm = true) (hg : DG X vs tg g) (hi : DI X tg iter it) (hb : DSs X body tb)
    (hs : ∀ x, foldedSetIterable iter X.env x = pure x := by intro _; rfl) : DS X (.For tg iter body [] pos) (dFor it g tb) :=
  PS.imp (ps_for hp hc hi hg.pg hb hs) fun E σ H q => by
    obtain ⟨F, m, o, ρ, S, E', rel, t, ok⟩ := q
    refine ⟨F, m, o, ρ, S, _, rel, t, fun src S1 m1 H1 J h r g1 go => ?_⟩
    refine ⟨fun i n σ2 H2 => n + i = src.xs.length ∧ ∃ m2 o2 ρ2 S2, Rel X.K F m2 o2 ρ2 S2 σ2 H2 ∧ Grow F m1 o H1 m2 o2 H2 ∧ dLoop src.ok g tb E' (src.xs.drop i) ρ2 S2, ⟨_, Nat.add_zero _, m1, o, ρ, S1, r, Grow.refl, dLp_to h⟩, fun i n σ2 H2 hW => ?_⟩
    obtain ⟨hn, m2, o2, ρ2, S2, r2, g2, h2⟩ := hW
    by_cases hi : i < src.xs.length
    · rw [List.drop_eq_getElem_cons hi] at h2
      obtain ⟨okk, h3⟩ := h2
      obtain ⟨j1, j2⟩ := go.go i F m2 o2 ρ2 S2 σ2 H2 r2 g2.z g2.m okk _ (List.getElem?_eq_getElem hi)
      refine .inr ⟨j1, fun σ' H' => ∃ m3 o3 ρ3 S3, Rel X.K F m3 o3 ρ3 S3 σ' H' ∧ Grow F m1 o H1 m3 o3 H' ∧ dLoop src.ok g tb E' (src.xs.drop (i + 1)) ρ3 S3, fun σ' H' hN => ⟨n - 1, by omega, by omega, hN⟩, fun x H3 hy => ?_⟩
      obtain ⟨s3, dp⟩ := j2 x H3 hy
      refine ⟨F, m2, o2, ρ2, S2, _, _, r2.sub s3, dp, h3, fun ρ4 S4 m4 o4 σ4 H4 h4 r4 g4 _ _ => ?_⟩
      have gg := (g2.trans (Grow.sub r2 s3)).trans g4
      have ok4 := (ok.grow g1).grow gg
      exact ⟨F, m4, o4, ρ4, S4, _, r4, h4, ⟨fun ρ' S' m' o' σ' H' hh r' g' => ⟨m', o', ρ', S', r', gg.trans g', hh⟩, ok4.nx, fun ρ' S' m' o' σ' H' hh r' g' => ⟨m', o', ρ', S', r', gg.trans g', hh⟩, ok4.rt⟩⟩
    · rw [List.drop_eq_nil_of_le (by omega)] at h2
      obtain ⟨okk, h3⟩ := h2
      exact .inl ⟨go.stop i F m2 o2 ρ2 S2 σ2 H2 r2 g2.z g2.m okk (by omega), (ok.grow g1).nx ρ2 S2 m2 o2 σ2 H2 h3 r2 g2⟩
end
end L3

set_option maxHeartbeats 4000000
namespace L3
open PySem PySem.Spec L2

/-! ### defs and their calls -/
abbrev dFn := List DV → Sto → DK → Prop
def o0 : Nat → Option Addr := fun _ => none
def noLocs : List DV → Bool
  | [] => true
  | .loc _ :: _ => false
  | _ :: r => noLocs r
/-- n values that may be kept -/
def nls : Nat → List DV → Prop → Prop
  | 0, [], k => k
  | n + 1, .d _ :: r, k => nls n r k
  | n + 1, .ref _ :: r, k => nls n r k
  | _, _, _ => False
theorem nls_of : ∀ {n : Nat} {ds : List DV} {k : Prop}, nls n ds k → ds.length = n ∧ noLocs ds = true ∧ k
  | 0, [], _, h => ⟨rfl, rfl, h⟩
  | 0, _ :: _, _, h => by simp [nls] at h
  | n + 1, [], _, h => by simp [nls] at h
  | n + 1, .d _ :: r, _, h => by
    obtain ⟨h1, h2, h3⟩ := nls_of (n := n) (ds := r) (by simpa [nls] using h)
    exact ⟨by rw [List.length_cons, h1], h2, h3⟩
  | n + 1, .ref _ :: r, _, h => by
    obtain ⟨h1, h2, h3⟩ := nls_of (n := n) (ds := r) (by simpa [nls] using h)
    exact ⟨by rw [List.length_cons, h1], h2, h3⟩
  | n + 1, .loc _ :: _, _, h => by simp [nls] at h
/-- the promise of a def, by data -/
def spD (K : PySem.W.Frag) (n : Nat) (tf : dFn) : Sp := fun vs H Q _ => vs.length = n ∧ ∃ F m S ds k, Stor K F m o0 S H ∧ DReps K F m o0 H vs ds ∧ noLocs ds = true ∧ tf ds S k ∧
  ∀ d S' m' H' v, k d S' → isLoc d = false → Stor K F m' o0 S' H' → Grow F m o0 H m' o0 H' → DRep K F m' o0 H' v d → Q v H'
/-- a body as a def -/
def fnT (n : Nat) (t : dTS) : dFn := fun ds S Q => t { nx := fun _ S' => Q (.d .none) S', rt := fun d S' => nl d (Q d S') } (ds.map .val ++ List.replicate (n - ds.length) .no) S
theorem DReps.length {K : PySem.W.Frag} {F : Addr → Prop} {m o : Nat → Option Addr} {H : Hp} {vs : List V} {ds : List DV} (h : DReps K F m o H vs ds) : vs.length = ds.length := Paired.length h
theorem DReps.get {K : PySem.W.Frag} {F : Addr → Prop} {m o : Nat → Option Addr} {H : Hp} : ∀ {vs : List V} {ds : List DV} {i : Nat} {d : DV}, DReps K F m o H vs ds → ds[i]? = some d → ∃ v, vs[i]? = some v ∧ DRep K F m o H v d
  | _, _, _, _, .nil, e => by simp at e
  | _, _, 0, _, .cons h _, e => by simp at e; subst e; exact ⟨_, rfl, h⟩
  | _, _, i + 1, d, .cons _ r, e => by
    obtain ⟨v, h1, h2⟩ := DReps.get (i := i) (d := d) r (by simpa using e)
    exact ⟨v, by simpa using h1, h2⟩
theorem noLocs_get : ∀ {ds : List DV} {i : Nat} {d : DV}, noLocs ds = true → ds[i]? = some d → isLoc d = false
  | [], _, _, _, e => by simp at e
  | .d x :: r, 0, _, h, e => by simp at e; subst e; rfl
  | .ref x :: r, 0, _, h, e => by simp at e; subst e; rfl
  | .loc x :: r, _, _, h, e => by cases h
  | .d x :: r, i + 1, d, h, e => noLocs_get (ds := r) h (by simpa using e)
  | .ref x :: r, i + 1, d, h, e => noLocs_get (ds := r) h (by simpa using e)
/-- the state at a def's entry -/
theorem rel_start {K : PySem.W.Frag} {F : Addr → Prop} {m : Nat → Option Addr} {S : Sto} {H : Hp} {N : List Str} {vs : List V} {ds : List DV} (st : Stor K F m o0 S H) (r : DReps K F m o0 H vs ds) (n : noLocs ds = true) (hl : vs.length ≤ N.length) :
    Rel K F m o0 (ds.map .val ++ List.replicate (N.length - ds.length) .no) S (L2.start N vs) H := by
  have e := r.length
  refine ⟨st, ?_, fun i s h => ?_, fun i h => rfl⟩
  · unfold L2.start
    rw [List.length_append, List.length_append, List.length_map, List.length_map, List.length_replicate, List.length_replicate, e]
  · by_cases hi : i < ds.length
    · rw [List.getElem?_append_left (by rw [List.length_map]; exact hi), List.getElem?_map] at h
      rw [List.getElem?_eq_getElem hi] at h
      cases h
      have hd := List.getElem?_eq_getElem hi
      obtain ⟨v, h1, h2⟩ := r.get hd
      have h3 : (L2.start N vs)[i]? = some (some v) := by
        unfold L2.start
        rw [List.getElem?_append_left (by rw [List.length_map]; omega), List.getElem?_map, h1]
        rfl
      have nd := noLocs_get n hd
      cases q : ds[i] with
      | d x => rw [q] at h2; exact ⟨rfl, v, h3, h2⟩
      | ref k => rw [q] at h2; obtain ⟨a, h4, rfl⟩ := h2; exact ⟨rfl, a, h3, h4⟩
      | loc j => rw [q] at nd; cases nd
    · rw [List.getElem?_append_right (by rw [List.length_map]; omega)] at h
      have := List.getElem?_eq_some_iff.mp h
      obtain ⟨h1, h2⟩ := this
      rw [List.getElem_replicate] at h2
      subst h2
      rfl
/-- one's own things are let go -/
theorem mu_o0 {F : Addr → Prop} {m o : Nat → Option Addr} {a : Addr} (h : Mu F m o0 a) : Mu F m o a := by
  rcases h with h | h | ⟨i, h⟩
  · exact .inl h
  · exact .inr (.inl h)
  · cases h
theorem fz_o0 {F : Addr → Prop} {m o : Nat → Option Addr} {H : Hp} : Sub (Fz H (Mu F m o)) (Fz H (Mu F m o0)) := fun a u h => Fz.of (fun z => (Fz.at h).1 (mu_o0 z)) (Fz.at h).2
theorem Stor.o0 {K : PySem.W.Frag} {F : Addr → Prop} {m o : Nat → Option Addr} {S : Sto} {H : Hp} (r : Stor K F m o S H) : Stor K F m L3.o0 S H :=
  ⟨r.there, fun n a e => let ⟨c, h1, h2⟩ := r.is n a e; ⟨c, h1, h2.sub rfl fz_o0⟩, r.inj, fun n i a h z => (by cases z), r.injF, fun i j a z => (by cases z), fun i a z => (by cases z), fun a h => r.liv a (mu_o0 h)⟩
theorem fn_d {P : Program} {w : World} {K : PySem.W.Frag} {mg : Str → Option Value} {base : Heap} {x qual : Str} {st : Stmt} {f : Addr} {fd : FuncData} {N ps : List Str} {k : Nat} {t : dTS} (F : Fun K x qual st f fd) (Sc : FnScope N ps (defScope st)) (hl : ps.length ≤ N.length)
    (hb : ∀ (cdv : Value) (A : Around) (outer : List Env) (s : Shared) (H : Hp) (E : XK), Room k (A.deeper (PyProof.Rows.envOfC qual (defScope st) s.heap.objs.size f cdv)) →
      DSs (cxOf CX0 P w K mg base N qual (defScope st) f cdv A outer s H E).nox (defBody st) t) : FnOk P w K mg base CX0 (k + 1) f fd ps (spD K ps.length (fnT N.length t)) := by
  refine F.ok Sc (fun vs H Q E h => h.1) fun cdv A outer s H vs Q E hr h => ?_
  obtain ⟨hv, Fo, m, S, ds, kk, stor, reps, nlo, ht, hk⟩ := h
  refine ⟨_, hb cdv A outer s H E hr, ?_⟩
  refine ⟨Fo, m, o0, _, S, _, rel_start stor reps nlo (by omega), ht, ⟨fun ρ S' m' o' σ' H' h r g => ?_, fun _ _ _ _ _ _ h => h.elim, fun _ _ _ _ _ _ h => h.elim, fun d ρ S' m' o' σ' H' v h r g q => ?_⟩⟩
  · exact hk _ S' m' H' .non h rfl r.st.o0 ⟨g.f, g.z.trans fz_o0, g.m⟩ .non
  · obtain ⟨n, h⟩ := nl_of h
    refine hk d S' m' H' v h n r.st.o0 ⟨g.f, g.z.trans fz_o0, g.m⟩ ?_
    cases d with
    | d x => exact Rp.sub fz_o0 q
    | ref j => exact q
    | loc j => cases n
/-- a def that is never called -/
theorem fn_no {P : Program} {w : World} {K : PySem.W.Frag} {mg : Str → Option Value} {base : Heap} {f : Addr} {fd : FuncData} {ps : List Str} {k : Nat} : FnOk P w K mg base CX0 k f fd ps (spD K ps.length fun _ _ _ => False) :=
  ⟨fun _ _ _ _ h => h.1, fun A outer s H args us vs Q E hr e0 hb r h => by
    obtain ⟨_, _, _, _, _, _, _, _, _, h, _⟩ := h
    exact h.elim⟩
def dCall (n : Nat) (tf : dFn) (ta : dTA) : dTE := fun ρ S Q => ta ρ S fun ds S1 => nls n ds (tf ds S1 Q)
section
variable {X : Cx}
theorem lift_call {K : PySem.W.Frag} {n : Nat} {tf : dFn} {ta : dTA} {dvs : List V} (hd0 : dvs = []) {E : XK} {σ : L2.St} {H : Hp} {Q : VK} (q : lift K (dCall n tf ta) σ H Q) : tCall (spD K n tf) dvs E (liftA K ta) σ H Q := by
  subst hd0
  obtain ⟨F, m, o, ρ, S, k, rel, t, hk⟩ := q
  refine ⟨F, m, o, ρ, S, _, rel, t, fun ds S1 m1 H1 vs h r g q => ?_⟩
  obtain ⟨hl, nlo, h⟩ := nls_of h
  rw [List.append_nil]
  have eqM : ∀ (m' : Nat → Option Addr) a, Mu (fun a => F a ∨ ∃ i, o i = some a) m' o0 a ↔ Mu F m' o a := fun m' a => by
    constructor
    · rintro ((h | h) | h | ⟨i, h⟩)
      · exact .inl h
      · exact .inr (.inr h)
      · exact .inr (.inl h)
      · cases h
    · rintro (h | h | h)
      · exact .inl (.inl h)
      · exact .inr (.inl h)
      · exact .inl (.inr h)
  have eqS : ∀ (m' : Nat → Option Addr) (H' : Hp), Sub (Fz H' (Mu F m' o)) (Fz H' (Mu (fun a => F a ∨ ∃ i, o i = some a) m' o0)) := fun m' H' a u e => Fz.of (fun z => (Fz.at e).1 ((eqM m' a).mp z)) (Fz.at e).2
  have eqS' : ∀ (m' : Nat → Option Addr) (H' : Hp), Sub (Fz H' (Mu (fun a => F a ∨ ∃ i, o i = some a) m' o0)) (Fz H' (Mu F m' o)) := fun m' H' a u e => Fz.of (fun z => (Fz.at e).1 ((eqM m' a).mpr z)) (Fz.at e).2
  refine ⟨by rw [q.length]; exact hl, fun a => F a ∨ ∃ i, o i = some a, m1, S1, ds, k, ?_, ?_, nlo, h, fun d S2 m2 H2 v hkk nd st2 g2 q2 => ?_⟩
  · exact ⟨r.st.there, fun n a e => let ⟨c, h1, h2⟩ := r.st.is n a e; ⟨c, h1, h2.sub rfl (eqS _ _)⟩, r.st.inj, fun n i a h z => (by cases z), fun n a h z => z.elim (r.st.injF n a h) fun ⟨i, z⟩ => r.st.injO n i a h z, fun i j a z => (by cases z), fun i a z => (by cases z), fun a h => r.st.liv a ((eqM _ a).mp h)⟩
  · have go : ∀ {vs : List V} {ds : List DV}, DReps K F m1 o H1 vs ds → noLocs ds = true → DReps K (fun a => F a ∨ ∃ i, o i = some a) m1 o0 H1 vs ds := by
      intro vs ds q
      induction ds generalizing vs with
      | nil => intro _; cases q; exact .nil
      | cons d ds ih =>
        intro z
        cases q with
        | cons q1 q =>
          cases d with
          | d x => exact .cons (Rp.sub (eqS _ _) q1) (ih q z)
          | ref n => exact .cons q1 (ih q z)
          | loc i => cases z
    exact go q nlo
  · have oldO : ∀ i a, o i = some a → H2 a = H1 a := fun i a e => g2.f a (.inr ⟨i, e⟩)
    have gz : Sub (Fz H1 (Mu F m1 o)) (Fz H2 (Mu F m2 o)) := (eqS _ _).trans (g2.z.trans (eqS' _ _))
    have st3 : Stor K F m2 o S2 H2 := ⟨st2.there, fun n a e => let ⟨c, h1, h2⟩ := st2.is n a e; ⟨c, h1, h2.sub rfl (eqS' _ _)⟩, st2.inj, fun n i a h z => st2.injF n a h (.inr ⟨i, z⟩), fun n a h z => st2.injF n a h (.inl z), r.st.oo, r.st.oF, fun a h => st2.liv a ((eqM _ a).mpr h)⟩
    refine hk d S2 m2 H2 v hkk ⟨st3, r.len, fun i s e => ?_, r.far⟩ (g.trans ⟨fun a z => g2.f a (.inl z), gz, g2.m⟩) ?_
    · have hs := r.sl i s e
      cases s with
      | no => exact hs
      | val w =>
        cases w with
        | d x => obtain ⟨h0, v, h1, h2⟩ := hs; exact ⟨h0, v, h1, Rp.sub gz h2⟩
        | ref j => obtain ⟨h0, a, h1, h2⟩ := hs; exact ⟨h0, a, h1, g2.m j a h2⟩
        | loc j => exact hs
      | own c => obtain ⟨a, h0, h1, h2⟩ := hs; exact ⟨a, h0, h1, h2.sub (oldO i a h0) gz⟩
    · cases d with
      | d x => exact Rp.sub (eqS' _ _) q2
      | ref j => exact q2
      | loc j => cases nd
theorem de_call {n : Nat} {tf : dFn} {tas : dTA} {k : Nat} {f : Addr} {fd : FuncData} {ps : List Str} {x : Str} {p pos : Pos} {e : Expr} {es : List Expr} (F : FnOk X.prog X.w X.K X.mg X.base CX0 k f fd ps (spD X.K n tf)) (hr : Room k X.A) (hm : X.mg x = some (.ref f)) (hk : PySem.W.keepIn X.K (.ref f) = true) (hb : Binds X.K fd ps []) (hg : Gl X x) (ha : DA X (e :: es) tas)
    (hdb : (x == ("__debug__" : Str)) = false := by decide) (he : starEach (e :: es) X.env = (false, eval e X.env) :: starEach es X.env := by rfl) (hpl : (backTo pos (starEach es X.env)).any (·.1) = false := by rfl) :
    DE X (.Call (.Name x p) (e :: es) [] pos) (dCall n tf tas) := PE.imp (pe_call F hr hg hm hk hb .nil (pass0 (X := X)) ha hdb he hpl) fun _ _ _ => lift_call rfl
theorem de_call0 {tf : dFn} {k : Nat} {f : Addr} {fd : FuncData} {ps : List Str} {x : Str} {p pos : Pos} (F : FnOk X.prog X.w X.K X.mg X.base CX0 k f fd ps (spD X.K 0 tf)) (hr : Room k X.A) (hm : X.mg x = some (.ref f)) (hk : PySem.W.keepIn X.K (.ref f) = true) (hb : Binds X.K fd ps []) (hg : Gl X x)
    (hdb : (x == ("__debug__" : Str)) = false := by decide) : DE X (.Call (.Name x p) [] [] pos) (dCall 0 tf dNil) :=
  PE.imp (pe_call0 F hr hg hm hk hb .nil (pass0 (X := X)) hdb) fun σ H Q q => by
    have h := lift_call (dvs := []) (E := E0) rfl q
    obtain ⟨F, m, o, ρ, S, k, rel, t, hk⟩ := h
    exact hk [] S m H [] t rel Grow.refl .nil
end
end L3

set_option maxHeartbeats 4000000
namespace L3
open PySem PySem.Spec L2

/-! ### list comprehensions -/
abbrev DTs (X : Cx) (ifs : List Expr) (t : dTT) : Prop := PTs X ifs (liftT X.K t)
def dYes : dTT := fun _ S Q => Q true S
def cLoop (ok : Env3 → Sto → Prop) (g : dTG) (tt : dTT) (te : dTE) (ρ : Env3) (Q : List D → Sto → Prop) : List D → List D → Sto → Prop
  | [], acc, S => ok ρ S ∧ Q acc S
  | x :: xs, acc, S => ok ρ S ∧ g x ρ S fun ρ1 S1 => tt ρ1 S1 fun b S2 => Br b (te ρ1 S2 fun d S3 => withDs [d] fun ys => acc.length < sizeLine ∧ cLoop ok g tt te ρ Q xs (acc ++ ys) S3) (cLoop ok g tt te ρ Q xs acc S2)
/-- none of these slots owns a thing -/
def noOwn (ρ : Env3) : List Nat → Bool
  | [] => true
  | v :: vs => match ρ[v]? with
    | some (.own _) => false
    | _ => noOwn ρ vs
def dComp (it : dTI) (g : dTG) (tt : dTT) (te : dTE) (vs : List Nat) : dTF := fun ρ S Q => noOwn ρ vs = true ∧ it ρ S fun src S1 => cLoop src.ok g tt te (wipeD ρ vs) Q src.xs [] S1
section
variable {X : Cx} {K : PySem.W.Frag} {F : Addr → Prop} {m o : Nat → Option Addr} {ρ : Env3} {S : Sto} {σ : L2.St} {H : Hp}
theorem PTs.imp {ifs : List Expr} {t t' : TT} (h : PTs X ifs t) (i : ∀ σ H Q, t' σ H Q → t σ H Q) : PTs X ifs t' := ⟨fun pins s σ H Q I q => h.run pins s σ H Q I (i σ H Q q)⟩
theorem dts_nil : DTs X [] dYes := PTs.imp pts_nil fun σ H Q q => by
  obtain ⟨F, m, o, ρ, S, k, rel, t, hk⟩ := q
  exact hk true S m H t rel Grow.refl
theorem dts_one {c : Expr} {t : dTT} (h : DT X c t) : DTs X [c] t := pts_one h
/-- a slot is forgotten -/
theorem Rel.clear (r : Rel K F m o ρ S σ H) (i : Nat) (h : ∀ c, ρ[i]? ≠ some (.own c)) (x : Option V) : Rel K F m o (ρ.set i .no) S (σ.set i x) H := by
  refine ⟨r.st, by rw [List.length_set, List.length_set, r.len], fun j s e => ?_, fun j z => r.far j (by rwa [List.length_set] at z)⟩
  by_cases hj : i = j
  · subst hj
    have hlt : i < ρ.length := by
      have := (List.getElem?_eq_some_iff.mp e).1
      rwa [List.length_set] at this
    rw [List.getElem?_set_self hlt] at e
    cases e
    have hs := r.sl i _ (List.getElem?_eq_getElem hlt)
    cases q : ρ[i] with
    | no => rw [q] at hs; exact hs
    | val w =>
      rw [q] at hs
      cases w with
      | d x => exact hs.1
      | ref n => exact hs.1
      | loc j => exact hs.elim
    | own c => exact absurd (by rw [List.getElem?_eq_getElem hlt, q]) (h c)
  · rw [List.getElem?_set_ne hj] at e
    rw [List.getElem?_set_ne hj]
    exact r.sl j s e
theorem wipeD_get {ρ : Env3} {i : Nat} : ∀ {vs : List Nat} {s : Slot}, (wipeD ρ vs)[i]? = some s → s = .no ∨ (i ∉ vs ∧ ρ[i]? = some s)
  | [], s, h => .inr ⟨by simp, h⟩
  | v :: vs, s, h => by
    unfold wipeD at h
    by_cases hj : v = i
    · subst hj
      have hlt : v < (wipeD ρ vs).length := by
        have := (List.getElem?_eq_some_iff.mp h).1
        rwa [List.length_set] at this
      rw [List.getElem?_set_self hlt] at h
      cases h
      exact .inl rfl
    · rw [List.getElem?_set_ne hj] at h
      rcases wipeD_get h with h | ⟨h1, h2⟩
      · exact .inl h
      · exact .inr ⟨fun z => (List.mem_cons.mp z).elim (fun e => hj e.symm) h1, h2⟩
theorem wipe_get {σ : L2.St} {i : Nat} : ∀ {vs : List Nat}, i ∉ vs → (wipe σ vs)[i]? = σ[i]?
  | [], _ => rfl
  | v :: vs, h => by
    unfold wipe
    rw [List.getElem?_set_ne (fun e => h (by rw [e]; exact List.mem_cons_self)), wipe_get fun z => h (List.mem_cons_of_mem _ z)]
theorem noOwn_mem : ∀ {vs : List Nat}, noOwn ρ vs = true → ∀ v ∈ vs, ∀ c, ρ[v]? ≠ some (.own c)
  | w :: vs, h, v, hv, c, e => by
    unfold noOwn at h
    split at h
    · cases h
    · rename_i z
      rcases List.mem_cons.mp hv with hv | hv
      · subst hv; exact z c e
      · exact noOwn_mem h v hv c e
theorem Rel.wipe (r : Rel K F m o ρ S σ H) : ∀ (vs : List Nat), noOwn ρ vs = true → Rel K F m o (wipeD ρ vs) S (L2.wipe σ vs) H
  | [], _ => r
  | v :: vs, h => by
    have h' : noOwn ρ vs = true := by
      unfold noOwn at h
      split at h
      · cases h
      · exact h
    have := r.wipe vs h'
    refine Rel.clear this v (fun c e => ?_) none
    rcases wipeD_get e with e | ⟨_, e⟩
    · cases e
    · exact noOwn_mem h v List.mem_cons_self c e
/-- behind a comprehension: the frame's names as they were -/
theorem Rel.back {m' : Nat → Option Addr} {S' : Sto} {H' : Hp} {vs : List Nat} (r : Rel K F m o ρ S σ H) (h : noOwn ρ vs = true) (r' : Rel K F m' o (wipeD ρ vs) S' (L2.wipe σ vs) H') (g : Grow F m o H m' o H') : Rel K F m' o ρ S' σ H' := by
  refine ⟨r'.st, r.len, fun i s e => ?_, r.far⟩
  by_cases hi : i ∈ vs
  · have hs := r.sl i s e
    cases s with
    | no => exact hs
    | val w =>
      cases w with
      | d x => obtain ⟨h0, v, h1, h2⟩ := hs; exact ⟨h0, v, h1, Rp.sub g.z h2⟩
      | ref n => obtain ⟨h0, a, h1, h2⟩ := hs; exact ⟨h0, a, h1, g.m n a h2⟩
      | loc j => exact hs
    | own c => exact absurd e (noOwn_mem h i hi c)
  · have hw : (wipeD ρ vs)[i]? = some s := by
      have go : ∀ {ws : List Nat}, i ∉ ws → (wipeD ρ ws)[i]? = ρ[i]? := by
        intro ws hw
        induction ws with
        | nil => rfl
        | cons w ws ih =>
          unfold wipeD
          rw [List.getElem?_set_ne (fun z => hw (by rw [z]; exact List.mem_cons_self)), ih fun z => hw (List.mem_cons_of_mem _ z)]
      rw [go hi]
      exact e
    have hs := r'.sl i s hw
    rw [wipe_get hi] at hs
    exact hs
/-- the state without what stands at p, which is nobody's -/
noncomputable def without (H : Hp) (p : Addr) : Hp := fun a => if a = p then none else H a
theorem without_upd {H : Hp} {p : Addr} {u : HO} (h : H p = some u) : upd (without H p) p u = H := by
  funext a
  unfold upd without
  split
  · rename_i e; rw [e, h]
  · rfl
/-- a list that is being made at p, by a guard: p belongs to nobody -/
theorem Rel.guard (r : Rel K F m o ρ S σ H) {p : Addr} {u : HO} (h : H p = none) (hu : ∀ xs, u ≠ .tup xs := by exact fun _ e => nomatch e) : Rel K (fun a => F a ∨ a = p) m o ρ S σ (upd H p u) ∧ Sub (Fz H (Mu F m o)) (Fz (upd H p u) (Mu (fun a => F a ∨ a = p) m o)) := by
  have np : ¬ Mu F m o p := fun z => r.st.alive p z h
  have gz : Sub (Fz H (Mu F m o)) (Fz (upd H p u) (Mu (fun a => F a ∨ a = p) m o)) := fun a w e => by
    obtain ⟨e1, e2⟩ := Fz.at e
    have hne : a ≠ p := ne_of_none e2 h
    refine Fz.of (fun z => ?_) (by rw [upd_ne hne]; exact e2)
    rcases z with (z | z) | z
    · exact e1 (.inl z)
    · exact hne z
    · exact e1 (.inr z)
  have keep : ∀ a, Mu F m o a → (upd H p u) a = H a := fun a z => upd_ne fun e => np (by rw [← e]; exact z)
  refine ⟨⟨⟨r.st.there, fun n a e => ?_, r.st.inj, r.st.injO, fun n a e z => ?_, r.st.oo, fun i a e z => ?_, fun a z => ?_⟩, r.len, fun i s e => ?_, r.far⟩, gz⟩
  · obtain ⟨c, h1, h2⟩ := r.st.is n a e
    exact ⟨c, h1, h2.sub (keep a (.inr (.inl ⟨n, e⟩))) gz⟩
  · rcases z with z | z
    · exact r.st.injF n a e z
    · subst z; exact np (.inr (.inl ⟨n, e⟩))
  · rcases z with z | z
    · exact r.st.oF i a e z
    · subst z; exact np (.inr (.inr ⟨i, e⟩))
  · rcases z with (z | z) | z
    · rw [keep a (.inl z)]; exact r.st.liv a (.inl z)
    · subst z; rw [upd_same]; exact ⟨u, rfl, hu⟩
    · rw [keep a (.inr z)]; exact r.st.liv a (.inr z)
  · exact (r.sl i s e).sub (fun a z => keep a (.inr (.inr ⟨i, z⟩))) gz
/-- at the end the guard falls -/
theorem Rel.unguard {p : Addr} (r : Rel K (fun a => F a ∨ a = p) m o ρ S σ H) (np : ¬ Mu F m o p) : Rel K F m o ρ S σ (without H p) ∧ Sub (Fz H (Mu (fun a => F a ∨ a = p) m o)) (Fz (without H p) (Mu F m o)) := by
  have gz : Sub (Fz H (Mu (fun a => F a ∨ a = p) m o)) (Fz (without H p) (Mu F m o)) := fun a w e => by
    obtain ⟨e1, e2⟩ := Fz.at e
    refine Fz.of (fun z => e1 ?_) ?_
    · rcases z with z | z
      · exact .inl (.inl z)
      · exact .inr z
    · unfold without
      rw [if_neg fun e => e1 (.inl (.inr e))]
      exact e2
  have keep : ∀ a, Mu F m o a → (without H p) a = H a := fun a z => by
    unfold without
    rw [if_neg fun e => np (by rw [← e]; exact z)]
  have up : ∀ a, Mu F m o a → Mu (fun a => F a ∨ a = p) m o a := fun a z => z.elim (fun z => .inl (.inl z)) .inr
  refine ⟨⟨⟨r.st.there, fun n a e => ?_, r.st.inj, r.st.injO, fun n a e z => r.st.injF n a e (.inl z), r.st.oo, fun i a e z => r.st.oF i a e (.inl z), fun a z => ?_⟩, r.len, fun i s e => ?_, r.far⟩, gz⟩
  · obtain ⟨c, h1, h2⟩ := r.st.is n a e
    exact ⟨c, h1, h2.sub (keep a (.inr (.inl ⟨n, e⟩))) gz⟩
  · rw [keep a z]; exact r.st.liv a (up a z)
  · exact (r.sl i s e).sub (fun a z => keep a (.inr (.inr ⟨i, z⟩))) gz
theorem Rel.write (r : Rel K F m o ρ S σ H) {p : Addr} {u : HO} (hp : F p) (hu : ∀ xs, u ≠ .tup xs := by exact fun _ e => nomatch e) : Rel K F m o ρ S σ (upd H p u) ∧ Sub (Fz H (Mu F m o)) (Fz (upd H p u) (Mu F m o)) := by
  have gz : Sub (Fz H (Mu F m o)) (Fz (upd H p u) (Mu F m o)) := fun a w e => by
    obtain ⟨e1, e2⟩ := Fz.at e
    exact Fz.of e1 (by rw [upd_ne fun z => e1 (by rw [z]; exact .inl hp)]; exact e2)
  refine ⟨⟨⟨r.st.there, fun n a e => ?_, r.st.inj, r.st.injO, r.st.injF, r.st.oo, r.st.oF, fun a z => ?_⟩, r.len, fun i s e => ?_, r.far⟩, gz⟩
  · obtain ⟨c, h1, h2⟩ := r.st.is n a e
    exact ⟨c, h1, h2.sub (upd_ne fun z => r.st.injF n a e (by rw [z]; exact hp)) gz⟩
  · by_cases h : a = p
    · subst h; rw [upd_same]; exact ⟨u, rfl, hu⟩
    · rw [upd_ne h]; exact r.st.liv a z
  · exact (r.sl i s e).sub (fun a z => upd_ne fun w => r.st.oF i a z (by rw [w]; exact hp)) gz
theorem wipe_idem (σ : L2.St) (vs : List Nat) : L2.wipe (L2.wipe σ vs) vs = L2.wipe σ vs := by
  have go : ∀ ws : List Nat, (∀ w ∈ ws, w ∈ vs) → L2.wipe (L2.wipe σ ws) vs = L2.wipe σ vs := by
    intro ws
    induction ws with
    | nil => intro _; rfl
    | cons w ws ih =>
      intro h
      show L2.wipe ((L2.wipe σ ws).set w none) vs = _
      rw [wipe_set _ _ _ (h w List.mem_cons_self)]
      exact ih fun z hz => h z (List.mem_cons_of_mem _ hz)
  exact go vs fun _ h => h
theorem wipeD_idem (σ : Env3) (vs : List Nat) : wipeD (wipeD σ vs) vs = wipeD σ vs := by
  have go : ∀ ws : List Nat, (∀ w ∈ ws, w ∈ vs) → wipeD (wipeD σ ws) vs = wipeD σ vs := by
    intro ws
    induction ws with
    | nil => intro _; rfl
    | cons w ws ih =>
      intro h
      show wipeD ((wipeD σ ws).set w .no) vs = _
      rw [wipeD_set _ _ _ (h w List.mem_cons_self)]
      exact ih fun z hz => h z (List.mem_cons_of_mem _ hz)
  exact go vs fun _ h => h
theorem wipeD_out {ρ : Env3} {i : Nat} {ws : List Nat} (hw : i ∉ ws) : (wipeD ρ ws)[i]? = ρ[i]? := by
  induction ws with
  | nil => rfl
  | cons w ws ih =>
    unfold wipeD
    rw [List.getElem?_set_ne (fun z => hw (by rw [z]; exact List.mem_cons_self)), ih fun z => hw (List.mem_cons_of_mem _ z)]
theorem wiped_o {vs : List Nat} (r : Rel K F m o (wipeD ρ vs) S σ H) : ∀ v ∈ vs, o v = none := fun v hv => by
  by_cases h : v < (wipeD ρ vs).length
  · have hs := r.sl v _ (List.getElem?_eq_getElem h)
    rcases wipeD_get (List.getElem?_eq_getElem h) with e | ⟨e, _⟩
    · rw [e] at hs; exact hs
    · exact absurd hv e
  · exact r.far v (by omega)
/-- the turn's targets have changed no owner -/
theorem same_o {F4 : Addr → Prop} {m4 o4 : Nat → Option Addr} {ρ4 : Env3} {S4 : Sto} {σ4 : L2.St} {H4 : Hp} {vs : List Nat} (r : Rel K F m o (wipeD ρ vs) S σ H) (r4 : Rel K F4 m4 o4 ρ4 S4 σ4 H4) (w : wipeD ρ4 vs = wipeD ρ vs) (oo : ∀ i a, o4 i = some a → o i = some a) : o4 = o ∧ noOwn ρ4 vs = true := by
  have wo := wiped_o r
  constructor
  · funext j
    cases e : o j with
    | none =>
      cases e4 : o4 j with
      | none => rfl
      | some a => rw [oo j a e4] at e; cases e
    | some a =>
      have hj : j ∉ vs := fun z => by rw [wo j z] at e; cases e
      have hlt : j < (wipeD ρ vs).length := by
        by_cases z : j < (wipeD ρ vs).length
        · exact z
        · rw [r.far j (by omega)] at e; cases e
      have hs := r.sl j _ (List.getElem?_eq_getElem hlt)
      have h4 : ρ4[j]? = some (wipeD ρ vs)[j] := by rw [← wipeD_out (ρ := ρ4) hj, w, List.getElem?_eq_getElem hlt]
      have hs4 := r4.sl j _ h4
      rw [e] at hs
      cases q : (wipeD ρ vs)[j] with
      | no => rw [q] at hs; cases hs
      | val d =>
        rw [q] at hs
        cases d with
        | d x => cases hs.1
        | ref n => cases hs.1
        | loc n => exact hs.elim
      | own c =>
        rw [q] at hs4
        obtain ⟨b, h0, _⟩ := hs4
        have := (oo j b h0).symm.trans e
        cases this
        exact h0
  · have go : ∀ ws : List Nat, (∀ v ∈ ws, v ∈ vs) → noOwn ρ4 ws = true := by
      intro ws
      induction ws with
      | nil => intro _; rfl
      | cons v ws ih =>
        intro h
        unfold noOwn
        split
        · rename_i c e
          obtain ⟨b, h0, _⟩ := r4.sl v _ e
          have := oo v b h0
          rw [wo v (h v List.mem_cons_self)] at this
          cases this
        · exact ih fun z hz => h z (List.mem_cons_of_mem _ hz)
    exact go vs fun _ h => h
theorem lift_comp {it : dTI} {tg : Expr} {g : dTG} {tt : dTT} {te : dTE} {vs : List Nat} {X' : Cx} (hg : DG X' vs tg g) {Q : VK} (q : liftF K (dComp it g tt te vs) σ H Q) : tLc (liftI K it) (liftG K vs g) (liftT K tt) (lift K te) vs σ H Q := by
  obtain ⟨F, m, o, ρ, S, k, rel, ⟨no, t⟩, hk⟩ := q
  refine ⟨F, m, o, ρ, S, _, rel, t, fun src S1 m1 H1 J h r1 g1 go => ?_⟩
  intro p hp
  have np : ¬ Mu F m1 o p := fun z => r1.st.alive p z hp
  have rw1 := r1.wipe vs no
  -- the state in the turns
  refine ⟨fun i n H2 => n + i = src.xs.length ∧ ∃ m2 S2 acc us, Rel K (fun a => F a ∨ a = p) m2 o (wipeD ρ vs) S2 (L2.wipe σ vs) H2 ∧ Grow (fun a => F a ∨ a = p) m1 o (upd H1 p (.lst us)) m2 o H2 ∧ RpAll K (Fz H2 (Mu (fun a => F a ∨ a = p) m2 o)) us acc ∧
    cLoop src.ok g tt te (wipeD ρ vs) k (src.xs.drop i) acc S2, ⟨src.xs.length, Nat.add_zero _, m1, S1, [], [], (rw1.guard hp).1, Grow.refl, .nil, h⟩, fun i n H2 hW => ?_⟩
  obtain ⟨hn, m2, S2, acc, us, r2, g2, dp2, h2⟩ := hW
  have gz2 : Sub (Fz H1 (Mu F m1 o)) (Fz H2 (Mu (fun a => F a ∨ a = p) m2 o)) := ((r1.guard (u := .lst us) hp).2).trans g2.z
  have e2 : H2 p = some (.lst us) := (g2.f p (.inr rfl)).trans upd_same
  by_cases hi : i < src.xs.length
  · rw [List.drop_eq_getElem_cons hi] at h2
    obtain ⟨okk, h3⟩ := h2
    obtain ⟨j1, j2⟩ := go.go i _ m2 o _ S2 _ H2 r2 gz2 g2.m okk _ (List.getElem?_eq_getElem hi)
    refine .inr ⟨j1, fun H' => ∃ m3 S3 acc us, Rel K (fun a => F a ∨ a = p) m3 o (wipeD ρ vs) S3 (L2.wipe σ vs) H' ∧ Grow (fun a => F a ∨ a = p) m1 o (upd H1 p (.lst us)) m3 o H' ∧ RpAll K (Fz H' (Mu (fun a => F a ∨ a = p) m3 o)) us acc ∧
      cLoop src.ok g tt te (wipeD ρ vs) k (src.xs.drop (i + 1)) acc S3, fun H' hN => ⟨n - 1, by omega, by omega, hN⟩, fun v H3 hy => ?_⟩
    obtain ⟨s3, dp⟩ := j2 v H3 hy
    refine ⟨_, m2, o, wipeD ρ vs, S2, _, _, r2.sub s3, dp, hg.w _ _ _ _ h3, fun ρ4 S4 m4 o4 σ4 H4 hh r4 g4 w4 oo4 => ?_⟩
    obtain ⟨h4, wd4⟩ := hh
    rw [wipeD_idem] at wd4
    rw [wipe_idem] at w4
    obtain ⟨eo, no4⟩ := same_o r2 r4 wd4 oo4
    subst eo
    have gg4 : Grow (fun a => F a ∨ a = p) m1 o4 (upd H1 p (.lst us)) m4 o4 H4 := (g2.trans (Grow.sub r2 s3)).trans g4
    refine ⟨w4, _, m4, o4, ρ4, S4, _, r4, h4, fun b S5 m5 H5 h5 r5 g5 => ?_⟩
    have back : ∀ {m6 : Nat → Option Addr} {S6 : Sto} {H6 : Hp}, Rel K (fun a => F a ∨ a = p) m6 o4 ρ4 S6 σ4 H6 → Rel K (fun a => F a ∨ a = p) m6 o4 (wipeD ρ vs) S6 (L2.wipe σ vs) H6 := fun r6 => by
      have := r6.wipe vs no4
      rw [wd4, w4] at this
      exact this
    cases b with
    | false =>
      have h5 := h5.eF
      exact iteF ⟨m5, S5, acc, us, back r5, gg4.trans g5, RpAll.sub (((Grow.sub r2 s3).trans g4).trans g5).z dp2, h5⟩
    | true =>
      have h5 := h5.eT
      refine iteT ⟨_, m5, o4, ρ4, S5, _, r5, h5, fun d S6 m6 H6 v6 h6 r6 g6 q6 => ?_⟩
      obtain ⟨ys, ey, hl, h7⟩ := withDs_of h6
      have gg6 := (gg4.trans g5).trans g6
      have dp6 := RpAll.sub ((((Grow.sub r2 s3).trans g4).trans g5).trans g6).z dp2
      have e6 : H6 p = some (.lst us) := (gg6.f p (.inr rfl)).trans upd_same
      have dpy : RpAll K (Fz H6 (Mu (fun a => F a ∨ a = p) m6 o4)) [v6] ys := datas_rep (.cons q6 .nil) ey
      obtain ⟨rw6, gz6⟩ := (back r6).write (p := p) (u := .lst (us ++ [v6])) (.inr rfl)
      refine ⟨us, e6, by rw [RpAll.length dp6]; exact hl, m6, S6, acc ++ ys, us ++ [v6], rw6, ⟨fun a z => ?_, ?_, gg6.m⟩, RpAll.sub gz6 (RpAll.append dp6 dpy), h7⟩
      · by_cases ha : a = p
        · subst ha; rw [upd_same, upd_same]
        · rw [upd_ne ha, upd_ne ha]
          have := gg6.f a z
          rw [upd_ne ha] at this
          exact this
      · refine Sub.trans (fun a w e => ?_) (gg6.z.trans gz6)
        obtain ⟨z1, z2⟩ := Fz.at e
        have ha : a ≠ p := fun z => z1 (.inl (.inr z))
        rw [upd_ne ha] at z2
        exact Fz.of z1 (by rw [upd_ne ha]; exact z2)
  · rw [List.drop_eq_nil_of_le (by omega)] at h2
    obtain ⟨okk, h3⟩ := h2
    refine .inl ⟨go.stop i _ m2 o _ S2 _ H2 r2 gz2 g2.m okk (by omega), ?_⟩
    have np2 : ¬ Mu F m2 o p := fun z => by
      rcases z with z | ⟨n, z⟩ | ⟨n, z⟩
      · exact np (.inl z)
      · exact r2.st.injF n p z (.inr rfl)
      · exact r2.st.oF n p z (.inr rfl)
    obtain ⟨ru, zu⟩ := r2.unguard np2
    have gu : Grow F m1 o H1 m2 o (without H2 p) := ⟨fun a z => ?_, gz2.trans zu, g2.m⟩
    · have := hk acc S2 m2 (without H2 p) p us h3 (r1.back no ru gu) (g1.trans gu) (if_pos rfl) (RpAll.sub zu dp2)
      rw [without_upd e2] at this
      exact this
    · have ha : a ≠ p := fun e => np (by rw [← e]; exact .inl z)
      unfold without
      rw [if_neg ha, g2.f a (.inl z), upd_ne ha]
theorem df_comp {elt tg iter : Expr} {ifs : List Expr} {scope : Scope} {own : List (Str × Nat)} {pos : Pos} {it : dTI} {g : dTG} {tt : dTT} {te : dTE} (hc : X.calm = true) (hN : X.N.Nodup) (ok : BlkOk X.N X.env.scope scope own)
    (hg : ∀ (s : Shared) (H : Hp) (C : Addr) (cl : List (Str × Addr)) (fp : List Addr), DG (X.blk s H scope (compEnvC scope cl C X.env) fp) (own.map (·.2)) tg g) (hi : DI X tg iter it) (ht : ∀ (s : Shared) (H : Hp) (C : Addr) (cl : List (Str × Addr)) (fp : List Addr), DTs (X.blk s H scope (compEnvC scope cl C X.env) fp) ifs tt)
    (he : ∀ (s : Shared) (H : Hp) (C : Addr) (cl : List (Str × Addr)) (fp : List Addr), DE (X.blk s H scope (compEnvC scope cl C X.env) fp) elt te) (hs : ∀ x, foldedSetIterable iter X.env x = pure x := by intro _; rfl) :
    DF X (.ListComp elt [⟨tg, iter, ifs, 0⟩] scope pos) (dComp it g tt te (own.map (·.2))) :=
  PE.imp (pe_lc hc hN hi ok (fun s H C cl fp => (hg s H C cl fp).pg) ht he hs) fun σ H Q q => lift_comp (hg ⟨X.s_0.heap, X.s_0.gens, X.s_0.drawn, X.s_0.toks, X.s_0.os⟩ H 0 [] []) q
end
end L3

set_option maxHeartbeats 4000000
namespace L3
open PySem PySem.Spec L2

section
variable {X : Cx}
/-! ### y = [..] on one line -/
theorem ds_setLc {i : Nat} {y : Str} {py : Pos} {elt tg iter : Expr} {ifs : List Expr} {scope : Scope} {own : List (Str × Nat)} {pos spos : Pos} {it : dTI} {g : dTG} {tt : dTT} {te : dTE} (hc : X.calm = true) (hN : X.N.Nodup) (hy : X.N[i]? = some y) (hyl : X.env.scope.names.lookup y = some .local)
    (hsw : swapsWith (.ListComp elt [⟨tg, iter, ifs, 0⟩] scope pos) (some (.Name y py)) spos.line X.env = pure true) (ok : BlkOk X.N X.env.scope scope own)
    (hg : ∀ (s : Shared) (H : Hp) (C : Addr) (cl : List (Str × Addr)) (fp : List Addr), DG (X.blk s H scope (compEnvC scope cl C X.env) fp) (own.map (·.2)) tg g) (hi : DI X tg iter it) (ht : ∀ (s : Shared) (H : Hp) (C : Addr) (cl : List (Str × Addr)) (fp : List Addr), DTs (X.blk s H scope (compEnvC scope cl C X.env) fp) ifs tt)
    (he : ∀ (s : Shared) (H : Hp) (C : Addr) (cl : List (Str × Addr)) (fp : List Addr), DE (X.blk s H scope (compEnvC scope cl C X.env) fp) elt te) (hs : ∀ x, foldedSetIterable iter X.env x = pure x := by intro _; rfl) :
    DS X (.Assign [.Name y py] (.ListComp elt [⟨tg, iter, ifs, 0⟩] scope pos) spos) (dSet i (dFz (dComp it g tt te (own.map (·.2))))) :=
  PS.imp (ps_setLc hc hN hy hyl hsw hi ok (fun s H C cl fp => (hg s H C cl fp).pg) ht he hs) fun E σ H q => by
    obtain ⟨F, m, o, ρ, S, E', rel, t, ok⟩ := q
    refine lift_comp (hg X.s_0 H 0 [] []) (lift_fz ⟨F, m, o, ρ, S, _, rel, t, fun d S1 m1 H1 v h r g q => ?_⟩)
    obtain ⟨n, h⟩ := nl_of h
    exact ok.nx _ S1 m1 _ _ H1 h (r.put i q n) (g.trans (Grow.ers i))
theorem ds_setLcO {i : Nat} {y : Str} {py : Pos} {elt tg iter : Expr} {ifs : List Expr} {scope : Scope} {own : List (Str × Nat)} {pos spos : Pos} {it : dTI} {g : dTG} {tt : dTT} {te : dTE} (hc : X.calm = true) (hN : X.N.Nodup) (hy : X.N[i]? = some y) (hyl : X.env.scope.names.lookup y = some .local)
    (hsw : swapsWith (.ListComp elt [⟨tg, iter, ifs, 0⟩] scope pos) (some (.Name y py)) spos.line X.env = pure true) (ok : BlkOk X.N X.env.scope scope own)
    (hg : ∀ (s : Shared) (H : Hp) (C : Addr) (cl : List (Str × Addr)) (fp : List Addr), DG (X.blk s H scope (compEnvC scope cl C X.env) fp) (own.map (·.2)) tg g) (hi : DI X tg iter it) (ht : ∀ (s : Shared) (H : Hp) (C : Addr) (cl : List (Str × Addr)) (fp : List Addr), DTs (X.blk s H scope (compEnvC scope cl C X.env) fp) ifs tt)
    (he : ∀ (s : Shared) (H : Hp) (C : Addr) (cl : List (Str × Addr)) (fp : List Addr), DE (X.blk s H scope (compEnvC scope cl C X.env) fp) elt te) (hs : ∀ x, foldedSetIterable iter X.env x = pure x := by intro _; rfl) :
    DS X (.Assign [.Name y py] (.ListComp elt [⟨tg, iter, ifs, 0⟩] scope pos) spos) (dSetO i (dComp it g tt te (own.map (·.2)))) :=
  PS.imp (ps_setLc hc hN hy hyl hsw hi ok (fun s H C cl fp => (hg s H C cl fp).pg) ht he hs) fun E σ H q => by
    obtain ⟨F, m, o, ρ, S, E', rel, t, ok⟩ := q
    exact lift_comp (hg X.s_0 H 0 [] []) ⟨F, m, o, ρ, S, _, rel, t, fun xs S1 m1 H1 p vs h r g hp dp => own_fin r hp dp h (ok.grow g)⟩
end

/-! ### things that are changed -/
section
variable {K : PySem.W.Frag} {F : Addr → Prop} {m o : Nat → Option Addr} {ρ : Env3} {S : Sto} {σ : L2.St} {H : Hp}
theorem fz_wr {a : Addr} {u : HO} (h : Mu F m o a) : Sub (Fz H (Mu F m o)) (Fz (upd H a u) (Mu F m o)) := fun b w e => by
  obtain ⟨e1, e2⟩ := Fz.at e
  exact Fz.of e1 (by rw [upd_ne fun z => e1 (by rw [z]; exact h)]; exact e2)
theorem Grow.wr (r : Stor K F m o S H) {a : Addr} {u : HO} (h : Mu F m o a) (nf : ¬ F a) : Grow F m o H m o (upd H a u) := ⟨fun b z => upd_ne fun e => nf (by rw [← e]; exact z), fz_wr h, fun _ _ e => e⟩
theorem alive_wr (r : Stor K F m o S H) {a : Addr} {u : HO} (hu : NT ((upd H a u) a)) : ∀ b, Mu F m o b → NT ((upd H a u) b) := fun b z => by
  by_cases e : b = a
  · subst e; exact hu
  · rw [upd_ne e]; exact r.liv b z
/-- one's own thing takes another content -/
theorem Rel.wrO (r : Rel K F m o ρ S σ H) {i : Nat} {a : Addr} {u : HO} {c : Cell} (ha : o i = some a) (hi : i < ρ.length) (hx : σ[i]? = some (some (.ref a))) (q : CellOk K (upd H a u) (Fz (upd H a u) (Mu F m o)) a c) :
    Rel K F m o (ρ.set i (.own c)) S σ (upd H a u) ∧ Grow F m o H m o (upd H a u) := by
  have ma : Mu F m o a := .inr (.inr ⟨i, ha⟩)
  have g : Grow F m o H m o (upd H a u) := Grow.wr r.st ma fun z => r.st.oF i a ha z
  refine ⟨⟨⟨r.st.there, fun n b e => ?_, r.st.inj, r.st.injO, r.st.injF, r.st.oo, r.st.oF, alive_wr r.st q.nt⟩, by rw [List.length_set]; exact r.len, fun j s e => ?_, fun j z => r.far j (by rwa [List.length_set] at z)⟩, g⟩
  · obtain ⟨c, h1, h2⟩ := r.st.is n b e
    exact ⟨c, h1, h2.sub (upd_ne fun z => r.st.injO n i a (by rw [← z]; exact e) ha) g.z⟩
  · by_cases hj : i = j
    · subst hj
      rw [List.getElem?_set_self hi] at e
      cases e
      exact ⟨a, ha, hx, q⟩
    · rw [List.getElem?_set_ne hj] at e
      exact (r.sl j s e).sub (fun b z => upd_ne fun w => hj (r.st.oo i j a ha (by rw [← w]; exact z))) g.z
/-- a thing of the store takes another content -/
theorem Rel.wrS (r : Rel K F m o ρ S σ H) {n : Nat} {a : Addr} {u : HO} {c : Cell} (ha : m n = some a) (hn : n < S.length) (q : CellOk K (upd H a u) (Fz (upd H a u) (Mu F m o)) a c) :
    Rel K F m o ρ (S.set n c) σ (upd H a u) ∧ Grow F m o H m o (upd H a u) := by
  have ma : Mu F m o a := .inr (.inl ⟨n, ha⟩)
  have g : Grow F m o H m o (upd H a u) := Grow.wr r.st ma fun z => r.st.injF n a ha z
  refine ⟨⟨⟨fun k c e => ?_, fun k b e => ?_, r.st.inj, r.st.injO, r.st.injF, r.st.oo, r.st.oF, alive_wr r.st q.nt⟩, r.len, fun j s e => ?_, r.far⟩, g⟩
  · by_cases hk : n = k
    · subst hk; exact ⟨a, ha⟩
    · rw [List.getElem?_set_ne hk] at e; exact r.st.there k c e
  · by_cases hk : n = k
    · subst hk
      rw [ha] at e
      cases e
      exact ⟨c, List.getElem?_set_self hn, q⟩
    · obtain ⟨c, h1, h2⟩ := r.st.is k b e
      exact ⟨c, by rw [List.getElem?_set_ne hk]; exact h1, h2.sub (upd_ne fun z => hk (r.st.inj n k a ha (by rw [← z]; exact e))) g.z⟩
  · exact (r.sl j s e).sub (fun b z => upd_ne fun w => r.st.injO n j a ha (by rw [← w]; exact z)) g.z
/-- a new thing of the store -/
def putM (m : Nat → Option Addr) (n : Nat) (a : Addr) : Nat → Option Addr := fun k => if k = n then some a else m k
theorem Rel.newS (r : Rel K F m o ρ S σ H) {p : Addr} {u : HO} {c : Cell} (hp : H p = none) (q : CellOk K (upd H p u) (Fz (upd H p u) (Mu F (putM m S.length p) o)) p c) :
    Rel K F (putM m S.length p) o ρ (S ++ [c]) σ (upd H p u) ∧ Grow F m o H (putM m S.length p) o (upd H p u) := by
  have np : ∀ {P : Prop}, Mu F m o p → P := fun z => absurd hp (r.st.alive p z)
  have mn : m S.length = none := by
    cases e : m S.length with
    | none => rfl
    | some a =>
      obtain ⟨c, h1, _⟩ := r.st.is _ a e
      rw [List.getElem?_eq_none_iff.mpr (Nat.le_refl _)] at h1
      cases h1
  have at1 : putM m S.length p S.length = some p := if_pos rfl
  have at2 : ∀ {k}, k ≠ S.length → putM m S.length p k = m k := fun h => if_neg h
  have mu : ∀ a, Mu F (putM m S.length p) o a → a = p ∨ Mu F m o a := fun a z => by
    rcases z with z | ⟨n, z⟩ | z
    · exact .inr (.inl z)
    · by_cases hn : n = S.length
      · subst hn; rw [at1] at z; cases z; exact .inl rfl
      · rw [at2 hn] at z; exact .inr (.inr (.inl ⟨n, z⟩))
    · exact .inr (.inr (.inr z))
  have keep : ∀ a, Mu F m o a → (upd H p u) a = H a := fun a z => upd_ne fun e => np (by rw [← e]; exact z)
  have gz : Sub (Fz H (Mu F m o)) (Fz (upd H p u) (Mu F (putM m S.length p) o)) := fun a w e => by
    obtain ⟨e1, e2⟩ := Fz.at e
    have hne : a ≠ p := ne_of_none e2 hp
    exact Fz.of (fun z => (mu a z).elim hne e1) (by rw [upd_ne hne]; exact e2)
  have gm : ∀ n a, m n = some a → putM m S.length p n = some a := fun n a e => by
    by_cases hn : n = S.length
    · subst hn; rw [mn] at e; cases e
    · rw [at2 hn]; exact e
  refine ⟨⟨⟨fun k c' e => ?_, fun k b e => ?_, fun n k a e z => ?_, fun n i a e z => ?_, fun n a e z => ?_, r.st.oo, r.st.oF, fun a z => ?_⟩, r.len, fun j s e => ?_, r.far⟩, ⟨fun a z => keep a (.inl z), gz, gm⟩⟩
  · by_cases hk : k = S.length
    · subst hk; exact ⟨p, at1⟩
    · have hlt : k < S.length := by
        have := (List.getElem?_eq_some_iff.mp e).1
        rw [List.length_append, List.length_singleton] at this
        omega
      rw [List.getElem?_append_left hlt] at e
      rw [at2 hk]
      exact r.st.there k c' e
  · by_cases hk : k = S.length
    · subst hk
      rw [at1] at e
      cases e
      exact ⟨c, by simp, q⟩
    · rw [at2 hk] at e
      obtain ⟨c', h1, h2⟩ := r.st.is k b e
      exact ⟨c', by rw [List.getElem?_append_left (List.getElem?_eq_some_iff.mp h1).1]; exact h1, h2.sub (keep b (.inr (.inl ⟨k, e⟩))) gz⟩
  · by_cases hn : n = S.length
    · subst hn
      rw [at1] at e
      cases e
      by_cases hk : k = S.length
      · exact hk.symm
      · rw [at2 hk] at z; exact np (.inr (.inl ⟨k, z⟩))
    · rw [at2 hn] at e
      by_cases hk : k = S.length
      · subst hk; rw [at1] at z; cases z; exact np (.inr (.inl ⟨n, e⟩))
      · rw [at2 hk] at z; exact r.st.inj n k a e z
  · by_cases hn : n = S.length
    · subst hn; rw [at1] at e; cases e; exact np (.inr (.inr ⟨i, z⟩))
    · rw [at2 hn] at e; exact r.st.injO n i a e z
  · by_cases hn : n = S.length
    · subst hn; rw [at1] at e; cases e; exact np (.inl z)
    · rw [at2 hn] at e; exact r.st.injF n a e z
  · rcases mu a z with z | z
    · subst z; exact q.nt
    · rw [keep a z]; exact r.st.liv a z
  · have hs := (r.sl j s e).sub (H' := upd H p u) (fun a z => keep a (.inr (.inr ⟨j, z⟩))) gz
    cases s with
    | no => exact hs
    | val w =>
      cases w with
      | d x => exact hs
      | ref n => obtain ⟨h0, a, h1, h2⟩ := hs; exact ⟨h0, a, h1, gm n a h2⟩
      | loc j => exact hs
    | own c => exact hs
end

/-! ### x.append(e) -/
def dApp (i : Nat) (te : dTE) : dTS := fun E ρ S => match ρ[i]? with
  | some (.own (.lst xs)) => te ρ S fun d S1 => match d with
    | .d x => xs.length < sizeLine ∧ E.nx (ρ.set i (.own (.lst (xs ++ [x])))) S1
    | _ => False
  | _ => False
section
variable {X : Cx}
theorem ds_app {i : Nat} {x : Expr} {e : Expr} {te : dTE} {apos cpos pos : Pos} (hx : PE X x (tVar i)) (he : DE X e te) (hs : swapsWith (.Call (.Attribute x "append" apos) [e] [] cpos) none pos.line X.env = pure false := by rfl)
    (hbase : attributeBase x "append" X.env (eval x X.env) = eval x X.env := by rfl) (hst : starEach [e] X.env = (false, eval e X.env) :: starEach [] X.env := by rfl)
    (hfew : ((backTo cpos (starEach [e] X.env)).all (fun x => !x.1) && (backToKw cpos (keywordEach [] X.env)).all (fun x => x.1.isSome)
      && decide ([e].length + ([] : List Keyword).length + (if ([] : List Keyword).isEmpty then 0 else 1) < 30)) = true := by rfl)
    (hpl : (backTo cpos (starEach [] X.env)).any (·.1) = false := by rfl) (hline : (apos.endLine == cpos.line) = true := by rfl) :
    DS X (.Expr (.Call (.Attribute x "append" apos) [e] [] cpos) pos) (dApp i te) :=
  PS.imp (ps_expr (pe_bm PySem.F.plainAttrs_list PySem.F.slot_list_append PySem.F.type_list_append mt_append hx (pa_cons he pa_nil hst) hbase hfew hline hst hpl) hs) fun E σ H q => by
    obtain ⟨F, m, o, ρ, S, E', rel, t, ok⟩ := q
    unfold dApp at t
    split at t
    · rename_i xs e0
      obtain ⟨a, h1, h2, vs, h3, h4⟩ := rel.sl i _ e0
      refine ⟨_, h2, .inl ⟨rfl, vs, SqL.of h3⟩, F, m, o, ρ, S, _, rel, t, fun d S1 m1 H1 v h r g q => ?_⟩
      cases d with
      | ref n => exact h.elim
      | loc n => exact h.elim
      | d y =>
        obtain ⟨hl, h⟩ := h
        obtain ⟨b, k1, k2, ws, k3, k4⟩ := r.sl i _ e0
        have hb := k1.symm.trans h1
        cases hb
        refine ⟨a, ws, v, rfl, rfl, k3, by rw [RpAll.length k4]; exact hl, ?_⟩
        have hi : i < ρ.length := (List.getElem?_eq_some_iff.mp e0).1
        obtain ⟨r2, g2⟩ := r.wrO (u := .lst (ws ++ [v])) (c := .lst (xs ++ [y])) h1 hi h2 ⟨_, upd_same, RpAll.sub (fz_wr (.inr (.inr ⟨i, h1⟩))) (RpAll.append k4 (.cons q .nil))⟩
        exact ok.nx _ S1 m1 o σ _ h r2 (g.trans g2)
    · exact t.elim
end

/-! ### a dict that is written, as a thing of the store -/
def dVals : List (Key × dTE) → Env3 → Sto → (List (Key × D) → Sto → Prop) → Prop
  | [], _, S, Q => Q [] S
  | (k, t) :: r, ρ, S, Q => t ρ S fun d S1 => match d with
    | .d x => dVals r ρ S1 fun kvs S2 => Q ((k, x) :: kvs) S2
    | _ => False
def dDisp (ts : List (Key × dTE)) : dTE := fun ρ S Q => dVals ts ρ S fun kvs S1 => Q (.ref S1.length) (S1 ++ [.dK kvs])
section
variable {X : Cx} {K : PySem.W.Frag}
theorem lift_vals {F : Addr → Prop} {o : Nat → Option Addr} {ρ : Env3} {σ : L2.St} : ∀ {ts : List (Key × dTE)} {m : Nat → Option Addr} {S : Sto} {H : Hp} {k : List (Key × D) → Sto → Prop} {Q : List (V × V) → Hp → Prop}, Rel K F m o ρ S σ H → dVals ts ρ S k →
    (∀ kvs S' m' H' ws, k kvs S' → kvs.map (·.1) = ts.map (·.1) → Rel K F m' o ρ S' σ H' → Grow F m o H m' o H' → KRp K (Fz H' (Mu F m' o)) ws kvs → Q (ws.map fun kv => (kV kv.1, kv.2)) H') → tPairs (ts.map fun p => (tC (kV p.1), lift K p.2)) σ H Q
  | [], m, S, H, k, Q, r, h, fin => fin [] S m H [] h rfl r Grow.refl .nil
  | (key, t) :: ts, m, S, H, k, Q, r, h, fin => by
    refine ⟨F, m, o, ρ, S, _, r, h, fun d S1 m1 H1 v h1 r1 g1 q1 => ?_⟩
    cases d with
    | ref n => exact h1.elim
    | loc n => exact h1.elim
    | d x =>
      refine lift_vals r1 h1 fun kvs S2 m2 H2 ws h2 hk r2 g2 q2 => ?_
      exact fin ((key, x) :: kvs) S2 m2 H2 ((key, v) :: ws) h2 (by rw [List.map_cons, List.map_cons, hk]) r2 (g1.trans g2) (.cons ⟨rfl, Rp.sub g2.z q1⟩ q2)
theorem mergeK_nodup : ∀ (ws acc : List (Key × V)), (ws.map (·.1)).Nodup → (∀ w ∈ ws, w.1 ∉ acc.map (·.1)) → mergeK acc ws = acc ++ ws
  | [], acc, _, _ => (List.append_nil acc).symm
  | w :: ws, acc, nd, ni => by
    have nd' := List.nodup_cons.mp (show (w.1 :: ws.map (·.1)).Nodup from nd)
    have e : putK acc w.1 w.2 = acc ++ [w] := by
      unfold putK
      rw [if_neg]
      intro z
      obtain ⟨p, hp, e⟩ := List.any_eq_true.mp z
      exact ni w List.mem_cons_self (List.mem_map.mpr ⟨p, hp, of_decide_eq_true e⟩)
    show mergeK (putK acc w.1 w.2) ws = _
    rw [e, mergeK_nodup ws _ nd'.2 fun z hz => ?_, List.append_assoc]
    · rfl
    · rw [List.map_append]
      intro q
      rcases List.mem_append.mp q with q | q
      · exact ni z (List.mem_cons_of_mem _ hz) q
      · simp only [List.map_cons, List.map_nil, List.mem_singleton] at q
        exact nd'.1 (List.mem_map.mpr ⟨z, hz, q⟩)
theorem KRp.keys {H : Hp} {ws : List (Key × V)} {kvs : List (Key × D)} (h : KRp K H ws kvs) : ws.map (·.1) = kvs.map (·.1) := by
  unfold KRp at h
  induction h with
  | nil => rfl
  | cons q _ ih => rw [List.map_cons, List.map_cons, q.1, ih]
abbrev DPs (X : Cx) (pos : Pos) (keys : List (Option Expr)) (values : List Expr) (ts : List (Key × dTE)) : Prop := PPs X pos keys values (ts.map fun p => (tC (kV p.1), lift X.K p.2))
theorem dps_nil {pos : Pos} : DPs X pos [] [] [] := pps_nil
theorem dps_cons {pos : Pos} {k v : Expr} {ks : List (Option Expr)} {vs : List Expr} {key : Key} {t : dTE} {ts : List (Key × dTE)} (hk : PE X k (tC (kV key))) (hv : DE X v t) (hr : DPs X pos ks vs ts) : DPs X pos (some k :: ks) (v :: vs) ((key, t) :: ts) := pps_cons hk hv hr
theorem de_disp {keys : List (Option Expr)} {values : List Expr} {ts : List (Key × dTE)} {pos : Pos} (h : DPs X pos keys values ts) (hnd : (ts.map (·.1)).Nodup) (h15 : ts.length ≤ 15) (hall : keys.all (·.isSome) = true) (hl : keys.length = values.length) (h0 : keys ≠ [])
    (h15' : keys.length ≤ 15) : DE X (.Dict keys values pos) (dDisp ts) := PE.imp (pe_disp h hall hl h0 h15') fun σ H Q q => by
  obtain ⟨F, m, o, ρ, S, k, rel, t, hk⟩ := q
  intro p hp
  obtain ⟨r0, z0⟩ := rel.guard (u := .dK []) hp
  have np : ¬ Mu F m o p := fun z => rel.st.alive p z hp
  refine lift_vals r0 t fun kvs S' m' H' ws hh hkeys r' g' rep => ?_
  have ep : H' p = some (.dK []) := (g'.f p (.inr rfl)).trans upd_same
  have np' : ¬ Mu F m' o p := fun z => by
    rcases z with z | ⟨n, z⟩ | ⟨n, z⟩
    · exact np (.inl z)
    · exact r'.st.injF n p z (.inr rfl)
    · exact r'.st.oF n p z (.inr rfl)
  have ekeys : ws.map (·.1) = ts.map (·.1) := rep.keys.trans hkeys
  have elen : ws.length = ts.length := by
    have := congrArg List.length ekeys
    rwa [List.length_map, List.length_map] at this
  refine ⟨ep, ws, rfl, by rw [elen]; exact h15, ?_⟩
  rw [mergeK_nodup ws [] (by rw [ekeys]; exact hnd) (fun _ _ => by simp), List.nil_append]
  obtain ⟨ru, zu⟩ := r'.unguard np'
  have wp : without H' p p = none := if_pos rfl
  have eu : ∀ u, upd (without H' p) p u = upd H' p u := fun u => by
    funext a
    unfold upd without
    split
    · rfl
    · rfl
  have gu : Grow F m o H m' o (without H' p) := ⟨fun a z => ?_, (z0.trans g'.z).trans zu, g'.m⟩
  · have ma : Mu F (putM m' S'.length p) o p := .inr (.inl ⟨S'.length, if_pos rfl⟩)
    obtain ⟨r2, g2⟩ := ru.newS (u := .dK ws) (c := .dK kvs) wp (by
      refine ⟨ws, upd_same, KRp.sub ?_ (KRp.sub zu rep)⟩
      intro a w e
      obtain ⟨e1, e2⟩ := Fz.at e
      have hne : a ≠ p := ne_of_none e2 wp
      refine Fz.of (fun z => ?_) (by rw [upd_ne hne]; exact e2)
      rcases z with z | ⟨n, z⟩ | z
      · exact e1 (.inl z)
      · unfold putM at z
        split at z
        · cases z; exact hne rfl
        · exact e1 (.inr (.inl ⟨n, z⟩))
      · exact e1 (.inr (.inr z)))
    have := hk _ _ _ _ (.ref p) hh r2 (gu.trans g2) ⟨p, if_pos rfl, rfl⟩
    rw [eu] at this
    exact this
  · have ha : a ≠ p := fun e => np (by rw [← e]; exact .inl z)
    unfold without
    rw [if_neg ha, g'.f a (.inl z), upd_ne ha]
end

/-! ### x[k] = e -/
def withKey (y : D) (k : Key → Prop) : Prop := match y with
  | .int i => k (.inl i)
  | .str z => k (.inr z)
  | _ => False
theorem withKey_of {y : D} {k : Key → Prop} (h : withKey y k) : ∃ key, y = keyD key ∧ k key := by
  unfold withKey at h
  split at h
  · exact ⟨_, rfl, h⟩
  · exact ⟨_, rfl, h⟩
  · exact h.elim
def putD (kvs : List (Key × D)) (k : Key) (v : D) : List (Key × D) :=
  if (kvs.any fun kv => decide (kv.1 = k)) = true then kvs.map (fun kv => if kv.1 = k then (kv.1, v) else kv) else kvs ++ [(k, v)]
theorem KRp.put {K : PySem.W.Frag} {H : Hp} {ws : List (Key × V)} {kvs : List (Key × D)} (h : KRp K H ws kvs) {k : Key} {v : V} {x : D} (q : Rp K H v x) : KRp K H (putK ws k v) (putD kvs k x) := by
  have ea : (ws.any fun kv => decide (kv.1 = k)) = kvs.any fun kv => decide (kv.1 = k) := by
    unfold KRp at h
    induction h with
    | nil => rfl
    | cons z _ ih => rw [List.any_cons, List.any_cons, z.1, ih]
  unfold putK putD
  rw [ea]
  split
  · unfold KRp at h ⊢
    rename_i z0
    clear z0 ea
    induction h with
    | nil => exact .nil
    | @cons a b l1 l2 z _ ih =>
      refine .cons ?_ ih
      obtain ⟨z1, z2⟩ := z
      dsimp only
      by_cases e : b.1 = k
      · rw [if_pos (z1.trans e), if_pos e]; exact ⟨z1, q⟩
      · rw [if_neg (fun w => e (z1.symm.trans w)), if_neg e]; exact ⟨z1, z2⟩
  · have go : ∀ {l1 : List (Key × V)} {l2 : List (Key × D)}, KRp K H l1 l2 → KRp K H (l1 ++ [(k, v)]) (l2 ++ [(k, x)]) := by
      intro l1 l2 h
      unfold KRp at h ⊢
      induction h with
      | nil => exact .cons ⟨rfl, q⟩ .nil
      | cons z _ ih => exact .cons z ih
    exact go h
def dPutI (i : Nat) (tk te : dTE) : dTS := fun E ρ S => match ρ[i]? with
  | some (.own (.lst xs)) => te ρ S fun d S1 => match d with
    | .d x => tk ρ S1 fun kd S2 => match kd with
      | .d (.int j) => ∃ n, ixN xs.length j = some n ∧ E.nx (ρ.set i (.own (.lst (xs.set n x)))) S2
      | _ => False
    | _ => False
  | some (.val (.ref n)) => te ρ S fun d S1 => match d with
    | .d x => tk ρ S1 fun kd S2 => match kd with
      | .d key => match S2[n]? with
        | some (.dK kvs) => withKey key fun k => kvs.length < sizeLine ∧ E.nx ρ (S2.set n (.dK (putD kvs k x)))
        | _ => False
      | _ => False
    | _ => False
  | _ => False
section
variable {X : Cx}
theorem set_dict (hu : X.A.units + 1 < cLine) : PSet X (fun o i v H Q => ∃ a H', o = .ref a ∧ DPut H a i v H' ∧ Q H') := by
  intro pins s σ H o i v ov iv u Q I ro ri rv h
  obtain ⟨a, H', rfl, g, q⟩ := h
  obtain rfl : ov = Value.ref a := ro
  exact d_setItem hu I g ri rv fun s4 I4 => ⟨H', I4, q⟩
theorem PSet.or {t t' : TSet} (h : PSet X t) (h' : PSet X t') : PSet X (fun o i v H Q => t o i v H Q ∨ t' o i v H Q) := by
  intro pins s σ H o i v ov iv u Q I ro ri rv q
  rcases q with q | q
  · exact h pins s σ H o i v ov iv u Q I ro ri rv q
  · exact h' pins s σ H o i v ov iv u Q I ro ri rv q
theorem key_rep {K : PySem.W.Frag} {H : Hp} {v : V} {key : Key} (h : Rp K H v (keyD key)) : v = kV key := by
  cases key with
  | inl i => exact dp_int h
  | inr z => exact dp_str h
theorem ds_put {i : Nat} {x k e : Expr} {tk te : dTE} {pos pos' : Pos} (hu : X.A.units + 1 < cLine) (hx : PE X x (tVar i)) (hk : DE X k tk) (he : DE X e te)
    (ha : ∀ v, assign (.Subscript x k pos') X.env v = (do
      let ov ← holding [v] (eval x X.env)
      let iv ← holding [v, ov] (eval k X.env)
      standAt pos'
      holding [v, ov, iv] (setItem ov iv v)
      release [v, ov, iv] []) := by intro _; rfl)
    (hs : swapsWithSole [.Subscript x k pos'] e pos.line X.env = pure false := by rfl) (hw : swappedStores [.Subscript x k pos'] e X.env = pure none := by rfl)
    (h1 : (assignEach [.Subscript x k pos'] X.env).map (·.2) = [assign (.Subscript x k pos') X.env] := by rfl) : DS X (.Assign [.Subscript x k pos'] e pos) (dPutI i tk te) :=
  PS.imp (ps_asg he (pg_sub hx hk (PSet.or set_list (set_dict hu)) ha) hs hw h1) fun E σ H q => by
    obtain ⟨F, m, o, ρ, S, E', rel, t, ok⟩ := q
    unfold dPutI at t
    split at t
    · rename_i xs e0
      obtain ⟨a, h1, h2, _⟩ := rel.sl i _ e0
      refine ⟨F, m, o, ρ, S, _, rel, t, fun d S1 m1 H1 v h r g q => ?_⟩
      split at h
      · rename_i y
        refine ⟨_, h2, F, m1, o, ρ, S1, _, r, h, fun kd S2 m2 H2 w hh r2 g2 q2 => ?_⟩
        split at hh
        · rename_i j
          obtain ⟨n, hn, hh⟩ := hh
          obtain ⟨b, k1, k2, ws, k3, k4⟩ := r2.sl i _ e0
          have hb := k1.symm.trans h1
          cases hb
          refine .inl ⟨_, ws, j, n, rfl, dp_int q2, k3, by rw [RpAll.length k4]; exact hn, ?_⟩
          have hi : i < ρ.length := (List.getElem?_eq_some_iff.mp e0).1
          obtain ⟨r3, g3⟩ := r2.wrO (u := .lst (ws.set n v)) (c := .lst (xs.set n y)) h1 hi h2 ⟨_, upd_same, RpAll.sub (fz_wr (.inr (.inr ⟨i, h1⟩))) (RpAll.set (Rp.sub g2.z q) n k4)⟩
          exact ok.nx _ S2 m2 o σ _ hh r3 ((g.trans g2).trans g3)
        · exact hh.elim
      · exact h.elim
    · rename_i n e0
      obtain ⟨h0, a, h2, h1⟩ := rel.sl i _ e0
      refine ⟨F, m, o, ρ, S, _, rel, t, fun d S1 m1 H1 v h r g q => ?_⟩
      split at h
      · rename_i y
        refine ⟨_, h2, F, m1, o, ρ, S1, _, r, h, fun kd S2 m2 H2 w hh r2 g2 q2 => ?_⟩
        split at hh
        · rename_i key
          split at hh
          · rename_i kvs e2
            obtain ⟨key, rfl, hl, hh⟩ := withKey_of hh
            have ha2 : m2 n = some a := g2.m n a (g.m n a h1)
            obtain ⟨c, e3, ws, k3, k4⟩ : ∃ c, S2[n]? = some c ∧ ∃ ws, H2 a = some (.dK ws) ∧ KRp X.K (Fz H2 (Mu F m2 o)) ws kvs := by
              obtain ⟨c, e3, k⟩ := r2.st.is n a ha2
              have := e3.symm.trans e2
              cases this
              obtain ⟨ws, k1, k2⟩ := k
              exact ⟨_, e3, ws, k1, k2⟩
            have el : ws.length = kvs.length := by
              have := congrArg List.length (KRp.keys k4)
              rwa [List.length_map, List.length_map] at this
            have hkv : w = kV key := key_rep (H := Fz H2 (Mu F m2 o)) q2
            refine .inr ⟨a, _, rfl, by rw [hkv]; exact DPut.k k3 (by rw [el]; exact hl), ?_⟩
            have hn : n < S2.length := (List.getElem?_eq_some_iff.mp e3).1
            obtain ⟨r3, g3⟩ := r2.wrS (u := .dK (putK ws key v)) (c := .dK (putD kvs key y)) ha2 hn ⟨_, upd_same, KRp.sub (fz_wr (.inr (.inl ⟨n, ha2⟩))) (KRp.put k4 (Rp.sub g2.z q))⟩
            exact ok.nx _ _ m2 o σ _ hh r3 ((g.trans g2).trans g3)
          · exact hh.elim
        · exact hh.elim
      · exact h.elim
    · exact t.elim
end
end L3

set_option maxHeartbeats 4000000
namespace L3
open PySem PySem.Spec L2

theorem u1 {A : Around} {k : Nat} (hr : Room k A) : A.units + 1 < cLine := by have := hr.un; omega
theorem u64 {A : Around} {k : Nat} (hr : Room k A) : A.units + 64 < cLine := by have := hr.un; omega
theorem u65 {A : Around} {k : Nat} (hr : Room k A) : A.units + 65 < cLine := by have := hr.un; omega
/-- a def of the module that keeps its reading -/
abbrev Cal (P : Program) (w : World) (K : PySem.W.Frag) (mg : Str → Option Value) (base : Heap) (x : Str) (L n : Nat) (ps : List Str) (tf : dFn) : Prop :=
  ∃ (f : Addr) (fd : FuncData), FnOk P w K mg base CX0 L f fd ps (spD K n tf) ∧ mg x = some (.ref f) ∧ PySem.W.keepIn K (.ref f) = true ∧ Binds K fd ps []
section
variable {X : Cx}
theorem de_cal {n L : Nat} {tf : dFn} {tas : dTA} {ps : List Str} {x : Str} {p pos : Pos} {e : Expr} {es : List Expr} (C : Cal X.prog X.w X.K X.mg X.base x L n ps tf) (hr : Room L X.A) (hg : Gl X x) (ha : DA X (e :: es) tas)
    (hdb : (x == ("__debug__" : Str)) = false := by decide) (he : starEach (e :: es) X.env = (false, eval e X.env) :: starEach es X.env := by rfl) (hpl : (backTo pos (starEach es X.env)).any (·.1) = false := by rfl) :
    DE X (.Call (.Name x p) (e :: es) [] pos) (dCall n tf tas) := by
  obtain ⟨f, fd, F, m, k, b⟩ := C
  exact de_call F hr m k b hg ha hdb he hpl
theorem de_cal0 {L : Nat} {tf : dFn} {ps : List Str} {x : Str} {p pos : Pos} (C : Cal X.prog X.w X.K X.mg X.base x L 0 ps tf) (hr : Room L X.A) (hg : Gl X x) (hdb : (x == ("__debug__" : Str)) = false := by decide) :
    DE X (.Call (.Name x p) [] [] pos) (dCall 0 tf dNil) := by
  obtain ⟨f, fd, F, m, k, b⟩ := C
  exact de_call0 F hr m k b hg hdb
end
theorem fn_dD {P : Program} {w : World} {K : PySem.W.Frag} {mg : Str → Option Value} {base : Heap} {x qual : Str} {st : Stmt} {f : Addr} {fd : FuncData} {N ps : List Str} {k : Nat} {t : dTS} {dvs : List V} {kws : List (Str × V)} (F : FunD K x qual (defArgs st) (defBody st) (defScope st) dvs kws f fd) (Sc : FnScope N ps (defScope st)) (hl : ps.length ≤ N.length)
    (hb : ∀ (cdv : Value) (A : Around) (outer : List Env) (s : Shared) (H : Hp) (E : XK), Room k (A.deeper (PyProof.Rows.envOfC qual (defScope st) s.heap.objs.size f cdv)) →
      DSs (cxOf CX0 P w K mg base N qual (defScope st) f cdv A outer s H E).nox (defBody st) t) : FnOk P w K mg base CX0 (k + 1) f fd ps (spD K ps.length (fnT N.length t)) := by
  refine F.ok Sc (fun vs H Q E h => h.1) fun cdv A outer s H vs Q E hr h => ?_
  obtain ⟨hv, Fo, m, S, ds, kk, stor, reps, nlo, ht, hk⟩ := h
  refine ⟨_, (hb cdv A outer s H E hr).nox, ?_⟩
  refine ⟨Fo, m, o0, _, S, _, rel_start stor reps nlo (by omega), ht, ⟨fun ρ S' m' o' σ' H' h r g => ?_, fun _ _ _ _ _ _ h => h.elim, fun _ _ _ _ _ _ h => h.elim, fun d ρ S' m' o' σ' H' v h r g q => ?_⟩⟩
  · exact hk _ S' m' H' .non h rfl r.st.o0 ⟨g.f, g.z.trans fz_o0, g.m⟩ .non
  · obtain ⟨n, h⟩ := nl_of h
    refine hk d S' m' H' v h n r.st.o0 ⟨g.f, g.z.trans fz_o0, g.m⟩ ?_
    cases d with
    | d x => exact Rp.sub fz_o0 q
    | ref j => exact q
    | loc j => cases n
end L3
namespace L3
open PySem PySem.Spec L2
/-- the law's own call -/
theorem law_sp {K : PySem.W.Frag} {tf : dFn} {H : Hp} {a : Addr} {ns : List Int} {E : XK} (hS : SqL K H a (ns.map V.int)) (h : tf [.d (scrD ns)] [] fun d _ => d = .d (.bool true)) : spD K 1 tf [.ref a] H (fun v _ => v = .bl true) E := by
  have nm : ∀ a, ¬ Mu (fun _ => False) (fun _ => none) o0 a := fun a z => by
    rcases z with z | ⟨n, z⟩ | ⟨n, z⟩
    · exact z
    · cases z
    · cases z
  refine ⟨rfl, fun _ => False, fun _ => none, [], [.d (scrD ns)], _, ?_, .cons ?_ .nil, rfl, h, fun d S' m' H' v e _ _ _ r => ?_⟩
  · exact ⟨fun n c e => (by simp at e), fun n a e => (by cases e), fun n k a e => (by cases e), fun n i a e => (by cases e), fun n a e => (by cases e), fun i j a e => (by cases e), fun i a e => (by cases e), fun a z => (nm a z).elim⟩
  · exact .scr (Sub.sqL (fun b u e => Fz.of (nm b) e) hS)
  · subst e
    exact dp_bl r
end L3

set_option maxHeartbeats 4000000
namespace L3
open PySem PySem.Spec L2
theorem Br.t' {b : Bool} {A B : Prop} (e : b = true) (h : A) : Br b A B := by subst e; exact Br.t h
theorem Br.f' {b : Bool} {A B : Prop} (e : b = false) (h : B) : Br b A B := by subst e; exact Br.f h
theorem Br.d {p : Prop} [Decidable p] {A B : Prop} (h : p → A) (h' : ¬ p → B) : Br (decide p) A B := Br.i (fun e => h (of_decide_eq_true e)) (fun e => h' (of_decide_eq_false e))
theorem Br.dT {p : Prop} [Decidable p] {A B : Prop} (e : p) (h : A) : Br (decide p) A B := Br.t' (decide_eq_true e) h
theorem Br.dF {p : Prop} [Decidable p] {A B : Prop} (e : ¬ p) (h : B) : Br (decide p) A B := Br.f' (decide_eq_false e) h
theorem At.nat {α : Type} {xs : List α} {k : α → Prop} {i : Nat} {z : α} (e : xs[i]? = some z) (h : k z) : At xs (i : Int) k := ⟨z, atI_nat e, h⟩
theorem At.int {α : Type} {xs : List α} {k : α → Prop} {i : Int} {z : α} (h0 : 0 ≤ i) (e : xs[i.toNat]? = some z) (h : k z) : At xs i k := by
  have : i = (i.toNat : Int) := by omega
  rw [this]
  exact ⟨z, atI_nat e, h⟩
theorem mulL {i j : Int} (h : -18446744073709551616 < i) (h' : i < 18446744073709551616) : CMul i j := .inl ⟨by omega, by omega⟩
theorem mulR {i j : Int} (h : -18446744073709551616 < j) (h' : j < 18446744073709551616) : CMul i j := .inr ⟨by omega, by omega⟩
theorem pow_ok {i j : Int} (h : 0 ≤ j ∧ j ≤ 1000000 ∧ i.natAbs < 18446744073709551616) : CPow i j := h
theorem div_ok {i j : Int} (h : 0 < j ∧ j < 1073741824) : CDiv i j := h
theorem small_ok {i : Int} (h : -4611686018427387904 ≤ i ∧ i < 4611686018427387904) : small62 i := ⟨by omega, by omega⟩
theorem line_le {n : Nat} (h : n ≤ 16777216) : n ≤ sizeLine := by rw [sizeLine_eq]; exact h
theorem line_lt {n : Nat} (h : n < 16777216) : n < sizeLine := by rw [sizeLine_eq]; exact h

/-! ### loops by what holds between the turns -/
theorem loop_inv0 {ok : Env3 → Sto → Prop} {g : dTG} {b : dTS} {E : dEnds} (I : Nat → Env3 → Sto → Prop) : ∀ (xs : List D) (i : Nat),
    (∀ j x, xs[j]? = some x → ∀ ρ S (K : Env3 → Sto → Prop), I (i + j) ρ S → (∀ ρ' S', I (i + j + 1) ρ' S' → K ρ' S') → ok ρ S ∧ g x ρ S fun ρ1 S1 => b { E with nx := K, ct := K, bk := E.nx } ρ1 S1) →
    (∀ ρ S, I (i + xs.length) ρ S → ok ρ S ∧ E.nx ρ S) → ∀ ρ S, I i ρ S → dLoop ok g b E xs ρ S
  | [], i, _, done, ρ, S, h => done ρ S h
  | x :: xs, i, step, done, ρ, S, h => by
    refine step 0 x rfl ρ S _ h fun ρ' S' h' => ?_
    refine loop_inv0 I xs (i + 1) (fun j y e ρ S K hI hK => ?_) (fun ρ S hI => done ρ S ?_) ρ' S' h'
    · have e1 : i + (j + 1) = i + 1 + j := by omega
      have := step (j + 1) y (by simpa using e) ρ S K
      rw [e1] at this
      exact this hI hK
    · rw [List.length_cons]
      have e1 : i + (xs.length + 1) = i + 1 + xs.length := by omega
      rw [e1]
      exact hI
theorem loop_inv {ok : Env3 → Sto → Prop} {g : dTG} {b : dTS} {E : dEnds} (I : Nat → Env3 → Sto → Prop) (xs : List D) (i : Nat)
    (h1 : ∀ j x, xs[j]? = some x → ∀ ρ S (K : Env3 → Sto → Prop), I (i + j) ρ S → (∀ ρ' S', I (i + j + 1) ρ' S' → K ρ' S') → ok ρ S ∧ g x ρ S fun ρ1 S1 => b { E with nx := K, ct := K, bk := E.nx } ρ1 S1)
    (h2 : ∀ ρ S, I (i + xs.length) ρ S → ok ρ S ∧ E.nx ρ S) (ρ : Env3) (S : Sto) (h : I i ρ S) : dLp ok g b E xs ρ S := dLp_of (loop_inv0 I xs i h1 h2 ρ S h)
theorem comp_inv {ok : Env3 → Sto → Prop} {g : dTG} {tt : dTT} {te : dTE} {ρ : Env3} {Q : List D → Sto → Prop} (I : Nat → List D → Sto → Prop) : ∀ (xs : List D) (i : Nat),
    (∀ j x, xs[j]? = some x → ∀ acc S (K : DK) (K' : Sto → Prop), I (i + j) acc S → (∀ y S', I (i + j + 1) (acc ++ [y]) S' → K (.d y) S') → (∀ S', I (i + j + 1) acc S' → K' S') →
      ok ρ S ∧ acc.length < sizeLine ∧ ((∀ d S', K d S' → ∃ y, d = .d y) → g x ρ S fun ρ1 S1 => tt ρ1 S1 fun b S2 => Br b (te ρ1 S2 K) (K' S2))) →
    (∀ acc S, I (i + xs.length) acc S → ok ρ S ∧ Q acc S) → ∀ acc S, I i acc S → cLoop ok g tt te ρ Q xs acc S
  | [], i, _, done, acc, S, h => done acc S h
  | x :: xs, i, step, done, acc, S, h => by
    have ih := comp_inv (ok := ok) (g := g) (tt := tt) (te := te) (ρ := ρ) (Q := Q) I xs (i + 1) (fun j y e acc S K K' hI hK hK' => by
      have e1 : i + (j + 1) = i + 1 + j := by omega
      have := step (j + 1) y (by simpa using e) acc S K K'
      rw [e1] at this
      exact this hI hK hK') (fun acc S hI => done acc S (by
      rw [List.length_cons]
      have e1 : i + (xs.length + 1) = i + 1 + xs.length := by omega
      rw [e1]
      exact hI))
    obtain ⟨h1, hl, h2⟩ := step 0 x rfl acc S (fun d S3 => withDs [d] fun ys => acc.length < sizeLine ∧ cLoop ok g tt te ρ Q xs (acc ++ ys) S3) (fun S2 => cLoop ok g tt te ρ Q xs acc S2) h
      (fun y S' hI => ⟨(step 0 x rfl acc S (fun d S3 => True) (fun _ => True) h (fun _ _ _ => trivial) (fun _ _ => trivial)).2.1, ih _ _ hI⟩) (fun S' hI => ih _ _ hI)
    refine ⟨h1, h2 fun d S' hk => ?_⟩
    cases d with
    | d y => exact ⟨y, rfl⟩
    | ref n => exact hk.elim
    | loc n => exact hk.elim
/-- a comprehension that changes nothing: the source's items through f -/
theorem comp_map {g : dTG} {te : dTE} {ρ : Env3} {S : Sto} {Q : List D → Sto → Prop} {ok : Env3 → Sto → Prop} (f : D → D) (xs : List D) (hok : ok ρ S) (hl : xs.length ≤ 16777216)
    (h : ∀ x ∈ xs, ∀ (K : DK) (K' : Sto → Prop), K (.d (f x)) S → g x ρ S fun ρ1 S1 => dYes ρ1 S1 fun b S2 => Br b (te ρ1 S2 K) (K' S2)) (q : Q (xs.map f) S) : cLoop ok g dYes te ρ Q xs [] S := by
  refine comp_inv (fun i acc S' => S' = S ∧ acc = (xs.take i).map f) xs 0 (fun j x e acc S' K K' hI hK hK' => ?_) (fun acc S' hI => ?_) [] S ⟨rfl, rfl⟩
  · obtain ⟨rfl, rfl⟩ := hI
    refine ⟨hok, ?_, fun _ => h x (List.mem_of_getElem? e) K K' (hK _ _ ⟨rfl, ?_⟩)⟩
    · have := (List.getElem?_eq_some_iff.mp e).1
      refine line_lt ?_
      rw [List.length_map, List.length_take]
      omega
    · rw [Nat.zero_add] at *
      rw [List.take_add_one, e, List.map_append]
      rfl
  · obtain ⟨rfl, rfl⟩ := hI
    rw [Nat.zero_add, List.take_length]
    exact ⟨hok, q⟩
end L3

set_option maxHeartbeats 4000000
namespace L3
open PySem PySem.Spec L2

/-! ### sorted -/
def insI (x : Int) : List Int → List Int
  | [] => [x]
  | y :: r => if x ≤ y then x :: y :: r else y :: insI x r
def sortI : List Int → List Int
  | [] => []
  | x :: r => insI x (sortI r)
theorem insI_perm (x : Int) : ∀ l : List Int, (insI x l).Perm (x :: l)
  | [] => .refl _
  | y :: r => by
    unfold insI
    split
    · exact .refl _
    · exact ((insI_perm x r).cons y).trans (List.Perm.swap x y r)
theorem sortI_perm : ∀ l : List Int, (sortI l).Perm l
  | [] => .refl _
  | x :: r => (insI_perm x (sortI r)).trans ((sortI_perm r).cons x)
theorem insI_rise (x : Int) : ∀ {l : List Int}, l.Pairwise (· ≤ ·) → (insI x l).Pairwise (· ≤ ·)
  | [], _ => by simp [insI]
  | y :: r, h => by
    obtain ⟨h1, h2⟩ := List.pairwise_cons.mp h
    unfold insI
    split
    · rename_i hxy
      refine List.pairwise_cons.mpr ⟨fun z hz => ?_, h⟩
      rcases List.mem_cons.mp hz with rfl | hz
      · exact hxy
      · exact Int.le_trans hxy (h1 z hz)
    · rename_i hxy
      refine List.pairwise_cons.mpr ⟨fun z hz => ?_, insI_rise x h2⟩
      rcases List.mem_cons.mp ((insI_perm x r).mem_iff.mp hz) with rfl | hz
      · omega
      · exact h1 z hz
theorem sortI_rise : ∀ l : List Int, (sortI l).Pairwise (· ≤ ·)
  | [] => .nil
  | x :: r => insI_rise x (sortI_rise r)
theorem rise_unique : ∀ {l m : List Int}, l.Pairwise (· ≤ ·) → m.Pairwise (· ≤ ·) → l.Perm m → l = m
  | [], m, _, _, p => by have := p.length_eq; cases m with | nil => rfl | cons => cases this
  | x :: r, [], _, _, p => by have := p.length_eq; cases this
  | x :: r, y :: t, h, k, p => by
    obtain ⟨h1, h2⟩ := List.pairwise_cons.mp h
    obtain ⟨k1, k2⟩ := List.pairwise_cons.mp k
    have e : x = y := by
      have a : y ≤ x := by
        rcases List.mem_cons.mp (p.mem_iff.mp (List.mem_cons_self ..)) with z | z
        · exact Int.le_of_eq z.symm
        · exact k1 x z
      have b : x ≤ y := by
        rcases List.mem_cons.mp (p.mem_iff.mpr (List.mem_cons_self ..)) with z | z
        · exact Int.le_of_eq z.symm
        · exact h1 y z
      exact Int.le_antisymm b a
    subst e
    rw [rise_unique h2 k2 p.cons_inv]
theorem sortI_is {l m : List Int} (p : m.Perm l) (h : m.Pairwise (· ≤ ·)) : m = sortI l := rise_unique h (sortI_rise l) (p.trans (sortI_perm l).symm)
/-- texts, by their signs -/
def leC : List Nat → List Nat → Bool
  | [], _ => true
  | _ :: _, [] => false
  | a :: r, b :: t => if a < b then true else if b < a then false else leC r t
def insS (x : Str) : List Str → List Str
  | [] => [x]
  | y :: r => bif leC x.cps.toList y.cps.toList then x :: y :: r else y :: insS x r
def sortS : List Str → List Str
  | [] => []
  | x :: r => insS x (sortS r)
def fSorted : FN := fun ds k => match ds with
  | [.list xs] => withL (intsOf xs) fun ns => k (.list ((sortI ns).map .int))
  | _ => False
section
variable {X : Cx}
theorem c_sorted : ∃ r, CallR X (.builtin "sorted") r ∧ CallD X.K r fSorted := by
  refine ⟨_, cr_sortedI, fun M H xs ds k Q al rx h fin => ?_⟩
  unfold fSorted at h
  split at h
  · obtain ⟨ns, e, h⟩ := withL_of h
    obtain ⟨v, rfl, r1⟩ := vreps1 rx
    obtain ⟨a, vs, rfl, h1, _, h2⟩ := r1.list'
    rw [intsOf_is e] at h2
    have e3 := RpAll.ints h2
    subst e3
    refine ⟨a, ns, rfl, h1, fun ns' p pm rs hp => ?_⟩
    have e4 := sortI_is pm rs
    subst e4
    refine fin _ _ _ h (sub_upd hp) (new_lst al hp ?_)
    have : ∀ l : List Int, RpAll X.K (Fz H M) (l.map V.int) (l.map .int) := fun l => by
      induction l with
      | nil => exact .nil
      | cons i r ih => exact .cons (.int i) ih
    exact this _
  · exact h.elim
end

/-! ### count -/
open Builtin Builtin.Str StrLaws in
theorem occ_count (x : Str) (c : Nat) : ∀ (k a : Nat) (acc : Array Nat) (free : Nat), free ≤ a → acc.size ≤ a → a + k = x.length + 1 →
    ((forIn (List.range' a k) (acc, free) (occBody x ⟨#[c]⟩ x.length (x.length + 1))).run.fst).size = acc.size + (x.cps.toList.drop a).count c
  | 0, a, acc, free, _, _, h => by
    have : x.cps.toList.drop a = [] := List.drop_eq_nil_of_le (by rw [Array.length_toList]; show x.length ≤ a; omega)
    rw [this]
    rfl
  | k + 1, a, acc, free, hf, hs, h => by
    rw [List.range'_succ, List.forIn_cons]
    unfold occBody
    have key := subAt_one x c a
    by_cases hc : x.cps.toList[a]? = some c
    · obtain ⟨k1, k2⟩ := key.mpr hc
      have hlt : a < x.cps.toList.length := (List.getElem?_eq_some_iff.mp hc).1
      rw [if_pos ⟨⟨⟨by show acc.size < x.length + 1; omega, hf⟩, k1⟩, k2⟩]
      show ((forIn (List.range' (a + 1) k) (acc.push a, a + 1) (occBody x ⟨#[c]⟩ x.length (x.length + 1))).run.fst).size = _
      rw [occ_count x c k (a + 1) (acc.push a) (a + 1) (Nat.le_refl _) (by rw [Array.size_push]; omega) (by omega), Array.size_push, List.drop_eq_getElem_cons hlt, List.count_cons]
      rw [List.getElem?_eq_getElem hlt] at hc
      rw [Option.some.inj hc]
      simp
      omega
    · have hn : ¬ ((((acc, free).fst.size < x.length + 1 ∧ (acc, free).snd ≤ a) ∧ a + (⟨#[c]⟩ : Str).length ≤ x.length) ∧ subAt x ⟨#[c]⟩ a = true) := fun z => hc (key.mp ⟨z.1.2, z.2⟩)
      rw [if_neg hn]
      show ((forIn (List.range' (a + 1) k) (acc, free) (occBody x ⟨#[c]⟩ x.length (x.length + 1))).run.fst).size = _
      rw [occ_count x c k (a + 1) acc free (by omega) (by omega) (by omega)]
      by_cases hlt : a < x.cps.toList.length
      · rw [List.drop_eq_getElem_cons hlt, List.count_cons]
        rw [List.getElem?_eq_getElem hlt] at hc
        have : (x.cps.toList[a] == c) = false := beq_eq_false_iff_ne.mpr fun z => hc (by rw [z])
        rw [this]
        simp
      · rw [List.drop_eq_nil_of_le (by omega), List.drop_eq_nil_of_le (by omega)]
open Builtin Builtin.Str StrLaws in
theorem count_one (x : Str) (c : Nat) : Txt.count x ⟨#[c]⟩ = ((x.cps.toList.count c : Nat) : Int) := by
  unfold Txt.count
  rw [occ_eq, Array.length_toList, occ_count x c _ 0 #[] 0 (Nat.le_refl _) (Nat.zero_le _) (by omega)]
  simp
def fCount : FM := fun x ds k => match x, ds with
  | .str z, [.str ⟨⟨[c]⟩⟩] => k (.int ((z.cps.toList.count c : Nat) : Int))
  | _, _ => False
def fLCount : FM := fun x ds k => match x, ds with
  | .list xs, [.int i] => withL (intsOf xs) fun ns => k (.int ((ns.count i : Nat) : Int))
  | _, _ => False
section
variable {X : Cx}
theorem m_count : ∃ r, MtR X "str.count" r ∧ MtD X.K r fCount := by
  refine ⟨_, mt_count, fun M H x xs dx ds k Q al rx rs h fin => ?_⟩
  unfold fCount at h
  split at h
  · rename_i z c
    obtain ⟨v, rfl, r1⟩ := vreps1 rs
    have e1 := rx.str
    have e2 := r1.str
    subst e1 e2
    refine ⟨_, _, rfl, rfl, ?_⟩
    rw [count_one]
    exact fin _ _ _ h (Sub.refl _) (.int _)
  · exact h.elim
theorem m_lcount : ∃ r, MtR X "list.count" r ∧ MtD X.K r fLCount := by
  refine ⟨_, mt_lcount, fun M H x xs dx ds k Q al rx rs h fin => ?_⟩
  unfold fLCount at h
  split at h
  · obtain ⟨ns, e, h⟩ := withL_of h
    obtain ⟨v, rfl, r1⟩ := vreps1 rs
    have e2 := r1.int
    subst e2
    obtain ⟨a, vs, rfl, h1, _, h2⟩ := rx.list'
    rw [intsOf_is e] at h2
    have e3 := RpAll.ints h2
    subst e3
    exact ⟨a, ns, _, rfl, rfl, h1, fin _ _ _ h (Sub.refl _) (.int _)⟩
  · exact h.elim
end

/-! ### a new list by + and * -/
def fRep (t : dTF) (te : dTE) : dTF := fun ρ S Q => t ρ S fun xs S1 => te ρ S1 fun d S2 => match d with
  | .d (.int n) => (-(2 ^ 63) ≤ n ∧ n < 2 ^ 63 ∧ xs.length * n.toNat ≤ sizeLine) ∧ Q (List.replicate n.toNat xs).flatten S2
  | _ => False
section
variable {X : Cx}
theorem df_rep {a b : Expr} {t : dTF} {te : dTE} {pos : Pos} (ha : DF X a t) (hb : DE X b te) : DF X (.BinOp a .Mult b pos) (fRep t te) := PE.imp (pe_op op_rep ha hb) fun σ H Q q => by
  obtain ⟨F, m, o, ρ, S, k, rel, t0, hk⟩ := q
  refine ⟨F, m, o, ρ, S, _, rel, t0, fun xs S1 m1 H1 p vs h r g hp dp => ?_⟩
  have s1 : Sub H1 (upd H1 p (.lst vs)) := sub_upd hp
  have r1 := r.sub s1
  refine ⟨F, m1, o, ρ, S1, _, r1, h, fun d S2 m2 H2 v h2 r2 g2 q2 => ?_⟩
  split at h2
  · rename_i n
    obtain ⟨⟨c1, c2, c3⟩, h2⟩ := h2
    have rl : Rp X.K (Fz (upd H1 p (.lst vs)) (Mu F m1 o)) (.ref p) (.list xs) := new_lst r.st.liv hp dp
    have rl2 : Rp X.K (Fz H2 (Mu F m2 o)) (.ref p) (.list xs) := Rp.sub g2.z rl
    cases rl2 with
    | @lst a ws ds e1 e2 =>
      refine ⟨p, n, _, rfl, dp_int q2, (Fz.at e1).2, c1, c2, by rw [RpAll.length e2]; exact c3, fun p2 hp2 => ?_⟩
      exact hk _ S2 m2 H2 p2 _ h2 r2 ((g.trans (Grow.sub r s1)).trans g2) hp2 (flat_rep e2 _)
  · exact h2.elim
end

/-! ### xs[i] += e, xs one's own -/
def dAugI (i : Nat) (f : F2) (tk te : dTE) : dTS := fun E ρ S => match ρ[i]? with
  | some (.own (.lst xs)) => tk ρ S fun kd S1 => match kd with
    | .d (.int j) => ∃ n x, ixN xs.length j = some n ∧ xs[n]? = some x ∧ te ρ S1 fun d S2 => match d with
      | .d y => f x y fun z => E.nx (ρ.set i (.own (.lst (xs.set n z)))) S2
      | _ => False
    | _ => False
  | _ => False
section
variable {X : Cx}
theorem atI_of_ixN {α : Type} {xs : List α} {i : Int} {n : Nat} {x : α} (h : ixN xs.length i = some n) (e : xs[n]? = some x) : atI xs i = some x := by
  unfold atI
  rw [h]
  exact e
theorem get_list : PGet X (rIxL X.K) := by
  intro pins s σ H o i ov iv Q I ro ri h
  obtain ⟨p, xs, i, z, rfl, rfl, hq, he, q⟩ := h
  cases ro
  obtain ⟨t, rfl⟩ := ri
  obtain ⟨its, r, pl, hz⟩ := I.list hq
  obtain ⟨j, h1, h2, h3, h4, h5⟩ := atI_get he
  obtain ⟨w, ew, rw'⟩ := r.get h2
  have hl := r.length
  have hn := line63
  have fin : EP X pins σ Q w s := ⟨z, H, I, rw', q⟩
  by_cases h0 : 0 ≤ i
  · have hj : i.toNat = j := by
      rw [seqIndex_of h0 h5] at h1
      exact Option.some.inj h1
    exact wpAny_getItem_list pl.isList h0 (by omega) (by rw [hj]; simpa using ew) fin
  · have hj : (i + (its.toArray.size : Int)).toNat = j := by
      rw [seqIndex_neg (by omega) h4] at h1
      rw [List.size_toArray, ← hl]
      exact Option.some.inj h1
    exact wpAny_getItem_list_neg pl.isList (by omega) (by rw [List.size_toArray] <;> omega) (by omega) (by rw [hj]; simpa using ew) fin
end
end L3

set_option maxHeartbeats 4000000
namespace L3
open PySem PySem.Spec L2 PyProof.Rows

/-! ### what an iterator walks: a list, a tuple, a text -/
inductive Wk where
  | L (a : Addr)
  | T (a : Addr)
  | S (z : Str) (t : Tok)
def Wk.its (it : Addr) (i : Nat) (h : Heap) : Wk → Prop
  | .L a => h.IsListIter it a i
  | .T a => h.IsTupleIter it a i
  | .S z t => h.IsStrIter it (strIterType z) z t i
def Wk.own : Wk → List Addr
  | .L a => [a]
  | .T a => [a]
  | .S _ _ => []
/-- n items stand -/
def Wk.len (K : PySem.W.Frag) (H : Hp) (n : Nat) : Wk → Prop
  | .L a => ∃ xs, SqL K H a xs ∧ xs.length = n
  | .T a => ∃ xs, SqT K H a xs ∧ xs.length = n
  | .S z _ => z.cps.size = n
def Wk.is (K : PySem.W.Frag) (H : Hp) (i : Nat) (x : V) : Wk → Prop
  | .L a => ∀ xs, SqL K H a xs → xs[i]? = some x
  | .T a => ∀ xs, SqT K H a xs → xs[i]? = some x
  | .S z _ => ∃ c, z.cps[i]? = some c ∧ x = .str ⟨#[c]⟩
theorem wk_obj {k : Wk} {it : Addr} {i : Nat} {h : Heap} (st : k.its it i h) : ∃ o, h.get? it = some o ∧ ∀ v, o.data ≠ .cell v := by
  cases k with
  | L a => obtain ⟨o, e, _, d⟩ := st; exact ⟨o, e, fun v q => by rw [d] at q; cases q⟩
  | T a => obtain ⟨o, e, _, d⟩ := st; exact ⟨o, e, fun v q => by rw [d] at q; cases q⟩
  | S z t => obtain ⟨o, e, _, d⟩ := st; exact ⟨o, e, fun v q => by rw [d] at q; cases q⟩
theorem wk_at {k : Wk} {it : Addr} {i : Nat} {h h' : Heap} (st : k.its it i h) (e : ∀ o, h.get? it = some o → h'.get? it = some o) : k.its it i h' := by
  cases k with
  | L a => exact st.at e
  | T a => exact st.at e
  | S z t => obtain ⟨o, q, r⟩ := st; exact ⟨o, e o q, r⟩
theorem vals_getV : ∀ {xs : List V} {us : List Value} {i : Nat} {u : Value}, Vals xs us → us[i]? = some u → ∃ x, xs[i]? = some x ∧ RelV x u
  | _, _, _, _, .nil, e => by simp at e
  | _, _, 0, _, .cons r _, e => by simp at e; subst e; exact ⟨_, rfl, r⟩
  | _, _, i + 1, u, .cons _ t, e => by
    obtain ⟨x, h1, h2⟩ := vals_getV (i := i) (u := u) t (by simpa using e)
    exact ⟨x, by simpa using h1, h2⟩
theorem wk_draws {X : Cx} {pins : List (Addr × Obj)} {σ : L2.St} {H : Hp} {s : Shared} {k : Wk} {it : Addr} {i n : Nat} (I : Inv X pins σ H s) (hh : X.A.handled = none) (ne : it ∉ k.own) (st : k.its it i s.heap) (hn : k.len X.K H n) :
    ∃ (P : Nat → Value → Prop) (St : Nat → Heap → Prop), Draws X.prog X.w X.A.in1 it (it :: k.own) n P St ∧ St i s.heap ∧ (∀ j h, St j h → k.its it j h) ∧ ∀ j u, P j u → ∃ x, RelV x u ∧ k.is X.K H j x := by
  cases k with
  | L a =>
    obtain ⟨xs, hq, rfl⟩ := hn
    obtain ⟨its, rv, p, _⟩ := I.list hq
    have D := Draws.list (prog := X.prog) (w := X.w) (A := X.A.in1) hh it a (fun e => ne (by simp [Wk.own, e])) its.toArray
    rw [List.size_toArray, ← rv.length] at D
    refine ⟨fun i v => its.toArray[i]? = some v, fun i h => h.IsListIter it a i ∧ h.IsList a its.toArray, D, ⟨st, p.isList⟩, fun j h q => q.1, fun j u hu => ?_⟩
    obtain ⟨x, hx, r⟩ := vals_getV rv (by simpa using hu)
    exact ⟨x, r, fun ys hy => by rw [I.list_inj hy hq]; exact hx⟩
  | T a =>
    obtain ⟨xs, hq, rfl⟩ := hn
    obtain ⟨its, rv, p, _⟩ := I.tuple hq
    have D := Draws.tuple (prog := X.prog) (w := X.w) (A := X.A.in1) hh it a (fun e => ne (by simp [Wk.own, e])) its.toArray
    rw [List.size_toArray, ← rv.length] at D
    refine ⟨fun i v => its.toArray[i]? = some v, fun i h => h.IsTupleIter it a i ∧ h.IsTuple a its.toArray, D, ⟨st, p⟩, fun j h q => q.1, fun j u hu => ?_⟩
    obtain ⟨x, hx, r⟩ := vals_getV rv (by simpa using hu)
    exact ⟨x, r, fun ys hy => by rw [I.tuple_inj hy hq]; exact hx⟩
  | S z t =>
    obtain rfl : z.cps.size = n := hn
    refine ⟨_, _, Draws.text (prog := X.prog) (w := X.w) (A := X.A.in1) hh it z t, st, fun j h q => q, fun j u hu => ?_⟩
    obtain ⟨c, tk, e, rfl⟩ := hu
    exact ⟨.str ⟨#[c]⟩, ⟨tk, rfl⟩, c, e, rfl⟩

/-! ### zip of any two -/
def ItZ (K : PySem.W.Frag) (k1 k2 : Wk) : It :=
  ⟨fun i H => ∃ n m, k1.len K H n ∧ k2.len K H m ∧ i < n ∧ i < m,
    fun i H v H' => ∃ T x y, v = .ref T ∧ H T = none ∧ H' = upd H T (.tup [x, y]) ∧ k1.is K H i x ∧ k2.is K H i y,
    fun i H => ∃ n m, k1.len K H n ∧ k2.len K H m ∧ i ≤ n ∧ i ≤ m ∧ (i = n ∨ i = m)⟩
theorem turn_zipW {P : Program} {w : World} {K : PySem.W.Frag} {elts : List Expr} {kk : Nat} {tpos : Pos} {k1 k2 : Wk} {z TI TO i1 i2 : Addr} (D : ZipSep2 z TI TO i1 i2 (i1 :: k1.own) (i2 :: k2.own)) (n1 : i1 ∉ k1.own) (n2 : i2 ∉ k2.own) :
    Turn P w K (.Tuple elts kk tpos) (ItZ K k1 k2) [z, TI, TO, i1, i2] z (fun i h => IsZip h z TI TO .none ∧ IsTupOf2 h TI (.ref i1) (.ref i2) ∧ (∃ x y, IsTupOf2 h TO x y) ∧ k1.its i1 i h ∧ k2.its i2 i h) where
  mem := by simp
  obj := fun i h st c hc => by
    obtain ⟨hz, hTI, ⟨x, y, hTO⟩, h1, h2⟩ := st
    have e' : c = z ∨ c = TI ∨ c = TO ∨ c = i1 ∨ c = i2 := by simpa using hc
    rcases e' with q | q | q | q | q
    · rw [q]; exact ⟨_, hz, fun v q => nomatch q⟩
    · rw [q]; exact ⟨_, hTI, fun v q => nomatch q⟩
    · rw [q]; exact ⟨_, hTO, fun v q => nomatch q⟩
    · rw [q]; exact wk_obj h1
    · rw [q]; exact wk_obj h2
  keep := fun i h h' st k => by
    obtain ⟨hz, hTI, ⟨x, y, hTO⟩, h1, h2⟩ := st
    exact ⟨k z (by simp) _ hz, k TI (by simp) _ hTI, ⟨x, y, k TO (by simp) _ hTO⟩, wk_at h1 fun o q => k i1 (by simp) o q, wk_at h2 fun o q => k i2 (by simp) o q⟩
  item := by
    intro X hP hw hK hc i pins s σ H E I hf st hg
    subst hP hw hK
    obtain ⟨hz, hTI, ⟨x0, y0, hTO⟩, h1, h2⟩ := st
    obtain ⟨n, m, hn, hm, hi1, hi2⟩ := hg
    obtain ⟨P1, St1, D1, s1, b1, r1⟩ := wk_draws I (I.ok.hd hc) n1 h1 hn
    obtain ⟨P2, St2, D2, s2, b2, r2⟩ := wk_draws I (I.ok.hd hc) n2 h2 hm
    have hzl : z < s.heap.objs.size := Heap.lt_size hz
    refine wpAny_pyNext_zipD2_item D D1 D2 hz hTI hTO s1 s2 hi1 hi2 fun u u2 h' tk p1 p2 z' TO' h1' h2' hT hsz hk => ?_
    obtain ⟨x, ru, hx⟩ := r1 _ _ p1
    obtain ⟨y, ru2, hy⟩ := r2 _ _ p2
    refine ⟨_, rfl, wpAny_letOwnedTupleGo_zip (s := { s with heap := h', toks := tk }) z' fun h'' z'' sb => ?_⟩
    have hT2 : h''.get? s.heap.objs.size = some { cls := .type "tuple", data := .seq #[u, u2] } := (sb.2 _ (Nat.ne_of_gt hzl)).trans hT
    have new : ObjOk X.prog X.w (upd H s.heap.objs.size (.tup [x, y])) h'' s.heap.objs.size (.tup [x, y]) :=
      ⟨by show 2 ≤ sizeLine; decide, [u, u2], .cons ru (.cons ru2 .nil), ⟨_, hT2, rfl, _, rfl⟩⟩
    have I1 : Inv X pins σ (upd H s.heap.objs.size (.tup [x, y])) { s with heap := h'', toks := tk } :=
      I.turnedNew (t' := tk) (ch := [z, TI, TO, i1, i2]) (fun c o hb q => (sb.2 c (fun q' => hb (by simp [q']))).trans (hk c o (fun q' => hb (by simp [q'])) (fun q' => hb (by simp [q'])) (fun q' => hb (by simp [q'])) (fun q' => hb (by simp [q'])) q)) hf (Nat.le_refl _) new
    refine ⟨.ref s.heap.objs.size, _, I1, rfl, ⟨_, x, y, rfl, I.hok.fresh (Nat.le_refl _), rfl, hx, hy⟩, ⟨z'', ?_, ⟨u, u2, ?_⟩, ?_, ?_⟩, fun c hcm => ?_⟩
    · exact (sb.2 _ D.TIz).trans (hk _ _ D.TIz D.TITO D.TIi1 D.TIi2 hTI)
    · exact (sb.2 _ D.TOz).trans TO'
    · exact wk_at (b1 _ _ h1') fun o q => (sb.2 _ (Ne.symm D.zi1)).trans q
    · exact wk_at (b2 _ _ h2') fun o q => (sb.2 _ (Ne.symm D.zi2)).trans q
    · have hlt : c < s.heap.objs.size := by
        have e' : c = z ∨ c = TI ∨ c = TO ∨ c = i1 ∨ c = i2 := by simpa using hcm
        rcases e' with q | q | q | q | q
        · rw [q]; exact hzl
        · rw [q]; exact Heap.lt_size hTI
        · rw [q]; exact Heap.lt_size hTO
        · rw [q]; obtain ⟨_, e1, _⟩ := wk_obj h1; exact Heap.lt_size e1
        · rw [q]; obtain ⟨_, e2, _⟩ := wk_obj h2; exact Heap.lt_size e2
      rw [upd_ne (Nat.ne_of_lt hlt)]
      exact (hf c hcm).1
  done := by
    intro X hP hw hK hc i pins s σ H E I hf st hg
    subst hP hw hK
    obtain ⟨hz, hTI, ⟨x0, y0, hTO⟩, h1, h2⟩ := st
    obtain ⟨n, m, hn, hm, hi1, hi2, hend⟩ := hg
    obtain ⟨P1, St1, D1, s1, b1, r1⟩ := wk_draws I (I.ok.hd hc) n1 h1 hn
    obtain ⟨P2, St2, D2, s2, b2, r2⟩ := wk_draws I (I.ok.hd hc) n2 h2 hm
    exact wpAny_pyNext_zipD2_end D D1 D2 hz hTI hTO s1 s2 hi1 hi2 hend fun h' tk hk => ⟨rfl, I.turnedL (t' := tk) (ch := [z, TI, TO, i1, i2]) (fun c o hb q =>
      hk c o (fun q' => hb (by simp [q'])) (fun q' => hb (by simp [q'])) (fun q' => hb (by simp [q'])) (fun q' => hb (by simp [q'])) q) hf⟩
  self := fun A i s Q E st h => wpAny_pyIter_zip st.1 h
/-- a value that is walked -/
inductive Walked (K : PySem.W.Frag) (H : Hp) : V → Wk → Prop
  | l {a : Addr} {xs : List V} : SqL K H a xs → Walked K H (.ref a) (.L a)
  | t {a : Addr} {xs : List V} : SqT K H a xs → Walked K H (.ref a) (.T a)
  | s {z : Str} {t : Tok} : Walked K H (.str z) (.S z t)
def Wk.obj : Wk → Obj
  | .L a => { cls := .type "list_iterator", data := .fields #[.ref a, .int 0 0] }
  | .T a => { cls := .type "tuple_iterator", data := .fields #[.ref a, .int 0 0] }
  | .S z t => { cls := .type (strIterType z), data := .fields #[.str z t, .int 0 0] }
/-- as the machine begins -/
theorem walked_begins {X : Cx} {pins : List (Addr × Obj)} {σ : L2.St} {H : Hp} {s : Shared} {v : V} {u : Value} {k : Wk} (I : Inv X pins σ H s) (r : RelV v u) (h : Walked X.K H v k) :
    ∃ (k' : Wk) (Hs : Heap → Prop), Begins u k'.obj Hs ∧ Hs s.heap ∧ (∀ b ∈ k'.own, b < s.heap.objs.size) ∧ (∀ it h, h.get? it = some k'.obj → k'.its it 0 h) ∧ (∀ n H, k.len X.K H n ↔ k'.len X.K H n) ∧ ∀ i x H, k.is X.K H i x ↔ k'.is X.K H i x := by
  cases h with
  | @l a xs h =>
    cases r
    obtain ⟨its, rv, p, _⟩ := I.list h
    refine ⟨.L a, _, begins_list a its.toArray, p.isList, fun b hb => ?_, fun it h e => ⟨_, e, rfl, rfl⟩, fun _ _ => .rfl, fun _ _ _ => .rfl⟩
    have e : b = a := by simpa [Wk.own] using hb
    rw [e]
    exact p.lt
  | @t a xs h =>
    cases r
    obtain ⟨its, rv, p, _⟩ := I.tuple h
    refine ⟨.T a, _, begins_tuple a its.toArray, p, fun b hb => ?_, fun it h e => ⟨_, e, rfl, rfl⟩, fun _ _ => .rfl, fun _ _ _ => .rfl⟩
    have e : b = a := by simpa [Wk.own] using hb
    rw [e]
    obtain ⟨o1, ho1, _⟩ := id p
    exact Heap.lt_size ho1
  | @s z t =>
    obtain ⟨t', rfl⟩ := r
    exact ⟨.S z t', _, begins_text z t', trivial, fun b hb => (by cases hb), fun it h e => ⟨_, e, rfl, rfl⟩, fun _ _ => .rfl, fun _ _ _ => .rfl⟩
def iZipW (K : PySem.W.Frag) (ta : TA) : TI := fun σ H R => ta σ H fun vs H1 => ∃ v1 v2 k1 k2, vs = [v1, v2] ∧ Walked K H1 v1 k1 ∧ Walked K H1 v2 k2 ∧
  ∀ k1' k2' : Wk, (∀ n H, k1.len K H n ↔ k1'.len K H n) → (∀ i x H, k1.is K H i x ↔ k1'.is K H i x) → (∀ n H, k2.len K H n ↔ k2'.len K H n) → (∀ i x H, k2.is K H i x ↔ k2'.is K H i x) → R (ItZ K k1' k2') H1
theorem pi_zipW {X : Cx} {e e2 : Expr} {ta : TA} {p pos tpos : Pos} {elts : List Expr} {kk : Nat} (hg : Gl X "zip") (hm : X.mg "zip" = none) (ha : PA X [e, e2] ta)
    (hs : starEach [e, e2] X.env = (false, eval e X.env) :: starEach [e2] X.env := by rfl) (hpl : (backTo pos (starEach [e2] X.env)).any (·.1) = false := by rfl) :
    PI X (.Tuple elts kk tpos) (.Call (.Name "zip" p) [e, e2] [] pos) (iZipW X.K ta) := by
  refine ⟨fun pins s σ H R I h => ?_⟩
  refine Call_ (ld_blt I hg hm PyProof.Rows.boot_zip (PyProof.Rows.callWith_type1 (thn (ha.run pos pins s σ H _ I h) fun us s1 ⟨vs, H1, I1, r1, q1⟩ => ?_) hs hpl))
  obtain ⟨v1, v2, k1, k2, ex, w1, w2, q1⟩ := q1
  subst ex
  cases r1 with
  | cons r rr =>
    cases rr with
    | cons r' rr =>
      cases rr
      obtain ⟨k1', Hs1, B1, b1, l1, t1, ln1, is1⟩ := walked_begins I1 r w1
      obtain ⟨k2', Hs2, B2, b2, l2, t2, ln2, is2⟩ := walked_begins I1 r' w2
      refine zip_begins2 B1 B2 b1 b2 fun h' hz hTI hTO h1 h2 hsz hk => wpAny_pyIter_zip hz ?_
      have I2 : Inv X pins σ H1 { s1 with heap := h' } := I1.kept (t' := s1.toks) hk
      refine ⟨s1.heap.objs.size + 4, [s1.heap.objs.size + 4, s1.heap.objs.size + 2, s1.heap.objs.size + 3, s1.heap.objs.size, s1.heap.objs.size + 1], _, _, H1, rfl, I2,
        turn_zipW (zip_sep2 l1 l2) (fun q => Nat.lt_irrefl _ (l1 _ q)) (fun q => ?_), ⟨hz, hTI, ⟨_, _, hTO⟩, t1 _ _ h1, t2 _ _ h2⟩, fun c hcm => ?_, q1 k1' k2' ln1 is1 ln2 is2⟩
      · have := l2 _ q
        have h9 : (s1.heap.objs.size + 1 : Nat) < s1.heap.objs.size := this
        omega
      · have e' : c = s1.heap.objs.size + 4 ∨ c = s1.heap.objs.size + 2 ∨ c = s1.heap.objs.size + 3 ∨ c = s1.heap.objs.size ∨ c = s1.heap.objs.size + 1 := by simpa using hcm
        have hle : s1.heap.objs.size ≤ c := by
          rcases e' with z | z | z | z | z
          · rw [z]; exact Nat.le_add_right _ _
          · rw [z]; exact Nat.le_add_right _ _
          · rw [z]; exact Nat.le_add_right _ _
          · rw [z]; exact Nat.le_refl _
          · rw [z]; exact Nat.le_add_right _ _
        exact I1.fpOk hle (I1.hok.fresh hle)

/-! ### enumerate of any -/
def ItE (K : PySem.W.Frag) (k : Wk) : It :=
  ⟨fun i H => ∃ n, k.len K H n ∧ i < n,
    fun i H v H' => ∃ T x, v = .ref T ∧ H T = none ∧ H' = upd H T (.tup [.int (i : Nat), x]) ∧ k.is K H i x,
    fun i H => k.len K H i⟩
theorem turn_enumW {P : Program} {w : World} {K : PySem.W.Frag} {elts : List Expr} {kk : Nat} {tpos : Pos} {k : Wk} {e it : Addr} (ne : e ≠ it) (n1 : it ∉ k.own) (n2 : e ∉ k.own) :
    Turn P w K (.Tuple elts kk tpos) (ItE K k) [e, it] e (fun i h => (∃ old, IsEnum h e it ((i : Nat) : Int) old) ∧ k.its it i h) where
  mem := by simp
  obj := fun i h st b hb => by
    obtain ⟨⟨old, he⟩, hi⟩ := st
    have e' : b = e ∨ b = it := by simpa using hb
    rcases e' with z | z
    · rw [z]; exact ⟨_, he, fun v q => nomatch q⟩
    · rw [z]; exact wk_obj hi
  keep := fun i h h' st k => let ⟨⟨old, he⟩, hi⟩ := st; ⟨⟨old, k e (by simp) _ he⟩, wk_at hi fun o q => k it (by simp) o q⟩
  item := by
    intro X hP hw hK hc i pins s σ H E I hf st hg
    subst hP hw hK
    obtain ⟨⟨old, he⟩, hit⟩ := st
    obtain ⟨n, hn, hi⟩ := hg
    obtain ⟨P1, St1, D1, s1, b1, r1⟩ := wk_draws I (I.ok.hd hc) n1 hit hn
    have hel : e < s.heap.objs.size := Heap.lt_size he
    have hil : it < s.heap.objs.size := by obtain ⟨_, q, _⟩ := wk_obj hit; exact Heap.lt_size q
    refine wpAny_pyNext_enum_itemD D1 he s1 hi ne (fun q => by rcases List.mem_cons.mp q with q | q; exact ne q; exact n2 q) fun u h' tk p1 ho hit' hT hsz hk => ?_
    obtain ⟨x, ru, hx⟩ := r1 _ _ p1
    refine ⟨_, rfl, wpAny_letOwnedTupleGo_enum (s := { s with heap := h', toks := tk + 1 }) ho fun h'' he' sb => ?_⟩
    have hT2 : h''.get? s.heap.objs.size = some { cls := .type "tuple", data := .seq #[.int i tk, u] } := (sb.2 _ (Nat.ne_of_gt hel)).trans hT
    have new : ObjOk X.prog X.w (upd H s.heap.objs.size (.tup [.int (i : Nat), x])) h'' s.heap.objs.size (.tup [.int (i : Nat), x]) :=
      ⟨by show 2 ≤ sizeLine; decide, [.int i tk, u], .cons ⟨_, rfl⟩ (.cons ru .nil), ⟨_, hT2, rfl, _, rfl⟩⟩
    have I1 : Inv X pins σ (upd H s.heap.objs.size (.tup [.int (i : Nat), x])) { s with heap := h'', toks := tk + 1 } :=
      I.turnedNew (ch := [e, it]) (fun b ob hb q => (sb.2 b (fun z => hb (by simp [z]))).trans (hk b ob (fun z => hb (by simp [z])) (fun z => hb (by simp [z])) q)) hf (Nat.le_refl _) new
    refine ⟨.ref s.heap.objs.size, _, I1, rfl, ⟨_, x, rfl, I.hok.fresh (Nat.le_refl _), rfl, hx⟩, ⟨⟨u, ?_⟩, wk_at (b1 _ _ hit') fun o q => (sb.2 it (Ne.symm ne)).trans q⟩, fun b hb => ?_⟩
    · have e1 : ((i + 1 : Nat) : Int) = (i : Int) + 1 := by omega
      rw [e1]; exact he'
    · have hb' : b < s.heap.objs.size := by
        have e' : b = e ∨ b = it := by simpa using hb
        rcases e' with z | z
        · rw [z]; exact hel
        · rw [z]; exact hil
      rw [upd_ne (Nat.ne_of_lt hb')]
      exact (hf b hb).1
  done := by
    intro X hP hw hK hc i pins s σ H E I hf st hg
    subst hP hw hK
    obtain ⟨⟨old, he⟩, hit⟩ := st
    obtain ⟨P1, St1, D1, s1, b1, r1⟩ := wk_draws I (I.ok.hd hc) n1 hit (show k.len X.K H i from hg)
    obtain ⟨f0, f1, f2, f3, f4, f5⟩ := hf it (by simp)
    exact wpAny_pyNext_enum_endD D1 he s1 fun h' eb => ⟨rfl, I.turned (t' := s.toks) (fun b o hb q => eb b o hb q) f0 f1 f3 f4 f5⟩
  self := fun A i s Q E st h => let ⟨⟨_, he⟩, _⟩ := st; wpAny_pyIter_enum he h

set_option maxHeartbeats 1000000 in
theorem meets_enumerate_newB1 {v : Value} {o : Obj} {H : Heap → Prop} (B : Begins v o H) :
    Meets (Builtin.«enumerate.__new__» ⟨[.type "enumerate", v], []⟩) (fun _ R s => H s.heap ∧
      R (.ok (.ret (.ref (s.heap.push o).objs.size))) { s with heap := (s.heap.push o).push { cls := .type "enumerate", data := .fields #[.none, .bool false, .ref s.heap.objs.size, rawInt 0, .none, .none] } }) :=
  .of_wp fun prog w A R s h => by
    obtain ⟨hp, g, d, tk, os⟩ := s; obtain ⟨h1, h⟩ := h
    have hsub := sub_enumerate
    have q1 : ∀ {A' : Around} {E : Value → Shared → Prop} {Q : Value → Shared → Prop}, Q (.ref hp.objs.size) ⟨hp.push o, g, d, tk, os⟩ → wpAny (model prog w) A' (pyIter v) Q E ⟨hp, g, d, tk, os⟩ :=
      fun q => B.iter prog w _ _ ⟨hp, g, d, tk, os⟩ _ h1 q
    wp_walk using q1
    refine wpAny_stack_any fun st => wpAny_pure ?_
    split
    · rename_i c _ _ _ _ _
      cases (c == Value.type "enumerate")
      · wp_walk using q1
        exact ⟨_, rfl, h⟩
      · wp_walk using q1
        exact ⟨_, rfl, h⟩
    · wp_walk using q1
      exact ⟨_, rfl, h⟩
section
variable {prog : Program} {w : World} {A : Around} {E : Value → Shared → Prop} {s : Shared}
theorem enum_begins1 {v : Value} {o : Obj} {H : Heap → Prop} {Q : Value → Shared → Prop} (B : Begins v o H) (h1 : H s.heap)
    (h : ∀ h', IsEnum h' (s.heap.objs.size + 1) s.heap.objs.size 0 .none → h'.get? s.heap.objs.size = some o → h'.objs.size = s.heap.objs.size + 2 →
      (∀ b o, s.heap.get? b = some o → h'.get? b = some o) → Q (.ref (s.heap.objs.size + 1)) { s with heap := h' }) :
    wpAny (model prog w) A (call (.type "enumerate") [v]) Q E s := by
  refine callType_new F.called_enumerate (by decide) (F.typeCall_enumerate_1 _) (F.newCall_enumerate_1 _) (fun obj => F.args_object_init_2 obj _) F.entry_enumerate_new
    (meets_enumerate_newB1 B) ⟨h1, ?_⟩
  have hz : (s.heap.push o).objs.size = s.heap.objs.size + 1 := Heap.size_push ..
  show _ ∧ _
  rw [hz]
  have he : IsEnum ((s.heap.push o).push { cls := .type "enumerate", data := .fields #[.none, .bool false, .ref s.heap.objs.size, rawInt 0, .none, .none] }) (s.heap.objs.size + 1) s.heap.objs.size 0 .none := by
    have := Heap.get?_push_size (s.heap.push o) (o := { cls := .type "enumerate", data := .fields #[.none, .bool false, .ref s.heap.objs.size, rawInt 0, .none, .none] }) rfl
    rw [hz] at this; exact this
  refine ⟨⟨_, he, rfl⟩, h _ he (Heap.get?_push_of_some _ (Heap.get?_push_size _ B.free)) (by rw [Heap.size_push, hz]) fun b o x => Heap.get?_push_of_some _ (Heap.get?_push_of_some _ x)⟩
end
def iEnumW (K : PySem.W.Frag) (ta : TA) : TI := fun σ H R => ta σ H fun vs H1 => ∃ v1 k1, vs = [v1] ∧ Walked K H1 v1 k1 ∧
  ∀ k1' : Wk, (∀ n H, k1.len K H n ↔ k1'.len K H n) → (∀ i x H, k1.is K H i x ↔ k1'.is K H i x) → R (ItE K k1') H1
theorem pi_enumW {X : Cx} {e : Expr} {ta : TA} {p pos tpos : Pos} {elts : List Expr} {kk : Nat} (hg : Gl X "enumerate") (hm : X.mg "enumerate" = none) (ha : PA X [e] ta) (hs : starEach [e] X.env = [(false, eval e X.env)] := by rfl) :
    PI X (.Tuple elts kk tpos) (.Call (.Name "enumerate" p) [e] [] pos) (iEnumW X.K ta) := by
  refine ⟨fun pins s σ H R I h => ?_⟩
  refine Call_ (ld_blt I hg hm boot_enumerate (PyProof.Rows.callWith_type1 (thn (ha.run pos pins s σ H _ I h) fun us s1 ⟨vs, H1, I1, r1, q1⟩ => ?_) hs rfl))
  obtain ⟨v1, k1, ex, w1, q1⟩ := q1
  subst ex
  cases r1 with
  | cons r rr =>
    cases rr
    obtain ⟨k1', Hs1, B1, b1, l1, t1, ln1, is1⟩ := walked_begins I1 r w1
    refine enum_begins1 B1 b1 fun h' he hit hsz hk => wpAny_pyIter_enum he ?_
    have I2 : Inv X pins σ H1 { s1 with heap := h' } := I1.kept (t' := s1.toks) hk
    refine ⟨s1.heap.objs.size + 1, [s1.heap.objs.size + 1, s1.heap.objs.size], _, _, H1, rfl, I2, turn_enumW (Nat.succ_ne_self _) (fun q => Nat.lt_irrefl _ (l1 _ q)) (fun q => ?_), ⟨⟨.none, he⟩, t1 _ _ hit⟩, fun b hb => ?_, q1 k1' ln1 is1⟩
    · have := l1 _ q
      have h9 : (s1.heap.objs.size + 1 : Nat) < s1.heap.objs.size := this
      omega
    · have e' : b = s1.heap.objs.size + 1 ∨ b = s1.heap.objs.size := by simpa using hb
      have hle : s1.heap.objs.size ≤ b := by
        rcases e' with z | z
        · rw [z]; exact Nat.le_add_right _ _
        · rw [z]; exact Nat.le_refl _
      exact I1.fpOk hle (I1.hok.fresh hle)

/-! ### by data -/
def srcOf : D → Option (List D)
  | .list xs => some xs
  | .tuple xs => some xs
  | .str z => some (signs z)
  | _ => none
def okOf (d : DV) (x : D) (ρ : Env3) (S : Sto) : Prop := match x with
  | .list xs => view ρ S d = .list xs
  | _ => True
theorem wk_of {K : PySem.W.Frag} {F : Addr → Prop} {m o : Nat → Option Addr} {ρ : Env3} {S : Sto} {σ : L2.St} {H : Hp} {v : V} {d : DV} {x : D} {xs : List D} (r : Rel K F m o ρ S σ H) (q : DRep K F m o H v d) (nd : isLoc d = false) (hv : view ρ S d = x) (hx : srcOf x = some xs) :
    ∃ k, Walked K H v k ∧ ∀ (F2 : Addr → Prop) (m2 o2 : Nat → Option Addr) (ρ2 : Env3) (S2 : Sto) (σ2 : L2.St) (H2 : Hp), Rel K F2 m2 o2 ρ2 S2 σ2 H2 → Sub (Fz H (Mu F m o)) (Fz H2 (Mu F2 m2 o2)) → (∀ n a, m n = some a → m2 n = some a) → okOf d x ρ2 S2 →
      k.len K H2 xs.length ∧ ∀ i y, xs[i]? = some y → ∀ w, k.is K H2 i w → Rp K (Fz H2 (Mu F2 m2 o2)) w y := by
  have rv := r.view q
  rw [hv] at rv
  cases x with
  | list ys =>
    cases hx
    obtain ⟨a, vs, rfl, h1, h1', h2⟩ := rv.list'
    refine ⟨.L a, .l h1, fun F2 m2 o2 ρ2 S2 σ2 H2 r2 gz gm okk => ?_⟩
    obtain ⟨b, ws, e, h3, h3', h4⟩ := src_list q nd hv r2 gz gm okk
    cases e
    refine ⟨⟨ws, h3, RpAll.length h4⟩, fun i y hy w hw => ?_⟩
    obtain ⟨w', e1, e2⟩ := RpAll.get h4 hy
    have := (hw ws h3).symm.trans e1
    cases this
    exact e2
  | tuple ys =>
    cases hx
    cases d with
    | d y =>
      have : y = .tuple xs := hv
      subst this
      obtain ⟨a, vs, rfl, h1, h1', hn, h2⟩ := rv.tup'
      refine ⟨.T a, .t h1, fun F2 m2 o2 ρ2 S2 σ2 H2 r2 gz gm okk => ?_⟩
      obtain ⟨b, ws, e, h3, h3', _, h4⟩ := VRep.tup' (.d (Rp.sub gz q) : VRep K H2 (Fz H2 (Mu F2 m2 o2)) (.ref a) (.tuple xs))
      cases e
      refine ⟨⟨ws, h3, RpAll.length h4⟩, fun i y hy w hw => ?_⟩
      obtain ⟨w', e1, e2⟩ := RpAll.get h4 hy
      have := (hw ws h3).symm.trans e1
      cases this
      exact e2
    | ref n =>
      have : ∀ c, cellD c ≠ .tuple xs := fun c e => by cases c <;> cases e
      exfalso
      unfold view at hv
      cases e : S[n]? with
      | none => simp [e] at hv
      | some c => simp [e] at hv; exact this c hv
    | loc j => cases nd
  | str z =>
    cases hx
    have e := rv.str
    subst e
    refine ⟨.S z 0, .s, fun F2 m2 o2 ρ2 S2 σ2 H2 r2 gz gm okk => ⟨by show z.cps.size = (signs z).length; unfold signs; rw [List.length_map, Array.length_toList], fun i y hy w hw => ?_⟩⟩
    unfold signs at hy
    rw [List.getElem?_map] at hy
    obtain ⟨c, e1, rfl⟩ := hw
    rw [← Array.getElem?_toList] at e1
    rw [e1] at hy
    cases hy
    exact .str _
  | none => cases hx
  | bool b => cases hx
  | int b => cases hx
  | dict b => cases hx
def enumD (xs : List D) : Nat → List D
  | k => (xs.zipIdx k).map fun p => .tuple [.int (p.2 : Nat), p.1]
theorem enumD_len (xs : List D) (k : Nat) : (enumD xs k).length = xs.length := by simp [enumD]
theorem enumD_get {xs : List D} {i : Nat} {x : D} (h : (enumD xs 0)[i]? = some x) : ∃ y, xs[i]? = some y ∧ x = .tuple [.int (i : Nat), y] := by
  unfold enumD at h
  rw [List.getElem?_map, List.getElem?_zipIdx] at h
  cases e : xs[i]? with
  | none => rw [e] at h; cases h
  | some y => rw [e] at h; cases h; exact ⟨y, rfl, by simp⟩
def zipD (xs ys : List D) : List D := (xs.zip ys).map fun p => .tuple [p.1, p.2]
theorem zipD_len (xs ys : List D) : (zipD xs ys).length = min xs.length ys.length := by simp [zipD]
theorem zipD_get {xs ys : List D} {i : Nat} {x : D} (h : (zipD xs ys)[i]? = some x) : ∃ a b, xs[i]? = some a ∧ ys[i]? = some b ∧ x = .tuple [a, b] := by
  unfold zipD at h
  rw [List.getElem?_map, Option.map_eq_some_iff] at h
  obtain ⟨p, hp, rfl⟩ := h
  obtain ⟨h1, h2⟩ := List.getElem?_zip_eq_some.mp hp
  exact ⟨_, _, h1, h2, rfl⟩
def dEnum (ta : dTA) : dTI := fun ρ S K => ta ρ S fun ds S1 => match ds with
  | [d] => nl d (match srcOf (view ρ S1 d) with
    | some xs => K ⟨enumD xs 0, okOf d (view ρ S1 d)⟩ S1
    | none => False)
  | _ => False
def dZip (ta : dTA) : dTI := fun ρ S K => ta ρ S fun ds S1 => match ds with
  | [d, e] => nl d (nl e (match srcOf (view ρ S1 d), srcOf (view ρ S1 e) with
    | some xs, some ys => K ⟨zipD xs ys, fun ρ' S' => okOf d (view ρ S1 d) ρ' S' ∧ okOf e (view ρ S1 e) ρ' S'⟩ S1
    | _, _ => False))
  | _ => False
theorem di_enum {X : Cx} {e : Expr} {ta : dTA} {p pos tpos : Pos} {elts : List Expr} {kk : Nat} (hm : X.mg "enumerate" = none) (hg : Gl X "enumerate") (ha : DA X [e] ta) (hs : starEach [e] X.env = [(false, eval e X.env)] := by rfl) :
    DI X (.Tuple elts kk tpos) (.Call (.Name "enumerate" p) [e] [] pos) (dEnum ta) := PI.imp (pi_enumW hg hm ha hs) fun σ H R q => by
  obtain ⟨F, m, o, ρ, S, k, rel, t, hk⟩ := q
  refine ⟨F, m, o, ρ, S, _, rel, t, fun ds S1 m1 H1 vs h r g q => ?_⟩
  split at h
  · rename_i d
    obtain ⟨nd, h⟩ := nl_of h
    cases q with
    | @cons v _ _ _ q q0 =>
      cases q0
      split at h
      · rename_i xs hx
        obtain ⟨w, wk, st⟩ := wk_of r q nd rfl hx
        refine ⟨v, w, rfl, wk, fun w' ln is => hk _ S1 m1 H1 _ h r g ⟨fun i F2 m2 o2 ρ2 S2 σ2 H2 r2 gz gm okk x hx => ?_, fun i F2 m2 o2 ρ2 S2 σ2 H2 r2 gz gm okk hx => ?_⟩⟩
        · obtain ⟨y, hy, rfl⟩ := enumD_get hx
          obtain ⟨a1, a2⟩ := st F2 m2 o2 ρ2 S2 σ2 H2 r2 gz gm okk
          refine ⟨⟨_, (ln _ _).mp a1, (List.getElem?_eq_some_iff.mp hy).1⟩, fun u H3 hyl => ?_⟩
          obtain ⟨T, z, rfl, hT, rfl, hz⟩ := hyl
          exact ⟨sub_upd hT, new_tup r2.st.liv hT (.cons (.int _) (.cons (a2 i y hy z ((is _ _ _).mpr hz)) .nil))⟩
        · obtain ⟨a1, a2⟩ := st F2 m2 o2 ρ2 S2 σ2 H2 r2 gz gm okk
          have e : (enumD xs 0).length = i := hx
          rw [enumD_len] at e
          subst e
          exact (ln _ _).mp a1
      · exact h.elim
  · exact h.elim
theorem di_zip {X : Cx} {e e2 : Expr} {ta : dTA} {p pos tpos : Pos} {elts : List Expr} {kk : Nat} (hm : X.mg "zip" = none) (hg : Gl X "zip") (ha : DA X [e, e2] ta)
    (hs : starEach [e, e2] X.env = (false, eval e X.env) :: starEach [e2] X.env := by rfl) (hpl : (backTo pos (starEach [e2] X.env)).any (·.1) = false := by rfl) :
    DI X (.Tuple elts kk tpos) (.Call (.Name "zip" p) [e, e2] [] pos) (dZip ta) := PI.imp (pi_zipW hg hm ha hs hpl) fun σ H R q => by
  obtain ⟨F, m, o, ρ, S, k, rel, t, hk⟩ := q
  refine ⟨F, m, o, ρ, S, _, rel, t, fun ds S1 m1 H1 vs h r g q => ?_⟩
  split at h
  · rename_i d d'
    obtain ⟨nd, h⟩ := nl_of h
    obtain ⟨nd', h⟩ := nl_of h
    cases q with
    | @cons v _ _ _ q q0 =>
      cases q0 with
      | @cons v' _ _ _ q' q0 =>
        cases q0
        split at h
        · rename_i xs ys hx hx'
          obtain ⟨w, wk, st⟩ := wk_of r q nd rfl hx
          obtain ⟨w', wk', st'⟩ := wk_of r q' nd' rfl hx'
          refine ⟨v, v', w, w', rfl, wk, wk', fun u u' ln is ln' is' => hk _ S1 m1 H1 _ h r g ⟨fun i F2 m2 o2 ρ2 S2 σ2 H2 r2 gz gm okk x hx => ?_, fun i F2 m2 o2 ρ2 S2 σ2 H2 r2 gz gm okk hx => ?_⟩⟩
          · obtain ⟨y, y', hy, hy', rfl⟩ := zipD_get hx
            obtain ⟨a1, a2⟩ := st F2 m2 o2 ρ2 S2 σ2 H2 r2 gz gm okk.1
            obtain ⟨a1', a2'⟩ := st' F2 m2 o2 ρ2 S2 σ2 H2 r2 gz gm okk.2
            refine ⟨⟨_, _, (ln _ _).mp a1, (ln' _ _).mp a1', (List.getElem?_eq_some_iff.mp hy).1, (List.getElem?_eq_some_iff.mp hy').1⟩, fun u H3 hyl => ?_⟩
            obtain ⟨T, z, z', rfl, hT, rfl, hz, hz'⟩ := hyl
            exact ⟨sub_upd hT, new_tup r2.st.liv hT (.cons (a2 i y hy z ((is _ _ _).mpr hz)) (.cons (a2' i y' hy' z' ((is' _ _ _).mpr hz')) .nil))⟩
          · obtain ⟨a1, a2⟩ := st F2 m2 o2 ρ2 S2 σ2 H2 r2 gz gm okk.1
            obtain ⟨a1', a2'⟩ := st' F2 m2 o2 ρ2 S2 σ2 H2 r2 gz gm okk.2
            have e : (zipD xs ys).length = i := hx
            rw [zipD_len] at e
            exact ⟨_, _, (ln _ _).mp a1, (ln' _ _).mp a1', by omega, by omega, by omega⟩
        · exact h.elim
  · exact h.elim
end L3

set_option maxHeartbeats 4000000
namespace L3
open PySem PySem.Spec L2 PyProof.Rows
section
variable {X : Cx}
theorem ds_augI {i : Nat} {x k e : Expr} {tk te : dTE} {op : Operator} {f : F2} {pos tpos : Pos} (ho : ∃ r, PIp X op r ∧ OpD X.K r f) (hx : PE X x (tVar i)) (hk : DE X k tk) (he : DE X e te)
    (ha : ∀ ov iv new, augStore k ov iv new = (do holding [new, ov, iv] (setItem ov iv new); release [new, ov, iv] []; pure .next) := by intros; rfl) : DS X (.AugAssign (.Subscript x k tpos) op e pos) (dAugI i f tk te) := by
  obtain ⟨r, hp, hf⟩ := ho
  refine PS.imp (ps_augS hx hk get_list he hp set_list ha) fun E σ H q => ?_
  obtain ⟨F, m, o, ρ, S, E', rel, t, ok⟩ := q
  unfold dAugI at t
  split at t
  · rename_i xs e0
    obtain ⟨a, h1, h2, _⟩ := rel.sl i _ e0
    refine ⟨_, h2, F, m, o, ρ, S, _, rel, t, fun kd S1 m1 H1 v h r1 g1 q1 => ?_⟩
    split at h
    · rename_i j
      obtain ⟨n, y, hn, hy, h⟩ := h
      obtain ⟨b, k1, k2, ws, k3, k4⟩ := r1.sl i _ e0
      have hb := k1.symm.trans h1
      cases hb
      obtain ⟨w, ew, rw'⟩ := RpAll.get k4 hy
      refine ⟨_, ws, j, w, rfl, dp_int q1, SqL.of k3, atI_of_ixN (by rw [RpAll.length k4]; exact hn) ew, F, m1, o, ρ, S1, _, r1, h, fun d S2 m2 H2 u h r2 g2 q2 => ?_⟩
      split at h
      · rename_i y2
        refine hf (Mu F m2 o) H2 w u y y2 _ _ r2.st.liv (.d (Rp.sub g2.z rw')) (.d q2) h fun z v' H3 hz hs hr => ?_
        have r3 := r2.sub hs
        obtain ⟨b, k1, k2, ws3, k3, k4⟩ := r3.sl i _ e0
        have hb := k1.symm.trans h1
        cases hb
        refine ⟨_, ws3, j, n, rfl, dp_int q1, k3, by rw [RpAll.length k4]; exact hn, ?_⟩
        have hi : i < ρ.length := (List.getElem?_eq_some_iff.mp e0).1
        obtain ⟨r4, g4⟩ := r3.wrO (u := .lst (ws3.set n v')) (c := .lst (xs.set n z)) h1 hi h2 ⟨_, upd_same, RpAll.sub (fz_wr (.inr (.inr ⟨i, h1⟩))) (RpAll.set hr n k4)⟩
        exact ok.nx _ S2 m2 o σ _ hz r4 (((g1.trans g2).trans (Grow.sub r2 hs)).trans g4)
      · exact h.elim
    · exact h.elim
  · exact t.elim
end

/-! ### a < b < c -/
def dChain (f g : F2) (ta tb tc : dTE) : dTE := fun ρ S Q => ta ρ S fun d S1 => tb ρ S1 fun e S2 => f (view ρ S2 d) (view ρ S2 e) fun z => match z with
  | .bool c => Br c (tc ρ S2 fun e2 S3 => g (view ρ S3 e) (view ρ S3 e2) fun z => Q (.d z) S3) (Q (.d (.bool false)) S2)
  | _ => False
theorem lift_chain {K : PySem.W.Frag} {r r' : R2} {f g : F2} {ta tb tc : dTE} (hf : OpD K r f) (hg : OpD K r' g) {σ : L2.St} {H : Hp} {Q : VK} (h : lift K (dChain f g ta tb tc) σ H Q) : tChain r r' (lift K ta) (lift K tb) (lift K tc) σ H Q := by
  obtain ⟨F, m, o, ρ, S, k, rel, t, hk⟩ := h
  refine ⟨F, m, o, ρ, S, _, rel, t, fun d S1 m1 H1 v h1 rel1 g1 r1 => ?_⟩
  refine ⟨F, m1, o, ρ, S1, _, rel1, h1, fun e S2 m2 H2 w h2 rel2 g2 r2 => ?_⟩
  refine hf (Mu F m2 o) H2 v w _ _ _ _ rel2.st.liv (rel2.view (r1.grow g2)) (rel2.view r2) h2 fun z u H' kz s dz => ?_
  split at kz
  · rename_i c
    refine ⟨c, dp_bl dz, ?_⟩
    have rel3 := rel2.sub s
    have g3 := Grow.sub rel2 s
    cases c with
    | true =>
      rw [if_pos rfl]
      refine ⟨F, m2, o, ρ, S2, _, rel3, Br.eT kz, fun e2 S3 m3 H3 u3 h3 rel4 g4 r4 => ?_⟩
      exact hg (Mu F m3 o) H3 w u3 _ _ _ _ rel4.st.liv (rel4.view ((r2.grow g3).grow g4)) (rel4.view r4) h3 fun z u H' kz s dz =>
        hk (.d z) S3 m3 H' u kz (rel4.sub s) (((g1.trans g2).trans g3).trans (g4.trans (Grow.sub rel4 s))) dz
    | false =>
      rw [if_neg Bool.false_ne_true]
      exact hk (.d (.bool false)) S2 m2 H' (.bl false) (Br.eF kz) rel3 ((g1.trans g2).trans g3) (.bl false)
  · exact kz.elim
section
variable {X : Cx}
theorem de_chain {a b c : Expr} {ta tb tc : dTE} {op op' : CmpOp} {pos : Pos} {f g : F2} (ho : ∃ r, OpR X (compareOp op) r ∧ OpD X.K r f) (ho' : ∃ r, OpR X (compareOp op') r ∧ OpD X.K r g) (ha : DE X a ta) (hb : DE X b tb) (hc : DE X c tc)
    (hm : lastMarks [op, op'] [b, c] = false := by with_unfolding_all rfl) : DE X (.Compare a [op, op'] [b, c] pos) (dChain f g ta tb tc) :=
  let ⟨r, h1, h2⟩ := ho; let ⟨r', h1', h2'⟩ := ho'; PE.imp (pe_chain h1 h1' ha hb hc hm) fun _ _ _ => lift_chain h2 h2'
theorem dt_chain {a b c : Expr} {ta tb tc : dTE} {op op' : CmpOp} {pos : Pos} {f g : F2} (ho : ∃ r, OpR X (compareOp op) r ∧ OpD X.K r f) (ho' : ∃ r, OpR X (compareOp op') r ∧ OpD X.K r g) (ha : DE X a ta) (hb : DE X b tb) (hc : DE X c tc)
    (hm : lastMarks [op, op'] [b, c] = false := by with_unfolding_all rfl) : DT X (.Compare a [op, op'] [b, c] pos) (dB (dChain f g ta tb tc)) :=
  let ⟨r, h1, h2⟩ := ho; let ⟨r', h1', h2'⟩ := ho'; PT.imp (pt_chain h1 h1' ha hb hc hm) fun σ H Q q => by
    have h := lift_b q
    exact lift_chain h2 h2' h
end

/-! ### range with a step -/
def rngC (lo c : Int) (n : Nat) : List D := (List.range n).map fun i => .int (lo + (i : Nat) * c)
theorem rngC_len (lo c : Int) (n : Nat) : (rngC lo c n).length = n := by unfold rngC; rw [List.length_map, List.length_range]
theorem rngC_get {lo c : Int} {n i : Nat} {x : D} (h : (rngC lo c n)[i]? = some x) : i < n ∧ x = .int (lo + (i : Nat) * c) := by
  unfold rngC at h
  rw [List.getElem?_map, Option.map_eq_some_iff] at h
  obtain ⟨j, e, rfl⟩ := h
  obtain ⟨h1, h2⟩ := List.getElem?_eq_some_iff.mp e
  rw [List.getElem_range] at h2
  subst h2
  exact ⟨by rwa [List.length_range] at h1, rfl⟩
theorem goes_rngC {K : PySem.W.Frag} {F : Addr → Prop} {m o : Nat → Option Addr} {H : Hp} (lo c : Int) (n : Nat) : Goes K F m o H (Itc lo c n) ⟨rngC lo c n, fun _ _ => True⟩ where
  go := fun i F2 m2 o2 ρ2 S2 σ2 H2 r2 gz gm okk x hx => by
    obtain ⟨h1, rfl⟩ := rngC_get hx
    exact ⟨h1, fun v H3 hy => by obtain ⟨rfl, rfl⟩ := hy; exact ⟨Sub.refl _, .int _⟩⟩
  stop := fun i F2 m2 o2 ρ2 S2 σ2 H2 r2 gz gm okk hx => by
    have hx : (rngC lo c n).length = i := hx
    rw [rngC_len] at hx
    exact Nat.le_of_eq hx
/-- how many turns -/
def rngN (i j c : Int) : Nat := if 0 < c then ((j - i + c - 1) / c).toNat else ((i - j + (-c) - 1) / (-c)).toNat
def dRng3 (ta : dTA) : dTI := fun ρ S K => ta ρ S fun ds S1 => match ds with
  | [.d (.int i), .d (.int j), .d (.int c)] => small62 i ∧ small62 j ∧ (c ≠ 0 ∧ -1073741824 < c ∧ c < 1073741824) ∧ K ⟨rngC i c (rngN i j c), fun _ _ => True⟩ S1
  | _ => False
end L3

set_option maxHeartbeats 4000000
namespace L3
open PySem PySem.Spec L2 PyProof.Rows
section
variable {prog : Program} {w : World} {A : Around} {E : Value → Shared → Prop} {s : Shared}
theorem slicePart_intP {v : Value} {o : Option Int} {Q : Option Int → Shared → Prop} (p : IsPart v o) (h : Q o s) : wpAny (model prog w) A (Builtin.Slice.slicePartIndex v) Q E s := HT.slicePart_ p h
theorem sliceApplied_rev {sl : Addr} {vl vu vs : Value} {n : Nat} {Q : Int × Int × Nat → Shared → Prop} (hs : s.heap.IsSliceOf sl vl vu vs) (pl : IsPart vl none) (pu : IsPart vu none) (ps : IsPart vs (some (-1)))
    (h : Q ((n : Int) - 1, -1, n) s) : wpAny (model prog w) A (Builtin.Slice.sliceApplied (.ref sl) (pure (n : Int))) Q E s := by
  obtain ⟨os, hos, hcs, hds⟩ := id hs
  unfold Builtin.Slice.sliceApplied Builtin.Slice.sliceFields
  refine wpAny_bind (wpAny_bind (wpAny_field hos hds (x := vl) rfl (wpAny_bind (wpAny_field hos hds (x := vu) rfl (wpAny_bind (wpAny_field hos hds (x := vs) rfl (wpAny_pure ?_)))))))
  refine wpAny_bind (HT.slicePart_ ps ?_)
  show wpAny _ _ (if ((-1 : Int) == 0) = true then _ else _) _ _ s
  rw [if_neg (by decide)]
  refine wpAny_bind (HT.slicePart_ pl (wpAny_bind (HT.slicePart_ pu (wpAny_bind (wpAny_pure ?_)))))
  show wpAny _ _ (match Builtin.Slice.sliceAdjust none none (-1) (n : Int) with | (lo, hi) => pure (lo, (-1 : Int), Builtin.Slice.slicePlaces lo hi (-1))) _ _ s
  have e1 : Builtin.Slice.sliceAdjust none none (-1) (n : Int) = ((n : Int) - 1, -1) := rfl
  rw [e1]
  have e2 : Builtin.Slice.slicePlaces ((n : Int) - 1) (-1) (-1) = n := by
    unfold Builtin.Slice.slicePlaces
    have h1 : ¬ ((-1 : Int) > 0) := by decide
    simp only [h1, if_false]
    have e3 : (- -1 : Int) = 1 := by decide
    rw [e3]
    simp only [Int.ediv_one]
    split <;> omega
  show wpAny _ _ (pure ((n : Int) - 1, (-1 : Int), Builtin.Slice.slicePlaces ((n : Int) - 1) (-1) (-1))) _ _ s
  rw [e2]
  exact wpAny_pure h
theorem filterMap_all {α : Type} (l : List α) : ∀ k, k ≤ l.length → (List.range k).filterMap (fun m => l[m]?) = l.take k
  | 0, _ => by simp
  | k + 1, h => by
    rw [List.range_succ, List.filterMap_append, filterMap_all l k (by omega), List.take_add_one]
    simp [List.getElem?_eq_getElem (show k < l.length by omega)]
theorem fm_congr {α β : Type} {f g : α → Option β} : ∀ {l : List α}, (∀ x ∈ l, f x = g x) → l.filterMap f = l.filterMap g
  | [], _ => rfl
  | a :: l, h => by
    rw [List.filterMap_cons, List.filterMap_cons, h a (List.mem_cons_self ..), fm_congr (l := l) fun x hx => h x (List.mem_cons_of_mem _ hx)]
theorem pick_rev (xs : Array Value) : ((List.range xs.size).filterMap fun (m : Nat) => xs[(((xs.size : Nat) : Int) - 1 + (m : Int) * (-1)).toNat]?).toArray = xs.toList.reverse.toArray := by
  congr 1
  have e : (List.range xs.size).filterMap (fun (m : Nat) => xs[(((xs.size : Nat) : Int) - 1 + (m : Int) * (-1)).toNat]?) = (List.range xs.size).filterMap fun m => xs.toList.reverse[m]? := by
    apply fm_congr
    intro m hm
    have hm' : m < xs.size := List.mem_range.mp hm
    have : ((((xs.size : Nat) : Int) - 1 + (m : Int) * (-1))).toNat = xs.size - 1 - m := by omega
    rw [this, List.getElem?_reverse (by rw [Array.length_toList]; exact hm'), Array.length_toList, Array.getElem?_toList]
  rw [e, filterMap_all _ _ (by rw [List.length_reverse, Array.length_toList]; exact Nat.le_refl _), List.take_of_length_le (by rw [List.length_reverse, Array.length_toList]; exact Nat.le_refl _)]
theorem getItem_tuple_rev {t sl : Addr} {items : Array Value} {vl vu vs : Value} {Q : Value → Shared → Prop} (ht : IsTup s.heap t items) (hs : s.heap.IsSliceOf sl vl vu vs) (pl : IsPart vl none) (pu : IsPart vu none) (ps : IsPart vs (some (-1)))
    (h : Q (.ref s.heap.objs.size) { s with heap := s.heap.push { cls := .type "tuple", data := .seq items.toList.reverse.toArray } })
    (hsz : items.size ≤ sizeLine) : wpAny (model prog w) A (getItem (.ref t) (.ref sl)) Q E s := by
  have htake : sizeOk (.seq items.toList.reverse.toArray) := by
    show items.toList.reverse.toArray.size ≤ sizeLine
    rw [List.size_toArray, List.length_reverse, Array.length_toList]
    exact hsz
  obtain ⟨os, hos, hcs, hds⟩ := id hs
  have hTs : s.TypeIs (.ref sl) "slice" := ⟨os, hos, hcs⟩
  unfold getItem
  try with_reducible refine wpAny_holding ?_
  first | refine wpAny_bind (wpAny_pure ?_) | skip
  refine wpAny_bind (wpAny_sequenceKey ht.typeIs (by decide) ?_)
  refine wpAny_bind (wpAny_callSpecial?_slot (name := Str.ofString "__getitem__") ht.typeIs PyProof.Rows.slot_tuple_getitem
    (wpAny_call_entry PyProof.Rows.slot_tuple_getitem ht.typeIs entry_tuple_getitem ?_ (args_tuple_getitem _ _)))
  show wpAny _ _ (Builtin.Tuple.tupleItemsOf (.ref t) >>= _) _ _ s
  refine wpAny_bind (tupleItemsOf_ ht ?_)
  refine wpAny_bind (wpAny_typeOf hTs ?_)
  rw [if_pos (by decide)]
  refine wpAny_bind (sliceApplied_rev hs pl pu ps ?_)
  have hno : ¬ ((((items.size : Nat) : Int) - 1 == 0 && (-1 : Int) == 1 && items.size == items.size) = true) := by
    intro q
    rw [Bool.and_eq_true, Bool.and_eq_true] at q
    exact absurd q.1.2 (by decide)
  show wpAny _ _ (if ((((items.size : Nat) : Int) - 1 == 0 && (-1 : Int) == 1 && items.size == items.size) = true) then _ else _) _ _ s
  rw [if_neg hno, pick_rev]
  first
    | exact wpAny_bind (m := Builtin.Tuple.tupleExact _) (wpAny_newObj_type (wpAny_pure ⟨_, rfl, wpAny_pure h⟩) htake)
    | exact wpAny_bind (m := Builtin.Tuple.tupleExact _) (wpAny_newObj_type (wpAny_bind (wpAny_pure (wpAny_pure ⟨_, rfl, wpAny_pure h⟩))) htake)
    | exact wpAny_bind (wpAny_bind (m := Builtin.Tuple.tupleExact _) (wpAny_newObj_type (wpAny_pure (wpAny_pure ⟨_, rfl, wpAny_pure h⟩)) htake))
    | exact wpAny_bind (wpAny_bind (m := Builtin.Tuple.tupleExact _) (wpAny_newObj_type (wpAny_pure ⟨_, rfl, wpAny_pure h⟩) htake))
end
def revS (z : Str) : Str := ⟨z.cps.toList.reverse.toArray⟩
theorem sliceBy_rev (z : Str) (u : Tok) : Txt.sliceBy z none none (-1, u) = revS z := by
  have h := step_rev_list z u
  have e : (List.range z.length).map (fun k => z.cps.getD (z.length - 1 - k) 0) = z.cps.toList.reverse := by
    apply List.ext_getElem?
    intro i
    rw [List.getElem?_map]
    by_cases hi : i < z.length
    · have hi' : i < z.cps.toList.length := by rw [Array.length_toList]; exact hi
      rw [List.getElem?_range hi, List.getElem?_reverse hi', Array.length_toList]
      have hs : z.cps.size - 1 - i < z.cps.size := by
        have : i < z.cps.size := hi
        omega
      rw [Array.getElem?_toList, Array.getElem?_eq_getElem hs]
      show some (z.cps.getD (z.cps.size - 1 - i) 0) = _
      rw [Array.getD_eq_getD_getElem?, Array.getElem?_eq_getElem hs]
      rfl
    · rw [List.getElem?_eq_none (by rw [List.length_range]; omega), List.getElem?_eq_none (by rw [List.length_reverse, Array.length_toList]; exact Nat.le_of_not_lt hi)]
      rfl
  rw [e] at h
  generalize Txt.sliceBy z none none (-1, u) = y at h
  obtain ⟨⟨l⟩⟩ := y
  have hl : l = z.cps.toList.reverse := h
  subst hl
  rfl
/-- xs[::-1], xs a list, a tuple, a text -/
def tRevA (K : PySem.W.Frag) (te : TE) : TE := fun σ H Q => te σ H fun x H1 =>
  (∃ a xs, x = .ref a ∧ SqL K H1 a xs ∧ ∀ p, H1 p = none → Q (.ref p) (upd H1 p (.lst xs.reverse))) ∨
  (∃ a xs, x = .ref a ∧ SqT K H1 a xs ∧ ∀ p, H1 p = none → Q (.ref p) (upd H1 p (.tup xs.reverse))) ∨
  ∃ z, x = .str z ∧ z.length ≤ sizeLine ∧ Q (.str (revS z)) H1
theorem pe_revA {X : Cx} {e : Expr} {te : TE} {k : Nat} {p1 p2 p3 pos : Pos} (he : PE X e te) : PE X (.Subscript e (.Slice none none (some (.UnaryOp .USub (.Constant (.int 1) k p1) p2)) p3) pos) (tRevA X.K te) := by
  refine ⟨fun pins s σ H Q I h => ?_⟩
  refine Subscript_ (thn (he.run pins s σ H _ I h) fun v s1 ⟨x, H1, I1, r1, q1⟩ => ?_)
  have hst : PO X (some (.UnaryOp .USub (.Constant (.int 1) k p1) p2)) (tPart (tUn (rU fun i => .int (-i)) (tC (.int 1)))) := po_some (pe_un un_neg pe_int)
  refine wpAny_Slice (thn (po_none.run pins s1 σ H1 (fun o H2 => o = none ∧ H2 = H1) I1 ⟨rfl, rfl⟩) fun vl s2 ⟨l, H2, I2, pl, el, e2⟩ => ?_)
  subst el e2
  refine thn (po_none.run pins s2 σ H2 (fun o H3 => o = none ∧ H3 = H2) I2 ⟨rfl, rfl⟩) fun vu s3 ⟨u, H3, I3, pu, eu, e3⟩ => ?_
  subst eu e3
  refine thn (hst.run pins s3 σ H3 (fun o H4 => o = some (-1) ∧ H4 = H3) I3 ⟨1, rfl, -1, rfl, rfl, rfl⟩) fun vs s4 ⟨o, H4, I4, ps, eo, e4⟩ => ?_
  subst eo e4
  have I5 : Inv X pins σ H4 { s4 with heap := s4.heap.push { cls := .type "slice", data := .fields #[vl, vu, vs] } } := I4.kept (t' := s4.toks) fun b ob q => Heap.get?_push_of_some _ q
  show wpAny (model X.prog X.w) X.A (subscriptTail e (.Slice none none (some (.UnaryOp .USub (.Constant (.int 1) k p1) p2)) p3) v (.ref s4.heap.objs.size)) (EP X pins σ Q) X.xe { s4 with heap := s4.heap.push { cls := .type "slice", data := .fields #[vl, vu, vs] } }
  rcases q1 with ⟨a, xs, ex, hx, q⟩ | ⟨a, xs, ex, hx, q⟩ | ⟨z, ex, hz, q⟩
  · subst ex
    cases r1
    obtain ⟨its, r, ht, hz⟩ := I5.list hx
    have hlen := r.length
    refine tail_any (ops := [.ref a, .ref s4.heap.objs.size]) ht.isList.typeIs (PySem.slot_list_getitem.lookup) ?_ (by with_unfolding_all rfl)
    refine wpAny_getItem_list_slice ht.isList (Heap.IsSliceOf.new _ vl vu vs) pl pu ps (by decide) ?_ (by rw [List.size_toArray]; omega)
    rw [PySem.W.krv_pick]
    refine ⟨.ref _, _, I5.laid (t' := s4.toks) (o := .lst xs.reverse) (fun b ob q => Heap.get?_push_of_some _ q) (Nat.le_refl _) ?_, rfl, q _ (I5.hok.fresh (Nat.le_refl _))⟩
    exact ⟨by rw [List.length_reverse]; exact hz, _, 0, r.reverse, Heap.get?_push_size _ rfl⟩
  · subst ex
    cases r1
    obtain ⟨its, r, ht, hz⟩ := I5.tuple hx
    have hlen := r.length
    refine tail_any (ops := [.ref a, .ref s4.heap.objs.size]) ht.typeIs (PyProof.Rows.slot_tuple_getitem.lookup) ?_ (by with_unfolding_all rfl)
    refine getItem_tuple_rev ht (Heap.IsSliceOf.new _ vl vu vs) pl pu ps ?_ (by rw [List.size_toArray]; omega)
    refine ⟨.ref _, _, I5.laid (t' := s4.toks) (o := .tup xs.reverse) (fun b ob q => Heap.get?_push_of_some _ q) (Nat.le_refl _) ?_, rfl, q _ (I5.hok.fresh (Nat.le_refl _))⟩
    exact ⟨by rw [List.length_reverse]; exact hz, _, r.reverse, ⟨_, Heap.get?_push_size _ rfl, rfl, _, rfl⟩⟩
  · subst ex
    obtain ⟨t, rfl⟩ := r1
    cases pl
    cases pu
    cases ps with
    | int _ tk =>
      refine tail_any (ops := [.ref s4.heap.objs.size, .str z t]) (typeIs_str _ _ _) PySem.F.slot_str_getitem.lookup ?_ (by with_unfolding_all rfl)
      have hmade : (Txt.sliceBy z none none (-1, tk)).length ≤ z.length := Txt.sliceBy_le z none none (-1, tk) (show (-1 : Int) ≠ 0 by decide)
      refine wpAny_getItem_str_slice (l := none) (u := none) (st := some (-1, tk)) ⟨_, Heap.get?_push_size _ rfl, rfl, rfl⟩ (show ((-1 : Int) == 0) = false by decide) (post_val_or_str ⟨Nat.le_trans hmade hz, fun t' c => ?_⟩)
      show EP X pins σ Q (Value.str (Txt.sliceBy z none none (-1, tk)) t') _
      rw [sliceBy_rev z tk]
      exact ⟨.str (revS z), H4, I5.tok c, ⟨_, rfl⟩, q⟩
def fRevA : F1 := fun x k => match x with
  | .list xs => k (.list xs.reverse)
  | .tuple xs => k (.tuple xs.reverse)
  | .str z => z.length ≤ sizeLine ∧ k (.str (revS z))
  | _ => False
theorem de_revA {X : Cx} {e : Expr} {te : dTE} {k : Nat} {p1 p2 p3 pos : Pos} (he : DE X e te) : DE X (.Subscript e (.Slice none none (some (.UnaryOp .USub (.Constant (.int 1) k p1) p2)) p3) pos) (dUn fRevA te) :=
  PE.imp (pe_revA he) fun σ H Q q => by
    obtain ⟨F, m, o, ρ, S, k, rel, t, hk⟩ := q
    refine ⟨F, m, o, ρ, S, _, rel, t, fun d S1 m1 H1 v h1 rel1 g1 r1 => ?_⟩
    have rv := rel1.view r1
    unfold fRevA at h1
    split at h1
    · rename_i xs hz
      rw [hz] at rv
      obtain ⟨a, vs, rfl, e1, e1', e2⟩ := rv.list'
      exact .inl ⟨a, vs, rfl, e1, fun p hp => hk _ S1 m1 _ _ h1 (rel1.sub (sub_upd hp)) (g1.trans (Grow.sub rel1 (sub_upd hp))) (new_lst rel1.st.liv hp (RpAll.reverse e2))⟩
    · rename_i xs hz
      rw [hz] at rv
      obtain ⟨a, vs, rfl, e1, e1', _, e2⟩ := rv.tup'
      exact .inr (.inl ⟨a, vs, rfl, e1, fun p hp => hk _ S1 m1 _ _ h1 (rel1.sub (sub_upd hp)) (g1.trans (Grow.sub rel1 (sub_upd hp))) (new_tup rel1.st.liv hp (RpAll.reverse e2))⟩)
    · rename_i z hz
      rw [hz] at rv
      exact .inr (.inr ⟨z, rv.str, h1.1, hk _ S1 m1 _ _ h1.2 rel1 g1 (.str _)⟩)
    · exact h1.elim
end L3

set_option maxHeartbeats 4000000
namespace L3
open PySem PySem.Spec L2
/-! ### comprehensions over told items -/
theorem comp_mapE {β : Type} {g : dTG} {te : dTE} {ρ : Env3} {S : Sto} {Q : List D → Sto → Prop} {ok : Env3 → Sto → Prop} (enc : β → D) (f : β → D) (ys : List β) (hok : ok ρ S) (hl : ys.length ≤ 16777216)
    (h : ∀ y ∈ ys, ∀ (K : DK) (K' : Sto → Prop), K (.d (f y)) S → g (enc y) ρ S fun ρ1 S1 => dYes ρ1 S1 fun b S2 => Br b (te ρ1 S2 K) (K' S2)) (q : Q (ys.map f) S) : cLoop ok g dYes te ρ Q (ys.map enc) [] S := by
  refine comp_inv (fun i acc S' => S' = S ∧ acc = (ys.take i).map f) (ys.map enc) 0 (fun j x e acc S' K K' hI hK hK' => ?_) (fun acc S' hI => ?_) [] S ⟨rfl, rfl⟩
  · obtain ⟨rfl, rfl⟩ := hI
    rw [List.getElem?_map, Option.map_eq_some_iff] at e
    obtain ⟨y, e, rfl⟩ := e
    refine ⟨hok, ?_, fun _ => h y (List.mem_of_getElem? e) K K' (hK _ _ ⟨rfl, ?_⟩)⟩
    · have := (List.getElem?_eq_some_iff.mp e).1
      refine line_lt ?_
      rw [List.length_map, List.length_take]
      omega
    · rw [Nat.zero_add] at *
      rw [List.take_add_one, e, List.map_append]
      rfl
  · obtain ⟨rfl, rfl⟩ := hI
    refine ⟨hok, ?_⟩
    rw [Nat.zero_add, List.length_map, List.take_length]
    exact q
theorem comp_filtE {β : Type} {g : dTG} {tt : dTT} {te : dTE} {ρ : Env3} {S : Sto} {Q : List D → Sto → Prop} {ok : Env3 → Sto → Prop} (enc : β → D) (p : β → Bool) (f : β → D) (ys : List β) (hok : ok ρ S) (hl : ys.length ≤ 16777216)
    (h : ∀ y ∈ ys, ∀ (K : DK) (K' : Sto → Prop), (p y = true → K (.d (f y)) S) → (p y = false → K' S) → g (enc y) ρ S fun ρ1 S1 => tt ρ1 S1 fun b S2 => Br b (te ρ1 S2 K) (K' S2)) (q : Q ((ys.filter p).map f) S) : cLoop ok g tt te ρ Q (ys.map enc) [] S := by
  refine comp_inv (fun i acc S' => S' = S ∧ acc = ((ys.take i).filter p).map f) (ys.map enc) 0 (fun j x e acc S' K K' hI hK hK' => ?_) (fun acc S' hI => ?_) [] S ⟨rfl, rfl⟩
  · obtain ⟨rfl, rfl⟩ := hI
    rw [List.getElem?_map, Option.map_eq_some_iff] at e
    obtain ⟨y, e, rfl⟩ := e
    refine ⟨hok, ?_, fun _ => h y (List.mem_of_getElem? e) K K' (fun hp => hK _ _ ⟨rfl, ?_⟩) (fun hp => hK' _ ⟨rfl, ?_⟩)⟩
    · have := (List.getElem?_eq_some_iff.mp e).1
      refine line_lt ?_
      rw [List.length_map]
      have l := List.length_filter_le p (ys.take (0 + j))
      rw [List.length_take] at l
      omega
    · rw [Nat.zero_add] at *
      rw [List.take_add_one, e, List.filter_append, List.map_append]
      show _ = _ ++ ([y].filter p).map f
      rw [List.filter_cons, hp]
      rfl
    · rw [Nat.zero_add] at *
      rw [List.take_add_one, e, List.filter_append, List.map_append]
      show _ = _ ++ ([y].filter p).map f
      rw [List.filter_cons, hp]
      simp
  · obtain ⟨rfl, rfl⟩ := hI
    refine ⟨hok, ?_⟩
    rw [Nat.zero_add, List.length_map, List.take_length]
    exact q
theorem rng_is (lo : Int) (n : Nat) : rng lo n = (List.range n).map fun i => .int (lo + (i : Nat)) := rfl
theorem rng0_is (n : Nat) : rng 0 n = (List.range n).map fun i => .int (i : Nat) := by
  unfold rng
  apply List.map_congr_left
  intro i _
  rw [Int.zero_add]
/-! ### what has been walked -/
theorem get_map {β : Type} {enc : β → D} {ys : List β} {j : Nat} {x : D} (e : (ys.map enc)[j]? = some x) : ∃ y, ys[j]? = some y ∧ x = enc y := by
  rw [List.getElem?_map, Option.map_eq_some_iff] at e
  obtain ⟨y, e, rfl⟩ := e
  exact ⟨y, e, rfl⟩
/-! ### slices -/
theorem cut_to {α : Type} (xs : List α) (i : Nat) : cut xs none (some (i : Int)) = xs.take i := by
  unfold cut
  rw [HT.sIx_none, HT.sIx_nat, List.drop_zero, Nat.sub_zero]
  by_cases h : i ≤ xs.length
  · rw [Nat.min_eq_left h]
  · rw [Nat.min_eq_right (by omega), List.take_length, List.take_of_length_le (by omega)]
theorem cut_from {α : Type} (xs : List α) (i : Nat) : cut xs (some (i : Int)) none = xs.drop i := by
  unfold cut
  rw [HT.sIx_none, HT.sIx_nat]
  by_cases h : i ≤ xs.length
  · rw [Nat.min_eq_left h, List.take_of_length_le (by rw [List.length_drop]; exact Nat.le_refl _)]
  · rw [Nat.min_eq_right (by omega), Nat.sub_self, List.take_zero, List.drop_eq_nil_of_le (by omega)]
theorem cut_mid {α : Type} (xs : List α) (i j : Nat) : cut xs (some (i : Int)) (some (j : Int)) = (xs.drop i).take (j - i) := by
  unfold cut
  rw [HT.sIx_nat, HT.sIx_nat]
  by_cases h : i ≤ xs.length
  · rw [Nat.min_eq_left h]
    by_cases h2 : j ≤ xs.length
    · rw [Nat.min_eq_left h2]
    · rw [Nat.min_eq_right (a := j) (by omega), List.take_of_length_le (by rw [List.length_drop]; exact Nat.le_refl _), List.take_of_length_le (by rw [List.length_drop]; omega)]
  · rw [Nat.min_eq_right (a := i) (by omega), List.drop_eq_nil_of_le (Nat.le_refl _), List.drop_eq_nil_of_le (by omega), List.take_nil, List.take_nil]
theorem cut_all {α : Type} (xs : List α) : cut xs none none = xs := by
  unfold cut
  rw [HT.sIx_none, HT.sIx_none, List.drop_zero, Nat.sub_zero, List.take_length]
theorem sIx_m1 (n d : Nat) : HT.sIx n d (some (-1)) = n - 1 := by
  unfold HT.sIx
  simp only [show ((-1 : Int) < 0) = True from by decide, if_true]
  omega
theorem cut_butlast {α : Type} (xs : List α) : cut xs none (some (-1)) = xs.dropLast := by
  unfold cut
  rw [HT.sIx_none, List.drop_zero, Nat.sub_zero, sIx_m1, List.dropLast_eq_take]
theorem cutS_S (a : List Nat) (lo hi : Option Int) : cutS (SX.S a) lo hi = SX.S (cut a lo hi) := by
  unfold cutS cut
  rw [SX.S_len]
theorem revS_S (a : List Nat) : revS (SX.S a) = SX.S a.reverse := rfl
theorem cut_map {α β : Type} (f : α → β) (xs : List α) (lo hi : Option Int) : cut (xs.map f) lo hi = (cut xs lo hi).map f := by
  unfold cut
  rw [List.length_map, List.map_take, List.map_drop]
theorem cut_len_le {α : Type} (xs : List α) (lo hi : Option Int) : (cut xs lo hi).length ≤ xs.length := by
  unfold cut
  rw [List.length_take, List.length_drop]
  omega
/-! ### texts of signs, joined -/
theorem joinL_one : ∀ w : List Nat, TL.joinL [] (w.map fun c => [c]) = w
  | [] => rfl
  | [c] => rfl
  | c :: d :: w => by
    have := joinL_one (d :: w)
    show [c] ++ ([] ++ TL.joinL [] ((d :: w).map fun c => [c])) = _
    rw [this]
    rfl
theorem str_nil : Str.ofString "" = SX.S [] := by decide +kernel
theorem join_signs (w : List Nat) : Txt.join (Str.ofString "") (w.map fun c => SX.S [c]) = SX.S w := by
  have e : (w.map fun c => SX.S [c]) = (w.map fun c => [c]).map SX.S := by rw [List.map_map]; rfl
  rw [str_nil, e, SX.join_S, joinL_one]
theorem strsOf_signs (w : List Nat) : strsOf (w.map fun c => .str (SX.S [c])) = some (w.map fun c => SX.S [c]) := by
  have e : (w.map fun c => (.str (SX.S [c]) : D)) = (w.map fun c => SX.S [c]).map .str := by rw [List.map_map]; rfl
  rw [e]
  exact strsOf_map _
theorem signs_len (w : List Nat) : ((w.map fun c => SX.S [c]).map (fun x => x.length)).sum + (w.map fun c => SX.S [c]).length * (Str.ofString "").length = w.length := by
  rw [show (Str.ofString "").length = 0 by decide +kernel, Nat.mul_zero, Nat.add_zero, List.map_map]
  induction w with
  | nil => rfl
  | cons c w ih =>
    rw [List.map_cons, List.sum_cons, ih, List.length_cons]
    show (SX.S [c]).length + w.length = _
    rw [SX.S_len]
    simp only [List.length_cons, List.length_nil]
    omega
theorem signs_S (w : List Nat) : signs (SX.S w) = w.map fun c => .str (SX.S [c]) := rfl
/-- what a join of signs asks -/
theorem join_ok {w : List Nat} {k : D → Prop} (hl : w.length ≤ 16777216) (h : k (.str (SX.S w))) : fJoin (.str (Str.ofString "")) [.list (w.map fun c => .str (SX.S [c]))] k := by
  show withL (strsOf (w.map fun c => .str (SX.S [c]))) _
  rw [strsOf_signs]
  refine ⟨?_, ?_⟩
  · rw [signs_len]; exact hl
  · rw [join_signs]; exact h
theorem intsOf_nats (ns : List Nat) : intsOf (ns.map fun n : Nat => .int (n : Nat)) = some (ns.map fun n : Nat => (n : Int)) := by
  have e : (ns.map fun n : Nat => (.int (n : Nat) : D)) = (ns.map fun n : Nat => ((n : Nat) : Int)).map .int := by rw [List.map_map]; rfl
  rw [e]
  exact intsOf_map _
end L3

set_option maxHeartbeats 4000000
namespace L3
open PySem PySem.Spec L2 PyProof.Rows
section
variable {prog : Program} {w : World} {A : Around} {E : Value → Shared → Prop} {s : Shared} {l : Addr} {its : List Value} {ns : List Int} {Q : Value → Shared → Prop}
theorem iter_tup {xs : Array (Int × Tok)} {R : Value → Shared → Prop} {A' : Around} (hl : s.heap.IsTuple l (intItems xs))
    (k : ∀ s₂ : Shared, s₂ = { s with heap := s.heap.push { cls := .type "tuple_iterator", data := .fields #[.ref l, .int 0 0] } } → (s₂.heap.IsTupleIter s.heap.objs.size l 0 ∧ s₂.heap.IsTuple l (intItems xs)) →
      (∀ b ∈ [s.heap.objs.size, l], b < s₂.heap.objs.size) → l ≠ s.heap.objs.size → R (.ref s.heap.objs.size) s₂) : wpAny (model prog w) A' (pyIter (.ref l)) R E s := by
  refine wpAny_pyIter_tuple hl ?_
  obtain ⟨o, ho, _⟩ := id hl
  have hlt : l < s.heap.objs.size := Heap.lt_size ho
  refine k _ rfl ⟨⟨_, Heap.get?_push_size _ rfl, rfl, rfl⟩, hl.push _⟩ (fun b hb => ?_) (Nat.ne_of_lt hlt)
  show b < (s.heap.push _).objs.size
  rw [Heap.size_push]
  have e : b = s.heap.objs.size ∨ b = l := by simpa using hb
  rcases e with e | e
  · rw [e]; exact Nat.lt_succ_self _
  · rw [e]; exact Nat.lt_succ_of_lt hlt
theorem old_keptT {o : Obj} {h' : Heap} (hk : ∀ b ob, b ∉ [s.heap.objs.size] → (s.heap.push o).get? b = some ob → h'.get? b = some ob) : ∀ b ob, s.heap.get? b = some ob → h'.get? b = some ob :=
  fun b ob e => hk b ob (fun q => by
    have := Heap.lt_size e
    rw [List.mem_singleton.mp q] at this
    exact Nat.lt_irrefl _ this) (Heap.get?_push_of_some _ e)
theorem sum_rawT (hh : A.handled = none) (hl : s.heap.IsTuple l its.toArray) (hi : IntsAre its ns)
    (h : ∀ h' tk t', (∀ b o, s.heap.get? b = some o → h'.get? b = some o) → Q (.int ns.sum t') { s with heap := h', toks := tk }) : wpAny (model prog w) A (call (.builtin "sum") [.ref l]) Q E s := by
  obtain ⟨xs, e⟩ := hi.allInts.items
  have hn : numsOf (intItems xs).toList = ns := by rw [← e]; exact hi.numsOf
  rw [nums_intItems] at hn
  rw [e] at hl
  refine call_sum_walkG (iter_tup hl fun s₂ e st hfp hlI => ?_)
  subst e
  refine ⟨_, _, _, _, _, _, numAt xs, rfl, Walks.tuple (A := A.in1) hh _ l hlI (intItems xs), st, hfp, (fun _ _ => intItems_at), fun h' tk t' hk => ?_⟩
  have := h h' tk t' (old_keptT hk)
  rw [← hn] at this
  rw [show (intItems xs).size = xs.size by simp [intItems], preSum_eq, List.take_of_length_le (by simp)]
  exact this
theorem max_rawT (hh : A.handled = none) (hl : s.heap.IsTuple l its.toArray) (hi : IntsAre its ns) (hne : 0 < ns.length)
    (h : ∀ h' tk M t', (∀ b o, s.heap.get? b = some o → h'.get? b = some o) → M ∈ ns → (∀ a, a ∈ ns → a ≤ M) → Q (.int M t') { s with heap := h', toks := tk }) : wpAny (model prog w) A (call (.builtin "max") [.ref l]) Q E s := by
  obtain ⟨xs, e⟩ := hi.allInts.items
  have hn : numsOf (intItems xs).toList = ns := by rw [← e]; exact hi.numsOf
  rw [nums_intItems] at hn
  subst hn
  rw [e] at hl
  have hsz : 0 < xs.size := by simpa using hne
  refine call_max_walk (iter_tup hl fun s₂ e st hfp hlI => ?_)
  subst e
  refine ⟨_, _, _, _, _, _, _, rfl, Walks.tuple (A := A.in1) hh _ l hlI (intItems xs), st, hfp, by simpa [intItems] using hsz, CmpOf.ints_gt (numAt xs) (fun _ _ => intItems_at), fun v h' tk hP hk => ?_⟩
  have hv : (intItems xs)[argBest (fun i j => decide (numAt xs i > numAt xs j)) (xs.size - 1)]? = some v := by simpa [intItems] using hP
  obtain ⟨t, rfl⟩ := intItems_at hv
  obtain ⟨h1, h2⟩ := argBest_gt (numAt xs) (xs.size - 1)
  refine h h' tk _ t (old_keptT hk) ?_ fun a ha => ?_
  · rw [numAt_eq]; exact PySem.getD_mem (by rw [List.length_map, Array.length_toList]; omega)
  · obtain ⟨j, hj, rfl⟩ := mem_getD ha
    rw [List.length_map, Array.length_toList] at hj
    rw [← numAt_eq]; exact h2 j (by omega)
theorem min_rawT (hh : A.handled = none) (hl : s.heap.IsTuple l its.toArray) (hi : IntsAre its ns) (hne : 0 < ns.length)
    (h : ∀ h' tk M t', (∀ b o, s.heap.get? b = some o → h'.get? b = some o) → M ∈ ns → (∀ a, a ∈ ns → M ≤ a) → Q (.int M t') { s with heap := h', toks := tk }) : wpAny (model prog w) A (call (.builtin "min") [.ref l]) Q E s := by
  obtain ⟨xs, e⟩ := hi.allInts.items
  have hn : numsOf (intItems xs).toList = ns := by rw [← e]; exact hi.numsOf
  rw [nums_intItems] at hn
  subst hn
  rw [e] at hl
  have hsz : 0 < xs.size := by simpa using hne
  refine call_min_walk (iter_tup hl fun s₂ e st hfp hlI => ?_)
  subst e
  refine ⟨_, _, _, _, _, _, _, rfl, Walks.tuple (A := A.in1) hh _ l hlI (intItems xs), st, hfp, by simpa [intItems] using hsz, CmpOf.ints_lt (numAt xs) (fun _ _ => intItems_at), fun v h' tk hP hk => ?_⟩
  have hv : (intItems xs)[argBest (fun i j => decide (numAt xs i < numAt xs j)) (xs.size - 1)]? = some v := by simpa [intItems] using hP
  obtain ⟨t, rfl⟩ := intItems_at hv
  obtain ⟨h1, h2⟩ := argBest_lt (numAt xs) (xs.size - 1)
  refine h h' tk _ t (old_keptT hk) ?_ fun a ha => ?_
  · rw [numAt_eq]; exact PySem.getD_mem (by rw [List.length_map, Array.length_toList]; omega)
  · obtain ⟨j, hj, rfl⟩ := mem_getD ha
    rw [List.length_map, Array.length_toList] at hj
    rw [← numAt_eq]; exact h2 j (by omega)
end
section
variable {X : Cx}
theorem cr_sumT (hc : X.calm = true) : CallR X (.builtin "sum") (fun vs H Q => ∃ (a : Addr) (ns : List Int), vs = [V.ref a] ∧ SqT X.K H a (ns.map V.int) ∧ Q (.int ns.sum) H) := by
  intro pins s σ H vs us Q I r h
  obtain ⟨a, ns, rfl, hs, q⟩ := h
  obtain ⟨its, rv, hl, _⟩ := I.tuple hs
  rw [Vals.ref1 r]
  exact sum_rawT (I.ok.hd hc) hl rv.ints fun h' tk t' hk => ⟨.int _, H, I.kept hk, ⟨_, rfl⟩, q⟩
theorem cr_maxT (hc : X.calm = true) : CallR X (.builtin "max") (fun vs H Q => ∃ (a : Addr) (ns : List Int), vs = [V.ref a] ∧ SqT X.K H a (ns.map V.int) ∧ 0 < ns.length ∧ ∀ m, m ∈ ns → (∀ y, y ∈ ns → y ≤ m) → Q (.int m) H) := by
  intro pins s σ H vs us Q I r h
  obtain ⟨a, ns, rfl, hs, hne, q⟩ := h
  obtain ⟨its, rv, hl, _⟩ := I.tuple hs
  rw [Vals.ref1 r]
  exact max_rawT (I.ok.hd hc) hl rv.ints hne fun h' tk m t' hk h1 h2 => ⟨.int _, H, I.kept hk, ⟨_, rfl⟩, q m h1 h2⟩
theorem cr_minT (hc : X.calm = true) : CallR X (.builtin "min") (fun vs H Q => ∃ (a : Addr) (ns : List Int), vs = [V.ref a] ∧ SqT X.K H a (ns.map V.int) ∧ 0 < ns.length ∧ ∀ m, m ∈ ns → (∀ y, y ∈ ns → m ≤ y) → Q (.int m) H) := by
  intro pins s σ H vs us Q I r h
  obtain ⟨a, ns, rfl, hs, hne, q⟩ := h
  obtain ⟨its, rv, hl, _⟩ := I.tuple hs
  rw [Vals.ref1 r]
  exact min_rawT (I.ok.hd hc) hl rv.ints hne fun h' tk m t' hk h1 h2 => ⟨.int _, H, I.kept hk, ⟨_, rfl⟩, q m h1 h2⟩
def seqOf : D → Option (List D)
  | .list xs => some xs
  | .tuple xs => some xs
  | _ => none
def fSumA : FN := fun ds k => match ds with
  | [.list xs] => withL (intsOf xs) fun ns => k (.int ns.sum)
  | [.tuple xs] => withL (intsOf xs) fun ns => k (.int ns.sum)
  | _ => False
def fMaxA : FN := fun ds k => match ds with
  | [.int i, .int j] => k (.int (max i j))
  | [.list xs] => withL (intsOf xs) fun ns => 0 < ns.length ∧ k (.int (maxL ns))
  | [.tuple xs] => withL (intsOf xs) fun ns => 0 < ns.length ∧ k (.int (maxL ns))
  | _ => False
def fMinA : FN := fun ds k => match ds with
  | [.int i, .int j] => k (.int (min i j))
  | [.list xs] => withL (intsOf xs) fun ns => 0 < ns.length ∧ k (.int (minL ns))
  | [.tuple xs] => withL (intsOf xs) fun ns => 0 < ns.length ∧ k (.int (minL ns))
  | _ => False
theorem ints_rep {K : PySem.W.Frag} {H : Hp} {vs : List V} {xs : List D} {ns : List Int} (e : intsOf xs = some ns) (h2 : RpAll K H vs xs) : vs = ns.map V.int := by
  rw [intsOf_is e] at h2
  exact RpAll.ints h2
theorem c_sumA (hc : X.calm = true) : ∃ r, CallR X (.builtin "sum") r ∧ CallD X.K r fSumA := by
  refine ⟨_, (cr_sum hc).or (cr_sumT hc), fun M H xs ds k Q al rx h fin => ?_⟩
  unfold fSumA at h
  split at h
  · obtain ⟨ns, e, h⟩ := withL_of h
    obtain ⟨v, rfl, r1⟩ := vreps1 rx
    obtain ⟨a, vs, rfl, h1, _, h2⟩ := r1.list'
    have e3 := ints_rep e h2
    subst e3
    exact .inl ⟨a, ns, rfl, h1, fin _ _ _ h (Sub.refl _) (.int _)⟩
  · obtain ⟨ns, e, h⟩ := withL_of h
    obtain ⟨v, rfl, r1⟩ := vreps1 rx
    obtain ⟨a, vs, rfl, h1, _, _, h2⟩ := r1.tup'
    have e3 := ints_rep e h2
    subst e3
    exact .inr ⟨a, ns, rfl, h1, fin _ _ _ h (Sub.refl _) (.int _)⟩
  · exact h.elim
theorem c_maxA (hc : X.calm = true) : ∃ r, CallR X (.builtin "max") r ∧ CallD X.K r fMaxA := by
  refine ⟨_, (call_max2 hc).or ((cr_max hc).or (cr_maxT hc)), fun M H xs ds k Q al rx h fin => ?_⟩
  unfold fMaxA at h
  split at h
  · obtain ⟨v, w, rfl, r1, r2⟩ := vreps2 rx
    have e := r1.int
    have e2 := r2.int
    subst e e2
    rename_i i j
    refine .inl ⟨_, _, rfl, ?_⟩
    rw [show (if j > i then j else i) = max i j by omega]
    exact fin _ _ _ h (Sub.refl _) (.int _)
  · obtain ⟨ns, e, h0, h⟩ := withL_of h
    obtain ⟨v, rfl, r1⟩ := vreps1 rx
    obtain ⟨a, vs, rfl, h1, _, h2⟩ := r1.list'
    have e3 := ints_rep e h2
    subst e3
    refine .inr (.inl ⟨a, ns, rfl, h1, h0, fun m hm hle => ?_⟩)
    have : m = maxL ns := Int.le_antisymm ((maxL_mem h0).2 m hm) (hle _ (maxL_mem h0).1)
    rw [this]
    exact fin _ _ _ h (Sub.refl _) (.int _)
  · obtain ⟨ns, e, h0, h⟩ := withL_of h
    obtain ⟨v, rfl, r1⟩ := vreps1 rx
    obtain ⟨a, vs, rfl, h1, _, _, h2⟩ := r1.tup'
    have e3 := ints_rep e h2
    subst e3
    refine .inr (.inr ⟨a, ns, rfl, h1, h0, fun m hm hle => ?_⟩)
    have : m = maxL ns := Int.le_antisymm ((maxL_mem h0).2 m hm) (hle _ (maxL_mem h0).1)
    rw [this]
    exact fin _ _ _ h (Sub.refl _) (.int _)
  · exact h.elim
theorem c_minA (hc : X.calm = true) : ∃ r, CallR X (.builtin "min") r ∧ CallD X.K r fMinA := by
  refine ⟨_, (call_min2 hc).or ((cr_min hc).or (cr_minT hc)), fun M H xs ds k Q al rx h fin => ?_⟩
  unfold fMinA at h
  split at h
  · obtain ⟨v, w, rfl, r1, r2⟩ := vreps2 rx
    have e := r1.int
    have e2 := r2.int
    subst e e2
    rename_i i j
    refine .inl ⟨_, _, rfl, ?_⟩
    rw [show (if j < i then j else i) = min i j by omega]
    exact fin _ _ _ h (Sub.refl _) (.int _)
  · obtain ⟨ns, e, h0, h⟩ := withL_of h
    obtain ⟨v, rfl, r1⟩ := vreps1 rx
    obtain ⟨a, vs, rfl, h1, _, h2⟩ := r1.list'
    have e3 := ints_rep e h2
    subst e3
    refine .inr (.inl ⟨a, ns, rfl, h1, h0, fun m hm hle => ?_⟩)
    have : m = minL ns := Int.le_antisymm (hle _ (minL_mem h0).1) ((minL_mem h0).2 m hm)
    rw [this]
    exact fin _ _ _ h (Sub.refl _) (.int _)
  · obtain ⟨ns, e, h0, h⟩ := withL_of h
    obtain ⟨v, rfl, r1⟩ := vreps1 rx
    obtain ⟨a, vs, rfl, h1, _, _, h2⟩ := r1.tup'
    have e3 := ints_rep e h2
    subst e3
    refine .inr (.inr ⟨a, ns, rfl, h1, h0, fun m hm hle => ?_⟩)
    have : m = minL ns := Int.le_antisymm (hle _ (minL_mem h0).1) ((minL_mem h0).2 m hm)
    rw [this]
    exact fin _ _ _ h (Sub.refl _) (.int _)
  · exact h.elim
end

/-! ### tuple * int, all cases -/
theorem tuple_mul1 (l : Addr) (items : Array Value) (n : Nat) (dd : Option Addr) (sl : Array (Option Value)) (x : Int) (u : Tok) (c0 : (decide (x < -(2 ^ 63)) || decide (x ≥ 2 ^ 63)) = false) (c1 : (items.isEmpty || x == 1) = true) :
    Meets (Builtin.«tuple.__mul__» ⟨[.ref l, .int x u], []⟩) (fun _ R s => s.heap.get? l = some { cls := .type "tuple", dict := dd, data := .seq items n, slots := sl } ∧
      R (.ok (.ret (Value.ref l))) s) :=
  .of_wp fun prog w A R s h => by
    obtain ⟨hp, g, d, tk, os⟩ := s
    obtain ⟨hl, h⟩ := h
    have f1 := AutoSeq1.idx_int
    wp_walk using wpAny_loadPart' hl
    repeat (first
      | (refine wpAny_ite_false (decide_eq_false (by rw [c0]; exact Bool.false_ne_true)) ?_; wp_walk using wpAny_loadPart' hl)
      | (refine wpAny_ite_true (decide_eq_true c1) ?_; wp_walk using wpAny_loadPart' hl))
    exact ⟨_, rfl, h⟩
theorem tuple_mul0 (l : Addr) (items : Array Value) (n : Nat) (dd : Option Addr) (sl : Array (Option Value)) (x : Int) (u : Tok) (c0 : (decide (x < -(2 ^ 63)) || decide (x ≥ 2 ^ 63)) = false) (c1 : (items.isEmpty || x == 1) = false) (c2 : (decide (x ≤ 0) || items.isEmpty) = true) :
    Meets (Builtin.«tuple.__mul__» ⟨[.ref l, .int x u], []⟩) (fun _ R s => s.heap.get? l = some { cls := .type "tuple", dict := dd, data := .seq items n, slots := sl } ∧
      R (.ok (.ret (Value.ref s.heap.objs.size))) { s with heap := s.heap.push { cls := Value.type "tuple", data := Data.seq #[] }, toks := s.toks }) :=
  .of_wp fun prog w A R s h => by
    obtain ⟨hp, g, d, tk, os⟩ := s
    obtain ⟨hl, h⟩ := h
    have f1 := AutoSeq1.idx_int
    wp_walk using wpAny_loadPart' hl
    repeat (first
      | (refine wpAny_ite_false (decide_eq_false (by rw [c0]; exact Bool.false_ne_true)) ?_; wp_walk using wpAny_loadPart' hl)
      | (refine wpAny_ite_false (decide_eq_false (by rw [c1]; exact Bool.false_ne_true)) ?_; wp_walk using wpAny_loadPart' hl)
      | (refine wpAny_ite_true (decide_eq_true c2) ?_; wp_walk using wpAny_loadPart' hl))
    exact ⟨_, rfl, h⟩
/-- the same tuple, or an empty new one -/
def rRepT1 (K : PySem.W.Frag) : R2 := fun x y H Q => ∃ l k xs, x = .ref l ∧ y = .int k ∧ SqT K H l xs ∧ -(2 ^ 63) ≤ k ∧ k < 2 ^ 63 ∧ ((xs = [] ∨ k = 1) ∧ Q (.ref l) H ∨ (xs ≠ [] ∧ k ≤ 0 ∧ ∀ p, H p = none → Q (.ref p) (upd H p (.tup []))))
section
variable {X : Cx}
theorem op_repT1 : OpR X (binaryOp .Mult) (rRepT1 X.K) := by
  intro pins s σ H x y v u Q I rx ry h
  obtain ⟨l, k, xs, rfl, rfl, hT, h1, h2, q⟩ := h
  cases rx
  obtain ⟨t, rfl⟩ := ry
  obtain ⟨its, r, ⟨⟨cls, dd, data, sl⟩, ho, hc, n, hd⟩, hs⟩ := I.tuple hT
  simp only at hc hd
  subst hc hd
  have c0 : (decide (k < -(2 ^ 63)) || decide (k ≥ 2 ^ 63)) = false := by
    rw [decide_eq_false (by omega), decide_eq_false (by omega)] <;> rfl
  have hle : its.length = xs.length := r.length.symm
  rcases q with ⟨c, q⟩ | ⟨hne, hk, q⟩
  · have c1 : (its.toArray.isEmpty || k == 1) = true := by
      rcases c with c | c
      · subst c
        have : its = [] := List.eq_nil_of_length_eq_zero hle
        subst this
        rfl
      · subst c
        rw [Bool.or_eq_true]
        exact .inr rfl
    refine wpAny_binaryOp_repeat_ref (T := "tuple") (U := "int") (by decide) ⟨_, ho, rfl⟩ (fun s' => typeIs_int s' k t) noFill_tuple_mul F.fills_int_mul F.slot_int_rmul repeat_tuple F.slot_int_index.lookup
      (call_meets F.slot_int_rmul (typeIs_int s k t) F.entry_int_rmul (F.args_int_rmul_2 _ _) (int_rmul_tuple k t l its.toArray n dd sl)
        ⟨ho, rfl, ⟨_, ho, rfl⟩, call_meets F.slot_tuple_mul ⟨_, ho, rfl⟩ F.entry_tuple_mul (F.args_tuple_mul_2 _ _) (tuple_mul1 l its.toArray n dd sl k t c0 c1) ⟨ho, ?_⟩⟩)
    exact ⟨.ref l, H, I, rfl, q⟩
  · have hn : its ≠ [] := fun e => hne (by
      rw [e] at hle
      exact List.eq_nil_of_length_eq_zero hle.symm)
    have hi : its.toArray.isEmpty = false := by
      cases its with
      | nil => exact absurd rfl hn
      | cons a b => rfl
    have c1 : (its.toArray.isEmpty || k == 1) = false := by
      rw [hi, Bool.false_or]
      exact beq_eq_false_iff_ne.mpr (by omega)
    have c2 : (decide (k ≤ 0) || its.toArray.isEmpty) = true := by
      rw [decide_eq_true hk]
      rfl
    refine wpAny_binaryOp_repeat_ref (T := "tuple") (U := "int") (by decide) ⟨_, ho, rfl⟩ (fun s' => typeIs_int s' k t) noFill_tuple_mul F.fills_int_mul F.slot_int_rmul repeat_tuple F.slot_int_index.lookup
      (call_meets F.slot_int_rmul (typeIs_int s k t) F.entry_int_rmul (F.args_int_rmul_2 _ _) (int_rmul_tuple k t l its.toArray n dd sl)
        ⟨ho, rfl, ⟨_, ho, rfl⟩, call_meets F.slot_tuple_mul ⟨_, ho, rfl⟩ F.entry_tuple_mul (F.args_tuple_mul_2 _ _) (tuple_mul0 l its.toArray n dd sl k t c0 c1 c2) ⟨ho, ?_⟩⟩)
    refine ⟨.ref s.heap.objs.size, _, I.laid (t' := s.toks) (o := .tup []) (fun b ob q => Heap.get?_push_of_some _ q) (Nat.le_refl _) ?_, rfl, q _ (I.hok.fresh (Nat.le_refl _))⟩
    exact ⟨Nat.zero_le _, [], .nil, IsTup.new _ _⟩
def fMulA : F2 := fun x y k => match x, y with
  | .int i, .int j => CMul i j ∧ k (.int (i * j))
  | .str z, .int n => (-(2 ^ 63) ≤ n ∧ n < 2 ^ 63 ∧ z.length * n.toNat ≤ sizeLine) ∧ k (.str (strTimes z n))
  | .list xs, .int n => (-(2 ^ 63) ≤ n ∧ n < 2 ^ 63 ∧ xs.length * n.toNat ≤ sizeLine) ∧ k (.list (List.replicate n.toNat xs).flatten)
  | .tuple xs, .int n => (-1000 ≤ n ∧ n ≤ 1000 ∧ xs.length ≤ 1000) ∧ k (.tuple (List.replicate n.toNat xs).flatten)
  | _, _ => False
theorem flat_nil (n : Nat) : (List.replicate n ([] : List D)).flatten = [] := by
  induction n with
  | zero => rfl
  | succ n ih => rw [List.replicate_succ, List.flatten_cons, ih]; rfl
theorem o_mulA : ∃ r, OpR X (binaryOp .Mult) r ∧ OpD X.K r fMulA := by
  refine ⟨_, op_mul.or (op_mulS.or (op_rep.or (op_repT.or op_repT1))), fun M H x y dx dy k Q al rx ry h fin => ?_⟩
  unfold fMulA at h
  split at h
  · exact .inl ⟨_, _, rx.int, ry.int, h.1, fin _ _ _ h.2 (Sub.refl _) (.int _)⟩
  · exact .inr (.inl ⟨_, _, rx.str, ry.int, h.1, fin _ _ _ h.2 (Sub.refl _) (.str _)⟩)
  · obtain ⟨a, vs, rfl, h1, h1', h2⟩ := rx.list'
    obtain ⟨⟨c1, c2, c3⟩, hk⟩ := h
    exact .inr (.inr (.inl ⟨a, _, vs, rfl, ry.int, h1', c1, c2, by rw [RpAll.length h2]; exact c3, fun p hp => fin _ _ _ hk (sub_upd hp) (new_lst al hp (flat_rep h2 _))⟩))
  · rename_i xs n
    obtain ⟨a, vs, rfl, h1, h1', hn, h2⟩ := rx.tup'
    obtain ⟨⟨c1, c2, c3⟩, hk⟩ := h
    have hl := RpAll.length h2
    by_cases e0 : vs = []
    · subst e0
      have e1 : xs = [] := List.eq_nil_of_length_eq_zero hl.symm
      subst e1
      rw [flat_nil] at hk
      exact .inr (.inr (.inr (.inr ⟨a, n, [], rfl, ry.int, h1, by omega, by omega, .inl ⟨.inl rfl, fin _ _ _ hk (Sub.refl _) (.tup (Fz.of hn h1') h2)⟩⟩)))
    · by_cases e1 : n = 1
      · subst e1
        have e2 : (List.replicate (1 : Int).toNat xs).flatten = xs := by simp
        rw [e2] at hk
        exact .inr (.inr (.inr (.inr ⟨a, 1, vs, rfl, ry.int, h1, by omega, by omega, .inl ⟨.inr rfl, fin _ _ _ hk (Sub.refl _) (.tup (Fz.of hn h1') h2)⟩⟩)))
      · by_cases e2 : n ≤ 0
        · have e3 : n.toNat = 0 := by omega
          rw [e3] at hk
          exact .inr (.inr (.inr (.inr ⟨a, n, vs, rfl, ry.int, h1, by omega, by omega, .inr ⟨e0, e2, fun p hp => fin _ _ _ hk (sub_upd hp) (new_tup al hp .nil)⟩⟩)))
        · exact .inr (.inr (.inr (.inl ⟨a, n, vs, rfl, ry.int, h1, e0, by omega, by omega, by rw [hl]; exact c3, fun p hp => fin _ _ _ hk (sub_upd hp) (new_tup al hp (flat_rep h2 _))⟩)))
  · exact h.elim
end
end L3

set_option maxHeartbeats 4000000
namespace L3
open PySem PySem.Spec L2 PyProof.Rows
/-! ### x, ys = e, a new list that is one's own -/
def dParVO (i j : Nat) (te : dTE) (tf : dTF) : dTS := fun E ρ S => te ρ S fun d S1 => nl d (tf ρ S1 fun xs S2 => match ρ[j]? with
  | some _ => E.nx ((ρ.set i (.val d)).set j (.own (.lst xs))) S2
  | none => False)
def dParOV (i j : Nat) (tf : dTF) (te : dTE) : dTS := fun E ρ S => tf ρ S fun xs S1 => te ρ S1 fun d S2 => nl d (match ρ[i]? with
  | some _ => E.nx ((ρ.set i (.own (.lst xs))).set j (.val d)) S2
  | none => False)
def dParOO (i j : Nat) (tf tg : dTF) : dTS := fun E ρ S => tf ρ S fun xs S1 => tg ρ S1 fun ys S2 => match ρ[i]?, ρ[j]? with
  | some _, some _ => E.nx ((ρ.set i (.own (.lst xs))).set j (.own (.lst ys))) S2
  | _, _ => False
section
variable {K : PySem.W.Frag} {F : Addr → Prop} {m o : Nat → Option Addr} {ρ : Env3} {S : Sto} {σ : L2.St} {H : Hp}
theorem DRep.own {v : V} {d : DV} {i : Nat} {p : Addr} {u : HO} (q : DRep K F m o H v d) (hp : H p = none) (n : isLoc d = false) : DRep K F m (putO (ersO o i) i p) (upd H p u) v d := by
  cases d with
  | d x => exact Rp.sub (fz_own hp) q
  | ref k => exact q
  | loc j => cases n
theorem not_mu (r : Stor K (fun a => F a ∨ a = p) m o S H) : ¬ Mu F m o p ∨ F p := by
  by_cases hF : F p
  · exact .inr hF
  · refine .inl fun z => ?_
    rcases z with z | ⟨n, z⟩ | ⟨i, z⟩
    · exact hF z
    · exact r.injF n p z (.inr rfl)
    · exact r.oF i p z (.inr rfl)
end
section
variable {X : Cx}
theorem ds_parVO {i j : Nat} {x y : Str} {a b : Expr} {te : dTE} {tf : dTF} {px py pt : Pos} {kt k2 pt2} {pos : Pos} (hc : X.calm = true) (hN : X.N.Nodup) (hi : X.N[i]? = some x) (hj : X.N[j]? = some y) (hij : i ≠ j)
    (hx : X.env.scope.names.lookup x = some .local) (hy : X.env.scope.names.lookup y = some .local) (ha : DE X a te) (hb : DF X b tf)
    (hw : swappedStores [.Tuple [.Name x px, .Name y py] kt pt] (.Tuple [a, b] k2 pt2) X.env = pure (some [x, y]) := by rfl)
    (hs : swapsWithSole [.Tuple [.Name x px, .Name y py] kt pt] (.Tuple [a, b] k2 pt2) pos.line X.env = pure false := by rfl)
    (h1 : starEach [a, b] X.env = (false, eval a X.env) :: starEach [b] X.env := by rfl) (h2 : starEach [b] X.env = (false, eval b X.env) :: starEach [] X.env := by rfl) :
    DS X (.Assign [.Tuple [.Name x px, .Name y py] kt pt] (.Tuple [a, b] k2 pt2) pos) (dParVO i j te tf) := PS.imp (ps_par hc hN hi hj hij hx hy (pa_cons ha (pa_cons hb pa_nil h2) h1) hw hs) fun E σ H q => by
  obtain ⟨F, m, o, ρ, S, E', rel, t, ok⟩ := q
  refine ⟨F, m, o, ρ, S, _, rel, t, fun d S1 m1 H1 v h r g q => ?_⟩
  obtain ⟨n1, h⟩ := nl_of h
  refine ⟨F, m1, o, ρ, S1, _, r, h, fun xs S2 m2 H2 p vs h r2 g2 hp dp => ?_⟩
  refine ⟨v, .ref p, rfl, ?_⟩
  have hl : j < ρ.length := by
    by_cases z : j < ρ.length
    · exact z
    · rw [List.getElem?_eq_none_iff.mpr (by omega)] at h
      exact h.elim
  rw [List.getElem?_eq_getElem hl] at h
  have r3 := r2.put i (q.grow g2) n1
  have hl' : j < (ρ.set i (.val d)).length := by rw [List.length_set]; exact hl
  have dp' := RpAll.sub (fz_ers (F := F) (m := m2) (o := o) (H := H2) i) dp
  exact ok.nx _ S2 m2 _ _ _ h (r3.own (c := .lst xs) (u := .lst vs) hp hl' ⟨vs, upd_same, RpAll.sub (fz_own hp) dp'⟩) (((g.trans g2).trans (Grow.ers i)).trans (Grow.own r3.st hp))
theorem grow_past {K : PySem.W.Frag} {F : Addr → Prop} {m1 m2 o : Nat → Option Addr} {ρ : Env3} {S1 S2 : Sto} {σ : L2.St} {H1 H2 : Hp} {p : Addr} {u : HO} (r : Rel K F m1 o ρ S1 σ H1) (hp : H1 p = none)
    (r2 : Rel K (fun a => F a ∨ a = p) m2 o ρ S2 σ H2) (g2 : Grow (fun a => F a ∨ a = p) m1 o (upd H1 p u) m2 o H2) (hu : ∀ xs, u ≠ .tup xs := by exact fun _ e => nomatch e) :
    Rel K F m2 o ρ S2 σ (without H2 p) ∧ Sub (Fz H2 (Mu (fun a => F a ∨ a = p) m2 o)) (Fz (without H2 p) (Mu F m2 o)) ∧ Grow F m1 o H1 m2 o (without H2 p) ∧ upd (without H2 p) p u = H2 ∧ (without H2 p) p = none ∧ Sub (Fz H1 (Mu F m1 o)) (Fz (without H2 p) (Mu F m2 o)) := by
  have nF : ¬ F p := fun z => r.st.alive p (.inl z) hp
  have np : ¬ Mu F m2 o p := fun z => by
    rcases z with z | ⟨n, z⟩ | ⟨i, z⟩
    · exact nF z
    · exact r2.st.injF n p z (.inr rfl)
    · exact r2.st.oF i p z (.inr rfl)
  obtain ⟨r3, s3⟩ := r2.unguard np
  obtain ⟨_, sg⟩ := r.guard (u := u) hp hu
  have hz : Sub (Fz H1 (Mu F m1 o)) (Fz (without H2 p) (Mu F m2 o)) := fun a w e => s3 a w (g2.z a w (sg a w e))
  have e2 : H2 p = some u := by rw [g2.f p (.inr rfl), upd_same]
  refine ⟨r3, s3, ⟨fun a fa => ?_, hz, fun n a e => g2.m n a e⟩, without_upd e2, if_pos rfl, hz⟩
  have hne : a ≠ p := fun e => nF (by rw [← e]; exact fa)
  show (without H2 p) a = H1 a
  unfold without
  rw [if_neg hne, g2.f a (.inl fa), upd_ne hne]
theorem drep_past {K : PySem.W.Frag} {F F' : Addr → Prop} {m o : Nat → Option Addr} {H H' : Hp} {v : V} {d : DV} (q : DRep K F' m o H v d) (s : Sub (Fz H (Mu F' m o)) (Fz H' (Mu F m o))) : DRep K F m o H' v d := by
  cases d with
  | d x => exact Rp.sub s q
  | ref k => exact q
  | loc j => exact q
theorem lt_of_some {ρ : Env3} {j : Nat} {P : Slot → Prop} (h : match ρ[j]? with | some z => P z | none => False) : j < ρ.length := by
  by_cases z : j < ρ.length
  · exact z
  · rw [List.getElem?_eq_none_iff.mpr (by omega)] at h
    exact h.elim
theorem ds_parOV {i j : Nat} {x y : Str} {a b : Expr} {te : dTE} {tf : dTF} {px py pt : Pos} {kt k2 pt2} {pos : Pos} (hc : X.calm = true) (hN : X.N.Nodup) (hi : X.N[i]? = some x) (hj : X.N[j]? = some y) (hij : i ≠ j)
    (hx : X.env.scope.names.lookup x = some .local) (hy : X.env.scope.names.lookup y = some .local) (hb : DF X a tf) (ha : DE X b te)
    (hw : swappedStores [.Tuple [.Name x px, .Name y py] kt pt] (.Tuple [a, b] k2 pt2) X.env = pure (some [x, y]) := by rfl)
    (hs : swapsWithSole [.Tuple [.Name x px, .Name y py] kt pt] (.Tuple [a, b] k2 pt2) pos.line X.env = pure false := by rfl)
    (h1 : starEach [a, b] X.env = (false, eval a X.env) :: starEach [b] X.env := by rfl) (h2 : starEach [b] X.env = (false, eval b X.env) :: starEach [] X.env := by rfl) :
    DS X (.Assign [.Tuple [.Name x px, .Name y py] kt pt] (.Tuple [a, b] k2 pt2) pos) (dParOV i j tf te) := PS.imp (ps_par hc hN hi hj hij hx hy (pa_cons hb (pa_cons ha pa_nil h2) h1) hw hs) fun E σ H q => by
  obtain ⟨F, m, o, ρ, S, E', rel, t, ok⟩ := q
  refine ⟨F, m, o, ρ, S, _, rel, t, fun xs S1 m1 H1 p vs h r g hp dp => ?_⟩
  obtain ⟨rg, sg⟩ := r.guard (u := .lst vs) hp
  refine ⟨fun a => F a ∨ a = p, m1, o, ρ, S1, _, rg, h, fun d S2 m2 H2 v h r2 g2 q2 => ?_⟩
  obtain ⟨n1, h⟩ := nl_of h
  refine ⟨.ref p, v, rfl, ?_⟩
  obtain ⟨r3, s3, g3, e3, hp3, hz⟩ := grow_past r hp r2 g2
  have hl := lt_of_some h
  rw [List.getElem?_eq_getElem hl] at h
  have r4 := r3.own (i := i) (u := .lst vs) (c := .lst xs) hp3 hl ⟨vs, upd_same, RpAll.sub (fz_own hp3) (RpAll.sub hz dp)⟩
  have q4 := DRep.own (i := i) (u := .lst vs) (drep_past q2 s3) hp3 n1
  have g4 := Grow.own (i := i) (u := .lst vs) r3.st hp3
  rw [e3] at r4 q4 g4
  exact ok.nx _ S2 m2 _ _ _ h (r4.put j q4 n1) (((g.trans g3).trans g4).trans (Grow.ers j))
theorem ds_parOO {i j : Nat} {x y : Str} {a b : Expr} {tf tg : dTF} {px py pt : Pos} {kt k2 pt2} {pos : Pos} (hc : X.calm = true) (hN : X.N.Nodup) (hi : X.N[i]? = some x) (hj : X.N[j]? = some y) (hij : i ≠ j)
    (hx : X.env.scope.names.lookup x = some .local) (hy : X.env.scope.names.lookup y = some .local) (hb : DF X a tf) (ha : DF X b tg)
    (hw : swappedStores [.Tuple [.Name x px, .Name y py] kt pt] (.Tuple [a, b] k2 pt2) X.env = pure (some [x, y]) := by rfl)
    (hs : swapsWithSole [.Tuple [.Name x px, .Name y py] kt pt] (.Tuple [a, b] k2 pt2) pos.line X.env = pure false := by rfl)
    (h1 : starEach [a, b] X.env = (false, eval a X.env) :: starEach [b] X.env := by rfl) (h2 : starEach [b] X.env = (false, eval b X.env) :: starEach [] X.env := by rfl) :
    DS X (.Assign [.Tuple [.Name x px, .Name y py] kt pt] (.Tuple [a, b] k2 pt2) pos) (dParOO i j tf tg) := PS.imp (ps_par hc hN hi hj hij hx hy (pa_cons hb (pa_cons ha pa_nil h2) h1) hw hs) fun E σ H q => by
  obtain ⟨F, m, o, ρ, S, E', rel, t, ok⟩ := q
  refine ⟨F, m, o, ρ, S, _, rel, t, fun xs S1 m1 H1 p vs h r g hp dp => ?_⟩
  obtain ⟨rg, sg⟩ := r.guard (u := .lst vs) hp
  refine ⟨fun a => F a ∨ a = p, m1, o, ρ, S1, _, rg, h, fun ys S2 m2 H2 p2 ws h r2 g2 hp2 dp2 => ?_⟩
  refine ⟨.ref p, .ref p2, rfl, ?_⟩
  obtain ⟨r3, s3, g3, e3, hp3, hz⟩ := grow_past r hp r2 g2
  have hl : i < ρ.length ∧ j < ρ.length := by
    refine ⟨?_, ?_⟩
    · by_cases z : i < ρ.length
      · exact z
      · rw [List.getElem?_eq_none_iff.mpr (by omega)] at h
        exact h.elim
    · by_cases z : j < ρ.length
      · exact z
      · rw [List.getElem?_eq_none_iff (i := j).mpr (by omega)] at h
        cases e : ρ[i]? <;> rw [e] at h <;> exact h.elim
  rw [List.getElem?_eq_getElem hl.1, List.getElem?_eq_getElem hl.2] at h
  have r4 := r3.own (i := i) (u := .lst vs) (c := .lst xs) hp3 hl.1 ⟨vs, upd_same, RpAll.sub (fz_own hp3) (RpAll.sub hz dp)⟩
  have q4 : RpAll X.K (Fz (upd (without H2 p) p (.lst vs)) (Mu F m2 (putO (ersO o i) i p))) ws ys := RpAll.sub (fz_own hp3) (RpAll.sub s3 dp2)
  have g4 := Grow.own (i := i) (u := .lst vs) r3.st hp3
  rw [e3] at r4 q4 g4
  have hl' : j < (ρ.set i (.own (.lst xs))).length := by rw [List.length_set]; exact hl.2
  exact ok.nx _ S2 m2 _ _ _ h (r4.own (i := j) (u := .lst ws) (c := .lst ys) hp2 hl' ⟨ws, upd_same, RpAll.sub (fz_own hp2) q4⟩) (((g.trans g3).trans g4).trans (Grow.own r4.st hp2))
end
end L3

set_option maxHeartbeats 4000000
namespace L3
open PySem PySem.Spec L2
theorem Br.nd {p : Prop} [Decidable p] {A B : Prop} (h : ¬ p → A) (h' : p → B) : Br (!decide p) A B := by
  by_cases c : p
  · rw [decide_eq_true c]; exact h' c
  · rw [decide_eq_false c]; exact h c
/-- what both ways of a test come to, shown once -/
structure Jn (R : Prop) : Prop where
  r : R
theorem cutR {R G : Prop} (h : Jn R → G) (r : R) : G := h ⟨r⟩
/-- a loop that changes nothing but what f forgets -/
theorem loopJ {α : Type} {ok : Env3 → Sto → Prop} {g : dTG} {b : dTS} {E : dEnds} (f : α → Env3) (S : Sto) (xs : List D) (hok : ∀ s, ok (f s) S)
    (h1 : ∀ (j : Nat) (x : D), xs[j]? = some x → ∀ s (K : Env3 → Sto → Prop), (∀ s', K (f s') S) → g x (f s) S fun ρ1 S1 => b { E with nx := K, ct := K, bk := E.nx } ρ1 S1)
    (h2 : ∀ s, E.nx (f s) S) (s : α) : dLp ok g b E xs (f s) S := by
  refine loop_inv (fun _ ρ S' => S' = S ∧ ∃ s, ρ = f s) xs 0 (fun j x e ρ S' K hI hK => ?_) (fun ρ S' hI => ?_) _ _ ⟨rfl, s, rfl⟩
  · obtain ⟨rfl, s, rfl⟩ := hI
    exact ⟨hok s, h1 j x e s K fun s' => hK _ _ ⟨rfl, s', rfl⟩⟩
  · obtain ⟨rfl, s, rfl⟩ := hI
    exact ⟨hok s, h2 s⟩
/-- the same over a range -/
theorem loopR {α : Type} {g : dTG} {b : dTS} {E : dEnds} (f : α → Env3) (S : Sto) (n : Nat)
    (h1 : ∀ j, j < n → ∀ s (K : Env3 → Sto → Prop), (∀ s', K (f s') S) → g (.int (j : Nat)) (f s) S fun ρ1 S1 => b { E with nx := K, ct := K, bk := E.nx } ρ1 S1)
    (h2 : ∀ s, E.nx (f s) S) (s : α) : dLp (fun _ _ => True) g b E (rng 0 n) (f s) S := by
  refine loopJ f S _ (fun _ => trivial) (fun j x e s K hK => ?_) h2 s
  obtain ⟨h, rfl⟩ := rng_get e
  rw [Int.zero_add]
  exact h1 j h s K hK
theorem loopR2 {α : Type} {g : dTG} {b : dTS} {E : dEnds} (f : α → Env3) (S : Sto) (lo : Int) (n : Nat)
    (h1 : ∀ j, j < n → ∀ s (K : Env3 → Sto → Prop), (∀ s', K (f s') S) → g (.int (lo + (j : Nat))) (f s) S fun ρ1 S1 => b { E with nx := K, ct := K, bk := E.nx } ρ1 S1)
    (h2 : ∀ s, E.nx (f s) S) (s : α) : dLp (fun _ _ => True) g b E (rng lo n) (f s) S := by
  refine loopJ f S _ (fun _ => trivial) (fun j x e s K hK => ?_) h2 s
  obtain ⟨h, rfl⟩ := rng_get e
  exact h1 j h s K hK
/-- a loop that carries a state a -/
theorem loopA {α : Type} {ok : Env3 → Sto → Prop} {g : dTG} {b : dTS} {E : dEnds} (f : Nat → α → Env3) (S : Sto) (xs : List D) (hok : ∀ i s, ok (f i s) S)
    (h1 : ∀ (j : Nat) (x : D), xs[j]? = some x → ∀ s (K : Env3 → Sto → Prop), (∀ s', K (f (j + 1) s') S) → g x (f j s) S fun ρ1 S1 => b { E with nx := K, ct := K, bk := E.nx } ρ1 S1)
    (h2 : ∀ s, E.nx (f xs.length s) S) (s : α) : dLp ok g b E xs (f 0 s) S := by
  refine loop_inv (fun i ρ S' => S' = S ∧ ∃ s, ρ = f i s) xs 0 (fun j x e ρ S' K hI hK => ?_) (fun ρ S' hI => ?_) _ _ ⟨rfl, s, rfl⟩
  · obtain ⟨rfl, s, rfl⟩ := hI
    rw [Nat.zero_add] at *
    exact ⟨hok _ s, h1 j x e s K fun s' => hK _ _ ⟨rfl, s', rfl⟩⟩
  · obtain ⟨rfl, s, rfl⟩ := hI
    rw [Nat.zero_add] at *
    exact ⟨hok _ s, h2 s⟩
/-- a comprehension over a range -/
theorem comp_rng {g : dTG} {te : dTE} {ρ : Env3} {S : Sto} {Q : List D → Sto → Prop} (f : Nat → D) (n : Nat) (hl : n ≤ 16777216)
    (h : ∀ i, i < n → ∀ (K : DK) (K' : Sto → Prop), K (.d (f i)) S → g (.int (i : Nat)) ρ S fun ρ1 S1 => dYes ρ1 S1 fun b S2 => Br b (te ρ1 S2 K) (K' S2)) (q : Q ((List.range n).map f) S) : cLoop (fun _ _ => True) g dYes te ρ Q (rng 0 n) [] S := by
  rw [rng0_is]
  exact comp_mapE (fun i : Nat => .int (i : Nat)) f (List.range n) trivial (by rw [List.length_range]; exact hl) (fun i hi K K' hK => h i (List.mem_range.mp hi) K K' hK) q
theorem comp_rngF {g : dTG} {tt : dTT} {te : dTE} {ρ : Env3} {S : Sto} {Q : List D → Sto → Prop} (p : Nat → Bool) (f : Nat → D) (n : Nat) (hl : n ≤ 16777216)
    (h : ∀ i, i < n → ∀ (K : DK) (K' : Sto → Prop), (p i = true → K (.d (f i)) S) → (p i = false → K' S) → g (.int (i : Nat)) ρ S fun ρ1 S1 => tt ρ1 S1 fun b S2 => Br b (te ρ1 S2 K) (K' S2)) (q : Q (((List.range n).filter p).map f) S) : cLoop (fun _ _ => True) g tt te ρ Q (rng 0 n) [] S := by
  rw [rng0_is]
  exact comp_filtE (fun i : Nat => .int (i : Nat)) p f (List.range n) trivial (by rw [List.length_range]; exact hl) (fun i hi K K' hK hK' => h i (List.mem_range.mp hi) K K' hK hK') q
theorem comp_rng2F {g : dTG} {tt : dTT} {te : dTE} {ρ : Env3} {S : Sto} {Q : List D → Sto → Prop} (lo : Int) (p : Nat → Bool) (f : Nat → D) (n : Nat) (hl : n ≤ 16777216)
    (h : ∀ i, i < n → ∀ (K : DK) (K' : Sto → Prop), (p i = true → K (.d (f i)) S) → (p i = false → K' S) → g (.int (lo + (i : Nat))) ρ S fun ρ1 S1 => tt ρ1 S1 fun b S2 => Br b (te ρ1 S2 K) (K' S2)) (q : Q (((List.range n).filter p).map f) S) : cLoop (fun _ _ => True) g tt te ρ Q (rng lo n) [] S := by
  rw [rng_is]
  exact comp_filtE (fun i : Nat => .int (lo + (i : Nat))) p f (List.range n) trivial (by rw [List.length_range]; exact hl) (fun i hi K K' hK hK' => h i (List.mem_range.mp hi) K K' hK hK') q
theorem At.map {β : Type} {f : β → D} {ys : List β} {k : D → Prop} {i : Nat} {y : β} (e : ys[i]? = some y) (h : k (f y)) : At (ys.map f) (i : Int) k :=
  At.nat (by rw [List.getElem?_map, e]; rfl) h
theorem At.last {xs : List D} {k : D → Prop} {z : D} (e : xs[xs.length - 1]? = some z) (hn : xs ≠ []) (h : k z) : At xs (-1) k := by
  refine ⟨z, ?_, h⟩
  have h0 : 0 < xs.length := by cases xs with | nil => exact absurd rfl hn | cons => simp
  have e2 : ixN xs.length (-1) = some (xs.length - 1) := by
    unfold ixN
    rw [if_neg (by omega), if_pos (by omega)]
    congr 1
    omega
  unfold atI
  rw [e2]
  exact e
end L3

set_option maxHeartbeats 4000000
namespace L3
open PySem PySem.Spec L2
/-! ### == of data -/
/-- data without dicts, no deeper than n -/
def dpt (n : Nat) (d : D) : Prop := d.canLay0 = true ∧ d.depth ≤ n
theorem dpt_all {n : Nat} : ∀ {xs : List D}, (∀ x ∈ xs, dpt n x) → PyData.canLayAll0 xs = true ∧ PyData.depthAll xs ≤ n
  | [], _ => ⟨rfl, Nat.zero_le _⟩
  | x :: xs, h => by
    obtain ⟨h1, h2⟩ := h x List.mem_cons_self
    obtain ⟨h3, h4⟩ := dpt_all (xs := xs) fun y hy => h y (List.mem_cons_of_mem _ hy)
    refine ⟨by simp only [PyData.canLayAll0, h1, h3, Bool.and_self], ?_⟩
    simp only [PyData.depthAll]
    exact Nat.max_le.mpr ⟨h2, h4⟩
theorem dpt_tup {n : Nat} {xs : List D} (h : ∀ x ∈ xs, dpt n x) : dpt (n + 1) (.tuple xs) := by
  obtain ⟨h1, h2⟩ := dpt_all h
  exact ⟨by simpa only [PyData.canLay0] using h1, by simp only [PyData.depth]; omega⟩
theorem dpt_lst {n : Nat} {xs : List D} (h : ∀ x ∈ xs, dpt n x) : dpt (n + 1) (.list xs) := by
  obtain ⟨h1, h2⟩ := dpt_all h
  exact ⟨by simpa only [PyData.canLay0] using h1, by simp only [PyData.depth]; omega⟩
theorem dpt_int {n : Nat} (i : Int) : dpt n (.int i) := ⟨rfl, Nat.zero_le _⟩
theorem dpt_str {n : Nat} {i : Str} (h : PyData.strOk i = true) : dpt n (.str i) := ⟨by simpa [PyData.canLay0] using h, Nat.zero_le _⟩
theorem dpt_bl {n : Nat} (i : Bool) : dpt n (.bool i) := ⟨rfl, Nat.zero_le _⟩
theorem dpt_non {n : Nat} : dpt n .none := ⟨rfl, Nat.zero_le _⟩
theorem dpt_map {α : Type} {n : Nat} {f : α → D} {xs : List α} (h : ∀ x, dpt n (f x)) : ∀ y ∈ xs.map f, dpt n y := fun y hy => by
  obtain ⟨x, _, rfl⟩ := List.mem_map.mp hy
  exact h x
theorem shp {n : Nat} {d : D} (h : dpt n d) (hn : n ≤ 64) : SeqAt.shaped d = true := by
  unfold SeqAt.shaped
  rw [h.1, decide_eq_true (Nat.le_trans h.2 hn)]
  rfl
theorem eqvAll_map {α : Type} [DecidableEq α] {f : α → D} (h : ∀ a b, PyData.eqv (f a) (f b) = decide (a = b)) : ∀ xs ys : List α, PyData.eqvAll (xs.map f) (ys.map f) = decide (xs = ys)
  | [], [] => rfl
  | [], _ :: _ => rfl
  | _ :: _, [] => rfl
  | a :: xs, b :: ys => by
    simp only [List.map_cons, PyData.eqvAll, h a b, eqvAll_map h xs ys]
    rw [Bool.eq_iff_iff]
    simp
theorem eqv_intI (a b : Int) : PyData.eqv (.int a) (.int b) = decide (a = b) := by
  simp only [PyData.eqv]
  rw [Bool.eq_iff_iff]
  simp
theorem eqv_intN (a b : Nat) : PyData.eqv (.int (a : Nat)) (.int (b : Nat)) = decide (a = b) := by
  rw [eqv_intI]
  by_cases h : a = b
  · subst h; simp
  · rw [decide_eq_false h, decide_eq_false (by omega)]
theorem eqv_tupI (xs ys : List Int) : PyData.eqv (.tuple (xs.map .int)) (.tuple (ys.map .int)) = decide (xs = ys) := by
  simp only [PyData.eqv]
  exact eqvAll_map eqv_intI xs ys
theorem eqv_lstI (xs ys : List Int) : PyData.eqv (.list (xs.map .int)) (.list (ys.map .int)) = decide (xs = ys) := by
  simp only [PyData.eqv]
  exact eqvAll_map eqv_intI xs ys
theorem eqv_tupN (xs ys : List Nat) : PyData.eqv (.tuple (xs.map fun n : Nat => .int (n : Nat))) (.tuple (ys.map fun n : Nat => .int (n : Nat))) = decide (xs = ys) := by
  simp only [PyData.eqv]
  exact eqvAll_map eqv_intN xs ys
theorem eqv_lstN (xs ys : List Nat) : PyData.eqv (.list (xs.map fun n : Nat => .int (n : Nat))) (.list (ys.map fun n : Nat => .int (n : Nat))) = decide (xs = ys) := by
  simp only [PyData.eqv]
  exact eqvAll_map eqv_intN xs ys
end L3

set_option maxHeartbeats 4000000
namespace L3
open PySem PySem.Spec L2 PyProof.Rows

/-! ### dicts whose keys are tuples -/
def keyOf1 : D → Option Key
  | .int i => some (.inl i)
  | .str z => some (.inr z)
  | _ => none
def keysOf : List D → Option (List Key)
  | [] => some []
  | d :: r => match keyOf1 d, keysOf r with
    | some k, some ks => some (k :: ks)
    | _, _ => none
theorem keyOf1_is {d : D} {k : Key} (h : keyOf1 d = some k) : d = keyD k := by
  unfold keyOf1 at h
  split at h <;> cases h <;> rfl
theorem keysOf_is : ∀ {ds : List D} {ks : List Key}, keysOf ds = some ks → ds = ks.map keyD
  | [], ks, h => by cases h; rfl
  | d :: r, ks, h => by
    unfold keysOf at h
    split at h
    · rename_i k l e1 e2
      cases h
      rw [keyOf1_is e1, keysOf_is e2]
      rfl
    · cases h
theorem keysOf_map : ∀ ks : List Key, keysOf (ks.map keyD) = some ks
  | [] => rfl
  | k :: r => by
    have e : keyOf1 (keyD k) = some k := by cases k <;> rfl
    simp only [List.map_cons, keysOf, e, keysOf_map r]
/-- the key of a dict with tuples as keys -/
def withKeys (y : D) (k : List Key → Prop) : Prop := match y with
  | .tuple ds => withL (keysOf ds) k
  | _ => False
theorem withKeys_of {y : D} {k : List Key → Prop} (h : withKeys y k) : ∃ ks : List Key, y = .tuple (ks.map keyD) ∧ k ks := by
  unfold withKeys at h
  split at h
  · obtain ⟨ks, e, h⟩ := withL_of h
    exact ⟨ks, by rw [keysOf_is e], h⟩
  · exact h.elim
def putT (kvs : List (List Key × D)) (k : List Key) (v : D) : List (List Key × D) :=
  if (kvs.any fun kv => decide (kv.1 = k)) = true then kvs.map (fun kv => if kv.1 = k then (kv.1, v) else kv) else kvs ++ [(k, v)]
def valT (kvs : List (List Key × D)) (k : List Key) : Option D := (kvs.find? fun kv => decide (kv.1 = k)).map (·.2)
def valD (kvs : List (Key × D)) (k : Key) : Option D := (kvs.find? fun kv => decide (kv.1 = k)).map (·.2)
theorem KTRp.keys {K : PySem.W.Frag} {H : Hp} {ws : List (List Key × V)} {kvs : List (List Key × D)} (h : KTRp K H ws kvs) : ws.map (·.1) = kvs.map (·.1) := by
  unfold KTRp at h
  induction h with
  | nil => rfl
  | cons q _ ih => rw [List.map_cons, List.map_cons, q.1, ih]
theorem KTRp.length {K : PySem.W.Frag} {H : Hp} {ws : List (List Key × V)} {kvs : List (List Key × D)} (h : KTRp K H ws kvs) : ws.length = kvs.length := by
  have := congrArg List.length (KTRp.keys h)
  rwa [List.length_map, List.length_map] at this
theorem KTRp.put {K : PySem.W.Frag} {H : Hp} {ws : List (List Key × V)} {kvs : List (List Key × D)} (h : KTRp K H ws kvs) {k : List Key} {v : V} {x : D} (q : Rp K H v x) : KTRp K H (putK ws k v) (putT kvs k x) := by
  have ea : (ws.any fun kv => decide (kv.1 = k)) = kvs.any fun kv => decide (kv.1 = k) := by
    unfold KTRp at h
    induction h with
    | nil => rfl
    | cons z _ ih => rw [List.any_cons, List.any_cons, z.1, ih]
  unfold putK putT
  rw [ea]
  split
  · unfold KTRp at h ⊢
    rename_i z0
    clear z0 ea
    induction h with
    | nil => exact .nil
    | @cons a b l1 l2 z _ ih =>
      refine .cons ?_ ih
      obtain ⟨z1, z2⟩ := z
      dsimp only
      by_cases e : b.1 = k
      · rw [if_pos (z1.trans e), if_pos e]; exact ⟨z1, q⟩
      · rw [if_neg (fun w => e (z1.symm.trans w)), if_neg e]; exact ⟨z1, z2⟩
  · have go : ∀ {l1 : List (List Key × V)} {l2 : List (List Key × D)}, KTRp K H l1 l2 → KTRp K H (l1 ++ [(k, v)]) (l2 ++ [(k, x)]) := by
      intro l1 l2 h
      unfold KTRp at h ⊢
      induction h with
      | nil => exact .cons ⟨rfl, q⟩ .nil
      | cons z _ ih => exact .cons z ih
    exact go h
theorem KTRp.val {K : PySem.W.Frag} {H : Hp} {ws : List (List Key × V)} {kvs : List (List Key × D)} (h : KTRp K H ws kvs) (k : List Key) : (∃ v d, valV ws k = some v ∧ valT kvs k = some d ∧ Rp K H v d) ∨ (valV ws k = none ∧ valT kvs k = none) := by
  unfold KTRp at h
  induction h with
  | nil => exact .inr ⟨rfl, rfl⟩
  | @cons a b l1 l2 z _ ih =>
    by_cases e : b.1 = k
    · refine .inl ⟨a.2, b.2, valV_pos (z.1.trans e), ?_, z.2⟩
      unfold valT
      rw [List.find?_cons_of_pos (by simp [e])]
      rfl
    · have e1 : valV (a :: l1) k = valV l1 k := valV_neg fun w => e (z.1.symm.trans w)
      have e2 : valT (b :: l2) k = valT l2 k := by
        unfold valT
        rw [List.find?_cons_of_neg (by simp [e])]
      rw [e1, e2]
      exact ih
theorem KRp.val {K : PySem.W.Frag} {H : Hp} {ws : List (Key × V)} {kvs : List (Key × D)} (h : KRp K H ws kvs) (k : Key) : (∃ v d, valV ws k = some v ∧ valD kvs k = some d ∧ Rp K H v d) ∨ (valV ws k = none ∧ valD kvs k = none) := by
  unfold KRp at h
  induction h with
  | nil => exact .inr ⟨rfl, rfl⟩
  | @cons a b l1 l2 z _ ih =>
    by_cases e : b.1 = k
    · refine .inl ⟨a.2, b.2, valV_pos (z.1.trans e), ?_, z.2⟩
      unfold valD
      rw [List.find?_cons_of_pos (by simp [e])]
      rfl
    · have e1 : valV (a :: l1) k = valV l1 k := valV_neg fun w => e (z.1.symm.trans w)
      have e2 : valD (b :: l2) k = valD l2 k := by
        unfold valD
        rw [List.find?_cons_of_neg (by simp [e])]
      rw [e1, e2]
      exact ih
/-- {}: the reader tells of which kind -/
def dDNew : dTE := fun _ S Q => Q (.ref S.length) (S ++ [.dK []]) ∨ Q (.ref S.length) (S ++ [.dT []])
/-- x[k] = e, x a list of one's own or a dict -/
def dPutA (i : Nat) (tk te : dTE) : dTS := fun E ρ S => match ρ[i]? with
  | some (.own (.lst xs)) => te ρ S fun d S1 => match d with
    | .d x => tk ρ S1 fun kd S2 => match kd with
      | .d (.int j) => ∃ n, ixN xs.length j = some n ∧ E.nx (ρ.set i (.own (.lst (xs.set n x)))) S2
      | _ => False
    | _ => False
  | some (.val (.ref n)) => te ρ S fun d S1 => match d with
    | .d x => tk ρ S1 fun kd S2 => match kd with
      | .d key => match S2[n]? with
        | some (.dK kvs) => withKey key fun k => kvs.length < sizeLine ∧ E.nx ρ (S2.set n (.dK (putD kvs k x)))
        | some (.dT kvs) => withKeys key fun k => kvs.length < sizeLine ∧ E.nx ρ (S2.set n (.dT (putT kvs k x)))
        | _ => False
      | _ => False
    | _ => False
  | _ => False
section
variable {X : Cx}
theorem de_dnew {pos : Pos} : DE X (.Dict [] [] pos) dDNew := ⟨fun pins s σ H Q I h => by
  obtain ⟨F, m, o, ρ, S, k, rel, t, hk⟩ := h
  rcases t with t | t
  · refine (pe_dnewK (X := X) (pos := pos)).run pins s σ H Q I fun p hp => ?_
    obtain ⟨r2, g2⟩ := rel.newS (u := .dK []) (c := .dK []) hp ⟨[], upd_same, .nil⟩
    exact hk _ _ _ _ _ t r2 g2 ⟨p, if_pos rfl, rfl⟩
  · refine (pe_dnewT (X := X) (pos := pos)).run pins s σ H Q I fun p hp => ?_
    obtain ⟨r2, g2⟩ := rel.newS (u := .dT []) (c := .dT []) hp ⟨[], upd_same, .nil⟩
    exact hk _ _ _ _ _ t r2 g2 ⟨p, if_pos rfl, rfl⟩⟩
theorem keysRp {K : PySem.W.Frag} {H Hz : Hp} {w : V} {ks : List Key} (h : Rp K Hz w (.tuple (ks.map keyD))) (s : Sub Hz H) : ∃ b, w = .ref b ∧ H b = some (.tup (ks.map kV)) := by
  generalize e : (PyData.tuple (ks.map keyD) : D) = y at h
  cases h with
  | tup h1 h2 =>
    cases e
    have e3 := keys_rep h2
    subst e3
    exact ⟨_, rfl, s _ _ h1⟩
  | _ => cases e
theorem ds_putA {i : Nat} {x k e : Expr} {tk te : dTE} {pos pos' : Pos} (hu : X.A.units + 1 < cLine) (hx : PE X x (tVar i)) (hk : DE X k tk) (he : DE X e te)
    (ha : ∀ v, assign (.Subscript x k pos') X.env v = (do
      let ov ← holding [v] (eval x X.env)
      let iv ← holding [v, ov] (eval k X.env)
      standAt pos'
      holding [v, ov, iv] (setItem ov iv v)
      release [v, ov, iv] []) := by intro _; rfl)
    (hs : swapsWithSole [.Subscript x k pos'] e pos.line X.env = pure false := by rfl) (hw : swappedStores [.Subscript x k pos'] e X.env = pure none := by rfl)
    (h1 : (assignEach [.Subscript x k pos'] X.env).map (·.2) = [assign (.Subscript x k pos') X.env] := by rfl) : DS X (.Assign [.Subscript x k pos'] e pos) (dPutA i tk te) :=
  PS.imp (ps_asg he (pg_sub hx hk (PSet.or set_list (set_dict hu)) ha) hs hw h1) fun E σ H q => by
    obtain ⟨F, m, o, ρ, S, E', rel, t, ok⟩ := q
    unfold dPutA at t
    split at t
    · rename_i xs e0
      obtain ⟨a, h1, h2, _⟩ := rel.sl i _ e0
      refine ⟨F, m, o, ρ, S, _, rel, t, fun d S1 m1 H1 v h r g q => ?_⟩
      split at h
      · rename_i y
        refine ⟨_, h2, F, m1, o, ρ, S1, _, r, h, fun kd S2 m2 H2 w hh r2 g2 q2 => ?_⟩
        split at hh
        · rename_i j
          obtain ⟨n, hn, hh⟩ := hh
          obtain ⟨b, k1, k2, ws, k3, k4⟩ := r2.sl i _ e0
          have hb := k1.symm.trans h1
          cases hb
          refine .inl ⟨_, ws, j, n, rfl, dp_int q2, k3, by rw [RpAll.length k4]; exact hn, ?_⟩
          have hi : i < ρ.length := (List.getElem?_eq_some_iff.mp e0).1
          obtain ⟨r3, g3⟩ := r2.wrO (u := .lst (ws.set n v)) (c := .lst (xs.set n y)) h1 hi h2 ⟨_, upd_same, RpAll.sub (fz_wr (.inr (.inr ⟨i, h1⟩))) (RpAll.set (Rp.sub g2.z q) n k4)⟩
          exact ok.nx _ S2 m2 o σ _ hh r3 ((g.trans g2).trans g3)
        · exact hh.elim
      · exact h.elim
    · rename_i n e0
      obtain ⟨h0, a, h2, h1⟩ := rel.sl i _ e0
      refine ⟨F, m, o, ρ, S, _, rel, t, fun d S1 m1 H1 v h r g q => ?_⟩
      split at h
      · rename_i y
        refine ⟨_, h2, F, m1, o, ρ, S1, _, r, h, fun kd S2 m2 H2 w hh r2 g2 q2 => ?_⟩
        split at hh
        · rename_i key
          have ha2 : m2 n = some a := g2.m n a (g.m n a h1)
          obtain ⟨c0, e3, k0⟩ := r2.st.is n a ha2
          have hn : n < S2.length := (List.getElem?_eq_some_iff.mp e3).1
          split at hh
          · rename_i kvs e2
            obtain ⟨key, rfl, hl, hh⟩ := withKey_of hh
            have e4 := e3.symm.trans e2
            cases e4
            obtain ⟨ws, k3, k4⟩ := k0
            have el : ws.length = kvs.length := by
              have := congrArg List.length (KRp.keys k4)
              rwa [List.length_map, List.length_map] at this
            have hkv : w = kV key := key_rep (H := Fz H2 (Mu F m2 o)) q2
            refine .inr ⟨a, _, rfl, by rw [hkv]; exact DPut.k k3 (by rw [el]; exact hl), ?_⟩
            obtain ⟨r3, g3⟩ := r2.wrS (u := .dK (putK ws key v)) (c := .dK (putD kvs key y)) ha2 hn ⟨_, upd_same, KRp.sub (fz_wr (.inr (.inl ⟨n, ha2⟩))) (KRp.put k4 (Rp.sub g2.z q))⟩
            exact ok.nx _ _ m2 o σ _ hh r3 ((g.trans g2).trans g3)
          · rename_i kvs e2
            obtain ⟨ks, rfl, hl, hh⟩ := withKeys_of hh
            have e4 := e3.symm.trans e2
            cases e4
            obtain ⟨ws, k3, k4⟩ := k0
            obtain ⟨b, rfl, hb⟩ := keysRp (H := H2) (Hz := Fz H2 (Mu F m2 o)) q2 Fz.sub
            refine .inr ⟨a, _, rfl, DPut.t k3 hb (by rw [KTRp.length k4]; exact hl), ?_⟩
            obtain ⟨r3, g3⟩ := r2.wrS (u := .dT (putK ws ks v)) (c := .dT (putT kvs ks y)) ha2 hn ⟨_, upd_same, KTRp.sub (fz_wr (.inr (.inl ⟨n, ha2⟩))) (KTRp.put k4 (Rp.sub g2.z q))⟩
            exact ok.nx _ _ m2 o σ _ hh r3 ((g.trans g2).trans g3)
          · exact hh.elim
        · exact hh.elim
      · exact h.elim
    · exact t.elim
end
/-- d.get(k, x) -/
def isDict : Option Cell → Bool
  | some (.dK _) => true
  | some (.dT _) => true
  | _ => false
theorem isDict_of {c : Option Cell} (h : isDict c = true) : (∃ kvs, c = some (.dK kvs)) ∨ ∃ kvs, c = some (.dT kvs) := by
  unfold isDict at h
  split at h
  · exact .inl ⟨_, rfl⟩
  · exact .inr ⟨_, rfl⟩
  · cases h
theorem isD_cell {K : PySem.W.Frag} {H Hz : Hp} {a : Addr} {c : Cell} (z : CellOk K H Hz a c) (h : isDict (some c) = true) : IsD H a := by
  rcases isDict_of h with ⟨kvs, e⟩ | ⟨kvs, e⟩
  · cases e
    obtain ⟨ws, z1, _⟩ := z
    exact .inl ⟨ws, .inl z1⟩
  · cases e
    obtain ⟨ws, z1, _⟩ := z
    exact .inr ⟨ws, .inl z1⟩
def dGet2 (td tk tx : dTE) : dTE := fun ρ S Q => td ρ S fun d S1 => match d with
  | .ref n => isDict S1[n]? = true ∧ tk ρ S1 fun kd S2 => match kd with
    | .d key => tx ρ S2 fun xd S3 => match xd with
      | .d x => match S3[n]? with
        | some (.dK kvs) => withKey key fun k => Q (.d ((valD kvs k).getD x)) S3
        | some (.dT kvs) => withKeys key fun k => Q (.d ((valT kvs k).getD x)) S3
        | _ => False
      | _ => False
    | _ => False
  | _ => False
section
variable {X : Cx}
theorem de_get2 {oe e f : Expr} {apos cpos : Pos} {td tk tx : dTE} (hu : X.A.units + 1 < cLine) (ho : DE X oe td) (he : DE X e tk) (hf : DE X f tx) (m : M2 X oe "get" apos e f cpos) : DE X (.Call (.Attribute oe "get" apos) [e, f] [] cpos) (dGet2 td tk tx) :=
  PE.imp (pe_dget2 hu ho he hf m) fun σ H Q q => by
    obtain ⟨F, m, o, ρ, S, k, rel, t, hk⟩ := q
    refine ⟨F, m, o, ρ, S, _, rel, t, fun d S1 m1 H1 v h1 r1 g1 q1 => ?_⟩
    split at h1
    · rename_i n
      obtain ⟨a, ha, rfl⟩ := q1
      obtain ⟨hc, h1⟩ := h1
      obtain ⟨c1, f1, z1⟩ := r1.st.is n a ha
      rw [f1] at hc
      · refine ⟨a, rfl, isD_cell z1 hc, F, m1, o, ρ, S1, _, r1, h1, fun kd S2 m2 H2 w h2 r2 g2 q2 => ?_⟩
        split at h2
        · rename_i key
          refine ⟨F, m2, o, ρ, S2, _, r2, h2, fun xd S3 m3 H3 u h3 r3 g3 q3 => ?_⟩
          split at h3
          · rename_i x
            have ha3 : m3 n = some a := g3.m n a (g2.m n a ha)
            obtain ⟨c3, f3, z3⟩ := r3.st.is n a ha3
            split at h3
            · rename_i kvs e2
              obtain ⟨key, rfl, h4⟩ := withKey_of h3
              have e4 := f3.symm.trans e2
              cases e4
              obtain ⟨ws, k3, k4⟩ := z3
              have hkv : w = kV key := key_rep (H := Fz H3 (Mu F m3 o)) (Rp.sub g3.z q2)
              rcases KRp.val k4 key with ⟨v', d', y1, y2, y3⟩ | ⟨y1, y2⟩
              · refine ⟨some v', by rw [hkv, ← y1]; exact DGet.k k3, ?_⟩
                rw [y2] at h4
                exact hk _ S3 m3 H3 _ h4 r3 ((g1.trans g2).trans g3) y3
              · refine ⟨none, by rw [hkv, ← y1]; exact DGet.k k3, ?_⟩
                rw [y2] at h4
                exact hk _ S3 m3 H3 _ h4 r3 ((g1.trans g2).trans g3) q3
            · rename_i kvs e2
              obtain ⟨ks, rfl, h4⟩ := withKeys_of h3
              have e4 := f3.symm.trans e2
              cases e4
              obtain ⟨ws, k3, k4⟩ := z3
              obtain ⟨b, rfl, hb⟩ := keysRp (H := H3) (Hz := Fz H3 (Mu F m3 o)) (Rp.sub g3.z q2) Fz.sub
              rcases KTRp.val k4 ks with ⟨v', d', y1, y2, y3⟩ | ⟨y1, y2⟩
              · refine ⟨some v', by rw [← y1]; exact DGet.t k3 hb, ?_⟩
                rw [y2] at h4
                exact hk _ S3 m3 H3 _ h4 r3 ((g1.trans g2).trans g3) y3
              · refine ⟨none, by rw [← y1]; exact DGet.t k3 hb, ?_⟩
                rw [y2] at h4
                exact hk _ S3 m3 H3 _ h4 r3 ((g1.trans g2).trans g3) q3
            · exact h3.elim
          · exact h3.elim
        · exact h2.elim
    · exact h1.elim
end
end L3

set_option maxHeartbeats 4000000
namespace L3
open PySem PySem.Spec L2 PyProof.Rows

/-! ### in, not in: lists, tuples, texts, dicts -/
def sg (neg b : Bool) : Bool := bif neg then !b else b
def fInA (neg : Bool) : F2 := fun x y k => match y with
  | .list ys => ((flatD x && ys.all flatD) || (SeqAt.shaped x && SeqAt.shaped (.list ys))) = true ∧ k (.bool (sg neg (isIn x ys)))
  | .tuple ys => ((flatD x && ys.all flatD) || (SeqAt.shaped x && SeqAt.shaped (.list ys))) = true ∧ k (.bool (sg neg (isIn x ys)))
  | .str z => match x with
    | .str ⟨⟨[c]⟩⟩ => k (.bool (sg neg (decide (c ∈ z.cps.toList))))
    | _ => False
  | _ => False
def cellAt (S : Sto) : DV → Option Cell
  | .ref n => S[n]?
  | _ => none
def dInX (neg : Bool) (ta tb : dTE) : dTE := fun ρ S Q => ta ρ S fun x S1 => tb ρ S1 fun y S2 => match cellAt S2 y with
  | some (.dK kvs) => match x with
    | .d key => withKey key fun k => Q (.d (.bool (sg neg (valD kvs k).isSome))) S2
    | _ => False
  | some (.dT kvs) => match x with
    | .d key => withKeys key fun k => Q (.d (.bool (sg neg (valT kvs k).isSome))) S2
    | _ => False
  | _ => fInA neg (view ρ S2 x) (view ρ S2 y) fun z => Q (.d z) S2
section
variable {X : Cx}
def rInT (K : PySem.W.Frag) (neg : Bool) : R2 := fun x y H Q => ∃ d ds, Dp K H x d ∧ Dp K H y (.tuple ds) ∧ SeqAt.shaped d = true ∧ SeqAt.shaped (.list ds) = true ∧ Q (.bl (sg neg (ds.any fun z => PyData.eqv z d))) H
def rDInD (neg : Bool) : R2 := fun x y H Q => ∃ a o, y = .ref a ∧ DGet H a x o ∧ Q (.bl (sg neg o.isSome)) H
def inOp (neg : Bool) : CmpOp := bif neg then .NotIn else .In
theorem op_inT (hu : X.A.units + 65 < cLine) (neg : Bool) : OpR X (compareOp (inOp neg)) (rInT X.K neg) := by
  intro pins s σ H x y v u Q I rx ry h
  obtain ⟨d, ds, hd, he, sd, se, q⟩ := h
  obtain ⟨as, r1⟩ := Dp.reads I d x v hd rx
  obtain ⟨bs, r2⟩ := Dp.reads I (.tuple ds) y u he ry
  cases neg with
  | false => exact SeqAt.in_tuple_reads r2 r1 (SeqAt.canLay_of_shaped se) (SeqAt.canLay_of_shaped sd) (room_in_shaped sd hu) ⟨.bl _, H, I, rfl, q⟩
  | true => exact SeqAt.notIn_tuple_reads r2 r1 (SeqAt.canLay_of_shaped se) (SeqAt.canLay_of_shaped sd) (room_in_shaped sd hu) ⟨.bl _, H, I, rfl, q⟩
theorem op_inDict (hu : X.A.units + 65 < cLine) (neg : Bool) : OpR X (compareOp (inOp neg)) (rDInD neg) := by
  intro pins s σ H x y v u Q I rx ry h
  obtain ⟨a, o, rfl, g, q⟩ := h
  obtain rfl : u = Value.ref a := ry
  cases neg with
  | false => exact d_in (by omega) I g rx fun s' I' => ⟨.bl _, H, I', rfl, q⟩
  | true => exact d_notIn (by omega) I g rx fun s' I' => ⟨.bl _, H, I', rfl, q⟩
theorem op_inL (hu : X.A.units + 65 < cLine) (neg : Bool) : OpR X (compareOp (inOp neg)) (fun x y H Q => ∃ d ds, Dp X.K H x d ∧ Dp X.K H y (.list ds) ∧ SeqAt.shaped d = true ∧ SeqAt.shaped (.list ds) = true ∧ Q (.bl (sg neg (ds.any fun z => PyData.eqv z d))) H) := by
  cases neg with
  | false => exact op_inD hu
  | true => exact op_notInD hu
theorem op_inSeq (neg : Bool) : OpR X (compareOp (inOp neg)) (rIn X.K neg) := by
  cases neg with
  | false => exact op_in_seq
  | true => exact op_notIn_seq
theorem op_inSg (neg : Bool) : OpR X (compareOp (inOp neg)) (fun x y H Q => ∃ (c : Nat) (z : Str), x = .str ⟨#[c]⟩ ∧ y = .str z ∧ Q (.bl (sg neg (decide (c ∈ z.cps.toList)))) H) := by
  cases neg with
  | false => exact op_in_sign
  | true => exact op_notIn_sign
theorem op_inAll (hu : X.A.units + 65 < cLine) (neg : Bool) : ∃ r, OpR X (compareOp (inOp neg)) r ∧ OpD X.K r (fInA neg) ∧ ∀ x y H Q, rDInD neg x y H Q → r x y H Q := by
  refine ⟨_, ((((op_inSeq neg).or (op_inL hu neg)).or (op_inT hu neg)).or (op_inSg neg)).or (op_inDict hu neg), fun M H x y dx dy k Q al rx ry h fin => ?_, fun x y H Q h => .inr h⟩
  unfold fInA at h
  refine .inl ?_
  split at h
  · obtain ⟨c, h⟩ := h
    rw [Bool.or_eq_true] at c
    rcases c with c | c
    · rw [Bool.and_eq_true] at c
      obtain ⟨a, vs, rfl, h1, _, h2⟩ := ry.list'
      obtain ⟨e1, e2⟩ := inV_is (rx.rp c.1) c.1 (RpAll.sub Fz.sub h2) c.2
      refine .inl (.inl (.inl ⟨a, vs, rfl, .inl h1, flat_V (rx.rp c.1) c.1, e2, ?_⟩))
      cases neg with
      | false => rw [if_neg Bool.false_ne_true, e1]; exact fin _ _ _ h (Sub.refl _) (.bl _)
      | true => rw [if_pos rfl, e1]; exact fin _ _ _ h (Sub.refl _) (.bl _)
    · rw [Bool.and_eq_true] at c
      exact .inl (.inl (.inr ⟨_, _, rx.dp Fz.sub (SeqAt.canLay_of_shaped c.1), ry.dp Fz.sub (SeqAt.canLay_of_shaped c.2), c.1, c.2, fin _ _ _ h (Sub.refl _) (.bl _)⟩))
  · obtain ⟨c, h⟩ := h
    rw [Bool.or_eq_true] at c
    rcases c with c | c
    · rw [Bool.and_eq_true] at c
      obtain ⟨a, vs, rfl, h1, _, _, h2⟩ := ry.tup'
      obtain ⟨e1, e2⟩ := inV_is (rx.rp c.1) c.1 (RpAll.sub Fz.sub h2) c.2
      refine .inl (.inl (.inl ⟨a, vs, rfl, .inr h1, flat_V (rx.rp c.1) c.1, e2, ?_⟩))
      cases neg with
      | false => rw [if_neg Bool.false_ne_true, e1]; exact fin _ _ _ h (Sub.refl _) (.bl _)
      | true => rw [if_pos rfl, e1]; exact fin _ _ _ h (Sub.refl _) (.bl _)
    · rw [Bool.and_eq_true] at c
      exact .inl (.inr ⟨_, _, rx.dp Fz.sub (SeqAt.canLay_of_shaped c.1), ry.dp Fz.sub (show (PyData.tuple _).canLay0 = true from SeqAt.canLay_of_shaped c.2), c.1, c.2, fin _ _ _ h (Sub.refl _) (.bl _)⟩)
  · split at h
    · exact .inr ⟨_, _, rx.str, ry.str, fin _ _ _ h (Sub.refl _) (.bl _)⟩
    · exact h.elim
  · exact h.elim
theorem lift_inX {K : PySem.W.Frag} {neg : Bool} {r : R2} (hf : OpD K r (fInA neg)) (hd : ∀ x y H Q, rDInD neg x y H Q → r x y H Q) {ta tb : dTE} {σ : L2.St} {H : Hp} {Q : VK} (h : lift K (dInX neg ta tb) σ H Q) : tOp r (lift K ta) (lift K tb) σ H Q := by
  obtain ⟨F, m, o, ρ, S, k, rel, t, hk⟩ := h
  refine ⟨F, m, o, ρ, S, _, rel, t, fun d S1 m1 H1 v h1 rel1 g1 r1 => ?_⟩
  refine ⟨F, m1, o, ρ, S1, _, rel1, h1, fun e S2 m2 H2 w h2 rel2 g2 r2 => ?_⟩
  have fin : ∀ z u H', k (.d z) S2 → Sub H2 H' → Rp K (Fz H' (Mu F m2 o)) u z → Q u H' := fun z u H' kz s dz => hk (.d z) S2 m2 H' u kz (rel2.sub s) ((g1.trans g2).trans (Grow.sub rel2 s)) dz
  split at h2
  · rename_i kvs ec
    split at h2
    · rename_i key
      obtain ⟨ks, rfl, h3⟩ := withKey_of h2
      cases e with
      | ref n =>
        obtain ⟨a, ha, rfl⟩ := r2
        obtain ⟨c, f1, z1⟩ := rel2.st.is n a ha
        have e4 := f1.symm.trans ec
        cases e4
        obtain ⟨ws, k3, k4⟩ := z1
        have hkv : v = kV ks := key_rep (H := Fz H2 (Mu F m2 o)) (Rp.sub g2.z r1)
        rcases KRp.val k4 ks with ⟨v', d', y1, y2, y3⟩ | ⟨y1, y2⟩
        · rw [y2] at h3
          exact hd _ _ _ _ ⟨a, some v', rfl, by rw [hkv, ← y1]; exact DGet.k k3, fin _ _ _ h3 (Sub.refl _) (.bl _)⟩
        · rw [y2] at h3
          exact hd _ _ _ _ ⟨a, none, rfl, by rw [hkv, ← y1]; exact DGet.k k3, fin _ _ _ h3 (Sub.refl _) (.bl _)⟩
      | d x => cases ec
      | loc i => cases ec
    · exact h2.elim
  · rename_i kvs ec
    split at h2
    · rename_i key
      obtain ⟨ks, rfl, h3⟩ := withKeys_of h2
      cases e with
      | ref n =>
        obtain ⟨a, ha, rfl⟩ := r2
        obtain ⟨c, f1, z1⟩ := rel2.st.is n a ha
        have e4 := f1.symm.trans ec
        cases e4
        obtain ⟨ws, k3, k4⟩ := z1
        obtain ⟨b, rfl, hb⟩ := keysRp (H := H2) (Hz := Fz H2 (Mu F m2 o)) (Rp.sub g2.z r1) Fz.sub
        rcases KTRp.val k4 ks with ⟨v', d', y1, y2, y3⟩ | ⟨y1, y2⟩
        · rw [y2] at h3
          exact hd _ _ _ _ ⟨a, some v', rfl, by rw [← y1]; exact DGet.t k3 hb, fin _ _ _ h3 (Sub.refl _) (.bl _)⟩
        · rw [y2] at h3
          exact hd _ _ _ _ ⟨a, none, rfl, by rw [← y1]; exact DGet.t k3 hb, fin _ _ _ h3 (Sub.refl _) (.bl _)⟩
      | d x => cases ec
      | loc i => cases ec
    · exact h2.elim
  · exact hf (Mu F m2 o) H2 v w _ _ _ _ rel2.st.liv (rel2.view (r1.grow g2)) (rel2.view r2) h2 fun z u H' kz s dz => fin z u H' kz s dz
theorem de_in {a b : Expr} {ta tb : dTE} {pos : Pos} (hu : X.A.units + 65 < cLine) (ha : DE X a ta) (hb : DE X b tb) (hm : behindInMarks .In b = false := by first | exact nomark _ | rfl) : DE X (.Compare a [.In] [b] pos) (dInX false ta tb) :=
  let ⟨_, h1, h2, h3⟩ := op_inAll hu false; PE.imp (pe_cmpR h1 ha hb hm) fun _ _ _ => lift_inX h2 h3
theorem de_notin {a b : Expr} {ta tb : dTE} {pos : Pos} (hu : X.A.units + 65 < cLine) (ha : DE X a ta) (hb : DE X b tb) (hm : behindInMarks .NotIn b = false := by first | exact nomark _ | rfl) : DE X (.Compare a [.NotIn] [b] pos) (dInX true ta tb) :=
  let ⟨_, h1, h2, h3⟩ := op_inAll hu true; PE.imp (pe_cmpR h1 ha hb hm) fun _ _ _ => lift_inX h2 h3
theorem dt_in {a b : Expr} {ta tb : dTE} {pos : Pos} (hu : X.A.units + 65 < cLine) (ha : DE X a ta) (hb : DE X b tb) (hm : behindInMarks .In b = false := by first | exact nomark _ | rfl) : DT X (.Compare a [.In] [b] pos) (dB (dInX false ta tb)) :=
  let ⟨_, h1, h2, h3⟩ := op_inAll hu false; PT.imp (pt_cmpR h1 ha hb hm) fun σ H Q q => lift_inX h2 h3 (lift_b q)
theorem dt_notin {a b : Expr} {ta tb : dTE} {pos : Pos} (hu : X.A.units + 65 < cLine) (ha : DE X a ta) (hb : DE X b tb) (hm : behindInMarks .NotIn b = false := by first | exact nomark _ | rfl) : DT X (.Compare a [.NotIn] [b] pos) (dB (dInX true ta tb)) :=
  let ⟨_, h1, h2, h3⟩ := op_inAll hu true; PT.imp (pt_cmpR h1 ha hb hm) fun σ H Q q => lift_inX h2 h3 (lift_b q)
end
end L3

set_option maxHeartbeats 4000000
namespace L3
open PySem PySem.Spec L2 PyProof.Rows PySem.W

/-! ### the heap never shrinks -/
theorem runs_hsz {M : Model} {Γ : PySem.Ctx} {p : Pos} {t : Sem PySem.Fin} {fs : List Frame} {s s' : Shared} {e : End} (h : Runs M Γ p t fs s e s') : s.heap.objs.size ≤ s'.heap.objs.size := by
  induction h <;> (try simp only [Shared.setGen, Heap.size_push, Heap.size_update] at *) <;> omega
theorem returns_hsz {M : Model} {Γ : PySem.Ctx} {p : Pos} {s s' : Shared} {r : Result} (h : Returns M Γ p s r s') : s.heap.objs.size ≤ s'.heap.objs.size := runs_hsz h
theorem setGen_hsz (s : Shared) (g : Nat) (x : GenState) : (s.setGen g x).heap.objs.size = s.heap.objs.size := rfl
theorem wakes_hsz {M : Model} {Γ : PySem.Ctx} {p : Pos} {g : Nat} {r : Resume} {s s' : Shared} {res : GenResult} (h : Wakes M Γ p g r s res s') : s.heap.objs.size ≤ s'.heap.objs.size := by
  unfold Wakes at h
  split at h
  · exact h.elim
  · split at h
    · obtain ⟨e₁, s₁, hr, _, _, rfl⟩ := h
      have q := runs_hsz hr
      exact q
    · rw [h.2]; exact Nat.le_refl _
    · rw [h.2]; exact Nat.le_refl _
  · obtain ⟨e₁, s₁, hr, _, _, rfl⟩ := h
    have q := runs_hsz hr
    exact q
  · rw [h.2]; exact Nat.le_refl _
  · rw [h.2]; exact Nat.le_refl _
theorem wp_hsz {α : Type} (M : Model) (Γ : PySem.Ctx) (n : Nat) (t : Sem α) : ∀ (Q : α → Pos → Shared → Prop) (E : Value → Pos → Shared → Prop) (p : Pos) (s : Shared), n ≤ s.heap.objs.size → Sem.wp M Γ t Q E p s →
    Sem.wp M Γ t (fun a p' s' => n ≤ s'.heap.objs.size ∧ Q a p' s') (fun e p' s' => n ≤ s'.heap.objs.size ∧ E e p' s') p s := by
  induction t with
  | pure a => intro Q E p s hn h; exact ⟨hn, h⟩
  | raise e => intro Q E p s hn h; exact ⟨hn, h⟩
  | unsupported _ => intro Q E p s _ h; exact h
  | finish _ => intro Q E p s _ h; exact h
  | rule _ k ih => intro Q E p s hn h; exact ih () Q E p s hn h
  | «at» p' k ih => intro Q E p s hn h; exact ih () Q E p' s hn h
  | load a _ k ih => intro Q E p s hn h; obtain ⟨o, ho, h⟩ := h; exact ⟨o, ho, ih o Q E p s hn h⟩
  | update a _ f k ih => intro Q E p s hn h; exact ⟨h.1, ih () Q E p _ (by show n ≤ (s.heap.update a f).objs.size; rw [Heap.size_update]; exact hn) h.2⟩
  | loadIfAlive a k ih => intro Q E p s hn h; exact ih _ Q E p s hn h
  | point _ k ih => intro Q E p s hn h; exact ih () Q E p s hn h
  | register _ _ => intro Q E p s _ h; exact h
  | alloc o k ih => intro Q E p s hn h; exact ih _ Q E p _ (by show n ≤ (s.heap.push o).objs.size; rw [Heap.size_push]; omega) h
  | fresh k ih => intro Q E p s hn h; exact ih _ Q E p _ hn h
  | ask k ih => intro Q E p s hn h; exact ih _ Q E p s hn h
  | choose src m k ih => intro Q E p s hn h; exact ⟨h.1, ih _ Q E p _ hn h.2⟩
  | os q _ k ih => intro Q E p s hn h; exact ih _ Q E p _ hn h
  | call c hd _ _ k ih => intro Q E p s hn h; obtain ⟨r, s', hr, h⟩ := h; exact ⟨r, s', hr, ih r Q E p s' (Nat.le_trans hn (returns_hsz hr)) h⟩
  | handled own k ih => intro Q E p s hn h; exact ih _ Q E p s hn h
  | genState g k ih => intro Q E p s hn h; obtain ⟨st, hs, h⟩ := h; exact ⟨st, hs, ih _ Q E p s hn h⟩
  | newGen c k ih => intro Q E p s hn h; exact ih _ Q E p _ hn h
  | resume g r _ k ih => intro Q E p s hn h; obtain ⟨res, s', hw, h⟩ := h; exact ⟨res, s', hw, ih res Q E p s' (Nat.le_trans hn (wakes_hsz hw)) h⟩
  | yield _ _ _ _ => intro Q E p s _ h; exact h
  | stack k ih => intro Q E p s hn h; exact ih _ Q E p s hn h
  | fork _ _ => intro Q E p s _ h; exact h
  | thread k ih => intro Q E p s hn h; exact ih _ Q E p s hn h
  | await _ _ _ _ _ => intro Q E p s _ h; exact h
/-- the heap never shrinks -/
theorem wpAny_hsz {α : Type} {M : Model} {A : Around} {s : Shared} {t : Sem α} {Q : α → Shared → Prop} {E : Value → Shared → Prop}
    (h : wpAny M A t (fun a s' => s.heap.objs.size ≤ s'.heap.objs.size → Q a s') E s) : wpAny M A t Q E s :=
  wpAny_mono (fun Γ p hΓ => wp_hsz M Γ s.heap.objs.size t _ _ p s (Nat.le_refl _) (h Γ p hΓ) : wpAny M A t (fun a s' => s.heap.objs.size ≤ s'.heap.objs.size ∧ (s.heap.objs.size ≤ s'.heap.objs.size → Q a s')) (fun e s' => s.heap.objs.size ≤ s'.heap.objs.size ∧ E e s') s)
    (fun _ _ x => x.2 x.1) fun _ _ x => x.2

/-! ### sorted, whatever can be gathered -/
noncomputable def sortD (ds : List D) : List D := ds.mergeSort (dataLe false id)
section
variable {prog : Program} {w : World} {A : Around} {E : Value → Shared → Prop} {s : Shared}
/-- v is gathered into values vs of which C tells, in a heap that has grown -/
def Coll (prog : Program) (w : World) (A : Around) (s : Shared) (v : Value) (C : Heap → List Value → Prop) : Prop :=
  ∀ (E : Value → Shared → Prop) (R : List Value → Shared → Prop), (∀ h' tk vs, (∀ b o, s.heap.get? b = some o → h'.get? b = some o) → s.heap.objs.size ≤ h'.objs.size → C h' vs → R vs { s with heap := h', toks := tk }) → wpAny (model prog w) A (collect v) R E s
theorem sorted_coll {v : Value} {C : Heap → List Value → Prop} {ds : List D} {G : Heap → Value → D → Prop} {Q : Value → Shared → Prop} (hc : Coll prog w A.in1 s v C)
    (hG : ∀ h' vs, (∀ b o, s.heap.get? b = some o → h'.get? b = some o) → C h' vs → EachIs (G h') vs ds ∧ ∀ u d, G h' u d → ∃ as, Reads h' u d as) (hal : AllAlike ds) (hk : Sortable ds) (hL : ds.length ≤ sizeLine) (hu : ∀ d ∈ ds, A.units + 3 + d.depth < cLine)
    (h : ∀ h' tk vs out c h'', (∀ b o, s.heap.get? b = some o → h'.get? b = some o) → C h' vs → out.length = ds.length → EachIs (G h') out (sortD ds) → (∀ b o, h'.get? b = some o → h''.get? b = some o) → s.heap.objs.size ≤ h'.objs.size →
      h''.get? h'.objs.size = some (seqObj "list" (List.toArray out) c) → Q (.ref h'.objs.size) { s with heap := h'', toks := tk }) : wpAny (model prog w) A (call (.builtin "sorted") [v]) Q E s := by
  refine Calls.call_function_entry kind_sorted plain_sorted entry_sorted (args_sorted1 _) ?_
  unfold Builtin.«sorted»
  refine wpAny_bind (m := checkCount "sorted" 1 1 _) (wpAny_pure ?_)
  refine wpAny_bind (hc _ _ fun h' tk vs kp hsz hC => ?_)
  obtain ⟨e1, rd⟩ := hG h' vs kp hC
  have el := e1.length
  refine wpAny_bind (wpAny_newList ?_ (by rw [el]; exact hL))
  have hoL : (h'.push (seqObj "list" vs.toArray 0)).get? h'.objs.size = some (seqObj "list" vs.toArray 0) := Heap.get?_push_size _ rfl
  have rd2 : EachIs (fun u d => ∃ as, Reads (h'.push (seqObj "list" vs.toArray 0)) u (id d) as ∧ h'.objs.size ∉ as) vs ds := e1.mono fun u d g => by
    obtain ⟨as, r⟩ := rd u d g
    refine ⟨as, PyProof.Rows.Reads.keeps (fun b o e => Heap.get?_push_of_some _ e) r, fun hm => ?_⟩
    obtain ⟨o, e⟩ := PyProof.On.reads_mem_get r _ hm
    exact absurd (Heap.lt_size e) (Nat.lt_irrefl _)
  refine wpAny_bind (wpAny_holding (list_sort_data (s := { s with heap := h'.push (seqObj "list" vs.toArray 0), toks := tk }) (R := G h') (enc := id) hoL e1 rd2 (by rw [List.map_id]; exact hal) (by rw [List.map_id]; exact hk) hL (fun b hb => by
    have := hu b hb
    show A.in1.units + 1 + b.depth < cLine
    have : A.in1.units = A.units + 1 := rfl
    omega) fun out ol eo => ?_))
  obtain ⟨c, hcc⟩ := sortedHeap_at (vs := vs) (out := List.toArray out) hoL
  refine wpAny_pure ⟨_, rfl, h h' tk vs out c _ kp hC ol eo (fun b o e => ?_) hsz hcc⟩
  have hlt := Heap.lt_size e
  rw [sortedHeap_old (Nat.ne_of_lt hlt) (by rw [size_push']; exact Nat.lt_succ_of_lt hlt)]
  exact Heap.get?_push_of_some _ e
end
section
variable {prog : Program} {w : World} {A : Around} {s : Shared}
theorem coll_list {l : Addr} {vs : List Value} (hl : s.heap.IsList l vs.toArray) (hsz : vs.length ≤ sizeLine) : Coll prog w A s (.ref l) (fun _ us => us = vs) := fun E R h =>
  collect_list hl (h _ _ _ (fun b o e => by
    rw [Heap.get?_update_ne _ _ _ _ (Nat.ne_of_lt (Heap.lt_size e))]
    exact Heap.get?_push_of_some _ e) (by rw [Heap.size_update, size_push']; omega) rfl) hsz
theorem coll_tuple {l : Addr} {vs : List Value} (hl : s.heap.IsTuple l vs.toArray) (hsz : vs.length ≤ sizeLine) : Coll prog w A s (.ref l) (fun _ us => us = vs) := fun E R h => by
  obtain ⟨o, ho, hc, n, hd⟩ := id hl
  unfold collect
  refine wpAny_bind (wpAny_runValue (codeAny_builtin entry_proto_collect' ?_))
  show wpAny _ _ (do again (.builtin "list.__iadd__" ⟨[← newList [], .ref l], []⟩)) _ _ s
  refine wpAny_bind (wpAny_newList (wpAny_pure ⟨Code.quiet_builtin _ (by decide +kernel), codeAny_builtin entry_list_iadd' ?_⟩))
  show wpAny _ _ (Builtin.List.listExtendWith (.ref s.heap.objs.size) (.ref l) (.ref s.heap.objs.size)) _ _ { s with heap := s.heap.push (seqObj "list" #[] 0) }
  unfold Builtin.List.listExtendWith
  have ho' : (s.heap.push (seqObj "list" #[] 0)).get? l = some o := Heap.get?_push_of_some _ ho
  refine wpAny_bind (wpAny_typeOf (T := "tuple") ⟨o, ho', hc⟩ ?_)
  rw [if_pos (by simp)]
  refine wpAny_bind (listItems_at ho' hd ?_)
  refine wpAny_bind (listItems_at (xs := #[]) (n := 0) (Heap.get?_push_size _ rfl) rfl ?_)
  rw [if_neg (by simp)]
  refine wpAny_bind (listUpdate_at (xs := #[]) (n := 0) (Heap.get?_push_size _ rfl) rfl ?_ (Nat.zero_le _) (by show (#[] ++ vs.toArray).size ≤ sizeLine + 1; simp only [Array.size_append, List.size_toArray, List.length_nil]; omega))
  refine wpAny_pure ?_
  show wpAny (model prog w) A (do
      let o ← load s.heap.objs.size
      match o.data with
      | .seq xs _ => pure xs.toList
      | _ => unsupported "internal:collect") R E { s with heap := (s.heap.push (seqObj "list" #[] 0)).update s.heap.objs.size (Obj.mapSeq (· ++ vs.toArray)) }
  refine wpAny_bind (wpAny_load (get?_update_seq (Heap.get?_push_size _ rfl) _) ?_)
  show wpAny _ _ (pure ((#[] : Array Value) ++ vs.toArray).toList) R E _
  rw [show ((#[] : Array Value) ++ vs.toArray).toList = vs by simp]
  exact wpAny_pure (h _ _ _ (fun b o e => by
    rw [Heap.get?_update_ne _ _ _ _ (Nat.ne_of_lt (Heap.lt_size e))]
    exact Heap.get?_push_of_some _ e) (by rw [Heap.size_update, size_push']; omega) rfl)
theorem coll_kdl {T : String} {r d : Addr} {n : Nat} {P : Nat → Value → Prop} {OK : Heap → Prop} (K : PySem.W.KdlSrc prog w T r d n P OK) (hh : A.handled = none) (hok : OK s.heap) (hn : n ≤ sizeLine) : Coll prog w A s (.ref r) (fun _ us => ItemsOf P us.toArray n) := fun E R h =>
  wpAny_hsz (PySem.W.kdu_collect K hh hok hn fun h' tk acc kp it z => h h' tk _ kp z (by show ItemsOf P acc.toList.toArray n; rw [Array.toArray_toList]; exact it))
end
end L3

set_option maxHeartbeats 4000000
namespace L3
open PySem PySem.Spec L2 PyProof.Rows PySem.W

theorem each_idx {α β : Type} {R : α → β → Prop} : ∀ {as : List α} {bs : List β}, as.length = bs.length → (∀ (j : Nat) a b, as[j]? = some a → bs[j]? = some b → R a b) → EachIs R as bs
  | [], [], _, _ => .nil
  | [], _ :: _, h, _ => by cases h
  | _ :: _, [], h, _ => by cases h
  | a :: as, b :: bs, h, q => .cons (q 0 a b rfl rfl) (each_idx (by simpa using h) fun j x y e1 e2 => q (j + 1) x y (by simpa using e1) (by simpa using e2))
theorem each_out {P : V → D → Prop} : ∀ {us : List Value} {ds : List D}, EachIs (fun u d => ∃ x, RelV x u ∧ P x d) us ds → ∃ xs : List V, Vals xs us ∧ xs.length = ds.length ∧ ∀ (j : Nat) x d, xs[j]? = some x → ds[j]? = some d → P x d
  | _, _, .nil => ⟨[], .nil, rfl, fun j x d e => by simp at e⟩
  | _, _, .cons ⟨x, r, p⟩ t => by
    obtain ⟨xs, h1, h2, h3⟩ := each_out t
    refine ⟨x :: xs, .cons r h1, by simp [h2], fun j y d e1 e2 => ?_⟩
    cases j with
    | zero => simp at e1 e2; subst e1 e2; exact p
    | succ j => exact h3 j y d (by simpa using e1) (by simpa using e2)
theorem rpAll_idx {K : PySem.W.Frag} {H : Hp} : ∀ {xs : List V} {ds : List D}, xs.length = ds.length → (∀ (j : Nat) x d, xs[j]? = some x → ds[j]? = some d → Rp K H x d) → RpAll K H xs ds
  | [], [], _, _ => .nil
  | [], _ :: _, h, _ => by cases h
  | _ :: _, [], h, _ => by cases h
  | a :: as, b :: bs, h, q => .cons (q 0 a b rfl rfl) (rpAll_idx (by simpa using h) fun j x y e1 e2 => q (j + 1) x y (by simpa using e1) (by simpa using e2))
mutual
theorem Rp.dpA {K : PySem.W.Frag} {H : Hp} : ∀ {v : V} {d : D}, Rp K H v d → alike d d = true → Dp K H v d
  | _, _, .non, _ => .non
  | _, _, .bl b, _ => .bl b
  | _, _, .int i, _ => .int i
  | _, _, .str x, _ => .str x
  | _, _, .lst h r, c => .lst (SqL.of h) (RpAll.dpA r (by simpa [alike] using c))
  | _, _, .tup h r, c => .tup (SqT.of h) (RpAll.dpA r (by simpa [alike] using c))
  | _, _, .scr h, c => by simp [scrD, alike] at c
theorem RpAll.dpA {K : PySem.W.Frag} {H : Hp} : ∀ {vs : List V} {ds : List D}, RpAll K H vs ds → alikeAll ds ds = true → DpAll K H vs ds
  | _, _, .nil, _ => .nil
  | _, _, .cons h r, c => by
    simp only [alikeAll, Bool.and_eq_true] at c
    exact .cons (Rp.dpA h c.1) (RpAll.dpA r c.2)
end
/-- the things can be sorted -/
def SortOk (xs : List D) : Prop := AllAlike xs ∧ Sortable xs ∧ xs.length ≤ sizeLine ∧ ∀ d ∈ xs, d.depth ≤ 50
def gathD : D → Option (List D)
  | .list xs => some xs
  | .tuple xs => some xs
  | .dict kvs => some (kvs.map (·.1))
  | _ => none
def fSortedA : FN := fun ds k => match ds with
  | [x] => withL (gathD x) fun xs => SortOk xs ∧ k (.list (sortD xs))
  | _ => False
theorem is_rel {P : Program} {w : World} {k : Key} {u : Value} (h : (mixKind P w).is k u = true) : RelV (kV k) u := by
  rcases keyIs_shape (show keyIs k u = true from h) with ⟨i, t, rfl, rfl⟩ | ⟨x, t, rfl, rfl⟩
  · exact ⟨t, rfl⟩
  · exact ⟨t, rfl⟩
section
variable {X : Cx}
def rSortA (K : PySem.W.Frag) : List V → Hp → VK → Prop := fun xs H Q => ∃ (M : Addr → Prop) (v : V) (d : D) (ds : List D), xs = [v] ∧ Alive M H ∧ VRep K H (Fz H M) v d ∧ gathD d = some ds ∧ SortOk ds ∧
  ∀ p ws, H p = none → RpAll K (Fz H M) ws (sortD ds) → Q (.ref p) (upd H p (.lst ws))
theorem cr_sortA (hc : X.calm = true) (hu : X.A.units + 65 < cLine) : CallR X (.builtin "sorted") (rSortA X.K) := by
  intro pins s σ H xs us Q I r h
  obtain ⟨M, v, d, ds, rfl, al, vr, hg, ⟨o1, o2, o3, o4⟩, q⟩ := h
  have hh : X.A.handled = none := I.ok.hd hc
  obtain ⟨u, rfl, rx⟩ := r.one
  -- the way out
  have out : ∀ (C : Heap → List Value → Prop), Coll X.prog X.w X.A.in1 s u C →
      (∀ h' vs, (∀ b o, s.heap.get? b = some o → h'.get? b = some o) → C h' vs → EachIs (fun y e => (∃ x, RelV x y ∧ Rp X.K (Fz H M) x e ∧ alike e e = true)) vs ds) →
      wpAny (model X.prog X.w) X.A (call (.builtin "sorted") [u]) (EP X pins σ Q) X.xe s := by
    intro C cl hG
    refine sorted_coll (G := fun h' y e => (∃ x, RelV x y ∧ Rp X.K (Fz H M) x e ∧ alike e e = true) ∧ ∃ as, Reads h' y e as) cl (fun h' vs kp hC => ⟨?_, fun y e g => g.2⟩) o1 o2 o3 (fun e he => by have := o4 e he; omega) fun h' tk vs out c h'' kp hC ol eo kp2 hsz hat => ?_
    · exact (hG h' vs kp hC).mono fun y e ⟨x, r1, r2, r3⟩ => ⟨⟨x, r1, r2, r3⟩, by
        obtain ⟨as, z⟩ := Dp.reads I e x y (Rp.dpA (Rp.sub Fz.sub r2) r3) r1
        exact ⟨as, PyProof.Rows.Reads.keeps kp z⟩⟩
    · obtain ⟨ws, v1, v2, v3⟩ := each_out (P := fun x e => Rp X.K (Fz H M) x e) (eo.mono fun y e ⟨⟨x, r1, r2, _⟩, _⟩ => ⟨x, r1, r2⟩)
      have I2 : Inv X pins σ (upd H h'.objs.size (.lst ws)) { s with heap := h'', toks := tk } := I.laid (t' := tk) (o := .lst ws) (fun b o e => kp2 b o (kp b o e)) hsz
        ⟨by rw [v1.length, ol]; exact o3, out, c, v1, hat⟩
      exact ⟨.ref h'.objs.size, _, I2, rfl, q _ ws (I.hok.fresh hsz) (rpAll_idx v2 v3)⟩
  cases d with
  | list xs =>
    cases hg
    obtain ⟨a, vs, rfl, h1, h1', h2⟩ := vr.list'
    cases rx
    obtain ⟨its, rv, pl, hz⟩ := I.list (SqL.of h1')
    refine out _ (coll_list pl.isList (by rw [← rv.length]; exact hz)) fun h' us kp e => ?_
    subst e
    refine each_idx (by rw [← rv.length, RpAll.length h2]) fun j y e e1 e2 => ?_
    obtain ⟨x, g1, g2⟩ := RpAll.get h2 e2
    obtain ⟨y', g3, g4⟩ := rv.get g1
    rw [e1] at g3
    cases g3
    exact ⟨x, g4, g2, o1 _ (List.mem_of_getElem? e2) _ (List.mem_of_getElem? e2)⟩
  | tuple xs =>
    cases hg
    obtain ⟨a, vs, rfl, h1, h1', _, h2⟩ := vr.tup'
    cases rx
    obtain ⟨its, rv, pl, hz⟩ := I.tuple h1
    refine out _ (coll_tuple pl (by rw [← rv.length]; exact hz)) fun h' us kp e => ?_
    subst e
    refine each_idx (by rw [← rv.length, RpAll.length h2]) fun j y e e1 e2 => ?_
    obtain ⟨x, g1, g2⟩ := RpAll.get h2 e2
    obtain ⟨y', g3, g4⟩ := rv.get g1
    rw [e1] at g3
    cases g3
    exact ⟨x, g4, g2, o1 _ (List.mem_of_getElem? e2) _ (List.mem_of_getElem? e2)⟩
  | dict kvs =>
    cases hg
    generalize hx : (PyData.dict kvs : D) = w at vr
    cases vr with
    | d q0 =>
      cases q0 with
      | @scr a ms h0 =>
        exfalso
        simp only [scrD, PyData.dict.injEq] at hx
        subst hx
        rcases o2 with o2 | o2
        · obtain ⟨x, r, e⟩ := o2 .none (by simp)
          cases e
        · exact (o2 .none (by simp)).1 rfl
      | _ => cases hx
    | @cell a c q0 =>
      cases rx
      cases c with
      | lst ys => cases hx
      | dK kv =>
        simp only [cellD, PyData.dict.injEq] at hx
        subst hx
        obtain ⟨ws, h1, h2⟩ := q0
        obtain ⟨z, hs, vs, rel, dd⟩ := dk_of I.hok h1
        obtain ⟨o, es, ep, d1, d2, d3, d4, d5, d6⟩ := dd
        have ek := KRp.keys h2
        have lw : ws.length = kv.length := by
          have := congrArg List.length ek
          rwa [List.length_map, List.length_map] at this
        have lv : ws.length = vs.length := Paired.length rel
        refine out _ (coll_kdl (A := X.A.in1) (PySem.W.kdl_dict (knd := mixKind X.prog X.w) (kvs := vs) (ep := ep) hs) hh ⟨o, es, d1, d2, d3, d4, d5, d6⟩ (by rw [← lv]; exact z)) fun h' us kp it => ?_
        refine each_idx (by rw [List.length_map, List.length_map, ← lw, lv]; have := it.1; rwa [List.size_toArray] at this) fun j y e e1 e2 => ?_
        obtain ⟨k, x, f1, f2⟩ := it.2 j y (by simpa using e1)
        obtain ⟨p, g1, g2, g3⟩ := L2.DX.pget rel f1
        rw [List.map_map, List.getElem?_map] at e2
        have e3 : (kv[j]?).map (·.1) = some k := by
          rw [← List.getElem?_map, ← ek, List.getElem?_map, g1]
          exact congrArg some g2
        cases e4 : kv[j]? with
        | none => rw [e4] at e3; cases e3
        | some t =>
          rw [e4] at e2 e3
          have e5 : t.1 = k := Option.some.inj e3
          have e6 : keyD t.1 = e := Option.some.inj e2
          subst e5 e6
          refine ⟨kV t.1, is_rel f2, ?_, ?_⟩
          · cases t.1 with
            | inl i => exact .int i
            | inr i => exact .str i
          · cases t.1 <;> rfl
      | dT kv =>
        simp only [cellD, PyData.dict.injEq] at hx
        subst hx
        obtain ⟨ws, h1, h2⟩ := q0
        obtain ⟨z, hs, ks, pr, o, es, ep, ho, hx2, hdt, he, hn⟩ := (show ObjOk X.prog X.w H s.heap a (.dT ws) from I.hok a _ h1)
        have l1 : es.size = ks.length := size_of_entries he
        have l2 : ws.length = ks.length := Paired.length pr
        refine out _ (coll_kdl (A := X.A.in1) (kdl_raw hs hx2 hdt) hh ho (by omega)) fun h' us kp it => ?_
        have lus : us.length = es.size := by
          have := it.1
          rwa [List.size_toArray] at this
        refine each_idx (by rw [List.length_map, List.length_map, ← KTRp.length h2]; omega) fun j y e e1 e2 => ?_
        obtain ⟨en, f1, f2⟩ := it.2 j y (by simpa using e1)
        rw [entry_at he j] at f1
        cases hb : ks[j]? with
        | none => rw [hb] at f1; cases f1
        | some b =>
          rw [hb] at f1
          have e2' : entryOfKey (tupleKind (mixKind X.prog X.w)) b = en := Option.some.inj f1
          obtain ⟨p, g1, g2, g3, g4⟩ := L2.DX.pget pr hb
          rw [List.map_map, List.getElem?_map] at e2
          have e3 : (kv[j]?).map (·.1) = some p.1 := by rw [← List.getElem?_map, ← KTRp.keys h2, List.getElem?_map, g1]; rfl
          cases e4 : kv[j]? with
          | none => rw [e4] at e3; cases e3
          | some t =>
            rw [e4] at e2 e3
            have e5 : t.1 = p.1 := Option.some.inj e3
            have e6 : PyData.tuple (t.1.map keyD) = e := Option.some.inj e2
            subst e6
            refine ⟨.ref b.2.1, by rw [f2, ← e2']; rfl, ?_, ?_⟩
            · rw [e5]
              refine .tup (vs := p.1.map kV) (Fz.of (fun m => ?_) g3) ?_
              · obtain ⟨u, n1, n2⟩ := al _ m
                rw [g3] at n1
                cases n1
                exact n2 _ rfl
              · refine rpAll_idx (by simp) fun j x d a1 a2 => ?_
                rw [List.getElem?_map] at a1 a2
                cases a3 : p.1[j]? with
                | none => rw [a3] at a1; cases a1
                | some k =>
                  rw [a3] at a1 a2
                  cases a1
                  cases a2
                  cases k with
                  | inl i => exact .int i
                  | inr i => exact .str i
            · exact o1 _ (List.mem_of_getElem? (by rw [List.map_map, List.getElem?_map, e4]; rfl)) _ (List.mem_of_getElem? (i := j) (by rw [List.map_map, List.getElem?_map, e4]; rfl))
  | _ => cases hg
theorem c_sortedA (hc : X.calm = true) (hu : X.A.units + 65 < cLine) : ∃ r, CallR X (.builtin "sorted") r ∧ CallD X.K r fSortedA := by
  refine ⟨_, cr_sortA hc hu, fun M H xs ds k Q al rx h fin => ?_⟩
  unfold fSortedA at h
  split at h
  · obtain ⟨ds, e, ok, h⟩ := withL_of h
    obtain ⟨v, rfl, r1⟩ := vreps1 rx
    exact ⟨M, v, _, ds, rfl, al, r1, e, ok, fun p ws hp rp => fin _ _ _ h (sub_upd hp) (new_lst al hp rp)⟩
  · exact h.elim
end
end L3

set_option maxHeartbeats 4000000
namespace L3
open PySem PySem.Spec L2 PyProof.Rows PySem.W

/-! ### sorted(d.items()), the keys are tuples -/
def itemT (p : List Key × D) : D := .tuple [.tuple (p.1.map keyD), p.2]
theorem keys_rpAll {K : PySem.W.Frag} {H : Hp} : ∀ k : List Key, RpAll K H (k.map kV) (k.map keyD)
  | [] => .nil
  | .inl i :: r => .cons (.int i) (keys_rpAll r)
  | .inr i :: r => .cons (.str i) (keys_rpAll r)
theorem pairObj {h : Heap} {b x x' : Addr} {y y' : Value} (e : h.get? b = some { cls := .type "tuple", data := .seq #[Value.ref x, y] }) (e' : h.get? b = some { cls := .type "tuple", data := .seq #[Value.ref x', y'] }) : x = x' ∧ y = y' := by
  have q := e.symm.trans e'
  injection q with q
  injection q with _ _ q _
  injection q with q
  injection q with q
  injection q with q1 q
  injection q with q2
  injection q1 with q1
  exact ⟨q1, q2⟩
section
variable {X : Cx}
/-- tuples already laid are tracked -/
theorem takeL {pins : List (Addr × Obj)} {σ : L2.St} {H0 : Hp} {s : Shared} {h' : Heap} {tk : Nat} {P : Addr → List V → Prop} (fn : ∀ b vs vs', P b vs → P b vs' → vs = vs') (I0 : Inv X pins σ H0 s) : ∀ (L : List Addr) (H1 : Hp), Inv X pins σ H1 { s with heap := h', toks := tk } →
    (∀ a ∈ L, s.heap.objs.size ≤ a ∧ ∃ vs, P a vs ∧ (H1 a = none ∨ H1 a = some (.tup vs)) ∧ ∀ H2, ObjOk X.prog X.w H2 h' a (.tup vs)) →
    ∃ H2, Inv X pins σ H2 { s with heap := h', toks := tk } ∧ (∀ b o, H1 b = some o → H2 b = some o) ∧ ∀ a ∈ L, ∃ vs, P a vs ∧ H2 a = some (.tup vs)
  | [], H1, I1, _ => ⟨H1, I1, fun _ _ e => e, fun _ h => nomatch h⟩
  | a :: L, H1, I1, h => by
    obtain ⟨hb, vs, hP, hor, ok⟩ := h a (List.mem_cons_self ..)
    rcases hor with hnone | hsome
    · have I2 : Inv X pins σ (upd H1 a (.tup vs)) { s with heap := h', toks := tk } := I1.take (h' := h') (t' := tk) (fun b ob _ e => e) (I0.fpOk hb hnone) (ok _)
      obtain ⟨H2, I3, g, q⟩ := takeL fn I0 L (upd H1 a (.tup vs)) I2 fun c hc => by
        obtain ⟨c1, vc, c2, c3, c4⟩ := h c (List.mem_cons_of_mem _ hc)
        refine ⟨c1, vc, c2, ?_, c4⟩
        by_cases e : c = a
        · subst e
          exact .inr (by rw [upd_same, fn c vs vc hP c2])
        · rw [upd_ne e]; exact c3
      refine ⟨H2, I3, fun b o e => g b o (by rw [upd_ne (ne_of_none e hnone)]; exact e), fun c hc => ?_⟩
      rcases List.mem_cons.mp hc with rfl | hc
      · exact ⟨vs, hP, g _ _ upd_same⟩
      · exact q c hc
    · obtain ⟨H2, I3, g, q⟩ := takeL fn I0 L H1 I1 fun c hc => h c (List.mem_cons_of_mem _ hc)
      refine ⟨H2, I3, g, fun c hc => ?_⟩
      rcases List.mem_cons.mp hc with rfl | hc
      · exact ⟨vs, hP, g _ _ hsome⟩
      · exact q c hc
def rSortItT (K : PySem.W.Frag) : List V → Hp → VK → Prop := fun xs H Q => ∃ (M : Addr → Prop) (p a : Addr) (ws : List (List Key × V)) (kv : List (List Key × D)), xs = [.ref p] ∧ Alive M H ∧ H p = some (L2.DX.itemsO p a) ∧ H a = some (.dT ws) ∧ KTRp K (Fz H M) ws kv ∧
  SortOk (kv.map itemT) ∧ ∀ H2 v, Sub H H2 → Rp K (Fz H2 M) v (.list (sortD (kv.map itemT))) → Q v H2
theorem cr_sortItT (hc : X.calm = true) (hu : X.A.units + 65 < cLine) : CallR X (.builtin "sorted") (rSortItT X.K) := by
  intro pins s σ H xs us Q I r h
  obtain ⟨M, p, a, ws, kv, rfl, al, hp, ha, rel, ⟨o1, o2, o3, o4⟩, q⟩ := h
  obtain rfl := Vals.ref1 r
  have view : s.heap.IsItemsView p a := (show ObjOk X.prog X.w H s.heap p (L2.DX.itemsO p a) from I.hok p _ hp).1
  obtain ⟨z, hd, ks, pr, o, es, ep, ho, hx, hdt, he, hn⟩ := (show ObjOk X.prog X.w H s.heap a (.dT ws) from I.hok a _ ha)
  have l1 : es.size = ks.length := size_of_entries he
  have l2 : ws.length = ks.length := Paired.length pr
  have l3 : ws.length = kv.length := KTRp.length rel
  have hh : X.A.handled = none := I.ok.hd hc
  have nM : ∀ b xs, H b = some (.tup xs) → ¬ M b := fun b xs e m => by
    obtain ⟨u, n1, n2⟩ := al _ m
    rw [e] at n1
    cases n1
    exact n2 _ rfl
  have cl : Coll X.prog X.w X.A.in1 s (.ref p) (fun h' us => ∃ as : List Addr, us = as.map Value.ref ∧ as.length = es.size ∧ DT.Made es s.heap.objs.size h' as) := fun E R hR =>
    DT.collectI (es := es) (ep := ep) hh view ⟨o, ho, hx, hdt⟩ (by rw [l1, ← l2]; exact z) fun h' tk as hk hlt hl hG => hR h' tk _ hk (Nat.le_of_lt hlt) ⟨as, rfl, hl, hG⟩
  refine sorted_coll (ds := kv.map itemT) (G := fun h' y e => ∃ (b kb : Addr) (k : List Key) (x : V) (u : Value) (d : D), y = .ref b ∧ H kb = some (.tup (k.map kV)) ∧ Rp X.K (Fz H M) x d ∧ RelV x u ∧ e = .tuple [.tuple (k.map keyD), d] ∧ s.heap.objs.size ≤ b ∧
    h'.get? b = some { cls := .type "tuple", data := .seq #[Value.ref kb, u] } ∧ ∃ as, Reads h' y e as) cl (fun h' vs kp hC => ⟨?_, fun y e ⟨b, kb, k, x, u, d, e1, e2, e3, e4, e5, e6, e7, e8⟩ => e8⟩) o1 o2 o3 (fun e he => by have := o4 e he; omega) fun h' tk vs out c h'' kp hC ol eo kp2 hsz hat => ?_
  · obtain ⟨as, rfl, la, mk⟩ := hC
    refine each_idx (by rw [List.length_map, List.length_map]; omega) fun j y e e1 e2 => ?_
    rw [List.getElem?_map] at e1 e2
    cases hj : as[j]? with
    | none => rw [hj] at e1; cases e1
    | some b =>
      rw [hj] at e1
      cases e1
      obtain ⟨en, f1, f2⟩ := mk.pairs j b hj
      rw [entry_at he j] at f1
      cases hb : ks[j]? with
      | none => rw [hb] at f1; cases f1
      | some t =>
        rw [hb] at f1
        have e2' : entryOfKey (tupleKind (mixKind X.prog X.w)) t = en := Option.some.inj f1
        obtain ⟨w0, g1, g2, g3, g4⟩ := L2.DX.pget pr hb
        cases e4 : kv[j]? with
        | none => rw [e4] at e2; cases e2
        | some t2 =>
          rw [e4] at e2
          have e6 : itemT t2 = e := Option.some.inj e2
          subst e6
          have ee : w0.1 = t2.1 ∧ Rp X.K (Fz H M) w0.2 t2.2 := by
            obtain ⟨w1, y1, y2⟩ := L2.DX.pget rel e4
            rw [g1] at y1
            cases y1
            exact y2
          have halk := o1 _ (List.mem_of_getElem? (show (kv.map itemT)[j]? = some (itemT t2) by rw [List.getElem?_map, e4]; rfl)) _ (List.mem_of_getElem? (i := j) (show (kv.map itemT)[j]? = some (itemT t2) by rw [List.getElem?_map, e4]; rfl))
          have hal2 : alike t2.2 t2.2 = true := by
            simp only [itemT, alike, alikeAll, Bool.and_eq_true] at halk
            exact halk.2.1
          have g3' : H t.2.1 = some (.tup (w0.1.map kV)) := g3
          have ob : h'.get? b = some { cls := .type "tuple", data := .seq #[Value.ref t.2.1, t.2.2] } := by rw [f2, ← e2']; rfl
          have lob : s.heap.objs.size ≤ b := Nat.le_of_lt (mk.above b (List.mem_of_getElem? hj))
          refine ⟨b, t.2.1, w0.1, w0.2, t.2.2, t2.2, rfl, g3', ee.2, g4, by rw [ee.1]; rfl, lob, ob, ?_⟩
          obtain ⟨as1, r1⟩ := Dp.reads I (.tuple (w0.1.map keyD)) (.ref t.2.1) (.ref t.2.1) (Rp.dpA (.tup g3' (keys_rpAll _)) (by
            have : ∀ k : List Key, alikeAll (k.map keyD) (k.map keyD) = true := fun k => by
              induction k with
              | nil => rfl
              | cons a r ih => cases a <;> simp [alikeAll, keyD, alike, ih]
            simpa [alike] using this w0.1)) rfl
          obtain ⟨as2, r2⟩ := Dp.reads I t2.2 w0.2 t.2.2 (Rp.dpA (Rp.sub Fz.sub ee.2) hal2) g4
          have ra : ReadsAll h' (#[Value.ref t.2.1, t.2.2] : Array Value).toList [.tuple (t2.1.map keyD), t2.2] (as1 ++ (as2 ++ [])) := by
            rw [← ee.1]
            exact .cons (PyProof.Rows.Reads.keeps kp r1) (.cons (PyProof.Rows.Reads.keeps kp r2) .nil)
          exact ⟨_, .tuple ob rfl rfl ra⟩
  · obtain ⟨as, rfl, la, mk⟩ := hC
    obtain ⟨zs, v1, v2, v3⟩ := each_out (P := fun y e => ∃ (b kb : Addr) (k : List Key) (x : V) (u : Value) (d : D), y = .ref b ∧ H kb = some (.tup (k.map kV)) ∧ Rp X.K (Fz H M) x d ∧ RelV x u ∧ e = .tuple [.tuple (k.map keyD), d] ∧ s.heap.objs.size ≤ b ∧ b < h'.objs.size ∧
      h'.get? b = some { cls := .type "tuple", data := .seq #[Value.ref kb, u] }) (eo.mono fun y e ⟨b, kb, k, x, u, d, e1, e2, e3, e4, e5, e6, e7, _⟩ => ⟨.ref b, e1, b, kb, k, x, u, d, rfl, e2, e3, e4, e5, e6, Heap.lt_size e7, e7⟩)
    have I1 : Inv X pins σ (upd H h'.objs.size (.lst zs)) { s with heap := h'', toks := tk } := I.laid (t' := tk) (o := .lst zs) (fun b o e => kp2 b o (kp b o e)) hsz ⟨by rw [v1.length, ol]; exact o3, out, c, v1, hat⟩
    have hf := I.hok.fresh hsz
    have all : ∀ b ∈ zs.map (fun y => match y with | .ref b => b | _ => 0), s.heap.objs.size ≤ b ∧ ∃ vs, (∃ (kb : Addr) (x : V) (u : Value), vs = [V.ref kb, x] ∧ RelV x u ∧ h'.get? b = some { cls := .type "tuple", data := .seq #[Value.ref kb, u] }) ∧
        ((upd H h'.objs.size (.lst zs)) b = none ∨ (upd H h'.objs.size (.lst zs)) b = some (.tup vs)) ∧ ∀ H2, ObjOk X.prog X.w H2 h'' b (.tup vs) := fun b hb => by
      obtain ⟨y, hy, ey⟩ := List.mem_map.mp hb
      obtain ⟨j, hj⟩ := List.mem_iff_getElem?.mp hy
      have hlt := (List.getElem?_eq_some_iff.mp hj).1
      obtain ⟨b', kb, k, x, u, d, rfl, e2, e3, e4, e5, e6, e7, e8⟩ := v3 j y _ hj (List.getElem?_eq_getElem (by rw [← v2]; exact hlt))
      obtain rfl : b' = b := ey
      refine ⟨e6, [.ref kb, x], ⟨kb, x, u, rfl, e4, e8⟩, .inl (by rw [upd_ne (Nat.ne_of_lt e7)]; exact I.hok.fresh e6), fun H3 => ⟨by rw [sizeLine_eq]; simp, [Value.ref kb, u], .cons rfl (.cons e4 .nil), _, kp2 _ _ e8, rfl, 0, rfl⟩⟩
    obtain ⟨H2, I2, sub2, tak⟩ := takeL (P := fun b vs => ∃ (kb : Addr) (x : V) (u : Value), vs = [V.ref kb, x] ∧ RelV x u ∧ h'.get? b = some { cls := .type "tuple", data := .seq #[Value.ref kb, u] }) (fun b vs vs' p1 p2 => by
      obtain ⟨kb, x, u, rfl, r1, g1⟩ := p1
      obtain ⟨kb', x', u', rfl, r2, g2⟩ := p2
      obtain ⟨rfl, rfl⟩ := pairObj g1 g2
      rw [RelV.inj r1 r2]) I _ _ I1 all
    have subH : Sub H H2 := fun b o e => sub2 b o (by rw [upd_ne (ne_of_none e hf)]; exact e)
    have hM : ∀ b, s.heap.objs.size ≤ b → ¬ M b := fun b hb m => (al b m).ne (I.hok.fresh hb)
    have fz : Sub (Fz H M) (Fz H2 M) := fun b o e => Fz.of (Fz.at e).1 (subH b o (Fz.at e).2)
    refine ⟨.ref h'.objs.size, H2, I2, rfl, q H2 _ subH (.lst (vs := zs) (Fz.of (hM _ hsz) (sub2 _ _ upd_same)) (rpAll_idx v2 fun j y e e1 e2 => ?_))⟩
    obtain ⟨b, kb, k, x, u, d, rfl, f2, f3, f4, rfl, f6, f7, f8⟩ := v3 j y e e1 e2
    obtain ⟨vs, ⟨kb', x', u', rfl, r2, g2⟩, hb⟩ := tak b (List.mem_map.mpr ⟨_, List.mem_of_getElem? e1, rfl⟩)
    obtain ⟨rfl, rfl⟩ := pairObj f8 g2
    obtain rfl := RelV.inj f4 r2
    refine .tup (Fz.of (hM b f6) hb) (.cons (.tup (fz _ _ (Fz.of (nM _ _ f2) f2)) (keys_rpAll k)) (.cons (Rp.sub fz f3) .nil))
end
end L3

set_option maxHeartbeats 4000000
namespace L3
open PySem PySem.Spec L2 PyProof.Rows PySem.W

/-- sorted(d.items()) -/
noncomputable def dSortItems (td : dTE) : dTE := fun ρ S Q => td ρ S fun d S1 => match cellAt S1 d with
  | some (.dT kvs) => SortOk (kvs.map itemT) ∧ Q (.d (.list (sortD (kvs.map itemT)))) S1
  | _ => False
section
variable {X : Cx}
theorem de_sortItems {oe : Expr} {td : dTE} {p pos apos cpos : Pos} (hc : X.calm = true) (hu : X.A.units + 65 < cLine) (hg : Gl X "sorted") (hm : X.mg "sorted" = none) (ho : DE X oe td)
    (hbase : attributeBase oe "items" X.env (eval oe X.env) = eval oe X.env := by rfl) (hline : (apos.endLine == cpos.line) = true := by rfl)
    (he : starEach [.Call (.Attribute oe "items" apos) [] [] cpos] X.env = (false, eval (.Call (.Attribute oe "items" apos) [] [] cpos) X.env) :: starEach [] X.env := by rfl)
    (hpl : (backTo pos (starEach [] X.env)).any (·.1) = false := by rfl) : DE X (.Call (.Name "sorted" p) [.Call (.Attribute oe "items" apos) [] [] cpos] [] pos) (dSortItems td) :=
  PE.imp (pe_callB (cr_sortItT hc hu) hg hm (by decide +kernel) (pa_cons (pe_bm0 PySem.F.plainAttrs_dict PySem.F.slot_dict_items PySem.F.type_dict_items L2.DX.mt_itemsT ho hbase hline) pa_nil he) (by decide) (by decide) he hpl) fun σ H Q q => by
    obtain ⟨F, m, o, ρ, S, k, rel, t, hk⟩ := q
    refine ⟨F, m, o, ρ, S, _, rel, t, fun d S1 m1 H1 v h1 r1 g1 q1 => ?_⟩
    split at h1
    · rename_i kvs e2
      cases d with
      | ref n =>
        obtain ⟨a, ha, rfl⟩ := q1
        obtain ⟨c, f1, z1⟩ := r1.st.is n a ha
        have e4 := f1.symm.trans e2
        cases e4
        obtain ⟨ws, k3, k4⟩ := z1
        refine ⟨.inr (.inr (.inl ⟨rfl, .inr ⟨ws, k3⟩⟩)), a, ws, rfl, rfl, k3, fun p hp => ?_⟩
        have s1 := sub_upd (u := L2.DX.itemsO p a) hp
        have r2 := r1.sub s1
        refine ⟨Mu F m1 o, p, a, ws, kvs, rfl, r2.st.liv, upd_same, s1 _ _ k3, KTRp.sub (fz_sub s1) k4, h1.1, fun H2 v s2 rv => ?_⟩
        exact hk _ S1 m1 H2 v h1.2 (r2.sub s2) ((g1.trans (Grow.sub r1 s1)).trans (Grow.sub r2 s2)) rv
      | d x => cases e2
      | loc i => cases e2
    · exact h1.elim
end

/-! ### len(set(xs)) for ints -/
def nubI (l : List Int) : List Int := l.foldl (fun σ k => if σ.any (· == k) then σ else σ ++ [k]) []
theorem firstMet_nub (ns : List Int) : firstMet (fun i => ns.getD i 0) ns.length = nubI ns := by
  unfold firstMet nubI
  congr 1
  · apply List.ext_getElem?
    intro i
    rw [List.getElem?_map]
    by_cases h : i < ns.length
    · rw [List.getElem?_range h, List.getElem?_eq_getElem h]
      simp [h]
    · rw [List.getElem?_eq_none (by rw [List.length_range]; omega), List.getElem?_eq_none (by omega)]
      rfl
def dLenSet (ta : dTE) : dTE := fun ρ S Q => ta ρ S fun d S1 => match view ρ S1 d with
  | .list xs => withL (intsOf xs) fun ns => ns.length ≤ 4000 ∧ Q (.d (.int (nubI ns).length)) S1
  | _ => False
section
variable {X : Cx}
theorem de_lenSet {a : Expr} {ta : dTE} {p p2 q pos : Pos} (hc : X.calm = true) (hg : Gl X "len") (hm : X.mg "len" = none) (hg2 : Gl X "set") (hm2 : X.mg "set" = none) (ha : DE X a ta)
    (na : starEach [a] X.env = (false, eval a X.env) :: starEach [] X.env := by rfl) : DE X (.Call (.Name "len" p) [.Call (.Name "set" p2) [a] [] q] [] pos) (dLenSet ta) := by
  refine ⟨fun pins s σ H Q I h => ?_⟩
  obtain ⟨F, m, o, ρ, S, k, rel, t, hk⟩ := h
  refine Call_ (ld_blt I hg hm PySem.boot_len ?_)
  refine PyProof.Rows.callWith_builtin1 (PyProof.Rows.args_cons ?_ rfl) rfl rfl
  refine Call_ (ld_blt I hg2 hm2 PyProof.Rows.boot_set ?_)
  refine PyProof.Rows.callWith_type1 (PyProof.Rows.args_cons (thn (ha.run pins s σ H (fun v H1 => ∃ a vs ns, v = .ref a ∧ SqL X.K H1 a (ns.map V.int) ∧ ns.length ≤ 4000 ∧ vs = (nubI ns).length ∧ Q (.int (vs : Nat)) H1) I
    ⟨F, m, o, ρ, S, _, rel, t, fun d S1 m1 H1 v h1 r1 g1 q1 => ?_⟩) fun v s1 ⟨x, H1, I1, r1, q1⟩ => PyProof.Rows.args_nil ?_) na) na rfl
  · split at h1
    · rename_i xs ex
      obtain ⟨ns, e, hl, h1⟩ := withL_of h1
      have rv := r1.view q1
      rw [ex] at rv
      obtain ⟨a, vs, rfl, e1, _, e2⟩ := rv.list'
      rw [intsOf_is e] at e2
      have e3 := RpAll.ints e2
      subst e3
      exact ⟨a, _, ns, rfl, e1, hl, rfl, hk _ S1 m1 H1 _ h1 r1 g1 (.int _)⟩
    · exact h1.elim
  · obtain ⟨l, vs, ns, rfl, hq, hl2, rfl, q1⟩ := q1
    cases r1
    obtain ⟨its, r, pl, hz⟩ := I1.list hq
    have hl : its.toArray.size = ns.length := by rw [List.size_toArray, ← r.length, List.length_map]
    refine call_set_list (I1.ok.hd hc) pl.isList (ns := ns) (by simpa using r.ints) (by unfold scanBound; omega) fun h' tk hS hk => ?_
    rw [hl, firstMet_nub] at hS
    refine PyProof.Rows.args_nil ?_
    obtain ⟨o, es, ep, t, ho, hex, hd, _, _, _, hf, hn⟩ := hS
    have I2 : Inv X pins σ H1 { s1 with heap := h', toks := tk } := I1.kept fun b o e => hk b o (Heap.lt_size e) e
    have nl : (nubI ns).length ≤ ns.length := by
      rw [← firstMet_nub]
      exact firstMet_length_le _ _
    exact call_len_set ho hex hd hf (by rw [hn] <;> omega) ⟨.int (nubI ns).length, H1, I2.tok _, ⟨_, by rw [hn]⟩, q1⟩
end
end L3

namespace Gn
open PySem PySem.Spec L2 L3
def top (i : Nat) : Stmt := PySem.Challenge.pw_shadehall_k02_whole_echoes_of_masks_rows.main.body.getD i (.Pass ⟨0, 0, 0, 0⟩)
abbrev FnP (K : PySem.W.Frag) (x : Str) (st : Stmt) (f : Addr) (fd : FuncData) : Prop := FunD K x x (defArgs st) (defBody st) (defScope st) [] [] f fd
/-! ### echo -/
abbrev s_echo : Stmt := top 1
abbrev nm_echo : List Str := ["mask", "k", "n", "at"]
abbrev ps_echo : List Str := ["mask", "k"]
theorem sc_echo : FnScope nm_echo ps_echo (defScope s_echo) := ⟨rfl, rfl, rfl, by decide +kernel, rfl, by decide +kernel, by decide +kernel⟩
theorem lk_echo_0 : (defScope s_echo).names.lookup ("mask" : Str) = some NameKind.cell := by decide +kernel
theorem lk_echo_1 : (defScope s_echo).names.lookup ("k" : Str) = some NameKind.cell := by decide +kernel
theorem lk_echo_2 : (defScope s_echo).names.lookup ("n" : Str) = some NameKind.cell := by decide +kernel
noncomputable def t_echo : dTS := dSeq (dSet 2 (dCB fLen (dCons (dVar 0) (dNil))))
    (dRet (dCB fLen (dCons (dFz (dComp (dRng1 (dCons (dVar 2) (dNil))) (gNm 3) (dAnd (dB (dOp fEq (dOp fIx (dVar 0) (dVar 3)) (dC (.str (Str.ofString "x"))))) (dB (dOp fEq (dOp fIx (dVar 0) (dOp fMod (dOp fAdd (dVar 3) (dVar 1)) (dVar 2))) (dC (.str (Str.ofString "x")))))) (dVar 3) [3])) (dNil))))
theorem rx_echo : ∃ r : dFn, r = fnT 4 t_echo := ⟨_, rfl⟩
@[irreducible] noncomputable def rd_echo : dFn := rx_echo.choose
theorem rd_echo_is : rd_echo = fnT 4 t_echo := by unfold rd_echo; exact rx_echo.choose_spec
theorem cal_echo {P : Program} {w : World} {K : PySem.W.Frag} {mg : Str → Option Value} {base : Heap} {f : Addr} {fd : FuncData} (F : FnP K "echo" s_echo f fd) (m : mg "echo" = some (.ref f)) (z_len : mg "len" = none) (z_range : mg "range" = none) : Cal P w K mg base "echo" 1 2 ps_echo rd_echo :=
  by
  rw [rd_echo_is]
  exact ⟨f, fd, fn_dD F sc_echo (by decide) (fun cdv A outer s H E hr => (dss_cons (ds_set (i := 2) sc_echo.nd rfl (.inr lk_echo_2) (de_callB c_len z_len rfl (by decide +kernel) (da_cons (de_var (pv 0 rfl (.inr (.inl lk_echo_0)))) da_nil)) (.inl rfl))
      (dss_one (ds_ret (de_callB c_len z_len rfl (by decide +kernel) (da_cons (de_fz (df_comp (own := [("at", 3)]) rfl sc_echo.nd (blkOk_by (own := [("at", 3)]) (N := nm_echo) (sc := defScope s_echo) (by decide +kernel)) (fun _ _ _ _ _ => (dg_nm (i := 3) sc_echo.nd rfl (.inl rfl) (.inr rfl))) (di_rng1 z_range rfl (da_cons (de_var (pv 2 rfl (.inr (.inl lk_echo_2)))) da_nil)) (fun _ _ _ _ _ => (dts_one (dw_pt (dw_and (dt_cmp (o_eq (u64 hr)) (de_ix (u1 hr) (de_var (pv 0 rfl (.inr (.inl rfl)))) (de_var (pv 3 rfl (.inl rfl)))) de_str) (dw_and1 (dt_cmp (o_eq (u64 hr)) (de_ix (u1 hr) (de_var (pv 0 rfl (.inr (.inl rfl)))) (de_op o_mod (de_op o_add (de_var (pv 3 rfl (.inl rfl))) (de_var (pv 1 rfl (.inr (.inl rfl))))) (de_var (pv 2 rfl (.inr (.inl rfl)))))) de_str)))))) (fun _ _ _ _ _ => (de_var (pv 3 rfl (.inl rfl)))))) da_nil)))))), m, F.kp, (F.bindsN fun _ _ _ _ _ _ us hl => match us, hl with | [_, _], _ => rfl)⟩
/-! ### echoes -/
abbrev s_echoes : Stmt := top 2
abbrev nm_echoes : List Str := ["mask", "k"]
abbrev ps_echoes : List Str := ["mask"]
theorem sc_echoes : FnScope nm_echoes ps_echoes (defScope s_echoes) := ⟨rfl, rfl, rfl, by decide +kernel, rfl, by decide +kernel, by decide +kernel⟩
theorem lk_echoes_0 : (defScope s_echoes).names.lookup ("mask" : Str) = some NameKind.cell := by decide +kernel
noncomputable def t_echoes : dTS := dRet (dFz (dComp (dRng2 (dCons (dC (.int 1)) (dCons (dCB fLen (dCons (dVar 0) (dNil))) (dNil)))) (gNm 1) (dYes) (dCall 2 (rd_echo) (dCons (dVar 0) (dCons (dVar 1) (dNil)))) [1]))
theorem rx_echoes : ∃ r : dFn, r = fnT 2 t_echoes := ⟨_, rfl⟩
@[irreducible] noncomputable def rd_echoes : dFn := rx_echoes.choose
theorem rd_echoes_is : rd_echoes = fnT 2 t_echoes := by unfold rd_echoes; exact rx_echoes.choose_spec
theorem cal_echoes {P : Program} {w : World} {K : PySem.W.Frag} {mg : Str → Option Value} {base : Heap} {f : Addr} {fd : FuncData} (F : FnP K "echoes" s_echoes f fd) (m : mg "echoes" = some (.ref f)) (C_echo : Cal P w K mg base "echo" 1 2 ps_echo (rd_echo)) (z_len : mg "len" = none) (z_range : mg "range" = none) : Cal P w K mg base "echoes" 2 1 ps_echoes rd_echoes :=
  by
  rw [rd_echoes_is]
  exact ⟨f, fd, fn_dD F sc_echoes (by decide) (fun cdv A outer s H E hr => (dss_one (ds_ret (de_fz (df_comp (own := [("k", 1)]) rfl sc_echoes.nd (blkOk_by (own := [("k", 1)]) (N := nm_echoes) (sc := defScope s_echoes) (by decide +kernel)) (fun _ _ _ _ _ => (dg_nm (i := 1) sc_echoes.nd rfl (.inl rfl) (.inr rfl))) (di_rng2 z_range rfl (da_cons de_int (da_cons (de_callB c_len z_len rfl (by decide +kernel) (da_cons (de_var (pv 0 rfl (.inr (.inl lk_echoes_0)))) da_nil)) da_nil))) (fun _ _ _ _ _ => dts_nil) (fun _ _ _ _ _ => (de_cal C_echo (hr.mono (by omega)) rfl (da_cons (de_var (pv 0 rfl (.inr (.inl rfl)))) (da_cons (de_var (pv 1 rfl (.inl rfl))) da_nil))))))))), m, F.kp, (F.bindsN fun _ _ _ _ _ _ us hl => match us, hl with | [_], _ => rfl)⟩
/-! ### is_flat -/
abbrev s_is_flat : Stmt := top 3
abbrev nm_is_flat : List Str := ["mask"]
abbrev ps_is_flat : List Str := ["mask"]
theorem sc_is_flat : FnScope nm_is_flat ps_is_flat (defScope s_is_flat) := ⟨rfl, rfl, rfl, by decide +kernel, rfl, by decide +kernel, by decide +kernel⟩
theorem lk_is_flat_0 : (defScope s_is_flat).names.lookup ("mask" : Str) = some NameKind.local := by decide +kernel
noncomputable def t_is_flat : dTS := dRet (dOp fLe (dLenSet (dCall 1 (rd_echoes) (dCons (dVar 0) (dNil)))) (dC (.int 1)))
theorem rx_is_flat : ∃ r : dFn, r = fnT 1 t_is_flat := ⟨_, rfl⟩
@[irreducible] noncomputable def rd_is_flat : dFn := rx_is_flat.choose
theorem rd_is_flat_is : rd_is_flat = fnT 1 t_is_flat := by unfold rd_is_flat; exact rx_is_flat.choose_spec
theorem cal_is_flat {P : Program} {w : World} {K : PySem.W.Frag} {mg : Str → Option Value} {base : Heap} {f : Addr} {fd : FuncData} (F : FnP K "is_flat" s_is_flat f fd) (m : mg "is_flat" = some (.ref f)) (C_echoes : Cal P w K mg base "echoes" 2 1 ps_echoes (rd_echoes)) (z_len : mg "len" = none) (z_set : mg "set" = none) : Cal P w K mg base "is_flat" 3 1 ps_is_flat rd_is_flat :=
  by
  rw [rd_is_flat_is]
  exact ⟨f, fd, fn_dD F sc_is_flat (by decide) (fun cdv A outer s H E hr => (dss_one (ds_ret (de_cmp o_le (de_lenSet rfl rfl z_len rfl z_set (de_cal C_echoes (hr.mono (by omega)) rfl (da_cons (de_var (pv 0 rfl (.inl lk_is_flat_0))) da_nil))) de_int)))), m, F.kp, (F.bindsN fun _ _ _ _ _ _ us hl => match us, hl with | [_], _ => rfl)⟩
/-! ### are_fitting -/
abbrev s_are_fitting : Stmt := top 4
abbrev nm_are_fitting : List Str := ["first", "second", "one", "other"]
abbrev ps_are_fitting : List Str := ["first", "second"]
theorem sc_are_fitting : FnScope nm_are_fitting ps_are_fitting (defScope s_are_fitting) := ⟨rfl, rfl, rfl, by decide +kernel, rfl, by decide +kernel, by decide +kernel⟩
theorem lk_are_fitting_0 : (defScope s_are_fitting).names.lookup ("first" : Str) = some NameKind.local := by decide +kernel
theorem lk_are_fitting_1 : (defScope s_are_fitting).names.lookup ("second" : Str) = some NameKind.local := by decide +kernel
noncomputable def t_are_fitting : dTS := dRet (dOp fLe (dLenSet (dFz (dComp (dZip (dCons (dCall 1 (rd_echoes) (dCons (dVar 0) (dNil))) (dCons (dCall 1 (rd_echoes) (dCons (dVar 1) (dNil))) (dNil)))) (gTp (gsCons (gNm 2) (gsCons (gNm 3) (gsNil)))) (dYes) (dOp fAdd (dVar 2) (dVar 3)) [2, 3]))) (dC (.int 1)))
theorem rx_are_fitting : ∃ r : dFn, r = fnT 4 t_are_fitting := ⟨_, rfl⟩
@[irreducible] noncomputable def rd_are_fitting : dFn := rx_are_fitting.choose
theorem rd_are_fitting_is : rd_are_fitting = fnT 4 t_are_fitting := by unfold rd_are_fitting; exact rx_are_fitting.choose_spec
theorem cal_are_fitting {P : Program} {w : World} {K : PySem.W.Frag} {mg : Str → Option Value} {base : Heap} {f : Addr} {fd : FuncData} (F : FnP K "are_fitting" s_are_fitting f fd) (m : mg "are_fitting" = some (.ref f)) (C_echoes : Cal P w K mg base "echoes" 2 1 ps_echoes (rd_echoes)) (z_len : mg "len" = none) (z_set : mg "set" = none) (z_zip : mg "zip" = none) : Cal P w K mg base "are_fitting" 3 2 ps_are_fitting rd_are_fitting :=
  by
  rw [rd_are_fitting_is]
  exact ⟨f, fd, fn_dD F sc_are_fitting (by decide) (fun cdv A outer s H E hr => (dss_one (ds_ret (de_cmp o_le (de_lenSet rfl rfl z_len rfl z_set (de_fz (df_comp (own := [("one", 2), ("other", 3)]) rfl sc_are_fitting.nd (blkOk_by (own := [("one", 2), ("other", 3)]) (N := nm_are_fitting) (sc := defScope s_are_fitting) (by decide +kernel)) (fun _ _ _ _ _ => (dg_tp rfl (dgs_cons (dg_nm (i := 2) sc_are_fitting.nd rfl (.inl rfl) (.inr rfl)) (dgs_cons (dg_nm (i := 3) sc_are_fitting.nd rfl (.inl rfl) (.inr rfl)) dgs_nil (mono_nm _)) (mono_nm _)))) (di_zip z_zip rfl (da_cons (de_cal C_echoes (hr.mono (by omega)) rfl (da_cons (de_var (pv 0 rfl (.inl lk_are_fitting_0))) da_nil)) (da_cons (de_cal C_echoes (hr.mono (by omega)) rfl (da_cons (de_var (pv 1 rfl (.inl lk_are_fitting_1))) da_nil)) da_nil))) (fun _ _ _ _ _ => dts_nil) (fun _ _ _ _ _ => (de_op o_add (de_var (pv 2 rfl (.inl rfl))) (de_var (pv 3 rfl (.inl rfl)))))))) de_int)))), m, F.kp, (F.bindsN fun _ _ _ _ _ _ us hl => match us, hl with | [_, _], _ => rfl)⟩
/-! ### other_mask -/
abbrev s_other_mask : Stmt := top 5
abbrev nm_other_mask : List Str := ["mask", "sign"]
abbrev ps_other_mask : List Str := ["mask"]
theorem sc_other_mask : FnScope nm_other_mask ps_other_mask (defScope s_other_mask) := ⟨rfl, rfl, rfl, by decide +kernel, rfl, by decide +kernel, by decide +kernel⟩
theorem lk_other_mask_0 : (defScope s_other_mask).names.lookup ("mask" : Str) = some NameKind.local := by decide +kernel
noncomputable def t_other_mask : dTS := dRet (dBM "str" fJoin (dC (.str (Str.ofString ""))) (dCons (dFz (dComp (dItV (dVar 0)) (gNm 1) (dYes) (dIfE (dB (dOp fEq (dVar 1) (dC (.str (Str.ofString "x"))))) (dC (.str (Str.ofString "."))) (dC (.str (Str.ofString "x")))) [1])) (dNil)))
theorem rx_other_mask : ∃ r : dFn, r = fnT 2 t_other_mask := ⟨_, rfl⟩
@[irreducible] noncomputable def rd_other_mask : dFn := rx_other_mask.choose
theorem rd_other_mask_is : rd_other_mask = fnT 2 t_other_mask := by unfold rd_other_mask; exact rx_other_mask.choose_spec
theorem cal_other_mask {P : Program} {w : World} {K : PySem.W.Frag} {mg : Str → Option Value} {base : Heap} {f : Addr} {fd : FuncData} (F : FnP K "other_mask" s_other_mask f fd) (m : mg "other_mask" = some (.ref f)) : Cal P w K mg base "other_mask" 1 1 ps_other_mask rd_other_mask :=
  by
  rw [rd_other_mask_is]
  exact ⟨f, fd, fn_dD F sc_other_mask (by decide) (fun cdv A outer s H E hr => (dss_one (ds_ret (de_bm m_join (.inl rfl) PySem.F.plainAttrs_str PySem.F.slot_str_join PySem.F.type_str_join de_str (da_cons (de_fz (df_comp (own := [("sign", 1)]) rfl sc_other_mask.nd (blkOk_by (own := [("sign", 1)]) (N := nm_other_mask) (sc := defScope s_other_mask) (by decide +kernel)) (fun _ _ _ _ _ => (dg_nm (i := 1) sc_other_mask.nd rfl (.inl rfl) (.inr rfl))) (di_any (de_var (pv 0 rfl (.inl lk_other_mask_0)))) (fun _ _ _ _ _ => dts_nil) (fun _ _ _ _ _ => (de_ifExp (dt_cmp (o_eq (u64 hr)) (de_var (pv 1 rfl (.inl rfl))) de_str) de_str de_str)))) da_nil))))), m, F.kp, (F.bindsN fun _ _ _ _ _ _ us hl => match us, hl with | [_], _ => rfl)⟩
/-! ### wheel_turned -/
abbrev s_wheel_turned : Stmt := top 7
abbrev nm_wheel_turned : List Str := ["wheel", "v", "cut"]
abbrev ps_wheel_turned : List Str := ["wheel", "v"]
theorem sc_wheel_turned : FnScope nm_wheel_turned ps_wheel_turned (defScope s_wheel_turned) := ⟨rfl, rfl, rfl, by decide +kernel, rfl, by decide +kernel, by decide +kernel⟩
theorem lk_wheel_turned_0 : (defScope s_wheel_turned).names.lookup ("wheel" : Str) = some NameKind.local := by decide +kernel
theorem lk_wheel_turned_1 : (defScope s_wheel_turned).names.lookup ("v" : Str) = some NameKind.local := by decide +kernel
theorem lk_wheel_turned_2 : (defScope s_wheel_turned).names.lookup ("cut" : Str) = some NameKind.local := by decide +kernel
noncomputable def t_wheel_turned : dTS := dSeq (dSet 2 (dOp fMod (dUn fNeg (dVar 1)) (dCB fLen (dCons (dVar 0) (dNil)))))
    (dRet (dOp fAdd (dSl (dVar 0) (dPart (dVar 2)) (dNoPart)) (dSl (dVar 0) (dNoPart) (dPart (dVar 2)))))
theorem rx_wheel_turned : ∃ r : dFn, r = fnT 3 t_wheel_turned := ⟨_, rfl⟩
@[irreducible] noncomputable def rd_wheel_turned : dFn := rx_wheel_turned.choose
theorem rd_wheel_turned_is : rd_wheel_turned = fnT 3 t_wheel_turned := by unfold rd_wheel_turned; exact rx_wheel_turned.choose_spec
theorem cal_wheel_turned {P : Program} {w : World} {K : PySem.W.Frag} {mg : Str → Option Value} {base : Heap} {f : Addr} {fd : FuncData} (F : FnP K "wheel_turned" s_wheel_turned f fd) (m : mg "wheel_turned" = some (.ref f)) (z_len : mg "len" = none) : Cal P w K mg base "wheel_turned" 1 2 ps_wheel_turned rd_wheel_turned :=
  by
  rw [rd_wheel_turned_is]
  exact ⟨f, fd, fn_dD F sc_wheel_turned (by decide) (fun cdv A outer s H E hr => (dss_cons (ds_set (i := 2) sc_wheel_turned.nd rfl (.inl lk_wheel_turned_2) (de_op o_mod (de_un u_neg (de_var (pv 1 rfl (.inl lk_wheel_turned_1)))) (de_callB c_len z_len rfl (by decide +kernel) (da_cons (de_var (pv 0 rfl (.inl lk_wheel_turned_0))) da_nil))) (.inl rfl))
      (dss_one (ds_ret (de_op o_add (de_sl (de_var (pv 0 rfl (.inl lk_wheel_turned_0))) (do_some (de_var (pv 2 rfl (.inl lk_wheel_turned_2)))) do_none) (de_sl (de_var (pv 0 rfl (.inl lk_wheel_turned_0))) do_none (do_some (de_var (pv 2 rfl (.inl lk_wheel_turned_2)))))))))), m, F.kp, (F.bindsN fun _ _ _ _ _ _ us hl => match us, hl with | [_, _], _ => rfl)⟩
/-! ### moved -/
abbrev s_moved : Stmt := top 9
abbrev nm_moved : List Str := ["shape", "i", "j", "row", "column"]
abbrev ps_moved : List Str := ["shape", "i", "j"]
theorem sc_moved : FnScope nm_moved ps_moved (defScope s_moved) := ⟨rfl, rfl, rfl, by decide +kernel, rfl, by decide +kernel, by decide +kernel⟩
theorem lk_moved_0 : (defScope s_moved).names.lookup ("shape" : Str) = some NameKind.local := by decide +kernel
theorem lk_moved_1 : (defScope s_moved).names.lookup ("i" : Str) = some NameKind.cell := by decide +kernel
theorem lk_moved_2 : (defScope s_moved).names.lookup ("j" : Str) = some NameKind.cell := by decide +kernel
noncomputable def t_moved : dTS := dRet (dCB fTuple (dCons (dFz (dComp (dItV (dVar 0)) (gTp (gsCons (gNm 3) (gsCons (gNm 4) (gsNil)))) (dYes) (dTup (dCons (dOp fAdd (dVar 3) (dVar 1)) (dCons (dOp fAdd (dVar 4) (dVar 2)) (dNil)))) [3, 4])) (dNil)))
theorem rx_moved : ∃ r : dFn, r = fnT 5 t_moved := ⟨_, rfl⟩
@[irreducible] noncomputable def rd_moved : dFn := rx_moved.choose
theorem rd_moved_is : rd_moved = fnT 5 t_moved := by unfold rd_moved; exact rx_moved.choose_spec
theorem cal_moved {P : Program} {w : World} {K : PySem.W.Frag} {mg : Str → Option Value} {base : Heap} {f : Addr} {fd : FuncData} (F : FnP K "moved" s_moved f fd) (m : mg "moved" = some (.ref f)) (z_tuple : mg "tuple" = none) : Cal P w K mg base "moved" 1 3 ps_moved rd_moved :=
  by
  rw [rd_moved_is]
  exact ⟨f, fd, fn_dD F sc_moved (by decide) (fun cdv A outer s H E hr => (dss_one (ds_ret (de_callT c_tuple z_tuple rfl (by decide +kernel) (da_cons (de_fz (df_comp (own := [("row", 3), ("column", 4)]) rfl sc_moved.nd (blkOk_by (own := [("row", 3), ("column", 4)]) (N := nm_moved) (sc := defScope s_moved) (by decide +kernel)) (fun _ _ _ _ _ => (dg_tp rfl (dgs_cons (dg_nm (i := 3) sc_moved.nd rfl (.inl rfl) (.inr rfl)) (dgs_cons (dg_nm (i := 4) sc_moved.nd rfl (.inl rfl) (.inr rfl)) dgs_nil (mono_nm _)) (mono_nm _)))) (di_any (de_var (pv 0 rfl (.inl lk_moved_0)))) (fun _ _ _ _ _ => dts_nil) (fun _ _ _ _ _ => (de_tup (da_cons (de_op o_add (de_var (pv 3 rfl (.inl rfl))) (de_var (pv 1 rfl (.inr (.inl rfl))))) (da_cons (de_op o_add (de_var (pv 4 rfl (.inl rfl))) (de_var (pv 2 rfl (.inr (.inl rfl))))) da_nil)))))) da_nil))))), m, F.kp, (F.bindsN fun _ _ _ _ _ _ us hl => match us, hl with | [_, _, _], _ => rfl)⟩
/-! ### agreement -/
abbrev s_agreement : Stmt := top 11
abbrev nm_agreement : List Str := ["first", "second", "i", "j", "cell"]
abbrev ps_agreement : List Str := ["first", "second", "i", "j"]
theorem sc_agreement : FnScope nm_agreement ps_agreement (defScope s_agreement) := ⟨rfl, rfl, rfl, by decide +kernel, rfl, by decide +kernel, by decide +kernel⟩
theorem lk_agreement_0 : (defScope s_agreement).names.lookup ("first" : Str) = some NameKind.local := by decide +kernel
theorem lk_agreement_1 : (defScope s_agreement).names.lookup ("second" : Str) = some NameKind.cell := by decide +kernel
theorem lk_agreement_2 : (defScope s_agreement).names.lookup ("i" : Str) = some NameKind.local := by decide +kernel
theorem lk_agreement_3 : (defScope s_agreement).names.lookup ("j" : Str) = some NameKind.local := by decide +kernel
noncomputable def t_agreement : dTS := dRet (dCB fLen (dCons (dFz (dComp (dItV (dCall 3 (rd_moved) (dCons (dVar 0) (dCons (dVar 2) (dCons (dVar 3) (dNil)))))) (gNm 4) (dB (dInX false (dVar 4) (dVar 1))) (dVar 4) [4])) (dNil)))
theorem rx_agreement : ∃ r : dFn, r = fnT 5 t_agreement := ⟨_, rfl⟩
@[irreducible] noncomputable def rd_agreement : dFn := rx_agreement.choose
theorem rd_agreement_is : rd_agreement = fnT 5 t_agreement := by unfold rd_agreement; exact rx_agreement.choose_spec
theorem cal_agreement {P : Program} {w : World} {K : PySem.W.Frag} {mg : Str → Option Value} {base : Heap} {f : Addr} {fd : FuncData} (F : FnP K "agreement" s_agreement f fd) (m : mg "agreement" = some (.ref f)) (C_moved : Cal P w K mg base "moved" 1 3 ps_moved (rd_moved)) (z_len : mg "len" = none) : Cal P w K mg base "agreement" 2 4 ps_agreement rd_agreement :=
  by
  rw [rd_agreement_is]
  exact ⟨f, fd, fn_dD F sc_agreement (by decide) (fun cdv A outer s H E hr => (dss_one (ds_ret (de_callB c_len z_len rfl (by decide +kernel) (da_cons (de_fz (df_comp (own := [("cell", 4)]) rfl sc_agreement.nd (blkOk_by (own := [("cell", 4)]) (N := nm_agreement) (sc := defScope s_agreement) (by decide +kernel)) (fun _ _ _ _ _ => (dg_nm (i := 4) sc_agreement.nd rfl (.inl rfl) (.inr rfl))) (di_any (de_cal C_moved (hr.mono (by omega)) rfl (da_cons (de_var (pv 0 rfl (.inl lk_agreement_0))) (da_cons (de_var (pv 2 rfl (.inl lk_agreement_2))) (da_cons (de_var (pv 3 rfl (.inl lk_agreement_3))) da_nil))))) (fun _ _ _ _ _ => (dts_one (dt_in (u65 hr) (de_var (pv 4 rfl (.inl rfl))) (de_var (pv 1 rfl (.inr (.inl rfl))))))) (fun _ _ _ _ _ => (de_var (pv 4 rfl (.inl rfl)))))) da_nil))))), m, F.kp, (F.bindsN fun _ _ _ _ _ _ us hl => match us, hl with | [_, _, _, _], _ => rfl)⟩
/-! ### shift_table -/
abbrev s_shift_table : Stmt := top 12
abbrev nm_shift_table : List Str := ["first", "second", "found", "row", "column", "other", "shift"]
abbrev ps_shift_table : List Str := ["first", "second"]
theorem sc_shift_table : FnScope nm_shift_table ps_shift_table (defScope s_shift_table) := ⟨rfl, rfl, rfl, by decide +kernel, rfl, by decide +kernel, by decide +kernel⟩
theorem lk_shift_table_0 : (defScope s_shift_table).names.lookup ("first" : Str) = some NameKind.local := by decide +kernel
theorem lk_shift_table_1 : (defScope s_shift_table).names.lookup ("second" : Str) = some NameKind.local := by decide +kernel
theorem lk_shift_table_2 : (defScope s_shift_table).names.lookup ("found" : Str) = some NameKind.local := by decide +kernel
theorem lk_shift_table_3 : (defScope s_shift_table).names.lookup ("row" : Str) = some NameKind.local := by decide +kernel
theorem lk_shift_table_4 : (defScope s_shift_table).names.lookup ("column" : Str) = some NameKind.local := by decide +kernel
theorem lk_shift_table_5 : (defScope s_shift_table).names.lookup ("other" : Str) = some NameKind.local := by decide +kernel
theorem lk_shift_table_6 : (defScope s_shift_table).names.lookup ("shift" : Str) = some NameKind.local := by decide +kernel
noncomputable def t_shift_table : dTS := dSeq (dSet 2 (dDNew))
    (dSeq (dFor (dItV (dVar 0)) (gTp (gsCons (gNm 3) (gsCons (gNm 4) (gsNil)))) (dFor (dItV (dVar 1)) (gNm 5) (dSeq (dSet 6 (dTup (dCons (dOp fSub (dOp fIx (dVar 5) (dC (.int 0))) (dVar 3)) (dCons (dOp fSub (dOp fIx (dVar 5) (dC (.int 1))) (dVar 4)) (dNil)))))
    (dPutA 2 (dVar 6) (dOp fAdd (dGet2 (dVar 2) (dVar 6) (dC (.int 0))) (dC (.int 1)))))))
    (dRet (dCB fTuple (dCons (dSortItems (dVar 2)) (dNil)))))
theorem rx_shift_table : ∃ r : dFn, r = fnT 7 t_shift_table := ⟨_, rfl⟩
@[irreducible] noncomputable def rd_shift_table : dFn := rx_shift_table.choose
theorem rd_shift_table_is : rd_shift_table = fnT 7 t_shift_table := by unfold rd_shift_table; exact rx_shift_table.choose_spec
theorem cal_shift_table {P : Program} {w : World} {K : PySem.W.Frag} {mg : Str → Option Value} {base : Heap} {f : Addr} {fd : FuncData} (F : FnP K "shift_table" s_shift_table f fd) (m : mg "shift_table" = some (.ref f)) (z_sorted : mg "sorted" = none) (z_tuple : mg "tuple" = none) : Cal P w K mg base "shift_table" 1 2 ps_shift_table rd_shift_table :=
  by
  rw [rd_shift_table_is]
  exact ⟨f, fd, fn_dD F sc_shift_table (by decide) (fun cdv A outer s H E hr => (dss_cons (ds_set (i := 2) sc_shift_table.nd rfl (.inl lk_shift_table_2) de_dnew (.inl rfl))
      (dss_cons (ds_for (vs := [3, 4]) PassesOwn.never rfl (dg_tp rfl (dgs_cons (dg_nm (i := 3) sc_shift_table.nd rfl (.inl lk_shift_table_3) (.inl rfl)) (dgs_cons (dg_nm (i := 4) sc_shift_table.nd rfl (.inl lk_shift_table_4) (.inl rfl)) dgs_nil (mono_nm _)) (mono_nm _))) (di_any (de_var (pv 0 rfl (.inl lk_shift_table_0)))) (dss_one (ds_for (vs := [5]) PassesOwn.never rfl (dg_nm (i := 5) sc_shift_table.nd rfl (.inl lk_shift_table_5) (.inl rfl)) (di_any (de_var (pv 1 rfl (.inl lk_shift_table_1)))) (dss_cons (ds_set (i := 6) sc_shift_table.nd rfl (.inl lk_shift_table_6) (de_tup (da_cons (de_op o_sub (de_ix (u1 hr) (de_var (pv 5 rfl (.inl lk_shift_table_5))) de_int) (de_var (pv 3 rfl (.inl lk_shift_table_3)))) (da_cons (de_op o_sub (de_ix (u1 hr) (de_var (pv 5 rfl (.inl lk_shift_table_5))) de_int) (de_var (pv 4 rfl (.inl lk_shift_table_4)))) da_nil))) (.inl rfl))
      (dss_one (ds_putA (i := 2) (u1 hr) (pv 2 rfl (.inl lk_shift_table_2)) (de_var (pv 6 rfl (.inl lk_shift_table_6))) (de_op o_add (de_get2 (u1 hr) (de_var (pv 2 rfl (.inl lk_shift_table_2))) (de_var (pv 6 rfl (.inl lk_shift_table_6))) de_int ⟨rfl, rfl, rfl, rfl⟩) de_int)))))))
      (dss_one (ds_ret (de_callT c_tuple z_tuple rfl (by decide +kernel) (da_cons (de_sortItems rfl (u65 hr) rfl z_sorted (de_var (pv 2 rfl (.inl lk_shift_table_2)))) da_nil))))))), m, F.kp, (F.bindsN fun _ _ _ _ _ _ us hl => match us, hl with | [_, _], _ => rfl)⟩
/-! ### sign_echo -/
abbrev s_sign_echo : Stmt := top 14
abbrev nm_sign_echo : List Str := ["row", "k", "echo", "place"]
abbrev ps_sign_echo : List Str := ["row", "k"]
theorem sc_sign_echo : FnScope nm_sign_echo ps_sign_echo (defScope s_sign_echo) := ⟨rfl, rfl, rfl, by decide +kernel, rfl, by decide +kernel, by decide +kernel⟩
theorem lk_sign_echo_0 : (defScope s_sign_echo).names.lookup ("row" : Str) = some NameKind.local := by decide +kernel
theorem lk_sign_echo_1 : (defScope s_sign_echo).names.lookup ("k" : Str) = some NameKind.local := by decide +kernel
theorem lk_sign_echo_2 : (defScope s_sign_echo).names.lookup ("echo" : Str) = some NameKind.local := by decide +kernel
theorem lk_sign_echo_3 : (defScope s_sign_echo).names.lookup ("place" : Str) = some NameKind.local := by decide +kernel
noncomputable def t_sign_echo : dTS := dSeq (dSet 2 (dC (.int 0)))
    (dSeq (dFor (dRng1 (dCons (dOp fSub (dCB fLen (dCons (dVar 0) (dNil))) (dVar 1)) (dNil))) (gNm 3) (dAug 2 fIAdd (dIfE (dB (dOp fEq (dOp fIx (dVar 0) (dVar 3)) (dOp fIx (dVar 0) (dOp fAdd (dVar 3) (dVar 1))))) (dC (.int 1)) (dUn fNeg (dC (.int 1))))))
    (dRet (dVar 2)))
theorem rx_sign_echo : ∃ r : dFn, r = fnT 4 t_sign_echo := ⟨_, rfl⟩
@[irreducible] noncomputable def rd_sign_echo : dFn := rx_sign_echo.choose
theorem rd_sign_echo_is : rd_sign_echo = fnT 4 t_sign_echo := by unfold rd_sign_echo; exact rx_sign_echo.choose_spec
theorem cal_sign_echo {P : Program} {w : World} {K : PySem.W.Frag} {mg : Str → Option Value} {base : Heap} {f : Addr} {fd : FuncData} (F : FnP K "sign_echo" s_sign_echo f fd) (m : mg "sign_echo" = some (.ref f)) (z_len : mg "len" = none) (z_range : mg "range" = none) : Cal P w K mg base "sign_echo" 1 2 ps_sign_echo rd_sign_echo :=
  by
  rw [rd_sign_echo_is]
  exact ⟨f, fd, fn_dD F sc_sign_echo (by decide) (fun cdv A outer s H E hr => (dss_cons (ds_set (i := 2) sc_sign_echo.nd rfl (.inl lk_sign_echo_2) de_int (.inl rfl))
      (dss_cons (ds_for (vs := [3]) PassesOwn.never rfl (dg_nm (i := 3) sc_sign_echo.nd rfl (.inl lk_sign_echo_3) (.inl rfl)) (di_rng1 z_range rfl (da_cons (de_op o_sub (de_callB c_len z_len rfl (by decide +kernel) (da_cons (de_var (pv 0 rfl (.inl lk_sign_echo_0))) da_nil)) (de_var (pv 1 rfl (.inl lk_sign_echo_1)))) da_nil)) (dss_one (ds_aug (i := 2) p_iadd sc_sign_echo.nd rfl (.inl lk_sign_echo_2) (de_ifExp (dt_cmp (o_eq (u64 hr)) (de_ix (u1 hr) (de_var (pv 0 rfl (.inl lk_sign_echo_0))) (de_var (pv 3 rfl (.inl lk_sign_echo_3)))) (de_ix (u1 hr) (de_var (pv 0 rfl (.inl lk_sign_echo_0))) (de_op o_add (de_var (pv 3 rfl (.inl lk_sign_echo_3))) (de_var (pv 1 rfl (.inl lk_sign_echo_1)))))) de_int (de_un u_neg de_int)) (.inl rfl))))
      (dss_one (ds_ret (de_var (pv 2 rfl (.inl lk_sign_echo_2)))))))), m, F.kp, (F.bindsN fun _ _ _ _ _ _ us hl => match us, hl with | [_, _], _ => rfl)⟩
/-! ### told_loud -/
abbrev s_told_loud : Stmt := top 15
abbrev nm_told_loud : List Str := ["row", "k"]
abbrev ps_told_loud : List Str := ["row"]
theorem sc_told_loud : FnScope nm_told_loud ps_told_loud (defScope s_told_loud) := ⟨rfl, rfl, rfl, by decide +kernel, rfl, by decide +kernel, by decide +kernel⟩
theorem lk_told_loud_0 : (defScope s_told_loud).names.lookup ("row" : Str) = some NameKind.local := by decide +kernel
theorem lk_told_loud_1 : (defScope s_told_loud).names.lookup ("k" : Str) = some NameKind.local := by decide +kernel
noncomputable def t_told_loud : dTS := dSeq (dFor (dRng2 (dCons (dC (.int 1)) (dCons (dCB fLen (dCons (dVar 0) (dNil))) (dNil)))) (gNm 1) (dIfS (dNot (dB (dChain fLe fLe (dUn fNeg (dC (.int 1))) (dCall 2 (rd_sign_echo) (dCons (dVar 0) (dCons (dVar 1) (dNil)))) (dC (.int 1))))) (dRet (dVar 1)) (dNext)))
    (dRet (dC .none))
theorem rx_told_loud : ∃ r : dFn, r = fnT 2 t_told_loud := ⟨_, rfl⟩
@[irreducible] noncomputable def rd_told_loud : dFn := rx_told_loud.choose
theorem rd_told_loud_is : rd_told_loud = fnT 2 t_told_loud := by unfold rd_told_loud; exact rx_told_loud.choose_spec
theorem cal_told_loud {P : Program} {w : World} {K : PySem.W.Frag} {mg : Str → Option Value} {base : Heap} {f : Addr} {fd : FuncData} (F : FnP K "told_loud" s_told_loud f fd) (m : mg "told_loud" = some (.ref f)) (C_sign_echo : Cal P w K mg base "sign_echo" 1 2 ps_sign_echo (rd_sign_echo)) (z_len : mg "len" = none) (z_range : mg "range" = none) : Cal P w K mg base "told_loud" 2 1 ps_told_loud rd_told_loud :=
  by
  rw [rd_told_loud_is]
  exact ⟨f, fd, fn_dD F sc_told_loud (by decide) (fun cdv A outer s H E hr => (dss_cons (ds_for (vs := [1]) PassesOwn.never rfl (dg_nm (i := 1) sc_told_loud.nd rfl (.inl lk_told_loud_1) (.inl rfl)) (di_rng2 z_range rfl (da_cons de_int (da_cons (de_callB c_len z_len rfl (by decide +kernel) (da_cons (de_var (pv 0 rfl (.inl lk_told_loud_0))) da_nil)) da_nil))) (dss_one (ds_if (dt_not (dt_chain o_le o_le (de_un u_neg de_int) (de_cal C_sign_echo (hr.mono (by omega)) rfl (da_cons (de_var (pv 0 rfl (.inl lk_told_loud_0))) (da_cons (de_var (pv 1 rfl (.inl lk_told_loud_1))) da_nil))) de_int)) (dss_one (ds_ret (de_var (pv 1 rfl (.inl lk_told_loud_1))))) dss_nil)))
      (dss_one (ds_ret de_non)))), m, F.kp, (F.bindsN fun _ _ _ _ _ _ us hl => match us, hl with | [_], _ => rfl)⟩
/-! ### has_small_echoes -/
abbrev s_has_small_echoes : Stmt := top 16
abbrev nm_has_small_echoes : List Str := ["row"]
abbrev ps_has_small_echoes : List Str := ["row"]
theorem sc_has_small_echoes : FnScope nm_has_small_echoes ps_has_small_echoes (defScope s_has_small_echoes) := ⟨rfl, rfl, rfl, by decide +kernel, rfl, by decide +kernel, by decide +kernel⟩
theorem lk_has_small_echoes_0 : (defScope s_has_small_echoes).names.lookup ("row" : Str) = some NameKind.local := by decide +kernel
noncomputable def t_has_small_echoes : dTS := dRet (dOp fIs (dCall 1 (rd_told_loud) (dCons (dVar 0) (dNil))) (dC .none))
theorem rx_has_small_echoes : ∃ r : dFn, r = fnT 1 t_has_small_echoes := ⟨_, rfl⟩
@[irreducible] noncomputable def rd_has_small_echoes : dFn := rx_has_small_echoes.choose
theorem rd_has_small_echoes_is : rd_has_small_echoes = fnT 1 t_has_small_echoes := by unfold rd_has_small_echoes; exact rx_has_small_echoes.choose_spec
theorem cal_has_small_echoes {P : Program} {w : World} {K : PySem.W.Frag} {mg : Str → Option Value} {base : Heap} {f : Addr} {fd : FuncData} (F : FnP K "has_small_echoes" s_has_small_echoes f fd) (m : mg "has_small_echoes" = some (.ref f)) (C_told_loud : Cal P w K mg base "told_loud" 2 1 ps_told_loud (rd_told_loud)) : Cal P w K mg base "has_small_echoes" 3 1 ps_has_small_echoes rd_has_small_echoes :=
  by
  rw [rd_has_small_echoes_is]
  exact ⟨f, fd, fn_dD F sc_has_small_echoes (by decide) (fun cdv A outer s H E hr => (dss_one (ds_ret (de_cmp o_is (de_cal C_told_loud (hr.mono (by omega)) rfl (da_cons (de_var (pv 0 rfl (.inl lk_has_small_echoes_0))) da_nil)) de_non)))), m, F.kp, (F.bindsN fun _ _ _ _ _ _ us hl => match us, hl with | [_], _ => rfl)⟩
/-! ### told_leftover -/
abbrev s_told_leftover : Stmt := top 18
abbrev nm_told_leftover : List Str := ["first", "second", "k"]
abbrev ps_told_leftover : List Str := ["first", "second"]
theorem sc_told_leftover : FnScope nm_told_leftover ps_told_leftover (defScope s_told_leftover) := ⟨rfl, rfl, rfl, by decide +kernel, rfl, by decide +kernel, by decide +kernel⟩
theorem lk_told_leftover_0 : (defScope s_told_leftover).names.lookup ("first" : Str) = some NameKind.local := by decide +kernel
theorem lk_told_leftover_1 : (defScope s_told_leftover).names.lookup ("second" : Str) = some NameKind.local := by decide +kernel
theorem lk_told_leftover_2 : (defScope s_told_leftover).names.lookup ("k" : Str) = some NameKind.local := by decide +kernel
noncomputable def t_told_leftover : dTS := dSeq (dFor (dRng2 (dCons (dC (.int 1)) (dCons (dCB fLen (dCons (dVar 0) (dNil))) (dNil)))) (gNm 2) (dIfS (dB (dOp fNe (dOp fAdd (dCall 2 (rd_sign_echo) (dCons (dVar 0) (dCons (dVar 2) (dNil)))) (dCall 2 (rd_sign_echo) (dCons (dVar 1) (dCons (dVar 2) (dNil))))) (dC (.int 0)))) (dRet (dVar 2)) (dNext)))
    (dRet (dC .none))
theorem rx_told_leftover : ∃ r : dFn, r = fnT 3 t_told_leftover := ⟨_, rfl⟩
@[irreducible] noncomputable def rd_told_leftover : dFn := rx_told_leftover.choose
theorem rd_told_leftover_is : rd_told_leftover = fnT 3 t_told_leftover := by unfold rd_told_leftover; exact rx_told_leftover.choose_spec
theorem cal_told_leftover {P : Program} {w : World} {K : PySem.W.Frag} {mg : Str → Option Value} {base : Heap} {f : Addr} {fd : FuncData} (F : FnP K "told_leftover" s_told_leftover f fd) (m : mg "told_leftover" = some (.ref f)) (C_sign_echo : Cal P w K mg base "sign_echo" 1 2 ps_sign_echo (rd_sign_echo)) (z_len : mg "len" = none) (z_range : mg "range" = none) : Cal P w K mg base "told_leftover" 2 2 ps_told_leftover rd_told_leftover :=
  by
  rw [rd_told_leftover_is]
  exact ⟨f, fd, fn_dD F sc_told_leftover (by decide) (fun cdv A outer s H E hr => (dss_cons (ds_for (vs := [2]) PassesOwn.never rfl (dg_nm (i := 2) sc_told_leftover.nd rfl (.inl lk_told_leftover_2) (.inl rfl)) (di_rng2 z_range rfl (da_cons de_int (da_cons (de_callB c_len z_len rfl (by decide +kernel) (da_cons (de_var (pv 0 rfl (.inl lk_told_leftover_0))) da_nil)) da_nil))) (dss_one (ds_if (dt_cmp (o_ne (u64 hr)) (de_op o_add (de_cal C_sign_echo (hr.mono (by omega)) rfl (da_cons (de_var (pv 0 rfl (.inl lk_told_leftover_0))) (da_cons (de_var (pv 2 rfl (.inl lk_told_leftover_2))) da_nil))) (de_cal C_sign_echo (hr.mono (by omega)) rfl (da_cons (de_var (pv 1 rfl (.inl lk_told_leftover_1))) (da_cons (de_var (pv 2 rfl (.inl lk_told_leftover_2))) da_nil)))) de_int) (dss_one (ds_ret (de_var (pv 2 rfl (.inl lk_told_leftover_2))))) dss_nil)))
      (dss_one (ds_ret de_non)))), m, F.kp, (F.bindsN fun _ _ _ _ _ _ us hl => match us, hl with | [_, _], _ => rfl)⟩
/-! ### are_vanishing -/
abbrev s_are_vanishing : Stmt := top 19
abbrev nm_are_vanishing : List Str := ["first", "second"]
abbrev ps_are_vanishing : List Str := ["first", "second"]
theorem sc_are_vanishing : FnScope nm_are_vanishing ps_are_vanishing (defScope s_are_vanishing) := ⟨rfl, rfl, rfl, by decide +kernel, rfl, by decide +kernel, by decide +kernel⟩
theorem lk_are_vanishing_0 : (defScope s_are_vanishing).names.lookup ("first" : Str) = some NameKind.local := by decide +kernel
theorem lk_are_vanishing_1 : (defScope s_are_vanishing).names.lookup ("second" : Str) = some NameKind.local := by decide +kernel
noncomputable def t_are_vanishing : dTS := dRet (dOp fIs (dCall 2 (rd_told_leftover) (dCons (dVar 0) (dCons (dVar 1) (dNil)))) (dC .none))
theorem rx_are_vanishing : ∃ r : dFn, r = fnT 2 t_are_vanishing := ⟨_, rfl⟩
@[irreducible] noncomputable def rd_are_vanishing : dFn := rx_are_vanishing.choose
theorem rd_are_vanishing_is : rd_are_vanishing = fnT 2 t_are_vanishing := by unfold rd_are_vanishing; exact rx_are_vanishing.choose_spec
theorem cal_are_vanishing {P : Program} {w : World} {K : PySem.W.Frag} {mg : Str → Option Value} {base : Heap} {f : Addr} {fd : FuncData} (F : FnP K "are_vanishing" s_are_vanishing f fd) (m : mg "are_vanishing" = some (.ref f)) (C_told_leftover : Cal P w K mg base "told_leftover" 2 2 ps_told_leftover (rd_told_leftover)) : Cal P w K mg base "are_vanishing" 3 2 ps_are_vanishing rd_are_vanishing :=
  by
  rw [rd_are_vanishing_is]
  exact ⟨f, fd, fn_dD F sc_are_vanishing (by decide) (fun cdv A outer s H E hr => (dss_one (ds_ret (de_cmp o_is (de_cal C_told_leftover (hr.mono (by omega)) rfl (da_cons (de_var (pv 0 rfl (.inl lk_are_vanishing_0))) (da_cons (de_var (pv 1 rfl (.inl lk_are_vanishing_1))) da_nil))) de_non)))), m, F.kp, (F.bindsN fun _ _ _ _ _ _ us hl => match us, hl with | [_, _], _ => rfl)⟩
/-! ### signs_exchanged -/
abbrev s_signs_exchanged : Stmt := top 20
abbrev nm_signs_exchanged : List Str := ["row", "sign"]
abbrev ps_signs_exchanged : List Str := ["row"]
theorem sc_signs_exchanged : FnScope nm_signs_exchanged ps_signs_exchanged (defScope s_signs_exchanged) := ⟨rfl, rfl, rfl, by decide +kernel, rfl, by decide +kernel, by decide +kernel⟩
theorem lk_signs_exchanged_0 : (defScope s_signs_exchanged).names.lookup ("row" : Str) = some NameKind.local := by decide +kernel
noncomputable def t_signs_exchanged : dTS := dRet (dBM "str" fJoin (dC (.str (Str.ofString ""))) (dCons (dFz (dComp (dItV (dVar 0)) (gNm 1) (dYes) (dIfE (dB (dOp fEq (dVar 1) (dC (.str (Str.ofString "+"))))) (dC (.str (Str.ofString "-"))) (dC (.str (Str.ofString "+")))) [1])) (dNil)))
theorem rx_signs_exchanged : ∃ r : dFn, r = fnT 2 t_signs_exchanged := ⟨_, rfl⟩
@[irreducible] noncomputable def rd_signs_exchanged : dFn := rx_signs_exchanged.choose
theorem rd_signs_exchanged_is : rd_signs_exchanged = fnT 2 t_signs_exchanged := by unfold rd_signs_exchanged; exact rx_signs_exchanged.choose_spec
theorem cal_signs_exchanged {P : Program} {w : World} {K : PySem.W.Frag} {mg : Str → Option Value} {base : Heap} {f : Addr} {fd : FuncData} (F : FnP K "signs_exchanged" s_signs_exchanged f fd) (m : mg "signs_exchanged" = some (.ref f)) : Cal P w K mg base "signs_exchanged" 1 1 ps_signs_exchanged rd_signs_exchanged :=
  by
  rw [rd_signs_exchanged_is]
  exact ⟨f, fd, fn_dD F sc_signs_exchanged (by decide) (fun cdv A outer s H E hr => (dss_one (ds_ret (de_bm m_join (.inl rfl) PySem.F.plainAttrs_str PySem.F.slot_str_join PySem.F.type_str_join de_str (da_cons (de_fz (df_comp (own := [("sign", 1)]) rfl sc_signs_exchanged.nd (blkOk_by (own := [("sign", 1)]) (N := nm_signs_exchanged) (sc := defScope s_signs_exchanged) (by decide +kernel)) (fun _ _ _ _ _ => (dg_nm (i := 1) sc_signs_exchanged.nd rfl (.inl rfl) (.inr rfl))) (di_any (de_var (pv 0 rfl (.inl lk_signs_exchanged_0)))) (fun _ _ _ _ _ => dts_nil) (fun _ _ _ _ _ => (de_ifExp (dt_cmp (o_eq (u64 hr)) (de_var (pv 1 rfl (.inl rfl))) de_str) de_str de_str)))) da_nil))))), m, F.kp, (F.bindsN fun _ _ _ _ _ _ us hl => match us, hl with | [_], _ => rfl)⟩
/-! ### doubled_pair -/
abbrev s_doubled_pair : Stmt := top 21
abbrev nm_doubled_pair : List Str := ["first", "second"]
abbrev ps_doubled_pair : List Str := ["first", "second"]
theorem sc_doubled_pair : FnScope nm_doubled_pair ps_doubled_pair (defScope s_doubled_pair) := ⟨rfl, rfl, rfl, by decide +kernel, rfl, by decide +kernel, by decide +kernel⟩
theorem lk_doubled_pair_0 : (defScope s_doubled_pair).names.lookup ("first" : Str) = some NameKind.local := by decide +kernel
theorem lk_doubled_pair_1 : (defScope s_doubled_pair).names.lookup ("second" : Str) = some NameKind.local := by decide +kernel
noncomputable def t_doubled_pair : dTS := dRet (dTup (dCons (dOp fAdd (dVar 0) (dVar 1)) (dCons (dOp fAdd (dVar 0) (dCall 1 (rd_signs_exchanged) (dCons (dVar 1) (dNil)))) (dNil))))
theorem rx_doubled_pair : ∃ r : dFn, r = fnT 2 t_doubled_pair := ⟨_, rfl⟩
@[irreducible] noncomputable def rd_doubled_pair : dFn := rx_doubled_pair.choose
theorem rd_doubled_pair_is : rd_doubled_pair = fnT 2 t_doubled_pair := by unfold rd_doubled_pair; exact rx_doubled_pair.choose_spec
theorem cal_doubled_pair {P : Program} {w : World} {K : PySem.W.Frag} {mg : Str → Option Value} {base : Heap} {f : Addr} {fd : FuncData} (F : FnP K "doubled_pair" s_doubled_pair f fd) (m : mg "doubled_pair" = some (.ref f)) (C_signs_exchanged : Cal P w K mg base "signs_exchanged" 1 1 ps_signs_exchanged (rd_signs_exchanged)) : Cal P w K mg base "doubled_pair" 2 2 ps_doubled_pair rd_doubled_pair :=
  by
  rw [rd_doubled_pair_is]
  exact ⟨f, fd, fn_dD F sc_doubled_pair (by decide) (fun cdv A outer s H E hr => (dss_one (ds_ret (de_tup (da_cons (de_op o_add (de_var (pv 0 rfl (.inl lk_doubled_pair_0))) (de_var (pv 1 rfl (.inl lk_doubled_pair_1)))) (da_cons (de_op o_add (de_var (pv 0 rfl (.inl lk_doubled_pair_0))) (de_cal C_signs_exchanged (hr.mono (by omega)) rfl (da_cons (de_var (pv 1 rfl (.inl lk_doubled_pair_1))) da_nil))) da_nil)))))), m, F.kp, (F.bindsN fun _ _ _ _ _ _ us hl => match us, hl with | [_, _], _ => rfl)⟩
/-! ### woven -/
abbrev s_woven : Stmt := top 22
abbrev nm_woven : List Str := ["first", "second", "place"]
abbrev ps_woven : List Str := ["first", "second"]
theorem sc_woven : FnScope nm_woven ps_woven (defScope s_woven) := ⟨rfl, rfl, rfl, by decide +kernel, rfl, by decide +kernel, by decide +kernel⟩
theorem lk_woven_0 : (defScope s_woven).names.lookup ("first" : Str) = some NameKind.cell := by decide +kernel
theorem lk_woven_1 : (defScope s_woven).names.lookup ("second" : Str) = some NameKind.cell := by decide +kernel
noncomputable def t_woven : dTS := dRet (dBM "str" fJoin (dC (.str (Str.ofString ""))) (dCons (dFz (dComp (dRng1 (dCons (dCB fLen (dCons (dVar 0) (dNil))) (dNil))) (gNm 2) (dYes) (dOp fAdd (dOp fIx (dVar 0) (dVar 2)) (dOp fIx (dVar 1) (dVar 2))) [2])) (dNil)))
theorem rx_woven : ∃ r : dFn, r = fnT 3 t_woven := ⟨_, rfl⟩
@[irreducible] noncomputable def rd_woven : dFn := rx_woven.choose
theorem rd_woven_is : rd_woven = fnT 3 t_woven := by unfold rd_woven; exact rx_woven.choose_spec
theorem cal_woven {P : Program} {w : World} {K : PySem.W.Frag} {mg : Str → Option Value} {base : Heap} {f : Addr} {fd : FuncData} (F : FnP K "woven" s_woven f fd) (m : mg "woven" = some (.ref f)) (z_len : mg "len" = none) (z_range : mg "range" = none) : Cal P w K mg base "woven" 1 2 ps_woven rd_woven :=
  by
  rw [rd_woven_is]
  exact ⟨f, fd, fn_dD F sc_woven (by decide) (fun cdv A outer s H E hr => (dss_one (ds_ret (de_bm m_join (.inl rfl) PySem.F.plainAttrs_str PySem.F.slot_str_join PySem.F.type_str_join de_str (da_cons (de_fz (df_comp (own := [("place", 2)]) rfl sc_woven.nd (blkOk_by (own := [("place", 2)]) (N := nm_woven) (sc := defScope s_woven) (by decide +kernel)) (fun _ _ _ _ _ => (dg_nm (i := 2) sc_woven.nd rfl (.inl rfl) (.inr rfl))) (di_rng1 z_range rfl (da_cons (de_callB c_len z_len rfl (by decide +kernel) (da_cons (de_var (pv 0 rfl (.inr (.inl lk_woven_0)))) da_nil)) da_nil)) (fun _ _ _ _ _ => dts_nil) (fun _ _ _ _ _ => (de_op o_add (de_ix (u1 hr) (de_var (pv 0 rfl (.inr (.inl rfl)))) (de_var (pv 2 rfl (.inl rfl)))) (de_ix (u1 hr) (de_var (pv 1 rfl (.inr (.inl rfl)))) (de_var (pv 2 rfl (.inl rfl)))))))) da_nil))))), m, F.kp, (F.bindsN fun _ _ _ _ _ _ us hl => match us, hl with | [_, _], _ => rfl)⟩
/-! ### woven_pair -/
abbrev s_woven_pair : Stmt := top 23
abbrev nm_woven_pair : List Str := ["first", "second"]
abbrev ps_woven_pair : List Str := ["first", "second"]
theorem sc_woven_pair : FnScope nm_woven_pair ps_woven_pair (defScope s_woven_pair) := ⟨rfl, rfl, rfl, by decide +kernel, rfl, by decide +kernel, by decide +kernel⟩
theorem lk_woven_pair_0 : (defScope s_woven_pair).names.lookup ("first" : Str) = some NameKind.local := by decide +kernel
theorem lk_woven_pair_1 : (defScope s_woven_pair).names.lookup ("second" : Str) = some NameKind.local := by decide +kernel
noncomputable def t_woven_pair : dTS := dRet (dTup (dCons (dCall 2 (rd_woven) (dCons (dVar 0) (dCons (dVar 1) (dNil)))) (dCons (dCall 2 (rd_woven) (dCons (dVar 0) (dCons (dCall 1 (rd_signs_exchanged) (dCons (dVar 1) (dNil))) (dNil)))) (dNil))))
theorem rx_woven_pair : ∃ r : dFn, r = fnT 2 t_woven_pair := ⟨_, rfl⟩
@[irreducible] noncomputable def rd_woven_pair : dFn := rx_woven_pair.choose
theorem rd_woven_pair_is : rd_woven_pair = fnT 2 t_woven_pair := by unfold rd_woven_pair; exact rx_woven_pair.choose_spec
theorem cal_woven_pair {P : Program} {w : World} {K : PySem.W.Frag} {mg : Str → Option Value} {base : Heap} {f : Addr} {fd : FuncData} (F : FnP K "woven_pair" s_woven_pair f fd) (m : mg "woven_pair" = some (.ref f)) (C_signs_exchanged : Cal P w K mg base "signs_exchanged" 1 1 ps_signs_exchanged (rd_signs_exchanged)) (C_woven : Cal P w K mg base "woven" 1 2 ps_woven (rd_woven)) : Cal P w K mg base "woven_pair" 2 2 ps_woven_pair rd_woven_pair :=
  by
  rw [rd_woven_pair_is]
  exact ⟨f, fd, fn_dD F sc_woven_pair (by decide) (fun cdv A outer s H E hr => (dss_one (ds_ret (de_tup (da_cons (de_cal C_woven (hr.mono (by omega)) rfl (da_cons (de_var (pv 0 rfl (.inl lk_woven_pair_0))) (da_cons (de_var (pv 1 rfl (.inl lk_woven_pair_1))) da_nil))) (da_cons (de_cal C_woven (hr.mono (by omega)) rfl (da_cons (de_var (pv 0 rfl (.inl lk_woven_pair_0))) (da_cons (de_cal C_signs_exchanged (hr.mono (by omega)) rfl (da_cons (de_var (pv 1 rfl (.inl lk_woven_pair_1))) da_nil)) da_nil))) da_nil)))))), m, F.kp, (F.bindsN fun _ _ _ _ _ _ us hl => match us, hl with | [_, _], _ => rfl)⟩
/-! ### _law_cell -/
abbrev s__law_cell : Stmt := top 25
abbrev nm__law_cell : List Str := ["script", "k"]
abbrev ps__law_cell : List Str := ["script", "k"]
theorem sc__law_cell : FnScope nm__law_cell ps__law_cell (defScope s__law_cell) := ⟨rfl, rfl, rfl, by decide +kernel, rfl, by decide +kernel, by decide +kernel⟩
theorem lk__law_cell_0 : (defScope s__law_cell).names.lookup ("script" : Str) = some NameKind.local := by decide +kernel
theorem lk__law_cell_1 : (defScope s__law_cell).names.lookup ("k" : Str) = some NameKind.local := by decide +kernel
noncomputable def t__law_cell : dTS := dSeq (dIfS (dB (dOp fLt (dVar 1) (dCB fLen (dCons (dVar 0) (dNil))))) (dRet (dOp fIx (dVar 0) (dVar 1))) (dNext))
    (dRet (dOp fAdd (dOp fMulA (dC (.int 5)) (dVar 1)) (dC (.int 3))))
theorem rx__law_cell : ∃ r : dFn, r = fnT 2 t__law_cell := ⟨_, rfl⟩
@[irreducible] noncomputable def rd__law_cell : dFn := rx__law_cell.choose
theorem rd__law_cell_is : rd__law_cell = fnT 2 t__law_cell := by unfold rd__law_cell; exact rx__law_cell.choose_spec
theorem cal__law_cell {P : Program} {w : World} {K : PySem.W.Frag} {mg : Str → Option Value} {base : Heap} {f : Addr} {fd : FuncData} (F : FnP K "_law_cell" s__law_cell f fd) (m : mg "_law_cell" = some (.ref f)) (z_len : mg "len" = none) : Cal P w K mg base "_law_cell" 1 2 ps__law_cell rd__law_cell :=
  by
  rw [rd__law_cell_is]
  exact ⟨f, fd, fn_dD F sc__law_cell (by decide) (fun cdv A outer s H E hr => (dss_cons (ds_if (dt_cmp o_lt (de_var (pv 1 rfl (.inl lk__law_cell_1))) (de_callB c_len z_len rfl (by decide +kernel) (da_cons (de_var (pv 0 rfl (.inl lk__law_cell_0))) da_nil))) (dss_one (ds_ret (de_ix (u1 hr) (de_var (pv 0 rfl (.inl lk__law_cell_0))) (de_var (pv 1 rfl (.inl lk__law_cell_1)))))) dss_nil)
      (dss_one (ds_ret (de_op o_add (de_op o_mulA de_int (de_var (pv 1 rfl (.inl lk__law_cell_1)))) de_int))))), m, F.kp, (F.bindsN fun _ _ _ _ _ _ us hl => match us, hl with | [_, _], _ => rfl)⟩
/-! ### _law_draws -/
abbrev s__law_draws : Stmt := top 26
abbrev nm__law_draws : List Str := ["cell", "count", "rest", "digits", "seed", "draws", "k", "mixed"]
abbrev ps__law_draws : List Str := ["cell", "count"]
theorem sc__law_draws : FnScope nm__law_draws ps__law_draws (defScope s__law_draws) := ⟨rfl, rfl, rfl, by decide +kernel, rfl, by decide +kernel, by decide +kernel⟩
theorem lk__law_draws_0 : (defScope s__law_draws).names.lookup ("cell" : Str) = some NameKind.local := by decide +kernel
theorem lk__law_draws_1 : (defScope s__law_draws).names.lookup ("count" : Str) = some NameKind.local := by decide +kernel
theorem lk__law_draws_2 : (defScope s__law_draws).names.lookup ("rest" : Str) = some NameKind.local := by decide +kernel
theorem lk__law_draws_3 : (defScope s__law_draws).names.lookup ("digits" : Str) = some NameKind.local := by decide +kernel
theorem lk__law_draws_4 : (defScope s__law_draws).names.lookup ("seed" : Str) = some NameKind.local := by decide +kernel
theorem lk__law_draws_5 : (defScope s__law_draws).names.lookup ("draws" : Str) = some NameKind.local := by decide +kernel
theorem lk__law_draws_6 : (defScope s__law_draws).names.lookup ("k" : Str) = some NameKind.local := by decide +kernel
theorem lk__law_draws_7 : (defScope s__law_draws).names.lookup ("mixed" : Str) = some NameKind.local := by decide +kernel
noncomputable def t__law_draws : dTS := dSeq (dSet 2 (dCB fAbs (dCons (dCB fInt (dCons (dVar 0) (dNil))) (dNil))))
    (dSeq (dSet 3 (dOp fGe (dVar 2) (dOp fPow (dC (.int 10)) (dC (.int 18)))))
    (dSeq (dSet 4 (dVar 2))
    (dSeq (dSetO 5 (fLst (dNil)))
    (dSeq (dFor (dRng1 (dCons (dVar 1) (dNil))) (gNm 6) (dIfS (dAnd (dB (dVar 3)) (dB (dOp fGt (dVar 2) (dC (.int 0))))) (dSeq (dApp 5 (dOp fMod (dCB fInt (dCons (dVar 2) (dNil))) (dC (.int 5040))))
    (dSet 2 (dOp fDiv (dVar 2) (dC (.int 5040))))) (dSeq (dSet 7 (dOp fMod (dCB fInt (dCons (dOp fAdd (dOp fAdd (dOp fMulA (dVar 4) (dC (.int 48271))) (dOp fMulA (dOp fAdd (dVar 6) (dC (.int 1))) (dC (.int 69621)))) (dC (.int 11))) (dNil))) (dC (.int 2147483647))))
    (dSeq (dSet 7 (dOp fMod (dCB fInt (dCons (dOp fAdd (dOp fMulA (dVar 7) (dVar 7)) (dOp fMulA (dC (.int 40692)) (dOp fAdd (dVar 6) (dC (.int 3))))) (dNil))) (dC (.int 2147483399))))
    (dApp 5 (dOp fMod (dCB fInt (dCons (dOp fDiv (dVar 7) (dC (.int 64))) (dNil))) (dC (.int 5040))))))))
    (dFrz 5 (dRet (dVar 5)))))))
theorem rx__law_draws : ∃ r : dFn, r = fnT 8 t__law_draws := ⟨_, rfl⟩
@[irreducible] noncomputable def rd__law_draws : dFn := rx__law_draws.choose
theorem rd__law_draws_is : rd__law_draws = fnT 8 t__law_draws := by unfold rd__law_draws; exact rx__law_draws.choose_spec
theorem cal__law_draws {P : Program} {w : World} {K : PySem.W.Frag} {mg : Str → Option Value} {base : Heap} {f : Addr} {fd : FuncData} (F : FnP K "_law_draws" s__law_draws f fd) (m : mg "_law_draws" = some (.ref f)) (z_abs : mg "abs" = none) (z_int : mg "int" = none) (z_range : mg "range" = none) : Cal P w K mg base "_law_draws" 1 2 ps__law_draws rd__law_draws :=
  by
  rw [rd__law_draws_is]
  exact ⟨f, fd, fn_dD F sc__law_draws (by decide) (fun cdv A outer s H E hr => (dss_cons (ds_set (i := 2) sc__law_draws.nd rfl (.inl lk__law_draws_2) (de_callB c_abs z_abs rfl (by decide +kernel) (da_cons (de_callT c_int z_int rfl (by decide +kernel) (da_cons (de_var (pv 0 rfl (.inl lk__law_draws_0))) da_nil)) da_nil)) (.inl rfl))
      (dss_cons (ds_set (i := 3) sc__law_draws.nd rfl (.inl lk__law_draws_3) (de_cmp o_ge (de_var (pv 2 rfl (.inl lk__law_draws_2))) (de_op o_pow de_int de_int)) (.inl rfl))
      (dss_cons (ds_set (i := 4) sc__law_draws.nd rfl (.inl lk__law_draws_4) (de_var (pv 2 rfl (.inl lk__law_draws_2))) (.inl rfl))
      (dss_cons (ds_setO (i := 5) sc__law_draws.nd rfl (.inl lk__law_draws_5) (df_lst da_nil) (.inl rfl))
      (dss_cons (ds_for (vs := [6]) PassesOwn.never rfl (dg_nm (i := 6) sc__law_draws.nd rfl (.inl lk__law_draws_6) (.inl rfl)) (di_rng1 z_range rfl (da_cons (de_var (pv 1 rfl (.inl lk__law_draws_1))) da_nil)) (dss_one (ds_if (dw_pt (dw_and (dt_val (de_var (pv 3 rfl (.inl lk__law_draws_3)))) (dw_and1 (dt_cmp o_gt (de_var (pv 2 rfl (.inl lk__law_draws_2))) de_int)))) (dss_cons (ds_app (i := 5) (pv 5 rfl (.inl lk__law_draws_5)) (de_op o_mod (de_callT c_int z_int rfl (by decide +kernel) (da_cons (de_var (pv 2 rfl (.inl lk__law_draws_2))) da_nil)) de_int))
      (dss_one (ds_set (i := 2) sc__law_draws.nd rfl (.inl lk__law_draws_2) (de_op o_div (de_var (pv 2 rfl (.inl lk__law_draws_2))) de_int) (.inl rfl)))) (dss_cons (ds_set (i := 7) sc__law_draws.nd rfl (.inl lk__law_draws_7) (de_op o_mod (de_callT c_int z_int rfl (by decide +kernel) (da_cons (de_op o_add (de_op o_add (de_op o_mulA (de_var (pv 4 rfl (.inl lk__law_draws_4))) de_int) (de_op o_mulA (de_op o_add (de_var (pv 6 rfl (.inl lk__law_draws_6))) de_int) de_int)) de_int) da_nil)) de_int) (.inl rfl))
      (dss_cons (ds_set (i := 7) sc__law_draws.nd rfl (.inl lk__law_draws_7) (de_op o_mod (de_callT c_int z_int rfl (by decide +kernel) (da_cons (de_op o_add (de_op o_mulA (de_var (pv 7 rfl (.inl lk__law_draws_7))) (de_var (pv 7 rfl (.inl lk__law_draws_7)))) (de_op o_mulA de_int (de_op o_add (de_var (pv 6 rfl (.inl lk__law_draws_6))) de_int))) da_nil)) de_int) (.inl rfl))
      (dss_one (ds_app (i := 5) (pv 5 rfl (.inl lk__law_draws_5)) (de_op o_mod (de_callT c_int z_int rfl (by decide +kernel) (da_cons (de_op o_div (de_var (pv 7 rfl (.inl lk__law_draws_7))) de_int) da_nil)) de_int))))))))
      (dss_one (ds_frz 5 (ds_ret (de_var (pv 5 rfl (.inl lk__law_draws_5)))))))))))), m, F.kp, (F.bindsN fun _ _ _ _ _ _ us hl => match us, hl with | [_, _], _ => rfl)⟩
/-! ### _law_is_integer -/
abbrev s__law_is_integer : Stmt := top 27
abbrev nm__law_is_integer : List Str := ["value"]
abbrev ps__law_is_integer : List Str := ["value"]
theorem sc__law_is_integer : FnScope nm__law_is_integer ps__law_is_integer (defScope s__law_is_integer) := ⟨rfl, rfl, rfl, by decide +kernel, rfl, by decide +kernel, by decide +kernel⟩
theorem lk__law_is_integer_0 : (defScope s__law_is_integer).names.lookup ("value" : Str) = some NameKind.local := by decide +kernel
noncomputable def t__law_is_integer : dTS := dRet (dAndV (dUn (fI isInt) (dVar 0)) (dNotV (dUn (fI isBl) (dVar 0))))
theorem rx__law_is_integer : ∃ r : dFn, r = fnT 1 t__law_is_integer := ⟨_, rfl⟩
@[irreducible] noncomputable def rd__law_is_integer : dFn := rx__law_is_integer.choose
theorem rd__law_is_integer_is : rd__law_is_integer = fnT 1 t__law_is_integer := by unfold rd__law_is_integer; exact rx__law_is_integer.choose_spec
theorem cal__law_is_integer {P : Program} {w : World} {K : PySem.W.Frag} {mg : Str → Option Value} {base : Heap} {f : Addr} {fd : FuncData} (F : FnP K "_law_is_integer" s__law_is_integer f fd) (m : mg "_law_is_integer" = some (.ref f)) (z_bool : mg "bool" = none) (z_int : mg "int" = none) (z_isinstance : mg "isinstance" = none) : Cal P w K mg base "_law_is_integer" 1 1 ps__law_is_integer rd__law_is_integer :=
  by
  rw [rd__law_is_integer_is]
  exact ⟨f, fd, fn_dD F sc__law_is_integer (by decide) (fun cdv A outer s H E hr => (dss_one (ds_ret (de_and (de_isi ist_int (de_var (pv 0 rfl (.inl lk__law_is_integer_0))) z_isinstance z_int rfl rfl (by decide +kernel)) (de_one (de_not (de_isi ist_bl (de_var (pv 0 rfl (.inl lk__law_is_integer_0))) z_isinstance z_bool rfl rfl (by decide +kernel)))))))), m, F.kp, (F.bindsN fun _ _ _ _ _ _ us hl => match us, hl with | [_], _ => rfl)⟩
/-! ### _law_is -/
abbrev s__law_is : Stmt := top 28
abbrev nm__law_is : List Str := ["value", "due", "at"]
abbrev ps__law_is : List Str := ["value", "due"]
theorem sc__law_is : FnScope nm__law_is ps__law_is (defScope s__law_is) := ⟨rfl, rfl, rfl, by decide +kernel, rfl, by decide +kernel, by decide +kernel⟩
theorem lk__law_is_0 : (defScope s__law_is).names.lookup ("value" : Str) = some NameKind.cell := by decide +kernel
theorem lk__law_is_1 : (defScope s__law_is).names.lookup ("due" : Str) = some NameKind.cell := by decide +kernel
noncomputable def t__law_is (rc : dFn) : dTS := dSeq (dIfS (dB (dOp fIs (dVar 1) (dC .none))) (dRet (dOp fIs (dVar 0) (dC .none))) (dNext))
    (dSeq (dIfS (dB (dUn (fI isBl) (dVar 1))) (dRet (dAndV (dUn (fI isBl) (dVar 0)) (dOp fEq (dVar 0) (dVar 1)))) (dNext))
    (dSeq (dIfS (dB (dUn (fI isInt) (dVar 1))) (dRet (dAndV (dCall 1 (rd__law_is_integer) (dCons (dVar 0) (dNil))) (dOp fEq (dVar 0) (dVar 1)))) (dNext))
    (dSeq (dIfS (dB (dUn (fI isStr) (dVar 1))) (dRet (dAndV (dUn (fI isStr) (dVar 0)) (dOp fEq (dVar 0) (dVar 1)))) (dNext))
    (dSeq (dIfS (dOr (dNot (dB (dUn (fI isTup) (dVar 0)))) (dB (dOp fNe (dCB fLen (dCons (dVar 0) (dNil))) (dCB fLen (dCons (dVar 1) (dNil)))))) (dRet (dC (.bool false))) (dNext))
    (dRet (dCB fAll (dCons (dFz (dComp (dRng1 (dCons (dCB fLen (dCons (dVar 1) (dNil))) (dNil))) (gNm 2) (dYes) (dCall 2 (rc) (dCons (dOp fIx (dVar 0) (dVar 2)) (dCons (dOp fIx (dVar 1) (dVar 2)) (dNil)))) [2])) (dNil))))))))
noncomputable def rr__law_is : Nat → dFn
  | 0 => fun _ _ _ => False
  | k + 1 => fnT 3 (t__law_is (rr__law_is k))
theorem rx__law_is : ∃ r : Nat → dFn, r = rr__law_is := ⟨_, rfl⟩
@[irreducible] noncomputable def rd__law_is : Nat → dFn := rx__law_is.choose
theorem rd__law_is_e : rd__law_is = rr__law_is := by unfold rd__law_is; exact rx__law_is.choose_spec
theorem rd__law_is_0 : rd__law_is 0 = fun _ _ _ => False := by
  rw [rd__law_is_e]
  rfl
theorem rd__law_is_is (k : Nat) : rd__law_is (k + 1) = fnT 3 (t__law_is (rd__law_is k)) := by
  rw [rd__law_is_e]
  rfl
theorem cal__law_is {P : Program} {w : World} {K : PySem.W.Frag} {mg : Str → Option Value} {base : Heap} {f : Addr} {fd : FuncData} (F : FnP K "_law_is" s__law_is f fd) (m : mg "_law_is" = some (.ref f)) (C__law_is_integer : Cal P w K mg base "_law_is_integer" 1 1 ps__law_is_integer (rd__law_is_integer)) (z_all : mg "all" = none) (z_bool : mg "bool" = none) (z_int : mg "int" = none) (z_isinstance : mg "isinstance" = none) (z_len : mg "len" = none) (z_range : mg "range" = none) (z_str : mg "str" = none) (z_tuple : mg "tuple" = none) :
    ∀ q : Nat, Cal P w K mg base "_law_is" (q + 1) 2 ps__law_is (rd__law_is q)
  | 0 => by
    rw [rd__law_is_0]
    exact ⟨f, fd, fn_no, m, F.kp, (F.bindsN fun _ _ _ _ _ _ us hl => match us, hl with | [_, _], _ => rfl)⟩
  | q + 1 => by
    have C_self := cal__law_is F m C__law_is_integer z_all z_bool z_int z_isinstance z_len z_range z_str z_tuple q
    have hb : 1 + 0 = 1 := rfl
    rw [show q + 1 + 1 = (q + 1) + 1 by omega]
    rw [rd__law_is_is]
    exact ⟨f, fd, fn_dD F sc__law_is (by decide) (fun cdv A outer s H E hr => (dss_cons (ds_if (dt_cmp o_is (de_var (pv 1 rfl (.inr (.inl lk__law_is_1)))) de_non) (dss_one (ds_ret (de_cmp o_is (de_var (pv 0 rfl (.inr (.inl lk__law_is_0)))) de_non))) dss_nil)
      (dss_cons (ds_if (dt_val (de_isi ist_bl (de_var (pv 1 rfl (.inr (.inl lk__law_is_1)))) z_isinstance z_bool rfl rfl (by decide +kernel))) (dss_one (ds_ret (de_and (de_isi ist_bl (de_var (pv 0 rfl (.inr (.inl lk__law_is_0)))) z_isinstance z_bool rfl rfl (by decide +kernel)) (de_one (de_cmp (o_eq (u64 hr)) (de_var (pv 0 rfl (.inr (.inl lk__law_is_0)))) (de_var (pv 1 rfl (.inr (.inl lk__law_is_1))))))))) dss_nil)
      (dss_cons (ds_if (dt_val (de_isi ist_int (de_var (pv 1 rfl (.inr (.inl lk__law_is_1)))) z_isinstance z_int rfl rfl (by decide +kernel))) (dss_one (ds_ret (de_and (de_cal C__law_is_integer (hr.mono (by omega)) rfl (da_cons (de_var (pv 0 rfl (.inr (.inl lk__law_is_0)))) da_nil)) (de_one (de_cmp (o_eq (u64 hr)) (de_var (pv 0 rfl (.inr (.inl lk__law_is_0)))) (de_var (pv 1 rfl (.inr (.inl lk__law_is_1))))))))) dss_nil)
      (dss_cons (ds_if (dt_val (de_isi ist_str (de_var (pv 1 rfl (.inr (.inl lk__law_is_1)))) z_isinstance z_str rfl rfl (by decide +kernel))) (dss_one (ds_ret (de_and (de_isi ist_str (de_var (pv 0 rfl (.inr (.inl lk__law_is_0)))) z_isinstance z_str rfl rfl (by decide +kernel)) (de_one (de_cmp (o_eq (u64 hr)) (de_var (pv 0 rfl (.inr (.inl lk__law_is_0)))) (de_var (pv 1 rfl (.inr (.inl lk__law_is_1))))))))) dss_nil)
      (dss_cons (ds_if (dw_pt (dw_or (dt_not (dt_val (de_isi ist_tup (de_var (pv 0 rfl (.inr (.inl lk__law_is_0)))) z_isinstance z_tuple rfl rfl (by decide +kernel)))) (dw_or1 (dt_cmp (o_ne (u64 hr)) (de_callB c_len z_len rfl (by decide +kernel) (da_cons (de_var (pv 0 rfl (.inr (.inl lk__law_is_0)))) da_nil)) (de_callB c_len z_len rfl (by decide +kernel) (da_cons (de_var (pv 1 rfl (.inr (.inl lk__law_is_1)))) da_nil)))))) (dss_one (ds_ret de_bl)) dss_nil)
      (dss_one (ds_ret (de_callB (c_all rfl) z_all rfl (by decide +kernel) (da_cons (de_fz (df_comp (own := [("at", 2)]) rfl sc__law_is.nd (blkOk_by (own := [("at", 2)]) (N := nm__law_is) (sc := defScope s__law_is) (by decide +kernel)) (fun _ _ _ _ _ => (dg_nm (i := 2) sc__law_is.nd rfl (.inl rfl) (.inr rfl))) (di_rng1 z_range rfl (da_cons (de_callB c_len z_len rfl (by decide +kernel) (da_cons (de_var (pv 1 rfl (.inr (.inl lk__law_is_1)))) da_nil)) da_nil)) (fun _ _ _ _ _ => dts_nil) (fun _ _ _ _ _ => (de_cal C_self hr rfl (da_cons (de_ix (u1 hr) (de_var (pv 0 rfl (.inr (.inl rfl)))) (de_var (pv 2 rfl (.inl rfl)))) (da_cons (de_ix (u1 hr) (de_var (pv 1 rfl (.inr (.inl rfl)))) (de_var (pv 2 rfl (.inl rfl)))) da_nil)))))) da_nil)))))))))), m, F.kp, (F.bindsN fun _ _ _ _ _ _ us hl => match us, hl with | [_, _], _ => rfl)⟩
/-! ### _law_hand -/
abbrev s__law_hand : Stmt := top 29
abbrev nm__law_hand : List Str := ["script", "k"]
abbrev ps__law_hand : List Str := ["script", "k"]
theorem sc__law_hand : FnScope nm__law_hand ps__law_hand (defScope s__law_hand) := ⟨rfl, rfl, rfl, by decide +kernel, rfl, by decide +kernel, by decide +kernel⟩
theorem lk__law_hand_0 : (defScope s__law_hand).names.lookup ("script" : Str) = some NameKind.local := by decide +kernel
theorem lk__law_hand_1 : (defScope s__law_hand).names.lookup ("k" : Str) = some NameKind.local := by decide +kernel
noncomputable def t__law_hand : dTS := dRet (dDisp [((.inr (Str.ofString "draws")), dCall 2 (rd__law_draws) (dCons (dCall 2 (rd__law_cell) (dCons (dVar 0) (dCons (dVar 1) (dNil)))) (dCons (dC (.int 120)) (dNil)))), ((.inr (Str.ofString "at")), dC (.int 0))])
theorem rx__law_hand : ∃ r : dFn, r = fnT 2 t__law_hand := ⟨_, rfl⟩
@[irreducible] noncomputable def rd__law_hand : dFn := rx__law_hand.choose
theorem rd__law_hand_is : rd__law_hand = fnT 2 t__law_hand := by unfold rd__law_hand; exact rx__law_hand.choose_spec
theorem cal__law_hand {P : Program} {w : World} {K : PySem.W.Frag} {mg : Str → Option Value} {base : Heap} {f : Addr} {fd : FuncData} (F : FnP K "_law_hand" s__law_hand f fd) (m : mg "_law_hand" = some (.ref f)) (C__law_cell : Cal P w K mg base "_law_cell" 1 2 ps__law_cell (rd__law_cell)) (C__law_draws : Cal P w K mg base "_law_draws" 1 2 ps__law_draws (rd__law_draws)) : Cal P w K mg base "_law_hand" 2 2 ps__law_hand rd__law_hand :=
  by
  rw [rd__law_hand_is]
  exact ⟨f, fd, fn_dD F sc__law_hand (by decide) (fun cdv A outer s H E hr => (dss_one (ds_ret (de_disp (ts := [((.inr (Str.ofString "draws")), dCall 2 (rd__law_draws) (dCons (dCall 2 (rd__law_cell) (dCons (dVar 0) (dCons (dVar 1) (dNil)))) (dCons (dC (.int 120)) (dNil)))), ((.inr (Str.ofString "at")), dC (.int 0))]) (dps_cons pe_str (de_cal C__law_draws (hr.mono (by omega)) rfl (da_cons (de_cal C__law_cell (hr.mono (by omega)) rfl (da_cons (de_var (pv 0 rfl (.inl lk__law_hand_0))) (da_cons (de_var (pv 1 rfl (.inl lk__law_hand_1))) da_nil))) (da_cons de_int da_nil))) (dps_cons pe_str de_int dps_nil)) (by decide +kernel) (by decide) rfl rfl (by intro z; cases z) (by decide))))), m, F.kp, (F.bindsN fun _ _ _ _ _ _ us hl => match us, hl with | [_, _], _ => rfl)⟩
/-! ### _law_take -/
abbrev s__law_take : Stmt := top 30
abbrev nm__law_take : List Str := ["hand", "most", "at"]
abbrev ps__law_take : List Str := ["hand", "most"]
theorem sc__law_take : FnScope nm__law_take ps__law_take (defScope s__law_take) := ⟨rfl, rfl, rfl, by decide +kernel, rfl, by decide +kernel, by decide +kernel⟩
theorem lk__law_take_0 : (defScope s__law_take).names.lookup ("hand" : Str) = some NameKind.local := by decide +kernel
theorem lk__law_take_1 : (defScope s__law_take).names.lookup ("most" : Str) = some NameKind.local := by decide +kernel
theorem lk__law_take_2 : (defScope s__law_take).names.lookup ("at" : Str) = some NameKind.local := by decide +kernel
noncomputable def t__law_take : dTS := dSeq (dSet 2 (dOp fIx (dVar 0) (dC (.str (Str.ofString "at")))))
    (dSeq (dPutA 0 (dC (.str (Str.ofString "at"))) (dOp fAdd (dVar 2) (dC (.int 1))))
    (dRet (dOp fMod (dOp fAdd (dOp fDiv (dCB fInt (dCons (dOp fIx (dOp fIx (dVar 0) (dC (.str (Str.ofString "draws")))) (dOp fMod (dVar 2) (dC (.int 120)))) (dNil))) (dOp fIx (dTup (dCons (dC (.int 1)) (dCons (dC (.int 7)) (dCons (dC (.int 59)) (dNil))))) (dOp fMod (dOp fDiv (dVar 2) (dC (.int 120))) (dC (.int 3))))) (dOp fDiv (dVar 2) (dC (.int 360)))) (dVar 1))))
theorem rx__law_take : ∃ r : dFn, r = fnT 3 t__law_take := ⟨_, rfl⟩
@[irreducible] noncomputable def rd__law_take : dFn := rx__law_take.choose
theorem rd__law_take_is : rd__law_take = fnT 3 t__law_take := by unfold rd__law_take; exact rx__law_take.choose_spec
theorem cal__law_take {P : Program} {w : World} {K : PySem.W.Frag} {mg : Str → Option Value} {base : Heap} {f : Addr} {fd : FuncData} (F : FnP K "_law_take" s__law_take f fd) (m : mg "_law_take" = some (.ref f)) (z_int : mg "int" = none) : Cal P w K mg base "_law_take" 1 2 ps__law_take rd__law_take :=
  by
  rw [rd__law_take_is]
  exact ⟨f, fd, fn_dD F sc__law_take (by decide) (fun cdv A outer s H E hr => (dss_cons (ds_set (i := 2) sc__law_take.nd rfl (.inl lk__law_take_2) (de_ix (u1 hr) (de_var (pv 0 rfl (.inl lk__law_take_0))) de_str) (.inl rfl))
      (dss_cons (ds_putA (i := 0) (u1 hr) (pv 0 rfl (.inl lk__law_take_0)) de_str (de_op o_add (de_var (pv 2 rfl (.inl lk__law_take_2))) de_int))
      (dss_one (ds_ret (de_op o_mod (de_op o_add (de_op o_div (de_callT c_int z_int rfl (by decide +kernel) (da_cons (de_ix (u1 hr) (de_ix (u1 hr) (de_var (pv 0 rfl (.inl lk__law_take_0))) de_str) (de_op o_mod (de_var (pv 2 rfl (.inl lk__law_take_2))) de_int)) da_nil)) (de_ix (u1 hr) (de_tup (da_cons de_int (da_cons de_int (da_cons de_int da_nil)))) (de_op o_mod (de_op o_div (de_var (pv 2 rfl (.inl lk__law_take_2))) de_int) de_int))) (de_op o_div (de_var (pv 2 rfl (.inl lk__law_take_2))) de_int)) (de_var (pv 1 rfl (.inl lk__law_take_1))))))))), m, F.kp, (F.bindsN fun _ _ _ _ _ _ us hl => match us, hl with | [_, _], _ => rfl)⟩
/-! ### _law_signs -/
abbrev s__law_signs : Stmt := top 31
abbrev nm__law_signs : List Str := ["hand", "size", "at"]
abbrev ps__law_signs : List Str := ["hand", "size"]
theorem sc__law_signs : FnScope nm__law_signs ps__law_signs (defScope s__law_signs) := ⟨rfl, rfl, rfl, by decide +kernel, rfl, by decide +kernel, by decide +kernel⟩
theorem lk__law_signs_0 : (defScope s__law_signs).names.lookup ("hand" : Str) = some NameKind.cell := by decide +kernel
theorem lk__law_signs_1 : (defScope s__law_signs).names.lookup ("size" : Str) = some NameKind.local := by decide +kernel
noncomputable def t__law_signs : dTS := dRet (dBM "str" fJoin (dC (.str (Str.ofString ""))) (dCons (dFz (dComp (dRng1 (dCons (dVar 1) (dNil))) (gNm 2) (dYes) (dOp fIx (dC (.str (Str.ofString ".x"))) (dCall 2 (rd__law_take) (dCons (dVar 0) (dCons (dC (.int 2)) (dNil))))) [2])) (dNil)))
theorem rx__law_signs : ∃ r : dFn, r = fnT 3 t__law_signs := ⟨_, rfl⟩
@[irreducible] noncomputable def rd__law_signs : dFn := rx__law_signs.choose
theorem rd__law_signs_is : rd__law_signs = fnT 3 t__law_signs := by unfold rd__law_signs; exact rx__law_signs.choose_spec
theorem cal__law_signs {P : Program} {w : World} {K : PySem.W.Frag} {mg : Str → Option Value} {base : Heap} {f : Addr} {fd : FuncData} (F : FnP K "_law_signs" s__law_signs f fd) (m : mg "_law_signs" = some (.ref f)) (C__law_take : Cal P w K mg base "_law_take" 1 2 ps__law_take (rd__law_take)) (z_range : mg "range" = none) : Cal P w K mg base "_law_signs" 2 2 ps__law_signs rd__law_signs :=
  by
  rw [rd__law_signs_is]
  exact ⟨f, fd, fn_dD F sc__law_signs (by decide) (fun cdv A outer s H E hr => (dss_one (ds_ret (de_bm m_join (.inl rfl) PySem.F.plainAttrs_str PySem.F.slot_str_join PySem.F.type_str_join de_str (da_cons (de_fz (df_comp (own := [("at", 2)]) rfl sc__law_signs.nd (blkOk_by (own := [("at", 2)]) (N := nm__law_signs) (sc := defScope s__law_signs) (by decide +kernel)) (fun _ _ _ _ _ => (dg_nm (i := 2) sc__law_signs.nd rfl (.inl rfl) (.inr rfl))) (di_rng1 z_range rfl (da_cons (de_var (pv 1 rfl (.inl lk__law_signs_1))) da_nil)) (fun _ _ _ _ _ => dts_nil) (fun _ _ _ _ _ => (de_ix (u1 hr) de_str (de_cal C__law_take (hr.mono (by omega)) rfl (da_cons (de_var (pv 0 rfl (.inr (.inl rfl)))) (da_cons de_int da_nil))))))) da_nil))))), m, F.kp, (F.bindsN fun _ _ _ _ _ _ us hl => match us, hl with | [_, _], _ => rfl)⟩
/-! ### _law_shape_of -/
abbrev s__law_shape_of : Stmt := top 32
abbrev nm__law_shape_of : List Str := ["mask", "sign", "at"]
abbrev ps__law_shape_of : List Str := ["mask", "sign"]
theorem sc__law_shape_of : FnScope nm__law_shape_of ps__law_shape_of (defScope s__law_shape_of) := ⟨rfl, rfl, rfl, by decide +kernel, rfl, by decide +kernel, by decide +kernel⟩
theorem lk__law_shape_of_0 : (defScope s__law_shape_of).names.lookup ("mask" : Str) = some NameKind.cell := by decide +kernel
theorem lk__law_shape_of_1 : (defScope s__law_shape_of).names.lookup ("sign" : Str) = some NameKind.cell := by decide +kernel
noncomputable def t__law_shape_of : dTS := dRet (dCB fTuple (dCons (dFz (dComp (dRng1 (dCons (dCB fLen (dCons (dVar 0) (dNil))) (dNil))) (gNm 2) (dB (dOp fEq (dOp fIx (dVar 0) (dVar 2)) (dVar 1))) (dTup (dCons (dC (.int 0)) (dCons (dVar 2) (dNil)))) [2])) (dNil)))
theorem rx__law_shape_of : ∃ r : dFn, r = fnT 3 t__law_shape_of := ⟨_, rfl⟩
@[irreducible] noncomputable def rd__law_shape_of : dFn := rx__law_shape_of.choose
theorem rd__law_shape_of_is : rd__law_shape_of = fnT 3 t__law_shape_of := by unfold rd__law_shape_of; exact rx__law_shape_of.choose_spec
theorem cal__law_shape_of {P : Program} {w : World} {K : PySem.W.Frag} {mg : Str → Option Value} {base : Heap} {f : Addr} {fd : FuncData} (F : FnP K "_law_shape_of" s__law_shape_of f fd) (m : mg "_law_shape_of" = some (.ref f)) (z_len : mg "len" = none) (z_range : mg "range" = none) (z_tuple : mg "tuple" = none) : Cal P w K mg base "_law_shape_of" 1 2 ps__law_shape_of rd__law_shape_of :=
  by
  rw [rd__law_shape_of_is]
  exact ⟨f, fd, fn_dD F sc__law_shape_of (by decide) (fun cdv A outer s H E hr => (dss_one (ds_ret (de_callT c_tuple z_tuple rfl (by decide +kernel) (da_cons (de_fz (df_comp (own := [("at", 2)]) rfl sc__law_shape_of.nd (blkOk_by (own := [("at", 2)]) (N := nm__law_shape_of) (sc := defScope s__law_shape_of) (by decide +kernel)) (fun _ _ _ _ _ => (dg_nm (i := 2) sc__law_shape_of.nd rfl (.inl rfl) (.inr rfl))) (di_rng1 z_range rfl (da_cons (de_callB c_len z_len rfl (by decide +kernel) (da_cons (de_var (pv 0 rfl (.inr (.inl lk__law_shape_of_0)))) da_nil)) da_nil)) (fun _ _ _ _ _ => (dts_one (dt_cmp (o_eq (u64 hr)) (de_ix (u1 hr) (de_var (pv 0 rfl (.inr (.inl rfl)))) (de_var (pv 2 rfl (.inl rfl)))) (de_var (pv 1 rfl (.inr (.inl rfl))))))) (fun _ _ _ _ _ => (de_tup (da_cons de_int (da_cons (de_var (pv 2 rfl (.inl rfl))) da_nil)))))) da_nil))))), m, F.kp, (F.bindsN fun _ _ _ _ _ _ us hl => match us, hl with | [_, _], _ => rfl)⟩
/-! ### _law_row_of -/
abbrev s__law_row_of : Stmt := top 33
abbrev nm__law_row_of : List Str := ["mask", "sign"]
abbrev ps__law_row_of : List Str := ["mask"]
theorem sc__law_row_of : FnScope nm__law_row_of ps__law_row_of (defScope s__law_row_of) := ⟨rfl, rfl, rfl, by decide +kernel, rfl, by decide +kernel, by decide +kernel⟩
theorem lk__law_row_of_0 : (defScope s__law_row_of).names.lookup ("mask" : Str) = some NameKind.local := by decide +kernel
noncomputable def t__law_row_of : dTS := dRet (dBM "str" fJoin (dC (.str (Str.ofString ""))) (dCons (dFz (dComp (dItV (dVar 0)) (gNm 1) (dYes) (dIfE (dB (dOp fEq (dVar 1) (dC (.str (Str.ofString "x"))))) (dC (.str (Str.ofString "+"))) (dC (.str (Str.ofString "-")))) [1])) (dNil)))
theorem rx__law_row_of : ∃ r : dFn, r = fnT 2 t__law_row_of := ⟨_, rfl⟩
@[irreducible] noncomputable def rd__law_row_of : dFn := rx__law_row_of.choose
theorem rd__law_row_of_is : rd__law_row_of = fnT 2 t__law_row_of := by unfold rd__law_row_of; exact rx__law_row_of.choose_spec
theorem cal__law_row_of {P : Program} {w : World} {K : PySem.W.Frag} {mg : Str → Option Value} {base : Heap} {f : Addr} {fd : FuncData} (F : FnP K "_law_row_of" s__law_row_of f fd) (m : mg "_law_row_of" = some (.ref f)) : Cal P w K mg base "_law_row_of" 1 1 ps__law_row_of rd__law_row_of :=
  by
  rw [rd__law_row_of_is]
  exact ⟨f, fd, fn_dD F sc__law_row_of (by decide) (fun cdv A outer s H E hr => (dss_one (ds_ret (de_bm m_join (.inl rfl) PySem.F.plainAttrs_str PySem.F.slot_str_join PySem.F.type_str_join de_str (da_cons (de_fz (df_comp (own := [("sign", 1)]) rfl sc__law_row_of.nd (blkOk_by (own := [("sign", 1)]) (N := nm__law_row_of) (sc := defScope s__law_row_of) (by decide +kernel)) (fun _ _ _ _ _ => (dg_nm (i := 1) sc__law_row_of.nd rfl (.inl rfl) (.inr rfl))) (di_any (de_var (pv 0 rfl (.inl lk__law_row_of_0)))) (fun _ _ _ _ _ => dts_nil) (fun _ _ _ _ _ => (de_ifExp (dt_cmp (o_eq (u64 hr)) (de_var (pv 1 rfl (.inl rfl))) de_str) de_str de_str)))) da_nil))))), m, F.kp, (F.bindsN fun _ _ _ _ _ _ us hl => match us, hl with | [_], _ => rfl)⟩
/-! ### _law_echoes_fine -/
abbrev s__law_echoes_fine : Stmt := top 34
abbrev nm__law_echoes_fine : List Str := ["mask", "n", "shape", "rest", "row", "slits", "k", "due", "alike", "whole", "loud", "told", "same", "sums"]
abbrev ps__law_echoes_fine : List Str := ["mask"]
theorem sc__law_echoes_fine : FnScope nm__law_echoes_fine ps__law_echoes_fine (defScope s__law_echoes_fine) := ⟨rfl, rfl, rfl, by decide +kernel, rfl, by decide +kernel, by decide +kernel⟩
theorem lk__law_echoes_fine_0 : (defScope s__law_echoes_fine).names.lookup ("mask" : Str) = some NameKind.cell := by decide +kernel
theorem lk__law_echoes_fine_1 : (defScope s__law_echoes_fine).names.lookup ("n" : Str) = some NameKind.cell := by decide +kernel
theorem lk__law_echoes_fine_2 : (defScope s__law_echoes_fine).names.lookup ("shape" : Str) = some NameKind.local := by decide +kernel
theorem lk__law_echoes_fine_3 : (defScope s__law_echoes_fine).names.lookup ("rest" : Str) = some NameKind.local := by decide +kernel
theorem lk__law_echoes_fine_4 : (defScope s__law_echoes_fine).names.lookup ("row" : Str) = some NameKind.cell := by decide +kernel
theorem lk__law_echoes_fine_5 : (defScope s__law_echoes_fine).names.lookup ("slits" : Str) = some NameKind.local := by decide +kernel
theorem lk__law_echoes_fine_6 : (defScope s__law_echoes_fine).names.lookup ("k" : Str) = some NameKind.local := by decide +kernel
theorem lk__law_echoes_fine_7 : (defScope s__law_echoes_fine).names.lookup ("due" : Str) = some NameKind.local := by decide +kernel
theorem lk__law_echoes_fine_8 : (defScope s__law_echoes_fine).names.lookup ("alike" : Str) = some NameKind.local := by decide +kernel
theorem lk__law_echoes_fine_9 : (defScope s__law_echoes_fine).names.lookup ("whole" : Str) = some NameKind.local := by decide +kernel
theorem lk__law_echoes_fine_10 : (defScope s__law_echoes_fine).names.lookup ("loud" : Str) = some NameKind.local := by decide +kernel
theorem lk__law_echoes_fine_11 : (defScope s__law_echoes_fine).names.lookup ("told" : Str) = some NameKind.local := by decide +kernel
theorem lk__law_echoes_fine_12 : (defScope s__law_echoes_fine).names.lookup ("same" : Str) = some NameKind.local := by decide +kernel
theorem lk__law_echoes_fine_13 : (defScope s__law_echoes_fine).names.lookup ("sums" : Str) = some NameKind.local := by decide +kernel
noncomputable def t__law_echoes_fine : dTS := dSeq (dAsg (dTup (dCons (dCB fLen (dCons (dVar 0) (dNil))) (dCons (dCall 2 (rd__law_shape_of) (dCons (dVar 0) (dCons (dC (.str (Str.ofString "x"))) (dNil)))) (dCons (dCall 2 (rd__law_shape_of) (dCons (dVar 0) (dCons (dC (.str (Str.ofString "."))) (dNil)))) (dNil))))) (gTp (gsCons (gNm 1) (gsCons (gNm 2) (gsCons (gNm 3) (gsNil))))))
    (dSeq (dAsg (dTup (dCons (dCall 1 (rd__law_row_of) (dCons (dVar 0) (dNil))) (dCons (dCB fLen (dCons (dCall 2 (rd__law_shape_of) (dCons (dVar 0) (dCons (dC (.str (Str.ofString "x"))) (dNil)))) (dNil))) (dNil)))) (gTp (gsCons (gNm 4) (gsCons (gNm 5) (gsNil)))))
    (dSeq (dFor (dRng1 (dCons (dVar 1) (dNil))) (gNm 6) (dSeq (dSet 7 (dOp fAdd (dCall 4 (rd_agreement) (dCons (dVar 2) (dCons (dVar 2) (dCons (dC (.int 0)) (dCons (dVar 6) (dNil)))))) (dIfE (dB (dOp fGt (dVar 6) (dC (.int 0)))) (dCall 4 (rd_agreement) (dCons (dVar 2) (dCons (dVar 2) (dCons (dC (.int 0)) (dCons (dOp fSub (dVar 6) (dVar 1)) (dNil)))))) (dC (.int 0)))))
    (dSeq (dIfS (dNot (dB (dCall 2 (rd__law_is 6) (dCons (dCall 2 (rd_echo) (dCons (dVar 0) (dCons (dVar 6) (dNil)))) (dCons (dVar 7) (dNil)))))) (dRet (dC (.bool false))) (dNext))
    (dSeq (dSet 8 (dOp fAdd (dCall 4 (rd_agreement) (dCons (dVar 2) (dCons (dVar 2) (dCons (dC (.int 0)) (dCons (dVar 6) (dNil)))))) (dCall 4 (rd_agreement) (dCons (dVar 3) (dCons (dVar 3) (dCons (dC (.int 0)) (dCons (dVar 6) (dNil))))))))
    (dSeq (dIfS (dNot (dB (dCall 2 (rd__law_is 6) (dCons (dCall 2 (rd_sign_echo) (dCons (dVar 4) (dCons (dVar 6) (dNil)))) (dCons (dOp fSub (dOp fMulA (dC (.int 2)) (dVar 8)) (dOp fSub (dVar 1) (dVar 6))) (dNil)))))) (dRet (dC (.bool false))) (dNext))
    (dSeq (dIfS (dAnd (dB (dOp fGt (dVar 6) (dC (.int 0)))) (dB (dOp fNe (dOp fAdd (dCall 2 (rd_sign_echo) (dCons (dVar 4) (dCons (dVar 6) (dNil)))) (dCall 2 (rd_sign_echo) (dCons (dVar 4) (dCons (dOp fSub (dVar 1) (dVar 6)) (dNil))))) (dOp fSub (dVar 1) (dOp fMulA (dC (.int 4)) (dOp fSub (dVar 5) (dCall 2 (rd_echo) (dCons (dVar 0) (dCons (dVar 6) (dNil)))))))))) (dRet (dC (.bool false))) (dNext))
    (dIfS (dNot (dB (dCall 2 (rd__law_is 6) (dCons (dCall 2 (rd_echo) (dCons (dCall 1 (rd_other_mask) (dCons (dVar 0) (dNil))) (dCons (dVar 6) (dNil)))) (dCons (dOp fAdd (dOp fSub (dVar 1) (dOp fMulA (dC (.int 2)) (dVar 5))) (dCall 2 (rd_echo) (dCons (dVar 0) (dCons (dVar 6) (dNil))))) (dNil)))))) (dRet (dC (.bool false))) (dNext))))))))
    (dSeq (dSet 9 (dCB fSumA (dCons (dFz (dComp (dRng2 (dCons (dC (.int 1)) (dCons (dVar 1) (dNil)))) (gNm 6) (dYes) (dCall 2 (rd_sign_echo) (dCons (dVar 4) (dCons (dVar 6) (dNil)))) [6])) (dNil))))
    (dSeq (dIfS (dOr (dB (dOp fNe (dOp fMulA (dC (.int 2)) (dVar 9)) (dOp fSub (dOp fMulA (dOp fSub (dOp fMulA (dC (.int 2)) (dVar 5)) (dVar 1)) (dOp fSub (dOp fMulA (dC (.int 2)) (dVar 5)) (dVar 1))) (dVar 1)))) (dB (dOp fNe (dCB fSumA (dCons (dFz (dComp (dRng1 (dCons (dVar 1) (dNil))) (gNm 6) (dYes) (dCall 2 (rd_echo) (dCons (dVar 0) (dCons (dVar 6) (dNil)))) [6])) (dNil))) (dOp fMulA (dVar 5) (dVar 5))))) (dRet (dC (.bool false))) (dNext))
    (dSeq (dSet 10 (dFz (dComp (dRng2 (dCons (dC (.int 1)) (dCons (dVar 1) (dNil)))) (gNm 6) (dB (dOp fGt (dCB fAbs (dCons (dCall 2 (rd_sign_echo) (dCons (dVar 4) (dCons (dVar 6) (dNil)))) (dNil))) (dC (.int 1)))) (dVar 6) [6])))
    (dSeq (dSet 11 (dTup (dCons (dCall 1 (rd_told_loud) (dCons (dVar 4) (dNil))) (dCons (dCall 1 (rd_has_small_echoes) (dCons (dVar 4) (dNil))) (dCons (dCall 1 (rd_is_flat) (dCons (dVar 0) (dNil))) (dNil))))))
    (dSeq (dSet 12 (dOp fLt (dLenSet (dFz (dComp (dRng2 (dCons (dC (.int 1)) (dCons (dVar 1) (dNil)))) (gNm 6) (dYes) (dCall 2 (rd_echo) (dCons (dVar 0) (dCons (dVar 6) (dNil)))) [6]))) (dC (.int 2))))
    (dSeq (dIfS (dNot (dB (dCall 2 (rd__law_is 6) (dCons (dVar 11) (dCons (dTup (dCons (dIfE (dB (dOp fGt (dCB fLen (dCons (dVar 10) (dNil))) (dC (.int 0)))) (dOp fIx (dVar 10) (dC (.int 0))) (dC .none)) (dCons (dOp fEq (dCB fLen (dCons (dVar 10) (dNil))) (dC (.int 0))) (dCons (dVar 12) (dNil))))) (dNil)))))) (dRet (dC (.bool false))) (dNext))
    (dSeq (dSet 13 (dFz (dComp (dRng2 (dCons (dC (.int 1)) (dCons (dVar 1) (dNil)))) (gNm 6) (dYes) (dOp fAdd (dCall 2 (rd_sign_echo) (dCons (dVar 4) (dCons (dVar 6) (dNil)))) (dCall 2 (rd_sign_echo) (dCons (dVar 4) (dCons (dOp fSub (dVar 1) (dVar 6)) (dNil))))) [6])))
    (dRet (dOp fEq (dOp fLt (dLenSet (dVar 13)) (dC (.int 2))) (dVar 12))))))))))))
theorem rx__law_echoes_fine : ∃ r : dFn, r = fnT 14 t__law_echoes_fine := ⟨_, rfl⟩
@[irreducible] noncomputable def rd__law_echoes_fine : dFn := rx__law_echoes_fine.choose
theorem rd__law_echoes_fine_is : rd__law_echoes_fine = fnT 14 t__law_echoes_fine := by unfold rd__law_echoes_fine; exact rx__law_echoes_fine.choose_spec
theorem cal__law_echoes_fine {P : Program} {w : World} {K : PySem.W.Frag} {mg : Str → Option Value} {base : Heap} {f : Addr} {fd : FuncData} (F : FnP K "_law_echoes_fine" s__law_echoes_fine f fd) (m : mg "_law_echoes_fine" = some (.ref f)) (C__law_is : Cal P w K mg base "_law_is" 7 2 ps__law_is (rd__law_is 6)) (C__law_row_of : Cal P w K mg base "_law_row_of" 1 1 ps__law_row_of (rd__law_row_of)) (C__law_shape_of : Cal P w K mg base "_law_shape_of" 1 2 ps__law_shape_of (rd__law_shape_of)) (C_agreement : Cal P w K mg base "agreement" 2 4 ps_agreement (rd_agreement)) (C_echo : Cal P w K mg base "echo" 1 2 ps_echo (rd_echo)) (C_has_small_echoes : Cal P w K mg base "has_small_echoes" 3 1 ps_has_small_echoes (rd_has_small_echoes)) (C_is_flat : Cal P w K mg base "is_flat" 3 1 ps_is_flat (rd_is_flat)) (C_other_mask : Cal P w K mg base "other_mask" 1 1 ps_other_mask (rd_other_mask)) (C_sign_echo : Cal P w K mg base "sign_echo" 1 2 ps_sign_echo (rd_sign_echo)) (C_told_loud : Cal P w K mg base "told_loud" 2 1 ps_told_loud (rd_told_loud)) (z_abs : mg "abs" = none) (z_len : mg "len" = none) (z_range : mg "range" = none) (z_set : mg "set" = none) (z_sum : mg "sum" = none) : Cal P w K mg base "_law_echoes_fine" 8 1 ps__law_echoes_fine rd__law_echoes_fine :=
  by
  rw [rd__law_echoes_fine_is]
  exact ⟨f, fd, fn_dD F sc__law_echoes_fine (by decide) (fun cdv A outer s H E hr => (dss_cons (ds_asg (vs := [1, 2, 3]) (dg_tp rfl (dgs_cons (dg_nm (i := 1) sc__law_echoes_fine.nd rfl (.inr lk__law_echoes_fine_1) (.inl rfl)) (dgs_cons (dg_nm (i := 2) sc__law_echoes_fine.nd rfl (.inl lk__law_echoes_fine_2) (.inl rfl)) (dgs_cons (dg_nm (i := 3) sc__law_echoes_fine.nd rfl (.inl lk__law_echoes_fine_3) (.inl rfl)) dgs_nil (mono_nm _)) (mono_nm _)) (mono_nm _))) (de_tup (da_cons (de_callB c_len z_len rfl (by decide +kernel) (da_cons (de_var (pv 0 rfl (.inr (.inl lk__law_echoes_fine_0)))) da_nil)) (da_cons (de_cal C__law_shape_of (hr.mono (by omega)) rfl (da_cons (de_var (pv 0 rfl (.inr (.inl lk__law_echoes_fine_0)))) (da_cons de_str da_nil))) (da_cons (de_cal C__law_shape_of (hr.mono (by omega)) rfl (da_cons (de_var (pv 0 rfl (.inr (.inl lk__law_echoes_fine_0)))) (da_cons de_str da_nil))) da_nil)))))
      (dss_cons (ds_asg (vs := [4, 5]) (dg_tp rfl (dgs_cons (dg_nm (i := 4) sc__law_echoes_fine.nd rfl (.inr lk__law_echoes_fine_4) (.inl rfl)) (dgs_cons (dg_nm (i := 5) sc__law_echoes_fine.nd rfl (.inl lk__law_echoes_fine_5) (.inl rfl)) dgs_nil (mono_nm _)) (mono_nm _))) (de_tup (da_cons (de_cal C__law_row_of (hr.mono (by omega)) rfl (da_cons (de_var (pv 0 rfl (.inr (.inl lk__law_echoes_fine_0)))) da_nil)) (da_cons (de_callB c_len z_len rfl (by decide +kernel) (da_cons (de_cal C__law_shape_of (hr.mono (by omega)) rfl (da_cons (de_var (pv 0 rfl (.inr (.inl lk__law_echoes_fine_0)))) (da_cons de_str da_nil))) da_nil)) da_nil))))
      (dss_cons (ds_for (vs := [6]) PassesOwn.never rfl (dg_nm (i := 6) sc__law_echoes_fine.nd rfl (.inl lk__law_echoes_fine_6) (.inl rfl)) (di_rng1 z_range rfl (da_cons (de_var (pv 1 rfl (.inr (.inl lk__law_echoes_fine_1)))) da_nil)) (dss_cons (ds_set (i := 7) sc__law_echoes_fine.nd rfl (.inl lk__law_echoes_fine_7) (de_op o_add (de_cal C_agreement (hr.mono (by omega)) rfl (da_cons (de_var (pv 2 rfl (.inl lk__law_echoes_fine_2))) (da_cons (de_var (pv 2 rfl (.inl lk__law_echoes_fine_2))) (da_cons de_int (da_cons (de_var (pv 6 rfl (.inl lk__law_echoes_fine_6))) da_nil))))) (de_ifExp (dt_cmp o_gt (de_var (pv 6 rfl (.inl lk__law_echoes_fine_6))) de_int) (de_cal C_agreement (hr.mono (by omega)) rfl (da_cons (de_var (pv 2 rfl (.inl lk__law_echoes_fine_2))) (da_cons (de_var (pv 2 rfl (.inl lk__law_echoes_fine_2))) (da_cons de_int (da_cons (de_op o_sub (de_var (pv 6 rfl (.inl lk__law_echoes_fine_6))) (de_var (pv 1 rfl (.inr (.inl lk__law_echoes_fine_1))))) da_nil))))) de_int)) (.inl rfl))
      (dss_cons (ds_if (dt_not (dt_val (de_cal C__law_is (hr.mono (by omega)) rfl (da_cons (de_cal C_echo (hr.mono (by omega)) rfl (da_cons (de_var (pv 0 rfl (.inr (.inl lk__law_echoes_fine_0)))) (da_cons (de_var (pv 6 rfl (.inl lk__law_echoes_fine_6))) da_nil))) (da_cons (de_var (pv 7 rfl (.inl lk__law_echoes_fine_7))) da_nil))))) (dss_one (ds_ret de_bl)) dss_nil)
      (dss_cons (ds_set (i := 8) sc__law_echoes_fine.nd rfl (.inl lk__law_echoes_fine_8) (de_op o_add (de_cal C_agreement (hr.mono (by omega)) rfl (da_cons (de_var (pv 2 rfl (.inl lk__law_echoes_fine_2))) (da_cons (de_var (pv 2 rfl (.inl lk__law_echoes_fine_2))) (da_cons de_int (da_cons (de_var (pv 6 rfl (.inl lk__law_echoes_fine_6))) da_nil))))) (de_cal C_agreement (hr.mono (by omega)) rfl (da_cons (de_var (pv 3 rfl (.inl lk__law_echoes_fine_3))) (da_cons (de_var (pv 3 rfl (.inl lk__law_echoes_fine_3))) (da_cons de_int (da_cons (de_var (pv 6 rfl (.inl lk__law_echoes_fine_6))) da_nil)))))) (.inl rfl))
      (dss_cons (ds_if (dt_not (dt_val (de_cal C__law_is (hr.mono (by omega)) rfl (da_cons (de_cal C_sign_echo (hr.mono (by omega)) rfl (da_cons (de_var (pv 4 rfl (.inr (.inl lk__law_echoes_fine_4)))) (da_cons (de_var (pv 6 rfl (.inl lk__law_echoes_fine_6))) da_nil))) (da_cons (de_op o_sub (de_op o_mulA de_int (de_var (pv 8 rfl (.inl lk__law_echoes_fine_8)))) (de_op o_sub (de_var (pv 1 rfl (.inr (.inl lk__law_echoes_fine_1)))) (de_var (pv 6 rfl (.inl lk__law_echoes_fine_6))))) da_nil))))) (dss_one (ds_ret de_bl)) dss_nil)
      (dss_cons (ds_if (dw_pt (dw_and (dt_cmp o_gt (de_var (pv 6 rfl (.inl lk__law_echoes_fine_6))) de_int) (dw_and1 (dt_cmp (o_ne (u64 hr)) (de_op o_add (de_cal C_sign_echo (hr.mono (by omega)) rfl (da_cons (de_var (pv 4 rfl (.inr (.inl lk__law_echoes_fine_4)))) (da_cons (de_var (pv 6 rfl (.inl lk__law_echoes_fine_6))) da_nil))) (de_cal C_sign_echo (hr.mono (by omega)) rfl (da_cons (de_var (pv 4 rfl (.inr (.inl lk__law_echoes_fine_4)))) (da_cons (de_op o_sub (de_var (pv 1 rfl (.inr (.inl lk__law_echoes_fine_1)))) (de_var (pv 6 rfl (.inl lk__law_echoes_fine_6)))) da_nil)))) (de_op o_sub (de_var (pv 1 rfl (.inr (.inl lk__law_echoes_fine_1)))) (de_op o_mulA de_int (de_op o_sub (de_var (pv 5 rfl (.inl lk__law_echoes_fine_5))) (de_cal C_echo (hr.mono (by omega)) rfl (da_cons (de_var (pv 0 rfl (.inr (.inl lk__law_echoes_fine_0)))) (da_cons (de_var (pv 6 rfl (.inl lk__law_echoes_fine_6))) da_nil)))))))))) (dss_one (ds_ret de_bl)) dss_nil)
      (dss_one (ds_if (dt_not (dt_val (de_cal C__law_is (hr.mono (by omega)) rfl (da_cons (de_cal C_echo (hr.mono (by omega)) rfl (da_cons (de_cal C_other_mask (hr.mono (by omega)) rfl (da_cons (de_var (pv 0 rfl (.inr (.inl lk__law_echoes_fine_0)))) da_nil)) (da_cons (de_var (pv 6 rfl (.inl lk__law_echoes_fine_6))) da_nil))) (da_cons (de_op o_add (de_op o_sub (de_var (pv 1 rfl (.inr (.inl lk__law_echoes_fine_1)))) (de_op o_mulA de_int (de_var (pv 5 rfl (.inl lk__law_echoes_fine_5))))) (de_cal C_echo (hr.mono (by omega)) rfl (da_cons (de_var (pv 0 rfl (.inr (.inl lk__law_echoes_fine_0)))) (da_cons (de_var (pv 6 rfl (.inl lk__law_echoes_fine_6))) da_nil)))) da_nil))))) (dss_one (ds_ret de_bl)) dss_nil))))))))
      (dss_cons (ds_set (i := 9) sc__law_echoes_fine.nd rfl (.inl lk__law_echoes_fine_9) (de_callB (c_sumA rfl) z_sum rfl (by decide +kernel) (da_cons (de_fz (df_comp (own := [("k", 6)]) rfl sc__law_echoes_fine.nd (blkOk_by (own := [("k", 6)]) (N := nm__law_echoes_fine) (sc := defScope s__law_echoes_fine) (by decide +kernel)) (fun _ _ _ _ _ => (dg_nm (i := 6) sc__law_echoes_fine.nd rfl (.inl rfl) (.inr rfl))) (di_rng2 z_range rfl (da_cons de_int (da_cons (de_var (pv 1 rfl (.inr (.inl lk__law_echoes_fine_1)))) da_nil))) (fun _ _ _ _ _ => dts_nil) (fun _ _ _ _ _ => (de_cal C_sign_echo (hr.mono (by omega)) rfl (da_cons (de_var (pv 4 rfl (.inr (.inl rfl)))) (da_cons (de_var (pv 6 rfl (.inl rfl))) da_nil)))))) da_nil)) (.inl rfl))
      (dss_cons (ds_if (dw_pt (dw_or (dt_cmp (o_ne (u64 hr)) (de_op o_mulA de_int (de_var (pv 9 rfl (.inl lk__law_echoes_fine_9)))) (de_op o_sub (de_op o_mulA (de_op o_sub (de_op o_mulA de_int (de_var (pv 5 rfl (.inl lk__law_echoes_fine_5)))) (de_var (pv 1 rfl (.inr (.inl lk__law_echoes_fine_1))))) (de_op o_sub (de_op o_mulA de_int (de_var (pv 5 rfl (.inl lk__law_echoes_fine_5)))) (de_var (pv 1 rfl (.inr (.inl lk__law_echoes_fine_1)))))) (de_var (pv 1 rfl (.inr (.inl lk__law_echoes_fine_1)))))) (dw_or1 (dt_cmp (o_ne (u64 hr)) (de_callB (c_sumA rfl) z_sum rfl (by decide +kernel) (da_cons (de_fz (df_comp (own := [("k", 6)]) rfl sc__law_echoes_fine.nd (blkOk_by (own := [("k", 6)]) (N := nm__law_echoes_fine) (sc := defScope s__law_echoes_fine) (by decide +kernel)) (fun _ _ _ _ _ => (dg_nm (i := 6) sc__law_echoes_fine.nd rfl (.inl rfl) (.inr rfl))) (di_rng1 z_range rfl (da_cons (de_var (pv 1 rfl (.inr (.inl lk__law_echoes_fine_1)))) da_nil)) (fun _ _ _ _ _ => dts_nil) (fun _ _ _ _ _ => (de_cal C_echo (hr.mono (by omega)) rfl (da_cons (de_var (pv 0 rfl (.inr (.inl rfl)))) (da_cons (de_var (pv 6 rfl (.inl rfl))) da_nil)))))) da_nil)) (de_op o_mulA (de_var (pv 5 rfl (.inl lk__law_echoes_fine_5))) (de_var (pv 5 rfl (.inl lk__law_echoes_fine_5)))))))) (dss_one (ds_ret de_bl)) dss_nil)
      (dss_cons (ds_setLc (i := 10) (own := [("k", 6)]) rfl sc__law_echoes_fine.nd rfl lk__law_echoes_fine_10 (sw_true rfl lk__law_echoes_fine_10 (by decide +kernel) (by decide +kernel)) (blkOk_by (own := [("k", 6)]) (N := nm__law_echoes_fine) (sc := defScope s__law_echoes_fine) (by decide +kernel)) (fun _ _ _ _ _ => (dg_nm (i := 6) sc__law_echoes_fine.nd rfl (.inl rfl) (.inr rfl))) (di_rng2 z_range rfl (da_cons de_int (da_cons (de_var (pv 1 rfl (.inr (.inl lk__law_echoes_fine_1)))) da_nil))) (fun _ _ _ _ _ => (dts_one (dt_cmp o_gt (de_callB c_abs z_abs rfl (by decide +kernel) (da_cons (de_cal C_sign_echo (hr.mono (by omega)) rfl (da_cons (de_var (pv 4 rfl (.inr (.inl rfl)))) (da_cons (de_var (pv 6 rfl (.inl rfl))) da_nil))) da_nil)) de_int))) (fun _ _ _ _ _ => (de_var (pv 6 rfl (.inl rfl)))))
      (dss_cons (ds_set (i := 11) sc__law_echoes_fine.nd rfl (.inl lk__law_echoes_fine_11) (de_tup (da_cons (de_cal C_told_loud (hr.mono (by omega)) rfl (da_cons (de_var (pv 4 rfl (.inr (.inl lk__law_echoes_fine_4)))) da_nil)) (da_cons (de_cal C_has_small_echoes (hr.mono (by omega)) rfl (da_cons (de_var (pv 4 rfl (.inr (.inl lk__law_echoes_fine_4)))) da_nil)) (da_cons (de_cal C_is_flat (hr.mono (by omega)) rfl (da_cons (de_var (pv 0 rfl (.inr (.inl lk__law_echoes_fine_0)))) da_nil)) da_nil)))) (.inl rfl))
      (dss_cons (ds_set (i := 12) sc__law_echoes_fine.nd rfl (.inl lk__law_echoes_fine_12) (de_cmp o_lt (de_lenSet rfl rfl z_len rfl z_set (de_fz (df_comp (own := [("k", 6)]) rfl sc__law_echoes_fine.nd (blkOk_by (own := [("k", 6)]) (N := nm__law_echoes_fine) (sc := defScope s__law_echoes_fine) (by decide +kernel)) (fun _ _ _ _ _ => (dg_nm (i := 6) sc__law_echoes_fine.nd rfl (.inl rfl) (.inr rfl))) (di_rng2 z_range rfl (da_cons de_int (da_cons (de_var (pv 1 rfl (.inr (.inl lk__law_echoes_fine_1)))) da_nil))) (fun _ _ _ _ _ => dts_nil) (fun _ _ _ _ _ => (de_cal C_echo (hr.mono (by omega)) rfl (da_cons (de_var (pv 0 rfl (.inr (.inl rfl)))) (da_cons (de_var (pv 6 rfl (.inl rfl))) da_nil))))))) de_int) (.inl rfl))
      (dss_cons (ds_if (dt_not (dt_val (de_cal C__law_is (hr.mono (by omega)) rfl (da_cons (de_var (pv 11 rfl (.inl lk__law_echoes_fine_11))) (da_cons (de_tup (da_cons (de_ifExp (dt_cmp o_gt (de_callB c_len z_len rfl (by decide +kernel) (da_cons (de_var (pv 10 rfl (.inl lk__law_echoes_fine_10))) da_nil)) de_int) (de_ix (u1 hr) (de_var (pv 10 rfl (.inl lk__law_echoes_fine_10))) de_int) de_non) (da_cons (de_cmp (o_eq (u64 hr)) (de_callB c_len z_len rfl (by decide +kernel) (da_cons (de_var (pv 10 rfl (.inl lk__law_echoes_fine_10))) da_nil)) de_int) (da_cons (de_var (pv 12 rfl (.inl lk__law_echoes_fine_12))) da_nil)))) da_nil))))) (dss_one (ds_ret de_bl)) dss_nil)
      (dss_cons (ds_setLc (i := 13) (own := [("k", 6)]) rfl sc__law_echoes_fine.nd rfl lk__law_echoes_fine_13 (sw_true rfl lk__law_echoes_fine_13 (by decide +kernel) (by decide +kernel)) (blkOk_by (own := [("k", 6)]) (N := nm__law_echoes_fine) (sc := defScope s__law_echoes_fine) (by decide +kernel)) (fun _ _ _ _ _ => (dg_nm (i := 6) sc__law_echoes_fine.nd rfl (.inl rfl) (.inr rfl))) (di_rng2 z_range rfl (da_cons de_int (da_cons (de_var (pv 1 rfl (.inr (.inl lk__law_echoes_fine_1)))) da_nil))) (fun _ _ _ _ _ => dts_nil) (fun _ _ _ _ _ => (de_op o_add (de_cal C_sign_echo (hr.mono (by omega)) rfl (da_cons (de_var (pv 4 rfl (.inr (.inl rfl)))) (da_cons (de_var (pv 6 rfl (.inl rfl))) da_nil))) (de_cal C_sign_echo (hr.mono (by omega)) rfl (da_cons (de_var (pv 4 rfl (.inr (.inl rfl)))) (da_cons (de_op o_sub (de_var (pv 1 rfl (.inr (.inl rfl)))) (de_var (pv 6 rfl (.inl rfl)))) da_nil))))))
      (dss_one (ds_ret (de_cmp (o_eq (u64 hr)) (de_cmp o_lt (de_lenSet rfl rfl z_len rfl z_set (de_var (pv 13 rfl (.inl lk__law_echoes_fine_13)))) de_int) (de_var (pv 12 rfl (.inl lk__law_echoes_fine_12))))))))))))))))), m, F.kp, (F.bindsN fun _ _ _ _ _ _ us hl => match us, hl with | [_], _ => rfl)⟩
/-! ### _law_kin_fine -/
abbrev s__law_kin_fine : Stmt := top 35
abbrev nm__law_kin_fine : List Str := ["hand", "mask", "n", "row", "turned", "other", "odd", "k", "told", "at"]
abbrev ps__law_kin_fine : List Str := ["hand", "mask"]
theorem sc__law_kin_fine : FnScope nm__law_kin_fine ps__law_kin_fine (defScope s__law_kin_fine) := ⟨rfl, rfl, rfl, by decide +kernel, rfl, by decide +kernel, by decide +kernel⟩
theorem lk__law_kin_fine_0 : (defScope s__law_kin_fine).names.lookup ("hand" : Str) = some NameKind.local := by decide +kernel
theorem lk__law_kin_fine_1 : (defScope s__law_kin_fine).names.lookup ("mask" : Str) = some NameKind.local := by decide +kernel
theorem lk__law_kin_fine_2 : (defScope s__law_kin_fine).names.lookup ("n" : Str) = some NameKind.local := by decide +kernel
theorem lk__law_kin_fine_3 : (defScope s__law_kin_fine).names.lookup ("row" : Str) = some NameKind.cell := by decide +kernel
theorem lk__law_kin_fine_4 : (defScope s__law_kin_fine).names.lookup ("turned" : Str) = some NameKind.local := by decide +kernel
theorem lk__law_kin_fine_5 : (defScope s__law_kin_fine).names.lookup ("other" : Str) = some NameKind.local := by decide +kernel
theorem lk__law_kin_fine_6 : (defScope s__law_kin_fine).names.lookup ("odd" : Str) = some NameKind.local := by decide +kernel
theorem lk__law_kin_fine_7 : (defScope s__law_kin_fine).names.lookup ("k" : Str) = some NameKind.local := by decide +kernel
theorem lk__law_kin_fine_8 : (defScope s__law_kin_fine).names.lookup ("told" : Str) = some NameKind.local := by decide +kernel
noncomputable def t__law_kin_fine : dTS := dSeq (dAsg (dTup (dCons (dCB fLen (dCons (dVar 1) (dNil))) (dCons (dCall 1 (rd__law_row_of) (dCons (dVar 1) (dNil))) (dNil)))) (gTp (gsCons (gNm 2) (gsCons (gNm 3) (gsNil)))))
    (dSeq (dPar 4 5 (dCons (dCall 2 (rd_wheel_turned) (dCons (dVar 1) (dCons (dOp fSub (dCall 2 (rd__law_take) (dCons (dVar 0) (dCons (dC (.int 30)) (dNil)))) (dC (.int 15))) (dNil)))) (dCons (dCall 1 (rd_other_mask) (dCons (dVar 1) (dNil))) (dNil))))
    (dSeq (dSet 6 (dBM "str" fJoin (dC (.str (Str.ofString ""))) (dCons (dFz (dComp (dRng1 (dCons (dVar 2) (dNil))) (gNm 9) (dYes) (dIfE (dB (dOp fEq (dOp fMod (dVar 9) (dC (.int 2))) (dC (.int 0)))) (dOp fIx (dVar 3) (dVar 9)) (dOp fIx (dDisp [((.inr (Str.ofString "+")), dC (.str (Str.ofString "-"))), ((.inr (Str.ofString "-")), dC (.str (Str.ofString "+")))]) (dOp fIx (dVar 3) (dVar 9)))) [9])) (dNil))))
    (dSeq (dFor (dRng1 (dCons (dVar 2) (dNil))) (gNm 7) (dSeq (dSet 8 (dTup (dCons (dCall 2 (rd_echo) (dCons (dVar 4) (dCons (dVar 7) (dNil)))) (dCons (dCall 2 (rd_echo) (dCons (dUn fRevA (dVar 1)) (dCons (dVar 7) (dNil)))) (dCons (dCall 2 (rd_echo) (dCons (dVar 1) (dCons (dOp fMod (dOp fSub (dVar 2) (dVar 7)) (dVar 2)) (dNil)))) (dNil))))))
    (dSeq (dIfS (dNot (dB (dCall 2 (rd__law_is 6) (dCons (dVar 8) (dCons (dOp fMulA (dTup (dCons (dCall 2 (rd_echo) (dCons (dVar 1) (dCons (dVar 7) (dNil)))) (dNil))) (dC (.int 3))) (dNil)))))) (dRet (dC (.bool false))) (dNext))
    (dSeq (dSet 8 (dTup (dCons (dCall 2 (rd_sign_echo) (dCons (dUn fRevA (dVar 3)) (dCons (dVar 7) (dNil)))) (dCons (dCall 2 (rd_sign_echo) (dCons (dCall 1 (rd__law_row_of) (dCons (dVar 5) (dNil))) (dCons (dVar 7) (dNil)))) (dCons (dCall 2 (rd_sign_echo) (dCons (dVar 6) (dCons (dVar 7) (dNil)))) (dNil))))))
    (dIfS (dNot (dB (dCall 2 (rd__law_is 6) (dCons (dVar 8) (dCons (dTup (dCons (dCall 2 (rd_sign_echo) (dCons (dVar 3) (dCons (dVar 7) (dNil)))) (dCons (dCall 2 (rd_sign_echo) (dCons (dVar 3) (dCons (dVar 7) (dNil)))) (dCons (dOp fMulA (dCall 2 (rd_sign_echo) (dCons (dVar 3) (dCons (dVar 7) (dNil)))) (dIfE (dB (dOp fEq (dOp fMod (dVar 7) (dC (.int 2))) (dC (.int 0)))) (dC (.int 1)) (dOp fSub (dC (.int 0)) (dC (.int 1))))) (dNil))))) (dNil)))))) (dRet (dC (.bool false))) (dNext))))))
    (dSeq (dSet 8 (dTup (dCons (dCall 1 (rd_is_flat) (dCons (dVar 4) (dNil))) (dCons (dCall 1 (rd_is_flat) (dCons (dVar 5) (dNil))) (dCons (dCall 1 (rd_is_flat) (dCons (dUn fRevA (dVar 1)) (dNil))) (dNil))))))
    (dSeq (dIfS (dOr (dNot (dB (dCall 2 (rd__law_is 6) (dCons (dVar 8) (dCons (dOp fMulA (dTup (dCons (dCall 1 (rd_is_flat) (dCons (dVar 1) (dNil))) (dNil))) (dC (.int 3))) (dNil)))))) (dNot (dB (dCall 2 (rd__law_is 6) (dCons (dCall 1 (rd_other_mask) (dCons (dVar 5) (dNil))) (dCons (dVar 1) (dNil))))))) (dRet (dC (.bool false))) (dNext))
    (dRet (dCall 2 (rd__law_is 6) (dCons (dTup (dCons (dCall 1 (rd_has_small_echoes) (dCons (dVar 6) (dNil))) (dCons (dCall 1 (rd_has_small_echoes) (dCons (dUn fRevA (dVar 3)) (dNil))) (dNil)))) (dCons (dOp fMulA (dTup (dCons (dCall 1 (rd_has_small_echoes) (dCons (dVar 3) (dNil))) (dNil))) (dC (.int 2))) (dNil))))))))))
theorem rx__law_kin_fine : ∃ r : dFn, r = fnT 10 t__law_kin_fine := ⟨_, rfl⟩
@[irreducible] noncomputable def rd__law_kin_fine : dFn := rx__law_kin_fine.choose
theorem rd__law_kin_fine_is : rd__law_kin_fine = fnT 10 t__law_kin_fine := by unfold rd__law_kin_fine; exact rx__law_kin_fine.choose_spec
theorem cal__law_kin_fine {P : Program} {w : World} {K : PySem.W.Frag} {mg : Str → Option Value} {base : Heap} {f : Addr} {fd : FuncData} (F : FnP K "_law_kin_fine" s__law_kin_fine f fd) (m : mg "_law_kin_fine" = some (.ref f)) (C__law_is : Cal P w K mg base "_law_is" 7 2 ps__law_is (rd__law_is 6)) (C__law_row_of : Cal P w K mg base "_law_row_of" 1 1 ps__law_row_of (rd__law_row_of)) (C__law_take : Cal P w K mg base "_law_take" 1 2 ps__law_take (rd__law_take)) (C_echo : Cal P w K mg base "echo" 1 2 ps_echo (rd_echo)) (C_has_small_echoes : Cal P w K mg base "has_small_echoes" 3 1 ps_has_small_echoes (rd_has_small_echoes)) (C_is_flat : Cal P w K mg base "is_flat" 3 1 ps_is_flat (rd_is_flat)) (C_other_mask : Cal P w K mg base "other_mask" 1 1 ps_other_mask (rd_other_mask)) (C_sign_echo : Cal P w K mg base "sign_echo" 1 2 ps_sign_echo (rd_sign_echo)) (C_wheel_turned : Cal P w K mg base "wheel_turned" 1 2 ps_wheel_turned (rd_wheel_turned)) (z_len : mg "len" = none) (z_range : mg "range" = none) : Cal P w K mg base "_law_kin_fine" 8 2 ps__law_kin_fine rd__law_kin_fine :=
  by
  rw [rd__law_kin_fine_is]
  exact ⟨f, fd, fn_dD F sc__law_kin_fine (by decide) (fun cdv A outer s H E hr => (dss_cons (ds_asg (vs := [2, 3]) (dg_tp rfl (dgs_cons (dg_nm (i := 2) sc__law_kin_fine.nd rfl (.inl lk__law_kin_fine_2) (.inl rfl)) (dgs_cons (dg_nm (i := 3) sc__law_kin_fine.nd rfl (.inr lk__law_kin_fine_3) (.inl rfl)) dgs_nil (mono_nm _)) (mono_nm _))) (de_tup (da_cons (de_callB c_len z_len rfl (by decide +kernel) (da_cons (de_var (pv 1 rfl (.inl lk__law_kin_fine_1))) da_nil)) (da_cons (de_cal C__law_row_of (hr.mono (by omega)) rfl (da_cons (de_var (pv 1 rfl (.inl lk__law_kin_fine_1))) da_nil)) da_nil))))
      (dss_cons (ds_par (i := 4) (j := 5) rfl sc__law_kin_fine.nd rfl rfl (by decide) lk__law_kin_fine_4 lk__law_kin_fine_5 (da_cons (de_cal C_wheel_turned (hr.mono (by omega)) rfl (da_cons (de_var (pv 1 rfl (.inl lk__law_kin_fine_1))) (da_cons (de_op o_sub (de_cal C__law_take (hr.mono (by omega)) rfl (da_cons (de_var (pv 0 rfl (.inl lk__law_kin_fine_0))) (da_cons de_int da_nil))) de_int) da_nil))) (da_cons (de_cal C_other_mask (hr.mono (by omega)) rfl (da_cons (de_var (pv 1 rfl (.inl lk__law_kin_fine_1))) da_nil)) da_nil)))
      (dss_cons (ds_set (i := 6) sc__law_kin_fine.nd rfl (.inl lk__law_kin_fine_6) (de_bm m_join (.inl rfl) PySem.F.plainAttrs_str PySem.F.slot_str_join PySem.F.type_str_join de_str (da_cons (de_fz (df_comp (own := [("at", 9)]) rfl sc__law_kin_fine.nd (blkOk_by (own := [("at", 9)]) (N := nm__law_kin_fine) (sc := defScope s__law_kin_fine) (by decide +kernel)) (fun _ _ _ _ _ => (dg_nm (i := 9) sc__law_kin_fine.nd rfl (.inl rfl) (.inr rfl))) (di_rng1 z_range rfl (da_cons (de_var (pv 2 rfl (.inl lk__law_kin_fine_2))) da_nil)) (fun _ _ _ _ _ => dts_nil) (fun _ _ _ _ _ => (de_ifExp (dt_cmp (o_eq (u64 hr)) (de_op o_mod (de_var (pv 9 rfl (.inl rfl))) de_int) de_int) (de_ix (u1 hr) (de_var (pv 3 rfl (.inr (.inl rfl)))) (de_var (pv 9 rfl (.inl rfl)))) (de_ix (u1 hr) (de_disp (ts := [((.inr (Str.ofString "+")), dC (.str (Str.ofString "-"))), ((.inr (Str.ofString "-")), dC (.str (Str.ofString "+")))]) (dps_cons pe_str de_str (dps_cons pe_str de_str dps_nil)) (by decide +kernel) (by decide) rfl rfl (by intro z; cases z) (by decide)) (de_ix (u1 hr) (de_var (pv 3 rfl (.inr (.inl rfl)))) (de_var (pv 9 rfl (.inl rfl))))))))) da_nil)) (.inl rfl))
      (dss_cons (ds_for (vs := [7]) PassesOwn.never rfl (dg_nm (i := 7) sc__law_kin_fine.nd rfl (.inl lk__law_kin_fine_7) (.inl rfl)) (di_rng1 z_range rfl (da_cons (de_var (pv 2 rfl (.inl lk__law_kin_fine_2))) da_nil)) (dss_cons (ds_set (i := 8) sc__law_kin_fine.nd rfl (.inl lk__law_kin_fine_8) (de_tup (da_cons (de_cal C_echo (hr.mono (by omega)) rfl (da_cons (de_var (pv 4 rfl (.inl lk__law_kin_fine_4))) (da_cons (de_var (pv 7 rfl (.inl lk__law_kin_fine_7))) da_nil))) (da_cons (de_cal C_echo (hr.mono (by omega)) rfl (da_cons (de_revA (de_var (pv 1 rfl (.inl lk__law_kin_fine_1)))) (da_cons (de_var (pv 7 rfl (.inl lk__law_kin_fine_7))) da_nil))) (da_cons (de_cal C_echo (hr.mono (by omega)) rfl (da_cons (de_var (pv 1 rfl (.inl lk__law_kin_fine_1))) (da_cons (de_op o_mod (de_op o_sub (de_var (pv 2 rfl (.inl lk__law_kin_fine_2))) (de_var (pv 7 rfl (.inl lk__law_kin_fine_7)))) (de_var (pv 2 rfl (.inl lk__law_kin_fine_2)))) da_nil))) da_nil)))) (.inl rfl))
      (dss_cons (ds_if (dt_not (dt_val (de_cal C__law_is (hr.mono (by omega)) rfl (da_cons (de_var (pv 8 rfl (.inl lk__law_kin_fine_8))) (da_cons (de_op o_mulA (de_tup (da_cons (de_cal C_echo (hr.mono (by omega)) rfl (da_cons (de_var (pv 1 rfl (.inl lk__law_kin_fine_1))) (da_cons (de_var (pv 7 rfl (.inl lk__law_kin_fine_7))) da_nil))) da_nil)) de_int) da_nil))))) (dss_one (ds_ret de_bl)) dss_nil)
      (dss_cons (ds_set (i := 8) sc__law_kin_fine.nd rfl (.inl lk__law_kin_fine_8) (de_tup (da_cons (de_cal C_sign_echo (hr.mono (by omega)) rfl (da_cons (de_revA (de_var (pv 3 rfl (.inr (.inl lk__law_kin_fine_3))))) (da_cons (de_var (pv 7 rfl (.inl lk__law_kin_fine_7))) da_nil))) (da_cons (de_cal C_sign_echo (hr.mono (by omega)) rfl (da_cons (de_cal C__law_row_of (hr.mono (by omega)) rfl (da_cons (de_var (pv 5 rfl (.inl lk__law_kin_fine_5))) da_nil)) (da_cons (de_var (pv 7 rfl (.inl lk__law_kin_fine_7))) da_nil))) (da_cons (de_cal C_sign_echo (hr.mono (by omega)) rfl (da_cons (de_var (pv 6 rfl (.inl lk__law_kin_fine_6))) (da_cons (de_var (pv 7 rfl (.inl lk__law_kin_fine_7))) da_nil))) da_nil)))) (.inl rfl))
      (dss_one (ds_if (dt_not (dt_val (de_cal C__law_is (hr.mono (by omega)) rfl (da_cons (de_var (pv 8 rfl (.inl lk__law_kin_fine_8))) (da_cons (de_tup (da_cons (de_cal C_sign_echo (hr.mono (by omega)) rfl (da_cons (de_var (pv 3 rfl (.inr (.inl lk__law_kin_fine_3)))) (da_cons (de_var (pv 7 rfl (.inl lk__law_kin_fine_7))) da_nil))) (da_cons (de_cal C_sign_echo (hr.mono (by omega)) rfl (da_cons (de_var (pv 3 rfl (.inr (.inl lk__law_kin_fine_3)))) (da_cons (de_var (pv 7 rfl (.inl lk__law_kin_fine_7))) da_nil))) (da_cons (de_op o_mulA (de_cal C_sign_echo (hr.mono (by omega)) rfl (da_cons (de_var (pv 3 rfl (.inr (.inl lk__law_kin_fine_3)))) (da_cons (de_var (pv 7 rfl (.inl lk__law_kin_fine_7))) da_nil))) (de_ifExp (dt_cmp (o_eq (u64 hr)) (de_op o_mod (de_var (pv 7 rfl (.inl lk__law_kin_fine_7))) de_int) de_int) de_int (de_op o_sub de_int de_int))) da_nil)))) da_nil))))) (dss_one (ds_ret de_bl)) dss_nil))))))
      (dss_cons (ds_set (i := 8) sc__law_kin_fine.nd rfl (.inl lk__law_kin_fine_8) (de_tup (da_cons (de_cal C_is_flat (hr.mono (by omega)) rfl (da_cons (de_var (pv 4 rfl (.inl lk__law_kin_fine_4))) da_nil)) (da_cons (de_cal C_is_flat (hr.mono (by omega)) rfl (da_cons (de_var (pv 5 rfl (.inl lk__law_kin_fine_5))) da_nil)) (da_cons (de_cal C_is_flat (hr.mono (by omega)) rfl (da_cons (de_revA (de_var (pv 1 rfl (.inl lk__law_kin_fine_1)))) da_nil)) da_nil)))) (.inl rfl))
      (dss_cons (ds_if (dw_pt (dw_or (dt_not (dt_val (de_cal C__law_is (hr.mono (by omega)) rfl (da_cons (de_var (pv 8 rfl (.inl lk__law_kin_fine_8))) (da_cons (de_op o_mulA (de_tup (da_cons (de_cal C_is_flat (hr.mono (by omega)) rfl (da_cons (de_var (pv 1 rfl (.inl lk__law_kin_fine_1))) da_nil)) da_nil)) de_int) da_nil))))) (dw_or1 (dt_not (dt_val (de_cal C__law_is (hr.mono (by omega)) rfl (da_cons (de_cal C_other_mask (hr.mono (by omega)) rfl (da_cons (de_var (pv 5 rfl (.inl lk__law_kin_fine_5))) da_nil)) (da_cons (de_var (pv 1 rfl (.inl lk__law_kin_fine_1))) da_nil)))))))) (dss_one (ds_ret de_bl)) dss_nil)
      (dss_one (ds_ret (de_cal C__law_is (hr.mono (by omega)) rfl (da_cons (de_tup (da_cons (de_cal C_has_small_echoes (hr.mono (by omega)) rfl (da_cons (de_var (pv 6 rfl (.inl lk__law_kin_fine_6))) da_nil)) (da_cons (de_cal C_has_small_echoes (hr.mono (by omega)) rfl (da_cons (de_revA (de_var (pv 3 rfl (.inr (.inl lk__law_kin_fine_3))))) da_nil)) da_nil))) (da_cons (de_op o_mulA (de_tup (da_cons (de_cal C_has_small_echoes (hr.mono (by omega)) rfl (da_cons (de_var (pv 3 rfl (.inr (.inl lk__law_kin_fine_3)))) da_nil)) da_nil)) de_int) da_nil)))))))))))), m, F.kp, (F.bindsN fun _ _ _ _ _ _ us hl => match us, hl with | [_, _], _ => rfl)⟩
/-! ### _law_two_fine -/
abbrev s__law_two_fine : Stmt := top 36
abbrev nm__law_two_fine : List Str := ["one", "other", "n", "first", "second", "sums", "fitting", "told", "both", "left", "least", "doubled", "woven_v", "k", "whole", "crossed", "step", "number"]
abbrev ps__law_two_fine : List Str := ["one", "other"]
theorem sc__law_two_fine : FnScope nm__law_two_fine ps__law_two_fine (defScope s__law_two_fine) := ⟨rfl, rfl, rfl, by decide +kernel, rfl, by decide +kernel, by decide +kernel⟩
theorem lk__law_two_fine_0 : (defScope s__law_two_fine).names.lookup ("one" : Str) = some NameKind.cell := by decide +kernel
theorem lk__law_two_fine_1 : (defScope s__law_two_fine).names.lookup ("other" : Str) = some NameKind.cell := by decide +kernel
theorem lk__law_two_fine_2 : (defScope s__law_two_fine).names.lookup ("n" : Str) = some NameKind.local := by decide +kernel
theorem lk__law_two_fine_3 : (defScope s__law_two_fine).names.lookup ("first" : Str) = some NameKind.cell := by decide +kernel
theorem lk__law_two_fine_4 : (defScope s__law_two_fine).names.lookup ("second" : Str) = some NameKind.cell := by decide +kernel
theorem lk__law_two_fine_5 : (defScope s__law_two_fine).names.lookup ("sums" : Str) = some NameKind.local := by decide +kernel
theorem lk__law_two_fine_6 : (defScope s__law_two_fine).names.lookup ("fitting" : Str) = some NameKind.local := by decide +kernel
theorem lk__law_two_fine_7 : (defScope s__law_two_fine).names.lookup ("told" : Str) = some NameKind.local := by decide +kernel
theorem lk__law_two_fine_8 : (defScope s__law_two_fine).names.lookup ("both" : Str) = some NameKind.cell := by decide +kernel
theorem lk__law_two_fine_9 : (defScope s__law_two_fine).names.lookup ("left" : Str) = some NameKind.local := by decide +kernel
theorem lk__law_two_fine_10 : (defScope s__law_two_fine).names.lookup ("least" : Str) = some NameKind.local := by decide +kernel
theorem lk__law_two_fine_11 : (defScope s__law_two_fine).names.lookup ("doubled" : Str) = some NameKind.local := by decide +kernel
theorem lk__law_two_fine_12 : (defScope s__law_two_fine).names.lookup ("woven_v" : Str) = some NameKind.local := by decide +kernel
theorem lk__law_two_fine_13 : (defScope s__law_two_fine).names.lookup ("k" : Str) = some NameKind.local := by decide +kernel
theorem lk__law_two_fine_14 : (defScope s__law_two_fine).names.lookup ("whole" : Str) = some NameKind.local := by decide +kernel
theorem lk__law_two_fine_15 : (defScope s__law_two_fine).names.lookup ("crossed" : Str) = some NameKind.local := by decide +kernel
noncomputable def t__law_two_fine : dTS := dSeq (dAsg (dTup (dCons (dCB fLen (dCons (dVar 0) (dNil))) (dCons (dCall 1 (rd__law_row_of) (dCons (dVar 0) (dNil))) (dCons (dCall 1 (rd__law_row_of) (dCons (dVar 1) (dNil))) (dNil))))) (gTp (gsCons (gNm 2) (gsCons (gNm 3) (gsCons (gNm 4) (gsNil))))))
    (dSeq (dSet 5 (dFz (dComp (dRng2 (dCons (dC (.int 1)) (dCons (dVar 2) (dNil)))) (gNm 13) (dYes) (dOp fAdd (dCall 2 (rd_echo) (dCons (dVar 0) (dCons (dVar 13) (dNil)))) (dCall 2 (rd_echo) (dCons (dVar 1) (dCons (dVar 13) (dNil))))) [13])))
    (dSeq (dSet 6 (dOp fLt (dLenSet (dVar 5)) (dC (.int 2))))
    (dSeq (dSet 7 (dTup (dCons (dCall 2 (rd_are_fitting) (dCons (dVar 0) (dCons (dVar 1) (dNil)))) (dCons (dCall 2 (rd_are_fitting) (dCons (dVar 1) (dCons (dVar 0) (dNil)))) (dCons (dCall 2 (rd_are_fitting) (dCons (dCall 1 (rd_other_mask) (dCons (dVar 0) (dNil))) (dCons (dVar 1) (dNil)))) (dNil))))))
    (dSeq (dIfS (dNot (dB (dCall 2 (rd__law_is 6) (dCons (dVar 7) (dCons (dOp fMulA (dTup (dCons (dVar 6) (dNil))) (dC (.int 3))) (dNil)))))) (dRet (dC (.bool false))) (dNext))
    (dSeq (dSet 8 (dFz (dComp (dRng1 (dCons (dVar 2) (dNil))) (gNm 13) (dYes) (dOp fAdd (dCall 2 (rd_sign_echo) (dCons (dVar 3) (dCons (dVar 13) (dNil)))) (dCall 2 (rd_sign_echo) (dCons (dVar 4) (dCons (dVar 13) (dNil))))) [13])))
    (dSeq (dSet 9 (dFz (dComp (dRng2 (dCons (dC (.int 1)) (dCons (dVar 2) (dNil)))) (gNm 13) (dB (dOp fNe (dOp fIx (dVar 8) (dVar 13)) (dC (.int 0)))) (dVar 13) [13])))
    (dSeq (dSet 10 (dIfE (dB (dOp fGt (dCB fLen (dCons (dVar 9) (dNil))) (dC (.int 0)))) (dOp fIx (dVar 9) (dC (.int 0))) (dC .none)))
    (dSeq (dIfS (dNot (dB (dCall 2 (rd__law_is 6) (dCons (dTup (dCons (dCall 2 (rd_told_leftover) (dCons (dVar 3) (dCons (dVar 4) (dNil)))) (dCons (dCall 2 (rd_are_vanishing) (dCons (dVar 3) (dCons (dVar 4) (dNil)))) (dNil)))) (dCons (dTup (dCons (dVar 10) (dCons (dOp fIs (dVar 10) (dC .none)) (dNil)))) (dNil)))))) (dRet (dC (.bool false))) (dNext))
    (dSeq (dIfS (dAnd (dB (dOp fEq (dCB fLen (dCons (dVar 9) (dNil))) (dC (.int 0)))) (dNot (dB (dVar 6)))) (dRet (dC (.bool false))) (dNext))
    (dSeq (dPar 11 12 (dCons (dCall 2 (rd_doubled_pair) (dCons (dVar 3) (dCons (dVar 4) (dNil)))) (dCons (dCall 2 (rd_woven_pair) (dCons (dVar 3) (dCons (dVar 4) (dNil)))) (dNil))))
    (dSeq (dFor (dRng2 (dCons (dC (.int 1)) (dCons (dVar 2) (dNil)))) (gNm 13) (dSeq (dSet 14 (dOp fAdd (dCall 2 (rd_sign_echo) (dCons (dOp fIx (dVar 11) (dC (.int 0))) (dCons (dVar 13) (dNil)))) (dCall 2 (rd_sign_echo) (dCons (dOp fIx (dVar 11) (dC (.int 1))) (dCons (dVar 13) (dNil))))))
    (dIfS (dOr (dB (dOp fNe (dVar 14) (dOp fMulA (dC (.int 2)) (dOp fIx (dVar 8) (dVar 13))))) (dB (dOp fNe (dOp fAdd (dCall 2 (rd_sign_echo) (dCons (dOp fIx (dVar 12) (dC (.int 0))) (dCons (dOp fMulA (dC (.int 2)) (dVar 13)) (dNil)))) (dCall 2 (rd_sign_echo) (dCons (dOp fIx (dVar 12) (dC (.int 1))) (dCons (dOp fMulA (dC (.int 2)) (dVar 13)) (dNil))))) (dOp fMulA (dC (.int 2)) (dOp fIx (dVar 8) (dVar 13)))))) (dRet (dC (.bool false))) (dNext))))
    (dSeq (dFor (dRng2 (dCons (dVar 2) (dCons (dOp fMulA (dC (.int 2)) (dVar 2)) (dNil)))) (gNm 13) (dIfS (dB (dOp fNe (dOp fAdd (dCall 2 (rd_sign_echo) (dCons (dOp fIx (dVar 11) (dC (.int 0))) (dCons (dVar 13) (dNil)))) (dCall 2 (rd_sign_echo) (dCons (dOp fIx (dVar 11) (dC (.int 1))) (dCons (dVar 13) (dNil))))) (dC (.int 0)))) (dRet (dC (.bool false))) (dNext)))
    (dSeq (dFor (dRng1 (dCons (dVar 2) (dNil))) (gNm 13) (dIfS (dB (dOp fNe (dOp fAdd (dCall 2 (rd_sign_echo) (dCons (dOp fIx (dVar 12) (dC (.int 0))) (dCons (dOp fAdd (dOp fMulA (dC (.int 2)) (dVar 13)) (dC (.int 1))) (dNil)))) (dCall 2 (rd_sign_echo) (dCons (dOp fIx (dVar 12) (dC (.int 1))) (dCons (dOp fAdd (dOp fMulA (dC (.int 2)) (dVar 13)) (dC (.int 1))) (dNil))))) (dC (.int 0)))) (dRet (dC (.bool false))) (dNext)))
    (dSeq (dSet 15 (dCall 2 (rd_shift_table) (dCons (dCall 2 (rd__law_shape_of) (dCons (dVar 0) (dCons (dC (.str (Str.ofString "x"))) (dNil)))) (dCons (dCall 2 (rd__law_shape_of) (dCons (dVar 1) (dCons (dC (.str (Str.ofString "x"))) (dNil)))) (dNil)))))
    (dRet (dOp fEq (dCB fSumA (dCons (dFz (dComp (dItV (dVar 15)) (gTp (gsCons (gNm 16) (gsCons (gNm 17) (gsNil)))) (dYes) (dVar 17) [16, 17])) (dNil))) (dOp fMulA (dBM "str" fCount (dVar 0) (dCons (dC (.str (Str.ofString "x"))) (dNil))) (dBM "str" fCount (dVar 1) (dCons (dC (.str (Str.ofString "x"))) (dNil))))))))))))))))))))
theorem rx__law_two_fine : ∃ r : dFn, r = fnT 18 t__law_two_fine := ⟨_, rfl⟩
@[irreducible] noncomputable def rd__law_two_fine : dFn := rx__law_two_fine.choose
theorem rd__law_two_fine_is : rd__law_two_fine = fnT 18 t__law_two_fine := by unfold rd__law_two_fine; exact rx__law_two_fine.choose_spec
theorem cal__law_two_fine {P : Program} {w : World} {K : PySem.W.Frag} {mg : Str → Option Value} {base : Heap} {f : Addr} {fd : FuncData} (F : FnP K "_law_two_fine" s__law_two_fine f fd) (m : mg "_law_two_fine" = some (.ref f)) (C__law_is : Cal P w K mg base "_law_is" 7 2 ps__law_is (rd__law_is 6)) (C__law_row_of : Cal P w K mg base "_law_row_of" 1 1 ps__law_row_of (rd__law_row_of)) (C__law_shape_of : Cal P w K mg base "_law_shape_of" 1 2 ps__law_shape_of (rd__law_shape_of)) (C_are_fitting : Cal P w K mg base "are_fitting" 3 2 ps_are_fitting (rd_are_fitting)) (C_are_vanishing : Cal P w K mg base "are_vanishing" 3 2 ps_are_vanishing (rd_are_vanishing)) (C_doubled_pair : Cal P w K mg base "doubled_pair" 2 2 ps_doubled_pair (rd_doubled_pair)) (C_echo : Cal P w K mg base "echo" 1 2 ps_echo (rd_echo)) (C_other_mask : Cal P w K mg base "other_mask" 1 1 ps_other_mask (rd_other_mask)) (C_shift_table : Cal P w K mg base "shift_table" 1 2 ps_shift_table (rd_shift_table)) (C_sign_echo : Cal P w K mg base "sign_echo" 1 2 ps_sign_echo (rd_sign_echo)) (C_told_leftover : Cal P w K mg base "told_leftover" 2 2 ps_told_leftover (rd_told_leftover)) (C_woven_pair : Cal P w K mg base "woven_pair" 2 2 ps_woven_pair (rd_woven_pair)) (z_len : mg "len" = none) (z_range : mg "range" = none) (z_set : mg "set" = none) (z_sum : mg "sum" = none) : Cal P w K mg base "_law_two_fine" 8 2 ps__law_two_fine rd__law_two_fine :=
  by
  rw [rd__law_two_fine_is]
  exact ⟨f, fd, fn_dD F sc__law_two_fine (by decide) (fun cdv A outer s H E hr => (dss_cons (ds_asg (vs := [2, 3, 4]) (dg_tp rfl (dgs_cons (dg_nm (i := 2) sc__law_two_fine.nd rfl (.inl lk__law_two_fine_2) (.inl rfl)) (dgs_cons (dg_nm (i := 3) sc__law_two_fine.nd rfl (.inr lk__law_two_fine_3) (.inl rfl)) (dgs_cons (dg_nm (i := 4) sc__law_two_fine.nd rfl (.inr lk__law_two_fine_4) (.inl rfl)) dgs_nil (mono_nm _)) (mono_nm _)) (mono_nm _))) (de_tup (da_cons (de_callB c_len z_len rfl (by decide +kernel) (da_cons (de_var (pv 0 rfl (.inr (.inl lk__law_two_fine_0)))) da_nil)) (da_cons (de_cal C__law_row_of (hr.mono (by omega)) rfl (da_cons (de_var (pv 0 rfl (.inr (.inl lk__law_two_fine_0)))) da_nil)) (da_cons (de_cal C__law_row_of (hr.mono (by omega)) rfl (da_cons (de_var (pv 1 rfl (.inr (.inl lk__law_two_fine_1)))) da_nil)) da_nil)))))
      (dss_cons (ds_setLc (i := 5) (own := [("k", 13)]) rfl sc__law_two_fine.nd rfl lk__law_two_fine_5 (sw_true rfl lk__law_two_fine_5 (by decide +kernel) (by decide +kernel)) (blkOk_by (own := [("k", 13)]) (N := nm__law_two_fine) (sc := defScope s__law_two_fine) (by decide +kernel)) (fun _ _ _ _ _ => (dg_nm (i := 13) sc__law_two_fine.nd rfl (.inl rfl) (.inr rfl))) (di_rng2 z_range rfl (da_cons de_int (da_cons (de_var (pv 2 rfl (.inl lk__law_two_fine_2))) da_nil))) (fun _ _ _ _ _ => dts_nil) (fun _ _ _ _ _ => (de_op o_add (de_cal C_echo (hr.mono (by omega)) rfl (da_cons (de_var (pv 0 rfl (.inr (.inl rfl)))) (da_cons (de_var (pv 13 rfl (.inl rfl))) da_nil))) (de_cal C_echo (hr.mono (by omega)) rfl (da_cons (de_var (pv 1 rfl (.inr (.inl rfl)))) (da_cons (de_var (pv 13 rfl (.inl rfl))) da_nil))))))
      (dss_cons (ds_set (i := 6) sc__law_two_fine.nd rfl (.inl lk__law_two_fine_6) (de_cmp o_lt (de_lenSet rfl rfl z_len rfl z_set (de_var (pv 5 rfl (.inl lk__law_two_fine_5)))) de_int) (.inl rfl))
      (dss_cons (ds_set (i := 7) sc__law_two_fine.nd rfl (.inl lk__law_two_fine_7) (de_tup (da_cons (de_cal C_are_fitting (hr.mono (by omega)) rfl (da_cons (de_var (pv 0 rfl (.inr (.inl lk__law_two_fine_0)))) (da_cons (de_var (pv 1 rfl (.inr (.inl lk__law_two_fine_1)))) da_nil))) (da_cons (de_cal C_are_fitting (hr.mono (by omega)) rfl (da_cons (de_var (pv 1 rfl (.inr (.inl lk__law_two_fine_1)))) (da_cons (de_var (pv 0 rfl (.inr (.inl lk__law_two_fine_0)))) da_nil))) (da_cons (de_cal C_are_fitting (hr.mono (by omega)) rfl (da_cons (de_cal C_other_mask (hr.mono (by omega)) rfl (da_cons (de_var (pv 0 rfl (.inr (.inl lk__law_two_fine_0)))) da_nil)) (da_cons (de_var (pv 1 rfl (.inr (.inl lk__law_two_fine_1)))) da_nil))) da_nil)))) (.inl rfl))
      (dss_cons (ds_if (dt_not (dt_val (de_cal C__law_is (hr.mono (by omega)) rfl (da_cons (de_var (pv 7 rfl (.inl lk__law_two_fine_7))) (da_cons (de_op o_mulA (de_tup (da_cons (de_var (pv 6 rfl (.inl lk__law_two_fine_6))) da_nil)) de_int) da_nil))))) (dss_one (ds_ret de_bl)) dss_nil)
      (dss_cons (ds_set (i := 8) sc__law_two_fine.nd rfl (.inr lk__law_two_fine_8) (de_fz (df_comp (own := [("k", 13)]) rfl sc__law_two_fine.nd (blkOk_by (own := [("k", 13)]) (N := nm__law_two_fine) (sc := defScope s__law_two_fine) (by decide +kernel)) (fun _ _ _ _ _ => (dg_nm (i := 13) sc__law_two_fine.nd rfl (.inl rfl) (.inr rfl))) (di_rng1 z_range rfl (da_cons (de_var (pv 2 rfl (.inl lk__law_two_fine_2))) da_nil)) (fun _ _ _ _ _ => dts_nil) (fun _ _ _ _ _ => (de_op o_add (de_cal C_sign_echo (hr.mono (by omega)) rfl (da_cons (de_var (pv 3 rfl (.inr (.inl rfl)))) (da_cons (de_var (pv 13 rfl (.inl rfl))) da_nil))) (de_cal C_sign_echo (hr.mono (by omega)) rfl (da_cons (de_var (pv 4 rfl (.inr (.inl rfl)))) (da_cons (de_var (pv 13 rfl (.inl rfl))) da_nil))))))) (.inl rfl))
      (dss_cons (ds_setLc (i := 9) (own := [("k", 13)]) rfl sc__law_two_fine.nd rfl lk__law_two_fine_9 (sw_true rfl lk__law_two_fine_9 (by decide +kernel) (by decide +kernel)) (blkOk_by (own := [("k", 13)]) (N := nm__law_two_fine) (sc := defScope s__law_two_fine) (by decide +kernel)) (fun _ _ _ _ _ => (dg_nm (i := 13) sc__law_two_fine.nd rfl (.inl rfl) (.inr rfl))) (di_rng2 z_range rfl (da_cons de_int (da_cons (de_var (pv 2 rfl (.inl lk__law_two_fine_2))) da_nil))) (fun _ _ _ _ _ => (dts_one (dt_cmp (o_ne (u64 hr)) (de_ix (u1 hr) (de_var (pv 8 rfl (.inr (.inl rfl)))) (de_var (pv 13 rfl (.inl rfl)))) de_int))) (fun _ _ _ _ _ => (de_var (pv 13 rfl (.inl rfl)))))
      (dss_cons (ds_set (i := 10) sc__law_two_fine.nd rfl (.inl lk__law_two_fine_10) (de_ifExp (dt_cmp o_gt (de_callB c_len z_len rfl (by decide +kernel) (da_cons (de_var (pv 9 rfl (.inl lk__law_two_fine_9))) da_nil)) de_int) (de_ix (u1 hr) (de_var (pv 9 rfl (.inl lk__law_two_fine_9))) de_int) de_non) (.inl rfl))
      (dss_cons (ds_if (dt_not (dt_val (de_cal C__law_is (hr.mono (by omega)) rfl (da_cons (de_tup (da_cons (de_cal C_told_leftover (hr.mono (by omega)) rfl (da_cons (de_var (pv 3 rfl (.inr (.inl lk__law_two_fine_3)))) (da_cons (de_var (pv 4 rfl (.inr (.inl lk__law_two_fine_4)))) da_nil))) (da_cons (de_cal C_are_vanishing (hr.mono (by omega)) rfl (da_cons (de_var (pv 3 rfl (.inr (.inl lk__law_two_fine_3)))) (da_cons (de_var (pv 4 rfl (.inr (.inl lk__law_two_fine_4)))) da_nil))) da_nil))) (da_cons (de_tup (da_cons (de_var (pv 10 rfl (.inl lk__law_two_fine_10))) (da_cons (de_cmp o_is (de_var (pv 10 rfl (.inl lk__law_two_fine_10))) de_non) da_nil))) da_nil))))) (dss_one (ds_ret de_bl)) dss_nil)
      (dss_cons (ds_if (dw_pt (dw_and (dt_cmp (o_eq (u64 hr)) (de_callB c_len z_len rfl (by decide +kernel) (da_cons (de_var (pv 9 rfl (.inl lk__law_two_fine_9))) da_nil)) de_int) (dw_and1 (dt_not (dt_val (de_var (pv 6 rfl (.inl lk__law_two_fine_6)))))))) (dss_one (ds_ret de_bl)) dss_nil)
      (dss_cons (ds_par (i := 11) (j := 12) rfl sc__law_two_fine.nd rfl rfl (by decide) lk__law_two_fine_11 lk__law_two_fine_12 (da_cons (de_cal C_doubled_pair (hr.mono (by omega)) rfl (da_cons (de_var (pv 3 rfl (.inr (.inl lk__law_two_fine_3)))) (da_cons (de_var (pv 4 rfl (.inr (.inl lk__law_two_fine_4)))) da_nil))) (da_cons (de_cal C_woven_pair (hr.mono (by omega)) rfl (da_cons (de_var (pv 3 rfl (.inr (.inl lk__law_two_fine_3)))) (da_cons (de_var (pv 4 rfl (.inr (.inl lk__law_two_fine_4)))) da_nil))) da_nil)))
      (dss_cons (ds_for (vs := [13]) PassesOwn.never rfl (dg_nm (i := 13) sc__law_two_fine.nd rfl (.inl lk__law_two_fine_13) (.inl rfl)) (di_rng2 z_range rfl (da_cons de_int (da_cons (de_var (pv 2 rfl (.inl lk__law_two_fine_2))) da_nil))) (dss_cons (ds_set (i := 14) sc__law_two_fine.nd rfl (.inl lk__law_two_fine_14) (de_op o_add (de_cal C_sign_echo (hr.mono (by omega)) rfl (da_cons (de_ix (u1 hr) (de_var (pv 11 rfl (.inl lk__law_two_fine_11))) de_int) (da_cons (de_var (pv 13 rfl (.inl lk__law_two_fine_13))) da_nil))) (de_cal C_sign_echo (hr.mono (by omega)) rfl (da_cons (de_ix (u1 hr) (de_var (pv 11 rfl (.inl lk__law_two_fine_11))) de_int) (da_cons (de_var (pv 13 rfl (.inl lk__law_two_fine_13))) da_nil)))) (.inl rfl))
      (dss_one (ds_if (dw_pt (dw_or (dt_cmp (o_ne (u64 hr)) (de_var (pv 14 rfl (.inl lk__law_two_fine_14))) (de_op o_mulA de_int (de_ix (u1 hr) (de_var (pv 8 rfl (.inr (.inl lk__law_two_fine_8)))) (de_var (pv 13 rfl (.inl lk__law_two_fine_13)))))) (dw_or1 (dt_cmp (o_ne (u64 hr)) (de_op o_add (de_cal C_sign_echo (hr.mono (by omega)) rfl (da_cons (de_ix (u1 hr) (de_var (pv 12 rfl (.inl lk__law_two_fine_12))) de_int) (da_cons (de_op o_mulA de_int (de_var (pv 13 rfl (.inl lk__law_two_fine_13)))) da_nil))) (de_cal C_sign_echo (hr.mono (by omega)) rfl (da_cons (de_ix (u1 hr) (de_var (pv 12 rfl (.inl lk__law_two_fine_12))) de_int) (da_cons (de_op o_mulA de_int (de_var (pv 13 rfl (.inl lk__law_two_fine_13)))) da_nil)))) (de_op o_mulA de_int (de_ix (u1 hr) (de_var (pv 8 rfl (.inr (.inl lk__law_two_fine_8)))) (de_var (pv 13 rfl (.inl lk__law_two_fine_13))))))))) (dss_one (ds_ret de_bl)) dss_nil))))
      (dss_cons (ds_for (vs := [13]) PassesOwn.never rfl (dg_nm (i := 13) sc__law_two_fine.nd rfl (.inl lk__law_two_fine_13) (.inl rfl)) (di_rng2 z_range rfl (da_cons (de_var (pv 2 rfl (.inl lk__law_two_fine_2))) (da_cons (de_op o_mulA de_int (de_var (pv 2 rfl (.inl lk__law_two_fine_2)))) da_nil))) (dss_one (ds_if (dt_cmp (o_ne (u64 hr)) (de_op o_add (de_cal C_sign_echo (hr.mono (by omega)) rfl (da_cons (de_ix (u1 hr) (de_var (pv 11 rfl (.inl lk__law_two_fine_11))) de_int) (da_cons (de_var (pv 13 rfl (.inl lk__law_two_fine_13))) da_nil))) (de_cal C_sign_echo (hr.mono (by omega)) rfl (da_cons (de_ix (u1 hr) (de_var (pv 11 rfl (.inl lk__law_two_fine_11))) de_int) (da_cons (de_var (pv 13 rfl (.inl lk__law_two_fine_13))) da_nil)))) de_int) (dss_one (ds_ret de_bl)) dss_nil)))
      (dss_cons (ds_for (vs := [13]) PassesOwn.never rfl (dg_nm (i := 13) sc__law_two_fine.nd rfl (.inl lk__law_two_fine_13) (.inl rfl)) (di_rng1 z_range rfl (da_cons (de_var (pv 2 rfl (.inl lk__law_two_fine_2))) da_nil)) (dss_one (ds_if (dt_cmp (o_ne (u64 hr)) (de_op o_add (de_cal C_sign_echo (hr.mono (by omega)) rfl (da_cons (de_ix (u1 hr) (de_var (pv 12 rfl (.inl lk__law_two_fine_12))) de_int) (da_cons (de_op o_add (de_op o_mulA de_int (de_var (pv 13 rfl (.inl lk__law_two_fine_13)))) de_int) da_nil))) (de_cal C_sign_echo (hr.mono (by omega)) rfl (da_cons (de_ix (u1 hr) (de_var (pv 12 rfl (.inl lk__law_two_fine_12))) de_int) (da_cons (de_op o_add (de_op o_mulA de_int (de_var (pv 13 rfl (.inl lk__law_two_fine_13)))) de_int) da_nil)))) de_int) (dss_one (ds_ret de_bl)) dss_nil)))
      (dss_cons (ds_set (i := 15) sc__law_two_fine.nd rfl (.inl lk__law_two_fine_15) (de_cal C_shift_table (hr.mono (by omega)) rfl (da_cons (de_cal C__law_shape_of (hr.mono (by omega)) rfl (da_cons (de_var (pv 0 rfl (.inr (.inl lk__law_two_fine_0)))) (da_cons de_str da_nil))) (da_cons (de_cal C__law_shape_of (hr.mono (by omega)) rfl (da_cons (de_var (pv 1 rfl (.inr (.inl lk__law_two_fine_1)))) (da_cons de_str da_nil))) da_nil))) (.inl rfl))
      (dss_one (ds_ret (de_cmp (o_eq (u64 hr)) (de_callB (c_sumA rfl) z_sum rfl (by decide +kernel) (da_cons (de_fz (df_comp (own := [("step", 16), ("number", 17)]) rfl sc__law_two_fine.nd (blkOk_by (own := [("step", 16), ("number", 17)]) (N := nm__law_two_fine) (sc := defScope s__law_two_fine) (by decide +kernel)) (fun _ _ _ _ _ => (dg_tp rfl (dgs_cons (dg_nm (i := 16) sc__law_two_fine.nd rfl (.inl rfl) (.inr rfl)) (dgs_cons (dg_nm (i := 17) sc__law_two_fine.nd rfl (.inl rfl) (.inr rfl)) dgs_nil (mono_nm _)) (mono_nm _)))) (di_any (de_var (pv 15 rfl (.inl lk__law_two_fine_15)))) (fun _ _ _ _ _ => dts_nil) (fun _ _ _ _ _ => (de_var (pv 17 rfl (.inl rfl)))))) da_nil)) (de_op o_mulA (de_bm m_count (.inl rfl) PySem.F.plainAttrs_str PySem.F.slot_str_count PySem.F.type_str_count (de_var (pv 0 rfl (.inr (.inl lk__law_two_fine_0)))) (da_cons de_str da_nil)) (de_bm m_count (.inl rfl) PySem.F.plainAttrs_str PySem.F.slot_str_count PySem.F.type_str_count (de_var (pv 1 rfl (.inr (.inl lk__law_two_fine_1)))) (da_cons de_str da_nil)))))))))))))))))))))), m, F.kp, (F.bindsN fun _ _ _ _ _ _ us hl => match us, hl with | [_, _], _ => rfl)⟩
/-! ### law -/
abbrev s_law : Stmt := top 37
abbrev nm_law : List Str := ["script", "known", "one", "other", "told", "k", "hand", "n", "mask", "pair", "turned"]
abbrev ps_law : List Str := ["script"]
theorem sc_law : FnScope nm_law ps_law (defScope s_law) := ⟨rfl, rfl, rfl, by decide +kernel, rfl, by decide +kernel, by decide +kernel⟩
theorem lk_law_0 : (defScope s_law).names.lookup ("script" : Str) = some NameKind.local := by decide +kernel
theorem lk_law_1 : (defScope s_law).names.lookup ("known" : Str) = some NameKind.local := by decide +kernel
theorem lk_law_2 : (defScope s_law).names.lookup ("one" : Str) = some NameKind.local := by decide +kernel
theorem lk_law_3 : (defScope s_law).names.lookup ("other" : Str) = some NameKind.local := by decide +kernel
theorem lk_law_4 : (defScope s_law).names.lookup ("told" : Str) = some NameKind.local := by decide +kernel
theorem lk_law_5 : (defScope s_law).names.lookup ("k" : Str) = some NameKind.local := by decide +kernel
theorem lk_law_6 : (defScope s_law).names.lookup ("hand" : Str) = some NameKind.local := by decide +kernel
theorem lk_law_7 : (defScope s_law).names.lookup ("n" : Str) = some NameKind.local := by decide +kernel
theorem lk_law_8 : (defScope s_law).names.lookup ("mask" : Str) = some NameKind.local := by decide +kernel
theorem lk_law_9 : (defScope s_law).names.lookup ("pair" : Str) = some NameKind.local := by decide +kernel
theorem lk_law_10 : (defScope s_law).names.lookup ("turned" : Str) = some NameKind.local := by decide +kernel
noncomputable def t_law : dTS := dSeq (dSet 1 (dTup (dCons (dTup (dCons (dC (.str (Str.ofString "x"))) (dCons (dC (.str (Str.ofString "x"))) (dNil)))) (dCons (dTup (dCons (dC (.str (Str.ofString "xx"))) (dCons (dC (.str (Str.ofString "x."))) (dNil)))) (dCons (dTup (dCons (dC (.str (Str.ofString "xxx."))) (dCons (dC (.str (Str.ofString "xx.x"))) (dNil)))) (dCons (dTup (dCons (dC (.str (Str.ofString "xx.x..."))) (dCons (dC (.str (Str.ofString "x.xxx.."))) (dNil)))) (dCons (dTup (dCons (dC (.str (Str.ofString "xxxx"))) (dCons (dC (.str (Str.ofString "xx.."))) (dNil)))) (dNil))))))))
    (dSeq (dSet 1 (dOp fAdd (dVar 1) (dTup (dCons (dTup (dCons (dC (.str (Str.ofString "xxx.xx.x"))) (dCons (dC (.str (Str.ofString "xxx...x."))) (dNil)))) (dNil)))))
    (dSeq (dFor (dItV (dVar 1)) (gTp (gsCons (gNm 2) (gsCons (gNm 3) (gsNil)))) (dIfS (dOr (dNot (dB (dCall 1 (rd__law_echoes_fine) (dCons (dVar 2) (dNil))))) (dOr (dNot (dB (dCall 1 (rd__law_echoes_fine) (dCons (dVar 3) (dNil))))) (dNot (dB (dCall 2 (rd__law_two_fine) (dCons (dVar 2) (dCons (dVar 3) (dNil)))))))) (dRet (dC (.bool false))) (dNext)))
    (dSeq (dSet 4 (dTup (dCons (dCall 1 (rd_is_flat) (dCons (dC (.str (Str.ofString "xx.x..."))) (dNil))) (dCons (dCall 2 (rd_are_vanishing) (dCons (dC (.str (Str.ofString "+++-"))) (dCons (dC (.str (Str.ofString "++-+"))) (dNil)))) (dCons (dCall 2 (rd_are_vanishing) (dCons (dC (.str (Str.ofString "+++-++-+"))) (dCons (dC (.str (Str.ofString "+++---+-"))) (dNil)))) (dNil))))))
    (dSeq (dIfS (dNot (dB (dCall 2 (rd__law_is 6) (dCons (dVar 4) (dCons (dTup (dCons (dC (.bool true)) (dCons (dC (.bool true)) (dCons (dC (.bool true)) (dNil))))) (dNil)))))) (dRet (dC (.bool false))) (dNext))
    (dSeq (dFor (dRng1 (dCons (dC (.int 3)) (dNil))) (gNm 5) (dSeq (dSet 6 (dCall 2 (rd__law_hand) (dCons (dVar 0) (dCons (dVar 5) (dNil)))))
    (dSeq (dSet 7 (dOp fAdd (dC (.int 1)) (dCall 2 (rd__law_take) (dCons (dVar 6) (dCons (dC (.int 12)) (dNil))))))
    (dSeq (dPar 2 3 (dCons (dCall 2 (rd__law_signs) (dCons (dVar 6) (dCons (dVar 7) (dNil)))) (dCons (dCall 2 (rd__law_signs) (dCons (dVar 6) (dCons (dVar 7) (dNil)))) (dNil))))
    (dSeq (dFor (dItV (dTup (dCons (dVar 2) (dCons (dVar 3) (dCons (dOp fMulA (dC (.str (Str.ofString "x"))) (dVar 7)) (dCons (dOp fMulA (dC (.str (Str.ofString "."))) (dVar 7)) (dNil))))))) (gNm 8) (dIfS (dOr (dNot (dB (dCall 1 (rd__law_echoes_fine) (dCons (dVar 8) (dNil))))) (dOr (dNot (dB (dCall 2 (rd__law_kin_fine) (dCons (dVar 6) (dCons (dVar 8) (dNil)))))) (dNot (dB (dCall 2 (rd__law_two_fine) (dCons (dVar 2) (dCons (dVar 8) (dNil)))))))) (dRet (dC (.bool false))) (dNext)))
    (dSeq (dSet 9 (dOp fIx (dVar 1) (dCall 2 (rd__law_take) (dCons (dVar 6) (dCons (dC (.int 6)) (dNil))))))
    (dSeq (dSet 10 (dCall 2 (rd_wheel_turned) (dCons (dOp fIx (dVar 9) (dC (.int 0))) (dCons (dCall 2 (rd__law_take) (dCons (dVar 6) (dCons (dC (.int 9)) (dNil)))) (dNil)))))
    (dIfS (dOr (dNot (dB (dCall 2 (rd__law_two_fine) (dCons (dVar 10) (dCons (dOp fIx (dVar 9) (dC (.int 1))) (dNil)))))) (dNot (dB (dCall 2 (rd__law_kin_fine) (dCons (dVar 6) (dCons (dOp fIx (dVar 9) (dC (.int 1))) (dNil))))))) (dRet (dC (.bool false))) (dNext)))))))))
    (dRet (dC (.bool true))))))))
theorem rx_law : ∃ r : dFn, r = fnT 11 t_law := ⟨_, rfl⟩
@[irreducible] noncomputable def rd_law : dFn := rx_law.choose
theorem rd_law_is : rd_law = fnT 11 t_law := by unfold rd_law; exact rx_law.choose_spec
theorem okLaw {P : Program} {w : World} {K : PySem.W.Frag} {mg : Str → Option Value} {base : Heap} {f : Addr} {fd : FuncData} (F : FnP K "law" s_law f fd) (C__law_echoes_fine : Cal P w K mg base "_law_echoes_fine" 8 1 ps__law_echoes_fine (rd__law_echoes_fine)) (C__law_hand : Cal P w K mg base "_law_hand" 2 2 ps__law_hand (rd__law_hand)) (C__law_is : Cal P w K mg base "_law_is" 7 2 ps__law_is (rd__law_is 6)) (C__law_kin_fine : Cal P w K mg base "_law_kin_fine" 8 2 ps__law_kin_fine (rd__law_kin_fine)) (C__law_signs : Cal P w K mg base "_law_signs" 2 2 ps__law_signs (rd__law_signs)) (C__law_take : Cal P w K mg base "_law_take" 1 2 ps__law_take (rd__law_take)) (C__law_two_fine : Cal P w K mg base "_law_two_fine" 8 2 ps__law_two_fine (rd__law_two_fine)) (C_are_vanishing : Cal P w K mg base "are_vanishing" 3 2 ps_are_vanishing (rd_are_vanishing)) (C_is_flat : Cal P w K mg base "is_flat" 3 1 ps_is_flat (rd_is_flat)) (C_wheel_turned : Cal P w K mg base "wheel_turned" 1 2 ps_wheel_turned (rd_wheel_turned)) (z_range : mg "range" = none) : FnOk P w K mg base CX0 9 f fd ps_law (spD K 1 rd_law) :=
  by
  rw [rd_law_is]
  exact fn_dD F sc_law (by decide) (fun cdv A outer s H E hr => (dss_cons (ds_set (i := 1) sc_law.nd rfl (.inl lk_law_1) (de_tup (da_cons (de_tup (da_cons de_str (da_cons de_str da_nil))) (da_cons (de_tup (da_cons de_str (da_cons de_str da_nil))) (da_cons (de_tup (da_cons de_str (da_cons de_str da_nil))) (da_cons (de_tup (da_cons de_str (da_cons de_str da_nil))) (da_cons (de_tup (da_cons de_str (da_cons de_str da_nil))) da_nil)))))) (.inl rfl))
      (dss_cons (ds_set (i := 1) sc_law.nd rfl (.inl lk_law_1) (de_op o_add (de_var (pv 1 rfl (.inl lk_law_1))) (de_tup (da_cons (de_tup (da_cons de_str (da_cons de_str da_nil))) da_nil))) (.inl rfl))
      (dss_cons (ds_for (vs := [2, 3]) PassesOwn.never rfl (dg_tp rfl (dgs_cons (dg_nm (i := 2) sc_law.nd rfl (.inl lk_law_2) (.inl rfl)) (dgs_cons (dg_nm (i := 3) sc_law.nd rfl (.inl lk_law_3) (.inl rfl)) dgs_nil (mono_nm _)) (mono_nm _))) (di_any (de_var (pv 1 rfl (.inl lk_law_1)))) (dss_one (ds_if (dw_pt (dw_or (dt_not (dt_val (de_cal C__law_echoes_fine (hr.mono (by omega)) rfl (da_cons (de_var (pv 2 rfl (.inl lk_law_2))) da_nil)))) (dw_or (dt_not (dt_val (de_cal C__law_echoes_fine (hr.mono (by omega)) rfl (da_cons (de_var (pv 3 rfl (.inl lk_law_3))) da_nil)))) (dw_or1 (dt_not (dt_val (de_cal C__law_two_fine (hr.mono (by omega)) rfl (da_cons (de_var (pv 2 rfl (.inl lk_law_2))) (da_cons (de_var (pv 3 rfl (.inl lk_law_3))) da_nil))))))))) (dss_one (ds_ret de_bl)) dss_nil)))
      (dss_cons (ds_set (i := 4) sc_law.nd rfl (.inl lk_law_4) (de_tup (da_cons (de_cal C_is_flat (hr.mono (by omega)) rfl (da_cons de_str da_nil)) (da_cons (de_cal C_are_vanishing (hr.mono (by omega)) rfl (da_cons de_str (da_cons de_str da_nil))) (da_cons (de_cal C_are_vanishing (hr.mono (by omega)) rfl (da_cons de_str (da_cons de_str da_nil))) da_nil)))) (.inl rfl))
      (dss_cons (ds_if (dt_not (dt_val (de_cal C__law_is (hr.mono (by omega)) rfl (da_cons (de_var (pv 4 rfl (.inl lk_law_4))) (da_cons (de_tup (da_cons de_bl (da_cons de_bl (da_cons de_bl da_nil)))) da_nil))))) (dss_one (ds_ret de_bl)) dss_nil)
      (dss_cons (ds_for (vs := [5]) PassesOwn.never rfl (dg_nm (i := 5) sc_law.nd rfl (.inl lk_law_5) (.inl rfl)) (di_rng1 z_range rfl (da_cons de_int da_nil)) (dss_cons (ds_set (i := 6) sc_law.nd rfl (.inl lk_law_6) (de_cal C__law_hand (hr.mono (by omega)) rfl (da_cons (de_var (pv 0 rfl (.inl lk_law_0))) (da_cons (de_var (pv 5 rfl (.inl lk_law_5))) da_nil))) (.inl rfl))
      (dss_cons (ds_set (i := 7) sc_law.nd rfl (.inl lk_law_7) (de_op o_add de_int (de_cal C__law_take (hr.mono (by omega)) rfl (da_cons (de_var (pv 6 rfl (.inl lk_law_6))) (da_cons de_int da_nil)))) (.inl rfl))
      (dss_cons (ds_par (i := 2) (j := 3) rfl sc_law.nd rfl rfl (by decide) lk_law_2 lk_law_3 (da_cons (de_cal C__law_signs (hr.mono (by omega)) rfl (da_cons (de_var (pv 6 rfl (.inl lk_law_6))) (da_cons (de_var (pv 7 rfl (.inl lk_law_7))) da_nil))) (da_cons (de_cal C__law_signs (hr.mono (by omega)) rfl (da_cons (de_var (pv 6 rfl (.inl lk_law_6))) (da_cons (de_var (pv 7 rfl (.inl lk_law_7))) da_nil))) da_nil)))
      (dss_cons (ds_for (vs := [8]) PassesOwn.never rfl (dg_nm (i := 8) sc_law.nd rfl (.inl lk_law_8) (.inl rfl)) (di_any (de_tup (da_cons (de_var (pv 2 rfl (.inl lk_law_2))) (da_cons (de_var (pv 3 rfl (.inl lk_law_3))) (da_cons (de_op o_mulA de_str (de_var (pv 7 rfl (.inl lk_law_7)))) (da_cons (de_op o_mulA de_str (de_var (pv 7 rfl (.inl lk_law_7)))) da_nil)))))) (dss_one (ds_if (dw_pt (dw_or (dt_not (dt_val (de_cal C__law_echoes_fine (hr.mono (by omega)) rfl (da_cons (de_var (pv 8 rfl (.inl lk_law_8))) da_nil)))) (dw_or (dt_not (dt_val (de_cal C__law_kin_fine (hr.mono (by omega)) rfl (da_cons (de_var (pv 6 rfl (.inl lk_law_6))) (da_cons (de_var (pv 8 rfl (.inl lk_law_8))) da_nil))))) (dw_or1 (dt_not (dt_val (de_cal C__law_two_fine (hr.mono (by omega)) rfl (da_cons (de_var (pv 2 rfl (.inl lk_law_2))) (da_cons (de_var (pv 8 rfl (.inl lk_law_8))) da_nil))))))))) (dss_one (ds_ret de_bl)) dss_nil)))
      (dss_cons (ds_set (i := 9) sc_law.nd rfl (.inl lk_law_9) (de_ix (u1 hr) (de_var (pv 1 rfl (.inl lk_law_1))) (de_cal C__law_take (hr.mono (by omega)) rfl (da_cons (de_var (pv 6 rfl (.inl lk_law_6))) (da_cons de_int da_nil)))) (.inl rfl))
      (dss_cons (ds_set (i := 10) sc_law.nd rfl (.inl lk_law_10) (de_cal C_wheel_turned (hr.mono (by omega)) rfl (da_cons (de_ix (u1 hr) (de_var (pv 9 rfl (.inl lk_law_9))) de_int) (da_cons (de_cal C__law_take (hr.mono (by omega)) rfl (da_cons (de_var (pv 6 rfl (.inl lk_law_6))) (da_cons de_int da_nil))) da_nil))) (.inl rfl))
      (dss_one (ds_if (dw_pt (dw_or (dt_not (dt_val (de_cal C__law_two_fine (hr.mono (by omega)) rfl (da_cons (de_var (pv 10 rfl (.inl lk_law_10))) (da_cons (de_ix (u1 hr) (de_var (pv 9 rfl (.inl lk_law_9))) de_int) da_nil))))) (dw_or1 (dt_not (dt_val (de_cal C__law_kin_fine (hr.mono (by omega)) rfl (da_cons (de_var (pv 6 rfl (.inl lk_law_6))) (da_cons (de_ix (u1 hr) (de_var (pv 9 rfl (.inl lk_law_9))) de_int) da_nil)))))))) (dss_one (ds_ret de_bl)) dss_nil)))))))))
      (dss_one (ds_ret de_bl)))))))))
/-! ### the head -/
def d_echo : He.DefD := ⟨("echo", none), "echo", "echo", defArgs s_echo, defBody s_echo, defScope s_echo, [], []⟩
def d_echoes : He.DefD := ⟨("echoes", none), "echoes", "echoes", defArgs s_echoes, defBody s_echoes, defScope s_echoes, [], []⟩
def d_is_flat : He.DefD := ⟨("is_flat", none), "is_flat", "is_flat", defArgs s_is_flat, defBody s_is_flat, defScope s_is_flat, [], []⟩
def d_are_fitting : He.DefD := ⟨("are_fitting", none), "are_fitting", "are_fitting", defArgs s_are_fitting, defBody s_are_fitting, defScope s_are_fitting, [], []⟩
def d_other_mask : He.DefD := ⟨("other_mask", none), "other_mask", "other_mask", defArgs s_other_mask, defBody s_other_mask, defScope s_other_mask, [], []⟩
def d_wheel_turned : He.DefD := ⟨("wheel_turned", none), "wheel_turned", "wheel_turned", defArgs s_wheel_turned, defBody s_wheel_turned, defScope s_wheel_turned, [], []⟩
def d_moved : He.DefD := ⟨("moved", none), "moved", "moved", defArgs s_moved, defBody s_moved, defScope s_moved, [], []⟩
def d_agreement : He.DefD := ⟨("agreement", none), "agreement", "agreement", defArgs s_agreement, defBody s_agreement, defScope s_agreement, [], []⟩
def d_shift_table : He.DefD := ⟨("shift_table", none), "shift_table", "shift_table", defArgs s_shift_table, defBody s_shift_table, defScope s_shift_table, [], []⟩
def d_sign_echo : He.DefD := ⟨("sign_echo", none), "sign_echo", "sign_echo", defArgs s_sign_echo, defBody s_sign_echo, defScope s_sign_echo, [], []⟩
def d_told_loud : He.DefD := ⟨("told_loud", none), "told_loud", "told_loud", defArgs s_told_loud, defBody s_told_loud, defScope s_told_loud, [], []⟩
def d_has_small_echoes : He.DefD := ⟨("has_small_echoes", none), "has_small_echoes", "has_small_echoes", defArgs s_has_small_echoes, defBody s_has_small_echoes, defScope s_has_small_echoes, [], []⟩
def d_told_leftover : He.DefD := ⟨("told_leftover", none), "told_leftover", "told_leftover", defArgs s_told_leftover, defBody s_told_leftover, defScope s_told_leftover, [], []⟩
def d_are_vanishing : He.DefD := ⟨("are_vanishing", none), "are_vanishing", "are_vanishing", defArgs s_are_vanishing, defBody s_are_vanishing, defScope s_are_vanishing, [], []⟩
def d_signs_exchanged : He.DefD := ⟨("signs_exchanged", none), "signs_exchanged", "signs_exchanged", defArgs s_signs_exchanged, defBody s_signs_exchanged, defScope s_signs_exchanged, [], []⟩
def d_doubled_pair : He.DefD := ⟨("doubled_pair", none), "doubled_pair", "doubled_pair", defArgs s_doubled_pair, defBody s_doubled_pair, defScope s_doubled_pair, [], []⟩
def d_woven : He.DefD := ⟨("woven", none), "woven", "woven", defArgs s_woven, defBody s_woven, defScope s_woven, [], []⟩
def d_woven_pair : He.DefD := ⟨("woven_pair", none), "woven_pair", "woven_pair", defArgs s_woven_pair, defBody s_woven_pair, defScope s_woven_pair, [], []⟩
def d__law_cell : He.DefD := ⟨("_law_cell", none), "_law_cell", "_law_cell", defArgs s__law_cell, defBody s__law_cell, defScope s__law_cell, [], []⟩
def d__law_draws : He.DefD := ⟨("_law_draws", none), "_law_draws", "_law_draws", defArgs s__law_draws, defBody s__law_draws, defScope s__law_draws, [], []⟩
def d__law_is_integer : He.DefD := ⟨("_law_is_integer", none), "_law_is_integer", "_law_is_integer", defArgs s__law_is_integer, defBody s__law_is_integer, defScope s__law_is_integer, [], []⟩
def d__law_is : He.DefD := ⟨("_law_is", none), "_law_is", "_law_is", defArgs s__law_is, defBody s__law_is, defScope s__law_is, [], []⟩
def d__law_hand : He.DefD := ⟨("_law_hand", none), "_law_hand", "_law_hand", defArgs s__law_hand, defBody s__law_hand, defScope s__law_hand, [], []⟩
def d__law_take : He.DefD := ⟨("_law_take", none), "_law_take", "_law_take", defArgs s__law_take, defBody s__law_take, defScope s__law_take, [], []⟩
def d__law_signs : He.DefD := ⟨("_law_signs", none), "_law_signs", "_law_signs", defArgs s__law_signs, defBody s__law_signs, defScope s__law_signs, [], []⟩
def d__law_shape_of : He.DefD := ⟨("_law_shape_of", none), "_law_shape_of", "_law_shape_of", defArgs s__law_shape_of, defBody s__law_shape_of, defScope s__law_shape_of, [], []⟩
def d__law_row_of : He.DefD := ⟨("_law_row_of", none), "_law_row_of", "_law_row_of", defArgs s__law_row_of, defBody s__law_row_of, defScope s__law_row_of, [], []⟩
def d__law_echoes_fine : He.DefD := ⟨("_law_echoes_fine", none), "_law_echoes_fine", "_law_echoes_fine", defArgs s__law_echoes_fine, defBody s__law_echoes_fine, defScope s__law_echoes_fine, [], []⟩
def d__law_kin_fine : He.DefD := ⟨("_law_kin_fine", none), "_law_kin_fine", "_law_kin_fine", defArgs s__law_kin_fine, defBody s__law_kin_fine, defScope s__law_kin_fine, [], []⟩
def d__law_two_fine : He.DefD := ⟨("_law_two_fine", none), "_law_two_fine", "_law_two_fine", defArgs s__law_two_fine, defBody s__law_two_fine, defScope s__law_two_fine, [], []⟩
def d_law : He.DefD := ⟨("law", none), "law", "law", defArgs s_law, defBody s_law, defScope s_law, [], []⟩
def fn : List He.DefD := [d_echo, d_echoes, d_is_flat, d_are_fitting, d_other_mask, d_wheel_turned, d_moved, d_agreement, d_shift_table, d_sign_echo, d_told_loud, d_has_small_echoes, d_told_leftover, d_are_vanishing, d_signs_exchanged, d_doubled_pair, d_woven, d_woven_pair, d__law_cell, d__law_draws, d__law_is_integer, d__law_is, d__law_hand, d__law_take, d__law_signs, d__law_shape_of, d__law_row_of, d__law_echoes_fine, d__law_kin_fine, d__law_two_fine, d_law]
def fa : List He.Fa := [.glo "echo", .glo "echoes", .glo "is_flat", .glo "are_fitting", .glo "other_mask", .glo "wheel_turned", .glo "moved", .glo "agreement", .glo "shift_table", .glo "sign_echo", .glo "told_loud", .glo "has_small_echoes", .glo "told_leftover", .glo "are_vanishing", .glo "signs_exchanged", .glo "doubled_pair", .glo "woven", .glo "woven_pair", .glo "_law_cell", .glo "_law_draws", .glo "_law_is_integer", .glo "_law_is", .glo "_law_hand", .glo "_law_take", .glo "_law_signs", .glo "_law_shape_of", .glo "_law_row_of", .glo "_law_echoes_fine", .glo "_law_kin_fine", .glo "_law_two_fine", .glo "law", .free "abs", .free "all", .free "bool", .free "int", .free "isinstance", .free "len", .free "range", .free "set", .free "sorted", .free "str", .free "sum", .free "tuple", .free "zip"]
abbrev R : PySem.W.OpenRow := PySem.W.OpenLaw.row PySem.Challenge.rw_shadehall_k02_whole_echoes_of_masks_rows
abbrev hk : PySem.W.Hook := He.hookD 4 fa fn
def ob (s : PySem.W.SharedT) : He.AlD := He.obsDG 4 fa fn (HandSHeadRun.getT s)
theorem ob_eq (s : PySem.W.SharedT) : ob s = hk.obs s.abs := He.obsDG_eq (HandSHeadRun.getT_eq s)
def loose : List PySem.Str := ["echo", "echoes", "is_flat", "are_fitting", "other_mask", "wheel_turned", "moved", "agreement", "shift_table", "sign_echo", "told_loud", "has_small_echoes", "told_leftover", "are_vanishing", "signs_exchanged", "doubled_pair", "woven", "woven_pair", "_law_cell", "_law_draws", "_law_is_integer", "_law_is", "_law_hand", "_law_take", "_law_signs", "_law_shape_of", "_law_row_of", "_law_echoes_fine", "_law_kin_fine", "_law_two_fine"]
theorem run (w : World) : HandSHeadRun.RunEq R (PySem.W.view R.prog [37]) hk ob 6000 loose w := by
  intro os
  kernel_rfl
theorem facts {P : Program} {w : World} {K : PySem.W.Frag} {h : Heap} {mg : Str → Option Value} {f : Addr} (X : K.In h) (G : h.Ns mainGlobals mg) (hfa : mg ("law" : Str) = some (.ref f)) (c : He.SaysD fa fn K) :
    ∃ fd : FuncData, (∀ (s : Shared) (v : Value), BindsTo s fd ⟨[v], []⟩ [("script", v)]) ∧ ∀ base : Heap, K.In base → base.Ns mainGlobals mg → FnOk P w K mg base CX0 9 f fd ["script"] (spD K 1 rd_law) := by
  obtain ⟨fd_echo, F_echo⟩ := c.def_ 0 (d := d_echo) rfl
  have m_echo := He.glo_ok X G (c.fact 0 (f := .glo "echo") rfl)
  obtain ⟨fd_echoes, F_echoes⟩ := c.def_ 1 (d := d_echoes) rfl
  have m_echoes := He.glo_ok X G (c.fact 1 (f := .glo "echoes") rfl)
  obtain ⟨fd_is_flat, F_is_flat⟩ := c.def_ 2 (d := d_is_flat) rfl
  have m_is_flat := He.glo_ok X G (c.fact 2 (f := .glo "is_flat") rfl)
  obtain ⟨fd_are_fitting, F_are_fitting⟩ := c.def_ 3 (d := d_are_fitting) rfl
  have m_are_fitting := He.glo_ok X G (c.fact 3 (f := .glo "are_fitting") rfl)
  obtain ⟨fd_other_mask, F_other_mask⟩ := c.def_ 4 (d := d_other_mask) rfl
  have m_other_mask := He.glo_ok X G (c.fact 4 (f := .glo "other_mask") rfl)
  obtain ⟨fd_wheel_turned, F_wheel_turned⟩ := c.def_ 5 (d := d_wheel_turned) rfl
  have m_wheel_turned := He.glo_ok X G (c.fact 5 (f := .glo "wheel_turned") rfl)
  obtain ⟨fd_moved, F_moved⟩ := c.def_ 6 (d := d_moved) rfl
  have m_moved := He.glo_ok X G (c.fact 6 (f := .glo "moved") rfl)
  obtain ⟨fd_agreement, F_agreement⟩ := c.def_ 7 (d := d_agreement) rfl
  have m_agreement := He.glo_ok X G (c.fact 7 (f := .glo "agreement") rfl)
  obtain ⟨fd_shift_table, F_shift_table⟩ := c.def_ 8 (d := d_shift_table) rfl
  have m_shift_table := He.glo_ok X G (c.fact 8 (f := .glo "shift_table") rfl)
  obtain ⟨fd_sign_echo, F_sign_echo⟩ := c.def_ 9 (d := d_sign_echo) rfl
  have m_sign_echo := He.glo_ok X G (c.fact 9 (f := .glo "sign_echo") rfl)
  obtain ⟨fd_told_loud, F_told_loud⟩ := c.def_ 10 (d := d_told_loud) rfl
  have m_told_loud := He.glo_ok X G (c.fact 10 (f := .glo "told_loud") rfl)
  obtain ⟨fd_has_small_echoes, F_has_small_echoes⟩ := c.def_ 11 (d := d_has_small_echoes) rfl
  have m_has_small_echoes := He.glo_ok X G (c.fact 11 (f := .glo "has_small_echoes") rfl)
  obtain ⟨fd_told_leftover, F_told_leftover⟩ := c.def_ 12 (d := d_told_leftover) rfl
  have m_told_leftover := He.glo_ok X G (c.fact 12 (f := .glo "told_leftover") rfl)
  obtain ⟨fd_are_vanishing, F_are_vanishing⟩ := c.def_ 13 (d := d_are_vanishing) rfl
  have m_are_vanishing := He.glo_ok X G (c.fact 13 (f := .glo "are_vanishing") rfl)
  obtain ⟨fd_signs_exchanged, F_signs_exchanged⟩ := c.def_ 14 (d := d_signs_exchanged) rfl
  have m_signs_exchanged := He.glo_ok X G (c.fact 14 (f := .glo "signs_exchanged") rfl)
  obtain ⟨fd_doubled_pair, F_doubled_pair⟩ := c.def_ 15 (d := d_doubled_pair) rfl
  have m_doubled_pair := He.glo_ok X G (c.fact 15 (f := .glo "doubled_pair") rfl)
  obtain ⟨fd_woven, F_woven⟩ := c.def_ 16 (d := d_woven) rfl
  have m_woven := He.glo_ok X G (c.fact 16 (f := .glo "woven") rfl)
  obtain ⟨fd_woven_pair, F_woven_pair⟩ := c.def_ 17 (d := d_woven_pair) rfl
  have m_woven_pair := He.glo_ok X G (c.fact 17 (f := .glo "woven_pair") rfl)
  obtain ⟨fd__law_cell, F__law_cell⟩ := c.def_ 18 (d := d__law_cell) rfl
  have m__law_cell := He.glo_ok X G (c.fact 18 (f := .glo "_law_cell") rfl)
  obtain ⟨fd__law_draws, F__law_draws⟩ := c.def_ 19 (d := d__law_draws) rfl
  have m__law_draws := He.glo_ok X G (c.fact 19 (f := .glo "_law_draws") rfl)
  obtain ⟨fd__law_is_integer, F__law_is_integer⟩ := c.def_ 20 (d := d__law_is_integer) rfl
  have m__law_is_integer := He.glo_ok X G (c.fact 20 (f := .glo "_law_is_integer") rfl)
  obtain ⟨fd__law_is, F__law_is⟩ := c.def_ 21 (d := d__law_is) rfl
  have m__law_is := He.glo_ok X G (c.fact 21 (f := .glo "_law_is") rfl)
  obtain ⟨fd__law_hand, F__law_hand⟩ := c.def_ 22 (d := d__law_hand) rfl
  have m__law_hand := He.glo_ok X G (c.fact 22 (f := .glo "_law_hand") rfl)
  obtain ⟨fd__law_take, F__law_take⟩ := c.def_ 23 (d := d__law_take) rfl
  have m__law_take := He.glo_ok X G (c.fact 23 (f := .glo "_law_take") rfl)
  obtain ⟨fd__law_signs, F__law_signs⟩ := c.def_ 24 (d := d__law_signs) rfl
  have m__law_signs := He.glo_ok X G (c.fact 24 (f := .glo "_law_signs") rfl)
  obtain ⟨fd__law_shape_of, F__law_shape_of⟩ := c.def_ 25 (d := d__law_shape_of) rfl
  have m__law_shape_of := He.glo_ok X G (c.fact 25 (f := .glo "_law_shape_of") rfl)
  obtain ⟨fd__law_row_of, F__law_row_of⟩ := c.def_ 26 (d := d__law_row_of) rfl
  have m__law_row_of := He.glo_ok X G (c.fact 26 (f := .glo "_law_row_of") rfl)
  obtain ⟨fd__law_echoes_fine, F__law_echoes_fine⟩ := c.def_ 27 (d := d__law_echoes_fine) rfl
  have m__law_echoes_fine := He.glo_ok X G (c.fact 27 (f := .glo "_law_echoes_fine") rfl)
  obtain ⟨fd__law_kin_fine, F__law_kin_fine⟩ := c.def_ 28 (d := d__law_kin_fine) rfl
  have m__law_kin_fine := He.glo_ok X G (c.fact 28 (f := .glo "_law_kin_fine") rfl)
  obtain ⟨fd__law_two_fine, F__law_two_fine⟩ := c.def_ 29 (d := d__law_two_fine) rfl
  have m__law_two_fine := He.glo_ok X G (c.fact 29 (f := .glo "_law_two_fine") rfl)
  obtain ⟨fd_law, F_law⟩ := c.def_ 30 (d := d_law) rfl
  have m_law := He.glo_ok X G (c.fact 30 (f := .glo "law") rfl)
  have z_abs := He.free_ok X G (c.fact 31 (f := .free "abs") rfl)
  have z_all := He.free_ok X G (c.fact 32 (f := .free "all") rfl)
  have z_bool := He.free_ok X G (c.fact 33 (f := .free "bool") rfl)
  have z_int := He.free_ok X G (c.fact 34 (f := .free "int") rfl)
  have z_isinstance := He.free_ok X G (c.fact 35 (f := .free "isinstance") rfl)
  have z_len := He.free_ok X G (c.fact 36 (f := .free "len") rfl)
  have z_range := He.free_ok X G (c.fact 37 (f := .free "range") rfl)
  have z_set := He.free_ok X G (c.fact 38 (f := .free "set") rfl)
  have z_sorted := He.free_ok X G (c.fact 39 (f := .free "sorted") rfl)
  have z_str := He.free_ok X G (c.fact 40 (f := .free "str") rfl)
  have z_sum := He.free_ok X G (c.fact 41 (f := .free "sum") rfl)
  have z_tuple := He.free_ok X G (c.fact 42 (f := .free "tuple") rfl)
  have z_zip := He.free_ok X G (c.fact 43 (f := .free "zip") rfl)
  have e := hfa.symm.trans m_law
  cases e
  have b := FunD.bindsA (ps := ["script"]) F_law fun _ _ _ _ _ _ us hl => match us, hl with | [_], _ => rfl
  refine ⟨fd_law, fun s v => b s [v] rfl, fun base _ _ => ?_⟩
  have C_echo := cal_echo (P := P) (w := w) (base := base) F_echo m_echo z_len z_range
  have C_echoes := cal_echoes (P := P) (w := w) (base := base) F_echoes m_echoes C_echo z_len z_range
  have C_is_flat := cal_is_flat (P := P) (w := w) (base := base) F_is_flat m_is_flat C_echoes z_len z_set
  have C_are_fitting := cal_are_fitting (P := P) (w := w) (base := base) F_are_fitting m_are_fitting C_echoes z_len z_set z_zip
  have C_other_mask := cal_other_mask (P := P) (w := w) (base := base) F_other_mask m_other_mask
  have C_wheel_turned := cal_wheel_turned (P := P) (w := w) (base := base) F_wheel_turned m_wheel_turned z_len
  have C_moved := cal_moved (P := P) (w := w) (base := base) F_moved m_moved z_tuple
  have C_agreement := cal_agreement (P := P) (w := w) (base := base) F_agreement m_agreement C_moved z_len
  have C_shift_table := cal_shift_table (P := P) (w := w) (base := base) F_shift_table m_shift_table z_sorted z_tuple
  have C_sign_echo := cal_sign_echo (P := P) (w := w) (base := base) F_sign_echo m_sign_echo z_len z_range
  have C_told_loud := cal_told_loud (P := P) (w := w) (base := base) F_told_loud m_told_loud C_sign_echo z_len z_range
  have C_has_small_echoes := cal_has_small_echoes (P := P) (w := w) (base := base) F_has_small_echoes m_has_small_echoes C_told_loud
  have C_told_leftover := cal_told_leftover (P := P) (w := w) (base := base) F_told_leftover m_told_leftover C_sign_echo z_len z_range
  have C_are_vanishing := cal_are_vanishing (P := P) (w := w) (base := base) F_are_vanishing m_are_vanishing C_told_leftover
  have C_signs_exchanged := cal_signs_exchanged (P := P) (w := w) (base := base) F_signs_exchanged m_signs_exchanged
  have C_doubled_pair := cal_doubled_pair (P := P) (w := w) (base := base) F_doubled_pair m_doubled_pair C_signs_exchanged
  have C_woven := cal_woven (P := P) (w := w) (base := base) F_woven m_woven z_len z_range
  have C_woven_pair := cal_woven_pair (P := P) (w := w) (base := base) F_woven_pair m_woven_pair C_signs_exchanged C_woven
  have C__law_cell := cal__law_cell (P := P) (w := w) (base := base) F__law_cell m__law_cell z_len
  have C__law_draws := cal__law_draws (P := P) (w := w) (base := base) F__law_draws m__law_draws z_abs z_int z_range
  have C__law_is_integer := cal__law_is_integer (P := P) (w := w) (base := base) F__law_is_integer m__law_is_integer z_bool z_int z_isinstance
  have C__law_is := cal__law_is (P := P) (w := w) (base := base) F__law_is m__law_is C__law_is_integer z_all z_bool z_int z_isinstance z_len z_range z_str z_tuple 6
  have C__law_hand := cal__law_hand (P := P) (w := w) (base := base) F__law_hand m__law_hand C__law_cell C__law_draws
  have C__law_take := cal__law_take (P := P) (w := w) (base := base) F__law_take m__law_take z_int
  have C__law_signs := cal__law_signs (P := P) (w := w) (base := base) F__law_signs m__law_signs C__law_take z_range
  have C__law_shape_of := cal__law_shape_of (P := P) (w := w) (base := base) F__law_shape_of m__law_shape_of z_len z_range z_tuple
  have C__law_row_of := cal__law_row_of (P := P) (w := w) (base := base) F__law_row_of m__law_row_of
  have C__law_echoes_fine := cal__law_echoes_fine (P := P) (w := w) (base := base) F__law_echoes_fine m__law_echoes_fine C__law_is C__law_row_of C__law_shape_of C_agreement C_echo C_has_small_echoes C_is_flat C_other_mask C_sign_echo C_told_loud z_abs z_len z_range z_set z_sum
  have C__law_kin_fine := cal__law_kin_fine (P := P) (w := w) (base := base) F__law_kin_fine m__law_kin_fine C__law_is C__law_row_of C__law_take C_echo C_has_small_echoes C_is_flat C_other_mask C_sign_echo C_wheel_turned z_len z_range
  have C__law_two_fine := cal__law_two_fine (P := P) (w := w) (base := base) F__law_two_fine m__law_two_fine C__law_is C__law_row_of C__law_shape_of C_are_fitting C_are_vanishing C_doubled_pair C_echo C_other_mask C_shift_table C_sign_echo C_told_leftover C_woven_pair z_len z_range z_set z_sum
  exact okLaw F_law C__law_echoes_fine C__law_hand C__law_is C__law_kin_fine C__law_signs C__law_take C__law_two_fine C_are_vanishing C_is_flat C_wheel_turned z_range
end Gn

set_option maxHeartbeats 400000
namespace Gn
open PySem PySem.Spec L2 L3
local macro_rules | `(tactic| walk_at "go") => `(tactic|
  ((conv => whnf)
   repeat
    (first
     | ((with_reducible refine And.intro ?sd ?_); (case sd => (first | decide | assumption | omega | exact rfl | exact mulR (by omega) (by omega) | exact mulL (by omega) (by omega) | exact div_ok (by omega) | exact pow_ok (by decide) | exact small_ok (by omega) | exact line_le (by decide))))
     | ((with_reducible apply Exists.intro); (refine And.intro rfl ?_))
     (conv => whnf))))
/-! ### the laws' own helpers -/
def cellAt (ns : List Int) (k : Nat) : Int := ns.getD k (5 * k + 3)
theorem cell_ok {ns : List Int} {i : Nat} {S : Sto} {Q : DK} (hi : i < 1000) (h : Q (.d (.int (cellAt ns i))) S) : rd__law_cell [.d (scrD ns), .d (.int i)] S Q := by
  rw [rd__law_cell_is]
  walk_at "go"
  refine Br.d (fun c => ?_) (fun c => ?_)
  · rw [List.length_map] at c
    have c' : i < ns.length := by omega
    walk_at "go"
    refine At.nat (z := .int ns[i]) (by rw [List.getElem?_map, List.getElem?_eq_getElem c']; rfl) ?_
    unfold cellAt at h
    rw [List.getD_eq_getElem?_getD, List.getElem?_eq_getElem c'] at h
    exact h
  · rw [List.length_map] at c
    have c' : ns.length ≤ i := by omega
    walk_at "go"
    unfold cellAt at h
    rw [List.getD_eq_getElem?_getD, List.getElem?_eq_none_iff.mpr c'] at h
    exact h
def Drawn (ds : List Int) : Prop := ds.length = 120 ∧ ∀ x ∈ ds, 0 ≤ x ∧ x < 5040
theorem draws_ok {c : Int} {S : Sto} {Q : DK} (h : ∀ ds, Drawn ds → Q (.d (.list (ds.map .int))) S) : rd__law_draws [.d (.int c), .d (.int 120)] S Q := by
  rw [rd__law_draws_is]
  walk_at "go"
  refine loop_inv (fun i ρ S' => S' = S ∧ ∃ (r sd : Int) (b : Bool) (ds : List Int) (x6 x7 : Slot), ρ = [.val (.d (.int c)), .val (.d (.int 120)), .val (.d (.int r)), .val (.d (.bool b)), .val (.d (.int sd)), .own (.lst (ds.map .int)), x6, x7] ∧ ds.length = i ∧ (∀ x ∈ ds, 0 ≤ x ∧ x < 5040)) (rng 0 120) 0 (fun j x e ρ S' K hI hK => ?_) (fun ρ S' hI => ?_) _ _ ⟨rfl, _, _, _, [], _, _, rfl, rfl, by simp⟩
  · obtain ⟨rfl, r, sd, b, ds, x6, x7, rfl, hl, hd⟩ := hI
    obtain ⟨hj, rfl⟩ := rng_get e
    refine ⟨trivial, ?_⟩
    have fin : ∀ (r : Int) (y : Int) (x7 : Slot), 0 ≤ y → y < 5040 → K [.val (.d (.int c)), .val (.d (.int 120)), .val (.d (.int r)), .val (.d (.bool b)), .val (.d (.int sd)), .own (.lst (ds.map .int ++ [.int y])), .val (.d (.int (0 + (j : Int)))), x7] S' := fun r y x7 h1 h2 => by
      refine hK _ _ ⟨rfl, r, sd, b, ds ++ [y], _, x7, by rw [List.map_append]; rfl, by rw [List.length_append, hl]; rfl, fun z hz => ?_⟩
      rcases List.mem_append.mp hz with hz | hz
      · exact hd z hz
      · rw [List.mem_singleton.mp hz]; exact ⟨h1, h2⟩
    have hlen : (ds.map PyData.int).length < sizeLine := line_lt (by rw [List.length_map]; omega)
    cases b with
    | true =>
      walk_at "go"
      refine Br.d (fun c0 => ?_) (fun c0 => ?_)
      · walk_at "go"
        exact fin _ _ _ (by omega) (by omega)
      · walk_at "go"
        exact fin _ _ _ (by omega) (by omega)
    | false =>
      walk_at "go"
      exact fin _ _ _ (by omega) (by omega)
  · obtain ⟨rfl, r, sd, b, ds, x6, x7, rfl, hl, hd⟩ := hI
    refine ⟨trivial, ?_⟩
    walk_at "go"
    exact h ds ⟨by rw [hl, rng_len], hd⟩
def isI : D → Bool
  | .int _ => true
  | _ => false
theorem is_integer_ok {x : D} {S : Sto} {Q : DK} (hx : ∀ kvs, x ≠ .dict kvs) (h : Q (.d (.bool (isI x))) S) : rd__law_is_integer [.d x] S Q := by
  rw [rd__law_is_integer_is]
  cases x with
  | dict kvs => exact absurd rfl (hx kvs)
  | _ => walk_at "go"; exact h
/-- what _law_is can look at, no deeper than n -/
def pl : Nat → D → Bool
  | _ + 1, .none => true
  | _ + 1, .bool _ => true
  | _ + 1, .int _ => true
  | _ + 1, .str _ => true
  | n + 1, .tuple xs => decide (xs.length ≤ 1000) && xs.all (pl n)
  | _, _ => false
theorem boolsT : ∀ xs : List D, boolsOf (xs.map fun _ => .bool true) = some (List.replicate xs.length true)
  | [] => rfl
  | x :: xs => by
    show (boolsOf (xs.map fun _ => .bool true)).map (true :: ·) = _
    rw [boolsT xs]
    rfl
theorem allT (n : Nat) : (List.replicate n true).all id = true := by
  induction n with
  | zero => rfl
  | succ n ih => rw [List.replicate_succ, List.all_cons, ih]; rfl
theorem is_same : ∀ (k : Nat) (x : D), pl k x = true → ∀ {S : Sto} {Q : DK}, Q (.d (.bool true)) S → rd__law_is k [.d x, .d x] S Q
  | 0, x, h, S, Q, _ => by cases x <;> cases h
  | k + 1, x, h, S, Q, q => by
    rw [rd__law_is_is]
    cases x with
    | dict kvs => cases h
    | list xs => cases h
    | none => walk_at "go"; exact q
    | bool b =>
      walk_at "go"
      rw [decide_eq_true rfl]
      exact q
    | int i =>
      walk_at "go"
      refine is_integer_ok (fun _ z => by cases z) ?_
      walk_at "go"
      rw [decide_eq_true rfl]
      exact q
    | str z =>
      walk_at "go"
      rw [decide_eq_true rfl]
      exact q
    | tuple xs =>
      have h' : xs.length ≤ 1000 ∧ ∀ y ∈ xs, pl k y = true := by
        simp only [pl, Bool.and_eq_true, decide_eq_true_eq, List.all_eq_true] at h
        exact h
      walk_at "go"
      refine Br.f' (by rw [decide_eq_true rfl]; rfl) ?_
      walk_at "go"
      refine L3.comp_map (fun _ => .bool true) _ ?_ ?_ (fun y hy K K' hK => ?_) ?_
      · exact trivial
      · rw [rng_len]
        omega
      · obtain ⟨j, hj⟩ := List.mem_iff_getElem?.mp hy
        obtain ⟨j1, rfl⟩ := rng_get hj
        have j2 : j < xs.length := by omega
        walk_at "go"
        refine At.int (z := xs[j]) (by omega) (by rw [show (0 + (j : Int)).toNat = j by omega]; exact List.getElem?_eq_getElem j2) ?_
        walk_at "go"
        refine At.int (z := xs[j]) (by omega) (by rw [show (0 + (j : Int)).toNat = j by omega]; exact List.getElem?_eq_getElem j2) ?_
        walk_at "go"
        exact is_same k _ (h'.2 _ (List.getElem_mem j2)) hK
      · (conv => whnf)
        rw [boolsT]
        (conv => whnf)
        rw [allT]
        exact q
/-- the hand: its draws, how many are taken -/
def handC (ds : List Int) (at_ : Nat) : Cell := .dK [(.inr (Str.ofString "draws"), .list (ds.map .int)), (.inr (Str.ofString "at"), .int at_)]
theorem hand_ok {ns : List Int} {i : Nat} {S : Sto} {Q : DK} (hi : i < 1000) (h : ∀ ds, Drawn ds → Q (.ref S.length) (S ++ [handC ds 0])) : rd__law_hand [.d (scrD ns), .d (.int i)] S Q := by
  rw [rd__law_hand_is]
  walk_at "go"
  refine cell_ok hi ?_
  walk_at "go"
  refine draws_ok fun ds hd => ?_
  walk_at "go"
  exact h ds hd
theorem keyne : keyEq (.str (Str.ofString "draws")) (.str (Str.ofString "at")) = false := by decide +kernel
theorem keyee {z : Str} : keyEq (.str z) (.str z) = true := decide_eq_true rfl
theorem look_at {ds : List Int} {a : Nat} : lookD [(.str (Str.ofString "draws"), .list (ds.map .int)), (.str (Str.ofString "at"), .int a)] (.str (Str.ofString "at")) = some (.int a) := by
  simp only [lookD, keyne, keyee, cond_true, cond_false]
theorem look_draws {ds : List Int} {a : Int} : lookD [(.str (Str.ofString "draws"), .list (ds.map .int)), (.str (Str.ofString "at"), .int a)] (.str (Str.ofString "draws")) = some (.list (ds.map .int)) := by
  simp only [lookD, keyee, cond_true]
theorem put_at {ds : List Int} {a : Nat} {v : D} : putD [(.inr (Str.ofString "draws"), .list (ds.map .int)), (.inr (Str.ofString "at"), .int a)] (.inr (Str.ofString "at")) v = [(.inr (Str.ofString "draws"), .list (ds.map .int)), (.inr (Str.ofString "at"), v)] := by
  have e1 : decide ((Sum.inr (Str.ofString "draws") : Key) = Sum.inr (Str.ofString "at")) = false := by decide +kernel
  have e2 : ¬ ((Sum.inr (Str.ofString "draws") : Key) = Sum.inr (Str.ofString "at")) := of_decide_eq_false e1
  unfold putD
  rw [if_pos (by simp)]
  simp only [List.map_cons, List.map_nil, if_neg e2, if_true]
theorem view_ref {ρ : Env3} {S : Sto} {n : Nat} {c : Cell} (h : S[n]? = some c) : view ρ S (.ref n) = cellD c := by
  show (match S[n]? with | some c => cellD c | none => .none) = _
  rw [h]
theorem take_ok {n a : Nat} {m : Int} {ds : List Int} {S : Sto} {Q : DK} (hS : S[n]? = some (handC ds a)) (hd : Drawn ds) (ha : a < 1000000) (hm : 0 < m) (h : ∀ t, 0 ≤ t → t < m → Q (.d (.int t)) (S.set n (handC ds (a + 1)))) :
    rd__law_take [.ref n, .d (.int m)] S Q := by
  have hn : n < S.length := (List.getElem?_eq_some_iff.mp hS).1
  rw [rd__law_take_is]
  (conv => whnf)
  rw [view_ref hS]
  (conv => whnf)
  refine ⟨_, look_at, ?_⟩
  walk_at "go"
  rw [hS]
  (conv => whnf)
  refine ⟨line_lt (by rw [List.length_cons, List.length_cons, List.length_nil]; omega), ?_⟩
  rw [put_at]
  (conv => whnf)
  rw [view_ref (List.getElem?_set_self hn)]
  (conv => whnf)
  refine ⟨_, look_draws, ?_⟩
  walk_at "go"
  have e0 : 0 ≤ (a : Int) % 120 ∧ (a : Int) % 120 < 120 := ⟨Int.emod_nonneg _ (by decide), Int.emod_lt_of_pos _ (by decide)⟩
  have e1 : ((a : Int) % 120).toNat < ds.length := by rw [hd.1]; omega
  obtain ⟨x, hx, hx0, hx1⟩ : ∃ x, ds[((a : Int) % 120).toNat]? = some x ∧ 0 ≤ x ∧ x < 5040 := ⟨_, List.getElem?_eq_getElem e1, hd.2 _ (List.getElem_mem e1)⟩
  refine At.int (z := .int x) e0.1 (by rw [List.getElem?_map, hx]; rfl) ?_
  walk_at "go"
  have e2 : 0 ≤ (a : Int) / 120 % 3 ∧ (a : Int) / 120 % 3 < 3 := ⟨Int.emod_nonneg _ (by decide), Int.emod_lt_of_pos _ (by decide)⟩
  obtain ⟨w, hw, hw0, hw1⟩ : ∃ w : Int, ([.int 1, .int 7, .int 59] : List D)[((a : Int) / 120 % 3).toNat]? = some (.int w) ∧ 1 ≤ w ∧ w ≤ 59 := by
    have : (a : Int) / 120 % 3 = 0 ∨ (a : Int) / 120 % 3 = 1 ∨ (a : Int) / 120 % 3 = 2 := by omega
    rcases this with q | q | q <;> rw [q]
    · exact ⟨1, rfl, by decide, by decide⟩
    · exact ⟨7, rfl, by decide, by decide⟩
    · exact ⟨59, rfl, by decide, by decide⟩
  refine At.int (z := .int w) e2.1 hw ?_
  walk_at "go"
  exact h _ (Int.emod_nonneg _ (by omega)) (Int.emod_lt_of_pos _ hm)
end Gn

set_option maxHeartbeats 400000
namespace Gn
/-! ### sums -/
def sm : Nat → (Nat → Int) → Int
  | 0, _ => 0
  | n + 1, f => sm n f + f n
theorem sm_congr {f g : Nat → Int} : ∀ {n : Nat}, (∀ i, i < n → f i = g i) → sm n f = sm n g
  | 0, _ => rfl
  | n + 1, h => by
    show sm n f + f n = sm n g + g n
    rw [sm_congr fun i hi => h i (Nat.lt_succ_of_lt hi), h n (Nat.lt_succ_self n)]
theorem sm_add (f g : Nat → Int) : ∀ n : Nat, sm n (fun i => f i + g i) = sm n f + sm n g
  | 0 => rfl
  | n + 1 => by
    show sm n (fun i => f i + g i) + (f n + g n) = (sm n f + f n) + (sm n g + g n)
    rw [sm_add f g n]
    omega
theorem sm_mul (c : Int) (f : Nat → Int) : ∀ n : Nat, sm n (fun i => c * f i) = c * sm n f
  | 0 => (Int.mul_zero c).symm
  | n + 1 => by
    show sm n (fun i => c * f i) + c * f n = c * (sm n f + f n)
    rw [sm_mul c f n, Int.mul_add]
theorem sm_mulR (c : Int) (f : Nat → Int) (n : Nat) : sm n (fun i => f i * c) = sm n f * c := by
  rw [sm_congr (g := fun i => c * f i) fun i _ => Int.mul_comm _ _, sm_mul, Int.mul_comm]
theorem sm_const (c : Int) : ∀ n : Nat, sm n (fun _ => c) = (n : Int) * c
  | 0 => (Int.zero_mul c).symm
  | n + 1 => by
    show sm n (fun _ => c) + c = _
    rw [sm_const c n, Int.natCast_succ, Int.add_mul, Int.one_mul]
theorem sm_zero (n : Nat) : sm n (fun _ => 0) = 0 := by rw [sm_const, Int.mul_zero]
theorem sm_neg (f : Nat → Int) (n : Nat) : sm n (fun i => - f i) = - sm n f := by
  rw [sm_congr (g := fun i => (-1) * f i) fun i _ => by omega, sm_mul]
  omega
theorem sm_sub (f g : Nat → Int) (n : Nat) : sm n (fun i => f i - g i) = sm n f - sm n g := by
  rw [sm_congr (f := fun i => f i - g i) (g := fun i => f i + - g i) fun i _ => Int.sub_eq_add_neg, sm_add f (fun i => - g i), sm_neg]
  rfl
theorem sm_split (f : Nat → Int) (a : Nat) : ∀ b : Nat, sm (a + b) f = sm a f + sm b (fun i => f (a + i))
  | 0 => (Int.add_zero _).symm
  | b + 1 => by
    show sm (a + b) f + f (a + b) = sm a f + (sm b (fun i => f (a + i)) + f (a + b))
    rw [sm_split f a b]
    omega
theorem sm_first (f : Nat → Int) (n : Nat) : sm (n + 1) f = f 0 + sm n (fun i => f (i + 1)) := by
  rw [show n + 1 = 1 + n by omega, sm_split f 1 n]
  have e : sm 1 f = f 0 := by
    show sm 0 f + f 0 = f 0
    exact Int.zero_add _
  rw [e, sm_congr (f := fun i => f (1 + i)) (g := fun i => f (i + 1)) fun i _ => by rw [Nat.add_comm]]
theorem sm_rev (f : Nat → Int) : ∀ n : Nat, sm n (fun i => f (n - 1 - i)) = sm n f
  | 0 => rfl
  | n + 1 => by
    rw [sm_first]
    show f (n + 1 - 1 - 0) + _ = sm n f + f n
    rw [show n + 1 - 1 - 0 = n by omega, sm_congr (f := fun i => f (n + 1 - 1 - (i + 1))) (g := fun i => f (n - 1 - i)) fun i _ => by rw [show n + 1 - 1 - (i + 1) = n - 1 - i by omega], sm_rev f n]
    omega
theorem sm_swap (f : Nat → Nat → Int) (m : Nat) : ∀ n : Nat, sm n (fun i => sm m (f i)) = sm m (fun j => sm n (fun i => f i j))
  | 0 => (sm_zero m).symm
  | n + 1 => by
    show sm n (fun i => sm m (f i)) + sm m (f n) = sm m (fun j => sm n (fun i => f i j) + f n j)
    rw [sm_swap f m n, sm_add]
/-- once round -/
theorem sm_rot (f : Nat → Int) {n k : Nat} (hk : k ≤ n) (hn : 0 < n) : sm n (fun i => f ((i + k) % n)) = sm n f := by
  obtain ⟨m, rfl⟩ : ∃ m, n = m + k := ⟨n - k, by omega⟩
  rw [sm_split (fun i => f ((i + k) % (m + k))) m k, Nat.add_comm m k, sm_split f k m, Int.add_comm]
  congr 1
  · refine sm_congr fun i hi => ?_
    show f ((m + i + k) % (k + m)) = f i
    rw [show m + i + k = i + (k + m) by omega, Nat.add_mod_right, Nat.mod_eq_of_lt (by omega)]
  · refine sm_congr fun i hi => ?_
    show f ((i + k) % (k + m)) = f (k + i)
    rw [Nat.mod_eq_of_lt (by omega), Nat.add_comm]
theorem sm_rotZ (f : Nat → Int) {n : Nat} (k : Nat) (hn : 0 < n) : sm n (fun i => f ((i + k) % n)) = sm n f := by
  rw [← sm_rot f (k := k % n) (Nat.le_of_lt (Nat.mod_lt _ hn)) hn]
  refine sm_congr fun i _ => ?_
  show f ((i + k) % n) = f ((i + k % n) % n)
  rw [Nat.add_mod, Nat.add_mod i (k % n), Nat.mod_mod]
/-- how many -/
def ind (b : Bool) : Int := if b then 1 else 0
theorem count_sm (p : Nat → Bool) : ∀ n : Nat, (((List.range n).filter p).length : Int) = sm n fun i => ind (p i)
  | 0 => rfl
  | n + 1 => by
    rw [List.range_succ, List.filter_append, List.length_append, Int.natCast_add, count_sm p n]
    show _ = sm n (fun i => ind (p i)) + ind (p n)
    congr 1
    unfold ind
    cases h : p n <;> simp [h]
theorem list_sm (f : Nat → Int) : ∀ n : Nat, ((List.range n).map f).sum = sm n f
  | 0 => rfl
  | n + 1 => by
    rw [List.range_succ, List.map_append, List.sum_append, list_sm f n]
    show _ = sm n f + f n
    simp
/-- the square of a sum of signs -/
theorem sq_signs (f : Nat → Int) (h : ∀ i, f i * f i = 1) : ∀ n : Nat, sm n f * sm n f = (n : Int) + 2 * sm n (fun k => if k = 0 then 0 else sm (n - k) fun i => f i * f (i + k))
  | 0 => rfl
  | n + 1 => by
    have e0 : sm (n + 1) (fun k => if k = 0 then 0 else sm (n + 1 - k) fun i => f i * f (i + k)) = sm n (fun k => sm (n - k) fun i => f i * f (i + (k + 1))) := by
      rw [sm_first]
      show (0 : Int) + sm n (fun k => if k + 1 = 0 then 0 else sm (n + 1 - (k + 1)) fun i => f i * f (i + (k + 1))) = _
      rw [Int.zero_add]
      exact sm_congr fun k _ => by rw [if_neg (by omega), show n + 1 - (k + 1) = n - k by omega]
    have e1 : sm n (fun k => if k = 0 then 0 else sm (n - k) fun i => f i * f (i + k)) = sm n (fun k => sm (n - (k + 1)) fun i => f i * f (i + (k + 1))) := by
      cases n with
      | zero => rfl
      | succ m =>
        rw [sm_first]
        show (0 : Int) + sm m (fun k => if k + 1 = 0 then 0 else sm (m + 1 - (k + 1)) fun i => f i * f (i + (k + 1))) = sm m (fun k => sm (m + 1 - (k + 1)) fun i => f i * f (i + (k + 1))) + sm (m + 1 - (m + 1)) (fun i => f i * f (i + (m + 1)))
        rw [Int.zero_add, show m + 1 - (m + 1) = 0 by omega]
        show _ = _ + (0 : Int)
        rw [Int.add_zero]
        exact sm_congr fun k _ => by rw [if_neg (by omega)]
    have e2 : sm n (fun k => sm (n - k) fun i => f i * f (i + (k + 1))) = sm n (fun k => sm (n - (k + 1)) fun i => f i * f (i + (k + 1))) + sm n f * f n := by
      rw [← sm_rev f n, ← sm_mulR, ← sm_add]
      refine sm_congr fun k hk => ?_
      obtain ⟨d, hd⟩ : ∃ d, n - k = d + 1 := ⟨n - k - 1, by omega⟩
      rw [hd, show n - (k + 1) = d by omega, show n - 1 - k = d by omega]
      show sm d _ + f d * f (d + (k + 1)) = _
      rw [show d + (k + 1) = n by omega]
    rw [e0, e2, ← e1]
    show (sm n f + f n) * (sm n f + f n) = _
    have hs := sq_signs f h n
    have hn := h n
    rw [Int.add_mul, Int.mul_add, Int.mul_add, hs, hn, Int.mul_comm (f n) (sm n f), Int.natCast_succ]
    omega
end Gn

set_option maxHeartbeats 400000
namespace Gn
open PySem PySem.Spec L2 L3
local macro_rules | `(tactic| walk_at "go") => `(tactic|
  ((conv => whnf)
   repeat
    (first
     | ((with_reducible refine And.intro ?sd ?_); (case sd => (first | decide | assumption | omega | exact rfl | exact trivial | exact Nat.le_of_ble_eq_true rfl | exact mulR (by omega) (by omega) | exact mulL (by omega) (by omega) | exact div_ok (by omega) | exact pow_ok (by decide) | exact small_ok (by omega) | exact line_le (by decide) | exact line_le (Nat.le_of_ble_eq_true rfl) | exact line_le (by simp [ct_len]; omega) | exact line_lt (by simp [ct_len]; omega) | exact line_lt (Nat.le_of_ble_eq_true rfl))))
     | ((with_reducible apply Exists.intro); (refine And.intro rfl ?_))
     (conv => whnf))))

/-! ### texts of two signs -/
def cx (b : Bool) : Nat := bif b then 120 else 46
def cp (b : Bool) : Nat := bif b then 43 else 45
def ct (c : Bool → Nat) (l : List Bool) : Str := SX.S (l.map c)
abbrev tx (l : List Bool) : Str := ct cx l
abbrev px (l : List Bool) : Str := ct cp l
theorem ct_len (c : Bool → Nat) (a : List Bool) : (ct c a).length = a.length := by unfold ct; rw [SX.S_len, List.length_map]
theorem ct_cat (c : Bool → Nat) (a b : List Bool) : ct c a ++ ct c b = ct c (a ++ b) := by
  unfold ct
  rw [SX.S_cat, List.map_append]
theorem ct_cut (c : Bool → Nat) (a : List Bool) (lo hi : Option Int) : cutS (ct c a) lo hi = ct c (cut a lo hi) := by unfold ct; rw [cutS_S, cut_map]
theorem ct_rev (c : Bool → Nat) (a : List Bool) : revS (ct c a) = ct c a.reverse := by unfold ct; rw [revS_S, List.map_reverse]
theorem str_x : Str.ofString "x" = tx [true] := by decide +kernel
theorem str_o : Str.ofString "." = tx [false] := by decide +kernel
theorem str_p : Str.ofString "+" = px [true] := by decide +kernel
theorem str_m : Str.ofString "-" = px [false] := by decide +kernel
theorem ct_nil (c : Bool → Nat) : Str.ofString "" = ct c [] := str_nil
theorem ct_at (c : Bool → Nat) {l : List Bool} {i : Nat} {k : Nat → Prop} (hi : i < l.length) (h : k (c (l.getD i false))) : At (ct c l).cps.toList (i : Int) k := by
  refine At.nat (z := c l[i]) ?_ ?_
  · show (l.map c)[i]? = _
    rw [List.getElem?_map, List.getElem?_eq_getElem hi]
    rfl
  · rw [List.getD_eq_getElem?_getD, List.getElem?_eq_getElem hi] at h
    exact h
theorem eq_x (b : Bool) : decide ((⟨#[cx b]⟩ : Str) = Str.ofString "x") = b := by cases b <;> decide +kernel
theorem eq_o (b : Bool) : decide ((⟨#[cx b]⟩ : Str) = Str.ofString ".") = !b := by cases b <;> decide +kernel
theorem eq_p (b : Bool) : decide ((⟨#[cp b]⟩ : Str) = Str.ofString "+") = b := by cases b <;> decide +kernel
theorem eq_pp (a b : Bool) : decide ((⟨#[cp a]⟩ : Str) = ⟨#[cp b]⟩) = (a == b) := by cases a <;> cases b <;> decide +kernel
def bt (l : List Bool) (i : Nat) : Int := ind (l.getD i false)
def sg (l : List Bool) (i : Nat) : Int := if l.getD i false then 1 else -1
/-- the law's numbers -/
def echo (l : List Bool) (k : Nat) : Int := sm l.length fun i => bt l i * bt l ((i + k) % l.length)
def sech (l : List Bool) (k : Nat) : Int := sm (l.length - k) fun i => sg l i * sg l (i + k)
theorem ind_and (a b : Bool) : ind (a && b) = ind a * ind b := by cases a <;> cases b <;> decide
theorem sg_mul (l : List Bool) (i j : Nat) : sg l i * sg l j = if l.getD i false == l.getD j false then 1 else -1 := by
  unfold sg
  cases l.getD i false <;> cases l.getD j false <;> decide
theorem sg_bt (l : List Bool) (i : Nat) : sg l i = 2 * bt l i - 1 := by
  unfold sg bt ind
  cases l.getD i false <;> decide
theorem sg_sq (l : List Bool) (i : Nat) : sg l i * sg l i = 1 := by
  rw [sg_mul]
  simp
theorem bt_sq (l : List Bool) (i : Nat) : bt l i * bt l i = bt l i := by
  unfold bt ind
  cases l.getD i false <;> decide
theorem cast_mod (i k n : Nat) : ((i : Int) + (k : Int)) % (n : Int) = (((i + k) % n : Nat) : Int) := by rw [Int.natCast_emod, Int.natCast_add]
end Gn

set_option maxHeartbeats 400000
namespace Gn
open PySem PySem.Spec L2 L3
local macro_rules | `(tactic| walk_at "go") => `(tactic|
  ((conv => whnf)
   repeat
    (first
     | ((with_reducible refine And.intro ?sd ?_); (case sd => (first | decide | assumption | omega | exact rfl | exact trivial | exact Nat.le_of_ble_eq_true rfl | exact mulR (by omega) (by omega) | exact mulL (by omega) (by omega) | exact div_ok (by omega) | exact pow_ok (by decide) | exact small_ok (by omega) | exact line_le (by decide) | exact line_le (Nat.le_of_ble_eq_true rfl) | exact line_le (by simp [ct_len]; omega) | exact line_lt (by simp [ct_len]; omega) | exact line_lt (Nat.le_of_ble_eq_true rfl))))
     | ((with_reducible apply Exists.intro); (refine And.intro rfl ?_))
     (conv => whnf))))
section
variable {S : Sto} {Q : DK}
theorem echo_ok {l : List Bool} {k : Nat} (hl : l.length ≤ 1000) (hk : k ≤ 1000) (h : Q (.d (.int (echo l k))) S) : rd_echo [.d (.str (tx l)), .d (.int k)] S Q := by
  rw [rd_echo_is]
  walk_at "go"
  rw [ct_len]
  walk_at "go"
  refine comp_rngF (fun i => l.getD i false && l.getD ((i + k) % l.length) false) (fun i => .int (i : Nat)) l.length (by omega) (fun i hi K K' hK hK' => ?_) ?_
  · walk_at "go"
    refine ct_at cx hi ?_
    walk_at "go"
    rw [eq_x]
    refine Br.i (fun c => ?_) (fun c => ?_)
    · walk_at "go"
      rw [cast_mod]
      refine ct_at cx (Nat.mod_lt _ (by omega)) ?_
      walk_at "go"
      rw [eq_x]
      refine Br.i (fun c' => hK (by rw [c, c']; rfl)) (fun c' => hK' (by rw [c, c']; rfl))
    · walk_at "go"
      exact hK' (by rw [c]; rfl)
  · walk_at "go"
    rw [List.length_map, count_sm]
    unfold echo at h
    rw [sm_congr (g := fun i => bt l i * bt l ((i + k) % l.length)) fun i _ => ind_and _ _]
    exact h
theorem sech_ok {l : List Bool} {k : Nat} (hl : l.length ≤ 1000) (hk : k ≤ l.length) (h : Q (.d (.int (sech l k))) S) : rd_sign_echo [.d (.str (px l)), .d (.int k)] S Q := by
  rw [rd_sign_echo_is]
  walk_at "go"
  rw [ct_len]
  walk_at "go"
  refine loop_inv (fun i ρ S' => S' = S ∧ ∃ x, ρ = [.val (.d (.str (px l))), .val (.d (.int k)), .val (.d (.int (sm i fun i => sg l i * sg l (i + k)))), x]) (rng 0 _) 0 (fun j x e ρ S' K hI hK => ?_) (fun ρ S' hI => ?_) _ _ ⟨rfl, _, rfl⟩
  · obtain ⟨rfl, x3, rfl⟩ := hI
    obtain ⟨hj, rfl⟩ := rng_get e
    rw [Nat.zero_add] at *
    have h1 : j + k < l.length := by omega
    refine ⟨trivial, ?_⟩
    walk_at "go"
    rw [Int.zero_add]
    refine ct_at cp (by omega) ?_
    walk_at "go"
    rw [← Int.natCast_add]
    refine ct_at cp h1 ?_
    walk_at "go"
    rw [eq_pp]
    have key : ∀ v : Int, v = sg l j * sg l (j + k) → K [.val (.d (.str (px l))), .val (.d (.int k)), .val (.d (.int (sm j (fun i => sg l i * sg l (i + k)) + v))), .val (.d (.int (j : Nat)))] S' := fun v e => by
      subst e
      exact hK _ _ ⟨rfl, _, rfl⟩
    refine Br.i (fun c => ?_) (fun c => ?_)
    · walk_at "go"
      exact key 1 (by rw [sg_mul, c]; rfl)
    · walk_at "go"
      exact key (-1) (by rw [sg_mul, c]; rfl)
  · obtain ⟨rfl, x3, rfl⟩ := hI
    refine ⟨trivial, ?_⟩
    walk_at "go"
    rw [rng_len, Nat.zero_add]
    unfold sech at h
    rw [show (↑l.length - ↑k : Int).toNat = l.length - k by omega]
    exact h
end
end Gn

set_option maxHeartbeats 400000
namespace Gn
open PySem PySem.Spec L2 L3
local macro_rules | `(tactic| walk_at "go") => `(tactic|
  ((conv => whnf)
   repeat
    (first
     | ((with_reducible refine And.intro ?sd ?_); (case sd => (first | decide | assumption | omega | exact rfl | exact trivial | exact Nat.le_of_ble_eq_true rfl | exact mulR (by omega) (by omega) | exact mulL (by omega) (by omega) | exact div_ok (by omega) | exact pow_ok (by decide) | exact small_ok (by omega) | exact line_le (by decide) | exact line_le (Nat.le_of_ble_eq_true rfl) | exact line_le (by simp [ct_len]; omega) | exact line_lt (by simp [ct_len]; omega) | exact line_lt (Nat.le_of_ble_eq_true rfl))))
     | ((with_reducible apply Exists.intro); (refine And.intro rfl ?_))
     (conv => whnf))))

theorem signs_ct (c : Bool → Nat) (bs : List Bool) : signs (ct c bs) = bs.map fun b => .str (ct c [b]) := by
  unfold ct
  rw [signs_S, List.map_map]
  rfl
theorem ct_map (c : Bool → Nat) (g : Bool → Bool) (bs : List Bool) : (bs.map fun b => (.str (ct c [g b]) : D)) = ((bs.map g).map c).map fun x => .str (SX.S [x]) := by
  rw [List.map_map, List.map_map]
  rfl
theorem eq_x' (b : Bool) : decide (tx [b] = Str.ofString "x") = b := by cases b <;> decide +kernel
theorem eq_p' (b : Bool) : decide (px [b] = Str.ofString "+") = b := by cases b <;> decide +kernel
theorem eq_cx (a v : Bool) : decide ((⟨#[cx a]⟩ : Str) = tx [v]) = (a == v) := by cases a <;> cases v <;> decide +kernel
theorem join_ct {c : Bool → Nat} {l : List Bool} {k : D → Prop} (hl : l.length ≤ 16777216) (h : k (.str (ct c l))) : fJoin (.str (Str.ofString "")) [.list ((l.map c).map fun x => .str (SX.S [x]))] k := join_ok (w := l.map c) (by rw [List.length_map]; omega) h
section
variable {S : Sto} {Q : DK}
theorem other_ok {l : List Bool} (hl : l.length ≤ 1000) (h : Q (.d (.str (tx (l.map not)))) S) : rd_other_mask [.d (.str (tx l))] S Q := by
  rw [rd_other_mask_is]
  walk_at "go"
  rw [signs_ct]
  refine comp_mapE (fun b => .str (tx [b])) (fun b => .str (tx [!b])) l trivial (by omega) (fun b hb K K' hK => ?_) ?_
  · walk_at "go"
    rw [eq_x']
    refine Br.i (fun c => ?_) (fun c => ?_)
    · walk_at "go"
      rw [str_o]
      subst c
      exact hK
    · walk_at "go"
      rw [str_x]
      subst c
      exact hK
  · rw [ct_map]
    walk_at "go"
    rw [strsOf_signs]
    (conv => whnf)
    refine ⟨by rw [signs_len, List.length_map, List.length_map]; omega, ?_⟩
    rw [join_signs]
    exact h
theorem rowof_ok {l : List Bool} (hl : l.length ≤ 1000) (h : Q (.d (.str (px l))) S) : rd__law_row_of [.d (.str (tx l))] S Q := by
  rw [rd__law_row_of_is]
  walk_at "go"
  rw [signs_ct]
  refine comp_mapE (fun b => .str (tx [b])) (fun b => .str (px [id b])) l trivial (by omega) (fun b hb K K' hK => ?_) ?_
  · walk_at "go"
    rw [eq_x']
    refine Br.i (fun c => ?_) (fun c => ?_)
    · walk_at "go"
      rw [str_p]
      subst c
      exact hK
    · walk_at "go"
      rw [str_m]
      subst c
      exact hK
  · rw [ct_map]
    walk_at "go"
    rw [strsOf_signs]
    (conv => whnf)
    refine ⟨by rw [signs_len, List.length_map, List.length_map]; omega, ?_⟩
    rw [join_signs, List.map_id]
    exact h
theorem exch_ok {l : List Bool} (hl : l.length ≤ 1000) (h : Q (.d (.str (px (l.map not)))) S) : rd_signs_exchanged [.d (.str (px l))] S Q := by
  rw [rd_signs_exchanged_is]
  walk_at "go"
  rw [signs_ct]
  refine comp_mapE (fun b => .str (px [b])) (fun b => .str (px [!b])) l trivial (by omega) (fun b hb K K' hK => ?_) ?_
  · walk_at "go"
    rw [eq_p']
    refine Br.i (fun c => ?_) (fun c => ?_)
    · walk_at "go"
      rw [str_m]
      subst c
      exact hK
    · walk_at "go"
      rw [str_p]
      subst c
      exact hK
  · rw [ct_map]
    walk_at "go"
    rw [strsOf_signs]
    (conv => whnf)
    refine ⟨by rw [signs_len, List.length_map, List.length_map]; omega, ?_⟩
    rw [join_signs]
    exact h
def rotL (m : Nat) (l : List Bool) : List Bool := l.drop m ++ l.take m
theorem turned_ok {l : List Bool} {v : Int} (hl : l.length ≤ 1000) (h0 : 0 < l.length) (hv : -1000 ≤ v) (hv2 : v ≤ 1000) (h : ∀ m, m < l.length → Q (.d (.str (tx (rotL m l)))) S) : rd_wheel_turned [.d (.str (tx l)), .d (.int v)] S Q := by
  rw [rd_wheel_turned_is]
  walk_at "go"
  rw [ct_len]
  walk_at "go"
  have hp : (0 : Int) < (l.length : Int) := by omega
  have e1 := Int.emod_nonneg (-v) (Int.ne_of_gt hp)
  have e2 := Int.emod_lt_of_pos (-v) hp
  obtain ⟨m, hm⟩ := Int.eq_ofNat_of_zero_le e1
  rw [hm]
  have h2 := h m (by omega)
  rw [ct_cut, ct_cut, ct_cat, cut_from, cut_to, ct_len, ct_len]
  refine ⟨line_le (by rw [List.length_drop, List.length_take]; omega), h2⟩
def cD (i : Nat) : D := .tuple [.int 0, .int (i : Nat)]
def pos (l : List Bool) (v : Bool) : List Nat := (List.range l.length).filter fun i => l.getD i false == v
theorem shape_ok {l : List Bool} {v : Bool} (hl : l.length ≤ 1000) (h : Q (.d (.tuple ((pos l v).map cD))) S) : rd__law_shape_of [.d (.str (tx l)), .d (.str (tx [v]))] S Q := by
  rw [rd__law_shape_of_is]
  walk_at "go"
  rw [ct_len]
  walk_at "go"
  refine comp_rngF (fun i => l.getD i false == v) cD l.length (by omega) (fun i hi K K' hK hK' => ?_) ?_
  · walk_at "go"
    refine ct_at cx hi ?_
    walk_at "go"
    rw [eq_cx]
    exact Br.i (fun c => by walk_at "go"; exact hK c) hK'
  · walk_at "go"
    exact h
theorem moved_ok {A : List Nat} {k : Int} (hA : A.length ≤ 1000) (h : Q (.d (.tuple (A.map fun i : Nat => .tuple [.int (0 + 0), .int ((i : Nat) + k)]))) S) : rd_moved [.d (.tuple (A.map cD)), .d (.int 0), .d (.int k)] S Q := by
  rw [rd_moved_is]
  walk_at "go"
  refine comp_mapE cD (fun i : Nat => .tuple [.int (0 + 0), .int ((i : Nat) + k)]) A trivial (by omega) (fun b hb K K' hK => ?_) ?_
  · walk_at "go"
    exact hK
  · walk_at "go"
    exact h
end
end Gn

set_option maxHeartbeats 400000
namespace Gn
open PySem PySem.Spec L2 L3
local macro_rules | `(tactic| walk_at "go") => `(tactic|
  ((conv => whnf)
   repeat
    (first
     | ((with_reducible refine And.intro ?sd ?_); (case sd => (first | decide | assumption | omega | exact rfl | exact trivial | exact Nat.le_of_ble_eq_true rfl | exact mulR (by omega) (by omega) | exact mulL (by omega) (by omega) | exact div_ok (by omega) | exact pow_ok (by decide) | exact small_ok (by omega) | exact line_le (by decide) | exact line_le (Nat.le_of_ble_eq_true rfl) | exact line_le (by simp [ct_len]; omega) | exact line_lt (by simp [ct_len]; omega) | exact line_lt (Nat.le_of_ble_eq_true rfl))))
     | ((with_reducible apply Exists.intro); (refine And.intro rfl ?_))
     (conv => whnf))))

def mD (k : Int) (i : Nat) : D := .tuple [.int (0 + 0), .int ((i : Nat) + k)]
def hits (B : List Nat) (k : Int) (a : Nat) : Bool := B.any fun b => decide ((b : Int) = (a : Int) + k)
theorem cD_dpt (i : Nat) : dpt 1 (cD i) := dpt_tup (by
  intro x hx
  rcases List.mem_cons.mp hx with rfl | hx
  · exact dpt_int _
  · rw [List.mem_singleton.mp hx]; exact dpt_int _)
theorem mD_dpt (k : Int) (i : Nat) : dpt 1 (mD k i) := dpt_tup (by
  intro x hx
  rcases List.mem_cons.mp hx with rfl | hx
  · exact dpt_int _
  · rw [List.mem_singleton.mp hx]; exact dpt_int _)
theorem in_shaped {x : D} {ys : List D} (h : SeqAt.shaped x = true) (h' : SeqAt.shaped (.list ys) = true) : ((flatD x && ys.all flatD) || (SeqAt.shaped x && SeqAt.shaped (.list ys))) = true := by
  rw [h, h', Bool.and_self, Bool.or_true]
theorem isIn_cells (B : List Nat) (k : Int) (a : Nat) : isIn (mD k a) (B.map cD) = hits B k a := by
  unfold isIn hits
  rw [List.any_map]
  congr 1
  funext b
  have e := eqv_tupI [0, (b : Int)] [0 + 0, (a : Int) + k]
  show PyData.eqv (cD b) (mD k a) = _
  refine e.trans ?_
  rw [Bool.eq_iff_iff]
  simp
theorem joinL_flat : ∀ ws : List (List Nat), TL.joinL [] ws = ws.flatten
  | [] => rfl
  | [p] => (List.append_nil p).symm
  | p :: q :: r => by
    have := joinL_flat (q :: r)
    show p ++ ([] ++ TL.joinL [] (q :: r)) = _
    rw [this]
    rfl
theorem join_flat (ws : List (List Nat)) : Txt.join (Str.ofString "") (ws.map SX.S) = SX.S ws.flatten := by rw [str_nil, SX.join_S, joinL_flat]
theorem strsOf_texts : ∀ ws : List (List Nat), strsOf (ws.map fun w => .str (SX.S w)) = some (ws.map SX.S)
  | [] => rfl
  | w :: ws => by
    show (strsOf (ws.map fun w => .str (SX.S w))).map (SX.S w :: ·) = _
    rw [strsOf_texts ws]
    rfl
theorem texts_len (ws : List (List Nat)) : ((ws.map SX.S).map (fun x => x.length)).sum + (ws.map SX.S).length * (Str.ofString "").length = ws.flatten.length := by
  have e : (Str.ofString "").length = 0 := by decide +kernel
  rw [e, Nat.mul_zero, Nat.add_zero, List.map_map, List.length_flatten]
  congr 1
  try exact List.map_congr_left fun w _ => SX.S_len w
theorem wv_ct (c : Bool → Nat) (a b : List Bool) : ((List.range a.length).map fun i => [c (a.getD i false), c (b.getD i false)]).flatten = (((List.range a.length).map fun i => [a.getD i false, b.getD i false]).flatten).map c := by
  rw [List.map_flatten, List.map_map]
  try rfl
theorem wv_len (a b : List Bool) : (((List.range a.length).map fun i => [a.getD i false, b.getD i false]).flatten).length = 2 * a.length := by
  rw [List.length_flatten, List.map_map]
  have : ∀ n : Nat, ((List.range n).map fun _ => 2).sum = 2 * n := fun n => by
    induction n with
    | zero => rfl
    | succ n ih => rw [List.range_succ, List.map_append, List.sum_append, ih]; simp; omega
  exact this _
section
variable {S : Sto} {Q : DK}
theorem agree_ok {A B : List Nat} {k : Int} (hA : A.length ≤ 1000) (hB : B.length ≤ 1000) (h : Q (.d (.int ((A.filter (hits B k)).length : Nat))) S) : rd_agreement [.d (.tuple (A.map cD)), .d (.tuple (B.map cD)), .d (.int 0), .d (.int k)] S Q := by
  rw [rd_agreement_is]
  walk_at "go"
  refine moved_ok hA ?_
  walk_at "go"
  refine comp_filtE (mD k) (hits B k) (mD k) A trivial (by omega) (fun b hb K K' hK hK' => ?_) ?_
  · walk_at "go"
    refine ⟨in_shaped (shp (mD_dpt k b) (by decide)) (shp (dpt_lst (n := 1) (dpt_map cD_dpt)) (by decide)), ?_⟩
    walk_at "go"
    refine Br.i (fun c => ?_) (fun c => ?_)
    · walk_at "go"
      exact hK ((isIn_cells B k b).symm.trans c)
    · exact hK' ((isIn_cells B k b).symm.trans c)
  · walk_at "go"
    rw [List.length_map]
    exact h
def isLoud (l : List Bool) (k : Nat) : Bool := decide (sech l k < -1) || decide (1 < sech l k)
/-- the first k from 1 on, below n, that p meets -/
def fst1 (p : Nat → Bool) (n : Nat) : Option Nat := (((List.range (n - 1)).map (· + 1)).filter p).head?
def optD : Option Nat → D
  | some k => .int (k : Nat)
  | none => .none
theorem head_at {p : Nat → Bool} : ∀ {xs : List Nat} {j x : Nat}, xs[j]? = some x → p x = true → (∀ i y, i < j → xs[i]? = some y → p y = false) → (xs.filter p).head? = some x
  | [], j, x, e, _, _ => by simp at e
  | y :: ys, 0, x, e, h, _ => by
    simp at e
    subst e
    rw [List.filter_cons_of_pos h]
    rfl
  | y :: ys, j + 1, x, e, h, q => by
    have hy := q 0 y (by omega) rfl
    rw [List.filter_cons_of_neg (by rw [hy]; exact Bool.false_ne_true)]
    exact head_at (j := j) (by simpa using e) h fun i z hi ez => q (i + 1) z (by omega) (by simpa using ez)
theorem up_at {n j : Nat} (h : j < n) : ((List.range n).map (· + 1))[j]? = some (j + 1) := by
  rw [List.getElem?_map, List.getElem?_range h]
  rfl
theorem fst1_some {p : Nat → Bool} {n j : Nat} (hj : j < n - 1) (h : p (j + 1) = true) (q : ∀ i, i < j → p (i + 1) = false) : fst1 p n = some (j + 1) :=
  head_at (up_at hj) h fun i y hi e => by
    rw [up_at (by omega)] at e
    cases e
    exact q i hi
theorem fst1_none {p : Nat → Bool} {n : Nat} (q : ∀ i, i < n - 1 → p (i + 1) = false) : fst1 p n = none := by
  unfold fst1
  rw [List.filter_eq_nil_iff.mpr fun x hx => ?_]
  · rfl
  · obtain ⟨i, hi, rfl⟩ := List.mem_map.mp hx
    rw [q i (List.mem_range.mp hi)]
    exact Bool.false_ne_true
theorem loop_first {α : Type} {g : dTG} {b : dTS} {E : dEnds} {S : Sto} (f : α → Env3) (p : Nat → Bool) (n : Nat)
    (h1 : ∀ j, j < n - 1 → ∀ s (K : Env3 → Sto → Prop), (p (j + 1) = true → E.rt (.d (.int ((j + 1 : Nat) : Int))) S) → (p (j + 1) = false → ∀ s', K (f s') S) → g (.int ((j + 1 : Nat) : Int)) (f s) S fun ρ1 S1 => b { E with nx := K, ct := K, bk := E.nx } ρ1 S1)
    (h2 : fst1 p n = none → ∀ s, E.nx (f s) S) (h3 : ∀ k, fst1 p n = some k → E.rt (.d (.int (k : Nat))) S) (s : α) : dLp (fun _ _ => True) g b E (rng 1 (n - 1)) (f s) S := by
  refine loop_inv (fun i ρ S' => S' = S ∧ (∃ s, ρ = f s) ∧ ∀ j, j < i → p (j + 1) = false) (rng 1 (n - 1)) 0 (fun j x e ρ S' K hI hK => ?_) (fun ρ S' hI => ?_) _ _ ⟨rfl, ⟨s, rfl⟩, fun j hj => absurd hj (Nat.not_lt_zero _)⟩
  · obtain ⟨rfl, ⟨s, rfl⟩, ha⟩ := hI
    obtain ⟨hj, rfl⟩ := rng_get e
    rw [Nat.zero_add] at *
    rw [show (1 : Int) + (j : Int) = ((j + 1 : Nat) : Int) by omega]
    refine ⟨trivial, h1 j hj s K (fun hp => h3 _ (fst1_some hj hp ha)) fun hp s' => hK _ _ ⟨rfl, ⟨s', rfl⟩, fun i hi => ?_⟩⟩
    by_cases e : i = j
    · subst e; exact hp
    · exact ha i (by omega)
  · obtain ⟨rfl, ⟨s, rfl⟩, ha⟩ := hI
    rw [rng_len, Nat.zero_add] at ha
    exact ⟨trivial, h2 (fst1_none ha) s⟩
theorem loud_ok {l : List Bool} (hl : l.length ≤ 1000) (h : Q (.d (optD (fst1 (isLoud l) l.length))) S) : rd_told_loud [.d (.str (px l))] S Q := by
  rw [rd_told_loud_is]
  walk_at "go"
  rw [ct_len]
  walk_at "go"
  rw [show ((l.length : Int) - 1).toNat = l.length - 1 by omega]
  refine loop_first (fun s : Slot => [.val (.d (.str (px l))), s]) (isLoud l) l.length (fun j hj s K hT hF => ?_) (fun e s => ?_) (fun k e => ?_) Slot.no
  · walk_at "go"
    refine sech_ok hl (by omega) ?_
    walk_at "go"
    have hi : isLoud l (j + 1) = (decide (sech l (j + 1) < -1) || decide (1 < sech l (j + 1))) := rfl
    rw [hi] at hT hF
    generalize sech l (j + 1) = x at hT hF ⊢
    refine Br.d (fun c => ?_) (fun c => ?_)
    · walk_at "go"
      refine Br.nd (fun c2 => ?_) (fun c2 => ?_)
      · walk_at "go"
        exact hT (by simp; omega)
      · walk_at "go"
        exact hF (by simp; omega) _
    · walk_at "go"
      exact hT (by simp; omega)
  · walk_at "go"
    rw [e] at h
    exact h
  · rw [e] at h
    exact h
theorem small_ok' {l : List Bool} (hl : l.length ≤ 1000) (h : Q (.d (.bool (decide (fst1 (isLoud l) l.length = none)))) S) : rd_has_small_echoes [.d (.str (px l))] S Q := by
  rw [rd_has_small_echoes_is]
  walk_at "go"
  refine loud_ok hl ?_
  cases e : fst1 (isLoud l) l.length with
  | none =>
    rw [e] at h
    walk_at "go"
    exact h
  | some k =>
    rw [e] at h
    walk_at "go"
    exact h
def isLeft (a b : List Bool) (k : Nat) : Bool := decide (sech a k + sech b k ≠ 0)
theorem leftover_ok {a b : List Bool} (ha : a.length ≤ 1000) (hb : b.length = a.length) (h : Q (.d (optD (fst1 (isLeft a b) a.length))) S) : rd_told_leftover [.d (.str (px a)), .d (.str (px b))] S Q := by
  rw [rd_told_leftover_is]
  walk_at "go"
  rw [ct_len]
  walk_at "go"
  rw [show ((a.length : Int) - 1).toNat = a.length - 1 by omega]
  refine loop_first (fun s : Slot => [.val (.d (.str (px a))), .val (.d (.str (px b))), s]) (isLeft a b) a.length (fun j hj s K hT hF => ?_) (fun e s => ?_) (fun k e => ?_) Slot.no
  · walk_at "go"
    refine sech_ok ha (by omega) ?_
    walk_at "go"
    refine sech_ok (by omega) (by omega) ?_
    walk_at "go"
    have hi : isLeft a b (j + 1) = decide (sech a (j + 1) + sech b (j + 1) ≠ 0) := rfl
    rw [hi] at hT hF
    generalize sech a (j + 1) + sech b (j + 1) = x at hT hF ⊢
    refine Br.nd (fun c => ?_) (fun c => ?_)
    · walk_at "go"
      exact hT (decide_eq_true c)
    · walk_at "go"
      exact hF (by rw [decide_eq_false (fun z => z c)]) _
  · walk_at "go"
    rw [e] at h
    exact h
  · rw [e] at h
    exact h
theorem vanish_ok {a b : List Bool} (ha : a.length ≤ 1000) (hb : b.length = a.length) (h : Q (.d (.bool (decide (fst1 (isLeft a b) a.length = none)))) S) : rd_are_vanishing [.d (.str (px a)), .d (.str (px b))] S Q := by
  rw [rd_are_vanishing_is]
  walk_at "go"
  refine leftover_ok ha hb ?_
  cases e : fst1 (isLeft a b) a.length with
  | none =>
    rw [e] at h
    walk_at "go"
    exact h
  | some k =>
    rw [e] at h
    walk_at "go"
    exact h
theorem doubled_ok {a b : List Bool} (ha : a.length ≤ 400) (hb : b.length ≤ 400) (h : Q (.d (.tuple [.str (px (a ++ b)), .str (px (a ++ b.map not))])) S) : rd_doubled_pair [.d (.str (px a)), .d (.str (px b))] S Q := by
  rw [rd_doubled_pair_is]
  walk_at "go"
  refine exch_ok (by omega) ?_
  walk_at "go"
  show Q (.d (.tuple [.str (px a ++ px b), .str (px a ++ px (b.map not))])) S
  rw [ct_cat, ct_cat]
  exact h
/-- a0 b0 a1 b1 .. -/
def wv (a b : List Bool) : List Bool := ((List.range a.length).map fun i => [a.getD i false, b.getD i false]).flatten
theorem woven_ok {a b : List Bool} (ha : a.length ≤ 400) (hb : b.length = a.length) (h : Q (.d (.str (px (wv a b)))) S) : rd_woven [.d (.str (px a)), .d (.str (px b))] S Q := by
  rw [rd_woven_is]
  walk_at "go"
  rw [ct_len]
  walk_at "go"
  refine comp_rng (fun i => .str (px [a.getD i false, b.getD i false])) a.length (by omega) (fun i hi K K' hK => ?_) ?_
  · walk_at "go"
    refine ct_at cp hi ?_
    walk_at "go"
    refine ct_at cp (by omega) ?_
    walk_at "go"
    exact hK
  · walk_at "go"
    have e : (List.range a.length).map (fun i => (.str (px [a.getD i false, b.getD i false]) : D)) = ((List.range a.length).map fun i => [cp (a.getD i false), cp (b.getD i false)]).map fun w => .str (SX.S w) := by
      rw [List.map_map]
      rfl
    rw [e, strsOf_texts]
    (conv => whnf)
    rw [texts_len, join_flat, wv_ct]
    exact ⟨by rw [List.length_map, wv_len]; omega, h⟩
theorem wovenP_ok {a b : List Bool} (ha : a.length ≤ 400) (hb : b.length = a.length) (h : Q (.d (.tuple [.str (px (wv a b)), .str (px (wv a (b.map not)))])) S) : rd_woven_pair [.d (.str (px a)), .d (.str (px b))] S Q := by
  rw [rd_woven_pair_is]
  walk_at "go"
  refine woven_ok ha hb ?_
  walk_at "go"
  refine exch_ok (by omega) ?_
  walk_at "go"
  refine woven_ok ha (by rw [List.length_map]; exact hb) ?_
  walk_at "go"
  exact h
end
end Gn

set_option maxHeartbeats 400000
namespace Gn
open PySem PySem.Spec L2 L3
local macro_rules | `(tactic| walk_at "go") => `(tactic|
  ((conv => whnf)
   repeat
    (first
     | ((with_reducible refine And.intro ?sd ?_); (case sd => (first | decide | assumption | omega | exact rfl | exact trivial | exact Nat.le_of_ble_eq_true rfl | exact mulR (by omega) (by omega) | exact mulL (by omega) (by omega) | exact div_ok (by omega) | exact pow_ok (by decide) | exact small_ok (by omega) | exact line_le (by decide) | exact line_le (Nat.le_of_ble_eq_true rfl) | exact line_le (by simp [ct_len]; omega) | exact line_lt (by simp [ct_len]; omega) | exact line_lt (Nat.le_of_ble_eq_true rfl))))
     | ((with_reducible apply Exists.intro); (refine And.intro rfl ?_))
     (conv => whnf))))

def ess (l : List Bool) : List Int := (List.range (l.length - 1)).map fun i => echo l (i + 1)
def fitI (a b : List Bool) : List Int := (List.range (a.length - 1)).map fun i => echo a (i + 1) + echo b (i + 1)
theorem zip_map {f g : Nat → D} : ∀ l : List Nat, zipD (l.map f) (l.map g) = l.map fun i => .tuple [f i, g i]
  | [] => rfl
  | i :: l => by
    have := zip_map (f := f) (g := g) l
    unfold zipD at this ⊢
    rw [List.map_cons, List.map_cons, List.zip_cons_cons, List.map_cons, this, List.map_cons]
theorem atEnd (S : Sto) (c : Cell) : (S ++ [c])[S.length]? = some c := by rw [List.getElem?_append_right (Nat.le_refl _), Nat.sub_self]; rfl
theorem setEnd (S : Sto) (c c' : Cell) : (S ++ [c]).set S.length c' = S ++ [c'] := by rw [List.set_append_right _ _ (Nat.le_refl _), Nat.sub_self]; rfl
/-! ### the table of shifts -/
abbrev Ent := (Int × Int) × Int
def kyE (p : Int × Int) : List Key := [.inl p.1, .inl p.2]
def enE (e : Ent) : List Key × D := (kyE e.1, .int e.2)
def tot (es : List Ent) : Int := (es.map (·.2)).sum
theorem ky_inj {p q : Int × Int} (h : kyE p = kyE q) : p = q := by
  unfold kyE at h
  simp only [List.cons.injEq, Sum.inl.injEq, and_true] at h
  exact Prod.ext h.1 h.2
def valE (es : List Ent) (p : Int × Int) : Int := ((es.find? fun e => decide (e.1 = p)).map (·.2)).getD 0
def setE (es : List Ent) (p : Int × Int) (w : Int) : List Ent := es.map fun e => if e.1 = p then (e.1, w) else e
/-- one more at p -/
def more (es : List Ent) (p : Int × Int) : List Ent :=
  if (es.any fun e => decide (e.1 = p)) = true then setE es p (valE es p + 1) else es ++ [(p, valE es p + 1)]
theorem ky_dec (p q : Int × Int) : decide (kyE p = kyE q) = decide (p = q) := by
  by_cases h : p = q
  · subst h; simp
  · rw [decide_eq_false h, decide_eq_false fun z => h (ky_inj z)]
theorem val_en (es : List Ent) (p : Int × Int) : (valT (es.map enE) (kyE p)).getD (.int 0) = .int (valE es p) := by
  unfold valT valE
  induction es with
  | nil => rfl
  | cons e es ih =>
    have hk : decide ((enE e).1 = kyE p) = decide (e.1 = p) := ky_dec e.1 p
    by_cases h : e.1 = p
    · rw [List.map_cons, List.find?_cons_of_pos (by rw [hk]; simp [h]), List.find?_cons_of_pos (by simp [h])]
      rfl
    · rw [List.map_cons, List.find?_cons_of_neg (by rw [hk]; simp [h]), List.find?_cons_of_neg (by simp [h])]
      exact ih
theorem put_en (es : List Ent) (p : Int × Int) : putT (es.map enE) (kyE p) (.int (valE es p + 1)) = (more es p).map enE := by
  unfold putT more
  have ea : ((es.map enE).any fun kv => decide (kv.1 = kyE p)) = es.any fun e => decide (e.1 = p) := by
    rw [List.any_map]
    congr 1
    funext e
    exact ky_dec e.1 p
  rw [ea]
  split
  · unfold setE
    rw [List.map_map, List.map_map]
    refine List.map_congr_left fun e _ => ?_
    show (if (enE e).1 = kyE p then _ else _) = enE (if e.1 = p then _ else _)
    by_cases h : e.1 = p
    · rw [if_pos h, if_pos (show (enE e).1 = kyE p by unfold enE; rw [h])]
      rfl
    · rw [if_neg h, if_neg (show ¬ (enE e).1 = kyE p from fun z => h (ky_inj z))]
  · rw [List.map_append]
    rfl
theorem set_none {p : Int × Int} {w : Int} : ∀ {es : List Ent}, (∀ e ∈ es, e.1 ≠ p) → setE es p w = es
  | [], _ => rfl
  | e :: es, h => by
    unfold setE
    rw [List.map_cons, if_neg (h e List.mem_cons_self)]
    congr 1
    exact set_none fun x hx => h x (List.mem_cons_of_mem _ hx)
theorem tot_set {p : Int × Int} : ∀ {es : List Ent}, (es.map (·.1)).Nodup → (es.any fun e => decide (e.1 = p)) = true → tot (setE es p (valE es p + 1)) = tot es + 1
  | [], _, h => by simp at h
  | e :: es, nd, h => by
    obtain ⟨n1, n2⟩ := List.nodup_cons.mp (show (e.1 :: es.map (·.1)).Nodup from nd)
    by_cases he : e.1 = p
    · have ev : valE (e :: es) p = e.2 := by
        unfold valE
        rw [List.find?_cons_of_pos (by simp [he])]
        rfl
      have er : setE es p (e.2 + 1) = es := set_none fun x hx z => n1 (List.mem_map.mpr ⟨x, hx, z.trans he.symm⟩)
      have e1 : setE (e :: es) p (e.2 + 1) = (e.1, e.2 + 1) :: setE es p (e.2 + 1) := by
        unfold setE
        rw [List.map_cons, if_pos he]
      rw [ev, e1, er]
      show (e.2 + 1) + tot es = (e.2 + tot es) + 1
      omega
    · have ev : valE (e :: es) p = valE es p := by
        unfold valE
        rw [List.find?_cons_of_neg (by simp [he])]
      have e1 : setE (e :: es) p (valE es p + 1) = e :: setE es p (valE es p + 1) := by
        unfold setE
        rw [List.map_cons, if_neg he]
      have h' : (es.any fun e => decide (e.1 = p)) = true := by
        rw [List.any_cons, decide_eq_false he, Bool.false_or] at h
        exact h
      rw [ev, e1]
      show e.2 + tot (setE es p (valE es p + 1)) = (e.2 + tot es) + 1
      rw [tot_set n2 h']
      omega
theorem any_false {p : Int × Int} {es : List Ent} (h : ¬ (es.any fun e => decide (e.1 = p)) = true) : ∀ e ∈ es, e.1 ≠ p := fun e he z => h (List.any_eq_true.mpr ⟨e, he, decide_eq_true z⟩)
theorem tot_more {es : List Ent} {p : Int × Int} (nd : (es.map (·.1)).Nodup) : tot (more es p) = tot es + 1 ∧ ((more es p).map (·.1)).Nodup ∧ (more es p).length ≤ es.length + 1 := by
  unfold more
  split
  · rename_i h
    refine ⟨tot_set nd h, ?_, by unfold setE; rw [List.length_map]; omega⟩
    have : (setE es p (valE es p + 1)).map (·.1) = es.map (·.1) := by
      unfold setE
      rw [List.map_map]
      refine List.map_congr_left fun e _ => ?_
      show (if e.1 = p then (e.1, valE es p + 1) else e).1 = e.1
      split <;> rfl
    rw [this]
    exact nd
  · rename_i h
    have hn := any_false h
    have ev : valE es p = 0 := by
      unfold valE
      rw [List.find?_eq_none.mpr fun e he => by simp [hn e he]]
      rfl
    refine ⟨?_, ?_, by rw [List.length_append]; exact Nat.le_refl _⟩
    · unfold tot
      rw [List.map_append, List.sum_append, ev]
      rfl
    · rw [List.map_append, List.nodup_append]
      refine ⟨nd, by simp, fun a ha b hb z => ?_⟩
      rw [List.map_cons, List.map_nil, List.mem_singleton] at hb
      obtain ⟨e, he, rfl⟩ := List.mem_map.mp ha
      exact hn e he (z.trans hb)
theorem alike_en (e f : Ent) : PySem.W.alike (itemT (enE e)) (itemT (enE f)) = true := by
  simp [itemT, enE, kyE, keyD, PySem.W.alike, PySem.W.alikeAll]
theorem sort_en {es : List Ent} (h : es.length ≤ 1600) : SortOk ((es.map enE).map itemT) := by
  rw [List.map_map]
  refine ⟨fun d hd d' hd' => ?_, .inl fun d hd => ?_, line_le (by rw [List.length_map]; omega), fun d hd => ?_⟩
  · obtain ⟨e, _, rfl⟩ := List.mem_map.mp hd
    obtain ⟨f, _, rfl⟩ := List.mem_map.mp hd'
    exact alike_en e f
  · obtain ⟨e, _, rfl⟩ := List.mem_map.mp hd
    exact ⟨_, _, rfl⟩
  · obtain ⟨e, _, rfl⟩ := List.mem_map.mp hd
    show PyData.depth (itemT (enE e)) ≤ 50
    simp [itemT, enE, kyE, keyD, PyData.depth, PyData.depthAll]
section
variable {S : Sto} {Q : DK}
theorem echoes_ok {l : List Bool} (hl : l.length ≤ 1000) (h : Q (.d (.list ((ess l).map .int))) S) : rd_echoes [.d (.str (tx l))] S Q := by
  rw [rd_echoes_is]
  walk_at "go"
  rw [ct_len]
  walk_at "go"
  rw [show ((l.length : Int) - 1).toNat = l.length - 1 by omega, rng_is]
  refine comp_mapE (fun i : Nat => .int (1 + (i : Nat))) (fun i => .int (echo l (i + 1))) (List.range (l.length - 1)) trivial (by rw [List.length_range]; omega) (fun i hi K K' hK => ?_) ?_
  · have hi' := List.mem_range.mp hi
    walk_at "go"
    rw [show (1 : Int) + (i : Int) = ((i + 1 : Nat) : Int) by omega]
    exact echo_ok hl (by omega) hK
  · unfold ess at h
    rw [List.map_map] at h
    exact h
theorem flat_ok {l : List Bool} (hl : l.length ≤ 1000) (h : Q (.d (.bool (decide (((nubI (ess l)).length : Int) ≤ 1)))) S) : rd_is_flat [.d (.str (tx l))] S Q := by
  rw [rd_is_flat_is]
  walk_at "go"
  refine echoes_ok hl ?_
  walk_at "go"
  rw [intsOf_map]
  (conv => whnf)
  refine ⟨by unfold ess; rw [List.length_map, List.length_range]; omega, ?_⟩
  walk_at "go"
  exact h
theorem fitting_ok {a b : List Bool} (ha : a.length ≤ 1000) (hb : b.length = a.length) (h : Q (.d (.bool (decide (((nubI (fitI a b)).length : Int) ≤ 1)))) S) : rd_are_fitting [.d (.str (tx a)), .d (.str (tx b))] S Q := by
  rw [rd_are_fitting_is]
  walk_at "go"
  refine echoes_ok ha ?_
  walk_at "go"
  refine echoes_ok (by omega) ?_
  walk_at "go"
  have e : zipD ((ess a).map .int) ((ess b).map .int) = (List.range (a.length - 1)).map fun i => .tuple [.int (echo a (i + 1)), .int (echo b (i + 1))] := by
    unfold ess
    rw [hb, List.map_map, List.map_map, zip_map]
    rfl
  rw [e]
  refine comp_mapE (fun i : Nat => .tuple [.int (echo a (i + 1)), .int (echo b (i + 1))]) (fun i => .int (echo a (i + 1) + echo b (i + 1))) (List.range (a.length - 1)) ⟨rfl, rfl⟩ (by rw [List.length_range]; omega) (fun i hi K K' hK => ?_) ?_
  · walk_at "go"
    exact hK
  · have e2 : (List.range (a.length - 1)).map (fun i => (.int (echo a (i + 1) + echo b (i + 1)) : D)) = (fitI a b).map .int := by
      unfold fitI
      rw [List.map_map]
      rfl
    rw [e2]
    walk_at "go"
    rw [intsOf_map]
    (conv => whnf)
    refine ⟨by unfold fitI; rw [List.length_map, List.length_range]; omega, ?_⟩
    walk_at "go"
    exact h
theorem shift_ok {A B : List Nat} (hA : A.length ≤ 40) (hB : B.length ≤ 40) (h : ∀ es : List Ent, tot es = (A.length * B.length : Nat) → es.length ≤ 1600 → Q (.d (.tuple (sortD ((es.map enE).map itemT)))) (S ++ [.dT (es.map enE)])) :
    rd_shift_table [.d (.tuple (A.map cD)), .d (.tuple (B.map cD))] S Q := by
  rw [rd_shift_table_is]
  walk_at "go"
  refine Or.inr ?_
  walk_at "go"
  refine loop_inv (fun i ρ S' => ∃ (es : List Ent) (x3 x4 x5 x6 : Slot), S' = S ++ [.dT (es.map enE)] ∧ (es.map (·.1)).Nodup ∧ tot es = (i * B.length : Nat) ∧ es.length ≤ i * B.length ∧
    ρ = [.val (.d (.tuple (A.map cD))), .val (.d (.tuple (B.map cD))), .val (.ref S.length), x3, x4, x5, x6]) (A.map cD) 0 (fun i x e ρ S' K hI hK => ?_) (fun ρ S' hI => ?_) _ _ ⟨[], _, _, _, _, rfl, .nil, by simp [tot], Nat.zero_le _, rfl⟩
  · obtain ⟨es, x3, x4, x5, x6, rfl, nd, ht, hl, rfl⟩ := hI
    rw [Nat.zero_add] at *
    obtain ⟨a, ea, rfl⟩ := get_map e
    have hi : i < A.length := (List.getElem?_eq_some_iff.mp ea).1
    refine ⟨trivial, ?_⟩
    walk_at "go"
    refine loop_inv (fun j ρ S' => ∃ (es : List Ent) (x5 x6 : Slot), S' = S ++ [.dT (es.map enE)] ∧ (es.map (·.1)).Nodup ∧ tot es = (i * B.length + j : Nat) ∧ es.length ≤ i * B.length + j ∧
      ρ = [.val (.d (.tuple (A.map cD))), .val (.d (.tuple (B.map cD))), .val (.ref S.length), .val (.d (.int 0)), .val (.d (.int (a : Nat))), x5, x6]) (B.map cD) 0 (fun j y e2 ρ S2 K2 hI hK2 => ?_) (fun ρ S2 hI => ?_) _ _ ⟨es, _, _, rfl, nd, by rw [ht]; rfl, hl, rfl⟩
    · obtain ⟨es, x5, x6, rfl, nd, ht, hl, rfl⟩ := hI
      rw [Nat.zero_add] at *
      obtain ⟨b, eb, rfl⟩ := get_map e2
      have hj : j < B.length := (List.getElem?_eq_some_iff.mp eb).1
      refine ⟨trivial, ?_⟩
      walk_at "go"
      refine ⟨by rw [atEnd]; rfl, ?_⟩
      walk_at "go"
      rw [atEnd]
      walk_at "go"
      rw [show (valT (es.map enE) [Sum.inl (0 - 0), Sum.inl ((b : Int) - (a : Int))]).getD (PyData.int 0) = .int (valE es (0 - 0, (b : Int) - (a : Int))) from val_en es (0 - 0, (b : Int) - (a : Int))]
      walk_at "go"
      rw [atEnd]
      walk_at "go"
      obtain ⟨t1, t2, t3⟩ := tot_more (p := (0 - 0, (b : Int) - (a : Int))) nd
      have hl3 : i * B.length ≤ 40 * 40 := Nat.mul_le_mul (by omega) hB
      refine ⟨line_lt (by rw [List.length_map]; omega), ?_⟩
      refine hK2 _ _ ⟨more es (0 - 0, (b : Int) - (a : Int)), .val (.d (cD b)), .val (.d (.tuple [.int (0 - 0), .int ((b : Int) - (a : Int))])), ?_, t2, by rw [t1, ht]; omega, by omega, rfl⟩
      rw [← put_en]
      exact setEnd S _ _
    · obtain ⟨es, x5, x6, rfl, nd, ht, hl, rfl⟩ := hI
      rw [Nat.zero_add, List.length_map] at *
      refine ⟨trivial, hK _ _ ⟨es, _, _, _, _, rfl, nd, by rw [ht, Nat.succ_mul], by rw [Nat.succ_mul]; exact hl, rfl⟩⟩
  · obtain ⟨es, x3, x4, x5, x6, rfl, nd, ht, hl, rfl⟩ := hI
    rw [Nat.zero_add, List.length_map] at *
    have hl2 : es.length ≤ 1600 := Nat.le_trans hl (Nat.mul_le_mul hA hB)
    refine ⟨trivial, ?_⟩
    walk_at "go"
    rw [show L3.cellAt (S ++ [Cell.dT (es.map enE)]) (DV.ref S.length) = some (Cell.dT (es.map enE)) from atEnd _ _]
    (conv => whnf)
    refine ⟨sort_en hl2, ?_⟩
    walk_at "go"
    exact h es ht hl2
end
end Gn

set_option maxHeartbeats 400000
namespace Gn
open PySem PySem.Spec L2 L3
local macro_rules | `(tactic| walk_at "go") => `(tactic|
  ((conv => whnf)
   repeat
    (first
     | ((with_reducible refine And.intro ?sd ?_); (case sd => (first | decide | assumption | omega | exact rfl | exact trivial | exact Nat.le_of_ble_eq_true rfl | exact mulR (by omega) (by omega) | exact mulL (by omega) (by omega) | exact div_ok (by omega) | exact pow_ok (by decide) | exact small_ok (by omega) | exact line_le (by decide) | exact line_le (Nat.le_of_ble_eq_true rfl) | exact line_le (by simp [ct_len]; omega) | exact line_lt (by simp [ct_len]; omega) | exact line_lt (Nat.le_of_ble_eq_true rfl))))
     | ((with_reducible apply Exists.intro); (refine And.intro rfl ?_))
     (conv => whnf))))

/-! ### the numbers -/
def u (v : Bool) (l : List Bool) (i : Nat) : Int := ind (l.getD i false == v)
theorem u_true (l : List Bool) (i : Nat) : u true l i = bt l i := by unfold u bt; cases l.getD i false <;> rfl
theorem u_false (l : List Bool) (i : Nat) : u false l i = 1 - bt l i := by unfold u bt ind; cases l.getD i false <;> decide
def slits (l : List Bool) : Int := sm l.length (bt l)
def agr (v : Bool) (l : List Bool) (k : Nat) : Int := sm (l.length - k) fun i => u v l i * u v l (i + k)
theorem pos_len (l : List Bool) (v : Bool) : ((pos l v).length : Int) = sm l.length (u v l) := count_sm _ _
theorem pos_slits (l : List Bool) : ((pos l true).length : Int) = slits l := by
  rw [pos_len]
  exact sm_congr fun i _ => u_true l i
theorem hits_pos (l : List Bool) (v : Bool) (k : Int) (a : Nat) : hits (pos l v) k a = (decide (0 ≤ (a : Int) + k ∧ (a : Int) + k < l.length) && (l.getD ((a : Int) + k).toNat false == v)) := by
  unfold hits pos
  rw [Bool.eq_iff_iff, List.any_eq_true, Bool.and_eq_true, decide_eq_true_eq]
  constructor
  · rintro ⟨b, hb, e⟩
    obtain ⟨h1, h2⟩ := List.mem_filter.mp hb
    have h1 := List.mem_range.mp h1
    have e := of_decide_eq_true e
    rw [← e]
    exact ⟨⟨by omega, by omega⟩, h2⟩
  · rintro ⟨⟨h1, h2⟩, h3⟩
    exact ⟨((a : Int) + k).toNat, List.mem_filter.mpr ⟨List.mem_range.mpr (by omega), h3⟩, decide_eq_true (by omega)⟩
theorem agr_sm (l : List Bool) (v : Bool) (k : Int) : (((pos l v).filter (hits (pos l v) k)).length : Int) = sm l.length fun i => u v l i * ind (hits (pos l v) k i) := by
  rw [show (pos l v).filter (hits (pos l v) k) = (List.range l.length).filter fun i => (hits (pos l v) k i && l.getD i false == v) by
    conv => lhs; arg 2; unfold pos
    rw [List.filter_filter]]
  rw [count_sm]
  refine sm_congr fun i _ => ?_
  rw [ind_and, Int.mul_comm]
  rfl
theorem agr_up {l : List Bool} {v : Bool} {k : Nat} (hk : k ≤ l.length) : (((pos l v).filter (hits (pos l v) (k : Int))).length : Int) = agr v l k := by
  rw [agr_sm]
  obtain ⟨m, hm⟩ : ∃ m, l.length = m + k := ⟨l.length - k, by omega⟩
  unfold agr
  rw [hm, Nat.add_sub_cancel, sm_split]
  have e2 : sm k (fun i => u v l (m + i) * ind (hits (pos l v) (k : Int) (m + i))) = 0 := by
    rw [sm_congr (g := fun _ => 0) fun i _ => ?_, sm_zero]
    rw [hits_pos, decide_eq_false (by omega)]
    simp [ind]
  rw [e2, Int.add_zero]
  refine sm_congr fun i hi => ?_
  rw [hits_pos, decide_eq_true (by omega), Bool.true_and, show ((i : Int) + (k : Int)).toNat = i + k by omega]
  rfl
theorem agr_down {l : List Bool} {v : Bool} {k : Nat} (hk : k ≤ l.length) : (((pos l v).filter (hits (pos l v) ((k : Int) - (l.length : Int)))).length : Int) = sm k fun j => u v l (l.length - k + j) * u v l j := by
  rw [agr_sm]
  obtain ⟨m, hm⟩ : ∃ m, l.length = m + k := ⟨l.length - k, by omega⟩
  rw [show l.length - k = m by omega]
  have e0 : sm l.length (fun i => u v l i * ind (hits (pos l v) ((k : Int) - (l.length : Int)) i)) = sm (m + k) (fun i => u v l i * ind (hits (pos l v) ((k : Int) - (l.length : Int)) i)) := by rw [← hm]
  rw [e0, sm_split]
  have e2 : sm m (fun i => u v l i * ind (hits (pos l v) ((k : Int) - (l.length : Int)) i)) = 0 := by
    rw [sm_congr (g := fun _ => 0) fun i hi => ?_, sm_zero]
    rw [hits_pos, decide_eq_false (by omega)]
    simp [ind]
  rw [e2, Int.zero_add]
  refine sm_congr fun j hj => ?_
  rw [hits_pos, decide_eq_true (by omega), Bool.true_and, show (((m + j : Nat) : Int) + ((k : Int) - (l.length : Int))).toNat = j by omega]
  rfl
/-- once round, in two parts -/
theorem round_two (f : Nat → Nat → Int) {n k : Nat} (hk : k ≤ n) : sm n (fun i => f i ((i + k) % n)) = sm (n - k) (fun i => f i (i + k)) + sm k (fun j => f (n - k + j) j) := by
  obtain ⟨m, rfl⟩ : ∃ m, n = m + k := ⟨n - k, by omega⟩
  rw [Nat.add_sub_cancel, sm_split]
  congr 1
  · refine sm_congr fun i hi => ?_
    show f i ((i + k) % (m + k)) = _
    rw [Nat.mod_eq_of_lt (by omega)]
  · refine sm_congr fun i hi => ?_
    show f (m + i) ((m + i + k) % (m + k)) = _
    rw [show m + i + k = i + (m + k) by omega, Nat.add_mod_right, Nat.mod_eq_of_lt (by omega)]
theorem echo_agr {l : List Bool} {k : Nat} (hk : k ≤ l.length) : echo l k = agr true l k + sm k fun j => u true l (l.length - k + j) * u true l j := by
  unfold echo agr
  rw [round_two (fun i j => bt l i * bt l j) hk]
  congr 1
  · exact sm_congr fun i _ => by rw [u_true, u_true]
  · exact sm_congr fun i _ => by rw [u_true, u_true]
theorem sech_agr (l : List Bool) (k : Nat) : sech l k = 2 * (agr true l k + agr false l k) - (l.length - k : Nat) := by
  unfold sech agr
  rw [← sm_add, ← sm_mul, show (((l.length - k : Nat)) : Int) = sm (l.length - k) (fun _ => 1) by rw [sm_const, Int.mul_one], ← sm_sub]
  refine sm_congr fun i _ => ?_
  rw [u_true, u_true, u_false, u_false, sg_mul]
  unfold bt ind
  cases l.getD i false <;> cases l.getD (i + k) false <;> decide
theorem sech_two {l : List Bool} {k : Nat} (hk : k ≤ l.length) (h0 : 0 < l.length) : sech l k + sech l (l.length - k) = l.length - 4 * (slits l - echo l k) := by
  have e1 : sech l k + sech l (l.length - k) = sm l.length fun i => sg l i * sg l ((i + k) % l.length) := by
    rw [round_two (fun i j => sg l i * sg l j) hk]
    unfold sech
    rw [show l.length - (l.length - k) = k by omega]
    congr 1
    refine sm_congr fun i _ => ?_
    rw [Int.mul_comm, Nat.add_comm]
  have e2 : sm l.length (fun i => sg l i * sg l ((i + k) % l.length)) = sm l.length (fun i => 4 * (bt l i * bt l ((i + k) % l.length)) + ((-2) * bt l i + ((-2) * bt l ((i + k) % l.length) + 1))) := by
    refine sm_congr fun i _ => ?_
    rw [sg_mul]
    unfold bt ind
    cases l.getD i false <;> cases l.getD ((i + k) % l.length) false <;> decide
  rw [e1, e2, sm_add, sm_mul, sm_add, sm_mul, sm_add, sm_mul, sm_rotZ (bt l) k h0, sm_const]
  show 4 * echo l k + (-2 * slits l + (-2 * slits l + (l.length : Int) * 1)) = _
  omega
theorem getD_not {l : List Bool} {i : Nat} (hi : i < l.length) : (l.map not).getD i false = !l.getD i false := by
  rw [List.getD_eq_getElem?_getD, List.getD_eq_getElem?_getD, List.getElem?_map, List.getElem?_eq_getElem hi]
  rfl
theorem bt_not {l : List Bool} {i : Nat} (hi : i < l.length) : bt (l.map not) i = 1 - bt l i := by
  unfold bt
  rw [getD_not hi]
  unfold ind
  cases l.getD i false <;> decide
theorem echo_not {l : List Bool} {k : Nat} (h0 : 0 < l.length) : echo (l.map not) k = l.length - 2 * slits l + echo l k := by
  unfold echo
  rw [List.length_map]
  have e : sm l.length (fun i => bt (l.map not) i * bt (l.map not) ((i + k) % l.length)) = sm l.length (fun i => 1 + ((-1) * bt l i + ((-1) * bt l ((i + k) % l.length) + bt l i * bt l ((i + k) % l.length)))) := by
    refine sm_congr fun i hi => ?_
    rw [bt_not hi, bt_not (Nat.mod_lt _ h0)]
    unfold bt ind
    cases l.getD i false <;> cases l.getD ((i + k) % l.length) false <;> decide
  rw [e, sm_add, sm_add, sm_mul, sm_add, sm_mul, sm_rotZ (bt l) k h0, sm_const]
  unfold slits
  omega
theorem sg_sum (l : List Bool) : sm l.length (sg l) = 2 * slits l - l.length := by
  rw [sm_congr fun i _ => sg_bt l i, sm_sub (fun i => 2 * bt l i) (fun _ => 1), sm_mul, sm_const, Int.mul_one]
  rfl
theorem sech_sq (l : List Bool) : (2 * slits l - l.length) * (2 * slits l - l.length) - l.length = 2 * sm l.length (fun k => if k = 0 then 0 else sech l k) := by
  have := sq_signs (sg l) (sg_sq l) l.length
  rw [sg_sum] at this
  rw [this]
  unfold sech
  omega
theorem echo_sum {l : List Bool} (h0 : 0 < l.length) : sm l.length (echo l) = slits l * slits l := by
  unfold echo
  rw [sm_swap (fun k i => bt l i * bt l ((i + k) % l.length))]
  have e : ∀ i, sm l.length (fun k => bt l i * bt l ((i + k) % l.length)) = bt l i * slits l := fun i => by
    rw [sm_mul, sm_congr (f := fun k => bt l ((i + k) % l.length)) (g := fun k => bt l ((k + i) % l.length)) fun k _ => by rw [Nat.add_comm], sm_rotZ (bt l) i h0]
    rfl
  rw [sm_congr fun i _ => e i, sm_mulR]
  rfl
end Gn

set_option maxHeartbeats 400000
namespace Gn
open PySem PySem.Spec L2 L3
local macro_rules | `(tactic| walk_at "go") => `(tactic|
  ((conv => whnf)
   repeat
    (first
     | ((with_reducible refine And.intro ?sd ?_); (case sd => (first | decide | assumption | omega | exact rfl | exact trivial | exact Nat.le_of_ble_eq_true rfl | exact mulR (by omega) (by omega) | exact mulL (by omega) (by omega) | exact div_ok (by omega) | exact pow_ok (by decide) | exact small_ok (by omega) | exact line_le (by decide) | exact line_le (Nat.le_of_ble_eq_true rfl) | exact line_le (by simp [ct_len]; omega) | exact line_lt (by simp [ct_len]; omega) | exact line_lt (Nat.le_of_ble_eq_true rfl))))
     | ((with_reducible apply Exists.intro); (refine And.intro rfl ?_))
     (conv => whnf))))

/-! ### how many different ones -/
def stp1 (σ : List Int) (k : Int) : List Int := if σ.any (· == k) then σ else σ ++ [k]
theorem nub_eq (l : List Int) : nubI l = l.foldl stp1 [] := rfl
theorem fold_map {f : Int → Int} (hf : ∀ a b, f a = f b → a = b) : ∀ (l acc : List Int), (l.map f).foldl stp1 (acc.map f) = (l.foldl stp1 acc).map f
  | [], acc => rfl
  | x :: l, acc => by
    show (l.map f).foldl stp1 (stp1 (acc.map f) (f x)) = (l.foldl stp1 (stp1 acc x)).map f
    have e : stp1 (acc.map f) (f x) = (stp1 acc x).map f := by
      unfold stp1
      have ea : (acc.map f).any (· == f x) = acc.any (· == x) := by
        rw [List.any_map]
        congr 1
        funext a
        show (f a == f x) = (a == x)
        rw [Bool.eq_iff_iff, beq_iff_eq, beq_iff_eq]
        exact ⟨hf a x, fun e => by rw [e]⟩
      rw [ea]
      split
      · rfl
      · rw [List.map_append]; rfl
    rw [e, fold_map hf l]
theorem nub_map {f : Int → Int} (hf : ∀ a b, f a = f b → a = b) (l : List Int) : (nubI (l.map f)).length = (nubI l).length := by
  have := fold_map hf l []
  rw [nub_eq, nub_eq]
  show ((l.map f).foldl stp1 ([].map f)).length = _
  rw [this, List.length_map]
theorem nub_const {c : Int} : ∀ {l : List Int}, (∀ x ∈ l, x = c) → (nubI l).length ≤ 1 := by
  have go : ∀ (l acc : List Int), (∀ x ∈ l, x = c) → acc = [] ∨ acc = [c] → l.foldl stp1 acc = [] ∨ l.foldl stp1 acc = [c] := by
    intro l
    induction l with
    | nil => intro acc _ h; exact h
    | cons x l ih =>
      intro acc hx h
      refine ih _ (fun y hy => hx y (List.mem_cons_of_mem _ hy)) ?_
      rw [hx x List.mem_cons_self]
      rcases h with rfl | rfl
      · exact .inr rfl
      · refine .inr ?_
        unfold stp1
        simp
  intro l h
  rcases go l [] h (.inl rfl) with e | e
  · rw [nub_eq, e]; exact Nat.zero_le _
  · rw [nub_eq, e]; exact Nat.le_refl _
/-! ### kin -/
theorem bt_lt {l : List Bool} {i : Nat} (hi : i < l.length) : l.getD i false = l[i] := by rw [List.getD_eq_getElem?_getD, List.getElem?_eq_getElem hi]; rfl
theorem getD_rot {l : List Bool} {m i : Nat} (hm : m < l.length) (hi : i < l.length) : (rotL m l).getD i false = l.getD ((i + m) % l.length) false := by
  unfold rotL
  rw [List.getD_eq_getElem?_getD, List.getD_eq_getElem?_getD]
  by_cases h : i < l.length - m
  · rw [List.getElem?_append_left (by rw [List.length_drop]; exact h), List.getElem?_drop, Nat.mod_eq_of_lt (by omega), Nat.add_comm]
  · rw [List.getElem?_append_right (by rw [List.length_drop]; omega), List.length_drop, List.getElem?_take_of_lt (by omega)]
    rw [show (i + m) % l.length = i - (l.length - m) by
      rw [show i + m = (i - (l.length - m)) + l.length by omega, Nat.add_mod_right, Nat.mod_eq_of_lt (by omega)]]
theorem rot_len {l : List Bool} {m : Nat} (hm : m ≤ l.length) : (rotL m l).length = l.length := by
  unfold rotL
  rw [List.length_append, List.length_drop, List.length_take]
  omega
theorem echo_rot {l : List Bool} {m k : Nat} (hm : m < l.length) : echo (rotL m l) k = echo l k := by
  have h0 : 0 < l.length := by omega
  unfold echo
  rw [rot_len (Nat.le_of_lt hm), ← sm_rotZ (fun j => bt l j * bt l ((j + k) % l.length)) m h0]
  refine sm_congr fun i hi => ?_
  unfold bt
  rw [getD_rot hm hi, getD_rot hm (Nat.mod_lt _ h0)]
  have e : ((i + k) % l.length + m) % l.length = ((i + m) % l.length + k) % l.length := by
    rw [Nat.mod_add_mod, Nat.mod_add_mod]
    congr 1
    omega
  rw [e]
theorem echo_neg {l : List Bool} {k : Nat} (hk : k ≤ l.length) (h0 : 0 < l.length) : echo l ((l.length - k) % l.length) = echo l k := by
  unfold echo
  rw [← sm_rotZ (fun j => bt l j * bt l ((j + (l.length - k) % l.length) % l.length)) k h0]
  refine sm_congr fun i hi => ?_
  rw [Int.mul_comm]
  have e : ((i + k) % l.length + (l.length - k) % l.length) % l.length = i := by
    rw [← Nat.add_mod, show i + k + (l.length - k) = i + l.length by omega, Nat.add_mod_right, Nat.mod_eq_of_lt hi]
  rw [e]
theorem getD_rev {l : List Bool} {i : Nat} (hi : i < l.length) : l.reverse.getD i false = l.getD (l.length - 1 - i) false := by
  rw [List.getD_eq_getElem?_getD, List.getD_eq_getElem?_getD, List.getElem?_reverse hi]
theorem echo_rev {l : List Bool} {k : Nat} (hk : k < l.length) : echo l.reverse k = echo l k := by
  have h0 : 0 < l.length := by omega
  rw [← echo_neg (Nat.le_of_lt hk) h0]
  unfold echo
  rw [List.length_reverse, ← sm_rev (fun i => bt l i * bt l ((i + (l.length - k) % l.length) % l.length))]
  refine sm_congr fun i hi => ?_
  have h1 := Nat.mod_lt (i + k) h0
  have e : l.length - 1 - (i + k) % l.length = (l.length - 1 - i + (l.length - k) % l.length) % l.length := by
    by_cases hk0 : k = 0
    · subst hk0
      rw [Nat.sub_zero, Nat.mod_self, Nat.add_zero, Nat.add_zero, Nat.mod_eq_of_lt hi, Nat.mod_eq_of_lt (by omega)]
    · rw [Nat.mod_eq_of_lt (show l.length - k < l.length by omega)]
      by_cases h : i + k < l.length
      · rw [Nat.mod_eq_of_lt h, show l.length - 1 - i + (l.length - k) = (l.length - 1 - (i + k)) + l.length by omega, Nat.add_mod_right, Nat.mod_eq_of_lt (by omega)]
      · rw [show i + k = (i + k - l.length) + l.length by omega, Nat.add_mod_right, Nat.mod_eq_of_lt (by omega), Nat.mod_eq_of_lt (by omega)]
        omega
  unfold bt
  rw [getD_rev hi, getD_rev h1, e]
theorem sech_rev (l : List Bool) {k : Nat} (hk : k ≤ l.length) : sech l.reverse k = sech l k := by
  unfold sech
  rw [List.length_reverse, ← sm_rev]
  refine sm_congr fun i hi => ?_
  rw [sg_mul, sg_mul, getD_rev (by omega), getD_rev (by omega)]
  rw [show l.length - 1 - (l.length - k - 1 - i) = i + k by omega, show l.length - 1 - (l.length - k - 1 - i + k) = i by omega]
  rw [show (l.getD (i + k) false == l.getD i false) = (l.getD i false == l.getD (i + k) false) from Bool.beq_comm]
theorem sech_not (l : List Bool) {k : Nat} (hk : k ≤ l.length) : sech (l.map not) k = sech l k := by
  unfold sech
  rw [List.length_map]
  refine sm_congr fun i hi => ?_
  rw [sg_mul, sg_mul, getD_not (by omega), getD_not (by omega)]
  cases l.getD i false <;> cases l.getD (i + k) false <;> rfl
/-- every other sign turned -/
def od (l : List Bool) : List Bool := (List.range l.length).map fun i => if i % 2 = 0 then l.getD i false else !l.getD i false
theorem od_len (l : List Bool) : (od l).length = l.length := by unfold od; rw [List.length_map, List.length_range]
theorem getD_od {l : List Bool} {i : Nat} (hi : i < l.length) : (od l).getD i false = if i % 2 = 0 then l.getD i false else !l.getD i false := by
  unfold od
  rw [List.getD_eq_getElem?_getD, List.getElem?_map, List.getElem?_range hi]
  rfl
def par (k : Nat) : Int := if k % 2 = 0 then 1 else -1
theorem sg_od {l : List Bool} {i : Nat} (hi : i < l.length) : sg (od l) i = par i * sg l i := by
  unfold sg par
  rw [getD_od hi]
  split <;> cases l.getD i false <;> decide
theorem par_add (i k : Nat) : par i * par (i + k) = par k := by
  unfold par
  rcases Nat.mod_two_eq_zero_or_one i with h | h <;> rcases Nat.mod_two_eq_zero_or_one k with h' | h'
  · rw [if_pos h, if_pos (by omega), if_pos h']; rfl
  · rw [if_pos h, if_neg (by omega), if_neg (by omega)]; rfl
  · rw [if_neg (by omega), if_neg (by omega), if_pos h']; rfl
  · rw [if_neg (by omega), if_pos (by omega), if_neg (by omega)]; rfl
theorem sech_od (l : List Bool) (k : Nat) : sech (od l) k = sech l k * par k := by
  unfold sech
  rw [od_len, ← sm_mulR]
  refine sm_congr fun i hi => ?_
  rw [sg_od (by omega), sg_od (by omega), ← par_add i k]
  simp only [Int.mul_assoc, Int.mul_left_comm, Int.mul_comm]
theorem fst1_congr {p q : Nat → Bool} {n : Nat} (h : ∀ k, 1 ≤ k → k < n → p k = q k) : fst1 p n = fst1 q n := by
  unfold fst1
  congr 1
  refine List.filter_congr fun x hx => ?_
  obtain ⟨i, hi, rfl⟩ := List.mem_map.mp hx
  have := List.mem_range.mp hi
  exact h _ (by omega) (by omega)
/-! ### two -/
theorem getD_app1 {a b : List Bool} {i : Nat} (h : i < a.length) : (a ++ b).getD i false = a.getD i false := by
  rw [List.getD_eq_getElem?_getD, List.getD_eq_getElem?_getD, List.getElem?_append_left h]
theorem getD_app2 {a b : List Bool} {i : Nat} (h : a.length ≤ i) : (a ++ b).getD i false = b.getD (i - a.length) false := by
  rw [List.getD_eq_getElem?_getD, List.getD_eq_getElem?_getD, List.getElem?_append_right h]
theorem sg_app1 {a b : List Bool} {i : Nat} (h : i < a.length) : sg (a ++ b) i = sg a i := by unfold sg; rw [getD_app1 h]
theorem sg_app2 {a b : List Bool} {i : Nat} : sg (a ++ b) (a.length + i) = sg b i := by unfold sg; rw [getD_app2 (by omega), Nat.add_sub_cancel_left]
theorem sg_not {l : List Bool} {i : Nat} (hi : i < l.length) : sg (l.map not) i = - sg l i := by
  unfold sg
  rw [getD_not hi]
  cases l.getD i false <;> decide
theorem sech_app {a b : List Bool} (hb : b.length = a.length) {k : Nat} (hk : k ≤ a.length) :
    sech (a ++ b) k = sech a k + (sm k (fun j => sg a (a.length - k + j) * sg b j) + sech b k) := by
  obtain ⟨m, hm⟩ : ∃ m, a.length = m + k := ⟨a.length - k, by omega⟩
  unfold sech
  rw [List.length_append, hb, show a.length + a.length - k = m + (k + m) by omega, sm_split, sm_split, show a.length - k = m by omega]
  congr 1
  · refine sm_congr fun i hi => ?_
    rw [sg_app1 (by omega), sg_app1 (by omega)]
  · congr 1
    · refine sm_congr fun i hi => ?_
      rw [sg_app1 (by omega), show m + i + k = a.length + i by omega, sg_app2]
    · refine sm_congr fun i hi => ?_
      rw [show m + (k + i) = a.length + i by omega, sg_app2, show a.length + i + k = a.length + (i + k) by omega, sg_app2]
theorem doubled_sech {a b : List Bool} (hb : b.length = a.length) {k : Nat} (hk : k ≤ a.length) : sech (a ++ b) k + sech (a ++ b.map not) k = 2 * (sech a k + sech b k) := by
  rw [sech_app hb hk, sech_app (by rw [List.length_map]; exact hb) hk, sech_not b (by omega)]
  have e : sm k (fun j => sg a (a.length - k + j) * sg (b.map not) j) = - sm k (fun j => sg a (a.length - k + j) * sg b j) := by
    rw [← sm_neg]
    refine sm_congr fun j hj => ?_
    rw [sg_not (by omega), Int.mul_neg]
  rw [e]
  omega
theorem doubled_far {a b : List Bool} (hb : b.length = a.length) {k : Nat} (h1 : a.length ≤ k) (h2 : k < 2 * a.length) : sech (a ++ b) k + sech (a ++ b.map not) k = 0 := by
  have far : ∀ c : List Bool, c.length = a.length → sech (a ++ c) k = sm (2 * a.length - k) (fun i => sg a i * sg c (i + k - a.length)) := fun c hc => by
    unfold sech
    rw [List.length_append, hc, show a.length + a.length - k = 2 * a.length - k by omega]
    refine sm_congr fun i hi => ?_
    rw [sg_app1 (by omega), show i + k = a.length + (i + k - a.length) by omega, sg_app2]
    rw [show a.length + (i + k - a.length) - a.length = i + k - a.length by omega]
  rw [far b hb, far _ (by rw [List.length_map]; exact hb), ← sm_add, sm_congr (g := fun _ => 0) fun i hi => ?_, sm_zero]
  rw [sg_not (by omega), Int.mul_neg]
  omega
/-! ### woven -/
theorem getD_wv {a b : List Bool} {i : Nat} (h : i < a.length) : (wv a b).getD (2 * i) false = a.getD i false ∧ (wv a b).getD (2 * i + 1) false = b.getD i false := by
  have go : ∀ (n i : Nat), i < n → ((List.range n).map fun i => [a.getD i false, b.getD i false]).flatten[2 * i]? = some (a.getD i false) ∧ ((List.range n).map fun i => [a.getD i false, b.getD i false]).flatten[2 * i + 1]? = some (b.getD i false) := by
    intro n
    have hl : ∀ n, (((List.range n).map fun i => [a.getD i false, b.getD i false]).flatten).length = 2 * n := fun n => by
      induction n with
      | zero => rfl
      | succ n ih => rw [List.range_succ, List.map_append, List.flatten_append, List.length_append, ih]; simp; omega
    induction n with
    | zero => intro i h; omega
    | succ n ih =>
      intro i h
      rw [List.range_succ, List.map_append, List.flatten_append]
      by_cases hi : i < n
      · obtain ⟨h1, h2⟩ := ih i hi
        rw [List.getElem?_append_left (by rw [hl]; omega), List.getElem?_append_left (by rw [hl]; omega)]
        exact ⟨h1, h2⟩
      · obtain rfl : i = n := by omega
        rw [List.getElem?_append_right (by rw [hl]; omega), List.getElem?_append_right (by rw [hl]; omega), hl, Nat.sub_self, Nat.add_sub_cancel_left]
        exact ⟨rfl, rfl⟩
  obtain ⟨h1, h2⟩ := go a.length i h
  unfold wv
  refine ⟨?_, ?_⟩
  · rw [List.getD_eq_getElem?_getD (l := List.flatten _), h1]; rfl
  · rw [List.getD_eq_getElem?_getD (l := List.flatten _), h2]; rfl
theorem wv_length (a b : List Bool) : (wv a b).length = 2 * a.length := wv_len a b
theorem sm_two (f : Nat → Int) : ∀ n : Nat, sm (2 * n) f = sm n fun i => f (2 * i) + f (2 * i + 1)
  | 0 => rfl
  | n + 1 => by
    show sm (2 * n) f + f (2 * n) + f (2 * n + 1) = _
    rw [sm_two f n]
    show _ = sm n (fun i => f (2 * i) + f (2 * i + 1)) + (f (2 * n) + f (2 * n + 1))
    omega
theorem woven_sech {a b : List Bool} (hb : b.length = a.length) {k : Nat} (hk : k ≤ a.length) : sech (wv a b) (2 * k) = sech a k + sech b k := by
  unfold sech
  rw [wv_length, show 2 * a.length - 2 * k = 2 * (a.length - k) by omega, sm_two, hb, ← sm_add]
  refine sm_congr fun i hi => ?_
  unfold sg
  rw [show 2 * i + 2 * k = 2 * (i + k) by omega, show 2 * i + 1 + 2 * k = 2 * (i + k) + 1 by omega]
  rw [(getD_wv (a := a) (b := b) (show i < a.length by omega)).1, (getD_wv (a := a) (b := b) (show i < a.length by omega)).2, (getD_wv (a := a) (b := b) (show i + k < a.length by omega)).1, (getD_wv (a := a) (b := b) (show i + k < a.length by omega)).2]
theorem wv_not {a b : List Bool} (hb : b.length = a.length) : wv a (b.map not) = od (wv a b) := by
  apply List.ext_getElem?
  intro j
  by_cases hj : j < 2 * a.length
  · have e1 : j < (wv a (b.map not)).length := by rw [wv_length]; exact hj
    have e2 : j < (od (wv a b)).length := by rw [od_len, wv_length]; exact hj
    rw [List.getElem?_eq_getElem e1, List.getElem?_eq_getElem e2, ← bt_lt e1, ← bt_lt e2, getD_od (by rw [wv_length]; exact hj)]
    congr 1
    rcases Nat.mod_two_eq_zero_or_one j with h | h
    · obtain ⟨i, rfl⟩ : ∃ i, j = 2 * i := ⟨j / 2, by omega⟩
      rw [if_pos h, (getD_wv (show i < a.length by omega)).1, (getD_wv (show i < a.length by omega)).1]
    · obtain ⟨i, rfl⟩ : ∃ i, j = 2 * i + 1 := ⟨j / 2, by omega⟩
      rw [if_neg (by omega), (getD_wv (show i < a.length by omega)).2, (getD_wv (show i < a.length by omega)).2, getD_not (by omega)]
  · rw [List.getElem?_eq_none (by rw [wv_length]; omega), List.getElem?_eq_none (by rw [od_len, wv_length]; omega)]
theorem wovenN_sech {a b : List Bool} (hb : b.length = a.length) (m : Nat) : sech (wv a (b.map not)) m = sech (wv a b) m * par m := by rw [wv_not hb, sech_od]
end Gn

set_option maxHeartbeats 400000
namespace Gn
open PySem PySem.Spec L2 L3
local macro_rules | `(tactic| walk_at "go") => `(tactic|
  ((conv => whnf)
   repeat
    (first
     | ((with_reducible refine And.intro ?sd ?_); (case sd => (first | decide | assumption | omega | exact rfl | exact trivial | exact Nat.le_of_ble_eq_true rfl | exact mulR (by omega) (by omega) | exact mulL (by omega) (by omega) | exact div_ok (by omega) | exact pow_ok (by decide) | exact small_ok (by omega) | exact line_le (by decide) | exact line_le (Nat.le_of_ble_eq_true rfl) | exact line_lt (Nat.le_of_ble_eq_true rfl))))
     | ((with_reducible apply Exists.intro); (refine And.intro rfl ?_))
     (conv => whnf))))
/-! ### the hand, further -/
def HA (n : Nat) (ds : List Int) (b : Nat) (S : Sto) : Prop := ∃ a, a ≤ b ∧ S[n]? = some (handC ds a)
theorem take_ok' {n b : Nat} {m : Int} {ds : List Int} {S : Sto} {Q : DK} (hS : HA n ds b S) (hd : Drawn ds) (hb : b < 1000000) (hm : 0 < m) (h : ∀ t S', 0 ≤ t → t < m → HA n ds (b + 1) S' → Q (.d (.int t)) S') : rd__law_take [.ref n, .d (.int m)] S Q := by
  obtain ⟨a, ha, hS⟩ := hS
  refine take_ok hS hd (by omega) hm fun t t0 t1 => h t _ t0 t1 ⟨a + 1, by omega, ?_⟩
  rw [List.getElem?_set_self (List.getElem?_eq_some_iff.mp hS).1]
theorem hand_new {S : Sto} {ds : List Int} : HA S.length ds 0 (S ++ [handC ds 0]) := ⟨0, Nat.le_refl _, by rw [List.getElem?_append_right (Nat.le_refl _), Nat.sub_self]; rfl⟩
theorem HA.mono {n b c : Nat} {ds : List Int} {S : Sto} (h : HA n ds b S) (hc : b ≤ c) : HA n ds c S := let ⟨a, h1, h2⟩ := h; ⟨a, Nat.le_trans h1 hc, h2⟩
/-- a comprehension that takes q of the hand for each item -/
theorem comp_hand {g : dTG} {te : dTE} {ρ : Env3} {Q : List D → Sto → Prop} {P : D → Prop} {n b k : Nat} {ds : List Int} {S : Sto} (q : Nat) (hk : k ≤ 1000) (hS : HA n ds b S)
    (step : ∀ (j : Nat) (S' : Sto) (b' : Nat) (K : DK) (K' : Sto → Prop), j < k → b' ≤ b + q * k → HA n ds b' S' → (∀ d S2, P d → HA n ds (b' + q) S2 → K (.d d) S2) → g (.int (j : Nat)) ρ S' fun ρ1 S1 => dYes ρ1 S1 fun b S2 => Br b (te ρ1 S2 K) (K' S2))
    (h : ∀ xs S', xs.length = k → (∀ x ∈ xs, P x) → HA n ds (b + q * k) S' → Q xs S') : cLoop (fun _ _ => True) g dYes te ρ Q (rng 0 k) [] S := by
  refine comp_inv (fun i acc S' => acc.length = i ∧ (∀ x ∈ acc, P x) ∧ HA n ds (b + q * i) S') (rng 0 k) 0 (fun j x e acc S' K K' hI hK hK' => ?_) (fun acc S' hI => ?_) [] S ⟨rfl, by simp, hS⟩
  · obtain ⟨hl, hP, hA⟩ := hI
    rw [Nat.zero_add] at *
    obtain ⟨hj, rfl⟩ := rng_get e
    rw [Int.zero_add]
    refine ⟨trivial, line_lt (by omega), fun _ => step j S' _ K K' hj ?_ hA fun d S2 hd hA2 => hK _ _ ⟨by rw [List.length_append, hl]; rfl, fun x hx => ?_, ?_⟩⟩
    · have : q * j ≤ q * k := Nat.mul_le_mul_left q (by omega)
      omega
    · rcases List.mem_append.mp hx with hx | hx
      · exact hP x hx
      · rw [List.mem_singleton.mp hx]; exact hd
    · rw [Nat.mul_add, Nat.mul_one, ← Nat.add_assoc]
      exact hA2
  · obtain ⟨hl, hP, hA⟩ := hI
    rw [rng_len, Nat.zero_add] at *
    exact ⟨trivial, h acc S' hl hP hA⟩
theorem ints_of {R : Int → Prop} : ∀ {xs : List D}, (∀ x ∈ xs, ∃ t, x = .int t ∧ R t) → ∃ ts : List Int, xs = ts.map .int ∧ ∀ t ∈ ts, R t
  | [], _ => ⟨[], rfl, by simp⟩
  | x :: xs, h => by
    obtain ⟨t, rfl, ht⟩ := h x List.mem_cons_self
    obtain ⟨ts, rfl, hts⟩ := ints_of (xs := xs) fun y hy => h y (List.mem_cons_of_mem _ hy)
    refine ⟨t :: ts, rfl, fun y hy => ?_⟩
    rcases List.mem_cons.mp hy with rfl | hy
    · exact ht
    · exact hts y hy
end Gn

set_option maxHeartbeats 400000
namespace Gn
open PySem PySem.Spec L2 L3
local macro_rules | `(tactic| walk_at "go") => `(tactic|
  ((conv => whnf)
   repeat
    (first
     | ((with_reducible refine And.intro ?sd ?_); (case sd => (first | decide | assumption | omega | exact rfl | exact trivial | exact Nat.le_of_ble_eq_true rfl | exact mulR (by omega) (by omega) | exact mulL (by omega) (by omega) | exact div_ok (by omega) | exact pow_ok (by decide) | exact small_ok (by omega) | exact line_le (by decide) | exact line_le (Nat.le_of_ble_eq_true rfl) | exact line_le (by simp [ct_len]; omega) | exact line_lt (by simp [ct_len]; omega) | exact line_lt (Nat.le_of_ble_eq_true rfl))))
     | ((with_reducible apply Exists.intro); (refine And.intro rfl ?_))
     (conv => whnf))))

section
variable {S : Sto} {Q : DK}
theorem pos_le (l : List Bool) (v : Bool) : (pos l v).length ≤ l.length := by
  unfold pos
  exact Nat.le_trans (List.length_filter_le _ _) (by rw [List.length_range]; exact Nat.le_refl _)
theorem is_eq {a b : D} (hp : pl 6 a = true) (e : a = b) (h : Q (.d (.bool true)) S) : rd__law_is 6 [.d a, .d b] S Q := by
  subst e
  exact is_same 6 _ hp h
theorem is_int {a b : Int} (e : a = b) (h : Q (.d (.bool true)) S) : rd__law_is 6 [.d (.int a), .d (.int b)] S Q := by
  subst e
  exact is_same 6 _ rfl h
theorem ints_up (f : Nat → Int) (xs : List Nat) : (xs.map fun i => (.int (f i) : D)) = (xs.map f).map .int := by rw [List.map_map]; rfl
theorem sm_up (f : Nat → Int) {n : Nat} (h : 0 < n) : sm n (fun k => if k = 0 then 0 else f k) = sm (n - 1) fun i => f (i + 1) := by
  obtain ⟨m, rfl⟩ : ∃ m, n = m + 1 := ⟨n - 1, by omega⟩
  rw [sm_first]
  show (0 : Int) + sm m (fun k => if k + 1 = 0 then 0 else f (k + 1)) = _
  rw [Int.zero_add]
  exact sm_congr fun i _ => by rw [if_neg (by omega)]
theorem fst_head (p : Nat → Bool) (n : Nat) : fst1 p n = ((List.range (n - 1)).filter fun i => p (i + 1)).head?.map (· + 1) := by
  unfold fst1
  rw [List.filter_map, List.head?_map]
  rfl
theorem head_dec (L : List Nat) : decide (L.head?.map (· + 1) = none) = decide (((L.map fun i : Nat => (.int (1 + (i : Nat)) : D)).length : Int) = 0) := by
  cases L with
  | nil => rfl
  | cons i L =>
    rw [List.length_map, List.length_cons, decide_eq_false (show ¬ ((L.length + 1 : Nat) : Int) = 0 by omega)]
    rfl
theorem head_At {L : List Nat} {k : D → Prop} (c : 0 < L.length) (h : k (optD (L.head?.map (· + 1)))) : At (L.map fun i : Nat => .int (1 + (i : Nat))) 0 k := by
  cases L with
  | nil => exact absurd c (Nat.lt_irrefl 0)
  | cons i L =>
    refine At.nat (i := 0) (z := .int (1 + (i : Nat))) rfl ?_
    have e : optD ((i :: L).head?.map (· + 1)) = .int (1 + (i : Nat)) := by
      show PyData.int ((i + 1 : Nat) : Int) = _
      congr 1
      omega
    rw [e] at h
    exact h
def jk : Option Int → Slot
  | some i => .val (.d (.int i))
  | none => .no
def eF (l : List Bool) (x : Option Int) (y z : Slot) : Env3 := [.val (.d (.str (tx l))), .val (.d (.int l.length)), .val (.d (.tuple ((pos l true).map cD))), .val (.d (.tuple ((pos l false).map cD))), .val (.d (.str (px l))), .val (.d (.int (slits l))), jk x, y, z, .no, .no, .no, .no, .no]
theorem echoes_fine_ok {l : List Bool} (h0 : 0 < l.length) (hl : l.length ≤ 40) (h : Q (.d (.bool true)) S) : rd__law_echoes_fine [.d (.str (tx l))] S Q := by
  have hp := pos_le l true
  have hq := pos_le l false
  have hpi := pos_slits l
  rw [rd__law_echoes_fine_is]
  walk_at "go"
  rw [ct_len]
  walk_at "go"
  rw [str_x]
  refine shape_ok (by omega) ?_
  walk_at "go"
  rw [str_o]
  refine shape_ok (by omega) ?_
  walk_at "go"
  refine rowof_ok (by omega) ?_
  walk_at "go"
  refine shape_ok (by omega) ?_
  walk_at "go"
  rw [List.length_map, hpi]
  refine loopR (α := Option Int × Slot × Slot) (fun s => eF l s.1 s.2.1 s.2.2) S l.length (fun k hk s K hK => ?_) (fun s => ?_) (none, .no, .no)
  · obtain ⟨s1, s2, s3⟩ := s
    have h1 : (k : Int) < l.length := by omega
    have k0 : ((k : Nat) : Int) ≤ l.length := by omega
    walk_at "go"
    refine agree_ok (by omega) (by omega) ?_
    rw [agr_up (by omega)]
    walk_at "go"
    have ea := echo_agr (l := l) (k := k) (by omega)
    have es := sech_agr l k
    apply cutR
    · intro r
      refine Br.d (fun c => ?_) (fun c => ?_)
      · walk_at "go"
        refine agree_ok (by omega) (by omega) ?_
        rw [agr_down (by omega)]
        walk_at "go"
        rw [← ea]
        exact r.r
      · walk_at "go"
        obtain rfl : k = 0 := by omega
        rw [show agr true l 0 + 0 = echo l 0 by rw [ea]; rfl]
        exact r.r
    · walk_at "go"
      refine echo_ok (by omega) (by omega) ?_
      walk_at "go"
      refine is_int rfl ?_
      walk_at "go"
      refine agree_ok (by omega) (by omega) ?_
      rw [agr_up (by omega)]
      walk_at "go"
      refine agree_ok (by omega) (by omega) ?_
      rw [agr_up (by omega)]
      walk_at "go"
      refine sech_ok (by omega) (by omega) ?_
      walk_at "go"
      refine is_int (by rw [es]; omega) ?_
      walk_at "go"
      apply cutR
      · intro r
        refine Br.d (fun c => ?_) (fun c => ?_)
        · have e2 := sech_two (l := l) (k := k) (by omega) h0
          walk_at "go"
          refine sech_ok (by omega) (by omega) ?_
          walk_at "go"
          rw [show (l.length : Int) - (k : Int) = ((l.length - k : Nat) : Int) by omega]
          refine sech_ok (by omega) (by omega) ?_
          walk_at "go"
          refine echo_ok (by omega) (by omega) ?_
          walk_at "go"
          rw [decide_eq_true e2]
          exact r.r
        · exact r.r
      · walk_at "go"
        refine other_ok (by omega) ?_
        walk_at "go"
        refine echo_ok (by rw [List.length_map]; omega) (by omega) ?_
        walk_at "go"
        refine echo_ok (by omega) (by omega) ?_
        walk_at "go"
        refine is_int (by rw [echo_not h0]) ?_
        walk_at "go"
        exact hK (some (k : Int), _, _)
  · obtain ⟨s1, s2, s3⟩ := s
    have hn : ∀ a b c d e f g h i j k l m : Slot, noOwn [a, b, c, d, e, f, jk s1, g, h, i, j, k, l, m] [6] = true := fun a b c d e f g h i j k l m => by cases s1 <;> rfl
    walk_at "go"
    refine ⟨hn _ _ _ _ _ _ _ _ _ _ _ _ _, ?_⟩
    walk_at "go"
    rw [show ((l.length : Int) - 1).toNat = l.length - 1 by omega, rng_is]
    refine comp_mapE (fun i : Nat => .int (1 + (i : Nat))) (fun i => .int (sech l (i + 1))) (List.range (l.length - 1)) trivial (by rw [List.length_range]; omega) (fun i hi K K' hK => ?_) ?_
    · have hi' := List.mem_range.mp hi
      walk_at "go"
      rw [show (1 : Int) + (i : Int) = ((i + 1 : Nat) : Int) by omega]
      exact sech_ok (by omega) (by omega) hK
    · rw [ints_up]
      walk_at "go"
      rw [intsOf_map]
      walk_at "go"
      have e1 : 2 * ((List.range (l.length - 1)).map fun i => sech l (i + 1)).sum = (2 * slits l - l.length) * (2 * slits l - l.length) - l.length := by
        rw [sech_sq, list_sm, sm_up _ h0]
      generalize ((List.range (l.length - 1)).map fun i => sech l (i + 1)).sum = w at e1 ⊢
      rw [decide_eq_true e1]
      walk_at "go"
      refine ⟨hn _ _ _ _ _ _ _ _ _ _ _ _ _, ?_⟩
      walk_at "go"
      refine comp_rng (fun k => .int (echo l k)) l.length (by omega) (fun k hk K K' hK => ?_) ?_
      · walk_at "go"
        exact echo_ok (by omega) (by omega) hK
      · rw [ints_up]
        walk_at "go"
        rw [intsOf_map]
        walk_at "go"
        rw [list_sm, echo_sum h0, decide_eq_true rfl]
        walk_at "go"
        refine ⟨hn _ _ _ _ _ _ _ _ _ _ _ _ _, ?_⟩
        walk_at "go"
        rw [show ((l.length : Int) - 1).toNat = l.length - 1 by omega]
        refine comp_rng2F 1 (fun i => isLoud l (i + 1)) (fun i => .int (1 + (i : Nat))) (l.length - 1) (by omega) (fun i hi K K' hK hK' => ?_) ?_
        · walk_at "go"
          rw [show (1 : Int) + (i : Int) = ((i + 1 : Nat) : Int) by omega]
          refine sech_ok (by omega) (by omega) ?_
          walk_at "go"
          have hi : isLoud l (i + 1) = (decide (sech l (i + 1) < -1) || decide (1 < sech l (i + 1))) := rfl
          rw [hi] at hK hK'
          generalize sech l (i + 1) = x at hK hK' ⊢
          refine Br.d (fun c => ?_) (fun c => ?_)
          · walk_at "go"
            rw [show ((i + 1 : Nat) : Int) = 1 + (i : Int) by omega]
            refine hK ?_
            split at c <;> simp <;> omega
          · refine hK' ?_
            split at c <;> simp <;> omega
        · walk_at "go"
          refine loud_ok (by omega) ?_
          rw [fst_head]
          walk_at "go"
          refine small_ok' (by omega) ?_
          rw [fst_head]
          walk_at "go"
          refine flat_ok (by omega) ?_
          walk_at "go"
          refine ⟨hn _ _ _ _ _ _ _ _ _ _ _ _ _, ?_⟩
          walk_at "go"
          rw [show ((l.length : Int) - 1).toNat = l.length - 1 by omega, rng_is]
          refine comp_mapE (fun i : Nat => .int (1 + (i : Nat))) (fun i => .int (echo l (i + 1))) (List.range (l.length - 1)) trivial (by rw [List.length_range]; omega) (fun i hi K K' hK => ?_) ?_
          · have hi' := List.mem_range.mp hi
            walk_at "go"
            rw [show (1 : Int) + (i : Int) = ((i + 1 : Nat) : Int) by omega]
            exact echo_ok (by omega) (by omega) hK
          · rw [ints_up (fun i => echo l (i + 1))]
            walk_at "go"
            rw [intsOf_map]
            walk_at "go"
            refine ⟨by rw [List.length_map, List.length_range]; omega, ?_⟩
            walk_at "go"
            generalize (List.range (l.length - 1)).filter (fun i => isLoud l (i + 1)) = L
            have ef : decide ((((nubI (ess l)).length : Nat) : Int) ≤ 1) = decide ((((nubI (ess l)).length : Nat) : Int) < 2) := by
              by_cases c : (((nubI (ess l)).length : Nat) : Int) ≤ 1
              · rw [decide_eq_true c, decide_eq_true (by omega)]
              · rw [decide_eq_false c, decide_eq_false (by omega)]
            rw [ef]
            apply cutR
            · intro r
              refine Br.d (fun c => ?_) (fun c => ?_)
              · walk_at "go"
                refine head_At (by rw [List.length_map] at c; omega) ?_
                walk_at "go"
                exact r.r
              · cases L with
                | nil =>
                  walk_at "go"
                  exact r.r
                | cons i L => exact absurd (show (0 : Int) < (((i :: L).map fun i : Nat => (.int (1 + (i : Nat)) : D)).length : Int) by rw [List.length_map, List.length_cons]; omega) c
            · refine is_eq ?_ ?_ ?_
              · cases L <;> rfl
              · rw [head_dec L]
                rfl
              walk_at "go"
              refine ⟨hn _ _ _ _ _ _ _ _ _ _ _ _ _, ?_⟩
              walk_at "go"
              rw [show ((l.length : Int) - 1).toNat = l.length - 1 by omega, rng_is]
              refine comp_mapE (fun i : Nat => .int (1 + (i : Nat))) (fun i => .int (4 * echo l (i + 1) + (l.length - 4 * slits l))) (List.range (l.length - 1)) trivial (by rw [List.length_range]; omega) (fun i hi K K' hK => ?_) ?_
              · have hi' := List.mem_range.mp hi
                walk_at "go"
                rw [show (1 : Int) + (i : Int) = ((i + 1 : Nat) : Int) by omega]
                refine sech_ok (by omega) (by omega) ?_
                walk_at "go"
                rw [show (l.length : Int) - ((i + 1 : Nat) : Int) = ((l.length - (i + 1) : Nat) : Int) by omega]
                refine sech_ok (by omega) (by omega) ?_
                walk_at "go"
                rw [sech_two (by omega) h0, show (l.length : Int) - 4 * (slits l - echo l (i + 1)) = 4 * echo l (i + 1) + (l.length - 4 * slits l) by omega]
                exact hK
              · rw [ints_up (fun i => 4 * echo l (i + 1) + (l.length - 4 * slits l))]
                walk_at "go"
                rw [intsOf_map]
                walk_at "go"
                refine ⟨by rw [List.length_map, List.length_range]; omega, ?_⟩
                walk_at "go"
                have em : (List.range (l.length - 1)).map (fun i => 4 * echo l (i + 1) + (l.length - 4 * slits l)) = ((List.range (l.length - 1)).map fun i => echo l (i + 1)).map fun x => 4 * x + (l.length - 4 * slits l) := by
                  rw [List.map_map]
                  rfl
                rw [em, nub_map (fun a b e => by omega), decide_eq_true rfl]
                exact h
end
end Gn

set_option maxHeartbeats 400000
namespace Gn
open PySem PySem.Spec L2 L3
local macro_rules | `(tactic| walk_at "go") => `(tactic|
  ((conv => whnf)
   repeat
    (first
     | ((with_reducible refine And.intro ?sd ?_); (case sd => (first | decide | assumption | omega | exact rfl | exact trivial | exact Nat.le_of_ble_eq_true rfl | exact mulR (by omega) (by omega) | exact mulL (by omega) (by omega) | exact div_ok (by omega) | exact pow_ok (by decide) | exact small_ok (by omega) | exact line_le (by decide) | exact line_le (Nat.le_of_ble_eq_true rfl) | exact line_le (by simp [ct_len]; omega) | exact line_lt (by simp [ct_len]; omega) | exact line_lt (Nat.le_of_ble_eq_true rfl))))
     | ((with_reducible apply Exists.intro); (refine And.intro rfl ?_))
     (conv => whnf))))

theorem HA.app {n b : Nat} {ds : List Int} {S T : Sto} (h : HA n ds b S) : HA n ds b (S ++ T) := by
  obtain ⟨a, h1, h2⟩ := h
  exact ⟨a, h1, by rw [List.getElem?_append_left (List.getElem?_eq_some_iff.mp h2).1]; exact h2⟩
theorem od_map (l : List Bool) (c : Bool → Nat) : (List.range l.length).map (fun i => (.str (ct c [if i % 2 = 0 then l.getD i false else !l.getD i false]) : D)) = ((od l).map c).map fun x => .str (SX.S [x]) := by
  unfold od
  rw [List.map_map, List.map_map]
  rfl
theorem view_end (ρ : Env3) (S : Sto) (c : Cell) : view ρ (S ++ [c]) (.ref S.length) = cellD c := by
  show (match (S ++ [c])[S.length]? with | some c => cellD c | none => PyData.none) = _
  rw [atEnd]
theorem lk_pm (b : Bool) : lookD [(.str (Str.ofString "+"), .str (Str.ofString "-")), (.str (Str.ofString "-"), .str (Str.ofString "+"))] (.str (⟨#[cp b]⟩ : Str)) = some (.str (px [!b])) := by
  cases b <;> rfl
theorem loud_od (l : List Bool) (k : Nat) : isLoud (od l) k = isLoud l k := by
  unfold isLoud
  rw [sech_od]
  unfold par
  generalize sech l k = x
  split
  · rw [Int.mul_one]
  · rw [show x * -1 = -x by omega, Bool.eq_iff_iff]
    simp
    omega
section
variable {S : Sto} {Q : DK}
theorem kin_fine_ok {n b : Nat} {ds : List Int} {l : List Bool} (hS : HA n ds b S) (hd : Drawn ds) (hb : b < 1000000) (h0 : 0 < l.length) (hl : l.length ≤ 40) (h : ∀ S', HA n ds (b + 1) S' → Q (.d (.bool true)) S') : rd__law_kin_fine [.ref n, .d (.str (tx l))] S Q := by
  rw [rd__law_kin_fine_is]
  walk_at "go"
  rw [ct_len]
  walk_at "go"
  refine rowof_ok (by omega) ?_
  walk_at "go"
  refine take_ok' hS hd hb (by omega) fun t S1 t0 t1 hS1 => ?_
  walk_at "go"
  refine turned_ok (by omega) h0 (by omega) (by omega) fun m hm => ?_
  walk_at "go"
  refine other_ok (by omega) ?_
  walk_at "go"
  refine comp_inv (fun i acc S' => acc = (List.range i).map (fun i => (.str (px [if i % 2 = 0 then l.getD i false else !l.getD i false]) : D)) ∧ HA n ds (b + 1) S') (rng 0 l.length) 0 (fun j x e acc S' K K' hI hK hK' => ?_) (fun acc S' hI => ?_) [] S1 ⟨rfl, hS1⟩
  · obtain ⟨rfl, hA⟩ := hI
    obtain ⟨hj, rfl⟩ := rng_get e
    rw [Nat.zero_add] at *
    refine ⟨trivial, line_lt (by rw [List.length_map, List.length_range]; omega), fun _ => ?_⟩
    have fin : ∀ y S'', y = (.str (px [if j % 2 = 0 then l.getD j false else !l.getD j false]) : D) → HA n ds (b + 1) S'' → K (.d y) S'' := fun y S'' e hA => by
      subst e
      exact hK _ _ ⟨by rw [List.range_succ, List.map_append]; rfl, hA⟩
    walk_at "go"
    rw [Int.zero_add]
    refine Br.d (fun c => ?_) (fun c => ?_)
    · walk_at "go"
      refine ct_at cp hj ?_
      refine fin _ _ ?_ hA
      rw [if_pos (by omega)]
      rfl
    · walk_at "go"
      refine ct_at cp hj ?_
      walk_at "go"
      rw [view_end]
      (conv => whnf)
      refine ⟨_, lk_pm _, fin _ _ ?_ hA.app⟩
      rw [if_neg (by omega)]
  · obtain ⟨rfl, hA⟩ := hI
    rw [rng_len, Nat.zero_add] at *
    refine ⟨trivial, ?_⟩
    rw [od_map]
    walk_at "go"
    rw [strsOf_signs]
    (conv => whnf)
    refine ⟨by rw [signs_len, List.length_map, od_len]; omega, ?_⟩
    rw [join_signs]
    walk_at "go"
    have hrot := rot_len (Nat.le_of_lt hm)
    refine loopR (α := Slot × Slot) (fun s => [.val (.ref n), .val (.d (.str (tx l))), .val (.d (.int l.length)), .val (.d (.str (px l))), .val (.d (.str (tx (rotL m l)))), .val (.d (.str (tx (l.map not)))), .val (.d (.str (px (od l)))), s.1, s.2, .no]) S' l.length (fun k hk s K hK => ?_) (fun s => ?_) (.no, .no)
    · obtain ⟨s1, s2⟩ := s
      walk_at "go"
      refine echo_ok (by omega) (by omega) ?_
      walk_at "go"
      rw [ct_rev]
      refine echo_ok (by rw [List.length_reverse]; omega) (by omega) ?_
      walk_at "go"
      rw [show ((l.length : Int) - (k : Int)) % (l.length : Int) = (((l.length - k) % l.length : Nat) : Int) by rw [Int.natCast_emod, Int.natCast_sub (by omega)]]
      refine echo_ok (by omega) (by have := Nat.mod_lt (l.length - k) h0; omega) ?_
      rw [echo_rot hm, echo_rev hk, echo_neg (by omega) h0]
      walk_at "go"
      refine echo_ok (by omega) (by omega) ?_
      walk_at "go"
      refine ⟨⟨by decide, by decide, Nat.le_of_ble_eq_true rfl⟩, ?_⟩
      walk_at "go"
      refine is_eq rfl rfl ?_
      walk_at "go"
      rw [ct_rev]
      refine sech_ok (by rw [List.length_reverse]; omega) (by rw [List.length_reverse]; omega) ?_
      walk_at "go"
      refine rowof_ok (by rw [List.length_map]; omega) ?_
      walk_at "go"
      refine sech_ok (by rw [List.length_map]; omega) (by rw [List.length_map]; omega) ?_
      walk_at "go"
      refine sech_ok (by rw [od_len]; omega) (by rw [od_len]; omega) ?_
      rw [sech_rev l (by omega), sech_not l (by omega), sech_od]
      walk_at "go"
      refine sech_ok (by omega) (by omega) ?_
      walk_at "go"
      refine sech_ok (by omega) (by omega) ?_
      walk_at "go"
      refine sech_ok (by omega) (by omega) ?_
      walk_at "go"
      refine Br.d (fun c => ?_) (fun c => ?_)
      · walk_at "go"
        rw [show par k = 1 from if_pos (by omega)]
        refine is_eq rfl rfl ?_
        walk_at "go"
        exact hK (_, _)
      · walk_at "go"
        rw [show par k = 0 - 1 from if_neg (by omega)]
        refine is_eq rfl rfl ?_
        walk_at "go"
        exact hK (_, _)
    · obtain ⟨s1, s2⟩ := s
      walk_at "go"
      refine flat_ok (by omega) ?_
      walk_at "go"
      refine flat_ok (by rw [List.length_map]; omega) ?_
      walk_at "go"
      rw [ct_rev]
      refine flat_ok (by rw [List.length_reverse]; omega) ?_
      walk_at "go"
      refine flat_ok (by omega) ?_
      have e1 : ess (rotL m l) = ess l := by
        unfold ess
        rw [hrot]
        exact List.map_congr_left fun i _ => echo_rot hm
      have e2 : (nubI (ess (l.map not))).length = (nubI (ess l)).length := by
        have e : ess (l.map not) = (ess l).map fun x => x + (l.length - 2 * slits l) := by
          unfold ess
          rw [List.length_map, List.map_map]
          refine List.map_congr_left fun i _ => ?_
          rw [echo_not h0]
          show _ = echo l (i + 1) + _
          omega
        rw [e, nub_map (fun a b e => by omega)]
      have e3 : ess l.reverse = ess l := by
        unfold ess
        rw [List.length_reverse]
        refine List.map_congr_left fun i hi => echo_rev ?_
        have := List.mem_range.mp hi
        omega
      rw [e1, e2, e3]
      walk_at "go"
      refine ⟨⟨by decide, by decide, Nat.le_of_ble_eq_true rfl⟩, ?_⟩
      walk_at "go"
      refine is_eq rfl rfl ?_
      walk_at "go"
      refine other_ok (by rw [List.length_map]; omega) ?_
      walk_at "go"
      rw [show (l.map not).map not = l by rw [List.map_map]; exact (List.map_congr_left fun b _ => by cases b <;> rfl).trans (List.map_id l)]
      refine is_eq rfl rfl ?_
      walk_at "go"
      refine small_ok' (by rw [od_len]; omega) ?_
      walk_at "go"
      rw [ct_rev]
      refine small_ok' (by rw [List.length_reverse]; omega) ?_
      walk_at "go"
      refine small_ok' (by omega) ?_
      rw [od_len, List.length_reverse]
      walk_at "go"
      refine ⟨⟨by decide, by decide, Nat.le_of_ble_eq_true rfl⟩, ?_⟩
      walk_at "go"
      rw [show fst1 (isLoud (od l)) l.length = fst1 (isLoud l) l.length from fst1_congr fun k _ _ => loud_od l k, show fst1 (isLoud l.reverse) l.length = fst1 (isLoud l) l.length from fst1_congr fun k _ hk => by unfold isLoud; rw [sech_rev l (by omega)]]
      refine is_eq rfl rfl ?_
      exact h _ hA
end
end Gn

set_option maxHeartbeats 400000
namespace Gn
open PySem PySem.Spec L2 L3
local macro_rules | `(tactic| walk_at "go") => `(tactic|
  ((conv => whnf)
   repeat
    (first
     | ((with_reducible refine And.intro ?sd ?_); (case sd => (first | decide | assumption | omega | exact rfl | exact trivial | exact Nat.le_of_ble_eq_true rfl | exact mulR (by omega) (by omega) | exact mulL (by omega) (by omega) | exact div_ok (by omega) | exact pow_ok (by decide) | exact small_ok (by omega) | exact line_le (by decide) | exact line_le (Nat.le_of_ble_eq_true rfl) | exact line_le (by simp [ct_len]; omega) | exact line_lt (by simp [ct_len]; omega) | exact line_lt (Nat.le_of_ble_eq_true rfl))))
     | ((with_reducible apply Exists.intro); (refine And.intro rfl ?_))
     (conv => whnf))))

def eT (a b : List Bool) (fit : Bool) (L : List Nat) (x y : Slot) : Env3 := [.val (.d (.str (tx a))), .val (.d (.str (tx b))), .val (.d (.int a.length)), .val (.d (.str (px a))), .val (.d (.str (px b))), .val (.d (.list ((fitI a b).map .int))), .val (.d (.bool fit)),
  .val (.d (.tuple [.bool fit, .bool fit, .bool fit])), .val (.d (.list ((List.range a.length).map fun k => .int (sech a k + sech b k)))), .val (.d (.list (L.map fun i : Nat => .int (1 + (i : Nat))))), .val (.d (optD (L.head?.map (· + 1)))),
  .val (.d (.tuple [.str (px (a ++ b)), .str (px (a ++ b.map not))])), .val (.d (.tuple [.str (px (wv a b)), .str (px (wv a (b.map not)))])), x, y, .no, .no, .no]
theorem perm_map_inv {α β : Type} {f : α → β} {xs ys : List β} (p : xs.Perm ys) : ∀ es : List α, ys = es.map f → ∃ es' : List α, es'.Perm es ∧ xs = es'.map f := by
  induction p with
  | nil => intro es h; exact ⟨[], by rw [List.map_eq_nil_iff.mp h.symm], rfl⟩
  | cons x _ ih =>
    intro es h
    cases es with
    | nil => cases h
    | cons e es =>
      rw [List.map_cons, List.cons.injEq] at h
      obtain ⟨es', h1, h2⟩ := ih es h.2
      exact ⟨e :: es', h1.cons e, by rw [List.map_cons, h.1, h2]⟩
  | swap x y l =>
    intro es h
    cases es with
    | nil => cases h
    | cons e es =>
      cases es with
      | nil => simp at h
      | cons e2 es =>
        rw [List.map_cons, List.map_cons, List.cons.injEq, List.cons.injEq] at h
        exact ⟨e2 :: e :: es, List.Perm.swap .., by rw [List.map_cons, List.map_cons, h.1, h.2.1, h.2.2]⟩
  | trans _ _ ih1 ih2 =>
    intro es h
    obtain ⟨e2, h1, h2⟩ := ih2 es h
    obtain ⟨e1, h3, h4⟩ := ih1 e2 h2
    exact ⟨e1, h3.trans h1, h4⟩
theorem sort_ent (es : List Ent) : ∃ es' : List Ent, es'.Perm es ∧ sortD ((es.map enE).map itemT) = es'.map fun e => itemT (enE e) := by
  rw [List.map_map]
  exact perm_map_inv (List.mergeSort_perm _ _) es rfl
theorem tot_perm {es es' : List Ent} (p : es'.Perm es) : (es'.map (·.2)).sum = tot es := by
  unfold tot
  induction p with
  | nil => rfl
  | cons x _ ih => simp only [List.map_cons, List.sum_cons, ih]
  | swap x y l => simp only [List.map_cons, List.sum_cons]; omega
  | trans _ _ ih1 ih2 => rw [ih1, ih2]
theorem count_x (bs : List Bool) : ((tx bs).cps.toList.count 120 : Nat) = bs.count true := by
  show (bs.map cx).count 120 = _
  induction bs with
  | nil => rfl
  | cons b bs ih => cases b <;> simp [cx, List.count_cons, ih]
theorem count_slits : ∀ l : List Bool, (l.count true : Int) = slits l
  | [] => rfl
  | b :: r => by
    unfold slits
    rw [List.length_cons, sm_first, sm_congr (f := fun i => bt (b :: r) (i + 1)) (g := bt r) fun i _ => rfl, show sm r.length (bt r) = slits r from rfl, ← count_slits r]
    cases b <;> simp [bt, ind, List.count_cons] <;> omega
theorem dec12 (n : Nat) : decide ((n : Int) ≤ 1) = decide ((n : Int) < 2) := by
  by_cases c : (n : Int) ≤ 1
  · rw [decide_eq_true c, decide_eq_true (by omega)]
  · rw [decide_eq_false c, decide_eq_false (by omega)]
section
variable {S : Sto} {Q : DK}
set_option maxHeartbeats 0 in
theorem two_fine_ok {a b : List Bool} (ha : 0 < a.length) (hl : a.length ≤ 40) (hb : b.length = a.length) (h : ∀ S', (∃ T, S' = S ++ T) → Q (.d (.bool true)) S') : rd__law_two_fine [.d (.str (tx a)), .d (.str (tx b))] S Q := by
  rw [rd__law_two_fine_is]
  walk_at "go"
  rw [ct_len]
  walk_at "go"
  refine rowof_ok (by omega) ?_
  walk_at "go"
  refine rowof_ok (by omega) ?_
  walk_at "go"
  rw [show ((a.length : Int) - 1).toNat = a.length - 1 by omega, rng_is]
  refine comp_mapE (fun i : Nat => .int (1 + (i : Nat))) (fun i => .int (echo a (i + 1) + echo b (i + 1))) (List.range (a.length - 1)) trivial (by rw [List.length_range]; omega) (fun i hi K K' hK => ?_) ?_
  · have hi' := List.mem_range.mp hi
    walk_at "go"
    rw [show (1 : Int) + (i : Int) = ((i + 1 : Nat) : Int) by omega]
    refine echo_ok (by omega) (by omega) ?_
    walk_at "go"
    refine echo_ok (by omega) (by omega) ?_
    walk_at "go"
    exact hK
  · rw [ints_up (fun i => echo a (i + 1) + echo b (i + 1)), show (List.range (a.length - 1)).map (fun i => echo a (i + 1) + echo b (i + 1)) = fitI a b from rfl]
    walk_at "go"
    rw [intsOf_map]
    walk_at "go"
    refine ⟨by unfold fitI; rw [List.length_map, List.length_range]; omega, ?_⟩
    walk_at "go"
    refine fitting_ok (by omega) hb ?_
    walk_at "go"
    refine fitting_ok (by omega) hb.symm ?_
    walk_at "go"
    refine other_ok (by omega) ?_
    walk_at "go"
    refine fitting_ok (by rw [List.length_map]; omega) (by rw [List.length_map]; exact hb) ?_
    walk_at "go"
    have f1 : fitI b a = fitI a b := by
      unfold fitI
      rw [hb]
      exact List.map_congr_left fun i _ => Int.add_comm _ _
    have f2 : (nubI (fitI (a.map not) b)).length = (nubI (fitI a b)).length := by
      have e : fitI (a.map not) b = (fitI a b).map fun x => x + (a.length - 2 * slits a) := by
        unfold fitI
        rw [List.length_map, List.map_map]
        refine List.map_congr_left fun i _ => ?_
        rw [echo_not ha]
        show _ = (echo a (i + 1) + echo b (i + 1)) + _
        omega
      rw [e, nub_map (fun a b e => by omega)]
    rw [f1, f2, dec12]
    have fconst : (∀ k, 1 ≤ k → k < a.length → isLeft a b k = false) → decide ((((nubI (fitI a b)).length : Nat) : Int) < 2) = true := fun hf => by
      have := nub_const (c := slits a + slits b - (a.length : Int) / 2) (l := fitI a b) (fun x hx => ?_)
      · exact decide_eq_true (by omega)
      · unfold fitI at hx
        obtain ⟨i, hi, rfl⟩ := List.mem_map.mp hx
        have hi' := List.mem_range.mp hi
        have g1 := sech_two (l := a) (k := i + 1) (by omega) ha
        have g2 := sech_two (l := b) (k := i + 1) (by omega) (by omega)
        have z1 := of_decide_eq_false (hf (i + 1) (by omega) (by omega))
        have z2 := of_decide_eq_false (hf (a.length - (i + 1)) (by omega) (by omega))
        rw [hb] at g2
        omega
    generalize decide ((((nubI (fitI a b)).length : Nat) : Int) < 2) = fit at fconst ⊢
    refine ⟨⟨by decide, by decide, Nat.le_of_ble_eq_true rfl⟩, ?_⟩
    walk_at "go"
    refine is_eq rfl rfl ?_
    walk_at "go"
    dsimp only [List.set_cons_zero, List.set_cons_succ, List.map_cons, List.map_nil, List.length_cons, List.length_nil, Nat.reduceAdd, Nat.reduceSub, Nat.zero_add, List.replicate_succ, List.replicate_zero, List.cons_append, List.nil_append]
    refine comp_rng (fun k => .int (sech a k + sech b k)) a.length (by omega) (fun k hk K K' hK => ?_) ?_
    · walk_at "go"
      refine sech_ok (by omega) (by omega) ?_
      walk_at "go"
      refine sech_ok (by omega) (by omega) ?_
      walk_at "go"
      exact hK
    · walk_at "go"
      rw [show ((a.length : Int) - 1).toNat = a.length - 1 by omega]
      refine comp_rng2F 1 (fun i => isLeft a b (i + 1)) (fun i => .int (1 + (i : Nat))) (a.length - 1) (by omega) (fun i hi K K' hK hK' => ?_) ?_
      · walk_at "go"
        rw [show (1 : Int) + (i : Int) = ((i + 1 : Nat) : Int) by omega]
        refine At.map (y := i + 1) (List.getElem?_range (by omega)) ?_
        walk_at "go"
        have hi2 : isLeft a b (i + 1) = decide (sech a (i + 1) + sech b (i + 1) ≠ 0) := rfl
        rw [hi2] at hK hK'
        generalize sech a (i + 1) + sech b (i + 1) = x at hK hK' ⊢
        refine Br.nd (fun c => ?_) (fun c => ?_)
        · walk_at "go"
          rw [show ((i + 1 : Nat) : Int) = 1 + (i : Int) by omega]
          exact hK (decide_eq_true c)
        · exact hK' (decide_eq_false fun z => z c)
      · walk_at "go"
        have el := fst_head (isLeft a b) a.length
        have fc2 : (List.range (a.length - 1)).filter (fun i => isLeft a b (i + 1)) = [] → fit = true := fun e => fconst fun k h1 h2 => by
          have := List.filter_eq_nil_iff.mp e (k - 1) (List.mem_range.mpr (by omega))
          rw [show k - 1 + 1 = k by omega] at this
          simpa using this
        generalize (List.range (a.length - 1)).filter (fun i => isLeft a b (i + 1)) = L at el fc2 ⊢
        apply cutR
        · intro r
          refine Br.d (fun c => ?_) (fun c => ?_)
          · walk_at "go"
            refine head_At (by rw [List.length_map] at c; omega) ?_
            walk_at "go"
            exact r.r
          · cases L with
            | nil =>
              walk_at "go"
              exact r.r
            | cons i L => exact absurd (show (0 : Int) < (((i :: L).map fun i : Nat => (.int (1 + (i : Nat)) : D)).length : Int) by rw [List.length_map, List.length_cons]; omega) c
        · refine leftover_ok (by omega) hb ?_
          rw [el]
          walk_at "go"
          refine vanish_ok (by omega) hb ?_
          rw [el]
          walk_at "go"
          refine is_eq ?_ ?_ ?_
          · cases L <;> rfl
          · cases L <;> rfl
          walk_at "go"
          apply cutR
          · intro r
            refine Br.d (fun c => ?_) (fun c => r.r)
            have ef : fit = true := fc2 (List.length_eq_zero_iff.mp (by rw [List.length_map] at c; omega))
            subst ef
            walk_at "go"
            exact r.r
          · refine doubled_ok (by omega) (by omega) ?_
            walk_at "go"
            refine wovenP_ok (by omega) hb ?_
            walk_at "go"
            rw [show ((a.length : Int) - 1).toNat = a.length - 1 by omega]
            refine loopR2 (α := Slot × Slot) (fun s => eT a b fit L s.1 s.2) S 1 (a.length - 1) (fun j hj s K hK => ?_) (fun s => ?_) (.no, .no)
            · have g1 := doubled_sech hb (k := j + 1) (by omega)
              have g2 := woven_sech hb (k := j + 1) (by omega)
              have g3 := wovenN_sech hb (2 * (j + 1))
              rw [show par (2 * (j + 1)) = 1 from if_pos (by omega), Int.mul_one] at g3
              obtain ⟨s1, s2⟩ := s
              walk_at "go"
              rw [show (1 : Int) + (j : Int) = ((j + 1 : Nat) : Int) by omega]
              refine sech_ok (by rw [List.length_append]; omega) (by rw [List.length_append]; omega) ?_
              walk_at "go"
              refine sech_ok (by rw [List.length_append, List.length_map]; omega) (by rw [List.length_append]; omega) ?_
              walk_at "go"
              rw [g1]
              refine At.map (y := j + 1) (List.getElem?_range (by omega)) ?_
              walk_at "go"
              rw [decide_eq_true rfl]
              walk_at "go"
              rw [show (2 : Int) * ((j + 1 : Nat) : Int) = ((2 * (j + 1) : Nat) : Int) by omega]
              refine sech_ok (by rw [wv_length]; omega) (by rw [wv_length]; omega) ?_
              walk_at "go"
              rw [show (2 : Int) * ((j + 1 : Nat) : Int) = ((2 * (j + 1) : Nat) : Int) by omega]
              refine sech_ok (by rw [wv_length]; omega) (by rw [wv_length]; omega) ?_
              walk_at "go"
              refine At.map (y := j + 1) (List.getElem?_range (by omega)) ?_
              walk_at "go"
              rw [g3, g2, decide_eq_true (show sech a (j + 1) + sech b (j + 1) + (sech a (j + 1) + sech b (j + 1)) = 2 * (sech a (j + 1) + sech b (j + 1)) by omega)]
              walk_at "go"
              exact hK (_, _)
            · obtain ⟨s1, s2⟩ := s
              walk_at "go"
              rw [show (2 * (a.length : Int) - (a.length : Int)).toNat = a.length by omega]
              refine loopR2 (α := Slot × Slot) (fun s => eT a b fit L s.1 s.2) S (a.length : Int) a.length (fun j hj s K hK => ?_) (fun s => ?_) (s1, s2)
              · have g1 := doubled_far hb (k := a.length + j) (by omega) (by omega)
                obtain ⟨s1, s2⟩ := s
                walk_at "go"
                rw [show (a.length : Int) + (j : Int) = ((a.length + j : Nat) : Int) by omega]
                refine sech_ok (by rw [List.length_append]; omega) (by rw [List.length_append]; omega) ?_
                walk_at "go"
                refine sech_ok (by rw [List.length_append, List.length_map]; omega) (by rw [List.length_append, List.length_map]; omega) ?_
                walk_at "go"
                rw [decide_eq_true g1]
                walk_at "go"
                exact hK (_, _)
              · obtain ⟨s1, s2⟩ := s
                walk_at "go"
                refine loopR (α := Slot × Slot) (fun s => eT a b fit L s.1 s.2) S a.length (fun j hj s K hK => ?_) (fun s => ?_) (s1, s2)
                · have g3 := wovenN_sech hb (2 * j + 1)
                  rw [show par (2 * j + 1) = -1 from if_neg (by omega)] at g3
                  obtain ⟨s1, s2⟩ := s
                  walk_at "go"
                  rw [show (2 : Int) * (j : Int) + 1 = ((2 * j + 1 : Nat) : Int) by omega]
                  refine sech_ok (by rw [wv_length]; omega) (by rw [wv_length]; omega) ?_
                  walk_at "go"
                  rw [show (2 : Int) * (j : Int) + 1 = ((2 * j + 1 : Nat) : Int) by omega]
                  refine sech_ok (by rw [wv_length]; omega) (by rw [wv_length]; omega) ?_
                  walk_at "go"
                  rw [g3, decide_eq_true (show sech (wv a b) (2 * j + 1) + sech (wv a b) (2 * j + 1) * -1 = 0 by omega)]
                  walk_at "go"
                  exact hK (_, _)
                · obtain ⟨s1, s2⟩ := s
                  walk_at "go"
                  rw [str_x]
                  refine shape_ok (by omega) ?_
                  walk_at "go"
                  refine shape_ok (by omega) ?_
                  walk_at "go"
                  have p1 := pos_le a true
                  have p2 := pos_le b true
                  refine shift_ok (by omega) (by omega) fun es ht hl2 => ?_
                  obtain ⟨es', hp, he⟩ := sort_ent es
                  rw [he]
                  walk_at "go"
                  refine comp_mapE (fun e : Ent => itemT (enE e)) (fun e => .int e.2) es' trivial (by rw [hp.length_eq]; omega) (fun e _ K K' hK => ?_) ?_
                  · walk_at "go"
                    exact hK
                  · rw [show es'.map (fun e => (.int e.2 : D)) = (es'.map (·.2)).map .int by rw [List.map_map]; rfl]
                    walk_at "go"
                    rw [intsOf_map]
                    walk_at "go"
                    rw [show List.count (cx true) (tx a).cps.toList = a.count true from count_x a, show List.count (cx true) (tx b).cps.toList = b.count true from count_x b]
                    have q1 : a.count true ≤ a.length := List.count_le_length
                    have q2 : b.count true ≤ b.length := List.count_le_length
                    refine ⟨mulR (by omega) (by omega), ?_⟩
                    walk_at "go"
                    rw [tot_perm hp, ht, Int.natCast_mul, pos_slits, pos_slits, count_slits, count_slits, decide_eq_true rfl]
                    exact h _ ⟨_, rfl⟩
end
end Gn

set_option maxHeartbeats 400000
namespace Gn
open PySem PySem.Spec L2 L3
local macro_rules | `(tactic| walk_at "go") => `(tactic|
  ((conv => whnf)
   repeat
    (first
     | ((with_reducible refine And.intro ?sd ?_); (case sd => (first | decide | assumption | omega | exact rfl | exact trivial | exact Nat.le_of_ble_eq_true rfl | exact mulR (by omega) (by omega) | exact mulL (by omega) (by omega) | exact div_ok (by omega) | exact pow_ok (by decide) | exact small_ok (by omega) | exact line_le (by decide) | exact line_le (Nat.le_of_ble_eq_true rfl) | exact line_le (by simp [ct_len]; omega) | exact line_lt (by simp [ct_len]; omega) | exact line_lt (Nat.le_of_ble_eq_true rfl))))
     | ((with_reducible apply Exists.intro); (refine And.intro rfl ?_))
     (conv => whnf))))

section
variable {S : Sto} {Q : DK}
theorem dots_of : ∀ {xs : List D}, (∀ x ∈ xs, ∃ b : Bool, x = .str (tx [b])) → ∃ bs : List Bool, xs = bs.map fun b => .str (tx [b])
  | [], _ => ⟨[], rfl⟩
  | x :: xs, h => by
    obtain ⟨b, rfl⟩ := h x List.mem_cons_self
    obtain ⟨bs, rfl⟩ := dots_of (xs := xs) fun y hy => h y (List.mem_cons_of_mem _ hy)
    exact ⟨b :: bs, rfl⟩
theorem signs_ok {n b k : Nat} {ds : List Int} (hS : HA n ds b S) (hd : Drawn ds) (hb : b + k < 1000000) (hk : k ≤ 1000) (h : ∀ (l : List Bool) S', l.length = k → HA n ds (b + k) S' → Q (.d (.str (tx l))) S') : rd__law_signs [.ref n, .d (.int k)] S Q := by
  rw [rd__law_signs_is]
  walk_at "go"
  refine comp_hand (P := fun x => ∃ b : Bool, x = .str (tx [b])) 1 hk hS (fun j S' b' K K' hj hb' hA hK => ?_) (fun xs S' hl hP hA => ?_)
  · walk_at "go"
    refine take_ok' hA hd (by omega) (by omega) fun t S2 t0 t1 hS2 => ?_
    walk_at "go"
    have ht : t = 0 ∨ t = 1 := by omega
    rcases ht with rfl | rfl
    · refine At.nat (i := 0) (z := 46) rfl ?_
      exact hK _ _ ⟨false, rfl⟩ hS2
    · refine At.nat (i := 1) (z := 120) rfl ?_
      exact hK _ _ ⟨true, rfl⟩ hS2
  · obtain ⟨bs, rfl⟩ := dots_of hP
    rw [List.length_map] at hl
    have e : bs.map (fun b => (.str (tx [b]) : D)) = (bs.map cx).map fun x => .str (SX.S [x]) := by
      rw [List.map_map]
      rfl
    rw [e]
    walk_at "go"
    rw [strsOf_signs]
    (conv => whnf)
    refine ⟨by rw [signs_len, List.length_map]; omega, ?_⟩
    rw [join_signs]
    exact h bs S' hl (by rw [Nat.one_mul] at hA; exact hA)
end
abbrev T := true
abbrev F := false
def kn : List (List Bool × List Bool) := [([T], [T]), ([T, T], [T, F]), ([T, T, T, F], [T, T, F, T]), ([T, T, F, T, F, F, F], [T, F, T, T, T, F, F]), ([T, T, T, T], [T, T, F, F]), ([T, T, T, F, T, T, F, T], [T, T, T, F, F, F, T, F])]
def kD (p : List Bool × List Bool) : D := .tuple [.str (tx p.1), .str (tx p.2)]
theorem z_1 : Str.ofString "xx" = tx [T, T] := by decide +kernel
theorem z_2 : Str.ofString "x." = tx [T, F] := by decide +kernel
theorem z_3 : Str.ofString "xxx." = tx [T, T, T, F] := by decide +kernel
theorem z_4 : Str.ofString "xx.x" = tx [T, T, F, T] := by decide +kernel
theorem z_5 : Str.ofString "xx.x..." = tx [T, T, F, T, F, F, F] := by decide +kernel
theorem z_6 : Str.ofString "x.xxx.." = tx [T, F, T, T, T, F, F] := by decide +kernel
theorem z_7 : Str.ofString "xxxx" = tx [T, T, T, T] := by decide +kernel
theorem z_8 : Str.ofString "xx.." = tx [T, T, F, F] := by decide +kernel
theorem z_9 : Str.ofString "xxx.xx.x" = tx [T, T, T, F, T, T, F, T] := by decide +kernel
theorem z_10 : Str.ofString "xxx...x." = tx [T, T, T, F, F, F, T, F] := by decide +kernel
theorem y_0 : Str.ofString "+++-" = px [T, T, T, F] := by decide +kernel
theorem y_1 : Str.ofString "++-+" = px [T, T, F, T] := by decide +kernel
theorem y_2 : Str.ofString "+++-++-+" = px [T, T, T, F, T, T, F, T] := by decide +kernel
theorem y_3 : Str.ofString "+++---+-" = px [T, T, T, F, F, F, T, F] := by decide +kernel
theorem times_one (b : Bool) (k : Nat) : strTimes (tx [b]) (k : Int) = tx (List.replicate k b) := by
  show SX.S (List.replicate (k : Int).toNat ([b].map cx)).flatten = SX.S ((List.replicate k b).map cx)
  rw [Int.toNat_natCast, List.map_replicate]
  congr 1
  induction k with
  | zero => rfl
  | succ k ih => rw [List.replicate_succ, List.flatten_cons, ih, List.replicate_succ]; rfl
theorem kn_ok : ∀ p ∈ kn, 0 < p.1.length ∧ p.1.length ≤ 40 ∧ p.2.length = p.1.length := by decide
theorem law_ok (ns : List Int) : rd_law [.d (scrD ns)] [] fun d _ => d = .d (.bool true) := by
  rw [rd_law_is]
  walk_at "go"
  rw [str_x, z_1, z_2, z_3, z_4, z_5, z_6, z_7, z_8, z_9, z_10]
  refine loop_inv (fun i ρ S' => ∃ x2 x3 : Slot, ρ = [.val (.d (scrD ns)), .val (.d (.tuple (kn.map kD))), x2, x3, .no, .no, .no, .no, .no, .no, .no]) (kn.map kD) 0 (fun j y e ρ S' K hI hK => ?_) (fun ρ S' hI => ?_) _ _ ⟨_, _, rfl⟩
  · obtain ⟨x2, x3, rfl⟩ := hI
    obtain ⟨p, ep, rfl⟩ := get_map e
    obtain ⟨p1, p2, p3⟩ := kn_ok p (List.mem_of_getElem? ep)
    refine ⟨trivial, ?_⟩
    walk_at "go"
    refine echoes_fine_ok p1 p2 ?_
    walk_at "go"
    refine echoes_fine_ok (by omega) (by omega) ?_
    walk_at "go"
    refine two_fine_ok p1 p2 p3 fun S2 _ => ?_
    walk_at "go"
    exact hK _ _ ⟨_, _, rfl⟩
  · obtain ⟨x2, x3, rfl⟩ := hI
    refine ⟨trivial, ?_⟩
    walk_at "go"
    refine flat_ok (by decide) ?_
    rw [show decide ((((nubI (ess [T, T, F, T, F, F, F])).length : Nat) : Int) ≤ 1) = true from by decide +kernel]
    walk_at "go"
    rw [y_0, y_1, y_2, y_3]
    refine vanish_ok (by decide) (by decide) ?_
    rw [show decide (fst1 (isLeft [T, T, T, F] [T, T, F, T]) ([T, T, T, F] : List Bool).length = none) = true from by decide +kernel]
    walk_at "go"
    refine vanish_ok (by decide) (by decide) ?_
    rw [show decide (fst1 (isLeft [T, T, T, F, T, T, F, T] [T, T, T, F, F, F, T, F]) ([T, T, T, F, T, T, F, T] : List Bool).length = none) = true from by decide +kernel]
    walk_at "go"
    refine is_eq rfl rfl ?_
    walk_at "go"
    refine loop_inv (fun i ρ S' => ∃ x2 x3 x4 x5 x6 x7 x8 x9 x10 : Slot, ρ = [.val (.d (scrD ns)), .val (.d (.tuple (kn.map kD))), x2, x3, x4, x5, x6, x7, x8, x9, x10]) _ 0 (fun j y e ρ S' K hI hK => ?_) (fun ρ S' hI => ?_) _ _ ⟨_, _, _, _, _, _, _, _, _, rfl⟩
    · obtain ⟨x2, x3, x4, x5, x6, x7, x8, x9, x10, rfl⟩ := hI
      obtain ⟨hj, rfl⟩ := rng_get e
      have hj : j < 3 := hj
      refine ⟨trivial, ?_⟩
      rw [Int.zero_add]
      walk_at "go"
      refine hand_ok (by omega) fun ds hd => ?_
      have hS : HA S'.length ds 0 (S' ++ [handC ds 0]) := hand_new
      generalize S' ++ [handC ds 0] = S1 at *
      generalize S'.length = hn at *
      walk_at "go"
      refine take_ok' hS hd (by omega) (by omega) fun t S2 t0 t1 hS2 => ?_
      obtain ⟨m, rfl⟩ := Int.eq_ofNat_of_zero_le t0
      walk_at "go"
      rw [show (1 : Int) + (m : Int) = ((m + 1 : Nat) : Int) by omega]
      refine signs_ok hS2 hd (by omega) (by omega) fun one S3 l1 hS3 => ?_
      walk_at "go"
      refine signs_ok hS3 hd (by omega) (by omega) fun other S4 l2 hS4 => ?_
      walk_at "go"
      refine ⟨⟨by omega, by omega, line_le (by rw [ct_len, Int.toNat_natCast, List.length_singleton]; omega)⟩, ?_⟩
      walk_at "go"
      rw [str_o]
      refine ⟨⟨by omega, by omega, line_le (by rw [ct_len, Int.toNat_natCast, List.length_singleton]; omega)⟩, ?_⟩
      walk_at "go"
      rw [times_one, times_one]
      have hm : m + 1 ≤ 12 := by omega
      refine loop_inv (fun i ρ S' => ∃ x8 : Slot, HA hn ds (25 + i) S' ∧ ρ = [.val (.d (scrD ns)), .val (.d (.tuple (kn.map kD))), .val (.d (.str (tx one))), .val (.d (.str (tx other))), x4, .val (.d (.int (j : Nat))), .val (.ref hn), .val (.d (.int ((m + 1 : Nat) : Int))), x8, x9, x10]) ([one, other, List.replicate (m + 1) true, List.replicate (m + 1) false].map fun l => .str (tx l)) 0 (fun i y e ρ S' K2 hI hK2 => ?_) (fun ρ S' hI => ?_) _ _ ⟨_, hS4.mono (by omega), rfl⟩
      · obtain ⟨x8, hA, rfl⟩ := hI
        obtain ⟨l, el, rfl⟩ := get_map e
        have ll : l.length = m + 1 := by
          have := List.mem_of_getElem? el
          simp only [List.mem_cons, List.not_mem_nil, or_false] at this
          rcases this with rfl | rfl | rfl | rfl
          · exact l1
          · exact l2
          · exact List.length_replicate
          · exact List.length_replicate
        have hi4 : i < 4 := (List.getElem?_eq_some_iff.mp el).1
        rw [Nat.zero_add] at *
        refine ⟨trivial, ?_⟩
        walk_at "go"
        refine echoes_fine_ok (by omega) (by omega) ?_
        walk_at "go"
        refine kin_fine_ok hA hd (by omega) (by omega) (by omega) fun S5 hA5 => ?_
        walk_at "go"
        refine two_fine_ok (by omega) (by omega) (by omega) fun S6 hT => ?_
        obtain ⟨T, rfl⟩ := hT
        walk_at "go"
        exact hK2 _ _ ⟨_, hA5.app, rfl⟩
      · obtain ⟨x8, hA, rfl⟩ := hI
        refine ⟨trivial, ?_⟩
        walk_at "go"
        refine take_ok' hA hd (by show 25 + (0 + 4) < 1000000; omega) (by omega) fun t2 S5 t0 t1 hS5 => ?_
        obtain ⟨q, rfl⟩ := Int.eq_ofNat_of_zero_le t0
        walk_at "go"
        have hq : q < kn.length := by
          show q < 6
          omega
        obtain ⟨p1, p2, p3⟩ := kn_ok _ (List.getElem_mem hq)
        refine At.map (y := kn[q]) (List.getElem?_eq_getElem hq) ?_
        generalize kn[q] = pr at p1 p2 p3 ⊢
        walk_at "go"
        refine take_ok' hS5 hd (by show 25 + (0 + 4) + 1 < 1000000; omega) (by omega) fun t3 S6 u0 u1 hS6 => ?_
        walk_at "go"
        refine turned_ok (by omega) p1 (by omega) (by omega) fun w hw => ?_
        walk_at "go"
        refine two_fine_ok (by rw [rot_len (by omega)]; exact p1) (by rw [rot_len (by omega)]; exact p2) (by rw [rot_len (by omega)]; exact p3) fun S7 hT => ?_
        obtain ⟨T, rfl⟩ := hT
        walk_at "go"
        refine kin_fine_ok hS6.app hd (by show 25 + (0 + 4) + 1 + 1 < 1000000; omega) (by omega) (by omega) fun S8 _ => ?_
        walk_at "go"
        exact hK _ _ ⟨_, _, _, _, _, _, _, _, _, rfl⟩
    · obtain ⟨x2, x3, x4, x5, x6, x7, x8, x9, x10, rfl⟩ := hI
      refine ⟨trivial, ?_⟩
      walk_at "go"
end Gn

open PySem PySem.W PySem.Calls PyProof.Rows
set_option maxHeartbeats 0
theorem PySem.Challenge.cw_shadehall_k02_whole_echoes_of_masks_rows_holds : PySem.Challenge.rw_shadehall_k02_whole_echoes_of_masks_rows.Holds := by
  w_on; o_law
  refine HandSHeadRun.head_any (r := OpenLaw.row PySem.Challenge.rw_shadehall_k02_whole_echoes_of_masks_rows) (q := view (OpenLaw.row PySem.Challenge.rw_shadehall_k02_whole_echoes_of_masks_rows).prog [37]) (H := Gn.hk) (ob := Gn.ob) (M := 6000) (loose := Gn.loose) (d := HandSHeadRun.topDef (OpenLaw.row PySem.Challenge.rw_shadehall_k02_whole_echoes_of_masks_rows).prog 37) (kwd := []) Gn.ob_eq
    (by kernel_rfl) (fun s => by kernel_rfl) Gn.run (by kernel_rfl) (by kernel_rfl) (by kernel_rfl) (by rfl) (by first | assumption | decide +kernel) (by decide +kernel) ⟨rfl, rfl, rfl, rfl, rfl, by decide +kernel⟩ ?hw ?hc
  case hw => w_witness2
  case hc =>
    refine L2.walk_ofE (l := PySem.Challenge.rw_shadehall_k02_whole_echoes_of_masks_rows) (n := 63) (k := 9) (x := "script") (CX := L2.CX0) rfl (by decide) (by kernel_rfl) ⟨rfl, by decide, by decide⟩ ?F (fun _ _ _ _ z => z)
    intro w mg fa h Y G hmg0
    obtain ⟨K, KX, c⟩ := Y
    have hmg : mg ("law" : PySem.Str) = some (.ref fa) := by
      have e : (HandSHeadRun.topDef (OpenLaw.row PySem.Challenge.rw_shadehall_k02_whole_echoes_of_masks_rows).prog 37).name = ("law" : PySem.Str) := by kernel_rfl
      rw [← e]
      exact hmg0
    obtain ⟨fd, hb, hF⟩ := Gn.facts (P := (PySem.Challenge.rw_shadehall_k02_whole_echoes_of_masks_rows).prog) (w := w) KX G hmg c
    exact ⟨K, fd, L3.spD K 1 Gn.rd_law, KX, hb, fun H a ns hl _ hS => L3.law_sp hS (Gn.law_ok ns), hF⟩
