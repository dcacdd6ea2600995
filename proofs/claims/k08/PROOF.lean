import PyProof.Rows.All
import Wide.All
import OpenK.AllK
import Wide.FinOn
import HandS.ForMost
import HandS.Head0
import HandS.Head1
import HandS.Head2
import HandS.HeadEnd
import HandS.HeadHook1
import HandS.HeadHook2
import HandS.HeadHook4
import HandS.IsInst
import HandS.TupAny
import HandS.Style
import PyProof.StrOps2
import HandS.Gcd
import HandS.Deep
import HandS.Defaults
import HandS.SortInts
import HandS.SetFor
import HandS.Zip
import KE.GoesEnum
import KE.GoesMore
import PyProof.Rows.StrRev
import HandS.Codes
import HandS.TupMul
import PySem.Challenge.RW_shadehall_k08_whole_dots_carried_on_and
set_option Elab.async false
set_option linter.all false
set_option maxRecDepth 100000
set_option maxHeartbeats 4000000
namespace L3
open PySem PySem.Spec PyProof.Rows L2

/-! ### data, cells, the state by data -/
abbrev D := PyData
open Classical in
/-- what stands still: the tracked heap without the things that may be changed -/
noncomputable def Fz (H : Hp) (M : Addr → Prop) : Hp := fun a => if M a then none else H a
theorem Fz.at {H : Hp} {M : Addr → Prop} {a : Addr} {u : HO} (h : Fz H M a = some u) : ¬ M a ∧ H a = some u := by
  unfold Fz at h
  split at h
  · cases h
  · rename_i n
    exact ⟨n, h⟩
theorem Fz.of {H : Hp} {M : Addr → Prop} {a : Addr} {u : HO} (n : ¬ M a) (h : H a = some u) : Fz H M a = some u := by
  unfold Fz
  rw [if_neg n]
  exact h
/-- more is held -/
def Sub (H H' : Hp) : Prop := ∀ a u, H a = some u → H' a = some u
theorem Sub.refl (H : Hp) : Sub H H := fun _ _ h => h
theorem Sub.trans {H H1 H2 : Hp} (h : Sub H H1) (h' : Sub H1 H2) : Sub H H2 := fun a u e => h' a u (h a u e)
theorem Fz.sub {H : Hp} {M : Addr → Prop} : Sub (Fz H M) H := fun _ _ h => (Fz.at h).2
theorem Sub.sqL {K : PySem.W.Frag} {H H' : Hp} (s : Sub H H') {a : Addr} {xs : List V} (h : SqL K H a xs) : SqL K H' a xs := by
  rcases h with (h | ⟨o, h⟩) | h
  · exact .inl (.inl (s _ _ h))
  · exact .inl (.inr ⟨o, s _ _ h⟩)
  · exact .inr h
theorem Sub.sqT {K : PySem.W.Frag} {H H' : Hp} (s : Sub H H') {a : Addr} {xs : List V} (h : SqT K H a xs) : SqT K H' a xs := by
  rcases h with (h | ⟨o, h⟩) | h
  · exact .inl (.inl (s _ _ h))
  · exact .inl (.inr ⟨o, s _ _ h⟩)
  · exact .inr h
/-- the script, as data -/
def scrD (ns : List Int) : D := .dict [(.none, .list (ns.map .int))]
mutual
/-- a value and the data that it is, in things that stand still -/
inductive Rp (K : PySem.W.Frag) (H : Hp) : V → D → Prop
  | non : Rp K H .non .none
  | bl (b : Bool) : Rp K H (.bl b) (.bool b)
  | int (i : Int) : Rp K H (.int i) (.int i)
  | str (x : Str) : Rp K H (.str x) (.str x)
  | lst {a : Addr} {vs : List V} {ds : List D} : H a = some (.lst vs) → RpAll K H vs ds → Rp K H (.ref a) (.list ds)
  | tup {a : Addr} {vs : List V} {ds : List D} : H a = some (.tup vs) → RpAll K H vs ds → Rp K H (.ref a) (.tuple ds)
  | scr {a : Addr} {ns : List Int} : SqL K H a (ns.map V.int) → Rp K H (.ref a) (scrD ns)
inductive RpAll (K : PySem.W.Frag) (H : Hp) : List V → List D → Prop
  | nil : RpAll K H [] []
  | cons {v : V} {vs : List V} {d : D} {ds : List D} : Rp K H v d → RpAll K H vs ds → RpAll K H (v :: vs) (d :: ds)
end
mutual
theorem Rp.sub {K : PySem.W.Frag} {H H' : Hp} (s : Sub H H') : ∀ {v : V} {d : D}, Rp K H v d → Rp K H' v d
  | _, _, .non => .non
  | _, _, .bl b => .bl b
  | _, _, .int i => .int i
  | _, _, .str x => .str x
  | _, _, .lst h r => .lst (s _ _ h) (RpAll.sub s r)
  | _, _, .tup h r => .tup (s _ _ h) (RpAll.sub s r)
  | _, _, .scr h => .scr (s.sqL h)
theorem RpAll.sub {K : PySem.W.Frag} {H H' : Hp} (s : Sub H H') : ∀ {vs : List V} {ds : List D}, RpAll K H vs ds → RpAll K H' vs ds
  | _, _, .nil => .nil
  | _, _, .cons h r => .cons (Rp.sub s h) (RpAll.sub s r)
end
mutual
/-- as the library's comparisons want it -/
theorem Rp.dp {K : PySem.W.Frag} {H : Hp} : ∀ {v : V} {d : D}, Rp K H v d → d.canLay0 = true → Dp K H v d
  | _, _, .non, _ => .non
  | _, _, .bl b, _ => .bl b
  | _, _, .int i, _ => .int i
  | _, _, .str x, _ => .str x
  | _, _, .lst h r, c => .lst (SqL.of h) (RpAll.dp r (by simpa [PyData.canLay0] using c))
  | _, _, .tup h r, c => .tup (SqT.of h) (RpAll.dp r (by simpa [PyData.canLay0] using c))
  | _, _, .scr h, c => by simp [scrD, PyData.canLay0] at c
theorem RpAll.dp {K : PySem.W.Frag} {H : Hp} : ∀ {vs : List V} {ds : List D}, RpAll K H vs ds → PyData.canLayAll0 ds = true → DpAll K H vs ds
  | _, _, .nil, _ => .nil
  | _, _, .cons h r, c => by
    simp only [PyData.canLayAll0, Bool.and_eq_true] at c
    exact .cons (Rp.dp h c.1) (RpAll.dp r c.2)
end
theorem RpAll.length {K : PySem.W.Frag} {H : Hp} : ∀ {vs : List V} {ds : List D}, RpAll K H vs ds → vs.length = ds.length
  | _, _, .nil => rfl
  | _, _, .cons _ r => congrArg (· + 1) (RpAll.length r)
theorem RpAll.append {K : PySem.W.Frag} {H : Hp} : ∀ {vs ws : List V} {ds es : List D}, RpAll K H vs ds → RpAll K H ws es → RpAll K H (vs ++ ws) (ds ++ es)
  | _, _, _, _, .nil, h => h
  | _, _, _, _, .cons a r, h => .cons a (RpAll.append r h)
theorem RpAll.get {K : PySem.W.Frag} {H : Hp} : ∀ {vs : List V} {ds : List D} {i : Nat} {d : D}, RpAll K H vs ds → ds[i]? = some d → ∃ v, vs[i]? = some v ∧ Rp K H v d
  | _, _, _, _, .nil, e => by simp at e
  | _, _, 0, _, .cons h _, e => by simp at e; subst e; exact ⟨_, rfl, h⟩
  | _, _, i + 1, d, .cons _ r, e => by
    obtain ⟨v, h1, h2⟩ := RpAll.get (i := i) (d := d) r (by simpa using e)
    exact ⟨v, by simpa using h1, h2⟩
theorem RpAll.getV {K : PySem.W.Frag} {H : Hp} : ∀ {vs : List V} {ds : List D} {i : Nat} {v : V}, RpAll K H vs ds → vs[i]? = some v → ∃ d, ds[i]? = some d ∧ Rp K H v d
  | _, _, _, _, .nil, e => by simp at e
  | _, _, 0, _, .cons h _, e => by simp at e; subst e; exact ⟨_, rfl, h⟩
  | _, _, i + 1, v, .cons _ r, e => by
    obtain ⟨d, h1, h2⟩ := RpAll.getV (i := i) (v := v) r (by simpa using e)
    exact ⟨d, by simpa using h1, h2⟩
theorem RpAll.take {K : PySem.W.Frag} {H : Hp} : ∀ {vs : List V} {ds : List D} (n : Nat), RpAll K H vs ds → RpAll K H (vs.take n) (ds.take n)
  | _, _, 0, _ => .nil
  | _, _, _ + 1, .nil => .nil
  | _, _, n + 1, .cons h r => .cons h (RpAll.take n r)
theorem RpAll.drop {K : PySem.W.Frag} {H : Hp} : ∀ {vs : List V} {ds : List D} (n : Nat), RpAll K H vs ds → RpAll K H (vs.drop n) (ds.drop n)
  | _, _, 0, h => h
  | _, _, _ + 1, .nil => .nil
  | _, _, n + 1, .cons _ r => RpAll.drop n r
theorem RpAll.reverse {K : PySem.W.Frag} {H : Hp} : ∀ {vs : List V} {ds : List D}, RpAll K H vs ds → RpAll K H vs.reverse ds.reverse
  | _, _, .nil => .nil
  | _, _, .cons h r => by
    rw [List.reverse_cons, List.reverse_cons]
    exact RpAll.append (RpAll.reverse r) (.cons h .nil)
theorem RpAll.set {K : PySem.W.Frag} {H : Hp} {v : V} {d : D} (x : Rp K H v d) : ∀ {vs : List V} {ds : List D} (i : Nat), RpAll K H vs ds → RpAll K H (vs.set i v) (ds.set i d)
  | _, _, _, .nil => .nil
  | _, _, 0, .cons _ r => .cons x r
  | _, _, i + 1, .cons h r => .cons h (RpAll.set x i r)

/-- a thing that may be changed -/
inductive Cell where
  | lst (xs : List D)
  | dK (kvs : List (Key × D))
/-- a value by data: data that stands still, a thing of the store, a thing of one's own slot -/
inductive DV where
  | d (x : D)
  | ref (n : Nat)
  | loc (i : Nat)
inductive Slot where
  | no
  | val (v : DV)
  | own (c : Cell)
abbrev Env3 := List Slot
abbrev Sto := List Cell

def KRp (K : PySem.W.Frag) (H : Hp) : List (Key × V) → List (Key × D) → Prop := Paired fun p q => p.1 = q.1 ∧ Rp K H p.2 q.2
def CellOk (K : PySem.W.Frag) (H Hz : Hp) (a : Addr) : Cell → Prop
  | .lst xs => ∃ vs, H a = some (.lst vs) ∧ RpAll K Hz vs xs
  | .dK kvs => ∃ ws, H a = some (.dK ws) ∧ KRp K Hz ws kvs
/-- the addresses of what may be changed: the callers' own things, the store's, one's own -/
def Mu (F : Addr → Prop) (m o : Nat → Option Addr) : Addr → Prop := fun a => F a ∨ (∃ n, m n = some a) ∨ ∃ i, o i = some a
def SlotOk (K : PySem.W.Frag) (m : Nat → Option Addr) (H Hz : Hp) (oi : Option Addr) (x : Option (Option V)) : Slot → Prop
  | .no => oi = none
  | .val (.d d) => oi = none ∧ ∃ v, x = some (some v) ∧ Rp K Hz v d
  | .val (.ref n) => oi = none ∧ ∃ a, x = some (some (.ref a)) ∧ m n = some a
  | .val (.loc _) => False
  | .own c => ∃ a, oi = some a ∧ x = some (some (.ref a)) ∧ CellOk K H Hz a c
structure Stor (K : PySem.W.Frag) (F : Addr → Prop) (m o : Nat → Option Addr) (S : Sto) (H : Hp) : Prop where
  there : ∀ n c, S[n]? = some c → ∃ a, m n = some a
  is : ∀ n a, m n = some a → ∃ c, S[n]? = some c ∧ CellOk K H (Fz H (Mu F m o)) a c
  inj : ∀ n k a, m n = some a → m k = some a → n = k
  injO : ∀ n i a, m n = some a → o i = some a → False
  injF : ∀ n a, m n = some a → F a → False
  oo : ∀ i j a, o i = some a → o j = some a → i = j
  oF : ∀ i a, o i = some a → F a → False
  alive : ∀ a, Mu F m o a → H a ≠ none
structure Rel (K : PySem.W.Frag) (F : Addr → Prop) (m o : Nat → Option Addr) (ρ : Env3) (S : Sto) (σ : L2.St) (H : Hp) : Prop where
  st : Stor K F m o S H
  len : σ.length = ρ.length
  sl : ∀ i s, ρ[i]? = some s → SlotOk K m H (Fz H (Mu F m o)) (o i) (σ[i]?) s
  far : ∀ i, ρ.length ≤ i → o i = none
/-- how the heap grows while code runs -/
structure Grow (F : Addr → Prop) (m o : Nat → Option Addr) (H : Hp) (m' o' : Nat → Option Addr) (H' : Hp) : Prop where
  f : ∀ a, F a → H' a = H a
  z : Sub (Fz H (Mu F m o)) (Fz H' (Mu F m' o'))
  m : ∀ n a, m n = some a → m' n = some a
theorem Grow.refl {F : Addr → Prop} {m o : Nat → Option Addr} {H : Hp} : Grow F m o H m o H := ⟨fun _ _ => rfl, Sub.refl _, fun _ _ h => h⟩
theorem Grow.trans {F : Addr → Prop} {m o m1 o1 m2 o2 : Nat → Option Addr} {H H1 H2 : Hp} (g : Grow F m o H m1 o1 H1) (g' : Grow F m1 o1 H1 m2 o2 H2) : Grow F m o H m2 o2 H2 :=
  ⟨fun a h => (g'.f a h).trans (g.f a h), g.z.trans g'.z, fun n a h => g'.m n a (g.m n a h)⟩

def DRep (K : PySem.W.Frag) (F : Addr → Prop) (m o : Nat → Option Addr) (H : Hp) (v : V) : DV → Prop
  | .d x => Rp K (Fz H (Mu F m o)) v x
  | .ref n => ∃ a, m n = some a ∧ v = .ref a
  | .loc i => ∃ a, o i = some a ∧ v = .ref a
theorem DRep.grow {K : PySem.W.Frag} {F : Addr → Prop} {m o m' : Nat → Option Addr} {H H' : Hp} {v : V} {d : DV} (r : DRep K F m o H v d) (g : Grow F m o H m' o H') : DRep K F m' o H' v d := by
  cases d with
  | d x => exact Rp.sub g.z r
  | ref n => obtain ⟨a, h, e⟩ := r; exact ⟨a, g.m n a h, e⟩
  | loc i => exact r

/-! ### readings by data -/
abbrev DK := DV → Sto → Prop
abbrev dTE := Env3 → Sto → DK → Prop
abbrev dTT := Env3 → Sto → (Bool → Sto → Prop) → Prop
abbrev dTA := Env3 → Sto → (List DV → Sto → Prop) → Prop
structure dEnds where
  nx : Env3 → Sto → Prop
  rt : DK
  bk : Env3 → Sto → Prop := fun _ _ => False
  ct : Env3 → Sto → Prop := fun _ _ => False
abbrev dTS := dEnds → Env3 → Sto → Prop

def DReps (K : PySem.W.Frag) (F : Addr → Prop) (m o : Nat → Option Addr) (H : Hp) : List V → List DV → Prop := Paired fun v d => DRep K F m o H v d
theorem DReps.grow {K : PySem.W.Frag} {F : Addr → Prop} {m o m' : Nat → Option Addr} {H H' : Hp} {vs : List V} {ds : List DV} (r : DReps K F m o H vs ds) (g : Grow F m o H m' o H') : DReps K F m' o H' vs ds :=
  Paired.mapP r fun _ _ h => h.grow g

/-- from a reading by data to one over the heap -/
def lift (K : PySem.W.Frag) (t : dTE) : TE := fun σ H Q => ∃ F m o ρ S k, Rel K F m o ρ S σ H ∧ t ρ S k ∧
  ∀ d S' m' H' v, k d S' → Rel K F m' o ρ S' σ H' → Grow F m o H m' o H' → DRep K F m' o H' v d → Q v H'
def liftT (K : PySem.W.Frag) (t : dTT) : TT := fun σ H Q => ∃ F m o ρ S k, Rel K F m o ρ S σ H ∧ t ρ S k ∧
  ∀ b S' m' H', k b S' → Rel K F m' o ρ S' σ H' → Grow F m o H m' o H' → Q b H'
def liftA (K : PySem.W.Frag) (t : dTA) : TA := fun σ H Q => ∃ F m o ρ S k, Rel K F m o ρ S σ H ∧ t ρ S k ∧
  ∀ ds S' m' H' vs, k ds S' → Rel K F m' o ρ S' σ H' → Grow F m o H m' o H' → DReps K F m' o H' vs ds → Q vs H'
structure EndsOk (K : PySem.W.Frag) (F : Addr → Prop) (m o : Nat → Option Addr) (H : Hp) (E : dEnds) (E' : Ends) : Prop where
  nx : ∀ ρ S m' o' σ' H', E.nx ρ S → Rel K F m' o' ρ S σ' H' → Grow F m o H m' o' H' → E'.nx σ' H'
  bk : ∀ ρ S m' o' σ' H', E.bk ρ S → Rel K F m' o' ρ S σ' H' → Grow F m o H m' o' H' → E'.bk σ' H'
  ct : ∀ ρ S m' o' σ' H', E.ct ρ S → Rel K F m' o' ρ S σ' H' → Grow F m o H m' o' H' → E'.ct σ' H'
  rt : ∀ d ρ S m' o' σ' H' v, E.rt d S → Rel K F m' o' ρ S σ' H' → Grow F m o H m' o' H' → DRep K F m' o' H' v d → E'.rt v H'
def liftS (K : PySem.W.Frag) (t : dTS) : TS := fun E' σ H => ∃ F m o ρ S E, Rel K F m o ρ S σ H ∧ t E ρ S ∧ EndsOk K F m o H E E'
theorem EndsOk.grow {K : PySem.W.Frag} {F : Addr → Prop} {m o m1 o1 : Nat → Option Addr} {H H1 : Hp} {E : dEnds} {E' : Ends} (e : EndsOk K F m o H E E') (g : Grow F m o H m1 o1 H1) : EndsOk K F m1 o1 H1 E E' :=
  ⟨fun ρ S m' o' σ' H' h r g' => e.nx ρ S m' o' σ' H' h r (g.trans g'), fun ρ S m' o' σ' H' h r g' => e.bk ρ S m' o' σ' H' h r (g.trans g'),
   fun ρ S m' o' σ' H' h r g' => e.ct ρ S m' o' σ' H' h r (g.trans g'), fun d ρ S m' o' σ' H' v h r g' q => e.rt d ρ S m' o' σ' H' v h r (g.trans g') q⟩

abbrev DE (X : Cx) (e : Expr) (t : dTE) : Prop := PE X e (lift X.K t)
abbrev DT (X : Cx) (e : Expr) (t : dTT) : Prop := PT X e (liftT X.K t)
abbrev DW (X : Cx) (e : Expr) (t : dTT) : Prop := PW X e (liftT X.K t)
abbrev DA (X : Cx) (es : List Expr) (t : dTA) : Prop := PA X es (liftA X.K t)
abbrev DS (X : Cx) (st : Stmt) (t : dTS) : Prop := PS X st (liftS X.K t)
abbrev DSs (X : Cx) (st : List Stmt) (t : dTS) : Prop := PSs X st (liftS X.K t)
theorem PE.imp {X : Cx} {e : Expr} {t t' : TE} (h : PE X e t) (i : ∀ σ H Q, t' σ H Q → t σ H Q) : PE X e t' := ⟨fun pins s σ H Q I q => h.run pins s σ H Q I (i σ H Q q)⟩
theorem PT.imp {X : Cx} {e : Expr} {t t' : TT} (h : PT X e t) (i : ∀ σ H Q, t' σ H Q → t σ H Q) : PT X e t' := ⟨fun pins s σ H Q I q => h.run pins s σ H Q I (i σ H Q q)⟩
theorem PW.imp {X : Cx} {e : Expr} {t t' : TT} (h : PW X e t) (i : ∀ σ H Q, t' σ H Q → t σ H Q) : PW X e t' := ⟨fun wh pins s σ H Q I q => h.run wh pins s σ H Q I (i σ H Q q)⟩
theorem PA.imp {X : Cx} {e : List Expr} {t t' : TA} (h : PA X e t) (i : ∀ σ H Q, t' σ H Q → t σ H Q) : PA X e t' := ⟨fun pos pins s σ H Q I q => h.run pos pins s σ H Q I (i σ H Q q)⟩
theorem PS.imp {X : Cx} {e : Stmt} {t t' : TS} (h : PS X e t) (i : ∀ E σ H, t' E σ H → t E σ H) : PS X e t' := ⟨fun pins s σ H D I q => h.run pins s σ H D I (i D σ H q)⟩
theorem PSs.imp {X : Cx} {e : List Stmt} {t t' : TS} (h : PSs X e t) (i : ∀ E σ H, t' E σ H → t E σ H) : PSs X e t' := ⟨fun pins s σ H D I q => h.run pins s σ H D I (i D σ H q)⟩

/-! ### the state when something new is laid -/
section
variable {K : PySem.W.Frag} {F : Addr → Prop} {m o : Nat → Option Addr} {ρ : Env3} {S : Sto} {σ : L2.St} {H H' : Hp}
/-- nothing that stood is changed -/
theorem fz_sub (s : Sub H H') : Sub (Fz H (Mu F m o)) (Fz H' (Mu F m o)) := fun _ _ h => Fz.of (Fz.at h).1 (s _ _ (Fz.at h).2)
theorem KRp.sub (s : Sub H H') {ws : List (Key × V)} {kvs : List (Key × D)} (h : KRp K H ws kvs) : KRp K H' ws kvs := Paired.mapP h fun _ _ q => ⟨q.1, Rp.sub s q.2⟩
theorem CellOk.sub {Hz Hz' : Hp} {a : Addr} {c : Cell} (h : CellOk K H Hz a c) (e : H' a = H a) (s : Sub Hz Hz') : CellOk K H' Hz' a c := by
  cases c with
  | lst xs => obtain ⟨vs, h1, h2⟩ := h; exact ⟨vs, e.trans h1, RpAll.sub s h2⟩
  | dK kvs => obtain ⟨vs, h1, h2⟩ := h; exact ⟨vs, e.trans h1, h2.sub s⟩
theorem sub_eq (s : Sub H H') {a : Addr} (h : H a ≠ none) : H' a = H a := by
  cases e : H a with
  | none => exact absurd e h
  | some u => exact s a u e
theorem Stor.sub (r : Stor K F m o S H) (s : Sub H H') : Stor K F m o S H' :=
  ⟨r.there, fun n a e => let ⟨c, h1, h2⟩ := r.is n a e; ⟨c, h1, h2.sub (sub_eq s (r.alive a (.inr (.inl ⟨n, e⟩)))) (fz_sub s)⟩, r.inj, r.injO, r.injF, r.oo, r.oF, fun a h e => by
    have := sub_eq s (r.alive a h)
    rw [e] at this
    exact r.alive a h this.symm⟩
theorem SlotOk.sub {Hz Hz' : Hp} {oi : Option Addr} {x : Option (Option V)} {c : Slot} (h : SlotOk K m H Hz oi x c) (e : ∀ a, oi = some a → H' a = H a) (s : Sub Hz Hz') : SlotOk K m H' Hz' oi x c := by
  cases c with
  | no => exact h
  | val v =>
    cases v with
    | d x => obtain ⟨h0, v, h1, h2⟩ := h; exact ⟨h0, v, h1, Rp.sub s h2⟩
    | ref n => exact h
    | loc i => exact h
  | own c => obtain ⟨a, h0, h1, h2⟩ := h; exact ⟨a, h0, h1, h2.sub (e a h0) s⟩
theorem Rel.sub (r : Rel K F m o ρ S σ H) (s : Sub H H') : Rel K F m o ρ S σ H' :=
  ⟨r.st.sub s, r.len, fun i c e => (r.sl i c e).sub (fun a h => sub_eq s (r.st.alive a (.inr (.inr ⟨i, h⟩)))) (fz_sub s), r.far⟩
theorem Grow.sub (r : Rel K F m o ρ S σ H) (s : Sub H H') : Grow F m o H m o H' := ⟨fun a h => sub_eq s (r.st.alive a (.inl h)), fz_sub s, fun _ _ h => h⟩
theorem sub_upd {p : Addr} {u : HO} (h : H p = none) : Sub H (upd H p u) := fun a w e => by
  rw [upd_ne (ne_of_none e h)]
  exact e
theorem fz_new (r : Stor K F m o S H) {p : Addr} {u : HO} (h : H p = none) : Fz (upd H p u) (Mu F m o) p = some u := Fz.of (fun z => r.alive p z h) upd_same
end
end L3

set_option maxHeartbeats 4000000
namespace L3
open PySem PySem.Spec L2

section
variable {K : PySem.W.Frag} {F : Addr → Prop} {m o : Nat → Option Addr} {ρ : Env3} {S : Sto} {σ : L2.St} {H H' : Hp}
def ersO (o : Nat → Option Addr) (i : Nat) : Nat → Option Addr := fun j => if j = i then none else o j
def putO (o : Nat → Option Addr) (i : Nat) (a : Addr) : Nat → Option Addr := fun j => if j = i then some a else o j
theorem ers_some {i j : Nat} {a : Addr} (h : ersO o i j = some a) : j ≠ i ∧ o j = some a := by
  unfold ersO at h
  split at h
  · cases h
  · rename_i n
    exact ⟨n, h⟩
theorem ers_ne {i j : Nat} (h : j ≠ i) : ersO o i j = o j := if_neg h
theorem ers_same {i : Nat} : ersO o i i = none := if_pos rfl
theorem put_ne {i j : Nat} {a : Addr} (h : j ≠ i) : putO o i a j = o j := if_neg h
theorem put_same {i : Nat} {a : Addr} : putO o i a i = some a := if_pos rfl
theorem mu_ers {i : Nat} {a : Addr} (h : Mu F m (ersO o i) a) : Mu F m o a := by
  rcases h with h | h | ⟨j, h⟩
  · exact .inl h
  · exact .inr (.inl h)
  · exact .inr (.inr ⟨j, (ers_some h).2⟩)
theorem fz_ers (i : Nat) : Sub (Fz H (Mu F m o)) (Fz H (Mu F m (ersO o i))) := fun a u h => Fz.of (fun z => (Fz.at h).1 (mu_ers z)) (Fz.at h).2
theorem Stor.ers (r : Stor K F m o S H) (i : Nat) : Stor K F m (ersO o i) S H :=
  ⟨r.there, fun n a e => let ⟨c, h1, h2⟩ := r.is n a e; ⟨c, h1, h2.sub rfl (fz_ers i)⟩, r.inj, fun n j a h e => r.injO n j a h (ers_some e).2, r.injF,
   fun j k a h h' => r.oo j k a (ers_some h).2 (ers_some h').2, fun j a h => r.oF j a (ers_some h).2, fun a h => r.alive a (mu_ers h)⟩
theorem Grow.ers (i : Nat) : Grow F m o H m (ersO o i) H := ⟨fun _ _ => rfl, fz_ers i, fun _ _ h => h⟩
theorem DRep.ers {v : V} {d : DV} (i : Nat) (r : DRep K F m o H v d) (n : ∀ j, d ≠ .loc j) : DRep K F m (ersO o i) H v d := by
  cases d with
  | d x => exact Rp.sub (fz_ers i) r
  | ref k => exact r
  | loc j => exact absurd rfl (n j)
def isLoc : DV → Bool
  | .loc _ => true
  | _ => false
theorem isLoc_no {d : DV} (h : isLoc d = false) : ∀ j, d ≠ .loc j := fun j e => by subst e; cases h
/-- slot i takes a value -/
theorem Rel.put (r : Rel K F m o ρ S σ H) (i : Nat) {v : V} {d : DV} (q : DRep K F m o H v d) (n : isLoc d = false) : Rel K F m (ersO o i) (ρ.set i (.val d)) S (σ.set i (some v)) H := by
  have q' := q.ers i (isLoc_no n)
  refine ⟨r.st.ers i, by rw [List.length_set, List.length_set, r.len], fun j s e => ?_, fun j h => ?_⟩
  · by_cases hj : i = j
    · subst hj
      have hlt : i < ρ.length := by
        have := (List.getElem?_eq_some_iff.mp e).1
        rwa [List.length_set] at this
      rw [List.getElem?_set_self hlt] at e
      cases e
      rw [ers_same, List.getElem?_set_self (by rw [r.len]; exact hlt)]
      cases d with
      | d x => exact ⟨rfl, v, rfl, q'⟩
      | ref k =>
        obtain ⟨a, h1, h2⟩ := q'
        exact ⟨rfl, a, by rw [h2], h1⟩
      | loc k => cases n
    · rw [List.getElem?_set_ne hj] at e
      rw [ers_ne (Ne.symm hj), List.getElem?_set_ne hj]
      exact (r.sl j s e).sub (fun _ _ => rfl) (fz_ers i)
  · rw [List.length_set] at h
    by_cases hj : j = i
    · subst hj; exact ers_same
    · rw [ers_ne hj]; exact r.far j h
theorem mu_put {i : Nat} {a b : Addr} (h : Mu F m (putO (ersO o i) i a) b) : b = a ∨ Mu F m o b := by
  rcases h with h | h | ⟨j, h⟩
  · exact .inr (.inl h)
  · exact .inr (.inr (.inl h))
  · by_cases hj : j = i
    · subst hj; rw [put_same] at h; cases h; exact .inl rfl
    · rw [put_ne hj] at h
      exact .inr (.inr (.inr ⟨j, (ers_some h).2⟩))
/-- slot i takes a new thing of its own -/
theorem fz_own {i : Nat} {p : Addr} {u : HO} (h : H p = none) : Sub (Fz H (Mu F m o)) (Fz (upd H p u) (Mu F m (putO (ersO o i) i p))) := fun a w e => by
  obtain ⟨e1, e2⟩ := Fz.at e
  have hne : a ≠ p := ne_of_none e2 h
  refine Fz.of (fun z => ?_) (by rw [upd_ne hne]; exact e2)
  rcases mu_put z with z | z
  · exact hne z
  · exact e1 z
theorem Grow.own (r : Stor K F m o S H) {i : Nat} {p : Addr} {u : HO} (h : H p = none) : Grow F m o H m (putO (ersO o i) i p) (upd H p u) :=
  ⟨fun a f => upd_ne (fun e => r.alive a (.inl f) (by rw [e]; exact h)), fz_own h, fun _ _ e => e⟩
theorem Rel.own (r : Rel K F m o ρ S σ H) {i : Nat} {p : Addr} {u : HO} {c : Cell} (h : H p = none) (hi : i < ρ.length)
    (q : CellOk K (upd H p u) (Fz (upd H p u) (Mu F m (putO (ersO o i) i p))) p c) : Rel K F m (putO (ersO o i) i p) (ρ.set i (.own c)) S (σ.set i (some (.ref p))) (upd H p u) := by
  have g := Grow.own (i := i) (u := u) r.st h
  have keep : ∀ a, Mu F m o a → (upd H p u) a = H a := fun a z => upd_ne fun e => r.st.alive a z (by rw [e]; exact h)
  have nop : ∀ {P : Prop}, Mu F m o p → P := fun z => absurd h (r.st.alive p z)
  refine ⟨⟨r.st.there, fun n a e => ?_, r.st.inj, fun n j a e z => ?_, r.st.injF, fun j k a e z => ?_, fun j a e f => ?_, fun a z => ?_⟩, by rw [List.length_set, List.length_set, r.len], fun j s e => ?_, fun j z => ?_⟩
  · obtain ⟨c, h1, h2⟩ := r.st.is n a e
    exact ⟨c, h1, h2.sub (keep a (.inr (.inl ⟨n, e⟩))) g.z⟩
  · by_cases hj : j = i
    · subst hj; rw [put_same] at z; cases z; exact nop (.inr (.inl ⟨n, e⟩))
    · rw [put_ne hj] at z; exact r.st.injO n j a e (ers_some z).2
  · by_cases hj : j = i
    · subst hj
      rw [put_same] at e
      cases e
      by_cases hk : k = j
      · exact hk.symm
      · rw [put_ne hk] at z
        exact nop (.inr (.inr ⟨k, (ers_some z).2⟩))
    · rw [put_ne hj] at e
      by_cases hk : k = i
      · subst hk
        rw [put_same] at z
        cases z
        exact nop (.inr (.inr ⟨j, (ers_some e).2⟩))
      · rw [put_ne hk] at z
        exact r.st.oo j k a (ers_some e).2 (ers_some z).2
  · by_cases hj : j = i
    · subst hj; rw [put_same] at e; cases e; exact nop (.inl f)
    · rw [put_ne hj] at e; exact r.st.oF j a (ers_some e).2 f
  · rcases mu_put z with z | z
    · subst z; rw [upd_same]; exact Option.some_ne_none u
    · rw [keep a z]; exact r.st.alive a z
  · by_cases hj : i = j
    · subst hj
      rw [List.getElem?_set_self hi] at e
      cases e
      exact ⟨p, put_same, List.getElem?_set_self (by rw [r.len]; exact hi), q⟩
    · rw [List.getElem?_set_ne hj] at e
      rw [put_ne (Ne.symm hj), ers_ne (Ne.symm hj), List.getElem?_set_ne hj]
      exact (r.sl j s e).sub (fun a z => keep a (.inr (.inr ⟨j, z⟩))) g.z
  · rw [List.length_set] at z
    have hj : j ≠ i := by omega
    rw [put_ne hj, ers_ne hj]
    exact r.far j z
end
/-! ### what an operand is, seen from outside -/
def keyD : Key → D
  | .inl i => .int i
  | .inr x => .str x
def cellD : Cell → D
  | .lst xs => .list xs
  | .dK kvs => .dict (kvs.map fun p => (keyD p.1, p.2))
def view (ρ : Env3) (S : Sto) : DV → D
  | .d x => x
  | .ref n => match S[n]? with
    | some c => cellD c
    | none => .none
  | .loc i => match ρ[i]? with
    | some (.own c) => cellD c
    | _ => .none
/-- an operand -/
inductive VRep (K : PySem.W.Frag) (H Hz : Hp) : V → D → Prop
  | d {v : V} {x : D} : Rp K Hz v x → VRep K H Hz v x
  | cell {a : Addr} {c : Cell} : CellOk K H Hz a c → VRep K H Hz (.ref a) (cellD c)
section
variable {K : PySem.W.Frag} {F : Addr → Prop} {m o : Nat → Option Addr} {ρ : Env3} {S : Sto} {σ : L2.St} {H H' Hz : Hp}
theorem Rel.view (r : Rel K F m o ρ S σ H) {v : V} {d : DV} (q : DRep K F m o H v d) : VRep K H (Fz H (Mu F m o)) v (view ρ S d) := by
  cases d with
  | d x => exact .d q
  | ref n =>
    obtain ⟨a, h1, rfl⟩ := q
    obtain ⟨c, h2, h3⟩ := r.st.is n a h1
    show VRep K H (Fz H (Mu F m o)) _ (match S[n]? with | some c => cellD c | none => .none)
    rw [h2]
    exact .cell h3
  | loc i =>
    obtain ⟨a, h1, rfl⟩ := q
    have hi : i < ρ.length := by
      by_cases z : i < ρ.length
      · exact z
      · have := r.far i (by omega)
        rw [h1] at this
        cases this
    have hs := r.sl i ρ[i] (List.getElem?_eq_getElem hi)
    show VRep K H (Fz H (Mu F m o)) _ (match ρ[i]? with | some (.own c) => cellD c | _ => .none)
    rw [List.getElem?_eq_getElem hi]
    rw [h1] at hs
    cases e : ρ[i] with
    | no => rw [e] at hs; cases hs
    | val w =>
      rw [e] at hs
      cases w with
      | d x => obtain ⟨z, _⟩ := hs; cases z
      | ref n => obtain ⟨z, _⟩ := hs; cases z
      | loc j => exact hs.elim
    | own c =>
      rw [e] at hs
      obtain ⟨b, h2, _, h3⟩ := hs
      cases h2
      exact .cell h3
theorem VRep.list {M : Addr → Prop} {v : V} {xs : List D} (h : VRep K H (Fz H M) v (.list xs)) : ∃ a vs, v = .ref a ∧ H a = some (.lst vs) ∧ RpAll K (Fz H M) vs xs := by
  generalize hx : (PyData.list xs : D) = y at h
  cases h with
  | d q =>
    subst hx
    cases q with
    | lst h r => exact ⟨_, _, rfl, Fz.sub _ _ h, r⟩
  | @cell a c q =>
    cases c with
    | lst ys =>
      cases hx
      obtain ⟨vs, h1, h2⟩ := q
      exact ⟨a, vs, rfl, h1, h2⟩
    | dK kvs => cases hx
theorem VRep.tup {v : V} {xs : List D} (h : VRep K H Hz v (.tuple xs)) : ∃ a vs, v = .ref a ∧ Hz a = some (.tup vs) ∧ RpAll K Hz vs xs := by
  generalize hx : (PyData.tuple xs : D) = y at h
  cases h with
  | d q =>
    subst hx
    cases q with
    | tup h r => exact ⟨_, _, rfl, h, r⟩
  | @cell a c q => cases c <;> cases hx
theorem VRep.scr {M : Addr → Prop} {v : V} {ns : List Int} (h : VRep K H (Fz H M) v (scrD ns)) (n : v ≠ v ∨ True := .inr trivial) : (∃ a, v = .ref a ∧ SqL K H a (ns.map V.int)) ∨ ∃ a kvs, v = .ref a ∧ H a = some (.dK kvs) := by
  generalize hx : (scrD ns : D) = y at h
  cases h with
  | d q =>
    cases q with
    | @scr a ms h =>
      have e : ns = ms := by
        simp only [scrD, PyData.dict.injEq, List.cons.injEq, Prod.mk.injEq, PyData.list.injEq, and_true, true_and] at hx
        exact (List.map_inj_right fun _ _ q => PyData.int.inj q).mp hx
      subst e
      exact .inl ⟨a, rfl, Fz.sub.sqL h⟩
    | _ => cases hx
  | @cell a c q =>
    cases c with
    | lst ys => cases hx
    | dK kvs =>
      obtain ⟨ws, h1, h2⟩ := q
      exact .inr ⟨a, ws, rfl, h1⟩
theorem VRep.int {v : V} {i : Int} (h : VRep K H Hz v (.int i)) : v = .int i := by
  generalize hx : (PyData.int i : D) = y at h
  cases h with
  | d q => subst hx; cases q; rfl
  | @cell a c q => cases c <;> cases hx
theorem VRep.str {v : V} {i : Str} (h : VRep K H Hz v (.str i)) : v = .str i := by
  generalize hx : (PyData.str i : D) = y at h
  cases h with
  | d q => subst hx; cases q; rfl
  | @cell a c q => cases c <;> cases hx
theorem VRep.bl {v : V} {i : Bool} (h : VRep K H Hz v (.bool i)) : v = .bl i := by
  generalize hx : (PyData.bool i : D) = y at h
  cases h with
  | d q => subst hx; cases q; rfl
  | @cell a c q => cases c <;> cases hx
theorem VRep.non {v : V} (h : VRep K H Hz v .none) : v = .non := by
  generalize hx : (PyData.none : D) = y at h
  cases h with
  | d q => subst hx; cases q; rfl
  | @cell a c q => cases c <;> cases hx
/-- data at any depth, as the comparisons want it -/
theorem VRep.dp {v : V} {x : D} (h : VRep K H Hz v x) (s : Sub Hz H) (n : x.canLay0 = true) : Dp K H v x := by
  cases h with
  | d q => exact Rp.dp (Rp.sub s q) n
  | @cell a c q =>
    cases c with
    | lst ys =>
      obtain ⟨vs, h1, h2⟩ := q
      exact .lst (SqL.of h1) (RpAll.dp (RpAll.sub s h2) (by simpa [cellD, PyData.canLay0] using n))
    | dK kvs => simp [cellD, PyData.canLay0] at n
end
end L3

set_option maxHeartbeats 4000000
namespace L3
open PySem PySem.Spec L2

/-- two ways -/
def Br (b : Bool) (A B : Prop) : Prop := match b with
  | true => A
  | false => B
theorem Br.t {A B : Prop} (h : A) : Br true A B := h
theorem Br.f {A B : Prop} (h : B) : Br false A B := h
theorem Br.i {b : Bool} {A B : Prop} (h : b = true → A) (h' : b = false → B) : Br b A B := by
  cases b
  · exact h' rfl
  · exact h rfl
theorem Br.eT {A B : Prop} (h : Br true A B) : A := h
theorem Br.eF {A B : Prop} (h : Br false A B) : B := h
/-! ### names, constants -/
def dVar (i : Nat) : dTE := fun ρ S Q => match ρ[i]? with
  | some (.val d) => Q d S
  | some (.own _) => Q (.loc i) S
  | _ => False
def dC (x : D) : dTE := fun _ S Q => Q (.d x) S
section
variable {X : Cx}
theorem lift_var {K : PySem.W.Frag} {i : Nat} {σ : L2.St} {H : Hp} {Q : VK} (h : lift K (dVar i) σ H Q) : tVar i σ H Q := by
  obtain ⟨F, m, o, ρ, S, k, r, t, hk⟩ := h
  unfold dVar at t
  cases e : ρ[i]? with
  | none => rw [e] at t; exact t.elim
  | some s =>
    rw [e] at t
    have hs := r.sl i s e
    cases s with
    | no => exact t.elim
    | val d =>
      cases d with
      | d x => obtain ⟨_, v, h1, h2⟩ := hs; exact ⟨v, h1, hk _ S m H v t r Grow.refl h2⟩
      | ref n => obtain ⟨_, a, h1, h2⟩ := hs; exact ⟨_, h1, hk _ S m H _ t r Grow.refl ⟨a, h2, rfl⟩⟩
      | loc j => exact hs.elim
    | own c => obtain ⟨a, h1, h2, h3⟩ := hs; exact ⟨_, h2, hk _ S m H _ t r Grow.refl ⟨a, h1, rfl⟩⟩
theorem de_var {e : Expr} {i : Nat} (h : PE X e (tVar i)) : DE X e (dVar i) := PE.imp h fun _ _ _ => lift_var
theorem lift_c {K : PySem.W.Frag} {v : V} {x : D} (dp : ∀ H : Hp, Rp K H v x) {σ : L2.St} {H : Hp} {Q : VK} (h : lift K (dC x) σ H Q) : tC v σ H Q := by
  obtain ⟨F, m, o, ρ, S, k, r, t, hk⟩ := h
  exact hk _ S m H v t r Grow.refl (dp _)
theorem de_int {i : Int} {j pos} : DE X (.Constant (.int i) j pos) (dC (.int i)) := PE.imp pe_int fun _ _ _ => lift_c fun _ => .int i
theorem de_bl {i : Bool} {j pos} : DE X (.Constant (.bool i) j pos) (dC (.bool i)) := PE.imp pe_bl fun _ _ _ => lift_c fun _ => .bl i
theorem de_str {i : Str} {j pos} : DE X (.Constant (.str i) j pos) (dC (.str i)) := PE.imp pe_str fun _ _ _ => lift_c fun _ => .str i
theorem de_non {j pos} : DE X (.Constant .none j pos) (dC .none) := PE.imp pe_non fun _ _ _ => lift_c fun _ => .non
end

/-! ### operators by values -/
abbrev F1 := D → (D → Prop) → Prop
abbrev F2 := D → D → (D → Prop) → Prop
abbrev FN := List D → (D → Prop) → Prop
def dOp (f : F2) (ta tb : dTE) : dTE := fun ρ S Q => ta ρ S fun d S1 => tb ρ S1 fun e S2 => f (view ρ S2 d) (view ρ S2 e) fun z => Q (.d z) S2
def dUn (f : F1) (ta : dTE) : dTE := fun ρ S Q => ta ρ S fun d S1 => f (view ρ S1 d) fun z => Q (.d z) S1
def dNil : dTA := fun _ S Q => Q [] S
def dCons (ta : dTE) (tr : dTA) : dTA := fun ρ S Q => ta ρ S fun d S1 => tr ρ S1 fun ds S2 => Q (d :: ds) S2
def views (ρ : Env3) (S : Sto) : List DV → List D
  | [] => []
  | d :: ds => view ρ S d :: views ρ S ds
/-- a built-in call, its arguments seen from outside -/
def dCB (f : FN) (ta : dTA) : dTE := fun ρ S Q => ta ρ S fun ds S1 => f (views ρ S1 ds) fun z => Q (.d z) S1
/-- all that may be changed is there -/
def Alive (M : Addr → Prop) (H : Hp) : Prop := ∀ a, M a → H a ≠ none
/-- what a rule over values makes of a function of data; u says which units there are -/
def OpD (K : PySem.W.Frag) (r : R2) (f : F2) : Prop := ∀ (M : Addr → Prop) (H : Hp) (x y : V) (dx dy : D) (k : D → Prop) (Q : VK), Alive M H →
  VRep K H (Fz H M) x dx → VRep K H (Fz H M) y dy → f dx dy k → (∀ z v H', k z → Sub H H' → Rp K (Fz H' M) v z → Q v H') → r x y H Q
def UnD (K : PySem.W.Frag) (r : V → Hp → VK → Prop) (f : F1) : Prop := ∀ (M : Addr → Prop) (H : Hp) (x : V) (dx : D) (k : D → Prop) (Q : VK), Alive M H →
  VRep K H (Fz H M) x dx → f dx k → (∀ z v H', k z → Sub H H' → Rp K (Fz H' M) v z → Q v H') → r x H Q
abbrev VReps (K : PySem.W.Frag) (H Hz : Hp) : List V → List D → Prop := Paired fun v x => VRep K H Hz v x
def CallD (K : PySem.W.Frag) (r : List V → Hp → VK → Prop) (f : FN) : Prop := ∀ (M : Addr → Prop) (H : Hp) (xs : List V) (ds : List D) (k : D → Prop) (Q : VK), Alive M H →
  VReps K H (Fz H M) xs ds → f ds k → (∀ z v H', k z → Sub H H' → Rp K (Fz H' M) v z → Q v H') → r xs H Q
section
variable {K : PySem.W.Frag}
theorem lift2 {r : R2} {f : F2} {ta tb : dTE} (hf : OpD K r f) {σ : L2.St} {H : Hp} {Q : VK} (h : lift K (dOp f ta tb) σ H Q) : tOp r (lift K ta) (lift K tb) σ H Q := by
  obtain ⟨F, m, o, ρ, S, k, rel, t, hk⟩ := h
  refine ⟨F, m, o, ρ, S, _, rel, t, fun d S1 m1 H1 v h1 rel1 g1 r1 => ?_⟩
  refine ⟨F, m1, o, ρ, S1, _, rel1, h1, fun e S2 m2 H2 w h2 rel2 g2 r2 => ?_⟩
  exact hf (Mu F m2 o) H2 v w _ _ _ _ rel2.st.alive (rel2.view (r1.grow g2)) (rel2.view r2) h2 fun z u H' kz s dz =>
    hk (.d z) S2 m2 H' u kz (rel2.sub s) ((g1.trans g2).trans (Grow.sub rel2 s)) dz
theorem lift1 {r : V → Hp → VK → Prop} {f : F1} {ta : dTE} (hf : UnD K r f) {σ : L2.St} {H : Hp} {Q : VK} (h : lift K (dUn f ta) σ H Q) : tUn r (lift K ta) σ H Q := by
  obtain ⟨F, m, o, ρ, S, k, rel, t, hk⟩ := h
  refine ⟨F, m, o, ρ, S, _, rel, t, fun d S1 m1 H1 v h1 rel1 g1 r1 => ?_⟩
  exact hf (Mu F m1 o) H1 v _ _ _ rel1.st.alive (rel1.view r1) h1 fun z u H' kz s dz =>
    hk (.d z) S1 m1 H' u kz (rel1.sub s) (g1.trans (Grow.sub rel1 s)) dz
theorem lift_nil {σ : L2.St} {H : Hp} {Q : List V → Hp → Prop} (h : liftA K dNil σ H Q) : tNil σ H Q := by
  obtain ⟨F, m, o, ρ, S, k, rel, t, hk⟩ := h
  exact hk [] S m H [] t rel Grow.refl .nil
theorem lift_cons {ta : dTE} {tr : dTA} {σ : L2.St} {H : Hp} {Q : List V → Hp → Prop} (h : liftA K (dCons ta tr) σ H Q) : tCons (lift K ta) (liftA K tr) σ H Q := by
  obtain ⟨F, m, o, ρ, S, k, rel, t, hk⟩ := h
  refine ⟨F, m, o, ρ, S, _, rel, t, fun d S1 m1 H1 v h1 rel1 g1 r1 => ?_⟩
  refine ⟨F, m1, o, ρ, S1, _, rel1, h1, fun ds S2 m2 H2 vs h2 rel2 g2 r2 => ?_⟩
  exact hk (d :: ds) S2 m2 H2 (v :: vs) h2 rel2 (g1.trans g2) (.cons (r1.grow g2) r2)
theorem Rel.views {F : Addr → Prop} {m o : Nat → Option Addr} {ρ : Env3} {S : Sto} {σ : L2.St} {H : Hp} (r : Rel K F m o ρ S σ H) : ∀ {vs : List V} {ds : List DV}, DReps K F m o H vs ds → VReps K H (Fz H (Mu F m o)) vs (views ρ S ds)
  | _, _, .nil => .nil
  | _, _, .cons h t => .cons (r.view h) (r.views t)
theorem liftCB {r : List V → Hp → VK → Prop} {f : FN} {ta : dTA} (hf : CallD K r f) {σ : L2.St} {H : Hp} {Q : VK} (h : lift K (dCB f ta) σ H Q) : tCB r (liftA K ta) σ H Q := by
  obtain ⟨F, m, o, ρ, S, k, rel, t, hk⟩ := h
  refine ⟨F, m, o, ρ, S, _, rel, t, fun ds S1 m1 H1 vs h1 rel1 g1 r1 => ?_⟩
  exact hf (Mu F m1 o) H1 vs _ _ _ rel1.st.alive (rel1.views r1) h1 fun z u H' kz s dz =>
    hk (.d z) S1 m1 H' u kz (rel1.sub s) (g1.trans (Grow.sub rel1 s)) dz
end
section
variable {X : Cx} {a b : Expr} {ta tb : dTE} {es : List Expr} {tas : dTA} {e : Expr}
theorem de_op {op : Operator} {pos : Pos} {f : F2} (ho : ∃ r, OpR X (binaryOp op) r ∧ OpD X.K r f) (ha : DE X a ta) (hb : DE X b tb) : DE X (.BinOp a op b pos) (dOp f ta tb) :=
  let ⟨r, h1, h2⟩ := ho; PE.imp (pe_op h1 ha hb) fun _ _ _ => lift2 h2
theorem de_un {op : UnaryOp} {pos : Pos} {f : F1} (ho : ∃ r, UnR X (unaryOp op) r ∧ UnD X.K r f) (ha : DE X a ta) : DE X (.UnaryOp op a pos) (dUn f ta) :=
  let ⟨r, h1, h2⟩ := ho; PE.imp (pe_un h1 ha) fun _ _ _ => lift1 h2
theorem de_cmp {op : CmpOp} {pos : Pos} {f : F2} (ho : ∃ r, OpR X (compareOp op) r ∧ OpD X.K r f) (ha : DE X a ta) (hb : DE X b tb) (hm : behindInMarks op b = false := by first | exact nomark _ | rfl) : DE X (.Compare a [op] [b] pos) (dOp f ta tb) :=
  let ⟨r, h1, h2⟩ := ho; PE.imp (pe_cmpR h1 ha hb hm) fun _ _ _ => lift2 h2
theorem da_nil : DA X [] dNil := PA.imp pa_nil fun _ _ _ => lift_nil
theorem da_cons (ha : DE X e ta) (hr : DA X es tas) (hs : starEach (e :: es) X.env = (false, eval e X.env) :: starEach es X.env := by rfl) : DA X (e :: es) (dCons ta tas) :=
  PA.imp (pa_cons ha hr hs) fun _ _ _ => lift_cons
theorem de_callB {id : String} {x : Str} {f : FN} {p pos : Pos} (hc : ∃ r, CallR X (.builtin id) r ∧ CallD X.K r f) (hm : X.mg x = none) (hg : Gl X x) (hv : bootBuiltins x = some (.builtin id)) (ha : DA X (e :: es) tas) (hn : x ≠ "__name__" := by decide) (hdb : (x == ("__debug__" : Str)) = false := by decide)
    (he : starEach (e :: es) X.env = (false, eval e X.env) :: starEach es X.env := by rfl) (hpl : (backTo pos (starEach es X.env)).any (·.1) = false := by rfl) : DE X (.Call (.Name x p) (e :: es) [] pos) (dCB f tas) :=
  let ⟨r, h1, h2⟩ := hc; PE.imp (pe_callB h1 hg hm hv ha hn hdb he hpl) fun _ _ _ => liftCB h2
theorem de_callT {T : String} {x : Str} {f : FN} {p pos : Pos} (hc : ∃ r, CallR X (.type T) r ∧ CallD X.K r f) (hm : X.mg x = none) (hg : Gl X x) (hv : bootBuiltins x = some (.type T)) (ha : DA X (e :: es) tas) (hn : x ≠ "__name__" := by decide) (hdb : (x == ("__debug__" : Str)) = false := by decide)
    (he : starEach (e :: es) X.env = (false, eval e X.env) :: starEach es X.env := by rfl) (hpl : (backTo pos (starEach es X.env)).any (·.1) = false := by rfl) : DE X (.Call (.Name x p) (e :: es) [] pos) (dCB f tas) :=
  let ⟨r, h1, h2⟩ := hc; PE.imp (pe_callTy h1 hg hm hv ha hn hdb he hpl) fun _ _ _ => liftCB h2
end

/-! ### displays -/
/-- only data that stands still -/
def datas : List DV → Option (List D)
  | [] => some []
  | .d x :: r => (datas r).map (x :: ·)
  | _ :: _ => none
theorem datas_rep {K : PySem.W.Frag} {F : Addr → Prop} {m o : Nat → Option Addr} {H : Hp} : ∀ {vs : List V} {ds : List DV} {xs : List D}, DReps K F m o H vs ds → datas ds = some xs → RpAll K (Fz H (Mu F m o)) vs xs
  | _, [], _, .nil, e => by cases e; exact .nil
  | _, .d x :: r, _, .cons h t, e => by
    unfold datas at e
    cases q : datas r with
    | none => rw [q] at e; cases e
    | some ys => rw [q] at e; cases e; exact .cons h (datas_rep t q)
  | _, .ref _ :: _, _, _, e => by cases e
  | _, .loc _ :: _, _, _, e => by cases e
def withDs (ds : List DV) (k : List D → Prop) : Prop := match datas ds with
  | some xs => k xs
  | none => False
theorem withDs_of {ds : List DV} {k : List D → Prop} (h : withDs ds k) : ∃ xs, datas ds = some xs ∧ k xs := by
  unfold withDs at h
  split at h
  · exact ⟨_, by assumption, h⟩
  · exact h.elim
/-- no more than n items -/
def okLen : Nat → List D → Prop → Prop
  | _, [], k => k
  | 0, _ :: _, _ => False
  | n + 1, _ :: xs, k => okLen n xs k
theorem okLen_of : ∀ {n : Nat} {xs : List D} {k : Prop}, okLen n xs k → xs.length ≤ n ∧ k
  | 0, [], _, h => ⟨Nat.le_refl _, h⟩
  | n + 1, [], _, h => ⟨Nat.zero_le _, h⟩
  | 0, _ :: _, _, h => h.elim
  | n + 1, _ :: xs, k, h => let ⟨h1, h2⟩ := okLen_of (n := n) (xs := xs) (k := k) h; ⟨Nat.succ_le_succ h1, h2⟩
abbrev dTF := Env3 → Sto → (List D → Sto → Prop) → Prop
/-- a new list, nobody else's -/
def liftF (K : PySem.W.Frag) (t : dTF) : TE := fun σ H Q => ∃ F m o ρ S k, Rel K F m o ρ S σ H ∧ t ρ S k ∧
  ∀ xs S' m' H1 p vs, k xs S' → Rel K F m' o ρ S' σ H1 → Grow F m o H m' o H1 → H1 p = none → RpAll K (Fz H1 (Mu F m' o)) vs xs → Q (.ref p) (upd H1 p (.lst vs))
abbrev DF (X : Cx) (e : Expr) (t : dTF) : Prop := PE X e (liftF X.K t)
def dFz (t : dTF) : dTE := fun ρ S Q => t ρ S fun xs S' => Q (.d (.list xs)) S'
theorem lift_fz {K : PySem.W.Frag} {t : dTF} {σ : L2.St} {H : Hp} {Q : VK} (h : lift K (dFz t) σ H Q) : liftF K t σ H Q := by
  obtain ⟨F, m, o, ρ, S, k, rel, t, hk⟩ := h
  refine ⟨F, m, o, ρ, S, _, rel, t, fun xs S1 m1 H1 p vs h1 rel1 g1 hp hd => ?_⟩
  have s := sub_upd (u := .lst vs) hp
  refine hk _ S1 m1 _ _ h1 (rel1.sub s) (g1.trans (Grow.sub rel1 s)) ?_
  exact .lst (fz_new rel1.st hp) (RpAll.sub (fz_sub s) hd)
theorem de_fz {X : Cx} {e : Expr} {t : dTF} (h : DF X e t) : DE X e (dFz t) := PE.imp h fun _ _ _ => lift_fz
def fLst (ta : dTA) : dTF := fun ρ S Q => ta ρ S fun ds S1 => withDs ds fun xs => okLen 100 xs (Q xs S1)
theorem df_lst {X : Cx} {es : List Expr} {pos : Pos} {tas : dTA} (h : DA X es tas) : DF X (.List es pos) (fLst tas) := PE.imp (pe_lst h) fun σ H Q q => by
  obtain ⟨F, m, o, ρ, S, k, rel, t, hk⟩ := q
  refine ⟨F, m, o, ρ, S, _, rel, t, fun ds S1 m1 H1 vs h1 rel1 g1 r1 => ?_⟩
  obtain ⟨xs, e, hq⟩ := withDs_of h1
  obtain ⟨hl, hq⟩ := okLen_of hq
  have dp := datas_rep r1 e
  exact ⟨by rw [RpAll.length dp]; exact Nat.le_trans hl (by decide), fun p hp => hk xs S1 m1 H1 p vs hq rel1 g1 hp dp⟩
def dTup (ta : dTA) : dTE := fun ρ S Q => ta ρ S fun ds S1 => withDs ds fun xs => okLen 100 xs (Q (.d (.tuple xs)) S1)
theorem de_tup {X : Cx} {es : List Expr} {x1 : Nat} {pos : Pos} {tas : dTA} (h : DA X es tas) : DE X (.Tuple es x1 pos) (dTup tas) := PE.imp (pe_tup h) fun σ H Q q => by
  obtain ⟨F, m, o, ρ, S, k, rel, t, hk⟩ := q
  refine ⟨F, m, o, ρ, S, _, rel, t, fun ds S1 m1 H1 vs h1 rel1 g1 r1 => ?_⟩
  obtain ⟨xs, e, hq⟩ := withDs_of h1
  obtain ⟨hl, hq⟩ := okLen_of hq
  have dp := datas_rep r1 e
  refine ⟨by rw [RpAll.length dp]; exact Nat.le_trans hl (by decide), fun p hp => ?_⟩
  have s := sub_upd (u := .tup vs) hp
  exact hk _ S1 m1 _ _ hq (rel1.sub s) (g1.trans (Grow.sub rel1 s)) (.tup (fz_new rel1.st hp) (RpAll.sub (fz_sub s) dp))

/-! ### tests -/
def asB (d : DV) (k : Bool → Prop) : Prop := match d with
  | .d (.bool b) => k b
  | _ => False
theorem asB_of {d : DV} {k : Bool → Prop} (h : asB d k) : ∃ b, d = .d (.bool b) ∧ k b := by
  unfold asB at h
  split at h
  · exact ⟨_, rfl, h⟩
  · exact h.elim
theorem dp_bl {K : PySem.W.Frag} {H : Hp} {v : V} {b : Bool} (h : Rp K H v (.bool b)) : v = .bl b := by cases h; rfl
theorem dp_int {K : PySem.W.Frag} {H : Hp} {v : V} {b : Int} (h : Rp K H v (.int b)) : v = .int b := by cases h; rfl
theorem dp_str {K : PySem.W.Frag} {H : Hp} {v : V} {b : Str} (h : Rp K H v (.str b)) : v = .str b := by cases h; rfl
theorem dp_non {K : PySem.W.Frag} {H : Hp} {v : V} (h : Rp K H v .none) : v = .non := by cases h; rfl
/-- a value that is True or False, as a test -/
def dB (t : dTE) : dTT := fun ρ S Q => t ρ S fun d S1 => asB d fun b => Q b S1
theorem lift_b {K : PySem.W.Frag} {t : dTE} {σ : L2.St} {H : Hp} {Q : Bool → Hp → Prop} (h : liftT K (dB t) σ H Q) : lift K t σ H fun x H1 => ∃ c, x = .bl c ∧ Q c H1 := by
  obtain ⟨F, m, o, ρ, S, k, rel, t, hk⟩ := h
  refine ⟨F, m, o, ρ, S, _, rel, t, fun d S1 m1 H1 v h1 rel1 g1 r1 => ?_⟩
  obtain ⟨b, rfl, h2⟩ := asB_of h1
  exact ⟨b, dp_bl r1, hk b S1 m1 H1 h2 rel1 g1⟩
theorem dt_val {X : Cx} {e : Expr} {t : dTE} (h : DE X e t) (he : ∀ whole, isTrue e X.env whole = (do let v ← whole; standAt e.pos; holding [v] (truthy v)) := by intro _; rfl) : DT X e (dB t) :=
  PT.imp (pt_val h he) fun _ _ _ => lift_b
theorem dt_cmp {X : Cx} {a b : Expr} {ta tb : dTE} {op : CmpOp} {pos : Pos} {f : F2} (ho : ∃ r, OpR X (compareOp op) r ∧ OpD X.K r f) (ha : DE X a ta) (hb : DE X b tb) (hm : behindInMarks op b = false := by first | exact nomark _ | rfl) :
    DT X (.Compare a [op] [b] pos) (dB (dOp f ta tb)) := let ⟨r, h1, h2⟩ := ho; PT.imp (pt_cmpR h1 ha hb hm) fun σ H Q q => by
  have h := lift_b q
  exact lift2 h2 h
def dAnd (t u : dTT) : dTT := fun ρ S Q => t ρ S fun c S1 => Br c (u ρ S1 Q) (Q false S1)
def dOr (t u : dTT) : dTT := fun ρ S Q => t ρ S fun c S1 => Br c (Q true S1) (u ρ S1 Q)
def dNot (t : dTT) : dTT := fun ρ S Q => t ρ S fun c S1 => Q (!c) S1
section
variable {X : Cx} {a b : Expr} {ta tb : dTT} {rest : List Expr} {pos : Pos}
theorem dw_pt (h : DW X a ta) : DT X a ta := PW.pt h
theorem dw_and1 (ha : DT X a ta) : DW X (.BoolOp .And [a] pos) ta := pw_and1 ha
theorem dw_or1 (ha : DT X a ta) : DW X (.BoolOp .Or [a] pos) ta := pw_or1 ha
theorem dw_and (ha : DT X a ta) (hb : DW X (.BoolOp .And (b :: rest) pos) tb) : DW X (.BoolOp .And (a :: b :: rest) pos) (dAnd ta tb) := PW.imp (pw_and ha hb) fun σ H Q q => by
  obtain ⟨F, m, o, ρ, S, k, rel, t, hk⟩ := q
  refine ⟨F, m, o, ρ, S, _, rel, t, fun c S1 m1 H1 h1 rel1 g1 => ?_⟩
  cases c with
  | true => exact iteT ⟨F, m1, o, ρ, S1, _, rel1, h1.eT, fun c S2 m2 H2 h2 rel2 g2 => hk c S2 m2 H2 h2 rel2 (g1.trans g2)⟩
  | false => exact iteF (hk false S1 m1 H1 h1.eF rel1 g1)
theorem dw_or (ha : DT X a ta) (hb : DW X (.BoolOp .Or (b :: rest) pos) tb) : DW X (.BoolOp .Or (a :: b :: rest) pos) (dOr ta tb) := PW.imp (pw_or ha hb) fun σ H Q q => by
  obtain ⟨F, m, o, ρ, S, k, rel, t, hk⟩ := q
  refine ⟨F, m, o, ρ, S, _, rel, t, fun c S1 m1 H1 h1 rel1 g1 => ?_⟩
  cases c with
  | true => exact iteT (hk true S1 m1 H1 h1.eT rel1 g1)
  | false => exact iteF ⟨F, m1, o, ρ, S1, _, rel1, h1.eF, fun c S2 m2 H2 h2 rel2 g2 => hk c S2 m2 H2 h2 rel2 (g1.trans g2)⟩
theorem dt_not (ha : DT X a ta) : DT X (.UnaryOp .Not a pos) (dNot ta) := PT.imp (pt_not ha) fun σ H Q q => by
  obtain ⟨F, m, o, ρ, S, k, rel, t, hk⟩ := q
  exact ⟨F, m, o, ρ, S, _, rel, t, fun c S1 m1 H1 h1 rel1 g1 => hk (!c) S1 m1 H1 h1 rel1 g1⟩
end
/-- as values -/
def dAndV (ta tb : dTE) : dTE := fun ρ S Q => ta ρ S fun d S1 => asB d fun c => Br c (tb ρ S1 Q) (Q (.d (.bool false)) S1)
def dOrV (ta tb : dTE) : dTE := fun ρ S Q => ta ρ S fun d S1 => asB d fun c => Br c (Q (.d (.bool true)) S1) (tb ρ S1 Q)
def dNotV (ta : dTE) : dTE := fun ρ S Q => ta ρ S fun d S1 => asB d fun c => Q (.d (.bool (!c))) S1
section
variable {X : Cx} {a b : Expr} {ta tb : dTE} {tt : dTT} {rest : List Expr} {pos : Pos}
theorem de_one {op} (h : DE X a ta) : DE X (.BoolOp op [a] pos) ta := pe_one h
theorem de_and (ha : DE X a ta) (hb : DE X (.BoolOp .And (b :: rest) pos) tb) : DE X (.BoolOp .And (a :: b :: rest) pos) (dAndV ta tb) := PE.imp (pe_and ha hb) fun σ H Q q => by
  obtain ⟨F, m, o, ρ, S, k, rel, t, hk⟩ := q
  refine ⟨F, m, o, ρ, S, _, rel, t, fun d S1 m1 H1 v h1 rel1 g1 r1 => ?_⟩
  obtain ⟨c, rfl, h2⟩ := asB_of h1
  refine ⟨c, dp_bl r1, ?_⟩
  cases c with
  | true => exact iteT ⟨F, m1, o, ρ, S1, _, rel1, h2.eT, fun d S2 m2 H2 w h2 rel2 g2 r2 => hk d S2 m2 H2 w h2 rel2 (g1.trans g2) r2⟩
  | false => exact iteF (hk _ S1 m1 H1 _ h2.eF rel1 g1 (.bl false))
theorem de_or (ha : DE X a ta) (hb : DE X (.BoolOp .Or (b :: rest) pos) tb) : DE X (.BoolOp .Or (a :: b :: rest) pos) (dOrV ta tb) := PE.imp (pe_or ha hb) fun σ H Q q => by
  obtain ⟨F, m, o, ρ, S, k, rel, t, hk⟩ := q
  refine ⟨F, m, o, ρ, S, _, rel, t, fun d S1 m1 H1 v h1 rel1 g1 r1 => ?_⟩
  obtain ⟨c, rfl, h2⟩ := asB_of h1
  refine ⟨c, dp_bl r1, ?_⟩
  cases c with
  | true => exact iteT (hk _ S1 m1 H1 _ h2.eT rel1 g1 (.bl true))
  | false => exact iteF ⟨F, m1, o, ρ, S1, _, rel1, h2.eF, fun d S2 m2 H2 w h2 rel2 g2 r2 => hk d S2 m2 H2 w h2 rel2 (g1.trans g2) r2⟩
theorem de_not (ha : DE X a ta) : DE X (.UnaryOp .Not a pos) (dNotV ta) := PE.imp (pe_not ha) fun σ H Q q => by
  obtain ⟨F, m, o, ρ, S, k, rel, t, hk⟩ := q
  refine ⟨F, m, o, ρ, S, _, rel, t, fun d S1 m1 H1 v h1 rel1 g1 r1 => ?_⟩
  obtain ⟨c, rfl, h2⟩ := asB_of h1
  exact ⟨c, dp_bl r1, hk _ S1 m1 H1 _ h2 rel1 g1 (.bl _)⟩
def dIfE (t : dTT) (ta tb : dTE) : dTE := fun ρ S Q => t ρ S fun c S1 => Br c (ta ρ S1 Q) (tb ρ S1 Q)
theorem de_ifExp {c : Expr} (hc : DT X c tt) (ha : DE X a ta) (hb : DE X b tb) : DE X (.IfExp c a b pos) (dIfE tt ta tb) := PE.imp (pe_ifExp hc ha hb) fun σ H Q q => by
  obtain ⟨F, m, o, ρ, S, k, rel, t, hk⟩ := q
  refine ⟨F, m, o, ρ, S, _, rel, t, fun c S1 m1 H1 h1 rel1 g1 => ?_⟩
  cases c with
  | true => exact iteT ⟨F, m1, o, ρ, S1, _, rel1, h1.eT, fun d S2 m2 H2 w h2 rel2 g2 r2 => hk d S2 m2 H2 w h2 rel2 (g1.trans g2) r2⟩
  | false => exact iteF ⟨F, m1, o, ρ, S1, _, rel1, h1.eF, fun d S2 m2 H2 w h2 rel2 g2 r2 => hk d S2 m2 H2 w h2 rel2 (g1.trans g2) r2⟩
end
end L3

set_option maxHeartbeats 4000000
namespace L3
open PySem PySem.Spec L2

theorem RpAll.ints {K : PySem.W.Frag} {H : Hp} : ∀ {vs : List V} {ns : List Int}, RpAll K H vs (ns.map .int) → vs = ns.map V.int
  | _, [], .nil => rfl
  | _, n :: ns, .cons h r => by
    cases h
    rw [RpAll.ints r]
    rfl
theorem RpAll.bls {K : PySem.W.Frag} {H : Hp} : ∀ {vs : List V} {ns : List Bool}, RpAll K H vs (ns.map .bool) → vs = ns.map V.bl
  | _, [], .nil => rfl
  | _, n :: ns, .cons h r => by
    cases h
    rw [RpAll.bls r]
    rfl
theorem RpAll.strs {K : PySem.W.Frag} {H : Hp} : ∀ {vs : List V} {ns : List Str}, RpAll K H vs (ns.map .str) → vs = ns.map V.str
  | _, [], .nil => rfl
  | _, n :: ns, .cons h r => by
    cases h
    rw [RpAll.strs r]
    rfl
theorem VRep.tup' {K : PySem.W.Frag} {H : Hp} {M : Addr → Prop} {v : V} {xs : List D} (h : VRep K H (Fz H M) v (.tuple xs)) : ∃ a vs, v = .ref a ∧ SqT K H a vs ∧ H a = some (.tup vs) ∧ ¬ M a ∧ RpAll K (Fz H M) vs xs := by
  obtain ⟨a, vs, e, h1, h2⟩ := h.tup
  obtain ⟨n, h3⟩ := Fz.at h1
  exact ⟨a, vs, e, SqT.of h3, h3, n, h2⟩
theorem VRep.list' {K : PySem.W.Frag} {H : Hp} {M : Addr → Prop} {v : V} {xs : List D} (h : VRep K H (Fz H M) v (.list xs)) : ∃ a vs, v = .ref a ∧ SqL K H a vs ∧ H a = some (.lst vs) ∧ RpAll K (Fz H M) vs xs := by
  obtain ⟨a, vs, e, h1, h2⟩ := h.list
  exact ⟨a, vs, e, SqL.of h1, h1, h2⟩
/-- what a new list, a new tuple is -/
theorem new_lst {K : PySem.W.Frag} {H : Hp} {M : Addr → Prop} {p : Addr} {vs : List V} {xs : List D} (al : Alive M H) (hp : H p = none) (h : RpAll K (Fz H M) vs xs) : Rp K (Fz (upd H p (.lst vs)) M) (.ref p) (.list xs) := by
  have s : Sub (Fz H M) (Fz (upd H p (.lst vs)) M) := fun a u e => Fz.of (Fz.at e).1 (sub_upd hp a u (Fz.at e).2)
  exact .lst (Fz.of (fun z => al p z hp) upd_same) (RpAll.sub s h)
theorem new_tup {K : PySem.W.Frag} {H : Hp} {M : Addr → Prop} {p : Addr} {vs : List V} {xs : List D} (al : Alive M H) (hp : H p = none) (h : RpAll K (Fz H M) vs xs) : Rp K (Fz (upd H p (.tup vs)) M) (.ref p) (.tuple xs) := by
  have s : Sub (Fz H M) (Fz (upd H p (.tup vs)) M) := fun a u e => Fz.of (Fz.at e).1 (sub_upd hp a u (Fz.at e).2)
  exact .tup (Fz.of (fun z => al p z hp) upd_same) (RpAll.sub s h)

/-! ### + - * // % ** -/
def fAdd : F2 := fun x y k => match x, y with
  | .int i, .int j => k (.int (i + j))
  | .str a, .str b => a.length + b.length ≤ sizeLine ∧ k (.str (a ++ b))
  | .tuple xs, .tuple ys => xs.length + ys.length ≤ sizeLine ∧ k (.tuple (xs ++ ys))
  | .list xs, .list ys => xs.length + ys.length ≤ sizeLine ∧ k (.list (xs ++ ys))
  | _, _ => False
def fSub : F2 := fun x y k => match x, y with
  | .int i, .int j => k (.int (i - j))
  | _, _ => False
def strTimes (z : Str) (n : Int) : Str := ⟨(List.replicate n.toNat z.cps.toList).flatten.toArray⟩
def fMul : F2 := fun x y k => match x, y with
  | .int i, .int j => CMul i j ∧ k (.int (i * j))
  | .str z, .int n => (-(2 ^ 63) ≤ n ∧ n < 2 ^ 63 ∧ z.length * n.toNat ≤ sizeLine) ∧ k (.str (strTimes z n))
  | .list xs, .int n => (-(2 ^ 63) ≤ n ∧ n < 2 ^ 63 ∧ xs.length * n.toNat ≤ sizeLine) ∧ k (.list (List.replicate n.toNat xs).flatten)
  | _, _ => False
def fDiv : F2 := fun x y k => match x, y with
  | .int i, .int j => CDiv i j ∧ k (.int (i / j))
  | _, _ => False
def fMod : F2 := fun x y k => match x, y with
  | .int i, .int j => 0 < j ∧ k (.int (i % j))
  | _, _ => False
def fPow : F2 := fun x y k => match x, y with
  | .int i, .int j => CPow i j ∧ k (.int (i ^ j.toNat))
  | _, _ => False
def fNeg : F1 := fun x k => match x with
  | .int i => k (.int (-i))
  | _ => False
theorem flat_rep {K : PySem.W.Frag} {H : Hp} {vs : List V} {xs : List D} (h : RpAll K H vs xs) : ∀ n : Nat, RpAll K H (List.replicate n vs).flatten (List.replicate n xs).flatten
  | 0 => .nil
  | n + 1 => by
    rw [List.replicate_succ, List.replicate_succ, List.flatten_cons, List.flatten_cons]
    exact RpAll.append h (flat_rep h n)
section
variable {X : Cx}
theorem op_mulS : OpR X (binaryOp .Mult) (fun x y H Q => ∃ (z : Str) (n : Int), x = .str z ∧ y = .int n ∧ (-(2 ^ 63) ≤ n ∧ n < 2 ^ 63 ∧ z.length * n.toNat ≤ sizeLine) ∧ Q (.str (strTimes z n)) H) := by
  intro pins s σ H x y v u Q I rx ry h
  obtain ⟨z, n, rfl, rfl, ⟨h1, h2, h3⟩, q⟩ := h
  obtain ⟨t, rfl⟩ := rx
  obtain ⟨t', rfl⟩ := ry
  have e0 : (decide (n < -(2 ^ 63 : Int)) || decide (n ≥ 2 ^ 63)) = false := by
    rw [decide_eq_false (by omega), decide_eq_false (by omega)]
    rfl
  have foldl_arr : ∀ (m : Nat) (acc : Array Nat), ((List.replicate m z.cps).foldl (· ++ ·) acc) = (acc.toList ++ (List.replicate m z.cps.toList).flatten).toArray := by
    intro m
    induction m with
    | zero => intro acc; simp
    | succ m ih =>
      intro acc
      rw [List.replicate_succ, List.foldl_cons, ih, List.replicate_succ, List.flatten_cons]
      simp
  have e1 : ¬ n < 1 → (n == 1 || z.length == 0) = false → ¬ ((z.length : Int) > (2 ^ 63 - 1) / n) := by
    intro a b c
    have hn : 0 < n := by omega
    have hs : (sizeLine : Nat) = 16777216 := sizeLine_eq
    have hz : z.length ≤ 16777216 := by
      have : z.length * 1 ≤ z.length * n.toNat := Nat.mul_le_mul_left _ (by omega)
      omega
    have : (z.length : Int) * n ≤ 16777216 := by
      have e : n = (n.toNat : Int) := by omega
      rw [e]
      have : ((z.length * n.toNat : Nat) : Int) ≤ 16777216 := by omega
      rw [Int.natCast_mul] at this
      exact this
    have c2 := Int.lt_ediv_add_one_mul_self (2 ^ 63 - 1) hn
    have c3 : ((2 ^ 63 - 1) / n + 1) * n ≤ (z.length : Int) * n := Int.mul_le_mul_of_nonneg_right (by omega) (by omega)
    omega
  have e2 : ¬ n < 1 → (n == 1 || z.length == 0) = false → Builtin.Str.tooLong (z.length * n.toNat) = false := fun _ _ => decide_eq_false (by omega)
  refine PySem.P.mul_str e0 e1 e2 ?_
  split
  · rename_i hn
    have en : strTimes z n = Str.empty := by
      unfold strTimes
      rw [show n.toNat = 0 by omega]
      rfl
    rw [en] at q
    exact ⟨by decide, .str Str.empty, H, I.tok _, ⟨_, rfl⟩, q⟩
  · split
    · rename_i hn hc
      have en : strTimes z n = z := by
        simp only [Bool.or_eq_true, beq_iff_eq] at hc
        unfold strTimes
        rcases hc with hc | hc
        · subst hc
          simp
        · have ez : z.cps.toList = [] := by
            have : z.cps.size = 0 := hc
            rw [← List.length_eq_zero_iff, Array.length_toList]
            exact this
          have ez2 : z = ⟨#[]⟩ := by
            cases z with
            | mk c =>
              have : c = #[] := by
                have := congrArg List.toArray ez
                simpa using this
              rw [this]
          rw [ez, ez2]
          simp
      rw [en] at q
      exact ⟨.str z, H, I, ⟨_, rfl⟩, q⟩
    · have en : strTimes z n = ⟨(List.replicate n.toNat z.cps).foldl (· ++ ·) #[]⟩ := by
        unfold strTimes
        rw [foldl_arr]
        simp
      rw [← en]
      refine ⟨?_, .str (strTimes z n), H, I.tok _, ⟨_, rfl⟩, q⟩
      show (List.flatten (List.replicate n.toNat z.cps.toList)).toArray.size ≤ sizeLine
      rw [List.size_toArray, PyProof.Rows.lm_len_rep_flat, Array.length_toList, Nat.mul_comm]
      exact h3

theorem o_add : ∃ r, OpR X (binaryOp .Add) r ∧ OpD X.K r fAdd := by
  refine ⟨_, op_add.or (op_add_str.or (op_catA.or op_cat)), fun M H x y dx dy k Q al rx ry h fin => ?_⟩
  unfold fAdd at h
  split at h
  · exact .inl ⟨_, _, rx.int, ry.int, fin _ _ _ h (Sub.refl _) (.int _)⟩
  · exact .inr (.inl ⟨_, _, rx.str, ry.str, h.1, fin _ _ _ h.2 (Sub.refl _) (.str _)⟩)
  · obtain ⟨a, vs, rfl, h1, h1', n1, h2⟩ := rx.tup'
    obtain ⟨b, ws, rfl, g1, g1', n2, g2⟩ := ry.tup'
    refine .inr (.inr (.inl ⟨a, b, vs, ws, rfl, rfl, h1, g1, by rw [RpAll.length h2, RpAll.length g2]; exact h.1, fun e => ?_, fun e e2 => ?_, fun e e2 p hp => ?_⟩))
    · subst e
      cases h2
      exact fin _ _ _ h.2 (Sub.refl _) (.tup (Fz.of n2 g1') g2)
    · subst e2
      cases g2
      have hk := h.2
      rw [List.append_nil] at hk
      exact fin _ _ _ hk (Sub.refl _) (.tup (Fz.of n1 h1') h2)
    · exact fin _ _ _ h.2 (sub_upd hp) (new_tup al hp (RpAll.append h2 g2))
  · obtain ⟨a, vs, rfl, h1, h1', h2⟩ := rx.list'
    obtain ⟨b, ws, rfl, g1, g1', g2⟩ := ry.list'
    exact .inr (.inr (.inr ⟨a, b, vs, ws, rfl, rfl, h1', g1', by rw [RpAll.length h2, RpAll.length g2]; exact h.1, fun p hp => fin _ _ _ h.2 (sub_upd hp) (new_lst al hp (RpAll.append h2 g2))⟩))
  · exact h.elim
theorem o_sub : ∃ r, OpR X (binaryOp .Sub) r ∧ OpD X.K r fSub := by
  refine ⟨_, op_sub, fun M H x y dx dy k Q al rx ry h fin => ?_⟩
  unfold fSub at h
  split at h
  · exact ⟨_, _, rx.int, ry.int, fin _ _ _ h (Sub.refl _) (.int _)⟩
  · exact h.elim
theorem o_mul : ∃ r, OpR X (binaryOp .Mult) r ∧ OpD X.K r fMul := by
  refine ⟨_, op_mul.or (op_mulS.or op_rep), fun M H x y dx dy k Q al rx ry h fin => ?_⟩
  unfold fMul at h
  split at h
  · exact .inl ⟨_, _, rx.int, ry.int, h.1, fin _ _ _ h.2 (Sub.refl _) (.int _)⟩
  · exact .inr (.inl ⟨_, _, rx.str, ry.int, h.1, fin _ _ _ h.2 (Sub.refl _) (.str _)⟩)
  · obtain ⟨a, vs, rfl, h1, h1', h2⟩ := rx.list'
    obtain ⟨⟨c1, c2, c3⟩, hk⟩ := h
    exact .inr (.inr ⟨a, _, vs, rfl, ry.int, h1', c1, c2, by rw [RpAll.length h2]; exact c3, fun p hp => fin _ _ _ hk (sub_upd hp) (new_lst al hp (flat_rep h2 _))⟩)
  · exact h.elim
theorem o_div : ∃ r, OpR X (binaryOp .FloorDiv) r ∧ OpD X.K r fDiv := by
  refine ⟨_, op_fdiv, fun M H x y dx dy k Q al rx ry h fin => ?_⟩
  unfold fDiv at h
  split at h
  · exact ⟨_, _, rx.int, ry.int, h.1, fin _ _ _ h.2 (Sub.refl _) (.int _)⟩
  · exact h.elim
theorem o_mod : ∃ r, OpR X (binaryOp .Mod) r ∧ OpD X.K r fMod := by
  refine ⟨_, op_mod, fun M H x y dx dy k Q al rx ry h fin => ?_⟩
  unfold fMod at h
  split at h
  · exact ⟨_, _, rx.int, ry.int, h.1, fin _ _ _ h.2 (Sub.refl _) (.int _)⟩
  · exact h.elim
theorem o_pow : ∃ r, OpR X (binaryOp .Pow) r ∧ OpD X.K r fPow := by
  refine ⟨_, op_pow, fun M H x y dx dy k Q al rx ry h fin => ?_⟩
  unfold fPow at h
  split at h
  · exact ⟨_, _, rx.int, ry.int, h.1, fin _ _ _ h.2 (Sub.refl _) (.int _)⟩
  · exact h.elim
theorem u_neg : ∃ r, UnR X (unaryOp .USub) r ∧ UnD X.K r fNeg := by
  refine ⟨_, un_neg, fun M H x dx k Q al rx h fin => ?_⟩
  unfold fNeg at h
  split at h
  · exact ⟨_, rx.int, fin _ _ _ h (Sub.refl _) (.int _)⟩
  · exact h.elim

/-! ### comparisons -/
def fEq : F2 := fun x y k => match x, y with
  | .int i, .int j => k (.bool (decide (i = j)))
  | .str a, .str b => k (.bool (decide (a = b)))
  | .bool a, .bool b => k (.bool (decide (a = b)))
  | x, y => SeqAt.shaped x = true ∧ SeqAt.shaped y = true ∧ k (.bool (PyData.eqv x y))
def fNe : F2 := fun x y k => match x, y with
  | .int i, .int j => k (.bool (!decide (i = j)))
  | .str a, .str b => k (.bool (!decide (a = b)))
  | .bool a, .bool b => k (.bool (!decide (a = b)))
  | x, y => SeqAt.shaped x = true ∧ SeqAt.shaped y = true ∧ k (.bool (!PyData.eqv x y))
theorem o_eq (hu : X.A.units + 64 < cLine) : ∃ r, OpR X (compareOp .Eq) r ∧ OpD X.K r fEq := by
  refine ⟨_, op_eq.or (op_eqD hu), fun M H x y dx dy k Q al rx ry h fin => ?_⟩
  unfold fEq at h
  split at h
  · have e1 := rx.int
    have e2 := ry.int
    subst e1 e2
    refine .inl ⟨rfl, fin _ _ _ h (Sub.refl _) ?_⟩
    rw [show decide (V.int _ = V.int _) = decide _ from decide_eq_decide.mpr ⟨V.int.inj, congrArg V.int⟩]
    exact .bl _
  · have e1 := rx.str
    have e2 := ry.str
    subst e1 e2
    refine .inl ⟨rfl, fin _ _ _ h (Sub.refl _) ?_⟩
    rw [show decide (V.str _ = V.str _) = decide _ from decide_eq_decide.mpr ⟨V.str.inj, congrArg V.str⟩]
    exact .bl _
  · have e1 := rx.bl
    have e2 := ry.bl
    subst e1 e2
    refine .inl ⟨rfl, fin _ _ _ h (Sub.refl _) ?_⟩
    rw [show decide (V.bl _ = V.bl _) = decide _ from decide_eq_decide.mpr ⟨V.bl.inj, congrArg V.bl⟩]
    exact .bl _
  · obtain ⟨h1, h2, h3⟩ := h
    exact .inr ⟨_, _, rx.dp Fz.sub (SeqAt.canLay_of_shaped h1), ry.dp Fz.sub (SeqAt.canLay_of_shaped h2), h1, h2, fin _ _ _ h3 (Sub.refl _) (.bl _)⟩
theorem o_ne (hu : X.A.units + 64 < cLine) : ∃ r, OpR X (compareOp .NotEq) r ∧ OpD X.K r fNe := by
  refine ⟨_, op_ne.or (op_neD hu), fun M H x y dx dy k Q al rx ry h fin => ?_⟩
  unfold fNe at h
  split at h
  · have e1 := rx.int
    have e2 := ry.int
    subst e1 e2
    refine .inl ⟨rfl, fin _ _ _ h (Sub.refl _) ?_⟩
    rw [show decide (V.int _ = V.int _) = decide _ from decide_eq_decide.mpr ⟨V.int.inj, congrArg V.int⟩]
    exact .bl _
  · have e1 := rx.str
    have e2 := ry.str
    subst e1 e2
    refine .inl ⟨rfl, fin _ _ _ h (Sub.refl _) ?_⟩
    rw [show decide (V.str _ = V.str _) = decide _ from decide_eq_decide.mpr ⟨V.str.inj, congrArg V.str⟩]
    exact .bl _
  · have e1 := rx.bl
    have e2 := ry.bl
    subst e1 e2
    refine .inl ⟨rfl, fin _ _ _ h (Sub.refl _) ?_⟩
    rw [show decide (V.bl _ = V.bl _) = decide _ from decide_eq_decide.mpr ⟨V.bl.inj, congrArg V.bl⟩]
    exact .bl _
  · obtain ⟨h1, h2, h3⟩ := h
    exact .inr ⟨_, _, rx.dp Fz.sub (SeqAt.canLay_of_shaped h1), ry.dp Fz.sub (SeqAt.canLay_of_shaped h2), h1, h2, fin _ _ _ h3 (Sub.refl _) (.bl _)⟩
def fLt : F2 := fun x y k => match x, y with
  | .int i, .int j => k (.bool (decide (i < j)))
  | _, _ => False
def fLe : F2 := fun x y k => match x, y with
  | .int i, .int j => k (.bool (decide (i ≤ j)))
  | _, _ => False
def fGt : F2 := fun x y k => match x, y with
  | .int i, .int j => k (.bool (decide (j < i)))
  | _, _ => False
def fGe : F2 := fun x y k => match x, y with
  | .int i, .int j => k (.bool (decide (j ≤ i)))
  | _, _ => False
theorem o_lt : ∃ r, OpR X (compareOp .Lt) r ∧ OpD X.K r fLt := by
  refine ⟨_, op_lt, fun M H x y dx dy k Q al rx ry h fin => ?_⟩
  unfold fLt at h
  split at h
  · exact ⟨_, _, rx.int, ry.int, fin _ _ _ h (Sub.refl _) (.bl _)⟩
  · exact h.elim
theorem o_le : ∃ r, OpR X (compareOp .LtE) r ∧ OpD X.K r fLe := by
  refine ⟨_, op_le, fun M H x y dx dy k Q al rx ry h fin => ?_⟩
  unfold fLe at h
  split at h
  · exact ⟨_, _, rx.int, ry.int, fin _ _ _ h (Sub.refl _) (.bl _)⟩
  · exact h.elim
theorem o_gt : ∃ r, OpR X (compareOp .Gt) r ∧ OpD X.K r fGt := by
  refine ⟨_, op_gt, fun M H x y dx dy k Q al rx ry h fin => ?_⟩
  unfold fGt at h
  split at h
  · exact ⟨_, _, rx.int, ry.int, fin _ _ _ h (Sub.refl _) (.bl _)⟩
  · exact h.elim
theorem o_ge : ∃ r, OpR X (compareOp .GtE) r ∧ OpD X.K r fGe := by
  refine ⟨_, op_ge, fun M H x y dx dy k Q al rx ry h fin => ?_⟩
  unfold fGe at h
  split at h
  · exact ⟨_, _, rx.int, ry.int, fin _ _ _ h (Sub.refl _) (.bl _)⟩
  · exact h.elim
/-- is None, is True, is False -/
def isNon : D → Bool
  | .none => true
  | _ => false
def fIs : F2 := fun x y k => match y with
  | .none => k (.bool (isNon x))
  | .bool b => match x with
    | .bool a => k (.bool (decide (a = b)))
    | _ => False
  | _ => False
def fIsNot : F2 := fun x y k => match y with
  | .none => k (.bool (!isNon x))
  | .bool b => match x with
    | .bool a => k (.bool (!decide (a = b)))
    | _ => False
  | _ => False
theorem VRep.isNon {K : PySem.W.Frag} {H Hz : Hp} {v : V} {x : D} (h : VRep K H Hz v x) : decide (v = .non) = isNon x := by
  cases h with
  | d q => cases q <;> rfl
  | @cell a c q => cases c <;> rfl
theorem o_is : ∃ r, OpR X (compareOp .Is) r ∧ OpD X.K r fIs := by
  refine ⟨_, op_isN.or op_isBl, fun M H x y dx dy k Q al rx ry h fin => ?_⟩
  unfold fIs at h
  split at h
  · refine .inl ⟨ry.non, ?_⟩
    rw [rx.isNon]
    exact fin _ _ _ h (Sub.refl _) (.bl _)
  · split at h
    · exact .inr ⟨_, _, rx.bl, ry.bl, fin _ _ _ h (Sub.refl _) (.bl _)⟩
    · exact h.elim
  · exact h.elim
theorem o_isnot : ∃ r, OpR X (compareOp .IsNot) r ∧ OpD X.K r fIsNot := by
  refine ⟨_, op_notN.or op_notBl, fun M H x y dx dy k Q al rx ry h fin => ?_⟩
  unfold fIsNot at h
  split at h
  · refine .inl ⟨ry.non, ?_⟩
    rw [rx.isNon]
    exact fin _ _ _ h (Sub.refl _) (.bl _)
  · split at h
    · exact .inr ⟨_, _, rx.bl, ry.bl, fin _ _ _ h (Sub.refl _) (.bl _)⟩
    · exact h.elim
  · exact h.elim
end
end L3

set_option maxHeartbeats 4000000
namespace L3
open PySem PySem.Spec L2

/-! ### items, slices -/
def At {α : Type} (xs : List α) (i : Int) (k : α → Prop) : Prop := ∃ z, atI xs i = some z ∧ k z
def keyEq : D → D → Bool
  | .str a, .str b => decide (a = b)
  | .int a, .int b => decide (a = b)
  | _, _ => false
def lookD : List (D × D) → D → Option D
  | [], _ => none
  | p :: r, y => bif keyEq p.1 y then some p.2 else lookD r y
def fIx : F2 := fun x y k => match x, y with
  | .list xs, .int i => At xs i k
  | .tuple xs, .int i => At xs i k
  | .str z, .int i => z.length ≤ sizeLine ∧ At z.cps.toList i fun c => k (.str ⟨#[c]⟩)
  | .dict [(.none, .list xs)], .int i => At xs i k
  | .dict kvs, y => ∃ z, lookD kvs y = some z ∧ k z
  | _, _ => False
theorem look_rep {K : PySem.W.Frag} {H : Hp} {y : D} {v : V} {z : D} (hv : Rp K H v y) : ∀ {ws : List (Key × V)} {kvs : List (Key × D)}, KRp K H ws kvs → lookD (kvs.map fun p => (keyD p.1, p.2)) y = some z → ∃ key w, v = kV key ∧ valV ws key = some w ∧ Rp K H w z
  | _, [], _, e => by simp [lookD] at e
  | _, (key, x) :: kvs, h, e => by
    cases h with
    | @cons a _ l1 _ q h =>
      obtain ⟨q1, q2⟩ := q
      simp only [List.map_cons, lookD, cond_eq_ite] at e
      split at e
      · rename_i hk
        cases e
        have hv' : v = kV key := by
          cases key with
          | inl i =>
            cases y <;> simp [keyD, keyEq] at hk
            subst hk
            exact dp_int hv
          | inr s =>
            cases y <;> simp [keyD, keyEq] at hk
            subst hk
            exact dp_str hv
        exact ⟨key, a.2, hv', valV_pos q1, q2⟩
      · rename_i hk
        obtain ⟨k2, w, e1, e2, e3⟩ := look_rep hv h e
        refine ⟨k2, w, e1, ?_, e3⟩
        rw [valV_neg]
        · exact e2
        · intro z0
          apply hk
          have : key = k2 := by rw [← z0]; exact q1.symm
          subst this
          subst e1
          cases key with
          | inl i => cases hv; simp [keyD, keyEq]
          | inr s => cases hv; simp [keyD, keyEq]
theorem at_rep {K : PySem.W.Frag} {H : Hp} {vs : List V} {xs : List D} {i : Int} {z : D} (h : RpAll K H vs xs) (e : atI xs i = some z) : ∃ v, atI vs i = some v ∧ Rp K H v z := by
  unfold atI at e ⊢
  rw [RpAll.length h]
  cases q : ixN xs.length i with
  | none => rw [q] at e; cases e
  | some j =>
    rw [q] at e
    exact RpAll.get h e
theorem VRep.scrL {K : PySem.W.Frag} {H : Hp} {M : Addr → Prop} {v : V} {xs : List D} (h : VRep K H (Fz H M) v (.dict [(.none, .list xs)])) : ∃ (a : Addr) (ns : List Int), v = .ref a ∧ xs = ns.map .int ∧ SqL K H a (ns.map V.int) := by
  generalize hx : (PyData.dict [(.none, .list xs)] : D) = y at h
  cases h with
  | d q =>
    cases q with
    | @scr a ms h =>
      simp only [scrD, PyData.dict.injEq, List.cons.injEq, Prod.mk.injEq, PyData.list.injEq, and_true, true_and] at hx
      exact ⟨a, ms, rfl, hx, Fz.sub.sqL h⟩
    | _ => cases hx
  | @cell a c q =>
    cases c with
    | lst ys => cases hx
    | dK kvs =>
      exfalso
      simp only [cellD, PyData.dict.injEq] at hx
      cases kvs with
      | nil => cases hx
      | cons p r =>
        simp only [List.map_cons, List.cons.injEq, Prod.mk.injEq] at hx
        have := hx.1.1
        cases hp : p.1 <;> rw [hp] at this <;> cases this
section
variable {X : Cx}
theorem ix_dict (hu : X.A.units + 1 < cLine) : IxR X (fun x y H Q => ∃ a v, x = .ref a ∧ DGet H a y (some v) ∧ Q v H) := by
  intro value slice pins s σ H x y v u Q I rx ry h hs
  obtain ⟨a, w, rfl, g, q⟩ := h
  obtain rfl : v = Value.ref a := rx
  exact PyProof.Rows.tail_any (dict_typeIs I g) PySem.F.slot_dict_getitem.lookup (d_getItem hu I g ry fun w' s' I' r' => ⟨w, H, I', r', q⟩) hs
theorem i_x (hu : X.A.units + 1 < cLine) : ∃ r, IxR X r ∧ OpD X.K r fIx := by
  refine ⟨_, ix_seq.or (ix_dict hu), fun M H x y dx dy k Q al rx ry h fin => ?_⟩
  unfold fIx at h
  split at h
  · obtain ⟨z, e, h⟩ := h
    obtain ⟨a, vs, rfl, h1, h1', h2⟩ := rx.list'
    obtain ⟨v, g1, g2⟩ := at_rep h2 e
    exact .inl (.inl ⟨a, vs, _, v, rfl, ry.int, h1, g1, fin _ _ _ h (Sub.refl _) g2⟩)
  · obtain ⟨z, e, h⟩ := h
    obtain ⟨a, vs, rfl, h1, h1', _, h2⟩ := rx.tup'
    obtain ⟨v, g1, g2⟩ := at_rep h2 e
    exact .inl (.inr (.inl ⟨a, vs, _, v, rfl, ry.int, h1, g1, fin _ _ _ h (Sub.refl _) g2⟩))
  · obtain ⟨hz, c, e, h⟩ := h
    exact .inl (.inr (.inr ⟨_, _, c, rx.str, ry.int, hz, e, fin _ _ _ h (Sub.refl _) (.str _)⟩))
  · rename_i xs0 i0
    obtain ⟨z, e, h⟩ := h
    obtain ⟨a, ns, rfl, rfl, hs⟩ := rx.scrL
    have : ∃ n, atI ns i0 = some n ∧ z = .int n := by
      unfold atI at e
      rw [List.length_map] at e
      cases q : ixN ns.length i0 with
      | none => rw [q] at e; cases e
      | some j =>
        rw [q] at e
        simp only [Option.bind_some, List.getElem?_map] at e
        cases w : ns[j]? with
        | none => rw [w] at e; cases e
        | some n =>
          rw [w] at e
          cases e
          exact ⟨n, by unfold atI; rw [q]; exact w, rfl⟩
    obtain ⟨n, e1, rfl⟩ := this
    refine .inl (.inl ⟨a, _, _, .int n, rfl, ry.int, hs, ?_, fin _ _ _ h (Sub.refl _) (.int n)⟩)
    unfold atI at e1 ⊢
    rw [List.length_map]
    cases q : ixN ns.length i0 with
    | none => rw [q] at e1; cases e1
    | some j =>
      rw [q] at e1
      simp only [Option.bind_some, List.getElem?_map] at e1 ⊢
      rw [e1]
      rfl
  · rename_i kvs _
    obtain ⟨z, e, h⟩ := h
    generalize hx : (PyData.dict kvs : D) = w at rx
    cases rx with
    | d q =>
      cases q with
      | @scr a ms h0 =>
        simp only [scrD, PyData.dict.injEq] at hx
        subst hx
        simp [lookD, keyEq] at e
      | _ => cases hx
    | @cell a c q =>
      cases c with
      | lst ys => cases hx
      | dK kv =>
        simp only [cellD, PyData.dict.injEq] at hx
        subst hx
        obtain ⟨ws, h1, h2⟩ := q
        have ryd : Rp X.K (Fz H M) y dy := by
          cases ry with
          | d q => exact q
          | @cell b c q =>
            exfalso
            have : ∀ (l : List (D × D)), lookD l (cellD c) = none := by
              intro l
              induction l with
              | nil => rfl
              | cons p r ih =>
                have : keyEq p.1 (cellD c) = false := by cases c <;> cases hp : p.1 <;> rfl
                simp only [lookD, this, cond_false, ih]
            rw [this] at e
            cases e
        obtain ⟨key, w, e1, e2, e3⟩ := look_rep ryd h2 e
        refine .inr ⟨a, w, rfl, ?_, fin _ _ _ h (Sub.refl _) e3⟩
        rw [e1, ← e2]
        exact DGet.k h1
  · exact h.elim
theorem de_ix {a b : Expr} {ta tb : dTE} {pos : Pos} (hu : X.A.units + 1 < cLine) (ha : DE X a ta) (hb : DE X b tb) (hs : PlainIx b := by exact fun _ _ => rfl) : DE X (.Subscript a b pos) (dOp fIx ta tb) :=
  let ⟨_, h1, h2⟩ := i_x hu; PE.imp (pe_ix h1 ha hb hs) fun _ _ _ => lift2 h2
end
abbrev dTO := Env3 → Sto → (Option Int → Sto → Prop) → Prop
def liftO (K : PySem.W.Frag) (t : dTO) : TO := fun σ H Q => ∃ F m o ρ S k, Rel K F m o ρ S σ H ∧ t ρ S k ∧
  ∀ b S' m' H', k b S' → Rel K F m' o ρ S' σ H' → Grow F m o H m' o H' → Q b H'
abbrev DO (X : Cx) (e : Option Expr) (t : dTO) : Prop := PO X e (liftO X.K t)
def asI (d : DV) (k : Int → Prop) : Prop := match d with
  | .d (.int b) => k b
  | _ => False
theorem asI_of {d : DV} {k : Int → Prop} (h : asI d k) : ∃ b, d = .d (.int b) ∧ k b := by
  unfold asI at h
  split at h
  · exact ⟨_, rfl, h⟩
  · exact h.elim
def dNoPart : dTO := fun _ S Q => Q none S
def dPart (t : dTE) : dTO := fun ρ S Q => t ρ S fun d S1 => asI d fun i => Q (some i) S1
theorem PO.imp {X : Cx} {e : Option Expr} {t t' : TO} (h : PO X e t) (i : ∀ σ H Q, t' σ H Q → t σ H Q) : PO X e t' := ⟨fun pins s σ H Q I q => h.run pins s σ H Q I (i σ H Q q)⟩
section
variable {X : Cx}
theorem do_none : DO X none dNoPart := PO.imp po_none fun σ H Q q => by
  obtain ⟨F, m, o, ρ, S, k, rel, t, hk⟩ := q
  exact hk none S m H t rel Grow.refl
theorem do_some {e : Expr} {te : dTE} (h : DE X e te) : DO X (some e) (dPart te) := PO.imp (po_some h) fun σ H Q q => by
  obtain ⟨F, m, o, ρ, S, k, rel, t, hk⟩ := q
  refine ⟨F, m, o, ρ, S, _, rel, t, fun d S1 m1 H1 v h1 rel1 g1 r1 => ?_⟩
  obtain ⟨b, rfl, h2⟩ := asI_of h1
  exact ⟨b, dp_int r1, hk _ S1 m1 H1 h2 rel1 g1⟩
end
def cut {α : Type} (xs : List α) (lo hi : Option Int) : List α := (xs.drop (HT.sIx xs.length 0 lo)).take (HT.sIx xs.length xs.length hi - HT.sIx xs.length 0 lo)
theorem cut_rep {K : PySem.W.Frag} {H : Hp} {vs : List V} {xs : List D} (h : RpAll K H vs xs) (lo hi : Option Int) : RpAll K H (cutV vs lo hi) (cut xs lo hi) := by
  unfold cutV cut
  rw [RpAll.length h]
  exact RpAll.take _ (RpAll.drop _ h)
def fSl (x : D) (l u : Option Int) (k : D → Prop) : Prop := match x with
  | .str z => z.length ≤ sizeLine ∧ k (.str (cutS z l u))
  | .tuple xs => k (.tuple (cut xs l u))
  | .list xs => k (.list (cut xs l u))
  | _ => False
def dSl (tx : dTE) (tl th : dTO) : dTE := fun ρ S Q => tx ρ S fun d S1 => tl ρ S1 fun l S2 => th ρ S2 fun u S3 => fSl (view ρ S3 d) l u fun z => Q (.d z) S3
section
variable {X : Cx}
theorem de_sl {e : Expr} {lo hi : Option Expr} {te : dTE} {tl th : dTO} {p2 pos : Pos} (he : DE X e te) (hl : DO X lo tl) (hu : DO X hi th) : DE X (.Subscript e (.Slice lo hi none p2) pos) (dSl te tl th) :=
  PE.imp (pe_slice (sl_str.or (sl_tupA.or sl_list)) he hl hu) fun σ H Q q => by
    obtain ⟨F, m, o, ρ, S, k, rel, t, hk⟩ := q
    refine ⟨F, m, o, ρ, S, _, rel, t, fun d S1 m1 H1 v h1 rel1 g1 r1 => ?_⟩
    refine ⟨F, m1, o, ρ, S1, _, rel1, h1, fun l S2 m2 H2 h2 rel2 g2 => ?_⟩
    refine ⟨F, m2, o, ρ, S2, _, rel2, h2, fun u S3 m3 H3 h3 rel3 g3 => ?_⟩
    have gg := (g1.trans g2).trans g3
    have rv := rel3.view (r1.grow (g2.trans g3))
    have fin : ∀ z w H', k (.d z) S3 → Sub H3 H' → Rp X.K (Fz H' (Mu F m3 o)) w z → Q w H' := fun z w H' kz s dz => hk (.d z) S3 m3 H' w kz (rel3.sub s) (gg.trans (Grow.sub rel3 s)) dz
    unfold fSl at h3
    split at h3
    · rename_i z hz
      rw [hz] at rv
      exact .inl ⟨z, rv.str, h3.1, fin _ _ _ h3.2 (Sub.refl _) (.str _)⟩
    · rename_i xs hz
      rw [hz] at rv
      obtain ⟨a, vs, rfl, e1, e1', en, e2⟩ := rv.tup'
      refine .inr (.inl ⟨a, vs, rfl, e1, fun hw => ?_, fun hw p hp => fin _ _ _ h3 (sub_upd hp) (new_tup rel3.st.alive hp (cut_rep e2 l u))⟩)
      have ec : cut xs l u = xs := by
        unfold cut
        rw [RpAll.length e2] at hw
        rw [hw.1, hw.2, List.drop_zero, Nat.sub_zero, List.take_length]
      rw [ec] at h3
      exact fin _ _ _ h3 (Sub.refl _) (.tup (Fz.of en e1') e2)
    · rename_i xs hz
      rw [hz] at rv
      obtain ⟨a, vs, rfl, e1, e1', e2⟩ := rv.list'
      exact .inr (.inr ⟨a, vs, rfl, e1, fun p hp => fin _ _ _ h3 (sub_upd hp) (new_lst rel3.st.alive hp (cut_rep e2 l u))⟩)
    · exact h3.elim
/-- xs[::-1] of a list -/
def fRev : F1 := fun x k => match x with
  | .list xs => k (.list xs.reverse)
  | _ => False
theorem de_rev {e : Expr} {te : dTE} {k : Nat} {p1 p2 p3 pos : Pos} (he : DE X e te) : DE X (.Subscript e (.Slice none none (some (.UnaryOp .USub (.Constant (.int 1) k p1) p2)) p3) pos) (dUn fRev te) :=
  PE.imp (pe_revL he) fun σ H Q q => by
    obtain ⟨F, m, o, ρ, S, k, rel, t, hk⟩ := q
    refine ⟨F, m, o, ρ, S, _, rel, t, fun d S1 m1 H1 v h1 rel1 g1 r1 => ?_⟩
    have rv := rel1.view r1
    unfold fRev at h1
    split at h1
    · rename_i xs hz
      rw [hz] at rv
      obtain ⟨a, vs, rfl, e1, e1', e2⟩ := rv.list'
      exact ⟨a, vs, rfl, e1, fun p hp => hk _ S1 m1 _ _ h1 (rel1.sub (sub_upd hp)) (g1.trans (Grow.sub rel1 (sub_upd hp))) (new_lst rel1.st.alive hp (RpAll.reverse e2))⟩
    · exact h1.elim
end

/-! ### built-in calls -/
def fLen : FN := fun ds k => match ds with
  | [.str z] => z.length ≤ sizeLine ∧ k (.int z.length)
  | [.tuple xs] => k (.int xs.length)
  | [.list xs] => k (.int xs.length)
  | [.dict [(.none, .list xs)]] => k (.int xs.length)
  | _ => False
def fAbs : FN := fun ds k => match ds with
  | [.int i] => k (.int (if i < 0 then -i else i))
  | _ => False
def fInt : FN := fun ds k => match ds with
  | [.int i] => k (.int i)
  | [.bool b] => k (.int (if b then 1 else 0))
  | _ => False
def intsOf : List D → Option (List Int)
  | [] => some []
  | .int i :: r => (intsOf r).map (i :: ·)
  | _ :: _ => none
theorem intsOf_map (ns : List Int) : intsOf (ns.map .int) = some ns := by
  induction ns with
  | nil => rfl
  | cons n r ih => show (intsOf (r.map .int)).map (n :: ·) = _; rw [ih]; rfl
theorem intsOf_is : ∀ {xs : List D} {ns : List Int}, intsOf xs = some ns → xs = ns.map .int
  | [], _, e => by cases e; rfl
  | .int i :: r, ns, e => by
    unfold intsOf at e
    cases q : intsOf r with
    | none => rw [q] at e; cases e
    | some ms => rw [q] at e; cases e; rw [intsOf_is q]; rfl
  | .none :: _, _, e => by cases e
  | .bool _ :: _, _, e => by cases e
  | .str _ :: _, _, e => by cases e
  | .list _ :: _, _, e => by cases e
  | .tuple _ :: _, _, e => by cases e
  | .dict _ :: _, _, e => by cases e
def boolsOf : List D → Option (List Bool)
  | [] => some []
  | .bool i :: r => (boolsOf r).map (i :: ·)
  | _ :: _ => none
theorem boolsOf_map (ns : List Bool) : boolsOf (ns.map .bool) = some ns := by
  induction ns with
  | nil => rfl
  | cons n r ih => show (boolsOf (r.map .bool)).map (n :: ·) = _; rw [ih]; rfl
theorem boolsOf_is : ∀ {xs : List D} {ns : List Bool}, boolsOf xs = some ns → xs = ns.map .bool
  | [], _, e => by cases e; rfl
  | .bool i :: r, ns, e => by
    unfold boolsOf at e
    cases q : boolsOf r with
    | none => rw [q] at e; cases e
    | some ms => rw [q] at e; cases e; rw [boolsOf_is q]; rfl
  | .none :: _, _, e => by cases e
  | .int _ :: _, _, e => by cases e
  | .str _ :: _, _, e => by cases e
  | .list _ :: _, _, e => by cases e
  | .tuple _ :: _, _, e => by cases e
  | .dict _ :: _, _, e => by cases e
def strsOf : List D → Option (List Str)
  | [] => some []
  | .str i :: r => (strsOf r).map (i :: ·)
  | _ :: _ => none
theorem strsOf_map (ns : List Str) : strsOf (ns.map .str) = some ns := by
  induction ns with
  | nil => rfl
  | cons n r ih => show (strsOf (r.map .str)).map (n :: ·) = _; rw [ih]; rfl
theorem strsOf_is : ∀ {xs : List D} {ns : List Str}, strsOf xs = some ns → xs = ns.map .str
  | [], _, e => by cases e; rfl
  | .str i :: r, ns, e => by
    unfold strsOf at e
    cases q : strsOf r with
    | none => rw [q] at e; cases e
    | some ms => rw [q] at e; cases e; rw [strsOf_is q]; rfl
  | .none :: _, _, e => by cases e
  | .int _ :: _, _, e => by cases e
  | .bool _ :: _, _, e => by cases e
  | .list _ :: _, _, e => by cases e
  | .tuple _ :: _, _, e => by cases e
  | .dict _ :: _, _, e => by cases e
/-- the greatest, the least (0 of none) -/
def maxL : List Int → Int
  | [] => 0
  | [x] => x
  | x :: y :: r => max x (maxL (y :: r))
def minL : List Int → Int
  | [] => 0
  | [x] => x
  | x :: y :: r => min x (minL (y :: r))
theorem maxL_mem : ∀ {ns : List Int}, 0 < ns.length → maxL ns ∈ ns ∧ ∀ y ∈ ns, y ≤ maxL ns
  | [x], _ => ⟨List.mem_singleton.mpr rfl, fun y h => by rw [List.mem_singleton.mp h]; exact Int.le_refl _⟩
  | x :: y :: r, _ => by
    obtain ⟨h1, h2⟩ := maxL_mem (ns := y :: r) (by simp)
    show max x (maxL (y :: r)) ∈ _ ∧ ∀ z ∈ _, z ≤ max x (maxL (y :: r))
    refine ⟨?_, fun z h => ?_⟩
    · rcases Int.le_total x (maxL (y :: r)) with q | q
      · rw [Int.max_eq_right q]; exact List.mem_cons_of_mem _ h1
      · rw [Int.max_eq_left q]; exact List.mem_cons_self
    · rcases List.mem_cons.mp h with h | h
      · subst h; exact Int.le_max_left _ _
      · exact Int.le_trans (h2 z h) (Int.le_max_right _ _)
theorem minL_mem : ∀ {ns : List Int}, 0 < ns.length → minL ns ∈ ns ∧ ∀ y ∈ ns, minL ns ≤ y
  | [x], _ => ⟨List.mem_singleton.mpr rfl, fun y h => by rw [List.mem_singleton.mp h]; exact Int.le_refl _⟩
  | x :: y :: r, _ => by
    obtain ⟨h1, h2⟩ := minL_mem (ns := y :: r) (by simp)
    show min x (minL (y :: r)) ∈ _ ∧ ∀ z ∈ _, min x (minL (y :: r)) ≤ z
    refine ⟨?_, fun z h => ?_⟩
    · rcases Int.le_total x (minL (y :: r)) with q | q
      · rw [Int.min_eq_left q]; exact List.mem_cons_self
      · rw [Int.min_eq_right q]; exact List.mem_cons_of_mem _ h1
    · rcases List.mem_cons.mp h with h | h
      · subst h; exact Int.min_le_left _ _
      · exact Int.le_trans (Int.min_le_right _ _) (h2 z h)
def withL {α : Type} (x : Option α) (k : α → Prop) : Prop := match x with
  | some a => k a
  | none => False
theorem withL_of {α : Type} {x : Option α} {k : α → Prop} (h : withL x k) : ∃ a, x = some a ∧ k a := by
  unfold withL at h
  split at h
  · exact ⟨_, rfl, h⟩
  · exact h.elim
def fMax : FN := fun ds k => match ds with
  | [.int i, .int j] => k (.int (max i j))
  | [.list xs] => withL (intsOf xs) fun ns => 0 < ns.length ∧ k (.int (maxL ns))
  | _ => False
def fMin : FN := fun ds k => match ds with
  | [.int i, .int j] => k (.int (min i j))
  | [.list xs] => withL (intsOf xs) fun ns => 0 < ns.length ∧ k (.int (minL ns))
  | _ => False
def fSum : FN := fun ds k => match ds with
  | [.list xs] => withL (intsOf xs) fun ns => k (.int ns.sum)
  | _ => False
def fAll : FN := fun ds k => match ds with
  | [.list xs] => withL (boolsOf xs) fun ns => k (.bool (ns.all id))
  | _ => False
def fAny : FN := fun ds k => match ds with
  | [.list xs] => withL (boolsOf xs) fun ns => k (.bool (ns.any id))
  | _ => False
def fTuple : FN := fun ds k => match ds with
  | [.list xs] => k (.tuple xs)
  | [.tuple xs] => k (.tuple xs)
  | _ => False
def fList : FN := fun ds k => match ds with
  | [.list xs] => k (.list xs)
  | [.tuple xs] => k (.list xs)
  | _ => False
theorem vreps1 {K : PySem.W.Frag} {H Hz : Hp} {xs : List V} {d : D} (r : VReps K H Hz xs [d]) : ∃ v, xs = [v] ∧ VRep K H Hz v d := by
  cases r with
  | cons h t => cases t; exact ⟨_, rfl, h⟩
theorem vreps2 {K : PySem.W.Frag} {H Hz : Hp} {xs : List V} {d e : D} (r : VReps K H Hz xs [d, e]) : ∃ v w, xs = [v, w] ∧ VRep K H Hz v d ∧ VRep K H Hz w e := by
  cases r with
  | cons h t =>
    obtain ⟨w, rfl, h2⟩ := vreps1 t
    exact ⟨_, w, rfl, h, h2⟩
section
variable {X : Cx}
theorem c_len : ∃ r, CallR X (.builtin "len") r ∧ CallD X.K r fLen := by
  refine ⟨_, call_len, fun M H xs ds k Q al rx h fin => ?_⟩
  unfold fLen at h
  split at h
  · obtain ⟨v, rfl, r1⟩ := vreps1 rx
    have e := r1.str
    subst e
    exact ⟨_, _, rfl, ⟨h.1, rfl⟩, fin _ _ _ h.2 (Sub.refl _) (.int _)⟩
  · obtain ⟨v, rfl, r1⟩ := vreps1 rx
    obtain ⟨a, vs, rfl, h1, _, _, h2⟩ := r1.tup'
    exact ⟨_, _, rfl, .inr ⟨vs, h1, rfl⟩, by rw [RpAll.length h2]; exact fin _ _ _ h (Sub.refl _) (.int _)⟩
  · obtain ⟨v, rfl, r1⟩ := vreps1 rx
    obtain ⟨a, vs, rfl, h1, _, h2⟩ := r1.list'
    exact ⟨_, _, rfl, .inl ⟨vs, h1, rfl⟩, by rw [RpAll.length h2]; exact fin _ _ _ h (Sub.refl _) (.int _)⟩
  · obtain ⟨v, rfl, r1⟩ := vreps1 rx
    obtain ⟨a, ns, rfl, rfl, hs⟩ := r1.scrL
    rw [List.length_map] at h
    exact ⟨_, _, rfl, .inl ⟨_, hs, rfl⟩, by rw [List.length_map]; exact fin _ _ _ h (Sub.refl _) (.int _)⟩
  · exact h.elim
theorem c_abs : ∃ r, CallR X (.builtin "abs") r ∧ CallD X.K r fAbs := by
  refine ⟨_, call_abs, fun M H xs ds k Q al rx h fin => ?_⟩
  unfold fAbs at h
  split at h
  · obtain ⟨v, rfl, r1⟩ := vreps1 rx
    have e := r1.int
    subst e
    exact ⟨_, rfl, fin _ _ _ h (Sub.refl _) (.int _)⟩
  · exact h.elim
theorem c_int : ∃ r, CallR X (.type "int") r ∧ CallD X.K r fInt := by
  refine ⟨_, call_int1, fun M H xs ds k Q al rx h fin => ?_⟩
  unfold fInt at h
  split at h
  · obtain ⟨v, rfl, r1⟩ := vreps1 rx
    have e := r1.int
    subst e
    exact .inl ⟨_, rfl, fin _ _ _ h (Sub.refl _) (.int _)⟩
  · obtain ⟨v, rfl, r1⟩ := vreps1 rx
    have e := r1.bl
    subst e
    exact .inr ⟨_, rfl, fin _ _ _ h (Sub.refl _) (.int _)⟩
  · exact h.elim
theorem c_max (hc : X.calm = true) : ∃ r, CallR X (.builtin "max") r ∧ CallD X.K r fMax := by
  refine ⟨_, (call_max2 hc).or (cr_max hc), fun M H xs ds k Q al rx h fin => ?_⟩
  unfold fMax at h
  split at h
  · obtain ⟨v, w, rfl, r1, r2⟩ := vreps2 rx
    have e := r1.int
    have e2 := r2.int
    subst e e2
    rename_i i j
    refine .inl ⟨_, _, rfl, ?_⟩
    rw [show (if j > i then j else i) = max i j by omega]
    exact fin _ _ _ h (Sub.refl _) (.int _)
  · obtain ⟨ns, e, h0, h⟩ := withL_of h
    obtain ⟨v, rfl, r1⟩ := vreps1 rx
    obtain ⟨a, vs, rfl, h1, _, h2⟩ := r1.list'
    rw [intsOf_is e] at h2
    have e3 := RpAll.ints h2
    subst e3
    refine .inr ⟨a, ns, rfl, h1, h0, fun m hm hle => ?_⟩
    have : m = maxL ns := Int.le_antisymm ((maxL_mem h0).2 m hm) (hle _ (maxL_mem h0).1)
    rw [this]
    exact fin _ _ _ h (Sub.refl _) (.int _)
  · exact h.elim
theorem c_min (hc : X.calm = true) : ∃ r, CallR X (.builtin "min") r ∧ CallD X.K r fMin := by
  refine ⟨_, (call_min2 hc).or (cr_min hc), fun M H xs ds k Q al rx h fin => ?_⟩
  unfold fMin at h
  split at h
  · obtain ⟨v, w, rfl, r1, r2⟩ := vreps2 rx
    have e := r1.int
    have e2 := r2.int
    subst e e2
    rename_i i j
    refine .inl ⟨_, _, rfl, ?_⟩
    rw [show (if j < i then j else i) = min i j by omega]
    exact fin _ _ _ h (Sub.refl _) (.int _)
  · obtain ⟨ns, e, h0, h⟩ := withL_of h
    obtain ⟨v, rfl, r1⟩ := vreps1 rx
    obtain ⟨a, vs, rfl, h1, _, h2⟩ := r1.list'
    rw [intsOf_is e] at h2
    have e3 := RpAll.ints h2
    subst e3
    refine .inr ⟨a, ns, rfl, h1, h0, fun m hm hle => ?_⟩
    have : m = minL ns := Int.le_antisymm (hle _ (minL_mem h0).1) ((minL_mem h0).2 m hm)
    rw [this]
    exact fin _ _ _ h (Sub.refl _) (.int _)
  · exact h.elim
theorem c_sum (hc : X.calm = true) : ∃ r, CallR X (.builtin "sum") r ∧ CallD X.K r fSum := by
  refine ⟨_, cr_sum hc, fun M H xs ds k Q al rx h fin => ?_⟩
  unfold fSum at h
  split at h
  · obtain ⟨ns, e, h⟩ := withL_of h
    obtain ⟨v, rfl, r1⟩ := vreps1 rx
    obtain ⟨a, vs, rfl, h1, _, h2⟩ := r1.list'
    rw [intsOf_is e] at h2
    have e3 := RpAll.ints h2
    subst e3
    exact ⟨a, ns, rfl, h1, fin _ _ _ h (Sub.refl _) (.int _)⟩
  · exact h.elim
theorem c_all (hc : X.calm = true) : ∃ r, CallR X (.builtin "all") r ∧ CallD X.K r fAll := by
  refine ⟨_, cr_all hc, fun M H xs ds k Q al rx h fin => ?_⟩
  unfold fAll at h
  split at h
  · obtain ⟨ns, e, h⟩ := withL_of h
    obtain ⟨v, rfl, r1⟩ := vreps1 rx
    obtain ⟨a, vs, rfl, h1, _, h2⟩ := r1.list'
    rw [boolsOf_is e] at h2
    have e3 := RpAll.bls h2
    subst e3
    exact ⟨a, ns, rfl, h1, fin _ _ _ h (Sub.refl _) (.bl _)⟩
  · exact h.elim
theorem c_any (hc : X.calm = true) : ∃ r, CallR X (.builtin "any") r ∧ CallD X.K r fAny := by
  refine ⟨_, cr_any hc, fun M H xs ds k Q al rx h fin => ?_⟩
  unfold fAny at h
  split at h
  · obtain ⟨ns, e, h⟩ := withL_of h
    obtain ⟨v, rfl, r1⟩ := vreps1 rx
    obtain ⟨a, vs, rfl, h1, _, h2⟩ := r1.list'
    rw [boolsOf_is e] at h2
    have e3 := RpAll.bls h2
    subst e3
    exact ⟨a, ns, rfl, h1, fin _ _ _ h (Sub.refl _) (.bl _)⟩
  · exact h.elim
theorem c_tuple : ∃ r, CallR X (.type "tuple") r ∧ CallD X.K r fTuple := by
  refine ⟨_, call_tuple_of, fun M H xs ds k Q al rx h fin => ?_⟩
  unfold fTuple at h
  split at h
  · obtain ⟨v, rfl, r1⟩ := vreps1 rx
    obtain ⟨a, vs, rfl, h1, _, h2⟩ := r1.list'
    exact ⟨a, vs, rfl, .inl ⟨h1, fun p hp => fin _ _ _ h (sub_upd hp) (new_tup al hp h2)⟩⟩
  · obtain ⟨v, rfl, r1⟩ := vreps1 rx
    obtain ⟨a, vs, rfl, h1, h1', hn, h2⟩ := r1.tup'
    exact ⟨a, vs, rfl, .inr ⟨h1, fin _ _ _ h (Sub.refl _) (.tup (Fz.of hn h1') h2)⟩⟩
  · exact h.elim
theorem c_list : ∃ r, CallR X (.type "list") r ∧ CallD X.K r fList := by
  refine ⟨_, call_list_of, fun M H xs ds k Q al rx h fin => ?_⟩
  unfold fList at h
  split at h
  · obtain ⟨v, rfl, r1⟩ := vreps1 rx
    obtain ⟨a, vs, rfl, h1, _, h2⟩ := r1.list'
    exact ⟨a, vs, rfl, .inl h1, fun p hp => fin _ _ _ h (sub_upd hp) (new_lst al hp h2)⟩
  · obtain ⟨v, rfl, r1⟩ := vreps1 rx
    obtain ⟨a, vs, rfl, h1, h1', hn, h2⟩ := r1.tup'
    exact ⟨a, vs, rfl, .inr h1, fun p hp => fin _ _ _ h (sub_upd hp) (new_lst al hp h2)⟩
  · exact h.elim
end
/-! ### isinstance of a built-in type -/
def tyName : D → String
  | .none => "NoneType"
  | .bool _ => "bool"
  | .int _ => "int"
  | .str _ => "str"
  | .list _ => "list"
  | .tuple _ => "tuple"
  | .dict _ => "dict"
section
variable {X : Cx}
theorem VRep.ty {K : PySem.W.Frag} {H : Hp} {M : Addr → Prop} {v : V} {x : D} (h : VRep K H (Fz H M) v x) (n : ∀ kvs, x ≠ .dict kvs) : TyX K H v (.type (tyName x)) := by
  cases x with
  | none => rw [h.non]; exact .base .non
  | bool b => rw [h.bl]; exact .base (.bl b)
  | int i => rw [h.int]; exact .base (.int i)
  | str i => rw [h.str]; exact .base (.str i)
  | list xs => obtain ⟨a, vs, rfl, _, h1, _⟩ := h.list'; exact .base (.lst h1)
  | tuple xs => obtain ⟨a, vs, rfl, _, h1, _⟩ := h.tup'; exact .base (.tup h1)
  | dict kvs => exact absurd rfl (n kvs)
def isInt : D → Bool
  | .int _ => true
  | .bool _ => true
  | _ => false
def isBl : D → Bool
  | .bool _ => true
  | _ => false
def isStr : D → Bool
  | .str _ => true
  | _ => false
def isTup : D → Bool
  | .tuple _ => true
  | _ => false
def isLst : D → Bool
  | .list _ => true
  | _ => false
def IsT (Tn : String) (p : D → Bool) : Prop := ∀ x : D, (∀ kvs, x ≠ .dict kvs) → kitB (tyName x) Tn = some (p x)
theorem ist_int : IsT "int" isInt := fun x n => by cases x <;> first | exact absurd rfl (n _) | rfl
theorem ist_bl : IsT "bool" isBl := fun x n => by cases x <;> first | exact absurd rfl (n _) | rfl
theorem ist_str : IsT "str" isStr := fun x n => by cases x <;> first | exact absurd rfl (n _) | rfl
theorem ist_tup : IsT "tuple" isTup := fun x n => by cases x <;> first | exact absurd rfl (n _) | rfl
theorem ist_lst : IsT "list" isLst := fun x n => by cases x <;> first | exact absurd rfl (n _) | rfl
def fI (p : D → Bool) : F1 := fun x k => match x with
  | .dict _ => False
  | x => k (.bool (p x))
theorem de_isi {e : Expr} {te : dTE} {T : Str} {Tn : String} {q : D → Bool} {p pT pos : Pos} (hq : IsT Tn q) (he : DE X e te) (hm : X.mg "isinstance" = none) (hmT : X.mg T = none) (hg : Gl X "isinstance") (hgT : Gl X T) (hvT : bootBuiltins T = some (.type Tn)) (hnT : T ≠ "__name__" := by decide) (hdT : (T == ("__debug__" : Str)) = false := by decide)
    (hv : bootBuiltins "isinstance" = some (.builtin "isinstance") := by decide +kernel)
    (he1 : starEach [e, .Name T pT] X.env = (false, eval e X.env) :: starEach [.Name T pT] X.env := by rfl) (he2 : starEach [.Name T pT] X.env = (false, eval (.Name T pT) X.env) :: starEach [] X.env := by rfl)
    (hpl : (backTo pos (starEach [.Name T pT] X.env)).any (·.1) = false := by rfl) : DE X (.Call (.Name "isinstance" p) [e, .Name T pT] [] pos) (dUn (fI q) te) :=
  PE.imp (pe_callB call_isi hg hm hv (pa_cons he (pa_cons (pe_bltn (v := .ty Tn) hgT hmT hvT rfl hnT hdT) pa_nil he2) he1) (by decide) (by decide) he1 hpl) fun σ H Q hh => by
    obtain ⟨F, m, o, ρ, S, k, rel, t, hk⟩ := hh
    refine ⟨F, m, o, ρ, S, _, rel, t, fun d S1 m1 H1 v h1 rel1 g1 r1 => ?_⟩
    have rv := rel1.view r1
    have nd : ∀ kvs, L3.view ρ S1 d ≠ .dict kvs := fun kvs e => by
      rw [e] at h1
      exact h1
    have h2 : k (.d (.bool (q (L3.view ρ S1 d)))) S1 := by
      cases z : L3.view ρ S1 d with
      | dict kvs => exact absurd z (nd kvs)
      | _ => rw [z] at h1; exact h1
    exact ⟨v, .ty Tn, _, _, _, rfl, .ty Tn, rv.ty nd, kit_ty (hq _ nd), hk _ S1 m1 H1 _ h2 rel1 g1 (.bl _)⟩
end

/-! ### methods of texts, of lists that are read -/
abbrev FM := D → List D → (D → Prop) → Prop
def MtD (K : PySem.W.Frag) (r : V → List V → Hp → VK → Prop) (f : FM) : Prop := ∀ (M : Addr → Prop) (H : Hp) (x : V) (xs : List V) (dx : D) (ds : List D) (k : D → Prop) (Q : VK), Alive M H →
  VRep K H (Fz H M) x dx → VReps K H (Fz H M) xs ds → f dx ds k → (∀ z v H', k z → Sub H H' → Rp K (Fz H' M) v z → Q v H') → r x xs H Q
def dBM (T : String) (f : FM) (to : dTE) (ta : dTA) : dTE := fun ρ S Q => to ρ S fun d S1 => tyName (view ρ S1 d) = T ∧ ta ρ S1 fun ds S2 => f (view ρ S2 d) (views ρ S2 ds) fun z => Q (.d z) S2
def dBM0 (T : String) (f : FM) (to : dTE) : dTE := fun ρ S Q => to ρ S fun d S1 => tyName (view ρ S1 d) = T ∧ f (view ρ S1 d) [] fun z => Q (.d z) S1
section
variable {X : Cx}
theorem VRep.tyV {K : PySem.W.Frag} {H : Hp} {M : Addr → Prop} {v : V} {x : D} {T : String} (h : VRep K H (Fz H M) v x) (e : tyName x = T) (hT : T = "str" ∨ T = "list") : L2.tyV K T v H := by
  cases x with
  | str z => rw [h.str]; exact e.symm
  | list xs => obtain ⟨a, vs, rfl, h1, _⟩ := h.list'; exact .inl ⟨e.symm, vs, h1⟩
  | none => subst e; rcases hT with z | z <;> simp [tyName] at z
  | bool b => subst e; rcases hT with z | z <;> simp [tyName] at z
  | int b => subst e; rcases hT with z | z <;> simp [tyName] at z
  | tuple b => subst e; rcases hT with z | z <;> simp [tyName] at z
  | dict b => subst e; rcases hT with z | z <;> simp [tyName] at z
theorem lift_bm {K : PySem.W.Frag} {r : V → List V → Hp → VK → Prop} {f : FM} {T : String} {to : dTE} {ta : dTA} (hT : T = "str" ∨ T = "list") (hf : MtD K r f) {σ : L2.St} {H : Hp} {Q : VK} (h : lift K (dBM T f to ta) σ H Q) : tBM K T r (lift K to) (liftA K ta) σ H Q := by
  obtain ⟨F, m, o, ρ, S, k, rel, t, hk⟩ := h
  refine ⟨F, m, o, ρ, S, _, rel, t, fun d S1 m1 H1 v h1 rel1 g1 r1 => ?_⟩
  obtain ⟨e, h2⟩ := h1
  refine ⟨(rel1.view r1).tyV e hT, F, m1, o, ρ, S1, _, rel1, h2, fun ds S2 m2 H2 vs h3 rel2 g2 r2 => ?_⟩
  exact hf (Mu F m2 o) H2 v vs _ _ _ _ rel2.st.alive (rel2.view (r1.grow g2)) (rel2.views r2) h3 fun z u H' kz s dz =>
    hk (.d z) S2 m2 H' u kz (rel2.sub s) ((g1.trans g2).trans (Grow.sub rel2 s)) dz
theorem lift_bm0 {K : PySem.W.Frag} {r : V → List V → Hp → VK → Prop} {f : FM} {T : String} {to : dTE} (hT : T = "str" ∨ T = "list") (hf : MtD K r f) {σ : L2.St} {H : Hp} {Q : VK} (h : lift K (dBM0 T f to) σ H Q) : tBM0 K T r (lift K to) σ H Q := by
  obtain ⟨F, m, o, ρ, S, k, rel, t, hk⟩ := h
  refine ⟨F, m, o, ρ, S, _, rel, t, fun d S1 m1 H1 v h1 rel1 g1 r1 => ?_⟩
  obtain ⟨e, h2⟩ := h1
  exact ⟨(rel1.view r1).tyV e hT, hf (Mu F m1 o) H1 v [] _ _ _ _ rel1.st.alive (rel1.view r1) .nil h2 fun z u H' kz s dz =>
    hk (.d z) S1 m1 H' u kz (rel1.sub s) (g1.trans (Grow.sub rel1 s)) dz⟩
variable {o e : Expr} {es : List Expr} {to : dTE} {t : dTA} {name : Str} {apos cpos : Pos} {T id : String} {f : FM}
theorem de_bm (hm : ∃ r, MtR X id r ∧ MtD X.K r f) (hT : T = "str" ∨ T = "list") (pa : PlainAttrs T) (slot : PySem.Slot T name id) (hty : typeOf (.builtin id) = pure (.type "method_descriptor")) (ho : DE X o to) (ha : DA X (e :: es) t)
    (hbase : attributeBase o name X.env (eval o X.env) = eval o X.env := by rfl) (he : starEach (e :: es) X.env = (false, eval e X.env) :: starEach es X.env := by rfl)
    (hfew : ((backTo cpos (starEach (e :: es) X.env)).all (fun x => !x.1) && (backToKw cpos (keywordEach [] X.env)).all (fun x => x.1.isSome)
      && decide ((e :: es).length + ([] : List Keyword).length + (if ([] : List Keyword).isEmpty then 0 else 1) < 30)) = true := by rfl)
    (hpl : (backTo cpos (starEach es X.env)).any (·.1) = false := by rfl) (hline : (apos.endLine == cpos.line) = true := by rfl) : DE X (.Call (.Attribute o name apos) (e :: es) [] cpos) (dBM T f to t) := by
  obtain ⟨r, h1, h2⟩ := hm
  exact PE.imp (pe_bm pa slot hty h1 ho ha hbase hfew hline he hpl) fun _ _ _ => lift_bm hT h2
theorem de_bm0 (hm : ∃ r, MtR X id r ∧ MtD X.K r f) (hT : T = "str" ∨ T = "list") (pa : PlainAttrs T) (slot : PySem.Slot T name id) (hty : typeOf (.builtin id) = pure (.type "method_descriptor")) (ho : DE X o to)
    (hbase : attributeBase o name X.env (eval o X.env) = eval o X.env := by rfl) (hline : (apos.endLine == cpos.line) = true := by rfl) : DE X (.Call (.Attribute o name apos) [] [] cpos) (dBM0 T f to) := by
  obtain ⟨r, h1, h2⟩ := hm
  exact PE.imp (pe_bm0 pa slot hty h1 ho hbase hline) fun _ _ _ => lift_bm0 hT h2
def fJoin : FM := fun x ds k => match x, ds with
  | .str a, [.list xs] => withL (strsOf xs) fun ys => (ys.map (·.length)).sum + ys.length * a.length ≤ 16777216 ∧ k (.str (Txt.join a ys))
  | .str a, [.tuple xs] => withL (strsOf xs) fun ys => (ys.map (·.length)).sum + ys.length * a.length ≤ 16777216 ∧ k (.str (Txt.join a ys))
  | _, _ => False
theorem m_join : ∃ r, MtR X "str.join" r ∧ MtD X.K r fJoin := by
  refine ⟨_, mt_join, fun M H x xs dx ds k Q al rx rs h fin => ?_⟩
  unfold fJoin at h
  split at h
  · obtain ⟨ys, e, h0, h⟩ := withL_of h
    obtain ⟨v, rfl, r1⟩ := vreps1 rs
    obtain ⟨a, vs, rfl, h1, _, h2⟩ := r1.list'
    rw [strsOf_is e] at h2
    have e3 := RpAll.strs h2
    subst e3
    exact ⟨_, a, ys, rx.str, rfl, .inl h1, h0, fin _ _ _ h (Sub.refl _) (.str _)⟩
  · obtain ⟨ys, e, h0, h⟩ := withL_of h
    obtain ⟨v, rfl, r1⟩ := vreps1 rs
    obtain ⟨a, vs, rfl, h1, _, _, h2⟩ := r1.tup'
    rw [strsOf_is e] at h2
    have e3 := RpAll.strs h2
    subst e3
    exact ⟨_, a, ys, rx.str, rfl, .inr h1, h0, fin _ _ _ h (Sub.refl _) (.str _)⟩
  · exact h.elim
end
/-! ### in, not in, for flat things -/
def flatD : D → Bool
  | .none => true
  | .bool _ => true
  | .int _ => true
  | .str _ => true
  | _ => false
theorem eqv_flat {K : PySem.W.Frag} {H : Hp} {v w : V} {x y : D} (hx : Rp K H v x) (hy : Rp K H w y) (fx : flatD x = true) (fy : flatD y = true) : eqV w v = PyData.eqv y x := by
  cases hx <;> cases hy <;> first | rfl | (simp [flatD] at fx fy; done) | (simp [eqV, PyData.eqv]; done) | skip
theorem flat_V {K : PySem.W.Frag} {H : Hp} {v : V} {x : D} (hx : Rp K H v x) (fx : flatD x = true) : flatV v = true := by
  cases hx <;> first | rfl | (simp [flatD, scrD] at fx; done)
/-- x in ys -/
def isIn (x : D) (ys : List D) : Bool := ys.any fun z => PyData.eqv z x
def fIn : F2 := fun x y k => match y with
  | .list ys => ((flatD x && ys.all flatD) || (SeqAt.shaped x && SeqAt.shaped (.list ys))) = true ∧ k (.bool (isIn x ys))
  | .tuple ys => (flatD x && ys.all flatD) = true ∧ k (.bool (isIn x ys))
  | _ => False
def fNotIn : F2 := fun x y k => match y with
  | .list ys => ((flatD x && ys.all flatD) || (SeqAt.shaped x && SeqAt.shaped (.list ys))) = true ∧ k (.bool (!isIn x ys))
  | .tuple ys => (flatD x && ys.all flatD) = true ∧ k (.bool (!isIn x ys))
  | _ => False
theorem VRep.rp {K : PySem.W.Frag} {H : Hp} {M : Addr → Prop} {v : V} {x : D} (h : VRep K H (Fz H M) v x) (f : flatD x = true) : Rp K H v x := by
  cases h with
  | d q => exact Rp.sub Fz.sub q
  | @cell a c q => cases c <;> simp [cellD, flatD] at f
theorem inV_is {K : PySem.W.Frag} {H : Hp} {v : V} {x : D} (hx : Rp K H v x) (fx : flatD x = true) : ∀ {vs : List V} {ys : List D}, RpAll K H vs ys → ys.all flatD = true → inV v vs = isIn x ys ∧ vs.all flatV = true
  | _, _, .nil, _ => ⟨rfl, rfl⟩
  | _, _, .cons h r, f => by
    simp only [List.all_cons, Bool.and_eq_true] at f
    obtain ⟨e1, e2⟩ := inV_is hx fx r f.2
    refine ⟨?_, by rw [List.all_cons, flat_V h f.1, e2]; rfl⟩
    unfold inV isIn at *
    rw [List.any_cons, List.any_cons, e1, eqv_flat hx h fx f.1]
section
variable {X : Cx}
theorem o_in (hu : X.A.units + 65 < cLine) : ∃ r, OpR X (compareOp .In) r ∧ OpD X.K r fIn := by
  refine ⟨_, op_in_seq.or (op_inD hu), fun M H x y dx dy k Q al rx ry h fin => ?_⟩
  unfold fIn at h
  split at h
  · obtain ⟨c, h⟩ := h
    rw [Bool.or_eq_true] at c
    rcases c with c | c
    · rw [Bool.and_eq_true] at c
      obtain ⟨a, vs, rfl, h1, _, h2⟩ := ry.list'
      obtain ⟨e1, e2⟩ := inV_is (rx.rp c.1) c.1 (RpAll.sub Fz.sub h2) c.2
      refine .inl ⟨a, vs, rfl, .inl h1, flat_V (rx.rp c.1) c.1, e2, ?_⟩
      rw [if_neg Bool.false_ne_true, e1]
      exact fin _ _ _ h (Sub.refl _) (.bl _)
    · rw [Bool.and_eq_true] at c
      exact .inr ⟨_, _, rx.dp Fz.sub (SeqAt.canLay_of_shaped c.1), ry.dp Fz.sub (SeqAt.canLay_of_shaped c.2), c.1, c.2, fin _ _ _ h (Sub.refl _) (.bl _)⟩
  · obtain ⟨c, h⟩ := h
    rw [Bool.and_eq_true] at c
    obtain ⟨a, vs, rfl, h1, _, _, h2⟩ := ry.tup'
    obtain ⟨e1, e2⟩ := inV_is (rx.rp c.1) c.1 (RpAll.sub Fz.sub h2) c.2
    refine .inl ⟨a, vs, rfl, .inr h1, flat_V (rx.rp c.1) c.1, e2, ?_⟩
    rw [if_neg Bool.false_ne_true, e1]
    exact fin _ _ _ h (Sub.refl _) (.bl _)
  · exact h.elim
theorem o_notin (hu : X.A.units + 65 < cLine) : ∃ r, OpR X (compareOp .NotIn) r ∧ OpD X.K r fNotIn := by
  refine ⟨_, op_notIn_seq.or (op_notInD hu), fun M H x y dx dy k Q al rx ry h fin => ?_⟩
  unfold fNotIn at h
  split at h
  · obtain ⟨c, h⟩ := h
    rw [Bool.or_eq_true] at c
    rcases c with c | c
    · rw [Bool.and_eq_true] at c
      obtain ⟨a, vs, rfl, h1, _, h2⟩ := ry.list'
      obtain ⟨e1, e2⟩ := inV_is (rx.rp c.1) c.1 (RpAll.sub Fz.sub h2) c.2
      refine .inl ⟨a, vs, rfl, .inl h1, flat_V (rx.rp c.1) c.1, e2, ?_⟩
      rw [if_pos rfl, e1]
      exact fin _ _ _ h (Sub.refl _) (.bl _)
    · rw [Bool.and_eq_true] at c
      exact .inr ⟨_, _, rx.dp Fz.sub (SeqAt.canLay_of_shaped c.1), ry.dp Fz.sub (SeqAt.canLay_of_shaped c.2), c.1, c.2, fin _ _ _ h (Sub.refl _) (.bl _)⟩
  · obtain ⟨c, h⟩ := h
    rw [Bool.and_eq_true] at c
    obtain ⟨a, vs, rfl, h1, _, _, h2⟩ := ry.tup'
    obtain ⟨e1, e2⟩ := inV_is (rx.rp c.1) c.1 (RpAll.sub Fz.sub h2) c.2
    refine .inl ⟨a, vs, rfl, .inr h1, flat_V (rx.rp c.1) c.1, e2, ?_⟩
    rw [if_pos rfl, e1]
    exact fin _ _ _ h (Sub.refl _) (.bl _)
  · exact h.elim
end
end L3

set_option maxHeartbeats 4000000
namespace L3
open PySem PySem.Spec L2

/-! ### blocks and small statements -/
def dNext : dTS := fun E ρ S => E.nx ρ S
def dSeq (t u : dTS) : dTS := fun E ρ S => t { E with nx := u E } ρ S
def dBrk : dTS := fun E ρ S => E.bk ρ S
def dCnt : dTS := fun E ρ S => E.ct ρ S
def dDrop (te : dTE) : dTS := fun E ρ S => te ρ S fun _ S1 => E.nx ρ S1
def dRet (te : dTE) : dTS := fun E ρ S => te ρ S E.rt
def dRetN : dTS := fun E _ S => E.rt (.d .none) S
def dIfS (c : dTT) (t u : dTS) : dTS := fun E ρ S => c ρ S fun b S1 => Br b (t E ρ S1) (u E ρ S1)
/-- a value that may be kept: none of one's own things -/
def nl (d : DV) (k : Prop) : Prop := match d with
  | .loc _ => False
  | .d _ => k
  | .ref _ => k
theorem nl_of {d : DV} {k : Prop} (h : nl d k) : isLoc d = false ∧ k := by
  cases d with
  | d x => exact ⟨rfl, h⟩
  | ref n => exact ⟨rfl, h⟩
  | loc i => exact h.elim
def dSet (i : Nat) (te : dTE) : dTS := fun E ρ S => te ρ S fun d S1 => nl d (E.nx (ρ.set i (.val d)) S1)
/-- a new list that is one's own -/
def dSetO (i : Nat) (t : dTF) : dTS := fun E ρ S => t ρ S fun xs S1 => match ρ[i]? with
  | some _ => E.nx (ρ.set i (.own (.lst xs))) S1
  | none => False
/-- from here on what slot i owns stands still -/
def frz (ρ : Env3) (i : Nat) : Env3 := match ρ[i]? with
  | some (.own (.lst xs)) => ρ.set i (.val (.d (.list xs)))
  | _ => ρ
def dFrz (i : Nat) (t : dTS) : dTS := fun E ρ S => t E (frz ρ i) S
section
variable {X : Cx} {K : PySem.W.Frag}
theorem EndsOk.seq {F : Addr → Prop} {m o : Nat → Option Addr} {H : Hp} {E : dEnds} {E' : Ends} {u : dTS} (ok : EndsOk K F m o H E E') : EndsOk K F m o H { E with nx := u E } { E' with nx := liftS K u E' } :=
  ⟨fun ρ S m' o' σ' H' h r g => ⟨F, m', o', ρ, S, E, r, h, ok.grow g⟩, ok.bk, ok.ct, ok.rt⟩
theorem dss_nil : DSs X [] dNext := PSs.imp pss_nil fun E σ H q => by
  obtain ⟨F, m, o, ρ, S, E', rel, t, ok⟩ := q
  exact ok.nx ρ S m o σ H t rel Grow.refl
theorem lift_seq {t u : dTS} {E : Ends} {σ : L2.St} {H : Hp} (q : liftS K (dSeq t u) E σ H) : tSeq (liftS K t) (liftS K u) E σ H := by
  obtain ⟨F, m, o, ρ, S, E', rel, t, ok⟩ := q
  exact ⟨F, m, o, ρ, S, _, rel, t, ok.seq⟩
theorem dss_cons {st : Stmt} {rest : List Stmt} {t u : dTS} (h1 : DS X st t) (h2 : DSs X rest u) : DSs X (st :: rest) (dSeq t u) := PSs.imp (pss_cons h1 h2) fun _ _ _ => lift_seq
theorem dss_one {st : Stmt} {t : dTS} (h1 : DS X st t) : DSs X [st] t := pss_one h1
theorem ds_pass {pos : Pos} : DS X (.Pass pos) dNext := PS.imp ps_pass fun E σ H q => by
  obtain ⟨F, m, o, ρ, S, E', rel, t, ok⟩ := q
  exact ok.nx ρ S m o σ H t rel Grow.refl
theorem ds_brk {pos : Pos} : DS X (.Break pos) dBrk := PS.imp ps_break fun E σ H q => by
  obtain ⟨F, m, o, ρ, S, E', rel, t, ok⟩ := q
  exact ok.bk ρ S m o σ H t rel Grow.refl
theorem ds_cnt {pos : Pos} : DS X (.Continue pos) dCnt := PS.imp ps_continue fun E σ H q => by
  obtain ⟨F, m, o, ρ, S, E', rel, t, ok⟩ := q
  exact ok.ct ρ S m o σ H t rel Grow.refl
theorem ds_doc {x j pos pos'} : DS X (.Expr (.Constant (.str x) j pos) pos') dNext := PS.imp ps_doc fun E σ H q => by
  obtain ⟨F, m, o, ρ, S, E', rel, t, ok⟩ := q
  exact ok.nx ρ S m o σ H t rel Grow.refl
theorem ds_expr {e : Expr} {te : dTE} {pos : Pos} (he : DE X e te) (hs : swapsWith e none pos.line X.env = pure false := by rfl) : DS X (.Expr e pos) (dDrop te) := PS.imp (ps_expr he hs) fun E σ H q => by
  obtain ⟨F, m, o, ρ, S, E', rel, t, ok⟩ := q
  exact ⟨F, m, o, ρ, S, _, rel, t, fun d S' m' H' v h r g _ => ok.nx ρ S' m' o σ H' h r g⟩
theorem ds_ret {e : Expr} {te : dTE} {pos : Pos} (he : DE X e te) : DS X (.Return (some e) pos) (dRet te) := PS.imp (ps_ret he) fun E σ H q => by
  obtain ⟨F, m, o, ρ, S, E', rel, t, ok⟩ := q
  exact ⟨F, m, o, ρ, S, _, rel, t, fun d S' m' H' v h r g q => ok.rt d ρ S' m' o σ H' v h r g q⟩
theorem ds_retN {pos : Pos} : DS X (.Return none pos) dRetN := PS.imp ps_retN fun E σ H q => by
  obtain ⟨F, m, o, ρ, S, E', rel, t, ok⟩ := q
  exact ok.rt _ ρ S m o σ H .non t rel Grow.refl .non
theorem ds_if {c : Expr} {a b : List Stmt} {tc : dTT} {t u : dTS} {pos : Pos} (hc : DT X c tc) (ha : DSs X a t) (hb : DSs X b u) : DS X (.If c a b pos) (dIfS tc t u) := PS.imp (ps_if hc ha hb) fun E σ H q => by
  obtain ⟨F, m, o, ρ, S, E', rel, t, ok⟩ := q
  refine ⟨F, m, o, ρ, S, _, rel, t, fun b S1 m1 H1 h r g => ?_⟩
  cases b with
  | true => exact iteT ⟨F, m1, o, ρ, S1, E', r, h.eT, ok.grow g⟩
  | false => exact iteF ⟨F, m1, o, ρ, S1, E', r, h.eF, ok.grow g⟩
theorem ds_set {i : Nat} {x : Str} {e : Expr} {te : dTE} {pos pos' : Pos} (hN : X.N.Nodup) (hi : X.N[i]? = some x) (hx : Loc X.env.scope x) (he : DE X e te) (hf : X.fn x = true ∨ X.env.scope.names.lookup x = some .local) (hs : swapsWith e (some (.Name x pos')) pos.line X.env = pure false := by rfl) :
    DS X (.Assign [.Name x pos'] e pos) (dSet i te) := PS.imp (ps_set hN hi hx he hs hf) fun E σ H q => by
  obtain ⟨F, m, o, ρ, S, E', rel, t, ok⟩ := q
  refine ⟨F, m, o, ρ, S, _, rel, t, fun d S1 m1 H1 v h r g q => ?_⟩
  obtain ⟨n, h⟩ := nl_of h
  exact ok.nx _ S1 m1 _ _ H1 h (r.put i q n) (g.trans (Grow.ers i))
theorem own_fin {F : Addr → Prop} {m o : Nat → Option Addr} {ρ : Env3} {S : Sto} {σ : L2.St} {H : Hp} {E : dEnds} {E' : Ends} {i : Nat} {p : Addr} {vs : List V} {xs : List D} (rel : Rel K F m o ρ S σ H) (hp : H p = none) (dp : RpAll K (Fz H (Mu F m o)) vs xs)
    (h : match ρ[i]? with | some _ => E.nx (ρ.set i (.own (.lst xs))) S | none => False) (ok : EndsOk K F m o H E E') : gName i (.ref p) σ (upd H p (.lst vs)) E'.nx := by
  have hi : i < ρ.length := by
    by_cases z : i < ρ.length
    · exact z
    · rw [List.getElem?_eq_none_iff.mpr (by omega)] at h
      exact h.elim
  rw [List.getElem?_eq_getElem hi] at h
  exact ok.nx _ S m _ _ _ h (rel.own hp hi ⟨vs, upd_same, RpAll.sub (fz_own hp) dp⟩) (Grow.own rel.st hp)
theorem ds_setO {i : Nat} {x : Str} {e : Expr} {t : dTF} {pos pos' : Pos} (hN : X.N.Nodup) (hi : X.N[i]? = some x) (hx : Loc X.env.scope x) (he : DF X e t) (hf : X.fn x = true ∨ X.env.scope.names.lookup x = some .local) (hs : swapsWith e (some (.Name x pos')) pos.line X.env = pure false := by rfl) :
    DS X (.Assign [.Name x pos'] e pos) (dSetO i t) := PS.imp (ps_set hN hi hx he hs hf) fun E σ H q => by
  obtain ⟨F, m, o, ρ, S, E', rel, t, ok⟩ := q
  exact ⟨F, m, o, ρ, S, _, rel, t, fun xs S1 m1 H1 p vs h r g hp dp => own_fin r hp dp h (ok.grow g)⟩
theorem frz_rel {F : Addr → Prop} {m o : Nat → Option Addr} {ρ : Env3} {S : Sto} {σ : L2.St} {H : Hp} (r : Rel K F m o ρ S σ H) (i : Nat) : ∃ o', Rel K F m o' (frz ρ i) S σ H ∧ Grow F m o H m o' H := by
  unfold frz
  split
  · rename_i xs e
    obtain ⟨a, h1, h2, vs, h3, h4⟩ := r.sl i _ e
    have q : DRep K F m (ersO o i) H (.ref a) (.d (.list xs)) := by
      refine .lst (Fz.of (fun z => ?_) h3) (RpAll.sub (fz_ers i) h4)
      rcases z with z | ⟨n, z⟩ | ⟨j, z⟩
      · exact r.st.oF i a h1 z
      · exact r.st.injO n i a z h1
      · obtain ⟨z1, z2⟩ := ers_some z
        exact z1 (r.st.oo j i a z2 h1)
    have hi : i < ρ.length := (List.getElem?_eq_some_iff.mp e).1
    refine ⟨ersO o i, ⟨r.st.ers i, by rw [List.length_set]; exact r.len, fun j s e2 => ?_, fun j h => ?_⟩, Grow.ers i⟩
    · by_cases hj : i = j
      · subst hj
        rw [List.getElem?_set_self hi] at e2
        cases e2
        exact ⟨ers_same, _, h2, q⟩
      · rw [List.getElem?_set_ne hj] at e2
        rw [ers_ne (Ne.symm hj)]
        exact (r.sl j s e2).sub (fun _ _ => rfl) (fz_ers i)
    · rw [List.length_set] at h
      by_cases hj : j = i
      · subst hj; exact ers_same
      · rw [ers_ne hj]; exact r.far j h
  · exact ⟨o, r, Grow.refl⟩
theorem dss_frz {sts : List Stmt} {t : dTS} (i : Nat) (h : DSs X sts t) : DSs X sts (dFrz i t) := PSs.imp h fun E σ H q => by
  obtain ⟨F, m, o, ρ, S, E', rel, t, ok⟩ := q
  obtain ⟨o', r, g⟩ := frz_rel rel i
  exact ⟨F, m, o', _, S, E', r, t, ok.grow g⟩
theorem ds_frz {st : Stmt} {t : dTS} (i : Nat) (h : DS X st t) : DS X st (dFrz i t) := PS.imp h fun E σ H q => by
  obtain ⟨F, m, o, ρ, S, E', rel, t, ok⟩ := q
  obtain ⟨o', r, g⟩ := frz_rel rel i
  exact ⟨F, m, o', _, S, E', r, t, ok.grow g⟩
end

/-! ### targets -/
abbrev dTG := D → Env3 → Sto → (Env3 → Sto → Prop) → Prop
abbrev dTGs := List D → Env3 → Sto → (Env3 → Sto → Prop) → Prop
def wipeD (ρ : Env3) : List Nat → Env3
  | [] => ρ
  | v :: vs => (wipeD ρ vs).set v .no
theorem wipeD_length (ρ : Env3) : ∀ vs : List Nat, (wipeD ρ vs).length = ρ.length
  | [] => rfl
  | v :: vs => by unfold wipeD; rw [List.length_set, wipeD_length ρ vs]
theorem wipe_set (σ : L2.St) (i : Nat) (x : Option V) : ∀ {vs : List Nat}, i ∈ vs → wipe (σ.set i x) vs = wipe σ vs
  | v :: vs, h => by
    unfold wipe
    by_cases e : i ∈ vs
    · rw [wipe_set σ i x e]
    · have hv : i = v := by
        rcases List.mem_cons.mp h with h | h
        · exact h
        · exact absurd h e
      subst hv
      have go : ∀ ws : List Nat, i ∉ ws → wipe (σ.set i x) ws = (wipe σ ws).set i x := by
        intro ws hw
        induction ws with
        | nil => rfl
        | cons w ws ih =>
          have h1 : i ≠ w := fun z => hw (by rw [z]; exact List.mem_cons_self)
          have h2 : i ∉ ws := fun z => hw (List.mem_cons_of_mem _ z)
          unfold wipe
          rw [ih h2, List.set_comm _ _ h1]
      rw [go vs e, List.set_set]
theorem wipeD_set (σ : Env3) (i : Nat) (x : Slot) : ∀ {vs : List Nat}, i ∈ vs → wipeD (σ.set i x) vs = wipeD σ vs
  | v :: vs, h => by
    unfold wipeD
    by_cases e : i ∈ vs
    · rw [wipeD_set σ i x e]
    · have hv : i = v := by
        rcases List.mem_cons.mp h with h | h
        · exact h
        · exact absurd h e
      subst hv
      have go : ∀ ws : List Nat, i ∉ ws → wipeD (σ.set i x) ws = (wipeD σ ws).set i x := by
        intro ws hw
        induction ws with
        | nil => rfl
        | cons w ws ih =>
          have h1 : i ≠ w := fun z => hw (by rw [z]; exact List.mem_cons_self)
          have h2 : i ∉ ws := fun z => hw (List.mem_cons_of_mem _ z)
          unfold wipeD
          rw [ih h2, List.set_comm _ _ h1]
      rw [go vs e, List.set_set]
/-- a target's reading: its slots are among vs -/
def liftG (K : PySem.W.Frag) (vs : List Nat) (g : dTG) : TG := fun v σ H Q => ∃ F m o ρ S x k, Rel K F m o ρ S σ H ∧ Rp K (Fz H (Mu F m o)) v x ∧ g x ρ S k ∧
  ∀ ρ' S' m' o' σ' H', k ρ' S' → Rel K F m' o' ρ' S' σ' H' → Grow F m o H m' o' H' → wipe σ' vs = wipe σ vs → (∀ i a, o' i = some a → o i = some a) → Q σ' H'
def liftGs (K : PySem.W.Frag) (vs : List Nat) (g : dTGs) : TGs := fun us σ H Q => ∃ F m o ρ S xs k, Rel K F m o ρ S σ H ∧ RpAll K (Fz H (Mu F m o)) us xs ∧ g xs ρ S k ∧
  ∀ ρ' S' m' o' σ' H', k ρ' S' → Rel K F m' o' ρ' S' σ' H' → Grow F m o H m' o' H' → wipe σ' vs = wipe σ vs → (∀ i a, o' i = some a → o i = some a) → Q σ' H'
structure DG (X : Cx) (vs : List Nat) (e : Expr) (g : dTG) : Prop where
  pg : PG X e (liftG X.K vs g)
  sat : ∀ x ρ S k, g x ρ S k → ∃ ρ1 S1, k ρ1 S1
  w : ∀ x ρ S k, g x ρ S k → g x ρ S fun ρ1 S1 => k ρ1 S1 ∧ wipeD ρ1 vs = wipeD ρ vs
structure DGs (X : Cx) (vs : List Nat) (n : Nat) (es : List Expr) (g : dTGs) : Prop where
  pg : PGs X es (liftGs X.K vs g)
  sat : ∀ x ρ S k, g x ρ S k → x.length = n ∧ ∃ ρ1 S1, k ρ1 S1
  w : ∀ x ρ S k, g x ρ S k → g x ρ S fun ρ1 S1 => k ρ1 S1 ∧ wipeD ρ1 vs = wipeD ρ vs
def gNm (i : Nat) : dTG := fun x ρ S Q => Q (ρ.set i (.val (.d x))) S
def gsNil : dTGs := fun xs ρ S Q => match xs with
  | [] => Q ρ S
  | _ :: _ => False
def gsCons (g : dTG) (gs : dTGs) : dTGs := fun xs ρ S Q => match xs with
  | [] => False
  | x :: r => g x ρ S fun ρ1 S1 => gs r ρ1 S1 Q
def gTp (gs : dTGs) : dTG := fun x ρ S Q => match x with
  | .tuple xs => gs xs ρ S Q
  | _ => False
theorem PG.imp {X : Cx} {e : Expr} {t t' : TG} (h : PG X e t) (i : ∀ v σ H Q, t' v σ H Q → t v σ H Q) : PG X e t' := ⟨fun pins s σ H v u Q I r q => h.run pins s σ H v u Q I r (i v σ H Q q)⟩
theorem PGs.imp {X : Cx} {e : List Expr} {t t' : TGs} (h : PGs X e t) (i : ∀ v σ H Q, t' v σ H Q → t v σ H Q) : PGs X e t' := ⟨fun pins s σ H v u Q I r q => h.run pins s σ H v u Q I r (i v σ H Q q)⟩
section
variable {X : Cx} {vs : List Nat}
theorem dg_nm {i : Nat} {x : Str} {pos : Pos} (hN : X.N.Nodup) (hi : X.N[i]? = some x) (hx : Loc X.env.scope x) (hf : X.fn x = true ∨ X.env.scope.names.lookup x = some .local) (hv : i ∈ vs := by decide) : DG X vs (.Name x pos) (gNm i) where
  pg := PG.imp (pg_name hN hi hx hf) fun v σ H Q q => by
    obtain ⟨F, m, o, ρ, S, x, k, rel, dp, t, hk⟩ := q
    exact hk _ S m _ _ H t (rel.put (d := .d x) i dp rfl) (Grow.ers i) (wipe_set _ _ _ hv) fun j a e => (ers_some e).2
  sat := fun x ρ S k h => ⟨_, _, h⟩
  w := fun x ρ S k h => ⟨h, wipeD_set _ _ _ hv⟩
theorem dgs_nil : DGs X vs 0 [] gsNil where
  pg := PGs.imp pgs_nil fun us σ H Q q => by
    obtain ⟨F, m, o, ρ, S, xs, k, rel, dp, t, hk⟩ := q
    cases dp with
    | nil => exact ⟨rfl, hk _ S m _ _ H t rel Grow.refl rfl fun _ _ e => e⟩
    | cons h r => exact t.elim
  sat := fun xs ρ S k h => by
    cases xs with
    | nil => exact ⟨rfl, _, _, h⟩
    | cons x r => exact h.elim
  w := fun xs ρ S k h => by
    cases xs with
    | nil => exact ⟨h, rfl⟩
    | cons x r => exact h.elim
theorem dgs_cons {e : Expr} {es : List Expr} {g : dTG} {gs : dTGs} {n : Nat} (h1 : DG X vs e g) (h2 : DGs X vs n es gs)
    (mono : ∀ x ρ S k k', g x ρ S k → (∀ ρ1 S1, k ρ1 S1 → k' ρ1 S1) → g x ρ S k')
    (hs : (assignEach (e :: es) X.env).map (·.2) = assign e X.env :: (assignEach es X.env).map (·.2) := by rfl) : DGs X vs (n + 1) (e :: es) (gsCons g gs) where
  pg := PGs.imp (pgs_cons h1.pg h2.pg hs) fun us σ H Q q => by
    obtain ⟨F, m, o, ρ, S, xs, k, rel, dp, t, hk⟩ := q
    cases dp with
    | nil => exact t.elim
    | cons h r =>
      refine ⟨_, _, rfl, F, m, o, ρ, S, _, _, rel, h, t, fun ρ1 S1 m1 o1 σ1 H1 h1 rel1 g1 w1 oo1 => ?_⟩
      exact ⟨F, m1, o1, ρ1, S1, _, _, rel1, RpAll.sub g1.z r, h1, fun ρ2 S2 m2 o2 σ2 H2 h2 rel2 g2 w2 oo2 => hk ρ2 S2 m2 o2 σ2 H2 h2 rel2 (g1.trans g2) (w2.trans w1) fun j a e => oo1 j a (oo2 j a e)⟩
  sat := fun xs ρ S k h => by
    cases xs with
    | nil => exact h.elim
    | cons x r =>
      obtain ⟨ρ1, S1, q⟩ := h1.sat _ _ _ _ h
      obtain ⟨q1, q2⟩ := h2.sat _ _ _ _ q
      exact ⟨by rw [List.length_cons, q1], q2⟩
  w := fun xs ρ S k h => by
    cases xs with
    | nil => exact h.elim
    | cons x r =>
      show g x ρ S _
      exact mono _ _ _ _ _ (h1.w _ _ _ _ h) fun ρ1 S1 q => by
        have z := h2.w _ _ _ _ q.1
        rw [q.2] at z
        exact z
theorem mono_nm (i : Nat) : ∀ x ρ S k k', gNm i x ρ S k → (∀ ρ1 S1, k ρ1 S1 → k' ρ1 S1) → gNm i x ρ S k' := fun _ _ _ _ _ h q => q _ _ h
theorem mono_nil : ∀ x ρ S k k', gsNil x ρ S k → (∀ ρ1 S1, k ρ1 S1 → k' ρ1 S1) → gsNil x ρ S k' := fun x _ _ _ _ h q => by
  cases x with
  | nil => exact q _ _ h
  | cons => exact h.elim
theorem mono_cons {g : dTG} {gs : dTGs} (h1 : ∀ x ρ S k k', g x ρ S k → (∀ ρ1 S1, k ρ1 S1 → k' ρ1 S1) → g x ρ S k') (h2 : ∀ x ρ S k k', gs x ρ S k → (∀ ρ1 S1, k ρ1 S1 → k' ρ1 S1) → gs x ρ S k') :
    ∀ x ρ S k k', gsCons g gs x ρ S k → (∀ ρ1 S1, k ρ1 S1 → k' ρ1 S1) → gsCons g gs x ρ S k' := fun x ρ S k k' h q => by
  cases x with
  | nil => exact h.elim
  | cons x r => exact h1 _ _ _ _ _ h fun ρ1 S1 z => h2 _ _ _ _ _ z q
theorem mono_tp {gs : dTGs} (h2 : ∀ x ρ S k k', gs x ρ S k → (∀ ρ1 S1, k ρ1 S1 → k' ρ1 S1) → gs x ρ S k') :
    ∀ x ρ S k k', gTp gs x ρ S k → (∀ ρ1 S1, k ρ1 S1 → k' ρ1 S1) → gTp gs x ρ S k' := fun x ρ S k k' h q => by
  cases x with
  | tuple xs => exact h2 _ _ _ _ _ h q
  | _ => exact h.elim
theorem dg_tp {es : List Expr} {k : Nat} {gs : dTGs} {n : Nat} {pos : Pos} (hc : X.calm = true) (h : DGs X vs n es gs)
    (hn : (assignEach es X.env).length = n := by rfl) (hst : (assignEach es X.env).findIdx? (·.1) = none := by rfl) : DG X vs (.Tuple es k pos) (gTp gs) where
  pg := PG.imp (pg_tup hc h.pg hn hst) fun v σ H Q q => by
    obtain ⟨F, m, o, ρ, S, x, k, rel, dp, t, hk⟩ := q
    unfold gTp at t
    split at t
    · cases dp with
      | tup e r => exact ⟨_, _, rfl, SqT.of (Fz.at e).2, by rw [RpAll.length r]; exact (h.sat _ _ _ _ t).1, F, m, o, ρ, S, _, k, rel, r, t, hk⟩
    · exact t.elim
  sat := fun x ρ S k q => by
    cases x with
    | tuple xs => exact (h.sat _ _ _ _ q).2
    | _ => exact q.elim
  w := fun x ρ S k q => by
    cases x with
    | tuple xs => exact h.w _ _ _ _ q
    | _ => exact q.elim
def dAsg (te : dTE) (g : dTG) : dTS := fun E ρ S => te ρ S fun d S1 => match d with
  | .d x => g x ρ S1 E.nx
  | _ => False
theorem ds_asg {tg e : Expr} {te : dTE} {g : dTG} {pos : Pos} (hg : DG X vs tg g) (he : DE X e te) (hs : swapsWithSole [tg] e pos.line X.env = pure false := by rfl) (hw : swappedStores [tg] e X.env = pure none := by rfl)
    (h1 : (assignEach [tg] X.env).map (·.2) = [assign tg X.env] := by rfl) : DS X (.Assign [tg] e pos) (dAsg te g) := PS.imp (ps_asg he hg.pg hs hw h1) fun E σ H q => by
  obtain ⟨F, m, o, ρ, S, E', rel, t, ok⟩ := q
  refine ⟨F, m, o, ρ, S, _, rel, t, fun d S1 m1 H1 v h r g1 q => ?_⟩
  cases d with
  | d x => exact ⟨F, m1, o, ρ, S1, x, _, r, q, h, fun ρ' S' m' o' σ' H' hh r' g' _ _ => ok.nx ρ' S' m' o' σ' H' hh r' (g1.trans g')⟩
  | ref n => exact h.elim
  | loc i => exact h.elim
/-- a, b = x, y -/
def dPar (i j : Nat) (ta : dTA) : dTS := fun E ρ S => ta ρ S fun ds S1 => match ds with
  | [d, e] => nl d (nl e (E.nx ((ρ.set i (.val d)).set j (.val e)) S1))
  | _ => False
theorem ds_par {i j : Nat} {x y : Str} {a b : Expr} {ta : dTA} {px py pt : Pos} {kt k2 pt2} {pos : Pos} (hc : X.calm = true) (hN : X.N.Nodup) (hi : X.N[i]? = some x) (hj : X.N[j]? = some y) (hij : i ≠ j)
    (hx : X.env.scope.names.lookup x = some .local) (hy : X.env.scope.names.lookup y = some .local) (ha : DA X [a, b] ta)
    (hw : swappedStores [.Tuple [.Name x px, .Name y py] kt pt] (.Tuple [a, b] k2 pt2) X.env = pure (some [x, y]) := by rfl)
    (hs : swapsWithSole [.Tuple [.Name x px, .Name y py] kt pt] (.Tuple [a, b] k2 pt2) pos.line X.env = pure false := by rfl) :
    DS X (.Assign [.Tuple [.Name x px, .Name y py] kt pt] (.Tuple [a, b] k2 pt2) pos) (dPar i j ta) := PS.imp (ps_par hc hN hi hj hij hx hy ha hw hs) fun E σ H q => by
  obtain ⟨F, m, o, ρ, S, E', rel, t, ok⟩ := q
  refine ⟨F, m, o, ρ, S, _, rel, t, fun ds S1 m1 H1 vs h r g q => ?_⟩
  match ds, h with
  | [d, e], h =>
    cases q with
    | cons q1 q =>
      cases q with
      | cons q2 q =>
        cases q
        obtain ⟨n1, h⟩ := nl_of h
        obtain ⟨n2, h⟩ := nl_of h
        exact ⟨_, _, rfl, ok.nx _ S1 m1 _ _ H1 h ((r.put i q1 n1).put j (q2.ers i (isLoc_no n2)) n2) ((g.trans (Grow.ers i)).trans (Grow.ers j))⟩
/-- a, b, c = x, y, z -/
def dPar3 (i j l : Nat) (ta : dTA) : dTS := fun E ρ S => ta ρ S fun ds S1 => match ds with
  | [d, e, f] => nl d (nl e (nl f (E.nx (((ρ.set i (.val d)).set j (.val e)).set l (.val f)) S1)))
  | _ => False
theorem ds_par3 {i j l : Nat} {x y z : Str} {a b c : Expr} {ta : dTA} {px py pz pt : Pos} {kt k2 pt2} {pos : Pos} (hc : X.calm = true) (hN : X.N.Nodup) (hi : X.N[i]? = some x) (hj : X.N[j]? = some y) (hl : X.N[l]? = some z) (hij : i ≠ j) (hil : i ≠ l) (hjl : j ≠ l)
    (hx : X.env.scope.names.lookup x = some .local) (hy : X.env.scope.names.lookup y = some .local) (hz : X.env.scope.names.lookup z = some .local) (ha : DA X [a, b, c] ta)
    (hw : swappedStores [.Tuple [.Name x px, .Name y py, .Name z pz] kt pt] (.Tuple [a, b, c] k2 pt2) X.env = pure (some [x, y, z]) := by rfl)
    (hs : swapsWithSole [.Tuple [.Name x px, .Name y py, .Name z pz] kt pt] (.Tuple [a, b, c] k2 pt2) pos.line X.env = pure false := by rfl) :
    DS X (.Assign [.Tuple [.Name x px, .Name y py, .Name z pz] kt pt] (.Tuple [a, b, c] k2 pt2) pos) (dPar3 i j l ta) := PS.imp (ps_par3 hc hN hi hj hl hij hil hjl hx hy hz ha hw hs) fun E σ H q => by
  obtain ⟨F, m, o, ρ, S, E', rel, t, ok⟩ := q
  refine ⟨F, m, o, ρ, S, _, rel, t, fun ds S1 m1 H1 vs h r g q => ?_⟩
  match ds, h with
  | [d, e, f], h =>
    cases q with
    | cons q1 q =>
      cases q with
      | cons q2 q =>
        cases q with
        | cons q3 q =>
          cases q
          obtain ⟨n1, h⟩ := nl_of h
          obtain ⟨n2, h⟩ := nl_of h
          obtain ⟨n3, h⟩ := nl_of h
          exact ⟨_, _, _, rfl, ok.nx _ S1 m1 _ _ H1 h (((r.put i q1 n1).put j (q2.ers i (isLoc_no n2)) n2).put l ((q3.ers i (isLoc_no n3)).ers j (isLoc_no n3)) n3) (((g.trans (Grow.ers i)).trans (Grow.ers j)).trans (Grow.ers l))⟩
end
end L3

set_option maxHeartbeats 4000000
namespace L3
open PySem PySem.Spec L2

/-! ### x op= e -/
def dAug (i : Nat) (f : F2) (te : dTE) : dTS := fun E ρ S => match ρ[i]? with
  | some (.val (.d x)) => te ρ S fun e S1 => f x (view ρ S1 e) fun z => E.nx (ρ.set i (.val (.d z))) S1
  | _ => False
def fIAdd : F2 := fun x y k => match x, y with
  | .int i, .int j => k (.int (i + j))
  | .str a, .str b => a.length + b.length ≤ sizeLine ∧ k (.str (a ++ b))
  | _, _ => False
section
variable {X : Cx}
theorem ds_aug {i : Nat} {x : Str} {e : Expr} {te : dTE} {op : Operator} {f : F2} {pos pos' : Pos} (ho : ∃ r, PIp X op r ∧ OpD X.K r f) (hN : X.N.Nodup) (hi : X.N[i]? = some x) (hx : Loc X.env.scope x) (he : DE X e te) (hf : X.fn x = true ∨ X.env.scope.names.lookup x = some .local) :
    DS X (.AugAssign (.Name x pos') op e pos) (dAug i f te) := by
  obtain ⟨r, h1, h2⟩ := ho
  refine PS.imp (ps_aug hN hi hx he h1 hf) fun E σ H q => ?_
  obtain ⟨F, m, o, ρ, S, E', rel, t, ok⟩ := q
  unfold dAug at t
  cases e1 : ρ[i]? with
  | none => rw [e1] at t; exact t.elim
  | some s =>
    rw [e1] at t
    have hs := rel.sl i s e1
    match s, t, hs with
    | .val (.d y), t, hs =>
      obtain ⟨_, v, h3, h4⟩ := hs
      refine ⟨v, h3, F, m, o, ρ, S, _, rel, t, fun d S1 m1 H1 w h r1 g q => ?_⟩
      refine h2 (Mu F m1 o) H1 v w _ _ _ _ r1.st.alive (.d (Rp.sub g.z h4)) (r1.view q) h fun z u H' kz s dz => ?_
      have r2 := r1.sub s
      exact ok.nx _ S1 m1 _ _ H' kz (r2.put (d := .d z) i dz rfl) ((g.trans (Grow.sub r1 s)).trans (Grow.ers i))
theorem p_iadd : ∃ r, PIp X .Add r ∧ OpD X.K r fIAdd := by
  refine ⟨_, (show OpR X (inplaceOp .Add) _ from iop_add.or iop_add_str), fun M H x y dx dy k Q al rx ry h fin => ?_⟩
  unfold fIAdd at h
  split at h
  · exact .inl ⟨_, _, rx.int, ry.int, fin _ _ _ h (Sub.refl _) (.int _)⟩
  · exact .inr ⟨_, _, rx.str, ry.str, h.1, fin _ _ _ h.2 (Sub.refl _) (.str _)⟩
  · exact h.elim
theorem p_isub : ∃ r, PIp X .Sub r ∧ OpD X.K r fSub := by
  refine ⟨_, (show OpR X (inplaceOp .Sub) _ from iop_sub), fun M H x y dx dy k Q al rx ry h fin => ?_⟩
  unfold fSub at h
  split at h
  · exact ⟨_, _, rx.int, ry.int, fin _ _ _ h (Sub.refl _) (.int _)⟩
  · exact h.elim

/-! ### while -/
def dWhile (c : dTT) (b : dTS) : dTS := fun E ρ S => ∃ W : Nat → Env3 → Sto → Prop, (∃ n, W n ρ S) ∧ ∀ n ρ S, W n ρ S →
  c ρ S fun t S1 => Br t (b { E with nx := fun ρ' S' => ∃ k, k < n ∧ W k ρ' S', ct := fun ρ' S' => ∃ k, k < n ∧ W k ρ' S', bk := E.nx } ρ S1) (E.nx ρ S1)
theorem ds_while {c : Expr} {body : List Stmt} {tc : dTT} {tb : dTS} {pos : Pos} (hp : PassesOwn (model X.prog X.w) X.A X.env X.xe) (hc : DT X c tc) (hb : DSs X body tb) : DS X (.While c body [] pos) (dWhile tc tb) :=
  PS.imp (ps_while hp hc hb) fun E σ H q => by
    obtain ⟨F, m, o, ρ, S, E', rel, ⟨W, ⟨n, w0⟩, hw⟩, ok⟩ := q
    refine ⟨fun n σ1 H1 => ∃ m1 o1 ρ1 S1, Rel X.K F m1 o1 ρ1 S1 σ1 H1 ∧ Grow F m o H m1 o1 H1 ∧ W n ρ1 S1, ⟨n, m, o, ρ, S, rel, Grow.refl, w0⟩, fun n σ1 H1 hW => ?_⟩
    obtain ⟨m1, o1, ρ1, S1, r1, g1, w1⟩ := hW
    refine ⟨F, m1, o1, ρ1, S1, _, r1, hw n ρ1 S1 w1, fun t S2 m2 H2 h r2 g2 => ?_⟩
    have ok2 := ok.grow (g1.trans g2)
    cases t with
    | true =>
      refine iteT ⟨fun σ' H' => ∃ k, k < n ∧ ∃ m3 o3 ρ3 S3, Rel X.K F m3 o3 ρ3 S3 σ' H' ∧ Grow F m o H m3 o3 H' ∧ W k ρ3 S3, fun σ' H' hN => hN, ?_⟩
      refine ⟨F, m2, o1, ρ1, S2, _, r2, h.eT, ⟨fun ρ' S' m' o' σ' H' hh r' g' => ?_, ok2.nx, fun ρ' S' m' o' σ' H' hh r' g' => ?_, ok2.rt⟩⟩
      · obtain ⟨k, hk, hW⟩ := hh
        exact ⟨k, hk, m', o', ρ', S', r', (g1.trans g2).trans g', hW⟩
      · obtain ⟨k, hk, hW⟩ := hh
        exact ⟨k, hk, m', o', ρ', S', r', (g1.trans g2).trans g', hW⟩
    | false => exact iteF (ok2.nx _ _ _ _ _ _ h.eF r2 Grow.refl)

/-! ### what is walked -/
structure Src where
  xs : List D
  ok : Env3 → Sto → Prop
abbrev dTI := Env3 → Sto → (Src → Sto → Prop) → Prop
structure Goes (K : PySem.W.Frag) (F : Addr → Prop) (m o : Nat → Option Addr) (H : Hp) (J : It) (src : Src) : Prop where
  go : ∀ (i : Nat) F1 m1 o1 ρ1 S1 σ1 H1, Rel K F1 m1 o1 ρ1 S1 σ1 H1 → Sub (Fz H (Mu F m o)) (Fz H1 (Mu F1 m1 o1)) → (∀ n a, m n = some a → m1 n = some a) → src.ok ρ1 S1 → ∀ x, src.xs[i]? = some x → J.go i H1 ∧ ∀ v H2, J.yld i H1 v H2 → Sub H1 H2 ∧ Rp K (Fz H2 (Mu F1 m1 o1)) v x
  stop : ∀ (i : Nat) F1 m1 o1 ρ1 S1 σ1 H1, Rel K F1 m1 o1 ρ1 S1 σ1 H1 → Sub (Fz H (Mu F m o)) (Fz H1 (Mu F1 m1 o1)) → (∀ n a, m n = some a → m1 n = some a) → src.ok ρ1 S1 → src.xs.length = i → J.stop i H1
def liftI (K : PySem.W.Frag) (t : dTI) : TI := fun σ H R => ∃ F m o ρ S k, Rel K F m o ρ S σ H ∧ t ρ S k ∧
  ∀ src S' m' H' J, k src S' → Rel K F m' o ρ S' σ H' → Grow F m o H m' o H' → Goes K F m' o H' J src → R J H'
abbrev DI (X : Cx) (tg e : Expr) (t : dTI) : Prop := PI X tg e (liftI X.K t)
theorem PI.imp {tg e : Expr} {t t' : TI} (h : PI X tg e t) (i : ∀ σ H Q, t' σ H Q → t σ H Q) : PI X tg e t' := ⟨fun pins s σ H Q I q => h.run pins s σ H Q I (i σ H Q q)⟩
/-- a list, a tuple, a text -/
def iAny (K : PySem.W.Frag) (tl : TE) : TI := fun σ H R => tl σ H fun x H1 => (∃ a, x = .ref a ∧ (∃ xs, SqL K H1 a xs) ∧ R (Itl K a) H1) ∨ (∃ a, x = .ref a ∧ (∃ xs, SqT K H1 a xs) ∧ R (Itt K a) H1) ∨ ∃ z, x = .str z ∧ R (Its z) H1
theorem pi_any {tg l : Expr} {tl : TE} (hl : PE X l tl) : PI X tg l (iAny X.K tl) := by
  refine ⟨fun pins s σ H R I h => ?_⟩
  refine thn (hl.run pins s σ H _ I h) fun v s1 ⟨x, H1, I1, r1, q1⟩ => ?_
  rcases q1 with ⟨a, e, ⟨xs, hq⟩, q⟩ | ⟨a, e, ⟨xs, hq⟩, q⟩ | ⟨z, e, q⟩
  · subst e
    cases r1
    obtain ⟨its, rv, p, hz⟩ := I1.list hq
    refine wpAny_pyIter_list p.isList ?_
    refine ⟨s1.heap.objs.size, [s1.heap.objs.size], _, _, H1, rfl, I1.kept (t' := s1.toks) fun b o e => Heap.get?_push_of_some _ e, turn_list a _, ⟨_, Heap.get?_push_size _ rfl, rfl, rfl⟩, fun b hb => ?_, q⟩
    have e : b = s1.heap.objs.size := by simpa using hb
    subst e
    exact I1.fpOk (Nat.le_refl _) (I1.hok.fresh (Nat.le_refl _))
  · subst e
    cases r1
    obtain ⟨its, rv, p, hz⟩ := I1.tuple hq
    refine wpAny_pyIter_tuple (show s1.heap.IsTuple a its.toArray from p) ?_
    refine ⟨s1.heap.objs.size, [s1.heap.objs.size], _, _, H1, rfl, I1.kept (t' := s1.toks) fun b o e => Heap.get?_push_of_some _ e, turn_tuple a _, ⟨_, Heap.get?_push_size _ rfl, rfl, rfl⟩, fun b hb => ?_, q⟩
    have e : b = s1.heap.objs.size := by simpa using hb
    subst e
    exact I1.fpOk (Nat.le_refl _) (I1.hok.fresh (Nat.le_refl _))
  · subst e
    obtain ⟨t, rfl⟩ := r1
    cases ha : z.cps.all (· < 128)
    · exact wpAny_pyIter_wide ha (pi_one (tk := s1.toks) I1 _ (turn_str _ z t "str_iterator" (.inr rfl)) ⟨_, Heap.get?_push_size _ rfl, rfl, rfl⟩ q)
    · exact wpAny_pyIter_ascii ha (pi_one (tk := s1.toks) I1 _ (turn_str _ z t "str_ascii_iterator" (.inl rfl)) ⟨_, Heap.get?_push_size _ rfl, rfl, rfl⟩ q)
/-- the signs of a text -/
def signs (z : Str) : List D := z.cps.toList.map fun c => .str ⟨#[c]⟩
def dItV (te : dTE) : dTI := fun ρ S K => te ρ S fun d S1 => nl d (match view ρ S1 d with
  | .list xs => K ⟨xs, fun ρ' S' => view ρ' S' d = .list xs⟩ S1
  | .tuple xs => K ⟨xs, fun _ _ => True⟩ S1
  | .str z => K ⟨signs z, fun _ _ => True⟩ S1
  | _ => False)
theorem sqL_inj {K : PySem.W.Frag} {H : Hp} {a : Addr} {vs ws : List V} (h : H a = some (.lst vs)) (hk : K.lookup a = none) (h' : SqL K H a ws) : ws = vs := by
  rcases h' with (h' | ⟨o, h'⟩) | ⟨o, its, n, h', _⟩
  · rw [h] at h'; cases h'; rfl
  · rw [h] at h'; cases h'
  · rw [hk] at h'; cases h'
/-- the source stands as the same data -/
theorem src_list {K : PySem.W.Frag} {F F2 : Addr → Prop} {m o m2 o2 : Nat → Option Addr} {ρ2 : Env3} {S1 S2 : Sto} {ρ : Env3} {σ2 : L2.St} {H1 H2 : Hp} {v : V} {d : DV} {xs : List D} (q : DRep K F m o H1 v d) (nd : isLoc d = false) (hz : view ρ S1 d = .list xs)
    (r2 : Rel K F2 m2 o2 ρ2 S2 σ2 H2) (gz : Sub (Fz H1 (Mu F m o)) (Fz H2 (Mu F2 m2 o2))) (gm : ∀ n a, m n = some a → m2 n = some a) (okk : view ρ2 S2 d = .list xs) : ∃ a vs, v = .ref a ∧ SqL K H2 a vs ∧ H2 a = some (.lst vs) ∧ RpAll K (Fz H2 (Mu F2 m2 o2)) vs xs := by
  cases d with
  | d y =>
    have : y = .list xs := hz
    subst this
    exact VRep.list' (.d (Rp.sub gz q))
  | ref n =>
    have z := r2.view (v := v) (d := .ref n) (let ⟨b, e1, e2⟩ := q; ⟨b, gm n b e1, e2⟩)
    rw [okk] at z
    exact z.list'
  | loc j => cases nd
theorem di_any {tg l : Expr} {te : dTE} (hl : DE X l te) : DI X tg l (dItV te) := PI.imp (pi_any hl) fun σ H R q => by
  obtain ⟨F, m, o, ρ, S, k, rel, t, hk⟩ := q
  refine ⟨F, m, o, ρ, S, _, rel, t, fun d S1 m1 H1 v h r g q => ?_⟩
  have rv := r.view q
  obtain ⟨nd, h⟩ := nl_of h
  split at h
  · rename_i xs hz
    rw [hz] at rv
    obtain ⟨a, vs, rfl, h1, h1', h2⟩ := rv.list'
    refine .inl ⟨a, rfl, ⟨vs, h1⟩, hk _ S1 m1 H1 _ h r g ⟨fun i F2 m2 o2 ρ2 S2 σ2 H2 r2 gz gm okk x hx => ?_, fun i F2 m2 o2 ρ2 S2 σ2 H2 r2 gz gm okk hx => ?_⟩⟩
    · obtain ⟨b, ws, e, h3, h3', h4⟩ := src_list q nd hz r2 gz gm okk
      cases e
      obtain ⟨w, e1, e2⟩ := RpAll.get h4 hx
      refine ⟨⟨ws, w, h3, e1⟩, fun u H3 hy => ?_⟩
      obtain ⟨rfl, hy⟩ := hy
      have := (hy ws h3).symm.trans e1
      cases this
      exact ⟨Sub.refl _, e2⟩
    · obtain ⟨b, ws, e, h3, h3', h4⟩ := src_list q nd hz r2 gz gm okk
      cases e
      exact ⟨ws, h3, by rw [RpAll.length h4]; exact Nat.le_of_eq hx⟩
  · rename_i xs hz
    rw [hz] at rv
    cases d with
    | d y =>
      have : y = .tuple xs := hz
      subst this
      obtain ⟨a, vs, rfl, h1, h1', hn, h2⟩ := rv.tup'
      refine .inr (.inl ⟨a, rfl, ⟨vs, h1⟩, hk _ S1 m1 H1 _ h r g ⟨fun i F2 m2 o2 ρ2 S2 σ2 H2 r2 gz gm okk x hx => ?_, fun i F2 m2 o2 ρ2 S2 σ2 H2 r2 gz gm okk hx => ?_⟩⟩)
      · obtain ⟨b, ws, e, h3, h3', _, h4⟩ := VRep.tup' (.d (Rp.sub gz q) : VRep X.K H2 (Fz H2 (Mu F2 m2 o2)) (.ref a) (.tuple xs))
        cases e
        obtain ⟨w, e1, e2⟩ := RpAll.get h4 hx
        refine ⟨⟨ws, w, h3, e1⟩, fun u H3 hy => ?_⟩
        obtain ⟨rfl, hy⟩ := hy
        have := (hy ws h3).symm.trans e1
        cases this
        exact ⟨Sub.refl _, e2⟩
      · obtain ⟨b, ws, e, h3, h3', _, h4⟩ := VRep.tup' (.d (Rp.sub gz q) : VRep X.K H2 (Fz H2 (Mu F2 m2 o2)) (.ref a) (.tuple xs))
        cases e
        exact ⟨ws, h3, by rw [RpAll.length h4]; exact Nat.le_of_eq hx⟩
    | ref n =>
      have : ∀ c, cellD c ≠ .tuple xs := fun c e => by cases c <;> cases e
      exfalso
      unfold view at hz
      cases e : S1[n]? with
      | none => simp [e] at hz
      | some c => simp [e] at hz; exact this c hz
    | loc j => cases nd
  · rename_i z hz
    rw [hz] at rv
    refine .inr (.inr ⟨z, rv.str, hk _ S1 m1 H1 _ h r g ⟨fun i F2 m2 o2 ρ2 S2 σ2 H2 r2 gz gm okk x hx => ?_, fun i F2 m2 o2 ρ2 S2 σ2 H2 r2 gz gm okk hx => ?_⟩⟩)
    · have hx : (signs z)[i]? = some x := hx
      unfold signs at hx
      rw [List.getElem?_map] at hx
      cases e : z.cps.toList[i]? with
      | none => rw [e] at hx; cases hx
      | some c =>
        rw [e] at hx
        cases hx
        have hi : i < z.cps.size := by
          have := (List.getElem?_eq_some_iff.mp e).1
          rwa [Array.length_toList] at this
        refine ⟨hi, fun u H3 hy => ?_⟩
        obtain ⟨rfl, c', e1, rfl⟩ := hy
        rw [← Array.getElem?_toList, e] at e1
        cases e1
        exact ⟨Sub.refl _, .str _⟩
    · have hx : (signs z).length = i := hx
      unfold signs at hx
      rw [List.length_map, Array.length_toList] at hx
      exact Nat.le_of_eq hx
  · exact h.elim
/-- lo, lo + 1, .. : n of them -/
def rng (lo : Int) (n : Nat) : List D := (List.range n).map fun i => .int (lo + (i : Nat))
theorem rng_len (lo : Int) (n : Nat) : (rng lo n).length = n := by unfold rng; rw [List.length_map, List.length_range]
theorem rng_get {lo : Int} {n i : Nat} {x : D} (h : (rng lo n)[i]? = some x) : i < n ∧ x = .int (lo + (i : Nat)) := by
  unfold rng at h
  rw [List.getElem?_map] at h
  cases e : (List.range n)[i]? with
  | none => rw [e] at h; cases h
  | some j =>
    rw [e] at h
    cases h
    obtain ⟨h1, h2⟩ := List.getElem?_eq_some_iff.mp e
    rw [List.getElem_range] at h2
    subst h2
    exact ⟨by rwa [List.length_range] at h1, rfl⟩
theorem goes_rng {K : PySem.W.Frag} {F : Addr → Prop} {m o : Nat → Option Addr} {H : Hp} (lo : Int) (n : Nat) : Goes K F m o H (Itr lo n) ⟨rng lo n, fun _ _ => True⟩ where
  go := fun i F2 m2 o2 ρ2 S2 σ2 H2 r2 gz gm okk x hx => by
    obtain ⟨h1, rfl⟩ := rng_get hx
    exact ⟨h1, fun v H3 hy => by obtain ⟨rfl, rfl⟩ := hy; exact ⟨Sub.refl _, .int _⟩⟩
  stop := fun i F2 m2 o2 ρ2 S2 σ2 H2 r2 gz gm okk hx => by
    have hx : (rng lo n).length = i := hx
    rw [rng_len] at hx
    exact Nat.le_of_eq hx
def small62 (i : Int) : Prop := -(2 ^ 62) ≤ i ∧ i < 2 ^ 62
def dRng1 (ta : dTA) : dTI := fun ρ S K => ta ρ S fun ds S1 => match ds with
  | [.d (.int j)] => small62 j ∧ K ⟨rng 0 j.toNat, fun _ _ => True⟩ S1
  | _ => False
def dRng2 (ta : dTA) : dTI := fun ρ S K => ta ρ S fun ds S1 => match ds with
  | [.d (.int i), .d (.int j)] => small62 i ∧ small62 j ∧ K ⟨rng i (j - i).toNat, fun _ _ => True⟩ S1
  | _ => False
theorem di_rng1 {tg a : Expr} {ta : dTA} {p pos : Pos} (hm : X.mg "range" = none) (hg : Gl X "range") (ha : DA X [a] ta) (hs : starEach [a] X.env = [(false, eval a X.env)] := by rfl) : DI X tg (.Call (.Name "range" p) [a] [] pos) (dRng1 ta) :=
  PI.imp (pi_range1 hg hm ha hs) fun σ H R q => by
    obtain ⟨F, m, o, ρ, S, k, rel, t, hk⟩ := q
    refine ⟨F, m, o, ρ, S, _, rel, t, fun ds S1 m1 H1 vs h r g q => ?_⟩
    split at h
    · cases q with
      | cons q1 q =>
        cases q
        exact ⟨_, by rw [dp_int q1], h.1.1, h.1.2, hk _ S1 m1 H1 _ h.2 r g (goes_rng 0 _)⟩
    · exact h.elim
theorem di_rng2 {tg a b : Expr} {ta : dTA} {p pos : Pos} (hm : X.mg "range" = none) (hg : Gl X "range") (ha : DA X [a, b] ta) (hs : starEach [a, b] X.env = [(false, eval a X.env), (false, eval b X.env)] := by rfl) (hs2 : starEach [b] X.env = [(false, eval b X.env)] := by rfl) : DI X tg (.Call (.Name "range" p) [a, b] [] pos) (dRng2 ta) :=
  PI.imp (pi_range2 hg hm ha hs hs2) fun σ H R q => by
    obtain ⟨F, m, o, ρ, S, k, rel, t, hk⟩ := q
    refine ⟨F, m, o, ρ, S, _, rel, t, fun ds S1 m1 H1 vs h r g q => ?_⟩
    split at h
    · cases q with
      | cons q1 q =>
        cases q with
        | cons q2 q =>
          cases q
          exact ⟨_, _, by rw [dp_int q1, dp_int q2], ⟨h.1.1, h.1.2, h.2.1.1, h.2.1.2⟩, hk _ S1 m1 H1 _ h.2.2 r g (goes_rng _ _)⟩
    · exact h.elim

/-! ### for -/
def dLoop (ok : Env3 → Sto → Prop) (g : dTG) (b : dTS) (E : dEnds) : List D → Env3 → Sto → Prop
  | [], ρ, S => ok ρ S ∧ E.nx ρ S
  | x :: xs, ρ, S => ok ρ S ∧ g x ρ S fun ρ1 S1 => b { E with nx := dLoop ok g b E xs, ct := dLoop ok g b E xs, bk := E.nx } ρ1 S1
/-- a for not yet unrolled -/
@[irreducible] def dLp (ok : Env3 → Sto → Prop) (g : dTG) (b : dTS) (E : dEnds) (xs : List D) (ρ : Env3) (S : Sto) : Prop := dLoop ok g b E xs ρ S
theorem dLp_of {ok : Env3 → Sto → Prop} {g : dTG} {b : dTS} {E : dEnds} {xs : List D} {ρ : Env3} {S : Sto} (h : dLoop ok g b E xs ρ S) : dLp ok g b E xs ρ S := by
  unfold dLp
  exact h
theorem dLp_to {ok : Env3 → Sto → Prop} {g : dTG} {b : dTS} {E : dEnds} {xs : List D} {ρ : Env3} {S : Sto} (h : dLp ok g b E xs ρ S) : dLoop ok g b E xs ρ S := by
  unfold dLp at h
  exact h
def dFor (it : dTI) (g : dTG) (b : dTS) : dTS := fun E ρ S => it ρ S fun src S1 => dLp src.ok g b E src.xs ρ S1
theorem ds_for {tg iter : Expr} {body : List Stmt} {it : dTI} {g : dTG} {tb : dTS} {vs : List Nat} {pos : Pos} (hp : PassesOwn (model X.prog X.w) X.A X.env X.xe) (hc : X.calm = true) (hg : DG X vs tg g) (hi : DI X tg iter it) (hb : DSs X body tb)
    (hs : ∀ x, foldedSetIterable iter X.env x = pure x := by intro _; rfl) : DS X (.For tg iter body [] pos) (dFor it g tb) :=
  PS.imp (ps_for hp hc hi hg.pg hb hs) fun E σ H q => by
    obtain ⟨F, m, o, ρ, S, E', rel, t, ok⟩ := q
    refine ⟨F, m, o, ρ, S, _, rel, t, fun src S1 m1 H1 J h r g1 go => ?_⟩
    refine ⟨fun i n σ2 H2 => n + i = src.xs.length ∧ ∃ m2 o2 ρ2 S2, Rel X.K F m2 o2 ρ2 S2 σ2 H2 ∧ Grow F m1 o H1 m2 o2 H2 ∧ dLoop src.ok g tb E' (src.xs.drop i) ρ2 S2, ⟨_, Nat.add_zero _, m1, o, ρ, S1, r, Grow.refl, dLp_to h⟩, fun i n σ2 H2 hW => ?_⟩
    obtain ⟨hn, m2, o2, ρ2, S2, r2, g2, h2⟩ := hW
    by_cases hi : i < src.xs.length
    · rw [List.drop_eq_getElem_cons hi] at h2
      obtain ⟨okk, h3⟩ := h2
      obtain ⟨j1, j2⟩ := go.go i F m2 o2 ρ2 S2 σ2 H2 r2 g2.z g2.m okk _ (List.getElem?_eq_getElem hi)
      refine .inr ⟨j1, fun σ' H' => ∃ m3 o3 ρ3 S3, Rel X.K F m3 o3 ρ3 S3 σ' H' ∧ Grow F m1 o H1 m3 o3 H' ∧ dLoop src.ok g tb E' (src.xs.drop (i + 1)) ρ3 S3, fun σ' H' hN => ⟨n - 1, by omega, by omega, hN⟩, fun x H3 hy => ?_⟩
      obtain ⟨s3, dp⟩ := j2 x H3 hy
      refine ⟨F, m2, o2, ρ2, S2, _, _, r2.sub s3, dp, h3, fun ρ4 S4 m4 o4 σ4 H4 h4 r4 g4 _ _ => ?_⟩
      have gg := (g2.trans (Grow.sub r2 s3)).trans g4
      have ok4 := (ok.grow g1).grow gg
      exact ⟨F, m4, o4, ρ4, S4, _, r4, h4, ⟨fun ρ' S' m' o' σ' H' hh r' g' => ⟨m', o', ρ', S', r', gg.trans g', hh⟩, ok4.nx, fun ρ' S' m' o' σ' H' hh r' g' => ⟨m', o', ρ', S', r', gg.trans g', hh⟩, ok4.rt⟩⟩
    · rw [List.drop_eq_nil_of_le (by omega)] at h2
      obtain ⟨okk, h3⟩ := h2
      exact .inl ⟨go.stop i F m2 o2 ρ2 S2 σ2 H2 r2 g2.z g2.m okk (by omega), (ok.grow g1).nx ρ2 S2 m2 o2 σ2 H2 h3 r2 g2⟩
end
end L3

set_option maxHeartbeats 4000000
namespace L3
open PySem PySem.Spec L2

/-! ### defs and their calls -/
abbrev dFn := List DV → Sto → DK → Prop
def o0 : Nat → Option Addr := fun _ => none
def noLocs : List DV → Bool
  | [] => true
  | .loc _ :: _ => false
  | _ :: r => noLocs r
/-- n values that may be kept -/
def nls : Nat → List DV → Prop → Prop
  | 0, [], k => k
  | n + 1, .d _ :: r, k => nls n r k
  | n + 1, .ref _ :: r, k => nls n r k
  | _, _, _ => False
theorem nls_of : ∀ {n : Nat} {ds : List DV} {k : Prop}, nls n ds k → ds.length = n ∧ noLocs ds = true ∧ k
  | 0, [], _, h => ⟨rfl, rfl, h⟩
  | 0, _ :: _, _, h => by simp [nls] at h
  | n + 1, [], _, h => by simp [nls] at h
  | n + 1, .d _ :: r, _, h => by
    obtain ⟨h1, h2, h3⟩ := nls_of (n := n) (ds := r) (by simpa [nls] using h)
    exact ⟨by rw [List.length_cons, h1], h2, h3⟩
  | n + 1, .ref _ :: r, _, h => by
    obtain ⟨h1, h2, h3⟩ := nls_of (n := n) (ds := r) (by simpa [nls] using h)
    exact ⟨by rw [List.length_cons, h1], h2, h3⟩
  | n + 1, .loc _ :: _, _, h => by simp [nls] at h
/-- the promise of a def, by data -/
def spD (K : PySem.W.Frag) (n : Nat) (tf : dFn) : Sp := fun vs H Q _ => vs.length = n ∧ ∃ F m S ds k, Stor K F m o0 S H ∧ DReps K F m o0 H vs ds ∧ noLocs ds = true ∧ tf ds S k ∧
  ∀ d S' m' H' v, k d S' → isLoc d = false → Stor K F m' o0 S' H' → Grow F m o0 H m' o0 H' → DRep K F m' o0 H' v d → Q v H'
/-- a body as a def -/
def fnT (n : Nat) (t : dTS) : dFn := fun ds S Q => t { nx := fun _ S' => Q (.d .none) S', rt := fun d S' => nl d (Q d S') } (ds.map .val ++ List.replicate (n - ds.length) .no) S
theorem DReps.length {K : PySem.W.Frag} {F : Addr → Prop} {m o : Nat → Option Addr} {H : Hp} {vs : List V} {ds : List DV} (h : DReps K F m o H vs ds) : vs.length = ds.length := Paired.length h
theorem DReps.get {K : PySem.W.Frag} {F : Addr → Prop} {m o : Nat → Option Addr} {H : Hp} : ∀ {vs : List V} {ds : List DV} {i : Nat} {d : DV}, DReps K F m o H vs ds → ds[i]? = some d → ∃ v, vs[i]? = some v ∧ DRep K F m o H v d
  | _, _, _, _, .nil, e => by simp at e
  | _, _, 0, _, .cons h _, e => by simp at e; subst e; exact ⟨_, rfl, h⟩
  | _, _, i + 1, d, .cons _ r, e => by
    obtain ⟨v, h1, h2⟩ := DReps.get (i := i) (d := d) r (by simpa using e)
    exact ⟨v, by simpa using h1, h2⟩
theorem noLocs_get : ∀ {ds : List DV} {i : Nat} {d : DV}, noLocs ds = true → ds[i]? = some d → isLoc d = false
  | [], _, _, _, e => by simp at e
  | .d x :: r, 0, _, h, e => by simp at e; subst e; rfl
  | .ref x :: r, 0, _, h, e => by simp at e; subst e; rfl
  | .loc x :: r, _, _, h, e => by cases h
  | .d x :: r, i + 1, d, h, e => noLocs_get (ds := r) h (by simpa using e)
  | .ref x :: r, i + 1, d, h, e => noLocs_get (ds := r) h (by simpa using e)
/-- the state at a def's entry -/
theorem rel_start {K : PySem.W.Frag} {F : Addr → Prop} {m : Nat → Option Addr} {S : Sto} {H : Hp} {N : List Str} {vs : List V} {ds : List DV} (st : Stor K F m o0 S H) (r : DReps K F m o0 H vs ds) (n : noLocs ds = true) (hl : vs.length ≤ N.length) :
    Rel K F m o0 (ds.map .val ++ List.replicate (N.length - ds.length) .no) S (L2.start N vs) H := by
  have e := r.length
  refine ⟨st, ?_, fun i s h => ?_, fun i h => rfl⟩
  · unfold L2.start
    rw [List.length_append, List.length_append, List.length_map, List.length_map, List.length_replicate, List.length_replicate, e]
  · by_cases hi : i < ds.length
    · rw [List.getElem?_append_left (by rw [List.length_map]; exact hi), List.getElem?_map] at h
      rw [List.getElem?_eq_getElem hi] at h
      cases h
      have hd := List.getElem?_eq_getElem hi
      obtain ⟨v, h1, h2⟩ := r.get hd
      have h3 : (L2.start N vs)[i]? = some (some v) := by
        unfold L2.start
        rw [List.getElem?_append_left (by rw [List.length_map]; omega), List.getElem?_map, h1]
        rfl
      have nd := noLocs_get n hd
      cases q : ds[i] with
      | d x => rw [q] at h2; exact ⟨rfl, v, h3, h2⟩
      | ref k => rw [q] at h2; obtain ⟨a, h4, rfl⟩ := h2; exact ⟨rfl, a, h3, h4⟩
      | loc j => rw [q] at nd; cases nd
    · rw [List.getElem?_append_right (by rw [List.length_map]; omega)] at h
      have := List.getElem?_eq_some_iff.mp h
      obtain ⟨h1, h2⟩ := this
      rw [List.getElem_replicate] at h2
      subst h2
      rfl
/-- one's own things are let go -/
theorem mu_o0 {F : Addr → Prop} {m o : Nat → Option Addr} {a : Addr} (h : Mu F m o0 a) : Mu F m o a := by
  rcases h with h | h | ⟨i, h⟩
  · exact .inl h
  · exact .inr (.inl h)
  · cases h
theorem fz_o0 {F : Addr → Prop} {m o : Nat → Option Addr} {H : Hp} : Sub (Fz H (Mu F m o)) (Fz H (Mu F m o0)) := fun a u h => Fz.of (fun z => (Fz.at h).1 (mu_o0 z)) (Fz.at h).2
theorem Stor.o0 {K : PySem.W.Frag} {F : Addr → Prop} {m o : Nat → Option Addr} {S : Sto} {H : Hp} (r : Stor K F m o S H) : Stor K F m L3.o0 S H :=
  ⟨r.there, fun n a e => let ⟨c, h1, h2⟩ := r.is n a e; ⟨c, h1, h2.sub rfl fz_o0⟩, r.inj, fun n i a h z => (by cases z), r.injF, fun i j a z => (by cases z), fun i a z => (by cases z), fun a h => r.alive a (mu_o0 h)⟩
theorem fn_d {P : Program} {w : World} {K : PySem.W.Frag} {mg : Str → Option Value} {base : Heap} {x qual : Str} {st : Stmt} {f : Addr} {fd : FuncData} {N ps : List Str} {k : Nat} {t : dTS} (F : Fun K x qual st f fd) (Sc : FnScope N ps (defScope st)) (hl : ps.length ≤ N.length)
    (hb : ∀ (cdv : Value) (A : Around) (outer : List Env) (s : Shared) (H : Hp) (E : XK), Room k (A.deeper (PyProof.Rows.envOfC qual (defScope st) s.heap.objs.size f cdv)) →
      DSs (cxOf CX0 P w K mg base N qual (defScope st) f cdv A outer s H E).nox (defBody st) t) : FnOk P w K mg base CX0 (k + 1) f fd ps (spD K ps.length (fnT N.length t)) := by
  refine F.ok Sc (fun vs H Q E h => h.1) fun cdv A outer s H vs Q E hr h => ?_
  obtain ⟨hv, Fo, m, S, ds, kk, stor, reps, nlo, ht, hk⟩ := h
  refine ⟨_, hb cdv A outer s H E hr, ?_⟩
  refine ⟨Fo, m, o0, _, S, _, rel_start stor reps nlo (by omega), ht, ⟨fun ρ S' m' o' σ' H' h r g => ?_, fun _ _ _ _ _ _ h => h.elim, fun _ _ _ _ _ _ h => h.elim, fun d ρ S' m' o' σ' H' v h r g q => ?_⟩⟩
  · exact hk _ S' m' H' .non h rfl r.st.o0 ⟨g.f, g.z.trans fz_o0, g.m⟩ .non
  · obtain ⟨n, h⟩ := nl_of h
    refine hk d S' m' H' v h n r.st.o0 ⟨g.f, g.z.trans fz_o0, g.m⟩ ?_
    cases d with
    | d x => exact Rp.sub fz_o0 q
    | ref j => exact q
    | loc j => cases n
/-- a def that is never called -/
theorem fn_no {P : Program} {w : World} {K : PySem.W.Frag} {mg : Str → Option Value} {base : Heap} {f : Addr} {fd : FuncData} {ps : List Str} {k : Nat} : FnOk P w K mg base CX0 k f fd ps (spD K ps.length fun _ _ _ => False) :=
  ⟨fun _ _ _ _ h => h.1, fun A outer s H args us vs Q E hr e0 hb r h => by
    obtain ⟨_, _, _, _, _, _, _, _, _, h, _⟩ := h
    exact h.elim⟩
def dCall (n : Nat) (tf : dFn) (ta : dTA) : dTE := fun ρ S Q => ta ρ S fun ds S1 => nls n ds (tf ds S1 Q)
section
variable {X : Cx}
theorem lift_call {K : PySem.W.Frag} {n : Nat} {tf : dFn} {ta : dTA} {dvs : List V} (hd0 : dvs = []) {E : XK} {σ : L2.St} {H : Hp} {Q : VK} (q : lift K (dCall n tf ta) σ H Q) : tCall (spD K n tf) dvs E (liftA K ta) σ H Q := by
  subst hd0
  obtain ⟨F, m, o, ρ, S, k, rel, t, hk⟩ := q
  refine ⟨F, m, o, ρ, S, _, rel, t, fun ds S1 m1 H1 vs h r g q => ?_⟩
  obtain ⟨hl, nlo, h⟩ := nls_of h
  rw [List.append_nil]
  have eqM : ∀ (m' : Nat → Option Addr) a, Mu (fun a => F a ∨ ∃ i, o i = some a) m' o0 a ↔ Mu F m' o a := fun m' a => by
    constructor
    · rintro ((h | h) | h | ⟨i, h⟩)
      · exact .inl h
      · exact .inr (.inr h)
      · exact .inr (.inl h)
      · cases h
    · rintro (h | h | h)
      · exact .inl (.inl h)
      · exact .inr (.inl h)
      · exact .inl (.inr h)
  have eqS : ∀ (m' : Nat → Option Addr) (H' : Hp), Sub (Fz H' (Mu F m' o)) (Fz H' (Mu (fun a => F a ∨ ∃ i, o i = some a) m' o0)) := fun m' H' a u e => Fz.of (fun z => (Fz.at e).1 ((eqM m' a).mp z)) (Fz.at e).2
  have eqS' : ∀ (m' : Nat → Option Addr) (H' : Hp), Sub (Fz H' (Mu (fun a => F a ∨ ∃ i, o i = some a) m' o0)) (Fz H' (Mu F m' o)) := fun m' H' a u e => Fz.of (fun z => (Fz.at e).1 ((eqM m' a).mpr z)) (Fz.at e).2
  refine ⟨by rw [q.length]; exact hl, fun a => F a ∨ ∃ i, o i = some a, m1, S1, ds, k, ?_, ?_, nlo, h, fun d S2 m2 H2 v hkk nd st2 g2 q2 => ?_⟩
  · exact ⟨r.st.there, fun n a e => let ⟨c, h1, h2⟩ := r.st.is n a e; ⟨c, h1, h2.sub rfl (eqS _ _)⟩, r.st.inj, fun n i a h z => (by cases z), fun n a h z => z.elim (r.st.injF n a h) fun ⟨i, z⟩ => r.st.injO n i a h z, fun i j a z => (by cases z), fun i a z => (by cases z), fun a h => r.st.alive a ((eqM _ a).mp h)⟩
  · have go : ∀ {vs : List V} {ds : List DV}, DReps K F m1 o H1 vs ds → noLocs ds = true → DReps K (fun a => F a ∨ ∃ i, o i = some a) m1 o0 H1 vs ds := by
      intro vs ds q
      induction ds generalizing vs with
      | nil => intro _; cases q; exact .nil
      | cons d ds ih =>
        intro z
        cases q with
        | cons q1 q =>
          cases d with
          | d x => exact .cons (Rp.sub (eqS _ _) q1) (ih q z)
          | ref n => exact .cons q1 (ih q z)
          | loc i => cases z
    exact go q nlo
  · have oldO : ∀ i a, o i = some a → H2 a = H1 a := fun i a e => g2.f a (.inr ⟨i, e⟩)
    have gz : Sub (Fz H1 (Mu F m1 o)) (Fz H2 (Mu F m2 o)) := (eqS _ _).trans (g2.z.trans (eqS' _ _))
    have st3 : Stor K F m2 o S2 H2 := ⟨st2.there, fun n a e => let ⟨c, h1, h2⟩ := st2.is n a e; ⟨c, h1, h2.sub rfl (eqS' _ _)⟩, st2.inj, fun n i a h z => st2.injF n a h (.inr ⟨i, z⟩), fun n a h z => st2.injF n a h (.inl z), r.st.oo, r.st.oF, fun a h => st2.alive a ((eqM _ a).mpr h)⟩
    refine hk d S2 m2 H2 v hkk ⟨st3, r.len, fun i s e => ?_, r.far⟩ (g.trans ⟨fun a z => g2.f a (.inl z), gz, g2.m⟩) ?_
    · have hs := r.sl i s e
      cases s with
      | no => exact hs
      | val w =>
        cases w with
        | d x => obtain ⟨h0, v, h1, h2⟩ := hs; exact ⟨h0, v, h1, Rp.sub gz h2⟩
        | ref j => obtain ⟨h0, a, h1, h2⟩ := hs; exact ⟨h0, a, h1, g2.m j a h2⟩
        | loc j => exact hs
      | own c => obtain ⟨a, h0, h1, h2⟩ := hs; exact ⟨a, h0, h1, h2.sub (oldO i a h0) gz⟩
    · cases d with
      | d x => exact Rp.sub (eqS' _ _) q2
      | ref j => exact q2
      | loc j => cases nd
theorem de_call {n : Nat} {tf : dFn} {tas : dTA} {k : Nat} {f : Addr} {fd : FuncData} {ps : List Str} {x : Str} {p pos : Pos} {e : Expr} {es : List Expr} (F : FnOk X.prog X.w X.K X.mg X.base CX0 k f fd ps (spD X.K n tf)) (hr : Room k X.A) (hm : X.mg x = some (.ref f)) (hk : PySem.W.keepIn X.K (.ref f) = true) (hb : Binds X.K fd ps []) (hg : Gl X x) (ha : DA X (e :: es) tas)
    (hdb : (x == ("__debug__" : Str)) = false := by decide) (he : starEach (e :: es) X.env = (false, eval e X.env) :: starEach es X.env := by rfl) (hpl : (backTo pos (starEach es X.env)).any (·.1) = false := by rfl) :
    DE X (.Call (.Name x p) (e :: es) [] pos) (dCall n tf tas) := PE.imp (pe_call F hr hg hm hk hb .nil (pass0 (X := X)) ha hdb he hpl) fun _ _ _ => lift_call rfl
theorem de_call0 {tf : dFn} {k : Nat} {f : Addr} {fd : FuncData} {ps : List Str} {x : Str} {p pos : Pos} (F : FnOk X.prog X.w X.K X.mg X.base CX0 k f fd ps (spD X.K 0 tf)) (hr : Room k X.A) (hm : X.mg x = some (.ref f)) (hk : PySem.W.keepIn X.K (.ref f) = true) (hb : Binds X.K fd ps []) (hg : Gl X x)
    (hdb : (x == ("__debug__" : Str)) = false := by decide) : DE X (.Call (.Name x p) [] [] pos) (dCall 0 tf dNil) :=
  PE.imp (pe_call0 F hr hg hm hk hb .nil (pass0 (X := X)) hdb) fun σ H Q q => by
    have h := lift_call (dvs := []) (E := E0) rfl q
    obtain ⟨F, m, o, ρ, S, k, rel, t, hk⟩ := h
    exact hk [] S m H [] t rel Grow.refl .nil
end
end L3

set_option maxHeartbeats 4000000
namespace L3
open PySem PySem.Spec L2

/-! ### list comprehensions -/
abbrev DTs (X : Cx) (ifs : List Expr) (t : dTT) : Prop := PTs X ifs (liftT X.K t)
def dYes : dTT := fun _ S Q => Q true S
def cLoop (ok : Env3 → Sto → Prop) (g : dTG) (tt : dTT) (te : dTE) (ρ : Env3) (Q : List D → Sto → Prop) : List D → List D → Sto → Prop
  | [], acc, S => ok ρ S ∧ Q acc S
  | x :: xs, acc, S => ok ρ S ∧ g x ρ S fun ρ1 S1 => tt ρ1 S1 fun b S2 => Br b (te ρ1 S2 fun d S3 => withDs [d] fun ys => acc.length < sizeLine ∧ cLoop ok g tt te ρ Q xs (acc ++ ys) S3) (cLoop ok g tt te ρ Q xs acc S2)
/-- none of these slots owns a thing -/
def noOwn (ρ : Env3) : List Nat → Bool
  | [] => true
  | v :: vs => match ρ[v]? with
    | some (.own _) => false
    | _ => noOwn ρ vs
def dComp (it : dTI) (g : dTG) (tt : dTT) (te : dTE) (vs : List Nat) : dTF := fun ρ S Q => noOwn ρ vs = true ∧ it ρ S fun src S1 => cLoop src.ok g tt te (wipeD ρ vs) Q src.xs [] S1
section
variable {X : Cx} {K : PySem.W.Frag} {F : Addr → Prop} {m o : Nat → Option Addr} {ρ : Env3} {S : Sto} {σ : L2.St} {H : Hp}
theorem PTs.imp {ifs : List Expr} {t t' : TT} (h : PTs X ifs t) (i : ∀ σ H Q, t' σ H Q → t σ H Q) : PTs X ifs t' := ⟨fun pins s σ H Q I q => h.run pins s σ H Q I (i σ H Q q)⟩
theorem dts_nil : DTs X [] dYes := PTs.imp pts_nil fun σ H Q q => by
  obtain ⟨F, m, o, ρ, S, k, rel, t, hk⟩ := q
  exact hk true S m H t rel Grow.refl
theorem dts_one {c : Expr} {t : dTT} (h : DT X c t) : DTs X [c] t := pts_one h
/-- a slot is forgotten -/
theorem Rel.clear (r : Rel K F m o ρ S σ H) (i : Nat) (h : ∀ c, ρ[i]? ≠ some (.own c)) (x : Option V) : Rel K F m o (ρ.set i .no) S (σ.set i x) H := by
  refine ⟨r.st, by rw [List.length_set, List.length_set, r.len], fun j s e => ?_, fun j z => r.far j (by rwa [List.length_set] at z)⟩
  by_cases hj : i = j
  · subst hj
    have hlt : i < ρ.length := by
      have := (List.getElem?_eq_some_iff.mp e).1
      rwa [List.length_set] at this
    rw [List.getElem?_set_self hlt] at e
    cases e
    have hs := r.sl i _ (List.getElem?_eq_getElem hlt)
    cases q : ρ[i] with
    | no => rw [q] at hs; exact hs
    | val w =>
      rw [q] at hs
      cases w with
      | d x => exact hs.1
      | ref n => exact hs.1
      | loc j => exact hs.elim
    | own c => exact absurd (by rw [List.getElem?_eq_getElem hlt, q]) (h c)
  · rw [List.getElem?_set_ne hj] at e
    rw [List.getElem?_set_ne hj]
    exact r.sl j s e
theorem wipeD_get {ρ : Env3} {i : Nat} : ∀ {vs : List Nat} {s : Slot}, (wipeD ρ vs)[i]? = some s → s = .no ∨ (i ∉ vs ∧ ρ[i]? = some s)
  | [], s, h => .inr ⟨by simp, h⟩
  | v :: vs, s, h => by
    unfold wipeD at h
    by_cases hj : v = i
    · subst hj
      have hlt : v < (wipeD ρ vs).length := by
        have := (List.getElem?_eq_some_iff.mp h).1
        rwa [List.length_set] at this
      rw [List.getElem?_set_self hlt] at h
      cases h
      exact .inl rfl
    · rw [List.getElem?_set_ne hj] at h
      rcases wipeD_get h with h | ⟨h1, h2⟩
      · exact .inl h
      · exact .inr ⟨fun z => (List.mem_cons.mp z).elim (fun e => hj e.symm) h1, h2⟩
theorem wipe_get {σ : L2.St} {i : Nat} : ∀ {vs : List Nat}, i ∉ vs → (wipe σ vs)[i]? = σ[i]?
  | [], _ => rfl
  | v :: vs, h => by
    unfold wipe
    rw [List.getElem?_set_ne (fun e => h (by rw [e]; exact List.mem_cons_self)), wipe_get fun z => h (List.mem_cons_of_mem _ z)]
theorem noOwn_mem : ∀ {vs : List Nat}, noOwn ρ vs = true → ∀ v ∈ vs, ∀ c, ρ[v]? ≠ some (.own c)
  | w :: vs, h, v, hv, c, e => by
    unfold noOwn at h
    split at h
    · cases h
    · rename_i z
      rcases List.mem_cons.mp hv with hv | hv
      · subst hv; exact z c e
      · exact noOwn_mem h v hv c e
theorem Rel.wipe (r : Rel K F m o ρ S σ H) : ∀ (vs : List Nat), noOwn ρ vs = true → Rel K F m o (wipeD ρ vs) S (L2.wipe σ vs) H
  | [], _ => r
  | v :: vs, h => by
    have h' : noOwn ρ vs = true := by
      unfold noOwn at h
      split at h
      · cases h
      · exact h
    have := r.wipe vs h'
    refine Rel.clear this v (fun c e => ?_) none
    rcases wipeD_get e with e | ⟨_, e⟩
    · cases e
    · exact noOwn_mem h v List.mem_cons_self c e
/-- behind a comprehension: the frame's names as they were -/
theorem Rel.back {m' : Nat → Option Addr} {S' : Sto} {H' : Hp} {vs : List Nat} (r : Rel K F m o ρ S σ H) (h : noOwn ρ vs = true) (r' : Rel K F m' o (wipeD ρ vs) S' (L2.wipe σ vs) H') (g : Grow F m o H m' o H') : Rel K F m' o ρ S' σ H' := by
  refine ⟨r'.st, r.len, fun i s e => ?_, r.far⟩
  by_cases hi : i ∈ vs
  · have hs := r.sl i s e
    cases s with
    | no => exact hs
    | val w =>
      cases w with
      | d x => obtain ⟨h0, v, h1, h2⟩ := hs; exact ⟨h0, v, h1, Rp.sub g.z h2⟩
      | ref n => obtain ⟨h0, a, h1, h2⟩ := hs; exact ⟨h0, a, h1, g.m n a h2⟩
      | loc j => exact hs
    | own c => exact absurd e (noOwn_mem h i hi c)
  · have hw : (wipeD ρ vs)[i]? = some s := by
      have go : ∀ {ws : List Nat}, i ∉ ws → (wipeD ρ ws)[i]? = ρ[i]? := by
        intro ws hw
        induction ws with
        | nil => rfl
        | cons w ws ih =>
          unfold wipeD
          rw [List.getElem?_set_ne (fun z => hw (by rw [z]; exact List.mem_cons_self)), ih fun z => hw (List.mem_cons_of_mem _ z)]
      rw [go hi]
      exact e
    have hs := r'.sl i s hw
    rw [wipe_get hi] at hs
    exact hs
/-- the state without what stands at p, which is nobody's -/
noncomputable def without (H : Hp) (p : Addr) : Hp := fun a => if a = p then none else H a
theorem without_upd {H : Hp} {p : Addr} {u : HO} (h : H p = some u) : upd (without H p) p u = H := by
  funext a
  unfold upd without
  split
  · rename_i e; rw [e, h]
  · rfl
/-- a list that is being made at p, by a guard: p belongs to nobody -/
theorem Rel.guard (r : Rel K F m o ρ S σ H) {p : Addr} {u : HO} (h : H p = none) : Rel K (fun a => F a ∨ a = p) m o ρ S σ (upd H p u) ∧ Sub (Fz H (Mu F m o)) (Fz (upd H p u) (Mu (fun a => F a ∨ a = p) m o)) := by
  have np : ¬ Mu F m o p := fun z => r.st.alive p z h
  have gz : Sub (Fz H (Mu F m o)) (Fz (upd H p u) (Mu (fun a => F a ∨ a = p) m o)) := fun a w e => by
    obtain ⟨e1, e2⟩ := Fz.at e
    have hne : a ≠ p := ne_of_none e2 h
    refine Fz.of (fun z => ?_) (by rw [upd_ne hne]; exact e2)
    rcases z with (z | z) | z
    · exact e1 (.inl z)
    · exact hne z
    · exact e1 (.inr z)
  have keep : ∀ a, Mu F m o a → (upd H p u) a = H a := fun a z => upd_ne fun e => np (by rw [← e]; exact z)
  refine ⟨⟨⟨r.st.there, fun n a e => ?_, r.st.inj, r.st.injO, fun n a e z => ?_, r.st.oo, fun i a e z => ?_, fun a z => ?_⟩, r.len, fun i s e => ?_, r.far⟩, gz⟩
  · obtain ⟨c, h1, h2⟩ := r.st.is n a e
    exact ⟨c, h1, h2.sub (keep a (.inr (.inl ⟨n, e⟩))) gz⟩
  · rcases z with z | z
    · exact r.st.injF n a e z
    · subst z; exact np (.inr (.inl ⟨n, e⟩))
  · rcases z with z | z
    · exact r.st.oF i a e z
    · subst z; exact np (.inr (.inr ⟨i, e⟩))
  · rcases z with (z | z) | z
    · rw [keep a (.inl z)]; exact r.st.alive a (.inl z)
    · subst z; rw [upd_same]; exact Option.some_ne_none u
    · rw [keep a (.inr z)]; exact r.st.alive a (.inr z)
  · exact (r.sl i s e).sub (fun a z => keep a (.inr (.inr ⟨i, z⟩))) gz
/-- at the end the guard falls -/
theorem Rel.unguard {p : Addr} (r : Rel K (fun a => F a ∨ a = p) m o ρ S σ H) (np : ¬ Mu F m o p) : Rel K F m o ρ S σ (without H p) ∧ Sub (Fz H (Mu (fun a => F a ∨ a = p) m o)) (Fz (without H p) (Mu F m o)) := by
  have gz : Sub (Fz H (Mu (fun a => F a ∨ a = p) m o)) (Fz (without H p) (Mu F m o)) := fun a w e => by
    obtain ⟨e1, e2⟩ := Fz.at e
    refine Fz.of (fun z => e1 ?_) ?_
    · rcases z with z | z
      · exact .inl (.inl z)
      · exact .inr z
    · unfold without
      rw [if_neg fun e => e1 (.inl (.inr e))]
      exact e2
  have keep : ∀ a, Mu F m o a → (without H p) a = H a := fun a z => by
    unfold without
    rw [if_neg fun e => np (by rw [← e]; exact z)]
  have up : ∀ a, Mu F m o a → Mu (fun a => F a ∨ a = p) m o a := fun a z => z.elim (fun z => .inl (.inl z)) .inr
  refine ⟨⟨⟨r.st.there, fun n a e => ?_, r.st.inj, r.st.injO, fun n a e z => r.st.injF n a e (.inl z), r.st.oo, fun i a e z => r.st.oF i a e (.inl z), fun a z => ?_⟩, r.len, fun i s e => ?_, r.far⟩, gz⟩
  · obtain ⟨c, h1, h2⟩ := r.st.is n a e
    exact ⟨c, h1, h2.sub (keep a (.inr (.inl ⟨n, e⟩))) gz⟩
  · rw [keep a z]; exact r.st.alive a (up a z)
  · exact (r.sl i s e).sub (fun a z => keep a (.inr (.inr ⟨i, z⟩))) gz
theorem Rel.write (r : Rel K F m o ρ S σ H) {p : Addr} {u : HO} (hp : F p) : Rel K F m o ρ S σ (upd H p u) ∧ Sub (Fz H (Mu F m o)) (Fz (upd H p u) (Mu F m o)) := by
  have gz : Sub (Fz H (Mu F m o)) (Fz (upd H p u) (Mu F m o)) := fun a w e => by
    obtain ⟨e1, e2⟩ := Fz.at e
    exact Fz.of e1 (by rw [upd_ne fun z => e1 (by rw [z]; exact .inl hp)]; exact e2)
  refine ⟨⟨⟨r.st.there, fun n a e => ?_, r.st.inj, r.st.injO, r.st.injF, r.st.oo, r.st.oF, fun a z => ?_⟩, r.len, fun i s e => ?_, r.far⟩, gz⟩
  · obtain ⟨c, h1, h2⟩ := r.st.is n a e
    exact ⟨c, h1, h2.sub (upd_ne fun z => r.st.injF n a e (by rw [z]; exact hp)) gz⟩
  · by_cases h : a = p
    · subst h; rw [upd_same]; exact Option.some_ne_none u
    · rw [upd_ne h]; exact r.st.alive a z
  · exact (r.sl i s e).sub (fun a z => upd_ne fun w => r.st.oF i a z (by rw [w]; exact hp)) gz
theorem wipe_idem (σ : L2.St) (vs : List Nat) : L2.wipe (L2.wipe σ vs) vs = L2.wipe σ vs := by
  have go : ∀ ws : List Nat, (∀ w ∈ ws, w ∈ vs) → L2.wipe (L2.wipe σ ws) vs = L2.wipe σ vs := by
    intro ws
    induction ws with
    | nil => intro _; rfl
    | cons w ws ih =>
      intro h
      show L2.wipe ((L2.wipe σ ws).set w none) vs = _
      rw [wipe_set _ _ _ (h w List.mem_cons_self)]
      exact ih fun z hz => h z (List.mem_cons_of_mem _ hz)
  exact go vs fun _ h => h
theorem wipeD_idem (σ : Env3) (vs : List Nat) : wipeD (wipeD σ vs) vs = wipeD σ vs := by
  have go : ∀ ws : List Nat, (∀ w ∈ ws, w ∈ vs) → wipeD (wipeD σ ws) vs = wipeD σ vs := by
    intro ws
    induction ws with
    | nil => intro _; rfl
    | cons w ws ih =>
      intro h
      show wipeD ((wipeD σ ws).set w .no) vs = _
      rw [wipeD_set _ _ _ (h w List.mem_cons_self)]
      exact ih fun z hz => h z (List.mem_cons_of_mem _ hz)
  exact go vs fun _ h => h
theorem wipeD_out {ρ : Env3} {i : Nat} {ws : List Nat} (hw : i ∉ ws) : (wipeD ρ ws)[i]? = ρ[i]? := by
  induction ws with
  | nil => rfl
  | cons w ws ih =>
    unfold wipeD
    rw [List.getElem?_set_ne (fun z => hw (by rw [z]; exact List.mem_cons_self)), ih fun z => hw (List.mem_cons_of_mem _ z)]
theorem wiped_o {vs : List Nat} (r : Rel K F m o (wipeD ρ vs) S σ H) : ∀ v ∈ vs, o v = none := fun v hv => by
  by_cases h : v < (wipeD ρ vs).length
  · have hs := r.sl v _ (List.getElem?_eq_getElem h)
    rcases wipeD_get (List.getElem?_eq_getElem h) with e | ⟨e, _⟩
    · rw [e] at hs; exact hs
    · exact absurd hv e
  · exact r.far v (by omega)
/-- the turn's targets have changed no owner -/
theorem same_o {F4 : Addr → Prop} {m4 o4 : Nat → Option Addr} {ρ4 : Env3} {S4 : Sto} {σ4 : L2.St} {H4 : Hp} {vs : List Nat} (r : Rel K F m o (wipeD ρ vs) S σ H) (r4 : Rel K F4 m4 o4 ρ4 S4 σ4 H4) (w : wipeD ρ4 vs = wipeD ρ vs) (oo : ∀ i a, o4 i = some a → o i = some a) : o4 = o ∧ noOwn ρ4 vs = true := by
  have wo := wiped_o r
  constructor
  · funext j
    cases e : o j with
    | none =>
      cases e4 : o4 j with
      | none => rfl
      | some a => rw [oo j a e4] at e; cases e
    | some a =>
      have hj : j ∉ vs := fun z => by rw [wo j z] at e; cases e
      have hlt : j < (wipeD ρ vs).length := by
        by_cases z : j < (wipeD ρ vs).length
        · exact z
        · rw [r.far j (by omega)] at e; cases e
      have hs := r.sl j _ (List.getElem?_eq_getElem hlt)
      have h4 : ρ4[j]? = some (wipeD ρ vs)[j] := by rw [← wipeD_out (ρ := ρ4) hj, w, List.getElem?_eq_getElem hlt]
      have hs4 := r4.sl j _ h4
      rw [e] at hs
      cases q : (wipeD ρ vs)[j] with
      | no => rw [q] at hs; cases hs
      | val d =>
        rw [q] at hs
        cases d with
        | d x => cases hs.1
        | ref n => cases hs.1
        | loc n => exact hs.elim
      | own c =>
        rw [q] at hs4
        obtain ⟨b, h0, _⟩ := hs4
        have := (oo j b h0).symm.trans e
        cases this
        exact h0
  · have go : ∀ ws : List Nat, (∀ v ∈ ws, v ∈ vs) → noOwn ρ4 ws = true := by
      intro ws
      induction ws with
      | nil => intro _; rfl
      | cons v ws ih =>
        intro h
        unfold noOwn
        split
        · rename_i c e
          obtain ⟨b, h0, _⟩ := r4.sl v _ e
          have := oo v b h0
          rw [wo v (h v List.mem_cons_self)] at this
          cases this
        · exact ih fun z hz => h z (List.mem_cons_of_mem _ hz)
    exact go vs fun _ h => h
theorem lift_comp {it : dTI} {tg : Expr} {g : dTG} {tt : dTT} {te : dTE} {vs : List Nat} {X' : Cx} (hg : DG X' vs tg g) {Q : VK} (q : liftF K (dComp it g tt te vs) σ H Q) : tLc (liftI K it) (liftG K vs g) (liftT K tt) (lift K te) vs σ H Q := by
  obtain ⟨F, m, o, ρ, S, k, rel, ⟨no, t⟩, hk⟩ := q
  refine ⟨F, m, o, ρ, S, _, rel, t, fun src S1 m1 H1 J h r1 g1 go => ?_⟩
  intro p hp
  have np : ¬ Mu F m1 o p := fun z => r1.st.alive p z hp
  have rw1 := r1.wipe vs no
  -- the state in the turns
  refine ⟨fun i n H2 => n + i = src.xs.length ∧ ∃ m2 S2 acc us, Rel K (fun a => F a ∨ a = p) m2 o (wipeD ρ vs) S2 (L2.wipe σ vs) H2 ∧ Grow (fun a => F a ∨ a = p) m1 o (upd H1 p (.lst us)) m2 o H2 ∧ RpAll K (Fz H2 (Mu (fun a => F a ∨ a = p) m2 o)) us acc ∧
    cLoop src.ok g tt te (wipeD ρ vs) k (src.xs.drop i) acc S2, ⟨src.xs.length, Nat.add_zero _, m1, S1, [], [], (rw1.guard hp).1, Grow.refl, .nil, h⟩, fun i n H2 hW => ?_⟩
  obtain ⟨hn, m2, S2, acc, us, r2, g2, dp2, h2⟩ := hW
  have gz2 : Sub (Fz H1 (Mu F m1 o)) (Fz H2 (Mu (fun a => F a ∨ a = p) m2 o)) := ((r1.guard (u := .lst us) hp).2).trans g2.z
  have e2 : H2 p = some (.lst us) := (g2.f p (.inr rfl)).trans upd_same
  by_cases hi : i < src.xs.length
  · rw [List.drop_eq_getElem_cons hi] at h2
    obtain ⟨okk, h3⟩ := h2
    obtain ⟨j1, j2⟩ := go.go i _ m2 o _ S2 _ H2 r2 gz2 g2.m okk _ (List.getElem?_eq_getElem hi)
    refine .inr ⟨j1, fun H' => ∃ m3 S3 acc us, Rel K (fun a => F a ∨ a = p) m3 o (wipeD ρ vs) S3 (L2.wipe σ vs) H' ∧ Grow (fun a => F a ∨ a = p) m1 o (upd H1 p (.lst us)) m3 o H' ∧ RpAll K (Fz H' (Mu (fun a => F a ∨ a = p) m3 o)) us acc ∧
      cLoop src.ok g tt te (wipeD ρ vs) k (src.xs.drop (i + 1)) acc S3, fun H' hN => ⟨n - 1, by omega, by omega, hN⟩, fun v H3 hy => ?_⟩
    obtain ⟨s3, dp⟩ := j2 v H3 hy
    refine ⟨_, m2, o, wipeD ρ vs, S2, _, _, r2.sub s3, dp, hg.w _ _ _ _ h3, fun ρ4 S4 m4 o4 σ4 H4 hh r4 g4 w4 oo4 => ?_⟩
    obtain ⟨h4, wd4⟩ := hh
    rw [wipeD_idem] at wd4
    rw [wipe_idem] at w4
    obtain ⟨eo, no4⟩ := same_o r2 r4 wd4 oo4
    subst eo
    have gg4 : Grow (fun a => F a ∨ a = p) m1 o4 (upd H1 p (.lst us)) m4 o4 H4 := (g2.trans (Grow.sub r2 s3)).trans g4
    refine ⟨w4, _, m4, o4, ρ4, S4, _, r4, h4, fun b S5 m5 H5 h5 r5 g5 => ?_⟩
    have back : ∀ {m6 : Nat → Option Addr} {S6 : Sto} {H6 : Hp}, Rel K (fun a => F a ∨ a = p) m6 o4 ρ4 S6 σ4 H6 → Rel K (fun a => F a ∨ a = p) m6 o4 (wipeD ρ vs) S6 (L2.wipe σ vs) H6 := fun r6 => by
      have := r6.wipe vs no4
      rw [wd4, w4] at this
      exact this
    cases b with
    | false =>
      have h5 := h5.eF
      exact iteF ⟨m5, S5, acc, us, back r5, gg4.trans g5, RpAll.sub (((Grow.sub r2 s3).trans g4).trans g5).z dp2, h5⟩
    | true =>
      have h5 := h5.eT
      refine iteT ⟨_, m5, o4, ρ4, S5, _, r5, h5, fun d S6 m6 H6 v6 h6 r6 g6 q6 => ?_⟩
      obtain ⟨ys, ey, hl, h7⟩ := withDs_of h6
      have gg6 := (gg4.trans g5).trans g6
      have dp6 := RpAll.sub ((((Grow.sub r2 s3).trans g4).trans g5).trans g6).z dp2
      have e6 : H6 p = some (.lst us) := (gg6.f p (.inr rfl)).trans upd_same
      have dpy : RpAll K (Fz H6 (Mu (fun a => F a ∨ a = p) m6 o4)) [v6] ys := datas_rep (.cons q6 .nil) ey
      obtain ⟨rw6, gz6⟩ := (back r6).write (p := p) (u := .lst (us ++ [v6])) (.inr rfl)
      refine ⟨us, e6, by rw [RpAll.length dp6]; exact hl, m6, S6, acc ++ ys, us ++ [v6], rw6, ⟨fun a z => ?_, ?_, gg6.m⟩, RpAll.sub gz6 (RpAll.append dp6 dpy), h7⟩
      · by_cases ha : a = p
        · subst ha; rw [upd_same, upd_same]
        · rw [upd_ne ha, upd_ne ha]
          have := gg6.f a z
          rw [upd_ne ha] at this
          exact this
      · refine Sub.trans (fun a w e => ?_) (gg6.z.trans gz6)
        obtain ⟨z1, z2⟩ := Fz.at e
        have ha : a ≠ p := fun z => z1 (.inl (.inr z))
        rw [upd_ne ha] at z2
        exact Fz.of z1 (by rw [upd_ne ha]; exact z2)
  · rw [List.drop_eq_nil_of_le (by omega)] at h2
    obtain ⟨okk, h3⟩ := h2
    refine .inl ⟨go.stop i _ m2 o _ S2 _ H2 r2 gz2 g2.m okk (by omega), ?_⟩
    have np2 : ¬ Mu F m2 o p := fun z => by
      rcases z with z | ⟨n, z⟩ | ⟨n, z⟩
      · exact np (.inl z)
      · exact r2.st.injF n p z (.inr rfl)
      · exact r2.st.oF n p z (.inr rfl)
    obtain ⟨ru, zu⟩ := r2.unguard np2
    have gu : Grow F m1 o H1 m2 o (without H2 p) := ⟨fun a z => ?_, gz2.trans zu, g2.m⟩
    · have := hk acc S2 m2 (without H2 p) p us h3 (r1.back no ru gu) (g1.trans gu) (if_pos rfl) (RpAll.sub zu dp2)
      rw [without_upd e2] at this
      exact this
    · have ha : a ≠ p := fun e => np (by rw [← e]; exact .inl z)
      unfold without
      rw [if_neg ha, g2.f a (.inl z), upd_ne ha]
theorem df_comp {elt tg iter : Expr} {ifs : List Expr} {scope : Scope} {own : List (Str × Nat)} {pos : Pos} {it : dTI} {g : dTG} {tt : dTT} {te : dTE} (hc : X.calm = true) (hN : X.N.Nodup) (ok : BlkOk X.N X.env.scope scope own)
    (hg : ∀ (s : Shared) (H : Hp) (C : Addr) (cl : List (Str × Addr)) (fp : List Addr), DG (X.blk s H scope (compEnvC scope cl C X.env) fp) (own.map (·.2)) tg g) (hi : DI X tg iter it) (ht : ∀ (s : Shared) (H : Hp) (C : Addr) (cl : List (Str × Addr)) (fp : List Addr), DTs (X.blk s H scope (compEnvC scope cl C X.env) fp) ifs tt)
    (he : ∀ (s : Shared) (H : Hp) (C : Addr) (cl : List (Str × Addr)) (fp : List Addr), DE (X.blk s H scope (compEnvC scope cl C X.env) fp) elt te) (hs : ∀ x, foldedSetIterable iter X.env x = pure x := by intro _; rfl) :
    DF X (.ListComp elt [⟨tg, iter, ifs, 0⟩] scope pos) (dComp it g tt te (own.map (·.2))) :=
  PE.imp (pe_lc hc hN hi ok (fun s H C cl fp => (hg s H C cl fp).pg) ht he hs) fun σ H Q q => lift_comp (hg ⟨X.s_0.heap, X.s_0.gens, X.s_0.drawn, X.s_0.toks, X.s_0.os⟩ H 0 [] []) q
end
end L3

set_option maxHeartbeats 4000000
namespace L3
open PySem PySem.Spec L2

section
variable {X : Cx}
/-! ### y = [..] on one line -/
theorem ds_setLc {i : Nat} {y : Str} {py : Pos} {elt tg iter : Expr} {ifs : List Expr} {scope : Scope} {own : List (Str × Nat)} {pos spos : Pos} {it : dTI} {g : dTG} {tt : dTT} {te : dTE} (hc : X.calm = true) (hN : X.N.Nodup) (hy : X.N[i]? = some y) (hyl : X.env.scope.names.lookup y = some .local)
    (hsw : swapsWith (.ListComp elt [⟨tg, iter, ifs, 0⟩] scope pos) (some (.Name y py)) spos.line X.env = pure true) (ok : BlkOk X.N X.env.scope scope own)
    (hg : ∀ (s : Shared) (H : Hp) (C : Addr) (cl : List (Str × Addr)) (fp : List Addr), DG (X.blk s H scope (compEnvC scope cl C X.env) fp) (own.map (·.2)) tg g) (hi : DI X tg iter it) (ht : ∀ (s : Shared) (H : Hp) (C : Addr) (cl : List (Str × Addr)) (fp : List Addr), DTs (X.blk s H scope (compEnvC scope cl C X.env) fp) ifs tt)
    (he : ∀ (s : Shared) (H : Hp) (C : Addr) (cl : List (Str × Addr)) (fp : List Addr), DE (X.blk s H scope (compEnvC scope cl C X.env) fp) elt te) (hs : ∀ x, foldedSetIterable iter X.env x = pure x := by intro _; rfl) :
    DS X (.Assign [.Name y py] (.ListComp elt [⟨tg, iter, ifs, 0⟩] scope pos) spos) (dSet i (dFz (dComp it g tt te (own.map (·.2))))) :=
  PS.imp (ps_setLc hc hN hy hyl hsw hi ok (fun s H C cl fp => (hg s H C cl fp).pg) ht he hs) fun E σ H q => by
    obtain ⟨F, m, o, ρ, S, E', rel, t, ok⟩ := q
    refine lift_comp (hg X.s_0 H 0 [] []) (lift_fz ⟨F, m, o, ρ, S, _, rel, t, fun d S1 m1 H1 v h r g q => ?_⟩)
    obtain ⟨n, h⟩ := nl_of h
    exact ok.nx _ S1 m1 _ _ H1 h (r.put i q n) (g.trans (Grow.ers i))
theorem ds_setLcO {i : Nat} {y : Str} {py : Pos} {elt tg iter : Expr} {ifs : List Expr} {scope : Scope} {own : List (Str × Nat)} {pos spos : Pos} {it : dTI} {g : dTG} {tt : dTT} {te : dTE} (hc : X.calm = true) (hN : X.N.Nodup) (hy : X.N[i]? = some y) (hyl : X.env.scope.names.lookup y = some .local)
    (hsw : swapsWith (.ListComp elt [⟨tg, iter, ifs, 0⟩] scope pos) (some (.Name y py)) spos.line X.env = pure true) (ok : BlkOk X.N X.env.scope scope own)
    (hg : ∀ (s : Shared) (H : Hp) (C : Addr) (cl : List (Str × Addr)) (fp : List Addr), DG (X.blk s H scope (compEnvC scope cl C X.env) fp) (own.map (·.2)) tg g) (hi : DI X tg iter it) (ht : ∀ (s : Shared) (H : Hp) (C : Addr) (cl : List (Str × Addr)) (fp : List Addr), DTs (X.blk s H scope (compEnvC scope cl C X.env) fp) ifs tt)
    (he : ∀ (s : Shared) (H : Hp) (C : Addr) (cl : List (Str × Addr)) (fp : List Addr), DE (X.blk s H scope (compEnvC scope cl C X.env) fp) elt te) (hs : ∀ x, foldedSetIterable iter X.env x = pure x := by intro _; rfl) :
    DS X (.Assign [.Name y py] (.ListComp elt [⟨tg, iter, ifs, 0⟩] scope pos) spos) (dSetO i (dComp it g tt te (own.map (·.2)))) :=
  PS.imp (ps_setLc hc hN hy hyl hsw hi ok (fun s H C cl fp => (hg s H C cl fp).pg) ht he hs) fun E σ H q => by
    obtain ⟨F, m, o, ρ, S, E', rel, t, ok⟩ := q
    exact lift_comp (hg X.s_0 H 0 [] []) ⟨F, m, o, ρ, S, _, rel, t, fun xs S1 m1 H1 p vs h r g hp dp => own_fin r hp dp h (ok.grow g)⟩
end

/-! ### things that are changed -/
section
variable {K : PySem.W.Frag} {F : Addr → Prop} {m o : Nat → Option Addr} {ρ : Env3} {S : Sto} {σ : L2.St} {H : Hp}
theorem fz_wr {a : Addr} {u : HO} (h : Mu F m o a) : Sub (Fz H (Mu F m o)) (Fz (upd H a u) (Mu F m o)) := fun b w e => by
  obtain ⟨e1, e2⟩ := Fz.at e
  exact Fz.of e1 (by rw [upd_ne fun z => e1 (by rw [z]; exact h)]; exact e2)
theorem Grow.wr (r : Stor K F m o S H) {a : Addr} {u : HO} (h : Mu F m o a) (nf : ¬ F a) : Grow F m o H m o (upd H a u) := ⟨fun b z => upd_ne fun e => nf (by rw [← e]; exact z), fz_wr h, fun _ _ e => e⟩
theorem alive_wr (r : Stor K F m o S H) {a : Addr} {u : HO} : ∀ b, Mu F m o b → (upd H a u) b ≠ none := fun b z => by
  by_cases e : b = a
  · subst e; rw [upd_same]; exact Option.some_ne_none u
  · rw [upd_ne e]; exact r.alive b z
/-- one's own thing takes another content -/
theorem Rel.wrO (r : Rel K F m o ρ S σ H) {i : Nat} {a : Addr} {u : HO} {c : Cell} (ha : o i = some a) (hi : i < ρ.length) (hx : σ[i]? = some (some (.ref a))) (q : CellOk K (upd H a u) (Fz (upd H a u) (Mu F m o)) a c) :
    Rel K F m o (ρ.set i (.own c)) S σ (upd H a u) ∧ Grow F m o H m o (upd H a u) := by
  have ma : Mu F m o a := .inr (.inr ⟨i, ha⟩)
  have g : Grow F m o H m o (upd H a u) := Grow.wr r.st ma fun z => r.st.oF i a ha z
  refine ⟨⟨⟨r.st.there, fun n b e => ?_, r.st.inj, r.st.injO, r.st.injF, r.st.oo, r.st.oF, alive_wr r.st⟩, by rw [List.length_set]; exact r.len, fun j s e => ?_, fun j z => r.far j (by rwa [List.length_set] at z)⟩, g⟩
  · obtain ⟨c, h1, h2⟩ := r.st.is n b e
    exact ⟨c, h1, h2.sub (upd_ne fun z => r.st.injO n i a (by rw [← z]; exact e) ha) g.z⟩
  · by_cases hj : i = j
    · subst hj
      rw [List.getElem?_set_self hi] at e
      cases e
      exact ⟨a, ha, hx, q⟩
    · rw [List.getElem?_set_ne hj] at e
      exact (r.sl j s e).sub (fun b z => upd_ne fun w => hj (r.st.oo i j a ha (by rw [← w]; exact z))) g.z
/-- a thing of the store takes another content -/
theorem Rel.wrS (r : Rel K F m o ρ S σ H) {n : Nat} {a : Addr} {u : HO} {c : Cell} (ha : m n = some a) (hn : n < S.length) (q : CellOk K (upd H a u) (Fz (upd H a u) (Mu F m o)) a c) :
    Rel K F m o ρ (S.set n c) σ (upd H a u) ∧ Grow F m o H m o (upd H a u) := by
  have ma : Mu F m o a := .inr (.inl ⟨n, ha⟩)
  have g : Grow F m o H m o (upd H a u) := Grow.wr r.st ma fun z => r.st.injF n a ha z
  refine ⟨⟨⟨fun k c e => ?_, fun k b e => ?_, r.st.inj, r.st.injO, r.st.injF, r.st.oo, r.st.oF, alive_wr r.st⟩, r.len, fun j s e => ?_, r.far⟩, g⟩
  · by_cases hk : n = k
    · subst hk; exact ⟨a, ha⟩
    · rw [List.getElem?_set_ne hk] at e; exact r.st.there k c e
  · by_cases hk : n = k
    · subst hk
      rw [ha] at e
      cases e
      exact ⟨c, List.getElem?_set_self hn, q⟩
    · obtain ⟨c, h1, h2⟩ := r.st.is k b e
      exact ⟨c, by rw [List.getElem?_set_ne hk]; exact h1, h2.sub (upd_ne fun z => hk (r.st.inj n k a ha (by rw [← z]; exact e))) g.z⟩
  · exact (r.sl j s e).sub (fun b z => upd_ne fun w => r.st.injO n j a ha (by rw [← w]; exact z)) g.z
/-- a new thing of the store -/
def putM (m : Nat → Option Addr) (n : Nat) (a : Addr) : Nat → Option Addr := fun k => if k = n then some a else m k
theorem Rel.newS (r : Rel K F m o ρ S σ H) {p : Addr} {u : HO} {c : Cell} (hp : H p = none) (q : CellOk K (upd H p u) (Fz (upd H p u) (Mu F (putM m S.length p) o)) p c) :
    Rel K F (putM m S.length p) o ρ (S ++ [c]) σ (upd H p u) ∧ Grow F m o H (putM m S.length p) o (upd H p u) := by
  have np : ∀ {P : Prop}, Mu F m o p → P := fun z => absurd hp (r.st.alive p z)
  have mn : m S.length = none := by
    cases e : m S.length with
    | none => rfl
    | some a =>
      obtain ⟨c, h1, _⟩ := r.st.is _ a e
      rw [List.getElem?_eq_none_iff.mpr (Nat.le_refl _)] at h1
      cases h1
  have at1 : putM m S.length p S.length = some p := if_pos rfl
  have at2 : ∀ {k}, k ≠ S.length → putM m S.length p k = m k := fun h => if_neg h
  have mu : ∀ a, Mu F (putM m S.length p) o a → a = p ∨ Mu F m o a := fun a z => by
    rcases z with z | ⟨n, z⟩ | z
    · exact .inr (.inl z)
    · by_cases hn : n = S.length
      · subst hn; rw [at1] at z; cases z; exact .inl rfl
      · rw [at2 hn] at z; exact .inr (.inr (.inl ⟨n, z⟩))
    · exact .inr (.inr (.inr z))
  have keep : ∀ a, Mu F m o a → (upd H p u) a = H a := fun a z => upd_ne fun e => np (by rw [← e]; exact z)
  have gz : Sub (Fz H (Mu F m o)) (Fz (upd H p u) (Mu F (putM m S.length p) o)) := fun a w e => by
    obtain ⟨e1, e2⟩ := Fz.at e
    have hne : a ≠ p := ne_of_none e2 hp
    exact Fz.of (fun z => (mu a z).elim hne e1) (by rw [upd_ne hne]; exact e2)
  have gm : ∀ n a, m n = some a → putM m S.length p n = some a := fun n a e => by
    by_cases hn : n = S.length
    · subst hn; rw [mn] at e; cases e
    · rw [at2 hn]; exact e
  refine ⟨⟨⟨fun k c' e => ?_, fun k b e => ?_, fun n k a e z => ?_, fun n i a e z => ?_, fun n a e z => ?_, r.st.oo, r.st.oF, fun a z => ?_⟩, r.len, fun j s e => ?_, r.far⟩, ⟨fun a z => keep a (.inl z), gz, gm⟩⟩
  · by_cases hk : k = S.length
    · subst hk; exact ⟨p, at1⟩
    · have hlt : k < S.length := by
        have := (List.getElem?_eq_some_iff.mp e).1
        rw [List.length_append, List.length_singleton] at this
        omega
      rw [List.getElem?_append_left hlt] at e
      rw [at2 hk]
      exact r.st.there k c' e
  · by_cases hk : k = S.length
    · subst hk
      rw [at1] at e
      cases e
      exact ⟨c, by simp, q⟩
    · rw [at2 hk] at e
      obtain ⟨c', h1, h2⟩ := r.st.is k b e
      exact ⟨c', by rw [List.getElem?_append_left (List.getElem?_eq_some_iff.mp h1).1]; exact h1, h2.sub (keep b (.inr (.inl ⟨k, e⟩))) gz⟩
  · by_cases hn : n = S.length
    · subst hn
      rw [at1] at e
      cases e
      by_cases hk : k = S.length
      · exact hk.symm
      · rw [at2 hk] at z; exact np (.inr (.inl ⟨k, z⟩))
    · rw [at2 hn] at e
      by_cases hk : k = S.length
      · subst hk; rw [at1] at z; cases z; exact np (.inr (.inl ⟨n, e⟩))
      · rw [at2 hk] at z; exact r.st.inj n k a e z
  · by_cases hn : n = S.length
    · subst hn; rw [at1] at e; cases e; exact np (.inr (.inr ⟨i, z⟩))
    · rw [at2 hn] at e; exact r.st.injO n i a e z
  · by_cases hn : n = S.length
    · subst hn; rw [at1] at e; cases e; exact np (.inl z)
    · rw [at2 hn] at e; exact r.st.injF n a e z
  · rcases mu a z with z | z
    · subst z; rw [upd_same]; exact Option.some_ne_none u
    · rw [keep a z]; exact r.st.alive a z
  · have hs := (r.sl j s e).sub (H' := upd H p u) (fun a z => keep a (.inr (.inr ⟨j, z⟩))) gz
    cases s with
    | no => exact hs
    | val w =>
      cases w with
      | d x => exact hs
      | ref n => obtain ⟨h0, a, h1, h2⟩ := hs; exact ⟨h0, a, h1, gm n a h2⟩
      | loc j => exact hs
    | own c => exact hs
end

/-! ### x.append(e) -/
def dApp (i : Nat) (te : dTE) : dTS := fun E ρ S => match ρ[i]? with
  | some (.own (.lst xs)) => te ρ S fun d S1 => match d with
    | .d x => xs.length < sizeLine ∧ E.nx (ρ.set i (.own (.lst (xs ++ [x])))) S1
    | _ => False
  | _ => False
section
variable {X : Cx}
theorem ds_app {i : Nat} {x : Expr} {e : Expr} {te : dTE} {apos cpos pos : Pos} (hx : PE X x (tVar i)) (he : DE X e te) (hs : swapsWith (.Call (.Attribute x "append" apos) [e] [] cpos) none pos.line X.env = pure false := by rfl)
    (hbase : attributeBase x "append" X.env (eval x X.env) = eval x X.env := by rfl) (hst : starEach [e] X.env = (false, eval e X.env) :: starEach [] X.env := by rfl)
    (hfew : ((backTo cpos (starEach [e] X.env)).all (fun x => !x.1) && (backToKw cpos (keywordEach [] X.env)).all (fun x => x.1.isSome)
      && decide ([e].length + ([] : List Keyword).length + (if ([] : List Keyword).isEmpty then 0 else 1) < 30)) = true := by rfl)
    (hpl : (backTo cpos (starEach [] X.env)).any (·.1) = false := by rfl) (hline : (apos.endLine == cpos.line) = true := by rfl) :
    DS X (.Expr (.Call (.Attribute x "append" apos) [e] [] cpos) pos) (dApp i te) :=
  PS.imp (ps_expr (pe_bm PySem.F.plainAttrs_list PySem.F.slot_list_append PySem.F.type_list_append mt_append hx (pa_cons he pa_nil hst) hbase hfew hline hst hpl) hs) fun E σ H q => by
    obtain ⟨F, m, o, ρ, S, E', rel, t, ok⟩ := q
    unfold dApp at t
    split at t
    · rename_i xs e0
      obtain ⟨a, h1, h2, vs, h3, h4⟩ := rel.sl i _ e0
      refine ⟨_, h2, .inl ⟨rfl, vs, SqL.of h3⟩, F, m, o, ρ, S, _, rel, t, fun d S1 m1 H1 v h r g q => ?_⟩
      cases d with
      | ref n => exact h.elim
      | loc n => exact h.elim
      | d y =>
        obtain ⟨hl, h⟩ := h
        obtain ⟨b, k1, k2, ws, k3, k4⟩ := r.sl i _ e0
        have hb := k1.symm.trans h1
        cases hb
        refine ⟨a, ws, v, rfl, rfl, k3, by rw [RpAll.length k4]; exact hl, ?_⟩
        have hi : i < ρ.length := (List.getElem?_eq_some_iff.mp e0).1
        obtain ⟨r2, g2⟩ := r.wrO (u := .lst (ws ++ [v])) (c := .lst (xs ++ [y])) h1 hi h2 ⟨_, upd_same, RpAll.sub (fz_wr (.inr (.inr ⟨i, h1⟩))) (RpAll.append k4 (.cons q .nil))⟩
        exact ok.nx _ S1 m1 o σ _ h r2 (g.trans g2)
    · exact t.elim
end

/-! ### a dict that is written, as a thing of the store -/
def dVals : List (Key × dTE) → Env3 → Sto → (List (Key × D) → Sto → Prop) → Prop
  | [], _, S, Q => Q [] S
  | (k, t) :: r, ρ, S, Q => t ρ S fun d S1 => match d with
    | .d x => dVals r ρ S1 fun kvs S2 => Q ((k, x) :: kvs) S2
    | _ => False
def dDisp (ts : List (Key × dTE)) : dTE := fun ρ S Q => dVals ts ρ S fun kvs S1 => Q (.ref S1.length) (S1 ++ [.dK kvs])
section
variable {X : Cx} {K : PySem.W.Frag}
theorem lift_vals {F : Addr → Prop} {o : Nat → Option Addr} {ρ : Env3} {σ : L2.St} : ∀ {ts : List (Key × dTE)} {m : Nat → Option Addr} {S : Sto} {H : Hp} {k : List (Key × D) → Sto → Prop} {Q : List (V × V) → Hp → Prop}, Rel K F m o ρ S σ H → dVals ts ρ S k →
    (∀ kvs S' m' H' ws, k kvs S' → kvs.map (·.1) = ts.map (·.1) → Rel K F m' o ρ S' σ H' → Grow F m o H m' o H' → KRp K (Fz H' (Mu F m' o)) ws kvs → Q (ws.map fun kv => (kV kv.1, kv.2)) H') → tPairs (ts.map fun p => (tC (kV p.1), lift K p.2)) σ H Q
  | [], m, S, H, k, Q, r, h, fin => fin [] S m H [] h rfl r Grow.refl .nil
  | (key, t) :: ts, m, S, H, k, Q, r, h, fin => by
    refine ⟨F, m, o, ρ, S, _, r, h, fun d S1 m1 H1 v h1 r1 g1 q1 => ?_⟩
    cases d with
    | ref n => exact h1.elim
    | loc n => exact h1.elim
    | d x =>
      refine lift_vals r1 h1 fun kvs S2 m2 H2 ws h2 hk r2 g2 q2 => ?_
      exact fin ((key, x) :: kvs) S2 m2 H2 ((key, v) :: ws) h2 (by rw [List.map_cons, List.map_cons, hk]) r2 (g1.trans g2) (.cons ⟨rfl, Rp.sub g2.z q1⟩ q2)
theorem mergeK_nodup : ∀ (ws acc : List (Key × V)), (ws.map (·.1)).Nodup → (∀ w ∈ ws, w.1 ∉ acc.map (·.1)) → mergeK acc ws = acc ++ ws
  | [], acc, _, _ => (List.append_nil acc).symm
  | w :: ws, acc, nd, ni => by
    have nd' := List.nodup_cons.mp (show (w.1 :: ws.map (·.1)).Nodup from nd)
    have e : putK acc w.1 w.2 = acc ++ [w] := by
      unfold putK
      rw [if_neg]
      intro z
      obtain ⟨p, hp, e⟩ := List.any_eq_true.mp z
      exact ni w List.mem_cons_self (List.mem_map.mpr ⟨p, hp, of_decide_eq_true e⟩)
    show mergeK (putK acc w.1 w.2) ws = _
    rw [e, mergeK_nodup ws _ nd'.2 fun z hz => ?_, List.append_assoc]
    · rfl
    · rw [List.map_append]
      intro q
      rcases List.mem_append.mp q with q | q
      · exact ni z (List.mem_cons_of_mem _ hz) q
      · simp only [List.map_cons, List.map_nil, List.mem_singleton] at q
        exact nd'.1 (List.mem_map.mpr ⟨z, hz, q⟩)
theorem KRp.keys {H : Hp} {ws : List (Key × V)} {kvs : List (Key × D)} (h : KRp K H ws kvs) : ws.map (·.1) = kvs.map (·.1) := by
  unfold KRp at h
  induction h with
  | nil => rfl
  | cons q _ ih => rw [List.map_cons, List.map_cons, q.1, ih]
abbrev DPs (X : Cx) (pos : Pos) (keys : List (Option Expr)) (values : List Expr) (ts : List (Key × dTE)) : Prop := PPs X pos keys values (ts.map fun p => (tC (kV p.1), lift X.K p.2))
theorem dps_nil {pos : Pos} : DPs X pos [] [] [] := pps_nil
theorem dps_cons {pos : Pos} {k v : Expr} {ks : List (Option Expr)} {vs : List Expr} {key : Key} {t : dTE} {ts : List (Key × dTE)} (hk : PE X k (tC (kV key))) (hv : DE X v t) (hr : DPs X pos ks vs ts) : DPs X pos (some k :: ks) (v :: vs) ((key, t) :: ts) := pps_cons hk hv hr
theorem de_disp {keys : List (Option Expr)} {values : List Expr} {ts : List (Key × dTE)} {pos : Pos} (h : DPs X pos keys values ts) (hnd : (ts.map (·.1)).Nodup) (h15 : ts.length ≤ 15) (hall : keys.all (·.isSome) = true) (hl : keys.length = values.length) (h0 : keys ≠ [])
    (h15' : keys.length ≤ 15) : DE X (.Dict keys values pos) (dDisp ts) := PE.imp (pe_disp h hall hl h0 h15') fun σ H Q q => by
  obtain ⟨F, m, o, ρ, S, k, rel, t, hk⟩ := q
  intro p hp
  obtain ⟨r0, z0⟩ := rel.guard (u := .dK []) hp
  have np : ¬ Mu F m o p := fun z => rel.st.alive p z hp
  refine lift_vals r0 t fun kvs S' m' H' ws hh hkeys r' g' rep => ?_
  have ep : H' p = some (.dK []) := (g'.f p (.inr rfl)).trans upd_same
  have np' : ¬ Mu F m' o p := fun z => by
    rcases z with z | ⟨n, z⟩ | ⟨n, z⟩
    · exact np (.inl z)
    · exact r'.st.injF n p z (.inr rfl)
    · exact r'.st.oF n p z (.inr rfl)
  have ekeys : ws.map (·.1) = ts.map (·.1) := rep.keys.trans hkeys
  have elen : ws.length = ts.length := by
    have := congrArg List.length ekeys
    rwa [List.length_map, List.length_map] at this
  refine ⟨ep, ws, rfl, by rw [elen]; exact h15, ?_⟩
  rw [mergeK_nodup ws [] (by rw [ekeys]; exact hnd) (fun _ _ => by simp), List.nil_append]
  obtain ⟨ru, zu⟩ := r'.unguard np'
  have wp : without H' p p = none := if_pos rfl
  have eu : ∀ u, upd (without H' p) p u = upd H' p u := fun u => by
    funext a
    unfold upd without
    split
    · rfl
    · rfl
  have gu : Grow F m o H m' o (without H' p) := ⟨fun a z => ?_, (z0.trans g'.z).trans zu, g'.m⟩
  · have ma : Mu F (putM m' S'.length p) o p := .inr (.inl ⟨S'.length, if_pos rfl⟩)
    obtain ⟨r2, g2⟩ := ru.newS (u := .dK ws) (c := .dK kvs) wp (by
      refine ⟨ws, upd_same, KRp.sub ?_ (KRp.sub zu rep)⟩
      intro a w e
      obtain ⟨e1, e2⟩ := Fz.at e
      have hne : a ≠ p := ne_of_none e2 wp
      refine Fz.of (fun z => ?_) (by rw [upd_ne hne]; exact e2)
      rcases z with z | ⟨n, z⟩ | z
      · exact e1 (.inl z)
      · unfold putM at z
        split at z
        · cases z; exact hne rfl
        · exact e1 (.inr (.inl ⟨n, z⟩))
      · exact e1 (.inr (.inr z)))
    have := hk _ _ _ _ (.ref p) hh r2 (gu.trans g2) ⟨p, if_pos rfl, rfl⟩
    rw [eu] at this
    exact this
  · have ha : a ≠ p := fun e => np (by rw [← e]; exact .inl z)
    unfold without
    rw [if_neg ha, g'.f a (.inl z), upd_ne ha]
end

/-! ### x[k] = e -/
def withKey (y : D) (k : Key → Prop) : Prop := match y with
  | .int i => k (.inl i)
  | .str z => k (.inr z)
  | _ => False
theorem withKey_of {y : D} {k : Key → Prop} (h : withKey y k) : ∃ key, y = keyD key ∧ k key := by
  unfold withKey at h
  split at h
  · exact ⟨_, rfl, h⟩
  · exact ⟨_, rfl, h⟩
  · exact h.elim
def putD (kvs : List (Key × D)) (k : Key) (v : D) : List (Key × D) :=
  if (kvs.any fun kv => decide (kv.1 = k)) = true then kvs.map (fun kv => if kv.1 = k then (kv.1, v) else kv) else kvs ++ [(k, v)]
theorem KRp.put {K : PySem.W.Frag} {H : Hp} {ws : List (Key × V)} {kvs : List (Key × D)} (h : KRp K H ws kvs) {k : Key} {v : V} {x : D} (q : Rp K H v x) : KRp K H (putK ws k v) (putD kvs k x) := by
  have ea : (ws.any fun kv => decide (kv.1 = k)) = kvs.any fun kv => decide (kv.1 = k) := by
    unfold KRp at h
    induction h with
    | nil => rfl
    | cons z _ ih => rw [List.any_cons, List.any_cons, z.1, ih]
  unfold putK putD
  rw [ea]
  split
  · unfold KRp at h ⊢
    rename_i z0
    clear z0 ea
    induction h with
    | nil => exact .nil
    | @cons a b l1 l2 z _ ih =>
      refine .cons ?_ ih
      obtain ⟨z1, z2⟩ := z
      dsimp only
      by_cases e : b.1 = k
      · rw [if_pos (z1.trans e), if_pos e]; exact ⟨z1, q⟩
      · rw [if_neg (fun w => e (z1.symm.trans w)), if_neg e]; exact ⟨z1, z2⟩
  · have go : ∀ {l1 : List (Key × V)} {l2 : List (Key × D)}, KRp K H l1 l2 → KRp K H (l1 ++ [(k, v)]) (l2 ++ [(k, x)]) := by
      intro l1 l2 h
      unfold KRp at h ⊢
      induction h with
      | nil => exact .cons ⟨rfl, q⟩ .nil
      | cons z _ ih => exact .cons z ih
    exact go h
def dPutI (i : Nat) (tk te : dTE) : dTS := fun E ρ S => match ρ[i]? with
  | some (.own (.lst xs)) => te ρ S fun d S1 => match d with
    | .d x => tk ρ S1 fun kd S2 => match kd with
      | .d (.int j) => ∃ n, ixN xs.length j = some n ∧ E.nx (ρ.set i (.own (.lst (xs.set n x)))) S2
      | _ => False
    | _ => False
  | some (.val (.ref n)) => te ρ S fun d S1 => match d with
    | .d x => tk ρ S1 fun kd S2 => match kd with
      | .d key => match S2[n]? with
        | some (.dK kvs) => withKey key fun k => kvs.length < sizeLine ∧ E.nx ρ (S2.set n (.dK (putD kvs k x)))
        | _ => False
      | _ => False
    | _ => False
  | _ => False
section
variable {X : Cx}
theorem set_dict (hu : X.A.units + 1 < cLine) : PSet X (fun o i v H Q => ∃ a H', o = .ref a ∧ DPut H a i v H' ∧ Q H') := by
  intro pins s σ H o i v ov iv u Q I ro ri rv h
  obtain ⟨a, H', rfl, g, q⟩ := h
  obtain rfl : ov = Value.ref a := ro
  exact d_setItem hu I g ri rv fun s4 I4 => ⟨H', I4, q⟩
theorem PSet.or {t t' : TSet} (h : PSet X t) (h' : PSet X t') : PSet X (fun o i v H Q => t o i v H Q ∨ t' o i v H Q) := by
  intro pins s σ H o i v ov iv u Q I ro ri rv q
  rcases q with q | q
  · exact h pins s σ H o i v ov iv u Q I ro ri rv q
  · exact h' pins s σ H o i v ov iv u Q I ro ri rv q
theorem key_rep {K : PySem.W.Frag} {H : Hp} {v : V} {key : Key} (h : Rp K H v (keyD key)) : v = kV key := by
  cases key with
  | inl i => exact dp_int h
  | inr z => exact dp_str h
theorem ds_put {i : Nat} {x k e : Expr} {tk te : dTE} {pos pos' : Pos} (hu : X.A.units + 1 < cLine) (hx : PE X x (tVar i)) (hk : DE X k tk) (he : DE X e te)
    (ha : ∀ v, assign (.Subscript x k pos') X.env v = (do
      let ov ← holding [v] (eval x X.env)
      let iv ← holding [v, ov] (eval k X.env)
      standAt pos'
      holding [v, ov, iv] (setItem ov iv v)
      release [v, ov, iv] []) := by intro _; rfl)
    (hs : swapsWithSole [.Subscript x k pos'] e pos.line X.env = pure false := by rfl) (hw : swappedStores [.Subscript x k pos'] e X.env = pure none := by rfl)
    (h1 : (assignEach [.Subscript x k pos'] X.env).map (·.2) = [assign (.Subscript x k pos') X.env] := by rfl) : DS X (.Assign [.Subscript x k pos'] e pos) (dPutI i tk te) :=
  PS.imp (ps_asg he (pg_sub hx hk (PSet.or set_list (set_dict hu)) ha) hs hw h1) fun E σ H q => by
    obtain ⟨F, m, o, ρ, S, E', rel, t, ok⟩ := q
    unfold dPutI at t
    split at t
    · rename_i xs e0
      obtain ⟨a, h1, h2, _⟩ := rel.sl i _ e0
      refine ⟨F, m, o, ρ, S, _, rel, t, fun d S1 m1 H1 v h r g q => ?_⟩
      split at h
      · rename_i y
        refine ⟨_, h2, F, m1, o, ρ, S1, _, r, h, fun kd S2 m2 H2 w hh r2 g2 q2 => ?_⟩
        split at hh
        · rename_i j
          obtain ⟨n, hn, hh⟩ := hh
          obtain ⟨b, k1, k2, ws, k3, k4⟩ := r2.sl i _ e0
          have hb := k1.symm.trans h1
          cases hb
          refine .inl ⟨_, ws, j, n, rfl, dp_int q2, k3, by rw [RpAll.length k4]; exact hn, ?_⟩
          have hi : i < ρ.length := (List.getElem?_eq_some_iff.mp e0).1
          obtain ⟨r3, g3⟩ := r2.wrO (u := .lst (ws.set n v)) (c := .lst (xs.set n y)) h1 hi h2 ⟨_, upd_same, RpAll.sub (fz_wr (.inr (.inr ⟨i, h1⟩))) (RpAll.set (Rp.sub g2.z q) n k4)⟩
          exact ok.nx _ S2 m2 o σ _ hh r3 ((g.trans g2).trans g3)
        · exact hh.elim
      · exact h.elim
    · rename_i n e0
      obtain ⟨h0, a, h2, h1⟩ := rel.sl i _ e0
      refine ⟨F, m, o, ρ, S, _, rel, t, fun d S1 m1 H1 v h r g q => ?_⟩
      split at h
      · rename_i y
        refine ⟨_, h2, F, m1, o, ρ, S1, _, r, h, fun kd S2 m2 H2 w hh r2 g2 q2 => ?_⟩
        split at hh
        · rename_i key
          split at hh
          · rename_i kvs e2
            obtain ⟨key, rfl, hl, hh⟩ := withKey_of hh
            have ha2 : m2 n = some a := g2.m n a (g.m n a h1)
            obtain ⟨c, e3, ws, k3, k4⟩ : ∃ c, S2[n]? = some c ∧ ∃ ws, H2 a = some (.dK ws) ∧ KRp X.K (Fz H2 (Mu F m2 o)) ws kvs := by
              obtain ⟨c, e3, k⟩ := r2.st.is n a ha2
              have := e3.symm.trans e2
              cases this
              obtain ⟨ws, k1, k2⟩ := k
              exact ⟨_, e3, ws, k1, k2⟩
            have el : ws.length = kvs.length := by
              have := congrArg List.length (KRp.keys k4)
              rwa [List.length_map, List.length_map] at this
            have hkv : w = kV key := key_rep (H := Fz H2 (Mu F m2 o)) q2
            refine .inr ⟨a, _, rfl, by rw [hkv]; exact DPut.k k3 (by rw [el]; exact hl), ?_⟩
            have hn : n < S2.length := (List.getElem?_eq_some_iff.mp e3).1
            obtain ⟨r3, g3⟩ := r2.wrS (u := .dK (putK ws key v)) (c := .dK (putD kvs key y)) ha2 hn ⟨_, upd_same, KRp.sub (fz_wr (.inr (.inl ⟨n, ha2⟩))) (KRp.put k4 (Rp.sub g2.z q))⟩
            exact ok.nx _ _ m2 o σ _ hh r3 ((g.trans g2).trans g3)
          · exact hh.elim
        · exact hh.elim
      · exact h.elim
    · exact t.elim
end
end L3

set_option maxHeartbeats 4000000
namespace L3
open PySem PySem.Spec L2

theorem u1 {A : Around} {k : Nat} (hr : Room k A) : A.units + 1 < cLine := by have := hr.un; omega
theorem u64 {A : Around} {k : Nat} (hr : Room k A) : A.units + 64 < cLine := by have := hr.un; omega
theorem u65 {A : Around} {k : Nat} (hr : Room k A) : A.units + 65 < cLine := by have := hr.un; omega
/-- a def of the module that keeps its reading -/
abbrev Cal (P : Program) (w : World) (K : PySem.W.Frag) (mg : Str → Option Value) (base : Heap) (x : Str) (L n : Nat) (ps : List Str) (tf : dFn) : Prop :=
  ∃ (f : Addr) (fd : FuncData), FnOk P w K mg base CX0 L f fd ps (spD K n tf) ∧ mg x = some (.ref f) ∧ PySem.W.keepIn K (.ref f) = true ∧ Binds K fd ps []
section
variable {X : Cx}
theorem de_cal {n L : Nat} {tf : dFn} {tas : dTA} {ps : List Str} {x : Str} {p pos : Pos} {e : Expr} {es : List Expr} (C : Cal X.prog X.w X.K X.mg X.base x L n ps tf) (hr : Room L X.A) (hg : Gl X x) (ha : DA X (e :: es) tas)
    (hdb : (x == ("__debug__" : Str)) = false := by decide) (he : starEach (e :: es) X.env = (false, eval e X.env) :: starEach es X.env := by rfl) (hpl : (backTo pos (starEach es X.env)).any (·.1) = false := by rfl) :
    DE X (.Call (.Name x p) (e :: es) [] pos) (dCall n tf tas) := by
  obtain ⟨f, fd, F, m, k, b⟩ := C
  exact de_call F hr m k b hg ha hdb he hpl
theorem de_cal0 {L : Nat} {tf : dFn} {ps : List Str} {x : Str} {p pos : Pos} (C : Cal X.prog X.w X.K X.mg X.base x L 0 ps tf) (hr : Room L X.A) (hg : Gl X x) (hdb : (x == ("__debug__" : Str)) = false := by decide) :
    DE X (.Call (.Name x p) [] [] pos) (dCall 0 tf dNil) := by
  obtain ⟨f, fd, F, m, k, b⟩ := C
  exact de_call0 F hr m k b hg hdb
end
theorem fn_dD {P : Program} {w : World} {K : PySem.W.Frag} {mg : Str → Option Value} {base : Heap} {x qual : Str} {st : Stmt} {f : Addr} {fd : FuncData} {N ps : List Str} {k : Nat} {t : dTS} {dvs : List V} {kws : List (Str × V)} (F : FunD K x qual (defArgs st) (defBody st) (defScope st) dvs kws f fd) (Sc : FnScope N ps (defScope st)) (hl : ps.length ≤ N.length)
    (hb : ∀ (cdv : Value) (A : Around) (outer : List Env) (s : Shared) (H : Hp) (E : XK), Room k (A.deeper (PyProof.Rows.envOfC qual (defScope st) s.heap.objs.size f cdv)) →
      DSs (cxOf CX0 P w K mg base N qual (defScope st) f cdv A outer s H E).nox (defBody st) t) : FnOk P w K mg base CX0 (k + 1) f fd ps (spD K ps.length (fnT N.length t)) := by
  refine F.ok Sc (fun vs H Q E h => h.1) fun cdv A outer s H vs Q E hr h => ?_
  obtain ⟨hv, Fo, m, S, ds, kk, stor, reps, nlo, ht, hk⟩ := h
  refine ⟨_, (hb cdv A outer s H E hr).nox, ?_⟩
  refine ⟨Fo, m, o0, _, S, _, rel_start stor reps nlo (by omega), ht, ⟨fun ρ S' m' o' σ' H' h r g => ?_, fun _ _ _ _ _ _ h => h.elim, fun _ _ _ _ _ _ h => h.elim, fun d ρ S' m' o' σ' H' v h r g q => ?_⟩⟩
  · exact hk _ S' m' H' .non h rfl r.st.o0 ⟨g.f, g.z.trans fz_o0, g.m⟩ .non
  · obtain ⟨n, h⟩ := nl_of h
    refine hk d S' m' H' v h n r.st.o0 ⟨g.f, g.z.trans fz_o0, g.m⟩ ?_
    cases d with
    | d x => exact Rp.sub fz_o0 q
    | ref j => exact q
    | loc j => cases n
end L3
namespace L3
open PySem PySem.Spec L2
/-- the law's own call -/
theorem law_sp {K : PySem.W.Frag} {tf : dFn} {H : Hp} {a : Addr} {ns : List Int} {E : XK} (hS : SqL K H a (ns.map V.int)) (h : tf [.d (scrD ns)] [] fun d _ => d = .d (.bool true)) : spD K 1 tf [.ref a] H (fun v _ => v = .bl true) E := by
  have nm : ∀ a, ¬ Mu (fun _ => False) (fun _ => none) o0 a := fun a z => by
    rcases z with z | ⟨n, z⟩ | ⟨n, z⟩
    · exact z
    · cases z
    · cases z
  refine ⟨rfl, fun _ => False, fun _ => none, [], [.d (scrD ns)], _, ?_, .cons ?_ .nil, rfl, h, fun d S' m' H' v e _ _ _ r => ?_⟩
  · exact ⟨fun n c e => (by simp at e), fun n a e => (by cases e), fun n k a e => (by cases e), fun n i a e => (by cases e), fun n a e => (by cases e), fun i j a e => (by cases e), fun i a e => (by cases e), fun a z => (nm a z).elim⟩
  · exact .scr (Sub.sqL (fun b u e => Fz.of (nm b) e) hS)
  · subst e
    exact dp_bl r
end L3

set_option maxHeartbeats 4000000
namespace L3
open PySem PySem.Spec L2
theorem Br.t' {b : Bool} {A B : Prop} (e : b = true) (h : A) : Br b A B := by subst e; exact Br.t h
theorem Br.f' {b : Bool} {A B : Prop} (e : b = false) (h : B) : Br b A B := by subst e; exact Br.f h
theorem Br.d {p : Prop} [Decidable p] {A B : Prop} (h : p → A) (h' : ¬ p → B) : Br (decide p) A B := Br.i (fun e => h (of_decide_eq_true e)) (fun e => h' (of_decide_eq_false e))
theorem Br.dT {p : Prop} [Decidable p] {A B : Prop} (e : p) (h : A) : Br (decide p) A B := Br.t' (decide_eq_true e) h
theorem Br.dF {p : Prop} [Decidable p] {A B : Prop} (e : ¬ p) (h : B) : Br (decide p) A B := Br.f' (decide_eq_false e) h
theorem At.nat {α : Type} {xs : List α} {k : α → Prop} {i : Nat} {z : α} (e : xs[i]? = some z) (h : k z) : At xs (i : Int) k := ⟨z, atI_nat e, h⟩
theorem At.int {α : Type} {xs : List α} {k : α → Prop} {i : Int} {z : α} (h0 : 0 ≤ i) (e : xs[i.toNat]? = some z) (h : k z) : At xs i k := by
  have : i = (i.toNat : Int) := by omega
  rw [this]
  exact ⟨z, atI_nat e, h⟩
theorem mulL {i j : Int} (h : -18446744073709551616 < i) (h' : i < 18446744073709551616) : CMul i j := .inl ⟨by omega, by omega⟩
theorem mulR {i j : Int} (h : -18446744073709551616 < j) (h' : j < 18446744073709551616) : CMul i j := .inr ⟨by omega, by omega⟩
theorem pow_ok {i j : Int} (h : 0 ≤ j ∧ j ≤ 1000000 ∧ i.natAbs < 18446744073709551616) : CPow i j := h
theorem div_ok {i j : Int} (h : 0 < j ∧ j < 1073741824) : CDiv i j := h
theorem small_ok {i : Int} (h : -4611686018427387904 ≤ i ∧ i < 4611686018427387904) : small62 i := ⟨by omega, by omega⟩
theorem line_le {n : Nat} (h : n ≤ 16777216) : n ≤ sizeLine := by rw [sizeLine_eq]; exact h
theorem line_lt {n : Nat} (h : n < 16777216) : n < sizeLine := by rw [sizeLine_eq]; exact h

/-! ### loops by what holds between the turns -/
theorem loop_inv0 {ok : Env3 → Sto → Prop} {g : dTG} {b : dTS} {E : dEnds} (I : Nat → Env3 → Sto → Prop) : ∀ (xs : List D) (i : Nat),
    (∀ j x, xs[j]? = some x → ∀ ρ S (K : Env3 → Sto → Prop), I (i + j) ρ S → (∀ ρ' S', I (i + j + 1) ρ' S' → K ρ' S') → ok ρ S ∧ g x ρ S fun ρ1 S1 => b { E with nx := K, ct := K, bk := E.nx } ρ1 S1) →
    (∀ ρ S, I (i + xs.length) ρ S → ok ρ S ∧ E.nx ρ S) → ∀ ρ S, I i ρ S → dLoop ok g b E xs ρ S
  | [], i, _, done, ρ, S, h => done ρ S h
  | x :: xs, i, step, done, ρ, S, h => by
    refine step 0 x rfl ρ S _ h fun ρ' S' h' => ?_
    refine loop_inv0 I xs (i + 1) (fun j y e ρ S K hI hK => ?_) (fun ρ S hI => done ρ S ?_) ρ' S' h'
    · have e1 : i + (j + 1) = i + 1 + j := by omega
      have := step (j + 1) y (by simpa using e) ρ S K
      rw [e1] at this
      exact this hI hK
    · rw [List.length_cons]
      have e1 : i + (xs.length + 1) = i + 1 + xs.length := by omega
      rw [e1]
      exact hI
theorem loop_inv {ok : Env3 → Sto → Prop} {g : dTG} {b : dTS} {E : dEnds} (I : Nat → Env3 → Sto → Prop) (xs : List D) (i : Nat)
    (h1 : ∀ j x, xs[j]? = some x → ∀ ρ S (K : Env3 → Sto → Prop), I (i + j) ρ S → (∀ ρ' S', I (i + j + 1) ρ' S' → K ρ' S') → ok ρ S ∧ g x ρ S fun ρ1 S1 => b { E with nx := K, ct := K, bk := E.nx } ρ1 S1)
    (h2 : ∀ ρ S, I (i + xs.length) ρ S → ok ρ S ∧ E.nx ρ S) (ρ : Env3) (S : Sto) (h : I i ρ S) : dLp ok g b E xs ρ S := dLp_of (loop_inv0 I xs i h1 h2 ρ S h)
theorem comp_inv {ok : Env3 → Sto → Prop} {g : dTG} {tt : dTT} {te : dTE} {ρ : Env3} {Q : List D → Sto → Prop} (I : Nat → List D → Sto → Prop) : ∀ (xs : List D) (i : Nat),
    (∀ j x, xs[j]? = some x → ∀ acc S (K : DK) (K' : Sto → Prop), I (i + j) acc S → (∀ y S', I (i + j + 1) (acc ++ [y]) S' → K (.d y) S') → (∀ S', I (i + j + 1) acc S' → K' S') →
      ok ρ S ∧ acc.length < sizeLine ∧ ((∀ d S', K d S' → ∃ y, d = .d y) → g x ρ S fun ρ1 S1 => tt ρ1 S1 fun b S2 => Br b (te ρ1 S2 K) (K' S2))) →
    (∀ acc S, I (i + xs.length) acc S → ok ρ S ∧ Q acc S) → ∀ acc S, I i acc S → cLoop ok g tt te ρ Q xs acc S
  | [], i, _, done, acc, S, h => done acc S h
  | x :: xs, i, step, done, acc, S, h => by
    have ih := comp_inv (ok := ok) (g := g) (tt := tt) (te := te) (ρ := ρ) (Q := Q) I xs (i + 1) (fun j y e acc S K K' hI hK hK' => by
      have e1 : i + (j + 1) = i + 1 + j := by omega
      have := step (j + 1) y (by simpa using e) acc S K K'
      rw [e1] at this
      exact this hI hK hK') (fun acc S hI => done acc S (by
      rw [List.length_cons]
      have e1 : i + (xs.length + 1) = i + 1 + xs.length := by omega
      rw [e1]
      exact hI))
    obtain ⟨h1, hl, h2⟩ := step 0 x rfl acc S (fun d S3 => withDs [d] fun ys => acc.length < sizeLine ∧ cLoop ok g tt te ρ Q xs (acc ++ ys) S3) (fun S2 => cLoop ok g tt te ρ Q xs acc S2) h
      (fun y S' hI => ⟨(step 0 x rfl acc S (fun d S3 => True) (fun _ => True) h (fun _ _ _ => trivial) (fun _ _ => trivial)).2.1, ih _ _ hI⟩) (fun S' hI => ih _ _ hI)
    refine ⟨h1, h2 fun d S' hk => ?_⟩
    cases d with
    | d y => exact ⟨y, rfl⟩
    | ref n => exact hk.elim
    | loc n => exact hk.elim
/-- a comprehension that changes nothing: the source's items through f -/
theorem comp_map {g : dTG} {te : dTE} {ρ : Env3} {S : Sto} {Q : List D → Sto → Prop} {ok : Env3 → Sto → Prop} (f : D → D) (xs : List D) (hok : ok ρ S) (hl : xs.length ≤ 16777216)
    (h : ∀ x ∈ xs, ∀ (K : DK) (K' : Sto → Prop), K (.d (f x)) S → g x ρ S fun ρ1 S1 => dYes ρ1 S1 fun b S2 => Br b (te ρ1 S2 K) (K' S2)) (q : Q (xs.map f) S) : cLoop ok g dYes te ρ Q xs [] S := by
  refine comp_inv (fun i acc S' => S' = S ∧ acc = (xs.take i).map f) xs 0 (fun j x e acc S' K K' hI hK hK' => ?_) (fun acc S' hI => ?_) [] S ⟨rfl, rfl⟩
  · obtain ⟨rfl, rfl⟩ := hI
    refine ⟨hok, ?_, fun _ => h x (List.mem_of_getElem? e) K K' (hK _ _ ⟨rfl, ?_⟩)⟩
    · have := (List.getElem?_eq_some_iff.mp e).1
      refine line_lt ?_
      rw [List.length_map, List.length_take]
      omega
    · rw [Nat.zero_add] at *
      rw [List.take_add_one, e, List.map_append]
      rfl
  · obtain ⟨rfl, rfl⟩ := hI
    rw [Nat.zero_add, List.take_length]
    exact ⟨hok, q⟩
end L3

set_option maxHeartbeats 4000000
namespace L3
open PySem PySem.Spec L2

/-! ### sorted -/
def insI (x : Int) : List Int → List Int
  | [] => [x]
  | y :: r => if x ≤ y then x :: y :: r else y :: insI x r
def sortI : List Int → List Int
  | [] => []
  | x :: r => insI x (sortI r)
theorem insI_perm (x : Int) : ∀ l : List Int, (insI x l).Perm (x :: l)
  | [] => .refl _
  | y :: r => by
    unfold insI
    split
    · exact .refl _
    · exact ((insI_perm x r).cons y).trans (List.Perm.swap x y r)
theorem sortI_perm : ∀ l : List Int, (sortI l).Perm l
  | [] => .refl _
  | x :: r => (insI_perm x (sortI r)).trans ((sortI_perm r).cons x)
theorem insI_rise (x : Int) : ∀ {l : List Int}, l.Pairwise (· ≤ ·) → (insI x l).Pairwise (· ≤ ·)
  | [], _ => by simp [insI]
  | y :: r, h => by
    obtain ⟨h1, h2⟩ := List.pairwise_cons.mp h
    unfold insI
    split
    · rename_i hxy
      refine List.pairwise_cons.mpr ⟨fun z hz => ?_, h⟩
      rcases List.mem_cons.mp hz with rfl | hz
      · exact hxy
      · exact Int.le_trans hxy (h1 z hz)
    · rename_i hxy
      refine List.pairwise_cons.mpr ⟨fun z hz => ?_, insI_rise x h2⟩
      rcases List.mem_cons.mp ((insI_perm x r).mem_iff.mp hz) with rfl | hz
      · omega
      · exact h1 z hz
theorem sortI_rise : ∀ l : List Int, (sortI l).Pairwise (· ≤ ·)
  | [] => .nil
  | x :: r => insI_rise x (sortI_rise r)
theorem rise_unique : ∀ {l m : List Int}, l.Pairwise (· ≤ ·) → m.Pairwise (· ≤ ·) → l.Perm m → l = m
  | [], m, _, _, p => by have := p.length_eq; cases m with | nil => rfl | cons => cases this
  | x :: r, [], _, _, p => by have := p.length_eq; cases this
  | x :: r, y :: t, h, k, p => by
    obtain ⟨h1, h2⟩ := List.pairwise_cons.mp h
    obtain ⟨k1, k2⟩ := List.pairwise_cons.mp k
    have e : x = y := by
      have a : y ≤ x := by
        rcases List.mem_cons.mp (p.mem_iff.mp (List.mem_cons_self ..)) with z | z
        · exact Int.le_of_eq z.symm
        · exact k1 x z
      have b : x ≤ y := by
        rcases List.mem_cons.mp (p.mem_iff.mpr (List.mem_cons_self ..)) with z | z
        · exact Int.le_of_eq z.symm
        · exact h1 y z
      exact Int.le_antisymm b a
    subst e
    rw [rise_unique h2 k2 p.cons_inv]
theorem sortI_is {l m : List Int} (p : m.Perm l) (h : m.Pairwise (· ≤ ·)) : m = sortI l := rise_unique h (sortI_rise l) (p.trans (sortI_perm l).symm)
/-- texts, by their signs -/
def leC : List Nat → List Nat → Bool
  | [], _ => true
  | _ :: _, [] => false
  | a :: r, b :: t => if a < b then true else if b < a then false else leC r t
def insS (x : Str) : List Str → List Str
  | [] => [x]
  | y :: r => bif leC x.cps.toList y.cps.toList then x :: y :: r else y :: insS x r
def sortS : List Str → List Str
  | [] => []
  | x :: r => insS x (sortS r)
def fSorted : FN := fun ds k => match ds with
  | [.list xs] => withL (intsOf xs) fun ns => k (.list ((sortI ns).map .int))
  | _ => False
section
variable {X : Cx}
theorem c_sorted : ∃ r, CallR X (.builtin "sorted") r ∧ CallD X.K r fSorted := by
  refine ⟨_, cr_sortedI, fun M H xs ds k Q al rx h fin => ?_⟩
  unfold fSorted at h
  split at h
  · obtain ⟨ns, e, h⟩ := withL_of h
    obtain ⟨v, rfl, r1⟩ := vreps1 rx
    obtain ⟨a, vs, rfl, h1, _, h2⟩ := r1.list'
    rw [intsOf_is e] at h2
    have e3 := RpAll.ints h2
    subst e3
    refine ⟨a, ns, rfl, h1, fun ns' p pm rs hp => ?_⟩
    have e4 := sortI_is pm rs
    subst e4
    refine fin _ _ _ h (sub_upd hp) (new_lst al hp ?_)
    have : ∀ l : List Int, RpAll X.K (Fz H M) (l.map V.int) (l.map .int) := fun l => by
      induction l with
      | nil => exact .nil
      | cons i r ih => exact .cons (.int i) ih
    exact this _
  · exact h.elim
end

/-! ### count -/
open Builtin Builtin.Str StrLaws in
theorem occ_count (x : Str) (c : Nat) : ∀ (k a : Nat) (acc : Array Nat) (free : Nat), free ≤ a → acc.size ≤ a → a + k = x.length + 1 →
    ((forIn (List.range' a k) (acc, free) (occBody x ⟨#[c]⟩ x.length (x.length + 1))).run.fst).size = acc.size + (x.cps.toList.drop a).count c
  | 0, a, acc, free, _, _, h => by
    have : x.cps.toList.drop a = [] := List.drop_eq_nil_of_le (by rw [Array.length_toList]; show x.length ≤ a; omega)
    rw [this]
    rfl
  | k + 1, a, acc, free, hf, hs, h => by
    rw [List.range'_succ, List.forIn_cons]
    unfold occBody
    have key := subAt_one x c a
    by_cases hc : x.cps.toList[a]? = some c
    · obtain ⟨k1, k2⟩ := key.mpr hc
      have hlt : a < x.cps.toList.length := (List.getElem?_eq_some_iff.mp hc).1
      rw [if_pos ⟨⟨⟨by show acc.size < x.length + 1; omega, hf⟩, k1⟩, k2⟩]
      show ((forIn (List.range' (a + 1) k) (acc.push a, a + 1) (occBody x ⟨#[c]⟩ x.length (x.length + 1))).run.fst).size = _
      rw [occ_count x c k (a + 1) (acc.push a) (a + 1) (Nat.le_refl _) (by rw [Array.size_push]; omega) (by omega), Array.size_push, List.drop_eq_getElem_cons hlt, List.count_cons]
      rw [List.getElem?_eq_getElem hlt] at hc
      rw [Option.some.inj hc]
      simp
      omega
    · have hn : ¬ ((((acc, free).fst.size < x.length + 1 ∧ (acc, free).snd ≤ a) ∧ a + (⟨#[c]⟩ : Str).length ≤ x.length) ∧ subAt x ⟨#[c]⟩ a = true) := fun z => hc (key.mp ⟨z.1.2, z.2⟩)
      rw [if_neg hn]
      show ((forIn (List.range' (a + 1) k) (acc, free) (occBody x ⟨#[c]⟩ x.length (x.length + 1))).run.fst).size = _
      rw [occ_count x c k (a + 1) acc free (by omega) (by omega) (by omega)]
      by_cases hlt : a < x.cps.toList.length
      · rw [List.drop_eq_getElem_cons hlt, List.count_cons]
        rw [List.getElem?_eq_getElem hlt] at hc
        have : (x.cps.toList[a] == c) = false := beq_eq_false_iff_ne.mpr fun z => hc (by rw [z])
        rw [this]
        simp
      · rw [List.drop_eq_nil_of_le (by omega), List.drop_eq_nil_of_le (by omega)]
open Builtin Builtin.Str StrLaws in
theorem count_one (x : Str) (c : Nat) : Txt.count x ⟨#[c]⟩ = ((x.cps.toList.count c : Nat) : Int) := by
  unfold Txt.count
  rw [occ_eq, Array.length_toList, occ_count x c _ 0 #[] 0 (Nat.le_refl _) (Nat.zero_le _) (by omega)]
  simp
def fCount : FM := fun x ds k => match x, ds with
  | .str z, [.str ⟨⟨[c]⟩⟩] => k (.int ((z.cps.toList.count c : Nat) : Int))
  | _, _ => False
def fLCount : FM := fun x ds k => match x, ds with
  | .list xs, [.int i] => withL (intsOf xs) fun ns => k (.int ((ns.count i : Nat) : Int))
  | _, _ => False
section
variable {X : Cx}
theorem m_count : ∃ r, MtR X "str.count" r ∧ MtD X.K r fCount := by
  refine ⟨_, mt_count, fun M H x xs dx ds k Q al rx rs h fin => ?_⟩
  unfold fCount at h
  split at h
  · rename_i z c
    obtain ⟨v, rfl, r1⟩ := vreps1 rs
    have e1 := rx.str
    have e2 := r1.str
    subst e1 e2
    refine ⟨_, _, rfl, rfl, ?_⟩
    rw [count_one]
    exact fin _ _ _ h (Sub.refl _) (.int _)
  · exact h.elim
theorem m_lcount : ∃ r, MtR X "list.count" r ∧ MtD X.K r fLCount := by
  refine ⟨_, mt_lcount, fun M H x xs dx ds k Q al rx rs h fin => ?_⟩
  unfold fLCount at h
  split at h
  · obtain ⟨ns, e, h⟩ := withL_of h
    obtain ⟨v, rfl, r1⟩ := vreps1 rs
    have e2 := r1.int
    subst e2
    obtain ⟨a, vs, rfl, h1, _, h2⟩ := rx.list'
    rw [intsOf_is e] at h2
    have e3 := RpAll.ints h2
    subst e3
    exact ⟨a, ns, _, rfl, rfl, h1, fin _ _ _ h (Sub.refl _) (.int _)⟩
  · exact h.elim
end

/-! ### a new list by + and * -/
def fRep (t : dTF) (te : dTE) : dTF := fun ρ S Q => t ρ S fun xs S1 => te ρ S1 fun d S2 => match d with
  | .d (.int n) => (-(2 ^ 63) ≤ n ∧ n < 2 ^ 63 ∧ xs.length * n.toNat ≤ sizeLine) ∧ Q (List.replicate n.toNat xs).flatten S2
  | _ => False
section
variable {X : Cx}
theorem df_rep {a b : Expr} {t : dTF} {te : dTE} {pos : Pos} (ha : DF X a t) (hb : DE X b te) : DF X (.BinOp a .Mult b pos) (fRep t te) := PE.imp (pe_op op_rep ha hb) fun σ H Q q => by
  obtain ⟨F, m, o, ρ, S, k, rel, t0, hk⟩ := q
  refine ⟨F, m, o, ρ, S, _, rel, t0, fun xs S1 m1 H1 p vs h r g hp dp => ?_⟩
  have s1 : Sub H1 (upd H1 p (.lst vs)) := sub_upd hp
  have r1 := r.sub s1
  refine ⟨F, m1, o, ρ, S1, _, r1, h, fun d S2 m2 H2 v h2 r2 g2 q2 => ?_⟩
  split at h2
  · rename_i n
    obtain ⟨⟨c1, c2, c3⟩, h2⟩ := h2
    have rl : Rp X.K (Fz (upd H1 p (.lst vs)) (Mu F m1 o)) (.ref p) (.list xs) := new_lst r.st.alive hp dp
    have rl2 : Rp X.K (Fz H2 (Mu F m2 o)) (.ref p) (.list xs) := Rp.sub g2.z rl
    cases rl2 with
    | @lst a ws ds e1 e2 =>
      refine ⟨p, n, _, rfl, dp_int q2, (Fz.at e1).2, c1, c2, by rw [RpAll.length e2]; exact c3, fun p2 hp2 => ?_⟩
      exact hk _ S2 m2 H2 p2 _ h2 r2 ((g.trans (Grow.sub r s1)).trans g2) hp2 (flat_rep e2 _)
  · exact h2.elim
end

/-! ### xs[i] += e, xs one's own -/
def dAugI (i : Nat) (f : F2) (tk te : dTE) : dTS := fun E ρ S => match ρ[i]? with
  | some (.own (.lst xs)) => tk ρ S fun kd S1 => match kd with
    | .d (.int j) => ∃ n x, ixN xs.length j = some n ∧ xs[n]? = some x ∧ te ρ S1 fun d S2 => match d with
      | .d y => f x y fun z => E.nx (ρ.set i (.own (.lst (xs.set n z)))) S2
      | _ => False
    | _ => False
  | _ => False
section
variable {X : Cx}
theorem atI_of_ixN {α : Type} {xs : List α} {i : Int} {n : Nat} {x : α} (h : ixN xs.length i = some n) (e : xs[n]? = some x) : atI xs i = some x := by
  unfold atI
  rw [h]
  exact e
theorem get_list : PGet X (rIxL X.K) := by
  intro pins s σ H o i ov iv Q I ro ri h
  obtain ⟨p, xs, i, z, rfl, rfl, hq, he, q⟩ := h
  cases ro
  obtain ⟨t, rfl⟩ := ri
  obtain ⟨its, r, pl, hz⟩ := I.list hq
  obtain ⟨j, h1, h2, h3, h4, h5⟩ := atI_get he
  obtain ⟨w, ew, rw'⟩ := r.get h2
  have hl := r.length
  have hn := line63
  have fin : EP X pins σ Q w s := ⟨z, H, I, rw', q⟩
  by_cases h0 : 0 ≤ i
  · have hj : i.toNat = j := by
      rw [seqIndex_of h0 h5] at h1
      exact Option.some.inj h1
    exact wpAny_getItem_list pl.isList h0 (by omega) (by rw [hj]; simpa using ew) fin
  · have hj : (i + (its.toArray.size : Int)).toNat = j := by
      rw [seqIndex_neg (by omega) h4] at h1
      rw [List.size_toArray, ← hl]
      exact Option.some.inj h1
    exact wpAny_getItem_list_neg pl.isList (by omega) (by rw [List.size_toArray] <;> omega) (by omega) (by rw [hj]; simpa using ew) fin
end
end L3

set_option maxHeartbeats 4000000
namespace L3
open PySem PySem.Spec L2 PyProof.Rows

/-! ### what an iterator walks: a list, a tuple, a text -/
inductive Wk where
  | L (a : Addr)
  | T (a : Addr)
  | S (z : Str) (t : Tok)
def Wk.its (it : Addr) (i : Nat) (h : Heap) : Wk → Prop
  | .L a => h.IsListIter it a i
  | .T a => h.IsTupleIter it a i
  | .S z t => h.IsStrIter it (strIterType z) z t i
def Wk.own : Wk → List Addr
  | .L a => [a]
  | .T a => [a]
  | .S _ _ => []
/-- n items stand -/
def Wk.len (K : PySem.W.Frag) (H : Hp) (n : Nat) : Wk → Prop
  | .L a => ∃ xs, SqL K H a xs ∧ xs.length = n
  | .T a => ∃ xs, SqT K H a xs ∧ xs.length = n
  | .S z _ => z.cps.size = n
def Wk.is (K : PySem.W.Frag) (H : Hp) (i : Nat) (x : V) : Wk → Prop
  | .L a => ∀ xs, SqL K H a xs → xs[i]? = some x
  | .T a => ∀ xs, SqT K H a xs → xs[i]? = some x
  | .S z _ => ∃ c, z.cps[i]? = some c ∧ x = .str ⟨#[c]⟩
theorem wk_obj {k : Wk} {it : Addr} {i : Nat} {h : Heap} (st : k.its it i h) : ∃ o, h.get? it = some o ∧ ∀ v, o.data ≠ .cell v := by
  cases k with
  | L a => obtain ⟨o, e, _, d⟩ := st; exact ⟨o, e, fun v q => by rw [d] at q; cases q⟩
  | T a => obtain ⟨o, e, _, d⟩ := st; exact ⟨o, e, fun v q => by rw [d] at q; cases q⟩
  | S z t => obtain ⟨o, e, _, d⟩ := st; exact ⟨o, e, fun v q => by rw [d] at q; cases q⟩
theorem wk_at {k : Wk} {it : Addr} {i : Nat} {h h' : Heap} (st : k.its it i h) (e : ∀ o, h.get? it = some o → h'.get? it = some o) : k.its it i h' := by
  cases k with
  | L a => exact st.at e
  | T a => exact st.at e
  | S z t => obtain ⟨o, q, r⟩ := st; exact ⟨o, e o q, r⟩
theorem vals_getV : ∀ {xs : List V} {us : List Value} {i : Nat} {u : Value}, Vals xs us → us[i]? = some u → ∃ x, xs[i]? = some x ∧ RelV x u
  | _, _, _, _, .nil, e => by simp at e
  | _, _, 0, _, .cons r _, e => by simp at e; subst e; exact ⟨_, rfl, r⟩
  | _, _, i + 1, u, .cons _ t, e => by
    obtain ⟨x, h1, h2⟩ := vals_getV (i := i) (u := u) t (by simpa using e)
    exact ⟨x, by simpa using h1, h2⟩
theorem wk_draws {X : Cx} {pins : List (Addr × Obj)} {σ : L2.St} {H : Hp} {s : Shared} {k : Wk} {it : Addr} {i n : Nat} (I : Inv X pins σ H s) (hh : X.A.handled = none) (ne : it ∉ k.own) (st : k.its it i s.heap) (hn : k.len X.K H n) :
    ∃ (P : Nat → Value → Prop) (St : Nat → Heap → Prop), Draws X.prog X.w X.A.in1 it (it :: k.own) n P St ∧ St i s.heap ∧ (∀ j h, St j h → k.its it j h) ∧ ∀ j u, P j u → ∃ x, RelV x u ∧ k.is X.K H j x := by
  cases k with
  | L a =>
    obtain ⟨xs, hq, rfl⟩ := hn
    obtain ⟨its, rv, p, _⟩ := I.list hq
    have D := Draws.list (prog := X.prog) (w := X.w) (A := X.A.in1) hh it a (fun e => ne (by simp [Wk.own, e])) its.toArray
    rw [List.size_toArray, ← rv.length] at D
    refine ⟨fun i v => its.toArray[i]? = some v, fun i h => h.IsListIter it a i ∧ h.IsList a its.toArray, D, ⟨st, p.isList⟩, fun j h q => q.1, fun j u hu => ?_⟩
    obtain ⟨x, hx, r⟩ := vals_getV rv (by simpa using hu)
    exact ⟨x, r, fun ys hy => by rw [I.list_inj hy hq]; exact hx⟩
  | T a =>
    obtain ⟨xs, hq, rfl⟩ := hn
    obtain ⟨its, rv, p, _⟩ := I.tuple hq
    have D := Draws.tuple (prog := X.prog) (w := X.w) (A := X.A.in1) hh it a (fun e => ne (by simp [Wk.own, e])) its.toArray
    rw [List.size_toArray, ← rv.length] at D
    refine ⟨fun i v => its.toArray[i]? = some v, fun i h => h.IsTupleIter it a i ∧ h.IsTuple a its.toArray, D, ⟨st, p⟩, fun j h q => q.1, fun j u hu => ?_⟩
    obtain ⟨x, hx, r⟩ := vals_getV rv (by simpa using hu)
    exact ⟨x, r, fun ys hy => by rw [I.tuple_inj hy hq]; exact hx⟩
  | S z t =>
    obtain rfl : z.cps.size = n := hn
    refine ⟨_, _, Draws.text (prog := X.prog) (w := X.w) (A := X.A.in1) hh it z t, st, fun j h q => q, fun j u hu => ?_⟩
    obtain ⟨c, tk, e, rfl⟩ := hu
    exact ⟨.str ⟨#[c]⟩, ⟨tk, rfl⟩, c, e, rfl⟩

/-! ### zip of any two -/
def ItZ (K : PySem.W.Frag) (k1 k2 : Wk) : It :=
  ⟨fun i H => ∃ n m, k1.len K H n ∧ k2.len K H m ∧ i < n ∧ i < m,
    fun i H v H' => ∃ T x y, v = .ref T ∧ H T = none ∧ H' = upd H T (.tup [x, y]) ∧ k1.is K H i x ∧ k2.is K H i y,
    fun i H => ∃ n m, k1.len K H n ∧ k2.len K H m ∧ i ≤ n ∧ i ≤ m ∧ (i = n ∨ i = m)⟩
theorem turn_zipW {P : Program} {w : World} {K : PySem.W.Frag} {elts : List Expr} {kk : Nat} {tpos : Pos} {k1 k2 : Wk} {z TI TO i1 i2 : Addr} (D : ZipSep2 z TI TO i1 i2 (i1 :: k1.own) (i2 :: k2.own)) (n1 : i1 ∉ k1.own) (n2 : i2 ∉ k2.own) :
    Turn P w K (.Tuple elts kk tpos) (ItZ K k1 k2) [z, TI, TO, i1, i2] z (fun i h => IsZip h z TI TO .none ∧ IsTupOf2 h TI (.ref i1) (.ref i2) ∧ (∃ x y, IsTupOf2 h TO x y) ∧ k1.its i1 i h ∧ k2.its i2 i h) where
  mem := by simp
  obj := fun i h st c hc => by
    obtain ⟨hz, hTI, ⟨x, y, hTO⟩, h1, h2⟩ := st
    have e' : c = z ∨ c = TI ∨ c = TO ∨ c = i1 ∨ c = i2 := by simpa using hc
    rcases e' with q | q | q | q | q
    · rw [q]; exact ⟨_, hz, fun v q => nomatch q⟩
    · rw [q]; exact ⟨_, hTI, fun v q => nomatch q⟩
    · rw [q]; exact ⟨_, hTO, fun v q => nomatch q⟩
    · rw [q]; exact wk_obj h1
    · rw [q]; exact wk_obj h2
  keep := fun i h h' st k => by
    obtain ⟨hz, hTI, ⟨x, y, hTO⟩, h1, h2⟩ := st
    exact ⟨k z (by simp) _ hz, k TI (by simp) _ hTI, ⟨x, y, k TO (by simp) _ hTO⟩, wk_at h1 fun o q => k i1 (by simp) o q, wk_at h2 fun o q => k i2 (by simp) o q⟩
  item := by
    intro X hP hw hK hc i pins s σ H E I hf st hg
    subst hP hw hK
    obtain ⟨hz, hTI, ⟨x0, y0, hTO⟩, h1, h2⟩ := st
    obtain ⟨n, m, hn, hm, hi1, hi2⟩ := hg
    obtain ⟨P1, St1, D1, s1, b1, r1⟩ := wk_draws I (I.ok.hd hc) n1 h1 hn
    obtain ⟨P2, St2, D2, s2, b2, r2⟩ := wk_draws I (I.ok.hd hc) n2 h2 hm
    have hzl : z < s.heap.objs.size := Heap.lt_size hz
    refine wpAny_pyNext_zipD2_item D D1 D2 hz hTI hTO s1 s2 hi1 hi2 fun u u2 h' tk p1 p2 z' TO' h1' h2' hT hsz hk => ?_
    obtain ⟨x, ru, hx⟩ := r1 _ _ p1
    obtain ⟨y, ru2, hy⟩ := r2 _ _ p2
    refine ⟨_, rfl, wpAny_letOwnedTupleGo_zip (s := { s with heap := h', toks := tk }) z' fun h'' z'' sb => ?_⟩
    have hT2 : h''.get? s.heap.objs.size = some { cls := .type "tuple", data := .seq #[u, u2] } := (sb.2 _ (Nat.ne_of_gt hzl)).trans hT
    have new : ObjOk X.prog X.w (upd H s.heap.objs.size (.tup [x, y])) h'' s.heap.objs.size (.tup [x, y]) :=
      ⟨by show 2 ≤ sizeLine; decide, [u, u2], .cons ru (.cons ru2 .nil), ⟨_, hT2, rfl, _, rfl⟩⟩
    have I1 : Inv X pins σ (upd H s.heap.objs.size (.tup [x, y])) { s with heap := h'', toks := tk } :=
      I.turnedNew (t' := tk) (ch := [z, TI, TO, i1, i2]) (fun c o hb q => (sb.2 c (fun q' => hb (by simp [q']))).trans (hk c o (fun q' => hb (by simp [q'])) (fun q' => hb (by simp [q'])) (fun q' => hb (by simp [q'])) (fun q' => hb (by simp [q'])) q)) hf (Nat.le_refl _) new
    refine ⟨.ref s.heap.objs.size, _, I1, rfl, ⟨_, x, y, rfl, I.hok.fresh (Nat.le_refl _), rfl, hx, hy⟩, ⟨z'', ?_, ⟨u, u2, ?_⟩, ?_, ?_⟩, fun c hcm => ?_⟩
    · exact (sb.2 _ D.TIz).trans (hk _ _ D.TIz D.TITO D.TIi1 D.TIi2 hTI)
    · exact (sb.2 _ D.TOz).trans TO'
    · exact wk_at (b1 _ _ h1') fun o q => (sb.2 _ (Ne.symm D.zi1)).trans q
    · exact wk_at (b2 _ _ h2') fun o q => (sb.2 _ (Ne.symm D.zi2)).trans q
    · have hlt : c < s.heap.objs.size := by
        have e' : c = z ∨ c = TI ∨ c = TO ∨ c = i1 ∨ c = i2 := by simpa using hcm
        rcases e' with q | q | q | q | q
        · rw [q]; exact hzl
        · rw [q]; exact Heap.lt_size hTI
        · rw [q]; exact Heap.lt_size hTO
        · rw [q]; obtain ⟨_, e1, _⟩ := wk_obj h1; exact Heap.lt_size e1
        · rw [q]; obtain ⟨_, e2, _⟩ := wk_obj h2; exact Heap.lt_size e2
      rw [upd_ne (Nat.ne_of_lt hlt)]
      exact (hf c hcm).1
  done := by
    intro X hP hw hK hc i pins s σ H E I hf st hg
    subst hP hw hK
    obtain ⟨hz, hTI, ⟨x0, y0, hTO⟩, h1, h2⟩ := st
    obtain ⟨n, m, hn, hm, hi1, hi2, hend⟩ := hg
    obtain ⟨P1, St1, D1, s1, b1, r1⟩ := wk_draws I (I.ok.hd hc) n1 h1 hn
    obtain ⟨P2, St2, D2, s2, b2, r2⟩ := wk_draws I (I.ok.hd hc) n2 h2 hm
    exact wpAny_pyNext_zipD2_end D D1 D2 hz hTI hTO s1 s2 hi1 hi2 hend fun h' tk hk => ⟨rfl, I.turnedL (t' := tk) (ch := [z, TI, TO, i1, i2]) (fun c o hb q =>
      hk c o (fun q' => hb (by simp [q'])) (fun q' => hb (by simp [q'])) (fun q' => hb (by simp [q'])) (fun q' => hb (by simp [q'])) q) hf⟩
  self := fun A i s Q E st h => wpAny_pyIter_zip st.1 h
/-- a value that is walked -/
inductive Walked (K : PySem.W.Frag) (H : Hp) : V → Wk → Prop
  | l {a : Addr} {xs : List V} : SqL K H a xs → Walked K H (.ref a) (.L a)
  | t {a : Addr} {xs : List V} : SqT K H a xs → Walked K H (.ref a) (.T a)
  | s {z : Str} {t : Tok} : Walked K H (.str z) (.S z t)
def Wk.obj : Wk → Obj
  | .L a => { cls := .type "list_iterator", data := .fields #[.ref a, .int 0 0] }
  | .T a => { cls := .type "tuple_iterator", data := .fields #[.ref a, .int 0 0] }
  | .S z t => { cls := .type (strIterType z), data := .fields #[.str z t, .int 0 0] }
/-- as the machine begins -/
theorem walked_begins {X : Cx} {pins : List (Addr × Obj)} {σ : L2.St} {H : Hp} {s : Shared} {v : V} {u : Value} {k : Wk} (I : Inv X pins σ H s) (r : RelV v u) (h : Walked X.K H v k) :
    ∃ (k' : Wk) (Hs : Heap → Prop), Begins u k'.obj Hs ∧ Hs s.heap ∧ (∀ b ∈ k'.own, b < s.heap.objs.size) ∧ (∀ it h, h.get? it = some k'.obj → k'.its it 0 h) ∧ (∀ n H, k.len X.K H n ↔ k'.len X.K H n) ∧ ∀ i x H, k.is X.K H i x ↔ k'.is X.K H i x := by
  cases h with
  | @l a xs h =>
    cases r
    obtain ⟨its, rv, p, _⟩ := I.list h
    refine ⟨.L a, _, begins_list a its.toArray, p.isList, fun b hb => ?_, fun it h e => ⟨_, e, rfl, rfl⟩, fun _ _ => .rfl, fun _ _ _ => .rfl⟩
    have e : b = a := by simpa [Wk.own] using hb
    rw [e]
    exact p.lt
  | @t a xs h =>
    cases r
    obtain ⟨its, rv, p, _⟩ := I.tuple h
    refine ⟨.T a, _, begins_tuple a its.toArray, p, fun b hb => ?_, fun it h e => ⟨_, e, rfl, rfl⟩, fun _ _ => .rfl, fun _ _ _ => .rfl⟩
    have e : b = a := by simpa [Wk.own] using hb
    rw [e]
    obtain ⟨o1, ho1, _⟩ := id p
    exact Heap.lt_size ho1
  | @s z t =>
    obtain ⟨t', rfl⟩ := r
    exact ⟨.S z t', _, begins_text z t', trivial, fun b hb => (by cases hb), fun it h e => ⟨_, e, rfl, rfl⟩, fun _ _ => .rfl, fun _ _ _ => .rfl⟩
def iZipW (K : PySem.W.Frag) (ta : TA) : TI := fun σ H R => ta σ H fun vs H1 => ∃ v1 v2 k1 k2, vs = [v1, v2] ∧ Walked K H1 v1 k1 ∧ Walked K H1 v2 k2 ∧
  ∀ k1' k2' : Wk, (∀ n H, k1.len K H n ↔ k1'.len K H n) → (∀ i x H, k1.is K H i x ↔ k1'.is K H i x) → (∀ n H, k2.len K H n ↔ k2'.len K H n) → (∀ i x H, k2.is K H i x ↔ k2'.is K H i x) → R (ItZ K k1' k2') H1
theorem pi_zipW {X : Cx} {e e2 : Expr} {ta : TA} {p pos tpos : Pos} {elts : List Expr} {kk : Nat} (hg : Gl X "zip") (hm : X.mg "zip" = none) (ha : PA X [e, e2] ta)
    (hs : starEach [e, e2] X.env = (false, eval e X.env) :: starEach [e2] X.env := by rfl) (hpl : (backTo pos (starEach [e2] X.env)).any (·.1) = false := by rfl) :
    PI X (.Tuple elts kk tpos) (.Call (.Name "zip" p) [e, e2] [] pos) (iZipW X.K ta) := by
  refine ⟨fun pins s σ H R I h => ?_⟩
  refine Call_ (ld_blt I hg hm PyProof.Rows.boot_zip (PyProof.Rows.callWith_type1 (thn (ha.run pos pins s σ H _ I h) fun us s1 ⟨vs, H1, I1, r1, q1⟩ => ?_) hs hpl))
  obtain ⟨v1, v2, k1, k2, ex, w1, w2, q1⟩ := q1
  subst ex
  cases r1 with
  | cons r rr =>
    cases rr with
    | cons r' rr =>
      cases rr
      obtain ⟨k1', Hs1, B1, b1, l1, t1, ln1, is1⟩ := walked_begins I1 r w1
      obtain ⟨k2', Hs2, B2, b2, l2, t2, ln2, is2⟩ := walked_begins I1 r' w2
      refine zip_begins2 B1 B2 b1 b2 fun h' hz hTI hTO h1 h2 hsz hk => wpAny_pyIter_zip hz ?_
      have I2 : Inv X pins σ H1 { s1 with heap := h' } := I1.kept (t' := s1.toks) hk
      refine ⟨s1.heap.objs.size + 4, [s1.heap.objs.size + 4, s1.heap.objs.size + 2, s1.heap.objs.size + 3, s1.heap.objs.size, s1.heap.objs.size + 1], _, _, H1, rfl, I2,
        turn_zipW (zip_sep2 l1 l2) (fun q => Nat.lt_irrefl _ (l1 _ q)) (fun q => ?_), ⟨hz, hTI, ⟨_, _, hTO⟩, t1 _ _ h1, t2 _ _ h2⟩, fun c hcm => ?_, q1 k1' k2' ln1 is1 ln2 is2⟩
      · have := l2 _ q
        have h9 : (s1.heap.objs.size + 1 : Nat) < s1.heap.objs.size := this
        omega
      · have e' : c = s1.heap.objs.size + 4 ∨ c = s1.heap.objs.size + 2 ∨ c = s1.heap.objs.size + 3 ∨ c = s1.heap.objs.size ∨ c = s1.heap.objs.size + 1 := by simpa using hcm
        have hle : s1.heap.objs.size ≤ c := by
          rcases e' with z | z | z | z | z
          · rw [z]; exact Nat.le_add_right _ _
          · rw [z]; exact Nat.le_add_right _ _
          · rw [z]; exact Nat.le_add_right _ _
          · rw [z]; exact Nat.le_refl _
          · rw [z]; exact Nat.le_add_right _ _
        exact I1.fpOk hle (I1.hok.fresh hle)

/-! ### enumerate of any -/
def ItE (K : PySem.W.Frag) (k : Wk) : It :=
  ⟨fun i H => ∃ n, k.len K H n ∧ i < n,
    fun i H v H' => ∃ T x, v = .ref T ∧ H T = none ∧ H' = upd H T (.tup [.int (i : Nat), x]) ∧ k.is K H i x,
    fun i H => k.len K H i⟩
theorem turn_enumW {P : Program} {w : World} {K : PySem.W.Frag} {elts : List Expr} {kk : Nat} {tpos : Pos} {k : Wk} {e it : Addr} (ne : e ≠ it) (n1 : it ∉ k.own) (n2 : e ∉ k.own) :
    Turn P w K (.Tuple elts kk tpos) (ItE K k) [e, it] e (fun i h => (∃ old, IsEnum h e it ((i : Nat) : Int) old) ∧ k.its it i h) where
  mem := by simp
  obj := fun i h st b hb => by
    obtain ⟨⟨old, he⟩, hi⟩ := st
    have e' : b = e ∨ b = it := by simpa using hb
    rcases e' with z | z
    · rw [z]; exact ⟨_, he, fun v q => nomatch q⟩
    · rw [z]; exact wk_obj hi
  keep := fun i h h' st k => let ⟨⟨old, he⟩, hi⟩ := st; ⟨⟨old, k e (by simp) _ he⟩, wk_at hi fun o q => k it (by simp) o q⟩
  item := by
    intro X hP hw hK hc i pins s σ H E I hf st hg
    subst hP hw hK
    obtain ⟨⟨old, he⟩, hit⟩ := st
    obtain ⟨n, hn, hi⟩ := hg
    obtain ⟨P1, St1, D1, s1, b1, r1⟩ := wk_draws I (I.ok.hd hc) n1 hit hn
    have hel : e < s.heap.objs.size := Heap.lt_size he
    have hil : it < s.heap.objs.size := by obtain ⟨_, q, _⟩ := wk_obj hit; exact Heap.lt_size q
    refine wpAny_pyNext_enum_itemD D1 he s1 hi ne (fun q => by rcases List.mem_cons.mp q with q | q; exact ne q; exact n2 q) fun u h' tk p1 ho hit' hT hsz hk => ?_
    obtain ⟨x, ru, hx⟩ := r1 _ _ p1
    refine ⟨_, rfl, wpAny_letOwnedTupleGo_enum (s := { s with heap := h', toks := tk + 1 }) ho fun h'' he' sb => ?_⟩
    have hT2 : h''.get? s.heap.objs.size = some { cls := .type "tuple", data := .seq #[.int i tk, u] } := (sb.2 _ (Nat.ne_of_gt hel)).trans hT
    have new : ObjOk X.prog X.w (upd H s.heap.objs.size (.tup [.int (i : Nat), x])) h'' s.heap.objs.size (.tup [.int (i : Nat), x]) :=
      ⟨by show 2 ≤ sizeLine; decide, [.int i tk, u], .cons ⟨_, rfl⟩ (.cons ru .nil), ⟨_, hT2, rfl, _, rfl⟩⟩
    have I1 : Inv X pins σ (upd H s.heap.objs.size (.tup [.int (i : Nat), x])) { s with heap := h'', toks := tk + 1 } :=
      I.turnedNew (ch := [e, it]) (fun b ob hb q => (sb.2 b (fun z => hb (by simp [z]))).trans (hk b ob (fun z => hb (by simp [z])) (fun z => hb (by simp [z])) q)) hf (Nat.le_refl _) new
    refine ⟨.ref s.heap.objs.size, _, I1, rfl, ⟨_, x, rfl, I.hok.fresh (Nat.le_refl _), rfl, hx⟩, ⟨⟨u, ?_⟩, wk_at (b1 _ _ hit') fun o q => (sb.2 it (Ne.symm ne)).trans q⟩, fun b hb => ?_⟩
    · have e1 : ((i + 1 : Nat) : Int) = (i : Int) + 1 := by omega
      rw [e1]; exact he'
    · have hb' : b < s.heap.objs.size := by
        have e' : b = e ∨ b = it := by simpa using hb
        rcases e' with z | z
        · rw [z]; exact hel
        · rw [z]; exact hil
      rw [upd_ne (Nat.ne_of_lt hb')]
      exact (hf b hb).1
  done := by
    intro X hP hw hK hc i pins s σ H E I hf st hg
    subst hP hw hK
    obtain ⟨⟨old, he⟩, hit⟩ := st
    obtain ⟨P1, St1, D1, s1, b1, r1⟩ := wk_draws I (I.ok.hd hc) n1 hit (show k.len X.K H i from hg)
    obtain ⟨f0, f1, f2, f3, f4, f5⟩ := hf it (by simp)
    exact wpAny_pyNext_enum_endD D1 he s1 fun h' eb => ⟨rfl, I.turned (t' := s.toks) (fun b o hb q => eb b o hb q) f0 f1 f3 f4 f5⟩
  self := fun A i s Q E st h => let ⟨⟨_, he⟩, _⟩ := st; wpAny_pyIter_enum he h

set_option maxHeartbeats 1000000 in
theorem meets_enumerate_newB1 {v : Value} {o : Obj} {H : Heap → Prop} (B : Begins v o H) :
    Meets (Builtin.«enumerate.__new__» ⟨[.type "enumerate", v], []⟩) (fun _ R s => H s.heap ∧
      R (.ok (.ret (.ref (s.heap.push o).objs.size))) { s with heap := (s.heap.push o).push { cls := .type "enumerate", data := .fields #[.none, .bool false, .ref s.heap.objs.size, rawInt 0, .none, .none] } }) :=
  .of_wp fun prog w A R s h => by
    obtain ⟨hp, g, d, tk, os⟩ := s; obtain ⟨h1, h⟩ := h
    have hsub := sub_enumerate
    have q1 : ∀ {A' : Around} {E : Value → Shared → Prop} {Q : Value → Shared → Prop}, Q (.ref hp.objs.size) ⟨hp.push o, g, d, tk, os⟩ → wpAny (model prog w) A' (pyIter v) Q E ⟨hp, g, d, tk, os⟩ :=
      fun q => B.iter prog w _ _ ⟨hp, g, d, tk, os⟩ _ h1 q
    wp_walk using q1
    refine wpAny_stack_any fun st => wpAny_pure ?_
    split
    · rename_i c _ _ _ _ _
      cases (c == Value.type "enumerate")
      · wp_walk using q1
        exact ⟨_, rfl, h⟩
      · wp_walk using q1
        exact ⟨_, rfl, h⟩
    · wp_walk using q1
      exact ⟨_, rfl, h⟩
section
variable {prog : Program} {w : World} {A : Around} {E : Value → Shared → Prop} {s : Shared}
theorem enum_begins1 {v : Value} {o : Obj} {H : Heap → Prop} {Q : Value → Shared → Prop} (B : Begins v o H) (h1 : H s.heap)
    (h : ∀ h', IsEnum h' (s.heap.objs.size + 1) s.heap.objs.size 0 .none → h'.get? s.heap.objs.size = some o → h'.objs.size = s.heap.objs.size + 2 →
      (∀ b o, s.heap.get? b = some o → h'.get? b = some o) → Q (.ref (s.heap.objs.size + 1)) { s with heap := h' }) :
    wpAny (model prog w) A (call (.type "enumerate") [v]) Q E s := by
  refine callType_new F.called_enumerate (by decide) (F.typeCall_enumerate_1 _) (F.newCall_enumerate_1 _) (fun obj => F.args_object_init_2 obj _) F.entry_enumerate_new
    (meets_enumerate_newB1 B) ⟨h1, ?_⟩
  have hz : (s.heap.push o).objs.size = s.heap.objs.size + 1 := Heap.size_push ..
  show _ ∧ _
  rw [hz]
  have he : IsEnum ((s.heap.push o).push { cls := .type "enumerate", data := .fields #[.none, .bool false, .ref s.heap.objs.size, rawInt 0, .none, .none] }) (s.heap.objs.size + 1) s.heap.objs.size 0 .none := by
    have := Heap.get?_push_size (s.heap.push o) (o := { cls := .type "enumerate", data := .fields #[.none, .bool false, .ref s.heap.objs.size, rawInt 0, .none, .none] }) rfl
    rw [hz] at this; exact this
  refine ⟨⟨_, he, rfl⟩, h _ he (Heap.get?_push_of_some _ (Heap.get?_push_size _ B.free)) (by rw [Heap.size_push, hz]) fun b o x => Heap.get?_push_of_some _ (Heap.get?_push_of_some _ x)⟩
end
def iEnumW (K : PySem.W.Frag) (ta : TA) : TI := fun σ H R => ta σ H fun vs H1 => ∃ v1 k1, vs = [v1] ∧ Walked K H1 v1 k1 ∧
  ∀ k1' : Wk, (∀ n H, k1.len K H n ↔ k1'.len K H n) → (∀ i x H, k1.is K H i x ↔ k1'.is K H i x) → R (ItE K k1') H1
theorem pi_enumW {X : Cx} {e : Expr} {ta : TA} {p pos tpos : Pos} {elts : List Expr} {kk : Nat} (hg : Gl X "enumerate") (hm : X.mg "enumerate" = none) (ha : PA X [e] ta) (hs : starEach [e] X.env = [(false, eval e X.env)] := by rfl) :
    PI X (.Tuple elts kk tpos) (.Call (.Name "enumerate" p) [e] [] pos) (iEnumW X.K ta) := by
  refine ⟨fun pins s σ H R I h => ?_⟩
  refine Call_ (ld_blt I hg hm boot_enumerate (PyProof.Rows.callWith_type1 (thn (ha.run pos pins s σ H _ I h) fun us s1 ⟨vs, H1, I1, r1, q1⟩ => ?_) hs rfl))
  obtain ⟨v1, k1, ex, w1, q1⟩ := q1
  subst ex
  cases r1 with
  | cons r rr =>
    cases rr
    obtain ⟨k1', Hs1, B1, b1, l1, t1, ln1, is1⟩ := walked_begins I1 r w1
    refine enum_begins1 B1 b1 fun h' he hit hsz hk => wpAny_pyIter_enum he ?_
    have I2 : Inv X pins σ H1 { s1 with heap := h' } := I1.kept (t' := s1.toks) hk
    refine ⟨s1.heap.objs.size + 1, [s1.heap.objs.size + 1, s1.heap.objs.size], _, _, H1, rfl, I2, turn_enumW (Nat.succ_ne_self _) (fun q => Nat.lt_irrefl _ (l1 _ q)) (fun q => ?_), ⟨⟨.none, he⟩, t1 _ _ hit⟩, fun b hb => ?_, q1 k1' ln1 is1⟩
    · have := l1 _ q
      have h9 : (s1.heap.objs.size + 1 : Nat) < s1.heap.objs.size := this
      omega
    · have e' : b = s1.heap.objs.size + 1 ∨ b = s1.heap.objs.size := by simpa using hb
      have hle : s1.heap.objs.size ≤ b := by
        rcases e' with z | z
        · rw [z]; exact Nat.le_add_right _ _
        · rw [z]; exact Nat.le_refl _
      exact I1.fpOk hle (I1.hok.fresh hle)

/-! ### by data -/
def srcOf : D → Option (List D)
  | .list xs => some xs
  | .tuple xs => some xs
  | .str z => some (signs z)
  | _ => none
def okOf (d : DV) (x : D) (ρ : Env3) (S : Sto) : Prop := match x with
  | .list xs => view ρ S d = .list xs
  | _ => True
theorem wk_of {K : PySem.W.Frag} {F : Addr → Prop} {m o : Nat → Option Addr} {ρ : Env3} {S : Sto} {σ : L2.St} {H : Hp} {v : V} {d : DV} {x : D} {xs : List D} (r : Rel K F m o ρ S σ H) (q : DRep K F m o H v d) (nd : isLoc d = false) (hv : view ρ S d = x) (hx : srcOf x = some xs) :
    ∃ k, Walked K H v k ∧ ∀ (F2 : Addr → Prop) (m2 o2 : Nat → Option Addr) (ρ2 : Env3) (S2 : Sto) (σ2 : L2.St) (H2 : Hp), Rel K F2 m2 o2 ρ2 S2 σ2 H2 → Sub (Fz H (Mu F m o)) (Fz H2 (Mu F2 m2 o2)) → (∀ n a, m n = some a → m2 n = some a) → okOf d x ρ2 S2 →
      k.len K H2 xs.length ∧ ∀ i y, xs[i]? = some y → ∀ w, k.is K H2 i w → Rp K (Fz H2 (Mu F2 m2 o2)) w y := by
  have rv := r.view q
  rw [hv] at rv
  cases x with
  | list ys =>
    cases hx
    obtain ⟨a, vs, rfl, h1, h1', h2⟩ := rv.list'
    refine ⟨.L a, .l h1, fun F2 m2 o2 ρ2 S2 σ2 H2 r2 gz gm okk => ?_⟩
    obtain ⟨b, ws, e, h3, h3', h4⟩ := src_list q nd hv r2 gz gm okk
    cases e
    refine ⟨⟨ws, h3, RpAll.length h4⟩, fun i y hy w hw => ?_⟩
    obtain ⟨w', e1, e2⟩ := RpAll.get h4 hy
    have := (hw ws h3).symm.trans e1
    cases this
    exact e2
  | tuple ys =>
    cases hx
    cases d with
    | d y =>
      have : y = .tuple xs := hv
      subst this
      obtain ⟨a, vs, rfl, h1, h1', hn, h2⟩ := rv.tup'
      refine ⟨.T a, .t h1, fun F2 m2 o2 ρ2 S2 σ2 H2 r2 gz gm okk => ?_⟩
      obtain ⟨b, ws, e, h3, h3', _, h4⟩ := VRep.tup' (.d (Rp.sub gz q) : VRep K H2 (Fz H2 (Mu F2 m2 o2)) (.ref a) (.tuple xs))
      cases e
      refine ⟨⟨ws, h3, RpAll.length h4⟩, fun i y hy w hw => ?_⟩
      obtain ⟨w', e1, e2⟩ := RpAll.get h4 hy
      have := (hw ws h3).symm.trans e1
      cases this
      exact e2
    | ref n =>
      have : ∀ c, cellD c ≠ .tuple xs := fun c e => by cases c <;> cases e
      exfalso
      unfold view at hv
      cases e : S[n]? with
      | none => simp [e] at hv
      | some c => simp [e] at hv; exact this c hv
    | loc j => cases nd
  | str z =>
    cases hx
    have e := rv.str
    subst e
    refine ⟨.S z 0, .s, fun F2 m2 o2 ρ2 S2 σ2 H2 r2 gz gm okk => ⟨by show z.cps.size = (signs z).length; unfold signs; rw [List.length_map, Array.length_toList], fun i y hy w hw => ?_⟩⟩
    unfold signs at hy
    rw [List.getElem?_map] at hy
    obtain ⟨c, e1, rfl⟩ := hw
    rw [← Array.getElem?_toList] at e1
    rw [e1] at hy
    cases hy
    exact .str _
  | none => cases hx
  | bool b => cases hx
  | int b => cases hx
  | dict b => cases hx
def enumD (xs : List D) : Nat → List D
  | k => (xs.zipIdx k).map fun p => .tuple [.int (p.2 : Nat), p.1]
theorem enumD_len (xs : List D) (k : Nat) : (enumD xs k).length = xs.length := by simp [enumD]
theorem enumD_get {xs : List D} {i : Nat} {x : D} (h : (enumD xs 0)[i]? = some x) : ∃ y, xs[i]? = some y ∧ x = .tuple [.int (i : Nat), y] := by
  unfold enumD at h
  rw [List.getElem?_map, List.getElem?_zipIdx] at h
  cases e : xs[i]? with
  | none => rw [e] at h; cases h
  | some y => rw [e] at h; cases h; exact ⟨y, rfl, by simp⟩
def zipD (xs ys : List D) : List D := (xs.zip ys).map fun p => .tuple [p.1, p.2]
theorem zipD_len (xs ys : List D) : (zipD xs ys).length = min xs.length ys.length := by simp [zipD]
theorem zipD_get {xs ys : List D} {i : Nat} {x : D} (h : (zipD xs ys)[i]? = some x) : ∃ a b, xs[i]? = some a ∧ ys[i]? = some b ∧ x = .tuple [a, b] := by
  unfold zipD at h
  rw [List.getElem?_map, Option.map_eq_some_iff] at h
  obtain ⟨p, hp, rfl⟩ := h
  obtain ⟨h1, h2⟩ := List.getElem?_zip_eq_some.mp hp
  exact ⟨_, _, h1, h2, rfl⟩
def dEnum (ta : dTA) : dTI := fun ρ S K => ta ρ S fun ds S1 => match ds with
  | [d] => nl d (match srcOf (view ρ S1 d) with
    | some xs => K ⟨enumD xs 0, okOf d (view ρ S1 d)⟩ S1
    | none => False)
  | _ => False
def dZip (ta : dTA) : dTI := fun ρ S K => ta ρ S fun ds S1 => match ds with
  | [d, e] => nl d (nl e (match srcOf (view ρ S1 d), srcOf (view ρ S1 e) with
    | some xs, some ys => K ⟨zipD xs ys, fun ρ' S' => okOf d (view ρ S1 d) ρ' S' ∧ okOf e (view ρ S1 e) ρ' S'⟩ S1
    | _, _ => False))
  | _ => False
theorem di_enum {X : Cx} {e : Expr} {ta : dTA} {p pos tpos : Pos} {elts : List Expr} {kk : Nat} (hm : X.mg "enumerate" = none) (hg : Gl X "enumerate") (ha : DA X [e] ta) (hs : starEach [e] X.env = [(false, eval e X.env)] := by rfl) :
    DI X (.Tuple elts kk tpos) (.Call (.Name "enumerate" p) [e] [] pos) (dEnum ta) := PI.imp (pi_enumW hg hm ha hs) fun σ H R q => by
  obtain ⟨F, m, o, ρ, S, k, rel, t, hk⟩ := q
  refine ⟨F, m, o, ρ, S, _, rel, t, fun ds S1 m1 H1 vs h r g q => ?_⟩
  split at h
  · rename_i d
    obtain ⟨nd, h⟩ := nl_of h
    cases q with
    | @cons v _ _ _ q q0 =>
      cases q0
      split at h
      · rename_i xs hx
        obtain ⟨w, wk, st⟩ := wk_of r q nd rfl hx
        refine ⟨v, w, rfl, wk, fun w' ln is => hk _ S1 m1 H1 _ h r g ⟨fun i F2 m2 o2 ρ2 S2 σ2 H2 r2 gz gm okk x hx => ?_, fun i F2 m2 o2 ρ2 S2 σ2 H2 r2 gz gm okk hx => ?_⟩⟩
        · obtain ⟨y, hy, rfl⟩ := enumD_get hx
          obtain ⟨a1, a2⟩ := st F2 m2 o2 ρ2 S2 σ2 H2 r2 gz gm okk
          refine ⟨⟨_, (ln _ _).mp a1, (List.getElem?_eq_some_iff.mp hy).1⟩, fun u H3 hyl => ?_⟩
          obtain ⟨T, z, rfl, hT, rfl, hz⟩ := hyl
          exact ⟨sub_upd hT, new_tup r2.st.alive hT (.cons (.int _) (.cons (a2 i y hy z ((is _ _ _).mpr hz)) .nil))⟩
        · obtain ⟨a1, a2⟩ := st F2 m2 o2 ρ2 S2 σ2 H2 r2 gz gm okk
          have e : (enumD xs 0).length = i := hx
          rw [enumD_len] at e
          subst e
          exact (ln _ _).mp a1
      · exact h.elim
  · exact h.elim
theorem di_zip {X : Cx} {e e2 : Expr} {ta : dTA} {p pos tpos : Pos} {elts : List Expr} {kk : Nat} (hm : X.mg "zip" = none) (hg : Gl X "zip") (ha : DA X [e, e2] ta)
    (hs : starEach [e, e2] X.env = (false, eval e X.env) :: starEach [e2] X.env := by rfl) (hpl : (backTo pos (starEach [e2] X.env)).any (·.1) = false := by rfl) :
    DI X (.Tuple elts kk tpos) (.Call (.Name "zip" p) [e, e2] [] pos) (dZip ta) := PI.imp (pi_zipW hg hm ha hs hpl) fun σ H R q => by
  obtain ⟨F, m, o, ρ, S, k, rel, t, hk⟩ := q
  refine ⟨F, m, o, ρ, S, _, rel, t, fun ds S1 m1 H1 vs h r g q => ?_⟩
  split at h
  · rename_i d d'
    obtain ⟨nd, h⟩ := nl_of h
    obtain ⟨nd', h⟩ := nl_of h
    cases q with
    | @cons v _ _ _ q q0 =>
      cases q0 with
      | @cons v' _ _ _ q' q0 =>
        cases q0
        split at h
        · rename_i xs ys hx hx'
          obtain ⟨w, wk, st⟩ := wk_of r q nd rfl hx
          obtain ⟨w', wk', st'⟩ := wk_of r q' nd' rfl hx'
          refine ⟨v, v', w, w', rfl, wk, wk', fun u u' ln is ln' is' => hk _ S1 m1 H1 _ h r g ⟨fun i F2 m2 o2 ρ2 S2 σ2 H2 r2 gz gm okk x hx => ?_, fun i F2 m2 o2 ρ2 S2 σ2 H2 r2 gz gm okk hx => ?_⟩⟩
          · obtain ⟨y, y', hy, hy', rfl⟩ := zipD_get hx
            obtain ⟨a1, a2⟩ := st F2 m2 o2 ρ2 S2 σ2 H2 r2 gz gm okk.1
            obtain ⟨a1', a2'⟩ := st' F2 m2 o2 ρ2 S2 σ2 H2 r2 gz gm okk.2
            refine ⟨⟨_, _, (ln _ _).mp a1, (ln' _ _).mp a1', (List.getElem?_eq_some_iff.mp hy).1, (List.getElem?_eq_some_iff.mp hy').1⟩, fun u H3 hyl => ?_⟩
            obtain ⟨T, z, z', rfl, hT, rfl, hz, hz'⟩ := hyl
            exact ⟨sub_upd hT, new_tup r2.st.alive hT (.cons (a2 i y hy z ((is _ _ _).mpr hz)) (.cons (a2' i y' hy' z' ((is' _ _ _).mpr hz')) .nil))⟩
          · obtain ⟨a1, a2⟩ := st F2 m2 o2 ρ2 S2 σ2 H2 r2 gz gm okk.1
            obtain ⟨a1', a2'⟩ := st' F2 m2 o2 ρ2 S2 σ2 H2 r2 gz gm okk.2
            have e : (zipD xs ys).length = i := hx
            rw [zipD_len] at e
            exact ⟨_, _, (ln _ _).mp a1, (ln' _ _).mp a1', by omega, by omega, by omega⟩
        · exact h.elim
  · exact h.elim
end L3

set_option maxHeartbeats 4000000
namespace L3
open PySem PySem.Spec L2 PyProof.Rows
section
variable {X : Cx}
theorem ds_augI {i : Nat} {x k e : Expr} {tk te : dTE} {op : Operator} {f : F2} {pos tpos : Pos} (ho : ∃ r, PIp X op r ∧ OpD X.K r f) (hx : PE X x (tVar i)) (hk : DE X k tk) (he : DE X e te)
    (ha : ∀ ov iv new, augStore k ov iv new = (do holding [new, ov, iv] (setItem ov iv new); release [new, ov, iv] []; pure .next) := by intros; rfl) : DS X (.AugAssign (.Subscript x k tpos) op e pos) (dAugI i f tk te) := by
  obtain ⟨r, hp, hf⟩ := ho
  refine PS.imp (ps_augS hx hk get_list he hp set_list ha) fun E σ H q => ?_
  obtain ⟨F, m, o, ρ, S, E', rel, t, ok⟩ := q
  unfold dAugI at t
  split at t
  · rename_i xs e0
    obtain ⟨a, h1, h2, _⟩ := rel.sl i _ e0
    refine ⟨_, h2, F, m, o, ρ, S, _, rel, t, fun kd S1 m1 H1 v h r1 g1 q1 => ?_⟩
    split at h
    · rename_i j
      obtain ⟨n, y, hn, hy, h⟩ := h
      obtain ⟨b, k1, k2, ws, k3, k4⟩ := r1.sl i _ e0
      have hb := k1.symm.trans h1
      cases hb
      obtain ⟨w, ew, rw'⟩ := RpAll.get k4 hy
      refine ⟨_, ws, j, w, rfl, dp_int q1, SqL.of k3, atI_of_ixN (by rw [RpAll.length k4]; exact hn) ew, F, m1, o, ρ, S1, _, r1, h, fun d S2 m2 H2 u h r2 g2 q2 => ?_⟩
      split at h
      · rename_i y2
        refine hf (Mu F m2 o) H2 w u y y2 _ _ r2.st.alive (.d (Rp.sub g2.z rw')) (.d q2) h fun z v' H3 hz hs hr => ?_
        have r3 := r2.sub hs
        obtain ⟨b, k1, k2, ws3, k3, k4⟩ := r3.sl i _ e0
        have hb := k1.symm.trans h1
        cases hb
        refine ⟨_, ws3, j, n, rfl, dp_int q1, k3, by rw [RpAll.length k4]; exact hn, ?_⟩
        have hi : i < ρ.length := (List.getElem?_eq_some_iff.mp e0).1
        obtain ⟨r4, g4⟩ := r3.wrO (u := .lst (ws3.set n v')) (c := .lst (xs.set n z)) h1 hi h2 ⟨_, upd_same, RpAll.sub (fz_wr (.inr (.inr ⟨i, h1⟩))) (RpAll.set hr n k4)⟩
        exact ok.nx _ S2 m2 o σ _ hz r4 (((g1.trans g2).trans (Grow.sub r2 hs)).trans g4)
      · exact h.elim
    · exact h.elim
  · exact t.elim
end

/-! ### a < b < c -/
def dChain (f g : F2) (ta tb tc : dTE) : dTE := fun ρ S Q => ta ρ S fun d S1 => tb ρ S1 fun e S2 => f (view ρ S2 d) (view ρ S2 e) fun z => match z with
  | .bool c => Br c (tc ρ S2 fun e2 S3 => g (view ρ S3 e) (view ρ S3 e2) fun z => Q (.d z) S3) (Q (.d (.bool false)) S2)
  | _ => False
theorem lift_chain {K : PySem.W.Frag} {r r' : R2} {f g : F2} {ta tb tc : dTE} (hf : OpD K r f) (hg : OpD K r' g) {σ : L2.St} {H : Hp} {Q : VK} (h : lift K (dChain f g ta tb tc) σ H Q) : tChain r r' (lift K ta) (lift K tb) (lift K tc) σ H Q := by
  obtain ⟨F, m, o, ρ, S, k, rel, t, hk⟩ := h
  refine ⟨F, m, o, ρ, S, _, rel, t, fun d S1 m1 H1 v h1 rel1 g1 r1 => ?_⟩
  refine ⟨F, m1, o, ρ, S1, _, rel1, h1, fun e S2 m2 H2 w h2 rel2 g2 r2 => ?_⟩
  refine hf (Mu F m2 o) H2 v w _ _ _ _ rel2.st.alive (rel2.view (r1.grow g2)) (rel2.view r2) h2 fun z u H' kz s dz => ?_
  split at kz
  · rename_i c
    refine ⟨c, dp_bl dz, ?_⟩
    have rel3 := rel2.sub s
    have g3 := Grow.sub rel2 s
    cases c with
    | true =>
      rw [if_pos rfl]
      refine ⟨F, m2, o, ρ, S2, _, rel3, Br.eT kz, fun e2 S3 m3 H3 u3 h3 rel4 g4 r4 => ?_⟩
      exact hg (Mu F m3 o) H3 w u3 _ _ _ _ rel4.st.alive (rel4.view ((r2.grow g3).grow g4)) (rel4.view r4) h3 fun z u H' kz s dz =>
        hk (.d z) S3 m3 H' u kz (rel4.sub s) (((g1.trans g2).trans g3).trans (g4.trans (Grow.sub rel4 s))) dz
    | false =>
      rw [if_neg Bool.false_ne_true]
      exact hk (.d (.bool false)) S2 m2 H' (.bl false) (Br.eF kz) rel3 ((g1.trans g2).trans g3) (.bl false)
  · exact kz.elim
section
variable {X : Cx}
theorem de_chain {a b c : Expr} {ta tb tc : dTE} {op op' : CmpOp} {pos : Pos} {f g : F2} (ho : ∃ r, OpR X (compareOp op) r ∧ OpD X.K r f) (ho' : ∃ r, OpR X (compareOp op') r ∧ OpD X.K r g) (ha : DE X a ta) (hb : DE X b tb) (hc : DE X c tc)
    (hm : lastMarks [op, op'] [b, c] = false := by with_unfolding_all rfl) : DE X (.Compare a [op, op'] [b, c] pos) (dChain f g ta tb tc) :=
  let ⟨r, h1, h2⟩ := ho; let ⟨r', h1', h2'⟩ := ho'; PE.imp (pe_chain h1 h1' ha hb hc hm) fun _ _ _ => lift_chain h2 h2'
theorem dt_chain {a b c : Expr} {ta tb tc : dTE} {op op' : CmpOp} {pos : Pos} {f g : F2} (ho : ∃ r, OpR X (compareOp op) r ∧ OpD X.K r f) (ho' : ∃ r, OpR X (compareOp op') r ∧ OpD X.K r g) (ha : DE X a ta) (hb : DE X b tb) (hc : DE X c tc)
    (hm : lastMarks [op, op'] [b, c] = false := by with_unfolding_all rfl) : DT X (.Compare a [op, op'] [b, c] pos) (dB (dChain f g ta tb tc)) :=
  let ⟨r, h1, h2⟩ := ho; let ⟨r', h1', h2'⟩ := ho'; PT.imp (pt_chain h1 h1' ha hb hc hm) fun σ H Q q => by
    have h := lift_b q
    exact lift_chain h2 h2' h
end

/-! ### range with a step -/
def rngC (lo c : Int) (n : Nat) : List D := (List.range n).map fun i => .int (lo + (i : Nat) * c)
theorem rngC_len (lo c : Int) (n : Nat) : (rngC lo c n).length = n := by unfold rngC; rw [List.length_map, List.length_range]
theorem rngC_get {lo c : Int} {n i : Nat} {x : D} (h : (rngC lo c n)[i]? = some x) : i < n ∧ x = .int (lo + (i : Nat) * c) := by
  unfold rngC at h
  rw [List.getElem?_map, Option.map_eq_some_iff] at h
  obtain ⟨j, e, rfl⟩ := h
  obtain ⟨h1, h2⟩ := List.getElem?_eq_some_iff.mp e
  rw [List.getElem_range] at h2
  subst h2
  exact ⟨by rwa [List.length_range] at h1, rfl⟩
theorem goes_rngC {K : PySem.W.Frag} {F : Addr → Prop} {m o : Nat → Option Addr} {H : Hp} (lo c : Int) (n : Nat) : Goes K F m o H (Itc lo c n) ⟨rngC lo c n, fun _ _ => True⟩ where
  go := fun i F2 m2 o2 ρ2 S2 σ2 H2 r2 gz gm okk x hx => by
    obtain ⟨h1, rfl⟩ := rngC_get hx
    exact ⟨h1, fun v H3 hy => by obtain ⟨rfl, rfl⟩ := hy; exact ⟨Sub.refl _, .int _⟩⟩
  stop := fun i F2 m2 o2 ρ2 S2 σ2 H2 r2 gz gm okk hx => by
    have hx : (rngC lo c n).length = i := hx
    rw [rngC_len] at hx
    exact Nat.le_of_eq hx
/-- how many turns -/
def rngN (i j c : Int) : Nat := if 0 < c then ((j - i + c - 1) / c).toNat else ((i - j + (-c) - 1) / (-c)).toNat
def dRng3 (ta : dTA) : dTI := fun ρ S K => ta ρ S fun ds S1 => match ds with
  | [.d (.int i), .d (.int j), .d (.int c)] => small62 i ∧ small62 j ∧ (c ≠ 0 ∧ -1073741824 < c ∧ c < 1073741824) ∧ K ⟨rngC i c (rngN i j c), fun _ _ => True⟩ S1
  | _ => False
end L3

set_option maxHeartbeats 4000000
namespace L3
open PySem PySem.Spec L2 PyProof.Rows
section
variable {prog : Program} {w : World} {A : Around} {E : Value → Shared → Prop} {s : Shared}
theorem slicePart_intP {v : Value} {o : Option Int} {Q : Option Int → Shared → Prop} (p : IsPart v o) (h : Q o s) : wpAny (model prog w) A (Builtin.Slice.slicePartIndex v) Q E s := HT.slicePart_ p h
theorem sliceApplied_rev {sl : Addr} {vl vu vs : Value} {n : Nat} {Q : Int × Int × Nat → Shared → Prop} (hs : s.heap.IsSliceOf sl vl vu vs) (pl : IsPart vl none) (pu : IsPart vu none) (ps : IsPart vs (some (-1)))
    (h : Q ((n : Int) - 1, -1, n) s) : wpAny (model prog w) A (Builtin.Slice.sliceApplied (.ref sl) (pure (n : Int))) Q E s := by
  obtain ⟨os, hos, hcs, hds⟩ := id hs
  unfold Builtin.Slice.sliceApplied Builtin.Slice.sliceFields
  refine wpAny_bind (wpAny_bind (wpAny_field hos hds (x := vl) rfl (wpAny_bind (wpAny_field hos hds (x := vu) rfl (wpAny_bind (wpAny_field hos hds (x := vs) rfl (wpAny_pure ?_)))))))
  refine wpAny_bind (HT.slicePart_ ps ?_)
  show wpAny _ _ (if ((-1 : Int) == 0) = true then _ else _) _ _ s
  rw [if_neg (by decide)]
  refine wpAny_bind (HT.slicePart_ pl (wpAny_bind (HT.slicePart_ pu (wpAny_bind (wpAny_pure ?_)))))
  show wpAny _ _ (match Builtin.Slice.sliceAdjust none none (-1) (n : Int) with | (lo, hi) => pure (lo, (-1 : Int), Builtin.Slice.slicePlaces lo hi (-1))) _ _ s
  have e1 : Builtin.Slice.sliceAdjust none none (-1) (n : Int) = ((n : Int) - 1, -1) := rfl
  rw [e1]
  have e2 : Builtin.Slice.slicePlaces ((n : Int) - 1) (-1) (-1) = n := by
    unfold Builtin.Slice.slicePlaces
    have h1 : ¬ ((-1 : Int) > 0) := by decide
    simp only [h1, if_false]
    have e3 : (- -1 : Int) = 1 := by decide
    rw [e3]
    simp only [Int.ediv_one]
    split <;> omega
  show wpAny _ _ (pure ((n : Int) - 1, (-1 : Int), Builtin.Slice.slicePlaces ((n : Int) - 1) (-1) (-1))) _ _ s
  rw [e2]
  exact wpAny_pure h
theorem filterMap_all {α : Type} (l : List α) : ∀ k, k ≤ l.length → (List.range k).filterMap (fun m => l[m]?) = l.take k
  | 0, _ => by simp
  | k + 1, h => by
    rw [List.range_succ, List.filterMap_append, filterMap_all l k (by omega), List.take_add_one]
    simp [List.getElem?_eq_getElem (show k < l.length by omega)]
theorem fm_congr {α β : Type} {f g : α → Option β} : ∀ {l : List α}, (∀ x ∈ l, f x = g x) → l.filterMap f = l.filterMap g
  | [], _ => rfl
  | a :: l, h => by
    rw [List.filterMap_cons, List.filterMap_cons, h a (List.mem_cons_self ..), fm_congr (l := l) fun x hx => h x (List.mem_cons_of_mem _ hx)]
theorem pick_rev (xs : Array Value) : ((List.range xs.size).filterMap fun (m : Nat) => xs[(((xs.size : Nat) : Int) - 1 + (m : Int) * (-1)).toNat]?).toArray = xs.toList.reverse.toArray := by
  congr 1
  have e : (List.range xs.size).filterMap (fun (m : Nat) => xs[(((xs.size : Nat) : Int) - 1 + (m : Int) * (-1)).toNat]?) = (List.range xs.size).filterMap fun m => xs.toList.reverse[m]? := by
    apply fm_congr
    intro m hm
    have hm' : m < xs.size := List.mem_range.mp hm
    have : ((((xs.size : Nat) : Int) - 1 + (m : Int) * (-1))).toNat = xs.size - 1 - m := by omega
    rw [this, List.getElem?_reverse (by rw [Array.length_toList]; exact hm'), Array.length_toList, Array.getElem?_toList]
  rw [e, filterMap_all _ _ (by rw [List.length_reverse, Array.length_toList]; exact Nat.le_refl _), List.take_of_length_le (by rw [List.length_reverse, Array.length_toList]; exact Nat.le_refl _)]
theorem getItem_tuple_rev {t sl : Addr} {items : Array Value} {vl vu vs : Value} {Q : Value → Shared → Prop} (ht : IsTup s.heap t items) (hs : s.heap.IsSliceOf sl vl vu vs) (pl : IsPart vl none) (pu : IsPart vu none) (ps : IsPart vs (some (-1)))
    (h : Q (.ref s.heap.objs.size) { s with heap := s.heap.push { cls := .type "tuple", data := .seq items.toList.reverse.toArray } })
    (hsz : items.size ≤ sizeLine) : wpAny (model prog w) A (getItem (.ref t) (.ref sl)) Q E s := by
  have htake : sizeOk (.seq items.toList.reverse.toArray) := by
    show items.toList.reverse.toArray.size ≤ sizeLine
    rw [List.size_toArray, List.length_reverse, Array.length_toList]
    exact hsz
  obtain ⟨os, hos, hcs, hds⟩ := id hs
  have hTs : s.TypeIs (.ref sl) "slice" := ⟨os, hos, hcs⟩
  unfold getItem
  try with_reducible refine wpAny_holding ?_
  first | refine wpAny_bind (wpAny_pure ?_) | skip
  refine wpAny_bind (wpAny_sequenceKey ht.typeIs (by decide) ?_)
  refine wpAny_bind (wpAny_callSpecial?_slot (name := Str.ofString "__getitem__") ht.typeIs PyProof.Rows.slot_tuple_getitem
    (wpAny_call_entry PyProof.Rows.slot_tuple_getitem ht.typeIs entry_tuple_getitem ?_ (args_tuple_getitem _ _)))
  show wpAny _ _ (Builtin.Tuple.tupleItemsOf (.ref t) >>= _) _ _ s
  refine wpAny_bind (tupleItemsOf_ ht ?_)
  refine wpAny_bind (wpAny_typeOf hTs ?_)
  rw [if_pos (by decide)]
  refine wpAny_bind (sliceApplied_rev hs pl pu ps ?_)
  have hno : ¬ ((((items.size : Nat) : Int) - 1 == 0 && (-1 : Int) == 1 && items.size == items.size) = true) := by
    intro q
    rw [Bool.and_eq_true, Bool.and_eq_true] at q
    exact absurd q.1.2 (by decide)
  show wpAny _ _ (if ((((items.size : Nat) : Int) - 1 == 0 && (-1 : Int) == 1 && items.size == items.size) = true) then _ else _) _ _ s
  rw [if_neg hno, pick_rev]
  first
    | exact wpAny_bind (m := Builtin.Tuple.tupleExact _) (wpAny_newObj_type (wpAny_pure ⟨_, rfl, wpAny_pure h⟩) htake)
    | exact wpAny_bind (m := Builtin.Tuple.tupleExact _) (wpAny_newObj_type (wpAny_bind (wpAny_pure (wpAny_pure ⟨_, rfl, wpAny_pure h⟩))) htake)
    | exact wpAny_bind (wpAny_bind (m := Builtin.Tuple.tupleExact _) (wpAny_newObj_type (wpAny_pure (wpAny_pure ⟨_, rfl, wpAny_pure h⟩)) htake))
    | exact wpAny_bind (wpAny_bind (m := Builtin.Tuple.tupleExact _) (wpAny_newObj_type (wpAny_pure ⟨_, rfl, wpAny_pure h⟩) htake))
end
def revS (z : Str) : Str := ⟨z.cps.toList.reverse.toArray⟩
theorem sliceBy_rev (z : Str) (u : Tok) : Txt.sliceBy z none none (-1, u) = revS z := by
  have h := step_rev_list z u
  have e : (List.range z.length).map (fun k => z.cps.getD (z.length - 1 - k) 0) = z.cps.toList.reverse := by
    apply List.ext_getElem?
    intro i
    rw [List.getElem?_map]
    by_cases hi : i < z.length
    · have hi' : i < z.cps.toList.length := by rw [Array.length_toList]; exact hi
      rw [List.getElem?_range hi, List.getElem?_reverse hi', Array.length_toList]
      have hs : z.cps.size - 1 - i < z.cps.size := by
        have : i < z.cps.size := hi
        omega
      rw [Array.getElem?_toList, Array.getElem?_eq_getElem hs]
      show some (z.cps.getD (z.cps.size - 1 - i) 0) = _
      rw [Array.getD_eq_getD_getElem?, Array.getElem?_eq_getElem hs]
      rfl
    · rw [List.getElem?_eq_none (by rw [List.length_range]; omega), List.getElem?_eq_none (by rw [List.length_reverse, Array.length_toList]; exact Nat.le_of_not_lt hi)]
      rfl
  rw [e] at h
  generalize Txt.sliceBy z none none (-1, u) = y at h
  obtain ⟨⟨l⟩⟩ := y
  have hl : l = z.cps.toList.reverse := h
  subst hl
  rfl
/-- xs[::-1], xs a list, a tuple, a text -/
def tRevA (K : PySem.W.Frag) (te : TE) : TE := fun σ H Q => te σ H fun x H1 =>
  (∃ a xs, x = .ref a ∧ SqL K H1 a xs ∧ ∀ p, H1 p = none → Q (.ref p) (upd H1 p (.lst xs.reverse))) ∨
  (∃ a xs, x = .ref a ∧ SqT K H1 a xs ∧ ∀ p, H1 p = none → Q (.ref p) (upd H1 p (.tup xs.reverse))) ∨
  ∃ z, x = .str z ∧ z.length ≤ sizeLine ∧ Q (.str (revS z)) H1
theorem pe_revA {X : Cx} {e : Expr} {te : TE} {k : Nat} {p1 p2 p3 pos : Pos} (he : PE X e te) : PE X (.Subscript e (.Slice none none (some (.UnaryOp .USub (.Constant (.int 1) k p1) p2)) p3) pos) (tRevA X.K te) := by
  refine ⟨fun pins s σ H Q I h => ?_⟩
  refine Subscript_ (thn (he.run pins s σ H _ I h) fun v s1 ⟨x, H1, I1, r1, q1⟩ => ?_)
  have hst : PO X (some (.UnaryOp .USub (.Constant (.int 1) k p1) p2)) (tPart (tUn (rU fun i => .int (-i)) (tC (.int 1)))) := po_some (pe_un un_neg pe_int)
  refine wpAny_Slice (thn (po_none.run pins s1 σ H1 (fun o H2 => o = none ∧ H2 = H1) I1 ⟨rfl, rfl⟩) fun vl s2 ⟨l, H2, I2, pl, el, e2⟩ => ?_)
  subst el e2
  refine thn (po_none.run pins s2 σ H2 (fun o H3 => o = none ∧ H3 = H2) I2 ⟨rfl, rfl⟩) fun vu s3 ⟨u, H3, I3, pu, eu, e3⟩ => ?_
  subst eu e3
  refine thn (hst.run pins s3 σ H3 (fun o H4 => o = some (-1) ∧ H4 = H3) I3 ⟨1, rfl, -1, rfl, rfl, rfl⟩) fun vs s4 ⟨o, H4, I4, ps, eo, e4⟩ => ?_
  subst eo e4
  have I5 : Inv X pins σ H4 { s4 with heap := s4.heap.push { cls := .type "slice", data := .fields #[vl, vu, vs] } } := I4.kept (t' := s4.toks) fun b ob q => Heap.get?_push_of_some _ q
  show wpAny (model X.prog X.w) X.A (subscriptTail e (.Slice none none (some (.UnaryOp .USub (.Constant (.int 1) k p1) p2)) p3) v (.ref s4.heap.objs.size)) (EP X pins σ Q) X.xe { s4 with heap := s4.heap.push { cls := .type "slice", data := .fields #[vl, vu, vs] } }
  rcases q1 with ⟨a, xs, ex, hx, q⟩ | ⟨a, xs, ex, hx, q⟩ | ⟨z, ex, hz, q⟩
  · subst ex
    cases r1
    obtain ⟨its, r, ht, hz⟩ := I5.list hx
    have hlen := r.length
    refine tail_any (ops := [.ref a, .ref s4.heap.objs.size]) ht.isList.typeIs (PySem.slot_list_getitem.lookup) ?_ (by with_unfolding_all rfl)
    refine wpAny_getItem_list_slice ht.isList (Heap.IsSliceOf.new _ vl vu vs) pl pu ps (by decide) ?_ (by rw [List.size_toArray]; omega)
    rw [PySem.W.krv_pick]
    refine ⟨.ref _, _, I5.laid (t' := s4.toks) (o := .lst xs.reverse) (fun b ob q => Heap.get?_push_of_some _ q) (Nat.le_refl _) ?_, rfl, q _ (I5.hok.fresh (Nat.le_refl _))⟩
    exact ⟨by rw [List.length_reverse]; exact hz, _, 0, r.reverse, Heap.get?_push_size _ rfl⟩
  · subst ex
    cases r1
    obtain ⟨its, r, ht, hz⟩ := I5.tuple hx
    have hlen := r.length
    refine tail_any (ops := [.ref a, .ref s4.heap.objs.size]) ht.typeIs (PyProof.Rows.slot_tuple_getitem.lookup) ?_ (by with_unfolding_all rfl)
    refine getItem_tuple_rev ht (Heap.IsSliceOf.new _ vl vu vs) pl pu ps ?_ (by rw [List.size_toArray]; omega)
    refine ⟨.ref _, _, I5.laid (t' := s4.toks) (o := .tup xs.reverse) (fun b ob q => Heap.get?_push_of_some _ q) (Nat.le_refl _) ?_, rfl, q _ (I5.hok.fresh (Nat.le_refl _))⟩
    exact ⟨by rw [List.length_reverse]; exact hz, _, r.reverse, ⟨_, Heap.get?_push_size _ rfl, rfl, _, rfl⟩⟩
  · subst ex
    obtain ⟨t, rfl⟩ := r1
    cases pl
    cases pu
    cases ps with
    | int _ tk =>
      refine tail_any (ops := [.ref s4.heap.objs.size, .str z t]) (typeIs_str _ _ _) PySem.F.slot_str_getitem.lookup ?_ (by with_unfolding_all rfl)
      have hmade : (Txt.sliceBy z none none (-1, tk)).length ≤ z.length := Txt.sliceBy_le z none none (-1, tk) (show (-1 : Int) ≠ 0 by decide)
      refine wpAny_getItem_str_slice (l := none) (u := none) (st := some (-1, tk)) ⟨_, Heap.get?_push_size _ rfl, rfl, rfl⟩ (show ((-1 : Int) == 0) = false by decide) (post_val_or_str ⟨Nat.le_trans hmade hz, fun t' c => ?_⟩)
      show EP X pins σ Q (Value.str (Txt.sliceBy z none none (-1, tk)) t') _
      rw [sliceBy_rev z tk]
      exact ⟨.str (revS z), H4, I5.tok c, ⟨_, rfl⟩, q⟩
def fRevA : F1 := fun x k => match x with
  | .list xs => k (.list xs.reverse)
  | .tuple xs => k (.tuple xs.reverse)
  | .str z => z.length ≤ sizeLine ∧ k (.str (revS z))
  | _ => False
theorem de_revA {X : Cx} {e : Expr} {te : dTE} {k : Nat} {p1 p2 p3 pos : Pos} (he : DE X e te) : DE X (.Subscript e (.Slice none none (some (.UnaryOp .USub (.Constant (.int 1) k p1) p2)) p3) pos) (dUn fRevA te) :=
  PE.imp (pe_revA he) fun σ H Q q => by
    obtain ⟨F, m, o, ρ, S, k, rel, t, hk⟩ := q
    refine ⟨F, m, o, ρ, S, _, rel, t, fun d S1 m1 H1 v h1 rel1 g1 r1 => ?_⟩
    have rv := rel1.view r1
    unfold fRevA at h1
    split at h1
    · rename_i xs hz
      rw [hz] at rv
      obtain ⟨a, vs, rfl, e1, e1', e2⟩ := rv.list'
      exact .inl ⟨a, vs, rfl, e1, fun p hp => hk _ S1 m1 _ _ h1 (rel1.sub (sub_upd hp)) (g1.trans (Grow.sub rel1 (sub_upd hp))) (new_lst rel1.st.alive hp (RpAll.reverse e2))⟩
    · rename_i xs hz
      rw [hz] at rv
      obtain ⟨a, vs, rfl, e1, e1', _, e2⟩ := rv.tup'
      exact .inr (.inl ⟨a, vs, rfl, e1, fun p hp => hk _ S1 m1 _ _ h1 (rel1.sub (sub_upd hp)) (g1.trans (Grow.sub rel1 (sub_upd hp))) (new_tup rel1.st.alive hp (RpAll.reverse e2))⟩)
    · rename_i z hz
      rw [hz] at rv
      exact .inr (.inr ⟨z, rv.str, h1.1, hk _ S1 m1 _ _ h1.2 rel1 g1 (.str _)⟩)
    · exact h1.elim
end L3

set_option maxHeartbeats 4000000
namespace L3
open PySem PySem.Spec L2
/-! ### comprehensions over told items -/
theorem comp_mapE {β : Type} {g : dTG} {te : dTE} {ρ : Env3} {S : Sto} {Q : List D → Sto → Prop} {ok : Env3 → Sto → Prop} (enc : β → D) (f : β → D) (ys : List β) (hok : ok ρ S) (hl : ys.length ≤ 16777216)
    (h : ∀ y ∈ ys, ∀ (K : DK) (K' : Sto → Prop), K (.d (f y)) S → g (enc y) ρ S fun ρ1 S1 => dYes ρ1 S1 fun b S2 => Br b (te ρ1 S2 K) (K' S2)) (q : Q (ys.map f) S) : cLoop ok g dYes te ρ Q (ys.map enc) [] S := by
  refine comp_inv (fun i acc S' => S' = S ∧ acc = (ys.take i).map f) (ys.map enc) 0 (fun j x e acc S' K K' hI hK hK' => ?_) (fun acc S' hI => ?_) [] S ⟨rfl, rfl⟩
  · obtain ⟨rfl, rfl⟩ := hI
    rw [List.getElem?_map, Option.map_eq_some_iff] at e
    obtain ⟨y, e, rfl⟩ := e
    refine ⟨hok, ?_, fun _ => h y (List.mem_of_getElem? e) K K' (hK _ _ ⟨rfl, ?_⟩)⟩
    · have := (List.getElem?_eq_some_iff.mp e).1
      refine line_lt ?_
      rw [List.length_map, List.length_take]
      omega
    · rw [Nat.zero_add] at *
      rw [List.take_add_one, e, List.map_append]
      rfl
  · obtain ⟨rfl, rfl⟩ := hI
    refine ⟨hok, ?_⟩
    rw [Nat.zero_add, List.length_map, List.take_length]
    exact q
theorem comp_filtE {β : Type} {g : dTG} {tt : dTT} {te : dTE} {ρ : Env3} {S : Sto} {Q : List D → Sto → Prop} {ok : Env3 → Sto → Prop} (enc : β → D) (p : β → Bool) (f : β → D) (ys : List β) (hok : ok ρ S) (hl : ys.length ≤ 16777216)
    (h : ∀ y ∈ ys, ∀ (K : DK) (K' : Sto → Prop), (p y = true → K (.d (f y)) S) → (p y = false → K' S) → g (enc y) ρ S fun ρ1 S1 => tt ρ1 S1 fun b S2 => Br b (te ρ1 S2 K) (K' S2)) (q : Q ((ys.filter p).map f) S) : cLoop ok g tt te ρ Q (ys.map enc) [] S := by
  refine comp_inv (fun i acc S' => S' = S ∧ acc = ((ys.take i).filter p).map f) (ys.map enc) 0 (fun j x e acc S' K K' hI hK hK' => ?_) (fun acc S' hI => ?_) [] S ⟨rfl, rfl⟩
  · obtain ⟨rfl, rfl⟩ := hI
    rw [List.getElem?_map, Option.map_eq_some_iff] at e
    obtain ⟨y, e, rfl⟩ := e
    refine ⟨hok, ?_, fun _ => h y (List.mem_of_getElem? e) K K' (fun hp => hK _ _ ⟨rfl, ?_⟩) (fun hp => hK' _ ⟨rfl, ?_⟩)⟩
    · have := (List.getElem?_eq_some_iff.mp e).1
      refine line_lt ?_
      rw [List.length_map]
      have l := List.length_filter_le p (ys.take (0 + j))
      rw [List.length_take] at l
      omega
    · rw [Nat.zero_add] at *
      rw [List.take_add_one, e, List.filter_append, List.map_append]
      show _ = _ ++ ([y].filter p).map f
      rw [List.filter_cons, hp]
      rfl
    · rw [Nat.zero_add] at *
      rw [List.take_add_one, e, List.filter_append, List.map_append]
      show _ = _ ++ ([y].filter p).map f
      rw [List.filter_cons, hp]
      simp
  · obtain ⟨rfl, rfl⟩ := hI
    refine ⟨hok, ?_⟩
    rw [Nat.zero_add, List.length_map, List.take_length]
    exact q
theorem rng_is (lo : Int) (n : Nat) : rng lo n = (List.range n).map fun i => .int (lo + (i : Nat)) := rfl
theorem rng0_is (n : Nat) : rng 0 n = (List.range n).map fun i => .int (i : Nat) := by
  unfold rng
  apply List.map_congr_left
  intro i _
  rw [Int.zero_add]
/-! ### what has been walked -/
theorem get_map {β : Type} {enc : β → D} {ys : List β} {j : Nat} {x : D} (e : (ys.map enc)[j]? = some x) : ∃ y, ys[j]? = some y ∧ x = enc y := by
  rw [List.getElem?_map, Option.map_eq_some_iff] at e
  obtain ⟨y, e, rfl⟩ := e
  exact ⟨y, e, rfl⟩
/-! ### slices -/
theorem cut_to {α : Type} (xs : List α) (i : Nat) : cut xs none (some (i : Int)) = xs.take i := by
  unfold cut
  rw [HT.sIx_none, HT.sIx_nat, List.drop_zero, Nat.sub_zero]
  by_cases h : i ≤ xs.length
  · rw [Nat.min_eq_left h]
  · rw [Nat.min_eq_right (by omega), List.take_length, List.take_of_length_le (by omega)]
theorem cut_from {α : Type} (xs : List α) (i : Nat) : cut xs (some (i : Int)) none = xs.drop i := by
  unfold cut
  rw [HT.sIx_none, HT.sIx_nat]
  by_cases h : i ≤ xs.length
  · rw [Nat.min_eq_left h, List.take_of_length_le (by rw [List.length_drop]; exact Nat.le_refl _)]
  · rw [Nat.min_eq_right (by omega), Nat.sub_self, List.take_zero, List.drop_eq_nil_of_le (by omega)]
theorem cut_mid {α : Type} (xs : List α) (i j : Nat) : cut xs (some (i : Int)) (some (j : Int)) = (xs.drop i).take (j - i) := by
  unfold cut
  rw [HT.sIx_nat, HT.sIx_nat]
  by_cases h : i ≤ xs.length
  · rw [Nat.min_eq_left h]
    by_cases h2 : j ≤ xs.length
    · rw [Nat.min_eq_left h2]
    · rw [Nat.min_eq_right (a := j) (by omega), List.take_of_length_le (by rw [List.length_drop]; exact Nat.le_refl _), List.take_of_length_le (by rw [List.length_drop]; omega)]
  · rw [Nat.min_eq_right (a := i) (by omega), List.drop_eq_nil_of_le (Nat.le_refl _), List.drop_eq_nil_of_le (by omega), List.take_nil, List.take_nil]
theorem cut_all {α : Type} (xs : List α) : cut xs none none = xs := by
  unfold cut
  rw [HT.sIx_none, HT.sIx_none, List.drop_zero, Nat.sub_zero, List.take_length]
theorem sIx_m1 (n d : Nat) : HT.sIx n d (some (-1)) = n - 1 := by
  unfold HT.sIx
  simp only [show ((-1 : Int) < 0) = True from by decide, if_true]
  omega
theorem cut_butlast {α : Type} (xs : List α) : cut xs none (some (-1)) = xs.dropLast := by
  unfold cut
  rw [HT.sIx_none, List.drop_zero, Nat.sub_zero, sIx_m1, List.dropLast_eq_take]
theorem cutS_S (a : List Nat) (lo hi : Option Int) : cutS (SX.S a) lo hi = SX.S (cut a lo hi) := by
  unfold cutS cut
  rw [SX.S_len]
theorem revS_S (a : List Nat) : revS (SX.S a) = SX.S a.reverse := rfl
theorem cut_map {α β : Type} (f : α → β) (xs : List α) (lo hi : Option Int) : cut (xs.map f) lo hi = (cut xs lo hi).map f := by
  unfold cut
  rw [List.length_map, List.map_take, List.map_drop]
theorem cut_len_le {α : Type} (xs : List α) (lo hi : Option Int) : (cut xs lo hi).length ≤ xs.length := by
  unfold cut
  rw [List.length_take, List.length_drop]
  omega
/-! ### texts of signs, joined -/
theorem joinL_one : ∀ w : List Nat, TL.joinL [] (w.map fun c => [c]) = w
  | [] => rfl
  | [c] => rfl
  | c :: d :: w => by
    have := joinL_one (d :: w)
    show [c] ++ ([] ++ TL.joinL [] ((d :: w).map fun c => [c])) = _
    rw [this]
    rfl
theorem str_nil : Str.ofString "" = SX.S [] := by decide +kernel
theorem join_signs (w : List Nat) : Txt.join (Str.ofString "") (w.map fun c => SX.S [c]) = SX.S w := by
  have e : (w.map fun c => SX.S [c]) = (w.map fun c => [c]).map SX.S := by rw [List.map_map]; rfl
  rw [str_nil, e, SX.join_S, joinL_one]
theorem strsOf_signs (w : List Nat) : strsOf (w.map fun c => .str (SX.S [c])) = some (w.map fun c => SX.S [c]) := by
  have e : (w.map fun c => (.str (SX.S [c]) : D)) = (w.map fun c => SX.S [c]).map .str := by rw [List.map_map]; rfl
  rw [e]
  exact strsOf_map _
theorem signs_len (w : List Nat) : ((w.map fun c => SX.S [c]).map (fun x => x.length)).sum + (w.map fun c => SX.S [c]).length * (Str.ofString "").length = w.length := by
  rw [show (Str.ofString "").length = 0 by decide +kernel, Nat.mul_zero, Nat.add_zero, List.map_map]
  induction w with
  | nil => rfl
  | cons c w ih =>
    rw [List.map_cons, List.sum_cons, ih, List.length_cons]
    show (SX.S [c]).length + w.length = _
    rw [SX.S_len]
    simp only [List.length_cons, List.length_nil]
    omega
theorem signs_S (w : List Nat) : signs (SX.S w) = w.map fun c => .str (SX.S [c]) := rfl
/-- what a join of signs asks -/
theorem join_ok {w : List Nat} {k : D → Prop} (hl : w.length ≤ 16777216) (h : k (.str (SX.S w))) : fJoin (.str (Str.ofString "")) [.list (w.map fun c => .str (SX.S [c]))] k := by
  show withL (strsOf (w.map fun c => .str (SX.S [c]))) _
  rw [strsOf_signs]
  refine ⟨?_, ?_⟩
  · rw [signs_len]; exact hl
  · rw [join_signs]; exact h
theorem intsOf_nats (ns : List Nat) : intsOf (ns.map fun n : Nat => .int (n : Nat)) = some (ns.map fun n : Nat => (n : Int)) := by
  have e : (ns.map fun n : Nat => (.int (n : Nat) : D)) = (ns.map fun n : Nat => ((n : Nat) : Int)).map .int := by rw [List.map_map]; rfl
  rw [e]
  exact intsOf_map _
end L3

set_option maxHeartbeats 4000000
namespace L3
open PySem PySem.Spec L2 PyProof.Rows
section
variable {prog : Program} {w : World} {A : Around} {E : Value → Shared → Prop} {s : Shared} {l : Addr} {its : List Value} {ns : List Int} {Q : Value → Shared → Prop}
theorem iter_tup {xs : Array (Int × Tok)} {R : Value → Shared → Prop} {A' : Around} (hl : s.heap.IsTuple l (intItems xs))
    (k : ∀ s₂ : Shared, s₂ = { s with heap := s.heap.push { cls := .type "tuple_iterator", data := .fields #[.ref l, .int 0 0] } } → (s₂.heap.IsTupleIter s.heap.objs.size l 0 ∧ s₂.heap.IsTuple l (intItems xs)) →
      (∀ b ∈ [s.heap.objs.size, l], b < s₂.heap.objs.size) → l ≠ s.heap.objs.size → R (.ref s.heap.objs.size) s₂) : wpAny (model prog w) A' (pyIter (.ref l)) R E s := by
  refine wpAny_pyIter_tuple hl ?_
  obtain ⟨o, ho, _⟩ := id hl
  have hlt : l < s.heap.objs.size := Heap.lt_size ho
  refine k _ rfl ⟨⟨_, Heap.get?_push_size _ rfl, rfl, rfl⟩, hl.push _⟩ (fun b hb => ?_) (Nat.ne_of_lt hlt)
  show b < (s.heap.push _).objs.size
  rw [Heap.size_push]
  have e : b = s.heap.objs.size ∨ b = l := by simpa using hb
  rcases e with e | e
  · rw [e]; exact Nat.lt_succ_self _
  · rw [e]; exact Nat.lt_succ_of_lt hlt
theorem old_keptT {o : Obj} {h' : Heap} (hk : ∀ b ob, b ∉ [s.heap.objs.size] → (s.heap.push o).get? b = some ob → h'.get? b = some ob) : ∀ b ob, s.heap.get? b = some ob → h'.get? b = some ob :=
  fun b ob e => hk b ob (fun q => by
    have := Heap.lt_size e
    rw [List.mem_singleton.mp q] at this
    exact Nat.lt_irrefl _ this) (Heap.get?_push_of_some _ e)
theorem sum_rawT (hh : A.handled = none) (hl : s.heap.IsTuple l its.toArray) (hi : IntsAre its ns)
    (h : ∀ h' tk t', (∀ b o, s.heap.get? b = some o → h'.get? b = some o) → Q (.int ns.sum t') { s with heap := h', toks := tk }) : wpAny (model prog w) A (call (.builtin "sum") [.ref l]) Q E s := by
  obtain ⟨xs, e⟩ := hi.allInts.items
  have hn : numsOf (intItems xs).toList = ns := by rw [← e]; exact hi.numsOf
  rw [nums_intItems] at hn
  rw [e] at hl
  refine call_sum_walkG (iter_tup hl fun s₂ e st hfp hlI => ?_)
  subst e
  refine ⟨_, _, _, _, _, _, numAt xs, rfl, Walks.tuple (A := A.in1) hh _ l hlI (intItems xs), st, hfp, (fun _ _ => intItems_at), fun h' tk t' hk => ?_⟩
  have := h h' tk t' (old_keptT hk)
  rw [← hn] at this
  rw [show (intItems xs).size = xs.size by simp [intItems], preSum_eq, List.take_of_length_le (by simp)]
  exact this
theorem max_rawT (hh : A.handled = none) (hl : s.heap.IsTuple l its.toArray) (hi : IntsAre its ns) (hne : 0 < ns.length)
    (h : ∀ h' tk M t', (∀ b o, s.heap.get? b = some o → h'.get? b = some o) → M ∈ ns → (∀ a, a ∈ ns → a ≤ M) → Q (.int M t') { s with heap := h', toks := tk }) : wpAny (model prog w) A (call (.builtin "max") [.ref l]) Q E s := by
  obtain ⟨xs, e⟩ := hi.allInts.items
  have hn : numsOf (intItems xs).toList = ns := by rw [← e]; exact hi.numsOf
  rw [nums_intItems] at hn
  subst hn
  rw [e] at hl
  have hsz : 0 < xs.size := by simpa using hne
  refine call_max_walk (iter_tup hl fun s₂ e st hfp hlI => ?_)
  subst e
  refine ⟨_, _, _, _, _, _, _, rfl, Walks.tuple (A := A.in1) hh _ l hlI (intItems xs), st, hfp, by simpa [intItems] using hsz, CmpOf.ints_gt (numAt xs) (fun _ _ => intItems_at), fun v h' tk hP hk => ?_⟩
  have hv : (intItems xs)[argBest (fun i j => decide (numAt xs i > numAt xs j)) (xs.size - 1)]? = some v := by simpa [intItems] using hP
  obtain ⟨t, rfl⟩ := intItems_at hv
  obtain ⟨h1, h2⟩ := argBest_gt (numAt xs) (xs.size - 1)
  refine h h' tk _ t (old_keptT hk) ?_ fun a ha => ?_
  · rw [numAt_eq]; exact PySem.getD_mem (by rw [List.length_map, Array.length_toList]; omega)
  · obtain ⟨j, hj, rfl⟩ := mem_getD ha
    rw [List.length_map, Array.length_toList] at hj
    rw [← numAt_eq]; exact h2 j (by omega)
theorem min_rawT (hh : A.handled = none) (hl : s.heap.IsTuple l its.toArray) (hi : IntsAre its ns) (hne : 0 < ns.length)
    (h : ∀ h' tk M t', (∀ b o, s.heap.get? b = some o → h'.get? b = some o) → M ∈ ns → (∀ a, a ∈ ns → M ≤ a) → Q (.int M t') { s with heap := h', toks := tk }) : wpAny (model prog w) A (call (.builtin "min") [.ref l]) Q E s := by
  obtain ⟨xs, e⟩ := hi.allInts.items
  have hn : numsOf (intItems xs).toList = ns := by rw [← e]; exact hi.numsOf
  rw [nums_intItems] at hn
  subst hn
  rw [e] at hl
  have hsz : 0 < xs.size := by simpa using hne
  refine call_min_walk (iter_tup hl fun s₂ e st hfp hlI => ?_)
  subst e
  refine ⟨_, _, _, _, _, _, _, rfl, Walks.tuple (A := A.in1) hh _ l hlI (intItems xs), st, hfp, by simpa [intItems] using hsz, CmpOf.ints_lt (numAt xs) (fun _ _ => intItems_at), fun v h' tk hP hk => ?_⟩
  have hv : (intItems xs)[argBest (fun i j => decide (numAt xs i < numAt xs j)) (xs.size - 1)]? = some v := by simpa [intItems] using hP
  obtain ⟨t, rfl⟩ := intItems_at hv
  obtain ⟨h1, h2⟩ := argBest_lt (numAt xs) (xs.size - 1)
  refine h h' tk _ t (old_keptT hk) ?_ fun a ha => ?_
  · rw [numAt_eq]; exact PySem.getD_mem (by rw [List.length_map, Array.length_toList]; omega)
  · obtain ⟨j, hj, rfl⟩ := mem_getD ha
    rw [List.length_map, Array.length_toList] at hj
    rw [← numAt_eq]; exact h2 j (by omega)
end
section
variable {X : Cx}
theorem cr_sumT (hc : X.calm = true) : CallR X (.builtin "sum") (fun vs H Q => ∃ (a : Addr) (ns : List Int), vs = [V.ref a] ∧ SqT X.K H a (ns.map V.int) ∧ Q (.int ns.sum) H) := by
  intro pins s σ H vs us Q I r h
  obtain ⟨a, ns, rfl, hs, q⟩ := h
  obtain ⟨its, rv, hl, _⟩ := I.tuple hs
  rw [Vals.ref1 r]
  exact sum_rawT (I.ok.hd hc) hl rv.ints fun h' tk t' hk => ⟨.int _, H, I.kept hk, ⟨_, rfl⟩, q⟩
theorem cr_maxT (hc : X.calm = true) : CallR X (.builtin "max") (fun vs H Q => ∃ (a : Addr) (ns : List Int), vs = [V.ref a] ∧ SqT X.K H a (ns.map V.int) ∧ 0 < ns.length ∧ ∀ m, m ∈ ns → (∀ y, y ∈ ns → y ≤ m) → Q (.int m) H) := by
  intro pins s σ H vs us Q I r h
  obtain ⟨a, ns, rfl, hs, hne, q⟩ := h
  obtain ⟨its, rv, hl, _⟩ := I.tuple hs
  rw [Vals.ref1 r]
  exact max_rawT (I.ok.hd hc) hl rv.ints hne fun h' tk m t' hk h1 h2 => ⟨.int _, H, I.kept hk, ⟨_, rfl⟩, q m h1 h2⟩
theorem cr_minT (hc : X.calm = true) : CallR X (.builtin "min") (fun vs H Q => ∃ (a : Addr) (ns : List Int), vs = [V.ref a] ∧ SqT X.K H a (ns.map V.int) ∧ 0 < ns.length ∧ ∀ m, m ∈ ns → (∀ y, y ∈ ns → m ≤ y) → Q (.int m) H) := by
  intro pins s σ H vs us Q I r h
  obtain ⟨a, ns, rfl, hs, hne, q⟩ := h
  obtain ⟨its, rv, hl, _⟩ := I.tuple hs
  rw [Vals.ref1 r]
  exact min_rawT (I.ok.hd hc) hl rv.ints hne fun h' tk m t' hk h1 h2 => ⟨.int _, H, I.kept hk, ⟨_, rfl⟩, q m h1 h2⟩
def seqOf : D → Option (List D)
  | .list xs => some xs
  | .tuple xs => some xs
  | _ => none
def fSumA : FN := fun ds k => match ds with
  | [.list xs] => withL (intsOf xs) fun ns => k (.int ns.sum)
  | [.tuple xs] => withL (intsOf xs) fun ns => k (.int ns.sum)
  | _ => False
def fMaxA : FN := fun ds k => match ds with
  | [.int i, .int j] => k (.int (max i j))
  | [.list xs] => withL (intsOf xs) fun ns => 0 < ns.length ∧ k (.int (maxL ns))
  | [.tuple xs] => withL (intsOf xs) fun ns => 0 < ns.length ∧ k (.int (maxL ns))
  | _ => False
def fMinA : FN := fun ds k => match ds with
  | [.int i, .int j] => k (.int (min i j))
  | [.list xs] => withL (intsOf xs) fun ns => 0 < ns.length ∧ k (.int (minL ns))
  | [.tuple xs] => withL (intsOf xs) fun ns => 0 < ns.length ∧ k (.int (minL ns))
  | _ => False
theorem ints_rep {K : PySem.W.Frag} {H : Hp} {vs : List V} {xs : List D} {ns : List Int} (e : intsOf xs = some ns) (h2 : RpAll K H vs xs) : vs = ns.map V.int := by
  rw [intsOf_is e] at h2
  exact RpAll.ints h2
theorem c_sumA (hc : X.calm = true) : ∃ r, CallR X (.builtin "sum") r ∧ CallD X.K r fSumA := by
  refine ⟨_, (cr_sum hc).or (cr_sumT hc), fun M H xs ds k Q al rx h fin => ?_⟩
  unfold fSumA at h
  split at h
  · obtain ⟨ns, e, h⟩ := withL_of h
    obtain ⟨v, rfl, r1⟩ := vreps1 rx
    obtain ⟨a, vs, rfl, h1, _, h2⟩ := r1.list'
    have e3 := ints_rep e h2
    subst e3
    exact .inl ⟨a, ns, rfl, h1, fin _ _ _ h (Sub.refl _) (.int _)⟩
  · obtain ⟨ns, e, h⟩ := withL_of h
    obtain ⟨v, rfl, r1⟩ := vreps1 rx
    obtain ⟨a, vs, rfl, h1, _, _, h2⟩ := r1.tup'
    have e3 := ints_rep e h2
    subst e3
    exact .inr ⟨a, ns, rfl, h1, fin _ _ _ h (Sub.refl _) (.int _)⟩
  · exact h.elim
theorem c_maxA (hc : X.calm = true) : ∃ r, CallR X (.builtin "max") r ∧ CallD X.K r fMaxA := by
  refine ⟨_, (call_max2 hc).or ((cr_max hc).or (cr_maxT hc)), fun M H xs ds k Q al rx h fin => ?_⟩
  unfold fMaxA at h
  split at h
  · obtain ⟨v, w, rfl, r1, r2⟩ := vreps2 rx
    have e := r1.int
    have e2 := r2.int
    subst e e2
    rename_i i j
    refine .inl ⟨_, _, rfl, ?_⟩
    rw [show (if j > i then j else i) = max i j by omega]
    exact fin _ _ _ h (Sub.refl _) (.int _)
  · obtain ⟨ns, e, h0, h⟩ := withL_of h
    obtain ⟨v, rfl, r1⟩ := vreps1 rx
    obtain ⟨a, vs, rfl, h1, _, h2⟩ := r1.list'
    have e3 := ints_rep e h2
    subst e3
    refine .inr (.inl ⟨a, ns, rfl, h1, h0, fun m hm hle => ?_⟩)
    have : m = maxL ns := Int.le_antisymm ((maxL_mem h0).2 m hm) (hle _ (maxL_mem h0).1)
    rw [this]
    exact fin _ _ _ h (Sub.refl _) (.int _)
  · obtain ⟨ns, e, h0, h⟩ := withL_of h
    obtain ⟨v, rfl, r1⟩ := vreps1 rx
    obtain ⟨a, vs, rfl, h1, _, _, h2⟩ := r1.tup'
    have e3 := ints_rep e h2
    subst e3
    refine .inr (.inr ⟨a, ns, rfl, h1, h0, fun m hm hle => ?_⟩)
    have : m = maxL ns := Int.le_antisymm ((maxL_mem h0).2 m hm) (hle _ (maxL_mem h0).1)
    rw [this]
    exact fin _ _ _ h (Sub.refl _) (.int _)
  · exact h.elim
theorem c_minA (hc : X.calm = true) : ∃ r, CallR X (.builtin "min") r ∧ CallD X.K r fMinA := by
  refine ⟨_, (call_min2 hc).or ((cr_min hc).or (cr_minT hc)), fun M H xs ds k Q al rx h fin => ?_⟩
  unfold fMinA at h
  split at h
  · obtain ⟨v, w, rfl, r1, r2⟩ := vreps2 rx
    have e := r1.int
    have e2 := r2.int
    subst e e2
    rename_i i j
    refine .inl ⟨_, _, rfl, ?_⟩
    rw [show (if j < i then j else i) = min i j by omega]
    exact fin _ _ _ h (Sub.refl _) (.int _)
  · obtain ⟨ns, e, h0, h⟩ := withL_of h
    obtain ⟨v, rfl, r1⟩ := vreps1 rx
    obtain ⟨a, vs, rfl, h1, _, h2⟩ := r1.list'
    have e3 := ints_rep e h2
    subst e3
    refine .inr (.inl ⟨a, ns, rfl, h1, h0, fun m hm hle => ?_⟩)
    have : m = minL ns := Int.le_antisymm (hle _ (minL_mem h0).1) ((minL_mem h0).2 m hm)
    rw [this]
    exact fin _ _ _ h (Sub.refl _) (.int _)
  · obtain ⟨ns, e, h0, h⟩ := withL_of h
    obtain ⟨v, rfl, r1⟩ := vreps1 rx
    obtain ⟨a, vs, rfl, h1, _, _, h2⟩ := r1.tup'
    have e3 := ints_rep e h2
    subst e3
    refine .inr (.inr ⟨a, ns, rfl, h1, h0, fun m hm hle => ?_⟩)
    have : m = minL ns := Int.le_antisymm (hle _ (minL_mem h0).1) ((minL_mem h0).2 m hm)
    rw [this]
    exact fin _ _ _ h (Sub.refl _) (.int _)
  · exact h.elim
end

/-! ### tuple * int, all cases -/
theorem tuple_mul1 (l : Addr) (items : Array Value) (n : Nat) (dd : Option Addr) (sl : Array (Option Value)) (x : Int) (u : Tok) (c0 : (decide (x < -(2 ^ 63)) || decide (x ≥ 2 ^ 63)) = false) (c1 : (items.isEmpty || x == 1) = true) :
    Meets (Builtin.«tuple.__mul__» ⟨[.ref l, .int x u], []⟩) (fun _ R s => s.heap.get? l = some { cls := .type "tuple", dict := dd, data := .seq items n, slots := sl } ∧
      R (.ok (.ret (Value.ref l))) s) :=
  .of_wp fun prog w A R s h => by
    obtain ⟨hp, g, d, tk, os⟩ := s
    obtain ⟨hl, h⟩ := h
    have f1 := AutoSeq1.idx_int
    wp_walk using wpAny_loadPart' hl
    repeat (first
      | (refine wpAny_ite_false (decide_eq_false (by rw [c0]; exact Bool.false_ne_true)) ?_; wp_walk using wpAny_loadPart' hl)
      | (refine wpAny_ite_true (decide_eq_true c1) ?_; wp_walk using wpAny_loadPart' hl))
    exact ⟨_, rfl, h⟩
theorem tuple_mul0 (l : Addr) (items : Array Value) (n : Nat) (dd : Option Addr) (sl : Array (Option Value)) (x : Int) (u : Tok) (c0 : (decide (x < -(2 ^ 63)) || decide (x ≥ 2 ^ 63)) = false) (c1 : (items.isEmpty || x == 1) = false) (c2 : (decide (x ≤ 0) || items.isEmpty) = true) :
    Meets (Builtin.«tuple.__mul__» ⟨[.ref l, .int x u], []⟩) (fun _ R s => s.heap.get? l = some { cls := .type "tuple", dict := dd, data := .seq items n, slots := sl } ∧
      R (.ok (.ret (Value.ref s.heap.objs.size))) { s with heap := s.heap.push { cls := Value.type "tuple", data := Data.seq #[] }, toks := s.toks }) :=
  .of_wp fun prog w A R s h => by
    obtain ⟨hp, g, d, tk, os⟩ := s
    obtain ⟨hl, h⟩ := h
    have f1 := AutoSeq1.idx_int
    wp_walk using wpAny_loadPart' hl
    repeat (first
      | (refine wpAny_ite_false (decide_eq_false (by rw [c0]; exact Bool.false_ne_true)) ?_; wp_walk using wpAny_loadPart' hl)
      | (refine wpAny_ite_false (decide_eq_false (by rw [c1]; exact Bool.false_ne_true)) ?_; wp_walk using wpAny_loadPart' hl)
      | (refine wpAny_ite_true (decide_eq_true c2) ?_; wp_walk using wpAny_loadPart' hl))
    exact ⟨_, rfl, h⟩
/-- the same tuple, or an empty new one -/
def rRepT1 (K : PySem.W.Frag) : R2 := fun x y H Q => ∃ l k xs, x = .ref l ∧ y = .int k ∧ SqT K H l xs ∧ -(2 ^ 63) ≤ k ∧ k < 2 ^ 63 ∧ ((xs = [] ∨ k = 1) ∧ Q (.ref l) H ∨ (xs ≠ [] ∧ k ≤ 0 ∧ ∀ p, H p = none → Q (.ref p) (upd H p (.tup []))))
section
variable {X : Cx}
theorem op_repT1 : OpR X (binaryOp .Mult) (rRepT1 X.K) := by
  intro pins s σ H x y v u Q I rx ry h
  obtain ⟨l, k, xs, rfl, rfl, hT, h1, h2, q⟩ := h
  cases rx
  obtain ⟨t, rfl⟩ := ry
  obtain ⟨its, r, ⟨⟨cls, dd, data, sl⟩, ho, hc, n, hd⟩, hs⟩ := I.tuple hT
  simp only at hc hd
  subst hc hd
  have c0 : (decide (k < -(2 ^ 63)) || decide (k ≥ 2 ^ 63)) = false := by
    rw [decide_eq_false (by omega), decide_eq_false (by omega)] <;> rfl
  have hle : its.length = xs.length := r.length.symm
  rcases q with ⟨c, q⟩ | ⟨hne, hk, q⟩
  · have c1 : (its.toArray.isEmpty || k == 1) = true := by
      rcases c with c | c
      · subst c
        have : its = [] := List.eq_nil_of_length_eq_zero hle
        subst this
        rfl
      · subst c
        rw [Bool.or_eq_true]
        exact .inr rfl
    refine wpAny_binaryOp_repeat_ref (T := "tuple") (U := "int") (by decide) ⟨_, ho, rfl⟩ (fun s' => typeIs_int s' k t) noFill_tuple_mul F.fills_int_mul F.slot_int_rmul repeat_tuple F.slot_int_index.lookup
      (call_meets F.slot_int_rmul (typeIs_int s k t) F.entry_int_rmul (F.args_int_rmul_2 _ _) (int_rmul_tuple k t l its.toArray n dd sl)
        ⟨ho, rfl, ⟨_, ho, rfl⟩, call_meets F.slot_tuple_mul ⟨_, ho, rfl⟩ F.entry_tuple_mul (F.args_tuple_mul_2 _ _) (tuple_mul1 l its.toArray n dd sl k t c0 c1) ⟨ho, ?_⟩⟩)
    exact ⟨.ref l, H, I, rfl, q⟩
  · have hn : its ≠ [] := fun e => hne (by
      rw [e] at hle
      exact List.eq_nil_of_length_eq_zero hle.symm)
    have hi : its.toArray.isEmpty = false := by
      cases its with
      | nil => exact absurd rfl hn
      | cons a b => rfl
    have c1 : (its.toArray.isEmpty || k == 1) = false := by
      rw [hi, Bool.false_or]
      exact beq_eq_false_iff_ne.mpr (by omega)
    have c2 : (decide (k ≤ 0) || its.toArray.isEmpty) = true := by
      rw [decide_eq_true hk]
      rfl
    refine wpAny_binaryOp_repeat_ref (T := "tuple") (U := "int") (by decide) ⟨_, ho, rfl⟩ (fun s' => typeIs_int s' k t) noFill_tuple_mul F.fills_int_mul F.slot_int_rmul repeat_tuple F.slot_int_index.lookup
      (call_meets F.slot_int_rmul (typeIs_int s k t) F.entry_int_rmul (F.args_int_rmul_2 _ _) (int_rmul_tuple k t l its.toArray n dd sl)
        ⟨ho, rfl, ⟨_, ho, rfl⟩, call_meets F.slot_tuple_mul ⟨_, ho, rfl⟩ F.entry_tuple_mul (F.args_tuple_mul_2 _ _) (tuple_mul0 l its.toArray n dd sl k t c0 c1 c2) ⟨ho, ?_⟩⟩)
    refine ⟨.ref s.heap.objs.size, _, I.laid (t' := s.toks) (o := .tup []) (fun b ob q => Heap.get?_push_of_some _ q) (Nat.le_refl _) ?_, rfl, q _ (I.hok.fresh (Nat.le_refl _))⟩
    exact ⟨Nat.zero_le _, [], .nil, IsTup.new _ _⟩
def fMulA : F2 := fun x y k => match x, y with
  | .int i, .int j => CMul i j ∧ k (.int (i * j))
  | .str z, .int n => (-(2 ^ 63) ≤ n ∧ n < 2 ^ 63 ∧ z.length * n.toNat ≤ sizeLine) ∧ k (.str (strTimes z n))
  | .list xs, .int n => (-(2 ^ 63) ≤ n ∧ n < 2 ^ 63 ∧ xs.length * n.toNat ≤ sizeLine) ∧ k (.list (List.replicate n.toNat xs).flatten)
  | .tuple xs, .int n => (-1000 ≤ n ∧ n ≤ 1000 ∧ xs.length ≤ 1000) ∧ k (.tuple (List.replicate n.toNat xs).flatten)
  | _, _ => False
theorem flat_nil (n : Nat) : (List.replicate n ([] : List D)).flatten = [] := by
  induction n with
  | zero => rfl
  | succ n ih => rw [List.replicate_succ, List.flatten_cons, ih]; rfl
theorem o_mulA : ∃ r, OpR X (binaryOp .Mult) r ∧ OpD X.K r fMulA := by
  refine ⟨_, op_mul.or (op_mulS.or (op_rep.or (op_repT.or op_repT1))), fun M H x y dx dy k Q al rx ry h fin => ?_⟩
  unfold fMulA at h
  split at h
  · exact .inl ⟨_, _, rx.int, ry.int, h.1, fin _ _ _ h.2 (Sub.refl _) (.int _)⟩
  · exact .inr (.inl ⟨_, _, rx.str, ry.int, h.1, fin _ _ _ h.2 (Sub.refl _) (.str _)⟩)
  · obtain ⟨a, vs, rfl, h1, h1', h2⟩ := rx.list'
    obtain ⟨⟨c1, c2, c3⟩, hk⟩ := h
    exact .inr (.inr (.inl ⟨a, _, vs, rfl, ry.int, h1', c1, c2, by rw [RpAll.length h2]; exact c3, fun p hp => fin _ _ _ hk (sub_upd hp) (new_lst al hp (flat_rep h2 _))⟩))
  · rename_i xs n
    obtain ⟨a, vs, rfl, h1, h1', hn, h2⟩ := rx.tup'
    obtain ⟨⟨c1, c2, c3⟩, hk⟩ := h
    have hl := RpAll.length h2
    by_cases e0 : vs = []
    · subst e0
      have e1 : xs = [] := List.eq_nil_of_length_eq_zero hl.symm
      subst e1
      rw [flat_nil] at hk
      exact .inr (.inr (.inr (.inr ⟨a, n, [], rfl, ry.int, h1, by omega, by omega, .inl ⟨.inl rfl, fin _ _ _ hk (Sub.refl _) (.tup (Fz.of hn h1') h2)⟩⟩)))
    · by_cases e1 : n = 1
      · subst e1
        have e2 : (List.replicate (1 : Int).toNat xs).flatten = xs := by simp
        rw [e2] at hk
        exact .inr (.inr (.inr (.inr ⟨a, 1, vs, rfl, ry.int, h1, by omega, by omega, .inl ⟨.inr rfl, fin _ _ _ hk (Sub.refl _) (.tup (Fz.of hn h1') h2)⟩⟩)))
      · by_cases e2 : n ≤ 0
        · have e3 : n.toNat = 0 := by omega
          rw [e3] at hk
          exact .inr (.inr (.inr (.inr ⟨a, n, vs, rfl, ry.int, h1, by omega, by omega, .inr ⟨e0, e2, fun p hp => fin _ _ _ hk (sub_upd hp) (new_tup al hp .nil)⟩⟩)))
        · exact .inr (.inr (.inr (.inl ⟨a, n, vs, rfl, ry.int, h1, e0, by omega, by omega, by rw [hl]; exact c3, fun p hp => fin _ _ _ hk (sub_upd hp) (new_tup al hp (flat_rep h2 _))⟩)))
  · exact h.elim
end
end L3

set_option maxHeartbeats 4000000
namespace L3
open PySem PySem.Spec L2 PyProof.Rows
/-! ### x, ys = e, a new list that is one's own -/
def dParVO (i j : Nat) (te : dTE) (tf : dTF) : dTS := fun E ρ S => te ρ S fun d S1 => nl d (tf ρ S1 fun xs S2 => match ρ[j]? with
  | some _ => E.nx ((ρ.set i (.val d)).set j (.own (.lst xs))) S2
  | none => False)
def dParOV (i j : Nat) (tf : dTF) (te : dTE) : dTS := fun E ρ S => tf ρ S fun xs S1 => te ρ S1 fun d S2 => nl d (match ρ[i]? with
  | some _ => E.nx ((ρ.set i (.own (.lst xs))).set j (.val d)) S2
  | none => False)
def dParOO (i j : Nat) (tf tg : dTF) : dTS := fun E ρ S => tf ρ S fun xs S1 => tg ρ S1 fun ys S2 => match ρ[i]?, ρ[j]? with
  | some _, some _ => E.nx ((ρ.set i (.own (.lst xs))).set j (.own (.lst ys))) S2
  | _, _ => False
section
variable {K : PySem.W.Frag} {F : Addr → Prop} {m o : Nat → Option Addr} {ρ : Env3} {S : Sto} {σ : L2.St} {H : Hp}
theorem DRep.own {v : V} {d : DV} {i : Nat} {p : Addr} {u : HO} (q : DRep K F m o H v d) (hp : H p = none) (n : isLoc d = false) : DRep K F m (putO (ersO o i) i p) (upd H p u) v d := by
  cases d with
  | d x => exact Rp.sub (fz_own hp) q
  | ref k => exact q
  | loc j => cases n
theorem not_mu (r : Stor K (fun a => F a ∨ a = p) m o S H) : ¬ Mu F m o p ∨ F p := by
  by_cases hF : F p
  · exact .inr hF
  · refine .inl fun z => ?_
    rcases z with z | ⟨n, z⟩ | ⟨i, z⟩
    · exact hF z
    · exact r.injF n p z (.inr rfl)
    · exact r.oF i p z (.inr rfl)
end
section
variable {X : Cx}
theorem ds_parVO {i j : Nat} {x y : Str} {a b : Expr} {te : dTE} {tf : dTF} {px py pt : Pos} {kt k2 pt2} {pos : Pos} (hc : X.calm = true) (hN : X.N.Nodup) (hi : X.N[i]? = some x) (hj : X.N[j]? = some y) (hij : i ≠ j)
    (hx : X.env.scope.names.lookup x = some .local) (hy : X.env.scope.names.lookup y = some .local) (ha : DE X a te) (hb : DF X b tf)
    (hw : swappedStores [.Tuple [.Name x px, .Name y py] kt pt] (.Tuple [a, b] k2 pt2) X.env = pure (some [x, y]) := by rfl)
    (hs : swapsWithSole [.Tuple [.Name x px, .Name y py] kt pt] (.Tuple [a, b] k2 pt2) pos.line X.env = pure false := by rfl)
    (h1 : starEach [a, b] X.env = (false, eval a X.env) :: starEach [b] X.env := by rfl) (h2 : starEach [b] X.env = (false, eval b X.env) :: starEach [] X.env := by rfl) :
    DS X (.Assign [.Tuple [.Name x px, .Name y py] kt pt] (.Tuple [a, b] k2 pt2) pos) (dParVO i j te tf) := PS.imp (ps_par hc hN hi hj hij hx hy (pa_cons ha (pa_cons hb pa_nil h2) h1) hw hs) fun E σ H q => by
  obtain ⟨F, m, o, ρ, S, E', rel, t, ok⟩ := q
  refine ⟨F, m, o, ρ, S, _, rel, t, fun d S1 m1 H1 v h r g q => ?_⟩
  obtain ⟨n1, h⟩ := nl_of h
  refine ⟨F, m1, o, ρ, S1, _, r, h, fun xs S2 m2 H2 p vs h r2 g2 hp dp => ?_⟩
  refine ⟨v, .ref p, rfl, ?_⟩
  have hl : j < ρ.length := by
    by_cases z : j < ρ.length
    · exact z
    · rw [List.getElem?_eq_none_iff.mpr (by omega)] at h
      exact h.elim
  rw [List.getElem?_eq_getElem hl] at h
  have r3 := r2.put i (q.grow g2) n1
  have hl' : j < (ρ.set i (.val d)).length := by rw [List.length_set]; exact hl
  have dp' := RpAll.sub (fz_ers (F := F) (m := m2) (o := o) (H := H2) i) dp
  exact ok.nx _ S2 m2 _ _ _ h (r3.own (c := .lst xs) (u := .lst vs) hp hl' ⟨vs, upd_same, RpAll.sub (fz_own hp) dp'⟩) (((g.trans g2).trans (Grow.ers i)).trans (Grow.own r3.st hp))
theorem grow_past {K : PySem.W.Frag} {F : Addr → Prop} {m1 m2 o : Nat → Option Addr} {ρ : Env3} {S1 S2 : Sto} {σ : L2.St} {H1 H2 : Hp} {p : Addr} {u : HO} (r : Rel K F m1 o ρ S1 σ H1) (hp : H1 p = none)
    (r2 : Rel K (fun a => F a ∨ a = p) m2 o ρ S2 σ H2) (g2 : Grow (fun a => F a ∨ a = p) m1 o (upd H1 p u) m2 o H2) :
    Rel K F m2 o ρ S2 σ (without H2 p) ∧ Sub (Fz H2 (Mu (fun a => F a ∨ a = p) m2 o)) (Fz (without H2 p) (Mu F m2 o)) ∧ Grow F m1 o H1 m2 o (without H2 p) ∧ upd (without H2 p) p u = H2 ∧ (without H2 p) p = none ∧ Sub (Fz H1 (Mu F m1 o)) (Fz (without H2 p) (Mu F m2 o)) := by
  have nF : ¬ F p := fun z => r.st.alive p (.inl z) hp
  have np : ¬ Mu F m2 o p := fun z => by
    rcases z with z | ⟨n, z⟩ | ⟨i, z⟩
    · exact nF z
    · exact r2.st.injF n p z (.inr rfl)
    · exact r2.st.oF i p z (.inr rfl)
  obtain ⟨r3, s3⟩ := r2.unguard np
  obtain ⟨_, sg⟩ := r.guard (u := u) hp
  have hz : Sub (Fz H1 (Mu F m1 o)) (Fz (without H2 p) (Mu F m2 o)) := fun a w e => s3 a w (g2.z a w (sg a w e))
  have e2 : H2 p = some u := by rw [g2.f p (.inr rfl), upd_same]
  refine ⟨r3, s3, ⟨fun a fa => ?_, hz, fun n a e => g2.m n a e⟩, without_upd e2, if_pos rfl, hz⟩
  have hne : a ≠ p := fun e => nF (by rw [← e]; exact fa)
  show (without H2 p) a = H1 a
  unfold without
  rw [if_neg hne, g2.f a (.inl fa), upd_ne hne]
theorem drep_past {K : PySem.W.Frag} {F F' : Addr → Prop} {m o : Nat → Option Addr} {H H' : Hp} {v : V} {d : DV} (q : DRep K F' m o H v d) (s : Sub (Fz H (Mu F' m o)) (Fz H' (Mu F m o))) : DRep K F m o H' v d := by
  cases d with
  | d x => exact Rp.sub s q
  | ref k => exact q
  | loc j => exact q
theorem lt_of_some {ρ : Env3} {j : Nat} {P : Slot → Prop} (h : match ρ[j]? with | some z => P z | none => False) : j < ρ.length := by
  by_cases z : j < ρ.length
  · exact z
  · rw [List.getElem?_eq_none_iff.mpr (by omega)] at h
    exact h.elim
theorem ds_parOV {i j : Nat} {x y : Str} {a b : Expr} {te : dTE} {tf : dTF} {px py pt : Pos} {kt k2 pt2} {pos : Pos} (hc : X.calm = true) (hN : X.N.Nodup) (hi : X.N[i]? = some x) (hj : X.N[j]? = some y) (hij : i ≠ j)
    (hx : X.env.scope.names.lookup x = some .local) (hy : X.env.scope.names.lookup y = some .local) (hb : DF X a tf) (ha : DE X b te)
    (hw : swappedStores [.Tuple [.Name x px, .Name y py] kt pt] (.Tuple [a, b] k2 pt2) X.env = pure (some [x, y]) := by rfl)
    (hs : swapsWithSole [.Tuple [.Name x px, .Name y py] kt pt] (.Tuple [a, b] k2 pt2) pos.line X.env = pure false := by rfl)
    (h1 : starEach [a, b] X.env = (false, eval a X.env) :: starEach [b] X.env := by rfl) (h2 : starEach [b] X.env = (false, eval b X.env) :: starEach [] X.env := by rfl) :
    DS X (.Assign [.Tuple [.Name x px, .Name y py] kt pt] (.Tuple [a, b] k2 pt2) pos) (dParOV i j tf te) := PS.imp (ps_par hc hN hi hj hij hx hy (pa_cons hb (pa_cons ha pa_nil h2) h1) hw hs) fun E σ H q => by
  obtain ⟨F, m, o, ρ, S, E', rel, t, ok⟩ := q
  refine ⟨F, m, o, ρ, S, _, rel, t, fun xs S1 m1 H1 p vs h r g hp dp => ?_⟩
  obtain ⟨rg, sg⟩ := r.guard (u := .lst vs) hp
  refine ⟨fun a => F a ∨ a = p, m1, o, ρ, S1, _, rg, h, fun d S2 m2 H2 v h r2 g2 q2 => ?_⟩
  obtain ⟨n1, h⟩ := nl_of h
  refine ⟨.ref p, v, rfl, ?_⟩
  obtain ⟨r3, s3, g3, e3, hp3, hz⟩ := grow_past r hp r2 g2
  have hl := lt_of_some h
  rw [List.getElem?_eq_getElem hl] at h
  have r4 := r3.own (i := i) (u := .lst vs) (c := .lst xs) hp3 hl ⟨vs, upd_same, RpAll.sub (fz_own hp3) (RpAll.sub hz dp)⟩
  have q4 := DRep.own (i := i) (u := .lst vs) (drep_past q2 s3) hp3 n1
  have g4 := Grow.own (i := i) (u := .lst vs) r3.st hp3
  rw [e3] at r4 q4 g4
  exact ok.nx _ S2 m2 _ _ _ h (r4.put j q4 n1) (((g.trans g3).trans g4).trans (Grow.ers j))
theorem ds_parOO {i j : Nat} {x y : Str} {a b : Expr} {tf tg : dTF} {px py pt : Pos} {kt k2 pt2} {pos : Pos} (hc : X.calm = true) (hN : X.N.Nodup) (hi : X.N[i]? = some x) (hj : X.N[j]? = some y) (hij : i ≠ j)
    (hx : X.env.scope.names.lookup x = some .local) (hy : X.env.scope.names.lookup y = some .local) (hb : DF X a tf) (ha : DF X b tg)
    (hw : swappedStores [.Tuple [.Name x px, .Name y py] kt pt] (.Tuple [a, b] k2 pt2) X.env = pure (some [x, y]) := by rfl)
    (hs : swapsWithSole [.Tuple [.Name x px, .Name y py] kt pt] (.Tuple [a, b] k2 pt2) pos.line X.env = pure false := by rfl)
    (h1 : starEach [a, b] X.env = (false, eval a X.env) :: starEach [b] X.env := by rfl) (h2 : starEach [b] X.env = (false, eval b X.env) :: starEach [] X.env := by rfl) :
    DS X (.Assign [.Tuple [.Name x px, .Name y py] kt pt] (.Tuple [a, b] k2 pt2) pos) (dParOO i j tf tg) := PS.imp (ps_par hc hN hi hj hij hx hy (pa_cons hb (pa_cons ha pa_nil h2) h1) hw hs) fun E σ H q => by
  obtain ⟨F, m, o, ρ, S, E', rel, t, ok⟩ := q
  refine ⟨F, m, o, ρ, S, _, rel, t, fun xs S1 m1 H1 p vs h r g hp dp => ?_⟩
  obtain ⟨rg, sg⟩ := r.guard (u := .lst vs) hp
  refine ⟨fun a => F a ∨ a = p, m1, o, ρ, S1, _, rg, h, fun ys S2 m2 H2 p2 ws h r2 g2 hp2 dp2 => ?_⟩
  refine ⟨.ref p, .ref p2, rfl, ?_⟩
  obtain ⟨r3, s3, g3, e3, hp3, hz⟩ := grow_past r hp r2 g2
  have hl : i < ρ.length ∧ j < ρ.length := by
    refine ⟨?_, ?_⟩
    · by_cases z : i < ρ.length
      · exact z
      · rw [List.getElem?_eq_none_iff.mpr (by omega)] at h
        exact h.elim
    · by_cases z : j < ρ.length
      · exact z
      · rw [List.getElem?_eq_none_iff (i := j).mpr (by omega)] at h
        cases e : ρ[i]? <;> rw [e] at h <;> exact h.elim
  rw [List.getElem?_eq_getElem hl.1, List.getElem?_eq_getElem hl.2] at h
  have r4 := r3.own (i := i) (u := .lst vs) (c := .lst xs) hp3 hl.1 ⟨vs, upd_same, RpAll.sub (fz_own hp3) (RpAll.sub hz dp)⟩
  have q4 : RpAll X.K (Fz (upd (without H2 p) p (.lst vs)) (Mu F m2 (putO (ersO o i) i p))) ws ys := RpAll.sub (fz_own hp3) (RpAll.sub s3 dp2)
  have g4 := Grow.own (i := i) (u := .lst vs) r3.st hp3
  rw [e3] at r4 q4 g4
  have hl' : j < (ρ.set i (.own (.lst xs))).length := by rw [List.length_set]; exact hl.2
  exact ok.nx _ S2 m2 _ _ _ h (r4.own (i := j) (u := .lst ws) (c := .lst ys) hp2 hl' ⟨ws, upd_same, RpAll.sub (fz_own hp2) q4⟩) (((g.trans g3).trans g4).trans (Grow.own r4.st hp2))
end
end L3

set_option maxHeartbeats 4000000
namespace L3
open PySem PySem.Spec L2
theorem Br.nd {p : Prop} [Decidable p] {A B : Prop} (h : ¬ p → A) (h' : p → B) : Br (!decide p) A B := by
  by_cases c : p
  · rw [decide_eq_true c]; exact h' c
  · rw [decide_eq_false c]; exact h c
/-- what both ways of a test come to, shown once -/
structure Jn (R : Prop) : Prop where
  r : R
theorem cutR {R G : Prop} (h : Jn R → G) (r : R) : G := h ⟨r⟩
/-- a loop that changes nothing but what f forgets -/
theorem loopJ {α : Type} {ok : Env3 → Sto → Prop} {g : dTG} {b : dTS} {E : dEnds} (f : α → Env3) (S : Sto) (xs : List D) (hok : ∀ s, ok (f s) S)
    (h1 : ∀ (j : Nat) (x : D), xs[j]? = some x → ∀ s (K : Env3 → Sto → Prop), (∀ s', K (f s') S) → g x (f s) S fun ρ1 S1 => b { E with nx := K, ct := K, bk := E.nx } ρ1 S1)
    (h2 : ∀ s, E.nx (f s) S) (s : α) : dLp ok g b E xs (f s) S := by
  refine loop_inv (fun _ ρ S' => S' = S ∧ ∃ s, ρ = f s) xs 0 (fun j x e ρ S' K hI hK => ?_) (fun ρ S' hI => ?_) _ _ ⟨rfl, s, rfl⟩
  · obtain ⟨rfl, s, rfl⟩ := hI
    exact ⟨hok s, h1 j x e s K fun s' => hK _ _ ⟨rfl, s', rfl⟩⟩
  · obtain ⟨rfl, s, rfl⟩ := hI
    exact ⟨hok s, h2 s⟩
/-- the same over a range -/
theorem loopR {α : Type} {g : dTG} {b : dTS} {E : dEnds} (f : α → Env3) (S : Sto) (n : Nat)
    (h1 : ∀ j, j < n → ∀ s (K : Env3 → Sto → Prop), (∀ s', K (f s') S) → g (.int (j : Nat)) (f s) S fun ρ1 S1 => b { E with nx := K, ct := K, bk := E.nx } ρ1 S1)
    (h2 : ∀ s, E.nx (f s) S) (s : α) : dLp (fun _ _ => True) g b E (rng 0 n) (f s) S := by
  refine loopJ f S _ (fun _ => trivial) (fun j x e s K hK => ?_) h2 s
  obtain ⟨h, rfl⟩ := rng_get e
  rw [Int.zero_add]
  exact h1 j h s K hK
theorem loopR2 {α : Type} {g : dTG} {b : dTS} {E : dEnds} (f : α → Env3) (S : Sto) (lo : Int) (n : Nat)
    (h1 : ∀ j, j < n → ∀ s (K : Env3 → Sto → Prop), (∀ s', K (f s') S) → g (.int (lo + (j : Nat))) (f s) S fun ρ1 S1 => b { E with nx := K, ct := K, bk := E.nx } ρ1 S1)
    (h2 : ∀ s, E.nx (f s) S) (s : α) : dLp (fun _ _ => True) g b E (rng lo n) (f s) S := by
  refine loopJ f S _ (fun _ => trivial) (fun j x e s K hK => ?_) h2 s
  obtain ⟨h, rfl⟩ := rng_get e
  exact h1 j h s K hK
/-- a loop that carries a state a -/
theorem loopA {α : Type} {ok : Env3 → Sto → Prop} {g : dTG} {b : dTS} {E : dEnds} (f : Nat → α → Env3) (S : Sto) (xs : List D) (hok : ∀ i s, ok (f i s) S)
    (h1 : ∀ (j : Nat) (x : D), xs[j]? = some x → ∀ s (K : Env3 → Sto → Prop), (∀ s', K (f (j + 1) s') S) → g x (f j s) S fun ρ1 S1 => b { E with nx := K, ct := K, bk := E.nx } ρ1 S1)
    (h2 : ∀ s, E.nx (f xs.length s) S) (s : α) : dLp ok g b E xs (f 0 s) S := by
  refine loop_inv (fun i ρ S' => S' = S ∧ ∃ s, ρ = f i s) xs 0 (fun j x e ρ S' K hI hK => ?_) (fun ρ S' hI => ?_) _ _ ⟨rfl, s, rfl⟩
  · obtain ⟨rfl, s, rfl⟩ := hI
    rw [Nat.zero_add] at *
    exact ⟨hok _ s, h1 j x e s K fun s' => hK _ _ ⟨rfl, s', rfl⟩⟩
  · obtain ⟨rfl, s, rfl⟩ := hI
    rw [Nat.zero_add] at *
    exact ⟨hok _ s, h2 s⟩
/-- a comprehension over a range -/
theorem comp_rng {g : dTG} {te : dTE} {ρ : Env3} {S : Sto} {Q : List D → Sto → Prop} (f : Nat → D) (n : Nat) (hl : n ≤ 16777216)
    (h : ∀ i, i < n → ∀ (K : DK) (K' : Sto → Prop), K (.d (f i)) S → g (.int (i : Nat)) ρ S fun ρ1 S1 => dYes ρ1 S1 fun b S2 => Br b (te ρ1 S2 K) (K' S2)) (q : Q ((List.range n).map f) S) : cLoop (fun _ _ => True) g dYes te ρ Q (rng 0 n) [] S := by
  rw [rng0_is]
  exact comp_mapE (fun i : Nat => .int (i : Nat)) f (List.range n) trivial (by rw [List.length_range]; exact hl) (fun i hi K K' hK => h i (List.mem_range.mp hi) K K' hK) q
theorem comp_rngF {g : dTG} {tt : dTT} {te : dTE} {ρ : Env3} {S : Sto} {Q : List D → Sto → Prop} (p : Nat → Bool) (f : Nat → D) (n : Nat) (hl : n ≤ 16777216)
    (h : ∀ i, i < n → ∀ (K : DK) (K' : Sto → Prop), (p i = true → K (.d (f i)) S) → (p i = false → K' S) → g (.int (i : Nat)) ρ S fun ρ1 S1 => tt ρ1 S1 fun b S2 => Br b (te ρ1 S2 K) (K' S2)) (q : Q (((List.range n).filter p).map f) S) : cLoop (fun _ _ => True) g tt te ρ Q (rng 0 n) [] S := by
  rw [rng0_is]
  exact comp_filtE (fun i : Nat => .int (i : Nat)) p f (List.range n) trivial (by rw [List.length_range]; exact hl) (fun i hi K K' hK hK' => h i (List.mem_range.mp hi) K K' hK hK') q
theorem comp_rng2F {g : dTG} {tt : dTT} {te : dTE} {ρ : Env3} {S : Sto} {Q : List D → Sto → Prop} (lo : Int) (p : Nat → Bool) (f : Nat → D) (n : Nat) (hl : n ≤ 16777216)
    (h : ∀ i, i < n → ∀ (K : DK) (K' : Sto → Prop), (p i = true → K (.d (f i)) S) → (p i = false → K' S) → g (.int (lo + (i : Nat))) ρ S fun ρ1 S1 => tt ρ1 S1 fun b S2 => Br b (te ρ1 S2 K) (K' S2)) (q : Q (((List.range n).filter p).map f) S) : cLoop (fun _ _ => True) g tt te ρ Q (rng lo n) [] S := by
  rw [rng_is]
  exact comp_filtE (fun i : Nat => .int (lo + (i : Nat))) p f (List.range n) trivial (by rw [List.length_range]; exact hl) (fun i hi K K' hK hK' => h i (List.mem_range.mp hi) K K' hK hK') q
theorem At.map {β : Type} {f : β → D} {ys : List β} {k : D → Prop} {i : Nat} {y : β} (e : ys[i]? = some y) (h : k (f y)) : At (ys.map f) (i : Int) k :=
  At.nat (by rw [List.getElem?_map, e]; rfl) h
theorem At.last {xs : List D} {k : D → Prop} {z : D} (e : xs[xs.length - 1]? = some z) (hn : xs ≠ []) (h : k z) : At xs (-1) k := by
  refine ⟨z, ?_, h⟩
  have h0 : 0 < xs.length := by cases xs with | nil => exact absurd rfl hn | cons => simp
  have e2 : ixN xs.length (-1) = some (xs.length - 1) := by
    unfold ixN
    rw [if_neg (by omega), if_pos (by omega)]
    congr 1
    omega
  unfold atI
  rw [e2]
  exact e
end L3

set_option maxHeartbeats 4000000
namespace L3
open PySem PySem.Spec L2
/-! ### == of data -/
/-- data without dicts, no deeper than n -/
def dpt (n : Nat) (d : D) : Prop := d.canLay0 = true ∧ d.depth ≤ n
theorem dpt_all {n : Nat} : ∀ {xs : List D}, (∀ x ∈ xs, dpt n x) → PyData.canLayAll0 xs = true ∧ PyData.depthAll xs ≤ n
  | [], _ => ⟨rfl, Nat.zero_le _⟩
  | x :: xs, h => by
    obtain ⟨h1, h2⟩ := h x List.mem_cons_self
    obtain ⟨h3, h4⟩ := dpt_all (xs := xs) fun y hy => h y (List.mem_cons_of_mem _ hy)
    refine ⟨by simp only [PyData.canLayAll0, h1, h3, Bool.and_self], ?_⟩
    simp only [PyData.depthAll]
    exact Nat.max_le.mpr ⟨h2, h4⟩
theorem dpt_tup {n : Nat} {xs : List D} (h : ∀ x ∈ xs, dpt n x) : dpt (n + 1) (.tuple xs) := by
  obtain ⟨h1, h2⟩ := dpt_all h
  exact ⟨by simpa only [PyData.canLay0] using h1, by simp only [PyData.depth]; omega⟩
theorem dpt_lst {n : Nat} {xs : List D} (h : ∀ x ∈ xs, dpt n x) : dpt (n + 1) (.list xs) := by
  obtain ⟨h1, h2⟩ := dpt_all h
  exact ⟨by simpa only [PyData.canLay0] using h1, by simp only [PyData.depth]; omega⟩
theorem dpt_int {n : Nat} (i : Int) : dpt n (.int i) := ⟨rfl, Nat.zero_le _⟩
theorem dpt_str {n : Nat} {i : Str} (h : PyData.strOk i = true) : dpt n (.str i) := ⟨by simpa [PyData.canLay0] using h, Nat.zero_le _⟩
theorem dpt_bl {n : Nat} (i : Bool) : dpt n (.bool i) := ⟨rfl, Nat.zero_le _⟩
theorem dpt_non {n : Nat} : dpt n .none := ⟨rfl, Nat.zero_le _⟩
theorem dpt_map {α : Type} {n : Nat} {f : α → D} {xs : List α} (h : ∀ x, dpt n (f x)) : ∀ y ∈ xs.map f, dpt n y := fun y hy => by
  obtain ⟨x, _, rfl⟩ := List.mem_map.mp hy
  exact h x
theorem shp {n : Nat} {d : D} (h : dpt n d) (hn : n ≤ 64) : SeqAt.shaped d = true := by
  unfold SeqAt.shaped
  rw [h.1, decide_eq_true (Nat.le_trans h.2 hn)]
  rfl
theorem eqvAll_map {α : Type} [DecidableEq α] {f : α → D} (h : ∀ a b, PyData.eqv (f a) (f b) = decide (a = b)) : ∀ xs ys : List α, PyData.eqvAll (xs.map f) (ys.map f) = decide (xs = ys)
  | [], [] => rfl
  | [], _ :: _ => rfl
  | _ :: _, [] => rfl
  | a :: xs, b :: ys => by
    simp only [List.map_cons, PyData.eqvAll, h a b, eqvAll_map h xs ys]
    rw [Bool.eq_iff_iff]
    simp
theorem eqv_intI (a b : Int) : PyData.eqv (.int a) (.int b) = decide (a = b) := by
  simp only [PyData.eqv]
  rw [Bool.eq_iff_iff]
  simp
theorem eqv_intN (a b : Nat) : PyData.eqv (.int (a : Nat)) (.int (b : Nat)) = decide (a = b) := by
  rw [eqv_intI]
  by_cases h : a = b
  · subst h; simp
  · rw [decide_eq_false h, decide_eq_false (by omega)]
theorem eqv_tupI (xs ys : List Int) : PyData.eqv (.tuple (xs.map .int)) (.tuple (ys.map .int)) = decide (xs = ys) := by
  simp only [PyData.eqv]
  exact eqvAll_map eqv_intI xs ys
theorem eqv_lstI (xs ys : List Int) : PyData.eqv (.list (xs.map .int)) (.list (ys.map .int)) = decide (xs = ys) := by
  simp only [PyData.eqv]
  exact eqvAll_map eqv_intI xs ys
theorem eqv_tupN (xs ys : List Nat) : PyData.eqv (.tuple (xs.map fun n : Nat => .int (n : Nat))) (.tuple (ys.map fun n : Nat => .int (n : Nat))) = decide (xs = ys) := by
  simp only [PyData.eqv]
  exact eqvAll_map eqv_intN xs ys
theorem eqv_lstN (xs ys : List Nat) : PyData.eqv (.list (xs.map fun n : Nat => .int (n : Nat))) (.list (ys.map fun n : Nat => .int (n : Nat))) = decide (xs = ys) := by
  simp only [PyData.eqv]
  exact eqvAll_map eqv_intN xs ys
end L3

namespace Gn
open PySem PySem.Spec L2 L3
def top (i : Nat) : Stmt := PySem.Challenge.pw_shadehall_k08_whole_dots_carried_on_and.main.body.getD i (.Pass ⟨0, 0, 0, 0⟩)
abbrev FnP (K : PySem.W.Frag) (x : Str) (st : Stmt) (f : Addr) (fd : FuncData) : Prop := FunD K x x (defArgs st) (defBody st) (defScope st) [] [] f fd
/-! ### steps_of -/
abbrev s_steps_of : Stmt := top 1
abbrev nm_steps_of : List Str := ["levels", "m", "found", "error", "level", "whole", "sign"]
abbrev ps_steps_of : List Str := ["levels", "m"]
theorem sc_steps_of : FnScope nm_steps_of ps_steps_of (defScope s_steps_of) := ⟨rfl, rfl, rfl, by decide +kernel, rfl, by decide +kernel, by decide +kernel⟩
theorem lk_steps_of_0 : (defScope s_steps_of).names.lookup ("levels" : Str) = some NameKind.local := by decide +kernel
theorem lk_steps_of_1 : (defScope s_steps_of).names.lookup ("m" : Str) = some NameKind.local := by decide +kernel
theorem lk_steps_of_2 : (defScope s_steps_of).names.lookup ("found" : Str) = some NameKind.local := by decide +kernel
theorem lk_steps_of_3 : (defScope s_steps_of).names.lookup ("error" : Str) = some NameKind.local := by decide +kernel
theorem lk_steps_of_4 : (defScope s_steps_of).names.lookup ("level" : Str) = some NameKind.local := by decide +kernel
theorem lk_steps_of_5 : (defScope s_steps_of).names.lookup ("whole" : Str) = some NameKind.local := by decide +kernel
theorem lk_steps_of_6 : (defScope s_steps_of).names.lookup ("sign" : Str) = some NameKind.local := by decide +kernel
noncomputable def t_steps_of : dTS := dSeq (dSetO 2 (fLst (dNil)))
    (dSeq (dSet 3 (dC (.int 0)))
    (dSeq (dFor (dItV (dVar 0)) (gNm 4) (dSeq (dSet 5 (dOp fAdd (dVar 3) (dVar 4)))
    (dSeq (dSet 6 (dIfE (dB (dOp fGe (dOp fMulA (dC (.int 2)) (dVar 5)) (dVar 1))) (dC (.str (Str.ofString "x"))) (dC (.str (Str.ofString ".")))))
    (dSeq (dSet 3 (dIfE (dB (dOp fEq (dVar 6) (dC (.str (Str.ofString "x"))))) (dOp fSub (dVar 5) (dVar 1)) (dVar 5)))
    (dApp 2 (dTup (dCons (dVar 6) (dCons (dVar 3) (dNil)))))))))
    (dFrz 2 (dRet (dVar 2)))))
theorem rx_steps_of : ∃ r : dFn, r = fnT 7 t_steps_of := ⟨_, rfl⟩
@[irreducible] noncomputable def rd_steps_of : dFn := rx_steps_of.choose
theorem rd_steps_of_is : rd_steps_of = fnT 7 t_steps_of := by unfold rd_steps_of; exact rx_steps_of.choose_spec
theorem cal_steps_of {P : Program} {w : World} {K : PySem.W.Frag} {mg : Str → Option Value} {base : Heap} {f : Addr} {fd : FuncData} (F : FnP K "steps_of" s_steps_of f fd) (m : mg "steps_of" = some (.ref f)) : Cal P w K mg base "steps_of" 1 2 ps_steps_of rd_steps_of :=
  by
  rw [rd_steps_of_is]
  exact ⟨f, fd, fn_dD F sc_steps_of (by decide) (fun cdv A outer s H E hr => (dss_cons (ds_setO (i := 2) sc_steps_of.nd rfl (.inl lk_steps_of_2) (df_lst da_nil) (.inl rfl))
      (dss_cons (ds_set (i := 3) sc_steps_of.nd rfl (.inl lk_steps_of_3) de_int (.inl rfl))
      (dss_cons (ds_for (vs := [4]) PassesOwn.never rfl (dg_nm (i := 4) sc_steps_of.nd rfl (.inl lk_steps_of_4) (.inl rfl)) (di_any (de_var (pv 0 rfl (.inl lk_steps_of_0)))) (dss_cons (ds_set (i := 5) sc_steps_of.nd rfl (.inl lk_steps_of_5) (de_op o_add (de_var (pv 3 rfl (.inl lk_steps_of_3))) (de_var (pv 4 rfl (.inl lk_steps_of_4)))) (.inl rfl))
      (dss_cons (ds_set (i := 6) sc_steps_of.nd rfl (.inl lk_steps_of_6) (de_ifExp (dt_cmp o_ge (de_op o_mulA de_int (de_var (pv 5 rfl (.inl lk_steps_of_5)))) (de_var (pv 1 rfl (.inl lk_steps_of_1)))) de_str de_str) (.inl rfl))
      (dss_cons (ds_set (i := 3) sc_steps_of.nd rfl (.inl lk_steps_of_3) (de_ifExp (dt_cmp (o_eq (u64 hr)) (de_var (pv 6 rfl (.inl lk_steps_of_6))) de_str) (de_op o_sub (de_var (pv 5 rfl (.inl lk_steps_of_5))) (de_var (pv 1 rfl (.inl lk_steps_of_1)))) (de_var (pv 5 rfl (.inl lk_steps_of_5)))) (.inl rfl))
      (dss_one (ds_app (i := 2) (pv 2 rfl (.inl lk_steps_of_2)) (de_tup (da_cons (de_var (pv 6 rfl (.inl lk_steps_of_6))) (da_cons (de_var (pv 3 rfl (.inl lk_steps_of_3))) da_nil)))))))))
      (dss_one (ds_frz 2 (ds_ret (de_var (pv 2 rfl (.inl lk_steps_of_2)))))))))), m, F.kp, (F.bindsN fun _ _ _ _ _ _ us hl => match us, hl with | [_, _], _ => rfl)⟩
/-! ### dotted -/
abbrev s_dotted : Stmt := top 2
abbrev nm_dotted : List Str := ["levels", "m", "sign", "_"]
abbrev ps_dotted : List Str := ["levels", "m"]
theorem sc_dotted : FnScope nm_dotted ps_dotted (defScope s_dotted) := ⟨rfl, rfl, rfl, by decide +kernel, rfl, by decide +kernel, by decide +kernel⟩
theorem lk_dotted_0 : (defScope s_dotted).names.lookup ("levels" : Str) = some NameKind.local := by decide +kernel
theorem lk_dotted_1 : (defScope s_dotted).names.lookup ("m" : Str) = some NameKind.local := by decide +kernel
noncomputable def t_dotted : dTS := dRet (dBM "str" fJoin (dC (.str (Str.ofString ""))) (dCons (dFz (dComp (dItV (dCall 2 (rd_steps_of) (dCons (dVar 0) (dCons (dVar 1) (dNil))))) (gTp (gsCons (gNm 2) (gsCons (gNm 3) (gsNil)))) (dYes) (dVar 2) [2, 3])) (dNil)))
theorem rx_dotted : ∃ r : dFn, r = fnT 4 t_dotted := ⟨_, rfl⟩
@[irreducible] noncomputable def rd_dotted : dFn := rx_dotted.choose
theorem rd_dotted_is : rd_dotted = fnT 4 t_dotted := by unfold rd_dotted; exact rx_dotted.choose_spec
theorem cal_dotted {P : Program} {w : World} {K : PySem.W.Frag} {mg : Str → Option Value} {base : Heap} {f : Addr} {fd : FuncData} (F : FnP K "dotted" s_dotted f fd) (m : mg "dotted" = some (.ref f)) (C_steps_of : Cal P w K mg base "steps_of" 1 2 ps_steps_of (rd_steps_of)) : Cal P w K mg base "dotted" 2 2 ps_dotted rd_dotted :=
  by
  rw [rd_dotted_is]
  exact ⟨f, fd, fn_dD F sc_dotted (by decide) (fun cdv A outer s H E hr => (dss_one (ds_ret (de_bm m_join (.inl rfl) PySem.F.plainAttrs_str PySem.F.slot_str_join PySem.F.type_str_join de_str (da_cons (de_fz (df_comp (own := [("sign", 2), ("_", 3)]) rfl sc_dotted.nd (blkOk_by (own := [("sign", 2), ("_", 3)]) (N := nm_dotted) (sc := defScope s_dotted) (by decide +kernel)) (fun _ _ _ _ _ => (dg_tp rfl (dgs_cons (dg_nm (i := 2) sc_dotted.nd rfl (.inl rfl) (.inr rfl)) (dgs_cons (dg_nm (i := 3) sc_dotted.nd rfl (.inl rfl) (.inr rfl)) dgs_nil (mono_nm _)) (mono_nm _)))) (di_any (de_cal C_steps_of (hr.mono (by omega)) rfl (da_cons (de_var (pv 0 rfl (.inl lk_dotted_0))) (da_cons (de_var (pv 1 rfl (.inl lk_dotted_1))) da_nil)))) (fun _ _ _ _ _ => dts_nil) (fun _ _ _ _ _ => (de_var (pv 2 rfl (.inl rfl)))))) da_nil))))), m, F.kp, (F.bindsN fun _ _ _ _ _ _ us hl => match us, hl with | [_, _], _ => rfl)⟩
/-! ### errors_of -/
abbrev s_errors_of : Stmt := top 3
abbrev nm_errors_of : List Str := ["levels", "m", "_", "error"]
abbrev ps_errors_of : List Str := ["levels", "m"]
theorem sc_errors_of : FnScope nm_errors_of ps_errors_of (defScope s_errors_of) := ⟨rfl, rfl, rfl, by decide +kernel, rfl, by decide +kernel, by decide +kernel⟩
theorem lk_errors_of_0 : (defScope s_errors_of).names.lookup ("levels" : Str) = some NameKind.local := by decide +kernel
theorem lk_errors_of_1 : (defScope s_errors_of).names.lookup ("m" : Str) = some NameKind.local := by decide +kernel
noncomputable def t_errors_of : dTS := dRet (dCB fTuple (dCons (dFz (dComp (dItV (dCall 2 (rd_steps_of) (dCons (dVar 0) (dCons (dVar 1) (dNil))))) (gTp (gsCons (gNm 2) (gsCons (gNm 3) (gsNil)))) (dYes) (dVar 3) [2, 3])) (dNil)))
theorem rx_errors_of : ∃ r : dFn, r = fnT 4 t_errors_of := ⟨_, rfl⟩
@[irreducible] noncomputable def rd_errors_of : dFn := rx_errors_of.choose
theorem rd_errors_of_is : rd_errors_of = fnT 4 t_errors_of := by unfold rd_errors_of; exact rx_errors_of.choose_spec
theorem cal_errors_of {P : Program} {w : World} {K : PySem.W.Frag} {mg : Str → Option Value} {base : Heap} {f : Addr} {fd : FuncData} (F : FnP K "errors_of" s_errors_of f fd) (m : mg "errors_of" = some (.ref f)) (C_steps_of : Cal P w K mg base "steps_of" 1 2 ps_steps_of (rd_steps_of)) (z_tuple : mg "tuple" = none) : Cal P w K mg base "errors_of" 2 2 ps_errors_of rd_errors_of :=
  by
  rw [rd_errors_of_is]
  exact ⟨f, fd, fn_dD F sc_errors_of (by decide) (fun cdv A outer s H E hr => (dss_one (ds_ret (de_callT c_tuple z_tuple rfl (by decide +kernel) (da_cons (de_fz (df_comp (own := [("_", 2), ("error", 3)]) rfl sc_errors_of.nd (blkOk_by (own := [("_", 2), ("error", 3)]) (N := nm_errors_of) (sc := defScope s_errors_of) (by decide +kernel)) (fun _ _ _ _ _ => (dg_tp rfl (dgs_cons (dg_nm (i := 2) sc_errors_of.nd rfl (.inl rfl) (.inr rfl)) (dgs_cons (dg_nm (i := 3) sc_errors_of.nd rfl (.inl rfl) (.inr rfl)) dgs_nil (mono_nm _)) (mono_nm _)))) (di_any (de_cal C_steps_of (hr.mono (by omega)) rfl (da_cons (de_var (pv 0 rfl (.inl lk_errors_of_0))) (da_cons (de_var (pv 1 rfl (.inl lk_errors_of_1))) da_nil)))) (fun _ _ _ _ _ => dts_nil) (fun _ _ _ _ _ => (de_var (pv 3 rfl (.inl rfl)))))) da_nil))))), m, F.kp, (F.bindsN fun _ _ _ _ _ _ us hl => match us, hl with | [_, _], _ => rfl)⟩
/-! ### is_close -/
abbrev s_is_close : Stmt := top 4
abbrev nm_is_close : List Str := ["levels", "m", "text", "whole", "level", "sign"]
abbrev ps_is_close : List Str := ["levels", "m", "text"]
theorem sc_is_close : FnScope nm_is_close ps_is_close (defScope s_is_close) := ⟨rfl, rfl, rfl, by decide +kernel, rfl, by decide +kernel, by decide +kernel⟩
theorem lk_is_close_0 : (defScope s_is_close).names.lookup ("levels" : Str) = some NameKind.local := by decide +kernel
theorem lk_is_close_1 : (defScope s_is_close).names.lookup ("m" : Str) = some NameKind.local := by decide +kernel
theorem lk_is_close_2 : (defScope s_is_close).names.lookup ("text" : Str) = some NameKind.local := by decide +kernel
theorem lk_is_close_3 : (defScope s_is_close).names.lookup ("whole" : Str) = some NameKind.local := by decide +kernel
theorem lk_is_close_4 : (defScope s_is_close).names.lookup ("level" : Str) = some NameKind.local := by decide +kernel
theorem lk_is_close_5 : (defScope s_is_close).names.lookup ("sign" : Str) = some NameKind.local := by decide +kernel
noncomputable def t_is_close : dTS := dSeq (dSet 3 (dC (.int 0)))
    (dSeq (dFor (dZip (dCons (dVar 0) (dCons (dVar 2) (dNil)))) (gTp (gsCons (gNm 4) (gsCons (gNm 5) (gsNil)))) (dSeq (dAug 3 fIAdd (dOp fSub (dVar 4) (dIfE (dB (dOp fEq (dVar 5) (dC (.str (Str.ofString "x"))))) (dVar 1) (dC (.int 0)))))
    (dIfS (dNot (dB (dChain fLe fLt (dUn fNeg (dVar 1)) (dOp fMulA (dC (.int 2)) (dVar 3)) (dVar 1)))) (dRet (dC (.bool false))) (dNext))))
    (dRet (dC (.bool true))))
theorem rx_is_close : ∃ r : dFn, r = fnT 6 t_is_close := ⟨_, rfl⟩
@[irreducible] noncomputable def rd_is_close : dFn := rx_is_close.choose
theorem rd_is_close_is : rd_is_close = fnT 6 t_is_close := by unfold rd_is_close; exact rx_is_close.choose_spec
theorem cal_is_close {P : Program} {w : World} {K : PySem.W.Frag} {mg : Str → Option Value} {base : Heap} {f : Addr} {fd : FuncData} (F : FnP K "is_close" s_is_close f fd) (m : mg "is_close" = some (.ref f)) (z_zip : mg "zip" = none) : Cal P w K mg base "is_close" 1 3 ps_is_close rd_is_close :=
  by
  rw [rd_is_close_is]
  exact ⟨f, fd, fn_dD F sc_is_close (by decide) (fun cdv A outer s H E hr => (dss_cons (ds_set (i := 3) sc_is_close.nd rfl (.inl lk_is_close_3) de_int (.inl rfl))
      (dss_cons (ds_for (vs := [4, 5]) PassesOwn.never rfl (dg_tp rfl (dgs_cons (dg_nm (i := 4) sc_is_close.nd rfl (.inl lk_is_close_4) (.inl rfl)) (dgs_cons (dg_nm (i := 5) sc_is_close.nd rfl (.inl lk_is_close_5) (.inl rfl)) dgs_nil (mono_nm _)) (mono_nm _))) (di_zip z_zip rfl (da_cons (de_var (pv 0 rfl (.inl lk_is_close_0))) (da_cons (de_var (pv 2 rfl (.inl lk_is_close_2))) da_nil))) (dss_cons (ds_aug (i := 3) p_iadd sc_is_close.nd rfl (.inl lk_is_close_3) (de_op o_sub (de_var (pv 4 rfl (.inl lk_is_close_4))) (de_ifExp (dt_cmp (o_eq (u64 hr)) (de_var (pv 5 rfl (.inl lk_is_close_5))) de_str) (de_var (pv 1 rfl (.inl lk_is_close_1))) de_int)) (.inl rfl))
      (dss_one (ds_if (dt_not (dt_chain o_le o_lt (de_un u_neg (de_var (pv 1 rfl (.inl lk_is_close_1)))) (de_op o_mulA de_int (de_var (pv 3 rfl (.inl lk_is_close_3)))) (de_var (pv 1 rfl (.inl lk_is_close_1))))) (dss_one (ds_ret de_bl)) dss_nil))))
      (dss_one (ds_ret de_bl))))), m, F.kp, (F.bindsN fun _ _ _ _ _ _ us hl => match us, hl with | [_, _, _], _ => rfl)⟩
/-! ### shown_at -/
abbrev s_shown_at : Stmt := top 6
abbrev nm_shown_at : List Str := ["a", "b", "slot"]
abbrev ps_shown_at : List Str := ["a", "b", "slot"]
theorem sc_shown_at : FnScope nm_shown_at ps_shown_at (defScope s_shown_at) := ⟨rfl, rfl, rfl, by decide +kernel, rfl, by decide +kernel, by decide +kernel⟩
theorem lk_shown_at_0 : (defScope s_shown_at).names.lookup ("a" : Str) = some NameKind.local := by decide +kernel
theorem lk_shown_at_1 : (defScope s_shown_at).names.lookup ("b" : Str) = some NameKind.local := by decide +kernel
theorem lk_shown_at_2 : (defScope s_shown_at).names.lookup ("slot" : Str) = some NameKind.local := by decide +kernel
noncomputable def t_shown_at : dTS := dRet (dOp fDiv (dOp fMulA (dVar 2) (dVar 0)) (dVar 1))
theorem rx_shown_at : ∃ r : dFn, r = fnT 3 t_shown_at := ⟨_, rfl⟩
@[irreducible] noncomputable def rd_shown_at : dFn := rx_shown_at.choose
theorem rd_shown_at_is : rd_shown_at = fnT 3 t_shown_at := by unfold rd_shown_at; exact rx_shown_at.choose_spec
theorem cal_shown_at {P : Program} {w : World} {K : PySem.W.Frag} {mg : Str → Option Value} {base : Heap} {f : Addr} {fd : FuncData} (F : FnP K "shown_at" s_shown_at f fd) (m : mg "shown_at" = some (.ref f)) : Cal P w K mg base "shown_at" 1 3 ps_shown_at rd_shown_at :=
  by
  rw [rd_shown_at_is]
  exact ⟨f, fd, fn_dD F sc_shown_at (by decide) (fun cdv A outer s H E hr => (dss_one (ds_ret (de_op o_div (de_op o_mulA (de_var (pv 2 rfl (.inl lk_shown_at_2))) (de_var (pv 0 rfl (.inl lk_shown_at_0)))) (de_var (pv 1 rfl (.inl lk_shown_at_1))))))), m, F.kp, (F.bindsN fun _ _ _ _ _ _ us hl => match us, hl with | [_, _, _], _ => rfl)⟩
/-! ### cadence_of -/
abbrev s_cadence_of : Stmt := top 7
abbrev nm_cadence_of : List Str := ["a", "b", "counts", "slot"]
abbrev ps_cadence_of : List Str := ["a", "b"]
theorem sc_cadence_of : FnScope nm_cadence_of ps_cadence_of (defScope s_cadence_of) := ⟨rfl, rfl, rfl, by decide +kernel, rfl, by decide +kernel, by decide +kernel⟩
theorem lk_cadence_of_0 : (defScope s_cadence_of).names.lookup ("a" : Str) = some NameKind.local := by decide +kernel
theorem lk_cadence_of_1 : (defScope s_cadence_of).names.lookup ("b" : Str) = some NameKind.local := by decide +kernel
theorem lk_cadence_of_2 : (defScope s_cadence_of).names.lookup ("counts" : Str) = some NameKind.local := by decide +kernel
theorem lk_cadence_of_3 : (defScope s_cadence_of).names.lookup ("slot" : Str) = some NameKind.local := by decide +kernel
noncomputable def t_cadence_of : dTS := dSeq (dSetO 2 (fRep (fLst (dCons (dC (.int 0)) (dNil))) (dVar 0)))
    (dSeq (dFor (dRng1 (dCons (dVar 1) (dNil))) (gNm 3) (dAugI 2 fIAdd (dCall 3 (rd_shown_at) (dCons (dVar 0) (dCons (dVar 1) (dCons (dVar 3) (dNil))))) (dC (.int 1))))
    (dRet (dCB fTuple (dCons (dVar 2) (dNil)))))
theorem rx_cadence_of : ∃ r : dFn, r = fnT 4 t_cadence_of := ⟨_, rfl⟩
@[irreducible] noncomputable def rd_cadence_of : dFn := rx_cadence_of.choose
theorem rd_cadence_of_is : rd_cadence_of = fnT 4 t_cadence_of := by unfold rd_cadence_of; exact rx_cadence_of.choose_spec
theorem cal_cadence_of {P : Program} {w : World} {K : PySem.W.Frag} {mg : Str → Option Value} {base : Heap} {f : Addr} {fd : FuncData} (F : FnP K "cadence_of" s_cadence_of f fd) (m : mg "cadence_of" = some (.ref f)) (C_shown_at : Cal P w K mg base "shown_at" 1 3 ps_shown_at (rd_shown_at)) (z_range : mg "range" = none) (z_tuple : mg "tuple" = none) : Cal P w K mg base "cadence_of" 2 2 ps_cadence_of rd_cadence_of :=
  by
  rw [rd_cadence_of_is]
  exact ⟨f, fd, fn_dD F sc_cadence_of (by decide) (fun cdv A outer s H E hr => (dss_cons (ds_setO (i := 2) sc_cadence_of.nd rfl (.inl lk_cadence_of_2) (df_rep (df_lst (da_cons de_int da_nil)) (de_var (pv 0 rfl (.inl lk_cadence_of_0)))) (.inl rfl))
      (dss_cons (ds_for (vs := [3]) PassesOwn.never rfl (dg_nm (i := 3) sc_cadence_of.nd rfl (.inl lk_cadence_of_3) (.inl rfl)) (di_rng1 z_range rfl (da_cons (de_var (pv 1 rfl (.inl lk_cadence_of_1))) da_nil)) (dss_one (ds_augI (i := 2) p_iadd (pv 2 rfl (.inl lk_cadence_of_2)) (de_cal C_shown_at (hr.mono (by omega)) rfl (da_cons (de_var (pv 0 rfl (.inl lk_cadence_of_0))) (da_cons (de_var (pv 1 rfl (.inl lk_cadence_of_1))) (da_cons (de_var (pv 3 rfl (.inl lk_cadence_of_3))) da_nil)))) de_int)))
      (dss_one (ds_ret (de_callT c_tuple z_tuple rfl (by decide +kernel) (da_cons (de_var (pv 2 rfl (.inl lk_cadence_of_2))) da_nil))))))), m, F.kp, (F.bindsN fun _ _ _ _ _ _ us hl => match us, hl with | [_, _], _ => rfl)⟩
/-! ### fewest_doubles -/
abbrev s_fewest_doubles : Stmt := top 8
abbrev nm_fewest_doubles : List Str := ["a", "b"]
abbrev ps_fewest_doubles : List Str := ["a", "b"]
theorem sc_fewest_doubles : FnScope nm_fewest_doubles ps_fewest_doubles (defScope s_fewest_doubles) := ⟨rfl, rfl, rfl, by decide +kernel, rfl, by decide +kernel, by decide +kernel⟩
theorem lk_fewest_doubles_0 : (defScope s_fewest_doubles).names.lookup ("a" : Str) = some NameKind.local := by decide +kernel
theorem lk_fewest_doubles_1 : (defScope s_fewest_doubles).names.lookup ("b" : Str) = some NameKind.local := by decide +kernel
noncomputable def t_fewest_doubles : dTS := dRet (dCB fMaxA (dCons (dC (.int 0)) (dCons (dOp fSub (dVar 1) (dVar 0)) (dNil))))
theorem rx_fewest_doubles : ∃ r : dFn, r = fnT 2 t_fewest_doubles := ⟨_, rfl⟩
@[irreducible] noncomputable def rd_fewest_doubles : dFn := rx_fewest_doubles.choose
theorem rd_fewest_doubles_is : rd_fewest_doubles = fnT 2 t_fewest_doubles := by unfold rd_fewest_doubles; exact rx_fewest_doubles.choose_spec
theorem cal_fewest_doubles {P : Program} {w : World} {K : PySem.W.Frag} {mg : Str → Option Value} {base : Heap} {f : Addr} {fd : FuncData} (F : FnP K "fewest_doubles" s_fewest_doubles f fd) (m : mg "fewest_doubles" = some (.ref f)) (z_max : mg "max" = none) : Cal P w K mg base "fewest_doubles" 1 2 ps_fewest_doubles rd_fewest_doubles :=
  by
  rw [rd_fewest_doubles_is]
  exact ⟨f, fd, fn_dD F sc_fewest_doubles (by decide) (fun cdv A outer s H E hr => (dss_one (ds_ret (de_callB (c_maxA rfl) z_max rfl (by decide +kernel) (da_cons de_int (da_cons (de_op o_sub (de_var (pv 1 rfl (.inl lk_fewest_doubles_1))) (de_var (pv 0 rfl (.inl lk_fewest_doubles_0)))) da_nil)))))), m, F.kp, (F.bindsN fun _ _ _ _ _ _ us hl => match us, hl with | [_, _], _ => rfl)⟩
/-! ### cadence_turned -/
abbrev s_cadence_turned : Stmt := top 9
abbrev nm_cadence_turned : List Str := ["counts", "v", "cut"]
abbrev ps_cadence_turned : List Str := ["counts", "v"]
theorem sc_cadence_turned : FnScope nm_cadence_turned ps_cadence_turned (defScope s_cadence_turned) := ⟨rfl, rfl, rfl, by decide +kernel, rfl, by decide +kernel, by decide +kernel⟩
theorem lk_cadence_turned_0 : (defScope s_cadence_turned).names.lookup ("counts" : Str) = some NameKind.local := by decide +kernel
theorem lk_cadence_turned_1 : (defScope s_cadence_turned).names.lookup ("v" : Str) = some NameKind.local := by decide +kernel
theorem lk_cadence_turned_2 : (defScope s_cadence_turned).names.lookup ("cut" : Str) = some NameKind.local := by decide +kernel
noncomputable def t_cadence_turned : dTS := dSeq (dSet 2 (dOp fMod (dUn fNeg (dVar 1)) (dCB fLen (dCons (dVar 0) (dNil)))))
    (dRet (dOp fAdd (dSl (dVar 0) (dPart (dVar 2)) (dNoPart)) (dSl (dVar 0) (dNoPart) (dPart (dVar 2)))))
theorem rx_cadence_turned : ∃ r : dFn, r = fnT 3 t_cadence_turned := ⟨_, rfl⟩
@[irreducible] noncomputable def rd_cadence_turned : dFn := rx_cadence_turned.choose
theorem rd_cadence_turned_is : rd_cadence_turned = fnT 3 t_cadence_turned := by unfold rd_cadence_turned; exact rx_cadence_turned.choose_spec
theorem cal_cadence_turned {P : Program} {w : World} {K : PySem.W.Frag} {mg : Str → Option Value} {base : Heap} {f : Addr} {fd : FuncData} (F : FnP K "cadence_turned" s_cadence_turned f fd) (m : mg "cadence_turned" = some (.ref f)) (z_len : mg "len" = none) : Cal P w K mg base "cadence_turned" 1 2 ps_cadence_turned rd_cadence_turned :=
  by
  rw [rd_cadence_turned_is]
  exact ⟨f, fd, fn_dD F sc_cadence_turned (by decide) (fun cdv A outer s H E hr => (dss_cons (ds_set (i := 2) sc_cadence_turned.nd rfl (.inl lk_cadence_turned_2) (de_op o_mod (de_un u_neg (de_var (pv 1 rfl (.inl lk_cadence_turned_1)))) (de_callB c_len z_len rfl (by decide +kernel) (da_cons (de_var (pv 0 rfl (.inl lk_cadence_turned_0))) da_nil))) (.inl rfl))
      (dss_one (ds_ret (de_op o_add (de_sl (de_var (pv 0 rfl (.inl lk_cadence_turned_0))) (do_some (de_var (pv 2 rfl (.inl lk_cadence_turned_2)))) do_none) (de_sl (de_var (pv 0 rfl (.inl lk_cadence_turned_0))) do_none (do_some (de_var (pv 2 rfl (.inl lk_cadence_turned_2)))))))))), m, F.kp, (F.bindsN fun _ _ _ _ _ _ us hl => match us, hl with | [_, _], _ => rfl)⟩
/-! ### stretch_sum -/
abbrev s_stretch_sum : Stmt := top 10
abbrev nm_stretch_sum : List Str := ["counts", "length", "place"]
abbrev ps_stretch_sum : List Str := ["counts", "length", "place"]
theorem sc_stretch_sum : FnScope nm_stretch_sum ps_stretch_sum (defScope s_stretch_sum) := ⟨rfl, rfl, rfl, by decide +kernel, rfl, by decide +kernel, by decide +kernel⟩
theorem lk_stretch_sum_0 : (defScope s_stretch_sum).names.lookup ("counts" : Str) = some NameKind.local := by decide +kernel
theorem lk_stretch_sum_1 : (defScope s_stretch_sum).names.lookup ("length" : Str) = some NameKind.local := by decide +kernel
theorem lk_stretch_sum_2 : (defScope s_stretch_sum).names.lookup ("place" : Str) = some NameKind.local := by decide +kernel
noncomputable def t_stretch_sum : dTS := dRet (dCB fSumA (dCons (dSl (dOp fAdd (dVar 0) (dVar 0)) (dPart (dVar 2)) (dPart (dOp fAdd (dVar 2) (dVar 1)))) (dNil)))
theorem rx_stretch_sum : ∃ r : dFn, r = fnT 3 t_stretch_sum := ⟨_, rfl⟩
@[irreducible] noncomputable def rd_stretch_sum : dFn := rx_stretch_sum.choose
theorem rd_stretch_sum_is : rd_stretch_sum = fnT 3 t_stretch_sum := by unfold rd_stretch_sum; exact rx_stretch_sum.choose_spec
theorem cal_stretch_sum {P : Program} {w : World} {K : PySem.W.Frag} {mg : Str → Option Value} {base : Heap} {f : Addr} {fd : FuncData} (F : FnP K "stretch_sum" s_stretch_sum f fd) (m : mg "stretch_sum" = some (.ref f)) (z_sum : mg "sum" = none) : Cal P w K mg base "stretch_sum" 1 3 ps_stretch_sum rd_stretch_sum :=
  by
  rw [rd_stretch_sum_is]
  exact ⟨f, fd, fn_dD F sc_stretch_sum (by decide) (fun cdv A outer s H E hr => (dss_one (ds_ret (de_callB (c_sumA rfl) z_sum rfl (by decide +kernel) (da_cons (de_sl (de_op o_add (de_var (pv 0 rfl (.inl lk_stretch_sum_0))) (de_var (pv 0 rfl (.inl lk_stretch_sum_0)))) (do_some (de_var (pv 2 rfl (.inl lk_stretch_sum_2)))) (do_some (de_op o_add (de_var (pv 2 rfl (.inl lk_stretch_sum_2))) (de_var (pv 1 rfl (.inl lk_stretch_sum_1)))))) da_nil))))), m, F.kp, (F.bindsN fun _ _ _ _ _ _ us hl => match us, hl with | [_, _, _], _ => rfl)⟩
/-! ### told_limp -/
abbrev s_told_limp : Stmt := top 11
abbrev nm_told_limp : List Str := ["counts", "n", "length", "sums", "i", "j", "place"]
abbrev ps_told_limp : List Str := ["counts"]
theorem sc_told_limp : FnScope nm_told_limp ps_told_limp (defScope s_told_limp) := ⟨rfl, rfl, rfl, by decide +kernel, rfl, by decide +kernel, by decide +kernel⟩
theorem lk_told_limp_0 : (defScope s_told_limp).names.lookup ("counts" : Str) = some NameKind.cell := by decide +kernel
theorem lk_told_limp_1 : (defScope s_told_limp).names.lookup ("n" : Str) = some NameKind.local := by decide +kernel
theorem lk_told_limp_2 : (defScope s_told_limp).names.lookup ("length" : Str) = some NameKind.cell := by decide +kernel
theorem lk_told_limp_3 : (defScope s_told_limp).names.lookup ("sums" : Str) = some NameKind.local := by decide +kernel
theorem lk_told_limp_4 : (defScope s_told_limp).names.lookup ("i" : Str) = some NameKind.local := by decide +kernel
theorem lk_told_limp_5 : (defScope s_told_limp).names.lookup ("j" : Str) = some NameKind.local := by decide +kernel
noncomputable def t_told_limp : dTS := dSeq (dSet 1 (dCB fLen (dCons (dVar 0) (dNil))))
    (dSeq (dFor (dRng2 (dCons (dC (.int 1)) (dCons (dVar 1) (dNil)))) (gNm 2) (dSeq (dSet 3 (dFz (dComp (dRng1 (dCons (dVar 1) (dNil))) (gNm 6) (dYes) (dCall 3 (rd_stretch_sum) (dCons (dVar 0) (dCons (dVar 2) (dCons (dVar 6) (dNil))))) [6])))
    (dFor (dRng1 (dCons (dVar 1) (dNil))) (gNm 4) (dFor (dRng1 (dCons (dVar 1) (dNil))) (gNm 5) (dIfS (dB (dOp fGe (dOp fSub (dOp fIx (dVar 3) (dVar 4)) (dOp fIx (dVar 3) (dVar 5))) (dC (.int 2)))) (dRet (dTup (dCons (dVar 2) (dCons (dVar 4) (dCons (dVar 5) (dNil)))))) (dNext))))))
    (dRet (dC .none)))
theorem rx_told_limp : ∃ r : dFn, r = fnT 7 t_told_limp := ⟨_, rfl⟩
@[irreducible] noncomputable def rd_told_limp : dFn := rx_told_limp.choose
theorem rd_told_limp_is : rd_told_limp = fnT 7 t_told_limp := by unfold rd_told_limp; exact rx_told_limp.choose_spec
theorem cal_told_limp {P : Program} {w : World} {K : PySem.W.Frag} {mg : Str → Option Value} {base : Heap} {f : Addr} {fd : FuncData} (F : FnP K "told_limp" s_told_limp f fd) (m : mg "told_limp" = some (.ref f)) (C_stretch_sum : Cal P w K mg base "stretch_sum" 1 3 ps_stretch_sum (rd_stretch_sum)) (z_len : mg "len" = none) (z_range : mg "range" = none) : Cal P w K mg base "told_limp" 2 1 ps_told_limp rd_told_limp :=
  by
  rw [rd_told_limp_is]
  exact ⟨f, fd, fn_dD F sc_told_limp (by decide) (fun cdv A outer s H E hr => (dss_cons (ds_set (i := 1) sc_told_limp.nd rfl (.inl lk_told_limp_1) (de_callB c_len z_len rfl (by decide +kernel) (da_cons (de_var (pv 0 rfl (.inr (.inl lk_told_limp_0)))) da_nil)) (.inl rfl))
      (dss_cons (ds_for (vs := [2]) PassesOwn.never rfl (dg_nm (i := 2) sc_told_limp.nd rfl (.inr lk_told_limp_2) (.inl rfl)) (di_rng2 z_range rfl (da_cons de_int (da_cons (de_var (pv 1 rfl (.inl lk_told_limp_1))) da_nil))) (dss_cons (ds_setLc (i := 3) (own := [("place", 6)]) rfl sc_told_limp.nd rfl lk_told_limp_3 (sw_true rfl lk_told_limp_3 (by decide +kernel) (by decide +kernel)) (blkOk_by (own := [("place", 6)]) (N := nm_told_limp) (sc := defScope s_told_limp) (by decide +kernel)) (fun _ _ _ _ _ => (dg_nm (i := 6) sc_told_limp.nd rfl (.inl rfl) (.inr rfl))) (di_rng1 z_range rfl (da_cons (de_var (pv 1 rfl (.inl lk_told_limp_1))) da_nil)) (fun _ _ _ _ _ => dts_nil) (fun _ _ _ _ _ => (de_cal C_stretch_sum (hr.mono (by omega)) rfl (da_cons (de_var (pv 0 rfl (.inr (.inl rfl)))) (da_cons (de_var (pv 2 rfl (.inr (.inl rfl)))) (da_cons (de_var (pv 6 rfl (.inl rfl))) da_nil))))))
      (dss_one (ds_for (vs := [4]) PassesOwn.never rfl (dg_nm (i := 4) sc_told_limp.nd rfl (.inl lk_told_limp_4) (.inl rfl)) (di_rng1 z_range rfl (da_cons (de_var (pv 1 rfl (.inl lk_told_limp_1))) da_nil)) (dss_one (ds_for (vs := [5]) PassesOwn.never rfl (dg_nm (i := 5) sc_told_limp.nd rfl (.inl lk_told_limp_5) (.inl rfl)) (di_rng1 z_range rfl (da_cons (de_var (pv 1 rfl (.inl lk_told_limp_1))) da_nil)) (dss_one (ds_if (dt_cmp o_ge (de_op o_sub (de_ix (u1 hr) (de_var (pv 3 rfl (.inl lk_told_limp_3))) (de_var (pv 4 rfl (.inl lk_told_limp_4)))) (de_ix (u1 hr) (de_var (pv 3 rfl (.inl lk_told_limp_3))) (de_var (pv 5 rfl (.inl lk_told_limp_5))))) de_int) (dss_one (ds_ret (de_tup (da_cons (de_var (pv 2 rfl (.inr (.inl lk_told_limp_2)))) (da_cons (de_var (pv 4 rfl (.inl lk_told_limp_4))) (da_cons (de_var (pv 5 rfl (.inl lk_told_limp_5))) da_nil)))))) dss_nil))))))))
      (dss_one (ds_ret de_non))))), m, F.kp, (F.bindsN fun _ _ _ _ _ _ us hl => match us, hl with | [_], _ => rfl)⟩
/-! ### is_even_cadence -/
abbrev s_is_even_cadence : Stmt := top 12
abbrev nm_is_even_cadence : List Str := ["counts"]
abbrev ps_is_even_cadence : List Str := ["counts"]
theorem sc_is_even_cadence : FnScope nm_is_even_cadence ps_is_even_cadence (defScope s_is_even_cadence) := ⟨rfl, rfl, rfl, by decide +kernel, rfl, by decide +kernel, by decide +kernel⟩
theorem lk_is_even_cadence_0 : (defScope s_is_even_cadence).names.lookup ("counts" : Str) = some NameKind.local := by decide +kernel
noncomputable def t_is_even_cadence : dTS := dRet (dOp fIs (dCall 1 (rd_told_limp) (dCons (dVar 0) (dNil))) (dC .none))
theorem rx_is_even_cadence : ∃ r : dFn, r = fnT 1 t_is_even_cadence := ⟨_, rfl⟩
@[irreducible] noncomputable def rd_is_even_cadence : dFn := rx_is_even_cadence.choose
theorem rd_is_even_cadence_is : rd_is_even_cadence = fnT 1 t_is_even_cadence := by unfold rd_is_even_cadence; exact rx_is_even_cadence.choose_spec
theorem cal_is_even_cadence {P : Program} {w : World} {K : PySem.W.Frag} {mg : Str → Option Value} {base : Heap} {f : Addr} {fd : FuncData} (F : FnP K "is_even_cadence" s_is_even_cadence f fd) (m : mg "is_even_cadence" = some (.ref f)) (C_told_limp : Cal P w K mg base "told_limp" 2 1 ps_told_limp (rd_told_limp)) : Cal P w K mg base "is_even_cadence" 3 1 ps_is_even_cadence rd_is_even_cadence :=
  by
  rw [rd_is_even_cadence_is]
  exact ⟨f, fd, fn_dD F sc_is_even_cadence (by decide) (fun cdv A outer s H E hr => (dss_one (ds_ret (de_cmp o_is (de_cal C_told_limp (hr.mono (by omega)) rfl (da_cons (de_var (pv 0 rfl (.inl lk_is_even_cadence_0))) da_nil)) de_non)))), m, F.kp, (F.bindsN fun _ _ _ _ _ _ us hl => match us, hl with | [_], _ => rfl)⟩
/-! ### cadence_turn -/
abbrev s_cadence_turn : Stmt := top 13
abbrev nm_cadence_turn : List Str := ["counts", "model", "v"]
abbrev ps_cadence_turn : List Str := ["counts"]
theorem sc_cadence_turn : FnScope nm_cadence_turn ps_cadence_turn (defScope s_cadence_turn) := ⟨rfl, rfl, rfl, by decide +kernel, rfl, by decide +kernel, by decide +kernel⟩
theorem lk_cadence_turn_0 : (defScope s_cadence_turn).names.lookup ("counts" : Str) = some NameKind.local := by decide +kernel
theorem lk_cadence_turn_1 : (defScope s_cadence_turn).names.lookup ("model" : Str) = some NameKind.local := by decide +kernel
theorem lk_cadence_turn_2 : (defScope s_cadence_turn).names.lookup ("v" : Str) = some NameKind.local := by decide +kernel
noncomputable def t_cadence_turn : dTS := dSeq (dSet 1 (dCall 2 (rd_cadence_of) (dCons (dCB fLen (dCons (dVar 0) (dNil))) (dCons (dCB fSumA (dCons (dVar 0) (dNil))) (dNil)))))
    (dSeq (dFor (dRng1 (dCons (dCB fLen (dCons (dVar 0) (dNil))) (dNil))) (gNm 2) (dIfS (dB (dOp fEq (dCall 2 (rd_cadence_turned) (dCons (dVar 1) (dCons (dVar 2) (dNil)))) (dVar 0))) (dRet (dVar 2)) (dNext)))
    (dRet (dC .none)))
theorem rx_cadence_turn : ∃ r : dFn, r = fnT 3 t_cadence_turn := ⟨_, rfl⟩
@[irreducible] noncomputable def rd_cadence_turn : dFn := rx_cadence_turn.choose
theorem rd_cadence_turn_is : rd_cadence_turn = fnT 3 t_cadence_turn := by unfold rd_cadence_turn; exact rx_cadence_turn.choose_spec
theorem cal_cadence_turn {P : Program} {w : World} {K : PySem.W.Frag} {mg : Str → Option Value} {base : Heap} {f : Addr} {fd : FuncData} (F : FnP K "cadence_turn" s_cadence_turn f fd) (m : mg "cadence_turn" = some (.ref f)) (C_cadence_of : Cal P w K mg base "cadence_of" 2 2 ps_cadence_of (rd_cadence_of)) (C_cadence_turned : Cal P w K mg base "cadence_turned" 1 2 ps_cadence_turned (rd_cadence_turned)) (z_len : mg "len" = none) (z_range : mg "range" = none) (z_sum : mg "sum" = none) : Cal P w K mg base "cadence_turn" 3 1 ps_cadence_turn rd_cadence_turn :=
  by
  rw [rd_cadence_turn_is]
  exact ⟨f, fd, fn_dD F sc_cadence_turn (by decide) (fun cdv A outer s H E hr => (dss_cons (ds_set (i := 1) sc_cadence_turn.nd rfl (.inl lk_cadence_turn_1) (de_cal C_cadence_of (hr.mono (by omega)) rfl (da_cons (de_callB c_len z_len rfl (by decide +kernel) (da_cons (de_var (pv 0 rfl (.inl lk_cadence_turn_0))) da_nil)) (da_cons (de_callB (c_sumA rfl) z_sum rfl (by decide +kernel) (da_cons (de_var (pv 0 rfl (.inl lk_cadence_turn_0))) da_nil)) da_nil))) (.inl rfl))
      (dss_cons (ds_for (vs := [2]) PassesOwn.never rfl (dg_nm (i := 2) sc_cadence_turn.nd rfl (.inl lk_cadence_turn_2) (.inl rfl)) (di_rng1 z_range rfl (da_cons (de_callB c_len z_len rfl (by decide +kernel) (da_cons (de_var (pv 0 rfl (.inl lk_cadence_turn_0))) da_nil)) da_nil)) (dss_one (ds_if (dt_cmp (o_eq (u64 hr)) (de_cal C_cadence_turned (hr.mono (by omega)) rfl (da_cons (de_var (pv 1 rfl (.inl lk_cadence_turn_1))) (da_cons (de_var (pv 2 rfl (.inl lk_cadence_turn_2))) da_nil))) (de_var (pv 0 rfl (.inl lk_cadence_turn_0)))) (dss_one (ds_ret (de_var (pv 2 rfl (.inl lk_cadence_turn_2))))) dss_nil)))
      (dss_one (ds_ret de_non))))), m, F.kp, (F.bindsN fun _ _ _ _ _ _ us hl => match us, hl with | [_], _ => rfl)⟩
/-! ### _law_cell -/
abbrev s__law_cell : Stmt := top 15
abbrev nm__law_cell : List Str := ["script", "k"]
abbrev ps__law_cell : List Str := ["script", "k"]
theorem sc__law_cell : FnScope nm__law_cell ps__law_cell (defScope s__law_cell) := ⟨rfl, rfl, rfl, by decide +kernel, rfl, by decide +kernel, by decide +kernel⟩
theorem lk__law_cell_0 : (defScope s__law_cell).names.lookup ("script" : Str) = some NameKind.local := by decide +kernel
theorem lk__law_cell_1 : (defScope s__law_cell).names.lookup ("k" : Str) = some NameKind.local := by decide +kernel
noncomputable def t__law_cell : dTS := dSeq (dIfS (dB (dOp fLt (dVar 1) (dCB fLen (dCons (dVar 0) (dNil))))) (dRet (dOp fIx (dVar 0) (dVar 1))) (dNext))
    (dRet (dOp fAdd (dOp fMulA (dC (.int 5)) (dVar 1)) (dC (.int 3))))
theorem rx__law_cell : ∃ r : dFn, r = fnT 2 t__law_cell := ⟨_, rfl⟩
@[irreducible] noncomputable def rd__law_cell : dFn := rx__law_cell.choose
theorem rd__law_cell_is : rd__law_cell = fnT 2 t__law_cell := by unfold rd__law_cell; exact rx__law_cell.choose_spec
theorem cal__law_cell {P : Program} {w : World} {K : PySem.W.Frag} {mg : Str → Option Value} {base : Heap} {f : Addr} {fd : FuncData} (F : FnP K "_law_cell" s__law_cell f fd) (m : mg "_law_cell" = some (.ref f)) (z_len : mg "len" = none) : Cal P w K mg base "_law_cell" 1 2 ps__law_cell rd__law_cell :=
  by
  rw [rd__law_cell_is]
  exact ⟨f, fd, fn_dD F sc__law_cell (by decide) (fun cdv A outer s H E hr => (dss_cons (ds_if (dt_cmp o_lt (de_var (pv 1 rfl (.inl lk__law_cell_1))) (de_callB c_len z_len rfl (by decide +kernel) (da_cons (de_var (pv 0 rfl (.inl lk__law_cell_0))) da_nil))) (dss_one (ds_ret (de_ix (u1 hr) (de_var (pv 0 rfl (.inl lk__law_cell_0))) (de_var (pv 1 rfl (.inl lk__law_cell_1)))))) dss_nil)
      (dss_one (ds_ret (de_op o_add (de_op o_mulA de_int (de_var (pv 1 rfl (.inl lk__law_cell_1)))) de_int))))), m, F.kp, (F.bindsN fun _ _ _ _ _ _ us hl => match us, hl with | [_, _], _ => rfl)⟩
/-! ### _law_draws -/
abbrev s__law_draws : Stmt := top 16
abbrev nm__law_draws : List Str := ["cell", "count", "rest", "digits", "seed", "draws", "k", "mixed"]
abbrev ps__law_draws : List Str := ["cell", "count"]
theorem sc__law_draws : FnScope nm__law_draws ps__law_draws (defScope s__law_draws) := ⟨rfl, rfl, rfl, by decide +kernel, rfl, by decide +kernel, by decide +kernel⟩
theorem lk__law_draws_0 : (defScope s__law_draws).names.lookup ("cell" : Str) = some NameKind.local := by decide +kernel
theorem lk__law_draws_1 : (defScope s__law_draws).names.lookup ("count" : Str) = some NameKind.local := by decide +kernel
theorem lk__law_draws_2 : (defScope s__law_draws).names.lookup ("rest" : Str) = some NameKind.local := by decide +kernel
theorem lk__law_draws_3 : (defScope s__law_draws).names.lookup ("digits" : Str) = some NameKind.local := by decide +kernel
theorem lk__law_draws_4 : (defScope s__law_draws).names.lookup ("seed" : Str) = some NameKind.local := by decide +kernel
theorem lk__law_draws_5 : (defScope s__law_draws).names.lookup ("draws" : Str) = some NameKind.local := by decide +kernel
theorem lk__law_draws_6 : (defScope s__law_draws).names.lookup ("k" : Str) = some NameKind.local := by decide +kernel
theorem lk__law_draws_7 : (defScope s__law_draws).names.lookup ("mixed" : Str) = some NameKind.local := by decide +kernel
noncomputable def t__law_draws : dTS := dSeq (dSet 2 (dCB fAbs (dCons (dCB fInt (dCons (dVar 0) (dNil))) (dNil))))
    (dSeq (dSet 3 (dOp fGe (dVar 2) (dOp fPow (dC (.int 10)) (dC (.int 18)))))
    (dSeq (dSet 4 (dVar 2))
    (dSeq (dSetO 5 (fLst (dNil)))
    (dSeq (dFor (dRng1 (dCons (dVar 1) (dNil))) (gNm 6) (dIfS (dAnd (dB (dVar 3)) (dB (dOp fGt (dVar 2) (dC (.int 0))))) (dSeq (dApp 5 (dOp fMod (dCB fInt (dCons (dVar 2) (dNil))) (dC (.int 5040))))
    (dSet 2 (dOp fDiv (dVar 2) (dC (.int 5040))))) (dSeq (dSet 7 (dOp fMod (dCB fInt (dCons (dOp fAdd (dOp fAdd (dOp fMulA (dVar 4) (dC (.int 48271))) (dOp fMulA (dOp fAdd (dVar 6) (dC (.int 1))) (dC (.int 69621)))) (dC (.int 11))) (dNil))) (dC (.int 2147483647))))
    (dSeq (dSet 7 (dOp fMod (dCB fInt (dCons (dOp fAdd (dOp fMulA (dVar 7) (dVar 7)) (dOp fMulA (dC (.int 40692)) (dOp fAdd (dVar 6) (dC (.int 3))))) (dNil))) (dC (.int 2147483399))))
    (dApp 5 (dOp fMod (dCB fInt (dCons (dOp fDiv (dVar 7) (dC (.int 64))) (dNil))) (dC (.int 5040))))))))
    (dFrz 5 (dRet (dVar 5)))))))
theorem rx__law_draws : ∃ r : dFn, r = fnT 8 t__law_draws := ⟨_, rfl⟩
@[irreducible] noncomputable def rd__law_draws : dFn := rx__law_draws.choose
theorem rd__law_draws_is : rd__law_draws = fnT 8 t__law_draws := by unfold rd__law_draws; exact rx__law_draws.choose_spec
theorem cal__law_draws {P : Program} {w : World} {K : PySem.W.Frag} {mg : Str → Option Value} {base : Heap} {f : Addr} {fd : FuncData} (F : FnP K "_law_draws" s__law_draws f fd) (m : mg "_law_draws" = some (.ref f)) (z_abs : mg "abs" = none) (z_int : mg "int" = none) (z_range : mg "range" = none) : Cal P w K mg base "_law_draws" 1 2 ps__law_draws rd__law_draws :=
  by
  rw [rd__law_draws_is]
  exact ⟨f, fd, fn_dD F sc__law_draws (by decide) (fun cdv A outer s H E hr => (dss_cons (ds_set (i := 2) sc__law_draws.nd rfl (.inl lk__law_draws_2) (de_callB c_abs z_abs rfl (by decide +kernel) (da_cons (de_callT c_int z_int rfl (by decide +kernel) (da_cons (de_var (pv 0 rfl (.inl lk__law_draws_0))) da_nil)) da_nil)) (.inl rfl))
      (dss_cons (ds_set (i := 3) sc__law_draws.nd rfl (.inl lk__law_draws_3) (de_cmp o_ge (de_var (pv 2 rfl (.inl lk__law_draws_2))) (de_op o_pow de_int de_int)) (.inl rfl))
      (dss_cons (ds_set (i := 4) sc__law_draws.nd rfl (.inl lk__law_draws_4) (de_var (pv 2 rfl (.inl lk__law_draws_2))) (.inl rfl))
      (dss_cons (ds_setO (i := 5) sc__law_draws.nd rfl (.inl lk__law_draws_5) (df_lst da_nil) (.inl rfl))
      (dss_cons (ds_for (vs := [6]) PassesOwn.never rfl (dg_nm (i := 6) sc__law_draws.nd rfl (.inl lk__law_draws_6) (.inl rfl)) (di_rng1 z_range rfl (da_cons (de_var (pv 1 rfl (.inl lk__law_draws_1))) da_nil)) (dss_one (ds_if (dw_pt (dw_and (dt_val (de_var (pv 3 rfl (.inl lk__law_draws_3)))) (dw_and1 (dt_cmp o_gt (de_var (pv 2 rfl (.inl lk__law_draws_2))) de_int)))) (dss_cons (ds_app (i := 5) (pv 5 rfl (.inl lk__law_draws_5)) (de_op o_mod (de_callT c_int z_int rfl (by decide +kernel) (da_cons (de_var (pv 2 rfl (.inl lk__law_draws_2))) da_nil)) de_int))
      (dss_one (ds_set (i := 2) sc__law_draws.nd rfl (.inl lk__law_draws_2) (de_op o_div (de_var (pv 2 rfl (.inl lk__law_draws_2))) de_int) (.inl rfl)))) (dss_cons (ds_set (i := 7) sc__law_draws.nd rfl (.inl lk__law_draws_7) (de_op o_mod (de_callT c_int z_int rfl (by decide +kernel) (da_cons (de_op o_add (de_op o_add (de_op o_mulA (de_var (pv 4 rfl (.inl lk__law_draws_4))) de_int) (de_op o_mulA (de_op o_add (de_var (pv 6 rfl (.inl lk__law_draws_6))) de_int) de_int)) de_int) da_nil)) de_int) (.inl rfl))
      (dss_cons (ds_set (i := 7) sc__law_draws.nd rfl (.inl lk__law_draws_7) (de_op o_mod (de_callT c_int z_int rfl (by decide +kernel) (da_cons (de_op o_add (de_op o_mulA (de_var (pv 7 rfl (.inl lk__law_draws_7))) (de_var (pv 7 rfl (.inl lk__law_draws_7)))) (de_op o_mulA de_int (de_op o_add (de_var (pv 6 rfl (.inl lk__law_draws_6))) de_int))) da_nil)) de_int) (.inl rfl))
      (dss_one (ds_app (i := 5) (pv 5 rfl (.inl lk__law_draws_5)) (de_op o_mod (de_callT c_int z_int rfl (by decide +kernel) (da_cons (de_op o_div (de_var (pv 7 rfl (.inl lk__law_draws_7))) de_int) da_nil)) de_int))))))))
      (dss_one (ds_frz 5 (ds_ret (de_var (pv 5 rfl (.inl lk__law_draws_5)))))))))))), m, F.kp, (F.bindsN fun _ _ _ _ _ _ us hl => match us, hl with | [_, _], _ => rfl)⟩
/-! ### _law_is_integer -/
abbrev s__law_is_integer : Stmt := top 17
abbrev nm__law_is_integer : List Str := ["value"]
abbrev ps__law_is_integer : List Str := ["value"]
theorem sc__law_is_integer : FnScope nm__law_is_integer ps__law_is_integer (defScope s__law_is_integer) := ⟨rfl, rfl, rfl, by decide +kernel, rfl, by decide +kernel, by decide +kernel⟩
theorem lk__law_is_integer_0 : (defScope s__law_is_integer).names.lookup ("value" : Str) = some NameKind.local := by decide +kernel
noncomputable def t__law_is_integer : dTS := dRet (dAndV (dUn (fI isInt) (dVar 0)) (dNotV (dUn (fI isBl) (dVar 0))))
theorem rx__law_is_integer : ∃ r : dFn, r = fnT 1 t__law_is_integer := ⟨_, rfl⟩
@[irreducible] noncomputable def rd__law_is_integer : dFn := rx__law_is_integer.choose
theorem rd__law_is_integer_is : rd__law_is_integer = fnT 1 t__law_is_integer := by unfold rd__law_is_integer; exact rx__law_is_integer.choose_spec
theorem cal__law_is_integer {P : Program} {w : World} {K : PySem.W.Frag} {mg : Str → Option Value} {base : Heap} {f : Addr} {fd : FuncData} (F : FnP K "_law_is_integer" s__law_is_integer f fd) (m : mg "_law_is_integer" = some (.ref f)) (z_bool : mg "bool" = none) (z_int : mg "int" = none) (z_isinstance : mg "isinstance" = none) : Cal P w K mg base "_law_is_integer" 1 1 ps__law_is_integer rd__law_is_integer :=
  by
  rw [rd__law_is_integer_is]
  exact ⟨f, fd, fn_dD F sc__law_is_integer (by decide) (fun cdv A outer s H E hr => (dss_one (ds_ret (de_and (de_isi ist_int (de_var (pv 0 rfl (.inl lk__law_is_integer_0))) z_isinstance z_int rfl rfl (by decide +kernel)) (de_one (de_not (de_isi ist_bl (de_var (pv 0 rfl (.inl lk__law_is_integer_0))) z_isinstance z_bool rfl rfl (by decide +kernel)))))))), m, F.kp, (F.bindsN fun _ _ _ _ _ _ us hl => match us, hl with | [_], _ => rfl)⟩
/-! ### _law_is -/
abbrev s__law_is : Stmt := top 18
abbrev nm__law_is : List Str := ["value", "due", "at"]
abbrev ps__law_is : List Str := ["value", "due"]
theorem sc__law_is : FnScope nm__law_is ps__law_is (defScope s__law_is) := ⟨rfl, rfl, rfl, by decide +kernel, rfl, by decide +kernel, by decide +kernel⟩
theorem lk__law_is_0 : (defScope s__law_is).names.lookup ("value" : Str) = some NameKind.cell := by decide +kernel
theorem lk__law_is_1 : (defScope s__law_is).names.lookup ("due" : Str) = some NameKind.cell := by decide +kernel
noncomputable def t__law_is (rc : dFn) : dTS := dSeq (dIfS (dB (dOp fIs (dVar 1) (dC .none))) (dRet (dOp fIs (dVar 0) (dC .none))) (dNext))
    (dSeq (dIfS (dB (dUn (fI isBl) (dVar 1))) (dRet (dAndV (dUn (fI isBl) (dVar 0)) (dOp fEq (dVar 0) (dVar 1)))) (dNext))
    (dSeq (dIfS (dB (dUn (fI isInt) (dVar 1))) (dRet (dAndV (dCall 1 (rd__law_is_integer) (dCons (dVar 0) (dNil))) (dOp fEq (dVar 0) (dVar 1)))) (dNext))
    (dSeq (dIfS (dB (dUn (fI isStr) (dVar 1))) (dRet (dAndV (dUn (fI isStr) (dVar 0)) (dOp fEq (dVar 0) (dVar 1)))) (dNext))
    (dSeq (dIfS (dOr (dNot (dB (dUn (fI isTup) (dVar 0)))) (dB (dOp fNe (dCB fLen (dCons (dVar 0) (dNil))) (dCB fLen (dCons (dVar 1) (dNil)))))) (dRet (dC (.bool false))) (dNext))
    (dRet (dCB fAll (dCons (dFz (dComp (dRng1 (dCons (dCB fLen (dCons (dVar 1) (dNil))) (dNil))) (gNm 2) (dYes) (dCall 2 (rc) (dCons (dOp fIx (dVar 0) (dVar 2)) (dCons (dOp fIx (dVar 1) (dVar 2)) (dNil)))) [2])) (dNil))))))))
noncomputable def rr__law_is : Nat → dFn
  | 0 => fun _ _ _ => False
  | k + 1 => fnT 3 (t__law_is (rr__law_is k))
theorem rx__law_is : ∃ r : Nat → dFn, r = rr__law_is := ⟨_, rfl⟩
@[irreducible] noncomputable def rd__law_is : Nat → dFn := rx__law_is.choose
theorem rd__law_is_e : rd__law_is = rr__law_is := by unfold rd__law_is; exact rx__law_is.choose_spec
theorem rd__law_is_0 : rd__law_is 0 = fun _ _ _ => False := by
  rw [rd__law_is_e]
  rfl
theorem rd__law_is_is (k : Nat) : rd__law_is (k + 1) = fnT 3 (t__law_is (rd__law_is k)) := by
  rw [rd__law_is_e]
  rfl
theorem cal__law_is {P : Program} {w : World} {K : PySem.W.Frag} {mg : Str → Option Value} {base : Heap} {f : Addr} {fd : FuncData} (F : FnP K "_law_is" s__law_is f fd) (m : mg "_law_is" = some (.ref f)) (C__law_is_integer : Cal P w K mg base "_law_is_integer" 1 1 ps__law_is_integer (rd__law_is_integer)) (z_all : mg "all" = none) (z_bool : mg "bool" = none) (z_int : mg "int" = none) (z_isinstance : mg "isinstance" = none) (z_len : mg "len" = none) (z_range : mg "range" = none) (z_str : mg "str" = none) (z_tuple : mg "tuple" = none) :
    ∀ q : Nat, Cal P w K mg base "_law_is" (q + 1) 2 ps__law_is (rd__law_is q)
  | 0 => by
    rw [rd__law_is_0]
    exact ⟨f, fd, fn_no, m, F.kp, (F.bindsN fun _ _ _ _ _ _ us hl => match us, hl with | [_, _], _ => rfl)⟩
  | q + 1 => by
    have C_self := cal__law_is F m C__law_is_integer z_all z_bool z_int z_isinstance z_len z_range z_str z_tuple q
    have hb : 1 + 0 = 1 := rfl
    rw [show q + 1 + 1 = (q + 1) + 1 by omega]
    rw [rd__law_is_is]
    exact ⟨f, fd, fn_dD F sc__law_is (by decide) (fun cdv A outer s H E hr => (dss_cons (ds_if (dt_cmp o_is (de_var (pv 1 rfl (.inr (.inl lk__law_is_1)))) de_non) (dss_one (ds_ret (de_cmp o_is (de_var (pv 0 rfl (.inr (.inl lk__law_is_0)))) de_non))) dss_nil)
      (dss_cons (ds_if (dt_val (de_isi ist_bl (de_var (pv 1 rfl (.inr (.inl lk__law_is_1)))) z_isinstance z_bool rfl rfl (by decide +kernel))) (dss_one (ds_ret (de_and (de_isi ist_bl (de_var (pv 0 rfl (.inr (.inl lk__law_is_0)))) z_isinstance z_bool rfl rfl (by decide +kernel)) (de_one (de_cmp (o_eq (u64 hr)) (de_var (pv 0 rfl (.inr (.inl lk__law_is_0)))) (de_var (pv 1 rfl (.inr (.inl lk__law_is_1))))))))) dss_nil)
      (dss_cons (ds_if (dt_val (de_isi ist_int (de_var (pv 1 rfl (.inr (.inl lk__law_is_1)))) z_isinstance z_int rfl rfl (by decide +kernel))) (dss_one (ds_ret (de_and (de_cal C__law_is_integer (hr.mono (by omega)) rfl (da_cons (de_var (pv 0 rfl (.inr (.inl lk__law_is_0)))) da_nil)) (de_one (de_cmp (o_eq (u64 hr)) (de_var (pv 0 rfl (.inr (.inl lk__law_is_0)))) (de_var (pv 1 rfl (.inr (.inl lk__law_is_1))))))))) dss_nil)
      (dss_cons (ds_if (dt_val (de_isi ist_str (de_var (pv 1 rfl (.inr (.inl lk__law_is_1)))) z_isinstance z_str rfl rfl (by decide +kernel))) (dss_one (ds_ret (de_and (de_isi ist_str (de_var (pv 0 rfl (.inr (.inl lk__law_is_0)))) z_isinstance z_str rfl rfl (by decide +kernel)) (de_one (de_cmp (o_eq (u64 hr)) (de_var (pv 0 rfl (.inr (.inl lk__law_is_0)))) (de_var (pv 1 rfl (.inr (.inl lk__law_is_1))))))))) dss_nil)
      (dss_cons (ds_if (dw_pt (dw_or (dt_not (dt_val (de_isi ist_tup (de_var (pv 0 rfl (.inr (.inl lk__law_is_0)))) z_isinstance z_tuple rfl rfl (by decide +kernel)))) (dw_or1 (dt_cmp (o_ne (u64 hr)) (de_callB c_len z_len rfl (by decide +kernel) (da_cons (de_var (pv 0 rfl (.inr (.inl lk__law_is_0)))) da_nil)) (de_callB c_len z_len rfl (by decide +kernel) (da_cons (de_var (pv 1 rfl (.inr (.inl lk__law_is_1)))) da_nil)))))) (dss_one (ds_ret de_bl)) dss_nil)
      (dss_one (ds_ret (de_callB (c_all rfl) z_all rfl (by decide +kernel) (da_cons (de_fz (df_comp (own := [("at", 2)]) rfl sc__law_is.nd (blkOk_by (own := [("at", 2)]) (N := nm__law_is) (sc := defScope s__law_is) (by decide +kernel)) (fun _ _ _ _ _ => (dg_nm (i := 2) sc__law_is.nd rfl (.inl rfl) (.inr rfl))) (di_rng1 z_range rfl (da_cons (de_callB c_len z_len rfl (by decide +kernel) (da_cons (de_var (pv 1 rfl (.inr (.inl lk__law_is_1)))) da_nil)) da_nil)) (fun _ _ _ _ _ => dts_nil) (fun _ _ _ _ _ => (de_cal C_self hr rfl (da_cons (de_ix (u1 hr) (de_var (pv 0 rfl (.inr (.inl rfl)))) (de_var (pv 2 rfl (.inl rfl)))) (da_cons (de_ix (u1 hr) (de_var (pv 1 rfl (.inr (.inl rfl)))) (de_var (pv 2 rfl (.inl rfl)))) da_nil)))))) da_nil)))))))))), m, F.kp, (F.bindsN fun _ _ _ _ _ _ us hl => match us, hl with | [_, _], _ => rfl)⟩
/-! ### _law_hand -/
abbrev s__law_hand : Stmt := top 19
abbrev nm__law_hand : List Str := ["script", "k"]
abbrev ps__law_hand : List Str := ["script", "k"]
theorem sc__law_hand : FnScope nm__law_hand ps__law_hand (defScope s__law_hand) := ⟨rfl, rfl, rfl, by decide +kernel, rfl, by decide +kernel, by decide +kernel⟩
theorem lk__law_hand_0 : (defScope s__law_hand).names.lookup ("script" : Str) = some NameKind.local := by decide +kernel
theorem lk__law_hand_1 : (defScope s__law_hand).names.lookup ("k" : Str) = some NameKind.local := by decide +kernel
noncomputable def t__law_hand : dTS := dRet (dDisp [((.inr (Str.ofString "draws")), dCall 2 (rd__law_draws) (dCons (dCall 2 (rd__law_cell) (dCons (dVar 0) (dCons (dVar 1) (dNil)))) (dCons (dC (.int 120)) (dNil)))), ((.inr (Str.ofString "at")), dC (.int 0))])
theorem rx__law_hand : ∃ r : dFn, r = fnT 2 t__law_hand := ⟨_, rfl⟩
@[irreducible] noncomputable def rd__law_hand : dFn := rx__law_hand.choose
theorem rd__law_hand_is : rd__law_hand = fnT 2 t__law_hand := by unfold rd__law_hand; exact rx__law_hand.choose_spec
theorem cal__law_hand {P : Program} {w : World} {K : PySem.W.Frag} {mg : Str → Option Value} {base : Heap} {f : Addr} {fd : FuncData} (F : FnP K "_law_hand" s__law_hand f fd) (m : mg "_law_hand" = some (.ref f)) (C__law_cell : Cal P w K mg base "_law_cell" 1 2 ps__law_cell (rd__law_cell)) (C__law_draws : Cal P w K mg base "_law_draws" 1 2 ps__law_draws (rd__law_draws)) : Cal P w K mg base "_law_hand" 2 2 ps__law_hand rd__law_hand :=
  by
  rw [rd__law_hand_is]
  exact ⟨f, fd, fn_dD F sc__law_hand (by decide) (fun cdv A outer s H E hr => (dss_one (ds_ret (de_disp (ts := [((.inr (Str.ofString "draws")), dCall 2 (rd__law_draws) (dCons (dCall 2 (rd__law_cell) (dCons (dVar 0) (dCons (dVar 1) (dNil)))) (dCons (dC (.int 120)) (dNil)))), ((.inr (Str.ofString "at")), dC (.int 0))]) (dps_cons pe_str (de_cal C__law_draws (hr.mono (by omega)) rfl (da_cons (de_cal C__law_cell (hr.mono (by omega)) rfl (da_cons (de_var (pv 0 rfl (.inl lk__law_hand_0))) (da_cons (de_var (pv 1 rfl (.inl lk__law_hand_1))) da_nil))) (da_cons de_int da_nil))) (dps_cons pe_str de_int dps_nil)) (by decide +kernel) (by decide) rfl rfl (by intro z; cases z) (by decide))))), m, F.kp, (F.bindsN fun _ _ _ _ _ _ us hl => match us, hl with | [_, _], _ => rfl)⟩
/-! ### _law_take -/
abbrev s__law_take : Stmt := top 20
abbrev nm__law_take : List Str := ["hand", "most", "at"]
abbrev ps__law_take : List Str := ["hand", "most"]
theorem sc__law_take : FnScope nm__law_take ps__law_take (defScope s__law_take) := ⟨rfl, rfl, rfl, by decide +kernel, rfl, by decide +kernel, by decide +kernel⟩
theorem lk__law_take_0 : (defScope s__law_take).names.lookup ("hand" : Str) = some NameKind.local := by decide +kernel
theorem lk__law_take_1 : (defScope s__law_take).names.lookup ("most" : Str) = some NameKind.local := by decide +kernel
theorem lk__law_take_2 : (defScope s__law_take).names.lookup ("at" : Str) = some NameKind.local := by decide +kernel
noncomputable def t__law_take : dTS := dSeq (dSet 2 (dOp fIx (dVar 0) (dC (.str (Str.ofString "at")))))
    (dSeq (dPutI 0 (dC (.str (Str.ofString "at"))) (dOp fAdd (dVar 2) (dC (.int 1))))
    (dRet (dOp fMod (dOp fAdd (dOp fDiv (dCB fInt (dCons (dOp fIx (dOp fIx (dVar 0) (dC (.str (Str.ofString "draws")))) (dOp fMod (dVar 2) (dC (.int 120)))) (dNil))) (dOp fIx (dTup (dCons (dC (.int 1)) (dCons (dC (.int 7)) (dCons (dC (.int 59)) (dNil))))) (dOp fMod (dOp fDiv (dVar 2) (dC (.int 120))) (dC (.int 3))))) (dOp fDiv (dVar 2) (dC (.int 360)))) (dVar 1))))
theorem rx__law_take : ∃ r : dFn, r = fnT 3 t__law_take := ⟨_, rfl⟩
@[irreducible] noncomputable def rd__law_take : dFn := rx__law_take.choose
theorem rd__law_take_is : rd__law_take = fnT 3 t__law_take := by unfold rd__law_take; exact rx__law_take.choose_spec
theorem cal__law_take {P : Program} {w : World} {K : PySem.W.Frag} {mg : Str → Option Value} {base : Heap} {f : Addr} {fd : FuncData} (F : FnP K "_law_take" s__law_take f fd) (m : mg "_law_take" = some (.ref f)) (z_int : mg "int" = none) : Cal P w K mg base "_law_take" 1 2 ps__law_take rd__law_take :=
  by
  rw [rd__law_take_is]
  exact ⟨f, fd, fn_dD F sc__law_take (by decide) (fun cdv A outer s H E hr => (dss_cons (ds_set (i := 2) sc__law_take.nd rfl (.inl lk__law_take_2) (de_ix (u1 hr) (de_var (pv 0 rfl (.inl lk__law_take_0))) de_str) (.inl rfl))
      (dss_cons (ds_put (i := 0) (u1 hr) (pv 0 rfl (.inl lk__law_take_0)) de_str (de_op o_add (de_var (pv 2 rfl (.inl lk__law_take_2))) de_int))
      (dss_one (ds_ret (de_op o_mod (de_op o_add (de_op o_div (de_callT c_int z_int rfl (by decide +kernel) (da_cons (de_ix (u1 hr) (de_ix (u1 hr) (de_var (pv 0 rfl (.inl lk__law_take_0))) de_str) (de_op o_mod (de_var (pv 2 rfl (.inl lk__law_take_2))) de_int)) da_nil)) (de_ix (u1 hr) (de_tup (da_cons de_int (da_cons de_int (da_cons de_int da_nil)))) (de_op o_mod (de_op o_div (de_var (pv 2 rfl (.inl lk__law_take_2))) de_int) de_int))) (de_op o_div (de_var (pv 2 rfl (.inl lk__law_take_2))) de_int)) (de_var (pv 1 rfl (.inl lk__law_take_1))))))))), m, F.kp, (F.bindsN fun _ _ _ _ _ _ us hl => match us, hl with | [_, _], _ => rfl)⟩
/-! ### _law_dots -/
abbrev s__law_dots : Stmt := top 21
abbrev nm__law_dots : List Str := ["levels", "m", "error", "text", "errors", "level"]
abbrev ps__law_dots : List Str := ["levels", "m", "error"]
theorem sc__law_dots : FnScope nm__law_dots ps__law_dots (defScope s__law_dots) := ⟨rfl, rfl, rfl, by decide +kernel, rfl, by decide +kernel, by decide +kernel⟩
theorem lk__law_dots_0 : (defScope s__law_dots).names.lookup ("levels" : Str) = some NameKind.local := by decide +kernel
theorem lk__law_dots_1 : (defScope s__law_dots).names.lookup ("m" : Str) = some NameKind.local := by decide +kernel
theorem lk__law_dots_2 : (defScope s__law_dots).names.lookup ("error" : Str) = some NameKind.local := by decide +kernel
theorem lk__law_dots_3 : (defScope s__law_dots).names.lookup ("text" : Str) = some NameKind.local := by decide +kernel
theorem lk__law_dots_4 : (defScope s__law_dots).names.lookup ("errors" : Str) = some NameKind.local := by decide +kernel
theorem lk__law_dots_5 : (defScope s__law_dots).names.lookup ("level" : Str) = some NameKind.local := by decide +kernel
noncomputable def t__law_dots : dTS := dSeq (dParVO 3 4 (dC (.str (Str.ofString ""))) (fLst (dNil)))
    (dSeq (dFor (dItV (dVar 0)) (gNm 5) (dSeq (dSet 2 (dOp fAdd (dVar 2) (dVar 5)))
    (dSeq (dIfS (dB (dOp fGe (dOp fMulA (dC (.int 2)) (dVar 2)) (dVar 1))) (dPar 3 2 (dCons (dOp fAdd (dVar 3) (dC (.str (Str.ofString "x")))) (dCons (dOp fSub (dVar 2) (dVar 1)) (dNil)))) (dSet 3 (dOp fAdd (dVar 3) (dC (.str (Str.ofString "."))))))
    (dApp 4 (dVar 2)))))
    (dRet (dTup (dCons (dVar 3) (dCons (dCB fTuple (dCons (dVar 4) (dNil))) (dNil))))))
theorem rx__law_dots : ∃ r : dFn, r = fnT 6 t__law_dots := ⟨_, rfl⟩
@[irreducible] noncomputable def rd__law_dots : dFn := rx__law_dots.choose
theorem rd__law_dots_is : rd__law_dots = fnT 6 t__law_dots := by unfold rd__law_dots; exact rx__law_dots.choose_spec
theorem cal__law_dots {P : Program} {w : World} {K : PySem.W.Frag} {mg : Str → Option Value} {base : Heap} {f : Addr} {fd : FuncData} (F : FnP K "_law_dots" s__law_dots f fd) (m : mg "_law_dots" = some (.ref f)) (z_tuple : mg "tuple" = none) : Cal P w K mg base "_law_dots" 1 3 ps__law_dots rd__law_dots :=
  by
  rw [rd__law_dots_is]
  exact ⟨f, fd, fn_dD F sc__law_dots (by decide) (fun cdv A outer s H E hr => (dss_cons (ds_parVO (i := 3) (j := 4) rfl sc__law_dots.nd rfl rfl (by decide) lk__law_dots_3 lk__law_dots_4 de_str (df_lst da_nil))
      (dss_cons (ds_for (vs := [5]) PassesOwn.never rfl (dg_nm (i := 5) sc__law_dots.nd rfl (.inl lk__law_dots_5) (.inl rfl)) (di_any (de_var (pv 0 rfl (.inl lk__law_dots_0)))) (dss_cons (ds_set (i := 2) sc__law_dots.nd rfl (.inl lk__law_dots_2) (de_op o_add (de_var (pv 2 rfl (.inl lk__law_dots_2))) (de_var (pv 5 rfl (.inl lk__law_dots_5)))) (.inl rfl))
      (dss_cons (ds_if (dt_cmp o_ge (de_op o_mulA de_int (de_var (pv 2 rfl (.inl lk__law_dots_2)))) (de_var (pv 1 rfl (.inl lk__law_dots_1)))) (dss_one (ds_par (i := 3) (j := 2) rfl sc__law_dots.nd rfl rfl (by decide) lk__law_dots_3 lk__law_dots_2 (da_cons (de_op o_add (de_var (pv 3 rfl (.inl lk__law_dots_3))) de_str) (da_cons (de_op o_sub (de_var (pv 2 rfl (.inl lk__law_dots_2))) (de_var (pv 1 rfl (.inl lk__law_dots_1)))) da_nil)))) (dss_one (ds_set (i := 3) sc__law_dots.nd rfl (.inl lk__law_dots_3) (de_op o_add (de_var (pv 3 rfl (.inl lk__law_dots_3))) de_str) (.inl rfl))))
      (dss_one (ds_app (i := 4) (pv 4 rfl (.inl lk__law_dots_4)) (de_var (pv 2 rfl (.inl lk__law_dots_2))))))))
      (dss_one (ds_ret (de_tup (da_cons (de_var (pv 3 rfl (.inl lk__law_dots_3))) (da_cons (de_callT c_tuple z_tuple rfl (by decide +kernel) (da_cons (de_var (pv 4 rfl (.inl lk__law_dots_4))) da_nil)) da_nil)))))))), m, F.kp, (F.bindsN fun _ _ _ _ _ _ us hl => match us, hl with | [_, _, _], _ => rfl)⟩
/-! ### _law_levels_fine -/
abbrev s__law_levels_fine : Stmt := top 22
abbrev nm__law_levels_fine : List Str := ["levels", "m", "c", "text", "errors", "wide", "at", "more", "bent", "level", "error"]
abbrev ps__law_levels_fine : List Str := ["levels", "m", "c"]
theorem sc__law_levels_fine : FnScope nm__law_levels_fine ps__law_levels_fine (defScope s__law_levels_fine) := ⟨rfl, rfl, rfl, by decide +kernel, rfl, by decide +kernel, by decide +kernel⟩
theorem lk__law_levels_fine_0 : (defScope s__law_levels_fine).names.lookup ("levels" : Str) = some NameKind.local := by decide +kernel
theorem lk__law_levels_fine_1 : (defScope s__law_levels_fine).names.lookup ("m" : Str) = some NameKind.local := by decide +kernel
theorem lk__law_levels_fine_2 : (defScope s__law_levels_fine).names.lookup ("c" : Str) = some NameKind.cell := by decide +kernel
theorem lk__law_levels_fine_3 : (defScope s__law_levels_fine).names.lookup ("text" : Str) = some NameKind.local := by decide +kernel
theorem lk__law_levels_fine_4 : (defScope s__law_levels_fine).names.lookup ("errors" : Str) = some NameKind.local := by decide +kernel
theorem lk__law_levels_fine_5 : (defScope s__law_levels_fine).names.lookup ("wide" : Str) = some NameKind.local := by decide +kernel
theorem lk__law_levels_fine_6 : (defScope s__law_levels_fine).names.lookup ("at" : Str) = some NameKind.local := by decide +kernel
theorem lk__law_levels_fine_7 : (defScope s__law_levels_fine).names.lookup ("more" : Str) = some NameKind.local := by decide +kernel
theorem lk__law_levels_fine_8 : (defScope s__law_levels_fine).names.lookup ("bent" : Str) = some NameKind.local := by decide +kernel
noncomputable def t__law_levels_fine : dTS := dSeq (dPar 3 4 (dCons (dCall 2 (rd_dotted) (dCons (dVar 0) (dCons (dVar 1) (dNil)))) (dCons (dCall 2 (rd_errors_of) (dCons (dVar 0) (dCons (dVar 1) (dNil)))) (dNil))))
    (dSeq (dIfS (dOr (dNot (dB (dCall 2 (rd__law_is 6) (dCons (dTup (dCons (dVar 3) (dCons (dVar 4) (dNil)))) (dCons (dCall 3 (rd__law_dots) (dCons (dVar 0) (dCons (dVar 1) (dCons (dC (.int 0)) (dNil))))) (dNil)))))) (dNot (dB (dCall 2 (rd__law_is 6) (dCons (dCall 3 (rd_is_close) (dCons (dVar 0) (dCons (dVar 1) (dCons (dVar 3) (dNil))))) (dCons (dC (.bool true)) (dNil))))))) (dRet (dC (.bool false))) (dNext))
    (dSeq (dSet 5 (dCB fTuple (dCons (dFz (dComp (dItV (dVar 0)) (gNm 9) (dYes) (dOp fMulA (dVar 2) (dVar 9)) [9])) (dNil))))
    (dSeq (dIfS (dB (dOp fLe (dOp fMulA (dVar 1) (dVar 2)) (dC (.int 100)))) (dIfS (dNot (dB (dCall 2 (rd__law_is 6) (dCons (dTup (dCons (dCall 2 (rd_dotted) (dCons (dVar 5) (dCons (dOp fMulA (dVar 1) (dVar 2)) (dNil)))) (dCons (dCall 2 (rd_errors_of) (dCons (dVar 5) (dCons (dOp fMulA (dVar 1) (dVar 2)) (dNil)))) (dNil)))) (dCons (dTup (dCons (dVar 3) (dCons (dCB fTuple (dCons (dFz (dComp (dItV (dVar 4)) (gNm 10) (dYes) (dOp fMulA (dVar 2) (dVar 10)) [10])) (dNil))) (dNil)))) (dNil)))))) (dRet (dC (.bool false))) (dNext)) (dNext))
    (dSeq (dFor (dRng1 (dCons (dCB fLen (dCons (dVar 4) (dNil))) (dNil))) (gNm 6) (dSeq (dIfS (dB (dOp fNe (dOp fIx (dVar 4) (dVar 6)) (dOp fSub (dCB fSumA (dCons (dSl (dVar 0) (dNoPart) (dPart (dOp fAdd (dVar 6) (dC (.int 1))))) (dNil))) (dOp fMulA (dVar 1) (dBM "str" fCount (dSl (dVar 3) (dNoPart) (dPart (dOp fAdd (dVar 6) (dC (.int 1))))) (dCons (dC (.str (Str.ofString "x"))) (dNil))))))) (dRet (dC (.bool false))) (dNext))
    (dIfS (dNot (dB (dChain fLe fLt (dOp fSub (dC (.int 0)) (dVar 1)) (dOp fMulA (dC (.int 2)) (dOp fIx (dVar 4) (dVar 6))) (dVar 1)))) (dRet (dC (.bool false))) (dNext))))
    (dSeq (dFor (dRng1 (dCons (dOp fAdd (dCB fLen (dCons (dVar 0) (dNil))) (dC (.int 1))) (dNil))) (gNm 6) (dSeq (dSet 7 (dOp fAdd (dOp fAdd (dSl (dVar 0) (dNoPart) (dPart (dVar 6))) (dTup (dCons (dC (.int 0)) (dNil)))) (dSl (dVar 0) (dPart (dVar 6)) (dNoPart))))
    (dSeq (dIfS (dNot (dB (dCall 2 (rd__law_is 6) (dCons (dCall 2 (rd_dotted) (dCons (dVar 7) (dCons (dVar 1) (dNil)))) (dCons (dOp fAdd (dOp fAdd (dSl (dVar 3) (dNoPart) (dPart (dVar 6))) (dC (.str (Str.ofString ".")))) (dSl (dVar 3) (dPart (dVar 6)) (dNoPart))) (dNil)))))) (dRet (dC (.bool false))) (dNext))
    (dSeq (dSet 7 (dOp fAdd (dOp fAdd (dSl (dVar 0) (dNoPart) (dPart (dVar 6))) (dTup (dCons (dVar 1) (dNil)))) (dSl (dVar 0) (dPart (dVar 6)) (dNoPart))))
    (dIfS (dNot (dB (dCall 2 (rd__law_is 6) (dCons (dCall 2 (rd_dotted) (dCons (dVar 7) (dCons (dVar 1) (dNil)))) (dCons (dOp fAdd (dOp fAdd (dSl (dVar 3) (dNoPart) (dPart (dVar 6))) (dC (.str (Str.ofString "x")))) (dSl (dVar 3) (dPart (dVar 6)) (dNoPart))) (dNil)))))) (dRet (dC (.bool false))) (dNext))))))
    (dSeq (dFor (dRng1 (dCons (dCB fLen (dCons (dVar 0) (dNil))) (dNil))) (gNm 6) (dSeq (dSet 8 (dOp fAdd (dOp fAdd (dSl (dVar 3) (dNoPart) (dPart (dVar 6))) (dIfE (dB (dOp fEq (dOp fIx (dVar 3) (dVar 6)) (dC (.str (Str.ofString "x"))))) (dC (.str (Str.ofString "."))) (dC (.str (Str.ofString "x"))))) (dSl (dVar 3) (dPart (dOp fAdd (dVar 6) (dC (.int 1)))) (dNoPart))))
    (dIfS (dNot (dB (dCall 2 (rd__law_is 6) (dCons (dCall 3 (rd_is_close) (dCons (dVar 0) (dCons (dVar 1) (dCons (dVar 8) (dNil))))) (dCons (dC (.bool false)) (dNil)))))) (dRet (dC (.bool false))) (dNext))))
    (dRet (dC (.bool true)))))))))
theorem rx__law_levels_fine : ∃ r : dFn, r = fnT 11 t__law_levels_fine := ⟨_, rfl⟩
@[irreducible] noncomputable def rd__law_levels_fine : dFn := rx__law_levels_fine.choose
theorem rd__law_levels_fine_is : rd__law_levels_fine = fnT 11 t__law_levels_fine := by unfold rd__law_levels_fine; exact rx__law_levels_fine.choose_spec
theorem cal__law_levels_fine {P : Program} {w : World} {K : PySem.W.Frag} {mg : Str → Option Value} {base : Heap} {f : Addr} {fd : FuncData} (F : FnP K "_law_levels_fine" s__law_levels_fine f fd) (m : mg "_law_levels_fine" = some (.ref f)) (C__law_dots : Cal P w K mg base "_law_dots" 1 3 ps__law_dots (rd__law_dots)) (C__law_is : Cal P w K mg base "_law_is" 7 2 ps__law_is (rd__law_is 6)) (C_dotted : Cal P w K mg base "dotted" 2 2 ps_dotted (rd_dotted)) (C_errors_of : Cal P w K mg base "errors_of" 2 2 ps_errors_of (rd_errors_of)) (C_is_close : Cal P w K mg base "is_close" 1 3 ps_is_close (rd_is_close)) (z_len : mg "len" = none) (z_range : mg "range" = none) (z_sum : mg "sum" = none) (z_tuple : mg "tuple" = none) : Cal P w K mg base "_law_levels_fine" 8 3 ps__law_levels_fine rd__law_levels_fine :=
  by
  rw [rd__law_levels_fine_is]
  exact ⟨f, fd, fn_dD F sc__law_levels_fine (by decide) (fun cdv A outer s H E hr => (dss_cons (ds_par (i := 3) (j := 4) rfl sc__law_levels_fine.nd rfl rfl (by decide) lk__law_levels_fine_3 lk__law_levels_fine_4 (da_cons (de_cal C_dotted (hr.mono (by omega)) rfl (da_cons (de_var (pv 0 rfl (.inl lk__law_levels_fine_0))) (da_cons (de_var (pv 1 rfl (.inl lk__law_levels_fine_1))) da_nil))) (da_cons (de_cal C_errors_of (hr.mono (by omega)) rfl (da_cons (de_var (pv 0 rfl (.inl lk__law_levels_fine_0))) (da_cons (de_var (pv 1 rfl (.inl lk__law_levels_fine_1))) da_nil))) da_nil)))
      (dss_cons (ds_if (dw_pt (dw_or (dt_not (dt_val (de_cal C__law_is (hr.mono (by omega)) rfl (da_cons (de_tup (da_cons (de_var (pv 3 rfl (.inl lk__law_levels_fine_3))) (da_cons (de_var (pv 4 rfl (.inl lk__law_levels_fine_4))) da_nil))) (da_cons (de_cal C__law_dots (hr.mono (by omega)) rfl (da_cons (de_var (pv 0 rfl (.inl lk__law_levels_fine_0))) (da_cons (de_var (pv 1 rfl (.inl lk__law_levels_fine_1))) (da_cons de_int da_nil)))) da_nil))))) (dw_or1 (dt_not (dt_val (de_cal C__law_is (hr.mono (by omega)) rfl (da_cons (de_cal C_is_close (hr.mono (by omega)) rfl (da_cons (de_var (pv 0 rfl (.inl lk__law_levels_fine_0))) (da_cons (de_var (pv 1 rfl (.inl lk__law_levels_fine_1))) (da_cons (de_var (pv 3 rfl (.inl lk__law_levels_fine_3))) da_nil)))) (da_cons de_bl da_nil)))))))) (dss_one (ds_ret de_bl)) dss_nil)
      (dss_cons (ds_set (i := 5) sc__law_levels_fine.nd rfl (.inl lk__law_levels_fine_5) (de_callT c_tuple z_tuple rfl (by decide +kernel) (da_cons (de_fz (df_comp (own := [("level", 9)]) rfl sc__law_levels_fine.nd (blkOk_by (own := [("level", 9)]) (N := nm__law_levels_fine) (sc := defScope s__law_levels_fine) (by decide +kernel)) (fun _ _ _ _ _ => (dg_nm (i := 9) sc__law_levels_fine.nd rfl (.inl rfl) (.inr rfl))) (di_any (de_var (pv 0 rfl (.inl lk__law_levels_fine_0)))) (fun _ _ _ _ _ => dts_nil) (fun _ _ _ _ _ => (de_op o_mulA (de_var (pv 2 rfl (.inr (.inl rfl)))) (de_var (pv 9 rfl (.inl rfl))))))) da_nil)) (.inl rfl))
      (dss_cons (ds_if (dt_cmp o_le (de_op o_mulA (de_var (pv 1 rfl (.inl lk__law_levels_fine_1))) (de_var (pv 2 rfl (.inr (.inl lk__law_levels_fine_2))))) de_int) (dss_one (ds_if (dt_not (dt_val (de_cal C__law_is (hr.mono (by omega)) rfl (da_cons (de_tup (da_cons (de_cal C_dotted (hr.mono (by omega)) rfl (da_cons (de_var (pv 5 rfl (.inl lk__law_levels_fine_5))) (da_cons (de_op o_mulA (de_var (pv 1 rfl (.inl lk__law_levels_fine_1))) (de_var (pv 2 rfl (.inr (.inl lk__law_levels_fine_2))))) da_nil))) (da_cons (de_cal C_errors_of (hr.mono (by omega)) rfl (da_cons (de_var (pv 5 rfl (.inl lk__law_levels_fine_5))) (da_cons (de_op o_mulA (de_var (pv 1 rfl (.inl lk__law_levels_fine_1))) (de_var (pv 2 rfl (.inr (.inl lk__law_levels_fine_2))))) da_nil))) da_nil))) (da_cons (de_tup (da_cons (de_var (pv 3 rfl (.inl lk__law_levels_fine_3))) (da_cons (de_callT c_tuple z_tuple rfl (by decide +kernel) (da_cons (de_fz (df_comp (own := [("error", 10)]) rfl sc__law_levels_fine.nd (blkOk_by (own := [("error", 10)]) (N := nm__law_levels_fine) (sc := defScope s__law_levels_fine) (by decide +kernel)) (fun _ _ _ _ _ => (dg_nm (i := 10) sc__law_levels_fine.nd rfl (.inl rfl) (.inr rfl))) (di_any (de_var (pv 4 rfl (.inl lk__law_levels_fine_4)))) (fun _ _ _ _ _ => dts_nil) (fun _ _ _ _ _ => (de_op o_mulA (de_var (pv 2 rfl (.inr (.inl rfl)))) (de_var (pv 10 rfl (.inl rfl))))))) da_nil)) da_nil))) da_nil))))) (dss_one (ds_ret de_bl)) dss_nil)) dss_nil)
      (dss_cons (ds_for (vs := [6]) PassesOwn.never rfl (dg_nm (i := 6) sc__law_levels_fine.nd rfl (.inl lk__law_levels_fine_6) (.inl rfl)) (di_rng1 z_range rfl (da_cons (de_callB c_len z_len rfl (by decide +kernel) (da_cons (de_var (pv 4 rfl (.inl lk__law_levels_fine_4))) da_nil)) da_nil)) (dss_cons (ds_if (dt_cmp (o_ne (u64 hr)) (de_ix (u1 hr) (de_var (pv 4 rfl (.inl lk__law_levels_fine_4))) (de_var (pv 6 rfl (.inl lk__law_levels_fine_6)))) (de_op o_sub (de_callB (c_sumA rfl) z_sum rfl (by decide +kernel) (da_cons (de_sl (de_var (pv 0 rfl (.inl lk__law_levels_fine_0))) do_none (do_some (de_op o_add (de_var (pv 6 rfl (.inl lk__law_levels_fine_6))) de_int))) da_nil)) (de_op o_mulA (de_var (pv 1 rfl (.inl lk__law_levels_fine_1))) (de_bm m_count (.inl rfl) PySem.F.plainAttrs_str PySem.F.slot_str_count PySem.F.type_str_count (de_sl (de_var (pv 3 rfl (.inl lk__law_levels_fine_3))) do_none (do_some (de_op o_add (de_var (pv 6 rfl (.inl lk__law_levels_fine_6))) de_int))) (da_cons de_str da_nil))))) (dss_one (ds_ret de_bl)) dss_nil)
      (dss_one (ds_if (dt_not (dt_chain o_le o_lt (de_op o_sub de_int (de_var (pv 1 rfl (.inl lk__law_levels_fine_1)))) (de_op o_mulA de_int (de_ix (u1 hr) (de_var (pv 4 rfl (.inl lk__law_levels_fine_4))) (de_var (pv 6 rfl (.inl lk__law_levels_fine_6))))) (de_var (pv 1 rfl (.inl lk__law_levels_fine_1))))) (dss_one (ds_ret de_bl)) dss_nil))))
      (dss_cons (ds_for (vs := [6]) PassesOwn.never rfl (dg_nm (i := 6) sc__law_levels_fine.nd rfl (.inl lk__law_levels_fine_6) (.inl rfl)) (di_rng1 z_range rfl (da_cons (de_op o_add (de_callB c_len z_len rfl (by decide +kernel) (da_cons (de_var (pv 0 rfl (.inl lk__law_levels_fine_0))) da_nil)) de_int) da_nil)) (dss_cons (ds_set (i := 7) sc__law_levels_fine.nd rfl (.inl lk__law_levels_fine_7) (de_op o_add (de_op o_add (de_sl (de_var (pv 0 rfl (.inl lk__law_levels_fine_0))) do_none (do_some (de_var (pv 6 rfl (.inl lk__law_levels_fine_6))))) (de_tup (da_cons de_int da_nil))) (de_sl (de_var (pv 0 rfl (.inl lk__law_levels_fine_0))) (do_some (de_var (pv 6 rfl (.inl lk__law_levels_fine_6)))) do_none)) (.inl rfl))
      (dss_cons (ds_if (dt_not (dt_val (de_cal C__law_is (hr.mono (by omega)) rfl (da_cons (de_cal C_dotted (hr.mono (by omega)) rfl (da_cons (de_var (pv 7 rfl (.inl lk__law_levels_fine_7))) (da_cons (de_var (pv 1 rfl (.inl lk__law_levels_fine_1))) da_nil))) (da_cons (de_op o_add (de_op o_add (de_sl (de_var (pv 3 rfl (.inl lk__law_levels_fine_3))) do_none (do_some (de_var (pv 6 rfl (.inl lk__law_levels_fine_6))))) de_str) (de_sl (de_var (pv 3 rfl (.inl lk__law_levels_fine_3))) (do_some (de_var (pv 6 rfl (.inl lk__law_levels_fine_6)))) do_none)) da_nil))))) (dss_one (ds_ret de_bl)) dss_nil)
      (dss_cons (ds_set (i := 7) sc__law_levels_fine.nd rfl (.inl lk__law_levels_fine_7) (de_op o_add (de_op o_add (de_sl (de_var (pv 0 rfl (.inl lk__law_levels_fine_0))) do_none (do_some (de_var (pv 6 rfl (.inl lk__law_levels_fine_6))))) (de_tup (da_cons (de_var (pv 1 rfl (.inl lk__law_levels_fine_1))) da_nil))) (de_sl (de_var (pv 0 rfl (.inl lk__law_levels_fine_0))) (do_some (de_var (pv 6 rfl (.inl lk__law_levels_fine_6)))) do_none)) (.inl rfl))
      (dss_one (ds_if (dt_not (dt_val (de_cal C__law_is (hr.mono (by omega)) rfl (da_cons (de_cal C_dotted (hr.mono (by omega)) rfl (da_cons (de_var (pv 7 rfl (.inl lk__law_levels_fine_7))) (da_cons (de_var (pv 1 rfl (.inl lk__law_levels_fine_1))) da_nil))) (da_cons (de_op o_add (de_op o_add (de_sl (de_var (pv 3 rfl (.inl lk__law_levels_fine_3))) do_none (do_some (de_var (pv 6 rfl (.inl lk__law_levels_fine_6))))) de_str) (de_sl (de_var (pv 3 rfl (.inl lk__law_levels_fine_3))) (do_some (de_var (pv 6 rfl (.inl lk__law_levels_fine_6)))) do_none)) da_nil))))) (dss_one (ds_ret de_bl)) dss_nil))))))
      (dss_cons (ds_for (vs := [6]) PassesOwn.never rfl (dg_nm (i := 6) sc__law_levels_fine.nd rfl (.inl lk__law_levels_fine_6) (.inl rfl)) (di_rng1 z_range rfl (da_cons (de_callB c_len z_len rfl (by decide +kernel) (da_cons (de_var (pv 0 rfl (.inl lk__law_levels_fine_0))) da_nil)) da_nil)) (dss_cons (ds_set (i := 8) sc__law_levels_fine.nd rfl (.inl lk__law_levels_fine_8) (de_op o_add (de_op o_add (de_sl (de_var (pv 3 rfl (.inl lk__law_levels_fine_3))) do_none (do_some (de_var (pv 6 rfl (.inl lk__law_levels_fine_6))))) (de_ifExp (dt_cmp (o_eq (u64 hr)) (de_ix (u1 hr) (de_var (pv 3 rfl (.inl lk__law_levels_fine_3))) (de_var (pv 6 rfl (.inl lk__law_levels_fine_6)))) de_str) de_str de_str)) (de_sl (de_var (pv 3 rfl (.inl lk__law_levels_fine_3))) (do_some (de_op o_add (de_var (pv 6 rfl (.inl lk__law_levels_fine_6))) de_int)) do_none)) (.inl rfl))
      (dss_one (ds_if (dt_not (dt_val (de_cal C__law_is (hr.mono (by omega)) rfl (da_cons (de_cal C_is_close (hr.mono (by omega)) rfl (da_cons (de_var (pv 0 rfl (.inl lk__law_levels_fine_0))) (da_cons (de_var (pv 1 rfl (.inl lk__law_levels_fine_1))) (da_cons (de_var (pv 8 rfl (.inl lk__law_levels_fine_8))) da_nil)))) (da_cons de_bl da_nil))))) (dss_one (ds_ret de_bl)) dss_nil))))
      (dss_one (ds_ret de_bl)))))))))), m, F.kp, (F.bindsN fun _ _ _ _ _ _ us hl => match us, hl with | [_, _, _], _ => rfl)⟩
/-! ### _law_behind_fine -/
abbrev s__law_behind_fine : Stmt := top 23
abbrev nm__law_behind_fine : List Str := ["levels", "more", "m", "whole", "first", "error", "due", "errors"]
abbrev ps__law_behind_fine : List Str := ["levels", "more", "m"]
theorem sc__law_behind_fine : FnScope nm__law_behind_fine ps__law_behind_fine (defScope s__law_behind_fine) := ⟨rfl, rfl, rfl, by decide +kernel, rfl, by decide +kernel, by decide +kernel⟩
theorem lk__law_behind_fine_0 : (defScope s__law_behind_fine).names.lookup ("levels" : Str) = some NameKind.local := by decide +kernel
theorem lk__law_behind_fine_1 : (defScope s__law_behind_fine).names.lookup ("more" : Str) = some NameKind.local := by decide +kernel
theorem lk__law_behind_fine_2 : (defScope s__law_behind_fine).names.lookup ("m" : Str) = some NameKind.local := by decide +kernel
theorem lk__law_behind_fine_3 : (defScope s__law_behind_fine).names.lookup ("whole" : Str) = some NameKind.local := by decide +kernel
theorem lk__law_behind_fine_4 : (defScope s__law_behind_fine).names.lookup ("first" : Str) = some NameKind.local := by decide +kernel
theorem lk__law_behind_fine_5 : (defScope s__law_behind_fine).names.lookup ("error" : Str) = some NameKind.local := by decide +kernel
theorem lk__law_behind_fine_6 : (defScope s__law_behind_fine).names.lookup ("due" : Str) = some NameKind.local := by decide +kernel
theorem lk__law_behind_fine_7 : (defScope s__law_behind_fine).names.lookup ("errors" : Str) = some NameKind.local := by decide +kernel
noncomputable def t__law_behind_fine : dTS := dSeq (dPar 3 4 (dCons (dOp fAdd (dVar 0) (dVar 1)) (dCons (dCall 2 (rd_errors_of) (dCons (dVar 0) (dCons (dVar 2) (dNil)))) (dNil))))
    (dSeq (dSet 5 (dIfE (dB (dOp fGt (dCB fLen (dCons (dVar 4) (dNil))) (dC (.int 0)))) (dOp fIx (dVar 4) (dUn fNeg (dC (.int 1)))) (dC (.int 0))))
    (dSeq (dAsg (dCall 3 (rd__law_dots) (dCons (dVar 1) (dCons (dVar 2) (dCons (dVar 5) (dNil))))) (gTp (gsCons (gNm 6) (gsCons (gNm 7) (gsNil)))))
    (dSeq (dIfS (dNot (dB (dCall 2 (rd__law_is 6) (dCons (dTup (dCons (dCall 2 (rd_dotted) (dCons (dVar 3) (dCons (dVar 2) (dNil)))) (dCons (dCall 2 (rd_errors_of) (dCons (dVar 3) (dCons (dVar 2) (dNil)))) (dNil)))) (dCons (dTup (dCons (dOp fAdd (dCall 2 (rd_dotted) (dCons (dVar 0) (dCons (dVar 2) (dNil)))) (dVar 6)) (dCons (dOp fAdd (dVar 4) (dVar 7)) (dNil)))) (dNil)))))) (dRet (dC (.bool false))) (dNext))
    (dSeq (dIfS (dAnd (dB (dOp fGe (dVar 5) (dC (.int 0)))) (dNot (dB (dCall 2 (rd__law_is 6) (dCons (dCall 2 (rd_dotted) (dCons (dOp fAdd (dTup (dCons (dVar 5) (dNil))) (dVar 1)) (dCons (dVar 2) (dNil)))) (dCons (dOp fAdd (dC (.str (Str.ofString "."))) (dVar 6)) (dNil))))))) (dRet (dC (.bool false))) (dNext))
    (dSeq (dIfS (dAnd (dB (dOp fLt (dVar 5) (dC (.int 0)))) (dNot (dB (dCall 2 (rd__law_is 6) (dCons (dCall 2 (rd_dotted) (dCons (dOp fAdd (dTup (dCons (dOp fAdd (dVar 2) (dVar 5)) (dNil))) (dVar 1)) (dCons (dVar 2) (dNil)))) (dCons (dOp fAdd (dC (.str (Str.ofString "x"))) (dVar 6)) (dNil))))))) (dRet (dC (.bool false))) (dNext))
    (dSeq (dIfS (dAnd (dB (dChain fLt fLe (dC (.int 0)) (dCB fLen (dCons (dVar 0) (dNil))) (dC (.int 10)))) (dB (dOp fEq (dVar 5) (dC (.int 0))))) (dRet (dCall 2 (rd__law_is 6) (dCons (dCall 2 (rd_dotted) (dCons (dOp fAdd (dVar 0) (dVar 0)) (dCons (dVar 2) (dNil)))) (dCons (dOp fMulA (dCall 2 (rd_dotted) (dCons (dVar 0) (dCons (dVar 2) (dNil)))) (dC (.int 2))) (dNil))))) (dNext))
    (dRet (dC (.bool true)))))))))
theorem rx__law_behind_fine : ∃ r : dFn, r = fnT 8 t__law_behind_fine := ⟨_, rfl⟩
@[irreducible] noncomputable def rd__law_behind_fine : dFn := rx__law_behind_fine.choose
theorem rd__law_behind_fine_is : rd__law_behind_fine = fnT 8 t__law_behind_fine := by unfold rd__law_behind_fine; exact rx__law_behind_fine.choose_spec
theorem cal__law_behind_fine {P : Program} {w : World} {K : PySem.W.Frag} {mg : Str → Option Value} {base : Heap} {f : Addr} {fd : FuncData} (F : FnP K "_law_behind_fine" s__law_behind_fine f fd) (m : mg "_law_behind_fine" = some (.ref f)) (C__law_dots : Cal P w K mg base "_law_dots" 1 3 ps__law_dots (rd__law_dots)) (C__law_is : Cal P w K mg base "_law_is" 7 2 ps__law_is (rd__law_is 6)) (C_dotted : Cal P w K mg base "dotted" 2 2 ps_dotted (rd_dotted)) (C_errors_of : Cal P w K mg base "errors_of" 2 2 ps_errors_of (rd_errors_of)) (z_len : mg "len" = none) : Cal P w K mg base "_law_behind_fine" 8 3 ps__law_behind_fine rd__law_behind_fine :=
  by
  rw [rd__law_behind_fine_is]
  exact ⟨f, fd, fn_dD F sc__law_behind_fine (by decide) (fun cdv A outer s H E hr => (dss_cons (ds_par (i := 3) (j := 4) rfl sc__law_behind_fine.nd rfl rfl (by decide) lk__law_behind_fine_3 lk__law_behind_fine_4 (da_cons (de_op o_add (de_var (pv 0 rfl (.inl lk__law_behind_fine_0))) (de_var (pv 1 rfl (.inl lk__law_behind_fine_1)))) (da_cons (de_cal C_errors_of (hr.mono (by omega)) rfl (da_cons (de_var (pv 0 rfl (.inl lk__law_behind_fine_0))) (da_cons (de_var (pv 2 rfl (.inl lk__law_behind_fine_2))) da_nil))) da_nil)))
      (dss_cons (ds_set (i := 5) sc__law_behind_fine.nd rfl (.inl lk__law_behind_fine_5) (de_ifExp (dt_cmp o_gt (de_callB c_len z_len rfl (by decide +kernel) (da_cons (de_var (pv 4 rfl (.inl lk__law_behind_fine_4))) da_nil)) de_int) (de_ix (u1 hr) (de_var (pv 4 rfl (.inl lk__law_behind_fine_4))) (de_un u_neg de_int)) de_int) (.inl rfl))
      (dss_cons (ds_asg (vs := [6, 7]) (dg_tp rfl (dgs_cons (dg_nm (i := 6) sc__law_behind_fine.nd rfl (.inl lk__law_behind_fine_6) (.inl rfl)) (dgs_cons (dg_nm (i := 7) sc__law_behind_fine.nd rfl (.inl lk__law_behind_fine_7) (.inl rfl)) dgs_nil (mono_nm _)) (mono_nm _))) (de_cal C__law_dots (hr.mono (by omega)) rfl (da_cons (de_var (pv 1 rfl (.inl lk__law_behind_fine_1))) (da_cons (de_var (pv 2 rfl (.inl lk__law_behind_fine_2))) (da_cons (de_var (pv 5 rfl (.inl lk__law_behind_fine_5))) da_nil)))))
      (dss_cons (ds_if (dt_not (dt_val (de_cal C__law_is (hr.mono (by omega)) rfl (da_cons (de_tup (da_cons (de_cal C_dotted (hr.mono (by omega)) rfl (da_cons (de_var (pv 3 rfl (.inl lk__law_behind_fine_3))) (da_cons (de_var (pv 2 rfl (.inl lk__law_behind_fine_2))) da_nil))) (da_cons (de_cal C_errors_of (hr.mono (by omega)) rfl (da_cons (de_var (pv 3 rfl (.inl lk__law_behind_fine_3))) (da_cons (de_var (pv 2 rfl (.inl lk__law_behind_fine_2))) da_nil))) da_nil))) (da_cons (de_tup (da_cons (de_op o_add (de_cal C_dotted (hr.mono (by omega)) rfl (da_cons (de_var (pv 0 rfl (.inl lk__law_behind_fine_0))) (da_cons (de_var (pv 2 rfl (.inl lk__law_behind_fine_2))) da_nil))) (de_var (pv 6 rfl (.inl lk__law_behind_fine_6)))) (da_cons (de_op o_add (de_var (pv 4 rfl (.inl lk__law_behind_fine_4))) (de_var (pv 7 rfl (.inl lk__law_behind_fine_7)))) da_nil))) da_nil))))) (dss_one (ds_ret de_bl)) dss_nil)
      (dss_cons (ds_if (dw_pt (dw_and (dt_cmp o_ge (de_var (pv 5 rfl (.inl lk__law_behind_fine_5))) de_int) (dw_and1 (dt_not (dt_val (de_cal C__law_is (hr.mono (by omega)) rfl (da_cons (de_cal C_dotted (hr.mono (by omega)) rfl (da_cons (de_op o_add (de_tup (da_cons (de_var (pv 5 rfl (.inl lk__law_behind_fine_5))) da_nil)) (de_var (pv 1 rfl (.inl lk__law_behind_fine_1)))) (da_cons (de_var (pv 2 rfl (.inl lk__law_behind_fine_2))) da_nil))) (da_cons (de_op o_add de_str (de_var (pv 6 rfl (.inl lk__law_behind_fine_6)))) da_nil)))))))) (dss_one (ds_ret de_bl)) dss_nil)
      (dss_cons (ds_if (dw_pt (dw_and (dt_cmp o_lt (de_var (pv 5 rfl (.inl lk__law_behind_fine_5))) de_int) (dw_and1 (dt_not (dt_val (de_cal C__law_is (hr.mono (by omega)) rfl (da_cons (de_cal C_dotted (hr.mono (by omega)) rfl (da_cons (de_op o_add (de_tup (da_cons (de_op o_add (de_var (pv 2 rfl (.inl lk__law_behind_fine_2))) (de_var (pv 5 rfl (.inl lk__law_behind_fine_5)))) da_nil)) (de_var (pv 1 rfl (.inl lk__law_behind_fine_1)))) (da_cons (de_var (pv 2 rfl (.inl lk__law_behind_fine_2))) da_nil))) (da_cons (de_op o_add de_str (de_var (pv 6 rfl (.inl lk__law_behind_fine_6)))) da_nil)))))))) (dss_one (ds_ret de_bl)) dss_nil)
      (dss_cons (ds_if (dw_pt (dw_and (dt_chain o_lt o_le de_int (de_callB c_len z_len rfl (by decide +kernel) (da_cons (de_var (pv 0 rfl (.inl lk__law_behind_fine_0))) da_nil)) de_int) (dw_and1 (dt_cmp (o_eq (u64 hr)) (de_var (pv 5 rfl (.inl lk__law_behind_fine_5))) de_int)))) (dss_one (ds_ret (de_cal C__law_is (hr.mono (by omega)) rfl (da_cons (de_cal C_dotted (hr.mono (by omega)) rfl (da_cons (de_op o_add (de_var (pv 0 rfl (.inl lk__law_behind_fine_0))) (de_var (pv 0 rfl (.inl lk__law_behind_fine_0)))) (da_cons (de_var (pv 2 rfl (.inl lk__law_behind_fine_2))) da_nil))) (da_cons (de_op o_mulA (de_cal C_dotted (hr.mono (by omega)) rfl (da_cons (de_var (pv 0 rfl (.inl lk__law_behind_fine_0))) (da_cons (de_var (pv 2 rfl (.inl lk__law_behind_fine_2))) da_nil))) de_int) da_nil))))) dss_nil)
      (dss_one (ds_ret de_bl)))))))))), m, F.kp, (F.bindsN fun _ _ _ _ _ _ us hl => match us, hl with | [_, _, _], _ => rfl)⟩
/-! ### _law_other_fine -/
abbrev s__law_other_fine : Stmt := top 24
abbrev nm__law_other_fine : List Str := ["levels", "m", "text", "errors", "sums", "tie", "level", "other", "due", "sign", "error"]
abbrev ps__law_other_fine : List Str := ["levels", "m"]
theorem sc__law_other_fine : FnScope nm__law_other_fine ps__law_other_fine (defScope s__law_other_fine) := ⟨rfl, rfl, rfl, by decide +kernel, rfl, by decide +kernel, by decide +kernel⟩
theorem lk__law_other_fine_0 : (defScope s__law_other_fine).names.lookup ("levels" : Str) = some NameKind.local := by decide +kernel
theorem lk__law_other_fine_1 : (defScope s__law_other_fine).names.lookup ("m" : Str) = some NameKind.cell := by decide +kernel
theorem lk__law_other_fine_2 : (defScope s__law_other_fine).names.lookup ("text" : Str) = some NameKind.local := by decide +kernel
theorem lk__law_other_fine_3 : (defScope s__law_other_fine).names.lookup ("errors" : Str) = some NameKind.local := by decide +kernel
theorem lk__law_other_fine_4 : (defScope s__law_other_fine).names.lookup ("sums" : Str) = some NameKind.local := by decide +kernel
theorem lk__law_other_fine_5 : (defScope s__law_other_fine).names.lookup ("tie" : Str) = some NameKind.local := by decide +kernel
theorem lk__law_other_fine_6 : (defScope s__law_other_fine).names.lookup ("level" : Str) = some NameKind.local := by decide +kernel
theorem lk__law_other_fine_7 : (defScope s__law_other_fine).names.lookup ("other" : Str) = some NameKind.local := by decide +kernel
theorem lk__law_other_fine_8 : (defScope s__law_other_fine).names.lookup ("due" : Str) = some NameKind.local := by decide +kernel
noncomputable def t__law_other_fine : dTS := dSeq (dPar 2 3 (dCons (dCall 2 (rd_dotted) (dCons (dVar 0) (dCons (dVar 1) (dNil)))) (dCons (dCall 2 (rd_errors_of) (dCons (dVar 0) (dCons (dVar 1) (dNil)))) (dNil))))
    (dSeq (dAsg (dTup (dCons (dC (.int 0)) (dCons (dC (.bool false)) (dNil)))) (gTp (gsCons (gNm 4) (gsCons (gNm 5) (gsNil)))))
    (dSeq (dFor (dItV (dVar 0)) (gNm 6) (dSeq (dSet 4 (dOp fAdd (dVar 4) (dVar 6)))
    (dSet 5 (dOrV (dVar 5) (dOp fEq (dOp fMod (dOp fMulA (dC (.int 2)) (dVar 4)) (dOp fMulA (dC (.int 2)) (dVar 1))) (dVar 1))))))
    (dSeq (dSet 7 (dCB fTuple (dCons (dFz (dComp (dItV (dVar 0)) (gNm 6) (dYes) (dOp fSub (dVar 1) (dVar 6)) [6])) (dNil))))
    (dSeq (dIfS (dB (dVar 5)) (dRet (dC (.bool true))) (dNext))
    (dSeq (dSet 8 (dBM "str" fJoin (dC (.str (Str.ofString ""))) (dCons (dFz (dComp (dItV (dVar 2)) (gNm 9) (dYes) (dIfE (dB (dOp fEq (dVar 9) (dC (.str (Str.ofString "x"))))) (dC (.str (Str.ofString "."))) (dC (.str (Str.ofString "x")))) [9])) (dNil))))
    (dRet (dCall 2 (rd__law_is 6) (dCons (dTup (dCons (dCall 2 (rd_dotted) (dCons (dVar 7) (dCons (dVar 1) (dNil)))) (dCons (dCall 2 (rd_errors_of) (dCons (dVar 7) (dCons (dVar 1) (dNil)))) (dNil)))) (dCons (dTup (dCons (dVar 8) (dCons (dCB fTuple (dCons (dFz (dComp (dItV (dVar 3)) (gNm 10) (dYes) (dOp fSub (dC (.int 0)) (dVar 10)) [10])) (dNil))) (dNil)))) (dNil))))))))))
theorem rx__law_other_fine : ∃ r : dFn, r = fnT 11 t__law_other_fine := ⟨_, rfl⟩
@[irreducible] noncomputable def rd__law_other_fine : dFn := rx__law_other_fine.choose
theorem rd__law_other_fine_is : rd__law_other_fine = fnT 11 t__law_other_fine := by unfold rd__law_other_fine; exact rx__law_other_fine.choose_spec
theorem cal__law_other_fine {P : Program} {w : World} {K : PySem.W.Frag} {mg : Str → Option Value} {base : Heap} {f : Addr} {fd : FuncData} (F : FnP K "_law_other_fine" s__law_other_fine f fd) (m : mg "_law_other_fine" = some (.ref f)) (C__law_is : Cal P w K mg base "_law_is" 7 2 ps__law_is (rd__law_is 6)) (C_dotted : Cal P w K mg base "dotted" 2 2 ps_dotted (rd_dotted)) (C_errors_of : Cal P w K mg base "errors_of" 2 2 ps_errors_of (rd_errors_of)) (z_tuple : mg "tuple" = none) : Cal P w K mg base "_law_other_fine" 8 2 ps__law_other_fine rd__law_other_fine :=
  by
  rw [rd__law_other_fine_is]
  exact ⟨f, fd, fn_dD F sc__law_other_fine (by decide) (fun cdv A outer s H E hr => (dss_cons (ds_par (i := 2) (j := 3) rfl sc__law_other_fine.nd rfl rfl (by decide) lk__law_other_fine_2 lk__law_other_fine_3 (da_cons (de_cal C_dotted (hr.mono (by omega)) rfl (da_cons (de_var (pv 0 rfl (.inl lk__law_other_fine_0))) (da_cons (de_var (pv 1 rfl (.inr (.inl lk__law_other_fine_1)))) da_nil))) (da_cons (de_cal C_errors_of (hr.mono (by omega)) rfl (da_cons (de_var (pv 0 rfl (.inl lk__law_other_fine_0))) (da_cons (de_var (pv 1 rfl (.inr (.inl lk__law_other_fine_1)))) da_nil))) da_nil)))
      (dss_cons (ds_asg (vs := [4, 5]) (dg_tp rfl (dgs_cons (dg_nm (i := 4) sc__law_other_fine.nd rfl (.inl lk__law_other_fine_4) (.inl rfl)) (dgs_cons (dg_nm (i := 5) sc__law_other_fine.nd rfl (.inl lk__law_other_fine_5) (.inl rfl)) dgs_nil (mono_nm _)) (mono_nm _))) (de_tup (da_cons de_int (da_cons de_bl da_nil))))
      (dss_cons (ds_for (vs := [6]) PassesOwn.never rfl (dg_nm (i := 6) sc__law_other_fine.nd rfl (.inl lk__law_other_fine_6) (.inl rfl)) (di_any (de_var (pv 0 rfl (.inl lk__law_other_fine_0)))) (dss_cons (ds_set (i := 4) sc__law_other_fine.nd rfl (.inl lk__law_other_fine_4) (de_op o_add (de_var (pv 4 rfl (.inl lk__law_other_fine_4))) (de_var (pv 6 rfl (.inl lk__law_other_fine_6)))) (.inl rfl))
      (dss_one (ds_set (i := 5) sc__law_other_fine.nd rfl (.inl lk__law_other_fine_5) (de_or (de_var (pv 5 rfl (.inl lk__law_other_fine_5))) (de_one (de_cmp (o_eq (u64 hr)) (de_op o_mod (de_op o_mulA de_int (de_var (pv 4 rfl (.inl lk__law_other_fine_4)))) (de_op o_mulA de_int (de_var (pv 1 rfl (.inr (.inl lk__law_other_fine_1)))))) (de_var (pv 1 rfl (.inr (.inl lk__law_other_fine_1))))))) (.inl rfl)))))
      (dss_cons (ds_set (i := 7) sc__law_other_fine.nd rfl (.inl lk__law_other_fine_7) (de_callT c_tuple z_tuple rfl (by decide +kernel) (da_cons (de_fz (df_comp (own := [("level", 6)]) rfl sc__law_other_fine.nd (blkOk_by (own := [("level", 6)]) (N := nm__law_other_fine) (sc := defScope s__law_other_fine) (by decide +kernel)) (fun _ _ _ _ _ => (dg_nm (i := 6) sc__law_other_fine.nd rfl (.inl rfl) (.inr rfl))) (di_any (de_var (pv 0 rfl (.inl lk__law_other_fine_0)))) (fun _ _ _ _ _ => dts_nil) (fun _ _ _ _ _ => (de_op o_sub (de_var (pv 1 rfl (.inr (.inl rfl)))) (de_var (pv 6 rfl (.inl rfl))))))) da_nil)) (.inl rfl))
      (dss_cons (ds_if (dt_val (de_var (pv 5 rfl (.inl lk__law_other_fine_5)))) (dss_one (ds_ret de_bl)) dss_nil)
      (dss_cons (ds_set (i := 8) sc__law_other_fine.nd rfl (.inl lk__law_other_fine_8) (de_bm m_join (.inl rfl) PySem.F.plainAttrs_str PySem.F.slot_str_join PySem.F.type_str_join de_str (da_cons (de_fz (df_comp (own := [("sign", 9)]) rfl sc__law_other_fine.nd (blkOk_by (own := [("sign", 9)]) (N := nm__law_other_fine) (sc := defScope s__law_other_fine) (by decide +kernel)) (fun _ _ _ _ _ => (dg_nm (i := 9) sc__law_other_fine.nd rfl (.inl rfl) (.inr rfl))) (di_any (de_var (pv 2 rfl (.inl lk__law_other_fine_2)))) (fun _ _ _ _ _ => dts_nil) (fun _ _ _ _ _ => (de_ifExp (dt_cmp (o_eq (u64 hr)) (de_var (pv 9 rfl (.inl rfl))) de_str) de_str de_str)))) da_nil)) (.inl rfl))
      (dss_one (ds_ret (de_cal C__law_is (hr.mono (by omega)) rfl (da_cons (de_tup (da_cons (de_cal C_dotted (hr.mono (by omega)) rfl (da_cons (de_var (pv 7 rfl (.inl lk__law_other_fine_7))) (da_cons (de_var (pv 1 rfl (.inr (.inl lk__law_other_fine_1)))) da_nil))) (da_cons (de_cal C_errors_of (hr.mono (by omega)) rfl (da_cons (de_var (pv 7 rfl (.inl lk__law_other_fine_7))) (da_cons (de_var (pv 1 rfl (.inr (.inl lk__law_other_fine_1)))) da_nil))) da_nil))) (da_cons (de_tup (da_cons (de_var (pv 8 rfl (.inl lk__law_other_fine_8))) (da_cons (de_callT c_tuple z_tuple rfl (by decide +kernel) (da_cons (de_fz (df_comp (own := [("error", 10)]) rfl sc__law_other_fine.nd (blkOk_by (own := [("error", 10)]) (N := nm__law_other_fine) (sc := defScope s__law_other_fine) (by decide +kernel)) (fun _ _ _ _ _ => (dg_nm (i := 10) sc__law_other_fine.nd rfl (.inl rfl) (.inr rfl))) (di_any (de_var (pv 3 rfl (.inl lk__law_other_fine_3)))) (fun _ _ _ _ _ => dts_nil) (fun _ _ _ _ _ => (de_op o_sub de_int (de_var (pv 10 rfl (.inl rfl))))))) da_nil)) da_nil))) da_nil)))))))))))), m, F.kp, (F.bindsN fun _ _ _ _ _ _ us hl => match us, hl with | [_, _], _ => rfl)⟩
/-! ### _law_cadence_fine -/
abbrev s__law_cadence_fine : Stmt := top 25
abbrev nm__law_cadence_fine : List Str := ["level", "m", "text", "counts", "turn", "due", "at", "sign"]
abbrev ps__law_cadence_fine : List Str := ["level", "m"]
theorem sc__law_cadence_fine : FnScope nm__law_cadence_fine ps__law_cadence_fine (defScope s__law_cadence_fine) := ⟨rfl, rfl, rfl, by decide +kernel, rfl, by decide +kernel, by decide +kernel⟩
theorem lk__law_cadence_fine_0 : (defScope s__law_cadence_fine).names.lookup ("level" : Str) = some NameKind.local := by decide +kernel
theorem lk__law_cadence_fine_1 : (defScope s__law_cadence_fine).names.lookup ("m" : Str) = some NameKind.local := by decide +kernel
theorem lk__law_cadence_fine_2 : (defScope s__law_cadence_fine).names.lookup ("text" : Str) = some NameKind.local := by decide +kernel
theorem lk__law_cadence_fine_3 : (defScope s__law_cadence_fine).names.lookup ("counts" : Str) = some NameKind.local := by decide +kernel
theorem lk__law_cadence_fine_4 : (defScope s__law_cadence_fine).names.lookup ("turn" : Str) = some NameKind.local := by decide +kernel
theorem lk__law_cadence_fine_5 : (defScope s__law_cadence_fine).names.lookup ("due" : Str) = some NameKind.local := by decide +kernel
theorem lk__law_cadence_fine_6 : (defScope s__law_cadence_fine).names.lookup ("at" : Str) = some NameKind.local := by decide +kernel
noncomputable def t__law_cadence_fine : dTS := dSeq (dSet 2 (dCall 2 (rd_dotted) (dCons (dOp fMulA (dTup (dCons (dVar 0) (dNil))) (dVar 1)) (dCons (dVar 1) (dNil)))))
    (dSeq (dSet 3 (dCB fTuple (dCons (dFz (dComp (dItV (dVar 2)) (gNm 7) (dYes) (dIfE (dB (dOp fEq (dVar 7) (dC (.str (Str.ofString "x"))))) (dC (.int 1)) (dC (.int 0))) [7])) (dNil))))
    (dSeq (dIfS (dNot (dB (dCall 2 (rd__law_is 6) (dCons (dTup (dCons (dBM "str" fCount (dVar 2) (dCons (dC (.str (Str.ofString "x"))) (dNil))) (dCons (dCall 1 (rd_is_even_cadence) (dCons (dVar 3) (dNil))) (dCons (dCall 1 (rd_told_limp) (dCons (dVar 3) (dNil))) (dNil))))) (dCons (dTup (dCons (dVar 0) (dCons (dC (.bool true)) (dCons (dC .none) (dNil))))) (dNil)))))) (dRet (dC (.bool false))) (dNext))
    (dSeq (dSet 4 (dCall 1 (rd_cadence_turn) (dCons (dVar 3) (dNil))))
    (dSeq (dIfS (dOr (dB (dOp fIs (dVar 4) (dC .none))) (dNot (dB (dCall 2 (rd__law_is 6) (dCons (dCall 2 (rd_cadence_turned) (dCons (dCall 2 (rd_cadence_of) (dCons (dVar 1) (dCons (dVar 0) (dNil)))) (dCons (dVar 4) (dNil)))) (dCons (dVar 3) (dNil))))))) (dRet (dC (.bool false))) (dNext))
    (dSeq (dSetO 5 (fLst (dNil)))
    (dSeq (dFor (dRng1 (dCons (dVar 1) (dNil))) (gNm 6) (dApp 5 (dOp fSub (dOp fDiv (dOp fAdd (dOp fMulA (dOp fMulA (dC (.int 2)) (dVar 0)) (dOp fAdd (dVar 6) (dC (.int 1)))) (dVar 1)) (dOp fMulA (dC (.int 2)) (dVar 1))) (dOp fDiv (dOp fAdd (dOp fMulA (dOp fMulA (dC (.int 2)) (dVar 0)) (dVar 6)) (dVar 1)) (dOp fMulA (dC (.int 2)) (dVar 1))))))
    (dRet (dCall 2 (rd__law_is 6) (dCons (dVar 3) (dCons (dCB fTuple (dCons (dVar 5) (dNil))) (dNil)))))))))))
theorem rx__law_cadence_fine : ∃ r : dFn, r = fnT 8 t__law_cadence_fine := ⟨_, rfl⟩
@[irreducible] noncomputable def rd__law_cadence_fine : dFn := rx__law_cadence_fine.choose
theorem rd__law_cadence_fine_is : rd__law_cadence_fine = fnT 8 t__law_cadence_fine := by unfold rd__law_cadence_fine; exact rx__law_cadence_fine.choose_spec
theorem cal__law_cadence_fine {P : Program} {w : World} {K : PySem.W.Frag} {mg : Str → Option Value} {base : Heap} {f : Addr} {fd : FuncData} (F : FnP K "_law_cadence_fine" s__law_cadence_fine f fd) (m : mg "_law_cadence_fine" = some (.ref f)) (C__law_is : Cal P w K mg base "_law_is" 7 2 ps__law_is (rd__law_is 6)) (C_cadence_of : Cal P w K mg base "cadence_of" 2 2 ps_cadence_of (rd_cadence_of)) (C_cadence_turn : Cal P w K mg base "cadence_turn" 3 1 ps_cadence_turn (rd_cadence_turn)) (C_cadence_turned : Cal P w K mg base "cadence_turned" 1 2 ps_cadence_turned (rd_cadence_turned)) (C_dotted : Cal P w K mg base "dotted" 2 2 ps_dotted (rd_dotted)) (C_is_even_cadence : Cal P w K mg base "is_even_cadence" 3 1 ps_is_even_cadence (rd_is_even_cadence)) (C_told_limp : Cal P w K mg base "told_limp" 2 1 ps_told_limp (rd_told_limp)) (z_range : mg "range" = none) (z_tuple : mg "tuple" = none) : Cal P w K mg base "_law_cadence_fine" 8 2 ps__law_cadence_fine rd__law_cadence_fine :=
  by
  rw [rd__law_cadence_fine_is]
  exact ⟨f, fd, fn_dD F sc__law_cadence_fine (by decide) (fun cdv A outer s H E hr => (dss_cons (ds_set (i := 2) sc__law_cadence_fine.nd rfl (.inl lk__law_cadence_fine_2) (de_cal C_dotted (hr.mono (by omega)) rfl (da_cons (de_op o_mulA (de_tup (da_cons (de_var (pv 0 rfl (.inl lk__law_cadence_fine_0))) da_nil)) (de_var (pv 1 rfl (.inl lk__law_cadence_fine_1)))) (da_cons (de_var (pv 1 rfl (.inl lk__law_cadence_fine_1))) da_nil))) (.inl rfl))
      (dss_cons (ds_set (i := 3) sc__law_cadence_fine.nd rfl (.inl lk__law_cadence_fine_3) (de_callT c_tuple z_tuple rfl (by decide +kernel) (da_cons (de_fz (df_comp (own := [("sign", 7)]) rfl sc__law_cadence_fine.nd (blkOk_by (own := [("sign", 7)]) (N := nm__law_cadence_fine) (sc := defScope s__law_cadence_fine) (by decide +kernel)) (fun _ _ _ _ _ => (dg_nm (i := 7) sc__law_cadence_fine.nd rfl (.inl rfl) (.inr rfl))) (di_any (de_var (pv 2 rfl (.inl lk__law_cadence_fine_2)))) (fun _ _ _ _ _ => dts_nil) (fun _ _ _ _ _ => (de_ifExp (dt_cmp (o_eq (u64 hr)) (de_var (pv 7 rfl (.inl rfl))) de_str) de_int de_int)))) da_nil)) (.inl rfl))
      (dss_cons (ds_if (dt_not (dt_val (de_cal C__law_is (hr.mono (by omega)) rfl (da_cons (de_tup (da_cons (de_bm m_count (.inl rfl) PySem.F.plainAttrs_str PySem.F.slot_str_count PySem.F.type_str_count (de_var (pv 2 rfl (.inl lk__law_cadence_fine_2))) (da_cons de_str da_nil)) (da_cons (de_cal C_is_even_cadence (hr.mono (by omega)) rfl (da_cons (de_var (pv 3 rfl (.inl lk__law_cadence_fine_3))) da_nil)) (da_cons (de_cal C_told_limp (hr.mono (by omega)) rfl (da_cons (de_var (pv 3 rfl (.inl lk__law_cadence_fine_3))) da_nil)) da_nil)))) (da_cons (de_tup (da_cons (de_var (pv 0 rfl (.inl lk__law_cadence_fine_0))) (da_cons de_bl (da_cons de_non da_nil)))) da_nil))))) (dss_one (ds_ret de_bl)) dss_nil)
      (dss_cons (ds_set (i := 4) sc__law_cadence_fine.nd rfl (.inl lk__law_cadence_fine_4) (de_cal C_cadence_turn (hr.mono (by omega)) rfl (da_cons (de_var (pv 3 rfl (.inl lk__law_cadence_fine_3))) da_nil)) (.inl rfl))
      (dss_cons (ds_if (dw_pt (dw_or (dt_cmp o_is (de_var (pv 4 rfl (.inl lk__law_cadence_fine_4))) de_non) (dw_or1 (dt_not (dt_val (de_cal C__law_is (hr.mono (by omega)) rfl (da_cons (de_cal C_cadence_turned (hr.mono (by omega)) rfl (da_cons (de_cal C_cadence_of (hr.mono (by omega)) rfl (da_cons (de_var (pv 1 rfl (.inl lk__law_cadence_fine_1))) (da_cons (de_var (pv 0 rfl (.inl lk__law_cadence_fine_0))) da_nil))) (da_cons (de_var (pv 4 rfl (.inl lk__law_cadence_fine_4))) da_nil))) (da_cons (de_var (pv 3 rfl (.inl lk__law_cadence_fine_3))) da_nil)))))))) (dss_one (ds_ret de_bl)) dss_nil)
      (dss_cons (ds_setO (i := 5) sc__law_cadence_fine.nd rfl (.inl lk__law_cadence_fine_5) (df_lst da_nil) (.inl rfl))
      (dss_cons (ds_for (vs := [6]) PassesOwn.never rfl (dg_nm (i := 6) sc__law_cadence_fine.nd rfl (.inl lk__law_cadence_fine_6) (.inl rfl)) (di_rng1 z_range rfl (da_cons (de_var (pv 1 rfl (.inl lk__law_cadence_fine_1))) da_nil)) (dss_one (ds_app (i := 5) (pv 5 rfl (.inl lk__law_cadence_fine_5)) (de_op o_sub (de_op o_div (de_op o_add (de_op o_mulA (de_op o_mulA de_int (de_var (pv 0 rfl (.inl lk__law_cadence_fine_0)))) (de_op o_add (de_var (pv 6 rfl (.inl lk__law_cadence_fine_6))) de_int)) (de_var (pv 1 rfl (.inl lk__law_cadence_fine_1)))) (de_op o_mulA de_int (de_var (pv 1 rfl (.inl lk__law_cadence_fine_1))))) (de_op o_div (de_op o_add (de_op o_mulA (de_op o_mulA de_int (de_var (pv 0 rfl (.inl lk__law_cadence_fine_0)))) (de_var (pv 6 rfl (.inl lk__law_cadence_fine_6)))) (de_var (pv 1 rfl (.inl lk__law_cadence_fine_1)))) (de_op o_mulA de_int (de_var (pv 1 rfl (.inl lk__law_cadence_fine_1)))))))))
      (dss_one (ds_ret (de_cal C__law_is (hr.mono (by omega)) rfl (da_cons (de_var (pv 3 rfl (.inl lk__law_cadence_fine_3))) (da_cons (de_callT c_tuple z_tuple rfl (by decide +kernel) (da_cons (de_var (pv 5 rfl (.inl lk__law_cadence_fine_5))) da_nil)) da_nil))))))))))))), m, F.kp, (F.bindsN fun _ _ _ _ _ _ us hl => match us, hl with | [_, _], _ => rfl)⟩
/-! ### _law_counts_fine -/
abbrev s__law_counts_fine : Stmt := top 26
abbrev nm__law_counts_fine : List Str := ["a", "b", "v", "counts", "shown", "doubles", "turned", "told", "rest", "slot", "at", "count", "picture"]
abbrev ps__law_counts_fine : List Str := ["a", "b", "v"]
theorem sc__law_counts_fine : FnScope nm__law_counts_fine ps__law_counts_fine (defScope s__law_counts_fine) := ⟨rfl, rfl, rfl, by decide +kernel, rfl, by decide +kernel, by decide +kernel⟩
theorem lk__law_counts_fine_0 : (defScope s__law_counts_fine).names.lookup ("a" : Str) = some NameKind.cell := by decide +kernel
theorem lk__law_counts_fine_1 : (defScope s__law_counts_fine).names.lookup ("b" : Str) = some NameKind.cell := by decide +kernel
theorem lk__law_counts_fine_2 : (defScope s__law_counts_fine).names.lookup ("v" : Str) = some NameKind.local := by decide +kernel
theorem lk__law_counts_fine_3 : (defScope s__law_counts_fine).names.lookup ("counts" : Str) = some NameKind.local := by decide +kernel
theorem lk__law_counts_fine_4 : (defScope s__law_counts_fine).names.lookup ("shown" : Str) = some NameKind.cell := by decide +kernel
theorem lk__law_counts_fine_5 : (defScope s__law_counts_fine).names.lookup ("doubles" : Str) = some NameKind.local := by decide +kernel
theorem lk__law_counts_fine_6 : (defScope s__law_counts_fine).names.lookup ("turned" : Str) = some NameKind.local := by decide +kernel
theorem lk__law_counts_fine_7 : (defScope s__law_counts_fine).names.lookup ("told" : Str) = some NameKind.local := by decide +kernel
theorem lk__law_counts_fine_8 : (defScope s__law_counts_fine).names.lookup ("rest" : Str) = some NameKind.local := by decide +kernel
noncomputable def t__law_counts_fine : dTS := dSeq (dSet 3 (dCall 2 (rd_cadence_of) (dCons (dVar 0) (dCons (dVar 1) (dNil)))))
    (dSeq (dSet 4 (dFz (dComp (dRng1 (dCons (dVar 1) (dNil))) (gNm 9) (dYes) (dCall 3 (rd_shown_at) (dCons (dVar 0) (dCons (dVar 1) (dCons (dVar 9) (dNil))))) [9])))
    (dSeq (dIfS (dOr (dNot (dB (dCall 2 (rd__law_is 6) (dCons (dVar 3) (dCons (dCB fTuple (dCons (dFz (dComp (dRng1 (dCons (dVar 0) (dNil))) (gNm 12) (dYes) (dBM "list" fLCount (dVar 4) (dCons (dVar 12) (dNil))) [12])) (dNil))) (dNil)))))) (dB (dOp fNe (dCB fSorted (dCons (dVar 4) (dNil))) (dVar 4)))) (dRet (dC (.bool false))) (dNext))
    (dSeq (dSet 5 (dCB fLen (dCons (dFz (dComp (dRng2 (dCons (dC (.int 1)) (dCons (dVar 1) (dNil)))) (gNm 10) (dB (dOp fEq (dOp fIx (dVar 4) (dVar 10)) (dOp fIx (dVar 4) (dOp fSub (dVar 10) (dC (.int 1)))))) (dVar 10) [10])) (dNil))))
    (dSeq (dIfS (dOr (dNot (dB (dCall 2 (rd__law_is 6) (dCons (dCall 2 (rd_fewest_doubles) (dCons (dVar 0) (dCons (dVar 1) (dNil)))) (dCons (dVar 5) (dNil)))))) (dB (dOp fNe (dVar 5) (dCB fMaxA (dCons (dC (.int 0)) (dCons (dOp fSub (dVar 1) (dVar 0)) (dNil))))))) (dRet (dC (.bool false))) (dNext))
    (dSeq (dIfS (dNot (dB (dCall 2 (rd__law_is 6) (dCons (dCall 2 (rd_cadence_of) (dCons (dVar 0) (dCons (dOp fAdd (dVar 1) (dVar 0)) (dNil)))) (dCons (dCB fTuple (dCons (dFz (dComp (dItV (dVar 3)) (gNm 11) (dYes) (dOp fAdd (dVar 11) (dC (.int 1))) [11])) (dNil))) (dNil)))))) (dRet (dC (.bool false))) (dNext))
    (dSeq (dIfS (dNot (dB (dCall 2 (rd__law_is 6) (dCons (dCall 2 (rd_cadence_of) (dCons (dOp fMulA (dC (.int 2)) (dVar 0)) (dCons (dOp fMulA (dC (.int 2)) (dVar 1)) (dNil)))) (dCons (dOp fAdd (dVar 3) (dVar 3)) (dNil)))))) (dRet (dC (.bool false))) (dNext))
    (dSeq (dSet 6 (dCall 2 (rd_cadence_turned) (dCons (dVar 3) (dCons (dVar 2) (dNil)))))
    (dSeq (dSet 7 (dTup (dCons (dCall 1 (rd_is_even_cadence) (dCons (dVar 6) (dNil))) (dCons (dCall 2 (rd_cadence_turned) (dCons (dVar 6) (dCons (dOp fSub (dC (.int 0)) (dVar 2)) (dNil)))) (dCons (dCall 2 (rd_cadence_turned) (dCons (dVar 3) (dCons (dOp fAdd (dVar 2) (dOp fMulA (dC (.int 3)) (dVar 0))) (dNil)))) (dNil))))))
    (dSeq (dIfS (dNot (dB (dCall 2 (rd__law_is 6) (dCons (dVar 7) (dCons (dTup (dCons (dC (.bool true)) (dCons (dVar 3) (dCons (dVar 6) (dNil))))) (dNil)))))) (dRet (dC (.bool false))) (dNext))
    (dSeq (dIfS (dB (dOp fLe (dVar 1) (dVar 0))) (dSeq (dSet 8 (dCB fTuple (dCons (dFz (dComp (dItV (dVar 6)) (gNm 11) (dYes) (dOp fSub (dC (.int 1)) (dVar 11)) [11])) (dNil))))
    (dIfS (dNot (dB (dCall 2 (rd__law_is 6) (dCons (dTup (dCons (dCall 1 (rd_is_even_cadence) (dCons (dVar 8) (dNil))) (dCons (dOp fIsNot (dCall 1 (rd_cadence_turn) (dCons (dVar 8) (dNil))) (dC .none)) (dNil)))) (dCons (dTup (dCons (dC (.bool true)) (dCons (dC (.bool true)) (dNil)))) (dNil)))))) (dRet (dC (.bool false))) (dNext))) (dNext))
    (dRet (dCall 2 (rd__law_is 6) (dCons (dCall 1 (rd_is_even_cadence) (dCons (dUn fRevA (dVar 6)) (dNil))) (dCons (dC (.bool true)) (dNil)))))))))))))))
theorem rx__law_counts_fine : ∃ r : dFn, r = fnT 13 t__law_counts_fine := ⟨_, rfl⟩
@[irreducible] noncomputable def rd__law_counts_fine : dFn := rx__law_counts_fine.choose
theorem rd__law_counts_fine_is : rd__law_counts_fine = fnT 13 t__law_counts_fine := by unfold rd__law_counts_fine; exact rx__law_counts_fine.choose_spec
theorem cal__law_counts_fine {P : Program} {w : World} {K : PySem.W.Frag} {mg : Str → Option Value} {base : Heap} {f : Addr} {fd : FuncData} (F : FnP K "_law_counts_fine" s__law_counts_fine f fd) (m : mg "_law_counts_fine" = some (.ref f)) (C__law_is : Cal P w K mg base "_law_is" 7 2 ps__law_is (rd__law_is 6)) (C_cadence_of : Cal P w K mg base "cadence_of" 2 2 ps_cadence_of (rd_cadence_of)) (C_cadence_turn : Cal P w K mg base "cadence_turn" 3 1 ps_cadence_turn (rd_cadence_turn)) (C_cadence_turned : Cal P w K mg base "cadence_turned" 1 2 ps_cadence_turned (rd_cadence_turned)) (C_fewest_doubles : Cal P w K mg base "fewest_doubles" 1 2 ps_fewest_doubles (rd_fewest_doubles)) (C_is_even_cadence : Cal P w K mg base "is_even_cadence" 3 1 ps_is_even_cadence (rd_is_even_cadence)) (C_shown_at : Cal P w K mg base "shown_at" 1 3 ps_shown_at (rd_shown_at)) (z_len : mg "len" = none) (z_max : mg "max" = none) (z_range : mg "range" = none) (z_sorted : mg "sorted" = none) (z_tuple : mg "tuple" = none) : Cal P w K mg base "_law_counts_fine" 8 3 ps__law_counts_fine rd__law_counts_fine :=
  by
  rw [rd__law_counts_fine_is]
  exact ⟨f, fd, fn_dD F sc__law_counts_fine (by decide) (fun cdv A outer s H E hr => (dss_cons (ds_set (i := 3) sc__law_counts_fine.nd rfl (.inl lk__law_counts_fine_3) (de_cal C_cadence_of (hr.mono (by omega)) rfl (da_cons (de_var (pv 0 rfl (.inr (.inl lk__law_counts_fine_0)))) (da_cons (de_var (pv 1 rfl (.inr (.inl lk__law_counts_fine_1)))) da_nil))) (.inl rfl))
      (dss_cons (ds_set (i := 4) sc__law_counts_fine.nd rfl (.inr lk__law_counts_fine_4) (de_fz (df_comp (own := [("slot", 9)]) rfl sc__law_counts_fine.nd (blkOk_by (own := [("slot", 9)]) (N := nm__law_counts_fine) (sc := defScope s__law_counts_fine) (by decide +kernel)) (fun _ _ _ _ _ => (dg_nm (i := 9) sc__law_counts_fine.nd rfl (.inl rfl) (.inr rfl))) (di_rng1 z_range rfl (da_cons (de_var (pv 1 rfl (.inr (.inl lk__law_counts_fine_1)))) da_nil)) (fun _ _ _ _ _ => dts_nil) (fun _ _ _ _ _ => (de_cal C_shown_at (hr.mono (by omega)) rfl (da_cons (de_var (pv 0 rfl (.inr (.inl rfl)))) (da_cons (de_var (pv 1 rfl (.inr (.inl rfl)))) (da_cons (de_var (pv 9 rfl (.inl rfl))) da_nil))))))) (.inl rfl))
      (dss_cons (ds_if (dw_pt (dw_or (dt_not (dt_val (de_cal C__law_is (hr.mono (by omega)) rfl (da_cons (de_var (pv 3 rfl (.inl lk__law_counts_fine_3))) (da_cons (de_callT c_tuple z_tuple rfl (by decide +kernel) (da_cons (de_fz (df_comp (own := [("picture", 12)]) rfl sc__law_counts_fine.nd (blkOk_by (own := [("picture", 12)]) (N := nm__law_counts_fine) (sc := defScope s__law_counts_fine) (by decide +kernel)) (fun _ _ _ _ _ => (dg_nm (i := 12) sc__law_counts_fine.nd rfl (.inl rfl) (.inr rfl))) (di_rng1 z_range rfl (da_cons (de_var (pv 0 rfl (.inr (.inl lk__law_counts_fine_0)))) da_nil)) (fun _ _ _ _ _ => dts_nil) (fun _ _ _ _ _ => (de_bm m_lcount (.inr rfl) PySem.F.plainAttrs_list PySem.F.slot_list_count PySem.F.type_list_count (de_var (pv 4 rfl (.inr (.inl rfl)))) (da_cons (de_var (pv 12 rfl (.inl rfl))) da_nil))))) da_nil)) da_nil))))) (dw_or1 (dt_cmp (o_ne (u64 hr)) (de_callB c_sorted z_sorted rfl (by decide +kernel) (da_cons (de_var (pv 4 rfl (.inr (.inl lk__law_counts_fine_4)))) da_nil)) (de_var (pv 4 rfl (.inr (.inl lk__law_counts_fine_4)))))))) (dss_one (ds_ret de_bl)) dss_nil)
      (dss_cons (ds_set (i := 5) sc__law_counts_fine.nd rfl (.inl lk__law_counts_fine_5) (de_callB c_len z_len rfl (by decide +kernel) (da_cons (de_fz (df_comp (own := [("at", 10)]) rfl sc__law_counts_fine.nd (blkOk_by (own := [("at", 10)]) (N := nm__law_counts_fine) (sc := defScope s__law_counts_fine) (by decide +kernel)) (fun _ _ _ _ _ => (dg_nm (i := 10) sc__law_counts_fine.nd rfl (.inl rfl) (.inr rfl))) (di_rng2 z_range rfl (da_cons de_int (da_cons (de_var (pv 1 rfl (.inr (.inl lk__law_counts_fine_1)))) da_nil))) (fun _ _ _ _ _ => (dts_one (dt_cmp (o_eq (u64 hr)) (de_ix (u1 hr) (de_var (pv 4 rfl (.inr (.inl rfl)))) (de_var (pv 10 rfl (.inl rfl)))) (de_ix (u1 hr) (de_var (pv 4 rfl (.inr (.inl rfl)))) (de_op o_sub (de_var (pv 10 rfl (.inl rfl))) de_int))))) (fun _ _ _ _ _ => (de_var (pv 10 rfl (.inl rfl)))))) da_nil)) (.inl rfl))
      (dss_cons (ds_if (dw_pt (dw_or (dt_not (dt_val (de_cal C__law_is (hr.mono (by omega)) rfl (da_cons (de_cal C_fewest_doubles (hr.mono (by omega)) rfl (da_cons (de_var (pv 0 rfl (.inr (.inl lk__law_counts_fine_0)))) (da_cons (de_var (pv 1 rfl (.inr (.inl lk__law_counts_fine_1)))) da_nil))) (da_cons (de_var (pv 5 rfl (.inl lk__law_counts_fine_5))) da_nil))))) (dw_or1 (dt_cmp (o_ne (u64 hr)) (de_var (pv 5 rfl (.inl lk__law_counts_fine_5))) (de_callB (c_maxA rfl) z_max rfl (by decide +kernel) (da_cons de_int (da_cons (de_op o_sub (de_var (pv 1 rfl (.inr (.inl lk__law_counts_fine_1)))) (de_var (pv 0 rfl (.inr (.inl lk__law_counts_fine_0))))) da_nil))))))) (dss_one (ds_ret de_bl)) dss_nil)
      (dss_cons (ds_if (dt_not (dt_val (de_cal C__law_is (hr.mono (by omega)) rfl (da_cons (de_cal C_cadence_of (hr.mono (by omega)) rfl (da_cons (de_var (pv 0 rfl (.inr (.inl lk__law_counts_fine_0)))) (da_cons (de_op o_add (de_var (pv 1 rfl (.inr (.inl lk__law_counts_fine_1)))) (de_var (pv 0 rfl (.inr (.inl lk__law_counts_fine_0))))) da_nil))) (da_cons (de_callT c_tuple z_tuple rfl (by decide +kernel) (da_cons (de_fz (df_comp (own := [("count", 11)]) rfl sc__law_counts_fine.nd (blkOk_by (own := [("count", 11)]) (N := nm__law_counts_fine) (sc := defScope s__law_counts_fine) (by decide +kernel)) (fun _ _ _ _ _ => (dg_nm (i := 11) sc__law_counts_fine.nd rfl (.inl rfl) (.inr rfl))) (di_any (de_var (pv 3 rfl (.inl lk__law_counts_fine_3)))) (fun _ _ _ _ _ => dts_nil) (fun _ _ _ _ _ => (de_op o_add (de_var (pv 11 rfl (.inl rfl))) de_int)))) da_nil)) da_nil))))) (dss_one (ds_ret de_bl)) dss_nil)
      (dss_cons (ds_if (dt_not (dt_val (de_cal C__law_is (hr.mono (by omega)) rfl (da_cons (de_cal C_cadence_of (hr.mono (by omega)) rfl (da_cons (de_op o_mulA de_int (de_var (pv 0 rfl (.inr (.inl lk__law_counts_fine_0))))) (da_cons (de_op o_mulA de_int (de_var (pv 1 rfl (.inr (.inl lk__law_counts_fine_1))))) da_nil))) (da_cons (de_op o_add (de_var (pv 3 rfl (.inl lk__law_counts_fine_3))) (de_var (pv 3 rfl (.inl lk__law_counts_fine_3)))) da_nil))))) (dss_one (ds_ret de_bl)) dss_nil)
      (dss_cons (ds_set (i := 6) sc__law_counts_fine.nd rfl (.inl lk__law_counts_fine_6) (de_cal C_cadence_turned (hr.mono (by omega)) rfl (da_cons (de_var (pv 3 rfl (.inl lk__law_counts_fine_3))) (da_cons (de_var (pv 2 rfl (.inl lk__law_counts_fine_2))) da_nil))) (.inl rfl))
      (dss_cons (ds_set (i := 7) sc__law_counts_fine.nd rfl (.inl lk__law_counts_fine_7) (de_tup (da_cons (de_cal C_is_even_cadence (hr.mono (by omega)) rfl (da_cons (de_var (pv 6 rfl (.inl lk__law_counts_fine_6))) da_nil)) (da_cons (de_cal C_cadence_turned (hr.mono (by omega)) rfl (da_cons (de_var (pv 6 rfl (.inl lk__law_counts_fine_6))) (da_cons (de_op o_sub de_int (de_var (pv 2 rfl (.inl lk__law_counts_fine_2)))) da_nil))) (da_cons (de_cal C_cadence_turned (hr.mono (by omega)) rfl (da_cons (de_var (pv 3 rfl (.inl lk__law_counts_fine_3))) (da_cons (de_op o_add (de_var (pv 2 rfl (.inl lk__law_counts_fine_2))) (de_op o_mulA de_int (de_var (pv 0 rfl (.inr (.inl lk__law_counts_fine_0)))))) da_nil))) da_nil)))) (.inl rfl))
      (dss_cons (ds_if (dt_not (dt_val (de_cal C__law_is (hr.mono (by omega)) rfl (da_cons (de_var (pv 7 rfl (.inl lk__law_counts_fine_7))) (da_cons (de_tup (da_cons de_bl (da_cons (de_var (pv 3 rfl (.inl lk__law_counts_fine_3))) (da_cons (de_var (pv 6 rfl (.inl lk__law_counts_fine_6))) da_nil)))) da_nil))))) (dss_one (ds_ret de_bl)) dss_nil)
      (dss_cons (ds_if (dt_cmp o_le (de_var (pv 1 rfl (.inr (.inl lk__law_counts_fine_1)))) (de_var (pv 0 rfl (.inr (.inl lk__law_counts_fine_0))))) (dss_cons (ds_set (i := 8) sc__law_counts_fine.nd rfl (.inl lk__law_counts_fine_8) (de_callT c_tuple z_tuple rfl (by decide +kernel) (da_cons (de_fz (df_comp (own := [("count", 11)]) rfl sc__law_counts_fine.nd (blkOk_by (own := [("count", 11)]) (N := nm__law_counts_fine) (sc := defScope s__law_counts_fine) (by decide +kernel)) (fun _ _ _ _ _ => (dg_nm (i := 11) sc__law_counts_fine.nd rfl (.inl rfl) (.inr rfl))) (di_any (de_var (pv 6 rfl (.inl lk__law_counts_fine_6)))) (fun _ _ _ _ _ => dts_nil) (fun _ _ _ _ _ => (de_op o_sub de_int (de_var (pv 11 rfl (.inl rfl))))))) da_nil)) (.inl rfl))
      (dss_one (ds_if (dt_not (dt_val (de_cal C__law_is (hr.mono (by omega)) rfl (da_cons (de_tup (da_cons (de_cal C_is_even_cadence (hr.mono (by omega)) rfl (da_cons (de_var (pv 8 rfl (.inl lk__law_counts_fine_8))) da_nil)) (da_cons (de_cmp o_isnot (de_cal C_cadence_turn (hr.mono (by omega)) rfl (da_cons (de_var (pv 8 rfl (.inl lk__law_counts_fine_8))) da_nil)) de_non) da_nil))) (da_cons (de_tup (da_cons de_bl (da_cons de_bl da_nil))) da_nil))))) (dss_one (ds_ret de_bl)) dss_nil))) dss_nil)
      (dss_one (ds_ret (de_cal C__law_is (hr.mono (by omega)) rfl (da_cons (de_cal C_is_even_cadence (hr.mono (by omega)) rfl (da_cons (de_revA (de_var (pv 6 rfl (.inl lk__law_counts_fine_6)))) da_nil)) (da_cons de_bl da_nil))))))))))))))))), m, F.kp, (F.bindsN fun _ _ _ _ _ _ us hl => match us, hl with | [_, _, _], _ => rfl)⟩
/-! ### law -/
abbrev s_law : Stmt := top 27
abbrev nm_law : List Str := ["script", "k", "hand", "m", "levels", "more", "level", "some", "whole", "at"]
abbrev ps_law : List Str := ["script"]
theorem sc_law : FnScope nm_law ps_law (defScope s_law) := ⟨rfl, rfl, rfl, by decide +kernel, rfl, by decide +kernel, by decide +kernel⟩
theorem lk_law_0 : (defScope s_law).names.lookup ("script" : Str) = some NameKind.local := by decide +kernel
theorem lk_law_1 : (defScope s_law).names.lookup ("k" : Str) = some NameKind.local := by decide +kernel
theorem lk_law_2 : (defScope s_law).names.lookup ("hand" : Str) = some NameKind.cell := by decide +kernel
theorem lk_law_3 : (defScope s_law).names.lookup ("m" : Str) = some NameKind.cell := by decide +kernel
theorem lk_law_4 : (defScope s_law).names.lookup ("levels" : Str) = some NameKind.local := by decide +kernel
theorem lk_law_5 : (defScope s_law).names.lookup ("more" : Str) = some NameKind.local := by decide +kernel
theorem lk_law_6 : (defScope s_law).names.lookup ("level" : Str) = some NameKind.local := by decide +kernel
theorem lk_law_7 : (defScope s_law).names.lookup ("some" : Str) = some NameKind.local := by decide +kernel
theorem lk_law_8 : (defScope s_law).names.lookup ("whole" : Str) = some NameKind.local := by decide +kernel
noncomputable def t_law : dTS := dSeq (dFor (dRng1 (dCons (dC (.int 3)) (dNil))) (gNm 1) (dSeq (dSet 2 (dCall 2 (rd__law_hand) (dCons (dVar 0) (dCons (dVar 1) (dNil)))))
    (dSeq (dSet 3 (dOp fAdd (dC (.int 1)) (dCall 2 (rd__law_take) (dCons (dVar 2) (dCons (dC (.int 24)) (dNil))))))
    (dSeq (dSet 4 (dCB fTuple (dCons (dFz (dComp (dRng1 (dCons (dCall 2 (rd__law_take) (dCons (dVar 2) (dCons (dC (.int 13)) (dNil)))) (dNil))) (gNm 9) (dYes) (dCall 2 (rd__law_take) (dCons (dVar 2) (dCons (dOp fAdd (dVar 3) (dC (.int 1))) (dNil)))) [9])) (dNil))))
    (dSeq (dSet 5 (dCB fTuple (dCons (dFz (dComp (dRng1 (dCons (dCall 2 (rd__law_take) (dCons (dVar 2) (dCons (dC (.int 7)) (dNil)))) (dNil))) (gNm 9) (dYes) (dCall 2 (rd__law_take) (dCons (dVar 2) (dCons (dOp fAdd (dVar 3) (dC (.int 1))) (dNil)))) [9])) (dNil))))
    (dSeq (dSet 6 (dCall 2 (rd__law_take) (dCons (dVar 2) (dCons (dOp fAdd (dVar 3) (dC (.int 1))) (dNil)))))
    (dSeq (dFor (dItV (dTup (dCons (dVar 4) (dCons (dOp fMulA (dTup (dCons (dVar 6) (dNil))) (dC (.int 7))) (dCons (dVar 5) (dCons (dTup (dCons (dC (.int 0)) (dCons (dVar 3) (dCons (dVar 6) (dCons (dVar 6) (dCons (dVar 3) (dNil))))))) (dNil))))))) (gNm 7) (dSeq (dIfS (dOr (dNot (dB (dCall 3 (rd__law_levels_fine) (dCons (dVar 7) (dCons (dVar 3) (dCons (dOp fAdd (dC (.int 2)) (dCall 2 (rd__law_take) (dCons (dVar 2) (dCons (dC (.int 4)) (dNil))))) (dNil))))))) (dNot (dB (dCall 3 (rd__law_behind_fine) (dCons (dVar 7) (dCons (dVar 5) (dCons (dVar 3) (dNil)))))))) (dRet (dC (.bool false))) (dNext))
    (dIfS (dNot (dB (dCall 2 (rd__law_other_fine) (dCons (dVar 7) (dCons (dVar 3) (dNil)))))) (dRet (dC (.bool false))) (dNext))))
    (dSeq (dSet 8 (dOp fAdd (dC (.int 1)) (dCall 2 (rd__law_take) (dCons (dVar 2) (dCons (dC (.int 16)) (dNil))))))
    (dSeq (dIfS (dNot (dB (dCall 2 (rd__law_cadence_fine) (dCons (dCall 2 (rd__law_take) (dCons (dVar 2) (dCons (dOp fAdd (dVar 8) (dC (.int 1))) (dNil)))) (dCons (dVar 8) (dNil)))))) (dRet (dC (.bool false))) (dNext))
    (dIfS (dNot (dB (dCall 3 (rd__law_counts_fine) (dCons (dOp fAdd (dC (.int 1)) (dCall 2 (rd__law_take) (dCons (dVar 2) (dCons (dC (.int 8)) (dNil))))) (dCons (dCall 2 (rd__law_take) (dCons (dVar 2) (dCons (dC (.int 20)) (dNil)))) (dCons (dOp fSub (dCall 2 (rd__law_take) (dCons (dVar 2) (dCons (dC (.int 31)) (dNil)))) (dC (.int 15))) (dNil))))))) (dRet (dC (.bool false))) (dNext)))))))))))
    (dRet (dC (.bool true)))
theorem rx_law : ∃ r : dFn, r = fnT 10 t_law := ⟨_, rfl⟩
@[irreducible] noncomputable def rd_law : dFn := rx_law.choose
theorem rd_law_is : rd_law = fnT 10 t_law := by unfold rd_law; exact rx_law.choose_spec
theorem okLaw {P : Program} {w : World} {K : PySem.W.Frag} {mg : Str → Option Value} {base : Heap} {f : Addr} {fd : FuncData} (F : FnP K "law" s_law f fd) (C__law_behind_fine : Cal P w K mg base "_law_behind_fine" 8 3 ps__law_behind_fine (rd__law_behind_fine)) (C__law_cadence_fine : Cal P w K mg base "_law_cadence_fine" 8 2 ps__law_cadence_fine (rd__law_cadence_fine)) (C__law_counts_fine : Cal P w K mg base "_law_counts_fine" 8 3 ps__law_counts_fine (rd__law_counts_fine)) (C__law_hand : Cal P w K mg base "_law_hand" 2 2 ps__law_hand (rd__law_hand)) (C__law_levels_fine : Cal P w K mg base "_law_levels_fine" 8 3 ps__law_levels_fine (rd__law_levels_fine)) (C__law_other_fine : Cal P w K mg base "_law_other_fine" 8 2 ps__law_other_fine (rd__law_other_fine)) (C__law_take : Cal P w K mg base "_law_take" 1 2 ps__law_take (rd__law_take)) (z_range : mg "range" = none) (z_tuple : mg "tuple" = none) : FnOk P w K mg base CX0 9 f fd ps_law (spD K 1 rd_law) :=
  by
  rw [rd_law_is]
  exact fn_dD F sc_law (by decide) (fun cdv A outer s H E hr => (dss_cons (ds_for (vs := [1]) PassesOwn.never rfl (dg_nm (i := 1) sc_law.nd rfl (.inl lk_law_1) (.inl rfl)) (di_rng1 z_range rfl (da_cons de_int da_nil)) (dss_cons (ds_set (i := 2) sc_law.nd rfl (.inr lk_law_2) (de_cal C__law_hand (hr.mono (by omega)) rfl (da_cons (de_var (pv 0 rfl (.inl lk_law_0))) (da_cons (de_var (pv 1 rfl (.inl lk_law_1))) da_nil))) (.inl rfl))
      (dss_cons (ds_set (i := 3) sc_law.nd rfl (.inr lk_law_3) (de_op o_add de_int (de_cal C__law_take (hr.mono (by omega)) rfl (da_cons (de_var (pv 2 rfl (.inr (.inl lk_law_2)))) (da_cons de_int da_nil)))) (.inl rfl))
      (dss_cons (ds_set (i := 4) sc_law.nd rfl (.inl lk_law_4) (de_callT c_tuple z_tuple rfl (by decide +kernel) (da_cons (de_fz (df_comp (own := [("at", 9)]) rfl sc_law.nd (blkOk_by (own := [("at", 9)]) (N := nm_law) (sc := defScope s_law) (by decide +kernel)) (fun _ _ _ _ _ => (dg_nm (i := 9) sc_law.nd rfl (.inl rfl) (.inr rfl))) (di_rng1 z_range rfl (da_cons (de_cal C__law_take (hr.mono (by omega)) rfl (da_cons (de_var (pv 2 rfl (.inr (.inl lk_law_2)))) (da_cons de_int da_nil))) da_nil)) (fun _ _ _ _ _ => dts_nil) (fun _ _ _ _ _ => (de_cal C__law_take (hr.mono (by omega)) rfl (da_cons (de_var (pv 2 rfl (.inr (.inl rfl)))) (da_cons (de_op o_add (de_var (pv 3 rfl (.inr (.inl rfl)))) de_int) da_nil)))))) da_nil)) (.inl rfl))
      (dss_cons (ds_set (i := 5) sc_law.nd rfl (.inl lk_law_5) (de_callT c_tuple z_tuple rfl (by decide +kernel) (da_cons (de_fz (df_comp (own := [("at", 9)]) rfl sc_law.nd (blkOk_by (own := [("at", 9)]) (N := nm_law) (sc := defScope s_law) (by decide +kernel)) (fun _ _ _ _ _ => (dg_nm (i := 9) sc_law.nd rfl (.inl rfl) (.inr rfl))) (di_rng1 z_range rfl (da_cons (de_cal C__law_take (hr.mono (by omega)) rfl (da_cons (de_var (pv 2 rfl (.inr (.inl lk_law_2)))) (da_cons de_int da_nil))) da_nil)) (fun _ _ _ _ _ => dts_nil) (fun _ _ _ _ _ => (de_cal C__law_take (hr.mono (by omega)) rfl (da_cons (de_var (pv 2 rfl (.inr (.inl rfl)))) (da_cons (de_op o_add (de_var (pv 3 rfl (.inr (.inl rfl)))) de_int) da_nil)))))) da_nil)) (.inl rfl))
      (dss_cons (ds_set (i := 6) sc_law.nd rfl (.inl lk_law_6) (de_cal C__law_take (hr.mono (by omega)) rfl (da_cons (de_var (pv 2 rfl (.inr (.inl lk_law_2)))) (da_cons (de_op o_add (de_var (pv 3 rfl (.inr (.inl lk_law_3)))) de_int) da_nil))) (.inl rfl))
      (dss_cons (ds_for (vs := [7]) PassesOwn.never rfl (dg_nm (i := 7) sc_law.nd rfl (.inl lk_law_7) (.inl rfl)) (di_any (de_tup (da_cons (de_var (pv 4 rfl (.inl lk_law_4))) (da_cons (de_op o_mulA (de_tup (da_cons (de_var (pv 6 rfl (.inl lk_law_6))) da_nil)) de_int) (da_cons (de_var (pv 5 rfl (.inl lk_law_5))) (da_cons (de_tup (da_cons de_int (da_cons (de_var (pv 3 rfl (.inr (.inl lk_law_3)))) (da_cons (de_var (pv 6 rfl (.inl lk_law_6))) (da_cons (de_var (pv 6 rfl (.inl lk_law_6))) (da_cons (de_var (pv 3 rfl (.inr (.inl lk_law_3)))) da_nil)))))) da_nil)))))) (dss_cons (ds_if (dw_pt (dw_or (dt_not (dt_val (de_cal C__law_levels_fine (hr.mono (by omega)) rfl (da_cons (de_var (pv 7 rfl (.inl lk_law_7))) (da_cons (de_var (pv 3 rfl (.inr (.inl lk_law_3)))) (da_cons (de_op o_add de_int (de_cal C__law_take (hr.mono (by omega)) rfl (da_cons (de_var (pv 2 rfl (.inr (.inl lk_law_2)))) (da_cons de_int da_nil)))) da_nil)))))) (dw_or1 (dt_not (dt_val (de_cal C__law_behind_fine (hr.mono (by omega)) rfl (da_cons (de_var (pv 7 rfl (.inl lk_law_7))) (da_cons (de_var (pv 5 rfl (.inl lk_law_5))) (da_cons (de_var (pv 3 rfl (.inr (.inl lk_law_3)))) da_nil))))))))) (dss_one (ds_ret de_bl)) dss_nil)
      (dss_one (ds_if (dt_not (dt_val (de_cal C__law_other_fine (hr.mono (by omega)) rfl (da_cons (de_var (pv 7 rfl (.inl lk_law_7))) (da_cons (de_var (pv 3 rfl (.inr (.inl lk_law_3)))) da_nil))))) (dss_one (ds_ret de_bl)) dss_nil))))
      (dss_cons (ds_set (i := 8) sc_law.nd rfl (.inl lk_law_8) (de_op o_add de_int (de_cal C__law_take (hr.mono (by omega)) rfl (da_cons (de_var (pv 2 rfl (.inr (.inl lk_law_2)))) (da_cons de_int da_nil)))) (.inl rfl))
      (dss_cons (ds_if (dt_not (dt_val (de_cal C__law_cadence_fine (hr.mono (by omega)) rfl (da_cons (de_cal C__law_take (hr.mono (by omega)) rfl (da_cons (de_var (pv 2 rfl (.inr (.inl lk_law_2)))) (da_cons (de_op o_add (de_var (pv 8 rfl (.inl lk_law_8))) de_int) da_nil))) (da_cons (de_var (pv 8 rfl (.inl lk_law_8))) da_nil))))) (dss_one (ds_ret de_bl)) dss_nil)
      (dss_one (ds_if (dt_not (dt_val (de_cal C__law_counts_fine (hr.mono (by omega)) rfl (da_cons (de_op o_add de_int (de_cal C__law_take (hr.mono (by omega)) rfl (da_cons (de_var (pv 2 rfl (.inr (.inl lk_law_2)))) (da_cons de_int da_nil)))) (da_cons (de_cal C__law_take (hr.mono (by omega)) rfl (da_cons (de_var (pv 2 rfl (.inr (.inl lk_law_2)))) (da_cons de_int da_nil))) (da_cons (de_op o_sub (de_cal C__law_take (hr.mono (by omega)) rfl (da_cons (de_var (pv 2 rfl (.inr (.inl lk_law_2)))) (da_cons de_int da_nil))) de_int) da_nil)))))) (dss_one (ds_ret de_bl)) dss_nil)))))))))))
      (dss_one (ds_ret de_bl))))
/-! ### the head -/
def d_steps_of : He.DefD := ⟨("steps_of", none), "steps_of", "steps_of", defArgs s_steps_of, defBody s_steps_of, defScope s_steps_of, [], []⟩
def d_dotted : He.DefD := ⟨("dotted", none), "dotted", "dotted", defArgs s_dotted, defBody s_dotted, defScope s_dotted, [], []⟩
def d_errors_of : He.DefD := ⟨("errors_of", none), "errors_of", "errors_of", defArgs s_errors_of, defBody s_errors_of, defScope s_errors_of, [], []⟩
def d_is_close : He.DefD := ⟨("is_close", none), "is_close", "is_close", defArgs s_is_close, defBody s_is_close, defScope s_is_close, [], []⟩
def d_shown_at : He.DefD := ⟨("shown_at", none), "shown_at", "shown_at", defArgs s_shown_at, defBody s_shown_at, defScope s_shown_at, [], []⟩
def d_cadence_of : He.DefD := ⟨("cadence_of", none), "cadence_of", "cadence_of", defArgs s_cadence_of, defBody s_cadence_of, defScope s_cadence_of, [], []⟩
def d_fewest_doubles : He.DefD := ⟨("fewest_doubles", none), "fewest_doubles", "fewest_doubles", defArgs s_fewest_doubles, defBody s_fewest_doubles, defScope s_fewest_doubles, [], []⟩
def d_cadence_turned : He.DefD := ⟨("cadence_turned", none), "cadence_turned", "cadence_turned", defArgs s_cadence_turned, defBody s_cadence_turned, defScope s_cadence_turned, [], []⟩
def d_stretch_sum : He.DefD := ⟨("stretch_sum", none), "stretch_sum", "stretch_sum", defArgs s_stretch_sum, defBody s_stretch_sum, defScope s_stretch_sum, [], []⟩
def d_told_limp : He.DefD := ⟨("told_limp", none), "told_limp", "told_limp", defArgs s_told_limp, defBody s_told_limp, defScope s_told_limp, [], []⟩
def d_is_even_cadence : He.DefD := ⟨("is_even_cadence", none), "is_even_cadence", "is_even_cadence", defArgs s_is_even_cadence, defBody s_is_even_cadence, defScope s_is_even_cadence, [], []⟩
def d_cadence_turn : He.DefD := ⟨("cadence_turn", none), "cadence_turn", "cadence_turn", defArgs s_cadence_turn, defBody s_cadence_turn, defScope s_cadence_turn, [], []⟩
def d__law_cell : He.DefD := ⟨("_law_cell", none), "_law_cell", "_law_cell", defArgs s__law_cell, defBody s__law_cell, defScope s__law_cell, [], []⟩
def d__law_draws : He.DefD := ⟨("_law_draws", none), "_law_draws", "_law_draws", defArgs s__law_draws, defBody s__law_draws, defScope s__law_draws, [], []⟩
def d__law_is_integer : He.DefD := ⟨("_law_is_integer", none), "_law_is_integer", "_law_is_integer", defArgs s__law_is_integer, defBody s__law_is_integer, defScope s__law_is_integer, [], []⟩
def d__law_is : He.DefD := ⟨("_law_is", none), "_law_is", "_law_is", defArgs s__law_is, defBody s__law_is, defScope s__law_is, [], []⟩
def d__law_hand : He.DefD := ⟨("_law_hand", none), "_law_hand", "_law_hand", defArgs s__law_hand, defBody s__law_hand, defScope s__law_hand, [], []⟩
def d__law_take : He.DefD := ⟨("_law_take", none), "_law_take", "_law_take", defArgs s__law_take, defBody s__law_take, defScope s__law_take, [], []⟩
def d__law_dots : He.DefD := ⟨("_law_dots", none), "_law_dots", "_law_dots", defArgs s__law_dots, defBody s__law_dots, defScope s__law_dots, [], []⟩
def d__law_levels_fine : He.DefD := ⟨("_law_levels_fine", none), "_law_levels_fine", "_law_levels_fine", defArgs s__law_levels_fine, defBody s__law_levels_fine, defScope s__law_levels_fine, [], []⟩
def d__law_behind_fine : He.DefD := ⟨("_law_behind_fine", none), "_law_behind_fine", "_law_behind_fine", defArgs s__law_behind_fine, defBody s__law_behind_fine, defScope s__law_behind_fine, [], []⟩
def d__law_other_fine : He.DefD := ⟨("_law_other_fine", none), "_law_other_fine", "_law_other_fine", defArgs s__law_other_fine, defBody s__law_other_fine, defScope s__law_other_fine, [], []⟩
def d__law_cadence_fine : He.DefD := ⟨("_law_cadence_fine", none), "_law_cadence_fine", "_law_cadence_fine", defArgs s__law_cadence_fine, defBody s__law_cadence_fine, defScope s__law_cadence_fine, [], []⟩
def d__law_counts_fine : He.DefD := ⟨("_law_counts_fine", none), "_law_counts_fine", "_law_counts_fine", defArgs s__law_counts_fine, defBody s__law_counts_fine, defScope s__law_counts_fine, [], []⟩
def d_law : He.DefD := ⟨("law", none), "law", "law", defArgs s_law, defBody s_law, defScope s_law, [], []⟩
def fn : List He.DefD := [d_steps_of, d_dotted, d_errors_of, d_is_close, d_shown_at, d_cadence_of, d_fewest_doubles, d_cadence_turned, d_stretch_sum, d_told_limp, d_is_even_cadence, d_cadence_turn, d__law_cell, d__law_draws, d__law_is_integer, d__law_is, d__law_hand, d__law_take, d__law_dots, d__law_levels_fine, d__law_behind_fine, d__law_other_fine, d__law_cadence_fine, d__law_counts_fine, d_law]
def fa : List He.Fa := [.glo "steps_of", .glo "dotted", .glo "errors_of", .glo "is_close", .glo "shown_at", .glo "cadence_of", .glo "fewest_doubles", .glo "cadence_turned", .glo "stretch_sum", .glo "told_limp", .glo "is_even_cadence", .glo "cadence_turn", .glo "_law_cell", .glo "_law_draws", .glo "_law_is_integer", .glo "_law_is", .glo "_law_hand", .glo "_law_take", .glo "_law_dots", .glo "_law_levels_fine", .glo "_law_behind_fine", .glo "_law_other_fine", .glo "_law_cadence_fine", .glo "_law_counts_fine", .glo "law", .free "abs", .free "all", .free "bool", .free "int", .free "isinstance", .free "len", .free "max", .free "range", .free "sorted", .free "str", .free "sum", .free "tuple", .free "zip"]
abbrev R : PySem.W.OpenRow := PySem.W.OpenLaw.row PySem.Challenge.rw_shadehall_k08_whole_dots_carried_on_and
abbrev hk : PySem.W.Hook := He.hookD 4 fa fn
def ob (s : PySem.W.SharedT) : He.AlD := He.obsDG 4 fa fn (HandSHeadRun.getT s)
theorem ob_eq (s : PySem.W.SharedT) : ob s = hk.obs s.abs := He.obsDG_eq (HandSHeadRun.getT_eq s)
def loose : List PySem.Str := ["steps_of", "dotted", "errors_of", "is_close", "shown_at", "cadence_of", "fewest_doubles", "cadence_turned", "stretch_sum", "told_limp", "is_even_cadence", "cadence_turn", "_law_cell", "_law_draws", "_law_is_integer", "_law_is", "_law_hand", "_law_take", "_law_dots", "_law_levels_fine", "_law_behind_fine", "_law_other_fine", "_law_cadence_fine", "_law_counts_fine"]
theorem run (w : World) : HandSHeadRun.RunEq R (PySem.W.view R.prog [27]) hk ob 6000 loose w := by
  intro os
  kernel_rfl
theorem facts {P : Program} {w : World} {K : PySem.W.Frag} {h : Heap} {mg : Str → Option Value} {f : Addr} (X : K.In h) (G : h.Ns mainGlobals mg) (hfa : mg ("law" : Str) = some (.ref f)) (c : He.SaysD fa fn K) :
    ∃ fd : FuncData, (∀ (s : Shared) (v : Value), BindsTo s fd ⟨[v], []⟩ [("script", v)]) ∧ ∀ base : Heap, K.In base → base.Ns mainGlobals mg → FnOk P w K mg base CX0 9 f fd ["script"] (spD K 1 rd_law) := by
  obtain ⟨fd_steps_of, F_steps_of⟩ := c.def_ 0 (d := d_steps_of) rfl
  have m_steps_of := He.glo_ok X G (c.fact 0 (f := .glo "steps_of") rfl)
  obtain ⟨fd_dotted, F_dotted⟩ := c.def_ 1 (d := d_dotted) rfl
  have m_dotted := He.glo_ok X G (c.fact 1 (f := .glo "dotted") rfl)
  obtain ⟨fd_errors_of, F_errors_of⟩ := c.def_ 2 (d := d_errors_of) rfl
  have m_errors_of := He.glo_ok X G (c.fact 2 (f := .glo "errors_of") rfl)
  obtain ⟨fd_is_close, F_is_close⟩ := c.def_ 3 (d := d_is_close) rfl
  have m_is_close := He.glo_ok X G (c.fact 3 (f := .glo "is_close") rfl)
  obtain ⟨fd_shown_at, F_shown_at⟩ := c.def_ 4 (d := d_shown_at) rfl
  have m_shown_at := He.glo_ok X G (c.fact 4 (f := .glo "shown_at") rfl)
  obtain ⟨fd_cadence_of, F_cadence_of⟩ := c.def_ 5 (d := d_cadence_of) rfl
  have m_cadence_of := He.glo_ok X G (c.fact 5 (f := .glo "cadence_of") rfl)
  obtain ⟨fd_fewest_doubles, F_fewest_doubles⟩ := c.def_ 6 (d := d_fewest_doubles) rfl
  have m_fewest_doubles := He.glo_ok X G (c.fact 6 (f := .glo "fewest_doubles") rfl)
  obtain ⟨fd_cadence_turned, F_cadence_turned⟩ := c.def_ 7 (d := d_cadence_turned) rfl
  have m_cadence_turned := He.glo_ok X G (c.fact 7 (f := .glo "cadence_turned") rfl)
  obtain ⟨fd_stretch_sum, F_stretch_sum⟩ := c.def_ 8 (d := d_stretch_sum) rfl
  have m_stretch_sum := He.glo_ok X G (c.fact 8 (f := .glo "stretch_sum") rfl)
  obtain ⟨fd_told_limp, F_told_limp⟩ := c.def_ 9 (d := d_told_limp) rfl
  have m_told_limp := He.glo_ok X G (c.fact 9 (f := .glo "told_limp") rfl)
  obtain ⟨fd_is_even_cadence, F_is_even_cadence⟩ := c.def_ 10 (d := d_is_even_cadence) rfl
  have m_is_even_cadence := He.glo_ok X G (c.fact 10 (f := .glo "is_even_cadence") rfl)
  obtain ⟨fd_cadence_turn, F_cadence_turn⟩ := c.def_ 11 (d := d_cadence_turn) rfl
  have m_cadence_turn := He.glo_ok X G (c.fact 11 (f := .glo "cadence_turn") rfl)
  obtain ⟨fd__law_cell, F__law_cell⟩ := c.def_ 12 (d := d__law_cell) rfl
  have m__law_cell := He.glo_ok X G (c.fact 12 (f := .glo "_law_cell") rfl)
  obtain ⟨fd__law_draws, F__law_draws⟩ := c.def_ 13 (d := d__law_draws) rfl
  have m__law_draws := He.glo_ok X G (c.fact 13 (f := .glo "_law_draws") rfl)
  obtain ⟨fd__law_is_integer, F__law_is_integer⟩ := c.def_ 14 (d := d__law_is_integer) rfl
  have m__law_is_integer := He.glo_ok X G (c.fact 14 (f := .glo "_law_is_integer") rfl)
  obtain ⟨fd__law_is, F__law_is⟩ := c.def_ 15 (d := d__law_is) rfl
  have m__law_is := He.glo_ok X G (c.fact 15 (f := .glo "_law_is") rfl)
  obtain ⟨fd__law_hand, F__law_hand⟩ := c.def_ 16 (d := d__law_hand) rfl
  have m__law_hand := He.glo_ok X G (c.fact 16 (f := .glo "_law_hand") rfl)
  obtain ⟨fd__law_take, F__law_take⟩ := c.def_ 17 (d := d__law_take) rfl
  have m__law_take := He.glo_ok X G (c.fact 17 (f := .glo "_law_take") rfl)
  obtain ⟨fd__law_dots, F__law_dots⟩ := c.def_ 18 (d := d__law_dots) rfl
  have m__law_dots := He.glo_ok X G (c.fact 18 (f := .glo "_law_dots") rfl)
  obtain ⟨fd__law_levels_fine, F__law_levels_fine⟩ := c.def_ 19 (d := d__law_levels_fine) rfl
  have m__law_levels_fine := He.glo_ok X G (c.fact 19 (f := .glo "_law_levels_fine") rfl)
  obtain ⟨fd__law_behind_fine, F__law_behind_fine⟩ := c.def_ 20 (d := d__law_behind_fine) rfl
  have m__law_behind_fine := He.glo_ok X G (c.fact 20 (f := .glo "_law_behind_fine") rfl)
  obtain ⟨fd__law_other_fine, F__law_other_fine⟩ := c.def_ 21 (d := d__law_other_fine) rfl
  have m__law_other_fine := He.glo_ok X G (c.fact 21 (f := .glo "_law_other_fine") rfl)
  obtain ⟨fd__law_cadence_fine, F__law_cadence_fine⟩ := c.def_ 22 (d := d__law_cadence_fine) rfl
  have m__law_cadence_fine := He.glo_ok X G (c.fact 22 (f := .glo "_law_cadence_fine") rfl)
  obtain ⟨fd__law_counts_fine, F__law_counts_fine⟩ := c.def_ 23 (d := d__law_counts_fine) rfl
  have m__law_counts_fine := He.glo_ok X G (c.fact 23 (f := .glo "_law_counts_fine") rfl)
  obtain ⟨fd_law, F_law⟩ := c.def_ 24 (d := d_law) rfl
  have m_law := He.glo_ok X G (c.fact 24 (f := .glo "law") rfl)
  have z_abs := He.free_ok X G (c.fact 25 (f := .free "abs") rfl)
  have z_all := He.free_ok X G (c.fact 26 (f := .free "all") rfl)
  have z_bool := He.free_ok X G (c.fact 27 (f := .free "bool") rfl)
  have z_int := He.free_ok X G (c.fact 28 (f := .free "int") rfl)
  have z_isinstance := He.free_ok X G (c.fact 29 (f := .free "isinstance") rfl)
  have z_len := He.free_ok X G (c.fact 30 (f := .free "len") rfl)
  have z_max := He.free_ok X G (c.fact 31 (f := .free "max") rfl)
  have z_range := He.free_ok X G (c.fact 32 (f := .free "range") rfl)
  have z_sorted := He.free_ok X G (c.fact 33 (f := .free "sorted") rfl)
  have z_str := He.free_ok X G (c.fact 34 (f := .free "str") rfl)
  have z_sum := He.free_ok X G (c.fact 35 (f := .free "sum") rfl)
  have z_tuple := He.free_ok X G (c.fact 36 (f := .free "tuple") rfl)
  have z_zip := He.free_ok X G (c.fact 37 (f := .free "zip") rfl)
  have e := hfa.symm.trans m_law
  cases e
  have b := FunD.bindsA (ps := ["script"]) F_law fun _ _ _ _ _ _ us hl => match us, hl with | [_], _ => rfl
  refine ⟨fd_law, fun s v => b s [v] rfl, fun base _ _ => ?_⟩
  have C_steps_of := cal_steps_of (P := P) (w := w) (base := base) F_steps_of m_steps_of
  have C_dotted := cal_dotted (P := P) (w := w) (base := base) F_dotted m_dotted C_steps_of
  have C_errors_of := cal_errors_of (P := P) (w := w) (base := base) F_errors_of m_errors_of C_steps_of z_tuple
  have C_is_close := cal_is_close (P := P) (w := w) (base := base) F_is_close m_is_close z_zip
  have C_shown_at := cal_shown_at (P := P) (w := w) (base := base) F_shown_at m_shown_at
  have C_cadence_of := cal_cadence_of (P := P) (w := w) (base := base) F_cadence_of m_cadence_of C_shown_at z_range z_tuple
  have C_fewest_doubles := cal_fewest_doubles (P := P) (w := w) (base := base) F_fewest_doubles m_fewest_doubles z_max
  have C_cadence_turned := cal_cadence_turned (P := P) (w := w) (base := base) F_cadence_turned m_cadence_turned z_len
  have C_stretch_sum := cal_stretch_sum (P := P) (w := w) (base := base) F_stretch_sum m_stretch_sum z_sum
  have C_told_limp := cal_told_limp (P := P) (w := w) (base := base) F_told_limp m_told_limp C_stretch_sum z_len z_range
  have C_is_even_cadence := cal_is_even_cadence (P := P) (w := w) (base := base) F_is_even_cadence m_is_even_cadence C_told_limp
  have C_cadence_turn := cal_cadence_turn (P := P) (w := w) (base := base) F_cadence_turn m_cadence_turn C_cadence_of C_cadence_turned z_len z_range z_sum
  have C__law_cell := cal__law_cell (P := P) (w := w) (base := base) F__law_cell m__law_cell z_len
  have C__law_draws := cal__law_draws (P := P) (w := w) (base := base) F__law_draws m__law_draws z_abs z_int z_range
  have C__law_is_integer := cal__law_is_integer (P := P) (w := w) (base := base) F__law_is_integer m__law_is_integer z_bool z_int z_isinstance
  have C__law_is := cal__law_is (P := P) (w := w) (base := base) F__law_is m__law_is C__law_is_integer z_all z_bool z_int z_isinstance z_len z_range z_str z_tuple 6
  have C__law_hand := cal__law_hand (P := P) (w := w) (base := base) F__law_hand m__law_hand C__law_cell C__law_draws
  have C__law_take := cal__law_take (P := P) (w := w) (base := base) F__law_take m__law_take z_int
  have C__law_dots := cal__law_dots (P := P) (w := w) (base := base) F__law_dots m__law_dots z_tuple
  have C__law_levels_fine := cal__law_levels_fine (P := P) (w := w) (base := base) F__law_levels_fine m__law_levels_fine C__law_dots C__law_is C_dotted C_errors_of C_is_close z_len z_range z_sum z_tuple
  have C__law_behind_fine := cal__law_behind_fine (P := P) (w := w) (base := base) F__law_behind_fine m__law_behind_fine C__law_dots C__law_is C_dotted C_errors_of z_len
  have C__law_other_fine := cal__law_other_fine (P := P) (w := w) (base := base) F__law_other_fine m__law_other_fine C__law_is C_dotted C_errors_of z_tuple
  have C__law_cadence_fine := cal__law_cadence_fine (P := P) (w := w) (base := base) F__law_cadence_fine m__law_cadence_fine C__law_is C_cadence_of C_cadence_turn C_cadence_turned C_dotted C_is_even_cadence C_told_limp z_range z_tuple
  have C__law_counts_fine := cal__law_counts_fine (P := P) (w := w) (base := base) F__law_counts_fine m__law_counts_fine C__law_is C_cadence_of C_cadence_turn C_cadence_turned C_fewest_doubles C_is_even_cadence C_shown_at z_len z_max z_range z_sorted z_tuple
  exact okLaw F_law C__law_behind_fine C__law_cadence_fine C__law_counts_fine C__law_hand C__law_levels_fine C__law_other_fine C__law_take z_range z_tuple
end Gn

set_option maxHeartbeats 400000
namespace Gn
open PySem PySem.Spec L2 L3
local macro_rules | `(tactic| walk_at "go") => `(tactic|
  ((conv => whnf)
   repeat
    (first
     | ((with_reducible refine And.intro ?sd ?_); (case sd => (first | decide | assumption | omega | exact rfl | exact mulR (by omega) (by omega) | exact mulL (by omega) (by omega) | exact div_ok (by omega) | exact pow_ok (by decide) | exact small_ok (by omega) | exact line_le (by decide))))
     | ((with_reducible apply Exists.intro); (refine And.intro rfl ?_))
     (conv => whnf))))
/-! ### the laws' own helpers -/
def cellAt (ns : List Int) (k : Nat) : Int := ns.getD k (5 * k + 3)
theorem cell_ok {ns : List Int} {i : Nat} {S : Sto} {Q : DK} (hi : i < 1000) (h : Q (.d (.int (cellAt ns i))) S) : rd__law_cell [.d (scrD ns), .d (.int i)] S Q := by
  rw [rd__law_cell_is]
  walk_at "go"
  refine Br.d (fun c => ?_) (fun c => ?_)
  · rw [List.length_map] at c
    have c' : i < ns.length := by omega
    walk_at "go"
    refine At.nat (z := .int ns[i]) (by rw [List.getElem?_map, List.getElem?_eq_getElem c']; rfl) ?_
    unfold cellAt at h
    rw [List.getD_eq_getElem?_getD, List.getElem?_eq_getElem c'] at h
    exact h
  · rw [List.length_map] at c
    have c' : ns.length ≤ i := by omega
    walk_at "go"
    unfold cellAt at h
    rw [List.getD_eq_getElem?_getD, List.getElem?_eq_none_iff.mpr c'] at h
    exact h
def Drawn (ds : List Int) : Prop := ds.length = 120 ∧ ∀ x ∈ ds, 0 ≤ x ∧ x < 5040
theorem draws_ok {c : Int} {S : Sto} {Q : DK} (h : ∀ ds, Drawn ds → Q (.d (.list (ds.map .int))) S) : rd__law_draws [.d (.int c), .d (.int 120)] S Q := by
  rw [rd__law_draws_is]
  walk_at "go"
  refine loop_inv (fun i ρ S' => S' = S ∧ ∃ (r sd : Int) (b : Bool) (ds : List Int) (x6 x7 : Slot), ρ = [.val (.d (.int c)), .val (.d (.int 120)), .val (.d (.int r)), .val (.d (.bool b)), .val (.d (.int sd)), .own (.lst (ds.map .int)), x6, x7] ∧ ds.length = i ∧ (∀ x ∈ ds, 0 ≤ x ∧ x < 5040)) (rng 0 120) 0 (fun j x e ρ S' K hI hK => ?_) (fun ρ S' hI => ?_) _ _ ⟨rfl, _, _, _, [], _, _, rfl, rfl, by simp⟩
  · obtain ⟨rfl, r, sd, b, ds, x6, x7, rfl, hl, hd⟩ := hI
    obtain ⟨hj, rfl⟩ := rng_get e
    refine ⟨trivial, ?_⟩
    have fin : ∀ (r : Int) (y : Int) (x7 : Slot), 0 ≤ y → y < 5040 → K [.val (.d (.int c)), .val (.d (.int 120)), .val (.d (.int r)), .val (.d (.bool b)), .val (.d (.int sd)), .own (.lst (ds.map .int ++ [.int y])), .val (.d (.int (0 + (j : Int)))), x7] S' := fun r y x7 h1 h2 => by
      refine hK _ _ ⟨rfl, r, sd, b, ds ++ [y], _, x7, by rw [List.map_append]; rfl, by rw [List.length_append, hl]; rfl, fun z hz => ?_⟩
      rcases List.mem_append.mp hz with hz | hz
      · exact hd z hz
      · rw [List.mem_singleton.mp hz]; exact ⟨h1, h2⟩
    have hlen : (ds.map PyData.int).length < sizeLine := line_lt (by rw [List.length_map]; omega)
    cases b with
    | true =>
      walk_at "go"
      refine Br.d (fun c0 => ?_) (fun c0 => ?_)
      · walk_at "go"
        exact fin _ _ _ (by omega) (by omega)
      · walk_at "go"
        exact fin _ _ _ (by omega) (by omega)
    | false =>
      walk_at "go"
      exact fin _ _ _ (by omega) (by omega)
  · obtain ⟨rfl, r, sd, b, ds, x6, x7, rfl, hl, hd⟩ := hI
    refine ⟨trivial, ?_⟩
    walk_at "go"
    exact h ds ⟨by rw [hl, rng_len], hd⟩
def isI : D → Bool
  | .int _ => true
  | _ => false
theorem is_integer_ok {x : D} {S : Sto} {Q : DK} (hx : ∀ kvs, x ≠ .dict kvs) (h : Q (.d (.bool (isI x))) S) : rd__law_is_integer [.d x] S Q := by
  rw [rd__law_is_integer_is]
  cases x with
  | dict kvs => exact absurd rfl (hx kvs)
  | _ => walk_at "go"; exact h
/-- what _law_is can look at, no deeper than n -/
def pl : Nat → D → Bool
  | _ + 1, .none => true
  | _ + 1, .bool _ => true
  | _ + 1, .int _ => true
  | _ + 1, .str _ => true
  | n + 1, .tuple xs => decide (xs.length ≤ 1000) && xs.all (pl n)
  | _, _ => false
theorem boolsT : ∀ xs : List D, boolsOf (xs.map fun _ => .bool true) = some (List.replicate xs.length true)
  | [] => rfl
  | x :: xs => by
    show (boolsOf (xs.map fun _ => .bool true)).map (true :: ·) = _
    rw [boolsT xs]
    rfl
theorem allT (n : Nat) : (List.replicate n true).all id = true := by
  induction n with
  | zero => rfl
  | succ n ih => rw [List.replicate_succ, List.all_cons, ih]; rfl
theorem is_same : ∀ (k : Nat) (x : D), pl k x = true → ∀ {S : Sto} {Q : DK}, Q (.d (.bool true)) S → rd__law_is k [.d x, .d x] S Q
  | 0, x, h, S, Q, _ => by cases x <;> cases h
  | k + 1, x, h, S, Q, q => by
    rw [rd__law_is_is]
    cases x with
    | dict kvs => cases h
    | list xs => cases h
    | none => walk_at "go"; exact q
    | bool b =>
      walk_at "go"
      rw [decide_eq_true rfl]
      exact q
    | int i =>
      walk_at "go"
      refine is_integer_ok (fun _ z => by cases z) ?_
      walk_at "go"
      rw [decide_eq_true rfl]
      exact q
    | str z =>
      walk_at "go"
      rw [decide_eq_true rfl]
      exact q
    | tuple xs =>
      have h' : xs.length ≤ 1000 ∧ ∀ y ∈ xs, pl k y = true := by
        simp only [pl, Bool.and_eq_true, decide_eq_true_eq, List.all_eq_true] at h
        exact h
      walk_at "go"
      refine Br.f' (by rw [decide_eq_true rfl]; rfl) ?_
      walk_at "go"
      refine L3.comp_map (fun _ => .bool true) _ ?_ ?_ (fun y hy K K' hK => ?_) ?_
      · exact trivial
      · rw [rng_len]
        omega
      · obtain ⟨j, hj⟩ := List.mem_iff_getElem?.mp hy
        obtain ⟨j1, rfl⟩ := rng_get hj
        have j2 : j < xs.length := by omega
        walk_at "go"
        refine At.int (z := xs[j]) (by omega) (by rw [show (0 + (j : Int)).toNat = j by omega]; exact List.getElem?_eq_getElem j2) ?_
        walk_at "go"
        refine At.int (z := xs[j]) (by omega) (by rw [show (0 + (j : Int)).toNat = j by omega]; exact List.getElem?_eq_getElem j2) ?_
        walk_at "go"
        exact is_same k _ (h'.2 _ (List.getElem_mem j2)) hK
      · (conv => whnf)
        rw [boolsT]
        (conv => whnf)
        rw [allT]
        exact q
/-- the hand: its draws, how many are taken -/
def handC (ds : List Int) (at_ : Nat) : Cell := .dK [(.inr (Str.ofString "draws"), .list (ds.map .int)), (.inr (Str.ofString "at"), .int at_)]
theorem hand_ok {ns : List Int} {i : Nat} {S : Sto} {Q : DK} (hi : i < 1000) (h : ∀ ds, Drawn ds → Q (.ref S.length) (S ++ [handC ds 0])) : rd__law_hand [.d (scrD ns), .d (.int i)] S Q := by
  rw [rd__law_hand_is]
  walk_at "go"
  refine cell_ok hi ?_
  walk_at "go"
  refine draws_ok fun ds hd => ?_
  walk_at "go"
  exact h ds hd
theorem keyne : keyEq (.str (Str.ofString "draws")) (.str (Str.ofString "at")) = false := by decide +kernel
theorem keyee {z : Str} : keyEq (.str z) (.str z) = true := decide_eq_true rfl
theorem look_at {ds : List Int} {a : Nat} : lookD [(.str (Str.ofString "draws"), .list (ds.map .int)), (.str (Str.ofString "at"), .int a)] (.str (Str.ofString "at")) = some (.int a) := by
  simp only [lookD, keyne, keyee, cond_true, cond_false]
theorem look_draws {ds : List Int} {a : Int} : lookD [(.str (Str.ofString "draws"), .list (ds.map .int)), (.str (Str.ofString "at"), .int a)] (.str (Str.ofString "draws")) = some (.list (ds.map .int)) := by
  simp only [lookD, keyee, cond_true]
theorem put_at {ds : List Int} {a : Nat} {v : D} : putD [(.inr (Str.ofString "draws"), .list (ds.map .int)), (.inr (Str.ofString "at"), .int a)] (.inr (Str.ofString "at")) v = [(.inr (Str.ofString "draws"), .list (ds.map .int)), (.inr (Str.ofString "at"), v)] := by
  have e1 : decide ((Sum.inr (Str.ofString "draws") : Key) = Sum.inr (Str.ofString "at")) = false := by decide +kernel
  have e2 : ¬ ((Sum.inr (Str.ofString "draws") : Key) = Sum.inr (Str.ofString "at")) := of_decide_eq_false e1
  unfold putD
  rw [if_pos (by simp)]
  simp only [List.map_cons, List.map_nil, if_neg e2, if_true]
theorem view_ref {ρ : Env3} {S : Sto} {n : Nat} {c : Cell} (h : S[n]? = some c) : view ρ S (.ref n) = cellD c := by
  show (match S[n]? with | some c => cellD c | none => .none) = _
  rw [h]
theorem take_ok {n a : Nat} {m : Int} {ds : List Int} {S : Sto} {Q : DK} (hS : S[n]? = some (handC ds a)) (hd : Drawn ds) (ha : a < 1000000) (hm : 0 < m) (h : ∀ t, 0 ≤ t → t < m → Q (.d (.int t)) (S.set n (handC ds (a + 1)))) :
    rd__law_take [.ref n, .d (.int m)] S Q := by
  have hn : n < S.length := (List.getElem?_eq_some_iff.mp hS).1
  rw [rd__law_take_is]
  (conv => whnf)
  rw [view_ref hS]
  (conv => whnf)
  refine ⟨_, look_at, ?_⟩
  walk_at "go"
  rw [hS]
  (conv => whnf)
  refine ⟨line_lt (by rw [List.length_cons, List.length_cons, List.length_nil]; omega), ?_⟩
  rw [put_at]
  (conv => whnf)
  rw [view_ref (List.getElem?_set_self hn)]
  (conv => whnf)
  refine ⟨_, look_draws, ?_⟩
  walk_at "go"
  have e0 : 0 ≤ (a : Int) % 120 ∧ (a : Int) % 120 < 120 := ⟨Int.emod_nonneg _ (by decide), Int.emod_lt_of_pos _ (by decide)⟩
  have e1 : ((a : Int) % 120).toNat < ds.length := by rw [hd.1]; omega
  obtain ⟨x, hx, hx0, hx1⟩ : ∃ x, ds[((a : Int) % 120).toNat]? = some x ∧ 0 ≤ x ∧ x < 5040 := ⟨_, List.getElem?_eq_getElem e1, hd.2 _ (List.getElem_mem e1)⟩
  refine At.int (z := .int x) e0.1 (by rw [List.getElem?_map, hx]; rfl) ?_
  walk_at "go"
  have e2 : 0 ≤ (a : Int) / 120 % 3 ∧ (a : Int) / 120 % 3 < 3 := ⟨Int.emod_nonneg _ (by decide), Int.emod_lt_of_pos _ (by decide)⟩
  obtain ⟨w, hw, hw0, hw1⟩ : ∃ w : Int, ([.int 1, .int 7, .int 59] : List D)[((a : Int) / 120 % 3).toNat]? = some (.int w) ∧ 1 ≤ w ∧ w ≤ 59 := by
    have : (a : Int) / 120 % 3 = 0 ∨ (a : Int) / 120 % 3 = 1 ∨ (a : Int) / 120 % 3 = 2 := by omega
    rcases this with q | q | q <;> rw [q]
    · exact ⟨1, rfl, by decide, by decide⟩
    · exact ⟨7, rfl, by decide, by decide⟩
    · exact ⟨59, rfl, by decide, by decide⟩
  refine At.int (z := .int w) e2.1 hw ?_
  walk_at "go"
  exact h _ (Int.emod_nonneg _ (by omega)) (Int.emod_lt_of_pos _ hm)
end Gn

set_option maxHeartbeats 400000
namespace Gn
open PySem PySem.Spec L2 L3
local macro_rules | `(tactic| walk_at "go") => `(tactic|
  ((conv => whnf)
   repeat
    (first
     | ((with_reducible refine And.intro ?sd ?_); (case sd => (first | decide | assumption | omega | exact rfl | exact trivial | exact Nat.le_of_ble_eq_true rfl | exact mulR (by omega) (by omega) | exact mulL (by omega) (by omega) | exact div_ok (by omega) | exact pow_ok (by decide) | exact small_ok (by omega) | exact line_le (by decide) | exact line_le (Nat.le_of_ble_eq_true rfl) | exact line_lt (Nat.le_of_ble_eq_true rfl))))
     | ((with_reducible apply Exists.intro); (refine And.intro rfl ?_))
     (conv => whnf))))
def cd (b : Bool) : Nat := bif b then 120 else 46
def tx (bs : List Bool) : Str := SX.S (bs.map cd)
def nxt (m w : Int) : Bool × Int := if m ≤ 2 * w then (true, w - m) else (false, w)
def stp (m e : Int) : List Int → List (Bool × Int)
  | [] => []
  | l :: r => nxt m (e + l) :: stp m (nxt m (e + l)).2 r
def fin (m e : Int) : List Int → Int
  | [] => e
  | l :: r => fin m (nxt m (e + l)).2 r
def dts (m e : Int) (ls : List Int) : List Bool := (stp m e ls).map (·.1)
def ers (m e : Int) (ls : List Int) : List Int := (stp m e ls).map (·.2)
def sD (p : Bool × Int) : D := .tuple [.str (tx [p.1]), .int p.2]
theorem stp_app (m : Int) : ∀ (ls ms : List Int) (e : Int), stp m e (ls ++ ms) = stp m e ls ++ stp m (fin m e ls) ms
  | [], ms, e => rfl
  | l :: r, ms, e => by
    show nxt m (e + l) :: stp m (nxt m (e + l)).2 (r ++ ms) = _
    rw [stp_app m r ms]
    rfl
theorem fin_app (m : Int) : ∀ (ls ms : List Int) (e : Int), fin m e (ls ++ ms) = fin m (fin m e ls) ms
  | [], ms, e => rfl
  | l :: r, ms, e => fin_app m r ms _
theorem stp_len (m : Int) : ∀ (ls : List Int) (e : Int), (stp m e ls).length = ls.length
  | [], _ => rfl
  | l :: r, e => congrArg (· + 1) (stp_len m r _)
theorem str_x : Str.ofString "x" = tx [true] := by decide +kernel
theorem str_o : Str.ofString "." = tx [false] := by decide +kernel
theorem tx_ne : tx [true] ≠ tx [false] := by decide +kernel
section
variable {S : Sto} {Q : DK}
theorem steps_of_ok {m : Int} {ls : List Int} (hl : ls.length ≤ 1000) (h : Q (.d (.list ((stp m 0 ls).map sD))) S) : rd_steps_of [.d (.tuple (ls.map .int)), .d (.int m)] S Q := by
  rw [rd_steps_of_is]
  walk_at "go"
  refine loop_inv (fun i ρ S' => S' = S ∧ ∃ x4 x5 x6, ρ = [.val (.d (.tuple (ls.map .int))), .val (.d (.int m)), .own (.lst ((stp m 0 (ls.take i)).map sD)), .val (.d (.int (fin m 0 (ls.take i)))), x4, x5, x6]) (ls.map .int) 0 (fun j x e ρ S' K hI hK => ?_) (fun ρ S' hI => ?_) _ _ ⟨rfl, _, _, _, rfl⟩
  · obtain ⟨rfl, x4, x5, x6, rfl⟩ := hI
    rw [Nat.zero_add] at *
    rw [List.getElem?_map, Option.map_eq_some_iff] at e
    obtain ⟨l, e, rfl⟩ := e
    have hj : j < ls.length := (List.getElem?_eq_some_iff.mp e).1
    have hlen : ((stp m 0 (ls.take j)).map sD).length < sizeLine := line_lt (by rw [List.length_map, stp_len, List.length_take]; omega)
    have key : ∀ x5 : Slot, K [.val (.d (.tuple (ls.map .int))), .val (.d (.int m)), .own (.lst ((stp m 0 (ls.take j)).map sD ++ [sD (nxt m (fin m 0 (ls.take j) + l))])), .val (.d (.int (nxt m (fin m 0 (ls.take j) + l)).2)), .val (.d (.int l)), .val (.d (.int (fin m 0 (ls.take j) + l))), x5] S' := fun x5 => by
      refine hK _ _ ⟨rfl, .val (.d (.int l)), .val (.d (.int (fin m 0 (ls.take j) + l))), x5, ?_⟩
      rw [List.take_add_one, e]
      show _ = [_, _, Slot.own (.lst ((stp m 0 (ls.take j ++ [l])).map sD)), Slot.val (.d (.int (fin m 0 (ls.take j ++ [l])))), _, _, _]
      rw [stp_app, fin_app, List.map_append]
      rfl
    generalize fin m 0 (ls.take j) = e0 at *
    refine ⟨trivial, ?_⟩
    walk_at "go"
    refine Br.d (fun c => ?_) (fun c => ?_)
    · have e1 : nxt m (e0 + l) = (true, e0 + l - m) := if_pos c
      rw [e1] at key
      walk_at "go"
      rw [str_x]
      exact key _
    · have e1 : nxt m (e0 + l) = (false, e0 + l) := if_neg c
      rw [e1] at key
      walk_at "go"
      rw [str_o]
      exact key _
  · obtain ⟨rfl, x4, x5, x6, rfl⟩ := hI
    refine ⟨trivial, ?_⟩
    walk_at "go"
    rw [Nat.zero_add, List.length_map, List.take_length]
    exact h
end
end Gn

set_option maxHeartbeats 400000
namespace Gn
open PySem PySem.Spec L2 L3
local macro_rules | `(tactic| walk_at "go") => `(tactic|
  ((conv => whnf)
   repeat
    (first
     | ((with_reducible refine And.intro ?sd ?_); (case sd => (first | decide | assumption | omega | exact rfl | exact trivial | exact Nat.le_of_ble_eq_true rfl | exact mulR (by omega) (by omega) | exact mulL (by omega) (by omega) | exact div_ok (by omega) | exact pow_ok (by decide) | exact small_ok (by omega) | exact line_le (by decide) | exact line_le (Nat.le_of_ble_eq_true rfl) | exact line_lt (Nat.le_of_ble_eq_true rfl))))
     | ((with_reducible apply Exists.intro); (refine And.intro rfl ?_))
     (conv => whnf))))
theorem dts_map (st : List (Bool × Int)) : (st.map fun p => (.str (tx [p.1]) : D)) = ((st.map (·.1)).map cd).map fun c => .str (SX.S [c]) := by
  rw [List.map_map, List.map_map]
  rfl
theorem dts_len (m e : Int) (ls : List Int) : (dts m e ls).length = ls.length := by unfold dts; rw [List.length_map, stp_len]
theorem ers_len (m e : Int) (ls : List Int) : (ers m e ls).length = ls.length := by unfold ers; rw [List.length_map, stp_len]
section
variable {S : Sto} {Q : DK}
theorem dotted_ok {m : Int} {ls : List Int} (hl : ls.length ≤ 1000) (h : Q (.d (.str (tx (dts m 0 ls)))) S) : rd_dotted [.d (.tuple (ls.map .int)), .d (.int m)] S Q := by
  rw [rd_dotted_is]
  walk_at "go"
  refine steps_of_ok hl ?_
  walk_at "go"
  refine comp_mapE sD (fun p => .str (tx [p.1])) _ rfl (by rw [stp_len]; omega) (fun y _ K K' hK => ?_) ?_
  · walk_at "go"
    exact hK
  · rw [dts_map]
    walk_at "go"
    rw [strsOf_signs]
    (conv => whnf)
    refine ⟨?_, ?_⟩
    · rw [signs_len, List.length_map, List.length_map, stp_len]
      omega
    · rw [join_signs]
      exact h
theorem errors_of_ok {m : Int} {ls : List Int} (hl : ls.length ≤ 1000) (h : Q (.d (.tuple ((ers m 0 ls).map .int))) S) : rd_errors_of [.d (.tuple (ls.map .int)), .d (.int m)] S Q := by
  rw [rd_errors_of_is]
  walk_at "go"
  refine steps_of_ok hl ?_
  walk_at "go"
  refine comp_mapE sD (fun p => .int p.2) _ rfl (by rw [stp_len]; omega) (fun y _ K K' hK => ?_) ?_
  · walk_at "go"
    exact hK
  · walk_at "go"
    have e : (stp m 0 ls).map (fun p => (.int p.2 : D)) = (ers m 0 ls).map .int := by unfold ers; rw [List.map_map]; rfl
    rw [e]
    exact h
/-! ### is_close -/
def clo (m w : Int) : List Int → List Bool → Bool
  | l :: r, b :: t => decide (-m ≤ 2 * (w + (l - if b then m else 0)) ∧ 2 * (w + (l - if b then m else 0)) < m) && clo m (w + (l - if b then m else 0)) r t
  | _, _ => true
theorem eq_x (b : Bool) : decide (tx [b] = Str.ofString "x") = b := by cases b <;> decide +kernel
theorem is_close_ok {m : Int} {ls : List Int} {bs : List Bool} (hl : ls.length ≤ 1000) (hb : bs.length = ls.length) (h : Q (.d (.bool (clo m 0 ls bs))) S) : rd_is_close [.d (.tuple (ls.map .int)), .d (.int m), .d (.str (tx bs))] S Q := by
  rw [rd_is_close_is]
  walk_at "go"
  refine loop_inv (fun i ρ S' => S' = S ∧ ∃ w x4 x5, ρ = [.val (.d (.tuple (ls.map .int))), .val (.d (.int m)), .val (.d (.str (tx bs))), .val (.d (.int w)), x4, x5] ∧ clo m 0 ls bs = clo m w (ls.drop i) (bs.drop i)) (zipD (ls.map .int) (signs (tx bs))) 0 (fun j x e ρ S' K hI hK => ?_) (fun ρ S' hI => ?_) _ _ ⟨rfl, _, _, _, rfl, rfl⟩
  · obtain ⟨rfl, w, x4, x5, rfl, hc⟩ := hI
    rw [Nat.zero_add] at *
    obtain ⟨a, b, ea, eb, rfl⟩ := zipD_get e
    obtain ⟨l, el, rfl⟩ := get_map ea
    unfold tx at eb
    rw [signs_S] at eb
    obtain ⟨c, ec, rfl⟩ := get_map eb
    rw [List.getElem?_map, Option.map_eq_some_iff] at ec
    obtain ⟨b, ec, rfl⟩ := ec
    have hj : j < ls.length := (List.getElem?_eq_some_iff.mp el).1
    have hj2 : j < bs.length := by omega
    have e1 : ls.drop j = l :: ls.drop (j + 1) := by
      rw [List.drop_eq_getElem_cons hj]
      rw [List.getElem?_eq_getElem hj] at el
      rw [Option.some.inj el]
    have e2 : bs.drop j = b :: bs.drop (j + 1) := by
      rw [List.drop_eq_getElem_cons hj2]
      rw [List.getElem?_eq_getElem hj2] at ec
      rw [Option.some.inj ec]
    rw [e1, e2] at hc
    refine ⟨⟨trivial, trivial⟩, ?_⟩
    (conv => whnf)
    show Br (decide (tx [b] = Str.ofString "x")) _ _
    rw [eq_x]
    have fin : ∀ z : Int, z = l - (if b then m else 0) → ((-m ≤ 2 * (w + z) ∧ 2 * (w + z) < m) → K [.val (.d (.tuple (ls.map .int))), .val (.d (.int m)), .val (.d (.str (tx bs))), .val (.d (.int (w + z))), .val (.d (.int l)), .val (.d (.str (tx [b])))] S') ∧ (¬ (-m ≤ 2 * (w + z) ∧ 2 * (w + z) < m) → Q (.d (.bool false)) S') := fun z hz => by
      subst hz
      refine ⟨fun c => hK _ _ ⟨rfl, _, _, _, rfl, ?_⟩, fun c => ?_⟩
      · rw [hc]
        show (decide _ && _) = _
        rw [decide_eq_true c, Bool.true_and]
      · rw [hc] at h
        have e : clo m w (l :: ls.drop (j + 1)) (b :: bs.drop (j + 1)) = false := by
          show (decide _ && _) = _
          rw [decide_eq_false c, Bool.false_and]
        rw [e] at h
        exact h
    cases b with
    | true =>
      obtain ⟨f1, f2⟩ := fin (l - m) rfl
      walk_at "go"
      refine Br.d (fun c1 => ?_) (fun c1 => ?_)
      · walk_at "go"
        refine Br.nd (fun c2 => ?_) (fun c2 => ?_)
        · walk_at "go"
          exact f2 fun q => c2 q.2
        · walk_at "go"
          exact f1 ⟨c1, c2⟩
      · walk_at "go"
        exact f2 fun q => c1 q.1
    | false =>
      obtain ⟨f1, f2⟩ := fin (l - 0) rfl
      walk_at "go"
      refine Br.d (fun c1 => ?_) (fun c1 => ?_)
      · walk_at "go"
        refine Br.nd (fun c2 => ?_) (fun c2 => ?_)
        · walk_at "go"
          exact f2 fun q => c2 q.2
        · walk_at "go"
          exact f1 ⟨c1, c2⟩
      · walk_at "go"
        exact f2 fun q => c1 q.1
  · obtain ⟨rfl, w, x4, x5, rfl, hc⟩ := hI
    refine ⟨⟨trivial, trivial⟩, ?_⟩
    walk_at "go"
    have hl2 : (signs (tx bs)).length = bs.length := by unfold tx; rw [signs_S, List.length_map, List.length_map]
    rw [zipD_len, List.length_map, Nat.zero_add, hl2, hb, Nat.min_self, List.drop_length] at hc
    rw [hc] at h
    exact h
end
end Gn

set_option maxHeartbeats 400000
namespace Gn
open PySem PySem.Spec L2 L3
local macro_rules | `(tactic| walk_at "go") => `(tactic|
  ((conv => whnf)
   repeat
    (first
     | ((with_reducible refine And.intro ?sd ?_); (case sd => (first | decide | assumption | omega | exact rfl | exact trivial | exact Nat.le_of_ble_eq_true rfl | exact mulR (by omega) (by omega) | exact mulL (by omega) (by omega) | exact div_ok (by omega) | exact pow_ok (by decide) | exact small_ok (by omega) | exact line_le (by decide) | exact line_le (Nat.le_of_ble_eq_true rfl) | exact line_lt (Nat.le_of_ble_eq_true rfl))))
     | ((with_reducible apply Exists.intro); (refine And.intro rfl ?_))
     (conv => whnf))))
/-! ### the law over dots, plainly -/
def Rg (m e : Int) : Prop := -m ≤ 2 * e ∧ 2 * e < m
theorem nxt_rg {m e l : Int} (h : Rg m e) (h0 : 0 ≤ l) (h1 : l ≤ m) : Rg m (nxt m (e + l)).2 := by
  obtain ⟨a, b⟩ := h
  unfold nxt
  split
  · exact ⟨by show -m ≤ 2 * (e + l - m); omega, by show 2 * (e + l - m) < m; omega⟩
  · exact ⟨by show -m ≤ 2 * (e + l); omega, by show 2 * (e + l) < m; omega⟩
theorem nxt_2 (m w : Int) : (nxt m w).2 = w - if (nxt m w).1 = true then m else 0 := by
  unfold nxt
  split
  · rfl
  · show w = w - if false = true then m else 0
    rw [if_neg Bool.false_ne_true]
    omega
def In (m : Int) (ls : List Int) : Prop := ∀ l ∈ ls, 0 ≤ l ∧ l ≤ m
theorem In.tail {m l : Int} {r : List Int} (h : In m (l :: r)) : In m r := fun x hx => h x (List.mem_cons_of_mem _ hx)
theorem In.take {m : Int} {ls : List Int} (h : In m ls) (k : Nat) : In m (ls.take k) := fun x hx => h x (List.mem_of_mem_take hx)
theorem In.drop {m : Int} {ls : List Int} (h : In m ls) (k : Nat) : In m (ls.drop k) := fun x hx => h x (List.mem_of_mem_drop hx)
theorem fin_rg {m : Int} : ∀ {ls : List Int} {e : Int}, Rg m e → In m ls → Rg m (fin m e ls)
  | [], _, h, _ => h
  | l :: r, e, h, hi => fin_rg (ls := r) (e := (nxt m (e + l)).2) (nxt_rg h (hi l List.mem_cons_self).1 (hi l List.mem_cons_self).2) hi.tail
theorem clo_dts {m : Int} : ∀ {ls : List Int} {e : Int}, Rg m e → In m ls → clo m e ls (dts m e ls) = true
  | [], _, _, _ => rfl
  | l :: r, e, h, hi => by
    have g := nxt_rg h (hi l List.mem_cons_self).1 (hi l List.mem_cons_self).2
    have e1 : e + (l - if (nxt m (e + l)).1 = true then m else 0) = (nxt m (e + l)).2 := by
      rw [nxt_2]
      omega
    show (decide (-m ≤ 2 * (e + (l - if (nxt m (e + l)).1 = true then m else 0)) ∧ 2 * (e + (l - if (nxt m (e + l)).1 = true then m else 0)) < m) && clo m (e + (l - if (nxt m (e + l)).1 = true then m else 0)) r (dts m (nxt m (e + l)).2 r)) = true
    rw [e1, decide_eq_true (show -m ≤ 2 * (nxt m (e + l)).2 ∧ 2 * (nxt m (e + l)).2 < m from g), clo_dts g hi.tail]
    rfl
/-- one sign bent -/
theorem clo_bent {m : Int} : ∀ {pre : List Int} {e l : Int} {post : List Int} {t : List Bool}, Rg m e → In m pre → 0 ≤ l → l ≤ m → clo m e (pre ++ l :: post) (dts m e pre ++ (!(nxt m (fin m e pre + l)).1) :: t) = false
  | [], e, l, post, t, h, _, h0, h1 => by
    show (decide (-m ≤ 2 * (e + (l - if (!(nxt m (e + l)).1) = true then m else 0)) ∧ 2 * (e + (l - if (!(nxt m (e + l)).1) = true then m else 0)) < m) && _) = false
    obtain ⟨a, b⟩ := h
    have : ¬ (-m ≤ 2 * (e + (l - if (!(nxt m (e + l)).1) = true then m else 0)) ∧ 2 * (e + (l - if (!(nxt m (e + l)).1) = true then m else 0)) < m) := by
      unfold nxt
      by_cases c : m ≤ 2 * (e + l)
      · rw [if_pos c]
        show ¬ (-m ≤ 2 * (e + (l - if false = true then m else 0)) ∧ 2 * (e + (l - if false = true then m else 0)) < m)
        rw [if_neg Bool.false_ne_true]
        omega
      · rw [if_neg c]
        show ¬ (-m ≤ 2 * (e + (l - if true = true then m else 0)) ∧ 2 * (e + (l - if true = true then m else 0)) < m)
        rw [if_pos rfl]
        omega
    rw [decide_eq_false this]
    rfl
  | q :: pre, e, l, post, t, h, hi, h0, h1 => by
    have g := nxt_rg h (hi q List.mem_cons_self).1 (hi q List.mem_cons_self).2
    have e1 : e + (q - if (nxt m (e + q)).1 = true then m else 0) = (nxt m (e + q)).2 := by
      rw [nxt_2]
      omega
    show (decide (-m ≤ 2 * (e + (q - if (nxt m (e + q)).1 = true then m else 0)) ∧ 2 * (e + (q - if (nxt m (e + q)).1 = true then m else 0)) < m) && clo m (e + (q - if (nxt m (e + q)).1 = true then m else 0)) (pre ++ l :: post) (dts m (nxt m (e + q)).2 pre ++ (!(nxt m (fin m (nxt m (e + q)).2 pre + l)).1) :: t)) = false
    rw [e1, clo_bent g hi.tail h0 h1, Bool.and_false]
/-- as great -/
theorem nxt_scale {m c w : Int} (hc : 2 ≤ c ∧ c ≤ 5) : nxt (m * c) (c * w) = ((nxt m w).1, c * (nxt m w).2) := by
  have k : c = 2 ∨ c = 3 ∨ c = 4 ∨ c = 5 := by omega
  unfold nxt
  by_cases h : m ≤ 2 * w
  · rw [if_pos h, if_pos (by rcases k with rfl | rfl | rfl | rfl <;> omega)]
    refine Prod.ext rfl ?_
    show c * w - m * c = c * (w - m)
    rw [Int.mul_sub, Int.mul_comm m c]
  · rw [if_neg h, if_neg (by rcases k with rfl | rfl | rfl | rfl <;> omega)]
theorem stp_scale {m c : Int} (hc : 2 ≤ c ∧ c ≤ 5) : ∀ (ls : List Int) (e : Int), stp (m * c) (c * e) (ls.map (c * ·)) = (stp m e ls).map fun p => (p.1, c * p.2)
  | [], _ => rfl
  | l :: r, e => by
    show nxt (m * c) (c * e + c * l) :: stp (m * c) (nxt (m * c) (c * e + c * l)).2 (r.map (c * ·)) = _
    rw [← Int.mul_add, nxt_scale hc]
    show _ :: stp (m * c) (c * (nxt m (e + l)).2) (r.map (c * ·)) = _
    rw [stp_scale hc r]
    rfl
theorem dts_scale {m c : Int} (hc : 2 ≤ c ∧ c ≤ 5) (ls : List Int) : dts (m * c) 0 (ls.map (c * ·)) = dts m 0 ls := by
  have := stp_scale (m := m) hc ls 0
  rw [Int.mul_zero] at this
  unfold dts
  rw [this, List.map_map]
  rfl
theorem ers_scale {m c : Int} (hc : 2 ≤ c ∧ c ≤ 5) (ls : List Int) : ers (m * c) 0 (ls.map (c * ·)) = (ers m 0 ls).map (c * ·) := by
  have := stp_scale (m := m) hc ls 0
  rw [Int.mul_zero] at this
  unfold ers
  rw [this, List.map_map, List.map_map]
  rfl
theorem dts_app (m e : Int) (ls ms : List Int) : dts m e (ls ++ ms) = dts m e ls ++ dts m (fin m e ls) ms := by
  unfold dts
  rw [stp_app, List.map_append]
theorem ers_app (m e : Int) (ls ms : List Int) : ers m e (ls ++ ms) = ers m e ls ++ ers m (fin m e ls) ms := by
  unfold ers
  rw [stp_app, List.map_append]
theorem dts_take (m e : Int) (ls : List Int) (k : Nat) : (dts m e ls).take k = dts m e (ls.take k) := by
  by_cases h : k ≤ ls.length
  · have := dts_app m e (ls.take k) (ls.drop k)
    rw [List.take_append_drop] at this
    rw [this, List.take_append_of_le_length (by rw [dts_len, List.length_take]; omega), List.take_of_length_le (by rw [dts_len, List.length_take]; omega)]
  · rw [List.take_of_length_le (by rw [dts_len]; omega), List.take_of_length_le (by omega)]
theorem dts_drop (m e : Int) (ls : List Int) (k : Nat) : (dts m e ls).drop k = dts m (fin m e (ls.take k)) (ls.drop k) := by
  have := dts_app m e (ls.take k) (ls.drop k)
  rw [List.take_append_drop] at this
  by_cases h : k ≤ ls.length
  · have l : (dts m e (ls.take k)).length = k := by rw [dts_len, List.length_take]; omega
    rw [this, List.drop_append_of_le_length (by omega), List.drop_eq_nil_of_le (by omega)]
    rfl
  · rw [List.drop_eq_nil_of_le (by rw [dts_len]; omega), List.drop_eq_nil_of_le (by omega : ls.length ≤ k)]
    rfl
theorem fin_sum (m : Int) : ∀ (ls : List Int) (e : Int), fin m e ls = e + ls.sum - m * ((dts m e ls).count true : Nat)
  | [], e => by show e = e + 0 - m * (0 : Int); rw [Int.mul_zero]; omega
  | l :: r, e => by
    have ih := fin_sum m r (nxt m (e + l)).2
    show fin m (nxt m (e + l)).2 r = e + (l + r.sum) - m * (((nxt m (e + l)).1 :: dts m (nxt m (e + l)).2 r).count true : Nat)
    rw [ih, nxt_2, List.count_cons]
    cases (nxt m (e + l)).1
    · simp
      omega
    · simp
      rw [Int.mul_add, Int.mul_one]
      omega
theorem ers_get (m : Int) : ∀ (ls : List Int) (e : Int) (k : Nat), k < ls.length → (ers m e ls)[k]? = some (fin m e (ls.take (k + 1)))
  | [], _, _, h => by cases h
  | l :: r, e, 0, _ => by
    show some (nxt m (e + l)).2 = some (fin m e ((l :: r).take 1))
    rw [List.take_succ_cons, List.take_zero]
    rfl
  | l :: r, e, k + 1, h => by
    show (ers m (nxt m (e + l)).2 r)[k]? = some (fin m (nxt m (e + l)).2 (r.take (k + 1)))
    exact ers_get m r _ k (by simpa using h)
theorem dts_put {m : Int} {ls : List Int} (k : Nat) (l : Int) (b : Bool) (h : nxt m (fin m 0 (ls.take k) + l) = (b, fin m 0 (ls.take k))) : dts m 0 (ls.take k ++ [l] ++ ls.drop k) = (dts m 0 ls).take k ++ [b] ++ (dts m 0 ls).drop k := by
  rw [List.append_assoc, dts_app, dts_take, dts_drop]
  show _ ++ (nxt m (fin m 0 (ls.take k) + l)).1 :: dts m (nxt m (fin m 0 (ls.take k) + l)).2 (ls.drop k) = _
  rw [h, List.append_assoc]
  rfl
theorem dts_o {m : Int} {ls : List Int} (hm : 1 ≤ m) (hi : In m ls) (k : Nat) : dts m 0 (ls.take k ++ [0] ++ ls.drop k) = (dts m 0 ls).take k ++ [false] ++ (dts m 0 ls).drop k := by
  have g : Rg m (fin m 0 (ls.take k)) := fin_rg ⟨by omega, by omega⟩ (hi.take k)
  refine dts_put k 0 false ?_
  unfold nxt
  rw [Int.add_zero, if_neg (by have := g.2; omega)]
theorem dts_m {m : Int} {ls : List Int} (hm : 1 ≤ m) (hi : In m ls) (k : Nat) : dts m 0 (ls.take k ++ [m] ++ ls.drop k) = (dts m 0 ls).take k ++ [true] ++ (dts m 0 ls).drop k := by
  have g : Rg m (fin m 0 (ls.take k)) := fin_rg ⟨by omega, by omega⟩ (hi.take k)
  refine dts_put k m true ?_
  unfold nxt
  rw [if_pos (by have := g.1; omega)]
  refine Prod.ext rfl ?_
  show _ + m - m = _
  omega
/-! ### the other levels -/
def noTie (m : Int) : Int → List Int → Prop
  | _, [] => True
  | w, l :: r => 2 * (w + l) ≠ m ∧ noTie m (nxt m (w + l)).2 r
theorem stp_other {m : Int} : ∀ {ls : List Int} {e : Int}, noTie m e ls → stp m (0 - e) (ls.map (m - ·)) = (stp m e ls).map fun p => (!p.1, 0 - p.2)
  | [], _, _ => rfl
  | l :: r, e, h => by
    obtain ⟨h1, h2⟩ := h
    have e1 : nxt m (0 - e + (m - l)) = (!(nxt m (e + l)).1, 0 - (nxt m (e + l)).2) := by
      unfold nxt
      by_cases c : m ≤ 2 * (e + l)
      · rw [if_pos c, if_neg (by omega)]
        refine Prod.ext rfl ?_
        show 0 - e + (m - l) = 0 - (e + l - m)
        omega
      · rw [if_neg c, if_pos (by omega)]
        refine Prod.ext rfl ?_
        show 0 - e + (m - l) - m = 0 - (e + l)
        omega
    show nxt m (0 - e + (m - l)) :: stp m (nxt m (0 - e + (m - l))).2 (r.map (m - ·)) = _
    rw [e1]
    show _ :: stp m (0 - (nxt m (e + l)).2) (r.map (m - ·)) = _
    rw [stp_other h2]
    rfl
end Gn

set_option maxHeartbeats 400000
namespace Gn
open PySem PySem.Spec L2 L3
local macro_rules | `(tactic| walk_at "go") => `(tactic|
  ((conv => whnf)
   repeat
    (first
     | ((with_reducible refine And.intro ?sd ?_); (case sd => (first | decide | assumption | omega | exact rfl | exact trivial | exact Nat.le_of_ble_eq_true rfl | exact mulR (by omega) (by omega) | exact mulL (by omega) (by omega) | exact div_ok (by omega) | exact pow_ok (by decide) | exact small_ok (by omega) | exact line_le (by decide) | exact line_le (Nat.le_of_ble_eq_true rfl) | exact line_lt (Nat.le_of_ble_eq_true rfl))))
     | ((with_reducible apply Exists.intro); (refine And.intro rfl ?_))
     (conv => whnf))))
theorem tx_cat (a b : List Bool) : tx a ++ tx b = tx (a ++ b) := by
  unfold tx
  rw [SX.S_cat, List.map_append]
theorem tx_len (a : List Bool) : (tx a).length = a.length := by unfold tx; rw [SX.S_len, List.length_map]
theorem tx_nil : Str.ofString "" = tx [] := by decide +kernel
theorem tx_cut (a : List Bool) (lo hi : Option Int) : cutS (tx a) lo hi = tx (cut a lo hi) := by
  unfold tx
  rw [cutS_S, cut_map]
theorem pl_tup {k : Nat} {xs : List D} (hl : xs.length ≤ 1000) (h : ∀ x ∈ xs, pl k x = true) : pl (k + 1) (.tuple xs) = true := by
  show (decide (xs.length ≤ 1000) && xs.all (pl k)) = true
  rw [decide_eq_true hl, Bool.true_and]
  exact List.all_eq_true.mpr h
theorem pl_ints {k : Nat} {ns : List Int} (hl : ns.length ≤ 1000) : pl (k + 2) (.tuple (ns.map .int)) = true :=
  pl_tup (by rw [List.length_map]; exact hl) fun x hx => by
    obtain ⟨n, _, rfl⟩ := List.mem_map.mp hx
    rfl
theorem pl_two {k : Nat} {x y : D} (h1 : pl (k + 1) x = true) (h2 : pl (k + 1) y = true) : pl (k + 2) (.tuple [x, y]) = true :=
  pl_tup (by simp) fun z hz => by
    rcases List.mem_cons.mp hz with rfl | hz
    · exact h1
    · rw [List.mem_singleton.mp hz]; exact h2
section
variable {S : Sto} {Q : DK}
/-- the two are one -/
theorem is_ok {k : Nat} {x y : D} (e : x = y) (p : pl k y = true) (q : Q (.d (.bool true)) S) : rd__law_is k [.d x, .d y] S Q := by
  subst e
  exact is_same k x p q
theorem law_dots_ok {m e : Int} {ls : List Int} (hl : ls.length ≤ 1000) (h : Q (.d (.tuple [.str (tx (dts m e ls)), .tuple ((ers m e ls).map .int)])) S) : rd__law_dots [.d (.tuple (ls.map .int)), .d (.int m), .d (.int e)] S Q := by
  rw [rd__law_dots_is]
  walk_at "go"
  rw [tx_nil]
  refine loop_inv (fun i ρ S' => S' = S ∧ ∃ x5, ρ = [.val (.d (.tuple (ls.map .int))), .val (.d (.int m)), .val (.d (.int (fin m e (ls.take i)))), .val (.d (.str (tx (dts m e (ls.take i))))), .own (.lst ((ers m e (ls.take i)).map .int)), x5]) (ls.map .int) 0 (fun j x ex ρ S' K hI hK => ?_) (fun ρ S' hI => ?_) _ _ ⟨rfl, _, rfl⟩
  · obtain ⟨rfl, x5, rfl⟩ := hI
    rw [Nat.zero_add] at *
    obtain ⟨l, el, rfl⟩ := get_map ex
    have hj : j < ls.length := (List.getElem?_eq_some_iff.mp el).1
    have hlen : ((ers m e (ls.take j)).map (PyData.int)).length < sizeLine := line_lt (by rw [List.length_map, ers_len, List.length_take]; omega)
    have hs1 : (tx (dts m e (ls.take j))).length + (Str.ofString "x").length ≤ sizeLine := line_le (by rw [tx_len, dts_len, List.length_take, str_x, tx_len]; simp; omega)
    have hs2 : (tx (dts m e (ls.take j))).length + (Str.ofString ".").length ≤ sizeLine := line_le (by rw [tx_len, dts_len, List.length_take, str_o, tx_len]; simp; omega)
    have key : K [.val (.d (.tuple (ls.map .int))), .val (.d (.int m)), .val (.d (.int (nxt m (fin m e (ls.take j) + l)).2)), .val (.d (.str (tx (dts m e (ls.take j)) ++ tx [(nxt m (fin m e (ls.take j) + l)).1]))), .own (.lst ((ers m e (ls.take j)).map .int ++ [.int (nxt m (fin m e (ls.take j) + l)).2])), .val (.d (.int l))] S' := by
      refine hK _ _ ⟨rfl, .val (.d (.int l)), ?_⟩
      rw [List.take_add_one, el, tx_cat]
      show _ = [_, _, Slot.val (.d (.int (fin m e (ls.take j ++ [l])))), Slot.val (.d (.str (tx (dts m e (ls.take j ++ [l]))))), Slot.own (.lst ((ers m e (ls.take j ++ [l])).map .int)), _]
      rw [fin_app, dts_app, ers_app, List.map_append]
      rfl
    generalize fin m e (ls.take j) = e0 at *
    refine ⟨trivial, ?_⟩
    walk_at "go"
    refine Br.d (fun c => ?_) (fun c => ?_)
    · have e1 : nxt m (e0 + l) = (true, e0 + l - m) := if_pos c
      rw [e1] at key
      walk_at "go"
      rw [str_x]
      exact key
    · have e1 : nxt m (e0 + l) = (false, e0 + l) := if_neg c
      rw [e1] at key
      walk_at "go"
      rw [str_o]
      exact key
  · obtain ⟨rfl, x5, rfl⟩ := hI
    refine ⟨trivial, ?_⟩
    walk_at "go"
    rw [Nat.zero_add, List.length_map, List.take_length]
    exact h
end
end Gn

set_option maxHeartbeats 400000
namespace Gn
open PySem PySem.Spec L2 L3
local macro_rules | `(tactic| walk_at "go") => `(tactic|
  ((conv => whnf)
   repeat
    (first
     | ((with_reducible refine And.intro ?sd ?_); (case sd => (first | decide | assumption | omega | exact rfl | exact trivial | exact Nat.le_of_ble_eq_true rfl | exact mulR (by omega) (by omega) | exact mulL (by omega) (by omega) | exact div_ok (by omega) | exact pow_ok (by decide) | exact small_ok (by omega) | exact line_le (by decide) | exact line_le (Nat.le_of_ble_eq_true rfl) | exact line_le (by simp [tx_len, dts_len, ers_len, str_x, str_o]; omega) | exact line_lt (by simp [tx_len, dts_len, ers_len]; omega) | exact line_lt (Nat.le_of_ble_eq_true rfl))))
     | ((with_reducible apply Exists.intro); (refine And.intro rfl ?_))
     (conv => whnf))))
theorem nat_cast_add (j : Nat) : (j : Int) + 1 = ((j + 1 : Nat) : Int) := rfl
theorem map_take {α β : Type} (f : α → β) (l : List α) (k : Nat) : (l.map f).take k = (l.take k).map f := (List.map_take ..).symm
theorem count_x (bs : List Bool) : ((tx bs).cps.toList.count 120 : Nat) = bs.count true := by
  show (bs.map cd).count 120 = _
  induction bs with
  | nil => rfl
  | cons b r ih =>
    rw [List.map_cons, List.count_cons, List.count_cons, ih]
    cases b <;> rfl
section
variable {S : Sto} {Q : DK}
theorem is_S {z : Str} (q : Q (.d (.bool true)) S) : rd__law_is 6 [.d (.str z), .d (.str z)] S Q := is_ok rfl rfl q
theorem is_B {b : Bool} (q : Q (.d (.bool true)) S) : rd__law_is 6 [.d (.bool b), .d (.bool b)] S Q := is_ok rfl rfl q
theorem levels_fine_ok {m c : Int} {ls : List Int} (hm : 1 ≤ m) (hm2 : m ≤ 24) (hc : 2 ≤ c ∧ c ≤ 5) (hl : ls.length ≤ 100) (hi : In m ls) (h : Q (.d (.bool true)) S) : rd__law_levels_fine [.d (.tuple (ls.map .int)), .d (.int m), .d (.int c)] S Q := by
  have g0 : Rg m 0 := ⟨by omega, by omega⟩
  have hL : (List.map PyData.int (ers m 0 ls)).length = ls.length := by rw [List.length_map, ers_len]
  have hL2 : (List.map PyData.int ls).length = ls.length := by rw [List.length_map]
  have hT : (tx (dts m 0 ls)).length ≤ sizeLine := line_le (by rw [tx_len, dts_len]; omega)
  rw [rd__law_levels_fine_is]
  walk_at "go"
  refine dotted_ok (by omega) ?_
  walk_at "go"
  refine errors_of_ok (by omega) ?_
  walk_at "go"
  refine law_dots_ok (by omega) ?_
  walk_at "go"
  refine is_ok rfl (pl_two rfl (pl_ints (by rw [ers_len]; omega))) ?_
  walk_at "go"
  refine is_close_ok (by omega) (dts_len _ _ _) ?_
  walk_at "go"
  refine is_ok (by rw [clo_dts g0 hi]) rfl ?_
  walk_at "go"
  refine comp_mapE PyData.int (fun l => .int (c * l)) ls trivial (by omega) (fun y _ K K' hK => ?_) ?_
  · walk_at "go"
    exact hK
  walk_at "go"
  have e1 : (ls.map fun l => (.int (c * l) : D)) = (ls.map (c * ·)).map .int := by rw [List.map_map]; rfl
  rw [e1]
  apply cutR
  · intro r
    refine Br.d (fun c1 => ?_) (fun c1 => ?_)
    · walk_at "go"
      refine dotted_ok (by rw [List.length_map]; omega) ?_
      walk_at "go"
      refine errors_of_ok (by rw [List.length_map]; omega) ?_
      walk_at "go"
      refine comp_mapE PyData.int (fun l => .int (c * l)) (ers m 0 ls) trivial (by rw [ers_len]; omega) (fun y _ K K' hK => ?_) ?_
      · walk_at "go"
        exact hK
      walk_at "go"
      have e2 : ((ers m 0 ls).map fun l => (.int (c * l) : D)) = ((ers m 0 ls).map (c * ·)).map .int := by rw [List.map_map]; rfl
      rw [e2, dts_scale hc, ers_scale hc]
      refine is_ok rfl (pl_two rfl (pl_ints (by rw [List.length_map, ers_len]; omega))) ?_
      walk_at "go"
      exact r.r
    · walk_at "go"
      exact r.r
  refine loopR (α := L3.Slot) (fun x6 => [.val (.d (.tuple (ls.map .int))), .val (.d (.int m)), .val (.d (.int c)), .val (.d (.str (tx (dts m 0 ls)))), .val (.d (.tuple ((ers m 0 ls).map .int))), .val (.d (.tuple ((ls.map (c * ·)).map .int))), x6, .no, .no, .no, .no]) S _ (fun j hj s K hK => ?_) (fun s => ?_) _
  · have hj : j < ls.length := by omega
    have hg := ers_get m ls 0 j hj
    have rg : Rg m (fin m 0 (ls.take (j + 1))) := fin_rg g0 (hi.take _)
    have fs := fin_sum m (ls.take (j + 1)) 0
    walk_at "go"
    refine At.map hg ?_
    walk_at "go"
    rw [nat_cast_add, cut_to, map_take, intsOf_map]
    walk_at "go"
    rw [show (UInt8.ofNat 'x'.val.toNat).toNat = 120 from rfl, nat_cast_add, tx_cut, cut_to, count_x, dts_take]
    refine Br.nd (fun c => absurd (by rw [fs]; omega) c) (fun c => ?_)
    walk_at "go"
    refine At.map hg ?_
    walk_at "go"
    refine Br.dT (by have := rg.1; omega) ?_
    walk_at "go"
    refine Br.nd (fun c => absurd rg.2 c) (fun c => ?_)
    walk_at "go"
    exact hK _
  walk_at "go"
  have ce : ∀ k : Nat, cut (ls.map PyData.int) none (some (k : Int)) = (ls.take k).map .int := fun k => by rw [cut_to, map_take]
  have cf : ∀ k : Nat, cut (ls.map PyData.int) (some (k : Int)) none = (ls.drop k).map .int := fun k => by rw [cut_from, List.map_drop]
  have te : ∀ k : Nat, cutS (tx (dts m 0 ls)) none (some (k : Int)) = tx ((dts m 0 ls).take k) := fun k => by rw [tx_cut, cut_to]
  have tf : ∀ k : Nat, cutS (tx (dts m 0 ls)) (some (k : Int)) none = tx ((dts m 0 ls).drop k) := fun k => by rw [tx_cut, cut_from]
  refine loopR (α := L3.Slot × L3.Slot) (fun x => [.val (.d (.tuple (ls.map .int))), .val (.d (.int m)), .val (.d (.int c)), .val (.d (.str (tx (dts m 0 ls)))), .val (.d (.tuple ((ers m 0 ls).map .int))), .val (.d (.tuple ((ls.map (c * ·)).map .int))), x.1, x.2, .no, .no, .no]) S _ (fun j hj s K hK => ?_) (fun s => ?_) ⟨_, _⟩
  · have hj : j ≤ ls.length := by omega
    walk_at "go"
    rw [ce]
    walk_at "go"
    rw [cf]
    walk_at "go"
    have q1 : ∀ z : Int, (ls.take j).map PyData.int ++ (fun x => PyData.int z :: x) [] ++ (ls.drop j).map .int = (ls.take j ++ [z] ++ ls.drop j).map .int := fun z => by rw [List.map_append, List.map_append]; rfl
    have l1 : ∀ z : Int, (ls.take j ++ [z] ++ ls.drop j).length ≤ 1000 := fun z => by simp; omega
    rw [q1]
    refine dotted_ok (l1 _) ?_
    walk_at "go"
    rw [te]
    walk_at "go"
    rw [tf]
    walk_at "go"
    rw [str_o, tx_cat]
    walk_at "go"
    rw [tx_cat, dts_o hm hi]
    refine is_S ?_
    walk_at "go"
    rw [ce]
    walk_at "go"
    rw [cf]
    walk_at "go"
    rw [q1]
    refine dotted_ok (l1 _) ?_
    walk_at "go"
    rw [te]
    walk_at "go"
    rw [tf]
    walk_at "go"
    rw [str_x, tx_cat]
    walk_at "go"
    rw [tx_cat, dts_m hm hi]
    refine is_S ?_
    walk_at "go"
    exact hK (_, _)
  walk_at "go"
  refine loopR (α := L3.Slot × L3.Slot × L3.Slot) (fun x => [.val (.d (.tuple (ls.map .int))), .val (.d (.int m)), .val (.d (.int c)), .val (.d (.str (tx (dts m 0 ls)))), .val (.d (.tuple ((ers m 0 ls).map .int))), .val (.d (.tuple ((ls.map (c * ·)).map .int))), x.1, x.2.1, x.2.2, .no, .no]) S _ (fun j hj s K hK => ?_) (fun s => ?_) ⟨_, _, _⟩
  · obtain ⟨s6, s7, s8⟩ := s
    have hj : j < ls.length := by omega
    obtain ⟨b, hb⟩ : ∃ b, (dts m 0 ls)[j]? = some b := ⟨_, List.getElem?_eq_getElem (by rw [dts_len]; exact hj)⟩
    have hb2 : (tx (dts m 0 ls)).cps.toList[j]? = some (cd b) := by
      show ((dts m 0 ls).map cd)[j]? = _
      rw [List.getElem?_map, hb]
      rfl
    have bent : clo m 0 ls ((dts m 0 ls).take j ++ [!b] ++ (dts m 0 ls).drop (j + 1)) = false := by
      have hlj : ls = ls.take j ++ ls[j] :: ls.drop (j + 1) := by rw [← List.drop_eq_getElem_cons hj, List.take_append_drop]
      have hbj : b = (nxt m (fin m 0 (ls.take j) + ls[j])).1 := by
        have e : dts m 0 ls = dts m 0 (ls.take j) ++ (nxt m (fin m 0 (ls.take j) + ls[j])).1 :: dts m (nxt m (fin m 0 (ls.take j) + ls[j])).2 (ls.drop (j + 1)) := by
          conv => lhs; rw [hlj]
          rw [dts_app]
          rfl
        rw [e, List.getElem?_append_right (by rw [dts_len, List.length_take]; omega), dts_len, List.length_take, show j - min j ls.length = 0 by omega] at hb
        exact (Option.some.inj hb).symm
      have := clo_bent (post := ls.drop (j + 1)) (t := (dts m 0 ls).drop (j + 1)) g0 (hi.take j) (hi ls[j] (List.getElem_mem hj)).1 (hi ls[j] (List.getElem_mem hj)).2
      rw [← hlj, ← hbj] at this
      rw [dts_take, List.append_assoc]
      exact this
    walk_at "go"
    rw [te]
    walk_at "go"
    refine At.nat hb2 ?_
    walk_at "go"
    have tf2 : cutS (tx (dts m 0 ls)) (some ((j : Int) + 1)) none = tx ((dts m 0 ls).drop (j + 1)) := tf (j + 1)
    cases b with
    | true =>
      walk_at "go"
      rw [tf2]
      walk_at "go"
      rw [str_o, tx_cat]
      walk_at "go"
      rw [tx_cat]
      refine is_close_ok (ls := ls) (by omega) ?_ ?_
      · simp [dts_len]
        omega
      walk_at "go"
      rw [show [false] = [!true] from rfl, bent]
      refine is_B ?_
      walk_at "go"
      exact hK (.val (.d (.int (j : Nat))), s7, .val (.d (.str _)))
    | false =>
      walk_at "go"
      rw [tf2]
      walk_at "go"
      rw [str_x, tx_cat]
      walk_at "go"
      rw [tx_cat]
      refine is_close_ok (ls := ls) (by omega) ?_ ?_
      · simp [dts_len]
        omega
      walk_at "go"
      rw [show [true] = [!false] from rfl, bent]
      refine is_B ?_
      walk_at "go"
      exact hK (.val (.d (.int (j : Nat))), s7, .val (.d (.str _)))
  · walk_at "go"
    exact h
end
end Gn

set_option maxHeartbeats 400000
namespace Gn
open PySem PySem.Spec L2 L3
local macro_rules | `(tactic| walk_at "go") => `(tactic|
  ((conv => whnf)
   repeat
    (first
     | ((with_reducible refine And.intro ?sd ?_); (case sd => (first | decide | assumption | omega | exact rfl | exact trivial | exact Nat.le_of_ble_eq_true rfl | exact mulR (by omega) (by omega) | exact mulL (by omega) (by omega) | exact div_ok (by omega) | exact pow_ok (by decide) | exact small_ok (by omega) | exact line_le (by decide) | exact line_le (Nat.le_of_ble_eq_true rfl) | exact line_le (by simp [tx_len, dts_len, ers_len, str_x, str_o]; omega) | exact line_lt (by simp [tx_len, dts_len, ers_len]; omega) | exact line_lt (Nat.le_of_ble_eq_true rfl))))
     | ((with_reducible apply Exists.intro); (refine And.intro rfl ?_))
     (conv => whnf))))
theorem ers_last {m : Int} {ls : List Int} (h : ls ≠ []) : (ers m 0 ls)[(ers m 0 ls).length - 1]? = some (fin m 0 ls) := by
  have h0 : 0 < ls.length := by cases ls with | nil => exact absurd rfl h | cons => simp
  rw [ers_len, ers_get m ls 0 (ls.length - 1) (by omega), show ls.length - 1 + 1 = ls.length by omega, List.take_length]
theorem app_ints (a b : List Int) : a.map PyData.int ++ b.map .int = (a ++ b).map .int := (List.map_append ..).symm
theorem tx_times (a : List Bool) : strTimes (tx a) 2 = tx (a ++ a) := by
  show SX.S (List.replicate 2 (a.map cd)).flatten = SX.S ((a ++ a).map cd)
  rw [List.map_append]
  simp [List.replicate_succ]
section
variable {S : Sto} {Q : DK}
theorem behind_fine_ok {m : Int} {ls ms : List Int} (hm : 1 ≤ m) (hm2 : m ≤ 24) (hl : ls.length ≤ 100) (hl2 : ms.length ≤ 100) (hi : In m ls) (h : Q (.d (.bool true)) S) : rd__law_behind_fine [.d (.tuple (ls.map .int)), .d (.tuple (ms.map .int)), .d (.int m)] S Q := by
  have g0 : Rg m 0 := ⟨by omega, by omega⟩
  have rg : Rg m (fin m 0 ls) := fin_rg g0 hi
  have hL : (List.map PyData.int (ers m 0 ls)).length = ls.length := by rw [List.length_map, ers_len]
  rw [rd__law_behind_fine_is]
  walk_at "go"
  refine errors_of_ok (by omega) ?_
  walk_at "go"
  rw [app_ints]
  apply cutR
  · intro r
    refine Br.d (fun c1 => ?_) (fun c1 => ?_)
    · have hne : ls ≠ [] := fun e => by
        have h1 : ls.length = 0 := by rw [e]; rfl
        omega
      walk_at "go"
      refine At.last (z := .int (fin m 0 ls)) ?_ ?_ ?_
      · rw [hL, List.getElem?_map]
        have := ers_last (m := m) hne
        rw [ers_len] at this
        rw [this]
        rfl
      · intro e
        have := congrArg List.length e
        rw [hL] at this
        exact hne (List.eq_nil_of_length_eq_zero this)
      · walk_at "go"
        exact r.r
    · have hne : ls = [] := List.eq_nil_of_length_eq_zero (by rw [hL] at c1; omega)
      walk_at "go"
      subst hne
      exact r.r
  refine law_dots_ok (by omega) ?_
  walk_at "go"
  refine dotted_ok (ls := ls ++ ms) (by simp; omega) ?_
  walk_at "go"
  refine errors_of_ok (ls := ls ++ ms) (by simp; omega) ?_
  walk_at "go"
  refine dotted_ok (by omega) ?_
  walk_at "go"
  rw [tx_cat, app_ints, ← dts_app, ← ers_app]
  refine is_ok rfl (pl_two rfl (pl_ints (by rw [ers_len]; simp; omega))) ?_
  walk_at "go"
  have q1 : ∀ z : Int, (fun x => PyData.int z :: x) [] ++ ms.map .int = (z :: ms).map .int := fun z => rfl
  have d1 : ∀ z b, nxt m (0 + z) = (b, fin m 0 ls) → dts m 0 (z :: ms) = [b] ++ dts m (fin m 0 ls) ms := fun z b e => by
    show (nxt m (0 + z)).1 :: dts m (nxt m (0 + z)).2 ms = _
    rw [e]
    rfl
  have l1 : ∀ z : Int, (z :: ms).length ≤ 1000 := fun z => by simp; omega
  apply cutR
  · intro r
    refine Br.d (fun c1 => ?_) (fun c1 => ?_)
    · walk_at "go"
      rw [q1]
      refine dotted_ok (l1 _) ?_
      walk_at "go"
      rw [str_o, tx_cat, d1 (fin m 0 ls) false (by unfold nxt; rw [if_neg (by have := rg.2; omega)]; refine Prod.ext rfl ?_; show 0 + _ = _; omega)]
      refine is_S ?_
      walk_at "go"
      exact r.r
    · walk_at "go"
      exact r.r
  apply cutR
  · intro r
    refine Br.d (fun c1 => ?_) (fun c1 => ?_)
    · walk_at "go"
      rw [q1]
      refine dotted_ok (l1 _) ?_
      walk_at "go"
      rw [str_x, tx_cat, d1 (m + fin m 0 ls) true (by unfold nxt; rw [if_pos (by have := rg.1; omega)]; refine Prod.ext rfl ?_; show 0 + (m + _) - m = _; omega)]
      refine is_S ?_
      walk_at "go"
      exact r.r
    · walk_at "go"
      exact r.r
  have fin_ : Q (.d (.bool true)) S := h
  apply cutR
  · intro r
    refine Br.d (fun c1 => ?_) (fun c1 => ?_)
    · walk_at "go"
      refine Br.d (fun c2 => ?_) (fun c2 => ?_)
      · walk_at "go"
        refine Br.d (fun c3 => ?_) (fun c3 => ?_)
        · walk_at "go"
          rw [app_ints]
          refine dotted_ok (ls := ls ++ ls) (by simp; omega) ?_
          walk_at "go"
          refine dotted_ok (by omega) ?_
          walk_at "go"
          refine ⟨⟨by decide, by decide, line_le (by rw [tx_len, dts_len]; show ls.length * 2 ≤ _; omega)⟩, ?_⟩
          walk_at "go"
          rw [tx_times, dts_app, c3]
          exact is_S h
        · walk_at "go"
          exact r.r
      · walk_at "go"
        exact r.r
    · walk_at "go"
      exact r.r
  exact h
end
end Gn

set_option maxHeartbeats 400000
namespace Gn
open PySem PySem.Spec L2 L3
local macro_rules | `(tactic| walk_at "go") => `(tactic|
  ((conv => whnf)
   repeat
    (first
     | ((with_reducible refine And.intro ?sd ?_); (case sd => (first | decide | assumption | omega | exact rfl | exact trivial | exact Nat.le_of_ble_eq_true rfl | exact mulR (by omega) (by omega) | exact mulL (by omega) (by omega) | exact div_ok (by omega) | exact pow_ok (by decide) | exact small_ok (by omega) | exact line_le (by decide) | exact line_le (Nat.le_of_ble_eq_true rfl) | exact line_le (by simp [tx_len, dts_len, ers_len, str_x, str_o]; omega) | exact line_lt (by simp [tx_len, dts_len, ers_len]; omega) | exact line_lt (Nat.le_of_ble_eq_true rfl))))
     | ((with_reducible apply Exists.intro); (refine And.intro rfl ?_))
     (conv => whnf))))
def jk : Option Int → L3.Slot
  | none => .no
  | some l => .val (.d (.int l))
def tieL (m : Int) : Int → Bool → List Int → Bool
  | _, b, [] => b
  | s, b, l :: r => tieL m (s + l) (b || decide (2 * (s + l) % (2 * m) = m)) r
theorem tieL_snoc (m : Int) : ∀ (ls : List Int) (s : Int) (b : Bool) (l : Int), tieL m s b (ls ++ [l]) = (tieL m s b ls || decide (2 * (s + ls.sum + l) % (2 * m) = m))
  | [], s, b, l => by show (b || _) = (b || decide (2 * (s + 0 + l) % (2 * m) = m)); rw [Int.add_zero]
  | q :: r, s, b, l => by
    show tieL m (s + q) _ (r ++ [l]) = (tieL m (s + q) _ r || decide (2 * (s + (q + r.sum) + l) % (2 * m) = m))
    rw [tieL_snoc m r, Int.add_assoc s q r.sum]
theorem tieL_false {m : Int} : ∀ {ls : List Int} {s : Int} {b : Bool}, tieL m s b ls = false → b = false
  | [], _, _, h => h
  | l :: r, s, b, h => by
    have := tieL_false (ls := r) h
    cases b
    · rfl
    · cases this
theorem no_tie {m : Int} (hm : 1 ≤ m) : ∀ {ls : List Int} {s w k : Int} {b : Bool}, s = w + m * k → tieL m s b ls = false → noTie m w ls
  | [], _, _, _, _, _, _ => trivial
  | l :: r, s, w, k, b, e, h => by
    have h1 := tieL_false (ls := r) (s := s + l) h
    have h2 : ¬ (2 * (s + l) % (2 * m) = m) := by
      intro z
      rw [decide_eq_true z, Bool.or_true] at h1
      cases h1
    refine ⟨fun z => h2 ?_, ?_⟩
    · have e2 : 2 * (s + l) = m + (2 * m) * k := by
        rw [e]
        have : (2 * m) * k = 2 * (m * k) := Int.mul_assoc 2 m k
        omega
      rw [e2, Int.add_mul_emod_self_left, Int.emod_eq_of_lt (by omega) (by omega)]
    · by_cases c : m ≤ 2 * (w + l)
      · have e3 : (nxt m (w + l)).2 = w + l - m := by unfold nxt; rw [if_pos c]
        refine no_tie hm (s := s + l) (k := k + 1) ?_ h
        rw [e3, e, Int.mul_add, Int.mul_one]
        omega
      · have e3 : (nxt m (w + l)).2 = w + l := by unfold nxt; rw [if_neg c]
        refine no_tie hm (s := s + l) (k := k) ?_ h
        rw [e3, e]
        omega
theorem dts_other {m : Int} {ls : List Int} (h : noTie m 0 ls) : dts m 0 (ls.map (m - ·)) = (dts m 0 ls).map (!·) := by
  have := stp_other h
  unfold dts
  rw [show (0 : Int) - 0 = 0 from rfl] at this
  rw [this, List.map_map, List.map_map]
  rfl
theorem ers_other {m : Int} {ls : List Int} (h : noTie m 0 ls) : ers m 0 (ls.map (m - ·)) = (ers m 0 ls).map (0 - ·) := by
  have := stp_other h
  unfold ers
  rw [show (0 : Int) - 0 = 0 from rfl] at this
  rw [this, List.map_map, List.map_map]
  rfl
theorem signs_tx (bs : List Bool) : signs (tx bs) = bs.map fun b => .str (tx [b]) := by
  unfold tx
  rw [signs_S, List.map_map]
  rfl
section
variable {S : Sto} {Q : DK}
theorem other_fine_ok {m : Int} {ls : List Int} (hm : 1 ≤ m) (hm2 : m ≤ 24) (hl : ls.length ≤ 100) (h : Q (.d (.bool true)) S) : rd__law_other_fine [.d (.tuple (ls.map .int)), .d (.int m)] S Q := by
  rw [rd__law_other_fine_is]
  walk_at "go"
  refine dotted_ok (by omega) ?_
  walk_at "go"
  refine errors_of_ok (by omega) ?_
  walk_at "go"
  refine loopA (α := Option Int) (fun i x => [.val (.d (.tuple (ls.map .int))), .val (.d (.int m)), .val (.d (.str (tx (dts m 0 ls)))), .val (.d (.tuple ((ers m 0 ls).map .int))), .val (.d (.int (ls.take i).sum)), .val (.d (.bool (tieL m 0 false (ls.take i)))), jk x, .no, .no, .no, .no]) S (ls.map PyData.int) (fun _ _ => trivial) (fun j x ex s K hK => ?_) (fun s => ?_) none
  · obtain ⟨l, el, rfl⟩ := get_map ex
    have e1 : (ls.take (j + 1)).sum = (ls.take j).sum + l := by
      rw [List.take_add_one, el, List.sum_append]
      show _ + (l + 0) = _
      rw [Int.add_zero]
    have e2 : tieL m 0 false (ls.take (j + 1)) = (tieL m 0 false (ls.take j) || decide (2 * ((ls.take j).sum + l) % (2 * m) = m)) := by
      rw [List.take_add_one, el]
      show tieL m 0 false (ls.take j ++ [l]) = _
      rw [tieL_snoc, Int.zero_add]
    have hK' := hK (some l)
    rw [e1, e2] at hK'
    have p2 : (0 : Int) < 2 * m := by omega
    cases hb : tieL m 0 false (ls.take j) with
    | true =>
      rw [hb] at hK'
      walk_at "go"
      exact hK'
    | false =>
      rw [hb] at hK'
      walk_at "go"
      exact hK'
  · rw [List.length_map, List.take_length]
    have hn : ∀ a b c d e f g h i j : L3.Slot, noOwn [a, b, c, d, e, f, jk s, g, h, i, j] [6] = true := fun a b c d e f g h i j => by cases s <;> rfl
    walk_at "go"
    refine ⟨hn _ _ _ _ _ _ _ _ _ _, ?_⟩
    walk_at "go"
    refine comp_mapE PyData.int (fun l => .int (m - l)) ls trivial (by omega) (fun y _ K K' hK => ?_) ?_
    · walk_at "go"
      exact hK
    walk_at "go"
    have e1 : (ls.map fun l => (.int (m - l) : D)) = (ls.map (m - ·)).map .int := by rw [List.map_map]; rfl
    rw [e1]
    cases hb : tieL m 0 false ls with
    | true =>
      walk_at "go"
      exact h
    | false =>
      have nt : noTie m 0 ls := no_tie hm (k := 0) (by rw [Int.mul_zero]; rfl) hb
      walk_at "go"
      rw [signs_tx]
      refine comp_mapE (fun b => .str (tx [b])) (fun b => .str (tx [!b])) (dts m 0 ls) trivial (by rw [dts_len]; omega) (fun b _ K K' hK => ?_) ?_
      · cases b with
        | true =>
          walk_at "go"
          rw [str_o]
          exact hK
        | false =>
          walk_at "go"
          rw [str_x]
          exact hK
      have e2 : ((dts m 0 ls).map fun b => (.str (tx [!b]) : D)) = (((dts m 0 ls).map (!·)).map cd).map fun c => .str (SX.S [c]) := by
        rw [List.map_map, List.map_map]
        rfl
      rw [e2]
      walk_at "go"
      rw [strsOf_signs]
      (conv => whnf)
      refine ⟨?_, ?_⟩
      · rw [signs_len, List.length_map, List.length_map, dts_len]
        omega
      rw [join_signs]
      walk_at "go"
      refine dotted_ok (by simp; omega) ?_
      walk_at "go"
      refine errors_of_ok (by simp; omega) ?_
      walk_at "go"
      refine comp_mapE PyData.int (fun l => .int (0 - l)) (ers m 0 ls) trivial (by rw [ers_len]; omega) (fun y _ K K' hK => ?_) ?_
      · walk_at "go"
        exact hK
      walk_at "go"
      have e3 : ((ers m 0 ls).map fun l => (.int (0 - l) : D)) = ((ers m 0 ls).map (0 - ·)).map .int := by rw [List.map_map]; rfl
      rw [e3, dts_other nt, ers_other nt]
      exact is_ok rfl (pl_two rfl (pl_ints (by rw [List.length_map, ers_len]; omega))) h
end
end Gn

set_option maxHeartbeats 400000
namespace Gn
open PySem PySem.Spec L2 L3
local macro_rules | `(tactic| walk_at "go") => `(tactic|
  ((conv => whnf)
   repeat
    (first
     | ((with_reducible refine And.intro ?sd ?_); (case sd => (first | decide | assumption | omega | exact rfl | exact trivial | exact Nat.le_of_ble_eq_true rfl | exact mulR (by omega) (by omega) | exact mulL (by omega) (by omega) | exact div_ok (by omega) | exact pow_ok (by decide) | exact small_ok (by omega) | exact line_le (by decide) | exact line_le (Nat.le_of_ble_eq_true rfl) | exact line_le (by simp [tx_len, dts_len, ers_len, str_x, str_o]; omega) | exact line_lt (by simp [tx_len, dts_len, ers_len]; omega) | exact line_lt (Nat.le_of_ble_eq_true rfl))))
     | ((with_reducible apply Exists.intro); (refine And.intro rfl ?_))
     (conv => whnf))))
/-! ### cadences, plainly -/
def nD (c : List Nat) : List D := c.map fun n : Nat => .int n
def cadI (a b : Nat) : Nat → List Nat
  | 0 => List.replicate a 0
  | i + 1 => (cadI a b i).set (i * a / b) ((cadI a b i).getD (i * a / b) 0 + 1)
def cad (a b : Nat) : List Nat := cadI a b b
def rot (k : Nat) (c : List Nat) : List Nat := c.drop k ++ c.take k
def ssum (c : List Nat) (len p : Nat) : Nat := (((c ++ c).drop p).take len).sum
def evenB (c : List Nat) : Bool := (List.range (c.length - 1)).all fun l =>
  ((List.range c.length).map (ssum c (l + 1))).all fun x => ((List.range c.length).map (ssum c (l + 1))).all fun y => Nat.blt x (y + 2)
def turnOf (c : List Nat) : Option Nat := (List.range c.length).find? fun v => decide (rot ((c.length - v) % c.length) (cad c.length c.sum) = c)
theorem cadI_len (a b : Nat) : ∀ i, (cadI a b i).length = a
  | 0 => List.length_replicate
  | i + 1 => by show (List.set _ _ _).length = a; rw [List.length_set, cadI_len a b i]
theorem cad_len (a b : Nat) : (cad a b).length = a := cadI_len a b b
theorem rot_len (k : Nat) (c : List Nat) : (rot k c).length = c.length := by unfold rot; simp; omega
theorem nD_len (c : List Nat) : (nD c).length = c.length := by unfold nD; rw [List.length_map]
theorem rep_zero (a : Nat) : (List.replicate a [(.int 0 : D)]).flatten = nD (List.replicate a 0) := by
  unfold nD
  rw [List.map_replicate]
  induction a with
  | zero => rfl
  | succ a ih => rw [List.replicate_succ, List.flatten_cons, ih]; rfl
theorem ixN_nat {n i : Nat} (h : i < n) : ixN n (i : Int) = some i := by
  unfold ixN
  rw [if_pos (by omega), if_pos (by omega), Int.toNat_natCast]
theorem nD_get {c : List Nat} {i : Nat} (h : i < c.length) : (nD c)[i]? = some (.int (c.getD i 0 : Nat)) := by
  unfold nD
  rw [List.getElem?_map, List.getElem?_eq_getElem h, List.getD_eq_getElem?_getD, List.getElem?_eq_getElem h]
  rfl
theorem nD_set (c : List Nat) (i x : Nat) : (nD c).set i (.int (x : Nat)) = nD (c.set i x) := by
  unfold nD
  rw [List.map_set]
theorem nD_app (c d : List Nat) : nD c ++ nD d = nD (c ++ d) := (List.map_append ..).symm
theorem nD_cut (c : List Nat) (lo hi : Option Int) : cut (nD c) lo hi = nD (cut c lo hi) := cut_map _ _ _ _
theorem nD_ints (c : List Nat) : intsOf (nD c) = some (c.map fun n : Nat => (n : Int)) := intsOf_nats c
theorem sum_cast (c : List Nat) : (c.map fun n : Nat => (n : Int)).sum = ((c.sum : Nat) : Int) := by
  induction c with
  | nil => rfl
  | cons n r ih => rw [List.map_cons, List.sum_cons, ih, List.sum_cons]; omega
section
variable {S : Sto} {Q : DK}
theorem shown_at_ok {a b s : Nat} (ha : a ≤ 1000) (hb : 0 < b) (hb2 : b ≤ 1000) (hs : s ≤ 1000) (h : Q (.d (.int (s * a / b : Nat))) S) : rd_shown_at [.d (.int (a : Nat)), .d (.int (b : Nat)), .d (.int (s : Nat))] S Q := by
  rw [rd_shown_at_is]
  walk_at "go"
  exact h
theorem cadence_of_ok {a b : Nat} (ha : a ≤ 1000) (ha0 : 0 < a) (hb : b ≤ 1000) (h : Q (.d (.tuple (nD (cad a b)))) S) : rd_cadence_of [.d (.int (a : Nat)), .d (.int (b : Nat))] S Q := by
  rw [rd_cadence_of_is]
  walk_at "go"
  refine ⟨⟨by omega, by omega, line_le (by simp; omega)⟩, ?_⟩
  walk_at "go"
  rw [show (a : Int).toNat = a from rfl, rep_zero]
  refine loopA (α := L3.Slot) (fun i x => [.val (.d (.int (a : Nat))), .val (.d (.int (b : Nat))), .own (.lst (nD (cadI a b i))), x]) S (rng 0 b) (fun _ _ => trivial) (fun j x ex s K hK => ?_) (fun s => ?_) _
  · obtain ⟨hj, rfl⟩ := rng_get ex
    rw [Int.zero_add]
    walk_at "go"
    refine shown_at_ok ha (by omega) hb (by omega) ?_
    have hlt : j * a / b < a := by
      rw [Nat.div_lt_iff_lt_mul (by omega), Nat.mul_comm a b]
      exact Nat.mul_lt_mul_of_pos_right hj ha0
    (conv => whnf)
    refine ⟨j * a / b, .int ((cadI a b j).getD (j * a / b) 0 : Nat), by rw [nD_len, cadI_len]; exact ixN_nat hlt, nD_get (by rw [cadI_len]; exact hlt), ?_⟩
    walk_at "go"
    have := hK (.val (.d (.int (j : Nat))))
    rw [show cadI a b (j + 1) = (cadI a b j).set (j * a / b) ((cadI a b j).getD (j * a / b) 0 + 1) from rfl, ← nD_set] at this
    exact this
  · rw [rng_len]
    walk_at "go"
    exact h
theorem cadence_turned_ok {c : List Nat} {v : Int} (hc : 0 < c.length) (hc2 : c.length ≤ 1000) (h : Q (.d (.tuple (nD (rot ((-v) % (c.length : Nat)).toNat c)))) S) : rd_cadence_turned [.d (.tuple (nD c)), .d (.int v)] S Q := by
  have hL := nD_len c
  rw [rd_cadence_turned_is]
  walk_at "go"
  rw [hL]
  have e0 : 0 ≤ (-v) % (c.length : Int) := Int.emod_nonneg _ (by omega)
  obtain ⟨k, hk⟩ : ∃ k : Nat, (-v) % (c.length : Int) = k := ⟨((-v) % (c.length : Int)).toNat, by omega⟩
  rw [hk] at h ⊢
  rw [nD_cut, nD_cut, cut_from, cut_to, nD_app]
  refine ⟨line_le (by rw [nD_len, nD_len]; simp; omega), ?_⟩
  exact h
theorem stretch_sum_ok {c : List Nat} {l p : Nat} (hc2 : c.length ≤ 1000) (h : Q (.d (.int (ssum c l p : Nat))) S) : rd_stretch_sum [.d (.tuple (nD c)), .d (.int (l : Nat)), .d (.int (p : Nat))] S Q := by
  have hL := nD_len c
  rw [rd_stretch_sum_is]
  walk_at "go"
  refine ⟨line_le (by omega), ?_⟩
  walk_at "go"
  rw [nD_app, nD_cut, show (p : Int) + (l : Int) = ((p + l : Nat) : Int) from rfl, cut_mid, nD_ints]
  walk_at "go"
  rw [sum_cast]
  rw [show (List.take (p + l - p) (List.drop p (c ++ c))).sum = ssum c l p by unfold ssum; rw [Nat.add_sub_cancel_left]]
  exact h
theorem even_get {c : List Nat} (h : evenB c = true) {l i j : Nat} (hl : l < c.length - 1) (hi : i < c.length) (hj : j < c.length) : ssum c (l + 1) i < ssum c (l + 1) j + 2 := by
  have h1 := List.all_eq_true.mp h l (List.mem_range.mpr hl)
  have h2 := List.all_eq_true.mp h1 _ (List.mem_map.mpr ⟨i, List.mem_range.mpr hi, rfl⟩)
  have h3 := List.all_eq_true.mp h2 _ (List.mem_map.mpr ⟨j, List.mem_range.mpr hj, rfl⟩)
  exact Nat.blt_eq.mp h3
theorem told_limp_ok {c : List Nat} (hc2 : c.length ≤ 1000) (he : evenB c = true) (h : Q (.d .none) S) : rd_told_limp [.d (.tuple (nD c))] S Q := by
  have hL := nD_len c
  rw [rd_told_limp_is]
  walk_at "go"
  rw [hL]
  refine loopR2 (α := L3.Slot × L3.Slot × L3.Slot × L3.Slot) (fun x => [.val (.d (.tuple (nD c))), .val (.d (.int (c.length : Nat))), x.1, x.2.1, x.2.2.1, x.2.2.2, .no]) S 1 _ (fun j hj s K hK => ?_) (fun s => ?_) ⟨_, _, _, _⟩
  · obtain ⟨s1, s2, s3, s4⟩ := s
    have hj2 : j < c.length - 1 := by omega
    walk_at "go"
    refine comp_rng (fun i => .int (ssum c (j + 1) i : Nat)) _ (by omega) (fun i hi K K' hK => ?_) ?_
    · walk_at "go"
      rw [show (1 : Int) + (j : Int) = ((j + 1 : Nat) : Int) by omega]
      refine stretch_sum_ok hc2 ?_
      exact hK
    walk_at "go"
    have hK' : ∀ s3 s4, K [.val (.d (.tuple (nD c))), .val (.d (.int (c.length : Nat))), .val (.d (.int (1 + (j : Nat)))), .val (.d (.list ((List.range c.length).map fun i => .int (ssum c (j + 1) i : Nat)))), s3, s4, .no] S := fun s3 s4 => hK (_, _, _, _)
    refine loopR (α := L3.Slot × L3.Slot) (fun x => [.val (.d (.tuple (nD c))), .val (.d (.int (c.length : Nat))), .val (.d (.int (1 + (j : Nat)))), .val (.d (.list ((List.range c.length).map fun i => .int (ssum c (j + 1) i : Nat)))), x.1, x.2, .no]) S _ (fun i hi s K2 hK2 => ?_) (fun s => hK' _ _) ⟨_, _⟩
    obtain ⟨s3, s4⟩ := s
    walk_at "go"
    refine loopR (α := L3.Slot) (fun x => [.val (.d (.tuple (nD c))), .val (.d (.int (c.length : Nat))), .val (.d (.int (1 + (j : Nat)))), .val (.d (.list ((List.range c.length).map fun i => .int (ssum c (j + 1) i : Nat)))), .val (.d (.int (i : Nat))), x, .no]) S _ (fun i2 hi2 s K3 hK3 => ?_) (fun s => hK2 (_, _)) _
    have hi : i < c.length := by omega
    have hi2 : i2 < c.length := by omega
    have key := even_get he hj2 hi hi2
    have g : ∀ k, k < c.length → (List.range c.length)[k]? = some k := fun k hk => by rw [List.getElem?_range hk]
    walk_at "go"
    refine At.map (g i hi) ?_
    walk_at "go"
    refine At.map (g i2 hi2) ?_
    walk_at "go"
    refine Br.dF (by omega) ?_
    walk_at "go"
    exact hK3 _
  · walk_at "go"
    exact h
theorem is_even_ok {c : List Nat} (hc2 : c.length ≤ 1000) (he : evenB c = true) (h : Q (.d (.bool true)) S) : rd_is_even_cadence [.d (.tuple (nD c))] S Q := by
  rw [rd_is_even_cadence_is]
  walk_at "go"
  refine told_limp_ok hc2 he ?_
  walk_at "go"
  exact h
end
end Gn

set_option maxHeartbeats 400000
namespace Gn
open PySem PySem.Spec L2 L3
local macro_rules | `(tactic| walk_at "go") => `(tactic|
  ((conv => whnf)
   repeat
    (first
     | ((with_reducible refine And.intro ?sd ?_); (case sd => (first | decide | assumption | omega | exact rfl | exact trivial | exact Nat.le_of_ble_eq_true rfl | exact mulR (by omega) (by omega) | exact mulL (by omega) (by omega) | exact div_ok (by omega) | exact pow_ok (by decide) | exact small_ok (by omega) | exact line_le (by decide) | exact line_le (Nat.le_of_ble_eq_true rfl) | exact line_le (by simp [tx_len, dts_len, ers_len, str_x, str_o]; omega) | exact line_lt (by simp [tx_len, dts_len, ers_len]; omega) | exact line_lt (Nat.le_of_ble_eq_true rfl))))
     | ((with_reducible apply Exists.intro); (refine And.intro rfl ?_))
     (conv => whnf))))
theorem shN (c : List Nat) : SeqAt.shaped (.tuple (nD c)) = true := shp (dpt_tup (n := 0) (dpt_map fun n => dpt_int _)) (by decide)
theorem shNl (c : List Nat) : SeqAt.shaped (.list (nD c)) = true := shp (dpt_lst (n := 0) (dpt_map fun n => dpt_int _)) (by decide)
section
variable {S : Sto} {Q : DK}
theorem neg_mod {n v : Nat} (hv : v < n) : ((-(v : Int)) % (n : Int)).toNat = (n - v) % n := by
  by_cases h : v = 0
  · subst h
    rw [Nat.sub_zero, Nat.mod_self]
    rfl
  · have e : (-(v : Int)) % (n : Int) = ((n - v : Nat) : Int) := by
      rw [← Int.add_emod_right (-(v : Int)) (n : Int)]
      rw [show -(v : Int) + (n : Int) = ((n - v : Nat) : Int) by omega]
      exact Int.emod_eq_of_lt (by omega) (by omega)
    rw [e, Int.toNat_natCast, Nat.mod_eq_of_lt (by omega)]
def optD : Option Nat → D
  | none => .none
  | some v => .int (v : Nat)
theorem cadence_turn_ok {c : List Nat} (hc : 0 < c.length) (hc2 : c.length ≤ 1000) (hs : c.sum ≤ 1000) (h : Q (.d (optD (turnOf c))) S) : rd_cadence_turn [.d (.tuple (nD c))] S Q := by
  have hL := nD_len c
  rw [rd_cadence_turn_is]
  walk_at "go"
  rw [nD_ints]
  walk_at "go"
  rw [sum_cast, hL]
  refine cadence_of_ok hc2 hc hs ?_
  walk_at "go"
  rw [hL]
  refine loop_inv (fun i ρ S' => S' = S ∧ (∃ s, ρ = [.val (.d (.tuple (nD c))), .val (.d (.tuple (nD (cad c.length c.sum)))), s]) ∧ ∀ v, v < i → rot ((c.length - v) % c.length) (cad c.length c.sum) ≠ c) (rng 0 c.length) 0 (fun j x ex ρ S' K hI hK => ?_) (fun ρ S' hI => ?_) _ _ ⟨rfl, ⟨_, rfl⟩, fun v hv => absurd hv (by omega)⟩
  · obtain ⟨rfl, ⟨s, rfl⟩, hn⟩ := hI
    rw [Nat.zero_add] at *
    obtain ⟨hj, rfl⟩ := rng_get ex
    rw [Int.zero_add]
    refine ⟨trivial, ?_⟩
    walk_at "go"
    refine cadence_turned_ok (by rw [cad_len]; exact hc) (by rw [cad_len]; exact hc2) ?_
    walk_at "go"
    refine ⟨shN _, shN _, ?_⟩
    walk_at "go"
    rw [cad_len, neg_mod hj]
    show Br (PyData.eqv (.tuple (nD (rot ((c.length - j) % c.length) (cad c.length c.sum)))) (.tuple (nD c))) _ _
    unfold nD
    rw [eqv_tupN]
    refine Br.d (fun e => ?_) (fun e => ?_)
    · walk_at "go"
      have ht : turnOf c = some j := by
        unfold turnOf
        rw [List.find?_eq_some_iff_getElem]
        refine ⟨decide_eq_true e, j, by rw [List.length_range]; exact hj, by rw [List.getElem_range], fun i hi => ?_⟩
        rw [List.getElem_range, decide_eq_false (hn i hi)]
        rfl
      rw [ht] at h
      exact h
    · walk_at "go"
      refine hK _ _ ⟨rfl, ⟨_, rfl⟩, fun v hv => ?_⟩
      by_cases hvj : v = j
      · subst hvj; exact e
      · exact hn v (by omega)
  · obtain ⟨rfl, ⟨s, rfl⟩, hn⟩ := hI
    rw [Nat.zero_add, rng_len] at hn
    refine ⟨trivial, ?_⟩
    walk_at "go"
    have ht : turnOf c = none := by
      unfold turnOf
      rw [List.find?_eq_none]
      intro v hv
      rw [decide_eq_false (hn v (List.mem_range.mp hv))]
      exact Bool.false_ne_true
    rw [ht] at h
    exact h
end
end Gn

set_option maxHeartbeats 400000
namespace Gn
open PySem PySem.Spec L2 L3
local macro_rules | `(tactic| walk_at "go") => `(tactic|
  ((conv => whnf)
   repeat
    (first
     | ((with_reducible refine And.intro ?sd ?_); (case sd => (first | decide | assumption | omega | exact rfl | exact trivial | exact Nat.le_of_ble_eq_true rfl | exact mulR (by omega) (by omega) | exact mulL (by omega) (by omega) | exact div_ok (by omega) | exact pow_ok (by decide) | exact small_ok (by omega) | exact line_le (by decide) | exact line_le (Nat.le_of_ble_eq_true rfl) | exact line_le (by simp [tx_len, dts_len, ers_len, str_x, str_o]; omega) | exact line_lt (by simp [tx_len, dts_len, ers_len]; omega) | exact line_lt (Nat.le_of_ble_eq_true rfl))))
     | ((with_reducible apply Exists.intro); (refine And.intro rfl ?_))
     (conv => whnf))))
def b2n (b : Bool) : Nat := if b then 1 else 0
def dueI (l m : Nat) : List Int := (List.range m).map fun i : Nat => (2 * (l : Int) * ((i : Int) + 1) + (m : Int)) / (2 * (m : Int)) - (2 * (l : Int) * (i : Int) + (m : Int)) / (2 * (m : Int))
def bitsOf (l m : Nat) : List Bool := dts (m : Nat) 0 (List.replicate m ((l : Nat) : Int))
def cadB (l m : Nat) : Bool :=
  let bs := bitsOf l m
  let c := bs.map b2n
  decide (bs.count true = l) && (evenB c && ((turnOf c).isSome && decide (dueI l m = c.map fun n : Nat => (n : Int))))
set_option maxHeartbeats 0 in
theorem cad_0 : ((List.range 2).all fun l => cadB l 1) = true := by decide +kernel
set_option maxHeartbeats 0 in
theorem cad_1 : ((List.range 3).all fun l => cadB l 2) = true := by decide +kernel
set_option maxHeartbeats 0 in
theorem cad_2 : ((List.range 4).all fun l => cadB l 3) = true := by decide +kernel
set_option maxHeartbeats 0 in
theorem cad_3 : ((List.range 5).all fun l => cadB l 4) = true := by decide +kernel
set_option maxHeartbeats 0 in
theorem cad_4 : ((List.range 6).all fun l => cadB l 5) = true := by decide +kernel
set_option maxHeartbeats 0 in
theorem cad_5 : ((List.range 7).all fun l => cadB l 6) = true := by decide +kernel
set_option maxHeartbeats 0 in
theorem cad_6 : ((List.range 8).all fun l => cadB l 7) = true := by decide +kernel
set_option maxHeartbeats 0 in
theorem cad_7 : ((List.range 9).all fun l => cadB l 8) = true := by decide +kernel
set_option maxHeartbeats 0 in
theorem cad_8 : ((List.range 10).all fun l => cadB l 9) = true := by decide +kernel
set_option maxHeartbeats 0 in
theorem cad_9 : ((List.range 11).all fun l => cadB l 10) = true := by decide +kernel
set_option maxHeartbeats 0 in
theorem cad_10 : ((List.range 12).all fun l => cadB l 11) = true := by decide +kernel
set_option maxHeartbeats 0 in
theorem cad_11 : ((List.range 13).all fun l => cadB l 12) = true := by decide +kernel
set_option maxHeartbeats 0 in
theorem cad_12 : ((List.range 14).all fun l => cadB l 13) = true := by decide +kernel
set_option maxHeartbeats 0 in
theorem cad_13 : ((List.range 15).all fun l => cadB l 14) = true := by decide +kernel
set_option maxHeartbeats 0 in
theorem cad_14 : ((List.range 16).all fun l => cadB l 15) = true := by decide +kernel
set_option maxHeartbeats 0 in
theorem cad_15 : ((List.range 17).all fun l => cadB l 16) = true := by decide +kernel
theorem cad_at {l m : Nat} (hm : 1 ≤ m) (hm2 : m ≤ 16) (hl : l ≤ m) : cadB l m = true := by
  have h1 : ((List.range (m + 1)).all fun l => cadB l m) = true := by
    have hs : m = 1 ∨ m = 2 ∨ m = 3 ∨ m = 4 ∨ m = 5 ∨ m = 6 ∨ m = 7 ∨ m = 8 ∨ m = 9 ∨ m = 10 ∨ m = 11 ∨ m = 12 ∨ m = 13 ∨ m = 14 ∨ m = 15 ∨ m = 16 := by omega
    rcases hs with rfl | rfl | rfl | rfl | rfl | rfl | rfl | rfl | rfl | rfl | rfl | rfl | rfl | rfl | rfl | rfl
    · exact cad_0
    · exact cad_1
    · exact cad_2
    · exact cad_3
    · exact cad_4
    · exact cad_5
    · exact cad_6
    · exact cad_7
    · exact cad_8
    · exact cad_9
    · exact cad_10
    · exact cad_11
    · exact cad_12
    · exact cad_13
    · exact cad_14
    · exact cad_15
  exact List.all_eq_true.mp h1 l (List.mem_range.mpr (by omega))
end Gn

set_option maxHeartbeats 400000
namespace Gn
open PySem PySem.Spec L2 L3
local macro_rules | `(tactic| walk_at "go") => `(tactic|
  ((conv => whnf)
   repeat
    (first
     | ((with_reducible refine And.intro ?sd ?_); (case sd => (first | decide | assumption | omega | exact rfl | exact trivial | exact Nat.le_of_ble_eq_true rfl | exact mulR (by omega) (by omega) | exact mulL (by omega) (by omega) | exact div_ok (by omega) | exact pow_ok (by decide) | exact small_ok (by omega) | exact line_le (by decide) | exact line_le (Nat.le_of_ble_eq_true rfl) | exact line_le (by simp [tx_len, dts_len, ers_len, str_x, str_o]; omega) | exact line_lt (by simp [tx_len, dts_len, ers_len]; omega) | exact line_lt (Nat.le_of_ble_eq_true rfl))))
     | ((with_reducible apply Exists.intro); (refine And.intro rfl ?_))
     (conv => whnf))))
theorem sum_b2n (bs : List Bool) : (bs.map b2n).sum = bs.count true := by
  induction bs with
  | nil => rfl
  | cons b r ih =>
    rw [List.map_cons, List.sum_cons, ih, List.count_cons]
    cases b <;> simp [b2n]
    omega
theorem rep_int (l : Int) (m : Nat) : (List.replicate m [(.int l : D)]).flatten = (List.replicate m l).map .int := by
  rw [List.map_replicate]
  induction m with
  | zero => rfl
  | succ a ih => rw [List.replicate_succ, List.flatten_cons, ih]; rfl
section
variable {S : Sto} {Q : DK}
theorem is_T {k : Nat} {xs : List D} (p : pl (k + 1) (.tuple xs) = true) (q : Q (.d (.bool true)) S) : rd__law_is (k + 1) [.d (.tuple xs), .d (.tuple xs)] S Q := is_ok rfl p q
theorem pl_nD {k : Nat} {c : List Nat} (hl : c.length ≤ 1000) : pl (k + 2) (.tuple (nD c)) = true := by
  have := pl_ints (k := k) (ns := c.map fun n : Nat => (n : Int)) (by rw [List.length_map]; exact hl)
  rw [List.map_map] at this
  exact this
theorem cadence_fine_ok {l m : Nat} (hm : 1 ≤ m) (hm2 : m ≤ 16) (hl : l ≤ m) (h : Q (.d (.bool true)) S) : rd__law_cadence_fine [.d (.int (l : Nat)), .d (.int (m : Nat))] S Q := by
  have hc := cad_at hm hm2 hl
  unfold cadB at hc
  simp only [Bool.and_eq_true, decide_eq_true_eq] at hc
  obtain ⟨h1, h2, h3, h4⟩ := hc
  have hlen : (bitsOf l m).length = m := by unfold bitsOf; rw [dts_len, List.length_replicate]
  have hsum : ((bitsOf l m).map b2n).sum = l := by rw [sum_b2n, h1]
  have hlc : ((bitsOf l m).map b2n).length = m := by rw [List.length_map, hlen]
  rw [rd__law_cadence_fine_is]
  walk_at "go"
  refine ⟨⟨by omega, by omega, by simp⟩, ?_⟩
  walk_at "go"
  rw [show (m : Int).toNat = m from rfl, rep_int]
  refine dotted_ok (by simp; omega) ?_
  rw [show dts (m : Nat) 0 (List.replicate m ((l : Nat) : Int)) = bitsOf l m from rfl]
  generalize bitsOf l m = bs at *
  walk_at "go"
  rw [signs_tx]
  refine comp_mapE (fun b => .str (tx [b])) (fun b => .int (b2n b : Nat)) bs trivial (by omega) (fun b _ K K' hK => ?_) ?_
  · cases b with
    | true =>
      walk_at "go"
      exact hK
    | false =>
      walk_at "go"
      exact hK
  have e2 : (bs.map fun b => (.int (b2n b : Nat) : D)) = nD (bs.map b2n) := by unfold nD; rw [List.map_map]; rfl
  rw [e2]
  walk_at "go"
  refine is_even_ok (by omega) h2 ?_
  walk_at "go"
  refine told_limp_ok (by omega) h2 ?_
  walk_at "go"
  rw [show (UInt8.ofNat 'x'.val.toNat).toNat = 120 from rfl, count_x, h1]
  refine is_T rfl ?_
  walk_at "go"
  refine cadence_turn_ok (by omega) (by omega) (by omega) ?_
  cases ht : turnOf (bs.map b2n) with
  | none => rw [ht] at h3; cases h3
  | some t =>
    have ht2 := List.find?_some ht
    have htm := List.mem_of_find?_eq_some ht
    rw [hlc] at ht2 htm
    have htl : t < m := List.mem_range.mp htm
    have ht3 : rot ((m - t) % m) (cad m l) = bs.map b2n := by
      have := of_decide_eq_true ht2
      rw [hsum] at this
      exact this
    walk_at "go"
    refine cadence_of_ok (by omega) (by omega) (by omega) ?_
    walk_at "go"
    refine cadence_turned_ok (by rw [cad_len]; omega) (by rw [cad_len]; omega) ?_
    rw [cad_len, neg_mod htl, ht3]
    walk_at "go"
    refine is_T (pl_nD (by omega)) ?_
    walk_at "go"
    refine loopA (α := L3.Slot) (fun i x => [.val (.d (.int (l : Nat))), .val (.d (.int (m : Nat))), .val (.d (.str (tx bs))), .val (.d (.tuple (nD (bs.map b2n)))), .val (.d (.int (t : Nat))), .own (.lst ((((dueI l m).take i)).map .int)), x, .no]) S (rng 0 m) (fun _ _ => trivial) (fun j x ex s K hK => ?_) (fun s => ?_) _
    · obtain ⟨hj, rfl⟩ := rng_get ex
      rw [Int.zero_add]
      have hd : (dueI l m)[j]? = some ((2 * (l : Int) * ((j : Int) + 1) + (m : Int)) / (2 * (m : Int)) - (2 * (l : Int) * (j : Int) + (m : Int)) / (2 * (m : Int))) := by
        unfold dueI
        rw [List.getElem?_map, List.getElem?_range hj]
        rfl
      have hK' := hK (.val (.d (.int (j : Nat))))
      rw [List.take_add_one, hd, List.map_append] at hK'
      have hlt : (((dueI l m).take j).map PyData.int).length < sizeLine := line_lt (by simp [dueI]; omega)
      have b1 : 0 ≤ 2 * (l : Int) := by omega
      walk_at "go"
      exact hK'
    · rw [rng_len]
      walk_at "go"
      rw [List.take_of_length_le (by simp [dueI]), h4]
      have e3 : (((bs.map b2n).map fun n : Nat => (n : Int)).map (PyData.int)) = nD (bs.map b2n) := by unfold nD; rw [List.map_map]; rfl
      rw [e3]
      exact is_T (pl_nD (by omega)) h
end
end Gn

set_option maxHeartbeats 400000
namespace Gn
open PySem PySem.Spec L2 L3
local macro_rules | `(tactic| walk_at "go") => `(tactic|
  ((conv => whnf)
   repeat
    (first
     | ((with_reducible refine And.intro ?sd ?_); (case sd => (first | decide | assumption | omega | exact rfl | exact trivial | exact Nat.le_of_ble_eq_true rfl | exact mulR (by omega) (by omega) | exact mulL (by omega) (by omega) | exact div_ok (by omega) | exact pow_ok (by decide) | exact small_ok (by omega) | exact line_le (by decide) | exact line_le (Nat.le_of_ble_eq_true rfl) | exact line_le (by simp [tx_len, dts_len, ers_len, str_x, str_o]; omega) | exact line_lt (by simp [tx_len, dts_len, ers_len]; omega) | exact line_lt (Nat.le_of_ble_eq_true rfl))))
     | ((with_reducible apply Exists.intro); (refine And.intro rfl ?_))
     (conv => whnf))))
def shN_ (a b : Nat) : List Nat := (List.range b).map fun s => s * a / b
def dblN (a b : Nat) : Nat := ((List.range (b - 1)).filter fun i => decide ((shN_ a b).getD (i + 1) 0 = (shN_ a b).getD i 0)).length
def baseB (a b : Nat) : Bool :=
  let c := cad a b
  let s := shN_ a b
  decide (c = (List.range a).map fun p => s.count p) && (decide (sortI (s.map fun n : Nat => (n : Int)) = s.map fun n : Nat => (n : Int)) && (Nat.beq (dblN a b) (b - a) &&
    (decide (cad a (b + a) = c.map (· + 1)) && decide (cad (2 * a) (2 * b) = c ++ c))))
def cutB (a b k : Nat) : Bool :=
  let c := cad a b
  let t := rot k c
  evenB t && (decide (rot ((a - k) % a) t = c) && (evenB t.reverse && ((!Nat.ble b a) || (t.all (Nat.ble · 1) && (evenB (t.map (1 - ·)) && (turnOf (t.map (1 - ·))).isSome)))))
def cntB (a b : Nat) : Bool := baseB a b && (List.range a).all (cutB a b)
set_option maxHeartbeats 0 in
theorem cnt_0 : ((List.range 8).all fun a => cntB (a + 1) 0) = true := by decide +kernel
set_option maxHeartbeats 0 in
theorem cnt_1 : ((List.range 8).all fun a => cntB (a + 1) 1) = true := by decide +kernel
set_option maxHeartbeats 0 in
theorem cnt_2 : ((List.range 8).all fun a => cntB (a + 1) 2) = true := by decide +kernel
set_option maxHeartbeats 0 in
theorem cnt_3 : ((List.range 8).all fun a => cntB (a + 1) 3) = true := by decide +kernel
set_option maxHeartbeats 0 in
theorem cnt_4 : ((List.range 8).all fun a => cntB (a + 1) 4) = true := by decide +kernel
set_option maxHeartbeats 0 in
theorem cnt_5 : ((List.range 8).all fun a => cntB (a + 1) 5) = true := by decide +kernel
set_option maxHeartbeats 0 in
theorem cnt_6 : ((List.range 8).all fun a => cntB (a + 1) 6) = true := by decide +kernel
set_option maxHeartbeats 0 in
theorem cnt_7 : ((List.range 8).all fun a => cntB (a + 1) 7) = true := by decide +kernel
set_option maxHeartbeats 0 in
theorem cnt_8 : ((List.range 8).all fun a => cntB (a + 1) 8) = true := by decide +kernel
set_option maxHeartbeats 0 in
theorem cnt_9 : ((List.range 8).all fun a => cntB (a + 1) 9) = true := by decide +kernel
set_option maxHeartbeats 0 in
theorem cnt_10 : ((List.range 8).all fun a => cntB (a + 1) 10) = true := by decide +kernel
set_option maxHeartbeats 0 in
theorem cnt_11 : ((List.range 8).all fun a => cntB (a + 1) 11) = true := by decide +kernel
set_option maxHeartbeats 0 in
theorem cnt_12 : ((List.range 8).all fun a => cntB (a + 1) 12) = true := by decide +kernel
set_option maxHeartbeats 0 in
theorem cnt_13 : ((List.range 8).all fun a => cntB (a + 1) 13) = true := by decide +kernel
set_option maxHeartbeats 0 in
theorem cnt_14 : ((List.range 8).all fun a => cntB (a + 1) 14) = true := by decide +kernel
set_option maxHeartbeats 0 in
theorem cnt_15 : ((List.range 8).all fun a => cntB (a + 1) 15) = true := by decide +kernel
set_option maxHeartbeats 0 in
theorem cnt_16 : ((List.range 8).all fun a => cntB (a + 1) 16) = true := by decide +kernel
set_option maxHeartbeats 0 in
theorem cnt_17 : ((List.range 8).all fun a => cntB (a + 1) 17) = true := by decide +kernel
set_option maxHeartbeats 0 in
theorem cnt_18 : ((List.range 8).all fun a => cntB (a + 1) 18) = true := by decide +kernel
set_option maxHeartbeats 0 in
theorem cnt_19 : ((List.range 8).all fun a => cntB (a + 1) 19) = true := by decide +kernel
theorem cnt_at {a b : Nat} (ha : 1 ≤ a) (ha2 : a ≤ 8) (hb : b < 20) : cntB a b = true := by
  have h1 : ((List.range 8).all fun a => cntB (a + 1) b) = true := by
    have hs : b = 0 ∨ b = 1 ∨ b = 2 ∨ b = 3 ∨ b = 4 ∨ b = 5 ∨ b = 6 ∨ b = 7 ∨ b = 8 ∨ b = 9 ∨ b = 10 ∨ b = 11 ∨ b = 12 ∨ b = 13 ∨ b = 14 ∨ b = 15 ∨ b = 16 ∨ b = 17 ∨ b = 18 ∨ b = 19 := by omega
    rcases hs with rfl | rfl | rfl | rfl | rfl | rfl | rfl | rfl | rfl | rfl | rfl | rfl | rfl | rfl | rfl | rfl | rfl | rfl | rfl | rfl
    · exact cnt_0
    · exact cnt_1
    · exact cnt_2
    · exact cnt_3
    · exact cnt_4
    · exact cnt_5
    · exact cnt_6
    · exact cnt_7
    · exact cnt_8
    · exact cnt_9
    · exact cnt_10
    · exact cnt_11
    · exact cnt_12
    · exact cnt_13
    · exact cnt_14
    · exact cnt_15
    · exact cnt_16
    · exact cnt_17
    · exact cnt_18
    · exact cnt_19
  have h2 := List.all_eq_true.mp h1 (a - 1) (List.mem_range.mpr (by omega))
  rw [show a - 1 + 1 = a by omega] at h2
  exact h2
end Gn

set_option maxHeartbeats 400000
namespace Gn
open PySem PySem.Spec L2 L3
local macro_rules | `(tactic| walk_at "go") => `(tactic|
  ((conv => whnf)
   repeat
    (first
     | ((with_reducible refine And.intro ?sd ?_); (case sd => (first | decide | assumption | omega | exact rfl | exact trivial | exact Nat.le_of_ble_eq_true rfl | exact mulR (by omega) (by omega) | exact mulL (by omega) (by omega) | exact div_ok (by omega) | exact pow_ok (by decide) | exact small_ok (by omega) | exact line_le (by decide) | exact line_le (Nat.le_of_ble_eq_true rfl) | exact line_le (by simp [tx_len, dts_len, ers_len, str_x, str_o]; omega) | exact line_lt (by simp [tx_len, dts_len, ers_len]; omega) | exact line_lt (Nat.le_of_ble_eq_true rfl))))
     | ((with_reducible apply Exists.intro); (refine And.intro rfl ?_))
     (conv => whnf))))
section
variable {S : Sto} {Q : DK}
theorem revN (c : List Nat) : (nD c).reverse = nD c.reverse := by unfold nD; rw [List.map_reverse]
theorem max0 (a b : Nat) : max 0 ((b : Int) - (a : Int)) = ((b - a : Nat) : Int) := by omega
theorem fewest_doubles_ok {a b : Nat} (h : Q (.d (.int (b - a : Nat))) S) : rd_fewest_doubles [.d (.int (a : Nat)), .d (.int (b : Nat))] S Q := by
  rw [rd_fewest_doubles_is]
  walk_at "go"
  rw [max0]
  exact h
theorem counts_fine_ok {a b : Nat} {v : Int} (ha : 1 ≤ a) (ha2 : a ≤ 8) (hb : b < 20) (h : Q (.d (.bool true)) S) : rd__law_counts_fine [.d (.int (a : Nat)), .d (.int (b : Nat)), .d (.int v)] S Q := by
  have hc := cnt_at ha ha2 hb
  unfold cntB at hc
  rw [Bool.and_eq_true] at hc
  obtain ⟨hb1, hb2⟩ := hc
  unfold baseB at hb1
  simp only [Bool.and_eq_true, decide_eq_true_eq] at hb1
  obtain ⟨b1, b2, b3, b4, b5⟩ := hb1
  have b3 : dblN a b = b - a := Nat.eq_of_beq_eq_true b3
  have hlen : (cad a b).length = a := cad_len a b
  have hsl : (shN_ a b).length = b := by unfold shN_; rw [List.length_map, List.length_range]
  rw [rd__law_counts_fine_is]
  walk_at "go"
  refine cadence_of_ok (by omega) (by omega) (by omega) ?_
  walk_at "go"
  refine comp_rng (fun s => .int (s * a / b : Nat)) _ (by omega) (fun i hi K K' hK => ?_) ?_
  · walk_at "go"
    refine shown_at_ok (by omega) (by omega) (by omega) (by omega) ?_
    exact hK
  have e1 : ((List.range b).map fun s => (.int (s * a / b : Nat) : D)) = nD (shN_ a b) := by unfold nD shN_; rw [List.map_map]; rfl
  rw [show (b : Int).toNat = b from rfl, e1]
  walk_at "go"
  refine comp_rng (fun p => .int ((shN_ a b).count p : Nat)) _ (by omega) (fun i hi K K' hK => ?_) ?_
  · walk_at "go"
    rw [nD_ints]
    walk_at "go"
    have : ((shN_ a b).map fun n : Nat => (n : Int)).count (i : Int) = (shN_ a b).count i := by
      generalize shN_ a b = l
      induction l with
      | nil => rfl
      | cons n r ih =>
        rw [List.map_cons, List.count_cons, List.count_cons, ih]
        congr 1
        by_cases hn : n = i
        · subst hn; simp
        · have : ¬ ((n : Int) = (i : Int)) := by omega
          simp [hn, this]
    rw [this]
    exact hK
  have e2 : ((List.range a).map fun p => (.int ((shN_ a b).count p : Nat) : D)) = nD (cad a b) := by rw [b1]; unfold nD; rw [List.map_map]; rfl
  rw [show (a : Int).toNat = a from rfl, e2]
  walk_at "go"
  refine is_T (pl_nD (by omega)) ?_
  walk_at "go"
  rw [nD_ints]
  walk_at "go"
  have e3 : (sortI ((shN_ a b).map fun n : Nat => (n : Int))).map PyData.int = nD (shN_ a b) := by rw [b2]; unfold nD; rw [List.map_map]; rfl
  rw [e3]
  refine ⟨shNl _, shNl _, ?_⟩
  walk_at "go"
  refine Br.f' (b := !PyData.eqv (.list (nD (shN_ a b))) (.list (nD (shN_ a b)))) (by unfold nD; rw [eqv_lstN, decide_eq_true rfl]; rfl) ?_
  walk_at "go"
  have g : ∀ i, i < b → (nD (shN_ a b))[i]? = some (.int ((shN_ a b).getD i 0 : Nat)) := fun i hi => nD_get (by rw [hsl]; exact hi)
  refine comp_rng2F 1 (fun i => decide ((shN_ a b).getD (i + 1) 0 = (shN_ a b).getD i 0)) (fun i => .int (1 + (i : Nat))) _ (by omega) (fun i hi K K' hK hK' => ?_) ?_
  · have hi : i + 1 < b := by omega
    walk_at "go"
    rw [show (1 : Int) + (i : Int) = ((i + 1 : Nat) : Int) by omega] at *
    refine At.nat (g (i + 1) hi) ?_
    walk_at "go"
    rw [show ((i + 1 : Nat) : Int) - 1 = ((i : Nat) : Int) by omega]
    refine At.nat (g i (by omega)) ?_
    walk_at "go"
    refine Br.d (fun e => ?_) (fun e => ?_)
    · walk_at "go"
      exact hK (decide_eq_true (by omega))
    · exact hK' (decide_eq_false (by omega))
  rw [show ((b : Int) - 1).toNat = b - 1 by omega]
  walk_at "go"
  rw [List.length_map, show ((List.range (b - 1)).filter fun i => decide ((shN_ a b).getD (i + 1) 0 = (shN_ a b).getD i 0)).length = dblN a b from rfl, b3]
  refine fewest_doubles_ok ?_
  walk_at "go"
  refine is_ok rfl rfl ?_
  walk_at "go"
  rw [max0]
  refine Br.f' (b := !decide (((b - a : Nat) : Int) = ((b - a : Nat) : Int))) (by rw [decide_eq_true rfl]; rfl) ?_
  walk_at "go"
  rw [show (b : Int) + (a : Int) = ((b + a : Nat) : Int) from rfl]
  refine cadence_of_ok (by omega) (by omega) (by omega) ?_
  walk_at "go"
  refine comp_mapE (fun n : Nat => .int (n : Nat)) (fun n => .int ((n + 1 : Nat) : Nat)) (cad a b) trivial (by omega) (fun y _ K K' hK => ?_) ?_
  · walk_at "go"
    exact hK
  have e4 : ((cad a b).map fun n => (.int ((n + 1 : Nat) : Nat) : D)) = nD ((cad a b).map (· + 1)) := by unfold nD; rw [List.map_map]; rfl
  rw [e4, ← b4]
  walk_at "go"
  refine is_T (pl_nD (by rw [cad_len]; omega)) ?_
  walk_at "go"
  rw [show (2 : Int) * (a : Int) = ((2 * a : Nat) : Int) from rfl, show (2 : Int) * (b : Int) = ((2 * b : Nat) : Int) from rfl]
  refine cadence_of_ok (by omega) (by omega) (by omega) ?_
  walk_at "go"
  refine ⟨line_le (by rw [nD_len]; omega), ?_⟩
  walk_at "go"
  rw [nD_app, b5]
  refine is_T (pl_nD (by simp; omega)) ?_
  walk_at "go"
  refine cadence_turned_ok (by omega) (by omega) ?_
  rw [hlen]
  have e0 : 0 ≤ (-v) % (a : Int) := Int.emod_nonneg _ (by omega)
  have e1' : (-v) % (a : Int) < a := Int.emod_lt_of_pos _ (by omega)
  obtain ⟨k, hk⟩ : ∃ k : Nat, (-v) % (a : Int) = k := ⟨((-v) % (a : Int)).toNat, by omega⟩
  have hka : k < a := by omega
  have hk2 : (-(0 - v)) % (a : Int) = ((a - k) % a : Nat) := by
    have q := Int.emod_add_mul_ediv (-v) (a : Int)
    rw [hk] at q
    have e : -(0 - v) = ((a - k : Nat) : Int) + (a : Int) * (-((-v) / (a : Int)) - 1) := by
      rw [Int.mul_sub, Int.mul_neg, Int.mul_one]
      omega
    rw [e, Int.add_mul_emod_self_left]
    rfl
  have hk3 : (-(v + 3 * (a : Int))) % (a : Int) = k := by
    rw [show -(v + 3 * (a : Int)) = -v + (a : Int) * (-3) by omega, Int.add_mul_emod_self_left]
    exact hk
  have cb := List.all_eq_true.mp hb2 k (List.mem_range.mpr hka)
  unfold cutB at cb
  rw [hk, Int.toNat_natCast]
  simp only [Bool.and_eq_true, decide_eq_true_eq] at cb
  obtain ⟨c1, c2, c3, c4⟩ := cb
  have htl : (rot k (cad a b)).length = a := by rw [rot_len, cad_len]
  walk_at "go"
  refine is_even_ok (by omega) c1 ?_
  walk_at "go"
  refine cadence_turned_ok (by omega) (by omega) ?_
  rw [htl, hk2, Int.toNat_natCast, c2]
  walk_at "go"
  refine cadence_turned_ok (by omega) (by omega) ?_
  rw [hlen, hk3, Int.toNat_natCast]
  walk_at "go"
  refine is_T (pl_tup (by simp) fun z hz => ?_) ?_
  · rcases List.mem_cons.mp hz with rfl | hz
    · rfl
    · rcases List.mem_cons.mp hz with rfl | hz
      · exact pl_nD (by omega)
      · rw [List.mem_singleton.mp hz]; exact pl_nD (by omega)
  walk_at "go"
  apply cutR
  · intro r
    refine Br.d (fun hba => ?_) (fun hba => ?_)
    · have hba' : Nat.ble b a = true := Nat.ble_eq.mpr (by omega)
      rw [hba'] at c4
      simp only [Bool.not_true, Bool.false_or, Bool.and_eq_true] at c4
      obtain ⟨d1, d2, d3⟩ := c4
      walk_at "go"
      refine comp_mapE (fun n : Nat => .int (n : Nat)) (fun n => .int ((1 - n : Nat) : Nat)) (rot k (cad a b)) trivial (by omega) (fun y hy K K' hK => ?_) ?_
      · have hy1 : y ≤ 1 := Nat.ble_eq.mp (List.all_eq_true.mp d1 y hy)
        walk_at "go"
        rw [show (1 : Int) - (y : Int) = ((1 - y : Nat) : Int) by omega]
        exact hK
      have e5 : ((rot k (cad a b)).map fun n => (.int ((1 - n : Nat) : Nat) : D)) = nD ((rot k (cad a b)).map (1 - ·)) := by unfold nD; rw [List.map_map]; rfl
      rw [e5]
      walk_at "go"
      refine is_even_ok (by simp; omega) d2 ?_
      walk_at "go"
      refine cadence_turn_ok (by simp; omega) (by simp; omega) ?_ ?_
      · have : ∀ l : List Nat, (l.map (1 - ·)).sum ≤ l.length := fun l => by
          induction l with
          | nil => exact Nat.le_refl _
          | cons n r ih => rw [List.map_cons, List.sum_cons, List.length_cons]; omega
        have := this (rot k (cad a b))
        omega
      cases ht : turnOf ((rot k (cad a b)).map (1 - ·)) with
      | none => rw [ht] at d3; cases d3
      | some t =>
        walk_at "go"
        refine is_T rfl ?_
        walk_at "go"
        exact r.r
    · walk_at "go"
      exact r.r
  walk_at "go"
  rw [revN]
  refine is_even_ok (by simp; omega) c3 ?_
  walk_at "go"
  exact is_B h
end
end Gn

set_option maxHeartbeats 400000
namespace Gn
open PySem PySem.Spec L2 L3
local macro_rules | `(tactic| walk_at "go") => `(tactic|
  ((conv => whnf)
   repeat
    (first
     | ((with_reducible refine And.intro ?sd ?_); (case sd => (first | decide | assumption | omega | exact rfl | exact trivial | exact Nat.le_of_ble_eq_true rfl | exact mulR (by omega) (by omega) | exact mulL (by omega) (by omega) | exact div_ok (by omega) | exact pow_ok (by decide) | exact small_ok (by omega) | exact line_le (by decide) | exact line_le (Nat.le_of_ble_eq_true rfl) | exact line_lt (Nat.le_of_ble_eq_true rfl))))
     | ((with_reducible apply Exists.intro); (refine And.intro rfl ?_))
     (conv => whnf))))
/-! ### the hand, further -/
def HA (n : Nat) (ds : List Int) (b : Nat) (S : Sto) : Prop := ∃ a, a ≤ b ∧ S[n]? = some (handC ds a)
theorem take_ok' {n b : Nat} {m : Int} {ds : List Int} {S : Sto} {Q : DK} (hS : HA n ds b S) (hd : Drawn ds) (hb : b < 1000000) (hm : 0 < m) (h : ∀ t S', 0 ≤ t → t < m → HA n ds (b + 1) S' → Q (.d (.int t)) S') : rd__law_take [.ref n, .d (.int m)] S Q := by
  obtain ⟨a, ha, hS⟩ := hS
  refine take_ok hS hd (by omega) hm fun t t0 t1 => h t _ t0 t1 ⟨a + 1, by omega, ?_⟩
  rw [List.getElem?_set_self (List.getElem?_eq_some_iff.mp hS).1]
theorem hand_new {S : Sto} {ds : List Int} : HA S.length ds 0 (S ++ [handC ds 0]) := ⟨0, Nat.le_refl _, by rw [List.getElem?_append_right (Nat.le_refl _), Nat.sub_self]; rfl⟩
theorem HA.mono {n b c : Nat} {ds : List Int} {S : Sto} (h : HA n ds b S) (hc : b ≤ c) : HA n ds c S := let ⟨a, h1, h2⟩ := h; ⟨a, Nat.le_trans h1 hc, h2⟩
/-- a comprehension that takes q of the hand for each item -/
theorem comp_hand {g : dTG} {te : dTE} {ρ : Env3} {Q : List D → Sto → Prop} {P : D → Prop} {n b k : Nat} {ds : List Int} {S : Sto} (q : Nat) (hk : k ≤ 1000) (hS : HA n ds b S)
    (step : ∀ (j : Nat) (S' : Sto) (b' : Nat) (K : DK) (K' : Sto → Prop), j < k → b' ≤ b + q * k → HA n ds b' S' → (∀ d S2, P d → HA n ds (b' + q) S2 → K (.d d) S2) → g (.int (j : Nat)) ρ S' fun ρ1 S1 => dYes ρ1 S1 fun b S2 => Br b (te ρ1 S2 K) (K' S2))
    (h : ∀ xs S', xs.length = k → (∀ x ∈ xs, P x) → HA n ds (b + q * k) S' → Q xs S') : cLoop (fun _ _ => True) g dYes te ρ Q (rng 0 k) [] S := by
  refine comp_inv (fun i acc S' => acc.length = i ∧ (∀ x ∈ acc, P x) ∧ HA n ds (b + q * i) S') (rng 0 k) 0 (fun j x e acc S' K K' hI hK hK' => ?_) (fun acc S' hI => ?_) [] S ⟨rfl, by simp, hS⟩
  · obtain ⟨hl, hP, hA⟩ := hI
    rw [Nat.zero_add] at *
    obtain ⟨hj, rfl⟩ := rng_get e
    rw [Int.zero_add]
    refine ⟨trivial, line_lt (by omega), fun _ => step j S' _ K K' hj ?_ hA fun d S2 hd hA2 => hK _ _ ⟨by rw [List.length_append, hl]; rfl, fun x hx => ?_, ?_⟩⟩
    · have : q * j ≤ q * k := Nat.mul_le_mul_left q (by omega)
      omega
    · rcases List.mem_append.mp hx with hx | hx
      · exact hP x hx
      · rw [List.mem_singleton.mp hx]; exact hd
    · rw [Nat.mul_add, Nat.mul_one, ← Nat.add_assoc]
      exact hA2
  · obtain ⟨hl, hP, hA⟩ := hI
    rw [rng_len, Nat.zero_add] at *
    exact ⟨trivial, h acc S' hl hP hA⟩
theorem ints_of {R : Int → Prop} : ∀ {xs : List D}, (∀ x ∈ xs, ∃ t, x = .int t ∧ R t) → ∃ ts : List Int, xs = ts.map .int ∧ ∀ t ∈ ts, R t
  | [], _ => ⟨[], rfl, by simp⟩
  | x :: xs, h => by
    obtain ⟨t, rfl, ht⟩ := h x List.mem_cons_self
    obtain ⟨ts, rfl, hts⟩ := ints_of (xs := xs) fun y hy => h y (List.mem_cons_of_mem _ hy)
    refine ⟨t :: ts, rfl, fun y hy => ?_⟩
    rcases List.mem_cons.mp hy with rfl | hy
    · exact ht
    · exact hts y hy
end Gn

set_option maxHeartbeats 400000
namespace Gn
open PySem PySem.Spec L2 L3
local macro_rules | `(tactic| walk_at "go") => `(tactic|
  ((conv => whnf)
   repeat
    (first
     | ((with_reducible refine And.intro ?sd ?_); (case sd => (first | decide | assumption | omega | exact rfl | exact trivial | exact Nat.le_of_ble_eq_true rfl | exact mulR (by omega) (by omega) | exact mulL (by omega) (by omega) | exact div_ok (by omega) | exact pow_ok (by decide) | exact small_ok (by omega) | exact line_le (by decide) | exact line_le (Nat.le_of_ble_eq_true rfl) | exact line_le (by simp [tx_len, dts_len, ers_len, str_x, str_o]; omega) | exact line_lt (by simp [tx_len, dts_len, ers_len]; omega) | exact line_lt (Nat.le_of_ble_eq_true rfl))))
     | ((with_reducible apply Exists.intro); (refine And.intro rfl ?_))
     (conv => whnf))))
def Lv (m : Int) (x : D) : Prop := ∃ ls : List Int, x = .tuple (ls.map .int) ∧ In m ls ∧ ls.length ≤ 100
theorem mem4 {α : Type} {P : α → Prop} {a b c d : α} (h1 : P a) (h2 : P b) (h3 : P c) (h4 : P d) : ∀ {j : Nat} {y : α}, ([a, b, c, d] : List α)[j]? = some y → P y
  | 0, y, e => by cases e; exact h1
  | 1, y, e => by cases e; exact h2
  | 2, y, e => by cases e; exact h3
  | 3, y, e => by cases e; exact h4
  | _ + 4, y, e => by cases e
theorem in_of {m : Int} {ts : List Int} (h : ∀ t ∈ ts, 0 ≤ t ∧ t < m + 1) : In m ts := fun l hl => ⟨(h l hl).1, by have := (h l hl).2; omega⟩
theorem law_ok (ns : List Int) : rd_law [.d (scrD ns)] [] fun d _ => d = .d (.bool true) := by
  rw [rd_law_is]
  walk_at "go"
  refine loop_inv (fun i ρ S' => ∃ x1 x2 x3 x4 x5 x6 x7 x8 : L3.Slot, ρ = [.val (.d (scrD ns)), x1, x2, x3, x4, x5, x6, x7, x8, .no]) _ 0 (fun j y e ρ S' K hI hK => ?_) (fun ρ S' hI => ?_) _ _ ⟨_, _, _, _, _, _, _, _, rfl⟩
  · obtain ⟨x1, x2, x3, x4, x5, x6, x7, x8, rfl⟩ := hI
    obtain ⟨hj, rfl⟩ := rng_get e
    have hj : j < 3 := hj
    refine ⟨trivial, ?_⟩
    rw [Int.zero_add]
    walk_at "go"
    refine hand_ok (by omega) fun ds hd => ?_
    have hS : HA S'.length ds 0 (S' ++ [handC ds 0]) := hand_new
    generalize S' ++ [handC ds 0] = S1 at *
    generalize S'.length = n at *
    walk_at "go"
    refine take_ok' hS hd (by decide) (by decide) fun t S2 t0 t1 hS => ?_
    obtain ⟨m, hm⟩ : ∃ m, m = 1 + t := ⟨_, rfl⟩
    have hm1 : 1 ≤ m := by omega
    have hm2 : m ≤ 24 := by omega
    walk_at "go"
    rw [← hm]
    refine take_ok' hS hd (by decide) (by decide) fun t2 S3 u0 u1 hS => ?_
    walk_at "go"
    refine comp_hand (P := fun x => ∃ t, x = .int t ∧ (0 ≤ t ∧ t < m + 1)) 1 (by omega) hS (fun j S' b' K K' hj hb' hA hK => ?_) fun xs S4 hxl hxP hS => ?_
    · walk_at "go"
      refine take_ok' hA hd (by omega) (by omega) fun t S2 t0 t1 hA2 => ?_
      exact hK _ _ ⟨t, rfl, t0, t1⟩ hA2
    obtain ⟨ls, rfl, hls⟩ := ints_of hxP
    rw [List.length_map] at hxl
    walk_at "go"
    refine take_ok' hS hd (by omega) (by decide) fun t3 S5 v0 v1 hS => ?_
    walk_at "go"
    refine comp_hand (P := fun x => ∃ t, x = .int t ∧ (0 ≤ t ∧ t < m + 1)) 1 (by omega) hS (fun j S' b' K K' hj hb' hA hK => ?_) fun xs S6 hxl2 hxP hS => ?_
    · walk_at "go"
      refine take_ok' hA hd (by omega) (by omega) fun t S2 t0 t1 hA2 => ?_
      exact hK _ _ ⟨t, rfl, t0, t1⟩ hA2
    obtain ⟨ms, rfl, hms⟩ := ints_of hxP
    rw [List.length_map] at hxl2
    walk_at "go"
    refine take_ok' hS hd (by omega) (by omega) fun lv S7 w0 w1 hS => ?_
    walk_at "go"
    refine ⟨⟨by omega, by omega, by simp⟩, ?_⟩
    walk_at "go"
    rw [show (List.replicate (Int.toNat 7) [(.int lv : D)]).flatten = (List.replicate 7 lv).map .int from rep_int lv 7]
    have q1 : Lv m (.tuple (ls.map .int)) := ⟨ls, rfl, in_of hls, by omega⟩
    have q2 : Lv m (.tuple ((List.replicate 7 lv).map .int)) := ⟨_, rfl, fun x hx => by rw [List.eq_of_mem_replicate hx]; exact ⟨w0, by omega⟩, by simp⟩
    have q3 : Lv m (.tuple (ms.map .int)) := ⟨ms, rfl, in_of hms, by omega⟩
    have q4 : Lv m (.tuple [.int 0, .int m, .int lv, .int lv, .int m]) := ⟨[0, m, lv, lv, m], rfl, fun x hx => by simp at hx; omega, by simp⟩
    refine loop_inv (fun i ρ S' => HA n ds (100 + i) S' ∧ ∃ x1 x7 : L3.Slot, ρ = [.val (.d (scrD ns)), x1, .val (.ref n), .val (.d (.int m)), .val (.d (.tuple (ls.map .int))), .val (.d (.tuple (ms.map .int))), .val (.d (.int lv)), x7, x8, .no]) [.tuple (ls.map .int), .tuple ((List.replicate 7 lv).map .int), .tuple (ms.map .int), .tuple [.int 0, .int m, .int lv, .int lv, .int m]] 0 (fun j y e ρ S' K hI hK => ?_) (fun ρ S' hI => ?_) _ _ ⟨hS.mono (by omega), _, _, rfl⟩
    · obtain ⟨hS, x1, x7, rfl⟩ := hI
      obtain ⟨zs, rfl, hz, hzl⟩ := mem4 q1 q2 q3 q4 e
      have hj4 : j < 4 := (List.getElem?_eq_some_iff.mp e).1
      refine ⟨trivial, ?_⟩
      walk_at "go"
      refine take_ok' hS hd (by omega) (by decide) fun t4 S8 a0 a1 hS => ?_
      walk_at "go"
      refine levels_fine_ok hm1 hm2 ⟨by omega, by omega⟩ hzl hz ?_
      walk_at "go"
      refine behind_fine_ok hm1 hm2 hzl (by omega) hz ?_
      walk_at "go"
      refine other_fine_ok hm1 hm2 hzl ?_
      walk_at "go"
      exact hK _ _ ⟨hS, _, _, rfl⟩
    · obtain ⟨hS, x1', x7', rfl⟩ := hI
      refine ⟨trivial, ?_⟩
      walk_at "go"
      have hS : HA n ds 104 S' := hS
      refine take_ok' hS hd (by omega) (by decide) fun t5 S9 a0 a1 hS => ?_
      obtain ⟨wh, hwh⟩ : ∃ wh : Nat, (wh : Int) = 1 + t5 := ⟨(1 + t5).toNat, by omega⟩
      walk_at "go"
      rw [← hwh]
      refine take_ok' hS hd (by omega) (by omega) fun t6 S10 b0 b1 hS => ?_
      obtain ⟨l6, hl6⟩ : ∃ l6 : Nat, (l6 : Int) = t6 := ⟨t6.toNat, by omega⟩
      rw [← hl6]
      walk_at "go"
      refine cadence_fine_ok (by omega) (by omega) (by omega) ?_
      walk_at "go"
      refine take_ok' hS hd (by omega) (by decide) fun t7 S11 c0 c1 hS => ?_
      walk_at "go"
      refine take_ok' hS hd (by omega) (by decide) fun t8 S12 d0 d1 hS => ?_
      walk_at "go"
      refine take_ok' hS hd (by omega) (by decide) fun t9 S13 f0 f1 hS => ?_
      obtain ⟨a7, ha7⟩ : ∃ a7 : Nat, (a7 : Int) = 1 + t7 := ⟨(1 + t7).toNat, by omega⟩
      obtain ⟨b8, hb8⟩ : ∃ b8 : Nat, (b8 : Int) = t8 := ⟨t8.toNat, by omega⟩
      walk_at "go"
      rw [← ha7, ← hb8]
      refine counts_fine_ok (by omega) (by omega) (by omega) ?_
      walk_at "go"
      exact hK _ _ ⟨_, _, _, _, _, _, _, _, rfl⟩
  · obtain ⟨x1, x2, x3, x4, x5, x6, x7, x8, rfl⟩ := hI
    refine ⟨trivial, ?_⟩
    walk_at "go"
end Gn

open PySem PySem.W PySem.Calls PyProof.Rows
set_option maxHeartbeats 0
theorem PySem.Challenge.cw_shadehall_k08_whole_dots_carried_on_and_holds : PySem.Challenge.rw_shadehall_k08_whole_dots_carried_on_and.Holds := by
  w_on; o_law
  refine HandSHeadRun.head_any (r := OpenLaw.row PySem.Challenge.rw_shadehall_k08_whole_dots_carried_on_and) (q := view (OpenLaw.row PySem.Challenge.rw_shadehall_k08_whole_dots_carried_on_and).prog [27]) (H := Gn.hk) (ob := Gn.ob) (M := 6000) (loose := Gn.loose) (d := HandSHeadRun.topDef (OpenLaw.row PySem.Challenge.rw_shadehall_k08_whole_dots_carried_on_and).prog 27) (kwd := []) Gn.ob_eq
    (by kernel_rfl) (fun s => by kernel_rfl) Gn.run (by kernel_rfl) (by kernel_rfl) (by kernel_rfl) (by rfl) (by first | assumption | decide +kernel) (by decide +kernel) ⟨rfl, rfl, rfl, rfl, rfl, by decide +kernel⟩ ?hw ?hc
  case hw => w_witness2
  case hc =>
    refine L2.walk_ofE (l := PySem.Challenge.rw_shadehall_k08_whole_dots_carried_on_and) (n := 63) (k := 9) (x := "script") (CX := L2.CX0) rfl (by decide) (by kernel_rfl) ⟨rfl, by decide, by decide⟩ ?F (fun _ _ _ _ z => z)
    intro w mg fa h Y G hmg0
    obtain ⟨K, KX, c⟩ := Y
    have hmg : mg ("law" : PySem.Str) = some (.ref fa) := by
      have e : (HandSHeadRun.topDef (OpenLaw.row PySem.Challenge.rw_shadehall_k08_whole_dots_carried_on_and).prog 27).name = ("law" : PySem.Str) := by kernel_rfl
      rw [← e]
      exact hmg0
    obtain ⟨fd, hb, hF⟩ := Gn.facts (P := (PySem.Challenge.rw_shadehall_k08_whole_dots_carried_on_and).prog) (w := w) KX G hmg c
    exact ⟨K, fd, L3.spD K 1 Gn.rd_law, KX, hb, fun H a ns hl _ hS => L3.law_sp hS (Gn.law_ok ns), hF⟩
