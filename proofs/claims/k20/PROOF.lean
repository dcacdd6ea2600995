import PyProof.Rows.All
import Wide.All
import OpenK.AllK
import Wide.FinOn
import HandS.ForMost
import HandS.Head0
import HandS.Head1
import HandS.Head2
import HandS.HeadEnd
import HandS.HeadHook1
import HandS.HeadHook2
import HandS.HeadHook4
import HandS.IsInst
import HandS.TupAny
import HandS.Style
import PyProof.StrOps2
import HandS.Gcd
import HandS.Deep
import HandS.Defaults
import HandS.Codes
import PySem.Challenge.RW_shadehall_k20_whole_passings_seen_from_e
set_option Elab.async false
set_option linter.all false
set_option maxRecDepth 100000
set_option maxHeartbeats 4000000
namespace L3
open PySem PySem.Spec PyProof.Rows L2

/-! ### data, cells, the state by data -/
abbrev D := PyData
open Classical in
/-- what stands still: the tracked heap without the things that may be changed -/
noncomputable def Fz (H : Hp) (M : Addr → Prop) : Hp := fun a => if M a then none else H a
theorem Fz.at {H : Hp} {M : Addr → Prop} {a : Addr} {u : HO} (h : Fz H M a = some u) : ¬ M a ∧ H a = some u := by
  unfold Fz at h
  split at h
  · cases h
  · rename_i n
    exact ⟨n, h⟩
theorem Fz.of {H : Hp} {M : Addr → Prop} {a : Addr} {u : HO} (n : ¬ M a) (h : H a = some u) : Fz H M a = some u := by
  unfold Fz
  rw [if_neg n]
  exact h
/-- more is held -/
def Sub (H H' : Hp) : Prop := ∀ a u, H a = some u → H' a = some u
theorem Sub.refl (H : Hp) : Sub H H := fun _ _ h => h
theorem Sub.trans {H H1 H2 : Hp} (h : Sub H H1) (h' : Sub H1 H2) : Sub H H2 := fun a u e => h' a u (h a u e)
theorem Fz.sub {H : Hp} {M : Addr → Prop} : Sub (Fz H M) H := fun _ _ h => (Fz.at h).2
theorem Sub.sqL {K : PySem.W.Frag} {H H' : Hp} (s : Sub H H') {a : Addr} {xs : List V} (h : SqL K H a xs) : SqL K H' a xs := by
  rcases h with (h | ⟨o, h⟩) | h
  · exact .inl (.inl (s _ _ h))
  · exact .inl (.inr ⟨o, s _ _ h⟩)
  · exact .inr h
theorem Sub.sqT {K : PySem.W.Frag} {H H' : Hp} (s : Sub H H') {a : Addr} {xs : List V} (h : SqT K H a xs) : SqT K H' a xs := by
  rcases h with (h | ⟨o, h⟩) | h
  · exact .inl (.inl (s _ _ h))
  · exact .inl (.inr ⟨o, s _ _ h⟩)
  · exact .inr h
/-- the script, as data -/
def scrD (ns : List Int) : D := .dict [(.none, .list (ns.map .int))]
mutual
/-- a value and the data that it is, in things that stand still -/
inductive Rp (K : PySem.W.Frag) (H : Hp) : V → D → Prop
  | non : Rp K H .non .none
  | bl (b : Bool) : Rp K H (.bl b) (.bool b)
  | int (i : Int) : Rp K H (.int i) (.int i)
  | str (x : Str) : Rp K H (.str x) (.str x)
  | lst {a : Addr} {vs : List V} {ds : List D} : H a = some (.lst vs) → RpAll K H vs ds → Rp K H (.ref a) (.list ds)
  | tup {a : Addr} {vs : List V} {ds : List D} : H a = some (.tup vs) → RpAll K H vs ds → Rp K H (.ref a) (.tuple ds)
  | scr {a : Addr} {ns : List Int} : SqL K H a (ns.map V.int) → Rp K H (.ref a) (scrD ns)
inductive RpAll (K : PySem.W.Frag) (H : Hp) : List V → List D → Prop
  | nil : RpAll K H [] []
  | cons {v : V} {vs : List V} {d : D} {ds : List D} : Rp K H v d → RpAll K H vs ds → RpAll K H (v :: vs) (d :: ds)
end
mutual
theorem Rp.sub {K : PySem.W.Frag} {H H' : Hp} (s : Sub H H') : ∀ {v : V} {d : D}, Rp K H v d → Rp K H' v d
  | _, _, .non => .non
  | _, _, .bl b => .bl b
  | _, _, .int i => .int i
  | _, _, .str x => .str x
  | _, _, .lst h r => .lst (s _ _ h) (RpAll.sub s r)
  | _, _, .tup h r => .tup (s _ _ h) (RpAll.sub s r)
  | _, _, .scr h => .scr (s.sqL h)
theorem RpAll.sub {K : PySem.W.Frag} {H H' : Hp} (s : Sub H H') : ∀ {vs : List V} {ds : List D}, RpAll K H vs ds → RpAll K H' vs ds
  | _, _, .nil => .nil
  | _, _, .cons h r => .cons (Rp.sub s h) (RpAll.sub s r)
end
mutual
/-- as the library's comparisons want it -/
theorem Rp.dp {K : PySem.W.Frag} {H : Hp} : ∀ {v : V} {d : D}, Rp K H v d → d.canLay0 = true → Dp K H v d
  | _, _, .non, _ => .non
  | _, _, .bl b, _ => .bl b
  | _, _, .int i, _ => .int i
  | _, _, .str x, _ => .str x
  | _, _, .lst h r, c => .lst (SqL.of h) (RpAll.dp r (by simpa [PyData.canLay0] using c))
  | _, _, .tup h r, c => .tup (SqT.of h) (RpAll.dp r (by simpa [PyData.canLay0] using c))
  | _, _, .scr h, c => by simp [scrD, PyData.canLay0] at c
theorem RpAll.dp {K : PySem.W.Frag} {H : Hp} : ∀ {vs : List V} {ds : List D}, RpAll K H vs ds → PyData.canLayAll0 ds = true → DpAll K H vs ds
  | _, _, .nil, _ => .nil
  | _, _, .cons h r, c => by
    simp only [PyData.canLayAll0, Bool.and_eq_true] at c
    exact .cons (Rp.dp h c.1) (RpAll.dp r c.2)
end
theorem RpAll.length {K : PySem.W.Frag} {H : Hp} : ∀ {vs : List V} {ds : List D}, RpAll K H vs ds → vs.length = ds.length
  | _, _, .nil => rfl
  | _, _, .cons _ r => congrArg (· + 1) (RpAll.length r)
theorem RpAll.append {K : PySem.W.Frag} {H : Hp} : ∀ {vs ws : List V} {ds es : List D}, RpAll K H vs ds → RpAll K H ws es → RpAll K H (vs ++ ws) (ds ++ es)
  | _, _, _, _, .nil, h => h
  | _, _, _, _, .cons a r, h => .cons a (RpAll.append r h)
theorem RpAll.get {K : PySem.W.Frag} {H : Hp} : ∀ {vs : List V} {ds : List D} {i : Nat} {d : D}, RpAll K H vs ds → ds[i]? = some d → ∃ v, vs[i]? = some v ∧ Rp K H v d
  | _, _, _, _, .nil, e => by simp at e
  | _, _, 0, _, .cons h _, e => by simp at e; subst e; exact ⟨_, rfl, h⟩
  | _, _, i + 1, d, .cons _ r, e => by
    obtain ⟨v, h1, h2⟩ := RpAll.get (i := i) (d := d) r (by simpa using e)
    exact ⟨v, by simpa using h1, h2⟩
theorem RpAll.getV {K : PySem.W.Frag} {H : Hp} : ∀ {vs : List V} {ds : List D} {i : Nat} {v : V}, RpAll K H vs ds → vs[i]? = some v → ∃ d, ds[i]? = some d ∧ Rp K H v d
  | _, _, _, _, .nil, e => by simp at e
  | _, _, 0, _, .cons h _, e => by simp at e; subst e; exact ⟨_, rfl, h⟩
  | _, _, i + 1, v, .cons _ r, e => by
    obtain ⟨d, h1, h2⟩ := RpAll.getV (i := i) (v := v) r (by simpa using e)
    exact ⟨d, by simpa using h1, h2⟩
theorem RpAll.take {K : PySem.W.Frag} {H : Hp} : ∀ {vs : List V} {ds : List D} (n : Nat), RpAll K H vs ds → RpAll K H (vs.take n) (ds.take n)
  | _, _, 0, _ => .nil
  | _, _, _ + 1, .nil => .nil
  | _, _, n + 1, .cons h r => .cons h (RpAll.take n r)
theorem RpAll.drop {K : PySem.W.Frag} {H : Hp} : ∀ {vs : List V} {ds : List D} (n : Nat), RpAll K H vs ds → RpAll K H (vs.drop n) (ds.drop n)
  | _, _, 0, h => h
  | _, _, _ + 1, .nil => .nil
  | _, _, n + 1, .cons _ r => RpAll.drop n r
theorem RpAll.reverse {K : PySem.W.Frag} {H : Hp} : ∀ {vs : List V} {ds : List D}, RpAll K H vs ds → RpAll K H vs.reverse ds.reverse
  | _, _, .nil => .nil
  | _, _, .cons h r => by
    rw [List.reverse_cons, List.reverse_cons]
    exact RpAll.append (RpAll.reverse r) (.cons h .nil)
theorem RpAll.set {K : PySem.W.Frag} {H : Hp} {v : V} {d : D} (x : Rp K H v d) : ∀ {vs : List V} {ds : List D} (i : Nat), RpAll K H vs ds → RpAll K H (vs.set i v) (ds.set i d)
  | _, _, _, .nil => .nil
  | _, _, 0, .cons _ r => .cons x r
  | _, _, i + 1, .cons h r => .cons h (RpAll.set x i r)

/-- a thing that may be changed -/
inductive Cell where
  | lst (xs : List D)
  | dK (kvs : List (Key × D))
/-- a value by data: data that stands still, a thing of the store, a thing of one's own slot -/
inductive DV where
  | d (x : D)
  | ref (n : Nat)
  | loc (i : Nat)
inductive Slot where
  | no
  | val (v : DV)
  | own (c : Cell)
abbrev Env3 := List Slot
abbrev Sto := List Cell

def KRp (K : PySem.W.Frag) (H : Hp) : List (Key × V) → List (Key × D) → Prop := Paired fun p q => p.1 = q.1 ∧ Rp K H p.2 q.2
def CellOk (K : PySem.W.Frag) (H Hz : Hp) (a : Addr) : Cell → Prop
  | .lst xs => ∃ vs, H a = some (.lst vs) ∧ RpAll K Hz vs xs
  | .dK kvs => ∃ ws, H a = some (.dK ws) ∧ KRp K Hz ws kvs
/-- the addresses of what may be changed: the callers' own things, the store's, one's own -/
def Mu (F : Addr → Prop) (m o : Nat → Option Addr) : Addr → Prop := fun a => F a ∨ (∃ n, m n = some a) ∨ ∃ i, o i = some a
def SlotOk (K : PySem.W.Frag) (m : Nat → Option Addr) (H Hz : Hp) (oi : Option Addr) (x : Option (Option V)) : Slot → Prop
  | .no => oi = none
  | .val (.d d) => oi = none ∧ ∃ v, x = some (some v) ∧ Rp K Hz v d
  | .val (.ref n) => oi = none ∧ ∃ a, x = some (some (.ref a)) ∧ m n = some a
  | .val (.loc _) => False
  | .own c => ∃ a, oi = some a ∧ x = some (some (.ref a)) ∧ CellOk K H Hz a c
structure Stor (K : PySem.W.Frag) (F : Addr → Prop) (m o : Nat → Option Addr) (S : Sto) (H : Hp) : Prop where
  there : ∀ n c, S[n]? = some c → ∃ a, m n = some a
  is : ∀ n a, m n = some a → ∃ c, S[n]? = some c ∧ CellOk K H (Fz H (Mu F m o)) a c
  inj : ∀ n k a, m n = some a → m k = some a → n = k
  injO : ∀ n i a, m n = some a → o i = some a → False
  injF : ∀ n a, m n = some a → F a → False
  oo : ∀ i j a, o i = some a → o j = some a → i = j
  oF : ∀ i a, o i = some a → F a → False
  alive : ∀ a, Mu F m o a → H a ≠ none
structure Rel (K : PySem.W.Frag) (F : Addr → Prop) (m o : Nat → Option Addr) (ρ : Env3) (S : Sto) (σ : L2.St) (H : Hp) : Prop where
  st : Stor K F m o S H
  len : σ.length = ρ.length
  sl : ∀ i s, ρ[i]? = some s → SlotOk K m H (Fz H (Mu F m o)) (o i) (σ[i]?) s
  far : ∀ i, ρ.length ≤ i → o i = none
/-- how the heap grows while code runs -/
structure Grow (F : Addr → Prop) (m o : Nat → Option Addr) (H : Hp) (m' o' : Nat → Option Addr) (H' : Hp) : Prop where
  f : ∀ a, F a → H' a = H a
  z : Sub (Fz H (Mu F m o)) (Fz H' (Mu F m' o'))
  m : ∀ n a, m n = some a → m' n = some a
theorem Grow.refl {F : Addr → Prop} {m o : Nat → Option Addr} {H : Hp} : Grow F m o H m o H := ⟨fun _ _ => rfl, Sub.refl _, fun _ _ h => h⟩
theorem Grow.trans {F : Addr → Prop} {m o m1 o1 m2 o2 : Nat → Option Addr} {H H1 H2 : Hp} (g : Grow F m o H m1 o1 H1) (g' : Grow F m1 o1 H1 m2 o2 H2) : Grow F m o H m2 o2 H2 :=
  ⟨fun a h => (g'.f a h).trans (g.f a h), g.z.trans g'.z, fun n a h => g'.m n a (g.m n a h)⟩

def DRep (K : PySem.W.Frag) (F : Addr → Prop) (m o : Nat → Option Addr) (H : Hp) (v : V) : DV → Prop
  | .d x => Rp K (Fz H (Mu F m o)) v x
  | .ref n => ∃ a, m n = some a ∧ v = .ref a
  | .loc i => ∃ a, o i = some a ∧ v = .ref a
theorem DRep.grow {K : PySem.W.Frag} {F : Addr → Prop} {m o m' : Nat → Option Addr} {H H' : Hp} {v : V} {d : DV} (r : DRep K F m o H v d) (g : Grow F m o H m' o H') : DRep K F m' o H' v d := by
  cases d with
  | d x => exact Rp.sub g.z r
  | ref n => obtain ⟨a, h, e⟩ := r; exact ⟨a, g.m n a h, e⟩
  | loc i => exact r

/-! ### readings by data -/
abbrev DK := DV → Sto → Prop
abbrev dTE := Env3 → Sto → DK → Prop
abbrev dTT := Env3 → Sto → (Bool → Sto → Prop) → Prop
abbrev dTA := Env3 → Sto → (List DV → Sto → Prop) → Prop
structure dEnds where
  nx : Env3 → Sto → Prop
  rt : DK
  bk : Env3 → Sto → Prop := fun _ _ => False
  ct : Env3 → Sto → Prop := fun _ _ => False
abbrev dTS := dEnds → Env3 → Sto → Prop

def DReps (K : PySem.W.Frag) (F : Addr → Prop) (m o : Nat → Option Addr) (H : Hp) : List V → List DV → Prop := Paired fun v d => DRep K F m o H v d
theorem DReps.grow {K : PySem.W.Frag} {F : Addr → Prop} {m o m' : Nat → Option Addr} {H H' : Hp} {vs : List V} {ds : List DV} (r : DReps K F m o H vs ds) (g : Grow F m o H m' o H') : DReps K F m' o H' vs ds :=
  Paired.mapP r fun _ _ h => h.grow g

/-- from a reading by data to one over the heap -/
def lift (K : PySem.W.Frag) (t : dTE) : TE := fun σ H Q => ∃ F m o ρ S k, Rel K F m o ρ S σ H ∧ t ρ S k ∧
  ∀ d S' m' H' v, k d S' → Rel K F m' o ρ S' σ H' → Grow F m o H m' o H' → DRep K F m' o H' v d → Q v H'
def liftT (K : PySem.W.Frag) (t : dTT) : TT := fun σ H Q => ∃ F m o ρ S k, Rel K F m o ρ S σ H ∧ t ρ S k ∧
  ∀ b S' m' H', k b S' → Rel K F m' o ρ S' σ H' → Grow F m o H m' o H' → Q b H'
def liftA (K : PySem.W.Frag) (t : dTA) : TA := fun σ H Q => ∃ F m o ρ S k, Rel K F m o ρ S σ H ∧ t ρ S k ∧
  ∀ ds S' m' H' vs, k ds S' → Rel K F m' o ρ S' σ H' → Grow F m o H m' o H' → DReps K F m' o H' vs ds → Q vs H'
structure EndsOk (K : PySem.W.Frag) (F : Addr → Prop) (m o : Nat → Option Addr) (H : Hp) (E : dEnds) (E' : Ends) : Prop where
  nx : ∀ ρ S m' o' σ' H', E.nx ρ S → Rel K F m' o' ρ S σ' H' → Grow F m o H m' o' H' → E'.nx σ' H'
  bk : ∀ ρ S m' o' σ' H', E.bk ρ S → Rel K F m' o' ρ S σ' H' → Grow F m o H m' o' H' → E'.bk σ' H'
  ct : ∀ ρ S m' o' σ' H', E.ct ρ S → Rel K F m' o' ρ S σ' H' → Grow F m o H m' o' H' → E'.ct σ' H'
  rt : ∀ d ρ S m' o' σ' H' v, E.rt d S → Rel K F m' o' ρ S σ' H' → Grow F m o H m' o' H' → DRep K F m' o' H' v d → E'.rt v H'
def liftS (K : PySem.W.Frag) (t : dTS) : TS := fun E' σ H => ∃ F m o ρ S E, Rel K F m o ρ S σ H ∧ t E ρ S ∧ EndsOk K F m o H E E'
theorem EndsOk.grow {K : PySem.W.Frag} {F : Addr → Prop} {m o m1 o1 : Nat → Option Addr} {H H1 : Hp} {E : dEnds} {E' : Ends} (e : EndsOk K F m o H E E') (g : Grow F m o H m1 o1 H1) : EndsOk K F m1 o1 H1 E E' :=
  ⟨fun ρ S m' o' σ' H' h r g' => e.nx ρ S m' o' σ' H' h r (g.trans g'), fun ρ S m' o' σ' H' h r g' => e.bk ρ S m' o' σ' H' h r (g.trans g'),
   fun ρ S m' o' σ' H' h r g' => e.ct ρ S m' o' σ' H' h r (g.trans g'), fun d ρ S m' o' σ' H' v h r g' q => e.rt d ρ S m' o' σ' H' v h r (g.trans g') q⟩

abbrev DE (X : Cx) (e : Expr) (t : dTE) : Prop := PE X e (lift X.K t)
abbrev DT (X : Cx) (e : Expr) (t : dTT) : Prop := PT X e (liftT X.K t)
abbrev DW (X : Cx) (e : Expr) (t : dTT) : Prop := PW X e (liftT X.K t)
abbrev DA (X : Cx) (es : List Expr) (t : dTA) : Prop := PA X es (liftA X.K t)
abbrev DS (X : Cx) (st : Stmt) (t : dTS) : Prop := PS X st (liftS X.K t)
abbrev DSs (X : Cx) (st : List Stmt) (t : dTS) : Prop := PSs X st (liftS X.K t)
theorem PE.imp {X : Cx} {e : Expr} {t t' : TE} (h : PE X e t) (i : ∀ σ H Q, t' σ H Q → t σ H Q) : PE X e t' := ⟨fun pins s σ H Q I q => h.run pins s σ H Q I (i σ H Q q)⟩
theorem PT.imp {X : Cx} {e : Expr} {t t' : TT} (h : PT X e t) (i : ∀ σ H Q, t' σ H Q → t σ H Q) : PT X e t' := ⟨fun pins s σ H Q I q => h.run pins s σ H Q I (i σ H Q q)⟩
theorem PW.imp {X : Cx} {e : Expr} {t t' : TT} (h : PW X e t) (i : ∀ σ H Q, t' σ H Q → t σ H Q) : PW X e t' := ⟨fun wh pins s σ H Q I q => h.run wh pins s σ H Q I (i σ H Q q)⟩
theorem PA.imp {X : Cx} {e : List Expr} {t t' : TA} (h : PA X e t) (i : ∀ σ H Q, t' σ H Q → t σ H Q) : PA X e t' := ⟨fun pos pins s σ H Q I q => h.run pos pins s σ H Q I (i σ H Q q)⟩
theorem PS.imp {X : Cx} {e : Stmt} {t t' : TS} (h : PS X e t) (i : ∀ E σ H, t' E σ H → t E σ H) : PS X e t' := ⟨fun pins s σ H D I q => h.run pins s σ H D I (i D σ H q)⟩
theorem PSs.imp {X : Cx} {e : List Stmt} {t t' : TS} (h : PSs X e t) (i : ∀ E σ H, t' E σ H → t E σ H) : PSs X e t' := ⟨fun pins s σ H D I q => h.run pins s σ H D I (i D σ H q)⟩

/-! ### the state when something new is laid -/
section
variable {K : PySem.W.Frag} {F : Addr → Prop} {m o : Nat → Option Addr} {ρ : Env3} {S : Sto} {σ : L2.St} {H H' : Hp}
/-- nothing that stood is changed -/
theorem fz_sub (s : Sub H H') : Sub (Fz H (Mu F m o)) (Fz H' (Mu F m o)) := fun _ _ h => Fz.of (Fz.at h).1 (s _ _ (Fz.at h).2)
theorem KRp.sub (s : Sub H H') {ws : List (Key × V)} {kvs : List (Key × D)} (h : KRp K H ws kvs) : KRp K H' ws kvs := Paired.mapP h fun _ _ q => ⟨q.1, Rp.sub s q.2⟩
theorem CellOk.sub {Hz Hz' : Hp} {a : Addr} {c : Cell} (h : CellOk K H Hz a c) (e : H' a = H a) (s : Sub Hz Hz') : CellOk K H' Hz' a c := by
  cases c with
  | lst xs => obtain ⟨vs, h1, h2⟩ := h; exact ⟨vs, e.trans h1, RpAll.sub s h2⟩
  | dK kvs => obtain ⟨vs, h1, h2⟩ := h; exact ⟨vs, e.trans h1, h2.sub s⟩
theorem sub_eq (s : Sub H H') {a : Addr} (h : H a ≠ none) : H' a = H a := by
  cases e : H a with
  | none => exact absurd e h
  | some u => exact s a u e
theorem Stor.sub (r : Stor K F m o S H) (s : Sub H H') : Stor K F m o S H' :=
  ⟨r.there, fun n a e => let ⟨c, h1, h2⟩ := r.is n a e; ⟨c, h1, h2.sub (sub_eq s (r.alive a (.inr (.inl ⟨n, e⟩)))) (fz_sub s)⟩, r.inj, r.injO, r.injF, r.oo, r.oF, fun a h e => by
    have := sub_eq s (r.alive a h)
    rw [e] at this
    exact r.alive a h this.symm⟩
theorem SlotOk.sub {Hz Hz' : Hp} {oi : Option Addr} {x : Option (Option V)} {c : Slot} (h : SlotOk K m H Hz oi x c) (e : ∀ a, oi = some a → H' a = H a) (s : Sub Hz Hz') : SlotOk K m H' Hz' oi x c := by
  cases c with
  | no => exact h
  | val v =>
    cases v with
    | d x => obtain ⟨h0, v, h1, h2⟩ := h; exact ⟨h0, v, h1, Rp.sub s h2⟩
    | ref n => exact h
    | loc i => exact h
  | own c => obtain ⟨a, h0, h1, h2⟩ := h; exact ⟨a, h0, h1, h2.sub (e a h0) s⟩
theorem Rel.sub (r : Rel K F m o ρ S σ H) (s : Sub H H') : Rel K F m o ρ S σ H' :=
  ⟨r.st.sub s, r.len, fun i c e => (r.sl i c e).sub (fun a h => sub_eq s (r.st.alive a (.inr (.inr ⟨i, h⟩)))) (fz_sub s), r.far⟩
theorem Grow.sub (r : Rel K F m o ρ S σ H) (s : Sub H H') : Grow F m o H m o H' := ⟨fun a h => sub_eq s (r.st.alive a (.inl h)), fz_sub s, fun _ _ h => h⟩
theorem sub_upd {p : Addr} {u : HO} (h : H p = none) : Sub H (upd H p u) := fun a w e => by
  rw [upd_ne (ne_of_none e h)]
  exact e
theorem fz_new (r : Stor K F m o S H) {p : Addr} {u : HO} (h : H p = none) : Fz (upd H p u) (Mu F m o) p = some u := Fz.of (fun z => r.alive p z h) upd_same
end
end L3

set_option maxHeartbeats 4000000
namespace L3
open PySem PySem.Spec L2

section
variable {K : PySem.W.Frag} {F : Addr → Prop} {m o : Nat → Option Addr} {ρ : Env3} {S : Sto} {σ : L2.St} {H H' : Hp}
def ersO (o : Nat → Option Addr) (i : Nat) : Nat → Option Addr := fun j => if j = i then none else o j
def putO (o : Nat → Option Addr) (i : Nat) (a : Addr) : Nat → Option Addr := fun j => if j = i then some a else o j
theorem ers_some {i j : Nat} {a : Addr} (h : ersO o i j = some a) : j ≠ i ∧ o j = some a := by
  unfold ersO at h
  split at h
  · cases h
  · rename_i n
    exact ⟨n, h⟩
theorem ers_ne {i j : Nat} (h : j ≠ i) : ersO o i j = o j := if_neg h
theorem ers_same {i : Nat} : ersO o i i = none := if_pos rfl
theorem put_ne {i j : Nat} {a : Addr} (h : j ≠ i) : putO o i a j = o j := if_neg h
theorem put_same {i : Nat} {a : Addr} : putO o i a i = some a := if_pos rfl
theorem mu_ers {i : Nat} {a : Addr} (h : Mu F m (ersO o i) a) : Mu F m o a := by
  rcases h with h | h | ⟨j, h⟩
  · exact .inl h
  · exact .inr (.inl h)
  · exact .inr (.inr ⟨j, (ers_some h).2⟩)
theorem fz_ers (i : Nat) : Sub (Fz H (Mu F m o)) (Fz H (Mu F m (ersO o i))) := fun a u h => Fz.of (fun z => (Fz.at h).1 (mu_ers z)) (Fz.at h).2
theorem Stor.ers (r : Stor K F m o S H) (i : Nat) : Stor K F m (ersO o i) S H :=
  ⟨r.there, fun n a e => let ⟨c, h1, h2⟩ := r.is n a e; ⟨c, h1, h2.sub rfl (fz_ers i)⟩, r.inj, fun n j a h e => r.injO n j a h (ers_some e).2, r.injF,
   fun j k a h h' => r.oo j k a (ers_some h).2 (ers_some h').2, fun j a h => r.oF j a (ers_some h).2, fun a h => r.alive a (mu_ers h)⟩
theorem Grow.ers (i : Nat) : Grow F m o H m (ersO o i) H := ⟨fun _ _ => rfl, fz_ers i, fun _ _ h => h⟩
theorem DRep.ers {v : V} {d : DV} (i : Nat) (r : DRep K F m o H v d) (n : ∀ j, d ≠ .loc j) : DRep K F m (ersO o i) H v d := by
  cases d with
  | d x => exact Rp.sub (fz_ers i) r
  | ref k => exact r
  | loc j => exact absurd rfl (n j)
def isLoc : DV → Bool
  | .loc _ => true
  | _ => false
theorem isLoc_no {d : DV} (h : isLoc d = false) : ∀ j, d ≠ .loc j := fun j e => by subst e; cases h
/-- slot i takes a value -/
theorem Rel.put (r : Rel K F m o ρ S σ H) (i : Nat) {v : V} {d : DV} (q : DRep K F m o H v d) (n : isLoc d = false) : Rel K F m (ersO o i) (ρ.set i (.val d)) S (σ.set i (some v)) H := by
  have q' := q.ers i (isLoc_no n)
  refine ⟨r.st.ers i, by rw [List.length_set, List.length_set, r.len], fun j s e => ?_, fun j h => ?_⟩
  · by_cases hj : i = j
    · subst hj
      have hlt : i < ρ.length := by
        have := (List.getElem?_eq_some_iff.mp e).1
        rwa [List.length_set] at this
      rw [List.getElem?_set_self hlt] at e
      cases e
      rw [ers_same, List.getElem?_set_self (by rw [r.len]; exact hlt)]
      cases d with
      | d x => exact ⟨rfl, v, rfl, q'⟩
      | ref k =>
        obtain ⟨a, h1, h2⟩ := q'
        exact ⟨rfl, a, by rw [h2], h1⟩
      | loc k => cases n
    · rw [List.getElem?_set_ne hj] at e
      rw [ers_ne (Ne.symm hj), List.getElem?_set_ne hj]
      exact (r.sl j s e).sub (fun _ _ => rfl) (fz_ers i)
  · rw [List.length_set] at h
    by_cases hj : j = i
    · subst hj; exact ers_same
    · rw [ers_ne hj]; exact r.far j h
theorem mu_put {i : Nat} {a b : Addr} (h : Mu F m (putO (ersO o i) i a) b) : b = a ∨ Mu F m o b := by
  rcases h with h | h | ⟨j, h⟩
  · exact .inr (.inl h)
  · exact .inr (.inr (.inl h))
  · by_cases hj : j = i
    · subst hj; rw [put_same] at h; cases h; exact .inl rfl
    · rw [put_ne hj] at h
      exact .inr (.inr (.inr ⟨j, (ers_some h).2⟩))
/-- slot i takes a new thing of its own -/
theorem fz_own {i : Nat} {p : Addr} {u : HO} (h : H p = none) : Sub (Fz H (Mu F m o)) (Fz (upd H p u) (Mu F m (putO (ersO o i) i p))) := fun a w e => by
  obtain ⟨e1, e2⟩ := Fz.at e
  have hne : a ≠ p := ne_of_none e2 h
  refine Fz.of (fun z => ?_) (by rw [upd_ne hne]; exact e2)
  rcases mu_put z with z | z
  · exact hne z
  · exact e1 z
theorem Grow.own (r : Stor K F m o S H) {i : Nat} {p : Addr} {u : HO} (h : H p = none) : Grow F m o H m (putO (ersO o i) i p) (upd H p u) :=
  ⟨fun a f => upd_ne (fun e => r.alive a (.inl f) (by rw [e]; exact h)), fz_own h, fun _ _ e => e⟩
theorem Rel.own (r : Rel K F m o ρ S σ H) {i : Nat} {p : Addr} {u : HO} {c : Cell} (h : H p = none) (hi : i < ρ.length)
    (q : CellOk K (upd H p u) (Fz (upd H p u) (Mu F m (putO (ersO o i) i p))) p c) : Rel K F m (putO (ersO o i) i p) (ρ.set i (.own c)) S (σ.set i (some (.ref p))) (upd H p u) := by
  have g := Grow.own (i := i) (u := u) r.st h
  have keep : ∀ a, Mu F m o a → (upd H p u) a = H a := fun a z => upd_ne fun e => r.st.alive a z (by rw [e]; exact h)
  have nop : ∀ {P : Prop}, Mu F m o p → P := fun z => absurd h (r.st.alive p z)
  refine ⟨⟨r.st.there, fun n a e => ?_, r.st.inj, fun n j a e z => ?_, r.st.injF, fun j k a e z => ?_, fun j a e f => ?_, fun a z => ?_⟩, by rw [List.length_set, List.length_set, r.len], fun j s e => ?_, fun j z => ?_⟩
  · obtain ⟨c, h1, h2⟩ := r.st.is n a e
    exact ⟨c, h1, h2.sub (keep a (.inr (.inl ⟨n, e⟩))) g.z⟩
  · by_cases hj : j = i
    · subst hj; rw [put_same] at z; cases z; exact nop (.inr (.inl ⟨n, e⟩))
    · rw [put_ne hj] at z; exact r.st.injO n j a e (ers_some z).2
  · by_cases hj : j = i
    · subst hj
      rw [put_same] at e
      cases e
      by_cases hk : k = j
      · exact hk.symm
      · rw [put_ne hk] at z
        exact nop (.inr (.inr ⟨k, (ers_some z).2⟩))
    · rw [put_ne hj] at e
      by_cases hk : k = i
      · subst hk
        rw [put_same] at z
        cases z
        exact nop (.inr (.inr ⟨j, (ers_some e).2⟩))
      · rw [put_ne hk] at z
        exact r.st.oo j k a (ers_some e).2 (ers_some z).2
  · by_cases hj : j = i
    · subst hj; rw [put_same] at e; cases e; exact nop (.inl f)
    · rw [put_ne hj] at e; exact r.st.oF j a (ers_some e).2 f
  · rcases mu_put z with z | z
    · subst z; rw [upd_same]; exact Option.some_ne_none u
    · rw [keep a z]; exact r.st.alive a z
  · by_cases hj : i = j
    · subst hj
      rw [List.getElem?_set_self hi] at e
      cases e
      exact ⟨p, put_same, List.getElem?_set_self (by rw [r.len]; exact hi), q⟩
    · rw [List.getElem?_set_ne hj] at e
      rw [put_ne (Ne.symm hj), ers_ne (Ne.symm hj), List.getElem?_set_ne hj]
      exact (r.sl j s e).sub (fun a z => keep a (.inr (.inr ⟨j, z⟩))) g.z
  · rw [List.length_set] at z
    have hj : j ≠ i := by omega
    rw [put_ne hj, ers_ne hj]
    exact r.far j z
end
/-! ### what an operand is, seen from outside -/
def keyD : Key → D
  | .inl i => .int i
  | .inr x => .str x
def cellD : Cell → D
  | .lst xs => .list xs
  | .dK kvs => .dict (kvs.map fun p => (keyD p.1, p.2))
def view (ρ : Env3) (S : Sto) : DV → D
  | .d x => x
  | .ref n => match S[n]? with
    | some c => cellD c
    | none => .none
  | .loc i => match ρ[i]? with
    | some (.own c) => cellD c
    | _ => .none
/-- an operand -/
inductive VRep (K : PySem.W.Frag) (H Hz : Hp) : V → D → Prop
  | d {v : V} {x : D} : Rp K Hz v x → VRep K H Hz v x
  | cell {a : Addr} {c : Cell} : CellOk K H Hz a c → VRep K H Hz (.ref a) (cellD c)
section
variable {K : PySem.W.Frag} {F : Addr → Prop} {m o : Nat → Option Addr} {ρ : Env3} {S : Sto} {σ : L2.St} {H H' Hz : Hp}
theorem Rel.view (r : Rel K F m o ρ S σ H) {v : V} {d : DV} (q : DRep K F m o H v d) : VRep K H (Fz H (Mu F m o)) v (view ρ S d) := by
  cases d with
  | d x => exact .d q
  | ref n =>
    obtain ⟨a, h1, rfl⟩ := q
    obtain ⟨c, h2, h3⟩ := r.st.is n a h1
    show VRep K H (Fz H (Mu F m o)) _ (match S[n]? with | some c => cellD c | none => .none)
    rw [h2]
    exact .cell h3
  | loc i =>
    obtain ⟨a, h1, rfl⟩ := q
    have hi : i < ρ.length := by
      by_cases z : i < ρ.length
      · exact z
      · have := r.far i (by omega)
        rw [h1] at this
        cases this
    have hs := r.sl i ρ[i] (List.getElem?_eq_getElem hi)
    show VRep K H (Fz H (Mu F m o)) _ (match ρ[i]? with | some (.own c) => cellD c | _ => .none)
    rw [List.getElem?_eq_getElem hi]
    rw [h1] at hs
    cases e : ρ[i] with
    | no => rw [e] at hs; cases hs
    | val w =>
      rw [e] at hs
      cases w with
      | d x => obtain ⟨z, _⟩ := hs; cases z
      | ref n => obtain ⟨z, _⟩ := hs; cases z
      | loc j => exact hs.elim
    | own c =>
      rw [e] at hs
      obtain ⟨b, h2, _, h3⟩ := hs
      cases h2
      exact .cell h3
theorem VRep.list {M : Addr → Prop} {v : V} {xs : List D} (h : VRep K H (Fz H M) v (.list xs)) : ∃ a vs, v = .ref a ∧ H a = some (.lst vs) ∧ RpAll K (Fz H M) vs xs := by
  generalize hx : (PyData.list xs : D) = y at h
  cases h with
  | d q =>
    subst hx
    cases q with
    | lst h r => exact ⟨_, _, rfl, Fz.sub _ _ h, r⟩
  | @cell a c q =>
    cases c with
    | lst ys =>
      cases hx
      obtain ⟨vs, h1, h2⟩ := q
      exact ⟨a, vs, rfl, h1, h2⟩
    | dK kvs => cases hx
theorem VRep.tup {v : V} {xs : List D} (h : VRep K H Hz v (.tuple xs)) : ∃ a vs, v = .ref a ∧ Hz a = some (.tup vs) ∧ RpAll K Hz vs xs := by
  generalize hx : (PyData.tuple xs : D) = y at h
  cases h with
  | d q =>
    subst hx
    cases q with
    | tup h r => exact ⟨_, _, rfl, h, r⟩
  | @cell a c q => cases c <;> cases hx
theorem VRep.scr {M : Addr → Prop} {v : V} {ns : List Int} (h : VRep K H (Fz H M) v (scrD ns)) (n : v ≠ v ∨ True := .inr trivial) : (∃ a, v = .ref a ∧ SqL K H a (ns.map V.int)) ∨ ∃ a kvs, v = .ref a ∧ H a = some (.dK kvs) := by
  generalize hx : (scrD ns : D) = y at h
  cases h with
  | d q =>
    cases q with
    | @scr a ms h =>
      have e : ns = ms := by
        simp only [scrD, PyData.dict.injEq, List.cons.injEq, Prod.mk.injEq, PyData.list.injEq, and_true, true_and] at hx
        exact (List.map_inj_right fun _ _ q => PyData.int.inj q).mp hx
      subst e
      exact .inl ⟨a, rfl, Fz.sub.sqL h⟩
    | _ => cases hx
  | @cell a c q =>
    cases c with
    | lst ys => cases hx
    | dK kvs =>
      obtain ⟨ws, h1, h2⟩ := q
      exact .inr ⟨a, ws, rfl, h1⟩
theorem VRep.int {v : V} {i : Int} (h : VRep K H Hz v (.int i)) : v = .int i := by
  generalize hx : (PyData.int i : D) = y at h
  cases h with
  | d q => subst hx; cases q; rfl
  | @cell a c q => cases c <;> cases hx
theorem VRep.str {v : V} {i : Str} (h : VRep K H Hz v (.str i)) : v = .str i := by
  generalize hx : (PyData.str i : D) = y at h
  cases h with
  | d q => subst hx; cases q; rfl
  | @cell a c q => cases c <;> cases hx
theorem VRep.bl {v : V} {i : Bool} (h : VRep K H Hz v (.bool i)) : v = .bl i := by
  generalize hx : (PyData.bool i : D) = y at h
  cases h with
  | d q => subst hx; cases q; rfl
  | @cell a c q => cases c <;> cases hx
theorem VRep.non {v : V} (h : VRep K H Hz v .none) : v = .non := by
  generalize hx : (PyData.none : D) = y at h
  cases h with
  | d q => subst hx; cases q; rfl
  | @cell a c q => cases c <;> cases hx
/-- data at any depth, as the comparisons want it -/
theorem VRep.dp {v : V} {x : D} (h : VRep K H Hz v x) (s : Sub Hz H) (n : x.canLay0 = true) : Dp K H v x := by
  cases h with
  | d q => exact Rp.dp (Rp.sub s q) n
  | @cell a c q =>
    cases c with
    | lst ys =>
      obtain ⟨vs, h1, h2⟩ := q
      exact .lst (SqL.of h1) (RpAll.dp (RpAll.sub s h2) (by simpa [cellD, PyData.canLay0] using n))
    | dK kvs => simp [cellD, PyData.canLay0] at n
end
end L3

set_option maxHeartbeats 4000000
namespace L3
open PySem PySem.Spec L2

/-- two ways -/
def Br (b : Bool) (A B : Prop) : Prop := match b with
  | true => A
  | false => B
theorem Br.t {A B : Prop} (h : A) : Br true A B := h
theorem Br.f {A B : Prop} (h : B) : Br false A B := h
theorem Br.i {b : Bool} {A B : Prop} (h : b = true → A) (h' : b = false → B) : Br b A B := by
  cases b
  · exact h' rfl
  · exact h rfl
theorem Br.eT {A B : Prop} (h : Br true A B) : A := h
theorem Br.eF {A B : Prop} (h : Br false A B) : B := h
/-! ### names, constants -/
def dVar (i : Nat) : dTE := fun ρ S Q => match ρ[i]? with
  | some (.val d) => Q d S
  | some (.own _) => Q (.loc i) S
  | _ => False
def dC (x : D) : dTE := fun _ S Q => Q (.d x) S
section
variable {X : Cx}
theorem lift_var {K : PySem.W.Frag} {i : Nat} {σ : L2.St} {H : Hp} {Q : VK} (h : lift K (dVar i) σ H Q) : tVar i σ H Q := by
  obtain ⟨F, m, o, ρ, S, k, r, t, hk⟩ := h
  unfold dVar at t
  cases e : ρ[i]? with
  | none => rw [e] at t; exact t.elim
  | some s =>
    rw [e] at t
    have hs := r.sl i s e
    cases s with
    | no => exact t.elim
    | val d =>
      cases d with
      | d x => obtain ⟨_, v, h1, h2⟩ := hs; exact ⟨v, h1, hk _ S m H v t r Grow.refl h2⟩
      | ref n => obtain ⟨_, a, h1, h2⟩ := hs; exact ⟨_, h1, hk _ S m H _ t r Grow.refl ⟨a, h2, rfl⟩⟩
      | loc j => exact hs.elim
    | own c => obtain ⟨a, h1, h2, h3⟩ := hs; exact ⟨_, h2, hk _ S m H _ t r Grow.refl ⟨a, h1, rfl⟩⟩
theorem de_var {e : Expr} {i : Nat} (h : PE X e (tVar i)) : DE X e (dVar i) := PE.imp h fun _ _ _ => lift_var
theorem lift_c {K : PySem.W.Frag} {v : V} {x : D} (dp : ∀ H : Hp, Rp K H v x) {σ : L2.St} {H : Hp} {Q : VK} (h : lift K (dC x) σ H Q) : tC v σ H Q := by
  obtain ⟨F, m, o, ρ, S, k, r, t, hk⟩ := h
  exact hk _ S m H v t r Grow.refl (dp _)
theorem de_int {i : Int} {j pos} : DE X (.Constant (.int i) j pos) (dC (.int i)) := PE.imp pe_int fun _ _ _ => lift_c fun _ => .int i
theorem de_bl {i : Bool} {j pos} : DE X (.Constant (.bool i) j pos) (dC (.bool i)) := PE.imp pe_bl fun _ _ _ => lift_c fun _ => .bl i
theorem de_str {i : Str} {j pos} : DE X (.Constant (.str i) j pos) (dC (.str i)) := PE.imp pe_str fun _ _ _ => lift_c fun _ => .str i
theorem de_non {j pos} : DE X (.Constant .none j pos) (dC .none) := PE.imp pe_non fun _ _ _ => lift_c fun _ => .non
end

/-! ### operators by values -/
abbrev F1 := D → (D → Prop) → Prop
abbrev F2 := D → D → (D → Prop) → Prop
abbrev FN := List D → (D → Prop) → Prop
def dOp (f : F2) (ta tb : dTE) : dTE := fun ρ S Q => ta ρ S fun d S1 => tb ρ S1 fun e S2 => f (view ρ S2 d) (view ρ S2 e) fun z => Q (.d z) S2
def dUn (f : F1) (ta : dTE) : dTE := fun ρ S Q => ta ρ S fun d S1 => f (view ρ S1 d) fun z => Q (.d z) S1
def dNil : dTA := fun _ S Q => Q [] S
def dCons (ta : dTE) (tr : dTA) : dTA := fun ρ S Q => ta ρ S fun d S1 => tr ρ S1 fun ds S2 => Q (d :: ds) S2
def views (ρ : Env3) (S : Sto) : List DV → List D
  | [] => []
  | d :: ds => view ρ S d :: views ρ S ds
/-- a built-in call, its arguments seen from outside -/
def dCB (f : FN) (ta : dTA) : dTE := fun ρ S Q => ta ρ S fun ds S1 => f (views ρ S1 ds) fun z => Q (.d z) S1
/-- all that may be changed is there -/
def Alive (M : Addr → Prop) (H : Hp) : Prop := ∀ a, M a → H a ≠ none
/-- what a rule over values makes of a function of data; u says which units there are -/
def OpD (K : PySem.W.Frag) (r : R2) (f : F2) : Prop := ∀ (M : Addr → Prop) (H : Hp) (x y : V) (dx dy : D) (k : D → Prop) (Q : VK), Alive M H →
  VRep K H (Fz H M) x dx → VRep K H (Fz H M) y dy → f dx dy k → (∀ z v H', k z → Sub H H' → Rp K (Fz H' M) v z → Q v H') → r x y H Q
def UnD (K : PySem.W.Frag) (r : V → Hp → VK → Prop) (f : F1) : Prop := ∀ (M : Addr → Prop) (H : Hp) (x : V) (dx : D) (k : D → Prop) (Q : VK), Alive M H →
  VRep K H (Fz H M) x dx → f dx k → (∀ z v H', k z → Sub H H' → Rp K (Fz H' M) v z → Q v H') → r x H Q
abbrev VReps (K : PySem.W.Frag) (H Hz : Hp) : List V → List D → Prop := Paired fun v x => VRep K H Hz v x
def CallD (K : PySem.W.Frag) (r : List V → Hp → VK → Prop) (f : FN) : Prop := ∀ (M : Addr → Prop) (H : Hp) (xs : List V) (ds : List D) (k : D → Prop) (Q : VK), Alive M H →
  VReps K H (Fz H M) xs ds → f ds k → (∀ z v H', k z → Sub H H' → Rp K (Fz H' M) v z → Q v H') → r xs H Q
section
variable {K : PySem.W.Frag}
theorem lift2 {r : R2} {f : F2} {ta tb : dTE} (hf : OpD K r f) {σ : L2.St} {H : Hp} {Q : VK} (h : lift K (dOp f ta tb) σ H Q) : tOp r (lift K ta) (lift K tb) σ H Q := by
  obtain ⟨F, m, o, ρ, S, k, rel, t, hk⟩ := h
  refine ⟨F, m, o, ρ, S, _, rel, t, fun d S1 m1 H1 v h1 rel1 g1 r1 => ?_⟩
  refine ⟨F, m1, o, ρ, S1, _, rel1, h1, fun e S2 m2 H2 w h2 rel2 g2 r2 => ?_⟩
  exact hf (Mu F m2 o) H2 v w _ _ _ _ rel2.st.alive (rel2.view (r1.grow g2)) (rel2.view r2) h2 fun z u H' kz s dz =>
    hk (.d z) S2 m2 H' u kz (rel2.sub s) ((g1.trans g2).trans (Grow.sub rel2 s)) dz
theorem lift1 {r : V → Hp → VK → Prop} {f : F1} {ta : dTE} (hf : UnD K r f) {σ : L2.St} {H : Hp} {Q : VK} (h : lift K (dUn f ta) σ H Q) : tUn r (lift K ta) σ H Q := by
  obtain ⟨F, m, o, ρ, S, k, rel, t, hk⟩ := h
  refine ⟨F, m, o, ρ, S, _, rel, t, fun d S1 m1 H1 v h1 rel1 g1 r1 => ?_⟩
  exact hf (Mu F m1 o) H1 v _ _ _ rel1.st.alive (rel1.view r1) h1 fun z u H' kz s dz =>
    hk (.d z) S1 m1 H' u kz (rel1.sub s) (g1.trans (Grow.sub rel1 s)) dz
theorem lift_nil {σ : L2.St} {H : Hp} {Q : List V → Hp → Prop} (h : liftA K dNil σ H Q) : tNil σ H Q := by
  obtain ⟨F, m, o, ρ, S, k, rel, t, hk⟩ := h
  exact hk [] S m H [] t rel Grow.refl .nil
theorem lift_cons {ta : dTE} {tr : dTA} {σ : L2.St} {H : Hp} {Q : List V → Hp → Prop} (h : liftA K (dCons ta tr) σ H Q) : tCons (lift K ta) (liftA K tr) σ H Q := by
  obtain ⟨F, m, o, ρ, S, k, rel, t, hk⟩ := h
  refine ⟨F, m, o, ρ, S, _, rel, t, fun d S1 m1 H1 v h1 rel1 g1 r1 => ?_⟩
  refine ⟨F, m1, o, ρ, S1, _, rel1, h1, fun ds S2 m2 H2 vs h2 rel2 g2 r2 => ?_⟩
  exact hk (d :: ds) S2 m2 H2 (v :: vs) h2 rel2 (g1.trans g2) (.cons (r1.grow g2) r2)
theorem Rel.views {F : Addr → Prop} {m o : Nat → Option Addr} {ρ : Env3} {S : Sto} {σ : L2.St} {H : Hp} (r : Rel K F m o ρ S σ H) : ∀ {vs : List V} {ds : List DV}, DReps K F m o H vs ds → VReps K H (Fz H (Mu F m o)) vs (views ρ S ds)
  | _, _, .nil => .nil
  | _, _, .cons h t => .cons (r.view h) (r.views t)
theorem liftCB {r : List V → Hp → VK → Prop} {f : FN} {ta : dTA} (hf : CallD K r f) {σ : L2.St} {H : Hp} {Q : VK} (h : lift K (dCB f ta) σ H Q) : tCB r (liftA K ta) σ H Q := by
  obtain ⟨F, m, o, ρ, S, k, rel, t, hk⟩ := h
  refine ⟨F, m, o, ρ, S, _, rel, t, fun ds S1 m1 H1 vs h1 rel1 g1 r1 => ?_⟩
  exact hf (Mu F m1 o) H1 vs _ _ _ rel1.st.alive (rel1.views r1) h1 fun z u H' kz s dz =>
    hk (.d z) S1 m1 H' u kz (rel1.sub s) (g1.trans (Grow.sub rel1 s)) dz
end
section
variable {X : Cx} {a b : Expr} {ta tb : dTE} {es : List Expr} {tas : dTA} {e : Expr}
theorem de_op {op : Operator} {pos : Pos} {f : F2} (ho : ∃ r, OpR X (binaryOp op) r ∧ OpD X.K r f) (ha : DE X a ta) (hb : DE X b tb) : DE X (.BinOp a op b pos) (dOp f ta tb) :=
  let ⟨r, h1, h2⟩ := ho; PE.imp (pe_op h1 ha hb) fun _ _ _ => lift2 h2
theorem de_un {op : UnaryOp} {pos : Pos} {f : F1} (ho : ∃ r, UnR X (unaryOp op) r ∧ UnD X.K r f) (ha : DE X a ta) : DE X (.UnaryOp op a pos) (dUn f ta) :=
  let ⟨r, h1, h2⟩ := ho; PE.imp (pe_un h1 ha) fun _ _ _ => lift1 h2
theorem de_cmp {op : CmpOp} {pos : Pos} {f : F2} (ho : ∃ r, OpR X (compareOp op) r ∧ OpD X.K r f) (ha : DE X a ta) (hb : DE X b tb) (hm : behindInMarks op b = false := by first | exact nomark _ | rfl) : DE X (.Compare a [op] [b] pos) (dOp f ta tb) :=
  let ⟨r, h1, h2⟩ := ho; PE.imp (pe_cmpR h1 ha hb hm) fun _ _ _ => lift2 h2
theorem da_nil : DA X [] dNil := PA.imp pa_nil fun _ _ _ => lift_nil
theorem da_cons (ha : DE X e ta) (hr : DA X es tas) (hs : starEach (e :: es) X.env = (false, eval e X.env) :: starEach es X.env := by rfl) : DA X (e :: es) (dCons ta tas) :=
  PA.imp (pa_cons ha hr hs) fun _ _ _ => lift_cons
theorem de_callB {id : String} {x : Str} {f : FN} {p pos : Pos} (hc : ∃ r, CallR X (.builtin id) r ∧ CallD X.K r f) (hm : X.mg x = none) (hg : Gl X x) (hv : bootBuiltins x = some (.builtin id)) (ha : DA X (e :: es) tas) (hn : x ≠ "__name__" := by decide) (hdb : (x == ("__debug__" : Str)) = false := by decide)
    (he : starEach (e :: es) X.env = (false, eval e X.env) :: starEach es X.env := by rfl) (hpl : (backTo pos (starEach es X.env)).any (·.1) = false := by rfl) : DE X (.Call (.Name x p) (e :: es) [] pos) (dCB f tas) :=
  let ⟨r, h1, h2⟩ := hc; PE.imp (pe_callB h1 hg hm hv ha hn hdb he hpl) fun _ _ _ => liftCB h2
theorem de_callT {T : String} {x : Str} {f : FN} {p pos : Pos} (hc : ∃ r, CallR X (.type T) r ∧ CallD X.K r f) (hm : X.mg x = none) (hg : Gl X x) (hv : bootBuiltins x = some (.type T)) (ha : DA X (e :: es) tas) (hn : x ≠ "__name__" := by decide) (hdb : (x == ("__debug__" : Str)) = false := by decide)
    (he : starEach (e :: es) X.env = (false, eval e X.env) :: starEach es X.env := by rfl) (hpl : (backTo pos (starEach es X.env)).any (·.1) = false := by rfl) : DE X (.Call (.Name x p) (e :: es) [] pos) (dCB f tas) :=
  let ⟨r, h1, h2⟩ := hc; PE.imp (pe_callTy h1 hg hm hv ha hn hdb he hpl) fun _ _ _ => liftCB h2
end

/-! ### displays -/
/-- only data that stands still -/
def datas : List DV → Option (List D)
  | [] => some []
  | .d x :: r => (datas r).map (x :: ·)
  | _ :: _ => none
theorem datas_rep {K : PySem.W.Frag} {F : Addr → Prop} {m o : Nat → Option Addr} {H : Hp} : ∀ {vs : List V} {ds : List DV} {xs : List D}, DReps K F m o H vs ds → datas ds = some xs → RpAll K (Fz H (Mu F m o)) vs xs
  | _, [], _, .nil, e => by cases e; exact .nil
  | _, .d x :: r, _, .cons h t, e => by
    unfold datas at e
    cases q : datas r with
    | none => rw [q] at e; cases e
    | some ys => rw [q] at e; cases e; exact .cons h (datas_rep t q)
  | _, .ref _ :: _, _, _, e => by cases e
  | _, .loc _ :: _, _, _, e => by cases e
def withDs (ds : List DV) (k : List D → Prop) : Prop := match datas ds with
  | some xs => k xs
  | none => False
theorem withDs_of {ds : List DV} {k : List D → Prop} (h : withDs ds k) : ∃ xs, datas ds = some xs ∧ k xs := by
  unfold withDs at h
  split at h
  · exact ⟨_, by assumption, h⟩
  · exact h.elim
/-- no more than n items -/
def okLen : Nat → List D → Prop → Prop
  | _, [], k => k
  | 0, _ :: _, _ => False
  | n + 1, _ :: xs, k => okLen n xs k
theorem okLen_of : ∀ {n : Nat} {xs : List D} {k : Prop}, okLen n xs k → xs.length ≤ n ∧ k
  | 0, [], _, h => ⟨Nat.le_refl _, h⟩
  | n + 1, [], _, h => ⟨Nat.zero_le _, h⟩
  | 0, _ :: _, _, h => h.elim
  | n + 1, _ :: xs, k, h => let ⟨h1, h2⟩ := okLen_of (n := n) (xs := xs) (k := k) h; ⟨Nat.succ_le_succ h1, h2⟩
abbrev dTF := Env3 → Sto → (List D → Sto → Prop) → Prop
/-- a new list, nobody else's -/
def liftF (K : PySem.W.Frag) (t : dTF) : TE := fun σ H Q => ∃ F m o ρ S k, Rel K F m o ρ S σ H ∧ t ρ S k ∧
  ∀ xs S' m' H1 p vs, k xs S' → Rel K F m' o ρ S' σ H1 → Grow F m o H m' o H1 → H1 p = none → RpAll K (Fz H1 (Mu F m' o)) vs xs → Q (.ref p) (upd H1 p (.lst vs))
abbrev DF (X : Cx) (e : Expr) (t : dTF) : Prop := PE X e (liftF X.K t)
def dFz (t : dTF) : dTE := fun ρ S Q => t ρ S fun xs S' => Q (.d (.list xs)) S'
theorem lift_fz {K : PySem.W.Frag} {t : dTF} {σ : L2.St} {H : Hp} {Q : VK} (h : lift K (dFz t) σ H Q) : liftF K t σ H Q := by
  obtain ⟨F, m, o, ρ, S, k, rel, t, hk⟩ := h
  refine ⟨F, m, o, ρ, S, _, rel, t, fun xs S1 m1 H1 p vs h1 rel1 g1 hp hd => ?_⟩
  have s := sub_upd (u := .lst vs) hp
  refine hk _ S1 m1 _ _ h1 (rel1.sub s) (g1.trans (Grow.sub rel1 s)) ?_
  exact .lst (fz_new rel1.st hp) (RpAll.sub (fz_sub s) hd)
theorem de_fz {X : Cx} {e : Expr} {t : dTF} (h : DF X e t) : DE X e (dFz t) := PE.imp h fun _ _ _ => lift_fz
def fLst (ta : dTA) : dTF := fun ρ S Q => ta ρ S fun ds S1 => withDs ds fun xs => okLen 100 xs (Q xs S1)
theorem df_lst {X : Cx} {es : List Expr} {pos : Pos} {tas : dTA} (h : DA X es tas) : DF X (.List es pos) (fLst tas) := PE.imp (pe_lst h) fun σ H Q q => by
  obtain ⟨F, m, o, ρ, S, k, rel, t, hk⟩ := q
  refine ⟨F, m, o, ρ, S, _, rel, t, fun ds S1 m1 H1 vs h1 rel1 g1 r1 => ?_⟩
  obtain ⟨xs, e, hq⟩ := withDs_of h1
  obtain ⟨hl, hq⟩ := okLen_of hq
  have dp := datas_rep r1 e
  exact ⟨by rw [RpAll.length dp]; exact Nat.le_trans hl (by decide), fun p hp => hk xs S1 m1 H1 p vs hq rel1 g1 hp dp⟩
def dTup (ta : dTA) : dTE := fun ρ S Q => ta ρ S fun ds S1 => withDs ds fun xs => okLen 100 xs (Q (.d (.tuple xs)) S1)
theorem de_tup {X : Cx} {es : List Expr} {x1 : Nat} {pos : Pos} {tas : dTA} (h : DA X es tas) : DE X (.Tuple es x1 pos) (dTup tas) := PE.imp (pe_tup h) fun σ H Q q => by
  obtain ⟨F, m, o, ρ, S, k, rel, t, hk⟩ := q
  refine ⟨F, m, o, ρ, S, _, rel, t, fun ds S1 m1 H1 vs h1 rel1 g1 r1 => ?_⟩
  obtain ⟨xs, e, hq⟩ := withDs_of h1
  obtain ⟨hl, hq⟩ := okLen_of hq
  have dp := datas_rep r1 e
  refine ⟨by rw [RpAll.length dp]; exact Nat.le_trans hl (by decide), fun p hp => ?_⟩
  have s := sub_upd (u := .tup vs) hp
  exact hk _ S1 m1 _ _ hq (rel1.sub s) (g1.trans (Grow.sub rel1 s)) (.tup (fz_new rel1.st hp) (RpAll.sub (fz_sub s) dp))

/-! ### tests -/
def asB (d : DV) (k : Bool → Prop) : Prop := match d with
  | .d (.bool b) => k b
  | _ => False
theorem asB_of {d : DV} {k : Bool → Prop} (h : asB d k) : ∃ b, d = .d (.bool b) ∧ k b := by
  unfold asB at h
  split at h
  · exact ⟨_, rfl, h⟩
  · exact h.elim
theorem dp_bl {K : PySem.W.Frag} {H : Hp} {v : V} {b : Bool} (h : Rp K H v (.bool b)) : v = .bl b := by cases h; rfl
theorem dp_int {K : PySem.W.Frag} {H : Hp} {v : V} {b : Int} (h : Rp K H v (.int b)) : v = .int b := by cases h; rfl
theorem dp_str {K : PySem.W.Frag} {H : Hp} {v : V} {b : Str} (h : Rp K H v (.str b)) : v = .str b := by cases h; rfl
theorem dp_non {K : PySem.W.Frag} {H : Hp} {v : V} (h : Rp K H v .none) : v = .non := by cases h; rfl
/-- a value that is True or False, as a test -/
def dB (t : dTE) : dTT := fun ρ S Q => t ρ S fun d S1 => asB d fun b => Q b S1
theorem lift_b {K : PySem.W.Frag} {t : dTE} {σ : L2.St} {H : Hp} {Q : Bool → Hp → Prop} (h : liftT K (dB t) σ H Q) : lift K t σ H fun x H1 => ∃ c, x = .bl c ∧ Q c H1 := by
  obtain ⟨F, m, o, ρ, S, k, rel, t, hk⟩ := h
  refine ⟨F, m, o, ρ, S, _, rel, t, fun d S1 m1 H1 v h1 rel1 g1 r1 => ?_⟩
  obtain ⟨b, rfl, h2⟩ := asB_of h1
  exact ⟨b, dp_bl r1, hk b S1 m1 H1 h2 rel1 g1⟩
theorem dt_val {X : Cx} {e : Expr} {t : dTE} (h : DE X e t) (he : ∀ whole, isTrue e X.env whole = (do let v ← whole; standAt e.pos; holding [v] (truthy v)) := by intro _; rfl) : DT X e (dB t) :=
  PT.imp (pt_val h he) fun _ _ _ => lift_b
theorem dt_cmp {X : Cx} {a b : Expr} {ta tb : dTE} {op : CmpOp} {pos : Pos} {f : F2} (ho : ∃ r, OpR X (compareOp op) r ∧ OpD X.K r f) (ha : DE X a ta) (hb : DE X b tb) (hm : behindInMarks op b = false := by first | exact nomark _ | rfl) :
    DT X (.Compare a [op] [b] pos) (dB (dOp f ta tb)) := let ⟨r, h1, h2⟩ := ho; PT.imp (pt_cmpR h1 ha hb hm) fun σ H Q q => by
  have h := lift_b q
  exact lift2 h2 h
def dAnd (t u : dTT) : dTT := fun ρ S Q => t ρ S fun c S1 => Br c (u ρ S1 Q) (Q false S1)
def dOr (t u : dTT) : dTT := fun ρ S Q => t ρ S fun c S1 => Br c (Q true S1) (u ρ S1 Q)
def dNot (t : dTT) : dTT := fun ρ S Q => t ρ S fun c S1 => Q (!c) S1
section
variable {X : Cx} {a b : Expr} {ta tb : dTT} {rest : List Expr} {pos : Pos}
theorem dw_pt (h : DW X a ta) : DT X a ta := PW.pt h
theorem dw_and1 (ha : DT X a ta) : DW X (.BoolOp .And [a] pos) ta := pw_and1 ha
theorem dw_or1 (ha : DT X a ta) : DW X (.BoolOp .Or [a] pos) ta := pw_or1 ha
theorem dw_and (ha : DT X a ta) (hb : DW X (.BoolOp .And (b :: rest) pos) tb) : DW X (.BoolOp .And (a :: b :: rest) pos) (dAnd ta tb) := PW.imp (pw_and ha hb) fun σ H Q q => by
  obtain ⟨F, m, o, ρ, S, k, rel, t, hk⟩ := q
  refine ⟨F, m, o, ρ, S, _, rel, t, fun c S1 m1 H1 h1 rel1 g1 => ?_⟩
  cases c with
  | true => exact iteT ⟨F, m1, o, ρ, S1, _, rel1, h1.eT, fun c S2 m2 H2 h2 rel2 g2 => hk c S2 m2 H2 h2 rel2 (g1.trans g2)⟩
  | false => exact iteF (hk false S1 m1 H1 h1.eF rel1 g1)
theorem dw_or (ha : DT X a ta) (hb : DW X (.BoolOp .Or (b :: rest) pos) tb) : DW X (.BoolOp .Or (a :: b :: rest) pos) (dOr ta tb) := PW.imp (pw_or ha hb) fun σ H Q q => by
  obtain ⟨F, m, o, ρ, S, k, rel, t, hk⟩ := q
  refine ⟨F, m, o, ρ, S, _, rel, t, fun c S1 m1 H1 h1 rel1 g1 => ?_⟩
  cases c with
  | true => exact iteT (hk true S1 m1 H1 h1.eT rel1 g1)
  | false => exact iteF ⟨F, m1, o, ρ, S1, _, rel1, h1.eF, fun c S2 m2 H2 h2 rel2 g2 => hk c S2 m2 H2 h2 rel2 (g1.trans g2)⟩
theorem dt_not (ha : DT X a ta) : DT X (.UnaryOp .Not a pos) (dNot ta) := PT.imp (pt_not ha) fun σ H Q q => by
  obtain ⟨F, m, o, ρ, S, k, rel, t, hk⟩ := q
  exact ⟨F, m, o, ρ, S, _, rel, t, fun c S1 m1 H1 h1 rel1 g1 => hk (!c) S1 m1 H1 h1 rel1 g1⟩
end
/-- as values -/
def dAndV (ta tb : dTE) : dTE := fun ρ S Q => ta ρ S fun d S1 => asB d fun c => Br c (tb ρ S1 Q) (Q (.d (.bool false)) S1)
def dOrV (ta tb : dTE) : dTE := fun ρ S Q => ta ρ S fun d S1 => asB d fun c => Br c (Q (.d (.bool true)) S1) (tb ρ S1 Q)
def dNotV (ta : dTE) : dTE := fun ρ S Q => ta ρ S fun d S1 => asB d fun c => Q (.d (.bool (!c))) S1
section
variable {X : Cx} {a b : Expr} {ta tb : dTE} {tt : dTT} {rest : List Expr} {pos : Pos}
theorem de_one {op} (h : DE X a ta) : DE X (.BoolOp op [a] pos) ta := pe_one h
theorem de_and (ha : DE X a ta) (hb : DE X (.BoolOp .And (b :: rest) pos) tb) : DE X (.BoolOp .And (a :: b :: rest) pos) (dAndV ta tb) := PE.imp (pe_and ha hb) fun σ H Q q => by
  obtain ⟨F, m, o, ρ, S, k, rel, t, hk⟩ := q
  refine ⟨F, m, o, ρ, S, _, rel, t, fun d S1 m1 H1 v h1 rel1 g1 r1 => ?_⟩
  obtain ⟨c, rfl, h2⟩ := asB_of h1
  refine ⟨c, dp_bl r1, ?_⟩
  cases c with
  | true => exact iteT ⟨F, m1, o, ρ, S1, _, rel1, h2.eT, fun d S2 m2 H2 w h2 rel2 g2 r2 => hk d S2 m2 H2 w h2 rel2 (g1.trans g2) r2⟩
  | false => exact iteF (hk _ S1 m1 H1 _ h2.eF rel1 g1 (.bl false))
theorem de_or (ha : DE X a ta) (hb : DE X (.BoolOp .Or (b :: rest) pos) tb) : DE X (.BoolOp .Or (a :: b :: rest) pos) (dOrV ta tb) := PE.imp (pe_or ha hb) fun σ H Q q => by
  obtain ⟨F, m, o, ρ, S, k, rel, t, hk⟩ := q
  refine ⟨F, m, o, ρ, S, _, rel, t, fun d S1 m1 H1 v h1 rel1 g1 r1 => ?_⟩
  obtain ⟨c, rfl, h2⟩ := asB_of h1
  refine ⟨c, dp_bl r1, ?_⟩
  cases c with
  | true => exact iteT (hk _ S1 m1 H1 _ h2.eT rel1 g1 (.bl true))
  | false => exact iteF ⟨F, m1, o, ρ, S1, _, rel1, h2.eF, fun d S2 m2 H2 w h2 rel2 g2 r2 => hk d S2 m2 H2 w h2 rel2 (g1.trans g2) r2⟩
theorem de_not (ha : DE X a ta) : DE X (.UnaryOp .Not a pos) (dNotV ta) := PE.imp (pe_not ha) fun σ H Q q => by
  obtain ⟨F, m, o, ρ, S, k, rel, t, hk⟩ := q
  refine ⟨F, m, o, ρ, S, _, rel, t, fun d S1 m1 H1 v h1 rel1 g1 r1 => ?_⟩
  obtain ⟨c, rfl, h2⟩ := asB_of h1
  exact ⟨c, dp_bl r1, hk _ S1 m1 H1 _ h2 rel1 g1 (.bl _)⟩
def dIfE (t : dTT) (ta tb : dTE) : dTE := fun ρ S Q => t ρ S fun c S1 => Br c (ta ρ S1 Q) (tb ρ S1 Q)
theorem de_ifExp {c : Expr} (hc : DT X c tt) (ha : DE X a ta) (hb : DE X b tb) : DE X (.IfExp c a b pos) (dIfE tt ta tb) := PE.imp (pe_ifExp hc ha hb) fun σ H Q q => by
  obtain ⟨F, m, o, ρ, S, k, rel, t, hk⟩ := q
  refine ⟨F, m, o, ρ, S, _, rel, t, fun c S1 m1 H1 h1 rel1 g1 => ?_⟩
  cases c with
  | true => exact iteT ⟨F, m1, o, ρ, S1, _, rel1, h1.eT, fun d S2 m2 H2 w h2 rel2 g2 r2 => hk d S2 m2 H2 w h2 rel2 (g1.trans g2) r2⟩
  | false => exact iteF ⟨F, m1, o, ρ, S1, _, rel1, h1.eF, fun d S2 m2 H2 w h2 rel2 g2 r2 => hk d S2 m2 H2 w h2 rel2 (g1.trans g2) r2⟩
end
end L3

set_option maxHeartbeats 4000000
namespace L3
open PySem PySem.Spec L2

theorem RpAll.ints {K : PySem.W.Frag} {H : Hp} : ∀ {vs : List V} {ns : List Int}, RpAll K H vs (ns.map .int) → vs = ns.map V.int
  | _, [], .nil => rfl
  | _, n :: ns, .cons h r => by
    cases h
    rw [RpAll.ints r]
    rfl
theorem RpAll.bls {K : PySem.W.Frag} {H : Hp} : ∀ {vs : List V} {ns : List Bool}, RpAll K H vs (ns.map .bool) → vs = ns.map V.bl
  | _, [], .nil => rfl
  | _, n :: ns, .cons h r => by
    cases h
    rw [RpAll.bls r]
    rfl
theorem RpAll.strs {K : PySem.W.Frag} {H : Hp} : ∀ {vs : List V} {ns : List Str}, RpAll K H vs (ns.map .str) → vs = ns.map V.str
  | _, [], .nil => rfl
  | _, n :: ns, .cons h r => by
    cases h
    rw [RpAll.strs r]
    rfl
theorem VRep.tup' {K : PySem.W.Frag} {H : Hp} {M : Addr → Prop} {v : V} {xs : List D} (h : VRep K H (Fz H M) v (.tuple xs)) : ∃ a vs, v = .ref a ∧ SqT K H a vs ∧ H a = some (.tup vs) ∧ ¬ M a ∧ RpAll K (Fz H M) vs xs := by
  obtain ⟨a, vs, e, h1, h2⟩ := h.tup
  obtain ⟨n, h3⟩ := Fz.at h1
  exact ⟨a, vs, e, SqT.of h3, h3, n, h2⟩
theorem VRep.list' {K : PySem.W.Frag} {H : Hp} {M : Addr → Prop} {v : V} {xs : List D} (h : VRep K H (Fz H M) v (.list xs)) : ∃ a vs, v = .ref a ∧ SqL K H a vs ∧ H a = some (.lst vs) ∧ RpAll K (Fz H M) vs xs := by
  obtain ⟨a, vs, e, h1, h2⟩ := h.list
  exact ⟨a, vs, e, SqL.of h1, h1, h2⟩
/-- what a new list, a new tuple is -/
theorem new_lst {K : PySem.W.Frag} {H : Hp} {M : Addr → Prop} {p : Addr} {vs : List V} {xs : List D} (al : Alive M H) (hp : H p = none) (h : RpAll K (Fz H M) vs xs) : Rp K (Fz (upd H p (.lst vs)) M) (.ref p) (.list xs) := by
  have s : Sub (Fz H M) (Fz (upd H p (.lst vs)) M) := fun a u e => Fz.of (Fz.at e).1 (sub_upd hp a u (Fz.at e).2)
  exact .lst (Fz.of (fun z => al p z hp) upd_same) (RpAll.sub s h)
theorem new_tup {K : PySem.W.Frag} {H : Hp} {M : Addr → Prop} {p : Addr} {vs : List V} {xs : List D} (al : Alive M H) (hp : H p = none) (h : RpAll K (Fz H M) vs xs) : Rp K (Fz (upd H p (.tup vs)) M) (.ref p) (.tuple xs) := by
  have s : Sub (Fz H M) (Fz (upd H p (.tup vs)) M) := fun a u e => Fz.of (Fz.at e).1 (sub_upd hp a u (Fz.at e).2)
  exact .tup (Fz.of (fun z => al p z hp) upd_same) (RpAll.sub s h)

/-! ### + - * // % ** -/
def fAdd : F2 := fun x y k => match x, y with
  | .int i, .int j => k (.int (i + j))
  | .str a, .str b => a.length + b.length ≤ sizeLine ∧ k (.str (a ++ b))
  | .tuple xs, .tuple ys => xs.length + ys.length ≤ sizeLine ∧ k (.tuple (xs ++ ys))
  | .list xs, .list ys => xs.length + ys.length ≤ sizeLine ∧ k (.list (xs ++ ys))
  | _, _ => False
def fSub : F2 := fun x y k => match x, y with
  | .int i, .int j => k (.int (i - j))
  | _, _ => False
def strTimes (z : Str) (n : Int) : Str := ⟨(List.replicate n.toNat z.cps.toList).flatten.toArray⟩
def fMul : F2 := fun x y k => match x, y with
  | .int i, .int j => CMul i j ∧ k (.int (i * j))
  | .str z, .int n => (-(2 ^ 63) ≤ n ∧ n < 2 ^ 63 ∧ z.length * n.toNat ≤ sizeLine) ∧ k (.str (strTimes z n))
  | .list xs, .int n => (-(2 ^ 63) ≤ n ∧ n < 2 ^ 63 ∧ xs.length * n.toNat ≤ sizeLine) ∧ k (.list (List.replicate n.toNat xs).flatten)
  | _, _ => False
def fDiv : F2 := fun x y k => match x, y with
  | .int i, .int j => CDiv i j ∧ k (.int (i / j))
  | _, _ => False
def fMod : F2 := fun x y k => match x, y with
  | .int i, .int j => 0 < j ∧ k (.int (i % j))
  | _, _ => False
def fPow : F2 := fun x y k => match x, y with
  | .int i, .int j => CPow i j ∧ k (.int (i ^ j.toNat))
  | _, _ => False
def fNeg : F1 := fun x k => match x with
  | .int i => k (.int (-i))
  | _ => False
theorem flat_rep {K : PySem.W.Frag} {H : Hp} {vs : List V} {xs : List D} (h : RpAll K H vs xs) : ∀ n : Nat, RpAll K H (List.replicate n vs).flatten (List.replicate n xs).flatten
  | 0 => .nil
  | n + 1 => by
    rw [List.replicate_succ, List.replicate_succ, List.flatten_cons, List.flatten_cons]
    exact RpAll.append h (flat_rep h n)
section
variable {X : Cx}
theorem op_mulS : OpR X (binaryOp .Mult) (fun x y H Q => ∃ (z : Str) (n : Int), x = .str z ∧ y = .int n ∧ (-(2 ^ 63) ≤ n ∧ n < 2 ^ 63 ∧ z.length * n.toNat ≤ sizeLine) ∧ Q (.str (strTimes z n)) H) := by
  intro pins s σ H x y v u Q I rx ry h
  obtain ⟨z, n, rfl, rfl, ⟨h1, h2, h3⟩, q⟩ := h
  obtain ⟨t, rfl⟩ := rx
  obtain ⟨t', rfl⟩ := ry
  have e0 : (decide (n < -(2 ^ 63 : Int)) || decide (n ≥ 2 ^ 63)) = false := by
    rw [decide_eq_false (by omega), decide_eq_false (by omega)]
    rfl
  have foldl_arr : ∀ (m : Nat) (acc : Array Nat), ((List.replicate m z.cps).foldl (· ++ ·) acc) = (acc.toList ++ (List.replicate m z.cps.toList).flatten).toArray := by
    intro m
    induction m with
    | zero => intro acc; simp
    | succ m ih =>
      intro acc
      rw [List.replicate_succ, List.foldl_cons, ih, List.replicate_succ, List.flatten_cons]
      simp
  have e1 : ¬ n < 1 → (n == 1 || z.length == 0) = false → ¬ ((z.length : Int) > (2 ^ 63 - 1) / n) := by
    intro a b c
    have hn : 0 < n := by omega
    have hs : (sizeLine : Nat) = 16777216 := sizeLine_eq
    have hz : z.length ≤ 16777216 := by
      have : z.length * 1 ≤ z.length * n.toNat := Nat.mul_le_mul_left _ (by omega)
      omega
    have : (z.length : Int) * n ≤ 16777216 := by
      have e : n = (n.toNat : Int) := by omega
      rw [e]
      have : ((z.length * n.toNat : Nat) : Int) ≤ 16777216 := by omega
      rw [Int.natCast_mul] at this
      exact this
    have c2 := Int.lt_ediv_add_one_mul_self (2 ^ 63 - 1) hn
    have c3 : ((2 ^ 63 - 1) / n + 1) * n ≤ (z.length : Int) * n := Int.mul_le_mul_of_nonneg_right (by omega) (by omega)
    omega
  have e2 : ¬ n < 1 → (n == 1 || z.length == 0) = false → Builtin.Str.tooLong (z.length * n.toNat) = false := fun _ _ => decide_eq_false (by omega)
  refine PySem.P.mul_str e0 e1 e2 ?_
  split
  · rename_i hn
    have en : strTimes z n = Str.empty := by
      unfold strTimes
      rw [show n.toNat = 0 by omega]
      rfl
    rw [en] at q
    exact ⟨by decide, .str Str.empty, H, I.tok _, ⟨_, rfl⟩, q⟩
  · split
    · rename_i hn hc
      have en : strTimes z n = z := by
        simp only [Bool.or_eq_true, beq_iff_eq] at hc
        unfold strTimes
        rcases hc with hc | hc
        · subst hc
          simp
        · have ez : z.cps.toList = [] := by
            have : z.cps.size = 0 := hc
            rw [← List.length_eq_zero_iff, Array.length_toList]
            exact this
          have ez2 : z = ⟨#[]⟩ := by
            cases z with
            | mk c =>
              have : c = #[] := by
                have := congrArg List.toArray ez
                simpa using this
              rw [this]
          rw [ez, ez2]
          simp
      rw [en] at q
      exact ⟨.str z, H, I, ⟨_, rfl⟩, q⟩
    · have en : strTimes z n = ⟨(List.replicate n.toNat z.cps).foldl (· ++ ·) #[]⟩ := by
        unfold strTimes
        rw [foldl_arr]
        simp
      rw [← en]
      refine ⟨?_, .str (strTimes z n), H, I.tok _, ⟨_, rfl⟩, q⟩
      show (List.flatten (List.replicate n.toNat z.cps.toList)).toArray.size ≤ sizeLine
      rw [List.size_toArray, PyProof.Rows.lm_len_rep_flat, Array.length_toList, Nat.mul_comm]
      exact h3

theorem o_add : ∃ r, OpR X (binaryOp .Add) r ∧ OpD X.K r fAdd := by
  refine ⟨_, op_add.or (op_add_str.or (op_catA.or op_cat)), fun M H x y dx dy k Q al rx ry h fin => ?_⟩
  unfold fAdd at h
  split at h
  · exact .inl ⟨_, _, rx.int, ry.int, fin _ _ _ h (Sub.refl _) (.int _)⟩
  · exact .inr (.inl ⟨_, _, rx.str, ry.str, h.1, fin _ _ _ h.2 (Sub.refl _) (.str _)⟩)
  · obtain ⟨a, vs, rfl, h1, h1', n1, h2⟩ := rx.tup'
    obtain ⟨b, ws, rfl, g1, g1', n2, g2⟩ := ry.tup'
    refine .inr (.inr (.inl ⟨a, b, vs, ws, rfl, rfl, h1, g1, by rw [RpAll.length h2, RpAll.length g2]; exact h.1, fun e => ?_, fun e e2 => ?_, fun e e2 p hp => ?_⟩))
    · subst e
      cases h2
      exact fin _ _ _ h.2 (Sub.refl _) (.tup (Fz.of n2 g1') g2)
    · subst e2
      cases g2
      have hk := h.2
      rw [List.append_nil] at hk
      exact fin _ _ _ hk (Sub.refl _) (.tup (Fz.of n1 h1') h2)
    · exact fin _ _ _ h.2 (sub_upd hp) (new_tup al hp (RpAll.append h2 g2))
  · obtain ⟨a, vs, rfl, h1, h1', h2⟩ := rx.list'
    obtain ⟨b, ws, rfl, g1, g1', g2⟩ := ry.list'
    exact .inr (.inr (.inr ⟨a, b, vs, ws, rfl, rfl, h1', g1', by rw [RpAll.length h2, RpAll.length g2]; exact h.1, fun p hp => fin _ _ _ h.2 (sub_upd hp) (new_lst al hp (RpAll.append h2 g2))⟩))
  · exact h.elim
theorem o_sub : ∃ r, OpR X (binaryOp .Sub) r ∧ OpD X.K r fSub := by
  refine ⟨_, op_sub, fun M H x y dx dy k Q al rx ry h fin => ?_⟩
  unfold fSub at h
  split at h
  · exact ⟨_, _, rx.int, ry.int, fin _ _ _ h (Sub.refl _) (.int _)⟩
  · exact h.elim
theorem o_mul : ∃ r, OpR X (binaryOp .Mult) r ∧ OpD X.K r fMul := by
  refine ⟨_, op_mul.or (op_mulS.or op_rep), fun M H x y dx dy k Q al rx ry h fin => ?_⟩
  unfold fMul at h
  split at h
  · exact .inl ⟨_, _, rx.int, ry.int, h.1, fin _ _ _ h.2 (Sub.refl _) (.int _)⟩
  · exact .inr (.inl ⟨_, _, rx.str, ry.int, h.1, fin _ _ _ h.2 (Sub.refl _) (.str _)⟩)
  · obtain ⟨a, vs, rfl, h1, h1', h2⟩ := rx.list'
    obtain ⟨⟨c1, c2, c3⟩, hk⟩ := h
    exact .inr (.inr ⟨a, _, vs, rfl, ry.int, h1', c1, c2, by rw [RpAll.length h2]; exact c3, fun p hp => fin _ _ _ hk (sub_upd hp) (new_lst al hp (flat_rep h2 _))⟩)
  · exact h.elim
theorem o_div : ∃ r, OpR X (binaryOp .FloorDiv) r ∧ OpD X.K r fDiv := by
  refine ⟨_, op_fdiv, fun M H x y dx dy k Q al rx ry h fin => ?_⟩
  unfold fDiv at h
  split at h
  · exact ⟨_, _, rx.int, ry.int, h.1, fin _ _ _ h.2 (Sub.refl _) (.int _)⟩
  · exact h.elim
theorem o_mod : ∃ r, OpR X (binaryOp .Mod) r ∧ OpD X.K r fMod := by
  refine ⟨_, op_mod, fun M H x y dx dy k Q al rx ry h fin => ?_⟩
  unfold fMod at h
  split at h
  · exact ⟨_, _, rx.int, ry.int, h.1, fin _ _ _ h.2 (Sub.refl _) (.int _)⟩
  · exact h.elim
theorem o_pow : ∃ r, OpR X (binaryOp .Pow) r ∧ OpD X.K r fPow := by
  refine ⟨_, op_pow, fun M H x y dx dy k Q al rx ry h fin => ?_⟩
  unfold fPow at h
  split at h
  · exact ⟨_, _, rx.int, ry.int, h.1, fin _ _ _ h.2 (Sub.refl _) (.int _)⟩
  · exact h.elim
theorem u_neg : ∃ r, UnR X (unaryOp .USub) r ∧ UnD X.K r fNeg := by
  refine ⟨_, un_neg, fun M H x dx k Q al rx h fin => ?_⟩
  unfold fNeg at h
  split at h
  · exact ⟨_, rx.int, fin _ _ _ h (Sub.refl _) (.int _)⟩
  · exact h.elim

/-! ### comparisons -/
def fEq : F2 := fun x y k => match x, y with
  | .int i, .int j => k (.bool (decide (i = j)))
  | .str a, .str b => k (.bool (decide (a = b)))
  | .bool a, .bool b => k (.bool (decide (a = b)))
  | x, y => SeqAt.shaped x = true ∧ SeqAt.shaped y = true ∧ k (.bool (PyData.eqv x y))
def fNe : F2 := fun x y k => match x, y with
  | .int i, .int j => k (.bool (!decide (i = j)))
  | .str a, .str b => k (.bool (!decide (a = b)))
  | .bool a, .bool b => k (.bool (!decide (a = b)))
  | x, y => SeqAt.shaped x = true ∧ SeqAt.shaped y = true ∧ k (.bool (!PyData.eqv x y))
theorem o_eq (hu : X.A.units + 64 < cLine) : ∃ r, OpR X (compareOp .Eq) r ∧ OpD X.K r fEq := by
  refine ⟨_, op_eq.or (op_eqD hu), fun M H x y dx dy k Q al rx ry h fin => ?_⟩
  unfold fEq at h
  split at h
  · have e1 := rx.int
    have e2 := ry.int
    subst e1 e2
    refine .inl ⟨rfl, fin _ _ _ h (Sub.refl _) ?_⟩
    rw [show decide (V.int _ = V.int _) = decide _ from decide_eq_decide.mpr ⟨V.int.inj, congrArg V.int⟩]
    exact .bl _
  · have e1 := rx.str
    have e2 := ry.str
    subst e1 e2
    refine .inl ⟨rfl, fin _ _ _ h (Sub.refl _) ?_⟩
    rw [show decide (V.str _ = V.str _) = decide _ from decide_eq_decide.mpr ⟨V.str.inj, congrArg V.str⟩]
    exact .bl _
  · have e1 := rx.bl
    have e2 := ry.bl
    subst e1 e2
    refine .inl ⟨rfl, fin _ _ _ h (Sub.refl _) ?_⟩
    rw [show decide (V.bl _ = V.bl _) = decide _ from decide_eq_decide.mpr ⟨V.bl.inj, congrArg V.bl⟩]
    exact .bl _
  · obtain ⟨h1, h2, h3⟩ := h
    exact .inr ⟨_, _, rx.dp Fz.sub (SeqAt.canLay_of_shaped h1), ry.dp Fz.sub (SeqAt.canLay_of_shaped h2), h1, h2, fin _ _ _ h3 (Sub.refl _) (.bl _)⟩
theorem o_ne (hu : X.A.units + 64 < cLine) : ∃ r, OpR X (compareOp .NotEq) r ∧ OpD X.K r fNe := by
  refine ⟨_, op_ne.or (op_neD hu), fun M H x y dx dy k Q al rx ry h fin => ?_⟩
  unfold fNe at h
  split at h
  · have e1 := rx.int
    have e2 := ry.int
    subst e1 e2
    refine .inl ⟨rfl, fin _ _ _ h (Sub.refl _) ?_⟩
    rw [show decide (V.int _ = V.int _) = decide _ from decide_eq_decide.mpr ⟨V.int.inj, congrArg V.int⟩]
    exact .bl _
  · have e1 := rx.str
    have e2 := ry.str
    subst e1 e2
    refine .inl ⟨rfl, fin _ _ _ h (Sub.refl _) ?_⟩
    rw [show decide (V.str _ = V.str _) = decide _ from decide_eq_decide.mpr ⟨V.str.inj, congrArg V.str⟩]
    exact .bl _
  · have e1 := rx.bl
    have e2 := ry.bl
    subst e1 e2
    refine .inl ⟨rfl, fin _ _ _ h (Sub.refl _) ?_⟩
    rw [show decide (V.bl _ = V.bl _) = decide _ from decide_eq_decide.mpr ⟨V.bl.inj, congrArg V.bl⟩]
    exact .bl _
  · obtain ⟨h1, h2, h3⟩ := h
    exact .inr ⟨_, _, rx.dp Fz.sub (SeqAt.canLay_of_shaped h1), ry.dp Fz.sub (SeqAt.canLay_of_shaped h2), h1, h2, fin _ _ _ h3 (Sub.refl _) (.bl _)⟩
def fLt : F2 := fun x y k => match x, y with
  | .int i, .int j => k (.bool (decide (i < j)))
  | _, _ => False
def fLe : F2 := fun x y k => match x, y with
  | .int i, .int j => k (.bool (decide (i ≤ j)))
  | _, _ => False
def fGt : F2 := fun x y k => match x, y with
  | .int i, .int j => k (.bool (decide (j < i)))
  | _, _ => False
def fGe : F2 := fun x y k => match x, y with
  | .int i, .int j => k (.bool (decide (j ≤ i)))
  | _, _ => False
theorem o_lt : ∃ r, OpR X (compareOp .Lt) r ∧ OpD X.K r fLt := by
  refine ⟨_, op_lt, fun M H x y dx dy k Q al rx ry h fin => ?_⟩
  unfold fLt at h
  split at h
  · exact ⟨_, _, rx.int, ry.int, fin _ _ _ h (Sub.refl _) (.bl _)⟩
  · exact h.elim
theorem o_le : ∃ r, OpR X (compareOp .LtE) r ∧ OpD X.K r fLe := by
  refine ⟨_, op_le, fun M H x y dx dy k Q al rx ry h fin => ?_⟩
  unfold fLe at h
  split at h
  · exact ⟨_, _, rx.int, ry.int, fin _ _ _ h (Sub.refl _) (.bl _)⟩
  · exact h.elim
theorem o_gt : ∃ r, OpR X (compareOp .Gt) r ∧ OpD X.K r fGt := by
  refine ⟨_, op_gt, fun M H x y dx dy k Q al rx ry h fin => ?_⟩
  unfold fGt at h
  split at h
  · exact ⟨_, _, rx.int, ry.int, fin _ _ _ h (Sub.refl _) (.bl _)⟩
  · exact h.elim
theorem o_ge : ∃ r, OpR X (compareOp .GtE) r ∧ OpD X.K r fGe := by
  refine ⟨_, op_ge, fun M H x y dx dy k Q al rx ry h fin => ?_⟩
  unfold fGe at h
  split at h
  · exact ⟨_, _, rx.int, ry.int, fin _ _ _ h (Sub.refl _) (.bl _)⟩
  · exact h.elim
/-- is None, is True, is False -/
def isNon : D → Bool
  | .none => true
  | _ => false
def fIs : F2 := fun x y k => match y with
  | .none => k (.bool (isNon x))
  | .bool b => match x with
    | .bool a => k (.bool (decide (a = b)))
    | _ => False
  | _ => False
def fIsNot : F2 := fun x y k => match y with
  | .none => k (.bool (!isNon x))
  | .bool b => match x with
    | .bool a => k (.bool (!decide (a = b)))
    | _ => False
  | _ => False
theorem VRep.isNon {K : PySem.W.Frag} {H Hz : Hp} {v : V} {x : D} (h : VRep K H Hz v x) : decide (v = .non) = isNon x := by
  cases h with
  | d q => cases q <;> rfl
  | @cell a c q => cases c <;> rfl
theorem o_is : ∃ r, OpR X (compareOp .Is) r ∧ OpD X.K r fIs := by
  refine ⟨_, op_isN.or op_isBl, fun M H x y dx dy k Q al rx ry h fin => ?_⟩
  unfold fIs at h
  split at h
  · refine .inl ⟨ry.non, ?_⟩
    rw [rx.isNon]
    exact fin _ _ _ h (Sub.refl _) (.bl _)
  · split at h
    · exact .inr ⟨_, _, rx.bl, ry.bl, fin _ _ _ h (Sub.refl _) (.bl _)⟩
    · exact h.elim
  · exact h.elim
theorem o_isnot : ∃ r, OpR X (compareOp .IsNot) r ∧ OpD X.K r fIsNot := by
  refine ⟨_, op_notN.or op_notBl, fun M H x y dx dy k Q al rx ry h fin => ?_⟩
  unfold fIsNot at h
  split at h
  · refine .inl ⟨ry.non, ?_⟩
    rw [rx.isNon]
    exact fin _ _ _ h (Sub.refl _) (.bl _)
  · split at h
    · exact .inr ⟨_, _, rx.bl, ry.bl, fin _ _ _ h (Sub.refl _) (.bl _)⟩
    · exact h.elim
  · exact h.elim
end
end L3

set_option maxHeartbeats 4000000
namespace L3
open PySem PySem.Spec L2

/-! ### items, slices -/
def At {α : Type} (xs : List α) (i : Int) (k : α → Prop) : Prop := ∃ z, atI xs i = some z ∧ k z
def keyEq : D → D → Bool
  | .str a, .str b => decide (a = b)
  | .int a, .int b => decide (a = b)
  | _, _ => false
def lookD : List (D × D) → D → Option D
  | [], _ => none
  | p :: r, y => bif keyEq p.1 y then some p.2 else lookD r y
def fIx : F2 := fun x y k => match x, y with
  | .list xs, .int i => At xs i k
  | .tuple xs, .int i => At xs i k
  | .str z, .int i => z.length ≤ sizeLine ∧ At z.cps.toList i fun c => k (.str ⟨#[c]⟩)
  | .dict [(.none, .list xs)], .int i => At xs i k
  | .dict kvs, y => ∃ z, lookD kvs y = some z ∧ k z
  | _, _ => False
theorem look_rep {K : PySem.W.Frag} {H : Hp} {y : D} {v : V} {z : D} (hv : Rp K H v y) : ∀ {ws : List (Key × V)} {kvs : List (Key × D)}, KRp K H ws kvs → lookD (kvs.map fun p => (keyD p.1, p.2)) y = some z → ∃ key w, v = kV key ∧ valV ws key = some w ∧ Rp K H w z
  | _, [], _, e => by simp [lookD] at e
  | _, (key, x) :: kvs, h, e => by
    cases h with
    | @cons a _ l1 _ q h =>
      obtain ⟨q1, q2⟩ := q
      simp only [List.map_cons, lookD, cond_eq_ite] at e
      split at e
      · rename_i hk
        cases e
        have hv' : v = kV key := by
          cases key with
          | inl i =>
            cases y <;> simp [keyD, keyEq] at hk
            subst hk
            exact dp_int hv
          | inr s =>
            cases y <;> simp [keyD, keyEq] at hk
            subst hk
            exact dp_str hv
        exact ⟨key, a.2, hv', valV_pos q1, q2⟩
      · rename_i hk
        obtain ⟨k2, w, e1, e2, e3⟩ := look_rep hv h e
        refine ⟨k2, w, e1, ?_, e3⟩
        rw [valV_neg]
        · exact e2
        · intro z0
          apply hk
          have : key = k2 := by rw [← z0]; exact q1.symm
          subst this
          subst e1
          cases key with
          | inl i => cases hv; simp [keyD, keyEq]
          | inr s => cases hv; simp [keyD, keyEq]
theorem at_rep {K : PySem.W.Frag} {H : Hp} {vs : List V} {xs : List D} {i : Int} {z : D} (h : RpAll K H vs xs) (e : atI xs i = some z) : ∃ v, atI vs i = some v ∧ Rp K H v z := by
  unfold atI at e ⊢
  rw [RpAll.length h]
  cases q : ixN xs.length i with
  | none => rw [q] at e; cases e
  | some j =>
    rw [q] at e
    exact RpAll.get h e
theorem VRep.scrL {K : PySem.W.Frag} {H : Hp} {M : Addr → Prop} {v : V} {xs : List D} (h : VRep K H (Fz H M) v (.dict [(.none, .list xs)])) : ∃ (a : Addr) (ns : List Int), v = .ref a ∧ xs = ns.map .int ∧ SqL K H a (ns.map V.int) := by
  generalize hx : (PyData.dict [(.none, .list xs)] : D) = y at h
  cases h with
  | d q =>
    cases q with
    | @scr a ms h =>
      simp only [scrD, PyData.dict.injEq, List.cons.injEq, Prod.mk.injEq, PyData.list.injEq, and_true, true_and] at hx
      exact ⟨a, ms, rfl, hx, Fz.sub.sqL h⟩
    | _ => cases hx
  | @cell a c q =>
    cases c with
    | lst ys => cases hx
    | dK kvs =>
      exfalso
      simp only [cellD, PyData.dict.injEq] at hx
      cases kvs with
      | nil => cases hx
      | cons p r =>
        simp only [List.map_cons, List.cons.injEq, Prod.mk.injEq] at hx
        have := hx.1.1
        cases hp : p.1 <;> rw [hp] at this <;> cases this
section
variable {X : Cx}
theorem ix_dict (hu : X.A.units + 1 < cLine) : IxR X (fun x y H Q => ∃ a v, x = .ref a ∧ DGet H a y (some v) ∧ Q v H) := by
  intro value slice pins s σ H x y v u Q I rx ry h hs
  obtain ⟨a, w, rfl, g, q⟩ := h
  obtain rfl : v = Value.ref a := rx
  exact PyProof.Rows.tail_any (dict_typeIs I g) PySem.F.slot_dict_getitem.lookup (d_getItem hu I g ry fun w' s' I' r' => ⟨w, H, I', r', q⟩) hs
theorem i_x (hu : X.A.units + 1 < cLine) : ∃ r, IxR X r ∧ OpD X.K r fIx := by
  refine ⟨_, ix_seq.or (ix_dict hu), fun M H x y dx dy k Q al rx ry h fin => ?_⟩
  unfold fIx at h
  split at h
  · obtain ⟨z, e, h⟩ := h
    obtain ⟨a, vs, rfl, h1, h1', h2⟩ := rx.list'
    obtain ⟨v, g1, g2⟩ := at_rep h2 e
    exact .inl (.inl ⟨a, vs, _, v, rfl, ry.int, h1, g1, fin _ _ _ h (Sub.refl _) g2⟩)
  · obtain ⟨z, e, h⟩ := h
    obtain ⟨a, vs, rfl, h1, h1', _, h2⟩ := rx.tup'
    obtain ⟨v, g1, g2⟩ := at_rep h2 e
    exact .inl (.inr (.inl ⟨a, vs, _, v, rfl, ry.int, h1, g1, fin _ _ _ h (Sub.refl _) g2⟩))
  · obtain ⟨hz, c, e, h⟩ := h
    exact .inl (.inr (.inr ⟨_, _, c, rx.str, ry.int, hz, e, fin _ _ _ h (Sub.refl _) (.str _)⟩))
  · rename_i xs0 i0
    obtain ⟨z, e, h⟩ := h
    obtain ⟨a, ns, rfl, rfl, hs⟩ := rx.scrL
    have : ∃ n, atI ns i0 = some n ∧ z = .int n := by
      unfold atI at e
      rw [List.length_map] at e
      cases q : ixN ns.length i0 with
      | none => rw [q] at e; cases e
      | some j =>
        rw [q] at e
        simp only [Option.bind_some, List.getElem?_map] at e
        cases w : ns[j]? with
        | none => rw [w] at e; cases e
        | some n =>
          rw [w] at e
          cases e
          exact ⟨n, by unfold atI; rw [q]; exact w, rfl⟩
    obtain ⟨n, e1, rfl⟩ := this
    refine .inl (.inl ⟨a, _, _, .int n, rfl, ry.int, hs, ?_, fin _ _ _ h (Sub.refl _) (.int n)⟩)
    unfold atI at e1 ⊢
    rw [List.length_map]
    cases q : ixN ns.length i0 with
    | none => rw [q] at e1; cases e1
    | some j =>
      rw [q] at e1
      simp only [Option.bind_some, List.getElem?_map] at e1 ⊢
      rw [e1]
      rfl
  · rename_i kvs _
    obtain ⟨z, e, h⟩ := h
    generalize hx : (PyData.dict kvs : D) = w at rx
    cases rx with
    | d q =>
      cases q with
      | @scr a ms h0 =>
        simp only [scrD, PyData.dict.injEq] at hx
        subst hx
        simp [lookD, keyEq] at e
      | _ => cases hx
    | @cell a c q =>
      cases c with
      | lst ys => cases hx
      | dK kv =>
        simp only [cellD, PyData.dict.injEq] at hx
        subst hx
        obtain ⟨ws, h1, h2⟩ := q
        have ryd : Rp X.K (Fz H M) y dy := by
          cases ry with
          | d q => exact q
          | @cell b c q =>
            exfalso
            have : ∀ (l : List (D × D)), lookD l (cellD c) = none := by
              intro l
              induction l with
              | nil => rfl
              | cons p r ih =>
                have : keyEq p.1 (cellD c) = false := by cases c <;> cases hp : p.1 <;> rfl
                simp only [lookD, this, cond_false, ih]
            rw [this] at e
            cases e
        obtain ⟨key, w, e1, e2, e3⟩ := look_rep ryd h2 e
        refine .inr ⟨a, w, rfl, ?_, fin _ _ _ h (Sub.refl _) e3⟩
        rw [e1, ← e2]
        exact DGet.k h1
  · exact h.elim
theorem de_ix {a b : Expr} {ta tb : dTE} {pos : Pos} (hu : X.A.units + 1 < cLine) (ha : DE X a ta) (hb : DE X b tb) (hs : PlainIx b := by exact fun _ _ => rfl) : DE X (.Subscript a b pos) (dOp fIx ta tb) :=
  let ⟨_, h1, h2⟩ := i_x hu; PE.imp (pe_ix h1 ha hb hs) fun _ _ _ => lift2 h2
end
abbrev dTO := Env3 → Sto → (Option Int → Sto → Prop) → Prop
def liftO (K : PySem.W.Frag) (t : dTO) : TO := fun σ H Q => ∃ F m o ρ S k, Rel K F m o ρ S σ H ∧ t ρ S k ∧
  ∀ b S' m' H', k b S' → Rel K F m' o ρ S' σ H' → Grow F m o H m' o H' → Q b H'
abbrev DO (X : Cx) (e : Option Expr) (t : dTO) : Prop := PO X e (liftO X.K t)
def asI (d : DV) (k : Int → Prop) : Prop := match d with
  | .d (.int b) => k b
  | _ => False
theorem asI_of {d : DV} {k : Int → Prop} (h : asI d k) : ∃ b, d = .d (.int b) ∧ k b := by
  unfold asI at h
  split at h
  · exact ⟨_, rfl, h⟩
  · exact h.elim
def dNoPart : dTO := fun _ S Q => Q none S
def dPart (t : dTE) : dTO := fun ρ S Q => t ρ S fun d S1 => asI d fun i => Q (some i) S1
theorem PO.imp {X : Cx} {e : Option Expr} {t t' : TO} (h : PO X e t) (i : ∀ σ H Q, t' σ H Q → t σ H Q) : PO X e t' := ⟨fun pins s σ H Q I q => h.run pins s σ H Q I (i σ H Q q)⟩
section
variable {X : Cx}
theorem do_none : DO X none dNoPart := PO.imp po_none fun σ H Q q => by
  obtain ⟨F, m, o, ρ, S, k, rel, t, hk⟩ := q
  exact hk none S m H t rel Grow.refl
theorem do_some {e : Expr} {te : dTE} (h : DE X e te) : DO X (some e) (dPart te) := PO.imp (po_some h) fun σ H Q q => by
  obtain ⟨F, m, o, ρ, S, k, rel, t, hk⟩ := q
  refine ⟨F, m, o, ρ, S, _, rel, t, fun d S1 m1 H1 v h1 rel1 g1 r1 => ?_⟩
  obtain ⟨b, rfl, h2⟩ := asI_of h1
  exact ⟨b, dp_int r1, hk _ S1 m1 H1 h2 rel1 g1⟩
end
def cut {α : Type} (xs : List α) (lo hi : Option Int) : List α := (xs.drop (HT.sIx xs.length 0 lo)).take (HT.sIx xs.length xs.length hi - HT.sIx xs.length 0 lo)
theorem cut_rep {K : PySem.W.Frag} {H : Hp} {vs : List V} {xs : List D} (h : RpAll K H vs xs) (lo hi : Option Int) : RpAll K H (cutV vs lo hi) (cut xs lo hi) := by
  unfold cutV cut
  rw [RpAll.length h]
  exact RpAll.take _ (RpAll.drop _ h)
def fSl (x : D) (l u : Option Int) (k : D → Prop) : Prop := match x with
  | .str z => z.length ≤ sizeLine ∧ k (.str (cutS z l u))
  | .tuple xs => k (.tuple (cut xs l u))
  | .list xs => k (.list (cut xs l u))
  | _ => False
def dSl (tx : dTE) (tl th : dTO) : dTE := fun ρ S Q => tx ρ S fun d S1 => tl ρ S1 fun l S2 => th ρ S2 fun u S3 => fSl (view ρ S3 d) l u fun z => Q (.d z) S3
section
variable {X : Cx}
theorem de_sl {e : Expr} {lo hi : Option Expr} {te : dTE} {tl th : dTO} {p2 pos : Pos} (he : DE X e te) (hl : DO X lo tl) (hu : DO X hi th) : DE X (.Subscript e (.Slice lo hi none p2) pos) (dSl te tl th) :=
  PE.imp (pe_slice (sl_str.or (sl_tupA.or sl_list)) he hl hu) fun σ H Q q => by
    obtain ⟨F, m, o, ρ, S, k, rel, t, hk⟩ := q
    refine ⟨F, m, o, ρ, S, _, rel, t, fun d S1 m1 H1 v h1 rel1 g1 r1 => ?_⟩
    refine ⟨F, m1, o, ρ, S1, _, rel1, h1, fun l S2 m2 H2 h2 rel2 g2 => ?_⟩
    refine ⟨F, m2, o, ρ, S2, _, rel2, h2, fun u S3 m3 H3 h3 rel3 g3 => ?_⟩
    have gg := (g1.trans g2).trans g3
    have rv := rel3.view (r1.grow (g2.trans g3))
    have fin : ∀ z w H', k (.d z) S3 → Sub H3 H' → Rp X.K (Fz H' (Mu F m3 o)) w z → Q w H' := fun z w H' kz s dz => hk (.d z) S3 m3 H' w kz (rel3.sub s) (gg.trans (Grow.sub rel3 s)) dz
    unfold fSl at h3
    split at h3
    · rename_i z hz
      rw [hz] at rv
      exact .inl ⟨z, rv.str, h3.1, fin _ _ _ h3.2 (Sub.refl _) (.str _)⟩
    · rename_i xs hz
      rw [hz] at rv
      obtain ⟨a, vs, rfl, e1, e1', en, e2⟩ := rv.tup'
      refine .inr (.inl ⟨a, vs, rfl, e1, fun hw => ?_, fun hw p hp => fin _ _ _ h3 (sub_upd hp) (new_tup rel3.st.alive hp (cut_rep e2 l u))⟩)
      have ec : cut xs l u = xs := by
        unfold cut
        rw [RpAll.length e2] at hw
        rw [hw.1, hw.2, List.drop_zero, Nat.sub_zero, List.take_length]
      rw [ec] at h3
      exact fin _ _ _ h3 (Sub.refl _) (.tup (Fz.of en e1') e2)
    · rename_i xs hz
      rw [hz] at rv
      obtain ⟨a, vs, rfl, e1, e1', e2⟩ := rv.list'
      exact .inr (.inr ⟨a, vs, rfl, e1, fun p hp => fin _ _ _ h3 (sub_upd hp) (new_lst rel3.st.alive hp (cut_rep e2 l u))⟩)
    · exact h3.elim
/-- xs[::-1] of a list -/
def fRev : F1 := fun x k => match x with
  | .list xs => k (.list xs.reverse)
  | _ => False
theorem de_rev {e : Expr} {te : dTE} {k : Nat} {p1 p2 p3 pos : Pos} (he : DE X e te) : DE X (.Subscript e (.Slice none none (some (.UnaryOp .USub (.Constant (.int 1) k p1) p2)) p3) pos) (dUn fRev te) :=
  PE.imp (pe_revL he) fun σ H Q q => by
    obtain ⟨F, m, o, ρ, S, k, rel, t, hk⟩ := q
    refine ⟨F, m, o, ρ, S, _, rel, t, fun d S1 m1 H1 v h1 rel1 g1 r1 => ?_⟩
    have rv := rel1.view r1
    unfold fRev at h1
    split at h1
    · rename_i xs hz
      rw [hz] at rv
      obtain ⟨a, vs, rfl, e1, e1', e2⟩ := rv.list'
      exact ⟨a, vs, rfl, e1, fun p hp => hk _ S1 m1 _ _ h1 (rel1.sub (sub_upd hp)) (g1.trans (Grow.sub rel1 (sub_upd hp))) (new_lst rel1.st.alive hp (RpAll.reverse e2))⟩
    · exact h1.elim
end

/-! ### built-in calls -/
def fLen : FN := fun ds k => match ds with
  | [.str z] => z.length ≤ sizeLine ∧ k (.int z.length)
  | [.tuple xs] => k (.int xs.length)
  | [.list xs] => k (.int xs.length)
  | [.dict [(.none, .list xs)]] => k (.int xs.length)
  | _ => False
def fAbs : FN := fun ds k => match ds with
  | [.int i] => k (.int (if i < 0 then -i else i))
  | _ => False
def fInt : FN := fun ds k => match ds with
  | [.int i] => k (.int i)
  | [.bool b] => k (.int (if b then 1 else 0))
  | _ => False
def intsOf : List D → Option (List Int)
  | [] => some []
  | .int i :: r => (intsOf r).map (i :: ·)
  | _ :: _ => none
theorem intsOf_map (ns : List Int) : intsOf (ns.map .int) = some ns := by
  induction ns with
  | nil => rfl
  | cons n r ih => show (intsOf (r.map .int)).map (n :: ·) = _; rw [ih]; rfl
theorem intsOf_is : ∀ {xs : List D} {ns : List Int}, intsOf xs = some ns → xs = ns.map .int
  | [], _, e => by cases e; rfl
  | .int i :: r, ns, e => by
    unfold intsOf at e
    cases q : intsOf r with
    | none => rw [q] at e; cases e
    | some ms => rw [q] at e; cases e; rw [intsOf_is q]; rfl
  | .none :: _, _, e => by cases e
  | .bool _ :: _, _, e => by cases e
  | .str _ :: _, _, e => by cases e
  | .list _ :: _, _, e => by cases e
  | .tuple _ :: _, _, e => by cases e
  | .dict _ :: _, _, e => by cases e
def boolsOf : List D → Option (List Bool)
  | [] => some []
  | .bool i :: r => (boolsOf r).map (i :: ·)
  | _ :: _ => none
theorem boolsOf_map (ns : List Bool) : boolsOf (ns.map .bool) = some ns := by
  induction ns with
  | nil => rfl
  | cons n r ih => show (boolsOf (r.map .bool)).map (n :: ·) = _; rw [ih]; rfl
theorem boolsOf_is : ∀ {xs : List D} {ns : List Bool}, boolsOf xs = some ns → xs = ns.map .bool
  | [], _, e => by cases e; rfl
  | .bool i :: r, ns, e => by
    unfold boolsOf at e
    cases q : boolsOf r with
    | none => rw [q] at e; cases e
    | some ms => rw [q] at e; cases e; rw [boolsOf_is q]; rfl
  | .none :: _, _, e => by cases e
  | .int _ :: _, _, e => by cases e
  | .str _ :: _, _, e => by cases e
  | .list _ :: _, _, e => by cases e
  | .tuple _ :: _, _, e => by cases e
  | .dict _ :: _, _, e => by cases e
def strsOf : List D → Option (List Str)
  | [] => some []
  | .str i :: r => (strsOf r).map (i :: ·)
  | _ :: _ => none
theorem strsOf_map (ns : List Str) : strsOf (ns.map .str) = some ns := by
  induction ns with
  | nil => rfl
  | cons n r ih => show (strsOf (r.map .str)).map (n :: ·) = _; rw [ih]; rfl
theorem strsOf_is : ∀ {xs : List D} {ns : List Str}, strsOf xs = some ns → xs = ns.map .str
  | [], _, e => by cases e; rfl
  | .str i :: r, ns, e => by
    unfold strsOf at e
    cases q : strsOf r with
    | none => rw [q] at e; cases e
    | some ms => rw [q] at e; cases e; rw [strsOf_is q]; rfl
  | .none :: _, _, e => by cases e
  | .int _ :: _, _, e => by cases e
  | .bool _ :: _, _, e => by cases e
  | .list _ :: _, _, e => by cases e
  | .tuple _ :: _, _, e => by cases e
  | .dict _ :: _, _, e => by cases e
/-- the greatest, the least (0 of none) -/
def maxL : List Int → Int
  | [] => 0
  | [x] => x
  | x :: y :: r => max x (maxL (y :: r))
def minL : List Int → Int
  | [] => 0
  | [x] => x
  | x :: y :: r => min x (minL (y :: r))
theorem maxL_mem : ∀ {ns : List Int}, 0 < ns.length → maxL ns ∈ ns ∧ ∀ y ∈ ns, y ≤ maxL ns
  | [x], _ => ⟨List.mem_singleton.mpr rfl, fun y h => by rw [List.mem_singleton.mp h]; exact Int.le_refl _⟩
  | x :: y :: r, _ => by
    obtain ⟨h1, h2⟩ := maxL_mem (ns := y :: r) (by simp)
    show max x (maxL (y :: r)) ∈ _ ∧ ∀ z ∈ _, z ≤ max x (maxL (y :: r))
    refine ⟨?_, fun z h => ?_⟩
    · rcases Int.le_total x (maxL (y :: r)) with q | q
      · rw [Int.max_eq_right q]; exact List.mem_cons_of_mem _ h1
      · rw [Int.max_eq_left q]; exact List.mem_cons_self
    · rcases List.mem_cons.mp h with h | h
      · subst h; exact Int.le_max_left _ _
      · exact Int.le_trans (h2 z h) (Int.le_max_right _ _)
theorem minL_mem : ∀ {ns : List Int}, 0 < ns.length → minL ns ∈ ns ∧ ∀ y ∈ ns, minL ns ≤ y
  | [x], _ => ⟨List.mem_singleton.mpr rfl, fun y h => by rw [List.mem_singleton.mp h]; exact Int.le_refl _⟩
  | x :: y :: r, _ => by
    obtain ⟨h1, h2⟩ := minL_mem (ns := y :: r) (by simp)
    show min x (minL (y :: r)) ∈ _ ∧ ∀ z ∈ _, min x (minL (y :: r)) ≤ z
    refine ⟨?_, fun z h => ?_⟩
    · rcases Int.le_total x (minL (y :: r)) with q | q
      · rw [Int.min_eq_left q]; exact List.mem_cons_self
      · rw [Int.min_eq_right q]; exact List.mem_cons_of_mem _ h1
    · rcases List.mem_cons.mp h with h | h
      · subst h; exact Int.min_le_left _ _
      · exact Int.le_trans (Int.min_le_right _ _) (h2 z h)
def withL {α : Type} (x : Option α) (k : α → Prop) : Prop := match x with
  | some a => k a
  | none => False
theorem withL_of {α : Type} {x : Option α} {k : α → Prop} (h : withL x k) : ∃ a, x = some a ∧ k a := by
  unfold withL at h
  split at h
  · exact ⟨_, rfl, h⟩
  · exact h.elim
def fMax : FN := fun ds k => match ds with
  | [.int i, .int j] => k (.int (max i j))
  | [.list xs] => withL (intsOf xs) fun ns => 0 < ns.length ∧ k (.int (maxL ns))
  | _ => False
def fMin : FN := fun ds k => match ds with
  | [.int i, .int j] => k (.int (min i j))
  | [.list xs] => withL (intsOf xs) fun ns => 0 < ns.length ∧ k (.int (minL ns))
  | _ => False
def fSum : FN := fun ds k => match ds with
  | [.list xs] => withL (intsOf xs) fun ns => k (.int ns.sum)
  | _ => False
def fAll : FN := fun ds k => match ds with
  | [.list xs] => withL (boolsOf xs) fun ns => k (.bool (ns.all id))
  | _ => False
def fAny : FN := fun ds k => match ds with
  | [.list xs] => withL (boolsOf xs) fun ns => k (.bool (ns.any id))
  | _ => False
def fTuple : FN := fun ds k => match ds with
  | [.list xs] => k (.tuple xs)
  | [.tuple xs] => k (.tuple xs)
  | _ => False
def fList : FN := fun ds k => match ds with
  | [.list xs] => k (.list xs)
  | [.tuple xs] => k (.list xs)
  | _ => False
theorem vreps1 {K : PySem.W.Frag} {H Hz : Hp} {xs : List V} {d : D} (r : VReps K H Hz xs [d]) : ∃ v, xs = [v] ∧ VRep K H Hz v d := by
  cases r with
  | cons h t => cases t; exact ⟨_, rfl, h⟩
theorem vreps2 {K : PySem.W.Frag} {H Hz : Hp} {xs : List V} {d e : D} (r : VReps K H Hz xs [d, e]) : ∃ v w, xs = [v, w] ∧ VRep K H Hz v d ∧ VRep K H Hz w e := by
  cases r with
  | cons h t =>
    obtain ⟨w, rfl, h2⟩ := vreps1 t
    exact ⟨_, w, rfl, h, h2⟩
section
variable {X : Cx}
theorem c_len : ∃ r, CallR X (.builtin "len") r ∧ CallD X.K r fLen := by
  refine ⟨_, call_len, fun M H xs ds k Q al rx h fin => ?_⟩
  unfold fLen at h
  split at h
  · obtain ⟨v, rfl, r1⟩ := vreps1 rx
    have e := r1.str
    subst e
    exact ⟨_, _, rfl, ⟨h.1, rfl⟩, fin _ _ _ h.2 (Sub.refl _) (.int _)⟩
  · obtain ⟨v, rfl, r1⟩ := vreps1 rx
    obtain ⟨a, vs, rfl, h1, _, _, h2⟩ := r1.tup'
    exact ⟨_, _, rfl, .inr ⟨vs, h1, rfl⟩, by rw [RpAll.length h2]; exact fin _ _ _ h (Sub.refl _) (.int _)⟩
  · obtain ⟨v, rfl, r1⟩ := vreps1 rx
    obtain ⟨a, vs, rfl, h1, _, h2⟩ := r1.list'
    exact ⟨_, _, rfl, .inl ⟨vs, h1, rfl⟩, by rw [RpAll.length h2]; exact fin _ _ _ h (Sub.refl _) (.int _)⟩
  · obtain ⟨v, rfl, r1⟩ := vreps1 rx
    obtain ⟨a, ns, rfl, rfl, hs⟩ := r1.scrL
    rw [List.length_map] at h
    exact ⟨_, _, rfl, .inl ⟨_, hs, rfl⟩, by rw [List.length_map]; exact fin _ _ _ h (Sub.refl _) (.int _)⟩
  · exact h.elim
theorem c_abs : ∃ r, CallR X (.builtin "abs") r ∧ CallD X.K r fAbs := by
  refine ⟨_, call_abs, fun M H xs ds k Q al rx h fin => ?_⟩
  unfold fAbs at h
  split at h
  · obtain ⟨v, rfl, r1⟩ := vreps1 rx
    have e := r1.int
    subst e
    exact ⟨_, rfl, fin _ _ _ h (Sub.refl _) (.int _)⟩
  · exact h.elim
theorem c_int : ∃ r, CallR X (.type "int") r ∧ CallD X.K r fInt := by
  refine ⟨_, call_int1, fun M H xs ds k Q al rx h fin => ?_⟩
  unfold fInt at h
  split at h
  · obtain ⟨v, rfl, r1⟩ := vreps1 rx
    have e := r1.int
    subst e
    exact .inl ⟨_, rfl, fin _ _ _ h (Sub.refl _) (.int _)⟩
  · obtain ⟨v, rfl, r1⟩ := vreps1 rx
    have e := r1.bl
    subst e
    exact .inr ⟨_, rfl, fin _ _ _ h (Sub.refl _) (.int _)⟩
  · exact h.elim
theorem c_max (hc : X.calm = true) : ∃ r, CallR X (.builtin "max") r ∧ CallD X.K r fMax := by
  refine ⟨_, (call_max2 hc).or (cr_max hc), fun M H xs ds k Q al rx h fin => ?_⟩
  unfold fMax at h
  split at h
  · obtain ⟨v, w, rfl, r1, r2⟩ := vreps2 rx
    have e := r1.int
    have e2 := r2.int
    subst e e2
    rename_i i j
    refine .inl ⟨_, _, rfl, ?_⟩
    rw [show (if j > i then j else i) = max i j by omega]
    exact fin _ _ _ h (Sub.refl _) (.int _)
  · obtain ⟨ns, e, h0, h⟩ := withL_of h
    obtain ⟨v, rfl, r1⟩ := vreps1 rx
    obtain ⟨a, vs, rfl, h1, _, h2⟩ := r1.list'
    rw [intsOf_is e] at h2
    have e3 := RpAll.ints h2
    subst e3
    refine .inr ⟨a, ns, rfl, h1, h0, fun m hm hle => ?_⟩
    have : m = maxL ns := Int.le_antisymm ((maxL_mem h0).2 m hm) (hle _ (maxL_mem h0).1)
    rw [this]
    exact fin _ _ _ h (Sub.refl _) (.int _)
  · exact h.elim
theorem c_min (hc : X.calm = true) : ∃ r, CallR X (.builtin "min") r ∧ CallD X.K r fMin := by
  refine ⟨_, (call_min2 hc).or (cr_min hc), fun M H xs ds k Q al rx h fin => ?_⟩
  unfold fMin at h
  split at h
  · obtain ⟨v, w, rfl, r1, r2⟩ := vreps2 rx
    have e := r1.int
    have e2 := r2.int
    subst e e2
    rename_i i j
    refine .inl ⟨_, _, rfl, ?_⟩
    rw [show (if j < i then j else i) = min i j by omega]
    exact fin _ _ _ h (Sub.refl _) (.int _)
  · obtain ⟨ns, e, h0, h⟩ := withL_of h
    obtain ⟨v, rfl, r1⟩ := vreps1 rx
    obtain ⟨a, vs, rfl, h1, _, h2⟩ := r1.list'
    rw [intsOf_is e] at h2
    have e3 := RpAll.ints h2
    subst e3
    refine .inr ⟨a, ns, rfl, h1, h0, fun m hm hle => ?_⟩
    have : m = minL ns := Int.le_antisymm (hle _ (minL_mem h0).1) ((minL_mem h0).2 m hm)
    rw [this]
    exact fin _ _ _ h (Sub.refl _) (.int _)
  · exact h.elim
theorem c_sum (hc : X.calm = true) : ∃ r, CallR X (.builtin "sum") r ∧ CallD X.K r fSum := by
  refine ⟨_, cr_sum hc, fun M H xs ds k Q al rx h fin => ?_⟩
  unfold fSum at h
  split at h
  · obtain ⟨ns, e, h⟩ := withL_of h
    obtain ⟨v, rfl, r1⟩ := vreps1 rx
    obtain ⟨a, vs, rfl, h1, _, h2⟩ := r1.list'
    rw [intsOf_is e] at h2
    have e3 := RpAll.ints h2
    subst e3
    exact ⟨a, ns, rfl, h1, fin _ _ _ h (Sub.refl _) (.int _)⟩
  · exact h.elim
theorem c_all (hc : X.calm = true) : ∃ r, CallR X (.builtin "all") r ∧ CallD X.K r fAll := by
  refine ⟨_, cr_all hc, fun M H xs ds k Q al rx h fin => ?_⟩
  unfold fAll at h
  split at h
  · obtain ⟨ns, e, h⟩ := withL_of h
    obtain ⟨v, rfl, r1⟩ := vreps1 rx
    obtain ⟨a, vs, rfl, h1, _, h2⟩ := r1.list'
    rw [boolsOf_is e] at h2
    have e3 := RpAll.bls h2
    subst e3
    exact ⟨a, ns, rfl, h1, fin _ _ _ h (Sub.refl _) (.bl _)⟩
  · exact h.elim
theorem c_any (hc : X.calm = true) : ∃ r, CallR X (.builtin "any") r ∧ CallD X.K r fAny := by
  refine ⟨_, cr_any hc, fun M H xs ds k Q al rx h fin => ?_⟩
  unfold fAny at h
  split at h
  · obtain ⟨ns, e, h⟩ := withL_of h
    obtain ⟨v, rfl, r1⟩ := vreps1 rx
    obtain ⟨a, vs, rfl, h1, _, h2⟩ := r1.list'
    rw [boolsOf_is e] at h2
    have e3 := RpAll.bls h2
    subst e3
    exact ⟨a, ns, rfl, h1, fin _ _ _ h (Sub.refl _) (.bl _)⟩
  · exact h.elim
theorem c_tuple : ∃ r, CallR X (.type "tuple") r ∧ CallD X.K r fTuple := by
  refine ⟨_, call_tuple_of, fun M H xs ds k Q al rx h fin => ?_⟩
  unfold fTuple at h
  split at h
  · obtain ⟨v, rfl, r1⟩ := vreps1 rx
    obtain ⟨a, vs, rfl, h1, _, h2⟩ := r1.list'
    exact ⟨a, vs, rfl, .inl ⟨h1, fun p hp => fin _ _ _ h (sub_upd hp) (new_tup al hp h2)⟩⟩
  · obtain ⟨v, rfl, r1⟩ := vreps1 rx
    obtain ⟨a, vs, rfl, h1, h1', hn, h2⟩ := r1.tup'
    exact ⟨a, vs, rfl, .inr ⟨h1, fin _ _ _ h (Sub.refl _) (.tup (Fz.of hn h1') h2)⟩⟩
  · exact h.elim
theorem c_list : ∃ r, CallR X (.type "list") r ∧ CallD X.K r fList := by
  refine ⟨_, call_list_of, fun M H xs ds k Q al rx h fin => ?_⟩
  unfold fList at h
  split at h
  · obtain ⟨v, rfl, r1⟩ := vreps1 rx
    obtain ⟨a, vs, rfl, h1, _, h2⟩ := r1.list'
    exact ⟨a, vs, rfl, .inl h1, fun p hp => fin _ _ _ h (sub_upd hp) (new_lst al hp h2)⟩
  · obtain ⟨v, rfl, r1⟩ := vreps1 rx
    obtain ⟨a, vs, rfl, h1, h1', hn, h2⟩ := r1.tup'
    exact ⟨a, vs, rfl, .inr h1, fun p hp => fin _ _ _ h (sub_upd hp) (new_lst al hp h2)⟩
  · exact h.elim
end
/-! ### isinstance of a built-in type -/
def tyName : D → String
  | .none => "NoneType"
  | .bool _ => "bool"
  | .int _ => "int"
  | .str _ => "str"
  | .list _ => "list"
  | .tuple _ => "tuple"
  | .dict _ => "dict"
section
variable {X : Cx}
theorem VRep.ty {K : PySem.W.Frag} {H : Hp} {M : Addr → Prop} {v : V} {x : D} (h : VRep K H (Fz H M) v x) (n : ∀ kvs, x ≠ .dict kvs) : TyX K H v (.type (tyName x)) := by
  cases x with
  | none => rw [h.non]; exact .base .non
  | bool b => rw [h.bl]; exact .base (.bl b)
  | int i => rw [h.int]; exact .base (.int i)
  | str i => rw [h.str]; exact .base (.str i)
  | list xs => obtain ⟨a, vs, rfl, _, h1, _⟩ := h.list'; exact .base (.lst h1)
  | tuple xs => obtain ⟨a, vs, rfl, _, h1, _⟩ := h.tup'; exact .base (.tup h1)
  | dict kvs => exact absurd rfl (n kvs)
def isInt : D → Bool
  | .int _ => true
  | .bool _ => true
  | _ => false
def isBl : D → Bool
  | .bool _ => true
  | _ => false
def isStr : D → Bool
  | .str _ => true
  | _ => false
def isTup : D → Bool
  | .tuple _ => true
  | _ => false
def isLst : D → Bool
  | .list _ => true
  | _ => false
def IsT (Tn : String) (p : D → Bool) : Prop := ∀ x : D, (∀ kvs, x ≠ .dict kvs) → kitB (tyName x) Tn = some (p x)
theorem ist_int : IsT "int" isInt := fun x n => by cases x <;> first | exact absurd rfl (n _) | rfl
theorem ist_bl : IsT "bool" isBl := fun x n => by cases x <;> first | exact absurd rfl (n _) | rfl
theorem ist_str : IsT "str" isStr := fun x n => by cases x <;> first | exact absurd rfl (n _) | rfl
theorem ist_tup : IsT "tuple" isTup := fun x n => by cases x <;> first | exact absurd rfl (n _) | rfl
theorem ist_lst : IsT "list" isLst := fun x n => by cases x <;> first | exact absurd rfl (n _) | rfl
def fI (p : D → Bool) : F1 := fun x k => match x with
  | .dict _ => False
  | x => k (.bool (p x))
theorem de_isi {e : Expr} {te : dTE} {T : Str} {Tn : String} {q : D → Bool} {p pT pos : Pos} (hq : IsT Tn q) (he : DE X e te) (hm : X.mg "isinstance" = none) (hmT : X.mg T = none) (hg : Gl X "isinstance") (hgT : Gl X T) (hvT : bootBuiltins T = some (.type Tn)) (hnT : T ≠ "__name__" := by decide) (hdT : (T == ("__debug__" : Str)) = false := by decide)
    (hv : bootBuiltins "isinstance" = some (.builtin "isinstance") := by decide +kernel)
    (he1 : starEach [e, .Name T pT] X.env = (false, eval e X.env) :: starEach [.Name T pT] X.env := by rfl) (he2 : starEach [.Name T pT] X.env = (false, eval (.Name T pT) X.env) :: starEach [] X.env := by rfl)
    (hpl : (backTo pos (starEach [.Name T pT] X.env)).any (·.1) = false := by rfl) : DE X (.Call (.Name "isinstance" p) [e, .Name T pT] [] pos) (dUn (fI q) te) :=
  PE.imp (pe_callB call_isi hg hm hv (pa_cons he (pa_cons (pe_bltn (v := .ty Tn) hgT hmT hvT rfl hnT hdT) pa_nil he2) he1) (by decide) (by decide) he1 hpl) fun σ H Q hh => by
    obtain ⟨F, m, o, ρ, S, k, rel, t, hk⟩ := hh
    refine ⟨F, m, o, ρ, S, _, rel, t, fun d S1 m1 H1 v h1 rel1 g1 r1 => ?_⟩
    have rv := rel1.view r1
    have nd : ∀ kvs, L3.view ρ S1 d ≠ .dict kvs := fun kvs e => by
      rw [e] at h1
      exact h1
    have h2 : k (.d (.bool (q (L3.view ρ S1 d)))) S1 := by
      cases z : L3.view ρ S1 d with
      | dict kvs => exact absurd z (nd kvs)
      | _ => rw [z] at h1; exact h1
    exact ⟨v, .ty Tn, _, _, _, rfl, .ty Tn, rv.ty nd, kit_ty (hq _ nd), hk _ S1 m1 H1 _ h2 rel1 g1 (.bl _)⟩
end

/-! ### methods of texts, of lists that are read -/
abbrev FM := D → List D → (D → Prop) → Prop
def MtD (K : PySem.W.Frag) (r : V → List V → Hp → VK → Prop) (f : FM) : Prop := ∀ (M : Addr → Prop) (H : Hp) (x : V) (xs : List V) (dx : D) (ds : List D) (k : D → Prop) (Q : VK), Alive M H →
  VRep K H (Fz H M) x dx → VReps K H (Fz H M) xs ds → f dx ds k → (∀ z v H', k z → Sub H H' → Rp K (Fz H' M) v z → Q v H') → r x xs H Q
def dBM (T : String) (f : FM) (to : dTE) (ta : dTA) : dTE := fun ρ S Q => to ρ S fun d S1 => tyName (view ρ S1 d) = T ∧ ta ρ S1 fun ds S2 => f (view ρ S2 d) (views ρ S2 ds) fun z => Q (.d z) S2
def dBM0 (T : String) (f : FM) (to : dTE) : dTE := fun ρ S Q => to ρ S fun d S1 => tyName (view ρ S1 d) = T ∧ f (view ρ S1 d) [] fun z => Q (.d z) S1
section
variable {X : Cx}
theorem VRep.tyV {K : PySem.W.Frag} {H : Hp} {M : Addr → Prop} {v : V} {x : D} {T : String} (h : VRep K H (Fz H M) v x) (e : tyName x = T) (hT : T = "str" ∨ T = "list") : L2.tyV K T v H := by
  cases x with
  | str z => rw [h.str]; exact e.symm
  | list xs => obtain ⟨a, vs, rfl, h1, _⟩ := h.list'; exact .inl ⟨e.symm, vs, h1⟩
  | none => subst e; rcases hT with z | z <;> simp [tyName] at z
  | bool b => subst e; rcases hT with z | z <;> simp [tyName] at z
  | int b => subst e; rcases hT with z | z <;> simp [tyName] at z
  | tuple b => subst e; rcases hT with z | z <;> simp [tyName] at z
  | dict b => subst e; rcases hT with z | z <;> simp [tyName] at z
theorem lift_bm {K : PySem.W.Frag} {r : V → List V → Hp → VK → Prop} {f : FM} {T : String} {to : dTE} {ta : dTA} (hT : T = "str" ∨ T = "list") (hf : MtD K r f) {σ : L2.St} {H : Hp} {Q : VK} (h : lift K (dBM T f to ta) σ H Q) : tBM K T r (lift K to) (liftA K ta) σ H Q := by
  obtain ⟨F, m, o, ρ, S, k, rel, t, hk⟩ := h
  refine ⟨F, m, o, ρ, S, _, rel, t, fun d S1 m1 H1 v h1 rel1 g1 r1 => ?_⟩
  obtain ⟨e, h2⟩ := h1
  refine ⟨(rel1.view r1).tyV e hT, F, m1, o, ρ, S1, _, rel1, h2, fun ds S2 m2 H2 vs h3 rel2 g2 r2 => ?_⟩
  exact hf (Mu F m2 o) H2 v vs _ _ _ _ rel2.st.alive (rel2.view (r1.grow g2)) (rel2.views r2) h3 fun z u H' kz s dz =>
    hk (.d z) S2 m2 H' u kz (rel2.sub s) ((g1.trans g2).trans (Grow.sub rel2 s)) dz
theorem lift_bm0 {K : PySem.W.Frag} {r : V → List V → Hp → VK → Prop} {f : FM} {T : String} {to : dTE} (hT : T = "str" ∨ T = "list") (hf : MtD K r f) {σ : L2.St} {H : Hp} {Q : VK} (h : lift K (dBM0 T f to) σ H Q) : tBM0 K T r (lift K to) σ H Q := by
  obtain ⟨F, m, o, ρ, S, k, rel, t, hk⟩ := h
  refine ⟨F, m, o, ρ, S, _, rel, t, fun d S1 m1 H1 v h1 rel1 g1 r1 => ?_⟩
  obtain ⟨e, h2⟩ := h1
  exact ⟨(rel1.view r1).tyV e hT, hf (Mu F m1 o) H1 v [] _ _ _ _ rel1.st.alive (rel1.view r1) .nil h2 fun z u H' kz s dz =>
    hk (.d z) S1 m1 H' u kz (rel1.sub s) (g1.trans (Grow.sub rel1 s)) dz⟩
variable {o e : Expr} {es : List Expr} {to : dTE} {t : dTA} {name : Str} {apos cpos : Pos} {T id : String} {f : FM}
theorem de_bm (hm : ∃ r, MtR X id r ∧ MtD X.K r f) (hT : T = "str" ∨ T = "list") (pa : PlainAttrs T) (slot : PySem.Slot T name id) (hty : typeOf (.builtin id) = pure (.type "method_descriptor")) (ho : DE X o to) (ha : DA X (e :: es) t)
    (hbase : attributeBase o name X.env (eval o X.env) = eval o X.env := by rfl) (he : starEach (e :: es) X.env = (false, eval e X.env) :: starEach es X.env := by rfl)
    (hfew : ((backTo cpos (starEach (e :: es) X.env)).all (fun x => !x.1) && (backToKw cpos (keywordEach [] X.env)).all (fun x => x.1.isSome)
      && decide ((e :: es).length + ([] : List Keyword).length + (if ([] : List Keyword).isEmpty then 0 else 1) < 30)) = true := by rfl)
    (hpl : (backTo cpos (starEach es X.env)).any (·.1) = false := by rfl) (hline : (apos.endLine == cpos.line) = true := by rfl) : DE X (.Call (.Attribute o name apos) (e :: es) [] cpos) (dBM T f to t) := by
  obtain ⟨r, h1, h2⟩ := hm
  exact PE.imp (pe_bm pa slot hty h1 ho ha hbase hfew hline he hpl) fun _ _ _ => lift_bm hT h2
theorem de_bm0 (hm : ∃ r, MtR X id r ∧ MtD X.K r f) (hT : T = "str" ∨ T = "list") (pa : PlainAttrs T) (slot : PySem.Slot T name id) (hty : typeOf (.builtin id) = pure (.type "method_descriptor")) (ho : DE X o to)
    (hbase : attributeBase o name X.env (eval o X.env) = eval o X.env := by rfl) (hline : (apos.endLine == cpos.line) = true := by rfl) : DE X (.Call (.Attribute o name apos) [] [] cpos) (dBM0 T f to) := by
  obtain ⟨r, h1, h2⟩ := hm
  exact PE.imp (pe_bm0 pa slot hty h1 ho hbase hline) fun _ _ _ => lift_bm0 hT h2
def fJoin : FM := fun x ds k => match x, ds with
  | .str a, [.list xs] => withL (strsOf xs) fun ys => (ys.map (·.length)).sum + ys.length * a.length ≤ 16777216 ∧ k (.str (Txt.join a ys))
  | .str a, [.tuple xs] => withL (strsOf xs) fun ys => (ys.map (·.length)).sum + ys.length * a.length ≤ 16777216 ∧ k (.str (Txt.join a ys))
  | _, _ => False
theorem m_join : ∃ r, MtR X "str.join" r ∧ MtD X.K r fJoin := by
  refine ⟨_, mt_join, fun M H x xs dx ds k Q al rx rs h fin => ?_⟩
  unfold fJoin at h
  split at h
  · obtain ⟨ys, e, h0, h⟩ := withL_of h
    obtain ⟨v, rfl, r1⟩ := vreps1 rs
    obtain ⟨a, vs, rfl, h1, _, h2⟩ := r1.list'
    rw [strsOf_is e] at h2
    have e3 := RpAll.strs h2
    subst e3
    exact ⟨_, a, ys, rx.str, rfl, .inl h1, h0, fin _ _ _ h (Sub.refl _) (.str _)⟩
  · obtain ⟨ys, e, h0, h⟩ := withL_of h
    obtain ⟨v, rfl, r1⟩ := vreps1 rs
    obtain ⟨a, vs, rfl, h1, _, _, h2⟩ := r1.tup'
    rw [strsOf_is e] at h2
    have e3 := RpAll.strs h2
    subst e3
    exact ⟨_, a, ys, rx.str, rfl, .inr h1, h0, fin _ _ _ h (Sub.refl _) (.str _)⟩
  · exact h.elim
end
/-! ### in, not in, for flat things -/
def flatD : D → Bool
  | .none => true
  | .bool _ => true
  | .int _ => true
  | .str _ => true
  | _ => false
theorem eqv_flat {K : PySem.W.Frag} {H : Hp} {v w : V} {x y : D} (hx : Rp K H v x) (hy : Rp K H w y) (fx : flatD x = true) (fy : flatD y = true) : eqV w v = PyData.eqv y x := by
  cases hx <;> cases hy <;> first | rfl | (simp [flatD] at fx fy; done) | (simp [eqV, PyData.eqv]; done) | skip
theorem flat_V {K : PySem.W.Frag} {H : Hp} {v : V} {x : D} (hx : Rp K H v x) (fx : flatD x = true) : flatV v = true := by
  cases hx <;> first | rfl | (simp [flatD, scrD] at fx; done)
/-- x in ys -/
def isIn (x : D) (ys : List D) : Bool := ys.any fun z => PyData.eqv z x
def fIn : F2 := fun x y k => match y with
  | .list ys => ((flatD x && ys.all flatD) || (SeqAt.shaped x && SeqAt.shaped (.list ys))) = true ∧ k (.bool (isIn x ys))
  | .tuple ys => (flatD x && ys.all flatD) = true ∧ k (.bool (isIn x ys))
  | _ => False
def fNotIn : F2 := fun x y k => match y with
  | .list ys => ((flatD x && ys.all flatD) || (SeqAt.shaped x && SeqAt.shaped (.list ys))) = true ∧ k (.bool (!isIn x ys))
  | .tuple ys => (flatD x && ys.all flatD) = true ∧ k (.bool (!isIn x ys))
  | _ => False
theorem VRep.rp {K : PySem.W.Frag} {H : Hp} {M : Addr → Prop} {v : V} {x : D} (h : VRep K H (Fz H M) v x) (f : flatD x = true) : Rp K H v x := by
  cases h with
  | d q => exact Rp.sub Fz.sub q
  | @cell a c q => cases c <;> simp [cellD, flatD] at f
theorem inV_is {K : PySem.W.Frag} {H : Hp} {v : V} {x : D} (hx : Rp K H v x) (fx : flatD x = true) : ∀ {vs : List V} {ys : List D}, RpAll K H vs ys → ys.all flatD = true → inV v vs = isIn x ys ∧ vs.all flatV = true
  | _, _, .nil, _ => ⟨rfl, rfl⟩
  | _, _, .cons h r, f => by
    simp only [List.all_cons, Bool.and_eq_true] at f
    obtain ⟨e1, e2⟩ := inV_is hx fx r f.2
    refine ⟨?_, by rw [List.all_cons, flat_V h f.1, e2]; rfl⟩
    unfold inV isIn at *
    rw [List.any_cons, List.any_cons, e1, eqv_flat hx h fx f.1]
section
variable {X : Cx}
theorem o_in (hu : X.A.units + 65 < cLine) : ∃ r, OpR X (compareOp .In) r ∧ OpD X.K r fIn := by
  refine ⟨_, op_in_seq.or (op_inD hu), fun M H x y dx dy k Q al rx ry h fin => ?_⟩
  unfold fIn at h
  split at h
  · obtain ⟨c, h⟩ := h
    rw [Bool.or_eq_true] at c
    rcases c with c | c
    · rw [Bool.and_eq_true] at c
      obtain ⟨a, vs, rfl, h1, _, h2⟩ := ry.list'
      obtain ⟨e1, e2⟩ := inV_is (rx.rp c.1) c.1 (RpAll.sub Fz.sub h2) c.2
      refine .inl ⟨a, vs, rfl, .inl h1, flat_V (rx.rp c.1) c.1, e2, ?_⟩
      rw [if_neg Bool.false_ne_true, e1]
      exact fin _ _ _ h (Sub.refl _) (.bl _)
    · rw [Bool.and_eq_true] at c
      exact .inr ⟨_, _, rx.dp Fz.sub (SeqAt.canLay_of_shaped c.1), ry.dp Fz.sub (SeqAt.canLay_of_shaped c.2), c.1, c.2, fin _ _ _ h (Sub.refl _) (.bl _)⟩
  · obtain ⟨c, h⟩ := h
    rw [Bool.and_eq_true] at c
    obtain ⟨a, vs, rfl, h1, _, _, h2⟩ := ry.tup'
    obtain ⟨e1, e2⟩ := inV_is (rx.rp c.1) c.1 (RpAll.sub Fz.sub h2) c.2
    refine .inl ⟨a, vs, rfl, .inr h1, flat_V (rx.rp c.1) c.1, e2, ?_⟩
    rw [if_neg Bool.false_ne_true, e1]
    exact fin _ _ _ h (Sub.refl _) (.bl _)
  · exact h.elim
theorem o_notin (hu : X.A.units + 65 < cLine) : ∃ r, OpR X (compareOp .NotIn) r ∧ OpD X.K r fNotIn := by
  refine ⟨_, op_notIn_seq.or (op_notInD hu), fun M H x y dx dy k Q al rx ry h fin => ?_⟩
  unfold fNotIn at h
  split at h
  · obtain ⟨c, h⟩ := h
    rw [Bool.or_eq_true] at c
    rcases c with c | c
    · rw [Bool.and_eq_true] at c
      obtain ⟨a, vs, rfl, h1, _, h2⟩ := ry.list'
      obtain ⟨e1, e2⟩ := inV_is (rx.rp c.1) c.1 (RpAll.sub Fz.sub h2) c.2
      refine .inl ⟨a, vs, rfl, .inl h1, flat_V (rx.rp c.1) c.1, e2, ?_⟩
      rw [if_pos rfl, e1]
      exact fin _ _ _ h (Sub.refl _) (.bl _)
    · rw [Bool.and_eq_true] at c
      exact .inr ⟨_, _, rx.dp Fz.sub (SeqAt.canLay_of_shaped c.1), ry.dp Fz.sub (SeqAt.canLay_of_shaped c.2), c.1, c.2, fin _ _ _ h (Sub.refl _) (.bl _)⟩
  · obtain ⟨c, h⟩ := h
    rw [Bool.and_eq_true] at c
    obtain ⟨a, vs, rfl, h1, _, _, h2⟩ := ry.tup'
    obtain ⟨e1, e2⟩ := inV_is (rx.rp c.1) c.1 (RpAll.sub Fz.sub h2) c.2
    refine .inl ⟨a, vs, rfl, .inr h1, flat_V (rx.rp c.1) c.1, e2, ?_⟩
    rw [if_pos rfl, e1]
    exact fin _ _ _ h (Sub.refl _) (.bl _)
  · exact h.elim
end
end L3

set_option maxHeartbeats 4000000
namespace L3
open PySem PySem.Spec L2

/-! ### blocks and small statements -/
def dNext : dTS := fun E ρ S => E.nx ρ S
def dSeq (t u : dTS) : dTS := fun E ρ S => t { E with nx := u E } ρ S
def dBrk : dTS := fun E ρ S => E.bk ρ S
def dCnt : dTS := fun E ρ S => E.ct ρ S
def dDrop (te : dTE) : dTS := fun E ρ S => te ρ S fun _ S1 => E.nx ρ S1
def dRet (te : dTE) : dTS := fun E ρ S => te ρ S E.rt
def dRetN : dTS := fun E _ S => E.rt (.d .none) S
def dIfS (c : dTT) (t u : dTS) : dTS := fun E ρ S => c ρ S fun b S1 => Br b (t E ρ S1) (u E ρ S1)
/-- a value that may be kept: none of one's own things -/
def nl (d : DV) (k : Prop) : Prop := match d with
  | .loc _ => False
  | .d _ => k
  | .ref _ => k
theorem nl_of {d : DV} {k : Prop} (h : nl d k) : isLoc d = false ∧ k := by
  cases d with
  | d x => exact ⟨rfl, h⟩
  | ref n => exact ⟨rfl, h⟩
  | loc i => exact h.elim
def dSet (i : Nat) (te : dTE) : dTS := fun E ρ S => te ρ S fun d S1 => nl d (E.nx (ρ.set i (.val d)) S1)
/-- a new list that is one's own -/
def dSetO (i : Nat) (t : dTF) : dTS := fun E ρ S => t ρ S fun xs S1 => match ρ[i]? with
  | some _ => E.nx (ρ.set i (.own (.lst xs))) S1
  | none => False
/-- from here on what slot i owns stands still -/
def frz (ρ : Env3) (i : Nat) : Env3 := match ρ[i]? with
  | some (.own (.lst xs)) => ρ.set i (.val (.d (.list xs)))
  | _ => ρ
def dFrz (i : Nat) (t : dTS) : dTS := fun E ρ S => t E (frz ρ i) S
section
variable {X : Cx} {K : PySem.W.Frag}
theorem EndsOk.seq {F : Addr → Prop} {m o : Nat → Option Addr} {H : Hp} {E : dEnds} {E' : Ends} {u : dTS} (ok : EndsOk K F m o H E E') : EndsOk K F m o H { E with nx := u E } { E' with nx := liftS K u E' } :=
  ⟨fun ρ S m' o' σ' H' h r g => ⟨F, m', o', ρ, S, E, r, h, ok.grow g⟩, ok.bk, ok.ct, ok.rt⟩
theorem dss_nil : DSs X [] dNext := PSs.imp pss_nil fun E σ H q => by
  obtain ⟨F, m, o, ρ, S, E', rel, t, ok⟩ := q
  exact ok.nx ρ S m o σ H t rel Grow.refl
theorem lift_seq {t u : dTS} {E : Ends} {σ : L2.St} {H : Hp} (q : liftS K (dSeq t u) E σ H) : tSeq (liftS K t) (liftS K u) E σ H := by
  obtain ⟨F, m, o, ρ, S, E', rel, t, ok⟩ := q
  exact ⟨F, m, o, ρ, S, _, rel, t, ok.seq⟩
theorem dss_cons {st : Stmt} {rest : List Stmt} {t u : dTS} (h1 : DS X st t) (h2 : DSs X rest u) : DSs X (st :: rest) (dSeq t u) := PSs.imp (pss_cons h1 h2) fun _ _ _ => lift_seq
theorem dss_one {st : Stmt} {t : dTS} (h1 : DS X st t) : DSs X [st] t := pss_one h1
theorem ds_pass {pos : Pos} : DS X (.Pass pos) dNext := PS.imp ps_pass fun E σ H q => by
  obtain ⟨F, m, o, ρ, S, E', rel, t, ok⟩ := q
  exact ok.nx ρ S m o σ H t rel Grow.refl
theorem ds_brk {pos : Pos} : DS X (.Break pos) dBrk := PS.imp ps_break fun E σ H q => by
  obtain ⟨F, m, o, ρ, S, E', rel, t, ok⟩ := q
  exact ok.bk ρ S m o σ H t rel Grow.refl
theorem ds_cnt {pos : Pos} : DS X (.Continue pos) dCnt := PS.imp ps_continue fun E σ H q => by
  obtain ⟨F, m, o, ρ, S, E', rel, t, ok⟩ := q
  exact ok.ct ρ S m o σ H t rel Grow.refl
theorem ds_doc {x j pos pos'} : DS X (.Expr (.Constant (.str x) j pos) pos') dNext := PS.imp ps_doc fun E σ H q => by
  obtain ⟨F, m, o, ρ, S, E', rel, t, ok⟩ := q
  exact ok.nx ρ S m o σ H t rel Grow.refl
theorem ds_expr {e : Expr} {te : dTE} {pos : Pos} (he : DE X e te) (hs : swapsWith e none pos.line X.env = pure false := by rfl) : DS X (.Expr e pos) (dDrop te) := PS.imp (ps_expr he hs) fun E σ H q => by
  obtain ⟨F, m, o, ρ, S, E', rel, t, ok⟩ := q
  exact ⟨F, m, o, ρ, S, _, rel, t, fun d S' m' H' v h r g _ => ok.nx ρ S' m' o σ H' h r g⟩
theorem ds_ret {e : Expr} {te : dTE} {pos : Pos} (he : DE X e te) : DS X (.Return (some e) pos) (dRet te) := PS.imp (ps_ret he) fun E σ H q => by
  obtain ⟨F, m, o, ρ, S, E', rel, t, ok⟩ := q
  exact ⟨F, m, o, ρ, S, _, rel, t, fun d S' m' H' v h r g q => ok.rt d ρ S' m' o σ H' v h r g q⟩
theorem ds_retN {pos : Pos} : DS X (.Return none pos) dRetN := PS.imp ps_retN fun E σ H q => by
  obtain ⟨F, m, o, ρ, S, E', rel, t, ok⟩ := q
  exact ok.rt _ ρ S m o σ H .non t rel Grow.refl .non
theorem ds_if {c : Expr} {a b : List Stmt} {tc : dTT} {t u : dTS} {pos : Pos} (hc : DT X c tc) (ha : DSs X a t) (hb : DSs X b u) : DS X (.If c a b pos) (dIfS tc t u) := PS.imp (ps_if hc ha hb) fun E σ H q => by
  obtain ⟨F, m, o, ρ, S, E', rel, t, ok⟩ := q
  refine ⟨F, m, o, ρ, S, _, rel, t, fun b S1 m1 H1 h r g => ?_⟩
  cases b with
  | true => exact iteT ⟨F, m1, o, ρ, S1, E', r, h.eT, ok.grow g⟩
  | false => exact iteF ⟨F, m1, o, ρ, S1, E', r, h.eF, ok.grow g⟩
theorem ds_set {i : Nat} {x : Str} {e : Expr} {te : dTE} {pos pos' : Pos} (hN : X.N.Nodup) (hi : X.N[i]? = some x) (hx : Loc X.env.scope x) (he : DE X e te) (hf : X.fn x = true ∨ X.env.scope.names.lookup x = some .local) (hs : swapsWith e (some (.Name x pos')) pos.line X.env = pure false := by rfl) :
    DS X (.Assign [.Name x pos'] e pos) (dSet i te) := PS.imp (ps_set hN hi hx he hs hf) fun E σ H q => by
  obtain ⟨F, m, o, ρ, S, E', rel, t, ok⟩ := q
  refine ⟨F, m, o, ρ, S, _, rel, t, fun d S1 m1 H1 v h r g q => ?_⟩
  obtain ⟨n, h⟩ := nl_of h
  exact ok.nx _ S1 m1 _ _ H1 h (r.put i q n) (g.trans (Grow.ers i))
theorem own_fin {F : Addr → Prop} {m o : Nat → Option Addr} {ρ : Env3} {S : Sto} {σ : L2.St} {H : Hp} {E : dEnds} {E' : Ends} {i : Nat} {p : Addr} {vs : List V} {xs : List D} (rel : Rel K F m o ρ S σ H) (hp : H p = none) (dp : RpAll K (Fz H (Mu F m o)) vs xs)
    (h : match ρ[i]? with | some _ => E.nx (ρ.set i (.own (.lst xs))) S | none => False) (ok : EndsOk K F m o H E E') : gName i (.ref p) σ (upd H p (.lst vs)) E'.nx := by
  have hi : i < ρ.length := by
    by_cases z : i < ρ.length
    · exact z
    · rw [List.getElem?_eq_none_iff.mpr (by omega)] at h
      exact h.elim
  rw [List.getElem?_eq_getElem hi] at h
  exact ok.nx _ S m _ _ _ h (rel.own hp hi ⟨vs, upd_same, RpAll.sub (fz_own hp) dp⟩) (Grow.own rel.st hp)
theorem ds_setO {i : Nat} {x : Str} {e : Expr} {t : dTF} {pos pos' : Pos} (hN : X.N.Nodup) (hi : X.N[i]? = some x) (hx : Loc X.env.scope x) (he : DF X e t) (hf : X.fn x = true ∨ X.env.scope.names.lookup x = some .local) (hs : swapsWith e (some (.Name x pos')) pos.line X.env = pure false := by rfl) :
    DS X (.Assign [.Name x pos'] e pos) (dSetO i t) := PS.imp (ps_set hN hi hx he hs hf) fun E σ H q => by
  obtain ⟨F, m, o, ρ, S, E', rel, t, ok⟩ := q
  exact ⟨F, m, o, ρ, S, _, rel, t, fun xs S1 m1 H1 p vs h r g hp dp => own_fin r hp dp h (ok.grow g)⟩
theorem frz_rel {F : Addr → Prop} {m o : Nat → Option Addr} {ρ : Env3} {S : Sto} {σ : L2.St} {H : Hp} (r : Rel K F m o ρ S σ H) (i : Nat) : ∃ o', Rel K F m o' (frz ρ i) S σ H ∧ Grow F m o H m o' H := by
  unfold frz
  split
  · rename_i xs e
    obtain ⟨a, h1, h2, vs, h3, h4⟩ := r.sl i _ e
    have q : DRep K F m (ersO o i) H (.ref a) (.d (.list xs)) := by
      refine .lst (Fz.of (fun z => ?_) h3) (RpAll.sub (fz_ers i) h4)
      rcases z with z | ⟨n, z⟩ | ⟨j, z⟩
      · exact r.st.oF i a h1 z
      · exact r.st.injO n i a z h1
      · obtain ⟨z1, z2⟩ := ers_some z
        exact z1 (r.st.oo j i a z2 h1)
    have hi : i < ρ.length := (List.getElem?_eq_some_iff.mp e).1
    refine ⟨ersO o i, ⟨r.st.ers i, by rw [List.length_set]; exact r.len, fun j s e2 => ?_, fun j h => ?_⟩, Grow.ers i⟩
    · by_cases hj : i = j
      · subst hj
        rw [List.getElem?_set_self hi] at e2
        cases e2
        exact ⟨ers_same, _, h2, q⟩
      · rw [List.getElem?_set_ne hj] at e2
        rw [ers_ne (Ne.symm hj)]
        exact (r.sl j s e2).sub (fun _ _ => rfl) (fz_ers i)
    · rw [List.length_set] at h
      by_cases hj : j = i
      · subst hj; exact ers_same
      · rw [ers_ne hj]; exact r.far j h
  · exact ⟨o, r, Grow.refl⟩
theorem dss_frz {sts : List Stmt} {t : dTS} (i : Nat) (h : DSs X sts t) : DSs X sts (dFrz i t) := PSs.imp h fun E σ H q => by
  obtain ⟨F, m, o, ρ, S, E', rel, t, ok⟩ := q
  obtain ⟨o', r, g⟩ := frz_rel rel i
  exact ⟨F, m, o', _, S, E', r, t, ok.grow g⟩
theorem ds_frz {st : Stmt} {t : dTS} (i : Nat) (h : DS X st t) : DS X st (dFrz i t) := PS.imp h fun E σ H q => by
  obtain ⟨F, m, o, ρ, S, E', rel, t, ok⟩ := q
  obtain ⟨o', r, g⟩ := frz_rel rel i
  exact ⟨F, m, o', _, S, E', r, t, ok.grow g⟩
end

/-! ### targets -/
abbrev dTG := D → Env3 → Sto → (Env3 → Sto → Prop) → Prop
abbrev dTGs := List D → Env3 → Sto → (Env3 → Sto → Prop) → Prop
def wipeD (ρ : Env3) : List Nat → Env3
  | [] => ρ
  | v :: vs => (wipeD ρ vs).set v .no
theorem wipeD_length (ρ : Env3) : ∀ vs : List Nat, (wipeD ρ vs).length = ρ.length
  | [] => rfl
  | v :: vs => by unfold wipeD; rw [List.length_set, wipeD_length ρ vs]
theorem wipe_set (σ : L2.St) (i : Nat) (x : Option V) : ∀ {vs : List Nat}, i ∈ vs → wipe (σ.set i x) vs = wipe σ vs
  | v :: vs, h => by
    unfold wipe
    by_cases e : i ∈ vs
    · rw [wipe_set σ i x e]
    · have hv : i = v := by
        rcases List.mem_cons.mp h with h | h
        · exact h
        · exact absurd h e
      subst hv
      have go : ∀ ws : List Nat, i ∉ ws → wipe (σ.set i x) ws = (wipe σ ws).set i x := by
        intro ws hw
        induction ws with
        | nil => rfl
        | cons w ws ih =>
          have h1 : i ≠ w := fun z => hw (by rw [z]; exact List.mem_cons_self)
          have h2 : i ∉ ws := fun z => hw (List.mem_cons_of_mem _ z)
          unfold wipe
          rw [ih h2, List.set_comm _ _ h1]
      rw [go vs e, List.set_set]
theorem wipeD_set (σ : Env3) (i : Nat) (x : Slot) : ∀ {vs : List Nat}, i ∈ vs → wipeD (σ.set i x) vs = wipeD σ vs
  | v :: vs, h => by
    unfold wipeD
    by_cases e : i ∈ vs
    · rw [wipeD_set σ i x e]
    · have hv : i = v := by
        rcases List.mem_cons.mp h with h | h
        · exact h
        · exact absurd h e
      subst hv
      have go : ∀ ws : List Nat, i ∉ ws → wipeD (σ.set i x) ws = (wipeD σ ws).set i x := by
        intro ws hw
        induction ws with
        | nil => rfl
        | cons w ws ih =>
          have h1 : i ≠ w := fun z => hw (by rw [z]; exact List.mem_cons_self)
          have h2 : i ∉ ws := fun z => hw (List.mem_cons_of_mem _ z)
          unfold wipeD
          rw [ih h2, List.set_comm _ _ h1]
      rw [go vs e, List.set_set]
/-- a target's reading: its slots are among vs -/
def liftG (K : PySem.W.Frag) (vs : List Nat) (g : dTG) : TG := fun v σ H Q => ∃ F m o ρ S x k, Rel K F m o ρ S σ H ∧ Rp K (Fz H (Mu F m o)) v x ∧ g x ρ S k ∧
  ∀ ρ' S' m' o' σ' H', k ρ' S' → Rel K F m' o' ρ' S' σ' H' → Grow F m o H m' o' H' → wipe σ' vs = wipe σ vs → (∀ i a, o' i = some a → o i = some a) → Q σ' H'
def liftGs (K : PySem.W.Frag) (vs : List Nat) (g : dTGs) : TGs := fun us σ H Q => ∃ F m o ρ S xs k, Rel K F m o ρ S σ H ∧ RpAll K (Fz H (Mu F m o)) us xs ∧ g xs ρ S k ∧
  ∀ ρ' S' m' o' σ' H', k ρ' S' → Rel K F m' o' ρ' S' σ' H' → Grow F m o H m' o' H' → wipe σ' vs = wipe σ vs → (∀ i a, o' i = some a → o i = some a) → Q σ' H'
structure DG (X : Cx) (vs : List Nat) (e : Expr) (g : dTG) : Prop where
  pg : PG X e (liftG X.K vs g)
  sat : ∀ x ρ S k, g x ρ S k → ∃ ρ1 S1, k ρ1 S1
  w : ∀ x ρ S k, g x ρ S k → g x ρ S fun ρ1 S1 => k ρ1 S1 ∧ wipeD ρ1 vs = wipeD ρ vs
structure DGs (X : Cx) (vs : List Nat) (n : Nat) (es : List Expr) (g : dTGs) : Prop where
  pg : PGs X es (liftGs X.K vs g)
  sat : ∀ x ρ S k, g x ρ S k → x.length = n ∧ ∃ ρ1 S1, k ρ1 S1
  w : ∀ x ρ S k, g x ρ S k → g x ρ S fun ρ1 S1 => k ρ1 S1 ∧ wipeD ρ1 vs = wipeD ρ vs
def gNm (i : Nat) : dTG := fun x ρ S Q => Q (ρ.set i (.val (.d x))) S
def gsNil : dTGs := fun xs ρ S Q => match xs with
  | [] => Q ρ S
  | _ :: _ => False
def gsCons (g : dTG) (gs : dTGs) : dTGs := fun xs ρ S Q => match xs with
  | [] => False
  | x :: r => g x ρ S fun ρ1 S1 => gs r ρ1 S1 Q
def gTp (gs : dTGs) : dTG := fun x ρ S Q => match x with
  | .tuple xs => gs xs ρ S Q
  | _ => False
theorem PG.imp {X : Cx} {e : Expr} {t t' : TG} (h : PG X e t) (i : ∀ v σ H Q, t' v σ H Q → t v σ H Q) : PG X e t' := ⟨fun pins s σ H v u Q I r q => h.run pins s σ H v u Q I r (i v σ H Q q)⟩
theorem PGs.imp {X : Cx} {e : List Expr} {t t' : TGs} (h : PGs X e t) (i : ∀ v σ H Q, t' v σ H Q → t v σ H Q) : PGs X e t' := ⟨fun pins s σ H v u Q I r q => h.run pins s σ H v u Q I r (i v σ H Q q)⟩
section
variable {X : Cx} {vs : List Nat}
theorem dg_nm {i : Nat} {x : Str} {pos : Pos} (hN : X.N.Nodup) (hi : X.N[i]? = some x) (hx : Loc X.env.scope x) (hf : X.fn x = true ∨ X.env.scope.names.lookup x = some .local) (hv : i ∈ vs := by decide) : DG X vs (.Name x pos) (gNm i) where
  pg := PG.imp (pg_name hN hi hx hf) fun v σ H Q q => by
    obtain ⟨F, m, o, ρ, S, x, k, rel, dp, t, hk⟩ := q
    exact hk _ S m _ _ H t (rel.put (d := .d x) i dp rfl) (Grow.ers i) (wipe_set _ _ _ hv) fun j a e => (ers_some e).2
  sat := fun x ρ S k h => ⟨_, _, h⟩
  w := fun x ρ S k h => ⟨h, wipeD_set _ _ _ hv⟩
theorem dgs_nil : DGs X vs 0 [] gsNil where
  pg := PGs.imp pgs_nil fun us σ H Q q => by
    obtain ⟨F, m, o, ρ, S, xs, k, rel, dp, t, hk⟩ := q
    cases dp with
    | nil => exact ⟨rfl, hk _ S m _ _ H t rel Grow.refl rfl fun _ _ e => e⟩
    | cons h r => exact t.elim
  sat := fun xs ρ S k h => by
    cases xs with
    | nil => exact ⟨rfl, _, _, h⟩
    | cons x r => exact h.elim
  w := fun xs ρ S k h => by
    cases xs with
    | nil => exact ⟨h, rfl⟩
    | cons x r => exact h.elim
theorem dgs_cons {e : Expr} {es : List Expr} {g : dTG} {gs : dTGs} {n : Nat} (h1 : DG X vs e g) (h2 : DGs X vs n es gs)
    (mono : ∀ x ρ S k k', g x ρ S k → (∀ ρ1 S1, k ρ1 S1 → k' ρ1 S1) → g x ρ S k')
    (hs : (assignEach (e :: es) X.env).map (·.2) = assign e X.env :: (assignEach es X.env).map (·.2) := by rfl) : DGs X vs (n + 1) (e :: es) (gsCons g gs) where
  pg := PGs.imp (pgs_cons h1.pg h2.pg hs) fun us σ H Q q => by
    obtain ⟨F, m, o, ρ, S, xs, k, rel, dp, t, hk⟩ := q
    cases dp with
    | nil => exact t.elim
    | cons h r =>
      refine ⟨_, _, rfl, F, m, o, ρ, S, _, _, rel, h, t, fun ρ1 S1 m1 o1 σ1 H1 h1 rel1 g1 w1 oo1 => ?_⟩
      exact ⟨F, m1, o1, ρ1, S1, _, _, rel1, RpAll.sub g1.z r, h1, fun ρ2 S2 m2 o2 σ2 H2 h2 rel2 g2 w2 oo2 => hk ρ2 S2 m2 o2 σ2 H2 h2 rel2 (g1.trans g2) (w2.trans w1) fun j a e => oo1 j a (oo2 j a e)⟩
  sat := fun xs ρ S k h => by
    cases xs with
    | nil => exact h.elim
    | cons x r =>
      obtain ⟨ρ1, S1, q⟩ := h1.sat _ _ _ _ h
      obtain ⟨q1, q2⟩ := h2.sat _ _ _ _ q
      exact ⟨by rw [List.length_cons, q1], q2⟩
  w := fun xs ρ S k h => by
    cases xs with
    | nil => exact h.elim
    | cons x r =>
      show g x ρ S _
      exact mono _ _ _ _ _ (h1.w _ _ _ _ h) fun ρ1 S1 q => by
        have z := h2.w _ _ _ _ q.1
        rw [q.2] at z
        exact z
theorem mono_nm (i : Nat) : ∀ x ρ S k k', gNm i x ρ S k → (∀ ρ1 S1, k ρ1 S1 → k' ρ1 S1) → gNm i x ρ S k' := fun _ _ _ _ _ h q => q _ _ h
theorem mono_nil : ∀ x ρ S k k', gsNil x ρ S k → (∀ ρ1 S1, k ρ1 S1 → k' ρ1 S1) → gsNil x ρ S k' := fun x _ _ _ _ h q => by
  cases x with
  | nil => exact q _ _ h
  | cons => exact h.elim
theorem mono_cons {g : dTG} {gs : dTGs} (h1 : ∀ x ρ S k k', g x ρ S k → (∀ ρ1 S1, k ρ1 S1 → k' ρ1 S1) → g x ρ S k') (h2 : ∀ x ρ S k k', gs x ρ S k → (∀ ρ1 S1, k ρ1 S1 → k' ρ1 S1) → gs x ρ S k') :
    ∀ x ρ S k k', gsCons g gs x ρ S k → (∀ ρ1 S1, k ρ1 S1 → k' ρ1 S1) → gsCons g gs x ρ S k' := fun x ρ S k k' h q => by
  cases x with
  | nil => exact h.elim
  | cons x r => exact h1 _ _ _ _ _ h fun ρ1 S1 z => h2 _ _ _ _ _ z q
theorem mono_tp {gs : dTGs} (h2 : ∀ x ρ S k k', gs x ρ S k → (∀ ρ1 S1, k ρ1 S1 → k' ρ1 S1) → gs x ρ S k') :
    ∀ x ρ S k k', gTp gs x ρ S k → (∀ ρ1 S1, k ρ1 S1 → k' ρ1 S1) → gTp gs x ρ S k' := fun x ρ S k k' h q => by
  cases x with
  | tuple xs => exact h2 _ _ _ _ _ h q
  | _ => exact h.elim
theorem dg_tp {es : List Expr} {k : Nat} {gs : dTGs} {n : Nat} {pos : Pos} (hc : X.calm = true) (h : DGs X vs n es gs)
    (hn : (assignEach es X.env).length = n := by rfl) (hst : (assignEach es X.env).findIdx? (·.1) = none := by rfl) : DG X vs (.Tuple es k pos) (gTp gs) where
  pg := PG.imp (pg_tup hc h.pg hn hst) fun v σ H Q q => by
    obtain ⟨F, m, o, ρ, S, x, k, rel, dp, t, hk⟩ := q
    unfold gTp at t
    split at t
    · cases dp with
      | tup e r => exact ⟨_, _, rfl, SqT.of (Fz.at e).2, by rw [RpAll.length r]; exact (h.sat _ _ _ _ t).1, F, m, o, ρ, S, _, k, rel, r, t, hk⟩
    · exact t.elim
  sat := fun x ρ S k q => by
    cases x with
    | tuple xs => exact (h.sat _ _ _ _ q).2
    | _ => exact q.elim
  w := fun x ρ S k q => by
    cases x with
    | tuple xs => exact h.w _ _ _ _ q
    | _ => exact q.elim
def dAsg (te : dTE) (g : dTG) : dTS := fun E ρ S => te ρ S fun d S1 => match d with
  | .d x => g x ρ S1 E.nx
  | _ => False
theorem ds_asg {tg e : Expr} {te : dTE} {g : dTG} {pos : Pos} (hg : DG X vs tg g) (he : DE X e te) (hs : swapsWithSole [tg] e pos.line X.env = pure false := by rfl) (hw : swappedStores [tg] e X.env = pure none := by rfl)
    (h1 : (assignEach [tg] X.env).map (·.2) = [assign tg X.env] := by rfl) : DS X (.Assign [tg] e pos) (dAsg te g) := PS.imp (ps_asg he hg.pg hs hw h1) fun E σ H q => by
  obtain ⟨F, m, o, ρ, S, E', rel, t, ok⟩ := q
  refine ⟨F, m, o, ρ, S, _, rel, t, fun d S1 m1 H1 v h r g1 q => ?_⟩
  cases d with
  | d x => exact ⟨F, m1, o, ρ, S1, x, _, r, q, h, fun ρ' S' m' o' σ' H' hh r' g' _ _ => ok.nx ρ' S' m' o' σ' H' hh r' (g1.trans g')⟩
  | ref n => exact h.elim
  | loc i => exact h.elim
/-- a, b = x, y -/
def dPar (i j : Nat) (ta : dTA) : dTS := fun E ρ S => ta ρ S fun ds S1 => match ds with
  | [d, e] => nl d (nl e (E.nx ((ρ.set i (.val d)).set j (.val e)) S1))
  | _ => False
theorem ds_par {i j : Nat} {x y : Str} {a b : Expr} {ta : dTA} {px py pt : Pos} {kt k2 pt2} {pos : Pos} (hc : X.calm = true) (hN : X.N.Nodup) (hi : X.N[i]? = some x) (hj : X.N[j]? = some y) (hij : i ≠ j)
    (hx : X.env.scope.names.lookup x = some .local) (hy : X.env.scope.names.lookup y = some .local) (ha : DA X [a, b] ta)
    (hw : swappedStores [.Tuple [.Name x px, .Name y py] kt pt] (.Tuple [a, b] k2 pt2) X.env = pure (some [x, y]) := by rfl)
    (hs : swapsWithSole [.Tuple [.Name x px, .Name y py] kt pt] (.Tuple [a, b] k2 pt2) pos.line X.env = pure false := by rfl) :
    DS X (.Assign [.Tuple [.Name x px, .Name y py] kt pt] (.Tuple [a, b] k2 pt2) pos) (dPar i j ta) := PS.imp (ps_par hc hN hi hj hij hx hy ha hw hs) fun E σ H q => by
  obtain ⟨F, m, o, ρ, S, E', rel, t, ok⟩ := q
  refine ⟨F, m, o, ρ, S, _, rel, t, fun ds S1 m1 H1 vs h r g q => ?_⟩
  match ds, h with
  | [d, e], h =>
    cases q with
    | cons q1 q =>
      cases q with
      | cons q2 q =>
        cases q
        obtain ⟨n1, h⟩ := nl_of h
        obtain ⟨n2, h⟩ := nl_of h
        exact ⟨_, _, rfl, ok.nx _ S1 m1 _ _ H1 h ((r.put i q1 n1).put j (q2.ers i (isLoc_no n2)) n2) ((g.trans (Grow.ers i)).trans (Grow.ers j))⟩
/-- a, b, c = x, y, z -/
def dPar3 (i j l : Nat) (ta : dTA) : dTS := fun E ρ S => ta ρ S fun ds S1 => match ds with
  | [d, e, f] => nl d (nl e (nl f (E.nx (((ρ.set i (.val d)).set j (.val e)).set l (.val f)) S1)))
  | _ => False
theorem ds_par3 {i j l : Nat} {x y z : Str} {a b c : Expr} {ta : dTA} {px py pz pt : Pos} {kt k2 pt2} {pos : Pos} (hc : X.calm = true) (hN : X.N.Nodup) (hi : X.N[i]? = some x) (hj : X.N[j]? = some y) (hl : X.N[l]? = some z) (hij : i ≠ j) (hil : i ≠ l) (hjl : j ≠ l)
    (hx : X.env.scope.names.lookup x = some .local) (hy : X.env.scope.names.lookup y = some .local) (hz : X.env.scope.names.lookup z = some .local) (ha : DA X [a, b, c] ta)
    (hw : swappedStores [.Tuple [.Name x px, .Name y py, .Name z pz] kt pt] (.Tuple [a, b, c] k2 pt2) X.env = pure (some [x, y, z]) := by rfl)
    (hs : swapsWithSole [.Tuple [.Name x px, .Name y py, .Name z pz] kt pt] (.Tuple [a, b, c] k2 pt2) pos.line X.env = pure false := by rfl) :
    DS X (.Assign [.Tuple [.Name x px, .Name y py, .Name z pz] kt pt] (.Tuple [a, b, c] k2 pt2) pos) (dPar3 i j l ta) := PS.imp (ps_par3 hc hN hi hj hl hij hil hjl hx hy hz ha hw hs) fun E σ H q => by
  obtain ⟨F, m, o, ρ, S, E', rel, t, ok⟩ := q
  refine ⟨F, m, o, ρ, S, _, rel, t, fun ds S1 m1 H1 vs h r g q => ?_⟩
  match ds, h with
  | [d, e, f], h =>
    cases q with
    | cons q1 q =>
      cases q with
      | cons q2 q =>
        cases q with
        | cons q3 q =>
          cases q
          obtain ⟨n1, h⟩ := nl_of h
          obtain ⟨n2, h⟩ := nl_of h
          obtain ⟨n3, h⟩ := nl_of h
          exact ⟨_, _, _, rfl, ok.nx _ S1 m1 _ _ H1 h (((r.put i q1 n1).put j (q2.ers i (isLoc_no n2)) n2).put l ((q3.ers i (isLoc_no n3)).ers j (isLoc_no n3)) n3) (((g.trans (Grow.ers i)).trans (Grow.ers j)).trans (Grow.ers l))⟩
end
end L3

set_option maxHeartbeats 4000000
namespace L3
open PySem PySem.Spec L2

/-! ### x op= e -/
def dAug (i : Nat) (f : F2) (te : dTE) : dTS := fun E ρ S => match ρ[i]? with
  | some (.val (.d x)) => te ρ S fun e S1 => f x (view ρ S1 e) fun z => E.nx (ρ.set i (.val (.d z))) S1
  | _ => False
def fIAdd : F2 := fun x y k => match x, y with
  | .int i, .int j => k (.int (i + j))
  | .str a, .str b => a.length + b.length ≤ sizeLine ∧ k (.str (a ++ b))
  | _, _ => False
section
variable {X : Cx}
theorem ds_aug {i : Nat} {x : Str} {e : Expr} {te : dTE} {op : Operator} {f : F2} {pos pos' : Pos} (ho : ∃ r, PIp X op r ∧ OpD X.K r f) (hN : X.N.Nodup) (hi : X.N[i]? = some x) (hx : Loc X.env.scope x) (he : DE X e te) (hf : X.fn x = true ∨ X.env.scope.names.lookup x = some .local) :
    DS X (.AugAssign (.Name x pos') op e pos) (dAug i f te) := by
  obtain ⟨r, h1, h2⟩ := ho
  refine PS.imp (ps_aug hN hi hx he h1 hf) fun E σ H q => ?_
  obtain ⟨F, m, o, ρ, S, E', rel, t, ok⟩ := q
  unfold dAug at t
  cases e1 : ρ[i]? with
  | none => rw [e1] at t; exact t.elim
  | some s =>
    rw [e1] at t
    have hs := rel.sl i s e1
    match s, t, hs with
    | .val (.d y), t, hs =>
      obtain ⟨_, v, h3, h4⟩ := hs
      refine ⟨v, h3, F, m, o, ρ, S, _, rel, t, fun d S1 m1 H1 w h r1 g q => ?_⟩
      refine h2 (Mu F m1 o) H1 v w _ _ _ _ r1.st.alive (.d (Rp.sub g.z h4)) (r1.view q) h fun z u H' kz s dz => ?_
      have r2 := r1.sub s
      exact ok.nx _ S1 m1 _ _ H' kz (r2.put (d := .d z) i dz rfl) ((g.trans (Grow.sub r1 s)).trans (Grow.ers i))
theorem p_iadd : ∃ r, PIp X .Add r ∧ OpD X.K r fIAdd := by
  refine ⟨_, (show OpR X (inplaceOp .Add) _ from iop_add.or iop_add_str), fun M H x y dx dy k Q al rx ry h fin => ?_⟩
  unfold fIAdd at h
  split at h
  · exact .inl ⟨_, _, rx.int, ry.int, fin _ _ _ h (Sub.refl _) (.int _)⟩
  · exact .inr ⟨_, _, rx.str, ry.str, h.1, fin _ _ _ h.2 (Sub.refl _) (.str _)⟩
  · exact h.elim
theorem p_isub : ∃ r, PIp X .Sub r ∧ OpD X.K r fSub := by
  refine ⟨_, (show OpR X (inplaceOp .Sub) _ from iop_sub), fun M H x y dx dy k Q al rx ry h fin => ?_⟩
  unfold fSub at h
  split at h
  · exact ⟨_, _, rx.int, ry.int, fin _ _ _ h (Sub.refl _) (.int _)⟩
  · exact h.elim

/-! ### while -/
def dWhile (c : dTT) (b : dTS) : dTS := fun E ρ S => ∃ W : Nat → Env3 → Sto → Prop, (∃ n, W n ρ S) ∧ ∀ n ρ S, W n ρ S →
  c ρ S fun t S1 => Br t (b { E with nx := fun ρ' S' => ∃ k, k < n ∧ W k ρ' S', ct := fun ρ' S' => ∃ k, k < n ∧ W k ρ' S', bk := E.nx } ρ S1) (E.nx ρ S1)
theorem ds_while {c : Expr} {body : List Stmt} {tc : dTT} {tb : dTS} {pos : Pos} (hp : PassesOwn (model X.prog X.w) X.A X.env X.xe) (hc : DT X c tc) (hb : DSs X body tb) : DS X (.While c body [] pos) (dWhile tc tb) :=
  PS.imp (ps_while hp hc hb) fun E σ H q => by
    obtain ⟨F, m, o, ρ, S, E', rel, ⟨W, ⟨n, w0⟩, hw⟩, ok⟩ := q
    refine ⟨fun n σ1 H1 => ∃ m1 o1 ρ1 S1, Rel X.K F m1 o1 ρ1 S1 σ1 H1 ∧ Grow F m o H m1 o1 H1 ∧ W n ρ1 S1, ⟨n, m, o, ρ, S, rel, Grow.refl, w0⟩, fun n σ1 H1 hW => ?_⟩
    obtain ⟨m1, o1, ρ1, S1, r1, g1, w1⟩ := hW
    refine ⟨F, m1, o1, ρ1, S1, _, r1, hw n ρ1 S1 w1, fun t S2 m2 H2 h r2 g2 => ?_⟩
    have ok2 := ok.grow (g1.trans g2)
    cases t with
    | true =>
      refine iteT ⟨fun σ' H' => ∃ k, k < n ∧ ∃ m3 o3 ρ3 S3, Rel X.K F m3 o3 ρ3 S3 σ' H' ∧ Grow F m o H m3 o3 H' ∧ W k ρ3 S3, fun σ' H' hN => hN, ?_⟩
      refine ⟨F, m2, o1, ρ1, S2, _, r2, h.eT, ⟨fun ρ' S' m' o' σ' H' hh r' g' => ?_, ok2.nx, fun ρ' S' m' o' σ' H' hh r' g' => ?_, ok2.rt⟩⟩
      · obtain ⟨k, hk, hW⟩ := hh
        exact ⟨k, hk, m', o', ρ', S', r', (g1.trans g2).trans g', hW⟩
      · obtain ⟨k, hk, hW⟩ := hh
        exact ⟨k, hk, m', o', ρ', S', r', (g1.trans g2).trans g', hW⟩
    | false => exact iteF (ok2.nx _ _ _ _ _ _ h.eF r2 Grow.refl)

/-! ### what is walked -/
structure Src where
  xs : List D
  ok : Env3 → Sto → Prop
abbrev dTI := Env3 → Sto → (Src → Sto → Prop) → Prop
structure Goes (K : PySem.W.Frag) (F : Addr → Prop) (m o : Nat → Option Addr) (H : Hp) (J : It) (src : Src) : Prop where
  go : ∀ (i : Nat) F1 m1 o1 ρ1 S1 σ1 H1, Rel K F1 m1 o1 ρ1 S1 σ1 H1 → Sub (Fz H (Mu F m o)) (Fz H1 (Mu F1 m1 o1)) → (∀ n a, m n = some a → m1 n = some a) → src.ok ρ1 S1 → ∀ x, src.xs[i]? = some x → J.go i H1 ∧ ∀ v H2, J.yld i H1 v H2 → Sub H1 H2 ∧ Rp K (Fz H2 (Mu F1 m1 o1)) v x
  stop : ∀ (i : Nat) F1 m1 o1 ρ1 S1 σ1 H1, Rel K F1 m1 o1 ρ1 S1 σ1 H1 → Sub (Fz H (Mu F m o)) (Fz H1 (Mu F1 m1 o1)) → (∀ n a, m n = some a → m1 n = some a) → src.ok ρ1 S1 → src.xs.length = i → J.stop i H1
def liftI (K : PySem.W.Frag) (t : dTI) : TI := fun σ H R => ∃ F m o ρ S k, Rel K F m o ρ S σ H ∧ t ρ S k ∧
  ∀ src S' m' H' J, k src S' → Rel K F m' o ρ S' σ H' → Grow F m o H m' o H' → Goes K F m' o H' J src → R J H'
abbrev DI (X : Cx) (tg e : Expr) (t : dTI) : Prop := PI X tg e (liftI X.K t)
theorem PI.imp {tg e : Expr} {t t' : TI} (h : PI X tg e t) (i : ∀ σ H Q, t' σ H Q → t σ H Q) : PI X tg e t' := ⟨fun pins s σ H Q I q => h.run pins s σ H Q I (i σ H Q q)⟩
/-- a list, a tuple, a text -/
def iAny (K : PySem.W.Frag) (tl : TE) : TI := fun σ H R => tl σ H fun x H1 => (∃ a, x = .ref a ∧ (∃ xs, SqL K H1 a xs) ∧ R (Itl K a) H1) ∨ (∃ a, x = .ref a ∧ (∃ xs, SqT K H1 a xs) ∧ R (Itt K a) H1) ∨ ∃ z, x = .str z ∧ R (Its z) H1
theorem pi_any {tg l : Expr} {tl : TE} (hl : PE X l tl) : PI X tg l (iAny X.K tl) := by
  refine ⟨fun pins s σ H R I h => ?_⟩
  refine thn (hl.run pins s σ H _ I h) fun v s1 ⟨x, H1, I1, r1, q1⟩ => ?_
  rcases q1 with ⟨a, e, ⟨xs, hq⟩, q⟩ | ⟨a, e, ⟨xs, hq⟩, q⟩ | ⟨z, e, q⟩
  · subst e
    cases r1
    obtain ⟨its, rv, p, hz⟩ := I1.list hq
    refine wpAny_pyIter_list p.isList ?_
    refine ⟨s1.heap.objs.size, [s1.heap.objs.size], _, _, H1, rfl, I1.kept (t' := s1.toks) fun b o e => Heap.get?_push_of_some _ e, turn_list a _, ⟨_, Heap.get?_push_size _ rfl, rfl, rfl⟩, fun b hb => ?_, q⟩
    have e : b = s1.heap.objs.size := by simpa using hb
    subst e
    exact I1.fpOk (Nat.le_refl _) (I1.hok.fresh (Nat.le_refl _))
  · subst e
    cases r1
    obtain ⟨its, rv, p, hz⟩ := I1.tuple hq
    refine wpAny_pyIter_tuple (show s1.heap.IsTuple a its.toArray from p) ?_
    refine ⟨s1.heap.objs.size, [s1.heap.objs.size], _, _, H1, rfl, I1.kept (t' := s1.toks) fun b o e => Heap.get?_push_of_some _ e, turn_tuple a _, ⟨_, Heap.get?_push_size _ rfl, rfl, rfl⟩, fun b hb => ?_, q⟩
    have e : b = s1.heap.objs.size := by simpa using hb
    subst e
    exact I1.fpOk (Nat.le_refl _) (I1.hok.fresh (Nat.le_refl _))
  · subst e
    obtain ⟨t, rfl⟩ := r1
    cases ha : z.cps.all (· < 128)
    · exact wpAny_pyIter_wide ha (pi_one (tk := s1.toks) I1 _ (turn_str _ z t "str_iterator" (.inr rfl)) ⟨_, Heap.get?_push_size _ rfl, rfl, rfl⟩ q)
    · exact wpAny_pyIter_ascii ha (pi_one (tk := s1.toks) I1 _ (turn_str _ z t "str_ascii_iterator" (.inl rfl)) ⟨_, Heap.get?_push_size _ rfl, rfl, rfl⟩ q)
/-- the signs of a text -/
def signs (z : Str) : List D := z.cps.toList.map fun c => .str ⟨#[c]⟩
def dItV (te : dTE) : dTI := fun ρ S K => te ρ S fun d S1 => nl d (match view ρ S1 d with
  | .list xs => K ⟨xs, fun ρ' S' => view ρ' S' d = .list xs⟩ S1
  | .tuple xs => K ⟨xs, fun _ _ => True⟩ S1
  | .str z => K ⟨signs z, fun _ _ => True⟩ S1
  | _ => False)
theorem sqL_inj {K : PySem.W.Frag} {H : Hp} {a : Addr} {vs ws : List V} (h : H a = some (.lst vs)) (hk : K.lookup a = none) (h' : SqL K H a ws) : ws = vs := by
  rcases h' with (h' | ⟨o, h'⟩) | ⟨o, its, n, h', _⟩
  · rw [h] at h'; cases h'; rfl
  · rw [h] at h'; cases h'
  · rw [hk] at h'; cases h'
/-- the source stands as the same data -/
theorem src_list {K : PySem.W.Frag} {F F2 : Addr → Prop} {m o m2 o2 : Nat → Option Addr} {ρ2 : Env3} {S1 S2 : Sto} {ρ : Env3} {σ2 : L2.St} {H1 H2 : Hp} {v : V} {d : DV} {xs : List D} (q : DRep K F m o H1 v d) (nd : isLoc d = false) (hz : view ρ S1 d = .list xs)
    (r2 : Rel K F2 m2 o2 ρ2 S2 σ2 H2) (gz : Sub (Fz H1 (Mu F m o)) (Fz H2 (Mu F2 m2 o2))) (gm : ∀ n a, m n = some a → m2 n = some a) (okk : view ρ2 S2 d = .list xs) : ∃ a vs, v = .ref a ∧ SqL K H2 a vs ∧ H2 a = some (.lst vs) ∧ RpAll K (Fz H2 (Mu F2 m2 o2)) vs xs := by
  cases d with
  | d y =>
    have : y = .list xs := hz
    subst this
    exact VRep.list' (.d (Rp.sub gz q))
  | ref n =>
    have z := r2.view (v := v) (d := .ref n) (let ⟨b, e1, e2⟩ := q; ⟨b, gm n b e1, e2⟩)
    rw [okk] at z
    exact z.list'
  | loc j => cases nd
theorem di_any {tg l : Expr} {te : dTE} (hl : DE X l te) : DI X tg l (dItV te) := PI.imp (pi_any hl) fun σ H R q => by
  obtain ⟨F, m, o, ρ, S, k, rel, t, hk⟩ := q
  refine ⟨F, m, o, ρ, S, _, rel, t, fun d S1 m1 H1 v h r g q => ?_⟩
  have rv := r.view q
  obtain ⟨nd, h⟩ := nl_of h
  split at h
  · rename_i xs hz
    rw [hz] at rv
    obtain ⟨a, vs, rfl, h1, h1', h2⟩ := rv.list'
    refine .inl ⟨a, rfl, ⟨vs, h1⟩, hk _ S1 m1 H1 _ h r g ⟨fun i F2 m2 o2 ρ2 S2 σ2 H2 r2 gz gm okk x hx => ?_, fun i F2 m2 o2 ρ2 S2 σ2 H2 r2 gz gm okk hx => ?_⟩⟩
    · obtain ⟨b, ws, e, h3, h3', h4⟩ := src_list q nd hz r2 gz gm okk
      cases e
      obtain ⟨w, e1, e2⟩ := RpAll.get h4 hx
      refine ⟨⟨ws, w, h3, e1⟩, fun u H3 hy => ?_⟩
      obtain ⟨rfl, hy⟩ := hy
      have := (hy ws h3).symm.trans e1
      cases this
      exact ⟨Sub.refl _, e2⟩
    · obtain ⟨b, ws, e, h3, h3', h4⟩ := src_list q nd hz r2 gz gm okk
      cases e
      exact ⟨ws, h3, by rw [RpAll.length h4]; exact Nat.le_of_eq hx⟩
  · rename_i xs hz
    rw [hz] at rv
    cases d with
    | d y =>
      have : y = .tuple xs := hz
      subst this
      obtain ⟨a, vs, rfl, h1, h1', hn, h2⟩ := rv.tup'
      refine .inr (.inl ⟨a, rfl, ⟨vs, h1⟩, hk _ S1 m1 H1 _ h r g ⟨fun i F2 m2 o2 ρ2 S2 σ2 H2 r2 gz gm okk x hx => ?_, fun i F2 m2 o2 ρ2 S2 σ2 H2 r2 gz gm okk hx => ?_⟩⟩)
      · obtain ⟨b, ws, e, h3, h3', _, h4⟩ := VRep.tup' (.d (Rp.sub gz q) : VRep X.K H2 (Fz H2 (Mu F2 m2 o2)) (.ref a) (.tuple xs))
        cases e
        obtain ⟨w, e1, e2⟩ := RpAll.get h4 hx
        refine ⟨⟨ws, w, h3, e1⟩, fun u H3 hy => ?_⟩
        obtain ⟨rfl, hy⟩ := hy
        have := (hy ws h3).symm.trans e1
        cases this
        exact ⟨Sub.refl _, e2⟩
      · obtain ⟨b, ws, e, h3, h3', _, h4⟩ := VRep.tup' (.d (Rp.sub gz q) : VRep X.K H2 (Fz H2 (Mu F2 m2 o2)) (.ref a) (.tuple xs))
        cases e
        exact ⟨ws, h3, by rw [RpAll.length h4]; exact Nat.le_of_eq hx⟩
    | ref n =>
      have : ∀ c, cellD c ≠ .tuple xs := fun c e => by cases c <;> cases e
      exfalso
      unfold view at hz
      cases e : S1[n]? with
      | none => simp [e] at hz
      | some c => simp [e] at hz; exact this c hz
    | loc j => cases nd
  · rename_i z hz
    rw [hz] at rv
    refine .inr (.inr ⟨z, rv.str, hk _ S1 m1 H1 _ h r g ⟨fun i F2 m2 o2 ρ2 S2 σ2 H2 r2 gz gm okk x hx => ?_, fun i F2 m2 o2 ρ2 S2 σ2 H2 r2 gz gm okk hx => ?_⟩⟩)
    · have hx : (signs z)[i]? = some x := hx
      unfold signs at hx
      rw [List.getElem?_map] at hx
      cases e : z.cps.toList[i]? with
      | none => rw [e] at hx; cases hx
      | some c =>
        rw [e] at hx
        cases hx
        have hi : i < z.cps.size := by
          have := (List.getElem?_eq_some_iff.mp e).1
          rwa [Array.length_toList] at this
        refine ⟨hi, fun u H3 hy => ?_⟩
        obtain ⟨rfl, c', e1, rfl⟩ := hy
        rw [← Array.getElem?_toList, e] at e1
        cases e1
        exact ⟨Sub.refl _, .str _⟩
    · have hx : (signs z).length = i := hx
      unfold signs at hx
      rw [List.length_map, Array.length_toList] at hx
      exact Nat.le_of_eq hx
  · exact h.elim
/-- lo, lo + 1, .. : n of them -/
def rng (lo : Int) (n : Nat) : List D := (List.range n).map fun i => .int (lo + (i : Nat))
theorem rng_len (lo : Int) (n : Nat) : (rng lo n).length = n := by unfold rng; rw [List.length_map, List.length_range]
theorem rng_get {lo : Int} {n i : Nat} {x : D} (h : (rng lo n)[i]? = some x) : i < n ∧ x = .int (lo + (i : Nat)) := by
  unfold rng at h
  rw [List.getElem?_map] at h
  cases e : (List.range n)[i]? with
  | none => rw [e] at h; cases h
  | some j =>
    rw [e] at h
    cases h
    obtain ⟨h1, h2⟩ := List.getElem?_eq_some_iff.mp e
    rw [List.getElem_range] at h2
    subst h2
    exact ⟨by rwa [List.length_range] at h1, rfl⟩
theorem goes_rng {K : PySem.W.Frag} {F : Addr → Prop} {m o : Nat → Option Addr} {H : Hp} (lo : Int) (n : Nat) : Goes K F m o H (Itr lo n) ⟨rng lo n, fun _ _ => True⟩ where
  go := fun i F2 m2 o2 ρ2 S2 σ2 H2 r2 gz gm okk x hx => by
    obtain ⟨h1, rfl⟩ := rng_get hx
    exact ⟨h1, fun v H3 hy => by obtain ⟨rfl, rfl⟩ := hy; exact ⟨Sub.refl _, .int _⟩⟩
  stop := fun i F2 m2 o2 ρ2 S2 σ2 H2 r2 gz gm okk hx => by
    have hx : (rng lo n).length = i := hx
    rw [rng_len] at hx
    exact Nat.le_of_eq hx
def small62 (i : Int) : Prop := -(2 ^ 62) ≤ i ∧ i < 2 ^ 62
def dRng1 (ta : dTA) : dTI := fun ρ S K => ta ρ S fun ds S1 => match ds with
  | [.d (.int j)] => small62 j ∧ K ⟨rng 0 j.toNat, fun _ _ => True⟩ S1
  | _ => False
def dRng2 (ta : dTA) : dTI := fun ρ S K => ta ρ S fun ds S1 => match ds with
  | [.d (.int i), .d (.int j)] => small62 i ∧ small62 j ∧ K ⟨rng i (j - i).toNat, fun _ _ => True⟩ S1
  | _ => False
theorem di_rng1 {tg a : Expr} {ta : dTA} {p pos : Pos} (hm : X.mg "range" = none) (hg : Gl X "range") (ha : DA X [a] ta) (hs : starEach [a] X.env = [(false, eval a X.env)] := by rfl) : DI X tg (.Call (.Name "range" p) [a] [] pos) (dRng1 ta) :=
  PI.imp (pi_range1 hg hm ha hs) fun σ H R q => by
    obtain ⟨F, m, o, ρ, S, k, rel, t, hk⟩ := q
    refine ⟨F, m, o, ρ, S, _, rel, t, fun ds S1 m1 H1 vs h r g q => ?_⟩
    split at h
    · cases q with
      | cons q1 q =>
        cases q
        exact ⟨_, by rw [dp_int q1], h.1.1, h.1.2, hk _ S1 m1 H1 _ h.2 r g (goes_rng 0 _)⟩
    · exact h.elim
theorem di_rng2 {tg a b : Expr} {ta : dTA} {p pos : Pos} (hm : X.mg "range" = none) (hg : Gl X "range") (ha : DA X [a, b] ta) (hs : starEach [a, b] X.env = [(false, eval a X.env), (false, eval b X.env)] := by rfl) (hs2 : starEach [b] X.env = [(false, eval b X.env)] := by rfl) : DI X tg (.Call (.Name "range" p) [a, b] [] pos) (dRng2 ta) :=
  PI.imp (pi_range2 hg hm ha hs hs2) fun σ H R q => by
    obtain ⟨F, m, o, ρ, S, k, rel, t, hk⟩ := q
    refine ⟨F, m, o, ρ, S, _, rel, t, fun ds S1 m1 H1 vs h r g q => ?_⟩
    split at h
    · cases q with
      | cons q1 q =>
        cases q with
        | cons q2 q =>
          cases q
          exact ⟨_, _, by rw [dp_int q1, dp_int q2], ⟨h.1.1, h.1.2, h.2.1.1, h.2.1.2⟩, hk _ S1 m1 H1 _ h.2.2 r g (goes_rng _ _)⟩
    · exact h.elim

/-! ### for -/
def dLoop (ok : Env3 → Sto → Prop) (g : dTG) (b : dTS) (E : dEnds) : List D → Env3 → Sto → Prop
  | [], ρ, S => ok ρ S ∧ E.nx ρ S
  | x :: xs, ρ, S => ok ρ S ∧ g x ρ S fun ρ1 S1 => b { E with nx := dLoop ok g b E xs, ct := dLoop ok g b E xs, bk := E.nx } ρ1 S1
/-- a for not yet unrolled -/
@[irreducible] def dLp (ok : Env3 → Sto → Prop) (g : dTG) (b : dTS) (E : dEnds) (xs : List D) (ρ : Env3) (S : Sto) : Prop := dLoop ok g b E xs ρ S
theorem dLp_of {ok : Env3 → Sto → Prop} {g : dTG} {b : dTS} {E : dEnds} {xs : List D} {ρ : Env3} {S : Sto} (h : dLoop ok g b E xs ρ S) : dLp ok g b E xs ρ S := by
  unfold dLp
  exact h
theorem dLp_to {ok : Env3 → Sto → Prop} {g : dTG} {b : dTS} {E : dEnds} {xs : List D} {ρ : Env3} {S : Sto} (h : dLp ok g b E xs ρ S) : dLoop ok g b E xs ρ S := by
  unfold dLp at h
  exact h
def dFor (it : dTI) (g : dTG) (b : dTS) : dTS := fun E ρ S => it ρ S fun src S1 => dLp src.ok g b E src.xs ρ S1
theorem ds_for {tg iter : Expr} {body : List Stmt} {it : dTI} {g : dTG} {tb : dTS} {vs : List Nat} {pos : Pos} (hp : PassesOwn (model X.prog X.w) X.A X.env X.xe) (hc : X.calm = true) (hg : DG X vs tg g) (hi : DI X tg iter it) (hb : DSs X body tb)
    (hs : ∀ x, foldedSetIterable iter X.env x = pure x := by intro _; rfl) : DS X (.For tg iter body [] pos) (dFor it g tb) :=
  PS.imp (ps_for hp hc hi hg.pg hb hs) fun E σ H q => by
    obtain ⟨F, m, o, ρ, S, E', rel, t, ok⟩ := q
    refine ⟨F, m, o, ρ, S, _, rel, t, fun src S1 m1 H1 J h r g1 go => ?_⟩
    refine ⟨fun i n σ2 H2 => n + i = src.xs.length ∧ ∃ m2 o2 ρ2 S2, Rel X.K F m2 o2 ρ2 S2 σ2 H2 ∧ Grow F m1 o H1 m2 o2 H2 ∧ dLoop src.ok g tb E' (src.xs.drop i) ρ2 S2, ⟨_, Nat.add_zero _, m1, o, ρ, S1, r, Grow.refl, dLp_to h⟩, fun i n σ2 H2 hW => ?_⟩
    obtain ⟨hn, m2, o2, ρ2, S2, r2, g2, h2⟩ := hW
    by_cases hi : i < src.xs.length
    · rw [List.drop_eq_getElem_cons hi] at h2
      obtain ⟨okk, h3⟩ := h2
      obtain ⟨j1, j2⟩ := go.go i F m2 o2 ρ2 S2 σ2 H2 r2 g2.z g2.m okk _ (List.getElem?_eq_getElem hi)
      refine .inr ⟨j1, fun σ' H' => ∃ m3 o3 ρ3 S3, Rel X.K F m3 o3 ρ3 S3 σ' H' ∧ Grow F m1 o H1 m3 o3 H' ∧ dLoop src.ok g tb E' (src.xs.drop (i + 1)) ρ3 S3, fun σ' H' hN => ⟨n - 1, by omega, by omega, hN⟩, fun x H3 hy => ?_⟩
      obtain ⟨s3, dp⟩ := j2 x H3 hy
      refine ⟨F, m2, o2, ρ2, S2, _, _, r2.sub s3, dp, h3, fun ρ4 S4 m4 o4 σ4 H4 h4 r4 g4 _ _ => ?_⟩
      have gg := (g2.trans (Grow.sub r2 s3)).trans g4
      have ok4 := (ok.grow g1).grow gg
      exact ⟨F, m4, o4, ρ4, S4, _, r4, h4, ⟨fun ρ' S' m' o' σ' H' hh r' g' => ⟨m', o', ρ', S', r', gg.trans g', hh⟩, ok4.nx, fun ρ' S' m' o' σ' H' hh r' g' => ⟨m', o', ρ', S', r', gg.trans g', hh⟩, ok4.rt⟩⟩
    · rw [List.drop_eq_nil_of_le (by omega)] at h2
      obtain ⟨okk, h3⟩ := h2
      exact .inl ⟨go.stop i F m2 o2 ρ2 S2 σ2 H2 r2 g2.z g2.m okk (by omega), (ok.grow g1).nx ρ2 S2 m2 o2 σ2 H2 h3 r2 g2⟩
end
end L3

set_option maxHeartbeats 4000000
namespace L3
open PySem PySem.Spec L2

/-! ### defs and their calls -/
abbrev dFn := List DV → Sto → DK → Prop
def o0 : Nat → Option Addr := fun _ => none
def noLocs : List DV → Bool
  | [] => true
  | .loc _ :: _ => false
  | _ :: r => noLocs r
/-- n values that may be kept -/
def nls : Nat → List DV → Prop → Prop
  | 0, [], k => k
  | n + 1, .d _ :: r, k => nls n r k
  | n + 1, .ref _ :: r, k => nls n r k
  | _, _, _ => False
theorem nls_of : ∀ {n : Nat} {ds : List DV} {k : Prop}, nls n ds k → ds.length = n ∧ noLocs ds = true ∧ k
  | 0, [], _, h => ⟨rfl, rfl, h⟩
  | 0, _ :: _, _, h => by simp [nls] at h
  | n + 1, [], _, h => by simp [nls] at h
  | n + 1, .d _ :: r, _, h => by
    obtain ⟨h1, h2, h3⟩ := nls_of (n := n) (ds := r) (by simpa [nls] using h)
    exact ⟨by rw [List.length_cons, h1], h2, h3⟩
  | n + 1, .ref _ :: r, _, h => by
    obtain ⟨h1, h2, h3⟩ := nls_of (n := n) (ds := r) (by simpa [nls] using h)
    exact ⟨by rw [List.length_cons, h1], h2, h3⟩
  | n + 1, .loc _ :: _, _, h => by simp [nls] at h
/-- the promise of a def, by data -/
def spD (K : PySem.W.Frag) (n : Nat) (tf : dFn) : Sp := fun vs H Q _ => vs.length = n ∧ ∃ F m S ds k, Stor K F m o0 S H ∧ DReps K F m o0 H vs ds ∧ noLocs ds = true ∧ tf ds S k ∧
  ∀ d S' m' H' v, k d S' → isLoc d = false → Stor K F m' o0 S' H' → Grow F m o0 H m' o0 H' → DRep K F m' o0 H' v d → Q v H'
/-- a body as a def -/
def fnT (n : Nat) (t : dTS) : dFn := fun ds S Q => t { nx := fun _ S' => Q (.d .none) S', rt := fun d S' => nl d (Q d S') } (ds.map .val ++ List.replicate (n - ds.length) .no) S
theorem DReps.length {K : PySem.W.Frag} {F : Addr → Prop} {m o : Nat → Option Addr} {H : Hp} {vs : List V} {ds : List DV} (h : DReps K F m o H vs ds) : vs.length = ds.length := Paired.length h
theorem DReps.get {K : PySem.W.Frag} {F : Addr → Prop} {m o : Nat → Option Addr} {H : Hp} : ∀ {vs : List V} {ds : List DV} {i : Nat} {d : DV}, DReps K F m o H vs ds → ds[i]? = some d → ∃ v, vs[i]? = some v ∧ DRep K F m o H v d
  | _, _, _, _, .nil, e => by simp at e
  | _, _, 0, _, .cons h _, e => by simp at e; subst e; exact ⟨_, rfl, h⟩
  | _, _, i + 1, d, .cons _ r, e => by
    obtain ⟨v, h1, h2⟩ := DReps.get (i := i) (d := d) r (by simpa using e)
    exact ⟨v, by simpa using h1, h2⟩
theorem noLocs_get : ∀ {ds : List DV} {i : Nat} {d : DV}, noLocs ds = true → ds[i]? = some d → isLoc d = false
  | [], _, _, _, e => by simp at e
  | .d x :: r, 0, _, h, e => by simp at e; subst e; rfl
  | .ref x :: r, 0, _, h, e => by simp at e; subst e; rfl
  | .loc x :: r, _, _, h, e => by cases h
  | .d x :: r, i + 1, d, h, e => noLocs_get (ds := r) h (by simpa using e)
  | .ref x :: r, i + 1, d, h, e => noLocs_get (ds := r) h (by simpa using e)
/-- the state at a def's entry -/
theorem rel_start {K : PySem.W.Frag} {F : Addr → Prop} {m : Nat → Option Addr} {S : Sto} {H : Hp} {N : List Str} {vs : List V} {ds : List DV} (st : Stor K F m o0 S H) (r : DReps K F m o0 H vs ds) (n : noLocs ds = true) (hl : vs.length ≤ N.length) :
    Rel K F m o0 (ds.map .val ++ List.replicate (N.length - ds.length) .no) S (L2.start N vs) H := by
  have e := r.length
  refine ⟨st, ?_, fun i s h => ?_, fun i h => rfl⟩
  · unfold L2.start
    rw [List.length_append, List.length_append, List.length_map, List.length_map, List.length_replicate, List.length_replicate, e]
  · by_cases hi : i < ds.length
    · rw [List.getElem?_append_left (by rw [List.length_map]; exact hi), List.getElem?_map] at h
      rw [List.getElem?_eq_getElem hi] at h
      cases h
      have hd := List.getElem?_eq_getElem hi
      obtain ⟨v, h1, h2⟩ := r.get hd
      have h3 : (L2.start N vs)[i]? = some (some v) := by
        unfold L2.start
        rw [List.getElem?_append_left (by rw [List.length_map]; omega), List.getElem?_map, h1]
        rfl
      have nd := noLocs_get n hd
      cases q : ds[i] with
      | d x => rw [q] at h2; exact ⟨rfl, v, h3, h2⟩
      | ref k => rw [q] at h2; obtain ⟨a, h4, rfl⟩ := h2; exact ⟨rfl, a, h3, h4⟩
      | loc j => rw [q] at nd; cases nd
    · rw [List.getElem?_append_right (by rw [List.length_map]; omega)] at h
      have := List.getElem?_eq_some_iff.mp h
      obtain ⟨h1, h2⟩ := this
      rw [List.getElem_replicate] at h2
      subst h2
      rfl
/-- one's own things are let go -/
theorem mu_o0 {F : Addr → Prop} {m o : Nat → Option Addr} {a : Addr} (h : Mu F m o0 a) : Mu F m o a := by
  rcases h with h | h | ⟨i, h⟩
  · exact .inl h
  · exact .inr (.inl h)
  · cases h
theorem fz_o0 {F : Addr → Prop} {m o : Nat → Option Addr} {H : Hp} : Sub (Fz H (Mu F m o)) (Fz H (Mu F m o0)) := fun a u h => Fz.of (fun z => (Fz.at h).1 (mu_o0 z)) (Fz.at h).2
theorem Stor.o0 {K : PySem.W.Frag} {F : Addr → Prop} {m o : Nat → Option Addr} {S : Sto} {H : Hp} (r : Stor K F m o S H) : Stor K F m L3.o0 S H :=
  ⟨r.there, fun n a e => let ⟨c, h1, h2⟩ := r.is n a e; ⟨c, h1, h2.sub rfl fz_o0⟩, r.inj, fun n i a h z => (by cases z), r.injF, fun i j a z => (by cases z), fun i a z => (by cases z), fun a h => r.alive a (mu_o0 h)⟩
theorem fn_d {P : Program} {w : World} {K : PySem.W.Frag} {mg : Str → Option Value} {base : Heap} {x qual : Str} {st : Stmt} {f : Addr} {fd : FuncData} {N ps : List Str} {k : Nat} {t : dTS} (F : Fun K x qual st f fd) (Sc : FnScope N ps (defScope st)) (hl : ps.length ≤ N.length)
    (hb : ∀ (cdv : Value) (A : Around) (outer : List Env) (s : Shared) (H : Hp) (E : XK), Room k (A.deeper (PyProof.Rows.envOfC qual (defScope st) s.heap.objs.size f cdv)) →
      DSs (cxOf CX0 P w K mg base N qual (defScope st) f cdv A outer s H E).nox (defBody st) t) : FnOk P w K mg base CX0 (k + 1) f fd ps (spD K ps.length (fnT N.length t)) := by
  refine F.ok Sc (fun vs H Q E h => h.1) fun cdv A outer s H vs Q E hr h => ?_
  obtain ⟨hv, Fo, m, S, ds, kk, stor, reps, nlo, ht, hk⟩ := h
  refine ⟨_, hb cdv A outer s H E hr, ?_⟩
  refine ⟨Fo, m, o0, _, S, _, rel_start stor reps nlo (by omega), ht, ⟨fun ρ S' m' o' σ' H' h r g => ?_, fun _ _ _ _ _ _ h => h.elim, fun _ _ _ _ _ _ h => h.elim, fun d ρ S' m' o' σ' H' v h r g q => ?_⟩⟩
  · exact hk _ S' m' H' .non h rfl r.st.o0 ⟨g.f, g.z.trans fz_o0, g.m⟩ .non
  · obtain ⟨n, h⟩ := nl_of h
    refine hk d S' m' H' v h n r.st.o0 ⟨g.f, g.z.trans fz_o0, g.m⟩ ?_
    cases d with
    | d x => exact Rp.sub fz_o0 q
    | ref j => exact q
    | loc j => cases n
/-- a def that is never called -/
theorem fn_no {P : Program} {w : World} {K : PySem.W.Frag} {mg : Str → Option Value} {base : Heap} {f : Addr} {fd : FuncData} {ps : List Str} {k : Nat} : FnOk P w K mg base CX0 k f fd ps (spD K ps.length fun _ _ _ => False) :=
  ⟨fun _ _ _ _ h => h.1, fun A outer s H args us vs Q E hr e0 hb r h => by
    obtain ⟨_, _, _, _, _, _, _, _, _, h, _⟩ := h
    exact h.elim⟩
def dCall (n : Nat) (tf : dFn) (ta : dTA) : dTE := fun ρ S Q => ta ρ S fun ds S1 => nls n ds (tf ds S1 Q)
section
variable {X : Cx}
theorem lift_call {K : PySem.W.Frag} {n : Nat} {tf : dFn} {ta : dTA} {dvs : List V} (hd0 : dvs = []) {E : XK} {σ : L2.St} {H : Hp} {Q : VK} (q : lift K (dCall n tf ta) σ H Q) : tCall (spD K n tf) dvs E (liftA K ta) σ H Q := by
  subst hd0
  obtain ⟨F, m, o, ρ, S, k, rel, t, hk⟩ := q
  refine ⟨F, m, o, ρ, S, _, rel, t, fun ds S1 m1 H1 vs h r g q => ?_⟩
  obtain ⟨hl, nlo, h⟩ := nls_of h
  rw [List.append_nil]
  have eqM : ∀ (m' : Nat → Option Addr) a, Mu (fun a => F a ∨ ∃ i, o i = some a) m' o0 a ↔ Mu F m' o a := fun m' a => by
    constructor
    · rintro ((h | h) | h | ⟨i, h⟩)
      · exact .inl h
      · exact .inr (.inr h)
      · exact .inr (.inl h)
      · cases h
    · rintro (h | h | h)
      · exact .inl (.inl h)
      · exact .inr (.inl h)
      · exact .inl (.inr h)
  have eqS : ∀ (m' : Nat → Option Addr) (H' : Hp), Sub (Fz H' (Mu F m' o)) (Fz H' (Mu (fun a => F a ∨ ∃ i, o i = some a) m' o0)) := fun m' H' a u e => Fz.of (fun z => (Fz.at e).1 ((eqM m' a).mp z)) (Fz.at e).2
  have eqS' : ∀ (m' : Nat → Option Addr) (H' : Hp), Sub (Fz H' (Mu (fun a => F a ∨ ∃ i, o i = some a) m' o0)) (Fz H' (Mu F m' o)) := fun m' H' a u e => Fz.of (fun z => (Fz.at e).1 ((eqM m' a).mpr z)) (Fz.at e).2
  refine ⟨by rw [q.length]; exact hl, fun a => F a ∨ ∃ i, o i = some a, m1, S1, ds, k, ?_, ?_, nlo, h, fun d S2 m2 H2 v hkk nd st2 g2 q2 => ?_⟩
  · exact ⟨r.st.there, fun n a e => let ⟨c, h1, h2⟩ := r.st.is n a e; ⟨c, h1, h2.sub rfl (eqS _ _)⟩, r.st.inj, fun n i a h z => (by cases z), fun n a h z => z.elim (r.st.injF n a h) fun ⟨i, z⟩ => r.st.injO n i a h z, fun i j a z => (by cases z), fun i a z => (by cases z), fun a h => r.st.alive a ((eqM _ a).mp h)⟩
  · have go : ∀ {vs : List V} {ds : List DV}, DReps K F m1 o H1 vs ds → noLocs ds = true → DReps K (fun a => F a ∨ ∃ i, o i = some a) m1 o0 H1 vs ds := by
      intro vs ds q
      induction ds generalizing vs with
      | nil => intro _; cases q; exact .nil
      | cons d ds ih =>
        intro z
        cases q with
        | cons q1 q =>
          cases d with
          | d x => exact .cons (Rp.sub (eqS _ _) q1) (ih q z)
          | ref n => exact .cons q1 (ih q z)
          | loc i => cases z
    exact go q nlo
  · have oldO : ∀ i a, o i = some a → H2 a = H1 a := fun i a e => g2.f a (.inr ⟨i, e⟩)
    have gz : Sub (Fz H1 (Mu F m1 o)) (Fz H2 (Mu F m2 o)) := (eqS _ _).trans (g2.z.trans (eqS' _ _))
    have st3 : Stor K F m2 o S2 H2 := ⟨st2.there, fun n a e => let ⟨c, h1, h2⟩ := st2.is n a e; ⟨c, h1, h2.sub rfl (eqS' _ _)⟩, st2.inj, fun n i a h z => st2.injF n a h (.inr ⟨i, z⟩), fun n a h z => st2.injF n a h (.inl z), r.st.oo, r.st.oF, fun a h => st2.alive a ((eqM _ a).mpr h)⟩
    refine hk d S2 m2 H2 v hkk ⟨st3, r.len, fun i s e => ?_, r.far⟩ (g.trans ⟨fun a z => g2.f a (.inl z), gz, g2.m⟩) ?_
    · have hs := r.sl i s e
      cases s with
      | no => exact hs
      | val w =>
        cases w with
        | d x => obtain ⟨h0, v, h1, h2⟩ := hs; exact ⟨h0, v, h1, Rp.sub gz h2⟩
        | ref j => obtain ⟨h0, a, h1, h2⟩ := hs; exact ⟨h0, a, h1, g2.m j a h2⟩
        | loc j => exact hs
      | own c => obtain ⟨a, h0, h1, h2⟩ := hs; exact ⟨a, h0, h1, h2.sub (oldO i a h0) gz⟩
    · cases d with
      | d x => exact Rp.sub (eqS' _ _) q2
      | ref j => exact q2
      | loc j => cases nd
theorem de_call {n : Nat} {tf : dFn} {tas : dTA} {k : Nat} {f : Addr} {fd : FuncData} {ps : List Str} {x : Str} {p pos : Pos} {e : Expr} {es : List Expr} (F : FnOk X.prog X.w X.K X.mg X.base CX0 k f fd ps (spD X.K n tf)) (hr : Room k X.A) (hm : X.mg x = some (.ref f)) (hk : PySem.W.keepIn X.K (.ref f) = true) (hb : Binds X.K fd ps []) (hg : Gl X x) (ha : DA X (e :: es) tas)
    (hdb : (x == ("__debug__" : Str)) = false := by decide) (he : starEach (e :: es) X.env = (false, eval e X.env) :: starEach es X.env := by rfl) (hpl : (backTo pos (starEach es X.env)).any (·.1) = false := by rfl) :
    DE X (.Call (.Name x p) (e :: es) [] pos) (dCall n tf tas) := PE.imp (pe_call F hr hg hm hk hb .nil (pass0 (X := X)) ha hdb he hpl) fun _ _ _ => lift_call rfl
theorem de_call0 {tf : dFn} {k : Nat} {f : Addr} {fd : FuncData} {ps : List Str} {x : Str} {p pos : Pos} (F : FnOk X.prog X.w X.K X.mg X.base CX0 k f fd ps (spD X.K 0 tf)) (hr : Room k X.A) (hm : X.mg x = some (.ref f)) (hk : PySem.W.keepIn X.K (.ref f) = true) (hb : Binds X.K fd ps []) (hg : Gl X x)
    (hdb : (x == ("__debug__" : Str)) = false := by decide) : DE X (.Call (.Name x p) [] [] pos) (dCall 0 tf dNil) :=
  PE.imp (pe_call0 F hr hg hm hk hb .nil (pass0 (X := X)) hdb) fun σ H Q q => by
    have h := lift_call (dvs := []) (E := E0) rfl q
    obtain ⟨F, m, o, ρ, S, k, rel, t, hk⟩ := h
    exact hk [] S m H [] t rel Grow.refl .nil
end
end L3

set_option maxHeartbeats 4000000
namespace L3
open PySem PySem.Spec L2

/-! ### list comprehensions -/
abbrev DTs (X : Cx) (ifs : List Expr) (t : dTT) : Prop := PTs X ifs (liftT X.K t)
def dYes : dTT := fun _ S Q => Q true S
def cLoop (ok : Env3 → Sto → Prop) (g : dTG) (tt : dTT) (te : dTE) (ρ : Env3) (Q : List D → Sto → Prop) : List D → List D → Sto → Prop
  | [], acc, S => ok ρ S ∧ Q acc S
  | x :: xs, acc, S => ok ρ S ∧ g x ρ S fun ρ1 S1 => tt ρ1 S1 fun b S2 => Br b (te ρ1 S2 fun d S3 => withDs [d] fun ys => acc.length < sizeLine ∧ cLoop ok g tt te ρ Q xs (acc ++ ys) S3) (cLoop ok g tt te ρ Q xs acc S2)
/-- none of these slots owns a thing -/
def noOwn (ρ : Env3) : List Nat → Bool
  | [] => true
  | v :: vs => match ρ[v]? with
    | some (.own _) => false
    | _ => noOwn ρ vs
def dComp (it : dTI) (g : dTG) (tt : dTT) (te : dTE) (vs : List Nat) : dTF := fun ρ S Q => noOwn ρ vs = true ∧ it ρ S fun src S1 => cLoop src.ok g tt te (wipeD ρ vs) Q src.xs [] S1
section
variable {X : Cx} {K : PySem.W.Frag} {F : Addr → Prop} {m o : Nat → Option Addr} {ρ : Env3} {S : Sto} {σ : L2.St} {H : Hp}
theorem PTs.imp {ifs : List Expr} {t t' : TT} (h : PTs X ifs t) (i : ∀ σ H Q, t' σ H Q → t σ H Q) : PTs X ifs t' := ⟨fun pins s σ H Q I q => h.run pins s σ H Q I (i σ H Q q)⟩
theorem dts_nil : DTs X [] dYes := PTs.imp pts_nil fun σ H Q q => by
  obtain ⟨F, m, o, ρ, S, k, rel, t, hk⟩ := q
  exact hk true S m H t rel Grow.refl
theorem dts_one {c : Expr} {t : dTT} (h : DT X c t) : DTs X [c] t := pts_one h
/-- a slot is forgotten -/
theorem Rel.clear (r : Rel K F m o ρ S σ H) (i : Nat) (h : ∀ c, ρ[i]? ≠ some (.own c)) (x : Option V) : Rel K F m o (ρ.set i .no) S (σ.set i x) H := by
  refine ⟨r.st, by rw [List.length_set, List.length_set, r.len], fun j s e => ?_, fun j z => r.far j (by rwa [List.length_set] at z)⟩
  by_cases hj : i = j
  · subst hj
    have hlt : i < ρ.length := by
      have := (List.getElem?_eq_some_iff.mp e).1
      rwa [List.length_set] at this
    rw [List.getElem?_set_self hlt] at e
    cases e
    have hs := r.sl i _ (List.getElem?_eq_getElem hlt)
    cases q : ρ[i] with
    | no => rw [q] at hs; exact hs
    | val w =>
      rw [q] at hs
      cases w with
      | d x => exact hs.1
      | ref n => exact hs.1
      | loc j => exact hs.elim
    | own c => exact absurd (by rw [List.getElem?_eq_getElem hlt, q]) (h c)
  · rw [List.getElem?_set_ne hj] at e
    rw [List.getElem?_set_ne hj]
    exact r.sl j s e
theorem wipeD_get {ρ : Env3} {i : Nat} : ∀ {vs : List Nat} {s : Slot}, (wipeD ρ vs)[i]? = some s → s = .no ∨ (i ∉ vs ∧ ρ[i]? = some s)
  | [], s, h => .inr ⟨by simp, h⟩
  | v :: vs, s, h => by
    unfold wipeD at h
    by_cases hj : v = i
    · subst hj
      have hlt : v < (wipeD ρ vs).length := by
        have := (List.getElem?_eq_some_iff.mp h).1
        rwa [List.length_set] at this
      rw [List.getElem?_set_self hlt] at h
      cases h
      exact .inl rfl
    · rw [List.getElem?_set_ne hj] at h
      rcases wipeD_get h with h | ⟨h1, h2⟩
      · exact .inl h
      · exact .inr ⟨fun z => (List.mem_cons.mp z).elim (fun e => hj e.symm) h1, h2⟩
theorem wipe_get {σ : L2.St} {i : Nat} : ∀ {vs : List Nat}, i ∉ vs → (wipe σ vs)[i]? = σ[i]?
  | [], _ => rfl
  | v :: vs, h => by
    unfold wipe
    rw [List.getElem?_set_ne (fun e => h (by rw [e]; exact List.mem_cons_self)), wipe_get fun z => h (List.mem_cons_of_mem _ z)]
theorem noOwn_mem : ∀ {vs : List Nat}, noOwn ρ vs = true → ∀ v ∈ vs, ∀ c, ρ[v]? ≠ some (.own c)
  | w :: vs, h, v, hv, c, e => by
    unfold noOwn at h
    split at h
    · cases h
    · rename_i z
      rcases List.mem_cons.mp hv with hv | hv
      · subst hv; exact z c e
      · exact noOwn_mem h v hv c e
theorem Rel.wipe (r : Rel K F m o ρ S σ H) : ∀ (vs : List Nat), noOwn ρ vs = true → Rel K F m o (wipeD ρ vs) S (L2.wipe σ vs) H
  | [], _ => r
  | v :: vs, h => by
    have h' : noOwn ρ vs = true := by
      unfold noOwn at h
      split at h
      · cases h
      · exact h
    have := r.wipe vs h'
    refine Rel.clear this v (fun c e => ?_) none
    rcases wipeD_get e with e | ⟨_, e⟩
    · cases e
    · exact noOwn_mem h v List.mem_cons_self c e
/-- behind a comprehension: the frame's names as they were -/
theorem Rel.back {m' : Nat → Option Addr} {S' : Sto} {H' : Hp} {vs : List Nat} (r : Rel K F m o ρ S σ H) (h : noOwn ρ vs = true) (r' : Rel K F m' o (wipeD ρ vs) S' (L2.wipe σ vs) H') (g : Grow F m o H m' o H') : Rel K F m' o ρ S' σ H' := by
  refine ⟨r'.st, r.len, fun i s e => ?_, r.far⟩
  by_cases hi : i ∈ vs
  · have hs := r.sl i s e
    cases s with
    | no => exact hs
    | val w =>
      cases w with
      | d x => obtain ⟨h0, v, h1, h2⟩ := hs; exact ⟨h0, v, h1, Rp.sub g.z h2⟩
      | ref n => obtain ⟨h0, a, h1, h2⟩ := hs; exact ⟨h0, a, h1, g.m n a h2⟩
      | loc j => exact hs
    | own c => exact absurd e (noOwn_mem h i hi c)
  · have hw : (wipeD ρ vs)[i]? = some s := by
      have go : ∀ {ws : List Nat}, i ∉ ws → (wipeD ρ ws)[i]? = ρ[i]? := by
        intro ws hw
        induction ws with
        | nil => rfl
        | cons w ws ih =>
          unfold wipeD
          rw [List.getElem?_set_ne (fun z => hw (by rw [z]; exact List.mem_cons_self)), ih fun z => hw (List.mem_cons_of_mem _ z)]
      rw [go hi]
      exact e
    have hs := r'.sl i s hw
    rw [wipe_get hi] at hs
    exact hs
/-- the state without what stands at p, which is nobody's -/
noncomputable def without (H : Hp) (p : Addr) : Hp := fun a => if a = p then none else H a
theorem without_upd {H : Hp} {p : Addr} {u : HO} (h : H p = some u) : upd (without H p) p u = H := by
  funext a
  unfold upd without
  split
  · rename_i e; rw [e, h]
  · rfl
/-- a list that is being made at p, by a guard: p belongs to nobody -/
theorem Rel.guard (r : Rel K F m o ρ S σ H) {p : Addr} {u : HO} (h : H p = none) : Rel K (fun a => F a ∨ a = p) m o ρ S σ (upd H p u) ∧ Sub (Fz H (Mu F m o)) (Fz (upd H p u) (Mu (fun a => F a ∨ a = p) m o)) := by
  have np : ¬ Mu F m o p := fun z => r.st.alive p z h
  have gz : Sub (Fz H (Mu F m o)) (Fz (upd H p u) (Mu (fun a => F a ∨ a = p) m o)) := fun a w e => by
    obtain ⟨e1, e2⟩ := Fz.at e
    have hne : a ≠ p := ne_of_none e2 h
    refine Fz.of (fun z => ?_) (by rw [upd_ne hne]; exact e2)
    rcases z with (z | z) | z
    · exact e1 (.inl z)
    · exact hne z
    · exact e1 (.inr z)
  have keep : ∀ a, Mu F m o a → (upd H p u) a = H a := fun a z => upd_ne fun e => np (by rw [← e]; exact z)
  refine ⟨⟨⟨r.st.there, fun n a e => ?_, r.st.inj, r.st.injO, fun n a e z => ?_, r.st.oo, fun i a e z => ?_, fun a z => ?_⟩, r.len, fun i s e => ?_, r.far⟩, gz⟩
  · obtain ⟨c, h1, h2⟩ := r.st.is n a e
    exact ⟨c, h1, h2.sub (keep a (.inr (.inl ⟨n, e⟩))) gz⟩
  · rcases z with z | z
    · exact r.st.injF n a e z
    · subst z; exact np (.inr (.inl ⟨n, e⟩))
  · rcases z with z | z
    · exact r.st.oF i a e z
    · subst z; exact np (.inr (.inr ⟨i, e⟩))
  · rcases z with (z | z) | z
    · rw [keep a (.inl z)]; exact r.st.alive a (.inl z)
    · subst z; rw [upd_same]; exact Option.some_ne_none u
    · rw [keep a (.inr z)]; exact r.st.alive a (.inr z)
  · exact (r.sl i s e).sub (fun a z => keep a (.inr (.inr ⟨i, z⟩))) gz
/-- at the end the guard falls -/
theorem Rel.unguard {p : Addr} (r : Rel K (fun a => F a ∨ a = p) m o ρ S σ H) (np : ¬ Mu F m o p) : Rel K F m o ρ S σ (without H p) ∧ Sub (Fz H (Mu (fun a => F a ∨ a = p) m o)) (Fz (without H p) (Mu F m o)) := by
  have gz : Sub (Fz H (Mu (fun a => F a ∨ a = p) m o)) (Fz (without H p) (Mu F m o)) := fun a w e => by
    obtain ⟨e1, e2⟩ := Fz.at e
    refine Fz.of (fun z => e1 ?_) ?_
    · rcases z with z | z
      · exact .inl (.inl z)
      · exact .inr z
    · unfold without
      rw [if_neg fun e => e1 (.inl (.inr e))]
      exact e2
  have keep : ∀ a, Mu F m o a → (without H p) a = H a := fun a z => by
    unfold without
    rw [if_neg fun e => np (by rw [← e]; exact z)]
  have up : ∀ a, Mu F m o a → Mu (fun a => F a ∨ a = p) m o a := fun a z => z.elim (fun z => .inl (.inl z)) .inr
  refine ⟨⟨⟨r.st.there, fun n a e => ?_, r.st.inj, r.st.injO, fun n a e z => r.st.injF n a e (.inl z), r.st.oo, fun i a e z => r.st.oF i a e (.inl z), fun a z => ?_⟩, r.len, fun i s e => ?_, r.far⟩, gz⟩
  · obtain ⟨c, h1, h2⟩ := r.st.is n a e
    exact ⟨c, h1, h2.sub (keep a (.inr (.inl ⟨n, e⟩))) gz⟩
  · rw [keep a z]; exact r.st.alive a (up a z)
  · exact (r.sl i s e).sub (fun a z => keep a (.inr (.inr ⟨i, z⟩))) gz
theorem Rel.write (r : Rel K F m o ρ S σ H) {p : Addr} {u : HO} (hp : F p) : Rel K F m o ρ S σ (upd H p u) ∧ Sub (Fz H (Mu F m o)) (Fz (upd H p u) (Mu F m o)) := by
  have gz : Sub (Fz H (Mu F m o)) (Fz (upd H p u) (Mu F m o)) := fun a w e => by
    obtain ⟨e1, e2⟩ := Fz.at e
    exact Fz.of e1 (by rw [upd_ne fun z => e1 (by rw [z]; exact .inl hp)]; exact e2)
  refine ⟨⟨⟨r.st.there, fun n a e => ?_, r.st.inj, r.st.injO, r.st.injF, r.st.oo, r.st.oF, fun a z => ?_⟩, r.len, fun i s e => ?_, r.far⟩, gz⟩
  · obtain ⟨c, h1, h2⟩ := r.st.is n a e
    exact ⟨c, h1, h2.sub (upd_ne fun z => r.st.injF n a e (by rw [z]; exact hp)) gz⟩
  · by_cases h : a = p
    · subst h; rw [upd_same]; exact Option.some_ne_none u
    · rw [upd_ne h]; exact r.st.alive a z
  · exact (r.sl i s e).sub (fun a z => upd_ne fun w => r.st.oF i a z (by rw [w]; exact hp)) gz
theorem wipe_idem (σ : L2.St) (vs : List Nat) : L2.wipe (L2.wipe σ vs) vs = L2.wipe σ vs := by
  have go : ∀ ws : List Nat, (∀ w ∈ ws, w ∈ vs) → L2.wipe (L2.wipe σ ws) vs = L2.wipe σ vs := by
    intro ws
    induction ws with
    | nil => intro _; rfl
    | cons w ws ih =>
      intro h
      show L2.wipe ((L2.wipe σ ws).set w none) vs = _
      rw [wipe_set _ _ _ (h w List.mem_cons_self)]
      exact ih fun z hz => h z (List.mem_cons_of_mem _ hz)
  exact go vs fun _ h => h
theorem wipeD_idem (σ : Env3) (vs : List Nat) : wipeD (wipeD σ vs) vs = wipeD σ vs := by
  have go : ∀ ws : List Nat, (∀ w ∈ ws, w ∈ vs) → wipeD (wipeD σ ws) vs = wipeD σ vs := by
    intro ws
    induction ws with
    | nil => intro _; rfl
    | cons w ws ih =>
      intro h
      show wipeD ((wipeD σ ws).set w .no) vs = _
      rw [wipeD_set _ _ _ (h w List.mem_cons_self)]
      exact ih fun z hz => h z (List.mem_cons_of_mem _ hz)
  exact go vs fun _ h => h
theorem wipeD_out {ρ : Env3} {i : Nat} {ws : List Nat} (hw : i ∉ ws) : (wipeD ρ ws)[i]? = ρ[i]? := by
  induction ws with
  | nil => rfl
  | cons w ws ih =>
    unfold wipeD
    rw [List.getElem?_set_ne (fun z => hw (by rw [z]; exact List.mem_cons_self)), ih fun z => hw (List.mem_cons_of_mem _ z)]
theorem wiped_o {vs : List Nat} (r : Rel K F m o (wipeD ρ vs) S σ H) : ∀ v ∈ vs, o v = none := fun v hv => by
  by_cases h : v < (wipeD ρ vs).length
  · have hs := r.sl v _ (List.getElem?_eq_getElem h)
    rcases wipeD_get (List.getElem?_eq_getElem h) with e | ⟨e, _⟩
    · rw [e] at hs; exact hs
    · exact absurd hv e
  · exact r.far v (by omega)
/-- the turn's targets have changed no owner -/
theorem same_o {F4 : Addr → Prop} {m4 o4 : Nat → Option Addr} {ρ4 : Env3} {S4 : Sto} {σ4 : L2.St} {H4 : Hp} {vs : List Nat} (r : Rel K F m o (wipeD ρ vs) S σ H) (r4 : Rel K F4 m4 o4 ρ4 S4 σ4 H4) (w : wipeD ρ4 vs = wipeD ρ vs) (oo : ∀ i a, o4 i = some a → o i = some a) : o4 = o ∧ noOwn ρ4 vs = true := by
  have wo := wiped_o r
  constructor
  · funext j
    cases e : o j with
    | none =>
      cases e4 : o4 j with
      | none => rfl
      | some a => rw [oo j a e4] at e; cases e
    | some a =>
      have hj : j ∉ vs := fun z => by rw [wo j z] at e; cases e
      have hlt : j < (wipeD ρ vs).length := by
        by_cases z : j < (wipeD ρ vs).length
        · exact z
        · rw [r.far j (by omega)] at e; cases e
      have hs := r.sl j _ (List.getElem?_eq_getElem hlt)
      have h4 : ρ4[j]? = some (wipeD ρ vs)[j] := by rw [← wipeD_out (ρ := ρ4) hj, w, List.getElem?_eq_getElem hlt]
      have hs4 := r4.sl j _ h4
      rw [e] at hs
      cases q : (wipeD ρ vs)[j] with
      | no => rw [q] at hs; cases hs
      | val d =>
        rw [q] at hs
        cases d with
        | d x => cases hs.1
        | ref n => cases hs.1
        | loc n => exact hs.elim
      | own c =>
        rw [q] at hs4
        obtain ⟨b, h0, _⟩ := hs4
        have := (oo j b h0).symm.trans e
        cases this
        exact h0
  · have go : ∀ ws : List Nat, (∀ v ∈ ws, v ∈ vs) → noOwn ρ4 ws = true := by
      intro ws
      induction ws with
      | nil => intro _; rfl
      | cons v ws ih =>
        intro h
        unfold noOwn
        split
        · rename_i c e
          obtain ⟨b, h0, _⟩ := r4.sl v _ e
          have := oo v b h0
          rw [wo v (h v List.mem_cons_self)] at this
          cases this
        · exact ih fun z hz => h z (List.mem_cons_of_mem _ hz)
    exact go vs fun _ h => h
theorem lift_comp {it : dTI} {tg : Expr} {g : dTG} {tt : dTT} {te : dTE} {vs : List Nat} {X' : Cx} (hg : DG X' vs tg g) {Q : VK} (q : liftF K (dComp it g tt te vs) σ H Q) : tLc (liftI K it) (liftG K vs g) (liftT K tt) (lift K te) vs σ H Q := by
  obtain ⟨F, m, o, ρ, S, k, rel, ⟨no, t⟩, hk⟩ := q
  refine ⟨F, m, o, ρ, S, _, rel, t, fun src S1 m1 H1 J h r1 g1 go => ?_⟩
  intro p hp
  have np : ¬ Mu F m1 o p := fun z => r1.st.alive p z hp
  have rw1 := r1.wipe vs no
  -- the state in the turns
  refine ⟨fun i n H2 => n + i = src.xs.length ∧ ∃ m2 S2 acc us, Rel K (fun a => F a ∨ a = p) m2 o (wipeD ρ vs) S2 (L2.wipe σ vs) H2 ∧ Grow (fun a => F a ∨ a = p) m1 o (upd H1 p (.lst us)) m2 o H2 ∧ RpAll K (Fz H2 (Mu (fun a => F a ∨ a = p) m2 o)) us acc ∧
    cLoop src.ok g tt te (wipeD ρ vs) k (src.xs.drop i) acc S2, ⟨src.xs.length, Nat.add_zero _, m1, S1, [], [], (rw1.guard hp).1, Grow.refl, .nil, h⟩, fun i n H2 hW => ?_⟩
  obtain ⟨hn, m2, S2, acc, us, r2, g2, dp2, h2⟩ := hW
  have gz2 : Sub (Fz H1 (Mu F m1 o)) (Fz H2 (Mu (fun a => F a ∨ a = p) m2 o)) := ((r1.guard (u := .lst us) hp).2).trans g2.z
  have e2 : H2 p = some (.lst us) := (g2.f p (.inr rfl)).trans upd_same
  by_cases hi : i < src.xs.length
  · rw [List.drop_eq_getElem_cons hi] at h2
    obtain ⟨okk, h3⟩ := h2
    obtain ⟨j1, j2⟩ := go.go i _ m2 o _ S2 _ H2 r2 gz2 g2.m okk _ (List.getElem?_eq_getElem hi)
    refine .inr ⟨j1, fun H' => ∃ m3 S3 acc us, Rel K (fun a => F a ∨ a = p) m3 o (wipeD ρ vs) S3 (L2.wipe σ vs) H' ∧ Grow (fun a => F a ∨ a = p) m1 o (upd H1 p (.lst us)) m3 o H' ∧ RpAll K (Fz H' (Mu (fun a => F a ∨ a = p) m3 o)) us acc ∧
      cLoop src.ok g tt te (wipeD ρ vs) k (src.xs.drop (i + 1)) acc S3, fun H' hN => ⟨n - 1, by omega, by omega, hN⟩, fun v H3 hy => ?_⟩
    obtain ⟨s3, dp⟩ := j2 v H3 hy
    refine ⟨_, m2, o, wipeD ρ vs, S2, _, _, r2.sub s3, dp, hg.w _ _ _ _ h3, fun ρ4 S4 m4 o4 σ4 H4 hh r4 g4 w4 oo4 => ?_⟩
    obtain ⟨h4, wd4⟩ := hh
    rw [wipeD_idem] at wd4
    rw [wipe_idem] at w4
    obtain ⟨eo, no4⟩ := same_o r2 r4 wd4 oo4
    subst eo
    have gg4 : Grow (fun a => F a ∨ a = p) m1 o4 (upd H1 p (.lst us)) m4 o4 H4 := (g2.trans (Grow.sub r2 s3)).trans g4
    refine ⟨w4, _, m4, o4, ρ4, S4, _, r4, h4, fun b S5 m5 H5 h5 r5 g5 => ?_⟩
    have back : ∀ {m6 : Nat → Option Addr} {S6 : Sto} {H6 : Hp}, Rel K (fun a => F a ∨ a = p) m6 o4 ρ4 S6 σ4 H6 → Rel K (fun a => F a ∨ a = p) m6 o4 (wipeD ρ vs) S6 (L2.wipe σ vs) H6 := fun r6 => by
      have := r6.wipe vs no4
      rw [wd4, w4] at this
      exact this
    cases b with
    | false =>
      have h5 := h5.eF
      exact iteF ⟨m5, S5, acc, us, back r5, gg4.trans g5, RpAll.sub (((Grow.sub r2 s3).trans g4).trans g5).z dp2, h5⟩
    | true =>
      have h5 := h5.eT
      refine iteT ⟨_, m5, o4, ρ4, S5, _, r5, h5, fun d S6 m6 H6 v6 h6 r6 g6 q6 => ?_⟩
      obtain ⟨ys, ey, hl, h7⟩ := withDs_of h6
      have gg6 := (gg4.trans g5).trans g6
      have dp6 := RpAll.sub ((((Grow.sub r2 s3).trans g4).trans g5).trans g6).z dp2
      have e6 : H6 p = some (.lst us) := (gg6.f p (.inr rfl)).trans upd_same
      have dpy : RpAll K (Fz H6 (Mu (fun a => F a ∨ a = p) m6 o4)) [v6] ys := datas_rep (.cons q6 .nil) ey
      obtain ⟨rw6, gz6⟩ := (back r6).write (p := p) (u := .lst (us ++ [v6])) (.inr rfl)
      refine ⟨us, e6, by rw [RpAll.length dp6]; exact hl, m6, S6, acc ++ ys, us ++ [v6], rw6, ⟨fun a z => ?_, ?_, gg6.m⟩, RpAll.sub gz6 (RpAll.append dp6 dpy), h7⟩
      · by_cases ha : a = p
        · subst ha; rw [upd_same, upd_same]
        · rw [upd_ne ha, upd_ne ha]
          have := gg6.f a z
          rw [upd_ne ha] at this
          exact this
      · refine Sub.trans (fun a w e => ?_) (gg6.z.trans gz6)
        obtain ⟨z1, z2⟩ := Fz.at e
        have ha : a ≠ p := fun z => z1 (.inl (.inr z))
        rw [upd_ne ha] at z2
        exact Fz.of z1 (by rw [upd_ne ha]; exact z2)
  · rw [List.drop_eq_nil_of_le (by omega)] at h2
    obtain ⟨okk, h3⟩ := h2
    refine .inl ⟨go.stop i _ m2 o _ S2 _ H2 r2 gz2 g2.m okk (by omega), ?_⟩
    have np2 : ¬ Mu F m2 o p := fun z => by
      rcases z with z | ⟨n, z⟩ | ⟨n, z⟩
      · exact np (.inl z)
      · exact r2.st.injF n p z (.inr rfl)
      · exact r2.st.oF n p z (.inr rfl)
    obtain ⟨ru, zu⟩ := r2.unguard np2
    have gu : Grow F m1 o H1 m2 o (without H2 p) := ⟨fun a z => ?_, gz2.trans zu, g2.m⟩
    · have := hk acc S2 m2 (without H2 p) p us h3 (r1.back no ru gu) (g1.trans gu) (if_pos rfl) (RpAll.sub zu dp2)
      rw [without_upd e2] at this
      exact this
    · have ha : a ≠ p := fun e => np (by rw [← e]; exact .inl z)
      unfold without
      rw [if_neg ha, g2.f a (.inl z), upd_ne ha]
theorem df_comp {elt tg iter : Expr} {ifs : List Expr} {scope : Scope} {own : List (Str × Nat)} {pos : Pos} {it : dTI} {g : dTG} {tt : dTT} {te : dTE} (hc : X.calm = true) (hN : X.N.Nodup) (ok : BlkOk X.N X.env.scope scope own)
    (hg : ∀ (s : Shared) (H : Hp) (C : Addr) (cl : List (Str × Addr)) (fp : List Addr), DG (X.blk s H scope (compEnvC scope cl C X.env) fp) (own.map (·.2)) tg g) (hi : DI X tg iter it) (ht : ∀ (s : Shared) (H : Hp) (C : Addr) (cl : List (Str × Addr)) (fp : List Addr), DTs (X.blk s H scope (compEnvC scope cl C X.env) fp) ifs tt)
    (he : ∀ (s : Shared) (H : Hp) (C : Addr) (cl : List (Str × Addr)) (fp : List Addr), DE (X.blk s H scope (compEnvC scope cl C X.env) fp) elt te) (hs : ∀ x, foldedSetIterable iter X.env x = pure x := by intro _; rfl) :
    DF X (.ListComp elt [⟨tg, iter, ifs, 0⟩] scope pos) (dComp it g tt te (own.map (·.2))) :=
  PE.imp (pe_lc hc hN hi ok (fun s H C cl fp => (hg s H C cl fp).pg) ht he hs) fun σ H Q q => lift_comp (hg ⟨X.s_0.heap, X.s_0.gens, X.s_0.drawn, X.s_0.toks, X.s_0.os⟩ H 0 [] []) q
end
end L3

set_option maxHeartbeats 4000000
namespace L3
open PySem PySem.Spec L2

section
variable {X : Cx}
/-! ### y = [..] on one line -/
theorem ds_setLc {i : Nat} {y : Str} {py : Pos} {elt tg iter : Expr} {ifs : List Expr} {scope : Scope} {own : List (Str × Nat)} {pos spos : Pos} {it : dTI} {g : dTG} {tt : dTT} {te : dTE} (hc : X.calm = true) (hN : X.N.Nodup) (hy : X.N[i]? = some y) (hyl : X.env.scope.names.lookup y = some .local)
    (hsw : swapsWith (.ListComp elt [⟨tg, iter, ifs, 0⟩] scope pos) (some (.Name y py)) spos.line X.env = pure true) (ok : BlkOk X.N X.env.scope scope own)
    (hg : ∀ (s : Shared) (H : Hp) (C : Addr) (cl : List (Str × Addr)) (fp : List Addr), DG (X.blk s H scope (compEnvC scope cl C X.env) fp) (own.map (·.2)) tg g) (hi : DI X tg iter it) (ht : ∀ (s : Shared) (H : Hp) (C : Addr) (cl : List (Str × Addr)) (fp : List Addr), DTs (X.blk s H scope (compEnvC scope cl C X.env) fp) ifs tt)
    (he : ∀ (s : Shared) (H : Hp) (C : Addr) (cl : List (Str × Addr)) (fp : List Addr), DE (X.blk s H scope (compEnvC scope cl C X.env) fp) elt te) (hs : ∀ x, foldedSetIterable iter X.env x = pure x := by intro _; rfl) :
    DS X (.Assign [.Name y py] (.ListComp elt [⟨tg, iter, ifs, 0⟩] scope pos) spos) (dSet i (dFz (dComp it g tt te (own.map (·.2))))) :=
  PS.imp (ps_setLc hc hN hy hyl hsw hi ok (fun s H C cl fp => (hg s H C cl fp).pg) ht he hs) fun E σ H q => by
    obtain ⟨F, m, o, ρ, S, E', rel, t, ok⟩ := q
    refine lift_comp (hg X.s_0 H 0 [] []) (lift_fz ⟨F, m, o, ρ, S, _, rel, t, fun d S1 m1 H1 v h r g q => ?_⟩)
    obtain ⟨n, h⟩ := nl_of h
    exact ok.nx _ S1 m1 _ _ H1 h (r.put i q n) (g.trans (Grow.ers i))
theorem ds_setLcO {i : Nat} {y : Str} {py : Pos} {elt tg iter : Expr} {ifs : List Expr} {scope : Scope} {own : List (Str × Nat)} {pos spos : Pos} {it : dTI} {g : dTG} {tt : dTT} {te : dTE} (hc : X.calm = true) (hN : X.N.Nodup) (hy : X.N[i]? = some y) (hyl : X.env.scope.names.lookup y = some .local)
    (hsw : swapsWith (.ListComp elt [⟨tg, iter, ifs, 0⟩] scope pos) (some (.Name y py)) spos.line X.env = pure true) (ok : BlkOk X.N X.env.scope scope own)
    (hg : ∀ (s : Shared) (H : Hp) (C : Addr) (cl : List (Str × Addr)) (fp : List Addr), DG (X.blk s H scope (compEnvC scope cl C X.env) fp) (own.map (·.2)) tg g) (hi : DI X tg iter it) (ht : ∀ (s : Shared) (H : Hp) (C : Addr) (cl : List (Str × Addr)) (fp : List Addr), DTs (X.blk s H scope (compEnvC scope cl C X.env) fp) ifs tt)
    (he : ∀ (s : Shared) (H : Hp) (C : Addr) (cl : List (Str × Addr)) (fp : List Addr), DE (X.blk s H scope (compEnvC scope cl C X.env) fp) elt te) (hs : ∀ x, foldedSetIterable iter X.env x = pure x := by intro _; rfl) :
    DS X (.Assign [.Name y py] (.ListComp elt [⟨tg, iter, ifs, 0⟩] scope pos) spos) (dSetO i (dComp it g tt te (own.map (·.2)))) :=
  PS.imp (ps_setLc hc hN hy hyl hsw hi ok (fun s H C cl fp => (hg s H C cl fp).pg) ht he hs) fun E σ H q => by
    obtain ⟨F, m, o, ρ, S, E', rel, t, ok⟩ := q
    exact lift_comp (hg X.s_0 H 0 [] []) ⟨F, m, o, ρ, S, _, rel, t, fun xs S1 m1 H1 p vs h r g hp dp => own_fin r hp dp h (ok.grow g)⟩
end

/-! ### things that are changed -/
section
variable {K : PySem.W.Frag} {F : Addr → Prop} {m o : Nat → Option Addr} {ρ : Env3} {S : Sto} {σ : L2.St} {H : Hp}
theorem fz_wr {a : Addr} {u : HO} (h : Mu F m o a) : Sub (Fz H (Mu F m o)) (Fz (upd H a u) (Mu F m o)) := fun b w e => by
  obtain ⟨e1, e2⟩ := Fz.at e
  exact Fz.of e1 (by rw [upd_ne fun z => e1 (by rw [z]; exact h)]; exact e2)
theorem Grow.wr (r : Stor K F m o S H) {a : Addr} {u : HO} (h : Mu F m o a) (nf : ¬ F a) : Grow F m o H m o (upd H a u) := ⟨fun b z => upd_ne fun e => nf (by rw [← e]; exact z), fz_wr h, fun _ _ e => e⟩
theorem alive_wr (r : Stor K F m o S H) {a : Addr} {u : HO} : ∀ b, Mu F m o b → (upd H a u) b ≠ none := fun b z => by
  by_cases e : b = a
  · subst e; rw [upd_same]; exact Option.some_ne_none u
  · rw [upd_ne e]; exact r.alive b z
/-- one's own thing takes another content -/
theorem Rel.wrO (r : Rel K F m o ρ S σ H) {i : Nat} {a : Addr} {u : HO} {c : Cell} (ha : o i = some a) (hi : i < ρ.length) (hx : σ[i]? = some (some (.ref a))) (q : CellOk K (upd H a u) (Fz (upd H a u) (Mu F m o)) a c) :
    Rel K F m o (ρ.set i (.own c)) S σ (upd H a u) ∧ Grow F m o H m o (upd H a u) := by
  have ma : Mu F m o a := .inr (.inr ⟨i, ha⟩)
  have g : Grow F m o H m o (upd H a u) := Grow.wr r.st ma fun z => r.st.oF i a ha z
  refine ⟨⟨⟨r.st.there, fun n b e => ?_, r.st.inj, r.st.injO, r.st.injF, r.st.oo, r.st.oF, alive_wr r.st⟩, by rw [List.length_set]; exact r.len, fun j s e => ?_, fun j z => r.far j (by rwa [List.length_set] at z)⟩, g⟩
  · obtain ⟨c, h1, h2⟩ := r.st.is n b e
    exact ⟨c, h1, h2.sub (upd_ne fun z => r.st.injO n i a (by rw [← z]; exact e) ha) g.z⟩
  · by_cases hj : i = j
    · subst hj
      rw [List.getElem?_set_self hi] at e
      cases e
      exact ⟨a, ha, hx, q⟩
    · rw [List.getElem?_set_ne hj] at e
      exact (r.sl j s e).sub (fun b z => upd_ne fun w => hj (r.st.oo i j a ha (by rw [← w]; exact z))) g.z
/-- a thing of the store takes another content -/
theorem Rel.wrS (r : Rel K F m o ρ S σ H) {n : Nat} {a : Addr} {u : HO} {c : Cell} (ha : m n = some a) (hn : n < S.length) (q : CellOk K (upd H a u) (Fz (upd H a u) (Mu F m o)) a c) :
    Rel K F m o ρ (S.set n c) σ (upd H a u) ∧ Grow F m o H m o (upd H a u) := by
  have ma : Mu F m o a := .inr (.inl ⟨n, ha⟩)
  have g : Grow F m o H m o (upd H a u) := Grow.wr r.st ma fun z => r.st.injF n a ha z
  refine ⟨⟨⟨fun k c e => ?_, fun k b e => ?_, r.st.inj, r.st.injO, r.st.injF, r.st.oo, r.st.oF, alive_wr r.st⟩, r.len, fun j s e => ?_, r.far⟩, g⟩
  · by_cases hk : n = k
    · subst hk; exact ⟨a, ha⟩
    · rw [List.getElem?_set_ne hk] at e; exact r.st.there k c e
  · by_cases hk : n = k
    · subst hk
      rw [ha] at e
      cases e
      exact ⟨c, List.getElem?_set_self hn, q⟩
    · obtain ⟨c, h1, h2⟩ := r.st.is k b e
      exact ⟨c, by rw [List.getElem?_set_ne hk]; exact h1, h2.sub (upd_ne fun z => hk (r.st.inj n k a ha (by rw [← z]; exact e))) g.z⟩
  · exact (r.sl j s e).sub (fun b z => upd_ne fun w => r.st.injO n j a ha (by rw [← w]; exact z)) g.z
/-- a new thing of the store -/
def putM (m : Nat → Option Addr) (n : Nat) (a : Addr) : Nat → Option Addr := fun k => if k = n then some a else m k
theorem Rel.newS (r : Rel K F m o ρ S σ H) {p : Addr} {u : HO} {c : Cell} (hp : H p = none) (q : CellOk K (upd H p u) (Fz (upd H p u) (Mu F (putM m S.length p) o)) p c) :
    Rel K F (putM m S.length p) o ρ (S ++ [c]) σ (upd H p u) ∧ Grow F m o H (putM m S.length p) o (upd H p u) := by
  have np : ∀ {P : Prop}, Mu F m o p → P := fun z => absurd hp (r.st.alive p z)
  have mn : m S.length = none := by
    cases e : m S.length with
    | none => rfl
    | some a =>
      obtain ⟨c, h1, _⟩ := r.st.is _ a e
      rw [List.getElem?_eq_none_iff.mpr (Nat.le_refl _)] at h1
      cases h1
  have at1 : putM m S.length p S.length = some p := if_pos rfl
  have at2 : ∀ {k}, k ≠ S.length → putM m S.length p k = m k := fun h => if_neg h
  have mu : ∀ a, Mu F (putM m S.length p) o a → a = p ∨ Mu F m o a := fun a z => by
    rcases z with z | ⟨n, z⟩ | z
    · exact .inr (.inl z)
    · by_cases hn : n = S.length
      · subst hn; rw [at1] at z; cases z; exact .inl rfl
      · rw [at2 hn] at z; exact .inr (.inr (.inl ⟨n, z⟩))
    · exact .inr (.inr (.inr z))
  have keep : ∀ a, Mu F m o a → (upd H p u) a = H a := fun a z => upd_ne fun e => np (by rw [← e]; exact z)
  have gz : Sub (Fz H (Mu F m o)) (Fz (upd H p u) (Mu F (putM m S.length p) o)) := fun a w e => by
    obtain ⟨e1, e2⟩ := Fz.at e
    have hne : a ≠ p := ne_of_none e2 hp
    exact Fz.of (fun z => (mu a z).elim hne e1) (by rw [upd_ne hne]; exact e2)
  have gm : ∀ n a, m n = some a → putM m S.length p n = some a := fun n a e => by
    by_cases hn : n = S.length
    · subst hn; rw [mn] at e; cases e
    · rw [at2 hn]; exact e
  refine ⟨⟨⟨fun k c' e => ?_, fun k b e => ?_, fun n k a e z => ?_, fun n i a e z => ?_, fun n a e z => ?_, r.st.oo, r.st.oF, fun a z => ?_⟩, r.len, fun j s e => ?_, r.far⟩, ⟨fun a z => keep a (.inl z), gz, gm⟩⟩
  · by_cases hk : k = S.length
    · subst hk; exact ⟨p, at1⟩
    · have hlt : k < S.length := by
        have := (List.getElem?_eq_some_iff.mp e).1
        rw [List.length_append, List.length_singleton] at this
        omega
      rw [List.getElem?_append_left hlt] at e
      rw [at2 hk]
      exact r.st.there k c' e
  · by_cases hk : k = S.length
    · subst hk
      rw [at1] at e
      cases e
      exact ⟨c, by simp, q⟩
    · rw [at2 hk] at e
      obtain ⟨c', h1, h2⟩ := r.st.is k b e
      exact ⟨c', by rw [List.getElem?_append_left (List.getElem?_eq_some_iff.mp h1).1]; exact h1, h2.sub (keep b (.inr (.inl ⟨k, e⟩))) gz⟩
  · by_cases hn : n = S.length
    · subst hn
      rw [at1] at e
      cases e
      by_cases hk : k = S.length
      · exact hk.symm
      · rw [at2 hk] at z; exact np (.inr (.inl ⟨k, z⟩))
    · rw [at2 hn] at e
      by_cases hk : k = S.length
      · subst hk; rw [at1] at z; cases z; exact np (.inr (.inl ⟨n, e⟩))
      · rw [at2 hk] at z; exact r.st.inj n k a e z
  · by_cases hn : n = S.length
    · subst hn; rw [at1] at e; cases e; exact np (.inr (.inr ⟨i, z⟩))
    · rw [at2 hn] at e; exact r.st.injO n i a e z
  · by_cases hn : n = S.length
    · subst hn; rw [at1] at e; cases e; exact np (.inl z)
    · rw [at2 hn] at e; exact r.st.injF n a e z
  · rcases mu a z with z | z
    · subst z; rw [upd_same]; exact Option.some_ne_none u
    · rw [keep a z]; exact r.st.alive a z
  · have hs := (r.sl j s e).sub (H' := upd H p u) (fun a z => keep a (.inr (.inr ⟨j, z⟩))) gz
    cases s with
    | no => exact hs
    | val w =>
      cases w with
      | d x => exact hs
      | ref n => obtain ⟨h0, a, h1, h2⟩ := hs; exact ⟨h0, a, h1, gm n a h2⟩
      | loc j => exact hs
    | own c => exact hs
end

/-! ### x.append(e) -/
def dApp (i : Nat) (te : dTE) : dTS := fun E ρ S => match ρ[i]? with
  | some (.own (.lst xs)) => te ρ S fun d S1 => match d with
    | .d x => xs.length < sizeLine ∧ E.nx (ρ.set i (.own (.lst (xs ++ [x])))) S1
    | _ => False
  | _ => False
section
variable {X : Cx}
theorem ds_app {i : Nat} {x : Expr} {e : Expr} {te : dTE} {apos cpos pos : Pos} (hx : PE X x (tVar i)) (he : DE X e te) (hs : swapsWith (.Call (.Attribute x "append" apos) [e] [] cpos) none pos.line X.env = pure false := by rfl)
    (hbase : attributeBase x "append" X.env (eval x X.env) = eval x X.env := by rfl) (hst : starEach [e] X.env = (false, eval e X.env) :: starEach [] X.env := by rfl)
    (hfew : ((backTo cpos (starEach [e] X.env)).all (fun x => !x.1) && (backToKw cpos (keywordEach [] X.env)).all (fun x => x.1.isSome)
      && decide ([e].length + ([] : List Keyword).length + (if ([] : List Keyword).isEmpty then 0 else 1) < 30)) = true := by rfl)
    (hpl : (backTo cpos (starEach [] X.env)).any (·.1) = false := by rfl) (hline : (apos.endLine == cpos.line) = true := by rfl) :
    DS X (.Expr (.Call (.Attribute x "append" apos) [e] [] cpos) pos) (dApp i te) :=
  PS.imp (ps_expr (pe_bm PySem.F.plainAttrs_list PySem.F.slot_list_append PySem.F.type_list_append mt_append hx (pa_cons he pa_nil hst) hbase hfew hline hst hpl) hs) fun E σ H q => by
    obtain ⟨F, m, o, ρ, S, E', rel, t, ok⟩ := q
    unfold dApp at t
    split at t
    · rename_i xs e0
      obtain ⟨a, h1, h2, vs, h3, h4⟩ := rel.sl i _ e0
      refine ⟨_, h2, .inl ⟨rfl, vs, SqL.of h3⟩, F, m, o, ρ, S, _, rel, t, fun d S1 m1 H1 v h r g q => ?_⟩
      cases d with
      | ref n => exact h.elim
      | loc n => exact h.elim
      | d y =>
        obtain ⟨hl, h⟩ := h
        obtain ⟨b, k1, k2, ws, k3, k4⟩ := r.sl i _ e0
        have hb := k1.symm.trans h1
        cases hb
        refine ⟨a, ws, v, rfl, rfl, k3, by rw [RpAll.length k4]; exact hl, ?_⟩
        have hi : i < ρ.length := (List.getElem?_eq_some_iff.mp e0).1
        obtain ⟨r2, g2⟩ := r.wrO (u := .lst (ws ++ [v])) (c := .lst (xs ++ [y])) h1 hi h2 ⟨_, upd_same, RpAll.sub (fz_wr (.inr (.inr ⟨i, h1⟩))) (RpAll.append k4 (.cons q .nil))⟩
        exact ok.nx _ S1 m1 o σ _ h r2 (g.trans g2)
    · exact t.elim
end

/-! ### a dict that is written, as a thing of the store -/
def dVals : List (Key × dTE) → Env3 → Sto → (List (Key × D) → Sto → Prop) → Prop
  | [], _, S, Q => Q [] S
  | (k, t) :: r, ρ, S, Q => t ρ S fun d S1 => match d with
    | .d x => dVals r ρ S1 fun kvs S2 => Q ((k, x) :: kvs) S2
    | _ => False
def dDisp (ts : List (Key × dTE)) : dTE := fun ρ S Q => dVals ts ρ S fun kvs S1 => Q (.ref S1.length) (S1 ++ [.dK kvs])
section
variable {X : Cx} {K : PySem.W.Frag}
theorem lift_vals {F : Addr → Prop} {o : Nat → Option Addr} {ρ : Env3} {σ : L2.St} : ∀ {ts : List (Key × dTE)} {m : Nat → Option Addr} {S : Sto} {H : Hp} {k : List (Key × D) → Sto → Prop} {Q : List (V × V) → Hp → Prop}, Rel K F m o ρ S σ H → dVals ts ρ S k →
    (∀ kvs S' m' H' ws, k kvs S' → kvs.map (·.1) = ts.map (·.1) → Rel K F m' o ρ S' σ H' → Grow F m o H m' o H' → KRp K (Fz H' (Mu F m' o)) ws kvs → Q (ws.map fun kv => (kV kv.1, kv.2)) H') → tPairs (ts.map fun p => (tC (kV p.1), lift K p.2)) σ H Q
  | [], m, S, H, k, Q, r, h, fin => fin [] S m H [] h rfl r Grow.refl .nil
  | (key, t) :: ts, m, S, H, k, Q, r, h, fin => by
    refine ⟨F, m, o, ρ, S, _, r, h, fun d S1 m1 H1 v h1 r1 g1 q1 => ?_⟩
    cases d with
    | ref n => exact h1.elim
    | loc n => exact h1.elim
    | d x =>
      refine lift_vals r1 h1 fun kvs S2 m2 H2 ws h2 hk r2 g2 q2 => ?_
      exact fin ((key, x) :: kvs) S2 m2 H2 ((key, v) :: ws) h2 (by rw [List.map_cons, List.map_cons, hk]) r2 (g1.trans g2) (.cons ⟨rfl, Rp.sub g2.z q1⟩ q2)
theorem mergeK_nodup : ∀ (ws acc : List (Key × V)), (ws.map (·.1)).Nodup → (∀ w ∈ ws, w.1 ∉ acc.map (·.1)) → mergeK acc ws = acc ++ ws
  | [], acc, _, _ => (List.append_nil acc).symm
  | w :: ws, acc, nd, ni => by
    have nd' := List.nodup_cons.mp (show (w.1 :: ws.map (·.1)).Nodup from nd)
    have e : putK acc w.1 w.2 = acc ++ [w] := by
      unfold putK
      rw [if_neg]
      intro z
      obtain ⟨p, hp, e⟩ := List.any_eq_true.mp z
      exact ni w List.mem_cons_self (List.mem_map.mpr ⟨p, hp, of_decide_eq_true e⟩)
    show mergeK (putK acc w.1 w.2) ws = _
    rw [e, mergeK_nodup ws _ nd'.2 fun z hz => ?_, List.append_assoc]
    · rfl
    · rw [List.map_append]
      intro q
      rcases List.mem_append.mp q with q | q
      · exact ni z (List.mem_cons_of_mem _ hz) q
      · simp only [List.map_cons, List.map_nil, List.mem_singleton] at q
        exact nd'.1 (List.mem_map.mpr ⟨z, hz, q⟩)
theorem KRp.keys {H : Hp} {ws : List (Key × V)} {kvs : List (Key × D)} (h : KRp K H ws kvs) : ws.map (·.1) = kvs.map (·.1) := by
  unfold KRp at h
  induction h with
  | nil => rfl
  | cons q _ ih => rw [List.map_cons, List.map_cons, q.1, ih]
abbrev DPs (X : Cx) (pos : Pos) (keys : List (Option Expr)) (values : List Expr) (ts : List (Key × dTE)) : Prop := PPs X pos keys values (ts.map fun p => (tC (kV p.1), lift X.K p.2))
theorem dps_nil {pos : Pos} : DPs X pos [] [] [] := pps_nil
theorem dps_cons {pos : Pos} {k v : Expr} {ks : List (Option Expr)} {vs : List Expr} {key : Key} {t : dTE} {ts : List (Key × dTE)} (hk : PE X k (tC (kV key))) (hv : DE X v t) (hr : DPs X pos ks vs ts) : DPs X pos (some k :: ks) (v :: vs) ((key, t) :: ts) := pps_cons hk hv hr
theorem de_disp {keys : List (Option Expr)} {values : List Expr} {ts : List (Key × dTE)} {pos : Pos} (h : DPs X pos keys values ts) (hnd : (ts.map (·.1)).Nodup) (h15 : ts.length ≤ 15) (hall : keys.all (·.isSome) = true) (hl : keys.length = values.length) (h0 : keys ≠ [])
    (h15' : keys.length ≤ 15) : DE X (.Dict keys values pos) (dDisp ts) := PE.imp (pe_disp h hall hl h0 h15') fun σ H Q q => by
  obtain ⟨F, m, o, ρ, S, k, rel, t, hk⟩ := q
  intro p hp
  obtain ⟨r0, z0⟩ := rel.guard (u := .dK []) hp
  have np : ¬ Mu F m o p := fun z => rel.st.alive p z hp
  refine lift_vals r0 t fun kvs S' m' H' ws hh hkeys r' g' rep => ?_
  have ep : H' p = some (.dK []) := (g'.f p (.inr rfl)).trans upd_same
  have np' : ¬ Mu F m' o p := fun z => by
    rcases z with z | ⟨n, z⟩ | ⟨n, z⟩
    · exact np (.inl z)
    · exact r'.st.injF n p z (.inr rfl)
    · exact r'.st.oF n p z (.inr rfl)
  have ekeys : ws.map (·.1) = ts.map (·.1) := rep.keys.trans hkeys
  have elen : ws.length = ts.length := by
    have := congrArg List.length ekeys
    rwa [List.length_map, List.length_map] at this
  refine ⟨ep, ws, rfl, by rw [elen]; exact h15, ?_⟩
  rw [mergeK_nodup ws [] (by rw [ekeys]; exact hnd) (fun _ _ => by simp), List.nil_append]
  obtain ⟨ru, zu⟩ := r'.unguard np'
  have wp : without H' p p = none := if_pos rfl
  have eu : ∀ u, upd (without H' p) p u = upd H' p u := fun u => by
    funext a
    unfold upd without
    split
    · rfl
    · rfl
  have gu : Grow F m o H m' o (without H' p) := ⟨fun a z => ?_, (z0.trans g'.z).trans zu, g'.m⟩
  · have ma : Mu F (putM m' S'.length p) o p := .inr (.inl ⟨S'.length, if_pos rfl⟩)
    obtain ⟨r2, g2⟩ := ru.newS (u := .dK ws) (c := .dK kvs) wp (by
      refine ⟨ws, upd_same, KRp.sub ?_ (KRp.sub zu rep)⟩
      intro a w e
      obtain ⟨e1, e2⟩ := Fz.at e
      have hne : a ≠ p := ne_of_none e2 wp
      refine Fz.of (fun z => ?_) (by rw [upd_ne hne]; exact e2)
      rcases z with z | ⟨n, z⟩ | z
      · exact e1 (.inl z)
      · unfold putM at z
        split at z
        · cases z; exact hne rfl
        · exact e1 (.inr (.inl ⟨n, z⟩))
      · exact e1 (.inr (.inr z)))
    have := hk _ _ _ _ (.ref p) hh r2 (gu.trans g2) ⟨p, if_pos rfl, rfl⟩
    rw [eu] at this
    exact this
  · have ha : a ≠ p := fun e => np (by rw [← e]; exact .inl z)
    unfold without
    rw [if_neg ha, g'.f a (.inl z), upd_ne ha]
end

/-! ### x[k] = e -/
def withKey (y : D) (k : Key → Prop) : Prop := match y with
  | .int i => k (.inl i)
  | .str z => k (.inr z)
  | _ => False
theorem withKey_of {y : D} {k : Key → Prop} (h : withKey y k) : ∃ key, y = keyD key ∧ k key := by
  unfold withKey at h
  split at h
  · exact ⟨_, rfl, h⟩
  · exact ⟨_, rfl, h⟩
  · exact h.elim
def putD (kvs : List (Key × D)) (k : Key) (v : D) : List (Key × D) :=
  if (kvs.any fun kv => decide (kv.1 = k)) = true then kvs.map (fun kv => if kv.1 = k then (kv.1, v) else kv) else kvs ++ [(k, v)]
theorem KRp.put {K : PySem.W.Frag} {H : Hp} {ws : List (Key × V)} {kvs : List (Key × D)} (h : KRp K H ws kvs) {k : Key} {v : V} {x : D} (q : Rp K H v x) : KRp K H (putK ws k v) (putD kvs k x) := by
  have ea : (ws.any fun kv => decide (kv.1 = k)) = kvs.any fun kv => decide (kv.1 = k) := by
    unfold KRp at h
    induction h with
    | nil => rfl
    | cons z _ ih => rw [List.any_cons, List.any_cons, z.1, ih]
  unfold putK putD
  rw [ea]
  split
  · unfold KRp at h ⊢
    rename_i z0
    clear z0 ea
    induction h with
    | nil => exact .nil
    | @cons a b l1 l2 z _ ih =>
      refine .cons ?_ ih
      obtain ⟨z1, z2⟩ := z
      dsimp only
      by_cases e : b.1 = k
      · rw [if_pos (z1.trans e), if_pos e]; exact ⟨z1, q⟩
      · rw [if_neg (fun w => e (z1.symm.trans w)), if_neg e]; exact ⟨z1, z2⟩
  · have go : ∀ {l1 : List (Key × V)} {l2 : List (Key × D)}, KRp K H l1 l2 → KRp K H (l1 ++ [(k, v)]) (l2 ++ [(k, x)]) := by
      intro l1 l2 h
      unfold KRp at h ⊢
      induction h with
      | nil => exact .cons ⟨rfl, q⟩ .nil
      | cons z _ ih => exact .cons z ih
    exact go h
def dPutI (i : Nat) (tk te : dTE) : dTS := fun E ρ S => match ρ[i]? with
  | some (.own (.lst xs)) => te ρ S fun d S1 => match d with
    | .d x => tk ρ S1 fun kd S2 => match kd with
      | .d (.int j) => ∃ n, ixN xs.length j = some n ∧ E.nx (ρ.set i (.own (.lst (xs.set n x)))) S2
      | _ => False
    | _ => False
  | some (.val (.ref n)) => te ρ S fun d S1 => match d with
    | .d x => tk ρ S1 fun kd S2 => match kd with
      | .d key => match S2[n]? with
        | some (.dK kvs) => withKey key fun k => kvs.length < sizeLine ∧ E.nx ρ (S2.set n (.dK (putD kvs k x)))
        | _ => False
      | _ => False
    | _ => False
  | _ => False
section
variable {X : Cx}
theorem set_dict (hu : X.A.units + 1 < cLine) : PSet X (fun o i v H Q => ∃ a H', o = .ref a ∧ DPut H a i v H' ∧ Q H') := by
  intro pins s σ H o i v ov iv u Q I ro ri rv h
  obtain ⟨a, H', rfl, g, q⟩ := h
  obtain rfl : ov = Value.ref a := ro
  exact d_setItem hu I g ri rv fun s4 I4 => ⟨H', I4, q⟩
theorem PSet.or {t t' : TSet} (h : PSet X t) (h' : PSet X t') : PSet X (fun o i v H Q => t o i v H Q ∨ t' o i v H Q) := by
  intro pins s σ H o i v ov iv u Q I ro ri rv q
  rcases q with q | q
  · exact h pins s σ H o i v ov iv u Q I ro ri rv q
  · exact h' pins s σ H o i v ov iv u Q I ro ri rv q
theorem key_rep {K : PySem.W.Frag} {H : Hp} {v : V} {key : Key} (h : Rp K H v (keyD key)) : v = kV key := by
  cases key with
  | inl i => exact dp_int h
  | inr z => exact dp_str h
theorem ds_put {i : Nat} {x k e : Expr} {tk te : dTE} {pos pos' : Pos} (hu : X.A.units + 1 < cLine) (hx : PE X x (tVar i)) (hk : DE X k tk) (he : DE X e te)
    (ha : ∀ v, assign (.Subscript x k pos') X.env v = (do
      let ov ← holding [v] (eval x X.env)
      let iv ← holding [v, ov] (eval k X.env)
      standAt pos'
      holding [v, ov, iv] (setItem ov iv v)
      release [v, ov, iv] []) := by intro _; rfl)
    (hs : swapsWithSole [.Subscript x k pos'] e pos.line X.env = pure false := by rfl) (hw : swappedStores [.Subscript x k pos'] e X.env = pure none := by rfl)
    (h1 : (assignEach [.Subscript x k pos'] X.env).map (·.2) = [assign (.Subscript x k pos') X.env] := by rfl) : DS X (.Assign [.Subscript x k pos'] e pos) (dPutI i tk te) :=
  PS.imp (ps_asg he (pg_sub hx hk (PSet.or set_list (set_dict hu)) ha) hs hw h1) fun E σ H q => by
    obtain ⟨F, m, o, ρ, S, E', rel, t, ok⟩ := q
    unfold dPutI at t
    split at t
    · rename_i xs e0
      obtain ⟨a, h1, h2, _⟩ := rel.sl i _ e0
      refine ⟨F, m, o, ρ, S, _, rel, t, fun d S1 m1 H1 v h r g q => ?_⟩
      split at h
      · rename_i y
        refine ⟨_, h2, F, m1, o, ρ, S1, _, r, h, fun kd S2 m2 H2 w hh r2 g2 q2 => ?_⟩
        split at hh
        · rename_i j
          obtain ⟨n, hn, hh⟩ := hh
          obtain ⟨b, k1, k2, ws, k3, k4⟩ := r2.sl i _ e0
          have hb := k1.symm.trans h1
          cases hb
          refine .inl ⟨_, ws, j, n, rfl, dp_int q2, k3, by rw [RpAll.length k4]; exact hn, ?_⟩
          have hi : i < ρ.length := (List.getElem?_eq_some_iff.mp e0).1
          obtain ⟨r3, g3⟩ := r2.wrO (u := .lst (ws.set n v)) (c := .lst (xs.set n y)) h1 hi h2 ⟨_, upd_same, RpAll.sub (fz_wr (.inr (.inr ⟨i, h1⟩))) (RpAll.set (Rp.sub g2.z q) n k4)⟩
          exact ok.nx _ S2 m2 o σ _ hh r3 ((g.trans g2).trans g3)
        · exact hh.elim
      · exact h.elim
    · rename_i n e0
      obtain ⟨h0, a, h2, h1⟩ := rel.sl i _ e0
      refine ⟨F, m, o, ρ, S, _, rel, t, fun d S1 m1 H1 v h r g q => ?_⟩
      split at h
      · rename_i y
        refine ⟨_, h2, F, m1, o, ρ, S1, _, r, h, fun kd S2 m2 H2 w hh r2 g2 q2 => ?_⟩
        split at hh
        · rename_i key
          split at hh
          · rename_i kvs e2
            obtain ⟨key, rfl, hl, hh⟩ := withKey_of hh
            have ha2 : m2 n = some a := g2.m n a (g.m n a h1)
            obtain ⟨c, e3, ws, k3, k4⟩ : ∃ c, S2[n]? = some c ∧ ∃ ws, H2 a = some (.dK ws) ∧ KRp X.K (Fz H2 (Mu F m2 o)) ws kvs := by
              obtain ⟨c, e3, k⟩ := r2.st.is n a ha2
              have := e3.symm.trans e2
              cases this
              obtain ⟨ws, k1, k2⟩ := k
              exact ⟨_, e3, ws, k1, k2⟩
            have el : ws.length = kvs.length := by
              have := congrArg List.length (KRp.keys k4)
              rwa [List.length_map, List.length_map] at this
            have hkv : w = kV key := key_rep (H := Fz H2 (Mu F m2 o)) q2
            refine .inr ⟨a, _, rfl, by rw [hkv]; exact DPut.k k3 (by rw [el]; exact hl), ?_⟩
            have hn : n < S2.length := (List.getElem?_eq_some_iff.mp e3).1
            obtain ⟨r3, g3⟩ := r2.wrS (u := .dK (putK ws key v)) (c := .dK (putD kvs key y)) ha2 hn ⟨_, upd_same, KRp.sub (fz_wr (.inr (.inl ⟨n, ha2⟩))) (KRp.put k4 (Rp.sub g2.z q))⟩
            exact ok.nx _ _ m2 o σ _ hh r3 ((g.trans g2).trans g3)
          · exact hh.elim
        · exact hh.elim
      · exact h.elim
    · exact t.elim
end
end L3

set_option maxHeartbeats 4000000
namespace L3
open PySem PySem.Spec L2

theorem u1 {A : Around} {k : Nat} (hr : Room k A) : A.units + 1 < cLine := by have := hr.un; omega
theorem u64 {A : Around} {k : Nat} (hr : Room k A) : A.units + 64 < cLine := by have := hr.un; omega
theorem u65 {A : Around} {k : Nat} (hr : Room k A) : A.units + 65 < cLine := by have := hr.un; omega
/-- a def of the module that keeps its reading -/
abbrev Cal (P : Program) (w : World) (K : PySem.W.Frag) (mg : Str → Option Value) (base : Heap) (x : Str) (L n : Nat) (ps : List Str) (tf : dFn) : Prop :=
  ∃ (f : Addr) (fd : FuncData), FnOk P w K mg base CX0 L f fd ps (spD K n tf) ∧ mg x = some (.ref f) ∧ PySem.W.keepIn K (.ref f) = true ∧ Binds K fd ps []
section
variable {X : Cx}
theorem de_cal {n L : Nat} {tf : dFn} {tas : dTA} {ps : List Str} {x : Str} {p pos : Pos} {e : Expr} {es : List Expr} (C : Cal X.prog X.w X.K X.mg X.base x L n ps tf) (hr : Room L X.A) (hg : Gl X x) (ha : DA X (e :: es) tas)
    (hdb : (x == ("__debug__" : Str)) = false := by decide) (he : starEach (e :: es) X.env = (false, eval e X.env) :: starEach es X.env := by rfl) (hpl : (backTo pos (starEach es X.env)).any (·.1) = false := by rfl) :
    DE X (.Call (.Name x p) (e :: es) [] pos) (dCall n tf tas) := by
  obtain ⟨f, fd, F, m, k, b⟩ := C
  exact de_call F hr m k b hg ha hdb he hpl
theorem de_cal0 {L : Nat} {tf : dFn} {ps : List Str} {x : Str} {p pos : Pos} (C : Cal X.prog X.w X.K X.mg X.base x L 0 ps tf) (hr : Room L X.A) (hg : Gl X x) (hdb : (x == ("__debug__" : Str)) = false := by decide) :
    DE X (.Call (.Name x p) [] [] pos) (dCall 0 tf dNil) := by
  obtain ⟨f, fd, F, m, k, b⟩ := C
  exact de_call0 F hr m k b hg hdb
end
theorem fn_dD {P : Program} {w : World} {K : PySem.W.Frag} {mg : Str → Option Value} {base : Heap} {x qual : Str} {st : Stmt} {f : Addr} {fd : FuncData} {N ps : List Str} {k : Nat} {t : dTS} {dvs : List V} {kws : List (Str × V)} (F : FunD K x qual (defArgs st) (defBody st) (defScope st) dvs kws f fd) (Sc : FnScope N ps (defScope st)) (hl : ps.length ≤ N.length)
    (hb : ∀ (cdv : Value) (A : Around) (outer : List Env) (s : Shared) (H : Hp) (E : XK), Room k (A.deeper (PyProof.Rows.envOfC qual (defScope st) s.heap.objs.size f cdv)) →
      DSs (cxOf CX0 P w K mg base N qual (defScope st) f cdv A outer s H E).nox (defBody st) t) : FnOk P w K mg base CX0 (k + 1) f fd ps (spD K ps.length (fnT N.length t)) := by
  refine F.ok Sc (fun vs H Q E h => h.1) fun cdv A outer s H vs Q E hr h => ?_
  obtain ⟨hv, Fo, m, S, ds, kk, stor, reps, nlo, ht, hk⟩ := h
  refine ⟨_, (hb cdv A outer s H E hr).nox, ?_⟩
  refine ⟨Fo, m, o0, _, S, _, rel_start stor reps nlo (by omega), ht, ⟨fun ρ S' m' o' σ' H' h r g => ?_, fun _ _ _ _ _ _ h => h.elim, fun _ _ _ _ _ _ h => h.elim, fun d ρ S' m' o' σ' H' v h r g q => ?_⟩⟩
  · exact hk _ S' m' H' .non h rfl r.st.o0 ⟨g.f, g.z.trans fz_o0, g.m⟩ .non
  · obtain ⟨n, h⟩ := nl_of h
    refine hk d S' m' H' v h n r.st.o0 ⟨g.f, g.z.trans fz_o0, g.m⟩ ?_
    cases d with
    | d x => exact Rp.sub fz_o0 q
    | ref j => exact q
    | loc j => cases n
end L3
namespace L3
open PySem PySem.Spec L2
/-- the law's own call -/
theorem law_sp {K : PySem.W.Frag} {tf : dFn} {H : Hp} {a : Addr} {ns : List Int} {E : XK} (hS : SqL K H a (ns.map V.int)) (h : tf [.d (scrD ns)] [] fun d _ => d = .d (.bool true)) : spD K 1 tf [.ref a] H (fun v _ => v = .bl true) E := by
  have nm : ∀ a, ¬ Mu (fun _ => False) (fun _ => none) o0 a := fun a z => by
    rcases z with z | ⟨n, z⟩ | ⟨n, z⟩
    · exact z
    · cases z
    · cases z
  refine ⟨rfl, fun _ => False, fun _ => none, [], [.d (scrD ns)], _, ?_, .cons ?_ .nil, rfl, h, fun d S' m' H' v e _ _ _ r => ?_⟩
  · exact ⟨fun n c e => (by simp at e), fun n a e => (by cases e), fun n k a e => (by cases e), fun n i a e => (by cases e), fun n a e => (by cases e), fun i j a e => (by cases e), fun i a e => (by cases e), fun a z => (nm a z).elim⟩
  · exact .scr (Sub.sqL (fun b u e => Fz.of (nm b) e) hS)
  · subst e
    exact dp_bl r
end L3

set_option maxHeartbeats 4000000
namespace L3
open PySem PySem.Spec L2
theorem Br.t' {b : Bool} {A B : Prop} (e : b = true) (h : A) : Br b A B := by subst e; exact Br.t h
theorem Br.f' {b : Bool} {A B : Prop} (e : b = false) (h : B) : Br b A B := by subst e; exact Br.f h
theorem Br.d {p : Prop} [Decidable p] {A B : Prop} (h : p → A) (h' : ¬ p → B) : Br (decide p) A B := Br.i (fun e => h (of_decide_eq_true e)) (fun e => h' (of_decide_eq_false e))
theorem Br.dT {p : Prop} [Decidable p] {A B : Prop} (e : p) (h : A) : Br (decide p) A B := Br.t' (decide_eq_true e) h
theorem Br.dF {p : Prop} [Decidable p] {A B : Prop} (e : ¬ p) (h : B) : Br (decide p) A B := Br.f' (decide_eq_false e) h
theorem At.nat {α : Type} {xs : List α} {k : α → Prop} {i : Nat} {z : α} (e : xs[i]? = some z) (h : k z) : At xs (i : Int) k := ⟨z, atI_nat e, h⟩
theorem At.int {α : Type} {xs : List α} {k : α → Prop} {i : Int} {z : α} (h0 : 0 ≤ i) (e : xs[i.toNat]? = some z) (h : k z) : At xs i k := by
  have : i = (i.toNat : Int) := by omega
  rw [this]
  exact ⟨z, atI_nat e, h⟩
theorem mulL {i j : Int} (h : -18446744073709551616 < i) (h' : i < 18446744073709551616) : CMul i j := .inl ⟨by omega, by omega⟩
theorem mulR {i j : Int} (h : -18446744073709551616 < j) (h' : j < 18446744073709551616) : CMul i j := .inr ⟨by omega, by omega⟩
theorem pow_ok {i j : Int} (h : 0 ≤ j ∧ j ≤ 1000000 ∧ i.natAbs < 18446744073709551616) : CPow i j := h
theorem div_ok {i j : Int} (h : 0 < j ∧ j < 1073741824) : CDiv i j := h
theorem small_ok {i : Int} (h : -4611686018427387904 ≤ i ∧ i < 4611686018427387904) : small62 i := ⟨by omega, by omega⟩
theorem line_le {n : Nat} (h : n ≤ 16777216) : n ≤ sizeLine := by rw [sizeLine_eq]; exact h
theorem line_lt {n : Nat} (h : n < 16777216) : n < sizeLine := by rw [sizeLine_eq]; exact h

/-! ### loops by what holds between the turns -/
theorem loop_inv0 {ok : Env3 → Sto → Prop} {g : dTG} {b : dTS} {E : dEnds} (I : Nat → Env3 → Sto → Prop) : ∀ (xs : List D) (i : Nat),
    (∀ j x, xs[j]? = some x → ∀ ρ S (K : Env3 → Sto → Prop), I (i + j) ρ S → (∀ ρ' S', I (i + j + 1) ρ' S' → K ρ' S') → ok ρ S ∧ g x ρ S fun ρ1 S1 => b { E with nx := K, ct := K, bk := E.nx } ρ1 S1) →
    (∀ ρ S, I (i + xs.length) ρ S → ok ρ S ∧ E.nx ρ S) → ∀ ρ S, I i ρ S → dLoop ok g b E xs ρ S
  | [], i, _, done, ρ, S, h => done ρ S h
  | x :: xs, i, step, done, ρ, S, h => by
    refine step 0 x rfl ρ S _ h fun ρ' S' h' => ?_
    refine loop_inv0 I xs (i + 1) (fun j y e ρ S K hI hK => ?_) (fun ρ S hI => done ρ S ?_) ρ' S' h'
    · have e1 : i + (j + 1) = i + 1 + j := by omega
      have := step (j + 1) y (by simpa using e) ρ S K
      rw [e1] at this
      exact this hI hK
    · rw [List.length_cons]
      have e1 : i + (xs.length + 1) = i + 1 + xs.length := by omega
      rw [e1]
      exact hI
theorem loop_inv {ok : Env3 → Sto → Prop} {g : dTG} {b : dTS} {E : dEnds} (I : Nat → Env3 → Sto → Prop) (xs : List D) (i : Nat)
    (h1 : ∀ j x, xs[j]? = some x → ∀ ρ S (K : Env3 → Sto → Prop), I (i + j) ρ S → (∀ ρ' S', I (i + j + 1) ρ' S' → K ρ' S') → ok ρ S ∧ g x ρ S fun ρ1 S1 => b { E with nx := K, ct := K, bk := E.nx } ρ1 S1)
    (h2 : ∀ ρ S, I (i + xs.length) ρ S → ok ρ S ∧ E.nx ρ S) (ρ : Env3) (S : Sto) (h : I i ρ S) : dLp ok g b E xs ρ S := dLp_of (loop_inv0 I xs i h1 h2 ρ S h)
theorem comp_inv {ok : Env3 → Sto → Prop} {g : dTG} {tt : dTT} {te : dTE} {ρ : Env3} {Q : List D → Sto → Prop} (I : Nat → List D → Sto → Prop) : ∀ (xs : List D) (i : Nat),
    (∀ j x, xs[j]? = some x → ∀ acc S (K : DK) (K' : Sto → Prop), I (i + j) acc S → (∀ y S', I (i + j + 1) (acc ++ [y]) S' → K (.d y) S') → (∀ S', I (i + j + 1) acc S' → K' S') →
      ok ρ S ∧ acc.length < sizeLine ∧ ((∀ d S', K d S' → ∃ y, d = .d y) → g x ρ S fun ρ1 S1 => tt ρ1 S1 fun b S2 => Br b (te ρ1 S2 K) (K' S2))) →
    (∀ acc S, I (i + xs.length) acc S → ok ρ S ∧ Q acc S) → ∀ acc S, I i acc S → cLoop ok g tt te ρ Q xs acc S
  | [], i, _, done, acc, S, h => done acc S h
  | x :: xs, i, step, done, acc, S, h => by
    have ih := comp_inv (ok := ok) (g := g) (tt := tt) (te := te) (ρ := ρ) (Q := Q) I xs (i + 1) (fun j y e acc S K K' hI hK hK' => by
      have e1 : i + (j + 1) = i + 1 + j := by omega
      have := step (j + 1) y (by simpa using e) acc S K K'
      rw [e1] at this
      exact this hI hK hK') (fun acc S hI => done acc S (by
      rw [List.length_cons]
      have e1 : i + (xs.length + 1) = i + 1 + xs.length := by omega
      rw [e1]
      exact hI))
    obtain ⟨h1, hl, h2⟩ := step 0 x rfl acc S (fun d S3 => withDs [d] fun ys => acc.length < sizeLine ∧ cLoop ok g tt te ρ Q xs (acc ++ ys) S3) (fun S2 => cLoop ok g tt te ρ Q xs acc S2) h
      (fun y S' hI => ⟨(step 0 x rfl acc S (fun d S3 => True) (fun _ => True) h (fun _ _ _ => trivial) (fun _ _ => trivial)).2.1, ih _ _ hI⟩) (fun S' hI => ih _ _ hI)
    refine ⟨h1, h2 fun d S' hk => ?_⟩
    cases d with
    | d y => exact ⟨y, rfl⟩
    | ref n => exact hk.elim
    | loc n => exact hk.elim
/-- a comprehension that changes nothing: the source's items through f -/
theorem comp_map {g : dTG} {te : dTE} {ρ : Env3} {S : Sto} {Q : List D → Sto → Prop} {ok : Env3 → Sto → Prop} (f : D → D) (xs : List D) (hok : ok ρ S) (hl : xs.length ≤ 16777216)
    (h : ∀ x ∈ xs, ∀ (K : DK) (K' : Sto → Prop), K (.d (f x)) S → g x ρ S fun ρ1 S1 => dYes ρ1 S1 fun b S2 => Br b (te ρ1 S2 K) (K' S2)) (q : Q (xs.map f) S) : cLoop ok g dYes te ρ Q xs [] S := by
  refine comp_inv (fun i acc S' => S' = S ∧ acc = (xs.take i).map f) xs 0 (fun j x e acc S' K K' hI hK hK' => ?_) (fun acc S' hI => ?_) [] S ⟨rfl, rfl⟩
  · obtain ⟨rfl, rfl⟩ := hI
    refine ⟨hok, ?_, fun _ => h x (List.mem_of_getElem? e) K K' (hK _ _ ⟨rfl, ?_⟩)⟩
    · have := (List.getElem?_eq_some_iff.mp e).1
      refine line_lt ?_
      rw [List.length_map, List.length_take]
      omega
    · rw [Nat.zero_add] at *
      rw [List.take_add_one, e, List.map_append]
      rfl
  · obtain ⟨rfl, rfl⟩ := hI
    rw [Nat.zero_add, List.take_length]
    exact ⟨hok, q⟩
end L3

namespace Gn
open PySem PySem.Spec L2 L3
def top (i : Nat) : Stmt := PySem.Challenge.pw_shadehall_k20_whole_passings_seen_from_e.main.body.getD i (.Pass ⟨0, 0, 0, 0⟩)
abbrev FnP (K : PySem.W.Frag) (x : Str) (st : Stmt) (f : Addr) (fd : FuncData) : Prop := FunD K x x (defArgs st) (defBody st) (defScope st) [] [] f fd
/-! ### still_table -/
abbrev s_still_table : Stmt := top 1
abbrev nm_still_table : List Str := []
abbrev ps_still_table : List Str := []
theorem sc_still_table : FnScope nm_still_table ps_still_table (defScope s_still_table) := ⟨rfl, rfl, rfl, by decide +kernel, rfl, by decide +kernel, by decide +kernel⟩
noncomputable def t_still_table : dTS := dRet (dTup (dCons (dTup (dCons (dC (.int 1)) (dCons (dC (.int 0)) (dNil)))) (dCons (dTup (dCons (dC (.int 0)) (dCons (dC (.int 1)) (dNil)))) (dNil))))
theorem rx_still_table : ∃ r : dFn, r = fnT 0 t_still_table := ⟨_, rfl⟩
@[irreducible] noncomputable def rd_still_table : dFn := rx_still_table.choose
theorem rd_still_table_is : rd_still_table = fnT 0 t_still_table := by unfold rd_still_table; exact rx_still_table.choose_spec
theorem cal_still_table {P : Program} {w : World} {K : PySem.W.Frag} {mg : Str → Option Value} {base : Heap} {f : Addr} {fd : FuncData} (F : FnP K "still_table" s_still_table f fd) (m : mg "still_table" = some (.ref f)) : Cal P w K mg base "still_table" 1 0 ps_still_table rd_still_table :=
  by
  rw [rd_still_table_is]
  exact ⟨f, fd, fn_dD F sc_still_table (by decide) (fun cdv A outer s H E hr => (dss_one (ds_ret (de_tup (da_cons (de_tup (da_cons de_int (da_cons de_int da_nil))) (da_cons (de_tup (da_cons de_int (da_cons de_int da_nil))) da_nil)))))), m, F.kp, (F.bindsN fun _ _ _ _ _ _ us hl => match us, hl with | [], _ => rfl)⟩
/-! ### table_behind -/
abbrev s_table_behind : Stmt := top 2
abbrev nm_table_behind : List Str := ["second", "first", "a", "b", "c", "d", "e", "f", "g", "h"]
abbrev ps_table_behind : List Str := ["second", "first"]
theorem sc_table_behind : FnScope nm_table_behind ps_table_behind (defScope s_table_behind) := ⟨rfl, rfl, rfl, by decide +kernel, rfl, by decide +kernel, by decide +kernel⟩
theorem lk_table_behind_0 : (defScope s_table_behind).names.lookup ("second" : Str) = some NameKind.local := by decide +kernel
theorem lk_table_behind_1 : (defScope s_table_behind).names.lookup ("first" : Str) = some NameKind.local := by decide +kernel
theorem lk_table_behind_2 : (defScope s_table_behind).names.lookup ("a" : Str) = some NameKind.local := by decide +kernel
theorem lk_table_behind_3 : (defScope s_table_behind).names.lookup ("b" : Str) = some NameKind.local := by decide +kernel
theorem lk_table_behind_4 : (defScope s_table_behind).names.lookup ("c" : Str) = some NameKind.local := by decide +kernel
theorem lk_table_behind_5 : (defScope s_table_behind).names.lookup ("d" : Str) = some NameKind.local := by decide +kernel
theorem lk_table_behind_6 : (defScope s_table_behind).names.lookup ("e" : Str) = some NameKind.local := by decide +kernel
theorem lk_table_behind_7 : (defScope s_table_behind).names.lookup ("f" : Str) = some NameKind.local := by decide +kernel
theorem lk_table_behind_8 : (defScope s_table_behind).names.lookup ("g" : Str) = some NameKind.local := by decide +kernel
theorem lk_table_behind_9 : (defScope s_table_behind).names.lookup ("h" : Str) = some NameKind.local := by decide +kernel
noncomputable def t_table_behind : dTS := dSeq (dAsg (dVar 0) (gTp (gsCons (gTp (gsCons (gNm 2) (gsCons (gNm 3) (gsNil)))) (gsCons (gTp (gsCons (gNm 4) (gsCons (gNm 5) (gsNil)))) (gsNil)))))
    (dSeq (dAsg (dVar 1) (gTp (gsCons (gTp (gsCons (gNm 6) (gsCons (gNm 7) (gsNil)))) (gsCons (gTp (gsCons (gNm 8) (gsCons (gNm 9) (gsNil)))) (gsNil)))))
    (dRet (dTup (dCons (dTup (dCons (dOp fAdd (dOp fMul (dVar 2) (dVar 6)) (dOp fMul (dVar 3) (dVar 8))) (dCons (dOp fAdd (dOp fMul (dVar 2) (dVar 7)) (dOp fMul (dVar 3) (dVar 9))) (dNil)))) (dCons (dTup (dCons (dOp fAdd (dOp fMul (dVar 4) (dVar 6)) (dOp fMul (dVar 5) (dVar 8))) (dCons (dOp fAdd (dOp fMul (dVar 4) (dVar 7)) (dOp fMul (dVar 5) (dVar 9))) (dNil)))) (dNil))))))
theorem rx_table_behind : ∃ r : dFn, r = fnT 10 t_table_behind := ⟨_, rfl⟩
@[irreducible] noncomputable def rd_table_behind : dFn := rx_table_behind.choose
theorem rd_table_behind_is : rd_table_behind = fnT 10 t_table_behind := by unfold rd_table_behind; exact rx_table_behind.choose_spec
theorem cal_table_behind {P : Program} {w : World} {K : PySem.W.Frag} {mg : Str → Option Value} {base : Heap} {f : Addr} {fd : FuncData} (F : FnP K "table_behind" s_table_behind f fd) (m : mg "table_behind" = some (.ref f)) : Cal P w K mg base "table_behind" 1 2 ps_table_behind rd_table_behind :=
  by
  rw [rd_table_behind_is]
  exact ⟨f, fd, fn_dD F sc_table_behind (by decide) (fun cdv A outer s H E hr => (dss_cons (ds_asg (vs := [2, 3, 4, 5]) (dg_tp rfl (dgs_cons (dg_tp rfl (dgs_cons (dg_nm (i := 2) sc_table_behind.nd rfl (.inl lk_table_behind_2) (.inl rfl)) (dgs_cons (dg_nm (i := 3) sc_table_behind.nd rfl (.inl lk_table_behind_3) (.inl rfl)) dgs_nil (mono_nm _)) (mono_nm _))) (dgs_cons (dg_tp rfl (dgs_cons (dg_nm (i := 4) sc_table_behind.nd rfl (.inl lk_table_behind_4) (.inl rfl)) (dgs_cons (dg_nm (i := 5) sc_table_behind.nd rfl (.inl lk_table_behind_5) (.inl rfl)) dgs_nil (mono_nm _)) (mono_nm _))) dgs_nil (mono_tp (mono_cons (mono_nm _) (mono_cons (mono_nm _) mono_nil)))) (mono_tp (mono_cons (mono_nm _) (mono_cons (mono_nm _) mono_nil))))) (de_var (pv 0 rfl (.inl lk_table_behind_0))))
      (dss_cons (ds_asg (vs := [6, 7, 8, 9]) (dg_tp rfl (dgs_cons (dg_tp rfl (dgs_cons (dg_nm (i := 6) sc_table_behind.nd rfl (.inl lk_table_behind_6) (.inl rfl)) (dgs_cons (dg_nm (i := 7) sc_table_behind.nd rfl (.inl lk_table_behind_7) (.inl rfl)) dgs_nil (mono_nm _)) (mono_nm _))) (dgs_cons (dg_tp rfl (dgs_cons (dg_nm (i := 8) sc_table_behind.nd rfl (.inl lk_table_behind_8) (.inl rfl)) (dgs_cons (dg_nm (i := 9) sc_table_behind.nd rfl (.inl lk_table_behind_9) (.inl rfl)) dgs_nil (mono_nm _)) (mono_nm _))) dgs_nil (mono_tp (mono_cons (mono_nm _) (mono_cons (mono_nm _) mono_nil)))) (mono_tp (mono_cons (mono_nm _) (mono_cons (mono_nm _) mono_nil))))) (de_var (pv 1 rfl (.inl lk_table_behind_1))))
      (dss_one (ds_ret (de_tup (da_cons (de_tup (da_cons (de_op o_add (de_op o_mul (de_var (pv 2 rfl (.inl lk_table_behind_2))) (de_var (pv 6 rfl (.inl lk_table_behind_6)))) (de_op o_mul (de_var (pv 3 rfl (.inl lk_table_behind_3))) (de_var (pv 8 rfl (.inl lk_table_behind_8))))) (da_cons (de_op o_add (de_op o_mul (de_var (pv 2 rfl (.inl lk_table_behind_2))) (de_var (pv 7 rfl (.inl lk_table_behind_7)))) (de_op o_mul (de_var (pv 3 rfl (.inl lk_table_behind_3))) (de_var (pv 9 rfl (.inl lk_table_behind_9))))) da_nil))) (da_cons (de_tup (da_cons (de_op o_add (de_op o_mul (de_var (pv 4 rfl (.inl lk_table_behind_4))) (de_var (pv 6 rfl (.inl lk_table_behind_6)))) (de_op o_mul (de_var (pv 5 rfl (.inl lk_table_behind_5))) (de_var (pv 8 rfl (.inl lk_table_behind_8))))) (da_cons (de_op o_add (de_op o_mul (de_var (pv 4 rfl (.inl lk_table_behind_4))) (de_var (pv 7 rfl (.inl lk_table_behind_7)))) (de_op o_mul (de_var (pv 5 rfl (.inl lk_table_behind_5))) (de_var (pv 9 rfl (.inl lk_table_behind_9))))) da_nil))) da_nil)))))))), m, F.kp, (F.bindsN fun _ _ _ _ _ _ us hl => match us, hl with | [_, _], _ => rfl)⟩
/-! ### sign_table -/
abbrev s_sign_table : Stmt := top 3
abbrev nm_sign_table : List Str := ["sign"]
abbrev ps_sign_table : List Str := ["sign"]
theorem sc_sign_table : FnScope nm_sign_table ps_sign_table (defScope s_sign_table) := ⟨rfl, rfl, rfl, by decide +kernel, rfl, by decide +kernel, by decide +kernel⟩
theorem lk_sign_table_0 : (defScope s_sign_table).names.lookup ("sign" : Str) = some NameKind.local := by decide +kernel
noncomputable def t_sign_table : dTS := dSeq (dIfS (dB (dOp fEq (dVar 0) (dC (.str (Str.ofString "g"))))) (dRet (dTup (dCons (dTup (dCons (dC (.int 1)) (dCons (dC (.int 1)) (dNil)))) (dCons (dTup (dCons (dC (.int 0)) (dCons (dC (.int 1)) (dNil)))) (dNil))))) (dNext))
    (dRet (dIfE (dB (dOp fEq (dVar 0) (dC (.str (Str.ofString "l"))))) (dTup (dCons (dTup (dCons (dC (.int 1)) (dCons (dC (.int 0)) (dNil)))) (dCons (dTup (dCons (dC (.int 1)) (dCons (dC (.int 1)) (dNil)))) (dNil)))) (dTup (dCons (dTup (dCons (dC (.int 1)) (dCons (dC (.int 0)) (dNil)))) (dCons (dTup (dCons (dUn fNeg (dC (.int 1))) (dCons (dC (.int 1)) (dNil)))) (dNil))))))
theorem rx_sign_table : ∃ r : dFn, r = fnT 1 t_sign_table := ⟨_, rfl⟩
@[irreducible] noncomputable def rd_sign_table : dFn := rx_sign_table.choose
theorem rd_sign_table_is : rd_sign_table = fnT 1 t_sign_table := by unfold rd_sign_table; exact rx_sign_table.choose_spec
theorem cal_sign_table {P : Program} {w : World} {K : PySem.W.Frag} {mg : Str → Option Value} {base : Heap} {f : Addr} {fd : FuncData} (F : FnP K "sign_table" s_sign_table f fd) (m : mg "sign_table" = some (.ref f)) : Cal P w K mg base "sign_table" 1 1 ps_sign_table rd_sign_table :=
  by
  rw [rd_sign_table_is]
  exact ⟨f, fd, fn_dD F sc_sign_table (by decide) (fun cdv A outer s H E hr => (dss_cons (ds_if (dt_cmp (o_eq (u64 hr)) (de_var (pv 0 rfl (.inl lk_sign_table_0))) de_str) (dss_one (ds_ret (de_tup (da_cons (de_tup (da_cons de_int (da_cons de_int da_nil))) (da_cons (de_tup (da_cons de_int (da_cons de_int da_nil))) da_nil))))) dss_nil)
      (dss_one (ds_ret (de_ifExp (dt_cmp (o_eq (u64 hr)) (de_var (pv 0 rfl (.inl lk_sign_table_0))) de_str) (de_tup (da_cons (de_tup (da_cons de_int (da_cons de_int da_nil))) (da_cons (de_tup (da_cons de_int (da_cons de_int da_nil))) da_nil))) (de_tup (da_cons (de_tup (da_cons de_int (da_cons de_int da_nil))) (da_cons (de_tup (da_cons (de_un u_neg de_int) (da_cons de_int da_nil))) da_nil)))))))), m, F.kp, (F.bindsN fun _ _ _ _ _ _ us hl => match us, hl with | [_], _ => rfl)⟩
/-! ### train_table -/
abbrev s_train_table : Stmt := top 4
abbrev nm_train_table : List Str := ["train", "table", "sign"]
abbrev ps_train_table : List Str := ["train"]
theorem sc_train_table : FnScope nm_train_table ps_train_table (defScope s_train_table) := ⟨rfl, rfl, rfl, by decide +kernel, rfl, by decide +kernel, by decide +kernel⟩
theorem lk_train_table_0 : (defScope s_train_table).names.lookup ("train" : Str) = some NameKind.local := by decide +kernel
theorem lk_train_table_1 : (defScope s_train_table).names.lookup ("table" : Str) = some NameKind.local := by decide +kernel
theorem lk_train_table_2 : (defScope s_train_table).names.lookup ("sign" : Str) = some NameKind.local := by decide +kernel
noncomputable def t_train_table : dTS := dSeq (dSet 1 (dCall 0 (rd_still_table) dNil))
    (dSeq (dFor (dItV (dVar 0)) (gNm 2) (dSet 1 (dCall 2 (rd_table_behind) (dCons (dCall 1 (rd_sign_table) (dCons (dVar 2) (dNil))) (dCons (dVar 1) (dNil))))))
    (dRet (dVar 1)))
theorem rx_train_table : ∃ r : dFn, r = fnT 3 t_train_table := ⟨_, rfl⟩
@[irreducible] noncomputable def rd_train_table : dFn := rx_train_table.choose
theorem rd_train_table_is : rd_train_table = fnT 3 t_train_table := by unfold rd_train_table; exact rx_train_table.choose_spec
theorem cal_train_table {P : Program} {w : World} {K : PySem.W.Frag} {mg : Str → Option Value} {base : Heap} {f : Addr} {fd : FuncData} (F : FnP K "train_table" s_train_table f fd) (m : mg "train_table" = some (.ref f)) (C_sign_table : Cal P w K mg base "sign_table" 1 1 ps_sign_table (rd_sign_table)) (C_still_table : Cal P w K mg base "still_table" 1 0 ps_still_table (rd_still_table)) (C_table_behind : Cal P w K mg base "table_behind" 1 2 ps_table_behind (rd_table_behind)) : Cal P w K mg base "train_table" 2 1 ps_train_table rd_train_table :=
  by
  rw [rd_train_table_is]
  exact ⟨f, fd, fn_dD F sc_train_table (by decide) (fun cdv A outer s H E hr => (dss_cons (ds_set (i := 1) sc_train_table.nd rfl (.inl lk_train_table_1) (de_cal0 C_still_table (hr.mono (by omega)) rfl) (.inl rfl))
      (dss_cons (ds_for (vs := [2]) PassesOwn.never rfl (dg_nm (i := 2) sc_train_table.nd rfl (.inl lk_train_table_2) (.inl rfl)) (di_any (de_var (pv 0 rfl (.inl lk_train_table_0)))) (dss_one (ds_set (i := 1) sc_train_table.nd rfl (.inl lk_train_table_1) (de_cal C_table_behind (hr.mono (by omega)) rfl (da_cons (de_cal C_sign_table (hr.mono (by omega)) rfl (da_cons (de_var (pv 2 rfl (.inl lk_train_table_2))) da_nil)) (da_cons (de_var (pv 1 rfl (.inl lk_train_table_1))) da_nil))) (.inl rfl))))
      (dss_one (ds_ret (de_var (pv 1 rfl (.inl lk_train_table_1)))))))), m, F.kp, (F.bindsN fun _ _ _ _ _ _ us hl => match us, hl with | [_], _ => rfl)⟩
/-! ### ray_past_train -/
abbrev s_ray_past_train : Stmt := top 5
abbrev nm_ray_past_train : List Str := ["train", "height", "slope", "a", "b", "c", "d"]
abbrev ps_ray_past_train : List Str := ["train", "height", "slope"]
theorem sc_ray_past_train : FnScope nm_ray_past_train ps_ray_past_train (defScope s_ray_past_train) := ⟨rfl, rfl, rfl, by decide +kernel, rfl, by decide +kernel, by decide +kernel⟩
theorem lk_ray_past_train_0 : (defScope s_ray_past_train).names.lookup ("train" : Str) = some NameKind.local := by decide +kernel
theorem lk_ray_past_train_1 : (defScope s_ray_past_train).names.lookup ("height" : Str) = some NameKind.local := by decide +kernel
theorem lk_ray_past_train_2 : (defScope s_ray_past_train).names.lookup ("slope" : Str) = some NameKind.local := by decide +kernel
theorem lk_ray_past_train_3 : (defScope s_ray_past_train).names.lookup ("a" : Str) = some NameKind.local := by decide +kernel
theorem lk_ray_past_train_4 : (defScope s_ray_past_train).names.lookup ("b" : Str) = some NameKind.local := by decide +kernel
theorem lk_ray_past_train_5 : (defScope s_ray_past_train).names.lookup ("c" : Str) = some NameKind.local := by decide +kernel
theorem lk_ray_past_train_6 : (defScope s_ray_past_train).names.lookup ("d" : Str) = some NameKind.local := by decide +kernel
noncomputable def t_ray_past_train : dTS := dSeq (dAsg (dCall 1 (rd_train_table) (dCons (dVar 0) (dNil))) (gTp (gsCons (gTp (gsCons (gNm 3) (gsCons (gNm 4) (gsNil)))) (gsCons (gTp (gsCons (gNm 5) (gsCons (gNm 6) (gsNil)))) (gsNil)))))
    (dRet (dTup (dCons (dOp fAdd (dOp fMul (dVar 3) (dVar 1)) (dOp fMul (dVar 4) (dVar 2))) (dCons (dOp fAdd (dOp fMul (dVar 5) (dVar 1)) (dOp fMul (dVar 6) (dVar 2))) (dNil)))))
theorem rx_ray_past_train : ∃ r : dFn, r = fnT 7 t_ray_past_train := ⟨_, rfl⟩
@[irreducible] noncomputable def rd_ray_past_train : dFn := rx_ray_past_train.choose
theorem rd_ray_past_train_is : rd_ray_past_train = fnT 7 t_ray_past_train := by unfold rd_ray_past_train; exact rx_ray_past_train.choose_spec
theorem cal_ray_past_train {P : Program} {w : World} {K : PySem.W.Frag} {mg : Str → Option Value} {base : Heap} {f : Addr} {fd : FuncData} (F : FnP K "ray_past_train" s_ray_past_train f fd) (m : mg "ray_past_train" = some (.ref f)) (C_train_table : Cal P w K mg base "train_table" 2 1 ps_train_table (rd_train_table)) : Cal P w K mg base "ray_past_train" 3 3 ps_ray_past_train rd_ray_past_train :=
  by
  rw [rd_ray_past_train_is]
  exact ⟨f, fd, fn_dD F sc_ray_past_train (by decide) (fun cdv A outer s H E hr => (dss_cons (ds_asg (vs := [3, 4, 5, 6]) (dg_tp rfl (dgs_cons (dg_tp rfl (dgs_cons (dg_nm (i := 3) sc_ray_past_train.nd rfl (.inl lk_ray_past_train_3) (.inl rfl)) (dgs_cons (dg_nm (i := 4) sc_ray_past_train.nd rfl (.inl lk_ray_past_train_4) (.inl rfl)) dgs_nil (mono_nm _)) (mono_nm _))) (dgs_cons (dg_tp rfl (dgs_cons (dg_nm (i := 5) sc_ray_past_train.nd rfl (.inl lk_ray_past_train_5) (.inl rfl)) (dgs_cons (dg_nm (i := 6) sc_ray_past_train.nd rfl (.inl lk_ray_past_train_6) (.inl rfl)) dgs_nil (mono_nm _)) (mono_nm _))) dgs_nil (mono_tp (mono_cons (mono_nm _) (mono_cons (mono_nm _) mono_nil)))) (mono_tp (mono_cons (mono_nm _) (mono_cons (mono_nm _) mono_nil))))) (de_cal C_train_table (hr.mono (by omega)) rfl (da_cons (de_var (pv 0 rfl (.inl lk_ray_past_train_0))) da_nil)))
      (dss_one (ds_ret (de_tup (da_cons (de_op o_add (de_op o_mul (de_var (pv 3 rfl (.inl lk_ray_past_train_3))) (de_var (pv 1 rfl (.inl lk_ray_past_train_1)))) (de_op o_mul (de_var (pv 4 rfl (.inl lk_ray_past_train_4))) (de_var (pv 2 rfl (.inl lk_ray_past_train_2))))) (da_cons (de_op o_add (de_op o_mul (de_var (pv 5 rfl (.inl lk_ray_past_train_5))) (de_var (pv 1 rfl (.inl lk_ray_past_train_1)))) (de_op o_mul (de_var (pv 6 rfl (.inl lk_ray_past_train_6))) (de_var (pv 2 rfl (.inl lk_ray_past_train_2))))) da_nil))))))), m, F.kp, (F.bindsN fun _ _ _ _ _ _ us hl => match us, hl with | [_, _, _], _ => rfl)⟩
/-! ### is_train_table -/
abbrev s_is_train_table : Stmt := top 6
abbrev nm_is_train_table : List Str := ["table", "a", "b", "c", "d"]
abbrev ps_is_train_table : List Str := ["table"]
theorem sc_is_train_table : FnScope nm_is_train_table ps_is_train_table (defScope s_is_train_table) := ⟨rfl, rfl, rfl, by decide +kernel, rfl, by decide +kernel, by decide +kernel⟩
theorem lk_is_train_table_0 : (defScope s_is_train_table).names.lookup ("table" : Str) = some NameKind.local := by decide +kernel
theorem lk_is_train_table_1 : (defScope s_is_train_table).names.lookup ("a" : Str) = some NameKind.local := by decide +kernel
theorem lk_is_train_table_2 : (defScope s_is_train_table).names.lookup ("b" : Str) = some NameKind.local := by decide +kernel
theorem lk_is_train_table_3 : (defScope s_is_train_table).names.lookup ("c" : Str) = some NameKind.local := by decide +kernel
theorem lk_is_train_table_4 : (defScope s_is_train_table).names.lookup ("d" : Str) = some NameKind.local := by decide +kernel
noncomputable def t_is_train_table : dTS := dSeq (dAsg (dVar 0) (gTp (gsCons (gTp (gsCons (gNm 1) (gsCons (gNm 2) (gsNil)))) (gsCons (gTp (gsCons (gNm 3) (gsCons (gNm 4) (gsNil)))) (gsNil)))))
    (dRet (dOp fEq (dOp fSub (dOp fMul (dVar 1) (dVar 4)) (dOp fMul (dVar 2) (dVar 3))) (dC (.int 1))))
theorem rx_is_train_table : ∃ r : dFn, r = fnT 5 t_is_train_table := ⟨_, rfl⟩
@[irreducible] noncomputable def rd_is_train_table : dFn := rx_is_train_table.choose
theorem rd_is_train_table_is : rd_is_train_table = fnT 5 t_is_train_table := by unfold rd_is_train_table; exact rx_is_train_table.choose_spec
theorem cal_is_train_table {P : Program} {w : World} {K : PySem.W.Frag} {mg : Str → Option Value} {base : Heap} {f : Addr} {fd : FuncData} (F : FnP K "is_train_table" s_is_train_table f fd) (m : mg "is_train_table" = some (.ref f)) : Cal P w K mg base "is_train_table" 1 1 ps_is_train_table rd_is_train_table :=
  by
  rw [rd_is_train_table_is]
  exact ⟨f, fd, fn_dD F sc_is_train_table (by decide) (fun cdv A outer s H E hr => (dss_cons (ds_asg (vs := [1, 2, 3, 4]) (dg_tp rfl (dgs_cons (dg_tp rfl (dgs_cons (dg_nm (i := 1) sc_is_train_table.nd rfl (.inl lk_is_train_table_1) (.inl rfl)) (dgs_cons (dg_nm (i := 2) sc_is_train_table.nd rfl (.inl lk_is_train_table_2) (.inl rfl)) dgs_nil (mono_nm _)) (mono_nm _))) (dgs_cons (dg_tp rfl (dgs_cons (dg_nm (i := 3) sc_is_train_table.nd rfl (.inl lk_is_train_table_3) (.inl rfl)) (dgs_cons (dg_nm (i := 4) sc_is_train_table.nd rfl (.inl lk_is_train_table_4) (.inl rfl)) dgs_nil (mono_nm _)) (mono_nm _))) dgs_nil (mono_tp (mono_cons (mono_nm _) (mono_cons (mono_nm _) mono_nil)))) (mono_tp (mono_cons (mono_nm _) (mono_cons (mono_nm _) mono_nil))))) (de_var (pv 0 rfl (.inl lk_is_train_table_0))))
      (dss_one (ds_ret (de_cmp (o_eq (u64 hr)) (de_op o_sub (de_op o_mul (de_var (pv 1 rfl (.inl lk_is_train_table_1))) (de_var (pv 4 rfl (.inl lk_is_train_table_4)))) (de_op o_mul (de_var (pv 2 rfl (.inl lk_is_train_table_2))) (de_var (pv 3 rfl (.inl lk_is_train_table_3))))) de_int))))), m, F.kp, (F.bindsN fun _ _ _ _ _ _ us hl => match us, hl with | [_], _ => rfl)⟩
/-! ### gap_back -/
abbrev s_gap_back : Stmt := top 7
abbrev nm_gap_back : List Str := []
abbrev ps_gap_back : List Str := []
theorem sc_gap_back : FnScope nm_gap_back ps_gap_back (defScope s_gap_back) := ⟨rfl, rfl, rfl, by decide +kernel, rfl, by decide +kernel, by decide +kernel⟩
noncomputable def t_gap_back : dTS := dRet (dC (.str (Str.ofString "hghghghghgh")))
theorem rx_gap_back : ∃ r : dFn, r = fnT 0 t_gap_back := ⟨_, rfl⟩
@[irreducible] noncomputable def rd_gap_back : dFn := rx_gap_back.choose
theorem rd_gap_back_is : rd_gap_back = fnT 0 t_gap_back := by unfold rd_gap_back; exact rx_gap_back.choose_spec
theorem cal_gap_back {P : Program} {w : World} {K : PySem.W.Frag} {mg : Str → Option Value} {base : Heap} {f : Addr} {fd : FuncData} (F : FnP K "gap_back" s_gap_back f fd) (m : mg "gap_back" = some (.ref f)) : Cal P w K mg base "gap_back" 1 0 ps_gap_back rd_gap_back :=
  by
  rw [rd_gap_back_is]
  exact ⟨f, fd, fn_dD F sc_gap_back (by decide) (fun cdv A outer s H E hr => (dss_one (ds_ret de_str))), m, F.kp, (F.bindsN fun _ _ _ _ _ _ us hl => match us, hl with | [], _ => rfl)⟩
/-! ### last_part -/
abbrev s_last_part : Stmt := top 8
abbrev nm_last_part : List Str := ["table", "a", "b", "c", "d"]
abbrev ps_last_part : List Str := ["table"]
theorem sc_last_part : FnScope nm_last_part ps_last_part (defScope s_last_part) := ⟨rfl, rfl, rfl, by decide +kernel, rfl, by decide +kernel, by decide +kernel⟩
theorem lk_last_part_0 : (defScope s_last_part).names.lookup ("table" : Str) = some NameKind.local := by decide +kernel
theorem lk_last_part_1 : (defScope s_last_part).names.lookup ("a" : Str) = some NameKind.local := by decide +kernel
theorem lk_last_part_2 : (defScope s_last_part).names.lookup ("b" : Str) = some NameKind.local := by decide +kernel
theorem lk_last_part_3 : (defScope s_last_part).names.lookup ("c" : Str) = some NameKind.local := by decide +kernel
theorem lk_last_part_4 : (defScope s_last_part).names.lookup ("d" : Str) = some NameKind.local := by decide +kernel
noncomputable def t_last_part : dTS := dSeq (dAsg (dVar 0) (gTp (gsCons (gTp (gsCons (gNm 1) (gsCons (gNm 2) (gsNil)))) (gsCons (gTp (gsCons (gNm 3) (gsCons (gNm 4) (gsNil)))) (gsNil)))))
    (dSeq (dIfS (dOr (dB (dOp fEq (dVar 1) (dC (.int 0)))) (dAnd (dB (dOp fGt (dCB fAbs (dCons (dVar 1) (dNil))) (dCB fAbs (dCons (dVar 3) (dNil))))) (dB (dOp fGt (dOp fMul (dVar 1) (dVar 3)) (dC (.int 0)))))) (dRet (dTup (dCons (dC (.str (Str.ofString "g"))) (dCons (dTup (dCons (dTup (dCons (dOp fSub (dVar 1) (dVar 3)) (dCons (dOp fSub (dVar 2) (dVar 4)) (dNil)))) (dCons (dTup (dCons (dVar 3) (dCons (dVar 4) (dNil)))) (dNil)))) (dNil))))) (dNext))
    (dSeq (dIfS (dB (dOp fGt (dCB fAbs (dCons (dVar 1) (dNil))) (dCB fAbs (dCons (dVar 3) (dNil))))) (dRet (dTup (dCons (dCall 0 (rd_gap_back) dNil) (dCons (dTup (dCons (dTup (dCons (dOp fAdd (dVar 1) (dVar 3)) (dCons (dOp fAdd (dVar 2) (dVar 4)) (dNil)))) (dCons (dTup (dCons (dVar 3) (dCons (dVar 4) (dNil)))) (dNil)))) (dNil))))) (dNext))
    (dSeq (dIfS (dB (dOp fGt (dOp fMul (dVar 1) (dVar 3)) (dC (.int 0)))) (dRet (dTup (dCons (dC (.str (Str.ofString "l"))) (dCons (dTup (dCons (dTup (dCons (dVar 1) (dCons (dVar 2) (dNil)))) (dCons (dTup (dCons (dOp fSub (dVar 3) (dVar 1)) (dCons (dOp fSub (dVar 4) (dVar 2)) (dNil)))) (dNil)))) (dNil))))) (dNext))
    (dRet (dTup (dCons (dC (.str (Str.ofString "h"))) (dCons (dTup (dCons (dTup (dCons (dVar 1) (dCons (dVar 2) (dNil)))) (dCons (dTup (dCons (dOp fAdd (dVar 3) (dVar 1)) (dCons (dOp fAdd (dVar 4) (dVar 2)) (dNil)))) (dNil)))) (dNil))))))))
theorem rx_last_part : ∃ r : dFn, r = fnT 5 t_last_part := ⟨_, rfl⟩
@[irreducible] noncomputable def rd_last_part : dFn := rx_last_part.choose
theorem rd_last_part_is : rd_last_part = fnT 5 t_last_part := by unfold rd_last_part; exact rx_last_part.choose_spec
theorem cal_last_part {P : Program} {w : World} {K : PySem.W.Frag} {mg : Str → Option Value} {base : Heap} {f : Addr} {fd : FuncData} (F : FnP K "last_part" s_last_part f fd) (m : mg "last_part" = some (.ref f)) (C_gap_back : Cal P w K mg base "gap_back" 1 0 ps_gap_back (rd_gap_back)) (z_abs : mg "abs" = none) : Cal P w K mg base "last_part" 2 1 ps_last_part rd_last_part :=
  by
  rw [rd_last_part_is]
  exact ⟨f, fd, fn_dD F sc_last_part (by decide) (fun cdv A outer s H E hr => (dss_cons (ds_asg (vs := [1, 2, 3, 4]) (dg_tp rfl (dgs_cons (dg_tp rfl (dgs_cons (dg_nm (i := 1) sc_last_part.nd rfl (.inl lk_last_part_1) (.inl rfl)) (dgs_cons (dg_nm (i := 2) sc_last_part.nd rfl (.inl lk_last_part_2) (.inl rfl)) dgs_nil (mono_nm _)) (mono_nm _))) (dgs_cons (dg_tp rfl (dgs_cons (dg_nm (i := 3) sc_last_part.nd rfl (.inl lk_last_part_3) (.inl rfl)) (dgs_cons (dg_nm (i := 4) sc_last_part.nd rfl (.inl lk_last_part_4) (.inl rfl)) dgs_nil (mono_nm _)) (mono_nm _))) dgs_nil (mono_tp (mono_cons (mono_nm _) (mono_cons (mono_nm _) mono_nil)))) (mono_tp (mono_cons (mono_nm _) (mono_cons (mono_nm _) mono_nil))))) (de_var (pv 0 rfl (.inl lk_last_part_0))))
      (dss_cons (ds_if (dw_pt (dw_or (dt_cmp (o_eq (u64 hr)) (de_var (pv 1 rfl (.inl lk_last_part_1))) de_int) (dw_or1 (dw_pt (dw_and (dt_cmp o_gt (de_callB c_abs z_abs rfl (by decide +kernel) (da_cons (de_var (pv 1 rfl (.inl lk_last_part_1))) da_nil)) (de_callB c_abs z_abs rfl (by decide +kernel) (da_cons (de_var (pv 3 rfl (.inl lk_last_part_3))) da_nil))) (dw_and1 (dt_cmp o_gt (de_op o_mul (de_var (pv 1 rfl (.inl lk_last_part_1))) (de_var (pv 3 rfl (.inl lk_last_part_3)))) de_int))))))) (dss_one (ds_ret (de_tup (da_cons de_str (da_cons (de_tup (da_cons (de_tup (da_cons (de_op o_sub (de_var (pv 1 rfl (.inl lk_last_part_1))) (de_var (pv 3 rfl (.inl lk_last_part_3)))) (da_cons (de_op o_sub (de_var (pv 2 rfl (.inl lk_last_part_2))) (de_var (pv 4 rfl (.inl lk_last_part_4)))) da_nil))) (da_cons (de_tup (da_cons (de_var (pv 3 rfl (.inl lk_last_part_3))) (da_cons (de_var (pv 4 rfl (.inl lk_last_part_4))) da_nil))) da_nil))) da_nil))))) dss_nil)
      (dss_cons (ds_if (dt_cmp o_gt (de_callB c_abs z_abs rfl (by decide +kernel) (da_cons (de_var (pv 1 rfl (.inl lk_last_part_1))) da_nil)) (de_callB c_abs z_abs rfl (by decide +kernel) (da_cons (de_var (pv 3 rfl (.inl lk_last_part_3))) da_nil))) (dss_one (ds_ret (de_tup (da_cons (de_cal0 C_gap_back (hr.mono (by omega)) rfl) (da_cons (de_tup (da_cons (de_tup (da_cons (de_op o_add (de_var (pv 1 rfl (.inl lk_last_part_1))) (de_var (pv 3 rfl (.inl lk_last_part_3)))) (da_cons (de_op o_add (de_var (pv 2 rfl (.inl lk_last_part_2))) (de_var (pv 4 rfl (.inl lk_last_part_4)))) da_nil))) (da_cons (de_tup (da_cons (de_var (pv 3 rfl (.inl lk_last_part_3))) (da_cons (de_var (pv 4 rfl (.inl lk_last_part_4))) da_nil))) da_nil))) da_nil))))) dss_nil)
      (dss_cons (ds_if (dt_cmp o_gt (de_op o_mul (de_var (pv 1 rfl (.inl lk_last_part_1))) (de_var (pv 3 rfl (.inl lk_last_part_3)))) de_int) (dss_one (ds_ret (de_tup (da_cons de_str (da_cons (de_tup (da_cons (de_tup (da_cons (de_var (pv 1 rfl (.inl lk_last_part_1))) (da_cons (de_var (pv 2 rfl (.inl lk_last_part_2))) da_nil))) (da_cons (de_tup (da_cons (de_op o_sub (de_var (pv 3 rfl (.inl lk_last_part_3))) (de_var (pv 1 rfl (.inl lk_last_part_1)))) (da_cons (de_op o_sub (de_var (pv 4 rfl (.inl lk_last_part_4))) (de_var (pv 2 rfl (.inl lk_last_part_2)))) da_nil))) da_nil))) da_nil))))) dss_nil)
      (dss_one (ds_ret (de_tup (da_cons de_str (da_cons (de_tup (da_cons (de_tup (da_cons (de_var (pv 1 rfl (.inl lk_last_part_1))) (da_cons (de_var (pv 2 rfl (.inl lk_last_part_2))) da_nil))) (da_cons (de_tup (da_cons (de_op o_add (de_var (pv 3 rfl (.inl lk_last_part_3))) (de_var (pv 1 rfl (.inl lk_last_part_1)))) (da_cons (de_op o_add (de_var (pv 4 rfl (.inl lk_last_part_4))) (de_var (pv 2 rfl (.inl lk_last_part_2)))) da_nil))) da_nil))) da_nil)))))))))), m, F.kp, (F.bindsN fun _ _ _ _ _ _ us hl => match us, hl with | [_], _ => rfl)⟩
/-! ### train_for -/
abbrev s_train_for : Stmt := top 9
abbrev nm_train_for : List Str := ["table", "ends", "part", "b"]
abbrev ps_train_for : List Str := ["table"]
theorem sc_train_for : FnScope nm_train_for ps_train_for (defScope s_train_for) := ⟨rfl, rfl, rfl, by decide +kernel, rfl, by decide +kernel, by decide +kernel⟩
theorem lk_train_for_0 : (defScope s_train_for).names.lookup ("table" : Str) = some NameKind.local := by decide +kernel
theorem lk_train_for_1 : (defScope s_train_for).names.lookup ("ends" : Str) = some NameKind.local := by decide +kernel
theorem lk_train_for_2 : (defScope s_train_for).names.lookup ("part" : Str) = some NameKind.local := by decide +kernel
theorem lk_train_for_3 : (defScope s_train_for).names.lookup ("b" : Str) = some NameKind.local := by decide +kernel
noncomputable def t_train_for : dTS := dSeq (dIfS (dNot (dB (dCall 1 (rd_is_train_table) (dCons (dVar 0) (dNil))))) (dRet (dC .none)) (dNext))
    (dSeq (dSetO 1 (fLst (dNil)))
    (dSeq (dWhile (dB (dOp fNe (dOp fIx (dOp fIx (dVar 0) (dC (.int 1))) (dC (.int 0))) (dC (.int 0)))) (dSeq (dAsg (dCall 1 (rd_last_part) (dCons (dVar 0) (dNil))) (gTp (gsCons (gNm 2) (gsCons (gNm 0) (gsNil)))))
    (dApp 1 (dVar 2))))
    (dSeq (dSet 3 (dOp fIx (dOp fIx (dVar 0) (dC (.int 0))) (dC (.int 1))))
    (dSeq (dIfS (dB (dOp fLt (dOp fIx (dOp fIx (dVar 0) (dC (.int 0))) (dC (.int 0))) (dC (.int 0)))) (dSeq (dApp 1 (dC (.str (Str.ofString "ghghgh"))))
    (dSet 3 (dUn fNeg (dVar 3)))) (dNext))
    (dSeq (dApp 1 (dIfE (dB (dOp fGe (dVar 3) (dC (.int 0)))) (dOp fMul (dC (.str (Str.ofString "g"))) (dVar 3)) (dOp fMul (dCall 0 (rd_gap_back) dNil) (dUn fNeg (dVar 3)))))
    (dRet (dBM "str" fJoin (dC (.str (Str.ofString ""))) (dCons (dUn fRev (dVar 1)) (dNil)))))))))
theorem rx_train_for : ∃ r : dFn, r = fnT 4 t_train_for := ⟨_, rfl⟩
@[irreducible] noncomputable def rd_train_for : dFn := rx_train_for.choose
theorem rd_train_for_is : rd_train_for = fnT 4 t_train_for := by unfold rd_train_for; exact rx_train_for.choose_spec
theorem cal_train_for {P : Program} {w : World} {K : PySem.W.Frag} {mg : Str → Option Value} {base : Heap} {f : Addr} {fd : FuncData} (F : FnP K "train_for" s_train_for f fd) (m : mg "train_for" = some (.ref f)) (C_gap_back : Cal P w K mg base "gap_back" 1 0 ps_gap_back (rd_gap_back)) (C_is_train_table : Cal P w K mg base "is_train_table" 1 1 ps_is_train_table (rd_is_train_table)) (C_last_part : Cal P w K mg base "last_part" 2 1 ps_last_part (rd_last_part)) : Cal P w K mg base "train_for" 3 1 ps_train_for rd_train_for :=
  by
  rw [rd_train_for_is]
  exact ⟨f, fd, fn_dD F sc_train_for (by decide) (fun cdv A outer s H E hr => (dss_cons (ds_if (dt_not (dt_val (de_cal C_is_train_table (hr.mono (by omega)) rfl (da_cons (de_var (pv 0 rfl (.inl lk_train_for_0))) da_nil)))) (dss_one (ds_ret de_non)) dss_nil)
      (dss_cons (ds_setO (i := 1) sc_train_for.nd rfl (.inl lk_train_for_1) (df_lst da_nil) (.inl rfl))
      (dss_cons (ds_while PassesOwn.never (dt_cmp (o_ne (u64 hr)) (de_ix (u1 hr) (de_ix (u1 hr) (de_var (pv 0 rfl (.inl lk_train_for_0))) de_int) de_int) de_int) (dss_cons (ds_asg (vs := [2, 0]) (dg_tp rfl (dgs_cons (dg_nm (i := 2) sc_train_for.nd rfl (.inl lk_train_for_2) (.inl rfl)) (dgs_cons (dg_nm (i := 0) sc_train_for.nd rfl (.inl lk_train_for_0) (.inl rfl)) dgs_nil (mono_nm _)) (mono_nm _))) (de_cal C_last_part (hr.mono (by omega)) rfl (da_cons (de_var (pv 0 rfl (.inl lk_train_for_0))) da_nil)))
      (dss_one (ds_app (i := 1) (pv 1 rfl (.inl lk_train_for_1)) (de_var (pv 2 rfl (.inl lk_train_for_2)))))))
      (dss_cons (ds_set (i := 3) sc_train_for.nd rfl (.inl lk_train_for_3) (de_ix (u1 hr) (de_ix (u1 hr) (de_var (pv 0 rfl (.inl lk_train_for_0))) de_int) de_int) (.inl rfl))
      (dss_cons (ds_if (dt_cmp o_lt (de_ix (u1 hr) (de_ix (u1 hr) (de_var (pv 0 rfl (.inl lk_train_for_0))) de_int) de_int) de_int) (dss_cons (ds_app (i := 1) (pv 1 rfl (.inl lk_train_for_1)) de_str)
      (dss_one (ds_set (i := 3) sc_train_for.nd rfl (.inl lk_train_for_3) (de_un u_neg (de_var (pv 3 rfl (.inl lk_train_for_3)))) (.inl rfl)))) dss_nil)
      (dss_cons (ds_app (i := 1) (pv 1 rfl (.inl lk_train_for_1)) (de_ifExp (dt_cmp o_ge (de_var (pv 3 rfl (.inl lk_train_for_3))) de_int) (de_op o_mul de_str (de_var (pv 3 rfl (.inl lk_train_for_3)))) (de_op o_mul (de_cal0 C_gap_back (hr.mono (by omega)) rfl) (de_un u_neg (de_var (pv 3 rfl (.inl lk_train_for_3)))))))
      (dss_one (ds_ret (de_bm m_join (.inl rfl) PySem.F.plainAttrs_str PySem.F.slot_str_join PySem.F.type_str_join de_str (da_cons (de_rev (de_var (pv 1 rfl (.inl lk_train_for_1)))) da_nil))))))))))), m, F.kp, (F.bindsN fun _ _ _ _ _ _ us hl => match us, hl with | [_], _ => rfl)⟩
/-! ### passings_to_return -/
abbrev s_passings_to_return : Stmt := top 11
abbrev nm_passings_to_return : List Str := ["table", "now", "number"]
abbrev ps_passings_to_return : List Str := ["table"]
theorem sc_passings_to_return : FnScope nm_passings_to_return ps_passings_to_return (defScope s_passings_to_return) := ⟨rfl, rfl, rfl, by decide +kernel, rfl, by decide +kernel, by decide +kernel⟩
theorem lk_passings_to_return_0 : (defScope s_passings_to_return).names.lookup ("table" : Str) = some NameKind.local := by decide +kernel
theorem lk_passings_to_return_1 : (defScope s_passings_to_return).names.lookup ("now" : Str) = some NameKind.local := by decide +kernel
theorem lk_passings_to_return_2 : (defScope s_passings_to_return).names.lookup ("number" : Str) = some NameKind.local := by decide +kernel
noncomputable def t_passings_to_return : dTS := dSeq (dSet 1 (dCall 0 (rd_still_table) dNil))
    (dSeq (dFor (dRng2 (dCons (dC (.int 1)) (dCons (dC (.int 7)) (dNil)))) (gNm 2) (dSeq (dSet 1 (dCall 2 (rd_table_behind) (dCons (dVar 0) (dCons (dVar 1) (dNil)))))
    (dIfS (dB (dOp fEq (dVar 1) (dCall 0 (rd_still_table) dNil))) (dRet (dVar 2)) (dNext))))
    (dRet (dC .none)))
theorem rx_passings_to_return : ∃ r : dFn, r = fnT 3 t_passings_to_return := ⟨_, rfl⟩
@[irreducible] noncomputable def rd_passings_to_return : dFn := rx_passings_to_return.choose
theorem rd_passings_to_return_is : rd_passings_to_return = fnT 3 t_passings_to_return := by unfold rd_passings_to_return; exact rx_passings_to_return.choose_spec
theorem cal_passings_to_return {P : Program} {w : World} {K : PySem.W.Frag} {mg : Str → Option Value} {base : Heap} {f : Addr} {fd : FuncData} (F : FnP K "passings_to_return" s_passings_to_return f fd) (m : mg "passings_to_return" = some (.ref f)) (C_still_table : Cal P w K mg base "still_table" 1 0 ps_still_table (rd_still_table)) (C_table_behind : Cal P w K mg base "table_behind" 1 2 ps_table_behind (rd_table_behind)) (z_range : mg "range" = none) : Cal P w K mg base "passings_to_return" 2 1 ps_passings_to_return rd_passings_to_return :=
  by
  rw [rd_passings_to_return_is]
  exact ⟨f, fd, fn_dD F sc_passings_to_return (by decide) (fun cdv A outer s H E hr => (dss_cons (ds_set (i := 1) sc_passings_to_return.nd rfl (.inl lk_passings_to_return_1) (de_cal0 C_still_table (hr.mono (by omega)) rfl) (.inl rfl))
      (dss_cons (ds_for (vs := [2]) PassesOwn.never rfl (dg_nm (i := 2) sc_passings_to_return.nd rfl (.inl lk_passings_to_return_2) (.inl rfl)) (di_rng2 z_range rfl (da_cons de_int (da_cons de_int da_nil))) (dss_cons (ds_set (i := 1) sc_passings_to_return.nd rfl (.inl lk_passings_to_return_1) (de_cal C_table_behind (hr.mono (by omega)) rfl (da_cons (de_var (pv 0 rfl (.inl lk_passings_to_return_0))) (da_cons (de_var (pv 1 rfl (.inl lk_passings_to_return_1))) da_nil))) (.inl rfl))
      (dss_one (ds_if (dt_cmp (o_eq (u64 hr)) (de_var (pv 1 rfl (.inl lk_passings_to_return_1))) (de_cal0 C_still_table (hr.mono (by omega)) rfl)) (dss_one (ds_ret (de_var (pv 2 rfl (.inl lk_passings_to_return_2))))) dss_nil))))
      (dss_one (ds_ret de_non))))), m, F.kp, (F.bindsN fun _ _ _ _ _ _ us hl => match us, hl with | [_], _ => rfl)⟩
/-! ### told_still_ray -/
abbrev s_told_still_ray : Stmt := top 12
abbrev nm_told_still_ray : List Str := ["table", "a", "b", "_", "d"]
abbrev ps_told_still_ray : List Str := ["table"]
theorem sc_told_still_ray : FnScope nm_told_still_ray ps_told_still_ray (defScope s_told_still_ray) := ⟨rfl, rfl, rfl, by decide +kernel, rfl, by decide +kernel, by decide +kernel⟩
theorem lk_told_still_ray_0 : (defScope s_told_still_ray).names.lookup ("table" : Str) = some NameKind.local := by decide +kernel
theorem lk_told_still_ray_1 : (defScope s_told_still_ray).names.lookup ("a" : Str) = some NameKind.local := by decide +kernel
theorem lk_told_still_ray_2 : (defScope s_told_still_ray).names.lookup ("b" : Str) = some NameKind.local := by decide +kernel
theorem lk_told_still_ray_3 : (defScope s_told_still_ray).names.lookup ("_" : Str) = some NameKind.local := by decide +kernel
theorem lk_told_still_ray_4 : (defScope s_told_still_ray).names.lookup ("d" : Str) = some NameKind.local := by decide +kernel
noncomputable def t_told_still_ray : dTS := dSeq (dAsg (dVar 0) (gTp (gsCons (gTp (gsCons (gNm 1) (gsCons (gNm 2) (gsNil)))) (gsCons (gTp (gsCons (gNm 3) (gsCons (gNm 4) (gsNil)))) (gsNil)))))
    (dSeq (dIfS (dB (dOp fNe (dOp fAdd (dVar 1) (dVar 4)) (dC (.int 2)))) (dRet (dC .none)) (dNext))
    (dSeq (dIfS (dAnd (dB (dOp fEq (dVar 1) (dC (.int 1)))) (dB (dOp fEq (dVar 2) (dC (.int 0))))) (dRet (dTup (dCons (dC (.int 0)) (dCons (dC (.int 1)) (dNil))))) (dNext))
    (dRet (dTup (dCons (dVar 2) (dCons (dOp fSub (dC (.int 1)) (dVar 1)) (dNil)))))))
theorem rx_told_still_ray : ∃ r : dFn, r = fnT 5 t_told_still_ray := ⟨_, rfl⟩
@[irreducible] noncomputable def rd_told_still_ray : dFn := rx_told_still_ray.choose
theorem rd_told_still_ray_is : rd_told_still_ray = fnT 5 t_told_still_ray := by unfold rd_told_still_ray; exact rx_told_still_ray.choose_spec
theorem cal_told_still_ray {P : Program} {w : World} {K : PySem.W.Frag} {mg : Str → Option Value} {base : Heap} {f : Addr} {fd : FuncData} (F : FnP K "told_still_ray" s_told_still_ray f fd) (m : mg "told_still_ray" = some (.ref f)) : Cal P w K mg base "told_still_ray" 1 1 ps_told_still_ray rd_told_still_ray :=
  by
  rw [rd_told_still_ray_is]
  exact ⟨f, fd, fn_dD F sc_told_still_ray (by decide) (fun cdv A outer s H E hr => (dss_cons (ds_asg (vs := [1, 2, 3, 4]) (dg_tp rfl (dgs_cons (dg_tp rfl (dgs_cons (dg_nm (i := 1) sc_told_still_ray.nd rfl (.inl lk_told_still_ray_1) (.inl rfl)) (dgs_cons (dg_nm (i := 2) sc_told_still_ray.nd rfl (.inl lk_told_still_ray_2) (.inl rfl)) dgs_nil (mono_nm _)) (mono_nm _))) (dgs_cons (dg_tp rfl (dgs_cons (dg_nm (i := 3) sc_told_still_ray.nd rfl (.inl lk_told_still_ray_3) (.inl rfl)) (dgs_cons (dg_nm (i := 4) sc_told_still_ray.nd rfl (.inl lk_told_still_ray_4) (.inl rfl)) dgs_nil (mono_nm _)) (mono_nm _))) dgs_nil (mono_tp (mono_cons (mono_nm _) (mono_cons (mono_nm _) mono_nil)))) (mono_tp (mono_cons (mono_nm _) (mono_cons (mono_nm _) mono_nil))))) (de_var (pv 0 rfl (.inl lk_told_still_ray_0))))
      (dss_cons (ds_if (dt_cmp (o_ne (u64 hr)) (de_op o_add (de_var (pv 1 rfl (.inl lk_told_still_ray_1))) (de_var (pv 4 rfl (.inl lk_told_still_ray_4)))) de_int) (dss_one (ds_ret de_non)) dss_nil)
      (dss_cons (ds_if (dw_pt (dw_and (dt_cmp (o_eq (u64 hr)) (de_var (pv 1 rfl (.inl lk_told_still_ray_1))) de_int) (dw_and1 (dt_cmp (o_eq (u64 hr)) (de_var (pv 2 rfl (.inl lk_told_still_ray_2))) de_int)))) (dss_one (ds_ret (de_tup (da_cons de_int (da_cons de_int da_nil))))) dss_nil)
      (dss_one (ds_ret (de_tup (da_cons (de_var (pv 2 rfl (.inl lk_told_still_ray_2))) (da_cons (de_op o_sub de_int (de_var (pv 1 rfl (.inl lk_told_still_ray_1)))) da_nil))))))))), m, F.kp, (F.bindsN fun _ _ _ _ _ _ us hl => match us, hl with | [_], _ => rfl)⟩
/-! ### keeps_level -/
abbrev s_keeps_level : Stmt := top 13
abbrev nm_keeps_level : List Str := ["table"]
abbrev ps_keeps_level : List Str := ["table"]
theorem sc_keeps_level : FnScope nm_keeps_level ps_keeps_level (defScope s_keeps_level) := ⟨rfl, rfl, rfl, by decide +kernel, rfl, by decide +kernel, by decide +kernel⟩
theorem lk_keeps_level_0 : (defScope s_keeps_level).names.lookup ("table" : Str) = some NameKind.local := by decide +kernel
noncomputable def t_keeps_level : dTS := dRet (dOp fEq (dOp fIx (dOp fIx (dVar 0) (dC (.int 1))) (dC (.int 0))) (dC (.int 0)))
theorem rx_keeps_level : ∃ r : dFn, r = fnT 1 t_keeps_level := ⟨_, rfl⟩
@[irreducible] noncomputable def rd_keeps_level : dFn := rx_keeps_level.choose
theorem rd_keeps_level_is : rd_keeps_level = fnT 1 t_keeps_level := by unfold rd_keeps_level; exact rx_keeps_level.choose_spec
theorem cal_keeps_level {P : Program} {w : World} {K : PySem.W.Frag} {mg : Str → Option Value} {base : Heap} {f : Addr} {fd : FuncData} (F : FnP K "keeps_level" s_keeps_level f fd) (m : mg "keeps_level" = some (.ref f)) : Cal P w K mg base "keeps_level" 1 1 ps_keeps_level rd_keeps_level :=
  by
  rw [rd_keeps_level_is]
  exact ⟨f, fd, fn_dD F sc_keeps_level (by decide) (fun cdv A outer s H E hr => (dss_one (ds_ret (de_cmp (o_eq (u64 hr)) (de_ix (u1 hr) (de_ix (u1 hr) (de_var (pv 0 rfl (.inl lk_keeps_level_0))) de_int) de_int) de_int)))), m, F.kp, (F.bindsN fun _ _ _ _ _ _ us hl => match us, hl with | [_], _ => rfl)⟩
/-! ### is_sharp_table -/
abbrev s_is_sharp_table : Stmt := top 14
abbrev nm_is_sharp_table : List Str := ["table"]
abbrev ps_is_sharp_table : List Str := ["table"]
theorem sc_is_sharp_table : FnScope nm_is_sharp_table ps_is_sharp_table (defScope s_is_sharp_table) := ⟨rfl, rfl, rfl, by decide +kernel, rfl, by decide +kernel, by decide +kernel⟩
theorem lk_is_sharp_table_0 : (defScope s_is_sharp_table).names.lookup ("table" : Str) = some NameKind.local := by decide +kernel
noncomputable def t_is_sharp_table : dTS := dRet (dOp fEq (dOp fIx (dOp fIx (dVar 0) (dC (.int 0))) (dC (.int 1))) (dC (.int 0)))
theorem rx_is_sharp_table : ∃ r : dFn, r = fnT 1 t_is_sharp_table := ⟨_, rfl⟩
@[irreducible] noncomputable def rd_is_sharp_table : dFn := rx_is_sharp_table.choose
theorem rd_is_sharp_table_is : rd_is_sharp_table = fnT 1 t_is_sharp_table := by unfold rd_is_sharp_table; exact rx_is_sharp_table.choose_spec
theorem cal_is_sharp_table {P : Program} {w : World} {K : PySem.W.Frag} {mg : Str → Option Value} {base : Heap} {f : Addr} {fd : FuncData} (F : FnP K "is_sharp_table" s_is_sharp_table f fd) (m : mg "is_sharp_table" = some (.ref f)) : Cal P w K mg base "is_sharp_table" 1 1 ps_is_sharp_table rd_is_sharp_table :=
  by
  rw [rd_is_sharp_table_is]
  exact ⟨f, fd, fn_dD F sc_is_sharp_table (by decide) (fun cdv A outer s H E hr => (dss_one (ds_ret (de_cmp (o_eq (u64 hr)) (de_ix (u1 hr) (de_ix (u1 hr) (de_var (pv 0 rfl (.inl lk_is_sharp_table_0))) de_int) de_int) de_int)))), m, F.kp, (F.bindsN fun _ _ _ _ _ _ us hl => match us, hl with | [_], _ => rfl)⟩
/-! ### _law_cell -/
abbrev s__law_cell : Stmt := top 16
abbrev nm__law_cell : List Str := ["script", "k"]
abbrev ps__law_cell : List Str := ["script", "k"]
theorem sc__law_cell : FnScope nm__law_cell ps__law_cell (defScope s__law_cell) := ⟨rfl, rfl, rfl, by decide +kernel, rfl, by decide +kernel, by decide +kernel⟩
theorem lk__law_cell_0 : (defScope s__law_cell).names.lookup ("script" : Str) = some NameKind.local := by decide +kernel
theorem lk__law_cell_1 : (defScope s__law_cell).names.lookup ("k" : Str) = some NameKind.local := by decide +kernel
noncomputable def t__law_cell : dTS := dSeq (dIfS (dB (dOp fLt (dVar 1) (dCB fLen (dCons (dVar 0) (dNil))))) (dRet (dOp fIx (dVar 0) (dVar 1))) (dNext))
    (dRet (dOp fAdd (dOp fMul (dC (.int 5)) (dVar 1)) (dC (.int 3))))
theorem rx__law_cell : ∃ r : dFn, r = fnT 2 t__law_cell := ⟨_, rfl⟩
@[irreducible] noncomputable def rd__law_cell : dFn := rx__law_cell.choose
theorem rd__law_cell_is : rd__law_cell = fnT 2 t__law_cell := by unfold rd__law_cell; exact rx__law_cell.choose_spec
theorem cal__law_cell {P : Program} {w : World} {K : PySem.W.Frag} {mg : Str → Option Value} {base : Heap} {f : Addr} {fd : FuncData} (F : FnP K "_law_cell" s__law_cell f fd) (m : mg "_law_cell" = some (.ref f)) (z_len : mg "len" = none) : Cal P w K mg base "_law_cell" 1 2 ps__law_cell rd__law_cell :=
  by
  rw [rd__law_cell_is]
  exact ⟨f, fd, fn_dD F sc__law_cell (by decide) (fun cdv A outer s H E hr => (dss_cons (ds_if (dt_cmp o_lt (de_var (pv 1 rfl (.inl lk__law_cell_1))) (de_callB c_len z_len rfl (by decide +kernel) (da_cons (de_var (pv 0 rfl (.inl lk__law_cell_0))) da_nil))) (dss_one (ds_ret (de_ix (u1 hr) (de_var (pv 0 rfl (.inl lk__law_cell_0))) (de_var (pv 1 rfl (.inl lk__law_cell_1)))))) dss_nil)
      (dss_one (ds_ret (de_op o_add (de_op o_mul de_int (de_var (pv 1 rfl (.inl lk__law_cell_1)))) de_int))))), m, F.kp, (F.bindsN fun _ _ _ _ _ _ us hl => match us, hl with | [_, _], _ => rfl)⟩
/-! ### _law_draws -/
abbrev s__law_draws : Stmt := top 17
abbrev nm__law_draws : List Str := ["cell", "count", "rest", "digits", "seed", "draws", "k", "mixed"]
abbrev ps__law_draws : List Str := ["cell", "count"]
theorem sc__law_draws : FnScope nm__law_draws ps__law_draws (defScope s__law_draws) := ⟨rfl, rfl, rfl, by decide +kernel, rfl, by decide +kernel, by decide +kernel⟩
theorem lk__law_draws_0 : (defScope s__law_draws).names.lookup ("cell" : Str) = some NameKind.local := by decide +kernel
theorem lk__law_draws_1 : (defScope s__law_draws).names.lookup ("count" : Str) = some NameKind.local := by decide +kernel
theorem lk__law_draws_2 : (defScope s__law_draws).names.lookup ("rest" : Str) = some NameKind.local := by decide +kernel
theorem lk__law_draws_3 : (defScope s__law_draws).names.lookup ("digits" : Str) = some NameKind.local := by decide +kernel
theorem lk__law_draws_4 : (defScope s__law_draws).names.lookup ("seed" : Str) = some NameKind.local := by decide +kernel
theorem lk__law_draws_5 : (defScope s__law_draws).names.lookup ("draws" : Str) = some NameKind.local := by decide +kernel
theorem lk__law_draws_6 : (defScope s__law_draws).names.lookup ("k" : Str) = some NameKind.local := by decide +kernel
theorem lk__law_draws_7 : (defScope s__law_draws).names.lookup ("mixed" : Str) = some NameKind.local := by decide +kernel
noncomputable def t__law_draws : dTS := dSeq (dSet 2 (dCB fAbs (dCons (dCB fInt (dCons (dVar 0) (dNil))) (dNil))))
    (dSeq (dSet 3 (dOp fGe (dVar 2) (dOp fPow (dC (.int 10)) (dC (.int 18)))))
    (dSeq (dSet 4 (dVar 2))
    (dSeq (dSetO 5 (fLst (dNil)))
    (dSeq (dFor (dRng1 (dCons (dVar 1) (dNil))) (gNm 6) (dIfS (dAnd (dB (dVar 3)) (dB (dOp fGt (dVar 2) (dC (.int 0))))) (dSeq (dApp 5 (dOp fMod (dCB fInt (dCons (dVar 2) (dNil))) (dC (.int 5040))))
    (dSet 2 (dOp fDiv (dVar 2) (dC (.int 5040))))) (dSeq (dSet 7 (dOp fMod (dCB fInt (dCons (dOp fAdd (dOp fAdd (dOp fMul (dVar 4) (dC (.int 48271))) (dOp fMul (dOp fAdd (dVar 6) (dC (.int 1))) (dC (.int 69621)))) (dC (.int 11))) (dNil))) (dC (.int 2147483647))))
    (dSeq (dSet 7 (dOp fMod (dCB fInt (dCons (dOp fAdd (dOp fMul (dVar 7) (dVar 7)) (dOp fMul (dC (.int 40692)) (dOp fAdd (dVar 6) (dC (.int 3))))) (dNil))) (dC (.int 2147483399))))
    (dApp 5 (dOp fMod (dCB fInt (dCons (dOp fDiv (dVar 7) (dC (.int 64))) (dNil))) (dC (.int 5040))))))))
    (dFrz 5 (dRet (dVar 5)))))))
theorem rx__law_draws : ∃ r : dFn, r = fnT 8 t__law_draws := ⟨_, rfl⟩
@[irreducible] noncomputable def rd__law_draws : dFn := rx__law_draws.choose
theorem rd__law_draws_is : rd__law_draws = fnT 8 t__law_draws := by unfold rd__law_draws; exact rx__law_draws.choose_spec
theorem cal__law_draws {P : Program} {w : World} {K : PySem.W.Frag} {mg : Str → Option Value} {base : Heap} {f : Addr} {fd : FuncData} (F : FnP K "_law_draws" s__law_draws f fd) (m : mg "_law_draws" = some (.ref f)) (z_abs : mg "abs" = none) (z_int : mg "int" = none) (z_range : mg "range" = none) : Cal P w K mg base "_law_draws" 1 2 ps__law_draws rd__law_draws :=
  by
  rw [rd__law_draws_is]
  exact ⟨f, fd, fn_dD F sc__law_draws (by decide) (fun cdv A outer s H E hr => (dss_cons (ds_set (i := 2) sc__law_draws.nd rfl (.inl lk__law_draws_2) (de_callB c_abs z_abs rfl (by decide +kernel) (da_cons (de_callT c_int z_int rfl (by decide +kernel) (da_cons (de_var (pv 0 rfl (.inl lk__law_draws_0))) da_nil)) da_nil)) (.inl rfl))
      (dss_cons (ds_set (i := 3) sc__law_draws.nd rfl (.inl lk__law_draws_3) (de_cmp o_ge (de_var (pv 2 rfl (.inl lk__law_draws_2))) (de_op o_pow de_int de_int)) (.inl rfl))
      (dss_cons (ds_set (i := 4) sc__law_draws.nd rfl (.inl lk__law_draws_4) (de_var (pv 2 rfl (.inl lk__law_draws_2))) (.inl rfl))
      (dss_cons (ds_setO (i := 5) sc__law_draws.nd rfl (.inl lk__law_draws_5) (df_lst da_nil) (.inl rfl))
      (dss_cons (ds_for (vs := [6]) PassesOwn.never rfl (dg_nm (i := 6) sc__law_draws.nd rfl (.inl lk__law_draws_6) (.inl rfl)) (di_rng1 z_range rfl (da_cons (de_var (pv 1 rfl (.inl lk__law_draws_1))) da_nil)) (dss_one (ds_if (dw_pt (dw_and (dt_val (de_var (pv 3 rfl (.inl lk__law_draws_3)))) (dw_and1 (dt_cmp o_gt (de_var (pv 2 rfl (.inl lk__law_draws_2))) de_int)))) (dss_cons (ds_app (i := 5) (pv 5 rfl (.inl lk__law_draws_5)) (de_op o_mod (de_callT c_int z_int rfl (by decide +kernel) (da_cons (de_var (pv 2 rfl (.inl lk__law_draws_2))) da_nil)) de_int))
      (dss_one (ds_set (i := 2) sc__law_draws.nd rfl (.inl lk__law_draws_2) (de_op o_div (de_var (pv 2 rfl (.inl lk__law_draws_2))) de_int) (.inl rfl)))) (dss_cons (ds_set (i := 7) sc__law_draws.nd rfl (.inl lk__law_draws_7) (de_op o_mod (de_callT c_int z_int rfl (by decide +kernel) (da_cons (de_op o_add (de_op o_add (de_op o_mul (de_var (pv 4 rfl (.inl lk__law_draws_4))) de_int) (de_op o_mul (de_op o_add (de_var (pv 6 rfl (.inl lk__law_draws_6))) de_int) de_int)) de_int) da_nil)) de_int) (.inl rfl))
      (dss_cons (ds_set (i := 7) sc__law_draws.nd rfl (.inl lk__law_draws_7) (de_op o_mod (de_callT c_int z_int rfl (by decide +kernel) (da_cons (de_op o_add (de_op o_mul (de_var (pv 7 rfl (.inl lk__law_draws_7))) (de_var (pv 7 rfl (.inl lk__law_draws_7)))) (de_op o_mul de_int (de_op o_add (de_var (pv 6 rfl (.inl lk__law_draws_6))) de_int))) da_nil)) de_int) (.inl rfl))
      (dss_one (ds_app (i := 5) (pv 5 rfl (.inl lk__law_draws_5)) (de_op o_mod (de_callT c_int z_int rfl (by decide +kernel) (da_cons (de_op o_div (de_var (pv 7 rfl (.inl lk__law_draws_7))) de_int) da_nil)) de_int))))))))
      (dss_one (ds_frz 5 (ds_ret (de_var (pv 5 rfl (.inl lk__law_draws_5)))))))))))), m, F.kp, (F.bindsN fun _ _ _ _ _ _ us hl => match us, hl with | [_, _], _ => rfl)⟩
/-! ### _law_is_integer -/
abbrev s__law_is_integer : Stmt := top 18
abbrev nm__law_is_integer : List Str := ["value"]
abbrev ps__law_is_integer : List Str := ["value"]
theorem sc__law_is_integer : FnScope nm__law_is_integer ps__law_is_integer (defScope s__law_is_integer) := ⟨rfl, rfl, rfl, by decide +kernel, rfl, by decide +kernel, by decide +kernel⟩
theorem lk__law_is_integer_0 : (defScope s__law_is_integer).names.lookup ("value" : Str) = some NameKind.local := by decide +kernel
noncomputable def t__law_is_integer : dTS := dRet (dAndV (dUn (fI isInt) (dVar 0)) (dNotV (dUn (fI isBl) (dVar 0))))
theorem rx__law_is_integer : ∃ r : dFn, r = fnT 1 t__law_is_integer := ⟨_, rfl⟩
@[irreducible] noncomputable def rd__law_is_integer : dFn := rx__law_is_integer.choose
theorem rd__law_is_integer_is : rd__law_is_integer = fnT 1 t__law_is_integer := by unfold rd__law_is_integer; exact rx__law_is_integer.choose_spec
theorem cal__law_is_integer {P : Program} {w : World} {K : PySem.W.Frag} {mg : Str → Option Value} {base : Heap} {f : Addr} {fd : FuncData} (F : FnP K "_law_is_integer" s__law_is_integer f fd) (m : mg "_law_is_integer" = some (.ref f)) (z_bool : mg "bool" = none) (z_int : mg "int" = none) (z_isinstance : mg "isinstance" = none) : Cal P w K mg base "_law_is_integer" 1 1 ps__law_is_integer rd__law_is_integer :=
  by
  rw [rd__law_is_integer_is]
  exact ⟨f, fd, fn_dD F sc__law_is_integer (by decide) (fun cdv A outer s H E hr => (dss_one (ds_ret (de_and (de_isi ist_int (de_var (pv 0 rfl (.inl lk__law_is_integer_0))) z_isinstance z_int rfl rfl (by decide +kernel)) (de_one (de_not (de_isi ist_bl (de_var (pv 0 rfl (.inl lk__law_is_integer_0))) z_isinstance z_bool rfl rfl (by decide +kernel)))))))), m, F.kp, (F.bindsN fun _ _ _ _ _ _ us hl => match us, hl with | [_], _ => rfl)⟩
/-! ### _law_is -/
abbrev s__law_is : Stmt := top 19
abbrev nm__law_is : List Str := ["value", "due", "at"]
abbrev ps__law_is : List Str := ["value", "due"]
theorem sc__law_is : FnScope nm__law_is ps__law_is (defScope s__law_is) := ⟨rfl, rfl, rfl, by decide +kernel, rfl, by decide +kernel, by decide +kernel⟩
theorem lk__law_is_0 : (defScope s__law_is).names.lookup ("value" : Str) = some NameKind.cell := by decide +kernel
theorem lk__law_is_1 : (defScope s__law_is).names.lookup ("due" : Str) = some NameKind.cell := by decide +kernel
noncomputable def t__law_is (rc : dFn) : dTS := dSeq (dIfS (dB (dOp fIs (dVar 1) (dC .none))) (dRet (dOp fIs (dVar 0) (dC .none))) (dNext))
    (dSeq (dIfS (dB (dUn (fI isBl) (dVar 1))) (dRet (dAndV (dUn (fI isBl) (dVar 0)) (dOp fEq (dVar 0) (dVar 1)))) (dNext))
    (dSeq (dIfS (dB (dUn (fI isInt) (dVar 1))) (dRet (dAndV (dCall 1 (rd__law_is_integer) (dCons (dVar 0) (dNil))) (dOp fEq (dVar 0) (dVar 1)))) (dNext))
    (dSeq (dIfS (dB (dUn (fI isStr) (dVar 1))) (dRet (dAndV (dUn (fI isStr) (dVar 0)) (dOp fEq (dVar 0) (dVar 1)))) (dNext))
    (dSeq (dIfS (dOr (dNot (dB (dUn (fI isTup) (dVar 0)))) (dB (dOp fNe (dCB fLen (dCons (dVar 0) (dNil))) (dCB fLen (dCons (dVar 1) (dNil)))))) (dRet (dC (.bool false))) (dNext))
    (dRet (dCB fAll (dCons (dFz (dComp (dRng1 (dCons (dCB fLen (dCons (dVar 1) (dNil))) (dNil))) (gNm 2) (dYes) (dCall 2 (rc) (dCons (dOp fIx (dVar 0) (dVar 2)) (dCons (dOp fIx (dVar 1) (dVar 2)) (dNil)))) [2])) (dNil))))))))
noncomputable def rr__law_is : Nat → dFn
  | 0 => fun _ _ _ => False
  | k + 1 => fnT 3 (t__law_is (rr__law_is k))
theorem rx__law_is : ∃ r : Nat → dFn, r = rr__law_is := ⟨_, rfl⟩
@[irreducible] noncomputable def rd__law_is : Nat → dFn := rx__law_is.choose
theorem rd__law_is_e : rd__law_is = rr__law_is := by unfold rd__law_is; exact rx__law_is.choose_spec
theorem rd__law_is_0 : rd__law_is 0 = fun _ _ _ => False := by
  rw [rd__law_is_e]
  rfl
theorem rd__law_is_is (k : Nat) : rd__law_is (k + 1) = fnT 3 (t__law_is (rd__law_is k)) := by
  rw [rd__law_is_e]
  rfl
theorem cal__law_is {P : Program} {w : World} {K : PySem.W.Frag} {mg : Str → Option Value} {base : Heap} {f : Addr} {fd : FuncData} (F : FnP K "_law_is" s__law_is f fd) (m : mg "_law_is" = some (.ref f)) (C__law_is_integer : Cal P w K mg base "_law_is_integer" 1 1 ps__law_is_integer (rd__law_is_integer)) (z_all : mg "all" = none) (z_bool : mg "bool" = none) (z_int : mg "int" = none) (z_isinstance : mg "isinstance" = none) (z_len : mg "len" = none) (z_range : mg "range" = none) (z_str : mg "str" = none) (z_tuple : mg "tuple" = none) :
    ∀ q : Nat, Cal P w K mg base "_law_is" (q + 1) 2 ps__law_is (rd__law_is q)
  | 0 => by
    rw [rd__law_is_0]
    exact ⟨f, fd, fn_no, m, F.kp, (F.bindsN fun _ _ _ _ _ _ us hl => match us, hl with | [_, _], _ => rfl)⟩
  | q + 1 => by
    have C_self := cal__law_is F m C__law_is_integer z_all z_bool z_int z_isinstance z_len z_range z_str z_tuple q
    have hb : 1 + 0 = 1 := rfl
    rw [show q + 1 + 1 = (q + 1) + 1 by omega]
    rw [rd__law_is_is]
    exact ⟨f, fd, fn_dD F sc__law_is (by decide) (fun cdv A outer s H E hr => (dss_cons (ds_if (dt_cmp o_is (de_var (pv 1 rfl (.inr (.inl lk__law_is_1)))) de_non) (dss_one (ds_ret (de_cmp o_is (de_var (pv 0 rfl (.inr (.inl lk__law_is_0)))) de_non))) dss_nil)
      (dss_cons (ds_if (dt_val (de_isi ist_bl (de_var (pv 1 rfl (.inr (.inl lk__law_is_1)))) z_isinstance z_bool rfl rfl (by decide +kernel))) (dss_one (ds_ret (de_and (de_isi ist_bl (de_var (pv 0 rfl (.inr (.inl lk__law_is_0)))) z_isinstance z_bool rfl rfl (by decide +kernel)) (de_one (de_cmp (o_eq (u64 hr)) (de_var (pv 0 rfl (.inr (.inl lk__law_is_0)))) (de_var (pv 1 rfl (.inr (.inl lk__law_is_1))))))))) dss_nil)
      (dss_cons (ds_if (dt_val (de_isi ist_int (de_var (pv 1 rfl (.inr (.inl lk__law_is_1)))) z_isinstance z_int rfl rfl (by decide +kernel))) (dss_one (ds_ret (de_and (de_cal C__law_is_integer (hr.mono (by omega)) rfl (da_cons (de_var (pv 0 rfl (.inr (.inl lk__law_is_0)))) da_nil)) (de_one (de_cmp (o_eq (u64 hr)) (de_var (pv 0 rfl (.inr (.inl lk__law_is_0)))) (de_var (pv 1 rfl (.inr (.inl lk__law_is_1))))))))) dss_nil)
      (dss_cons (ds_if (dt_val (de_isi ist_str (de_var (pv 1 rfl (.inr (.inl lk__law_is_1)))) z_isinstance z_str rfl rfl (by decide +kernel))) (dss_one (ds_ret (de_and (de_isi ist_str (de_var (pv 0 rfl (.inr (.inl lk__law_is_0)))) z_isinstance z_str rfl rfl (by decide +kernel)) (de_one (de_cmp (o_eq (u64 hr)) (de_var (pv 0 rfl (.inr (.inl lk__law_is_0)))) (de_var (pv 1 rfl (.inr (.inl lk__law_is_1))))))))) dss_nil)
      (dss_cons (ds_if (dw_pt (dw_or (dt_not (dt_val (de_isi ist_tup (de_var (pv 0 rfl (.inr (.inl lk__law_is_0)))) z_isinstance z_tuple rfl rfl (by decide +kernel)))) (dw_or1 (dt_cmp (o_ne (u64 hr)) (de_callB c_len z_len rfl (by decide +kernel) (da_cons (de_var (pv 0 rfl (.inr (.inl lk__law_is_0)))) da_nil)) (de_callB c_len z_len rfl (by decide +kernel) (da_cons (de_var (pv 1 rfl (.inr (.inl lk__law_is_1)))) da_nil)))))) (dss_one (ds_ret de_bl)) dss_nil)
      (dss_one (ds_ret (de_callB (c_all rfl) z_all rfl (by decide +kernel) (da_cons (de_fz (df_comp (own := [("at", 2)]) rfl sc__law_is.nd (blkOk_by (own := [("at", 2)]) (N := nm__law_is) (sc := defScope s__law_is) (by decide +kernel)) (fun _ _ _ _ _ => (dg_nm (i := 2) sc__law_is.nd rfl (.inl rfl) (.inr rfl))) (di_rng1 z_range rfl (da_cons (de_callB c_len z_len rfl (by decide +kernel) (da_cons (de_var (pv 1 rfl (.inr (.inl lk__law_is_1)))) da_nil)) da_nil)) (fun _ _ _ _ _ => dts_nil) (fun _ _ _ _ _ => (de_cal C_self hr rfl (da_cons (de_ix (u1 hr) (de_var (pv 0 rfl (.inr (.inl rfl)))) (de_var (pv 2 rfl (.inl rfl)))) (da_cons (de_ix (u1 hr) (de_var (pv 1 rfl (.inr (.inl rfl)))) (de_var (pv 2 rfl (.inl rfl)))) da_nil)))))) da_nil)))))))))), m, F.kp, (F.bindsN fun _ _ _ _ _ _ us hl => match us, hl with | [_, _], _ => rfl)⟩
/-! ### _law_hand -/
abbrev s__law_hand : Stmt := top 20
abbrev nm__law_hand : List Str := ["script", "k"]
abbrev ps__law_hand : List Str := ["script", "k"]
theorem sc__law_hand : FnScope nm__law_hand ps__law_hand (defScope s__law_hand) := ⟨rfl, rfl, rfl, by decide +kernel, rfl, by decide +kernel, by decide +kernel⟩
theorem lk__law_hand_0 : (defScope s__law_hand).names.lookup ("script" : Str) = some NameKind.local := by decide +kernel
theorem lk__law_hand_1 : (defScope s__law_hand).names.lookup ("k" : Str) = some NameKind.local := by decide +kernel
noncomputable def t__law_hand : dTS := dRet (dDisp [((.inr (Str.ofString "draws")), dCall 2 (rd__law_draws) (dCons (dCall 2 (rd__law_cell) (dCons (dVar 0) (dCons (dVar 1) (dNil)))) (dCons (dC (.int 120)) (dNil)))), ((.inr (Str.ofString "at")), dC (.int 0))])
theorem rx__law_hand : ∃ r : dFn, r = fnT 2 t__law_hand := ⟨_, rfl⟩
@[irreducible] noncomputable def rd__law_hand : dFn := rx__law_hand.choose
theorem rd__law_hand_is : rd__law_hand = fnT 2 t__law_hand := by unfold rd__law_hand; exact rx__law_hand.choose_spec
theorem cal__law_hand {P : Program} {w : World} {K : PySem.W.Frag} {mg : Str → Option Value} {base : Heap} {f : Addr} {fd : FuncData} (F : FnP K "_law_hand" s__law_hand f fd) (m : mg "_law_hand" = some (.ref f)) (C__law_cell : Cal P w K mg base "_law_cell" 1 2 ps__law_cell (rd__law_cell)) (C__law_draws : Cal P w K mg base "_law_draws" 1 2 ps__law_draws (rd__law_draws)) : Cal P w K mg base "_law_hand" 2 2 ps__law_hand rd__law_hand :=
  by
  rw [rd__law_hand_is]
  exact ⟨f, fd, fn_dD F sc__law_hand (by decide) (fun cdv A outer s H E hr => (dss_one (ds_ret (de_disp (ts := [((.inr (Str.ofString "draws")), dCall 2 (rd__law_draws) (dCons (dCall 2 (rd__law_cell) (dCons (dVar 0) (dCons (dVar 1) (dNil)))) (dCons (dC (.int 120)) (dNil)))), ((.inr (Str.ofString "at")), dC (.int 0))]) (dps_cons pe_str (de_cal C__law_draws (hr.mono (by omega)) rfl (da_cons (de_cal C__law_cell (hr.mono (by omega)) rfl (da_cons (de_var (pv 0 rfl (.inl lk__law_hand_0))) (da_cons (de_var (pv 1 rfl (.inl lk__law_hand_1))) da_nil))) (da_cons de_int da_nil))) (dps_cons pe_str de_int dps_nil)) (by decide +kernel) (by decide) rfl rfl (by intro z; cases z) (by decide))))), m, F.kp, (F.bindsN fun _ _ _ _ _ _ us hl => match us, hl with | [_, _], _ => rfl)⟩
/-! ### _law_take -/
abbrev s__law_take : Stmt := top 21
abbrev nm__law_take : List Str := ["hand", "most", "at"]
abbrev ps__law_take : List Str := ["hand", "most"]
theorem sc__law_take : FnScope nm__law_take ps__law_take (defScope s__law_take) := ⟨rfl, rfl, rfl, by decide +kernel, rfl, by decide +kernel, by decide +kernel⟩
theorem lk__law_take_0 : (defScope s__law_take).names.lookup ("hand" : Str) = some NameKind.local := by decide +kernel
theorem lk__law_take_1 : (defScope s__law_take).names.lookup ("most" : Str) = some NameKind.local := by decide +kernel
theorem lk__law_take_2 : (defScope s__law_take).names.lookup ("at" : Str) = some NameKind.local := by decide +kernel
noncomputable def t__law_take : dTS := dSeq (dSet 2 (dOp fIx (dVar 0) (dC (.str (Str.ofString "at")))))
    (dSeq (dPutI 0 (dC (.str (Str.ofString "at"))) (dOp fAdd (dVar 2) (dC (.int 1))))
    (dRet (dOp fMod (dOp fAdd (dOp fDiv (dCB fInt (dCons (dOp fIx (dOp fIx (dVar 0) (dC (.str (Str.ofString "draws")))) (dOp fMod (dVar 2) (dC (.int 120)))) (dNil))) (dOp fIx (dTup (dCons (dC (.int 1)) (dCons (dC (.int 7)) (dCons (dC (.int 59)) (dNil))))) (dOp fMod (dOp fDiv (dVar 2) (dC (.int 120))) (dC (.int 3))))) (dOp fDiv (dVar 2) (dC (.int 360)))) (dVar 1))))
theorem rx__law_take : ∃ r : dFn, r = fnT 3 t__law_take := ⟨_, rfl⟩
@[irreducible] noncomputable def rd__law_take : dFn := rx__law_take.choose
theorem rd__law_take_is : rd__law_take = fnT 3 t__law_take := by unfold rd__law_take; exact rx__law_take.choose_spec
theorem cal__law_take {P : Program} {w : World} {K : PySem.W.Frag} {mg : Str → Option Value} {base : Heap} {f : Addr} {fd : FuncData} (F : FnP K "_law_take" s__law_take f fd) (m : mg "_law_take" = some (.ref f)) (z_int : mg "int" = none) : Cal P w K mg base "_law_take" 1 2 ps__law_take rd__law_take :=
  by
  rw [rd__law_take_is]
  exact ⟨f, fd, fn_dD F sc__law_take (by decide) (fun cdv A outer s H E hr => (dss_cons (ds_set (i := 2) sc__law_take.nd rfl (.inl lk__law_take_2) (de_ix (u1 hr) (de_var (pv 0 rfl (.inl lk__law_take_0))) de_str) (.inl rfl))
      (dss_cons (ds_put (i := 0) (u1 hr) (pv 0 rfl (.inl lk__law_take_0)) de_str (de_op o_add (de_var (pv 2 rfl (.inl lk__law_take_2))) de_int))
      (dss_one (ds_ret (de_op o_mod (de_op o_add (de_op o_div (de_callT c_int z_int rfl (by decide +kernel) (da_cons (de_ix (u1 hr) (de_ix (u1 hr) (de_var (pv 0 rfl (.inl lk__law_take_0))) de_str) (de_op o_mod (de_var (pv 2 rfl (.inl lk__law_take_2))) de_int)) da_nil)) (de_ix (u1 hr) (de_tup (da_cons de_int (da_cons de_int (da_cons de_int da_nil)))) (de_op o_mod (de_op o_div (de_var (pv 2 rfl (.inl lk__law_take_2))) de_int) de_int))) (de_op o_div (de_var (pv 2 rfl (.inl lk__law_take_2))) de_int)) (de_var (pv 1 rfl (.inl lk__law_take_1))))))))), m, F.kp, (F.bindsN fun _ _ _ _ _ _ us hl => match us, hl with | [_, _], _ => rfl)⟩
/-! ### _law_product -/
abbrev s__law_product : Stmt := top 22
abbrev nm__law_product : List Str := ["second", "first", "a", "b", "c", "d", "e", "f", "g", "h"]
abbrev ps__law_product : List Str := ["second", "first"]
theorem sc__law_product : FnScope nm__law_product ps__law_product (defScope s__law_product) := ⟨rfl, rfl, rfl, by decide +kernel, rfl, by decide +kernel, by decide +kernel⟩
theorem lk__law_product_0 : (defScope s__law_product).names.lookup ("second" : Str) = some NameKind.local := by decide +kernel
theorem lk__law_product_1 : (defScope s__law_product).names.lookup ("first" : Str) = some NameKind.local := by decide +kernel
theorem lk__law_product_2 : (defScope s__law_product).names.lookup ("a" : Str) = some NameKind.local := by decide +kernel
theorem lk__law_product_3 : (defScope s__law_product).names.lookup ("b" : Str) = some NameKind.local := by decide +kernel
theorem lk__law_product_4 : (defScope s__law_product).names.lookup ("c" : Str) = some NameKind.local := by decide +kernel
theorem lk__law_product_5 : (defScope s__law_product).names.lookup ("d" : Str) = some NameKind.local := by decide +kernel
theorem lk__law_product_6 : (defScope s__law_product).names.lookup ("e" : Str) = some NameKind.local := by decide +kernel
theorem lk__law_product_7 : (defScope s__law_product).names.lookup ("f" : Str) = some NameKind.local := by decide +kernel
theorem lk__law_product_8 : (defScope s__law_product).names.lookup ("g" : Str) = some NameKind.local := by decide +kernel
theorem lk__law_product_9 : (defScope s__law_product).names.lookup ("h" : Str) = some NameKind.local := by decide +kernel
noncomputable def t__law_product : dTS := dSeq (dAsg (dVar 0) (gTp (gsCons (gTp (gsCons (gNm 2) (gsCons (gNm 3) (gsNil)))) (gsCons (gTp (gsCons (gNm 4) (gsCons (gNm 5) (gsNil)))) (gsNil)))))
    (dSeq (dAsg (dVar 1) (gTp (gsCons (gTp (gsCons (gNm 6) (gsCons (gNm 7) (gsNil)))) (gsCons (gTp (gsCons (gNm 8) (gsCons (gNm 9) (gsNil)))) (gsNil)))))
    (dRet (dTup (dCons (dTup (dCons (dOp fAdd (dOp fMul (dVar 2) (dVar 6)) (dOp fMul (dVar 3) (dVar 8))) (dCons (dOp fAdd (dOp fMul (dVar 2) (dVar 7)) (dOp fMul (dVar 3) (dVar 9))) (dNil)))) (dCons (dTup (dCons (dOp fAdd (dOp fMul (dVar 4) (dVar 6)) (dOp fMul (dVar 5) (dVar 8))) (dCons (dOp fAdd (dOp fMul (dVar 4) (dVar 7)) (dOp fMul (dVar 5) (dVar 9))) (dNil)))) (dNil))))))
theorem rx__law_product : ∃ r : dFn, r = fnT 10 t__law_product := ⟨_, rfl⟩
@[irreducible] noncomputable def rd__law_product : dFn := rx__law_product.choose
theorem rd__law_product_is : rd__law_product = fnT 10 t__law_product := by unfold rd__law_product; exact rx__law_product.choose_spec
theorem cal__law_product {P : Program} {w : World} {K : PySem.W.Frag} {mg : Str → Option Value} {base : Heap} {f : Addr} {fd : FuncData} (F : FnP K "_law_product" s__law_product f fd) (m : mg "_law_product" = some (.ref f)) : Cal P w K mg base "_law_product" 1 2 ps__law_product rd__law_product :=
  by
  rw [rd__law_product_is]
  exact ⟨f, fd, fn_dD F sc__law_product (by decide) (fun cdv A outer s H E hr => (dss_cons (ds_asg (vs := [2, 3, 4, 5]) (dg_tp rfl (dgs_cons (dg_tp rfl (dgs_cons (dg_nm (i := 2) sc__law_product.nd rfl (.inl lk__law_product_2) (.inl rfl)) (dgs_cons (dg_nm (i := 3) sc__law_product.nd rfl (.inl lk__law_product_3) (.inl rfl)) dgs_nil (mono_nm _)) (mono_nm _))) (dgs_cons (dg_tp rfl (dgs_cons (dg_nm (i := 4) sc__law_product.nd rfl (.inl lk__law_product_4) (.inl rfl)) (dgs_cons (dg_nm (i := 5) sc__law_product.nd rfl (.inl lk__law_product_5) (.inl rfl)) dgs_nil (mono_nm _)) (mono_nm _))) dgs_nil (mono_tp (mono_cons (mono_nm _) (mono_cons (mono_nm _) mono_nil)))) (mono_tp (mono_cons (mono_nm _) (mono_cons (mono_nm _) mono_nil))))) (de_var (pv 0 rfl (.inl lk__law_product_0))))
      (dss_cons (ds_asg (vs := [6, 7, 8, 9]) (dg_tp rfl (dgs_cons (dg_tp rfl (dgs_cons (dg_nm (i := 6) sc__law_product.nd rfl (.inl lk__law_product_6) (.inl rfl)) (dgs_cons (dg_nm (i := 7) sc__law_product.nd rfl (.inl lk__law_product_7) (.inl rfl)) dgs_nil (mono_nm _)) (mono_nm _))) (dgs_cons (dg_tp rfl (dgs_cons (dg_nm (i := 8) sc__law_product.nd rfl (.inl lk__law_product_8) (.inl rfl)) (dgs_cons (dg_nm (i := 9) sc__law_product.nd rfl (.inl lk__law_product_9) (.inl rfl)) dgs_nil (mono_nm _)) (mono_nm _))) dgs_nil (mono_tp (mono_cons (mono_nm _) (mono_cons (mono_nm _) mono_nil)))) (mono_tp (mono_cons (mono_nm _) (mono_cons (mono_nm _) mono_nil))))) (de_var (pv 1 rfl (.inl lk__law_product_1))))
      (dss_one (ds_ret (de_tup (da_cons (de_tup (da_cons (de_op o_add (de_op o_mul (de_var (pv 2 rfl (.inl lk__law_product_2))) (de_var (pv 6 rfl (.inl lk__law_product_6)))) (de_op o_mul (de_var (pv 3 rfl (.inl lk__law_product_3))) (de_var (pv 8 rfl (.inl lk__law_product_8))))) (da_cons (de_op o_add (de_op o_mul (de_var (pv 2 rfl (.inl lk__law_product_2))) (de_var (pv 7 rfl (.inl lk__law_product_7)))) (de_op o_mul (de_var (pv 3 rfl (.inl lk__law_product_3))) (de_var (pv 9 rfl (.inl lk__law_product_9))))) da_nil))) (da_cons (de_tup (da_cons (de_op o_add (de_op o_mul (de_var (pv 4 rfl (.inl lk__law_product_4))) (de_var (pv 6 rfl (.inl lk__law_product_6)))) (de_op o_mul (de_var (pv 5 rfl (.inl lk__law_product_5))) (de_var (pv 8 rfl (.inl lk__law_product_8))))) (da_cons (de_op o_add (de_op o_mul (de_var (pv 4 rfl (.inl lk__law_product_4))) (de_var (pv 7 rfl (.inl lk__law_product_7)))) (de_op o_mul (de_var (pv 5 rfl (.inl lk__law_product_5))) (de_var (pv 9 rfl (.inl lk__law_product_9))))) da_nil))) da_nil)))))))), m, F.kp, (F.bindsN fun _ _ _ _ _ _ us hl => match us, hl with | [_, _], _ => rfl)⟩
/-! ### _law_opposite -/
abbrev s__law_opposite : Stmt := top 23
abbrev nm__law_opposite : List Str := ["table", "a", "b", "c", "d"]
abbrev ps__law_opposite : List Str := ["table"]
theorem sc__law_opposite : FnScope nm__law_opposite ps__law_opposite (defScope s__law_opposite) := ⟨rfl, rfl, rfl, by decide +kernel, rfl, by decide +kernel, by decide +kernel⟩
theorem lk__law_opposite_0 : (defScope s__law_opposite).names.lookup ("table" : Str) = some NameKind.local := by decide +kernel
theorem lk__law_opposite_1 : (defScope s__law_opposite).names.lookup ("a" : Str) = some NameKind.local := by decide +kernel
theorem lk__law_opposite_2 : (defScope s__law_opposite).names.lookup ("b" : Str) = some NameKind.local := by decide +kernel
theorem lk__law_opposite_3 : (defScope s__law_opposite).names.lookup ("c" : Str) = some NameKind.local := by decide +kernel
theorem lk__law_opposite_4 : (defScope s__law_opposite).names.lookup ("d" : Str) = some NameKind.local := by decide +kernel
noncomputable def t__law_opposite : dTS := dSeq (dAsg (dVar 0) (gTp (gsCons (gTp (gsCons (gNm 1) (gsCons (gNm 2) (gsNil)))) (gsCons (gTp (gsCons (gNm 3) (gsCons (gNm 4) (gsNil)))) (gsNil)))))
    (dRet (dTup (dCons (dTup (dCons (dVar 4) (dCons (dOp fSub (dC (.int 0)) (dVar 2)) (dNil)))) (dCons (dTup (dCons (dOp fSub (dC (.int 0)) (dVar 3)) (dCons (dVar 1) (dNil)))) (dNil)))))
theorem rx__law_opposite : ∃ r : dFn, r = fnT 5 t__law_opposite := ⟨_, rfl⟩
@[irreducible] noncomputable def rd__law_opposite : dFn := rx__law_opposite.choose
theorem rd__law_opposite_is : rd__law_opposite = fnT 5 t__law_opposite := by unfold rd__law_opposite; exact rx__law_opposite.choose_spec
theorem cal__law_opposite {P : Program} {w : World} {K : PySem.W.Frag} {mg : Str → Option Value} {base : Heap} {f : Addr} {fd : FuncData} (F : FnP K "_law_opposite" s__law_opposite f fd) (m : mg "_law_opposite" = some (.ref f)) : Cal P w K mg base "_law_opposite" 1 1 ps__law_opposite rd__law_opposite :=
  by
  rw [rd__law_opposite_is]
  exact ⟨f, fd, fn_dD F sc__law_opposite (by decide) (fun cdv A outer s H E hr => (dss_cons (ds_asg (vs := [1, 2, 3, 4]) (dg_tp rfl (dgs_cons (dg_tp rfl (dgs_cons (dg_nm (i := 1) sc__law_opposite.nd rfl (.inl lk__law_opposite_1) (.inl rfl)) (dgs_cons (dg_nm (i := 2) sc__law_opposite.nd rfl (.inl lk__law_opposite_2) (.inl rfl)) dgs_nil (mono_nm _)) (mono_nm _))) (dgs_cons (dg_tp rfl (dgs_cons (dg_nm (i := 3) sc__law_opposite.nd rfl (.inl lk__law_opposite_3) (.inl rfl)) (dgs_cons (dg_nm (i := 4) sc__law_opposite.nd rfl (.inl lk__law_opposite_4) (.inl rfl)) dgs_nil (mono_nm _)) (mono_nm _))) dgs_nil (mono_tp (mono_cons (mono_nm _) (mono_cons (mono_nm _) mono_nil)))) (mono_tp (mono_cons (mono_nm _) (mono_cons (mono_nm _) mono_nil))))) (de_var (pv 0 rfl (.inl lk__law_opposite_0))))
      (dss_one (ds_ret (de_tup (da_cons (de_tup (da_cons (de_var (pv 4 rfl (.inl lk__law_opposite_4))) (da_cons (de_op o_sub de_int (de_var (pv 2 rfl (.inl lk__law_opposite_2)))) da_nil))) (da_cons (de_tup (da_cons (de_op o_sub de_int (de_var (pv 3 rfl (.inl lk__law_opposite_3)))) (da_cons (de_var (pv 1 rfl (.inl lk__law_opposite_1))) da_nil))) da_nil))))))), m, F.kp, (F.bindsN fun _ _ _ _ _ _ us hl => match us, hl with | [_], _ => rfl)⟩
/-! ### _law_sent -/
abbrev s__law_sent : Stmt := top 24
abbrev nm__law_sent : List Str := ["table", "ray", "a", "b", "c", "d"]
abbrev ps__law_sent : List Str := ["table", "ray"]
theorem sc__law_sent : FnScope nm__law_sent ps__law_sent (defScope s__law_sent) := ⟨rfl, rfl, rfl, by decide +kernel, rfl, by decide +kernel, by decide +kernel⟩
theorem lk__law_sent_0 : (defScope s__law_sent).names.lookup ("table" : Str) = some NameKind.local := by decide +kernel
theorem lk__law_sent_1 : (defScope s__law_sent).names.lookup ("ray" : Str) = some NameKind.local := by decide +kernel
theorem lk__law_sent_2 : (defScope s__law_sent).names.lookup ("a" : Str) = some NameKind.local := by decide +kernel
theorem lk__law_sent_3 : (defScope s__law_sent).names.lookup ("b" : Str) = some NameKind.local := by decide +kernel
theorem lk__law_sent_4 : (defScope s__law_sent).names.lookup ("c" : Str) = some NameKind.local := by decide +kernel
theorem lk__law_sent_5 : (defScope s__law_sent).names.lookup ("d" : Str) = some NameKind.local := by decide +kernel
noncomputable def t__law_sent : dTS := dSeq (dAsg (dVar 0) (gTp (gsCons (gTp (gsCons (gNm 2) (gsCons (gNm 3) (gsNil)))) (gsCons (gTp (gsCons (gNm 4) (gsCons (gNm 5) (gsNil)))) (gsNil)))))
    (dRet (dTup (dCons (dOp fAdd (dOp fMul (dVar 2) (dOp fIx (dVar 1) (dC (.int 0)))) (dOp fMul (dVar 3) (dOp fIx (dVar 1) (dC (.int 1))))) (dCons (dOp fAdd (dOp fMul (dVar 4) (dOp fIx (dVar 1) (dC (.int 0)))) (dOp fMul (dVar 5) (dOp fIx (dVar 1) (dC (.int 1))))) (dNil)))))
theorem rx__law_sent : ∃ r : dFn, r = fnT 6 t__law_sent := ⟨_, rfl⟩
@[irreducible] noncomputable def rd__law_sent : dFn := rx__law_sent.choose
theorem rd__law_sent_is : rd__law_sent = fnT 6 t__law_sent := by unfold rd__law_sent; exact rx__law_sent.choose_spec
theorem cal__law_sent {P : Program} {w : World} {K : PySem.W.Frag} {mg : Str → Option Value} {base : Heap} {f : Addr} {fd : FuncData} (F : FnP K "_law_sent" s__law_sent f fd) (m : mg "_law_sent" = some (.ref f)) : Cal P w K mg base "_law_sent" 1 2 ps__law_sent rd__law_sent :=
  by
  rw [rd__law_sent_is]
  exact ⟨f, fd, fn_dD F sc__law_sent (by decide) (fun cdv A outer s H E hr => (dss_cons (ds_asg (vs := [2, 3, 4, 5]) (dg_tp rfl (dgs_cons (dg_tp rfl (dgs_cons (dg_nm (i := 2) sc__law_sent.nd rfl (.inl lk__law_sent_2) (.inl rfl)) (dgs_cons (dg_nm (i := 3) sc__law_sent.nd rfl (.inl lk__law_sent_3) (.inl rfl)) dgs_nil (mono_nm _)) (mono_nm _))) (dgs_cons (dg_tp rfl (dgs_cons (dg_nm (i := 4) sc__law_sent.nd rfl (.inl lk__law_sent_4) (.inl rfl)) (dgs_cons (dg_nm (i := 5) sc__law_sent.nd rfl (.inl lk__law_sent_5) (.inl rfl)) dgs_nil (mono_nm _)) (mono_nm _))) dgs_nil (mono_tp (mono_cons (mono_nm _) (mono_cons (mono_nm _) mono_nil)))) (mono_tp (mono_cons (mono_nm _) (mono_cons (mono_nm _) mono_nil))))) (de_var (pv 0 rfl (.inl lk__law_sent_0))))
      (dss_one (ds_ret (de_tup (da_cons (de_op o_add (de_op o_mul (de_var (pv 2 rfl (.inl lk__law_sent_2))) (de_ix (u1 hr) (de_var (pv 1 rfl (.inl lk__law_sent_1))) de_int)) (de_op o_mul (de_var (pv 3 rfl (.inl lk__law_sent_3))) (de_ix (u1 hr) (de_var (pv 1 rfl (.inl lk__law_sent_1))) de_int))) (da_cons (de_op o_add (de_op o_mul (de_var (pv 4 rfl (.inl lk__law_sent_4))) (de_ix (u1 hr) (de_var (pv 1 rfl (.inl lk__law_sent_1))) de_int)) (de_op o_mul (de_var (pv 5 rfl (.inl lk__law_sent_5))) (de_ix (u1 hr) (de_var (pv 1 rfl (.inl lk__law_sent_1))) de_int))) da_nil))))))), m, F.kp, (F.bindsN fun _ _ _ _ _ _ us hl => match us, hl with | [_, _], _ => rfl)⟩
/-! ### _law_returns -/
abbrev s__law_returns : Stmt := top 25
abbrev nm__law_returns : List Str := ["table", "now", "p"]
abbrev ps__law_returns : List Str := ["table"]
theorem sc__law_returns : FnScope nm__law_returns ps__law_returns (defScope s__law_returns) := ⟨rfl, rfl, rfl, by decide +kernel, rfl, by decide +kernel, by decide +kernel⟩
theorem lk__law_returns_0 : (defScope s__law_returns).names.lookup ("table" : Str) = some NameKind.local := by decide +kernel
theorem lk__law_returns_1 : (defScope s__law_returns).names.lookup ("now" : Str) = some NameKind.local := by decide +kernel
theorem lk__law_returns_2 : (defScope s__law_returns).names.lookup ("p" : Str) = some NameKind.local := by decide +kernel
noncomputable def t__law_returns : dTS := dSeq (dSet 1 (dVar 0))
    (dSeq (dFor (dRng2 (dCons (dC (.int 1)) (dCons (dC (.int 13)) (dNil)))) (gNm 2) (dSeq (dIfS (dB (dOp fEq (dVar 1) (dTup (dCons (dTup (dCons (dC (.int 1)) (dCons (dC (.int 0)) (dNil)))) (dCons (dTup (dCons (dC (.int 0)) (dCons (dC (.int 1)) (dNil)))) (dNil)))))) (dRet (dVar 2)) (dNext))
    (dSet 1 (dCall 2 (rd__law_product) (dCons (dVar 0) (dCons (dVar 1) (dNil)))))))
    (dRet (dC .none)))
theorem rx__law_returns : ∃ r : dFn, r = fnT 3 t__law_returns := ⟨_, rfl⟩
@[irreducible] noncomputable def rd__law_returns : dFn := rx__law_returns.choose
theorem rd__law_returns_is : rd__law_returns = fnT 3 t__law_returns := by unfold rd__law_returns; exact rx__law_returns.choose_spec
theorem cal__law_returns {P : Program} {w : World} {K : PySem.W.Frag} {mg : Str → Option Value} {base : Heap} {f : Addr} {fd : FuncData} (F : FnP K "_law_returns" s__law_returns f fd) (m : mg "_law_returns" = some (.ref f)) (C__law_product : Cal P w K mg base "_law_product" 1 2 ps__law_product (rd__law_product)) (z_range : mg "range" = none) : Cal P w K mg base "_law_returns" 2 1 ps__law_returns rd__law_returns :=
  by
  rw [rd__law_returns_is]
  exact ⟨f, fd, fn_dD F sc__law_returns (by decide) (fun cdv A outer s H E hr => (dss_cons (ds_set (i := 1) sc__law_returns.nd rfl (.inl lk__law_returns_1) (de_var (pv 0 rfl (.inl lk__law_returns_0))) (.inl rfl))
      (dss_cons (ds_for (vs := [2]) PassesOwn.never rfl (dg_nm (i := 2) sc__law_returns.nd rfl (.inl lk__law_returns_2) (.inl rfl)) (di_rng2 z_range rfl (da_cons de_int (da_cons de_int da_nil))) (dss_cons (ds_if (dt_cmp (o_eq (u64 hr)) (de_var (pv 1 rfl (.inl lk__law_returns_1))) (de_tup (da_cons (de_tup (da_cons de_int (da_cons de_int da_nil))) (da_cons (de_tup (da_cons de_int (da_cons de_int da_nil))) da_nil)))) (dss_one (ds_ret (de_var (pv 2 rfl (.inl lk__law_returns_2))))) dss_nil)
      (dss_one (ds_set (i := 1) sc__law_returns.nd rfl (.inl lk__law_returns_1) (de_cal C__law_product (hr.mono (by omega)) rfl (da_cons (de_var (pv 0 rfl (.inl lk__law_returns_0))) (da_cons (de_var (pv 1 rfl (.inl lk__law_returns_1))) da_nil))) (.inl rfl)))))
      (dss_one (ds_ret de_non))))), m, F.kp, (F.bindsN fun _ _ _ _ _ _ us hl => match us, hl with | [_], _ => rfl)⟩
/-! ### _law_small -/
abbrev s__law_small : Stmt := top 26
abbrev nm__law_small : List Str := ["table", "number"]
abbrev ps__law_small : List Str := ["table"]
theorem sc__law_small : FnScope nm__law_small ps__law_small (defScope s__law_small) := ⟨rfl, rfl, rfl, by decide +kernel, rfl, by decide +kernel, by decide +kernel⟩
theorem lk__law_small_0 : (defScope s__law_small).names.lookup ("table" : Str) = some NameKind.local := by decide +kernel
noncomputable def t__law_small : dTS := dRet (dOp fLe (dCB fMax (dCons (dFz (dComp (dItV (dOp fAdd (dOp fIx (dVar 0) (dC (.int 0))) (dOp fIx (dVar 0) (dC (.int 1))))) (gNm 1) (dYes) (dCB fAbs (dCons (dVar 1) (dNil))) [1])) (dNil))) (dC (.int 60)))
theorem rx__law_small : ∃ r : dFn, r = fnT 2 t__law_small := ⟨_, rfl⟩
@[irreducible] noncomputable def rd__law_small : dFn := rx__law_small.choose
theorem rd__law_small_is : rd__law_small = fnT 2 t__law_small := by unfold rd__law_small; exact rx__law_small.choose_spec
theorem cal__law_small {P : Program} {w : World} {K : PySem.W.Frag} {mg : Str → Option Value} {base : Heap} {f : Addr} {fd : FuncData} (F : FnP K "_law_small" s__law_small f fd) (m : mg "_law_small" = some (.ref f)) (z_abs : mg "abs" = none) (z_max : mg "max" = none) : Cal P w K mg base "_law_small" 1 1 ps__law_small rd__law_small :=
  by
  rw [rd__law_small_is]
  exact ⟨f, fd, fn_dD F sc__law_small (by decide) (fun cdv A outer s H E hr => (dss_one (ds_ret (de_cmp o_le (de_callB (c_max rfl) z_max rfl (by decide +kernel) (da_cons (de_fz (df_comp (own := [("number", 1)]) rfl sc__law_small.nd (blkOk_by (own := [("number", 1)]) (N := nm__law_small) (sc := defScope s__law_small) (by decide +kernel)) (fun _ _ _ _ _ => (dg_nm (i := 1) sc__law_small.nd rfl (.inl rfl) (.inr rfl))) (di_any (de_op o_add (de_ix (u1 hr) (de_var (pv 0 rfl (.inl lk__law_small_0))) de_int) (de_ix (u1 hr) (de_var (pv 0 rfl (.inl lk__law_small_0))) de_int))) (fun _ _ _ _ _ => dts_nil) (fun _ _ _ _ _ => (de_callB c_abs z_abs rfl (by decide +kernel) (da_cons (de_var (pv 1 rfl (.inl rfl))) da_nil))))) da_nil)) de_int)))), m, F.kp, (F.bindsN fun _ _ _ _ _ _ us hl => match us, hl with | [_], _ => rfl)⟩
/-! ### _law_table_fine -/
abbrev s__law_table_fine : Stmt := top 27
abbrev nm__law_table_fine : List Str := ["table", "a", "b", "c", "d", "p", "still", "times", "ray", "back", "twice", "thrice", "some", "due", "minus", "q"]
abbrev ps__law_table_fine : List Str := ["table"]
theorem sc__law_table_fine : FnScope nm__law_table_fine ps__law_table_fine (defScope s__law_table_fine) := ⟨rfl, rfl, rfl, by decide +kernel, rfl, by decide +kernel, by decide +kernel⟩
theorem lk__law_table_fine_0 : (defScope s__law_table_fine).names.lookup ("table" : Str) = some NameKind.local := by decide +kernel
theorem lk__law_table_fine_1 : (defScope s__law_table_fine).names.lookup ("a" : Str) = some NameKind.local := by decide +kernel
theorem lk__law_table_fine_2 : (defScope s__law_table_fine).names.lookup ("b" : Str) = some NameKind.local := by decide +kernel
theorem lk__law_table_fine_3 : (defScope s__law_table_fine).names.lookup ("c" : Str) = some NameKind.local := by decide +kernel
theorem lk__law_table_fine_4 : (defScope s__law_table_fine).names.lookup ("d" : Str) = some NameKind.local := by decide +kernel
theorem lk__law_table_fine_5 : (defScope s__law_table_fine).names.lookup ("p" : Str) = some NameKind.cell := by decide +kernel
theorem lk__law_table_fine_6 : (defScope s__law_table_fine).names.lookup ("still" : Str) = some NameKind.local := by decide +kernel
theorem lk__law_table_fine_7 : (defScope s__law_table_fine).names.lookup ("times" : Str) = some NameKind.cell := by decide +kernel
theorem lk__law_table_fine_8 : (defScope s__law_table_fine).names.lookup ("ray" : Str) = some NameKind.local := by decide +kernel
theorem lk__law_table_fine_9 : (defScope s__law_table_fine).names.lookup ("back" : Str) = some NameKind.local := by decide +kernel
theorem lk__law_table_fine_10 : (defScope s__law_table_fine).names.lookup ("twice" : Str) = some NameKind.local := by decide +kernel
theorem lk__law_table_fine_11 : (defScope s__law_table_fine).names.lookup ("thrice" : Str) = some NameKind.local := by decide +kernel
theorem lk__law_table_fine_12 : (defScope s__law_table_fine).names.lookup ("some" : Str) = some NameKind.local := by decide +kernel
theorem lk__law_table_fine_13 : (defScope s__law_table_fine).names.lookup ("due" : Str) = some NameKind.local := by decide +kernel
theorem lk__law_table_fine_14 : (defScope s__law_table_fine).names.lookup ("minus" : Str) = some NameKind.local := by decide +kernel
noncomputable def t__law_table_fine : dTS := dSeq (dAsg (dVar 0) (gTp (gsCons (gTp (gsCons (gNm 1) (gsCons (gNm 2) (gsNil)))) (gsCons (gTp (gsCons (gNm 3) (gsCons (gNm 4) (gsNil)))) (gsNil)))))
    (dSeq (dAsg (dTup (dCons (dCall 1 (rd_passings_to_return) (dCons (dVar 0) (dNil))) (dCons (dCall 1 (rd_told_still_ray) (dCons (dVar 0) (dNil))) (dNil)))) (gTp (gsCons (gNm 5) (gsCons (gNm 6) (gsNil)))))
    (dSeq (dIfS (dOr (dNot (dB (dCall 2 (rd__law_is 6) (dCons (dTup (dCons (dVar 5) (dCons (dCall 1 (rd_is_train_table) (dCons (dVar 0) (dNil))) (dNil)))) (dCons (dTup (dCons (dCall 1 (rd__law_returns) (dCons (dVar 0) (dNil))) (dCons (dC (.bool true)) (dNil)))) (dNil)))))) (dB (dOp fNe (dOp fIsNot (dVar 6) (dC .none)) (dOp fEq (dOp fAdd (dVar 1) (dVar 4)) (dC (.int 2)))))) (dRet (dC (.bool false))) (dNext))
    (dSeq (dIfS (dB (dOp fIsNot (dVar 6) (dC .none))) (dFor (dItV (dTup (dCons (dC (.int 1)) (dCons (dC (.int 3)) (dCons (dOp fSub (dC (.int 0)) (dC (.int 2))) (dNil)))))) (gNm 7) (dSeq (dSet 8 (dTup (dCons (dOp fMul (dVar 7) (dOp fIx (dVar 6) (dC (.int 0)))) (dCons (dOp fMul (dVar 7) (dOp fIx (dVar 6) (dC (.int 1)))) (dNil)))))
    (dIfS (dOr (dB (dOp fNe (dCall 2 (rd__law_sent) (dCons (dVar 0) (dCons (dVar 8) (dNil)))) (dVar 8))) (dB (dOp fEq (dVar 6) (dTup (dCons (dC (.int 0)) (dCons (dC (.int 0)) (dNil))))))) (dRet (dC (.bool false))) (dNext)))) (dNext))
    (dSeq (dIfS (dNot (dB (dCall 2 (rd__law_is 6) (dCons (dTup (dCons (dCall 1 (rd_keeps_level) (dCons (dVar 0) (dNil))) (dCons (dCall 1 (rd_is_sharp_table) (dCons (dVar 0) (dNil))) (dNil)))) (dCons (dTup (dCons (dOp fEq (dVar 3) (dC (.int 0))) (dCons (dOp fEq (dVar 2) (dC (.int 0))) (dNil)))) (dNil)))))) (dRet (dC (.bool false))) (dNext))
    (dSeq (dSet 9 (dCall 1 (rd__law_opposite) (dCons (dVar 0) (dNil))))
    (dSeq (dIfS (dOr (dNot (dB (dCall 2 (rd__law_is 6) (dCons (dCall 1 (rd_passings_to_return) (dCons (dVar 9) (dNil))) (dCons (dVar 5) (dNil)))))) (dB (dOp fNe (dOp fIs (dCall 1 (rd_told_still_ray) (dCons (dVar 9) (dNil))) (dC .none)) (dOp fIs (dVar 6) (dC .none))))) (dRet (dC (.bool false))) (dNext))
    (dSeq (dSet 10 (dCall 2 (rd__law_product) (dCons (dVar 0) (dCons (dVar 0) (dNil)))))
    (dSeq (dSet 11 (dCall 2 (rd__law_product) (dCons (dVar 10) (dCons (dVar 0) (dNil)))))
    (dSeq (dFor (dItV (dTup (dCons (dTup (dCons (dVar 10) (dCons (dC (.int 2)) (dNil)))) (dCons (dTup (dCons (dVar 11) (dCons (dC (.int 3)) (dNil)))) (dNil))))) (gTp (gsCons (gNm 12) (gsCons (gNm 7) (gsNil)))) (dIfS (dB (dCall 1 (rd__law_small) (dCons (dVar 12) (dNil)))) (dSeq (dSet 13 (dC .none))
    (dSeq (dIfS (dB (dOp fIsNot (dVar 5) (dC .none))) (dSet 13 (dOp fIx (dFz (dComp (dRng2 (dCons (dC (.int 1)) (dCons (dC (.int 7)) (dNil)))) (gNm 15) (dB (dOp fEq (dOp fMod (dOp fMul (dVar 15) (dVar 7)) (dVar 5)) (dC (.int 0)))) (dVar 15) [15])) (dC (.int 0)))) (dNext))
    (dIfS (dNot (dB (dCall 2 (rd__law_is 6) (dCons (dCall 1 (rd_passings_to_return) (dCons (dVar 12) (dNil))) (dCons (dVar 13) (dNil)))))) (dRet (dC (.bool false))) (dNext)))) (dNext)))
    (dSeq (dSet 14 (dTup (dCons (dTup (dCons (dOp fSub (dC (.int 0)) (dVar 1)) (dCons (dOp fSub (dC (.int 0)) (dVar 2)) (dNil)))) (dCons (dTup (dCons (dOp fSub (dC (.int 0)) (dVar 3)) (dCons (dOp fSub (dC (.int 0)) (dVar 4)) (dNil)))) (dNil)))))
    (dSeq (dIfS (dNot (dB (dCall 2 (rd__law_is 6) (dCons (dCall 1 (rd_passings_to_return) (dCons (dVar 14) (dNil))) (dCons (dCall 1 (rd__law_returns) (dCons (dVar 14) (dNil))) (dNil)))))) (dRet (dC (.bool false))) (dNext))
    (dSeq (dIfS (dAnd (dB (dOp fIsNot (dVar 5) (dC .none))) (dB (dOp fNotIn (dCall 1 (rd_passings_to_return) (dCons (dVar 14) (dNil))) (dTup (dCons (dVar 5) (dCons (dOp fMul (dC (.int 2)) (dVar 5)) (dCons (dOp fDiv (dVar 5) (dC (.int 2))) (dNil)))))))) (dRet (dC (.bool false))) (dNext))
    (dRet (dOp fEq (dOp fIs (dCall 1 (rd_passings_to_return) (dCons (dVar 14) (dNil))) (dC .none)) (dOp fIs (dVar 5) (dC .none))))))))))))))))
theorem rx__law_table_fine : ∃ r : dFn, r = fnT 16 t__law_table_fine := ⟨_, rfl⟩
@[irreducible] noncomputable def rd__law_table_fine : dFn := rx__law_table_fine.choose
theorem rd__law_table_fine_is : rd__law_table_fine = fnT 16 t__law_table_fine := by unfold rd__law_table_fine; exact rx__law_table_fine.choose_spec
theorem cal__law_table_fine {P : Program} {w : World} {K : PySem.W.Frag} {mg : Str → Option Value} {base : Heap} {f : Addr} {fd : FuncData} (F : FnP K "_law_table_fine" s__law_table_fine f fd) (m : mg "_law_table_fine" = some (.ref f)) (C__law_is : Cal P w K mg base "_law_is" 7 2 ps__law_is (rd__law_is 6)) (C__law_opposite : Cal P w K mg base "_law_opposite" 1 1 ps__law_opposite (rd__law_opposite)) (C__law_product : Cal P w K mg base "_law_product" 1 2 ps__law_product (rd__law_product)) (C__law_returns : Cal P w K mg base "_law_returns" 2 1 ps__law_returns (rd__law_returns)) (C__law_sent : Cal P w K mg base "_law_sent" 1 2 ps__law_sent (rd__law_sent)) (C__law_small : Cal P w K mg base "_law_small" 1 1 ps__law_small (rd__law_small)) (C_is_sharp_table : Cal P w K mg base "is_sharp_table" 1 1 ps_is_sharp_table (rd_is_sharp_table)) (C_is_train_table : Cal P w K mg base "is_train_table" 1 1 ps_is_train_table (rd_is_train_table)) (C_keeps_level : Cal P w K mg base "keeps_level" 1 1 ps_keeps_level (rd_keeps_level)) (C_passings_to_return : Cal P w K mg base "passings_to_return" 2 1 ps_passings_to_return (rd_passings_to_return)) (C_told_still_ray : Cal P w K mg base "told_still_ray" 1 1 ps_told_still_ray (rd_told_still_ray)) (z_range : mg "range" = none) : Cal P w K mg base "_law_table_fine" 8 1 ps__law_table_fine rd__law_table_fine :=
  by
  rw [rd__law_table_fine_is]
  exact ⟨f, fd, fn_dD F sc__law_table_fine (by decide) (fun cdv A outer s H E hr => (dss_cons (ds_asg (vs := [1, 2, 3, 4]) (dg_tp rfl (dgs_cons (dg_tp rfl (dgs_cons (dg_nm (i := 1) sc__law_table_fine.nd rfl (.inl lk__law_table_fine_1) (.inl rfl)) (dgs_cons (dg_nm (i := 2) sc__law_table_fine.nd rfl (.inl lk__law_table_fine_2) (.inl rfl)) dgs_nil (mono_nm _)) (mono_nm _))) (dgs_cons (dg_tp rfl (dgs_cons (dg_nm (i := 3) sc__law_table_fine.nd rfl (.inl lk__law_table_fine_3) (.inl rfl)) (dgs_cons (dg_nm (i := 4) sc__law_table_fine.nd rfl (.inl lk__law_table_fine_4) (.inl rfl)) dgs_nil (mono_nm _)) (mono_nm _))) dgs_nil (mono_tp (mono_cons (mono_nm _) (mono_cons (mono_nm _) mono_nil)))) (mono_tp (mono_cons (mono_nm _) (mono_cons (mono_nm _) mono_nil))))) (de_var (pv 0 rfl (.inl lk__law_table_fine_0))))
      (dss_cons (ds_asg (vs := [5, 6]) (dg_tp rfl (dgs_cons (dg_nm (i := 5) sc__law_table_fine.nd rfl (.inr lk__law_table_fine_5) (.inl rfl)) (dgs_cons (dg_nm (i := 6) sc__law_table_fine.nd rfl (.inl lk__law_table_fine_6) (.inl rfl)) dgs_nil (mono_nm _)) (mono_nm _))) (de_tup (da_cons (de_cal C_passings_to_return (hr.mono (by omega)) rfl (da_cons (de_var (pv 0 rfl (.inl lk__law_table_fine_0))) da_nil)) (da_cons (de_cal C_told_still_ray (hr.mono (by omega)) rfl (da_cons (de_var (pv 0 rfl (.inl lk__law_table_fine_0))) da_nil)) da_nil))))
      (dss_cons (ds_if (dw_pt (dw_or (dt_not (dt_val (de_cal C__law_is (hr.mono (by omega)) rfl (da_cons (de_tup (da_cons (de_var (pv 5 rfl (.inr (.inl lk__law_table_fine_5)))) (da_cons (de_cal C_is_train_table (hr.mono (by omega)) rfl (da_cons (de_var (pv 0 rfl (.inl lk__law_table_fine_0))) da_nil)) da_nil))) (da_cons (de_tup (da_cons (de_cal C__law_returns (hr.mono (by omega)) rfl (da_cons (de_var (pv 0 rfl (.inl lk__law_table_fine_0))) da_nil)) (da_cons de_bl da_nil))) da_nil))))) (dw_or1 (dt_cmp (o_ne (u64 hr)) (de_cmp o_isnot (de_var (pv 6 rfl (.inl lk__law_table_fine_6))) de_non) (de_cmp (o_eq (u64 hr)) (de_op o_add (de_var (pv 1 rfl (.inl lk__law_table_fine_1))) (de_var (pv 4 rfl (.inl lk__law_table_fine_4)))) de_int))))) (dss_one (ds_ret de_bl)) dss_nil)
      (dss_cons (ds_if (dt_cmp o_isnot (de_var (pv 6 rfl (.inl lk__law_table_fine_6))) de_non) (dss_one (ds_for (vs := [7]) PassesOwn.never rfl (dg_nm (i := 7) sc__law_table_fine.nd rfl (.inr lk__law_table_fine_7) (.inl rfl)) (di_any (de_tup (da_cons de_int (da_cons de_int (da_cons (de_op o_sub de_int de_int) da_nil))))) (dss_cons (ds_set (i := 8) sc__law_table_fine.nd rfl (.inl lk__law_table_fine_8) (de_tup (da_cons (de_op o_mul (de_var (pv 7 rfl (.inr (.inl lk__law_table_fine_7)))) (de_ix (u1 hr) (de_var (pv 6 rfl (.inl lk__law_table_fine_6))) de_int)) (da_cons (de_op o_mul (de_var (pv 7 rfl (.inr (.inl lk__law_table_fine_7)))) (de_ix (u1 hr) (de_var (pv 6 rfl (.inl lk__law_table_fine_6))) de_int)) da_nil))) (.inl rfl))
      (dss_one (ds_if (dw_pt (dw_or (dt_cmp (o_ne (u64 hr)) (de_cal C__law_sent (hr.mono (by omega)) rfl (da_cons (de_var (pv 0 rfl (.inl lk__law_table_fine_0))) (da_cons (de_var (pv 8 rfl (.inl lk__law_table_fine_8))) da_nil))) (de_var (pv 8 rfl (.inl lk__law_table_fine_8)))) (dw_or1 (dt_cmp (o_eq (u64 hr)) (de_var (pv 6 rfl (.inl lk__law_table_fine_6))) (de_tup (da_cons de_int (da_cons de_int da_nil))))))) (dss_one (ds_ret de_bl)) dss_nil))))) dss_nil)
      (dss_cons (ds_if (dt_not (dt_val (de_cal C__law_is (hr.mono (by omega)) rfl (da_cons (de_tup (da_cons (de_cal C_keeps_level (hr.mono (by omega)) rfl (da_cons (de_var (pv 0 rfl (.inl lk__law_table_fine_0))) da_nil)) (da_cons (de_cal C_is_sharp_table (hr.mono (by omega)) rfl (da_cons (de_var (pv 0 rfl (.inl lk__law_table_fine_0))) da_nil)) da_nil))) (da_cons (de_tup (da_cons (de_cmp (o_eq (u64 hr)) (de_var (pv 3 rfl (.inl lk__law_table_fine_3))) de_int) (da_cons (de_cmp (o_eq (u64 hr)) (de_var (pv 2 rfl (.inl lk__law_table_fine_2))) de_int) da_nil))) da_nil))))) (dss_one (ds_ret de_bl)) dss_nil)
      (dss_cons (ds_set (i := 9) sc__law_table_fine.nd rfl (.inl lk__law_table_fine_9) (de_cal C__law_opposite (hr.mono (by omega)) rfl (da_cons (de_var (pv 0 rfl (.inl lk__law_table_fine_0))) da_nil)) (.inl rfl))
      (dss_cons (ds_if (dw_pt (dw_or (dt_not (dt_val (de_cal C__law_is (hr.mono (by omega)) rfl (da_cons (de_cal C_passings_to_return (hr.mono (by omega)) rfl (da_cons (de_var (pv 9 rfl (.inl lk__law_table_fine_9))) da_nil)) (da_cons (de_var (pv 5 rfl (.inr (.inl lk__law_table_fine_5)))) da_nil))))) (dw_or1 (dt_cmp (o_ne (u64 hr)) (de_cmp o_is (de_cal C_told_still_ray (hr.mono (by omega)) rfl (da_cons (de_var (pv 9 rfl (.inl lk__law_table_fine_9))) da_nil)) de_non) (de_cmp o_is (de_var (pv 6 rfl (.inl lk__law_table_fine_6))) de_non))))) (dss_one (ds_ret de_bl)) dss_nil)
      (dss_cons (ds_set (i := 10) sc__law_table_fine.nd rfl (.inl lk__law_table_fine_10) (de_cal C__law_product (hr.mono (by omega)) rfl (da_cons (de_var (pv 0 rfl (.inl lk__law_table_fine_0))) (da_cons (de_var (pv 0 rfl (.inl lk__law_table_fine_0))) da_nil))) (.inl rfl))
      (dss_cons (ds_set (i := 11) sc__law_table_fine.nd rfl (.inl lk__law_table_fine_11) (de_cal C__law_product (hr.mono (by omega)) rfl (da_cons (de_var (pv 10 rfl (.inl lk__law_table_fine_10))) (da_cons (de_var (pv 0 rfl (.inl lk__law_table_fine_0))) da_nil))) (.inl rfl))
      (dss_cons (ds_for (vs := [12, 7]) PassesOwn.never rfl (dg_tp rfl (dgs_cons (dg_nm (i := 12) sc__law_table_fine.nd rfl (.inl lk__law_table_fine_12) (.inl rfl)) (dgs_cons (dg_nm (i := 7) sc__law_table_fine.nd rfl (.inr lk__law_table_fine_7) (.inl rfl)) dgs_nil (mono_nm _)) (mono_nm _))) (di_any (de_tup (da_cons (de_tup (da_cons (de_var (pv 10 rfl (.inl lk__law_table_fine_10))) (da_cons de_int da_nil))) (da_cons (de_tup (da_cons (de_var (pv 11 rfl (.inl lk__law_table_fine_11))) (da_cons de_int da_nil))) da_nil)))) (dss_one (ds_if (dt_val (de_cal C__law_small (hr.mono (by omega)) rfl (da_cons (de_var (pv 12 rfl (.inl lk__law_table_fine_12))) da_nil))) (dss_cons (ds_set (i := 13) sc__law_table_fine.nd rfl (.inl lk__law_table_fine_13) de_non (.inl rfl))
      (dss_cons (ds_if (dt_cmp o_isnot (de_var (pv 5 rfl (.inr (.inl lk__law_table_fine_5)))) de_non) (dss_one (ds_set (i := 13) sc__law_table_fine.nd rfl (.inl lk__law_table_fine_13) (de_ix (u1 hr) (de_fz (df_comp (own := [("q", 15)]) rfl sc__law_table_fine.nd (blkOk_by (own := [("q", 15)]) (N := nm__law_table_fine) (sc := defScope s__law_table_fine) (by decide +kernel)) (fun _ _ _ _ _ => (dg_nm (i := 15) sc__law_table_fine.nd rfl (.inl rfl) (.inr rfl))) (di_rng2 z_range rfl (da_cons de_int (da_cons de_int da_nil))) (fun _ _ _ _ _ => (dts_one (dt_cmp (o_eq (u64 hr)) (de_op o_mod (de_op o_mul (de_var (pv 15 rfl (.inl rfl))) (de_var (pv 7 rfl (.inr (.inl rfl))))) (de_var (pv 5 rfl (.inr (.inl rfl))))) de_int))) (fun _ _ _ _ _ => (de_var (pv 15 rfl (.inl rfl)))))) de_int) (.inl rfl))) dss_nil)
      (dss_one (ds_if (dt_not (dt_val (de_cal C__law_is (hr.mono (by omega)) rfl (da_cons (de_cal C_passings_to_return (hr.mono (by omega)) rfl (da_cons (de_var (pv 12 rfl (.inl lk__law_table_fine_12))) da_nil)) (da_cons (de_var (pv 13 rfl (.inl lk__law_table_fine_13))) da_nil))))) (dss_one (ds_ret de_bl)) dss_nil)))) dss_nil)))
      (dss_cons (ds_set (i := 14) sc__law_table_fine.nd rfl (.inl lk__law_table_fine_14) (de_tup (da_cons (de_tup (da_cons (de_op o_sub de_int (de_var (pv 1 rfl (.inl lk__law_table_fine_1)))) (da_cons (de_op o_sub de_int (de_var (pv 2 rfl (.inl lk__law_table_fine_2)))) da_nil))) (da_cons (de_tup (da_cons (de_op o_sub de_int (de_var (pv 3 rfl (.inl lk__law_table_fine_3)))) (da_cons (de_op o_sub de_int (de_var (pv 4 rfl (.inl lk__law_table_fine_4)))) da_nil))) da_nil))) (.inl rfl))
      (dss_cons (ds_if (dt_not (dt_val (de_cal C__law_is (hr.mono (by omega)) rfl (da_cons (de_cal C_passings_to_return (hr.mono (by omega)) rfl (da_cons (de_var (pv 14 rfl (.inl lk__law_table_fine_14))) da_nil)) (da_cons (de_cal C__law_returns (hr.mono (by omega)) rfl (da_cons (de_var (pv 14 rfl (.inl lk__law_table_fine_14))) da_nil)) da_nil))))) (dss_one (ds_ret de_bl)) dss_nil)
      (dss_cons (ds_if (dw_pt (dw_and (dt_cmp o_isnot (de_var (pv 5 rfl (.inr (.inl lk__law_table_fine_5)))) de_non) (dw_and1 (dt_cmp (o_notin (u65 hr)) (de_cal C_passings_to_return (hr.mono (by omega)) rfl (da_cons (de_var (pv 14 rfl (.inl lk__law_table_fine_14))) da_nil)) (de_tup (da_cons (de_var (pv 5 rfl (.inr (.inl lk__law_table_fine_5)))) (da_cons (de_op o_mul de_int (de_var (pv 5 rfl (.inr (.inl lk__law_table_fine_5))))) (da_cons (de_op o_div (de_var (pv 5 rfl (.inr (.inl lk__law_table_fine_5)))) de_int) da_nil)))))))) (dss_one (ds_ret de_bl)) dss_nil)
      (dss_one (ds_ret (de_cmp (o_eq (u64 hr)) (de_cmp o_is (de_cal C_passings_to_return (hr.mono (by omega)) rfl (da_cons (de_var (pv 14 rfl (.inl lk__law_table_fine_14))) da_nil)) de_non) (de_cmp o_is (de_var (pv 5 rfl (.inr (.inl lk__law_table_fine_5)))) de_non)))))))))))))))))), m, F.kp, (F.bindsN fun _ _ _ _ _ _ us hl => match us, hl with | [_], _ => rfl)⟩
/-! ### _law_elsewhere_fine -/
abbrev s__law_elsewhere_fine : Stmt := top 28
abbrev nm__law_elsewhere_fine : List Str := ["table", "other", "seen", "still", "ray"]
abbrev ps__law_elsewhere_fine : List Str := ["table", "other"]
theorem sc__law_elsewhere_fine : FnScope nm__law_elsewhere_fine ps__law_elsewhere_fine (defScope s__law_elsewhere_fine) := ⟨rfl, rfl, rfl, by decide +kernel, rfl, by decide +kernel, by decide +kernel⟩
theorem lk__law_elsewhere_fine_0 : (defScope s__law_elsewhere_fine).names.lookup ("table" : Str) = some NameKind.local := by decide +kernel
theorem lk__law_elsewhere_fine_1 : (defScope s__law_elsewhere_fine).names.lookup ("other" : Str) = some NameKind.local := by decide +kernel
theorem lk__law_elsewhere_fine_2 : (defScope s__law_elsewhere_fine).names.lookup ("seen" : Str) = some NameKind.local := by decide +kernel
theorem lk__law_elsewhere_fine_3 : (defScope s__law_elsewhere_fine).names.lookup ("still" : Str) = some NameKind.local := by decide +kernel
theorem lk__law_elsewhere_fine_4 : (defScope s__law_elsewhere_fine).names.lookup ("ray" : Str) = some NameKind.local := by decide +kernel
noncomputable def t__law_elsewhere_fine : dTS := dSeq (dSet 2 (dCall 2 (rd__law_product) (dCons (dCall 2 (rd__law_product) (dCons (dVar 1) (dCons (dVar 0) (dNil)))) (dCons (dCall 1 (rd__law_opposite) (dCons (dVar 1) (dNil))) (dNil)))))
    (dSeq (dIfS (dNot (dB (dCall 1 (rd__law_small) (dCons (dVar 2) (dNil))))) (dRet (dC (.bool true))) (dNext))
    (dSeq (dIfS (dB (dOp fNe (dOp fAdd (dOp fIx (dOp fIx (dVar 2) (dC (.int 0))) (dC (.int 0))) (dOp fIx (dOp fIx (dVar 2) (dC (.int 1))) (dC (.int 1)))) (dOp fAdd (dOp fIx (dOp fIx (dVar 0) (dC (.int 0))) (dC (.int 0))) (dOp fIx (dOp fIx (dVar 0) (dC (.int 1))) (dC (.int 1)))))) (dRet (dC (.bool false))) (dNext))
    (dSeq (dSet 3 (dCall 1 (rd_told_still_ray) (dCons (dVar 0) (dNil))))
    (dSeq (dIfS (dNot (dB (dCall 2 (rd__law_is 6) (dCons (dCall 1 (rd_passings_to_return) (dCons (dVar 2) (dNil))) (dCons (dCall 1 (rd_passings_to_return) (dCons (dVar 0) (dNil))) (dNil)))))) (dRet (dC (.bool false))) (dNext))
    (dSeq (dIfS (dB (dOp fNe (dOp fIs (dCall 1 (rd_told_still_ray) (dCons (dVar 2) (dNil))) (dC .none)) (dOp fIs (dVar 3) (dC .none)))) (dRet (dC (.bool false))) (dNext))
    (dSeq (dIfS (dB (dOp fIsNot (dVar 3) (dC .none))) (dSeq (dSet 4 (dCall 2 (rd__law_sent) (dCons (dVar 1) (dCons (dVar 3) (dNil)))))
    (dRet (dAndV (dOp fEq (dCall 2 (rd__law_sent) (dCons (dVar 2) (dCons (dVar 4) (dNil)))) (dVar 4)) (dOp fNe (dVar 4) (dTup (dCons (dC (.int 0)) (dCons (dC (.int 0)) (dNil)))))))) (dNext))
    (dRet (dC (.bool true)))))))))
theorem rx__law_elsewhere_fine : ∃ r : dFn, r = fnT 5 t__law_elsewhere_fine := ⟨_, rfl⟩
@[irreducible] noncomputable def rd__law_elsewhere_fine : dFn := rx__law_elsewhere_fine.choose
theorem rd__law_elsewhere_fine_is : rd__law_elsewhere_fine = fnT 5 t__law_elsewhere_fine := by unfold rd__law_elsewhere_fine; exact rx__law_elsewhere_fine.choose_spec
theorem cal__law_elsewhere_fine {P : Program} {w : World} {K : PySem.W.Frag} {mg : Str → Option Value} {base : Heap} {f : Addr} {fd : FuncData} (F : FnP K "_law_elsewhere_fine" s__law_elsewhere_fine f fd) (m : mg "_law_elsewhere_fine" = some (.ref f)) (C__law_is : Cal P w K mg base "_law_is" 7 2 ps__law_is (rd__law_is 6)) (C__law_opposite : Cal P w K mg base "_law_opposite" 1 1 ps__law_opposite (rd__law_opposite)) (C__law_product : Cal P w K mg base "_law_product" 1 2 ps__law_product (rd__law_product)) (C__law_sent : Cal P w K mg base "_law_sent" 1 2 ps__law_sent (rd__law_sent)) (C__law_small : Cal P w K mg base "_law_small" 1 1 ps__law_small (rd__law_small)) (C_passings_to_return : Cal P w K mg base "passings_to_return" 2 1 ps_passings_to_return (rd_passings_to_return)) (C_told_still_ray : Cal P w K mg base "told_still_ray" 1 1 ps_told_still_ray (rd_told_still_ray)) : Cal P w K mg base "_law_elsewhere_fine" 8 2 ps__law_elsewhere_fine rd__law_elsewhere_fine :=
  by
  rw [rd__law_elsewhere_fine_is]
  exact ⟨f, fd, fn_dD F sc__law_elsewhere_fine (by decide) (fun cdv A outer s H E hr => (dss_cons (ds_set (i := 2) sc__law_elsewhere_fine.nd rfl (.inl lk__law_elsewhere_fine_2) (de_cal C__law_product (hr.mono (by omega)) rfl (da_cons (de_cal C__law_product (hr.mono (by omega)) rfl (da_cons (de_var (pv 1 rfl (.inl lk__law_elsewhere_fine_1))) (da_cons (de_var (pv 0 rfl (.inl lk__law_elsewhere_fine_0))) da_nil))) (da_cons (de_cal C__law_opposite (hr.mono (by omega)) rfl (da_cons (de_var (pv 1 rfl (.inl lk__law_elsewhere_fine_1))) da_nil)) da_nil))) (.inl rfl))
      (dss_cons (ds_if (dt_not (dt_val (de_cal C__law_small (hr.mono (by omega)) rfl (da_cons (de_var (pv 2 rfl (.inl lk__law_elsewhere_fine_2))) da_nil)))) (dss_one (ds_ret de_bl)) dss_nil)
      (dss_cons (ds_if (dt_cmp (o_ne (u64 hr)) (de_op o_add (de_ix (u1 hr) (de_ix (u1 hr) (de_var (pv 2 rfl (.inl lk__law_elsewhere_fine_2))) de_int) de_int) (de_ix (u1 hr) (de_ix (u1 hr) (de_var (pv 2 rfl (.inl lk__law_elsewhere_fine_2))) de_int) de_int)) (de_op o_add (de_ix (u1 hr) (de_ix (u1 hr) (de_var (pv 0 rfl (.inl lk__law_elsewhere_fine_0))) de_int) de_int) (de_ix (u1 hr) (de_ix (u1 hr) (de_var (pv 0 rfl (.inl lk__law_elsewhere_fine_0))) de_int) de_int))) (dss_one (ds_ret de_bl)) dss_nil)
      (dss_cons (ds_set (i := 3) sc__law_elsewhere_fine.nd rfl (.inl lk__law_elsewhere_fine_3) (de_cal C_told_still_ray (hr.mono (by omega)) rfl (da_cons (de_var (pv 0 rfl (.inl lk__law_elsewhere_fine_0))) da_nil)) (.inl rfl))
      (dss_cons (ds_if (dt_not (dt_val (de_cal C__law_is (hr.mono (by omega)) rfl (da_cons (de_cal C_passings_to_return (hr.mono (by omega)) rfl (da_cons (de_var (pv 2 rfl (.inl lk__law_elsewhere_fine_2))) da_nil)) (da_cons (de_cal C_passings_to_return (hr.mono (by omega)) rfl (da_cons (de_var (pv 0 rfl (.inl lk__law_elsewhere_fine_0))) da_nil)) da_nil))))) (dss_one (ds_ret de_bl)) dss_nil)
      (dss_cons (ds_if (dt_cmp (o_ne (u64 hr)) (de_cmp o_is (de_cal C_told_still_ray (hr.mono (by omega)) rfl (da_cons (de_var (pv 2 rfl (.inl lk__law_elsewhere_fine_2))) da_nil)) de_non) (de_cmp o_is (de_var (pv 3 rfl (.inl lk__law_elsewhere_fine_3))) de_non)) (dss_one (ds_ret de_bl)) dss_nil)
      (dss_cons (ds_if (dt_cmp o_isnot (de_var (pv 3 rfl (.inl lk__law_elsewhere_fine_3))) de_non) (dss_cons (ds_set (i := 4) sc__law_elsewhere_fine.nd rfl (.inl lk__law_elsewhere_fine_4) (de_cal C__law_sent (hr.mono (by omega)) rfl (da_cons (de_var (pv 1 rfl (.inl lk__law_elsewhere_fine_1))) (da_cons (de_var (pv 3 rfl (.inl lk__law_elsewhere_fine_3))) da_nil))) (.inl rfl))
      (dss_one (ds_ret (de_and (de_cmp (o_eq (u64 hr)) (de_cal C__law_sent (hr.mono (by omega)) rfl (da_cons (de_var (pv 2 rfl (.inl lk__law_elsewhere_fine_2))) (da_cons (de_var (pv 4 rfl (.inl lk__law_elsewhere_fine_4))) da_nil))) (de_var (pv 4 rfl (.inl lk__law_elsewhere_fine_4)))) (de_one (de_cmp (o_ne (u64 hr)) (de_var (pv 4 rfl (.inl lk__law_elsewhere_fine_4))) (de_tup (da_cons de_int (da_cons de_int da_nil))))))))) dss_nil)
      (dss_one (ds_ret de_bl)))))))))), m, F.kp, (F.bindsN fun _ _ _ _ _ _ us hl => match us, hl with | [_, _], _ => rfl)⟩
/-! ### _law_joined_fine -/
abbrev s__law_joined_fine : Stmt := top 29
abbrev nm__law_joined_fine : List Str := ["one", "other", "both", "turned", "first"]
abbrev ps__law_joined_fine : List Str := ["one", "other"]
theorem sc__law_joined_fine : FnScope nm__law_joined_fine ps__law_joined_fine (defScope s__law_joined_fine) := ⟨rfl, rfl, rfl, by decide +kernel, rfl, by decide +kernel, by decide +kernel⟩
theorem lk__law_joined_fine_0 : (defScope s__law_joined_fine).names.lookup ("one" : Str) = some NameKind.local := by decide +kernel
theorem lk__law_joined_fine_1 : (defScope s__law_joined_fine).names.lookup ("other" : Str) = some NameKind.local := by decide +kernel
theorem lk__law_joined_fine_2 : (defScope s__law_joined_fine).names.lookup ("both" : Str) = some NameKind.local := by decide +kernel
theorem lk__law_joined_fine_3 : (defScope s__law_joined_fine).names.lookup ("turned" : Str) = some NameKind.local := by decide +kernel
theorem lk__law_joined_fine_4 : (defScope s__law_joined_fine).names.lookup ("first" : Str) = some NameKind.local := by decide +kernel
noncomputable def t__law_joined_fine : dTS := dSeq (dSet 2 (dCall 2 (rd__law_product) (dCons (dVar 1) (dCons (dVar 0) (dNil)))))
    (dSeq (dIfS (dNot (dB (dCall 1 (rd__law_small) (dCons (dVar 2) (dNil))))) (dRet (dC (.bool true))) (dNext))
    (dSeq (dIfS (dAnd (dB (dOp fIs (dCall 1 (rd_keeps_level) (dCons (dVar 0) (dNil))) (dC (.bool true)))) (dAnd (dB (dOp fIs (dCall 1 (rd_keeps_level) (dCons (dVar 1) (dNil))) (dC (.bool true)))) (dB (dOp fIsNot (dCall 1 (rd_keeps_level) (dCons (dVar 2) (dNil))) (dC (.bool true)))))) (dRet (dC (.bool false))) (dNext))
    (dSeq (dIfS (dAnd (dB (dOp fIs (dCall 1 (rd_is_sharp_table) (dCons (dVar 0) (dNil))) (dC (.bool true)))) (dAnd (dB (dOp fIs (dCall 1 (rd_is_sharp_table) (dCons (dVar 1) (dNil))) (dC (.bool true)))) (dB (dOp fIsNot (dCall 1 (rd_is_sharp_table) (dCons (dVar 2) (dNil))) (dC (.bool true)))))) (dRet (dC (.bool false))) (dNext))
    (dSeq (dSet 3 (dTup (dCons (dTup (dCons (dOp fIx (dOp fIx (dVar 2) (dC (.int 1))) (dC (.int 1))) (dCons (dOp fIx (dOp fIx (dVar 2) (dC (.int 1))) (dC (.int 0))) (dNil)))) (dCons (dTup (dCons (dOp fIx (dOp fIx (dVar 2) (dC (.int 0))) (dC (.int 1))) (dCons (dOp fIx (dOp fIx (dVar 2) (dC (.int 0))) (dC (.int 0))) (dNil)))) (dNil)))))
    (dSeq (dIfS (dNot (dB (dCall 2 (rd__law_is 6) (dCons (dTup (dCons (dCall 1 (rd_keeps_level) (dCons (dVar 3) (dNil))) (dCons (dCall 1 (rd_is_sharp_table) (dCons (dVar 3) (dNil))) (dNil)))) (dCons (dTup (dCons (dCall 1 (rd_is_sharp_table) (dCons (dVar 2) (dNil))) (dCons (dCall 1 (rd_keeps_level) (dCons (dVar 2) (dNil))) (dNil)))) (dNil)))))) (dRet (dC (.bool false))) (dNext))
    (dSeq (dSet 4 (dCall 2 (rd__law_product) (dCons (dVar 0) (dCons (dVar 1) (dNil)))))
    (dRet (dIfE (dB (dCall 1 (rd__law_small) (dCons (dVar 4) (dNil)))) (dOp fEq (dCall 1 (rd_passings_to_return) (dCons (dVar 4) (dNil))) (dCall 1 (rd_passings_to_return) (dCons (dVar 2) (dNil)))) (dC (.bool true))))))))))
theorem rx__law_joined_fine : ∃ r : dFn, r = fnT 5 t__law_joined_fine := ⟨_, rfl⟩
@[irreducible] noncomputable def rd__law_joined_fine : dFn := rx__law_joined_fine.choose
theorem rd__law_joined_fine_is : rd__law_joined_fine = fnT 5 t__law_joined_fine := by unfold rd__law_joined_fine; exact rx__law_joined_fine.choose_spec
theorem cal__law_joined_fine {P : Program} {w : World} {K : PySem.W.Frag} {mg : Str → Option Value} {base : Heap} {f : Addr} {fd : FuncData} (F : FnP K "_law_joined_fine" s__law_joined_fine f fd) (m : mg "_law_joined_fine" = some (.ref f)) (C__law_is : Cal P w K mg base "_law_is" 7 2 ps__law_is (rd__law_is 6)) (C__law_product : Cal P w K mg base "_law_product" 1 2 ps__law_product (rd__law_product)) (C__law_small : Cal P w K mg base "_law_small" 1 1 ps__law_small (rd__law_small)) (C_is_sharp_table : Cal P w K mg base "is_sharp_table" 1 1 ps_is_sharp_table (rd_is_sharp_table)) (C_keeps_level : Cal P w K mg base "keeps_level" 1 1 ps_keeps_level (rd_keeps_level)) (C_passings_to_return : Cal P w K mg base "passings_to_return" 2 1 ps_passings_to_return (rd_passings_to_return)) : Cal P w K mg base "_law_joined_fine" 8 2 ps__law_joined_fine rd__law_joined_fine :=
  by
  rw [rd__law_joined_fine_is]
  exact ⟨f, fd, fn_dD F sc__law_joined_fine (by decide) (fun cdv A outer s H E hr => (dss_cons (ds_set (i := 2) sc__law_joined_fine.nd rfl (.inl lk__law_joined_fine_2) (de_cal C__law_product (hr.mono (by omega)) rfl (da_cons (de_var (pv 1 rfl (.inl lk__law_joined_fine_1))) (da_cons (de_var (pv 0 rfl (.inl lk__law_joined_fine_0))) da_nil))) (.inl rfl))
      (dss_cons (ds_if (dt_not (dt_val (de_cal C__law_small (hr.mono (by omega)) rfl (da_cons (de_var (pv 2 rfl (.inl lk__law_joined_fine_2))) da_nil)))) (dss_one (ds_ret de_bl)) dss_nil)
      (dss_cons (ds_if (dw_pt (dw_and (dt_cmp o_is (de_cal C_keeps_level (hr.mono (by omega)) rfl (da_cons (de_var (pv 0 rfl (.inl lk__law_joined_fine_0))) da_nil)) de_bl) (dw_and (dt_cmp o_is (de_cal C_keeps_level (hr.mono (by omega)) rfl (da_cons (de_var (pv 1 rfl (.inl lk__law_joined_fine_1))) da_nil)) de_bl) (dw_and1 (dt_cmp o_isnot (de_cal C_keeps_level (hr.mono (by omega)) rfl (da_cons (de_var (pv 2 rfl (.inl lk__law_joined_fine_2))) da_nil)) de_bl))))) (dss_one (ds_ret de_bl)) dss_nil)
      (dss_cons (ds_if (dw_pt (dw_and (dt_cmp o_is (de_cal C_is_sharp_table (hr.mono (by omega)) rfl (da_cons (de_var (pv 0 rfl (.inl lk__law_joined_fine_0))) da_nil)) de_bl) (dw_and (dt_cmp o_is (de_cal C_is_sharp_table (hr.mono (by omega)) rfl (da_cons (de_var (pv 1 rfl (.inl lk__law_joined_fine_1))) da_nil)) de_bl) (dw_and1 (dt_cmp o_isnot (de_cal C_is_sharp_table (hr.mono (by omega)) rfl (da_cons (de_var (pv 2 rfl (.inl lk__law_joined_fine_2))) da_nil)) de_bl))))) (dss_one (ds_ret de_bl)) dss_nil)
      (dss_cons (ds_set (i := 3) sc__law_joined_fine.nd rfl (.inl lk__law_joined_fine_3) (de_tup (da_cons (de_tup (da_cons (de_ix (u1 hr) (de_ix (u1 hr) (de_var (pv 2 rfl (.inl lk__law_joined_fine_2))) de_int) de_int) (da_cons (de_ix (u1 hr) (de_ix (u1 hr) (de_var (pv 2 rfl (.inl lk__law_joined_fine_2))) de_int) de_int) da_nil))) (da_cons (de_tup (da_cons (de_ix (u1 hr) (de_ix (u1 hr) (de_var (pv 2 rfl (.inl lk__law_joined_fine_2))) de_int) de_int) (da_cons (de_ix (u1 hr) (de_ix (u1 hr) (de_var (pv 2 rfl (.inl lk__law_joined_fine_2))) de_int) de_int) da_nil))) da_nil))) (.inl rfl))
      (dss_cons (ds_if (dt_not (dt_val (de_cal C__law_is (hr.mono (by omega)) rfl (da_cons (de_tup (da_cons (de_cal C_keeps_level (hr.mono (by omega)) rfl (da_cons (de_var (pv 3 rfl (.inl lk__law_joined_fine_3))) da_nil)) (da_cons (de_cal C_is_sharp_table (hr.mono (by omega)) rfl (da_cons (de_var (pv 3 rfl (.inl lk__law_joined_fine_3))) da_nil)) da_nil))) (da_cons (de_tup (da_cons (de_cal C_is_sharp_table (hr.mono (by omega)) rfl (da_cons (de_var (pv 2 rfl (.inl lk__law_joined_fine_2))) da_nil)) (da_cons (de_cal C_keeps_level (hr.mono (by omega)) rfl (da_cons (de_var (pv 2 rfl (.inl lk__law_joined_fine_2))) da_nil)) da_nil))) da_nil))))) (dss_one (ds_ret de_bl)) dss_nil)
      (dss_cons (ds_set (i := 4) sc__law_joined_fine.nd rfl (.inl lk__law_joined_fine_4) (de_cal C__law_product (hr.mono (by omega)) rfl (da_cons (de_var (pv 0 rfl (.inl lk__law_joined_fine_0))) (da_cons (de_var (pv 1 rfl (.inl lk__law_joined_fine_1))) da_nil))) (.inl rfl))
      (dss_one (ds_ret (de_ifExp (dt_val (de_cal C__law_small (hr.mono (by omega)) rfl (da_cons (de_var (pv 4 rfl (.inl lk__law_joined_fine_4))) da_nil))) (de_cmp (o_eq (u64 hr)) (de_cal C_passings_to_return (hr.mono (by omega)) rfl (da_cons (de_var (pv 4 rfl (.inl lk__law_joined_fine_4))) da_nil)) (de_cal C_passings_to_return (hr.mono (by omega)) rfl (da_cons (de_var (pv 2 rfl (.inl lk__law_joined_fine_2))) da_nil))) de_bl))))))))))), m, F.kp, (F.bindsN fun _ _ _ _ _ _ us hl => match us, hl with | [_, _], _ => rfl)⟩
/-! ### _law_train_fine -/
abbrev s__law_train_fine : Stmt := top 30
abbrev nm__law_train_fine : List Str := ["train", "h", "s", "table", "again", "p", "ray", "turn"]
abbrev ps__law_train_fine : List Str := ["train", "h", "s"]
theorem sc__law_train_fine : FnScope nm__law_train_fine ps__law_train_fine (defScope s__law_train_fine) := ⟨rfl, rfl, rfl, by decide +kernel, rfl, by decide +kernel, by decide +kernel⟩
theorem lk__law_train_fine_0 : (defScope s__law_train_fine).names.lookup ("train" : Str) = some NameKind.local := by decide +kernel
theorem lk__law_train_fine_1 : (defScope s__law_train_fine).names.lookup ("h" : Str) = some NameKind.local := by decide +kernel
theorem lk__law_train_fine_2 : (defScope s__law_train_fine).names.lookup ("s" : Str) = some NameKind.local := by decide +kernel
theorem lk__law_train_fine_3 : (defScope s__law_train_fine).names.lookup ("table" : Str) = some NameKind.local := by decide +kernel
theorem lk__law_train_fine_4 : (defScope s__law_train_fine).names.lookup ("again" : Str) = some NameKind.local := by decide +kernel
theorem lk__law_train_fine_5 : (defScope s__law_train_fine).names.lookup ("p" : Str) = some NameKind.local := by decide +kernel
theorem lk__law_train_fine_6 : (defScope s__law_train_fine).names.lookup ("ray" : Str) = some NameKind.local := by decide +kernel
theorem lk__law_train_fine_7 : (defScope s__law_train_fine).names.lookup ("turn" : Str) = some NameKind.local := by decide +kernel
noncomputable def t__law_train_fine : dTS := dSeq (dSet 3 (dCall 1 (rd_train_table) (dCons (dVar 0) (dNil))))
    (dSeq (dPar 4 5 (dCons (dCall 1 (rd_train_for) (dCons (dVar 3) (dNil))) (dCons (dCall 1 (rd_passings_to_return) (dCons (dVar 3) (dNil))) (dNil))))
    (dSeq (dIfS (dOr (dB (dOp fIs (dVar 4) (dC .none))) (dNot (dB (dCall 2 (rd__law_is 6) (dCons (dCall 1 (rd_train_table) (dCons (dVar 4) (dNil))) (dCons (dVar 3) (dNil))))))) (dRet (dC (.bool false))) (dNext))
    (dSeq (dSet 6 (dTup (dCons (dVar 1) (dCons (dVar 2) (dNil)))))
    (dSeq (dFor (dRng1 (dCons (dIfE (dB (dOp fIsNot (dVar 5) (dC .none))) (dVar 5) (dC (.int 3))) (dNil))) (gNm 7) (dSet 6 (dCall 3 (rd_ray_past_train) (dCons (dVar 0) (dCons (dOp fIx (dVar 6) (dC (.int 0))) (dCons (dOp fIx (dVar 6) (dC (.int 1))) (dNil)))))))
    (dSeq (dIfS (dAnd (dB (dOp fIsNot (dVar 5) (dC .none))) (dNot (dB (dCall 2 (rd__law_is 6) (dCons (dVar 6) (dCons (dTup (dCons (dVar 1) (dCons (dVar 2) (dNil)))) (dNil))))))) (dRet (dC (.bool false))) (dNext))
    (dRet (dOrV (dOp fIs (dVar 5) (dC .none)) (dOrV (dOp fGt (dOp fMul (dVar 5) (dCB fLen (dCons (dVar 0) (dNil)))) (dC (.int 40))) (dCall 2 (rd__law_is 6) (dCons (dCall 1 (rd_train_table) (dCons (dOp fMul (dVar 0) (dVar 5)) (dNil))) (dCons (dTup (dCons (dTup (dCons (dC (.int 1)) (dCons (dC (.int 0)) (dNil)))) (dCons (dTup (dCons (dC (.int 0)) (dCons (dC (.int 1)) (dNil)))) (dNil)))) (dNil))))))))))))
theorem rx__law_train_fine : ∃ r : dFn, r = fnT 8 t__law_train_fine := ⟨_, rfl⟩
@[irreducible] noncomputable def rd__law_train_fine : dFn := rx__law_train_fine.choose
theorem rd__law_train_fine_is : rd__law_train_fine = fnT 8 t__law_train_fine := by unfold rd__law_train_fine; exact rx__law_train_fine.choose_spec
theorem cal__law_train_fine {P : Program} {w : World} {K : PySem.W.Frag} {mg : Str → Option Value} {base : Heap} {f : Addr} {fd : FuncData} (F : FnP K "_law_train_fine" s__law_train_fine f fd) (m : mg "_law_train_fine" = some (.ref f)) (C__law_is : Cal P w K mg base "_law_is" 7 2 ps__law_is (rd__law_is 6)) (C_passings_to_return : Cal P w K mg base "passings_to_return" 2 1 ps_passings_to_return (rd_passings_to_return)) (C_ray_past_train : Cal P w K mg base "ray_past_train" 3 3 ps_ray_past_train (rd_ray_past_train)) (C_train_for : Cal P w K mg base "train_for" 3 1 ps_train_for (rd_train_for)) (C_train_table : Cal P w K mg base "train_table" 2 1 ps_train_table (rd_train_table)) (z_len : mg "len" = none) (z_range : mg "range" = none) : Cal P w K mg base "_law_train_fine" 8 3 ps__law_train_fine rd__law_train_fine :=
  by
  rw [rd__law_train_fine_is]
  exact ⟨f, fd, fn_dD F sc__law_train_fine (by decide) (fun cdv A outer s H E hr => (dss_cons (ds_set (i := 3) sc__law_train_fine.nd rfl (.inl lk__law_train_fine_3) (de_cal C_train_table (hr.mono (by omega)) rfl (da_cons (de_var (pv 0 rfl (.inl lk__law_train_fine_0))) da_nil)) (.inl rfl))
      (dss_cons (ds_par (i := 4) (j := 5) rfl sc__law_train_fine.nd rfl rfl (by decide) lk__law_train_fine_4 lk__law_train_fine_5 (da_cons (de_cal C_train_for (hr.mono (by omega)) rfl (da_cons (de_var (pv 3 rfl (.inl lk__law_train_fine_3))) da_nil)) (da_cons (de_cal C_passings_to_return (hr.mono (by omega)) rfl (da_cons (de_var (pv 3 rfl (.inl lk__law_train_fine_3))) da_nil)) da_nil)))
      (dss_cons (ds_if (dw_pt (dw_or (dt_cmp o_is (de_var (pv 4 rfl (.inl lk__law_train_fine_4))) de_non) (dw_or1 (dt_not (dt_val (de_cal C__law_is (hr.mono (by omega)) rfl (da_cons (de_cal C_train_table (hr.mono (by omega)) rfl (da_cons (de_var (pv 4 rfl (.inl lk__law_train_fine_4))) da_nil)) (da_cons (de_var (pv 3 rfl (.inl lk__law_train_fine_3))) da_nil)))))))) (dss_one (ds_ret de_bl)) dss_nil)
      (dss_cons (ds_set (i := 6) sc__law_train_fine.nd rfl (.inl lk__law_train_fine_6) (de_tup (da_cons (de_var (pv 1 rfl (.inl lk__law_train_fine_1))) (da_cons (de_var (pv 2 rfl (.inl lk__law_train_fine_2))) da_nil))) (.inl rfl))
      (dss_cons (ds_for (vs := [7]) PassesOwn.never rfl (dg_nm (i := 7) sc__law_train_fine.nd rfl (.inl lk__law_train_fine_7) (.inl rfl)) (di_rng1 z_range rfl (da_cons (de_ifExp (dt_cmp o_isnot (de_var (pv 5 rfl (.inl lk__law_train_fine_5))) de_non) (de_var (pv 5 rfl (.inl lk__law_train_fine_5))) de_int) da_nil)) (dss_one (ds_set (i := 6) sc__law_train_fine.nd rfl (.inl lk__law_train_fine_6) (de_cal C_ray_past_train (hr.mono (by omega)) rfl (da_cons (de_var (pv 0 rfl (.inl lk__law_train_fine_0))) (da_cons (de_ix (u1 hr) (de_var (pv 6 rfl (.inl lk__law_train_fine_6))) de_int) (da_cons (de_ix (u1 hr) (de_var (pv 6 rfl (.inl lk__law_train_fine_6))) de_int) da_nil)))) (.inl rfl))))
      (dss_cons (ds_if (dw_pt (dw_and (dt_cmp o_isnot (de_var (pv 5 rfl (.inl lk__law_train_fine_5))) de_non) (dw_and1 (dt_not (dt_val (de_cal C__law_is (hr.mono (by omega)) rfl (da_cons (de_var (pv 6 rfl (.inl lk__law_train_fine_6))) (da_cons (de_tup (da_cons (de_var (pv 1 rfl (.inl lk__law_train_fine_1))) (da_cons (de_var (pv 2 rfl (.inl lk__law_train_fine_2))) da_nil))) da_nil)))))))) (dss_one (ds_ret de_bl)) dss_nil)
      (dss_one (ds_ret (de_or (de_cmp o_is (de_var (pv 5 rfl (.inl lk__law_train_fine_5))) de_non) (de_or (de_cmp o_gt (de_op o_mul (de_var (pv 5 rfl (.inl lk__law_train_fine_5))) (de_callB c_len z_len rfl (by decide +kernel) (da_cons (de_var (pv 0 rfl (.inl lk__law_train_fine_0))) da_nil))) de_int) (de_one (de_cal C__law_is (hr.mono (by omega)) rfl (da_cons (de_cal C_train_table (hr.mono (by omega)) rfl (da_cons (de_op o_mul (de_var (pv 0 rfl (.inl lk__law_train_fine_0))) (de_var (pv 5 rfl (.inl lk__law_train_fine_5)))) da_nil)) (da_cons (de_tup (da_cons (de_tup (da_cons de_int (da_cons de_int da_nil))) (da_cons (de_tup (da_cons de_int (da_cons de_int da_nil))) da_nil))) da_nil))))))))))))))), m, F.kp, (F.bindsN fun _ _ _ _ _ _ us hl => match us, hl with | [_, _, _], _ => rfl)⟩
/-! ### law -/
abbrev s_law : Stmt := top 31
abbrev nm_law : List Str := ["script", "known", "train", "p", "k", "hand", "trains", "table", "h", "s", "other", "far", "turn", "at"]
abbrev ps_law : List Str := ["script"]
theorem sc_law : FnScope nm_law ps_law (defScope s_law) := ⟨rfl, rfl, rfl, by decide +kernel, rfl, by decide +kernel, by decide +kernel⟩
theorem lk_law_0 : (defScope s_law).names.lookup ("script" : Str) = some NameKind.local := by decide +kernel
theorem lk_law_1 : (defScope s_law).names.lookup ("known" : Str) = some NameKind.local := by decide +kernel
theorem lk_law_2 : (defScope s_law).names.lookup ("train" : Str) = some NameKind.local := by decide +kernel
theorem lk_law_3 : (defScope s_law).names.lookup ("p" : Str) = some NameKind.local := by decide +kernel
theorem lk_law_4 : (defScope s_law).names.lookup ("k" : Str) = some NameKind.local := by decide +kernel
theorem lk_law_5 : (defScope s_law).names.lookup ("hand" : Str) = some NameKind.cell := by decide +kernel
theorem lk_law_6 : (defScope s_law).names.lookup ("trains" : Str) = some NameKind.local := by decide +kernel
theorem lk_law_7 : (defScope s_law).names.lookup ("table" : Str) = some NameKind.local := by decide +kernel
theorem lk_law_8 : (defScope s_law).names.lookup ("h" : Str) = some NameKind.local := by decide +kernel
theorem lk_law_9 : (defScope s_law).names.lookup ("s" : Str) = some NameKind.local := by decide +kernel
theorem lk_law_10 : (defScope s_law).names.lookup ("other" : Str) = some NameKind.local := by decide +kernel
theorem lk_law_11 : (defScope s_law).names.lookup ("far" : Str) = some NameKind.local := by decide +kernel
noncomputable def t_law : dTS := dSeq (dSet 1 (dTup (dCons (dTup (dCons (dC (.str (Str.ofString ""))) (dCons (dC (.int 1)) (dNil)))) (dCons (dTup (dCons (dC (.str (Str.ofString "gh"))) (dCons (dC (.int 6)) (dNil)))) (dCons (dTup (dCons (dC (.str (Str.ofString "hg"))) (dCons (dC (.int 6)) (dNil)))) (dCons (dTup (dCons (dC (.str (Str.ofString "ghg"))) (dCons (dC (.int 4)) (dNil)))) (dCons (dTup (dCons (dC (.str (Str.ofString "hgh"))) (dCons (dC (.int 4)) (dNil)))) (dCons (dTup (dCons (dC (.str (Str.ofString "ghgh"))) (dCons (dC (.int 3)) (dNil)))) (dCons (dTup (dCons (dC (.str (Str.ofString "ghghgh"))) (dCons (dC (.int 2)) (dNil)))) (dNil))))))))))
    (dSeq (dSet 1 (dOp fAdd (dVar 1) (dTup (dCons (dTup (dCons (dC (.str (Str.ofString "g"))) (dCons (dC .none) (dNil)))) (dCons (dTup (dCons (dC (.str (Str.ofString "gl"))) (dCons (dC .none) (dNil)))) (dNil))))))
    (dSeq (dFor (dItV (dVar 1)) (gTp (gsCons (gNm 2) (gsCons (gNm 3) (gsNil)))) (dIfS (dOr (dNot (dB (dCall 2 (rd__law_is 6) (dCons (dCall 1 (rd_passings_to_return) (dCons (dCall 1 (rd_train_table) (dCons (dVar 2) (dNil))) (dNil))) (dCons (dVar 3) (dNil)))))) (dNot (dB (dCall 1 (rd__law_table_fine) (dCons (dCall 1 (rd_train_table) (dCons (dVar 2) (dNil))) (dNil)))))) (dRet (dC (.bool false))) (dNext)))
    (dSeq (dFor (dRng1 (dCons (dC (.int 3)) (dNil))) (gNm 4) (dSeq (dSet 5 (dCall 2 (rd__law_hand) (dCons (dVar 0) (dCons (dVar 4) (dNil)))))
    (dSeq (dSetO 6 (dComp (dRng1 (dCons (dC (.int 2)) (dNil))) (gNm 12) (dYes) (dBM "str" fJoin (dC (.str (Str.ofString ""))) (dCons (dFz (dComp (dRng1 (dCons (dCall 2 (rd__law_take) (dCons (dVar 5) (dCons (dC (.int 7)) (dNil)))) (dNil))) (gNm 13) (dYes) (dOp fIx (dC (.str (Str.ofString "glh"))) (dCall 2 (rd__law_take) (dCons (dVar 5) (dCons (dC (.int 3)) (dNil))))) [13])) (dNil))) [12]))
    (dSeq (dApp 6 (dOp fIx (dOp fIx (dVar 1) (dCall 2 (rd__law_take) (dCons (dVar 5) (dCons (dC (.int 9)) (dNil))))) (dC (.int 0))))
    (dFrz 6 (dFor (dItV (dVar 6)) (gNm 2) (dSeq (dSet 7 (dCall 1 (rd_train_table) (dCons (dVar 2) (dNil))))
    (dSeq (dPar 8 9 (dCons (dOp fSub (dCall 2 (rd__law_take) (dCons (dVar 5) (dCons (dC (.int 41)) (dNil)))) (dC (.int 20))) (dCons (dOp fSub (dCall 2 (rd__law_take) (dCons (dVar 5) (dCons (dC (.int 9)) (dNil)))) (dC (.int 4))) (dNil))))
    (dSeq (dIfS (dOr (dNot (dB (dCall 1 (rd__law_table_fine) (dCons (dVar 7) (dNil))))) (dNot (dB (dCall 3 (rd__law_train_fine) (dCons (dVar 2) (dCons (dVar 8) (dCons (dVar 9) (dNil)))))))) (dRet (dC (.bool false))) (dNext))
    (dFrz 6 (dFor (dItV (dVar 6)) (gNm 10) (dSeq (dSet 11 (dCall 1 (rd_train_table) (dCons (dVar 10) (dNil))))
    (dIfS (dOr (dNot (dB (dCall 2 (rd__law_elsewhere_fine) (dCons (dVar 7) (dCons (dVar 11) (dNil)))))) (dNot (dB (dCall 2 (rd__law_joined_fine) (dCons (dVar 7) (dCons (dVar 11) (dNil))))))) (dRet (dC (.bool false))) (dNext))))))))))))))
    (dRet (dC (.bool true))))))
theorem rx_law : ∃ r : dFn, r = fnT 14 t_law := ⟨_, rfl⟩
@[irreducible] noncomputable def rd_law : dFn := rx_law.choose
theorem rd_law_is : rd_law = fnT 14 t_law := by unfold rd_law; exact rx_law.choose_spec
theorem okLaw {P : Program} {w : World} {K : PySem.W.Frag} {mg : Str → Option Value} {base : Heap} {f : Addr} {fd : FuncData} (F : FnP K "law" s_law f fd) (C__law_elsewhere_fine : Cal P w K mg base "_law_elsewhere_fine" 8 2 ps__law_elsewhere_fine (rd__law_elsewhere_fine)) (C__law_hand : Cal P w K mg base "_law_hand" 2 2 ps__law_hand (rd__law_hand)) (C__law_is : Cal P w K mg base "_law_is" 7 2 ps__law_is (rd__law_is 6)) (C__law_joined_fine : Cal P w K mg base "_law_joined_fine" 8 2 ps__law_joined_fine (rd__law_joined_fine)) (C__law_table_fine : Cal P w K mg base "_law_table_fine" 8 1 ps__law_table_fine (rd__law_table_fine)) (C__law_take : Cal P w K mg base "_law_take" 1 2 ps__law_take (rd__law_take)) (C__law_train_fine : Cal P w K mg base "_law_train_fine" 8 3 ps__law_train_fine (rd__law_train_fine)) (C_passings_to_return : Cal P w K mg base "passings_to_return" 2 1 ps_passings_to_return (rd_passings_to_return)) (C_train_table : Cal P w K mg base "train_table" 2 1 ps_train_table (rd_train_table)) (z_range : mg "range" = none) : FnOk P w K mg base CX0 9 f fd ps_law (spD K 1 rd_law) :=
  by
  rw [rd_law_is]
  exact fn_dD F sc_law (by decide) (fun cdv A outer s H E hr => (dss_cons (ds_set (i := 1) sc_law.nd rfl (.inl lk_law_1) (de_tup (da_cons (de_tup (da_cons de_str (da_cons de_int da_nil))) (da_cons (de_tup (da_cons de_str (da_cons de_int da_nil))) (da_cons (de_tup (da_cons de_str (da_cons de_int da_nil))) (da_cons (de_tup (da_cons de_str (da_cons de_int da_nil))) (da_cons (de_tup (da_cons de_str (da_cons de_int da_nil))) (da_cons (de_tup (da_cons de_str (da_cons de_int da_nil))) (da_cons (de_tup (da_cons de_str (da_cons de_int da_nil))) da_nil)))))))) (.inl rfl))
      (dss_cons (ds_set (i := 1) sc_law.nd rfl (.inl lk_law_1) (de_op o_add (de_var (pv 1 rfl (.inl lk_law_1))) (de_tup (da_cons (de_tup (da_cons de_str (da_cons de_non da_nil))) (da_cons (de_tup (da_cons de_str (da_cons de_non da_nil))) da_nil)))) (.inl rfl))
      (dss_cons (ds_for (vs := [2, 3]) PassesOwn.never rfl (dg_tp rfl (dgs_cons (dg_nm (i := 2) sc_law.nd rfl (.inl lk_law_2) (.inl rfl)) (dgs_cons (dg_nm (i := 3) sc_law.nd rfl (.inl lk_law_3) (.inl rfl)) dgs_nil (mono_nm _)) (mono_nm _))) (di_any (de_var (pv 1 rfl (.inl lk_law_1)))) (dss_one (ds_if (dw_pt (dw_or (dt_not (dt_val (de_cal C__law_is (hr.mono (by omega)) rfl (da_cons (de_cal C_passings_to_return (hr.mono (by omega)) rfl (da_cons (de_cal C_train_table (hr.mono (by omega)) rfl (da_cons (de_var (pv 2 rfl (.inl lk_law_2))) da_nil)) da_nil)) (da_cons (de_var (pv 3 rfl (.inl lk_law_3))) da_nil))))) (dw_or1 (dt_not (dt_val (de_cal C__law_table_fine (hr.mono (by omega)) rfl (da_cons (de_cal C_train_table (hr.mono (by omega)) rfl (da_cons (de_var (pv 2 rfl (.inl lk_law_2))) da_nil)) da_nil))))))) (dss_one (ds_ret de_bl)) dss_nil)))
      (dss_cons (ds_for (vs := [4]) PassesOwn.never rfl (dg_nm (i := 4) sc_law.nd rfl (.inl lk_law_4) (.inl rfl)) (di_rng1 z_range rfl (da_cons de_int da_nil)) (dss_cons (ds_set (i := 5) sc_law.nd rfl (.inr lk_law_5) (de_cal C__law_hand (hr.mono (by omega)) rfl (da_cons (de_var (pv 0 rfl (.inl lk_law_0))) (da_cons (de_var (pv 4 rfl (.inl lk_law_4))) da_nil))) (.inl rfl))
      (dss_cons (ds_setLcO (i := 6) (own := [("turn", 12)]) rfl sc_law.nd rfl lk_law_6 (sw_true rfl lk_law_6 (by decide +kernel) (by decide +kernel)) (blkOk_by (own := [("turn", 12)]) (N := nm_law) (sc := defScope s_law) (by decide +kernel)) (fun _ _ _ _ _ => (dg_nm (i := 12) sc_law.nd rfl (.inl rfl) (.inr rfl))) (di_rng1 z_range rfl (da_cons de_int da_nil)) (fun _ _ _ _ _ => dts_nil) (fun _ _ _ _ _ => (de_bm m_join (.inl rfl) PySem.F.plainAttrs_str PySem.F.slot_str_join PySem.F.type_str_join de_str (da_cons (de_fz (df_comp (own := [("at", 13)]) rfl sc_law.nd (blkOk_by (own := [("at", 13)]) (N := nm_law) (sc := _) rfl) (fun _ _ _ _ _ => (dg_nm (i := 13) sc_law.nd rfl (.inl rfl) (.inr rfl))) (di_rng1 z_range rfl (da_cons (de_cal C__law_take (hr.mono (by omega)) rfl (da_cons (de_var (pv 5 rfl (.inr (.inl rfl)))) (da_cons de_int da_nil))) da_nil)) (fun _ _ _ _ _ => dts_nil) (fun _ _ _ _ _ => (de_ix (u1 hr) de_str (de_cal C__law_take (hr.mono (by omega)) rfl (da_cons (de_var (pv 5 rfl (.inr (.inl rfl)))) (da_cons de_int da_nil))))))) da_nil))))
      (dss_cons (ds_app (i := 6) (pv 6 rfl (.inl lk_law_6)) (de_ix (u1 hr) (de_ix (u1 hr) (de_var (pv 1 rfl (.inl lk_law_1))) (de_cal C__law_take (hr.mono (by omega)) rfl (da_cons (de_var (pv 5 rfl (.inr (.inl lk_law_5)))) (da_cons de_int da_nil)))) de_int))
      (dss_one (ds_frz 6 (ds_for (vs := [2]) PassesOwn.never rfl (dg_nm (i := 2) sc_law.nd rfl (.inl lk_law_2) (.inl rfl)) (di_any (de_var (pv 6 rfl (.inl lk_law_6)))) (dss_cons (ds_set (i := 7) sc_law.nd rfl (.inl lk_law_7) (de_cal C_train_table (hr.mono (by omega)) rfl (da_cons (de_var (pv 2 rfl (.inl lk_law_2))) da_nil)) (.inl rfl))
      (dss_cons (ds_par (i := 8) (j := 9) rfl sc_law.nd rfl rfl (by decide) lk_law_8 lk_law_9 (da_cons (de_op o_sub (de_cal C__law_take (hr.mono (by omega)) rfl (da_cons (de_var (pv 5 rfl (.inr (.inl lk_law_5)))) (da_cons de_int da_nil))) de_int) (da_cons (de_op o_sub (de_cal C__law_take (hr.mono (by omega)) rfl (da_cons (de_var (pv 5 rfl (.inr (.inl lk_law_5)))) (da_cons de_int da_nil))) de_int) da_nil)))
      (dss_cons (ds_if (dw_pt (dw_or (dt_not (dt_val (de_cal C__law_table_fine (hr.mono (by omega)) rfl (da_cons (de_var (pv 7 rfl (.inl lk_law_7))) da_nil)))) (dw_or1 (dt_not (dt_val (de_cal C__law_train_fine (hr.mono (by omega)) rfl (da_cons (de_var (pv 2 rfl (.inl lk_law_2))) (da_cons (de_var (pv 8 rfl (.inl lk_law_8))) (da_cons (de_var (pv 9 rfl (.inl lk_law_9))) da_nil))))))))) (dss_one (ds_ret de_bl)) dss_nil)
      (dss_one (ds_frz 6 (ds_for (vs := [10]) PassesOwn.never rfl (dg_nm (i := 10) sc_law.nd rfl (.inl lk_law_10) (.inl rfl)) (di_any (de_var (pv 6 rfl (.inl lk_law_6)))) (dss_cons (ds_set (i := 11) sc_law.nd rfl (.inl lk_law_11) (de_cal C_train_table (hr.mono (by omega)) rfl (da_cons (de_var (pv 10 rfl (.inl lk_law_10))) da_nil)) (.inl rfl))
      (dss_one (ds_if (dw_pt (dw_or (dt_not (dt_val (de_cal C__law_elsewhere_fine (hr.mono (by omega)) rfl (da_cons (de_var (pv 7 rfl (.inl lk_law_7))) (da_cons (de_var (pv 11 rfl (.inl lk_law_11))) da_nil))))) (dw_or1 (dt_not (dt_val (de_cal C__law_joined_fine (hr.mono (by omega)) rfl (da_cons (de_var (pv 7 rfl (.inl lk_law_7))) (da_cons (de_var (pv 11 rfl (.inl lk_law_11))) da_nil)))))))) (dss_one (ds_ret de_bl)) dss_nil))))))))))))))))
      (dss_one (ds_ret de_bl)))))))
/-! ### the head -/
def d_still_table : He.DefD := ⟨("still_table", none), "still_table", "still_table", defArgs s_still_table, defBody s_still_table, defScope s_still_table, [], []⟩
def d_table_behind : He.DefD := ⟨("table_behind", none), "table_behind", "table_behind", defArgs s_table_behind, defBody s_table_behind, defScope s_table_behind, [], []⟩
def d_sign_table : He.DefD := ⟨("sign_table", none), "sign_table", "sign_table", defArgs s_sign_table, defBody s_sign_table, defScope s_sign_table, [], []⟩
def d_train_table : He.DefD := ⟨("train_table", none), "train_table", "train_table", defArgs s_train_table, defBody s_train_table, defScope s_train_table, [], []⟩
def d_ray_past_train : He.DefD := ⟨("ray_past_train", none), "ray_past_train", "ray_past_train", defArgs s_ray_past_train, defBody s_ray_past_train, defScope s_ray_past_train, [], []⟩
def d_is_train_table : He.DefD := ⟨("is_train_table", none), "is_train_table", "is_train_table", defArgs s_is_train_table, defBody s_is_train_table, defScope s_is_train_table, [], []⟩
def d_gap_back : He.DefD := ⟨("gap_back", none), "gap_back", "gap_back", defArgs s_gap_back, defBody s_gap_back, defScope s_gap_back, [], []⟩
def d_last_part : He.DefD := ⟨("last_part", none), "last_part", "last_part", defArgs s_last_part, defBody s_last_part, defScope s_last_part, [], []⟩
def d_train_for : He.DefD := ⟨("train_for", none), "train_for", "train_for", defArgs s_train_for, defBody s_train_for, defScope s_train_for, [], []⟩
def d_passings_to_return : He.DefD := ⟨("passings_to_return", none), "passings_to_return", "passings_to_return", defArgs s_passings_to_return, defBody s_passings_to_return, defScope s_passings_to_return, [], []⟩
def d_told_still_ray : He.DefD := ⟨("told_still_ray", none), "told_still_ray", "told_still_ray", defArgs s_told_still_ray, defBody s_told_still_ray, defScope s_told_still_ray, [], []⟩
def d_keeps_level : He.DefD := ⟨("keeps_level", none), "keeps_level", "keeps_level", defArgs s_keeps_level, defBody s_keeps_level, defScope s_keeps_level, [], []⟩
def d_is_sharp_table : He.DefD := ⟨("is_sharp_table", none), "is_sharp_table", "is_sharp_table", defArgs s_is_sharp_table, defBody s_is_sharp_table, defScope s_is_sharp_table, [], []⟩
def d__law_cell : He.DefD := ⟨("_law_cell", none), "_law_cell", "_law_cell", defArgs s__law_cell, defBody s__law_cell, defScope s__law_cell, [], []⟩
def d__law_draws : He.DefD := ⟨("_law_draws", none), "_law_draws", "_law_draws", defArgs s__law_draws, defBody s__law_draws, defScope s__law_draws, [], []⟩
def d__law_is_integer : He.DefD := ⟨("_law_is_integer", none), "_law_is_integer", "_law_is_integer", defArgs s__law_is_integer, defBody s__law_is_integer, defScope s__law_is_integer, [], []⟩
def d__law_is : He.DefD := ⟨("_law_is", none), "_law_is", "_law_is", defArgs s__law_is, defBody s__law_is, defScope s__law_is, [], []⟩
def d__law_hand : He.DefD := ⟨("_law_hand", none), "_law_hand", "_law_hand", defArgs s__law_hand, defBody s__law_hand, defScope s__law_hand, [], []⟩
def d__law_take : He.DefD := ⟨("_law_take", none), "_law_take", "_law_take", defArgs s__law_take, defBody s__law_take, defScope s__law_take, [], []⟩
def d__law_product : He.DefD := ⟨("_law_product", none), "_law_product", "_law_product", defArgs s__law_product, defBody s__law_product, defScope s__law_product, [], []⟩
def d__law_opposite : He.DefD := ⟨("_law_opposite", none), "_law_opposite", "_law_opposite", defArgs s__law_opposite, defBody s__law_opposite, defScope s__law_opposite, [], []⟩
def d__law_sent : He.DefD := ⟨("_law_sent", none), "_law_sent", "_law_sent", defArgs s__law_sent, defBody s__law_sent, defScope s__law_sent, [], []⟩
def d__law_returns : He.DefD := ⟨("_law_returns", none), "_law_returns", "_law_returns", defArgs s__law_returns, defBody s__law_returns, defScope s__law_returns, [], []⟩
def d__law_small : He.DefD := ⟨("_law_small", none), "_law_small", "_law_small", defArgs s__law_small, defBody s__law_small, defScope s__law_small, [], []⟩
def d__law_table_fine : He.DefD := ⟨("_law_table_fine", none), "_law_table_fine", "_law_table_fine", defArgs s__law_table_fine, defBody s__law_table_fine, defScope s__law_table_fine, [], []⟩
def d__law_elsewhere_fine : He.DefD := ⟨("_law_elsewhere_fine", none), "_law_elsewhere_fine", "_law_elsewhere_fine", defArgs s__law_elsewhere_fine, defBody s__law_elsewhere_fine, defScope s__law_elsewhere_fine, [], []⟩
def d__law_joined_fine : He.DefD := ⟨("_law_joined_fine", none), "_law_joined_fine", "_law_joined_fine", defArgs s__law_joined_fine, defBody s__law_joined_fine, defScope s__law_joined_fine, [], []⟩
def d__law_train_fine : He.DefD := ⟨("_law_train_fine", none), "_law_train_fine", "_law_train_fine", defArgs s__law_train_fine, defBody s__law_train_fine, defScope s__law_train_fine, [], []⟩
def d_law : He.DefD := ⟨("law", none), "law", "law", defArgs s_law, defBody s_law, defScope s_law, [], []⟩
def fn : List He.DefD := [d_still_table, d_table_behind, d_sign_table, d_train_table, d_ray_past_train, d_is_train_table, d_gap_back, d_last_part, d_train_for, d_passings_to_return, d_told_still_ray, d_keeps_level, d_is_sharp_table, d__law_cell, d__law_draws, d__law_is_integer, d__law_is, d__law_hand, d__law_take, d__law_product, d__law_opposite, d__law_sent, d__law_returns, d__law_small, d__law_table_fine, d__law_elsewhere_fine, d__law_joined_fine, d__law_train_fine, d_law]
def fa : List He.Fa := [.glo "still_table", .glo "table_behind", .glo "sign_table", .glo "train_table", .glo "ray_past_train", .glo "is_train_table", .glo "gap_back", .glo "last_part", .glo "train_for", .glo "passings_to_return", .glo "told_still_ray", .glo "keeps_level", .glo "is_sharp_table", .glo "_law_cell", .glo "_law_draws", .glo "_law_is_integer", .glo "_law_is", .glo "_law_hand", .glo "_law_take", .glo "_law_product", .glo "_law_opposite", .glo "_law_sent", .glo "_law_returns", .glo "_law_small", .glo "_law_table_fine", .glo "_law_elsewhere_fine", .glo "_law_joined_fine", .glo "_law_train_fine", .glo "law", .free "abs", .free "all", .free "bool", .free "int", .free "isinstance", .free "len", .free "max", .free "range", .free "str", .free "tuple"]
abbrev R : PySem.W.OpenRow := PySem.W.OpenLaw.row PySem.Challenge.rw_shadehall_k20_whole_passings_seen_from_e
abbrev hk : PySem.W.Hook := He.hookD 4 fa fn
def ob (s : PySem.W.SharedT) : He.AlD := He.obsDG 4 fa fn (HandSHeadRun.getT s)
theorem ob_eq (s : PySem.W.SharedT) : ob s = hk.obs s.abs := He.obsDG_eq (HandSHeadRun.getT_eq s)
def loose : List PySem.Str := ["still_table", "table_behind", "sign_table", "train_table", "ray_past_train", "is_train_table", "gap_back", "last_part", "train_for", "passings_to_return", "told_still_ray", "keeps_level", "is_sharp_table", "_law_cell", "_law_draws", "_law_is_integer", "_law_is", "_law_hand", "_law_take", "_law_product", "_law_opposite", "_law_sent", "_law_returns", "_law_small", "_law_table_fine", "_law_elsewhere_fine", "_law_joined_fine", "_law_train_fine"]
theorem run (w : World) : HandSHeadRun.RunEq R (PySem.W.view R.prog [31]) hk ob 6000 loose w := by
  intro os
  kernel_rfl
theorem facts {P : Program} {w : World} {K : PySem.W.Frag} {h : Heap} {mg : Str → Option Value} {f : Addr} (X : K.In h) (G : h.Ns mainGlobals mg) (hfa : mg ("law" : Str) = some (.ref f)) (c : He.SaysD fa fn K) :
    ∃ fd : FuncData, (∀ (s : Shared) (v : Value), BindsTo s fd ⟨[v], []⟩ [("script", v)]) ∧ ∀ base : Heap, K.In base → base.Ns mainGlobals mg → FnOk P w K mg base CX0 9 f fd ["script"] (spD K 1 rd_law) := by
  obtain ⟨fd_still_table, F_still_table⟩ := c.def_ 0 (d := d_still_table) rfl
  have m_still_table := He.glo_ok X G (c.fact 0 (f := .glo "still_table") rfl)
  obtain ⟨fd_table_behind, F_table_behind⟩ := c.def_ 1 (d := d_table_behind) rfl
  have m_table_behind := He.glo_ok X G (c.fact 1 (f := .glo "table_behind") rfl)
  obtain ⟨fd_sign_table, F_sign_table⟩ := c.def_ 2 (d := d_sign_table) rfl
  have m_sign_table := He.glo_ok X G (c.fact 2 (f := .glo "sign_table") rfl)
  obtain ⟨fd_train_table, F_train_table⟩ := c.def_ 3 (d := d_train_table) rfl
  have m_train_table := He.glo_ok X G (c.fact 3 (f := .glo "train_table") rfl)
  obtain ⟨fd_ray_past_train, F_ray_past_train⟩ := c.def_ 4 (d := d_ray_past_train) rfl
  have m_ray_past_train := He.glo_ok X G (c.fact 4 (f := .glo "ray_past_train") rfl)
  obtain ⟨fd_is_train_table, F_is_train_table⟩ := c.def_ 5 (d := d_is_train_table) rfl
  have m_is_train_table := He.glo_ok X G (c.fact 5 (f := .glo "is_train_table") rfl)
  obtain ⟨fd_gap_back, F_gap_back⟩ := c.def_ 6 (d := d_gap_back) rfl
  have m_gap_back := He.glo_ok X G (c.fact 6 (f := .glo "gap_back") rfl)
  obtain ⟨fd_last_part, F_last_part⟩ := c.def_ 7 (d := d_last_part) rfl
  have m_last_part := He.glo_ok X G (c.fact 7 (f := .glo "last_part") rfl)
  obtain ⟨fd_train_for, F_train_for⟩ := c.def_ 8 (d := d_train_for) rfl
  have m_train_for := He.glo_ok X G (c.fact 8 (f := .glo "train_for") rfl)
  obtain ⟨fd_passings_to_return, F_passings_to_return⟩ := c.def_ 9 (d := d_passings_to_return) rfl
  have m_passings_to_return := He.glo_ok X G (c.fact 9 (f := .glo "passings_to_return") rfl)
  obtain ⟨fd_told_still_ray, F_told_still_ray⟩ := c.def_ 10 (d := d_told_still_ray) rfl
  have m_told_still_ray := He.glo_ok X G (c.fact 10 (f := .glo "told_still_ray") rfl)
  obtain ⟨fd_keeps_level, F_keeps_level⟩ := c.def_ 11 (d := d_keeps_level) rfl
  have m_keeps_level := He.glo_ok X G (c.fact 11 (f := .glo "keeps_level") rfl)
  obtain ⟨fd_is_sharp_table, F_is_sharp_table⟩ := c.def_ 12 (d := d_is_sharp_table) rfl
  have m_is_sharp_table := He.glo_ok X G (c.fact 12 (f := .glo "is_sharp_table") rfl)
  obtain ⟨fd__law_cell, F__law_cell⟩ := c.def_ 13 (d := d__law_cell) rfl
  have m__law_cell := He.glo_ok X G (c.fact 13 (f := .glo "_law_cell") rfl)
  obtain ⟨fd__law_draws, F__law_draws⟩ := c.def_ 14 (d := d__law_draws) rfl
  have m__law_draws := He.glo_ok X G (c.fact 14 (f := .glo "_law_draws") rfl)
  obtain ⟨fd__law_is_integer, F__law_is_integer⟩ := c.def_ 15 (d := d__law_is_integer) rfl
  have m__law_is_integer := He.glo_ok X G (c.fact 15 (f := .glo "_law_is_integer") rfl)
  obtain ⟨fd__law_is, F__law_is⟩ := c.def_ 16 (d := d__law_is) rfl
  have m__law_is := He.glo_ok X G (c.fact 16 (f := .glo "_law_is") rfl)
  obtain ⟨fd__law_hand, F__law_hand⟩ := c.def_ 17 (d := d__law_hand) rfl
  have m__law_hand := He.glo_ok X G (c.fact 17 (f := .glo "_law_hand") rfl)
  obtain ⟨fd__law_take, F__law_take⟩ := c.def_ 18 (d := d__law_take) rfl
  have m__law_take := He.glo_ok X G (c.fact 18 (f := .glo "_law_take") rfl)
  obtain ⟨fd__law_product, F__law_product⟩ := c.def_ 19 (d := d__law_product) rfl
  have m__law_product := He.glo_ok X G (c.fact 19 (f := .glo "_law_product") rfl)
  obtain ⟨fd__law_opposite, F__law_opposite⟩ := c.def_ 20 (d := d__law_opposite) rfl
  have m__law_opposite := He.glo_ok X G (c.fact 20 (f := .glo "_law_opposite") rfl)
  obtain ⟨fd__law_sent, F__law_sent⟩ := c.def_ 21 (d := d__law_sent) rfl
  have m__law_sent := He.glo_ok X G (c.fact 21 (f := .glo "_law_sent") rfl)
  obtain ⟨fd__law_returns, F__law_returns⟩ := c.def_ 22 (d := d__law_returns) rfl
  have m__law_returns := He.glo_ok X G (c.fact 22 (f := .glo "_law_returns") rfl)
  obtain ⟨fd__law_small, F__law_small⟩ := c.def_ 23 (d := d__law_small) rfl
  have m__law_small := He.glo_ok X G (c.fact 23 (f := .glo "_law_small") rfl)
  obtain ⟨fd__law_table_fine, F__law_table_fine⟩ := c.def_ 24 (d := d__law_table_fine) rfl
  have m__law_table_fine := He.glo_ok X G (c.fact 24 (f := .glo "_law_table_fine") rfl)
  obtain ⟨fd__law_elsewhere_fine, F__law_elsewhere_fine⟩ := c.def_ 25 (d := d__law_elsewhere_fine) rfl
  have m__law_elsewhere_fine := He.glo_ok X G (c.fact 25 (f := .glo "_law_elsewhere_fine") rfl)
  obtain ⟨fd__law_joined_fine, F__law_joined_fine⟩ := c.def_ 26 (d := d__law_joined_fine) rfl
  have m__law_joined_fine := He.glo_ok X G (c.fact 26 (f := .glo "_law_joined_fine") rfl)
  obtain ⟨fd__law_train_fine, F__law_train_fine⟩ := c.def_ 27 (d := d__law_train_fine) rfl
  have m__law_train_fine := He.glo_ok X G (c.fact 27 (f := .glo "_law_train_fine") rfl)
  obtain ⟨fd_law, F_law⟩ := c.def_ 28 (d := d_law) rfl
  have m_law := He.glo_ok X G (c.fact 28 (f := .glo "law") rfl)
  have z_abs := He.free_ok X G (c.fact 29 (f := .free "abs") rfl)
  have z_all := He.free_ok X G (c.fact 30 (f := .free "all") rfl)
  have z_bool := He.free_ok X G (c.fact 31 (f := .free "bool") rfl)
  have z_int := He.free_ok X G (c.fact 32 (f := .free "int") rfl)
  have z_isinstance := He.free_ok X G (c.fact 33 (f := .free "isinstance") rfl)
  have z_len := He.free_ok X G (c.fact 34 (f := .free "len") rfl)
  have z_max := He.free_ok X G (c.fact 35 (f := .free "max") rfl)
  have z_range := He.free_ok X G (c.fact 36 (f := .free "range") rfl)
  have z_str := He.free_ok X G (c.fact 37 (f := .free "str") rfl)
  have z_tuple := He.free_ok X G (c.fact 38 (f := .free "tuple") rfl)
  have e := hfa.symm.trans m_law
  cases e
  have b := FunD.bindsA (ps := ["script"]) F_law fun _ _ _ _ _ _ us hl => match us, hl with | [_], _ => rfl
  refine ⟨fd_law, fun s v => b s [v] rfl, fun base _ _ => ?_⟩
  have C_still_table := cal_still_table (P := P) (w := w) (base := base) F_still_table m_still_table
  have C_table_behind := cal_table_behind (P := P) (w := w) (base := base) F_table_behind m_table_behind
  have C_sign_table := cal_sign_table (P := P) (w := w) (base := base) F_sign_table m_sign_table
  have C_train_table := cal_train_table (P := P) (w := w) (base := base) F_train_table m_train_table C_sign_table C_still_table C_table_behind
  have C_ray_past_train := cal_ray_past_train (P := P) (w := w) (base := base) F_ray_past_train m_ray_past_train C_train_table
  have C_is_train_table := cal_is_train_table (P := P) (w := w) (base := base) F_is_train_table m_is_train_table
  have C_gap_back := cal_gap_back (P := P) (w := w) (base := base) F_gap_back m_gap_back
  have C_last_part := cal_last_part (P := P) (w := w) (base := base) F_last_part m_last_part C_gap_back z_abs
  have C_train_for := cal_train_for (P := P) (w := w) (base := base) F_train_for m_train_for C_gap_back C_is_train_table C_last_part
  have C_passings_to_return := cal_passings_to_return (P := P) (w := w) (base := base) F_passings_to_return m_passings_to_return C_still_table C_table_behind z_range
  have C_told_still_ray := cal_told_still_ray (P := P) (w := w) (base := base) F_told_still_ray m_told_still_ray
  have C_keeps_level := cal_keeps_level (P := P) (w := w) (base := base) F_keeps_level m_keeps_level
  have C_is_sharp_table := cal_is_sharp_table (P := P) (w := w) (base := base) F_is_sharp_table m_is_sharp_table
  have C__law_cell := cal__law_cell (P := P) (w := w) (base := base) F__law_cell m__law_cell z_len
  have C__law_draws := cal__law_draws (P := P) (w := w) (base := base) F__law_draws m__law_draws z_abs z_int z_range
  have C__law_is_integer := cal__law_is_integer (P := P) (w := w) (base := base) F__law_is_integer m__law_is_integer z_bool z_int z_isinstance
  have C__law_is := cal__law_is (P := P) (w := w) (base := base) F__law_is m__law_is C__law_is_integer z_all z_bool z_int z_isinstance z_len z_range z_str z_tuple 6
  have C__law_hand := cal__law_hand (P := P) (w := w) (base := base) F__law_hand m__law_hand C__law_cell C__law_draws
  have C__law_take := cal__law_take (P := P) (w := w) (base := base) F__law_take m__law_take z_int
  have C__law_product := cal__law_product (P := P) (w := w) (base := base) F__law_product m__law_product
  have C__law_opposite := cal__law_opposite (P := P) (w := w) (base := base) F__law_opposite m__law_opposite
  have C__law_sent := cal__law_sent (P := P) (w := w) (base := base) F__law_sent m__law_sent
  have C__law_returns := cal__law_returns (P := P) (w := w) (base := base) F__law_returns m__law_returns C__law_product z_range
  have C__law_small := cal__law_small (P := P) (w := w) (base := base) F__law_small m__law_small z_abs z_max
  have C__law_table_fine := cal__law_table_fine (P := P) (w := w) (base := base) F__law_table_fine m__law_table_fine C__law_is C__law_opposite C__law_product C__law_returns C__law_sent C__law_small C_is_sharp_table C_is_train_table C_keeps_level C_passings_to_return C_told_still_ray z_range
  have C__law_elsewhere_fine := cal__law_elsewhere_fine (P := P) (w := w) (base := base) F__law_elsewhere_fine m__law_elsewhere_fine C__law_is C__law_opposite C__law_product C__law_sent C__law_small C_passings_to_return C_told_still_ray
  have C__law_joined_fine := cal__law_joined_fine (P := P) (w := w) (base := base) F__law_joined_fine m__law_joined_fine C__law_is C__law_product C__law_small C_is_sharp_table C_keeps_level C_passings_to_return
  have C__law_train_fine := cal__law_train_fine (P := P) (w := w) (base := base) F__law_train_fine m__law_train_fine C__law_is C_passings_to_return C_ray_past_train C_train_for C_train_table z_len z_range
  exact okLaw F_law C__law_elsewhere_fine C__law_hand C__law_is C__law_joined_fine C__law_table_fine C__law_take C__law_train_fine C_passings_to_return C_train_table z_range
end Gn

set_option maxHeartbeats 400000
namespace Gn
open PySem PySem.Spec L2 L3
local macro_rules | `(tactic| walk_at "go") => `(tactic|
  ((conv => whnf)
   repeat
    (first
     | ((with_reducible refine And.intro ?sd ?_); (case sd => (first | decide | assumption | omega | exact rfl | exact mulR (by omega) (by omega) | exact mulL (by omega) (by omega) | exact div_ok (by omega) | exact pow_ok (by decide) | exact small_ok (by omega) | exact line_le (by decide))))
     | ((with_reducible apply Exists.intro); (refine And.intro rfl ?_))
     (conv => whnf))))
/-! ### the laws' own helpers -/
def cellAt (ns : List Int) (k : Nat) : Int := ns.getD k (5 * k + 3)
theorem cell_ok {ns : List Int} {i : Nat} {S : Sto} {Q : DK} (hi : i < 1000) (h : Q (.d (.int (cellAt ns i))) S) : rd__law_cell [.d (scrD ns), .d (.int i)] S Q := by
  rw [rd__law_cell_is]
  walk_at "go"
  refine Br.d (fun c => ?_) (fun c => ?_)
  · rw [List.length_map] at c
    have c' : i < ns.length := by omega
    walk_at "go"
    refine At.nat (z := .int ns[i]) (by rw [List.getElem?_map, List.getElem?_eq_getElem c']; rfl) ?_
    unfold cellAt at h
    rw [List.getD_eq_getElem?_getD, List.getElem?_eq_getElem c'] at h
    exact h
  · rw [List.length_map] at c
    have c' : ns.length ≤ i := by omega
    walk_at "go"
    unfold cellAt at h
    rw [List.getD_eq_getElem?_getD, List.getElem?_eq_none_iff.mpr c'] at h
    exact h
def Drawn (ds : List Int) : Prop := ds.length = 120 ∧ ∀ x ∈ ds, 0 ≤ x ∧ x < 5040
theorem draws_ok {c : Int} {S : Sto} {Q : DK} (h : ∀ ds, Drawn ds → Q (.d (.list (ds.map .int))) S) : rd__law_draws [.d (.int c), .d (.int 120)] S Q := by
  rw [rd__law_draws_is]
  walk_at "go"
  refine loop_inv (fun i ρ S' => S' = S ∧ ∃ (r sd : Int) (b : Bool) (ds : List Int) (x6 x7 : Slot), ρ = [.val (.d (.int c)), .val (.d (.int 120)), .val (.d (.int r)), .val (.d (.bool b)), .val (.d (.int sd)), .own (.lst (ds.map .int)), x6, x7] ∧ ds.length = i ∧ (∀ x ∈ ds, 0 ≤ x ∧ x < 5040)) (rng 0 120) 0 (fun j x e ρ S' K hI hK => ?_) (fun ρ S' hI => ?_) _ _ ⟨rfl, _, _, _, [], _, _, rfl, rfl, by simp⟩
  · obtain ⟨rfl, r, sd, b, ds, x6, x7, rfl, hl, hd⟩ := hI
    obtain ⟨hj, rfl⟩ := rng_get e
    refine ⟨trivial, ?_⟩
    have fin : ∀ (r : Int) (y : Int) (x7 : Slot), 0 ≤ y → y < 5040 → K [.val (.d (.int c)), .val (.d (.int 120)), .val (.d (.int r)), .val (.d (.bool b)), .val (.d (.int sd)), .own (.lst (ds.map .int ++ [.int y])), .val (.d (.int (0 + (j : Int)))), x7] S' := fun r y x7 h1 h2 => by
      refine hK _ _ ⟨rfl, r, sd, b, ds ++ [y], _, x7, by rw [List.map_append]; rfl, by rw [List.length_append, hl]; rfl, fun z hz => ?_⟩
      rcases List.mem_append.mp hz with hz | hz
      · exact hd z hz
      · rw [List.mem_singleton.mp hz]; exact ⟨h1, h2⟩
    have hlen : (ds.map PyData.int).length < sizeLine := line_lt (by rw [List.length_map]; omega)
    cases b with
    | true =>
      walk_at "go"
      refine Br.d (fun c0 => ?_) (fun c0 => ?_)
      · walk_at "go"
        exact fin _ _ _ (by omega) (by omega)
      · walk_at "go"
        exact fin _ _ _ (by omega) (by omega)
    | false =>
      walk_at "go"
      exact fin _ _ _ (by omega) (by omega)
  · obtain ⟨rfl, r, sd, b, ds, x6, x7, rfl, hl, hd⟩ := hI
    refine ⟨trivial, ?_⟩
    walk_at "go"
    exact h ds ⟨by rw [hl, rng_len], hd⟩
def isI : D → Bool
  | .int _ => true
  | _ => false
theorem is_integer_ok {x : D} {S : Sto} {Q : DK} (hx : ∀ kvs, x ≠ .dict kvs) (h : Q (.d (.bool (isI x))) S) : rd__law_is_integer [.d x] S Q := by
  rw [rd__law_is_integer_is]
  cases x with
  | dict kvs => exact absurd rfl (hx kvs)
  | _ => walk_at "go"; exact h
/-- what _law_is can look at, no deeper than n -/
def pl : Nat → D → Bool
  | _ + 1, .none => true
  | _ + 1, .bool _ => true
  | _ + 1, .int _ => true
  | _ + 1, .str _ => true
  | n + 1, .tuple xs => decide (xs.length ≤ 1000) && xs.all (pl n)
  | _, _ => false
theorem boolsT : ∀ xs : List D, boolsOf (xs.map fun _ => .bool true) = some (List.replicate xs.length true)
  | [] => rfl
  | x :: xs => by
    show (boolsOf (xs.map fun _ => .bool true)).map (true :: ·) = _
    rw [boolsT xs]
    rfl
theorem allT (n : Nat) : (List.replicate n true).all id = true := by
  induction n with
  | zero => rfl
  | succ n ih => rw [List.replicate_succ, List.all_cons, ih]; rfl
theorem is_same : ∀ (k : Nat) (x : D), pl k x = true → ∀ {S : Sto} {Q : DK}, Q (.d (.bool true)) S → rd__law_is k [.d x, .d x] S Q
  | 0, x, h, S, Q, _ => by cases x <;> cases h
  | k + 1, x, h, S, Q, q => by
    rw [rd__law_is_is]
    cases x with
    | dict kvs => cases h
    | list xs => cases h
    | none => walk_at "go"; exact q
    | bool b =>
      walk_at "go"
      rw [decide_eq_true rfl]
      exact q
    | int i =>
      walk_at "go"
      refine is_integer_ok (fun _ z => by cases z) ?_
      walk_at "go"
      rw [decide_eq_true rfl]
      exact q
    | str z =>
      walk_at "go"
      rw [decide_eq_true rfl]
      exact q
    | tuple xs =>
      have h' : xs.length ≤ 1000 ∧ ∀ y ∈ xs, pl k y = true := by
        simp only [pl, Bool.and_eq_true, decide_eq_true_eq, List.all_eq_true] at h
        exact h
      walk_at "go"
      refine Br.f' (by rw [decide_eq_true rfl]; rfl) ?_
      walk_at "go"
      refine L3.comp_map (fun _ => .bool true) _ ?_ ?_ (fun y hy K K' hK => ?_) ?_
      · exact trivial
      · rw [rng_len]
        omega
      · obtain ⟨j, hj⟩ := List.mem_iff_getElem?.mp hy
        obtain ⟨j1, rfl⟩ := rng_get hj
        have j2 : j < xs.length := by omega
        walk_at "go"
        refine At.int (z := xs[j]) (by omega) (by rw [show (0 + (j : Int)).toNat = j by omega]; exact List.getElem?_eq_getElem j2) ?_
        walk_at "go"
        refine At.int (z := xs[j]) (by omega) (by rw [show (0 + (j : Int)).toNat = j by omega]; exact List.getElem?_eq_getElem j2) ?_
        walk_at "go"
        exact is_same k _ (h'.2 _ (List.getElem_mem j2)) hK
      · (conv => whnf)
        rw [boolsT]
        (conv => whnf)
        rw [allT]
        exact q
/-- the hand: its draws, how many are taken -/
def handC (ds : List Int) (at_ : Nat) : Cell := .dK [(.inr (Str.ofString "draws"), .list (ds.map .int)), (.inr (Str.ofString "at"), .int at_)]
theorem hand_ok {ns : List Int} {i : Nat} {S : Sto} {Q : DK} (hi : i < 1000) (h : ∀ ds, Drawn ds → Q (.ref S.length) (S ++ [handC ds 0])) : rd__law_hand [.d (scrD ns), .d (.int i)] S Q := by
  rw [rd__law_hand_is]
  walk_at "go"
  refine cell_ok hi ?_
  walk_at "go"
  refine draws_ok fun ds hd => ?_
  walk_at "go"
  exact h ds hd
theorem keyne : keyEq (.str (Str.ofString "draws")) (.str (Str.ofString "at")) = false := by decide +kernel
theorem keyee {z : Str} : keyEq (.str z) (.str z) = true := decide_eq_true rfl
theorem look_at {ds : List Int} {a : Nat} : lookD [(.str (Str.ofString "draws"), .list (ds.map .int)), (.str (Str.ofString "at"), .int a)] (.str (Str.ofString "at")) = some (.int a) := by
  simp only [lookD, keyne, keyee, cond_true, cond_false]
theorem look_draws {ds : List Int} {a : Int} : lookD [(.str (Str.ofString "draws"), .list (ds.map .int)), (.str (Str.ofString "at"), .int a)] (.str (Str.ofString "draws")) = some (.list (ds.map .int)) := by
  simp only [lookD, keyee, cond_true]
theorem put_at {ds : List Int} {a : Nat} {v : D} : putD [(.inr (Str.ofString "draws"), .list (ds.map .int)), (.inr (Str.ofString "at"), .int a)] (.inr (Str.ofString "at")) v = [(.inr (Str.ofString "draws"), .list (ds.map .int)), (.inr (Str.ofString "at"), v)] := by
  have e1 : decide ((Sum.inr (Str.ofString "draws") : Key) = Sum.inr (Str.ofString "at")) = false := by decide +kernel
  have e2 : ¬ ((Sum.inr (Str.ofString "draws") : Key) = Sum.inr (Str.ofString "at")) := of_decide_eq_false e1
  unfold putD
  rw [if_pos (by simp)]
  simp only [List.map_cons, List.map_nil, if_neg e2, if_true]
theorem view_ref {ρ : Env3} {S : Sto} {n : Nat} {c : Cell} (h : S[n]? = some c) : view ρ S (.ref n) = cellD c := by
  show (match S[n]? with | some c => cellD c | none => .none) = _
  rw [h]
theorem take_ok {n a : Nat} {m : Int} {ds : List Int} {S : Sto} {Q : DK} (hS : S[n]? = some (handC ds a)) (hd : Drawn ds) (ha : a < 1000000) (hm : 0 < m) (h : ∀ t, 0 ≤ t → t < m → Q (.d (.int t)) (S.set n (handC ds (a + 1)))) :
    rd__law_take [.ref n, .d (.int m)] S Q := by
  have hn : n < S.length := (List.getElem?_eq_some_iff.mp hS).1
  rw [rd__law_take_is]
  (conv => whnf)
  rw [view_ref hS]
  (conv => whnf)
  refine ⟨_, look_at, ?_⟩
  walk_at "go"
  rw [hS]
  (conv => whnf)
  refine ⟨line_lt (by rw [List.length_cons, List.length_cons, List.length_nil]; omega), ?_⟩
  rw [put_at]
  (conv => whnf)
  rw [view_ref (List.getElem?_set_self hn)]
  (conv => whnf)
  refine ⟨_, look_draws, ?_⟩
  walk_at "go"
  have e0 : 0 ≤ (a : Int) % 120 ∧ (a : Int) % 120 < 120 := ⟨Int.emod_nonneg _ (by decide), Int.emod_lt_of_pos _ (by decide)⟩
  have e1 : ((a : Int) % 120).toNat < ds.length := by rw [hd.1]; omega
  obtain ⟨x, hx, hx0, hx1⟩ : ∃ x, ds[((a : Int) % 120).toNat]? = some x ∧ 0 ≤ x ∧ x < 5040 := ⟨_, List.getElem?_eq_getElem e1, hd.2 _ (List.getElem_mem e1)⟩
  refine At.int (z := .int x) e0.1 (by rw [List.getElem?_map, hx]; rfl) ?_
  walk_at "go"
  have e2 : 0 ≤ (a : Int) / 120 % 3 ∧ (a : Int) / 120 % 3 < 3 := ⟨Int.emod_nonneg _ (by decide), Int.emod_lt_of_pos _ (by decide)⟩
  obtain ⟨w, hw, hw0, hw1⟩ : ∃ w : Int, ([.int 1, .int 7, .int 59] : List D)[((a : Int) / 120 % 3).toNat]? = some (.int w) ∧ 1 ≤ w ∧ w ≤ 59 := by
    have : (a : Int) / 120 % 3 = 0 ∨ (a : Int) / 120 % 3 = 1 ∨ (a : Int) / 120 % 3 = 2 := by omega
    rcases this with q | q | q <;> rw [q]
    · exact ⟨1, rfl, by decide, by decide⟩
    · exact ⟨7, rfl, by decide, by decide⟩
    · exact ⟨59, rfl, by decide, by decide⟩
  refine At.int (z := .int w) e2.1 hw ?_
  walk_at "go"
  exact h _ (Int.emod_nonneg _ (by omega)) (Int.emod_lt_of_pos _ hm)
end Gn

set_option maxHeartbeats 400000
namespace Gn
open PySem PySem.Spec L2 L3
local macro_rules | `(tactic| walk_at "go") => `(tactic|
  ((conv => whnf)
   repeat
    (first
     | ((with_reducible refine And.intro ?sd ?_); (case sd => (first | decide | assumption | omega | exact rfl | exact mulR (by omega) (by omega) | exact mulL (by omega) (by omega) | exact div_ok (by omega) | exact pow_ok (by decide) | exact small_ok (by omega) | exact line_le (by decide))))
     | ((with_reducible apply Exists.intro); (refine And.intro rfl ?_))
     (conv => whnf))))
/-! ### tables -/
structure Mt where
  a : Int
  b : Int
  c : Int
  d : Int
  deriving DecidableEq
def Mt.D (m : Mt) : L3.D := .tuple [.tuple [.int m.a, .int m.b], .tuple [.int m.c, .int m.d]]
def one : Mt := ⟨1, 0, 0, 1⟩
def mul (x y : Mt) : Mt := ⟨x.a * y.a + x.b * y.c, x.a * y.b + x.b * y.d, x.c * y.a + x.d * y.c, x.c * y.b + x.d * y.d⟩
structure Sm (m : Mt) : Prop where
  a0 : -18446744073709551616 < m.a
  a1 : m.a < 18446744073709551616
  b0 : -18446744073709551616 < m.b
  b1 : m.b < 18446744073709551616
  c0 : -18446744073709551616 < m.c
  c1 : m.c < 18446744073709551616
  d0 : -18446744073709551616 < m.d
  d1 : m.d < 18446744073709551616
section
variable {S : Sto} {Q : DK}
theorem still_table_ok (h : Q (.d one.D) S) : rd_still_table [] S Q := by
  rw [rd_still_table_is]
  walk_at "go"
  exact h
theorem table_behind_ok {x y : Mt} (s : Sm x) (h : Q (.d (mul x y).D) S) : rd_table_behind [.d x.D, .d y.D] S Q := by
  obtain ⟨a0, a1, b0, b1, c0, c1, d0, d1⟩ := s
  rw [rd_table_behind_is]
  walk_at "go"
  exact h
theorem product_ok {x y : Mt} (s : Sm x) (h : Q (.d (mul x y).D) S) : rd__law_product [.d x.D, .d y.D] S Q := by
  obtain ⟨a0, a1, b0, b1, c0, c1, d0, d1⟩ := s
  rw [rd__law_product_is]
  walk_at "go"
  exact h
def opp (m : Mt) : Mt := ⟨m.d, 0 - m.b, 0 - m.c, m.a⟩
theorem opposite_ok {x : Mt} (h : Q (.d (opp x).D) S) : rd__law_opposite [.d x.D] S Q := by
  rw [rd__law_opposite_is]
  walk_at "go"
  exact h
theorem sent_ok {x : Mt} {u v : Int} (s : Sm x) (h : Q (.d (.tuple [.int (x.a * u + x.b * v), .int (x.c * u + x.d * v)])) S) : rd__law_sent [.d x.D, .d (.tuple [.int u, .int v])] S Q := by
  obtain ⟨a0, a1, b0, b1, c0, c1, d0, d1⟩ := s
  rw [rd__law_sent_is]
  walk_at "go"
  exact h
def det (m : Mt) : Int := m.a * m.d - m.b * m.c
theorem is_train_table_ok {x : Mt} (s : Sm x) (h : Q (.d (.bool (decide (det x = 1)))) S) : rd_is_train_table [.d x.D] S Q := by
  obtain ⟨a0, a1, b0, b1, c0, c1, d0, d1⟩ := s
  rw [rd_is_train_table_is]
  walk_at "go"
  exact h
theorem keeps_level_ok {x : Mt} (h : Q (.d (.bool (decide (x.c = 0)))) S) : rd_keeps_level [.d x.D] S Q := by
  rw [rd_keeps_level_is]
  walk_at "go"
  exact h
theorem is_sharp_ok {x : Mt} (h : Q (.d (.bool (decide (x.b = 0)))) S) : rd_is_sharp_table [.d x.D] S Q := by
  rw [rd_is_sharp_table_is]
  walk_at "go"
  exact h
/-! ### trains -/
theorem str1 {c k : Nat} : ((⟨#[c]⟩ : Str) = ⟨#[k]⟩) ↔ c = k := by
  constructor
  · intro h
    have := congrArg (fun z : Str => z.cps.toList) h
    simpa using this
  · rintro rfl; rfl
theorem str_g : Str.ofString "g" = ⟨#[103]⟩ := by decide +kernel
theorem str_l : Str.ofString "l" = ⟨#[108]⟩ := by decide +kernel
def sgn (c : Nat) : Mt := if c = 103 then ⟨1, 1, 0, 1⟩ else if c = 108 then ⟨1, 0, 1, 1⟩ else ⟨1, 0, -1, 1⟩
theorem sign_table_ok {c : Nat} (h : Q (.d (sgn c).D) S) : rd_sign_table [.d (.str ⟨#[c]⟩)] S Q := by
  rw [rd_sign_table_is]
  walk_at "go"
  rw [str_g]
  refine Br.d (fun e => ?_) (fun e => ?_)
  · rw [str1] at e
    subst e
    walk_at "go"
    exact h
  · rw [str1] at e
    walk_at "go"
    rw [str_l]
    refine Br.d (fun e2 => ?_) (fun e2 => ?_)
    · rw [str1] at e2
      subst e2
      walk_at "go"
      exact h
    · rw [str1] at e2
      walk_at "go"
      rw [show sgn c = ⟨1, 0, -1, 1⟩ by unfold sgn; rw [if_neg e, if_neg e2]] at h
      exact h
def tab (w : List Nat) : Mt := w.foldl (fun m c => mul (sgn c) m) one
theorem sm_sgn (c : Nat) : Sm (sgn c) := by
  unfold sgn
  split
  · constructor <;> decide
  · split <;> constructor <;> decide
theorem tab_snoc (w : List Nat) (c : Nat) : tab (w ++ [c]) = mul (sgn c) (tab w) := by
  unfold tab
  rw [List.foldl_append, List.foldl_cons, List.foldl_nil]
theorem train_table_ok {z : Str} (h : Q (.d (tab z.cps.toList).D) S) : rd_train_table [.d (.str z)] S Q := by
  rw [rd_train_table_is]
  walk_at "go"
  refine still_table_ok ?_
  (conv => whnf)
  refine loop_inv (fun i ρ S' => S' = S ∧ ∃ x2, ρ = [.val (.d (.str z)), .val (.d (tab (z.cps.toList.take i)).D), x2]) (signs z) 0 (fun j x e ρ S' K hI hK => ?_) (fun ρ S' hI => ?_) _ _ ⟨rfl, _, rfl⟩
  · obtain ⟨rfl, x2, rfl⟩ := hI
    unfold signs at e
    rw [List.getElem?_map] at e
    cases ec : z.cps.toList[j]? with
    | none => rw [ec] at e; cases e
    | some c =>
      rw [ec] at e
      cases e
      refine ⟨trivial, ?_⟩
      (conv => whnf)
      refine sign_table_ok ?_
      (conv => whnf)
      refine table_behind_ok (sm_sgn c) ?_
      (conv => whnf)
      refine hK _ _ ⟨rfl, .val (.d (.str ⟨#[c]⟩)), ?_⟩
      have e2 : tab (z.cps.toList.take (0 + j + 1)) = mul (sgn c) (tab (z.cps.toList.take (0 + j))) := by
        rw [List.take_add_one, Nat.zero_add, ec]
        exact tab_snoc _ _
      rw [e2]
      rfl
  · obtain ⟨rfl, x2, rfl⟩ := hI
    refine ⟨trivial, ?_⟩
    (conv => whnf)
    have e : (z.cps.toList.take (0 + (signs z).length)) = z.cps.toList := by
      unfold signs
      rw [Nat.zero_add, List.length_map, List.take_length]
    rw [e]
    exact h
theorem ray_past_ok {z : Str} {u v : Int} (s : Sm (tab z.cps.toList)) (h : Q (.d (.tuple [.int ((tab z.cps.toList).a * u + (tab z.cps.toList).b * v), .int ((tab z.cps.toList).c * u + (tab z.cps.toList).d * v)])) S) : rd_ray_past_train [.d (.str z), .d (.int u), .d (.int v)] S Q := by
  obtain ⟨a0, a1, b0, b1, c0, c1, d0, d1⟩ := s
  rw [rd_ray_past_train_is]
  (conv => whnf)
  refine train_table_ok ?_
  walk_at "go"
  exact h
/-! ### passings -/
def pw (x : Mt) : Nat → Mt
  | 0 => one
  | n + 1 => mul x (pw x n)
def pasN (x : Mt) : Nat → Nat → Option Nat
  | 0, _ => none
  | k + 1, n => if pw x (n + 1) = one then some (n + 1) else pasN x k (n + 1)
def natD : Option Nat → L3.D
  | none => .none
  | some n => .int n
theorem eqv_D (x y : Mt) : PyData.eqv x.D y.D = decide (x = y) := by
  unfold Mt.D
  simp only [PyData.eqv, PyData.eqvAll, Bool.and_true]
  cases x
  cases y
  rw [Bool.eq_iff_iff]
  simp [Mt.mk.injEq, and_assoc]
theorem Br.eqM {x y : Mt} {A B : Prop} (h : x = y → A) (h' : x ≠ y → B) : Br (PyData.eqv x.D y.D) A B := by
  rw [eqv_D]
  exact Br.d h h'
theorem mul_one' (x : Mt) : mul x one = x := by
  unfold mul one
  cases x
  simp
theorem passings_ok {x : Mt} (s : Sm x) (h : Q (.d (natD (pasN x 6 0))) S) : rd_passings_to_return [.d x.D] S Q := by
  rw [rd_passings_to_return_is]
  (conv => whnf)
  refine still_table_ok ?_
  walk_at "go"
  refine loop_inv (fun i ρ S' => S' = S ∧ pasN x 6 0 = pasN x (6 - i) i ∧ ∃ x2, ρ = [.val (.d x.D), .val (.d (pw x i).D), x2]) (rng 1 6) 0 (fun j y e ρ S' K hI hK => ?_) (fun ρ S' hI => ?_) _ _ ⟨rfl, rfl, _, rfl⟩
  · obtain ⟨rfl, hp, x2, rfl⟩ := hI
    obtain ⟨hj, rfl⟩ := rng_get e
    rw [Nat.zero_add] at hp hK
    refine ⟨trivial, ?_⟩
    rw [Nat.zero_add]
    (conv => whnf)
    refine table_behind_ok s ?_
    (conv => whnf)
    refine still_table_ok ?_
    walk_at "go"
    have e6 : 6 - j = (6 - (j + 1)) + 1 := by omega
    rw [e6] at hp
    refine Br.eqM (x := pw x (j + 1)) (y := one) (fun hh => ?_) (fun hh => ?_)
    · walk_at "go"
      rw [hp, show pasN x (6 - (j + 1) + 1) j = some (j + 1) from if_pos hh] at h
      rw [show (1 : Int) + (j : Int) = ((j + 1 : Nat) : Int) by omega]
      exact h
    · walk_at "go"
      rw [show pasN x (6 - (j + 1) + 1) j = pasN x (6 - (j + 1)) (j + 1) from if_neg hh] at hp
      exact hK _ _ ⟨rfl, hp, _, rfl⟩
  · obtain ⟨rfl, hp, x2, rfl⟩ := hI
    rw [rng_len] at hp
    refine ⟨trivial, ?_⟩
    walk_at "go"
    rw [hp] at h
    exact h
theorem returns_ok {x : Mt} (s : Sm x) (h : Q (.d (natD (pasN x 12 0))) S) : rd__law_returns [.d x.D] S Q := by
  rw [rd__law_returns_is]
  walk_at "go"
  refine loop_inv (fun i ρ S' => S' = S ∧ pasN x 12 0 = pasN x (12 - i) i ∧ ∃ x2, ρ = [.val (.d x.D), .val (.d (pw x (i + 1)).D), x2]) (rng 1 12) 0 (fun j y e ρ S' K hI hK => ?_) (fun ρ S' hI => ?_) _ _ ⟨rfl, rfl, _, by show _ = [_, Slot.val (.d (mul x one).D), _]; rw [mul_one']; rfl⟩
  · obtain ⟨rfl, hp, x2, rfl⟩ := hI
    obtain ⟨hj, rfl⟩ := rng_get e
    rw [Nat.zero_add] at hp hK
    refine ⟨trivial, ?_⟩
    rw [Nat.zero_add]
    walk_at "go"
    have e6 : 12 - j = (12 - (j + 1)) + 1 := by omega
    rw [e6] at hp
    refine Br.eqM (x := pw x (j + 1)) (y := one) (fun hh => ?_) (fun hh => ?_)
    · walk_at "go"
      rw [hp, show pasN x (12 - (j + 1) + 1) j = some (j + 1) from if_pos hh] at h
      rw [show (1 : Int) + (j : Int) = ((j + 1 : Nat) : Int) by omega]
      exact h
    · walk_at "go"
      refine product_ok s ?_
      (conv => whnf)
      rw [show pasN x (12 - (j + 1) + 1) j = pasN x (12 - (j + 1)) (j + 1) from if_neg hh] at hp
      exact hK _ _ ⟨rfl, hp, _, rfl⟩
  · obtain ⟨rfl, hp, x2, rfl⟩ := hI
    rw [rng_len] at hp
    refine ⟨trivial, ?_⟩
    walk_at "go"
    rw [hp] at h
    exact h
def stl (m : Mt) : Option (Int × Int) := if m.a + m.d = 2 then (if m.a = 1 ∧ m.b = 0 then some (0, 1) else some (m.b, 1 - m.a)) else none
def rayD : Option (Int × Int) → L3.D
  | none => .none
  | some r => .tuple [.int r.1, .int r.2]
theorem told_still_ok {x : Mt} (h : Q (.d (rayD (stl x))) S) : rd_told_still_ray [.d x.D] S Q := by
  rw [rd_told_still_ray_is]
  walk_at "go"
  unfold stl at h
  by_cases c : x.a + x.d = 2
  · rw [decide_eq_true c]
    walk_at "go"
    rw [if_pos c] at h
    refine Br.d (fun c1 => ?_) (fun c1 => ?_)
    · walk_at "go"
      refine Br.d (fun c2 => ?_) (fun c2 => ?_)
      · walk_at "go"
        rw [if_pos ⟨c1, c2⟩] at h
        exact h
      · walk_at "go"
        rw [if_neg (fun z => c2 z.2)] at h
        exact h
    · walk_at "go"
      rw [if_neg (fun z => c1 z.1)] at h
      exact h
  · rw [decide_eq_false c]
    walk_at "go"
    rw [if_neg c] at h
    exact h
end
end Gn

set_option maxHeartbeats 400000
namespace Gn
open PySem PySem.Spec L2 L3
local macro_rules | `(tactic| walk_at "go") => `(tactic|
  ((conv => whnf)
   repeat
    (first
     | ((with_reducible refine And.intro ?sd ?_); (case sd => (first | decide | assumption | omega | exact rfl | exact trivial | exact Nat.le_of_ble_eq_true rfl | exact mulR (by omega) (by omega) | exact mulL (by omega) (by omega) | exact div_ok (by omega) | exact pow_ok (by decide) | exact small_ok (by omega) | exact line_le (by decide) | exact line_le (Nat.le_of_ble_eq_true rfl) | exact line_lt (Nat.le_of_ble_eq_true rfl))))
     | ((with_reducible apply Exists.intro); (refine And.intro rfl ?_))
     (conv => whnf))))
section
variable {S : Sto} {Q : DK}
def ab (i : Int) : Int := if i < 0 then -i else i
def small (m : Mt) : Bool := decide (maxL [ab m.a, ab m.b, ab m.c, ab m.d] ≤ 60)
theorem small_ok' {x : Mt} (h : Q (.d (.bool (small x))) S) : rd__law_small [.d x.D] S Q := by
  rw [rd__law_small_is]
  walk_at "go"
  exact h
theorem gap_back_ok (h : Q (.d (.str (SX.S [104, 103, 104, 103, 104, 103, 104, 103, 104, 103, 104]))) S) : rd_gap_back [] S Q := by
  rw [rd_gap_back_is]
  (conv => whnf)
  rw [show Str.ofString "hghghghghgh" = SX.S [104, 103, 104, 103, 104, 103, 104, 103, 104, 103, 104] by decide +kernel]
  exact h
def gapB : List Nat := [104, 103, 104, 103, 104, 103, 104, 103, 104, 103, 104]
def lp (m : Mt) : List Nat × Mt :=
  if m.a = 0 then ([103], ⟨m.a - m.c, m.b - m.d, m.c, m.d⟩)
  else if ab m.c < ab m.a then (if 0 < m.a * m.c then ([103], ⟨m.a - m.c, m.b - m.d, m.c, m.d⟩) else (gapB, ⟨m.a + m.c, m.b + m.d, m.c, m.d⟩))
  else if 0 < m.a * m.c then ([108], ⟨m.a, m.b, m.c - m.a, m.d - m.b⟩) else ([104], ⟨m.a, m.b, m.c + m.a, m.d + m.b⟩)
theorem str_h : Str.ofString "h" = SX.S [104] := by decide +kernel
theorem str_g' : Str.ofString "g" = SX.S [103] := by decide +kernel
theorem str_l' : Str.ofString "l" = SX.S [108] := by decide +kernel
theorem last_part_ok {x : Mt} (s : Sm x) (h : Q (.d (.tuple [.str (SX.S (lp x).1), (lp x).2.D])) S) : rd_last_part [.d x.D] S Q := by
  obtain ⟨a0, a1, b0, b1, c0, c1, d0, d1⟩ := s
  rw [rd_last_part_is]
  unfold lp at h
  walk_at "go"
  refine Br.d (fun e1 => ?_) (fun e1 => ?_)
  · rw [if_pos e1] at h
    walk_at "go"
    rw [str_g']
    exact h
  · rw [if_neg e1] at h
    walk_at "go"
    refine Br.d (fun e2 => ?_) (fun e2 => ?_)
    · rw [if_pos (show ab x.c < ab x.a from e2)] at h
      walk_at "go"
      refine Br.d (fun e3 => ?_) (fun e3 => ?_)
      · rw [if_pos e3] at h
        walk_at "go"
        rw [str_g']
        exact h
      · rw [if_neg e3] at h
        walk_at "go"
        refine Br.dT e2 ?_
        walk_at "go"
        refine gap_back_ok ?_
        walk_at "go"
        exact h
    · rw [if_neg (show ¬ ab x.c < ab x.a from e2)] at h
      walk_at "go"
      refine Br.dF e2 ?_
      walk_at "go"
      refine Br.d (fun e3 => ?_) (fun e3 => ?_)
      · rw [if_pos e3] at h
        walk_at "go"
        rw [str_l']
        exact h
      · rw [if_neg e3] at h
        walk_at "go"
        rw [str_h]
        exact h
end
end Gn

set_option maxHeartbeats 400000
namespace Gn
open PySem PySem.Spec L2 L3
local macro_rules | `(tactic| walk_at "go") => `(tactic|
  ((conv => whnf)
   repeat
    (first
     | ((with_reducible refine And.intro ?sd ?_); (case sd => (first | decide | assumption | omega | exact rfl | exact trivial | exact Nat.le_of_ble_eq_true rfl | exact mulR (by omega) (by omega) | exact mulL (by omega) (by omega) | exact div_ok (by omega) | exact pow_ok (by decide) | exact small_ok (by omega) | exact line_le (by decide) | exact line_le (Nat.le_of_ble_eq_true rfl) | exact line_lt (Nat.le_of_ble_eq_true rfl))))
     | ((with_reducible apply Exists.intro); (refine And.intro rfl ?_))
     (conv => whnf))))
theorem Br.nd {p : Prop} [Decidable p] {A B : Prop} (h : ¬ p → A) (h' : p → B) : Br (!decide p) A B := by
  by_cases c : p
  · rw [decide_eq_true c]; exact h' c
  · rw [decide_eq_false c]; exact h c
section
variable {S : Sto} {Q : DK}
def smB (m : Mt) : Bool := (decide (-1000000 < m.a) && decide (m.a < 1000000)) && ((decide (-1000000 < m.b) && decide (m.b < 1000000)) && ((decide (-1000000 < m.c) && decide (m.c < 1000000)) && (decide (-1000000 < m.d) && decide (m.d < 1000000))))
theorem smB_of {m : Mt} (h : smB m = true) : Sm m := by
  simp only [smB, Bool.and_eq_true, decide_eq_true_eq] at h
  constructor <;> omega
def tr : Nat → Mt → List (List Nat) → Option (List (List Nat) × Mt)
  | 0, _, _ => none
  | k + 1, m, es => if m.c = 0 then some (es, m) else if smB m = true then tr k (lp m).2 (es ++ [(lp m).1]) else none
def turnB : List Nat := [103, 104, 103, 104, 103, 104]
def trEnds (es : List (List Nat)) (m : Mt) : List (List Nat) :=
  (if m.a < 0 then es ++ [turnB] else es) ++ [if 0 ≤ (if m.a < 0 then -m.b else m.b) then (List.replicate (if m.a < 0 then -m.b else m.b).toNat [103]).flatten else (List.replicate (-(if m.a < 0 then -m.b else m.b)).toNat gapB).flatten]
def trainFor (m : Mt) : Option (List Nat) := match tr 100 m [] with
  | none => none
  | some (es, m') => if -1000 < m'.b ∧ m'.b < 1000 ∧ ((trEnds es m').reverse.map List.length).sum ≤ 100000 then some (TL.joinL [] (trEnds es m').reverse) else none
def strsD (es : List (List Nat)) : List L3.D := es.map fun e => .str (SX.S e)
theorem strsD_snoc (es : List (List Nat)) (e : List Nat) : strsD es ++ [.str (SX.S e)] = strsD (es ++ [e]) := by
  unfold strsD
  rw [List.map_append]
  rfl
theorem strsOf_strsD (es : List (List Nat)) : strsOf (strsD es) = some (es.map SX.S) := by
  unfold strsD
  rw [show (es.map fun e => (PyData.str (SX.S e))) = (es.map SX.S).map .str by rw [List.map_map]; rfl]
  exact strsOf_map _
theorem str_turn : Str.ofString "ghghgh" = SX.S turnB := by decide +kernel
theorem str_e : Str.ofString "" = SX.S [] := by decide +kernel
theorem times_S (l : List Nat) (n : Int) : strTimes (SX.S l) n = SX.S (List.replicate n.toNat l).flatten := rfl
theorem train_for_ok {x : Mt} (s : Sm x) (hd : det x = 1) {z : List Nat} (hz : trainFor x = some z) (h : Q (.d (.str (SX.S z))) S) : rd_train_for [.d x.D] S Q := by
  rw [rd_train_for_is]
  walk_at "go"
  refine is_train_table_ok s ?_
  (conv => whnf)
  refine Br.f' (by rw [decide_eq_true hd]; rfl) ?_
  walk_at "go"
  unfold trainFor at hz
  cases hr : tr 100 x [] with
  | none => rw [hr] at hz; cases hz
  | some r =>
    obtain ⟨es, m⟩ := r
    rw [hr] at hz
    refine ⟨fun n ρ S' => S' = S ∧ ∃ (m' : Mt) (fs : List (List Nat)) (x2 x3 : Slot), ρ = [.val (.d m'.D), .own (.lst (strsD fs)), x2, x3] ∧ fs.length + n ≤ 100 ∧ tr n m' fs = some (es, m), ⟨100, rfl, x, [], _, _, rfl, by decide, hr⟩, fun n ρ S' hW => ?_⟩
    obtain ⟨rfl, m', fs, x2, x3, rfl, hl, ht⟩ := hW
    cases n with
    | zero => cases ht
    | succ n =>
      unfold tr at ht
      walk_at "go"
      refine Br.nd (fun e => ?_) (fun e => ?_)
      · rw [if_neg e] at ht
        by_cases sm : smB m' = true
        · rw [if_pos sm] at ht
          (conv => whnf)
          refine last_part_ok (smB_of sm) ?_
          have e1 : (strsD fs).length = fs.length := by unfold strsD; rw [List.length_map]
          have e2 : (strsD fs).length < sizeLine := line_lt (by omega)
          walk_at "go"
          exact ⟨n, by omega, rfl, (lp m').2, fs ++ [(lp m').1], .val (.d (.str (SX.S (lp m').1))), x3, by rw [← strsD_snoc]; rfl, by rw [List.length_append, List.length_cons, List.length_nil]; omega, ht⟩
        · rw [if_neg sm] at ht; cases ht
      · rw [if_pos e] at ht
        cases ht
        have hz' : (if -1000 < m.b ∧ m.b < 1000 ∧ ((trEnds es m).reverse.map List.length).sum ≤ 100000 then some (TL.joinL [] (trEnds es m).reverse) else none) = some z := hz
        by_cases c : -1000 < m.b ∧ m.b < 1000 ∧ ((trEnds es m).reverse.map List.length).sum ≤ 100000
        · rw [if_pos c] at hz'
          cases hz'
          obtain ⟨c1, c2, c3⟩ := c
          have c4 : ((trEnds es m).reverse.map fun x => x.length).sum ≤ 100000 := c3
          have e2 : (strsD es).length < 1000 := by unfold strsD; rw [List.length_map]; omega
          have e4 : (strsD es).length < sizeLine := line_lt (by omega)
          have e5 : (strsD es ++ [PyData.str (Str.ofString "ghghgh")]).length < sizeLine := line_lt (by rw [List.length_append, List.length_cons, List.length_nil]; omega)
          have g1 : ((Str.ofString "g" : Str).length = 1) := by decide +kernel
          have g2 : ((SX.S [104, 103, 104, 103, 104, 103, 104, 103, 104, 103, 104] : Str).length = 11) := by decide +kernel
          have fin : ∀ L : List L3.D, L = strsD (trEnds es m) → withL (strsOf L.reverse) fun ys => ((ys.map (·.length)).sum + ys.length * (Str.ofString "").length ≤ 16777216 ∧ Q (.d (.str (Txt.join (Str.ofString "") ys))) S') := fun L e => by
            rw [e, show (strsD (trEnds es m)).reverse = strsD (trEnds es m).reverse by unfold strsD; rw [List.map_reverse], strsOf_strsD]
            refine ⟨?_, ?_⟩
            · rw [SX.lens, show (Str.ofString "").length = 0 by decide +kernel]
              omega
            · rw [str_e, SX.join_S]
              exact h
          have sg : ∀ i : Int, PyData.str (strTimes (Str.ofString "g") i) = .str (SX.S (List.replicate i.toNat [103]).flatten) := fun i => by rw [str_g']; rfl
          have st : PyData.str (Str.ofString "ghghgh") = .str (SX.S turnB) := by rw [str_turn]
          walk_at "go"
          refine Br.d (fun a0 => ?_) (fun a0 => ?_)
          · walk_at "go"
            refine Br.d (fun b0 => ?_) (fun b0 => ?_)
            · walk_at "go"
              refine ⟨⟨by omega, by omega, line_le (by rw [g1]; omega)⟩, ?_⟩
              walk_at "go"
              refine fin _ ?_
              unfold trEnds
              simp only [if_pos a0, if_pos b0]
              rw [← strsD_snoc, ← strsD_snoc, sg, st]
            · walk_at "go"
              refine gap_back_ok ?_
              walk_at "go"
              refine ⟨⟨by omega, by omega, line_le (by rw [g2]; omega)⟩, ?_⟩
              walk_at "go"
              refine fin _ ?_
              unfold trEnds
              simp only [if_pos a0, if_neg b0]
              rw [← strsD_snoc, ← strsD_snoc, st]
              rfl
          · walk_at "go"
            refine Br.d (fun b0 => ?_) (fun b0 => ?_)
            · walk_at "go"
              refine ⟨⟨by omega, by omega, line_le (by rw [g1]; omega)⟩, ?_⟩
              walk_at "go"
              refine fin _ ?_
              unfold trEnds
              simp only [if_neg a0, if_pos b0]
              rw [← strsD_snoc, sg]
            · walk_at "go"
              refine gap_back_ok ?_
              walk_at "go"
              refine ⟨⟨by omega, by omega, line_le (by rw [g2]; omega)⟩, ?_⟩
              walk_at "go"
              refine fin _ ?_
              unfold trEnds
              simp only [if_neg a0, if_neg b0]
              rw [← strsD_snoc]
              rfl
        · rw [if_neg c] at hz'; cases hz'
end
end Gn

set_option maxHeartbeats 400000
namespace Gn
open PySem PySem.Spec L2 L3
local macro_rules | `(tactic| walk_at "go") => `(tactic|
  ((conv => whnf)
   repeat
    (first
     | ((with_reducible refine And.intro ?sd ?_); (case sd => (first | decide | assumption | omega | exact rfl | exact trivial | exact Nat.le_of_ble_eq_true rfl | exact mulR (by omega) (by omega) | exact mulL (by omega) (by omega) | exact div_ok (by omega) | exact pow_ok (by decide) | exact small_ok (by omega) | exact line_le (by decide) | exact line_le (Nat.le_of_ble_eq_true rfl) | exact line_lt (Nat.le_of_ble_eq_true rfl))))
     | ((with_reducible apply Exists.intro); (refine And.intro rfl ?_))
     (conv => whnf))))
def mns (m : Mt) : Mt := ⟨0 - m.a, 0 - m.b, 0 - m.c, 0 - m.d⟩
def dueL (p t : Nat) : List Nat := [1, 2, 3, 4, 5, 6].filter fun q => decide (q * t % p = 0)
def due (po : Option Nat) (t : Nat) : Option Nat := match po with
  | none => none
  | some p => (dueL p t).head?
def rayB (m : Mt) : Option (Int × Int) → Bool
  | none => true
  | some r => decide (m.a * r.1 + m.b * r.2 = r.1) && (decide (m.c * r.1 + m.d * r.2 = r.2) && !(decide (r.1 = 0) && decide (r.2 = 0)))
def multB (p q : Option Nat) : Bool := match p, q with
  | none, none => true
  | some p, some q => decide (q = p) || (decide (q = 2 * p) || decide (q = p / 2))
  | _, _ => false
/-- all that _law_table_fine asks of a table -/
structure Fine (m : Mt) : Prop where
  s : Sm m
  sb : Sm (opp m)
  s2 : Sm (mul m m)
  s3 : Sm (mul (mul m m) m)
  sm : Sm (mns m)
  dt : det m = 1
  p : pasN m 12 0 = pasN m 6 0
  p6 : ∀ p, pasN m 6 0 = some p → 0 < p ∧ p < 7
  ray : rayB m (stl m) = true
  pb : pasN (opp m) 6 0 = pasN m 6 0
  sl : (stl (opp m)).isSome = (stl m).isSome
  p2 : small (mul m m) = true → pasN (mul m m) 6 0 = due (pasN m 6 0) 2
  p3 : small (mul (mul m m) m) = true → pasN (mul (mul m m) m) 6 0 = due (pasN m 6 0) 3
  pm : pasN (mns m) 12 0 = pasN (mns m) 6 0
  mu : multB (pasN m 6 0) (pasN (mns m) 6 0) = true
def fineB (m : Mt) : Bool :=
  smB m && (smB (opp m) && (smB (mul m m) && (smB (mul (mul m m) m) && (smB (mns m) && (decide (det m = 1) && (decide (pasN m 12 0 = pasN m 6 0) &&
  ((match pasN m 6 0 with | none => true | some p => decide (0 < p) && decide (p < 7)) && (rayB m (stl m) && (decide (pasN (opp m) 6 0 = pasN m 6 0) && (((stl (opp m)).isSome == (stl m).isSome) &&
  ((!small (mul m m) || decide (pasN (mul m m) 6 0 = due (pasN m 6 0) 2)) && ((!small (mul (mul m m) m) || decide (pasN (mul (mul m m) m) 6 0 = due (pasN m 6 0) 3)) &&
  (decide (pasN (mns m) 12 0 = pasN (mns m) 6 0) && multB (pasN m 6 0) (pasN (mns m) 6 0))))))))))))))
theorem fine_of {m : Mt} (h : fineB m = true) : Fine m := by
  unfold fineB at h
  simp only [Bool.and_eq_true, decide_eq_true_eq, Bool.or_eq_true, Bool.not_eq_true', beq_iff_eq] at h
  obtain ⟨h1, h2, h3, h4, h5, h6, h7, h8, h9, h10, h11, h12, h13, h14, h15⟩ := h
  refine ⟨smB_of h1, smB_of h2, smB_of h3, smB_of h4, smB_of h5, h6, h7, fun p e => ?_, h9, h10, h11, fun e => ?_, fun e => ?_, h14, h15⟩
  · rw [e] at h8
    simp only [Bool.and_eq_true, decide_eq_true_eq] at h8
    exact h8
  · rcases h12 with h | h
    · rw [e] at h; cases h
    · exact h
  · rcases h13 with h | h
    · rw [e] at h; cases h
    · exact h
def wordsN : Nat → List (List Nat)
  | 0 => [[]]
  | n + 1 => (wordsN n).flatMap fun w => [103 :: w, 108 :: w, 104 :: w]
def words : List (List Nat) := wordsN 0 ++ (wordsN 1 ++ (wordsN 2 ++ (wordsN 3 ++ (wordsN 4 ++ (wordsN 5 ++ wordsN 6)))))
def tfB (w : List Nat) : Bool := fineB (tab w) && (match trainFor (tab w) with | none => false | some z => decide (tab z = tab w))
set_option maxHeartbeats 0 in
theorem all_fine : (words.all fun w => tfB w) = true := by decide +kernel
end Gn

set_option maxHeartbeats 0
namespace Gn
open PySem PySem.Spec L2 L3
local macro_rules | `(tactic| walk_at "go") => `(tactic|
  ((conv => whnf)
   repeat
    (first
     | ((with_reducible refine And.intro ?sd ?_); (case sd => (first | decide | assumption | omega | exact rfl | exact trivial | exact Nat.le_of_ble_eq_true rfl | exact mulR (by omega) (by omega) | exact mulL (by omega) (by omega) | exact div_ok (by omega) | exact pow_ok (by decide) | exact small_ok (by omega) | exact line_le (by decide) | exact line_le (Nat.le_of_ble_eq_true rfl) | exact line_lt (Nat.le_of_ble_eq_true rfl))))
     | ((with_reducible apply Exists.intro); (refine And.intro rfl ?_))
     (conv => whnf))))
section
variable {S : Sto} {Q : DK}
theorem natD_isN (p : Option Nat) : isNon (natD p) = p.isNone := by cases p <;> rfl
theorem rayD_isN (p : Option (Int × Int)) : isNon (rayD p) = !p.isSome := by cases p <;> rfl
theorem pl_nat (k : Nat) (p : Option Nat) : pl (k + 1) (natD p) = true := by cases p <;> rfl
theorem still_iff (m : Mt) : (!isNon (rayD (stl m))) = decide (m.a + m.d = 2) := by
  rw [rayD_isN]
  unfold stl
  by_cases c : m.a + m.d = 2
  · rw [if_pos c, decide_eq_true c]
    split <;> rfl
  · rw [if_neg c, decide_eq_false c]
    rfl
theorem not_dec {a b : Bool} (h : a = b) : (!decide (a = b)) = false := by rw [decide_eq_true h]; rfl
theorem eqv2 (a b c d : Int) : PyData.eqv (.tuple [.int a, .int b]) (.tuple [.int c, .int d]) = (decide (a = c) && decide (b = d)) := by
  simp only [PyData.eqv, PyData.eqvAll, Bool.and_true]
  rw [Bool.eq_iff_iff]
  simp
theorem in3 {p q : Nat} (h : multB (some p) (some q) = true) : (!isIn (.int q) [.int p, .int (2 * p), .int ((p : Int) / 2)]) = false := by
  have e : isIn (.int q) [.int p, .int (2 * p), .int ((p : Int) / 2)] = true := by
    simp only [multB, Bool.or_eq_true, decide_eq_true_eq] at h
    simp only [isIn, List.any_cons, List.any_nil, PyData.eqv, Bool.or_false, Bool.or_eq_true, beq_iff_eq]
    omega
  rw [e]
  rfl
theorem table_fine_ok {m : Mt} (f : Fine m) (h : Q (.d (.bool true)) S) : rd__law_table_fine [.d m.D] S Q := by
  obtain ⟨s, sb, s2, s3, sm, dt, p1, p6, ray, pb, sl, p2, p3, pm, mu⟩ := f
  rw [rd__law_table_fine_is]
  walk_at "go"
  refine passings_ok s ?_
  walk_at "go"
  refine told_still_ok ?_
  walk_at "go"
  refine is_train_table_ok s ?_
  walk_at "go"
  refine returns_ok s ?_
  rw [p1, decide_eq_true dt]
  walk_at "go"
  refine is_same 6 (.tuple [natD (pasN m 6 0), .bool true]) (by cases pasN m 6 0 <;> rfl) ?_
  walk_at "go"
  refine Br.f' (not_dec (still_iff m)) ?_
  (conv => whnf)
  dsimp only [List.set_cons_zero, List.set_cons_succ, List.map_cons, List.map_nil, List.length_cons, List.length_nil, Nat.reduceAdd, Nat.reduceSub, Nat.zero_add, List.replicate_succ, List.replicate_zero, List.cons_append, List.nil_append]
  generalize hs : stl m = st at *
  rcases st with _ | r
  case' some =>
    (conv => whnf)
    simp only [rayB, Bool.and_eq_true, decide_eq_true_eq, Bool.not_eq_true'] at ray
    obtain ⟨r1, r2, r3⟩ := ray
    obtain ⟨u, v⟩ := r
    have r1 : m.a * u + m.b * v = u := r1
    have r2 : m.c * u + m.d * v = v := r2
    have r3 : (decide (u = 0) && decide (v = 0)) = false := r3
    have r4 : ∀ t : Int, m.a * (t * u) + m.b * (t * v) = t * u := fun t => by rw [Int.mul_left_comm, Int.mul_left_comm m.b, ← Int.mul_add, r1]
    have r5 : ∀ t : Int, m.c * (t * u) + m.d * (t * v) = t * v := fun t => by rw [Int.mul_left_comm, Int.mul_left_comm m.d, ← Int.mul_add, r2]
    walk_at "go"
    refine dLp_of ?_
    walk_at "go"
    refine sent_ok (u := (1) * u) (v := (1) * v) s ?_
    rw [r4, r5]
    walk_at "go"
    refine Br.f' (show (!PyData.eqv (.tuple [.int ((1) * u), .int ((1) * v)]) (.tuple [.int ((1) * u), .int ((1) * v)])) = false by rw [eqv2, decide_eq_true rfl, decide_eq_true rfl]; rfl) ?_
    walk_at "go"
    refine Br.f' (show PyData.eqv (.tuple [.int u, .int v]) (.tuple [.int 0, .int 0]) = false by rw [eqv2]; exact r3) ?_
    walk_at "go"
    refine sent_ok (u := (3) * u) (v := (3) * v) s ?_
    rw [r4, r5]
    walk_at "go"
    refine Br.f' (show (!PyData.eqv (.tuple [.int ((3) * u), .int ((3) * v)]) (.tuple [.int ((3) * u), .int ((3) * v)])) = false by rw [eqv2, decide_eq_true rfl, decide_eq_true rfl]; rfl) ?_
    walk_at "go"
    refine Br.f' (show PyData.eqv (.tuple [.int u, .int v]) (.tuple [.int 0, .int 0]) = false by rw [eqv2]; exact r3) ?_
    walk_at "go"
    refine sent_ok (u := (0 - 2) * u) (v := (0 - 2) * v) s ?_
    rw [r4, r5]
    walk_at "go"
    refine Br.f' (show (!PyData.eqv (.tuple [.int ((0 - 2) * u), .int ((0 - 2) * v)]) (.tuple [.int ((0 - 2) * u), .int ((0 - 2) * v)])) = false by rw [eqv2, decide_eq_true rfl, decide_eq_true rfl]; rfl) ?_
    walk_at "go"
    refine Br.f' (show PyData.eqv (.tuple [.int u, .int v]) (.tuple [.int 0, .int 0]) = false by rw [eqv2]; exact r3) ?_
    walk_at "go"
  case' none => walk_at "go"
  all_goals
    refine keeps_level_ok ?_
    walk_at "go"
    refine is_sharp_ok ?_
    dsimp only [List.set_cons_zero, List.set_cons_succ, List.map_cons, List.map_nil, List.length_cons, List.length_nil, Nat.reduceAdd, Nat.reduceSub, Nat.zero_add, List.replicate_succ, List.replicate_zero, List.cons_append, List.nil_append]
    walk_at "go"
    refine is_same 6 (.tuple [.bool (decide (m.c = 0)), .bool (decide (m.b = 0))]) rfl ?_
    walk_at "go"
    refine opposite_ok ?_
    dsimp only [List.set_cons_zero, List.set_cons_succ, List.map_cons, List.map_nil, List.length_cons, List.length_nil, Nat.reduceAdd, Nat.reduceSub, Nat.zero_add, List.replicate_succ, List.replicate_zero, List.cons_append, List.nil_append]
    walk_at "go"
    refine passings_ok sb ?_
    rw [pb]
    walk_at "go"
    refine is_same 6 (natD (pasN m 6 0)) (pl_nat _ _) ?_
    walk_at "go"
    refine told_still_ok ?_
    walk_at "go"
    first
      | refine Br.f' (not_dec (a := isNon (rayD (stl (opp m)))) (b := isNon (rayD none)) (by rw [rayD_isN, rayD_isN, sl])) ?_
      | refine Br.f' (not_dec (a := isNon (rayD (stl (opp m)))) (b := isNon (rayD (some (u, v)))) (by rw [rayD_isN, rayD_isN, sl])) ?_
    walk_at "go"
    refine product_ok s ?_
    walk_at "go"
    refine product_ok s2 ?_
    dsimp only [List.set_cons_zero, List.set_cons_succ, List.map_cons, List.map_nil, List.length_cons, List.length_nil, Nat.reduceAdd, Nat.reduceSub, Nat.zero_add, List.replicate_succ, List.replicate_zero, List.cons_append, List.nil_append]
    walk_at "go"
    refine loop_inv (fun i ρ S' => S' = S ∧ ∃ x6 x7 x8 x9 x10 x11 x12 x13 x14 : Slot, ρ = [.val (.d m.D), .val (.d (.int m.a)), .val (.d (.int m.b)), .val (.d (.int m.c)), .val (.d (.int m.d)), .val (.d (natD (pasN m 6 0))), x6, x7, x8, x9, x10, x11, x12, x13, x14, .no]) _ 0 (fun j y e ρ S' K hI hK => ?_) (fun ρ S' hI => ?_) _ _ ⟨rfl, _, _, _, _, _, _, _, _, _, rfl⟩
    · have key : ∃ (sm : Mt) (t : Nat), y = .tuple [sm.D, .int t] ∧ Sm sm ∧ (t = 2 ∨ t = 3) ∧ (small sm = true → pasN sm 6 0 = due (pasN m 6 0) t) := by
        match j, e with
        | 0, e => cases e; exact ⟨mul m m, 2, rfl, s2, .inl rfl, p2⟩
        | 1, e => cases e; exact ⟨mul (mul m m) m, 3, rfl, s3, .inr rfl, p3⟩
        | _ + 2, e => cases e
      obtain ⟨rfl, x6, x7, x8, x9, x10, x11, x12, x13, x14, rfl⟩ := hI
      obtain ⟨n, t, rfl, ns, ht, hn⟩ := key
      refine ⟨trivial, ?_⟩
      walk_at "go"
      refine small_ok' ?_
      walk_at "go"
      refine Br.i (fun hb => ?_) (fun hb => ?_)
      · have hn := hn hb
        generalize pasN m 6 0 = po at *
        cases po with
        | none =>
          walk_at "go"
          refine passings_ok ns ?_
          rw [hn]
          walk_at "go"
          refine is_same 6 .none rfl ?_
          (conv => whnf)
          exact hK _ _ ⟨rfl, _, _, _, _, _, _, _, _, _, rfl⟩
        | some p =>
          have pp : p = 1 ∨ p = 2 ∨ p = 3 ∨ p = 4 ∨ p = 5 ∨ p = 6 := by
            have := p6 p rfl
            omega
          clear p2 p3 pb p1 pm mu
          rcases pp with rfl | rfl | rfl | rfl | rfl | rfl <;> rcases ht with rfl | rfl
          all_goals
            walk_at "go"
            refine passings_ok ns ?_
            rw [hn]
            (conv => whnf)
            refine is_same 6 (natD (due (some _) _)) (pl_nat _ _) ?_
            (conv => whnf)
            exact hK _ _ ⟨rfl, _, _, _, _, _, _, _, _, _, rfl⟩
      · (conv => whnf)
        exact hK _ _ ⟨rfl, _, _, _, _, _, _, _, _, _, rfl⟩
    · obtain ⟨rfl, x6, x7, x8, x9, x10, x11, x12, x13, x14, rfl⟩ := hI
      refine ⟨trivial, ?_⟩
      walk_at "go"
      refine passings_ok (x := mns m) sm ?_
      walk_at "go"
      refine returns_ok (x := mns m) sm ?_
      rw [pm]
      walk_at "go"
      refine is_same 6 (natD (pasN (mns m) 6 0)) (pl_nat _ _) ?_
      generalize pasN m 6 0 = p at *
      generalize hq : pasN (mns m) 6 0 = q at *
      cases p with
      | none =>
        cases q with
        | some q => cases mu
        | none =>
          walk_at "go"
          refine passings_ok (x := mns m) sm ?_
          rw [hq]
          walk_at "go"
          exact h
      | some p =>
        cases q with
        | none => cases mu
        | some q =>
          walk_at "go"
          refine passings_ok (x := mns m) sm ?_
          rw [hq]
          walk_at "go"
          refine Br.f' (in3 mu) ?_
          walk_at "go"
          refine passings_ok (x := mns m) sm ?_
          rw [hq]
          walk_at "go"
          exact h
end
end Gn

set_option maxHeartbeats 400000
namespace Gn
open PySem PySem.Spec L2 L3
local macro_rules | `(tactic| walk_at "go") => `(tactic|
  ((conv => whnf)
   repeat
    (first
     | ((with_reducible refine And.intro ?sd ?_); (case sd => (first | decide | assumption | omega | exact rfl | exact trivial | exact Nat.le_of_ble_eq_true rfl | exact mulR (by omega) (by omega) | exact mulL (by omega) (by omega) | exact div_ok (by omega) | exact pow_ok (by decide) | exact small_ok (by omega) | exact line_le (by decide) | exact line_le (Nat.le_of_ble_eq_true rfl) | exact line_lt (Nat.le_of_ble_eq_true rfl))))
     | ((with_reducible apply Exists.intro); (refine And.intro rfl ?_))
     (conv => whnf))))
/-! ### algebra of tables -/
theorem mt_ext {x y : Mt} (h1 : x.a = y.a) (h2 : x.b = y.b) (h3 : x.c = y.c) (h4 : x.d = y.d) : x = y := by
  cases x; cases y; cases h1; cases h2; cases h3; cases h4; rfl
theorem mul_assoc' (x y z : Mt) : mul (mul x y) z = mul x (mul y z) := by
  refine mt_ext ?_ ?_ ?_ ?_ <;> simp only [mul] <;> grind
theorem one_mul' (x : Mt) : mul one x = x := by
  refine mt_ext ?_ ?_ ?_ ?_ <;> simp only [mul, one] <;> grind
theorem opp_mul {o : Mt} (h : det o = 1) : mul (opp o) o = one := by
  unfold det at h
  refine mt_ext ?_ ?_ ?_ ?_ <;> simp only [mul, one, opp] <;> grind
theorem mul_opp {o : Mt} (h : det o = 1) : mul o (opp o) = one := by
  unfold det at h
  refine mt_ext ?_ ?_ ?_ ?_ <;> simp only [mul, one, opp] <;> grind
theorem det_mul (x y : Mt) : det (mul x y) = det x * det y := by
  simp only [det, mul]
  grind
def conj (o m : Mt) : Mt := mul (mul o m) (opp o)
theorem trace_conj {o : Mt} (m : Mt) (h : det o = 1) : (conj o m).a + (conj o m).d = m.a + m.d := by
  unfold det at h
  simp only [conj, mul, opp]
  grind
theorem pw_conj {o : Mt} (m : Mt) (h : det o = 1) : ∀ n, pw (conj o m) n = conj o (pw m n)
  | 0 => by
    show one = mul (mul o one) (opp o)
    rw [mul_one', mul_opp h]
  | n + 1 => by
    show mul (conj o m) (pw (conj o m) n) = conj o (mul m (pw m n))
    rw [pw_conj m h n]
    unfold conj
    rw [mul_assoc', mul_assoc', mul_assoc' o (pw m n), ← mul_assoc' (opp o) o, opp_mul h, one_mul', mul_assoc', mul_assoc']
theorem conj_one {o : Mt} (h : det o = 1) (m : Mt) : conj o m = one ↔ m = one := by
  constructor
  · intro e
    have e2 : mul (mul (opp o) (conj o m)) o = mul (mul (opp o) one) o := by rw [e]
    unfold conj at e2
    rw [mul_one', opp_mul h, mul_assoc', mul_assoc', opp_mul h, mul_one', ← mul_assoc', opp_mul h, one_mul'] at e2
    exact e2
  · rintro rfl
    unfold conj
    rw [mul_one', mul_opp h]
theorem pasN_congr {x y : Mt} (h : ∀ n, pw x n = one ↔ pw y n = one) : ∀ k n, pasN x k n = pasN y k n
  | 0, _ => rfl
  | k + 1, n => by
    unfold pasN
    rw [pasN_congr h k (n + 1)]
    by_cases c : pw x (n + 1) = one
    · rw [if_pos c, if_pos ((h _).mp c)]
    · rw [if_neg c, if_neg (fun z => c ((h _).mpr z))]
theorem pasN_conj {o : Mt} (m : Mt) (h : det o = 1) (k n : Nat) : pasN (conj o m) k n = pasN m k n := pasN_congr (fun i => by rw [pw_conj m h, conj_one h]) k n
/-- x y and y x come back together: y x is x y seen from y -/
theorem swap_conj {x y : Mt} (h : det y = 1) : mul y x = conj y (mul x y) := by
  unfold conj
  rw [mul_assoc', mul_assoc', mul_opp h, mul_one']
theorem sent_conj {o m : Mt} {u v : Int} (h : det o = 1) (h1 : m.a * u + m.b * v = u) (h2 : m.c * u + m.d * v = v) :
    (conj o m).a * (o.a * u + o.b * v) + (conj o m).b * (o.c * u + o.d * v) = o.a * u + o.b * v ∧ (conj o m).c * (o.a * u + o.b * v) + (conj o m).d * (o.c * u + o.d * v) = o.c * u + o.d * v := by
  have e : mul (conj o m) o = mul o m := by
    unfold conj
    rw [mul_assoc', opp_mul h, mul_one']
  have ea := congrArg Mt.a e
  have eb := congrArg Mt.b e
  have ec := congrArg Mt.c e
  have ed := congrArg Mt.d e
  simp only [mul] at ea eb ec ed
  generalize conj o m = c at *
  clear e h
  have lin : ∀ p q r s t w : Int, p * (r * u + s * v) + q * (t * u + w * v) = (p * r + q * t) * u + (p * s + q * w) * v := fun p q r s t w => by grind
  constructor
  · rw [lin, ea, eb, ← lin, h1, h2]
  · rw [lin, ec, ed, ← lin, h1, h2]
theorem sent_ne {o : Mt} {u v : Int} (h : det o = 1) (h1 : o.a * u + o.b * v = 0) (h2 : o.c * u + o.d * v = 0) : u = 0 ∧ v = 0 := by
  unfold det at h
  constructor <;> grind
end Gn

set_option maxHeartbeats 0
namespace Gn
open PySem PySem.Spec L2 L3
local macro_rules | `(tactic| walk_at "go") => `(tactic|
  ((conv => whnf)
   repeat
    (first
     | ((with_reducible refine And.intro ?sd ?_); (case sd => (first | decide | assumption | omega | exact rfl | exact trivial | exact Nat.le_of_ble_eq_true rfl | exact mulR (by omega) (by omega) | exact mulL (by omega) (by omega) | exact div_ok (by omega) | exact pow_ok (by decide) | exact small_ok (by omega) | exact line_le (by decide) | exact line_le (Nat.le_of_ble_eq_true rfl) | exact line_lt (Nat.le_of_ble_eq_true rfl))))
     | ((with_reducible apply Exists.intro); (refine And.intro rfl ?_))
     (conv => whnf))))
section
variable {S : Sto} {Q : DK}
theorem not_decP {p : Prop} [Decidable p] (h : p) : (!decide p) = false := by rw [decide_eq_true h]; rfl
theorem stl_some (m : Mt) : (stl m).isSome = decide (m.a + m.d = 2) := by
  have := still_iff m
  rw [rayD_isN, Bool.not_not] at this
  exact this
theorem elsewhere_ok {m o : Mt} (s : Sm m) (so : Sm o) (so2 : Sm (mul o m)) (ss : Sm (conj o m)) (dm : det m = 1) (d : det o = 1) (ray : rayB m (stl m) = true) (h : Q (.d (.bool true)) S) : rd__law_elsewhere_fine [.d m.D, .d o.D] S Q := by
  rw [rd__law_elsewhere_fine_is]
  walk_at "go"
  refine product_ok so ?_
  walk_at "go"
  refine opposite_ok ?_
  walk_at "go"
  refine product_ok so2 ?_
  walk_at "go"
  refine small_ok' ?_
  have e1 : mul (mul o m) (opp o) = conj o m := rfl
  rw [e1]
  have et := trace_conj m d
  walk_at "go"
  refine Br.i (fun hb => ?_) (fun hb => ?_)
  · walk_at "go"
    exact h
  · walk_at "go"
    refine Br.f' (not_decP et) ?_
    walk_at "go"
    refine told_still_ok ?_
    walk_at "go"
    refine passings_ok ss ?_
    rw [pasN_conj m d]
    walk_at "go"
    refine passings_ok s ?_
    walk_at "go"
    refine is_same 6 (natD (pasN m 6 0)) (pl_nat _ _) ?_
    walk_at "go"
    refine told_still_ok ?_
    have e2 : isNon (rayD (stl (conj o m))) = isNon (rayD (stl m)) := by
      rw [rayD_isN, rayD_isN, stl_some, stl_some, et]
    walk_at "go"
    refine Br.f' (not_dec e2) ?_
    (conv => whnf)
    generalize stl m = st at *
    cases st with
    | none =>
      walk_at "go"
      exact h
    | some r =>
      obtain ⟨u, v⟩ := r
      simp only [rayB, Bool.and_eq_true, decide_eq_true_eq, Bool.not_eq_true'] at ray
      obtain ⟨r1, r2, r3⟩ := ray
      obtain ⟨q1, q2⟩ := sent_conj d r1 r2
      walk_at "go"
      refine sent_ok (u := u) (v := v) so ?_
      walk_at "go"
      refine sent_ok (u := o.a * u + o.b * v) (v := o.c * u + o.d * v) ss ?_
      rw [q1, q2]
      walk_at "go"
      have e3 : (!PyData.eqv (.tuple [.int (o.a * u + o.b * v), .int (o.c * u + o.d * v)]) (.tuple [.int 0, .int 0])) = true := by
        rw [eqv2]
        cases hx : decide (o.a * u + o.b * v = 0) && decide (o.c * u + o.d * v = 0)
        · rfl
        · simp only [Bool.and_eq_true, decide_eq_true_eq] at hx
          obtain ⟨z1, z2⟩ := sent_ne d hx.1 hx.2
          rw [z1, z2] at r3
          cases r3
      refine Br.t' (show PyData.eqv (.tuple [.int (o.a * u + o.b * v), .int (o.c * u + o.d * v)]) (.tuple [.int (o.a * u + o.b * v), .int (o.c * u + o.d * v)]) = true by rw [eqv2, decide_eq_true rfl, decide_eq_true rfl]; rfl) ?_
      walk_at "go"
      show Q (.d (.bool (!PyData.eqv (.tuple [.int (o.a * u + o.b * v), .int (o.c * u + o.d * v)]) (.tuple [.int 0, .int 0])))) S
      rw [e3]
      exact h
def trn (m : Mt) : Mt := ⟨m.d, m.c, m.b, m.a⟩
theorem joined_ok {x y : Mt} (s : Sm x) (so : Sm y) (s1 : Sm (mul x y)) (s2 : Sm (mul y x)) (d : det y = 1) (h : Q (.d (.bool true)) S) : rd__law_joined_fine [.d x.D, .d y.D] S Q := by
  rw [rd__law_joined_fine_is]
  walk_at "go"
  refine product_ok so ?_
  walk_at "go"
  refine small_ok' ?_
  walk_at "go"
  refine Br.i (fun hb => ?_) (fun hb => ?_)
  · walk_at "go"
    exact h
  · walk_at "go"
    refine keeps_level_ok ?_
    have sw : ∀ k n, pasN (mul y x) k n = pasN (mul x y) k n := fun k n => by rw [swap_conj d]; exact pasN_conj _ d k n
    walk_at "go"
    refine Br.i (fun c1 => ?_) (fun c1 => ?_)
    case' refine_1 =>
      walk_at "go"
      refine keeps_level_ok ?_
      walk_at "go"
      refine Br.i (fun c2 => ?_) (fun c2 => ?_)
    case' refine_1.refine_1 =>
      walk_at "go"
      refine keeps_level_ok ?_
      walk_at "go"
      have c3 : (mul y x).c = 0 := by
        simp only [decide_eq_true_eq] at c1 c2
        simp only [mul, c1, c2]
        omega
      refine Br.f' (by rw [decide_eq_true c3]; rfl) ?_
    all_goals
      walk_at "go"
      refine is_sharp_ok ?_
    all_goals
      walk_at "go"
      by_cases d1 : x.b = 0
      · refine Br.t' (by rw [decide_eq_true d1]; rfl) ?_
        walk_at "go"
        refine is_sharp_ok ?_
        walk_at "go"
        by_cases d2 : y.b = 0
        · refine Br.t' (by rw [decide_eq_true d2]; rfl) ?_
          walk_at "go"
          refine is_sharp_ok ?_
          walk_at "go"
          have d3 : (mul y x).b = 0 := by
            simp only [mul, d1, d2]
            omega
          refine Br.f' (by rw [decide_eq_true d3]; rfl) ?_
          walk_at "go"
          refine keeps_level_ok (x := trn (mul y x)) ?_
          walk_at "go"
          refine is_sharp_ok (x := trn (mul y x)) ?_
          walk_at "go"
          refine is_sharp_ok ?_
          walk_at "go"
          refine keeps_level_ok ?_
          walk_at "go"
          refine is_same 6 (.tuple [.bool (decide ((mul y x).b = 0)), .bool (decide ((mul y x).c = 0))]) rfl ?_
          walk_at "go"
          refine product_ok s ?_
          walk_at "go"
          refine small_ok' ?_
          walk_at "go"
          refine Br.i (fun hc => ?_) (fun hc => ?_)
          · walk_at "go"
            refine passings_ok s1 ?_
            walk_at "go"
            refine passings_ok s2 ?_
            rw [sw]
            cases pasN (mul x y) 6 0 with
            | none =>
              walk_at "go"
              exact h
            | some p =>
              walk_at "go"
              rw [decide_eq_true rfl]
              exact h
          · walk_at "go"
            exact h
        · refine Br.f' (by rw [decide_eq_false d2]; rfl) ?_
          walk_at "go"
          refine keeps_level_ok (x := trn (mul y x)) ?_
          walk_at "go"
          refine is_sharp_ok (x := trn (mul y x)) ?_
          walk_at "go"
          refine is_sharp_ok ?_
          walk_at "go"
          refine keeps_level_ok ?_
          walk_at "go"
          refine is_same 6 (.tuple [.bool (decide ((mul y x).b = 0)), .bool (decide ((mul y x).c = 0))]) rfl ?_
          walk_at "go"
          refine product_ok s ?_
          walk_at "go"
          refine small_ok' ?_
          walk_at "go"
          refine Br.i (fun hc => ?_) (fun hc => ?_)
          · walk_at "go"
            refine passings_ok s1 ?_
            walk_at "go"
            refine passings_ok s2 ?_
            rw [sw]
            cases pasN (mul x y) 6 0 with
            | none =>
              walk_at "go"
              exact h
            | some p =>
              walk_at "go"
              rw [decide_eq_true rfl]
              exact h
          · walk_at "go"
            exact h
      · refine Br.f' (by rw [decide_eq_false d1]; rfl) ?_
        walk_at "go"
        refine keeps_level_ok (x := trn (mul y x)) ?_
        walk_at "go"
        refine is_sharp_ok (x := trn (mul y x)) ?_
        walk_at "go"
        refine is_sharp_ok ?_
        walk_at "go"
        refine keeps_level_ok ?_
        walk_at "go"
        refine is_same 6 (.tuple [.bool (decide ((mul y x).b = 0)), .bool (decide ((mul y x).c = 0))]) rfl ?_
        walk_at "go"
        refine product_ok s ?_
        walk_at "go"
        refine small_ok' ?_
        walk_at "go"
        refine Br.i (fun hc => ?_) (fun hc => ?_)
        · walk_at "go"
          refine passings_ok s1 ?_
          walk_at "go"
          refine passings_ok s2 ?_
          rw [sw]
          cases pasN (mul x y) 6 0 with
          | none =>
            walk_at "go"
            exact h
          | some p =>
            walk_at "go"
            rw [decide_eq_true rfl]
            exact h
        · walk_at "go"
          exact h
end
end Gn

set_option maxHeartbeats 0
namespace Gn
open PySem PySem.Spec L2 L3
local macro_rules | `(tactic| walk_at "go") => `(tactic|
  ((conv => whnf)
   repeat
    (first
     | ((with_reducible refine And.intro ?sd ?_); (case sd => (first | decide | assumption | omega | exact rfl | exact trivial | exact Nat.le_of_ble_eq_true rfl | exact mulR (by omega) (by omega) | exact mulL (by omega) (by omega) | exact div_ok (by omega) | exact pow_ok (by decide) | exact small_ok (by omega) | exact line_le (by decide) | exact line_le (Nat.le_of_ble_eq_true rfl) | exact line_lt (Nat.le_of_ble_eq_true rfl))))
     | ((with_reducible apply Exists.intro); (refine And.intro rfl ?_))
     (conv => whnf))))
/-! ### trains, repeated -/
theorem tab_from (w : List Nat) : ∀ m : Mt, w.foldl (fun m c => mul (sgn c) m) m = mul (tab w) m := by
  induction w with
  | nil => intro m; exact (one_mul' m).symm
  | cons c w ih =>
    intro m
    rw [List.foldl_cons, ih]
    show _ = mul ((c :: w).foldl (fun m c => mul (sgn c) m) one) m
    rw [List.foldl_cons, ih, mul_one', mul_assoc']
theorem tab_app (u v : List Nat) : tab (u ++ v) = mul (tab v) (tab u) := by
  show (u ++ v).foldl _ one = _
  rw [List.foldl_append, tab_from v]
  rfl
theorem pw_comm (m : Mt) : ∀ n, mul (pw m n) m = mul m (pw m n)
  | 0 => by show mul one m = mul m one; rw [one_mul', mul_one']
  | n + 1 => by
    show mul (mul m (pw m n)) m = mul m (mul m (pw m n))
    rw [mul_assoc', pw_comm m n]
theorem tab_rep (w : List Nat) : ∀ n, tab (List.replicate n w).flatten = pw (tab w) n
  | 0 => rfl
  | n + 1 => by
    rw [List.replicate_succ, List.flatten_cons, tab_app, tab_rep w n]
    exact pw_comm _ n
theorem pas_one {m : Mt} : ∀ {k n p : Nat}, pasN m k n = some p → pw m p = one
  | 0, _, _, h => by cases h
  | k + 1, n, p, h => by
    unfold pasN at h
    by_cases c : pw m (n + 1) = one
    · rw [if_pos c] at h
      cases h
      exact c
    · rw [if_neg c] at h
      exact pas_one h
def ap1 (x : Mt) (u v : Int) : Int := x.a * u + x.b * v
def ap2 (x : Mt) (u v : Int) : Int := x.c * u + x.d * v
theorem ap1_mul (x y : Mt) (u v : Int) : ap1 (mul x y) u v = x.a * ap1 y u v + x.b * ap2 y u v := by
  simp only [ap1, ap2, mul]
  grind
theorem ap2_mul (x y : Mt) (u v : Int) : ap2 (mul x y) u v = x.c * ap1 y u v + x.d * ap2 y u v := by
  simp only [ap1, ap2, mul]
  grind
theorem ap1_one (u v : Int) : ap1 one u v = u := by simp only [ap1, one]; omega
theorem ap2_one (u v : Int) : ap2 one u v = v := by simp only [ap2, one]; omega
section
variable {S : Sto} {Q : DK}
theorem train_table_S {w : List Nat} (h : Q (.d (tab w).D) S) : rd_train_table [.d (.str (SX.S w))] S Q := train_table_ok h
theorem ray_past_S {w : List Nat} {u v : Int} (s : Sm (tab w)) (h : Q (.d (.tuple [.int ((tab w).a * u + (tab w).b * v), .int ((tab w).c * u + (tab w).d * v)])) S) : rd_ray_past_train [.d (.str (SX.S w)), .d (.int u), .d (.int v)] S Q := ray_past_ok (z := SX.S w) s h
theorem train_fine_ok {w : List Nat} (hw : tfB w = true) (u v : Int) (hl : w.length ≤ 6) (h : Q (.d (.bool true)) S) : rd__law_train_fine [.d (.str (SX.S w)), .d (.int u), .d (.int v)] S Q := by
  unfold tfB at hw
  simp only [Bool.and_eq_true] at hw
  obtain ⟨hf, ht⟩ := hw
  have f := fine_of hf
  cases hz : trainFor (tab w) with
  | none => rw [hz] at ht; cases ht
  | some z =>
    rw [hz] at ht
    have tz : tab z = tab w := of_decide_eq_true ht
    rw [rd__law_train_fine_is]
    walk_at "go"
    refine train_table_S ?_
    walk_at "go"
    refine train_for_ok f.s f.dt hz ?_
    walk_at "go"
    refine passings_ok f.s ?_
    walk_at "go"
    refine train_table_S ?_
    walk_at "go"
    rw [tz]
    refine is_same 6 (tab w).D rfl ?_
    walk_at "go"
    have p6 := f.p6
    have stepR : ∀ (po : Option Nat) (n : Nat) (g : Env3 → Sto → Prop) (E : dEnds) (r : Int × Int), (∀ x7 : Slot, E.nx [.val (.d (.str (SX.S w))), .val (.d (.int u)), .val (.d (.int v)), .val (.d (tab w).D), .val (.d (.str (SX.S z))), .val (.d (natD po)), .val (.d (.tuple [.int (ap1 (pw (tab w) n) u v), .int (ap2 (pw (tab w) n) u v)])), x7] S) →
        dLp (fun _ _ => True) (gNm 7) (dSet 6 (dCall 3 rd_ray_past_train (dCons (dVar 0) (dCons (dOp fIx (dVar 6) (dC (.int 0))) (dCons (dOp fIx (dVar 6) (dC (.int 1))) dNil))))) E (rng 0 n) [.val (.d (.str (SX.S w))), .val (.d (.int u)), .val (.d (.int v)), .val (.d (tab w).D), .val (.d (.str (SX.S z))), .val (.d (natD po)), .val (.d (.tuple [.int u, .int v])), .no] S := fun po n g E r hE => by
      refine loop_inv (fun i ρ S' => S' = S ∧ ∃ x7, ρ = [.val (.d (.str (SX.S w))), .val (.d (.int u)), .val (.d (.int v)), .val (.d (tab w).D), .val (.d (.str (SX.S z))), .val (.d (natD po)), .val (.d (.tuple [.int (ap1 (pw (tab w) i) u v), .int (ap2 (pw (tab w) i) u v)])), x7]) _ 0 (fun j y e ρ S' K hI hK => ?_) (fun ρ S' hI => ?_) _ _ ⟨rfl, .no, by rw [show pw (tab w) 0 = one from rfl, ap1_one, ap2_one]⟩
      · obtain ⟨rfl, x7, rfl⟩ := hI
        refine ⟨trivial, ?_⟩
        walk_at "go"
        refine ray_past_S f.s ?_
        (conv => whnf)
        refine hK _ _ ⟨rfl, .val (.d y), ?_⟩
        rw [show pw (tab w) (0 + j + 1) = mul (tab w) (pw (tab w) (0 + j)) from rfl, ap1_mul, ap2_mul]
        rfl
      · obtain ⟨rfl, x7, rfl⟩ := hI
        refine ⟨trivial, ?_⟩
        rw [rng_len, Nat.zero_add]
        exact hE x7
    cases hp : pasN (tab w) 6 0 with
    | none =>
      walk_at "go"
      refine stepR none 3 (fun _ _ => True) _ (0, 0) fun x7 => ?_
      walk_at "go"
      exact h
    | some p =>
      have p7 : p < 7 := (p6 p hp).2
      have pone := pas_one hp
      walk_at "go"
      refine stepR (some p) p (fun _ _ => True) _ (0, 0) fun x7 => ?_
      rw [pone, ap1_one, ap2_one]
      walk_at "go"
      refine is_same 6 (.tuple [.int u, .int v]) rfl ?_
      have hlen : (SX.S w).length = w.length := SX.S_len w
      have hs : (SX.S w).length ≤ sizeLine := line_le (by omega)
      have hm : (SX.S w).length * ((p : Int)).toNat ≤ 6 * 7 := Nat.mul_le_mul (by omega) (by omega)
      have hm2 : (SX.S w).length * ((p : Int)).toNat ≤ sizeLine := line_le (by omega)
      walk_at "go"
      refine Br.i (fun c => ?_) (fun c => ?_)
      · walk_at "go"
        exact h
      · walk_at "go"
        rw [times_S]
        refine train_table_S ?_
        rw [tab_rep, show ((p : Int)).toNat = p by omega, pone]
        walk_at "go"
        refine is_same 6 one.D rfl ?_
        walk_at "go"
        exact h
end
end Gn

set_option maxHeartbeats 0
namespace Gn
open PySem PySem.Spec L2 L3
local macro_rules | `(tactic| walk_at "go") => `(tactic|
  ((conv => whnf)
   repeat
    (first
     | ((with_reducible refine And.intro ?sd ?_); (case sd => (first | decide | assumption | omega | exact rfl | exact trivial | exact Nat.le_of_ble_eq_true rfl | exact mulR (by omega) (by omega) | exact mulL (by omega) (by omega) | exact div_ok (by omega) | exact pow_ok (by decide) | exact small_ok (by omega) | exact line_le (by decide) | exact line_le (Nat.le_of_ble_eq_true rfl) | exact line_lt (Nat.le_of_ble_eq_true rfl))))
     | ((with_reducible apply Exists.intro); (refine And.intro rfl ?_))
     (conv => whnf))))
/-! ### the words and their bounds -/
def okC (c : Nat) : Prop := c = 103 ∨ c = 108 ∨ c = 104
def Word (w : List Nat) : Prop := w.length ≤ 6 ∧ ∀ c ∈ w, okC c
theorem mem_wordsN : ∀ (w : List Nat), (∀ c ∈ w, okC c) → w ∈ wordsN w.length
  | [], _ => List.mem_singleton.mpr rfl
  | c :: w, h => by
    refine List.mem_flatMap.mpr ⟨w, mem_wordsN w (fun d hd => h d (List.mem_cons_of_mem _ hd)), ?_⟩
    rcases h c List.mem_cons_self with rfl | rfl | rfl
    · exact List.mem_cons_self
    · exact List.mem_cons_of_mem _ List.mem_cons_self
    · exact List.mem_cons_of_mem _ (List.mem_cons_of_mem _ List.mem_cons_self)
theorem mem_words {w : List Nat} (h : Word w) : w ∈ words := by
  have m := mem_wordsN w h.2
  have l := h.1
  have c : w.length = 0 ∨ w.length = 1 ∨ w.length = 2 ∨ w.length = 3 ∨ w.length = 4 ∨ w.length = 5 ∨ w.length = 6 := by omega
  unfold words
  simp only [List.mem_append]
  rcases c with e | e | e | e | e | e | e <;> rw [e] at m
  · exact .inl m
  · exact .inr (.inl m)
  · exact .inr (.inr (.inl m))
  · exact .inr (.inr (.inr (.inl m)))
  · exact .inr (.inr (.inr (.inr (.inl m))))
  · exact .inr (.inr (.inr (.inr (.inr (.inl m)))))
  · exact .inr (.inr (.inr (.inr (.inr (.inr m)))))
theorem word_tf {w : List Nat} (h : Word w) : tfB w = true := List.all_eq_true.mp all_fine w (mem_words h)
def Bd (n : Nat) (m : Mt) : Prop := m.a.natAbs ≤ n ∧ m.b.natAbs ≤ n ∧ m.c.natAbs ≤ n ∧ m.d.natAbs ≤ n
instance (n : Nat) (m : Mt) : Decidable (Bd n m) := by unfold Bd; infer_instance
set_option maxHeartbeats 0 in
theorem all_bd : (words.all fun w => decide (Bd 1000 (tab w))) = true := by decide +kernel
theorem word_bd {w : List Nat} (h : Word w) : Bd 1000 (tab w) := of_decide_eq_true (List.all_eq_true.mp all_bd w (mem_words h))
theorem bd_dot {n k : Nat} {p q r s : Int} (h1 : p.natAbs ≤ n) (h2 : q.natAbs ≤ k) (h3 : r.natAbs ≤ n) (h4 : s.natAbs ≤ k) : (p * q + r * s).natAbs ≤ n * k + n * k := by
  refine Nat.le_trans (Int.natAbs_add_le _ _) ?_
  rw [Int.natAbs_mul, Int.natAbs_mul]
  exact Nat.add_le_add (Nat.mul_le_mul h1 h2) (Nat.mul_le_mul h3 h4)
theorem bd_mul {n k : Nat} {x y : Mt} (hx : Bd n x) (hy : Bd k y) : Bd (n * k + n * k) (mul x y) :=
  ⟨bd_dot hx.1 hy.1 hx.2.1 hy.2.2.1, bd_dot hx.1 hy.2.1 hx.2.1 hy.2.2.2, bd_dot hx.2.2.1 hy.1 hx.2.2.2 hy.2.2.1, bd_dot hx.2.2.1 hy.2.1 hx.2.2.2 hy.2.2.2⟩
theorem bd_opp {n : Nat} {x : Mt} (h : Bd n x) : Bd n (opp x) := by
  obtain ⟨h1, h2, h3, h4⟩ := h
  refine ⟨h4, ?_, ?_, h1⟩
  · show (0 - x.b).natAbs ≤ n
    omega
  · show (0 - x.c).natAbs ≤ n
    omega
theorem bd_sm {n : Nat} {x : Mt} (h : Bd n x) (hn : n ≤ 1000000000000) : Sm x := by
  obtain ⟨h1, h2, h3, h4⟩ := h
  constructor <;> omega
section
variable {S : Sto} {Q : DK}
theorem word_fine {w : List Nat} (h : Word w) : Fine (tab w) := by
  have := word_tf h
  unfold tfB at this
  simp only [Bool.and_eq_true] at this
  exact fine_of this.1
theorem word_elsewhere {w o : List Nat} (hw : Word w) (ho : Word o) (h : Q (.d (.bool true)) S) : rd__law_elsewhere_fine [.d (tab w).D, .d (tab o).D] S Q := by
  have f := word_fine hw
  have g := word_fine ho
  have b := bd_mul (word_bd ho) (word_bd hw)
  exact elsewhere_ok f.s g.s (bd_sm b (by decide)) (bd_sm (bd_mul b (bd_opp (word_bd ho))) (by decide)) f.dt g.dt f.ray h
theorem word_joined {w o : List Nat} (hw : Word w) (ho : Word o) (h : Q (.d (.bool true)) S) : rd__law_joined_fine [.d (tab w).D, .d (tab o).D] S Q := by
  have f := word_fine hw
  have g := word_fine ho
  exact joined_ok f.s g.s (bd_sm (bd_mul (word_bd hw) (word_bd ho)) (by decide)) (bd_sm (bd_mul (word_bd ho) (word_bd hw)) (by decide)) g.dt h
end
end Gn

set_option maxHeartbeats 0
namespace Gn
open PySem PySem.Spec L2 L3
local macro_rules | `(tactic| walk_at "go") => `(tactic|
  ((conv => whnf)
   repeat
    (first
     | ((with_reducible refine And.intro ?sd ?_); (case sd => (first | decide | assumption | omega | exact rfl | exact trivial | exact Nat.le_of_ble_eq_true rfl | exact mulR (by omega) (by omega) | exact mulL (by omega) (by omega) | exact div_ok (by omega) | exact pow_ok (by decide) | exact small_ok (by omega) | exact line_le (by decide) | exact line_le (Nat.le_of_ble_eq_true rfl) | exact line_lt (Nat.le_of_ble_eq_true rfl))))
     | ((with_reducible apply Exists.intro); (refine And.intro rfl ?_))
     (conv => whnf))))
/-! ### the law -/
def kn : List (List Nat × Option Nat) := [([], some 1), ([103, 104], some 6), ([104, 103], some 6), ([103, 104, 103], some 4), ([104, 103, 104], some 4), ([103, 104, 103, 104], some 3), ([103, 104, 103, 104, 103, 104], some 2), ([103], none), ([103, 108], none)]
def knD (q : List Nat × Option Nat) : L3.D := .tuple [.str (SX.S q.1), natD q.2]
def knL : List L3.D := [.tuple [.str (Str.ofString ""), .int 1], .tuple [.str (Str.ofString "gh"), .int 6], .tuple [.str (Str.ofString "hg"), .int 6], .tuple [.str (Str.ofString "ghg"), .int 4], .tuple [.str (Str.ofString "hgh"), .int 4], .tuple [.str (Str.ofString "ghgh"), .int 3], .tuple [.str (Str.ofString "ghghgh"), .int 2], .tuple [.str (Str.ofString "g"), .none], .tuple [.str (Str.ofString "gl"), .none]]
theorem knL_is : knL = kn.map knD := by
  unfold knL
  rw [show Str.ofString "" = SX.S [] by decide +kernel, show Str.ofString "gh" = SX.S [103, 104] by decide +kernel, show Str.ofString "hg" = SX.S [104, 103] by decide +kernel, show Str.ofString "ghg" = SX.S [103, 104, 103] by decide +kernel, show Str.ofString "hgh" = SX.S [104, 103, 104] by decide +kernel, show Str.ofString "ghgh" = SX.S [103, 104, 103, 104] by decide +kernel, show Str.ofString "ghghgh" = SX.S [103, 104, 103, 104, 103, 104] by decide +kernel, show Str.ofString "g" = SX.S [103] by decide +kernel, show Str.ofString "gl" = SX.S [103, 108] by decide +kernel]
  rfl
instance (c : Nat) : Decidable (okC c) := by unfold okC; infer_instance
instance (w : List Nat) : Decidable (Word w) := by unfold Word; infer_instance
theorem kn_ok : ∀ q ∈ kn, Word q.1 ∧ pasN (tab q.1) 6 0 = q.2 := by decide +kernel
theorem knL_get {j : Nat} {y : L3.D} (e : knL[j]? = some y) : ∃ w p, y = .tuple [.str (SX.S w), natD p] ∧ Word w ∧ pasN (tab w) 6 0 = p := by
  rw [knL_is, List.getElem?_map] at e
  cases h : kn[j]? with
  | none => rw [h] at e; cases e
  | some q =>
    rw [h] at e
    cases e
    exact ⟨q.1, q.2, rfl, kn_ok q (List.mem_of_getElem? h)⟩
def HA (n : Nat) (ds : List Int) (b : Nat) (S : Sto) : Prop := ∃ a, a ≤ b ∧ S[n]? = some (handC ds a)
theorem take_ok' {n b : Nat} {m : Int} {ds : List Int} {S : Sto} {Q : DK} (hS : HA n ds b S) (hd : Drawn ds) (hb : b < 1000000) (hm : 0 < m) (h : ∀ t S', 0 ≤ t → t < m → HA n ds (b + 1) S' → Q (.d (.int t)) S') : rd__law_take [.ref n, .d (.int m)] S Q := by
  obtain ⟨a, ha, hS⟩ := hS
  refine take_ok hS hd (by omega) hm fun t t0 t1 => h t _ t0 t1 ⟨a + 1, by omega, ?_⟩
  rw [List.getElem?_set_self (List.getElem?_eq_some_iff.mp hS).1]
theorem joinL_ones : ∀ w : List Nat, TL.joinL [] (w.map fun c => [c]) = w
  | [] => rfl
  | [c] => rfl
  | c :: d :: w => by
    have := joinL_ones (d :: w)
    show [c] ++ ([] ++ TL.joinL [] ((d :: w).map fun c => [c])) = _
    rw [this]
    rfl
def sg1 (w : List Nat) : List L3.D := w.map fun c => .str ⟨#[c]⟩
theorem sg1_strs (w : List Nat) : strsOf (sg1 w) = some ((w.map fun c => [c]).map SX.S) := by
  have e : sg1 w = ((w.map fun c => [c]).map SX.S).map .str := by
    unfold sg1
    rw [List.map_map, List.map_map]
    rfl
  rw [e]
  exact strsOf_map _
theorem glh_at {t : Int} (h0 : 0 ≤ t) (h1 : t < 3) : ∃ c, (Str.ofString "glh").cps.toList[t.toNat]? = some c ∧ okC c := by
  have e : (Str.ofString "glh").cps.toList = [103, 108, 104] := by decide +kernel
  rw [e]
  have : t = 0 ∨ t = 1 ∨ t = 2 := by omega
  rcases this with rfl | rfl | rfl
  · exact ⟨103, rfl, .inl rfl⟩
  · exact ⟨108, rfl, .inr (.inl rfl)⟩
  · exact ⟨104, rfl, .inr (.inr rfl)⟩
theorem word_comp {n b k : Nat} {ds : List Int} {S : Sto} {x0 x1 x2 x3 x4 x6 x7 x8 x9 x10 x11 x12 x13 : Slot} {Q : List L3.D → Sto → Prop} (hd : Drawn ds) (hb : b + k < 1000000) (hS : HA n ds b S)
    (h : ∀ w S', (∀ c ∈ w, okC c) → w.length = k → HA n ds (b + k) S' → Q (sg1 w) S') :
    cLoop (fun _ _ => True) (gNm 13) dYes (dOp fIx (dC (.str (Str.ofString "glh"))) (dCall 2 rd__law_take (dCons (dVar 5) (dCons (dC (.int 3)) dNil)))) [x0, x1, x2, x3, x4, .val (.ref n), x6, x7, x8, x9, x10, x11, x12, x13] Q (rng 0 k) [] S := by
  refine comp_inv (fun i acc S' => ∃ w, acc = sg1 w ∧ (∀ c ∈ w, okC c) ∧ w.length = i ∧ HA n ds (b + i) S') (rng 0 k) 0 (fun j x e acc S' K K' hI hK hK' => ?_) (fun acc S' hI => ?_) [] S ⟨[], rfl, by simp, rfl, hS⟩
  · obtain ⟨w, rfl, hw, hl, hA⟩ := hI
    obtain ⟨hj, rfl⟩ := rng_get e
    have hlen : (sg1 w).length = w.length := by unfold sg1; rw [List.length_map]
    refine ⟨trivial, line_lt (by omega), fun _ => ?_⟩
    walk_at "go"
    refine take_ok' hA hd (by omega) (by decide) fun t S2 t0 t1 hA2 => ?_
    obtain ⟨c, hc, okc⟩ := glh_at t0 t1
    have g3 : (Str.ofString "glh").length ≤ sizeLine := by rw [show (Str.ofString "glh").length = 3 by decide +kernel]; exact line_le (by decide)
    walk_at "go"
    refine At.int t0 hc ?_
    (conv => whnf)
    refine hK _ _ ⟨w ++ [c], by unfold sg1; rw [List.map_append]; rfl, fun d hd => ?_, by rw [List.length_append, hl]; rfl, hA2⟩
    rcases List.mem_append.mp hd with hd | hd
    · exact hw d hd
    · rw [List.mem_singleton.mp hd]; exact okc
  · obtain ⟨w, rfl, hw, hl, hA⟩ := hI
    rw [rng_len, Nat.zero_add] at hl hA
    exact ⟨trivial, h w S' hw hl hA⟩
theorem ones_sum : ∀ w : List Nat, ((w.map fun c => [c]).map fun x => x.length).sum = w.length
  | [] => rfl
  | c :: w => by
    rw [List.map_cons, List.map_cons, List.sum_cons, ones_sum w, List.length_cons, List.length_cons, List.length_nil]
    omega
theorem join1_len {w : List Nat} (hl : w.length ≤ 6) : ((((w.map fun c => [c]).map SX.S).map (fun x => x.length)).sum + ((w.map fun c => [c]).map SX.S).length * (Str.ofString "").length) ≤ 16777216 := by
  rw [SX.lens, show (Str.ofString "").length = 0 by decide +kernel, ones_sum]
  omega
theorem join1_eq (w : List Nat) : Txt.join (Str.ofString "") ((w.map fun c => [c]).map SX.S) = SX.S w := by
  rw [str_e, SX.join_S, joinL_ones]
theorem kn_at {t : Int} (h0 : 0 ≤ t) (h1 : t < 9) : ∃ w p, knL[t.toNat]? = some (.tuple [.str (SX.S w), natD p]) ∧ Word w := by
  have l : knL.length = 9 := rfl
  have h : t.toNat < knL.length := by rw [l]; omega
  obtain ⟨w, p, e, hw, _⟩ := knL_get (List.getElem?_eq_getElem h)
  exact ⟨w, p, by rw [List.getElem?_eq_getElem h, e], hw⟩
def tlD (w1 w2 w3 : List Nat) : List L3.D := [.str (SX.S w1), .str (SX.S w2), .str (SX.S w3)]
theorem tl_get {w1 w2 w3 : List Nat} (h1 : Word w1) (h2 : Word w2) (h3 : Word w3) : ∀ {j : Nat} {y : L3.D}, (tlD w1 w2 w3)[j]? = some y → j < 3 ∧ ∃ w, y = .str (SX.S w) ∧ Word w
  | 0, y, e => by cases e; exact ⟨by decide, w1, rfl, h1⟩
  | 1, y, e => by cases e; exact ⟨by decide, w2, rfl, h2⟩
  | 2, y, e => by cases e; exact ⟨by decide, w3, rfl, h3⟩
  | _ + 3, y, e => by cases e
theorem law_ok (ns : List Int) : rd_law [.d (scrD ns)] [] fun d _ => d = .d (.bool true) := by
  rw [rd_law_is]
  walk_at "go"
  refine loop_inv (fun i ρ S' => S' = [] ∧ ∃ x2 x3 : Slot, ρ = [.val (.d (scrD ns)), .val (.d (.tuple knL)), x2, x3, .no, .no, .no, .no, .no, .no, .no, .no, .no, .no]) knL 0 (fun j y e ρ S' K hI hK => ?_) (fun ρ S' hI => ?_) _ _ ⟨rfl, _, _, rfl⟩
  · obtain ⟨rfl, x2, x3, rfl⟩ := hI
    obtain ⟨w, p, rfl, hw, hp⟩ := knL_get e
    refine ⟨trivial, ?_⟩
    walk_at "go"
    refine train_table_S ?_
    walk_at "go"
    refine passings_ok (word_fine hw).s ?_
    rw [hp]
    walk_at "go"
    refine is_same 6 (natD p) (pl_nat _ _) ?_
    walk_at "go"
    refine train_table_S ?_
    walk_at "go"
    refine table_fine_ok (word_fine hw) ?_
    walk_at "go"
    exact hK _ _ ⟨rfl, _, _, rfl⟩
  · obtain ⟨rfl, x2, x3, rfl⟩ := hI
    refine ⟨trivial, ?_⟩
    walk_at "go"
    refine loop_inv (fun i ρ S' => ∃ x2 x3 x4 x5 x6 x7 x8 x9 x10 x11 : Slot, ρ = [.val (.d (scrD ns)), .val (.d (.tuple knL)), x2, x3, x4, x5, x6, x7, x8, x9, x10, x11, .no, .no]) _ 0 (fun j y e ρ S' K hI hK => ?_) (fun ρ S' hI => ?_) _ _ ⟨_, _, _, _, _, _, _, _, _, _, rfl⟩
    · obtain ⟨x2, x3, x4, x5, x6, x7, x8, x9, x10, x11, rfl⟩ := hI
      obtain ⟨hj, rfl⟩ := rng_get e
      have hj : j < 3 := hj
      refine ⟨trivial, ?_⟩
      rw [Int.zero_add]
      walk_at "go"
      refine hand_ok (by omega) fun ds hd => ?_
      have hS : HA S'.length ds 0 (S' ++ [handC ds 0]) := ⟨0, Nat.le_refl _, by rw [List.getElem?_append_right (Nat.le_refl _), Nat.sub_self]; rfl⟩
      generalize S' ++ [handC ds 0] = S1 at *
      generalize S'.length = n at *
      walk_at "go"
      refine take_ok' hS hd (by decide) (by decide) fun t S2 t0 t1 hS => ?_
      walk_at "go"
      refine word_comp (k := t.toNat) hd (by omega) hS fun w1 S3 hw1 hl1 hS => ?_
      walk_at "go"
      have wd1 : Word w1 := ⟨by omega, hw1⟩
      rw [sg1_strs]
      (conv => whnf)
      refine ⟨join1_len wd1.1, ?_⟩
      rw [join1_eq]
      walk_at "go"
      refine take_ok' hS hd (by omega) (by decide) fun t2 S4 u0 u1 hS => ?_
      walk_at "go"
      refine word_comp (k := t2.toNat) hd (by omega) hS fun w2 S5 hw2 hl2 hS => ?_
      walk_at "go"
      have wd2 : Word w2 := ⟨by omega, hw2⟩
      rw [sg1_strs]
      (conv => whnf)
      refine ⟨join1_len wd2.1, ?_⟩
      rw [join1_eq]
      walk_at "go"
      refine take_ok' hS hd (by omega) (by decide) fun t3 S6 v0 v1 hS => ?_
      obtain ⟨w3, p3, e3, wd3⟩ := kn_at v0 v1
      walk_at "go"
      refine At.int v0 e3 ?_
      walk_at "go"
      refine loop_inv (fun i ρ S' => HA n ds (15 + 2 * i) S' ∧ ∃ x2 x3 x4 x7 x8 x9 x10 x11 : Slot, ρ = [.val (.d (scrD ns)), .val (.d (.tuple knL)), x2, x3, x4, .val (.ref n), .val (.d (.list (tlD w1 w2 w3))), x7, x8, x9, x10, x11, .no, .no]) (tlD w1 w2 w3) 0 (fun j y e ρ S' K hI hK => ?_) (fun ρ S' hI => ?_) _ _ ⟨?_, _, _, _, _, _, _, _, _, rfl⟩
      · obtain ⟨hS, x2, x3, x4, x7, x8, x9, x10, x11, rfl⟩ := hI
        obtain ⟨hj, w, rfl, hw⟩ := tl_get wd1 wd2 wd3 e
        refine ⟨rfl, ?_⟩
        walk_at "go"
        refine train_table_S ?_
        walk_at "go"
        refine take_ok' hS hd (by omega) (by decide) fun q1 T1 q10 q11 hS => ?_
        walk_at "go"
        refine take_ok' hS hd (by omega) (by decide) fun q2 T2 q20 q21 hS => ?_
        walk_at "go"
        refine table_fine_ok (word_fine hw) ?_
        walk_at "go"
        refine train_fine_ok (word_tf hw) _ _ hw.1 ?_
        walk_at "go"
        refine loop_inv (fun i ρ S' => S' = T2 ∧ ∃ x2 x3 x4 x8 x9 x10 x11 : Slot, ρ = [.val (.d (scrD ns)), .val (.d (.tuple knL)), x2, x3, x4, .val (.ref n), .val (.d (.list (tlD w1 w2 w3))), .val (.d (tab w).D), x8, x9, x10, x11, .no, .no]) (tlD w1 w2 w3) 0 (fun j2 y2 e2 ρ S' K hI hK => ?_) (fun ρ S' hI => ?_) _ _ ⟨rfl, _, _, _, _, _, _, _, rfl⟩
        · obtain ⟨rfl, x2, x3, x4, x8, x9, x10, x11, rfl⟩ := hI
          obtain ⟨hj2, o, rfl, ho⟩ := tl_get wd1 wd2 wd3 e2
          refine ⟨rfl, ?_⟩
          walk_at "go"
          refine train_table_S ?_
          walk_at "go"
          refine word_elsewhere hw ho ?_
          walk_at "go"
          refine word_joined hw ho ?_
          walk_at "go"
          exact hK _ _ ⟨rfl, _, _, _, _, _, _, _, rfl⟩
        · obtain ⟨rfl, x2, x3, x4, x8, x9, x10, x11, rfl⟩ := hI
          refine ⟨rfl, ?_⟩
          (conv => whnf)
          exact hK _ _ ⟨by rw [show 15 + 2 * (0 + j + 1) = 15 + 2 * (0 + j) + 1 + 1 by omega]; exact hS, _, _, _, _, _, _, _, _, rfl⟩
      · obtain ⟨hS, x2, x3, x4, x7, x8, x9, x10, x11, rfl⟩ := hI
        refine ⟨rfl, ?_⟩
        (conv => whnf)
        exact hK _ _ ⟨_, _, _, _, _, _, _, _, _, _, rfl⟩
      · obtain ⟨a, ha, q⟩ := hS
        exact ⟨a, by omega, q⟩
    · obtain ⟨x2, x3, x4, x5, x6, x7, x8, x9, x10, x11, rfl⟩ := hI
      refine ⟨trivial, ?_⟩
      walk_at "go"
end Gn

open PySem PySem.W PySem.Calls PyProof.Rows
set_option maxHeartbeats 0
theorem PySem.Challenge.cw_shadehall_k20_whole_passings_seen_from_e_holds : PySem.Challenge.rw_shadehall_k20_whole_passings_seen_from_e.Holds := by
  w_on; o_law
  refine HandSHeadRun.head_any (r := OpenLaw.row PySem.Challenge.rw_shadehall_k20_whole_passings_seen_from_e) (q := view (OpenLaw.row PySem.Challenge.rw_shadehall_k20_whole_passings_seen_from_e).prog [31]) (H := Gn.hk) (ob := Gn.ob) (M := 6000) (loose := Gn.loose) (d := HandSHeadRun.topDef (OpenLaw.row PySem.Challenge.rw_shadehall_k20_whole_passings_seen_from_e).prog 31) (kwd := []) Gn.ob_eq
    (by kernel_rfl) (fun s => by kernel_rfl) Gn.run (by kernel_rfl) (by kernel_rfl) (by kernel_rfl) (by rfl) (by first | assumption | decide +kernel) (by decide +kernel) ⟨rfl, rfl, rfl, rfl, rfl, by decide +kernel⟩ ?hw ?hc
  case hw => w_witness2
  case hc =>
    refine L2.walk_ofE (l := PySem.Challenge.rw_shadehall_k20_whole_passings_seen_from_e) (n := 63) (k := 9) (x := "script") (CX := L2.CX0) rfl (by decide) (by kernel_rfl) ⟨rfl, by decide, by decide⟩ ?F (fun _ _ _ _ z => z)
    intro w mg fa h Y G hmg0
    obtain ⟨K, KX, c⟩ := Y
    have hmg : mg ("law" : PySem.Str) = some (.ref fa) := by
      have e : (HandSHeadRun.topDef (OpenLaw.row PySem.Challenge.rw_shadehall_k20_whole_passings_seen_from_e).prog 31).name = ("law" : PySem.Str) := by kernel_rfl
      rw [← e]
      exact hmg0
    obtain ⟨fd, hb, hF⟩ := Gn.facts (P := (PySem.Challenge.rw_shadehall_k20_whole_passings_seen_from_e).prog) (w := w) KX G hmg c
    exact ⟨K, fd, L3.spD K 1 Gn.rd_law, KX, hb, fun H a ns hl _ hS => L3.law_sp hS (Gn.law_ok ns), hF⟩
