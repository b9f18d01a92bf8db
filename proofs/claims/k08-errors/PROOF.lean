import PyProof.Rows.All
import PySem.Challenge.RW_manypads_k08_errors_of_all_classes
import HandS.ForMost
import HandS.Walk
import HandS.Wide
import HandS.Exc
import HandS.HeadHook1
import HandS.WideBits
import HandS.Deep
import HandS.TupAny
import HandS.Flow
import HandS.Iter
import HandS.Rev
import HandS.Zip
import HandS.HeadEnd
import HandS.More
import HandS.Small
import HandS.Text
import HandS.RaiseMore
import HandS.Comp
import HandS.IsInst
import HandS.Codes
import HandS.ExcIs
import HandS.ExcField
import HandS.Star
import HandS.ExcInit
import HandS.MakeKw
import PyProof.ReprRoads
import HandS.HeadHook4
import HandS.ExcValue
import KE.KStateDown
import HandS.Head0
import HandS.Head1
import HandS.Head2
set_option Elab.async false
set_option linter.all false
set_option maxRecDepth 100000
set_option maxHeartbeats 0
set_option autoImplicit false
section
set_option maxHeartbeats 2000000
/-! Values without a heap. -/
namespace MP
open PySem PySem.Spec PyProof.Rows L2

inductive D where
  | non | bl (b : Bool) | int (i : Int) | str (x : Str) | ty (n : String)
  | tup (xs : List D) | lst (xs : List D)
  | dct (kvs : List (D × D))
  | ins (C : String) (fs : List (String × D))
  | obj (g : String)
  | scr (xs : List Int)
  | exc (C : String) (fs : List (String × D))
  deriving Inhabited

mutual
def D.beq : D → D → Bool
  | .non, .non => true
  | .bl a, .bl b => a == b
  | .int a, .int b => a == b
  | .str a, .str b => decide (a = b)
  | .ty a, .ty b => decide (a = b)
  | .tup a, .tup b => D.beqL a b
  | .lst a, .lst b => D.beqL a b
  | .dct a, .dct b => D.beqK a b
  | .ins C a, .ins E b => decide (C = E) && D.beqF a b
  | .obj a, .obj b => decide (a = b)
  | .scr a, .scr b => decide (a = b)
  | .exc C a, .exc E b => decide (C = E) && D.beqF a b
  | _, _ => false
termination_by structural a => a
def D.beqL : List D → List D → Bool
  | [], [] => true
  | a :: r, b :: t => D.beq a b && D.beqL r t
  | _, _ => false
termination_by structural a => a
def D.beqK : List (D × D) → List (D × D) → Bool
  | [], [] => true
  | p :: r, q :: t => D.beqP p q && D.beqK r t
  | _, _ => false
termination_by structural a => a
def D.beqP : D × D → D × D → Bool
  | (k, v), (l, w) => D.beq k l && D.beq v w
termination_by structural a => a
def D.beqF : List (String × D) → List (String × D) → Bool
  | [], [] => true
  | p :: r, q :: t => D.beqQ p q && D.beqF r t
  | _, _ => false
termination_by structural a => a
def D.beqQ : String × D → String × D → Bool
  | (k, v), (l, w) => decide (k = l) && D.beq v w
termination_by structural a => a
end
mutual
theorem D.beq_iff : ∀ a b : D, D.beq a b = true ↔ a = b
  | .non, b => by cases b <;> simp [D.beq]
  | .bl _, b => by cases b <;> simp [D.beq]
  | .int _, b => by cases b <;> simp [D.beq]
  | .str _, b => by cases b <;> simp [D.beq]
  | .ty _, b => by cases b <;> simp [D.beq]
  | .obj _, b => by cases b <;> simp [D.beq]
  | .scr _, b => by cases b <;> simp [D.beq]
  | .tup xs, b => by cases b <;> simp [D.beq, D.beqL_iff xs]
  | .lst xs, b => by cases b <;> simp [D.beq, D.beqL_iff xs]
  | .dct xs, b => by cases b <;> simp [D.beq, D.beqK_iff xs]
  | .ins C xs, b => by cases b <;> simp [D.beq, D.beqF_iff xs]
  | .exc C xs, b => by cases b <;> simp [D.beq, D.beqF_iff xs]
theorem D.beqL_iff : ∀ a b : List D, D.beqL a b = true ↔ a = b
  | [], b => by cases b <;> simp [D.beqL]
  | a :: r, b => by cases b <;> simp [D.beqL, D.beq_iff a, D.beqL_iff r]
theorem D.beqK_iff : ∀ a b : List (D × D), D.beqK a b = true ↔ a = b
  | [], b => by cases b <;> simp [D.beqK]
  | a :: r, b => by cases b <;> simp [D.beqK, D.beqP_iff a, D.beqK_iff r]
theorem D.beqP_iff : ∀ a b : D × D, D.beqP a b = true ↔ a = b
  | (k, v), (l, w) => by simp [D.beqP, D.beq_iff k, D.beq_iff v]
theorem D.beqF_iff : ∀ a b : List (String × D), D.beqF a b = true ↔ a = b
  | [], b => by cases b <;> simp [D.beqF]
  | a :: r, b => by cases b <;> simp [D.beqF, D.beqQ_iff a, D.beqF_iff r]
theorem D.beqQ_iff : ∀ a b : String × D, D.beqQ a b = true ↔ a = b
  | (k, v), (l, w) => by simp [D.beqQ, D.beq_iff v]
end
instance : DecidableEq D := fun a b => decidable_of_iff _ (D.beq_iff a b)

theorem ofS_inj {a b : String} (h : Str.ofString a = Str.ofString b) : a = b := by
  rw [Str.ofString_eq_toList, Str.ofString_eq_toList] at h
  have h1 : a.toList.map Char.toNat = b.toList.map Char.toNat := by
    have := congrArg (fun z : Str => z.cps.toList) h
    simpa using this
  have h2 : a.toList = b.toList := by
    refine List.map_inj_right (f := Char.toNat) (fun x y e => ?_) |>.mp h1
    exact Char.toNat_inj.mp e
  exact String.toList_inj.mp h2
@[simp] theorem ofS_iff {a b : String} : Str.ofString a = Str.ofString b ↔ a = b := ⟨ofS_inj, fun h => by rw [h]⟩

example : D.tup [.int 1, .str "ab"] = D.tup [.int 1, .str "ab"] := by decide
example : ¬ (D.tup [.int 1, .str "ab"] = D.tup [.int 1, .str "ac"]) := by decide
example : ¬ (D.tup [.int 1, .str "ab"] = D.tup [.int 1, .str "ac"]) := by simp
end MP
end

section
set_option maxHeartbeats 2000000
/-! How values lie in the abstract heap; environments; steps. -/
namespace MP
open PySem PySem.Spec PyProof.Rows L2

def kD : Key → D
  | .inl i => .int i
  | .inr x => .str x

/-- at a: an exception object of the class C, its dict at d -/
def ExAt (F : Hp) (a : Addr) (cls : Value) (d : Option Addr) : Prop := ∃ φ, F a = some (.ext φ) ∧ ∀ h, φ h → ∃ (oe : Obj) (vs : Array Value), h.get? a = some oe ∧ Zc cls d oe ∧ oe.data = .fields vs
/-- at dx: its dict -/
def XdAt (F : Hp) (dx : Addr) (fvs : List (Str × V)) : Prop := F dx = some (.xd fvs) ∨ ∃ ψ, F dx = some (.ext ψ) ∧ ∀ h, ψ h → ∃ mA, h.Ns1 dx mA ∧ ∀ f, RelO (fvs.lookup f) (mA f)
mutual
/-- v is the datum d, all of it in F -/
inductive Rep (K : PySem.W.Frag) (F : Hp) : V → D → Prop
  | non : Rep K F .non .non
  | bl (b : Bool) : Rep K F (.bl b) (.bl b)
  | int (i : Int) : Rep K F (.int i) (.int i)
  | str (x : Str) : Rep K F (.str x) (.str x)
  | ty (n : String) : Rep K F (.ty n) (.ty n)
  | tup {a vs ds} : SqT K F a vs → Reps K F vs ds → Rep K F (.ref a) (.tup ds)
  | lst {a vs ds} : F a = some (.lst vs) → Reps K F vs ds → Rep K F (.ref a) (.lst ds)
  | scr {a ns} : SqL K F a (ns.map V.int) → Rep K F (.ref a) (.scr ns)
  | dK {a kvs ds} : Rd F a (.dK kvs) → RepKs K F kvs ds → Rep K F (.ref a) (.dct ds)
  | ins {a dx C fvs fs} : F a = some (.ins (He.ga K (Str.ofString C)) dx fvs) → RepFs K F fvs fs → Rep K F (.ref a) (.ins C fs)
  | obj (g : String) : Rep K F (.ref (He.ga K (Str.ofString g))) (.obj g)
  | exc0 {a C} : ExAt F a (.ref (He.ga K (Str.ofString C))) none → Rep K F (.ref a) (.exc C [])
  | exc {a dx C fvs fs} : ExAt F a (.ref (He.ga K (Str.ofString C))) (some dx) → XdAt F dx fvs → RepFs K F fvs fs → Rep K F (.ref a) (.exc C fs)
inductive Reps (K : PySem.W.Frag) (F : Hp) : List V → List D → Prop
  | nil : Reps K F [] []
  | cons {v d vs ds} : Rep K F v d → Reps K F vs ds → Reps K F (v :: vs) (d :: ds)
inductive RepKs (K : PySem.W.Frag) (F : Hp) : List (Key × V) → List (D × D) → Prop
  | nil : RepKs K F [] []
  | cons {k v d vs ds} : Rep K F v d → RepKs K F vs ds → RepKs K F ((k, v) :: vs) ((kD k, d) :: ds)
inductive RepFs (K : PySem.W.Frag) (F : Hp) : List (Str × V) → List (String × D) → Prop
  | nil : RepFs K F [] []
  | cons {n v d vs ds} : Rep K F v d → RepFs K F vs ds → RepFs K F ((Str.ofString n, v) :: vs) ((n, d) :: ds)
end

/-- a frozen dict may be locked -/
def Up (o o' : HO) : Prop := o' = o ∨ ∃ ob, o' = .frz ob o ∧ ∃ kvs, o = .dK kvs
theorem Up.refl (o : HO) : Up o o := .inl rfl
theorem Up.trans {a b c : HO} (h : Up a b) (h' : Up b c) : Up a c := by
  rcases h with rfl | ⟨ob, rfl, hk⟩
  · exact h'
  · rcases h' with rfl | ⟨ob', rfl, hk'⟩
    · exact .inr ⟨ob, rfl, hk⟩
    · obtain ⟨_, e⟩ := hk'
      cases e
def Le (F F' : Hp) : Prop := ∀ a o, F a = some o → ∃ o', F' a = some o' ∧ Up o o'
def Sub (F H : Hp) : Prop := ∀ a o, F a = some o → H a = some o
theorem Le.refl (F : Hp) : Le F F := fun a o h => ⟨o, h, .refl o⟩
theorem Le.trans {F F1 F2 : Hp} (h : Le F F1) (h' : Le F1 F2) : Le F F2 := fun a o e => by
  obtain ⟨o1, e1, u1⟩ := h a o e
  obtain ⟨o2, e2, u2⟩ := h' a o1 e1
  exact ⟨o2, e2, u1.trans u2⟩
theorem Le.upd {F : Hp} {p : Addr} {o : HO} (h : F p = none) : Le F (upd F p o) := fun a u e => ⟨u, by rw [upd_ne (ne_of_none e h)]; exact e, .refl u⟩
theorem Sub.refl (F : Hp) : Sub F F := fun _ _ h => h
theorem Sub.upd2 {F H : Hp} {p : Addr} {o : HO} (h : Sub F H) : Sub (upd F p o) (upd H p o) := fun a u e => by
  by_cases q : a = p
  · subst q; rw [upd_same] at e ⊢; exact e
  · rw [upd_ne q] at e ⊢; exact h a u e
theorem Sub.none {F H : Hp} (h : Sub F H) {a : Addr} (e : H a = none) : F a = none := by
  cases q : F a with
  | none => rfl
  | some o => rw [h a o q] at e; cases e
theorem Rd.le {F F' : Hp} {a : Addr} {u : HO} (h : Rd F a u) (l : Le F F') : Rd F' a u := by
  rcases h with h | ⟨o, h⟩
  · obtain ⟨o', e, u | ⟨ob, u, _⟩⟩ := l a _ h
    · subst u; exact .inl e
    · subst u; exact .inr ⟨_, e⟩
  · obtain ⟨o', e, u | ⟨ob, u, ⟨_, z⟩⟩⟩ := l a _ h
    · subst u; exact .inr ⟨_, e⟩
    · cases z
theorem Rd.sub {F F' : Hp} {a : Addr} {u : HO} (h : Rd F a u) (l : Sub F F') : Rd F' a u := by
  rcases h with h | ⟨o, h⟩
  · exact .inl (l _ _ h)
  · exact .inr ⟨o, l _ _ h⟩
theorem ExAt.le {F F' : Hp} {a : Addr} {cls : Value} {d : Option Addr} (h : ExAt F a cls d) (l : Le F F') : ExAt F' a cls d := by
  obtain ⟨φ, e, hφ⟩ := h
  obtain ⟨o', e', u | ⟨ob, u, ⟨_, z⟩⟩⟩ := l a _ e
  · subst u; exact ⟨φ, e', hφ⟩
  · cases z
theorem XdAt.le {F F' : Hp} {a : Addr} {fvs : List (Str × V)} (h : XdAt F a fvs) (l : Le F F') : XdAt F' a fvs := by
  rcases h with e | ⟨φ, e, hφ⟩
  · obtain ⟨o', e', u | ⟨ob, u, ⟨_, z⟩⟩⟩ := l a _ e
    · subst u; exact .inl e'
    · cases z
  · obtain ⟨o', e', u | ⟨ob, u, ⟨_, z⟩⟩⟩ := l a _ e
    · subst u; exact .inr ⟨φ, e', hφ⟩
    · cases z
section
variable {K : PySem.W.Frag} {F F' H : Hp} {a : Addr}
theorem SqL.le {xs : List V} (h : SqL K F a xs) (l : Le F F') : SqL K F' a xs := h.elim (fun h => .inl (Rd.le h l)) .inr
theorem SqT.le {xs : List V} (h : SqT K F a xs) (l : Le F F') : SqT K F' a xs := h.elim (fun h => .inl (Rd.le h l)) .inr
theorem SqL.sub {xs : List V} (h : SqL K F a xs) (l : Sub F F') : SqL K F' a xs := h.elim (fun h => .inl (Rd.sub h l)) .inr
theorem SqT.sub {xs : List V} (h : SqT K F a xs) (l : Sub F F') : SqT K F' a xs := h.elim (fun h => .inl (Rd.sub h l)) .inr
mutual
theorem Rep.le (l : Le F F') : ∀ {v : V} {d : D}, Rep K F v d → Rep K F' v d
  | _, _, .non => .non
  | _, _, .bl b => .bl b
  | _, _, .int i => .int i
  | _, _, .str x => .str x
  | _, _, .ty n => .ty n
  | _, _, .tup h r => .tup (SqT.le h l) (Reps.le l r)
  | _, _, .lst h r => by
    obtain ⟨o', e, u | ⟨ob, u, ⟨_, z⟩⟩⟩ := l _ _ h
    · subst u; exact .lst e (Reps.le l r)
    · cases z
  | _, _, .scr h => .scr (SqL.le h l)
  | _, _, .dK h r => .dK (Rd.le h l) (RepKs.le l r)
  | _, _, .ins h r => by
    obtain ⟨o', e, u | ⟨ob, u, ⟨_, z⟩⟩⟩ := l _ _ h
    · subst u; exact .ins e (RepFs.le l r)
    · cases z
  | _, _, .obj g => .obj g
  | _, _, .exc0 h => .exc0 (ExAt.le h l)
  | _, _, .exc h h' r => .exc (ExAt.le h l) (XdAt.le h' l) (RepFs.le l r)
theorem Reps.le (l : Le F F') : ∀ {vs : List V} {ds : List D}, Reps K F vs ds → Reps K F' vs ds
  | _, _, .nil => .nil
  | _, _, .cons h r => .cons (Rep.le l h) (Reps.le l r)
theorem RepKs.le (l : Le F F') : ∀ {vs : List (Key × V)} {ds : List (D × D)}, RepKs K F vs ds → RepKs K F' vs ds
  | _, _, .nil => .nil
  | _, _, .cons h r => .cons (Rep.le l h) (RepKs.le l r)
theorem RepFs.le (l : Le F F') : ∀ {vs : List (Str × V)} {ds : List (String × D)}, RepFs K F vs ds → RepFs K F' vs ds
  | _, _, .nil => .nil
  | _, _, .cons h r => .cons (Rep.le l h) (RepFs.le l r)
end
theorem Reps.length : ∀ {vs : List V} {ds : List D}, Reps K F vs ds → vs.length = ds.length
  | _, _, .nil => rfl
  | _, _, .cons _ r => by simp [Reps.length r]
theorem Reps.get : ∀ {vs : List V} {ds : List D} {i : Nat} {d : D}, Reps K F vs ds → ds[i]? = some d → ∃ v, vs[i]? = some v ∧ Rep K F v d
  | _, _, _, _, .nil, h => by simp at h
  | _, _, 0, _, .cons h _, e => by simp at e; subst e; exact ⟨_, rfl, h⟩
  | _, _, i + 1, _, .cons _ r, e => by
    obtain ⟨v, h1, h2⟩ := Reps.get (i := i) r (by simpa using e)
    exact ⟨v, by simpa using h1, h2⟩
theorem Reps.get' : ∀ {vs : List V} {ds : List D} {i : Nat} {v : V}, Reps K F vs ds → vs[i]? = some v → ∃ d, ds[i]? = some d ∧ Rep K F v d
  | _, _, _, _, .nil, h => by simp at h
  | _, _, 0, _, .cons h _, e => by simp at e; subst e; exact ⟨_, rfl, h⟩
  | _, _, i + 1, _, .cons _ r, e => by
    obtain ⟨v, h1, h2⟩ := Reps.get' (i := i) r (by simpa using e)
    exact ⟨v, by simpa using h1, h2⟩
theorem Reps.append : ∀ {vs ws : List V} {ds es : List D}, Reps K F vs ds → Reps K F ws es → Reps K F (vs ++ ws) (ds ++ es)
  | _, _, _, _, .nil, h => h
  | _, _, _, _, .cons h r, h' => .cons h (Reps.append r h')
theorem Reps.take : ∀ {vs : List V} {ds : List D} (n : Nat), Reps K F vs ds → Reps K F (vs.take n) (ds.take n)
  | _, _, 0, _ => by simp only [List.take_zero]; exact .nil
  | _, _, _ + 1, .nil => .nil
  | _, _, n + 1, .cons h r => .cons h (Reps.take n r)
theorem Reps.drop : ∀ {vs : List V} {ds : List D} (n : Nat), Reps K F vs ds → Reps K F (vs.drop n) (ds.drop n)
  | _, _, 0, h => h
  | _, _, _ + 1, .nil => .nil
  | _, _, n + 1, .cons _ r => Reps.drop n r
theorem Reps.set {v : V} {d : D} (h : Rep K F v d) : ∀ {vs : List V} {ds : List D} (i : Nat), Reps K F vs ds → Reps K F (vs.set i v) (ds.set i d)
  | _, _, _, .nil => .nil
  | _, _, 0, .cons _ r => .cons h r
  | _, _, i + 1, .cons h' r => .cons h' (Reps.set h i r)
theorem Reps.reverse {vs : List V} {ds : List D} (h : Reps K F vs ds) : Reps K F vs.reverse ds.reverse := by
  induction vs generalizing ds with
  | nil => cases h; exact .nil
  | cons v vs ih =>
    cases h with
    | cons h r => rw [List.reverse_cons, List.reverse_cons]; exact (ih r).append (.cons h .nil)
theorem Reps.rep {vs : List V} {ds : List D} (h : Reps K F vs ds) : ∀ n : Nat, Reps K F (List.replicate n vs).flatten (List.replicate n ds).flatten
  | 0 => .nil
  | n + 1 => by rw [List.replicate_succ, List.replicate_succ, List.flatten_cons, List.flatten_cons]; exact h.append (Reps.rep h n)
theorem Reps.eraseIdx : ∀ {vs : List V} {ds : List D} (i : Nat), Reps K F vs ds → Reps K F (vs.eraseIdx i) (ds.eraseIdx i)
  | _, _, _, .nil => .nil
  | _, _, 0, .cons _ r => r
  | _, _, i + 1, .cons h r => .cons h (Reps.eraseIdx i r)
end

/-! ### owned objects -/
/-- the object at a is the datum d; what stands in it is frozen -/
inductive Own (K : PySem.W.Frag) (F H : Hp) (a : Addr) : D → Prop
  | lst {vs ds} : H a = some (.lst vs) → Reps K F vs ds → Own K F H a (.lst ds)
  | dK {kvs ds} : H a = some (.dK kvs) → RepKs K F kvs ds → Own K F H a (.dct ds)
  | ins {dx C fvs fs} : H a = some (.ins (He.ga K (Str.ofString C)) dx fvs) → RepFs K F fvs fs → Own K F H a (.ins C fs)
/-- a value: frozen, or an owned object -/
structure T where
  o : Bool
  d : D
  deriving Inhabited
abbrev fz (d : D) : T := ⟨false, d⟩
abbrev ow (d : D) : T := ⟨true, d⟩
instance : DecidableEq T := fun a b => decidable_of_iff (a.o = b.o ∧ a.d = b.d) ⟨fun h => by cases a; cases b; simp_all, fun h => by rw [h]; exact ⟨rfl, rfl⟩⟩
inductive TRel (K : PySem.W.Frag) (F H : Hp) : V → T → Prop
  | fz {v d} : Rep K F v d → TRel K F H v ⟨false, d⟩
  | ow {a d} : F a = none → Own K F H a d → TRel K F H (.ref a) ⟨true, d⟩
section
variable {K : PySem.W.Frag} {F F' H H' : Hp} {a : Addr} {d : D}
theorem Own.ex (h : Own K F H a d) : ∃ o, H a = some o := by
  cases h <;> exact ⟨_, ‹_›⟩
theorem Own.le (h : Own K F H a d) (l : Le F F') (e : H' a = H a) : Own K F' H' a d := by
  cases h with
  | lst h r => exact .lst (e.trans h) (Reps.le l r)
  | dK h r => exact .dK (e.trans h) (RepKs.le l r)
  | ins h r => exact .ins (e.trans h) (RepFs.le l r)
theorem Own.freeze (h : Own K F H a d) {o : HO} (hF : F a = none) (e : H a = some o) : Rep K (upd F a o) (.ref a) d := by
  have l : Le F (upd F a o) := Le.upd hF
  cases h with
  | lst h r => rw [e] at h; cases h; exact .lst upd_same (Reps.le l r)
  | dK h r => rw [e] at h; cases h; exact .dK (.inl upd_same) (RepKs.le l r)
  | ins h r => rw [e] at h; cases h; exact .ins upd_same (RepFs.le l r)
end

/-! ### environments -/
inductive Root | g (j : Nat) | s (i : Nat)
  deriving DecidableEq, Inhabited
inductive Sv | par (j : Nat) | loc (t : T)
  deriving Inhabited
/-- gs: what was handed in; sl: the slots -/
structure Env where
  gs : List T
  sl : List (Option Sv)
  deriving Inhabited
def Env.at (ρ : Env) : Root → Option T
  | .g j => ρ.gs[j]?
  | .s i => match ρ.sl[i]? with
    | some (some (.loc t)) => some t
    | _ => none
def Env.put (ρ : Env) (r : Root) (t : T) : Env := match r with
  | .g j => ⟨ρ.gs.set j t, ρ.sl⟩
  | .s i => ⟨ρ.gs, ρ.sl.set i (some (.loc t))⟩
theorem Env.at_s {ρ : Env} {i : Nat} {t : T} : ρ.at (.s i) = some t ↔ ρ.sl[i]? = some (some (.loc t)) := by
  show (match ρ.sl[i]? with | some (some (.loc t)) => some t | _ => none) = some t ↔ _
  split
  · rename_i t' e; rw [e]; simp
  · rename_i h
    constructor
    · intro q; cases q
    · intro q; exact absurd q (h t)
theorem Env.at_put {ρ : Env} {r : Root} {t t0 : T} (h : ρ.at r = some t0) : (ρ.put r t).at r = some t := by
  cases r with
  | g j =>
    show (ρ.gs.set j t)[j]? = some t
    have : j < ρ.gs.length := (List.getElem?_eq_some_iff.mp (show ρ.gs[j]? = some t0 from h)).1
    simp [this]
  | s i =>
    rw [Env.at_s] at h ⊢
    have : i < ρ.sl.length := (List.getElem?_eq_some_iff.mp h).1
    show (ρ.sl.set i (some (.loc t)))[i]? = _
    simp [this]
theorem Env.at_put_ne {ρ : Env} {r r' : Root} {t : T} (h : r' ≠ r) : (ρ.put r t).at r' = ρ.at r' := by
  cases r with
  | g j =>
    cases r' with
    | g j' =>
      have : j ≠ j' := fun e => h (by rw [e])
      show (ρ.gs.set j t)[j']? = ρ.gs[j']?
      simp [List.getElem?_set_ne this]
    | s i' => rfl
  | s i =>
    cases r' with
    | g j' => rfl
    | s i' =>
      have : i ≠ i' := fun e => h (by rw [e])
      show (match (ρ.sl.set i (some (.loc t)))[i']? with | some (some (.loc t)) => some t | _ => none) = _
      rw [List.getElem?_set_ne this]
      rfl
theorem Env.put_gl {ρ : Env} {r : Root} {t : T} : (ρ.put r t).gs.length = ρ.gs.length := by cases r <;> simp [Env.put]
theorem Env.put_sl {ρ : Env} {r : Root} {t : T} : (ρ.put r t).sl.length = ρ.sl.length := by cases r <;> simp [Env.put]
theorem Env.put_par {ρ : Env} {r : Root} {t t0 : T} (h : ρ.at r = some t0) {i j : Nat} : (ρ.put r t).sl[i]? = some (some (.par j)) ↔ ρ.sl[i]? = some (some (.par j)) := by
  cases r with
  | g k => rfl
  | s k =>
    show (ρ.sl.set k (some (.loc t)))[i]? = _ ↔ _
    by_cases e : k = i
    · subst e
      rw [Env.at_s] at h
      have : k < ρ.sl.length := (List.getElem?_eq_some_iff.mp h).1
      rw [List.getElem?_set_self this, h]
      simp
    · rw [List.getElem?_set_ne e]
/-- the value at a root -/
def RootV (vs : List V) (σ : L2.St) : Root → V → Prop
  | .g j, v => vs[j]? = some v
  | .s i, v => σ[i]? = some (some v)
theorem RootV.inj {vs : List V} {σ : L2.St} {r : Root} {v w : V} (h : RootV vs σ r v) (h' : RootV vs σ r w) : v = w := by
  cases r with
  | g j => exact Option.some.inj ((show vs[j]? = some v from h).symm.trans h')
  | s i => exact Option.some.inj (Option.some.inj ((show σ[i]? = some (some v) from h).symm.trans h'))
/-- the owned addresses -/
def Fp (vs : List V) (σ : L2.St) (ρ : Env) (a : Addr) : Prop := ∃ r d, ρ.at r = some ⟨true, d⟩ ∧ RootV vs σ r (.ref a)
structure ER (K : PySem.W.Frag) (vs : List V) (σ : L2.St) (F H : Hp) (ρ : Env) : Prop where
  sub : Sub F H
  gl : ρ.gs.length = vs.length
  sl : ρ.sl.length = σ.length
  par : ∀ (i j : Nat), ρ.sl[i]? = some (some (.par j)) → ∃ v, vs[j]? = some v ∧ σ[i]? = some (some v)
  rel : ∀ (r : Root) (t : T), ρ.at r = some t → ∃ v, RootV vs σ r v ∧ TRel K F H v t
  ap : ∀ (r r' : Root) (d d' : D) (a : Addr), ρ.at r = some ⟨true, d⟩ → ρ.at r' = some ⟨true, d'⟩ → RootV vs σ r (.ref a) → RootV vs σ r' (.ref a) → r = r'
structure Step (F H : Hp) (P : Addr → Prop) (F' H' : Hp) (P' : Addr → Prop) : Prop where
  le : Le F F'
  sub : Sub F' H'
  keep : ∀ a o, H a = some o → F a = none → ¬ P a → H' a = some o
  new : ∀ a, F' a ≠ none → F a ≠ none ∨ P a ∨ H a = none
  own : ∀ a, P' a → P a ∨ H a = none
section
variable {K : PySem.W.Frag} {vs : List V} {σ : L2.St} {F F' F1 F2 H H' H1 H2 : Hp} {P P' P1 P2 : Addr → Prop} {ρ : Env} {a p : Addr} {d : D} {t t0 t1 : T} {r : Root} {v : V} {o : HO}
theorem Step.refl (h : Sub F H) : Step F H P F H P := ⟨.refl F, h, fun _ _ e _ _ => e, fun _ e => .inl e, fun _ e => .inl e⟩
theorem Step.trans (s : Step F H P F1 H1 P1) (s' : Step F1 H1 P1 F2 H2 P2) : Step F H P F2 H2 P2 := by
  have out : ∀ a o, H a = some o → F a = none → ¬ P a → F1 a = none ∧ ¬ P1 a := fun a o e1 e2 e3 => by
    refine ⟨?_, fun q => ?_⟩
    · cases z : F1 a with
      | none => rfl
      | some o1 =>
        rcases s.new a (by rw [z]; exact fun q => nomatch q) with q | q | q
        · exact absurd e2 q
        · exact absurd q e3
        · rw [e1] at q; cases q
    · rcases s.own a q with q | q
      · exact e3 q
      · rw [e1] at q; cases q
  refine ⟨s.le.trans s'.le, s'.sub, fun a o e1 e2 e3 => ?_, fun a e => ?_, fun a e => ?_⟩
  · obtain ⟨f1, n1⟩ := out a o e1 e2 e3
    exact s'.keep a o (s.keep a o e1 e2 e3) f1 n1
  · rcases s'.new a e with q | q | q
    · exact s.new a q
    · rcases s.own a q with q | q
      · exact .inr (.inl q)
      · exact .inr (.inr q)
    · cases z : H a with
      | none => exact .inr (.inr rfl)
      | some o =>
        by_cases hF : F a = none
        · by_cases hP : P a
          · exact .inr (.inl hP)
          · rw [s.keep a o z hF hP] at q; cases q
        · exact .inl hF
  · rcases s'.own a e with q | q
    · exact s.own a q
    · cases z : H a with
      | none => exact .inr rfl
      | some o =>
        by_cases hF : F a = none
        · by_cases hP : P a
          · exact .inl hP
          · rw [s.keep a o z hF hP] at q; cases q
        · cases f : F a with
          | none => exact absurd f hF
          | some u =>
            obtain ⟨u', e', _⟩ := s.le a u f
            rw [s.sub a u' e'] at q; cases q
theorem Step.mono {Q : Addr → Prop} (s : Step F H P F' H' P') (h : ∀ a, Q a → P' a) : Step F H P F' H' Q := ⟨s.le, s.sub, s.keep, s.new, fun a q => s.own a (h a q)⟩
/-- a temporary owned object is as it was -/
theorem Step.temp (s : Step F H P F' H' P') (e : H a = some o) (hF : F a = none) (hP : ¬ P a) : H' a = some o ∧ F' a = none ∧ ¬ P' a := by
  refine ⟨s.keep a o e hF hP, ?_, fun q => ?_⟩
  · cases z : F' a with
    | none => rfl
    | some o1 =>
      rcases s.new a (by rw [z]; exact fun q => nomatch q) with q | q | q
      · exact absurd hF q
      · exact absurd q hP
      · rw [e] at q; cases q
  · rcases s.own a q with q | q
    · exact hP q
    · rw [e] at q; cases q
/-- a new frozen object -/
theorem Step.newF (h : Sub F H) (n : H p = none) : Step F H P (upd F p o) (upd H p o) P :=
  ⟨Le.upd (h.none n), h.upd2, fun a u e _ _ => by rw [upd_ne (ne_of_none e n)]; exact e, fun a e => by
    by_cases q : a = p
    · subst q; exact .inr (.inr n)
    · rw [upd_ne q] at e; exact .inl e, fun a q => .inl q⟩
/-- a new object of ours, not frozen -/
theorem Step.newO (h : Sub F H) (n : H p = none) : Step F H P F (upd H p o) P :=
  ⟨.refl F, fun a u e => by rw [upd_ne (ne_of_none (h a u e) n)]; exact h a u e, fun a u e _ _ => by rw [upd_ne (ne_of_none e n)]; exact e, fun a e => .inl e, fun a q => .inl q⟩
/-- an owned object is written -/
theorem Step.write (h : Sub F H) (hF : F p = none) (hP : P p) : Step F H P F (upd H p o) P :=
  ⟨.refl F, fun a u e => by rw [upd_ne (ne_of_none e hF)]; exact h a u e, fun a u e _ np => by
    by_cases q : a = p
    · subst q; exact absurd hP np
    · rw [upd_ne q]; exact e, fun a e => .inl e, fun a q => .inl q⟩
/-- what stands at an owned or unknown place is frozen -/
theorem Step.freeze (h : Sub F H) (e : H p = some o) (hF : F p = none) (hP : P p) (hQ : ∀ a, P' a → P a) : Step F H P (upd F p o) H P' :=
  ⟨Le.upd hF, fun a u q => by
    by_cases z : a = p
    · subst z; rw [upd_same] at q; cases q; exact e
    · rw [upd_ne z] at q; exact h a u q, fun a u e' _ _ => e', fun a q => by
    by_cases z : a = p
    · subst z; exact .inr (.inl hP)
    · rw [upd_ne z] at q; exact .inl q, fun a q => .inl (hQ a q)⟩

theorem TRel.le (h : TRel K F H v t) (l : Le F F') (e : t.o = true → ∀ a, v = .ref a → H' a = H a ∧ F' a = none) : TRel K F' H' v t := by
  cases h with
  | fz h => exact .fz (Rep.le l h)
  | ow hF h => obtain ⟨e1, e2⟩ := e rfl _ rfl; exact .ow e2 (h.le l e1)
theorem ER.lift (E : ER K vs σ F H ρ) (hs : Sub F' H') (l : Le F F') (h : ∀ a, Fp vs σ ρ a → H' a = H a ∧ F' a = none) : ER K vs σ F' H' ρ :=
  ⟨hs, E.gl, E.sl, E.par, fun r t e => by
    obtain ⟨v, h1, h2⟩ := E.rel r t e
    refine ⟨v, h1, h2.le l fun ho a ea => h a ⟨r, t.d, ?_, ?_⟩⟩
    · rw [e]; cases t; cases ho; rfl
    · rw [← ea]; exact h1, E.ap⟩
theorem ER.ownAt (E : ER K vs σ F H ρ) (e : ρ.at r = some ⟨true, d⟩) : ∃ a, RootV vs σ r (.ref a) ∧ F a = none ∧ Own K F H a d := by
  obtain ⟨v, h1, h2⟩ := E.rel r _ e
  cases h2 with
  | ow hF h => exact ⟨_, h1, hF, h⟩
theorem ER.fp (E : ER K vs σ F H ρ) (h : Fp vs σ ρ a) : (∃ o, H a = some o) ∧ F a = none := by
  obtain ⟨r, d, e, hv⟩ := h
  obtain ⟨b, hb, hF, ho⟩ := E.ownAt e
  cases hb.inj hv
  exact ⟨ho.ex, hF⟩
theorem ER.newF (E : ER K vs σ F H ρ) (n : H p = none) : ER K vs σ (upd F p o) (upd H p o) ρ :=
  E.lift E.sub.upd2 (Le.upd (E.sub.none n)) fun a h => by
    obtain ⟨⟨u, e⟩, hF⟩ := E.fp h
    have q := ne_of_none e n
    exact ⟨upd_ne q, by rw [upd_ne q]; exact hF⟩
theorem ER.newO (E : ER K vs σ F H ρ) (n : H p = none) : ER K vs σ F (upd H p o) ρ :=
  E.lift (fun a u e => by rw [upd_ne (ne_of_none (E.sub a u e) n)]; exact E.sub a u e) (.refl F) fun a h => by
    obtain ⟨⟨u, e⟩, hF⟩ := E.fp h
    exact ⟨upd_ne (ne_of_none e n), hF⟩
/-- the datum at a root is another one -/
theorem ER.put (E : ER K vs σ F H ρ) (e : ρ.at r = some t0) (hs : Sub F' H') (l : Le F F') (hv : RootV vs σ r v) (ht : TRel K F' H' v t1) (ho : t1.o = true → t0.o = true)
    (h : ∀ r' d a, r' ≠ r → ρ.at r' = some ⟨true, d⟩ → RootV vs σ r' (.ref a) → H' a = H a ∧ F' a = none) : ER K vs σ F' H' (ρ.put r t1) := by
  have own : ∀ {t : T}, t.o = true → t = ⟨true, t.d⟩ := fun {t} q => by cases t; cases q; rfl
  refine ⟨hs, Env.put_gl.trans E.gl, Env.put_sl.trans E.sl, fun i j q => E.par i j ((Env.put_par e).mp q), fun r' t q => ?_, fun r1 r2 d1 d2 a e1 e2 v1 v2 => ?_⟩
  · by_cases z : r' = r
    · subst z
      rw [Env.at_put e] at q
      cases q
      exact ⟨v, hv, ht⟩
    · rw [Env.at_put_ne z] at q
      obtain ⟨w, h1, h2⟩ := E.rel r' t q
      refine ⟨w, h1, h2.le l fun hto a ea => ?_⟩
      subst ea
      exact h r' t.d a z (by rw [q, ← own hto]) h1
  · by_cases z1 : r1 = r
    · by_cases z2 : r2 = r
      · rw [z1, z2]
      · subst z1
        rw [Env.at_put e] at e1
        rw [Env.at_put_ne z2] at e2
        cases e1
        exact E.ap _ _ _ _ a (by rw [e, ← own (ho rfl)]) e2 v1 v2
    · rw [Env.at_put_ne z1] at e1
      by_cases z2 : r2 = r
      · subst z2
        rw [Env.at_put e] at e2
        cases e2
        exact E.ap _ _ _ _ a e1 (by rw [e, ← own (ho rfl)]) v1 v2
      · rw [Env.at_put_ne z2] at e2
        exact E.ap _ _ _ _ a e1 e2 v1 v2
theorem fp_put (e : ρ.at r = some t0) (ho : t1.o = true → t0.o = true) (h : Fp vs σ (ρ.put r t1) a) : Fp vs σ ρ a := by
  obtain ⟨r', d, q, hv⟩ := h
  by_cases z : r' = r
  · subst z
    rw [Env.at_put e] at q
    cases q
    exact ⟨r', t0.d, by rw [e]; cases t0; cases ho rfl; rfl, hv⟩
  · rw [Env.at_put_ne z] at q
    exact ⟨r', d, q, hv⟩
/-- a root is frozen -/
theorem ER.freeze (E : ER K vs σ F H ρ) (e : ρ.at r = some ⟨true, d⟩) : ∃ a o, RootV vs σ r (.ref a) ∧ H a = some o ∧ F a = none ∧ ER K vs σ (upd F a o) H (ρ.put r (fz d)) ∧ Step F H (Fp vs σ ρ) (upd F a o) H (Fp vs σ (ρ.put r (fz d))) ∧ Rep K (upd F a o) (.ref a) d := by
  obtain ⟨a, hv, hF, ho⟩ := E.ownAt e
  obtain ⟨o, eo⟩ := ho.ex
  have hr := ho.freeze hF eo
  have hsub : Sub (upd F a o) H := fun b u q => by
    by_cases z : b = a
    · subst z; rw [upd_same] at q; cases q; exact eo
    · rw [upd_ne z] at q; exact E.sub b u q
  refine ⟨a, o, hv, eo, hF, E.put e hsub (Le.upd hF) hv (.fz hr) (fun q => by cases q) fun r' d' b z e' hb => ⟨rfl, ?_⟩, Step.freeze E.sub eo hF ⟨r, d, e, hv⟩ fun b q => fp_put e (fun q => by cases q) q, hr⟩
  have hba : b ≠ a := fun q => z (E.ap r' r _ _ a e' e (q ▸ hb) hv)
  rw [upd_ne hba]
  exact (E.fp ⟨r', d', e', hb⟩).2
/-- the object at a root is written -/
theorem ER.write {d' : D} (E : ER K vs σ F H ρ) (e : ρ.at r = some ⟨true, d⟩) (hv : RootV vs σ r (.ref a)) (ho : Own K F (upd H a o) a d') :
    ER K vs σ F (upd H a o) (ρ.put r (ow d')) ∧ Step F H (Fp vs σ ρ) F (upd H a o) (Fp vs σ (ρ.put r (ow d'))) := by
  obtain ⟨b, hb, hF, _⟩ := E.ownAt e
  cases hb.inj hv
  refine ⟨E.put e (fun c u q => by rw [upd_ne (ne_of_none q hF)]; exact E.sub c u q) (.refl F) hv (.ow hF ho) (fun _ => rfl) fun r' d1 c z e' hc => ?_, ?_⟩
  · have hca : c ≠ a := fun q => z (E.ap r' r _ _ a e' e (q ▸ hc) hv)
    exact ⟨upd_ne hca, (E.fp ⟨r', d1, e', hc⟩).2⟩
  · exact (Step.write E.sub hF ⟨r, d, e, hv⟩).mono fun c q => fp_put e (fun _ => rfl) q
end
end MP
end

section
set_option maxHeartbeats 2000000
/-! Results, handles, what an expression's reading must show. -/
namespace MP
open PySem PySem.Spec PyProof.Rows L2

inductive Rs (α : Type) where
  | ok (a : α) (ρ : Env)
  | exc (C : String) (fs : List (String × D)) (ρ : Env)
  | bad
def Rs.bind {α β : Type} (x : Rs α) (f : α → Env → Rs β) : Rs β := match x with
  | .ok a ρ => f a ρ
  | .exc C fs ρ => .exc C fs ρ
  | .bad => .bad
@[simp] theorem Rs.bind_ok {α β : Type} (a : α) (ρ : Env) (f : α → Env → Rs β) : (Rs.ok a ρ).bind f = f a ρ := rfl
@[simp] theorem Rs.bind_bad {α β : Type} (f : α → Env → Rs β) : (Rs.bad : Rs α).bind f = .bad := rfl
@[simp] theorem Rs.bind_exc {α β : Type} (C : String) (fs : List (String × D)) (ρ : Env) (f : α → Env → Rs β) : (Rs.exc C fs ρ : Rs α).bind f = .exc C fs ρ := rfl
/-- a value, or the object at a root, read when it is needed -/
inductive Hnd where
  | val (t : T)
  | rt (r : Root)
  deriving Inhabited
def Hnd.look (ρ : Env) : Hnd → Option T
  | .val t => some t
  | .rt r => ρ.at r
@[simp] theorem Hnd.look_val (ρ : Env) (t : T) : (Hnd.val t).look ρ = some t := rfl
@[simp] theorem Hnd.look_rt (ρ : Env) (r : Root) : (Hnd.rt r).look ρ = ρ.at r := rfl

section
variable (K : PySem.W.Frag) (vs : List V) (σ : L2.St)
inductive HR (F H : Hp) (ρ : Env) : V → Hnd → Prop
  | val {v t} : TRel K F H v t → (t.o = true → ∀ a, v = .ref a → ¬ Fp vs σ ρ a) → HR F H ρ v (.val t)
  | rt {v r} : RootV vs σ r v → HR F H ρ v (.rt r)
def HN (H : Hp) (P : Addr → Prop) (v : V) : Hnd → Prop
  | .val t => t.o = true → ∀ a, v = .ref a → P a ∨ H a = none
  | .rt _ => True
/-- how an exception lies -/
inductive ExV (F H : Hp) (C : String) : List (String × D) → Value → Option Addr → Prop
  | own {d fvs fs} : H d = some (.xd fvs) → RepFs K F fvs fs → ExV F H C fs (.ref (He.ga K (Str.ofString C))) (some d)
  | bare : ExV F H C [] (.ref (He.ga K (Str.ofString C))) none
/-- what must be shown of an expression's result -/
def PH (W : WX) (F H : Hp) (P : Addr → Prop) (Q : V → Hp → Prop) : Rs Hnd → Prop
  | .ok h ρ' => ∀ F' H' v, Step F H P F' H' (Fp vs σ ρ') → ER K vs σ F' H' ρ' → HR K vs σ F' H' ρ' v h → HN H P v h → Q v H'
  | .exc C fs ρ' => ∀ F' H' cls d, Step F H P F' H' (Fp vs σ ρ') → ER K vs σ F' H' ρ' → ExV K F' H' C fs cls d → W cls d σ H'
  | .bad => False
/-- .. of a test -/
def PB (W : WX) (F H : Hp) (P : Addr → Prop) (Q : Bool → Hp → Prop) : Rs Bool → Prop
  | .ok b ρ' => ∀ F' H', Step F H P F' H' (Fp vs σ ρ') → ER K vs σ F' H' ρ' → Q b H'
  | .exc C fs ρ' => ∀ F' H' cls d, Step F H P F' H' (Fp vs σ ρ') → ER K vs σ F' H' ρ' → ExV K F' H' C fs cls d → W cls d σ H'
  | .bad => False
/-- several values: no owned address twice -/
inductive HRs (F H : Hp) (ρ : Env) : List V → List Hnd → Prop
  | nil : HRs F H ρ [] []
  | cons {v h ws hs} : HR K vs σ F H ρ v h → HRs F H ρ ws hs → (∀ t a, h = .val t → t.o = true → v = .ref a → ∀ w t', (w, Hnd.val t') ∈ ws.zip hs → t'.o = true → w ≠ .ref a) → HRs F H ρ (v :: ws) (h :: hs)
def HNs (H : Hp) (P : Addr → Prop) (ws : List V) (hs : List Hnd) : Prop := ∀ w h, (w, h) ∈ ws.zip hs → HN H P w h
/-- .. of an argument list -/
def PA' (W : WX) (F H : Hp) (P : Addr → Prop) (Q : List V → Hp → Prop) : Rs (List Hnd) → Prop
  | .ok hs ρ' => ∀ F' H' ws, Step F H P F' H' (Fp vs σ ρ') → ER K vs σ F' H' ρ' → HRs K vs σ F' H' ρ' ws hs → HNs H P ws hs → Q ws H'
  | .exc C fs ρ' => ∀ F' H' cls d, Step F H P F' H' (Fp vs σ ρ') → ER K vs σ F' H' ρ' → ExV K F' H' C fs cls d → W cls d σ H'
  | .bad => False
end

section
variable {K : PySem.W.Frag} {vs : List V} {σ : L2.St} {W : WX} {F H F1 H1 F2 H2 : Hp} {P P1 P2 : Addr → Prop} {ρ ρ1 ρ2 : Env} {v : V} {h : Hnd} {t : T} {Q : V → Hp → Prop}
theorem Step.none_of (s : Step F H P F1 H1 P1) {a : Addr} (h : P1 a ∨ H1 a = none) : P a ∨ H a = none := by
  rcases h with h | h
  · exact s.own a h
  · cases z : H a with
    | none => exact .inr rfl
    | some o =>
      by_cases hF : F a = none
      · by_cases hP : P a
        · exact .inl hP
        · rw [s.keep a o z hF hP] at h; cases h
      · cases f : F a with
        | none => exact absurd f hF
        | some u =>
          obtain ⟨u', e', _⟩ := s.le a u f
          rw [s.sub a u' e'] at h; cases h
theorem HN.step (s : Step F H P F1 H1 P1) (n : HN H1 P1 v h) : HN H P v h := by
  cases h with
  | val t => exact fun ho a e => s.none_of (n ho a e)
  | rt r => trivial
theorem PH.step {r : Rs Hnd} (p : PH K vs σ W F H P Q r) (s : Step F H P F1 H1 P1) : PH K vs σ W F1 H1 P1 Q r := by
  cases r with
  | ok h ρ' => exact fun F' H' v st er hr hn => p F' H' v (s.trans st) er hr (hn.step s)
  | exc C fs ρ' => exact fun F' H' cls d st er x => p F' H' cls d (s.trans st) er x
  | bad => exact p
theorem PB.step {Q : Bool → Hp → Prop} {r : Rs Bool} (p : PB K vs σ W F H P Q r) (s : Step F H P F1 H1 P1) : PB K vs σ W F1 H1 P1 Q r := by
  cases r with
  | ok h ρ' => exact fun F' H' st er => p F' H' (s.trans st) er
  | exc C fs ρ' => exact fun F' H' cls d st er x => p F' H' cls d (s.trans st) er x
  | bad => exact p
theorem PA'.step {Q : List V → Hp → Prop} {r : Rs (List Hnd)} (p : PA' K vs σ W F H P Q r) (s : Step F H P F1 H1 P1) : PA' K vs σ W F1 H1 P1 Q r := by
  cases r with
  | ok hs ρ' => exact fun F' H' ws st er hr hn => p F' H' ws (s.trans st) er hr fun w h m => (hn w h m).step s
  | exc C fs ρ' => exact fun F' H' cls d st er x => p F' H' cls d (s.trans st) er x
  | bad => exact p
/-- a value that waits -/
theorem HR.step (hh : HR K vs σ F1 H1 ρ1 v h) (s : Step F1 H1 (Fp vs σ ρ1) F2 H2 (Fp vs σ ρ2)) : HR K vs σ F2 H2 ρ2 v h := by
  cases hh with
  | rt h => exact .rt h
  | val h n =>
    cases h with
    | fz h => exact .val (.fz (Rep.le s.le h)) fun q => by cases q
    | @ow a d hF h =>
      obtain ⟨o, e⟩ := h.ex
      obtain ⟨e2, f2, p2⟩ := s.temp e hF (n rfl a rfl)
      refine .val (.ow f2 (h.le s.le (by rw [e2, e]))) fun _ b eb => ?_
      cases eb
      exact p2
/-- the datum that a handle means -/
theorem HR.look (hh : HR K vs σ F H ρ v h) (E : ER K vs σ F H ρ) (e : h.look ρ = some t) : TRel K F H v t := by
  cases hh with
  | val h _ => cases e; exact h
  | rt h =>
    obtain ⟨w, h1, h2⟩ := E.rel _ _ e
    cases h1.inj h
    exact h2
end

/-! ### expressions -/
def wE (X : Cx) (e : Expr) : TE := fun σ H Q => ∀ (pins : List (Addr × Obj)) (s : Shared), Inv X pins σ H s → wpAny (model X.prog X.w) X.A (eval e X.env) (EP X pins σ Q) X.xe s
def wT (X : Cx) (e : Expr) : TT := fun σ H Q => ∀ (pins : List (Addr × Obj)) (s : Shared), Inv X pins σ H s → wpAny (model X.prog X.w) X.A (isTrue e X.env (eval e X.env)) (TP X pins σ Q) X.xe s
def wA (X : Cx) (es : List Expr) : TA := fun σ H Q => ∀ (pos : Pos) (pins : List (Addr × Obj)) (s : Shared), Inv X pins σ H s → wpAny (model X.prog X.w) X.A (spliced (backTo pos (starEach es X.env))) (AP X pins σ Q) X.xe s
theorem pe_w (X : Cx) (e : Expr) : PE X e (wE X e) := ⟨fun pins s σ H Q I h => h pins s I⟩
theorem pt_w (X : Cx) (e : Expr) : PT X e (wT X e) := ⟨fun pins s σ H Q I h => h pins s I⟩
theorem pa_w (X : Cx) (es : List Expr) : PA X es (wA X es) := ⟨fun pos pins s σ H Q I h => h pos pins s I⟩
theorem _root_.L2.PE.w {X : Cx} {e : Expr} {t : TE} (h : PE X e t) {σ : L2.St} {H : Hp} {Q : VK} (q : t σ H Q) : wE X e σ H Q := fun pins s I => h.run pins s σ H Q I q
theorem _root_.L2.PT.w {X : Cx} {e : Expr} {t : TT} (h : PT X e t) {σ : L2.St} {H : Hp} {Q : Bool → Hp → Prop} (q : t σ H Q) : wT X e σ H Q := fun pins s I => h.run pins s σ H Q I q
theorem _root_.L2.PA.w {X : Cx} {es : List Expr} {t : TA} (h : PA X es t) {σ : L2.St} {H : Hp} {Q : List V → Hp → Prop} (q : t σ H Q) : wA X es σ H Q := fun pos pins s I => h.run pos pins s σ H Q I q

structure SE (X : Cx) (W : WX) (vs : List V) (e : Expr) (f : Env → Rs Hnd) : Prop where
  run : ∀ (σ : L2.St) (F H : Hp) (ρ : Env) (Q : VK), ER X.K vs σ F H ρ → PH X.K vs σ W F H (Fp vs σ ρ) Q (f ρ) → wE X e σ H Q
instance {X : Cx} {W : WX} {vs : List V} {e : Expr} {f : Env → Rs Hnd} : CoeFun (SE X W vs e f) (fun _ => ∀ (σ : L2.St) (F H : Hp) (ρ : Env) (Q : VK), ER X.K vs σ F H ρ → PH X.K vs σ W F H (Fp vs σ ρ) Q (f ρ) → wE X e σ H Q) := ⟨SE.run⟩
structure ST (X : Cx) (W : WX) (vs : List V) (e : Expr) (f : Env → Rs Bool) : Prop where
  run : ∀ (σ : L2.St) (F H : Hp) (ρ : Env) (Q : Bool → Hp → Prop), ER X.K vs σ F H ρ → PB X.K vs σ W F H (Fp vs σ ρ) Q (f ρ) → wT X e σ H Q
instance {X : Cx} {W : WX} {vs : List V} {e : Expr} {f : Env → Rs Bool} : CoeFun (ST X W vs e f) (fun _ => ∀ (σ : L2.St) (F H : Hp) (ρ : Env) (Q : Bool → Hp → Prop), ER X.K vs σ F H ρ → PB X.K vs σ W F H (Fp vs σ ρ) Q (f ρ) → wT X e σ H Q) := ⟨ST.run⟩
structure SA (X : Cx) (W : WX) (vs : List V) (es : List Expr) (f : Env → Rs (List Hnd)) : Prop where
  run : ∀ (σ : L2.St) (F H : Hp) (ρ : Env) (Q : List V → Hp → Prop), ER X.K vs σ F H ρ → PA' X.K vs σ W F H (Fp vs σ ρ) Q (f ρ) → wA X es σ H Q
instance {X : Cx} {W : WX} {vs : List V} {es : List Expr} {f : Env → Rs (List Hnd)} : CoeFun (SA X W vs es f) (fun _ => ∀ (σ : L2.St) (F H : Hp) (ρ : Env) (Q : List V → Hp → Prop), ER X.K vs σ F H ρ → PA' X.K vs σ W F H (Fp vs σ ρ) Q (f ρ) → wA X es σ H Q) := ⟨SA.run⟩

section
variable {X : Cx} {W : WX} {vs : List V} {σ : L2.St} {F H : Hp} {ρ : Env} {e : Expr} {f : Env → Rs Hnd} {P : Addr → Prop}
/-- run e, then go on; F0, H0, P0: where the whole began -/
theorem SE.go {k : Hnd → Env → Rs Hnd} {F0 H0 : Hp} {P0 : Addr → Prop} {Q Q2 : VK} (h : SE X W vs e f) (s0 : Step F0 H0 P0 F H (Fp vs σ ρ)) (E : ER X.K vs σ F H ρ) (p : PH X.K vs σ W F0 H0 P0 Q ((f ρ).bind k))
    (hk : ∀ F1 H1 ρ1 v hd, Step F0 H0 P0 F1 H1 (Fp vs σ ρ1) → Step F H (Fp vs σ ρ) F1 H1 (Fp vs σ ρ1) → ER X.K vs σ F1 H1 ρ1 → HR X.K vs σ F1 H1 ρ1 v hd → HN H (Fp vs σ ρ) v hd → PH X.K vs σ W F0 H0 P0 Q (k hd ρ1) → Q2 v H1) : wE X e σ H Q2 := by
  refine h σ F H ρ Q2 E ?_
  cases z : f ρ with
  | bad => rw [z] at p; exact p
  | exc C fs ρ' => rw [z] at p; exact fun F' H' cls d st er x => p F' H' cls d (s0.trans st) er x
  | ok hd ρ1 =>
    rw [z] at p
    exact fun F1 H1 v st er hr hn => hk F1 H1 ρ1 v hd (s0.trans st) st er hr hn p
end

/-! ### builtin operations: data to datum; new objects alone -/
structure Grow (F H F' H' : Hp) : Prop where
  le : Le F F'
  sub : Sub F' H'
  keep : ∀ a o, H a = some o → H' a = some o
  new : ∀ a, F' a ≠ none → F a ≠ none ∨ H a = none
section
variable {K : PySem.W.Frag} {vs : List V} {σ : L2.St} {W : WX} {F H F' H' : Hp} {P : Addr → Prop} {ρ : Env} {v : V} {t : T} {Q : V → Hp → Prop} {p : Addr} {o : HO}
theorem Grow.refl (h : Sub F H) : Grow F H F H := ⟨.refl F, h, fun _ _ e => e, fun _ e => .inl e⟩
theorem Grow.step (g : Grow F H F' H') : Step F H P F' H' P := ⟨g.le, g.sub, fun a o e _ _ => g.keep a o e, fun a e => (g.new a e).elim .inl fun q => .inr (.inr q), fun a q => .inl q⟩
theorem Grow.er (g : Grow F H F' H') (E : ER K vs σ F H ρ) : ER K vs σ F' H' ρ := E.lift g.sub g.le fun a h => by
  obtain ⟨⟨u, e⟩, hF⟩ := E.fp h
  refine ⟨by rw [g.keep a u e, e], ?_⟩
  cases z : F' a with
  | none => rfl
  | some w =>
    rcases g.new a (by rw [z]; exact fun q => nomatch q) with q | q
    · exact absurd hF q
    · rw [e] at q; cases q
theorem Grow.newF (h : Sub F H) (n : H p = none) : Grow F H (upd F p o) (upd H p o) :=
  ⟨Le.upd (h.none n), h.upd2, fun a u e => by rw [upd_ne (ne_of_none e n)]; exact e, fun a e => by
    by_cases q : a = p
    · subst q; exact .inr n
    · rw [upd_ne q] at e; exact .inl e⟩
theorem Grow.newO (h : Sub F H) (n : H p = none) : Grow F H F (upd H p o) :=
  ⟨.refl F, fun a u e => by rw [upd_ne (ne_of_none (h a u e) n)]; exact h a u e, fun a u e => by rw [upd_ne (ne_of_none e n)]; exact e, fun a e => .inl e⟩
/-- what a builtin's result must show -/
def RP (K : PySem.W.Frag) (F H : Hp) (Q : V → Hp → Prop) (res : T) : Prop :=
  ∀ F' H' v, Grow F H F' H' → TRel K F' H' v res → (res.o = true → ∀ a, v = .ref a → H a = none) → Q v H'
theorem RP.of_ph (E : ER K vs σ F H ρ) (p : PH K vs σ W F H (Fp vs σ ρ) Q (.ok (.val t) ρ)) : RP K F H Q t := fun F' H' v g r n =>
  p F' H' v g.step (g.er E) (.val r fun ho a e q => by
    obtain ⟨⟨u, eu⟩, _⟩ := E.fp q
    rw [n ho a e] at eu; cases eu) fun ho a e => .inr (n ho a e)
theorem RP.imm {d : D} (h : Sub F H) (r : Rep K F v d) (q : RP K F H Q (fz d)) : Q v H := q F H v (.refl h) (.fz r) fun z => by cases z
theorem RP.lst {ws : List V} {ds : List D} (h : Sub F H) (r : Reps K F ws ds) (q : RP K F H Q (ow (.lst ds))) : ∀ p, H p = none → Q (.ref p) (upd H p (.lst ws)) := fun p n =>
  q F _ _ (.newO h n) (.ow (h.none n) (.lst upd_same r)) fun _ a e => by cases e; exact n
theorem RP.tup {ws : List V} {ds : List D} (h : Sub F H) (r : Reps K F ws ds) (q : RP K F H Q (fz (.tup ds))) : ∀ p, H p = none → Q (.ref p) (upd H p (.tup ws)) := fun p n =>
  q _ _ _ (.newF h n) (.fz (.tup (.inl (.inl upd_same)) (Reps.le (Le.upd (h.none n)) r))) fun z => by cases z
theorem RP.dctK (h : Sub F H) (q : RP K F H Q (ow (.dct []))) : ∀ p, H p = none → Q (.ref p) (upd H p (.dK [])) := fun p n =>
  q F _ _ (.newO h n) (.ow (h.none n) (.dK upd_same .nil)) fun _ a e => by cases e; exact n
end
/-! ### views -/
section
variable {K : PySem.W.Frag} {F H : Hp} {v : V} {b : Bool}
theorem TRel.int {i : Int} (h : TRel K F H v ⟨b, .int i⟩) : v = .int i := by
  cases h with
  | fz h => cases h; rfl
  | ow _ h => cases h
theorem TRel.str {i : Str} (h : TRel K F H v ⟨b, .str i⟩) : v = .str i := by
  cases h with
  | fz h => cases h; rfl
  | ow _ h => cases h
theorem TRel.bl {i : Bool} (h : TRel K F H v ⟨b, .bl i⟩) : v = .bl i := by
  cases h with
  | fz h => cases h; rfl
  | ow _ h => cases h
theorem TRel.non (h : TRel K F H v ⟨b, .non⟩) : v = .non := by
  cases h with
  | fz h => cases h; rfl
  | ow _ h => cases h
theorem TRel.ty {n : String} (h : TRel K F H v ⟨b, .ty n⟩) : v = .ty n := by
  cases h with
  | fz h => cases h; rfl
  | ow _ h => cases h
theorem TRel.lst {ds : List D} (hs : Sub F H) (h : TRel K F H v ⟨b, .lst ds⟩) : ∃ a ws, v = .ref a ∧ H a = some (.lst ws) ∧ Reps K F ws ds := by
  cases h with
  | fz h => cases h with
    | lst h r => exact ⟨_, _, rfl, hs _ _ h, r⟩
  | ow _ h => cases h with
    | lst h r => exact ⟨_, _, rfl, h, r⟩
theorem TRel.scr {ns : List Int} (hs : Sub F H) (h : TRel K F H v ⟨b, .scr ns⟩) : ∃ a, v = .ref a ∧ SqL K H a (ns.map V.int) := by
  cases h with
  | fz h => cases h with
    | scr h => exact ⟨_, rfl, SqL.sub h hs⟩
  | ow _ h => cases h
theorem TRel.tup {ds : List D} (hs : Sub F H) (h : TRel K F H v ⟨b, .tup ds⟩) : ∃ a ws, v = .ref a ∧ SqT K H a ws ∧ Reps K F ws ds := by
  cases h with
  | fz h => cases h with
    | tup h r => exact ⟨_, _, rfl, SqT.sub h hs, r⟩
  | ow _ h => cases h
theorem TRel.dct {ds : List (D × D)} (hs : Sub F H) (h : TRel K F H v ⟨b, .dct ds⟩) : ∃ a kvs, v = .ref a ∧ Rd H a (.dK kvs) ∧ RepKs K F kvs ds := by
  cases h with
  | fz h => cases h with
    | dK h r => exact ⟨_, _, rfl, Rd.sub h hs, r⟩
  | ow _ h => cases h with
    | dK h r => exact ⟨_, _, rfl, .inl h, r⟩
theorem TRel.ins {C : String} {fs : List (String × D)} (hs : Sub F H) (h : TRel K F H v ⟨b, .ins C fs⟩) : ∃ a dx fvs, v = .ref a ∧ H a = some (.ins (He.ga K (Str.ofString C)) dx fvs) ∧ RepFs K F fvs fs := by
  cases h with
  | fz h => cases h with
    | ins h r => exact ⟨_, _, _, rfl, hs _ _ h, r⟩
  | ow _ h => cases h with
    | ins h r => exact ⟨_, _, _, rfl, h, r⟩
end
end MP
end

section
set_option maxHeartbeats 2000000
/-! Operators over data. -/
namespace MP
open PySem PySem.Spec PyProof.Rows L2

/-! ### plain data -/
mutual
def D.py : D → Option PyData
  | .non => some .none
  | .bl b => some (.bool b)
  | .int i => some (.int i)
  | .str x => some (.str x)
  | .tup xs => (D.pyL xs).map .tuple
  | .lst xs => (D.pyL xs).map .list
  | .ty _ => none
  | .dct _ => none
  | .ins _ _ => none
  | .obj _ => none
  | .scr _ => none
  | .exc _ _ => none
termination_by structural d => d
def D.pyL : List D → Option (List PyData)
  | [] => some []
  | d :: r => match D.py d with
    | some p => (D.pyL r).map (p :: ·)
    | none => none
termination_by structural d => d
end
section
variable {K : PySem.W.Frag} {F H : Hp}
mutual
theorem Rep.dp (hs : Sub F H) : ∀ {v : V} {d : D} {p : PyData}, Rep K F v d → d.py = some p → Dp K H v p
  | _, _, _, .non, e => by simp [D.py] at e; subst e; exact .non
  | _, _, _, .bl b, e => by simp [D.py] at e; subst e; exact .bl b
  | _, _, _, .int b, e => by simp [D.py] at e; subst e; exact .int b
  | _, _, _, .str b, e => by simp [D.py] at e; subst e; exact .str b
  | _, _, _, .ty b, e => by simp [D.py] at e
  | _, _, _, .tup h r, e => by
    simp [D.py] at e
    obtain ⟨ps, e1, rfl⟩ := e
    exact .tup (SqT.sub h hs) (Reps.dp hs r e1)
  | _, _, _, .lst h r, e => by
    simp [D.py] at e
    obtain ⟨ps, e1, rfl⟩ := e
    exact .lst (SqL.of (hs _ _ h)) (Reps.dp hs r e1)
  | _, _, _, .scr _, e => by simp [D.py] at e
  | _, _, _, .dK _ _, e => by simp [D.py] at e
  | _, _, _, .ins _ _, e => by simp [D.py] at e
  | _, _, _, .obj _, e => by simp [D.py] at e
  | _, _, _, .exc0 _, e => by simp [D.py] at e
  | _, _, _, .exc _ _ _, e => by simp [D.py] at e
theorem Reps.dp (hs : Sub F H) : ∀ {vs : List V} {ds : List D} {ps : List PyData}, Reps K F vs ds → D.pyL ds = some ps → DpAll K H vs ps
  | _, _, _, .nil, e => by simp [D.pyL] at e; subst e; exact .nil
  | _, d :: ds, _, .cons h r, e => by
    cases z : D.py d with
    | none => simp [D.pyL, z] at e
    | some p =>
      simp [D.pyL, z] at e
      obtain ⟨ps, e1, rfl⟩ := e
      exact .cons (Rep.dp hs h z) (Reps.dp hs r e1)
end
theorem TRel.dp {v : V} {t : T} {p : PyData} (hs : Sub F H) (h : TRel K F H v t) (e : t.d.py = some p) : Dp K H v p := by
  cases h with
  | fz h => exact h.dp hs e
  | ow _ h =>
    cases h with
    | lst h r =>
      simp [D.py] at e
      obtain ⟨ps, e1, rfl⟩ := e
      exact .lst (SqL.of h) (Reps.dp hs r e1)
    | _ => simp [D.py] at e
end
def shapedD (p : PyData) : Bool := SeqAt.shaped p
def eqD (x y : D) : Option Bool := match x.py, y.py with
  | some p, some q => if SeqAt.shaped p && SeqAt.shaped q then some (PyData.eqv p q) else none
  | _, _ => none

/-! ### arithmetic -/
abbrev MulOk (i j : Int) : Prop := ((-(2 ^ 64) < i ∧ i < 2 ^ 64) ∨ (-(2 ^ 64) < j ∧ j < 2 ^ 64)) ∨ i.natAbs.log2 + j.natAbs.log2 < 1000000
abbrev DivOk (j : Int) : Prop := 0 < j ∧ j.natAbs.log2 < 9000
abbrev PowOk (i j : Int) : Prop := 0 ≤ j ∧ j ≤ 1000000 ∧ i.natAbs < 2 ^ 64
def addD : D → D → Option T
  | .int i, .int j => some (fz (.int (i + j)))
  | .int i, .bl b => some (fz (.int (i + PyProof.Rows.b2i b)))
  | .str x, .str y => if x.length + y.length ≤ sizeLine then some (fz (.str (x ++ y))) else none
  | .lst xs, .lst ys => if xs.length + ys.length ≤ sizeLine then some (ow (.lst (xs ++ ys))) else none
  | .tup xs, .tup ys => if xs.length + ys.length ≤ sizeLine then some (fz (.tup (xs ++ ys))) else none
  | _, _ => none
def subD : D → D → Option T
  | .int i, .int j => some (fz (.int (i - j)))
  | _, _ => none
def mulD : D → D → Option T
  | .int i, .int j => if MulOk i j then some (fz (.int (i * j))) else none
  | .lst xs, .int k => if -(2 ^ 63) ≤ k ∧ k < 2 ^ 63 ∧ xs.length * k.toNat ≤ sizeLine then some (ow (.lst (List.replicate k.toNat xs).flatten)) else none
  | _, _ => none
def fdivD : D → D → Option T
  | .int i, .int j => if DivOk j then some (fz (.int (i / j))) else none
  | _, _ => none
def modD : D → D → Option T
  | .int i, .int j => if 0 < j then some (fz (.int (i % j))) else none
  | _, _ => none
def powD : D → D → Option T
  | .int i, .int j => if PowOk i j then some (fz (.int (i ^ j.toNat))) else none
  | _, _ => none
def shlD : D → D → Option T
  | .int i, .int j => if PowOk i j then some (fz (.int (i * 2 ^ j.toNat))) else none
  | _, _ => none
def shrD : D → D → Option T
  | .int i, .int j => if 0 ≤ j then some (fz (.int (i / 2 ^ j.toNat))) else none
  | _, _ => none
def binD (op : Operator) : D → D → Option T := match op with
  | .Add => addD
  | .Sub => subD
  | .Mult => mulD
  | .FloorDiv => fdivD
  | .Mod => modD
  | .Pow => powD
  | .LShift => shlD
  | .RShift => shrD
  | _ => fun _ _ => none

/-- a rule of two values, by its datum -/
def rB (K : PySem.W.Frag) (g : D → D → Option T) : R2 := fun x y H Q => ∃ F t u res, Sub F H ∧ TRel K F H x t ∧ TRel K F H y u ∧ g t.d u.d = some res ∧ RP K F H Q res
section
variable {X : Cx}
theorem rb_of {f : Value → Value → Sem Value} {g : D → D → Option T} (h : ∀ (F H : Hp) (x y : V) (t u : T) (res : T) (Q : VK), Sub F H → TRel X.K F H x t → TRel X.K F H y u → g t.d u.d = some res → RP X.K F H Q res →
    ∃ r : R2, OpR X f r ∧ r x y H Q) : OpR X f (rB X.K g) := by
  rintro pins s σ H x y v u Q I rx ry ⟨F, t, w, res, hs, hx, hy, e, q⟩
  obtain ⟨r, hr, hq⟩ := h F H x y t w res Q hs hx hy e q
  exact hr pins s σ H x y v u Q I rx ry hq
theorem TRel.repT {K : PySem.W.Frag} {F H : Hp} {v : V} {b : Bool} {ds : List D} (h : TRel K F H v ⟨b, .tup ds⟩) : Rep K F v (.tup ds) := by
  cases h with
  | fz h => exact h
  | ow _ h => cases h
theorem op_addD : OpR X (binaryOp .Add) (rB X.K addD) := rb_of fun F H x y ⟨b, t⟩ ⟨c, u⟩ res Q hs hx hy e q => by
  dsimp only at e
  unfold addD at e
  split at e
  · cases e; cases hx.int; cases hy.int
    exact ⟨_, op_add, _, _, rfl, rfl, RP.imm hs (.int _) q⟩
  · cases e; cases hx.int; cases hy.bl
    exact ⟨_, op_add_ib, _, _, rfl, rfl, RP.imm hs (.int _) q⟩
  · split at e
    · rename_i hl
      cases e; cases hx.str; cases hy.str
      exact ⟨_, op_add_str, _, _, rfl, rfl, hl, RP.imm hs (.str _) q⟩
    · cases e
  · split at e
    · rename_i hl
      cases e
      obtain ⟨a, vs, rfl, h1, r1⟩ := hx.lst hs
      obtain ⟨a', ws, rfl, h2, r2⟩ := hy.lst hs
      exact ⟨_, op_cat, _, _, _, _, rfl, rfl, h1, h2, by rw [r1.length, r2.length]; exact hl, RP.lst hs (r1.append r2) q⟩
    · cases e
  · split at e
    · rename_i hl
      cases e
      have px := hx.repT
      have py := hy.repT
      obtain ⟨a, vs, rfl, h1, r1⟩ := hx.tup hs
      obtain ⟨a', ws, rfl, h2, r2⟩ := hy.tup hs
      refine ⟨_, op_catA, _, _, _, _, rfl, rfl, h1, h2, by rw [r1.length, r2.length]; exact hl, fun z => ?_, fun _ z => ?_, fun _ _ => RP.tup hs (r1.append r2) q⟩
      · subst z
        cases r1
        exact RP.imm hs py q
      · subst z
        cases r2
        rw [List.append_nil] at q
        exact RP.imm hs px q
    · cases e
  · cases e
theorem op_subD : OpR X (binaryOp .Sub) (rB X.K subD) := rb_of fun F H x y ⟨b, t⟩ ⟨c, u⟩ res Q hs hx hy e q => by
  dsimp only at e
  unfold subD at e
  split at e
  · cases e; cases hx.int; cases hy.int
    exact ⟨_, op_sub, _, _, rfl, rfl, RP.imm hs (.int _) q⟩
  · cases e
theorem mulOk_ok {i j : Int} (h : MulOk i j) : IntMulOk i j := by
  rcases h with h | h
  · exact CMul.ok h
  · exact CMulW.ok h
theorem op_mulA : OpR X (binaryOp .Mult) (rI MulOk fun i j => .int (i * j)) := opI fun _ _ _ _ _ _ _ hc q => mul_int q (mulOk_ok hc)
theorem op_mulD : OpR X (binaryOp .Mult) (rB X.K mulD) := rb_of fun F H x y ⟨b, t⟩ ⟨c, u⟩ res Q hs hx hy e q => by
  dsimp only at e
  unfold mulD at e
  split at e
  · split at e
    · rename_i hc
      cases e; cases hx.int; cases hy.int
      exact ⟨_, op_mulA, _, _, rfl, rfl, hc, RP.imm hs (.int _) q⟩
    · cases e
  · split at e
    · rename_i hc
      cases e; cases hy.int
      obtain ⟨a, vs, rfl, h1, r1⟩ := hx.lst hs
      exact ⟨_, op_rep, _, _, _, rfl, rfl, h1, hc.1, hc.2.1, by rw [r1.length]; exact hc.2.2, RP.lst hs (r1.rep _) q⟩
    · cases e
  · cases e
theorem op_fdivD : OpR X (binaryOp .FloorDiv) (rB X.K fdivD) := rb_of fun F H x y ⟨b, t⟩ ⟨c, u⟩ res Q hs hx hy e q => by
  dsimp only at e
  unfold fdivD at e
  split at e
  · split at e
    · rename_i hc
      cases e; cases hx.int; cases hy.int
      exact ⟨_, op_fdivW, _, _, rfl, rfl, hc, RP.imm hs (.int _) q⟩
    · cases e
  · cases e
theorem op_modD : OpR X (binaryOp .Mod) (rB X.K modD) := rb_of fun F H x y ⟨b, t⟩ ⟨c, u⟩ res Q hs hx hy e q => by
  dsimp only at e
  unfold modD at e
  split at e
  · split at e
    · rename_i hc
      cases e; cases hx.int; cases hy.int
      exact ⟨_, op_mod, _, _, rfl, rfl, hc, RP.imm hs (.int _) q⟩
    · cases e
  · cases e
theorem op_powD : OpR X (binaryOp .Pow) (rB X.K powD) := rb_of fun F H x y ⟨b, t⟩ ⟨c, u⟩ res Q hs hx hy e q => by
  dsimp only at e
  unfold powD at e
  split at e
  · split at e
    · rename_i hc
      cases e; cases hx.int; cases hy.int
      exact ⟨_, op_pow, _, _, rfl, rfl, hc, RP.imm hs (.int _) q⟩
    · cases e
  · cases e
theorem op_shlD : OpR X (binaryOp .LShift) (rB X.K shlD) := rb_of fun F H x y ⟨b, t⟩ ⟨c, u⟩ res Q hs hx hy e q => by
  dsimp only at e
  unfold shlD at e
  split at e
  · split at e
    · rename_i hc
      cases e; cases hx.int; cases hy.int
      exact ⟨_, op_shl, _, _, rfl, rfl, hc, RP.imm hs (.int _) q⟩
    · cases e
  · cases e
theorem op_shrD : OpR X (binaryOp .RShift) (rB X.K shrD) := rb_of fun F H x y ⟨b, t⟩ ⟨c, u⟩ res Q hs hx hy e q => by
  dsimp only at e
  unfold shrD at e
  split at e
  · split at e
    · rename_i hc
      cases e; cases hx.int; cases hy.int
      exact ⟨_, op_shr, _, _, rfl, rfl, hc, RP.imm hs (.int _) q⟩
    · cases e
  · cases e
theorem op_binD (op : Operator) : OpR X (binaryOp op) (rB X.K (binD op)) := by
  cases op with
  | Add => exact op_addD
  | Sub => exact op_subD
  | Mult => exact op_mulD
  | FloorDiv => exact op_fdivD
  | Mod => exact op_modD
  | Pow => exact op_powD
  | LShift => exact op_shlD
  | RShift => exact op_shrD
  | _ =>
    rintro pins s σ H x y v u Q I rx ry ⟨F, t, w, res, hs, hx, hy, e, q⟩
    cases e
/-! ### unary -/
def negD : D → Option T
  | .int i => some (fz (.int (-i)))
  | _ => none
def rU1 (K : PySem.W.Frag) (g : D → Option T) : V → Hp → VK → Prop := fun x H Q => ∃ F t res, Sub F H ∧ TRel K F H x t ∧ g t.d = some res ∧ RP K F H Q res
theorem un_negD : UnR X (unaryOp .USub) (rU1 X.K negD) := by
  rintro pins s σ H x v Q I rx ⟨F, ⟨b, t⟩, res, hs, hx, e, q⟩
  dsimp only at e
  unfold negD at e
  split at e
  · cases e; cases hx.int
    exact un_neg pins s σ H _ v Q I rx ⟨_, rfl, RP.imm hs (.int _) q⟩
  · cases e
end
/-! ### comparisons -/
def strIn (x y : Str) : Bool := if x.cps.size = 1 then decide (x.cps.getD 0 0 ∈ y.cps.toList) else !(Builtin.Str.occurrences y x 0 y.length 1).isEmpty
def D.flat : D → Bool
  | .non | .bl _ | .int _ | .str _ => true
  | _ => false
/-- == of flat data -/
def eqF : D → D → Bool
  | .non, .non => true
  | .bl a, .bl b => a == b
  | .bl a, .int b => (if a then 1 else 0) == b
  | .int a, .bl b => a == (if b then 1 else 0)
  | .int a, .int b => a == b
  | .str a, .str b => a == b
  | _, _ => false
def inSeq (x : D) (ys : List D) : Option Bool :=
  if x.flat && ys.all D.flat then some (ys.any fun y => eqF y x) else
  match x.py, D.pyL ys with
  | some p, some qs => if SeqAt.shaped p && SeqAt.shaped (.list qs) then some (qs.any fun q => PyData.eqv q p) else none
  | _, _ => none
def D.key : D → Option Key
  | .int i => some (.inl i)
  | .str x => some (.inr x)
  | _ => none
def dget (kvs : List (D × D)) (k : D) : Option D := (kvs.find? fun p => decide (p.1 = k)).map (·.2)
def inD (x y : D) : Option Bool := match x, y with
  | .str a, .str b => some (strIn a b)
  | x, .lst ys => inSeq x ys
  | x, .tup ys => if x.flat && ys.all D.flat then some (ys.any fun y => eqF y x) else none
  | x, .dct kvs => if x.key.isSome then some (dget kvs x).isSome else none
  | _, _ => none
def isD (x y : D) : Option Bool := match y with
  | .non => some (decide (x = .non))
  | _ => none
def ordD (f : Int → Int → Bool) (g : List Nat → List Nat → Bool) (x y : D) : Option Bool := match x, y with
  | .int i, .int j => some (f i j)
  | .str a, .str b => some (g a.cps.toList b.cps.toList)
  | _, _ => none
def cmpD (op : CmpOp) (x y : D) : Option Bool := match op with
  | .Eq => eqD x y
  | .NotEq => (eqD x y).map (!·)
  | .Lt => ordD (fun i j => decide (i < j)) (fun a b => decide (a < b)) x y
  | .LtE => ordD (fun i j => decide (i ≤ j)) (fun a b => !decide (b < a)) x y
  | .Gt => ordD (fun i j => decide (j < i)) (fun a b => decide (b < a)) x y
  | .GtE => ordD (fun i j => decide (j ≤ i)) (fun a b => !decide (a < b)) x y
  | .In => inD x y
  | .NotIn => (inD x y).map (!·)
  | .Is => isD x y
  | .IsNot => (isD x y).map (!·)
end MP
end

section
set_option maxHeartbeats 4000000
/-! Comparisons of data. -/
namespace MP
open PySem PySem.Spec PyProof.Rows L2

section
variable {K : PySem.W.Frag} {F H : Hp} {v : V}
theorem Rep.flat {d : D} (h : Rep K F v d) (f : d.flat = true) : flatV v = true ∧ ∀ {w : V} {e : D}, Rep K F w e → e.flat = true → eqV v w = eqF d e := by
  cases h with
  | non => exact ⟨rfl, fun {w e} r f => by cases r <;> first | rfl | (simp [D.flat] at f)⟩
  | bl b => exact ⟨rfl, fun {w e} r f => by cases r <;> first | rfl | (simp [D.flat] at f)⟩
  | int b => exact ⟨rfl, fun {w e} r f => by cases r <;> first | rfl | (simp [D.flat] at f)⟩
  | str b => exact ⟨rfl, fun {w e} r f => by cases r <;> first | rfl | (simp [D.flat] at f)⟩
  | _ => simp [D.flat] at f
theorem TRel.rep_flat {t : T} (h : TRel K F H v t) (f : t.d.flat = true) : Rep K F v t.d := by
  cases h with
  | fz h => exact h
  | ow _ h => cases h <;> simp [D.flat] at f
theorem Reps.flat : ∀ {ws : List V} {ds : List D}, Reps K F ws ds → ds.all D.flat = true → ws.all flatV = true
  | _, _, .nil, _ => rfl
  | _, _, .cons h r, f => by
    rw [List.all_cons, Bool.and_eq_true] at f ⊢
    exact ⟨(h.flat f.1).1, Reps.flat r f.2⟩
theorem Reps.any_eq {x : V} {d : D} (hx : Rep K F x d) (fx : d.flat = true) : ∀ {ws : List V} {ds : List D}, Reps K F ws ds → ds.all D.flat = true → inV x ws = ds.any fun y => eqF y d
  | _, _, .nil, _ => rfl
  | w :: ws, e :: ds, .cons h r, f => by
    rw [List.all_cons, Bool.and_eq_true] at f
    show (eqV w x || inV x ws) = _
    rw [List.any_cons, (h.flat f.1).2 hx fx, Reps.any_eq hx fx r f.2]
theorem pyL_of {p : PyData} {ds : List D} (h : (D.lst ds).py = some p) : ∃ ps, D.pyL ds = some ps ∧ p = .list ps := by
  simp [D.py] at h
  obtain ⟨ps, e, rfl⟩ := h
  exact ⟨ps, e, rfl⟩
theorem key_kD {k : Key} : (kD k).key = some k := by cases k <;> rfl
theorem key_iff {d : D} {k : Key} : d.key = some k ↔ d = kD k := by
  constructor
  · intro h
    cases d with
    | int i => cases h; rfl
    | str x => cases h; rfl
    | _ => cases h
  · intro h; subst h; exact key_kD
theorem kD_inj {k l : Key} (h : kD k = kD l) : k = l := by
  have := congrArg D.key h
  rw [key_kD, key_kD] at this
  exact Option.some.inj this
theorem Rep.key {d : D} {k : Key} (h : Rep K F v d) (e : d.key = some k) : v = kV k := by
  rw [key_iff] at e
  subst e
  cases k with
  | inl i => cases h; rfl
  | inr x => cases h; rfl
theorem TRel.key {t : T} {k : Key} (h : TRel K F H v t) (e : t.d.key = some k) : v = kV k := by
  cases h with
  | fz h => exact h.key e
  | ow _ h => cases h <;> cases e
theorem rep_kV (k : Key) : Rep K F (kV k) (kD k) := by
  cases k with
  | inl i => exact .int i
  | inr x => exact .str x
/-- a dict's entries by keys -/
theorem RepKs.get : ∀ {kvs : List (Key × V)} {ds : List (D × D)} (k : Key), RepKs K F kvs ds → (valV kvs k = none ∧ dget ds (kD k) = none) ∨ ∃ w d, valV kvs k = some w ∧ dget ds (kD k) = some d ∧ Rep K F w d
  | _, _, k, .nil => .inl ⟨rfl, rfl⟩
  | (k', w) :: kvs, (_, d) :: ds, k, .cons h r => by
    by_cases e : k' = k
    · subst e
      exact .inr ⟨w, d, valV_pos rfl, by simp [dget], h⟩
    · have e2 : ¬ kD k' = kD k := fun q => e (kD_inj q)
      rcases RepKs.get k r with ⟨h1, h2⟩ | ⟨w', d', h1, h2, h3⟩
      · exact .inl ⟨by rw [valV_neg e]; exact h1, by simpa [dget, List.find?_cons, e2] using h2⟩
      · exact .inr ⟨w', d', by rw [valV_neg e]; exact h1, by simpa [dget, List.find?_cons, e2] using h2, h3⟩
end

def rC (K : PySem.W.Frag) (g : D → D → Option Bool) : R2 := fun x y H Q => ∃ F t u b, Sub F H ∧ TRel K F H x t ∧ TRel K F H y u ∧ g t.d u.d = some b ∧ Q (.bl b) H
section
variable {X : Cx}
theorem rc_of {f : Value → Value → Sem Value} {g : D → D → Option Bool} (h : ∀ (F H : Hp) (x y : V) (t u : T) (b : Bool) (Q : VK), Sub F H → TRel X.K F H x t → TRel X.K F H y u → g t.d u.d = some b → Q (.bl b) H →
    ∃ r : R2, OpR X f r ∧ r x y H Q) : OpR X f (rC X.K g) := by
  rintro pins s σ H x y v u Q I rx ry ⟨F, t, w, b, hs, hx, hy, e, q⟩
  obtain ⟨r, hr, hq⟩ := h F H x y t w b Q hs hx hy e q
  exact hr pins s σ H x y v u Q I rx ry hq
theorem eqD_of {x y : D} {b : Bool} (h : eqD x y = some b) : ∃ p q, x.py = some p ∧ y.py = some q ∧ SeqAt.shaped p = true ∧ SeqAt.shaped q = true ∧ b = PyData.eqv p q := by
  unfold eqD at h
  split at h
  · rename_i p q hp hq
    split at h
    · rename_i hc
      rw [Bool.and_eq_true] at hc
      cases h
      exact ⟨p, q, hp, hq, hc.1, hc.2, rfl⟩
    · cases h
  · cases h
theorem op_eqDD (hu : X.A.units + 64 < cLine) : OpR X (compareOp .Eq) (rC X.K eqD) := rc_of fun F H x y t u b Q hs hx hy e q => by
  obtain ⟨p, p', e1, e2, s1, s2, rfl⟩ := eqD_of e
  exact ⟨_, op_eqD hu, p, p', hx.dp hs e1, hy.dp hs e2, s1, s2, q⟩
theorem op_neDD (hu : X.A.units + 64 < cLine) : OpR X (compareOp .NotEq) (rC X.K fun x y => (eqD x y).map (!·)) := rc_of fun F H x y t u b Q hs hx hy e q => by
  obtain ⟨b', e', rfl⟩ := Option.map_eq_some_iff.mp e
  obtain ⟨p, p', e1, e2, s1, s2, rfl⟩ := eqD_of e'
  exact ⟨_, op_neD hu, p, p', hx.dp hs e1, hy.dp hs e2, s1, s2, q⟩
theorem op_ordD {op : CmpOp} {f : Int → Int → Bool} {g : List Nat → List Nat → Bool} (h1 : OpR X (compareOp op) (rI0 fun i j => .bl (f i j)))
    (h2 : OpR X (compareOp op) (fun x y H Q => ∃ i j, x = .str i ∧ y = .str j ∧ Q (.bl (g i.cps.toList j.cps.toList)) H)) : OpR X (compareOp op) (rC X.K (ordD f g)) := rc_of fun F H x y ⟨bt, t⟩ ⟨bu, u⟩ b Q hs hx hy e q => by
  dsimp only at e
  unfold ordD at e
  split at e
  · cases e; cases hx.int; cases hy.int
    exact ⟨_, h1, _, _, rfl, rfl, q⟩
  · cases e; cases hx.str; cases hy.str
    exact ⟨_, h2, _, _, rfl, rfl, q⟩
  · cases e
theorem op_isDD : OpR X (compareOp .Is) (rC X.K isD) := rc_of fun F H x y ⟨bt, t⟩ ⟨bu, u⟩ b Q hs hx hy e q => by
  dsimp only at e
  unfold isD at e
  split at e
  · cases e; cases hy.non
    refine ⟨_, op_isN, rfl, ?_⟩
    have : decide (x = .non) = decide (t = .non) := by
      cases hx with
      | fz h => cases h <;> rfl
      | ow _ h => cases h <;> rfl
    rw [this]; exact q
  · cases e
theorem op_isnotDD : OpR X (compareOp .IsNot) (rC X.K fun x y => (isD x y).map (!·)) := rc_of fun F H x y ⟨bt, t⟩ ⟨bu, u⟩ b Q hs hx hy e q => by
  dsimp only at e
  obtain ⟨b', e', rfl⟩ := Option.map_eq_some_iff.mp e
  unfold isD at e'
  split at e'
  · cases e'; cases hy.non
    refine ⟨_, op_notN, rfl, ?_⟩
    have : decide (x = .non) = decide (t = .non) := by
      cases hx with
      | fz h => cases h <;> rfl
      | ow _ h => cases h <;> rfl
    rw [this]; exact q
  · cases e'
theorem one_sign {x : Str} (h : x.cps.size = 1) : x = ⟨#[x.cps.getD 0 0]⟩ := by
  obtain ⟨a⟩ := x
  have h : a.size = 1 := h
  obtain ⟨l⟩ := a
  cases l with
  | nil => simp at h
  | cons y r => cases r with
    | nil => rfl
    | cons z r => simp at h
theorem op_strIn : OpR X (compareOp .In) (fun x y H Q => ∃ i j, x = .str i ∧ y = .str j ∧ Q (.bl (strIn i j)) H) := by
  rintro pins s σ H x y v u Q I rx ry ⟨i, j, rfl, rfl, q⟩
  unfold strIn at q
  split at q
  · rename_i h1
    have e := one_sign h1
    exact op_in_sign pins s σ H _ _ v u Q I rx ry ⟨_, j, by rw [← e], rfl, q⟩
  · exact op_in_str pins s σ H _ _ v u Q I rx ry ⟨i, j, rfl, rfl, q⟩
theorem op_strNotIn : OpR X (compareOp .NotIn) (fun x y H Q => ∃ i j, x = .str i ∧ y = .str j ∧ Q (.bl (!strIn i j)) H) := by
  rintro pins s σ H x y v u Q I rx ry ⟨i, j, rfl, rfl, q⟩
  unfold strIn at q
  split at q
  · rename_i h1
    have e := one_sign h1
    exact op_notIn_sign pins s σ H _ _ v u Q I rx ry ⟨_, j, by rw [← e], rfl, q⟩
  · exact op_notIn_str pins s σ H _ _ v u Q I rx ry ⟨i, j, rfl, rfl, q⟩
/-- in a dict -/
theorem op_inK (hu : X.A.units + 1 < cLine) : OpR X (compareOp .In) (fun x y H Q => ∃ a k kvs, y = .ref a ∧ x = kV k ∧ Rd H a (.dK kvs) ∧ Q (.bl (valV kvs k).isSome) H) := by
  rintro pins s σ H x y v u Q I rx ry ⟨a, k, kvs, rfl, rfl, h, q⟩
  cases ry
  exact d_in hu I (.inl ⟨kvs, k, h, rfl, rfl⟩) rx fun s3 I3 => ⟨.bl _, H, I3, rfl, q⟩
theorem op_notInK (hu : X.A.units + 1 < cLine) : OpR X (compareOp .NotIn) (fun x y H Q => ∃ a k kvs, y = .ref a ∧ x = kV k ∧ Rd H a (.dK kvs) ∧ Q (.bl (!(valV kvs k).isSome)) H) := by
  rintro pins s σ H x y v u Q I rx ry ⟨a, k, kvs, rfl, rfl, h, q⟩
  cases ry
  exact d_notIn hu I (.inl ⟨kvs, k, h, rfl, rfl⟩) rx fun s3 I3 => ⟨.bl _, H, I3, rfl, q⟩
theorem op_inG {op : CmpOp} {n : Bool → Bool} (hn : n = id ∨ n = (!·)) (hS : OpR X (compareOp op) (fun x y H Q => ∃ i j, x = .str i ∧ y = .str j ∧ Q (.bl (n (strIn i j))) H))
    (hQ : OpR X (compareOp op) (fun x y H Q => ∃ p xs, y = .ref p ∧ (SqL X.K H p xs ∨ SqT X.K H p xs) ∧ flatV x = true ∧ xs.all flatV = true ∧ Q (.bl (n (inV x xs))) H))
    (hD : OpR X (compareOp op) (fun x y H Q => ∃ d ds, Dp X.K H x d ∧ Dp X.K H y (.list ds) ∧ SeqAt.shaped d = true ∧ SeqAt.shaped (.list ds) = true ∧ Q (.bl (n (ds.any fun z => PyData.eqv z d))) H))
    (hK : OpR X (compareOp op) (fun x y H Q => ∃ a k kvs, y = .ref a ∧ x = kV k ∧ Rd H a (.dK kvs) ∧ Q (.bl (n (valV kvs k).isSome)) H)) :
    OpR X (compareOp op) (rC X.K fun x y => (inD x y).map n) := rc_of fun F H x y ⟨bt, t⟩ ⟨bu, u⟩ b Q hs hx hy e q => by
  dsimp only at e
  obtain ⟨b', e', rfl⟩ := Option.map_eq_some_iff.mp e
  unfold inD at e'
  split at e'
  · cases e'; cases hx.str; cases hy.str
    exact ⟨_, hS, _, _, rfl, rfl, q⟩
  · rename_i ys
    unfold inSeq at e'
    split at e'
    · rename_i hf
      rw [Bool.and_eq_true] at hf
      cases e'
      obtain ⟨a, ws, rfl, h1, r1⟩ := hy.lst hs
      have rx := hx.rep_flat hf.1
      exact ⟨_, hQ, _, _, rfl, .inl (SqL.of h1), (rx.flat hf.1).1, r1.flat hf.2, by rw [r1.any_eq rx hf.1 hf.2]; exact q⟩
    · split at e'
      · rename_i p qs hp hqs
        split at e'
        · rename_i hc
          rw [Bool.and_eq_true] at hc
          cases e'
          exact ⟨_, hD, p, qs, hx.dp hs hp, hy.dp hs (by simp [D.py, hqs]), hc.1, hc.2, q⟩
        · cases e'
      · cases e'
  · split at e'
    · rename_i hf
      rw [Bool.and_eq_true] at hf
      cases e'
      obtain ⟨a, ws, rfl, h1, r1⟩ := hy.tup hs
      have rx := hx.rep_flat hf.1
      exact ⟨_, hQ, _, _, rfl, .inr h1, (rx.flat hf.1).1, r1.flat hf.2, by rw [r1.any_eq rx hf.1 hf.2]; exact q⟩
    · cases e'
  · split at e'
    · rename_i hk
      obtain ⟨k, ek⟩ := Option.isSome_iff_exists.mp hk
      cases e'
      obtain ⟨a, kvs, rfl, h1, r1⟩ := hy.dct hs
      have ex := hx.key ek
      have et := key_iff.mp ek
      refine ⟨_, hK, a, k, kvs, rfl, ex, h1, ?_⟩
      rcases r1.get k with ⟨g1, g2⟩ | ⟨w, d, g1, g2, _⟩
      · rw [et, g2] at q; rw [g1]; exact q
      · rw [et, g2] at q; rw [g1]; exact q
    · cases e'
  · cases e'
theorem op_inDD (hu : X.A.units + 65 < cLine) : OpR X (compareOp .In) (rC X.K inD) := by
  have h := op_inG (X := X) (op := .In) (n := id) (.inl rfl) op_strIn op_in_seq (op_inD hu) (op_inK (by omega))
  rintro pins s σ H x y v u Q I rx ry ⟨F, t, w, b, hs, hx, hy, e, q⟩
  exact h pins s σ H x y v u Q I rx ry ⟨F, t, w, b, hs, hx, hy, by show Option.map id (inD t.d w.d) = some b; rw [e]; rfl, q⟩
theorem op_notInDD (hu : X.A.units + 65 < cLine) : OpR X (compareOp .NotIn) (rC X.K fun x y => (inD x y).map (!·)) :=
  op_inG (X := X) (op := .NotIn) (n := (!·)) (.inr rfl) op_strNotIn op_notIn_seq (op_notInD hu) (op_notInK (by omega))
theorem op_cmpD (hu : X.A.units + 65 < cLine) (op : CmpOp) : OpR X (compareOp op) (rC X.K (cmpD op)) := by
  cases op with
  | Eq => exact op_eqDD (by omega)
  | NotEq => exact op_neDD (by omega)
  | Lt => exact op_ordD (f := fun i j => decide (i < j)) (g := fun a b => decide (a < b)) op_lt op_lt_str
  | LtE => exact op_ordD (f := fun i j => decide (i ≤ j)) (g := fun a b => !decide (b < a)) op_le op_le_str
  | Gt => exact op_ordD (f := fun i j => decide (j < i)) (g := fun a b => decide (b < a)) op_gt op_gt_str
  | GtE => exact op_ordD (f := fun i j => decide (j ≤ i)) (g := fun a b => !decide (a < b)) op_ge op_ge_str
  | In => exact op_inDD hu
  | NotIn => exact op_notInDD hu
  | Is => exact op_isDD
  | IsNot => exact op_isnotDD
end
end MP
end

section
set_option maxHeartbeats 4000000
/-! Expressions: names, constants, operators, tests. -/
namespace MP
open PySem PySem.Spec PyProof.Rows L2

/-! ### what the evaluator does -/
def rdVar (i : Nat) (ρ : Env) : Rs Hnd := match ρ.sl[i]? with
  | some (some (.par j)) => match ρ.gs[j]? with
    | some ⟨false, d⟩ => .ok (.val (fz d)) ρ
    | some ⟨true, _⟩ => .ok (.rt (.g j)) ρ
    | none => .bad
  | some (some (.loc ⟨false, d⟩)) => .ok (.val (fz d)) ρ
  | some (some (.loc ⟨true, _⟩)) => .ok (.rt (.s i)) ρ
  | _ => .bad
def valR (o : Option T) (ρ : Env) : Rs Hnd := match o with
  | some t => .ok (.val t) ρ
  | none => .bad
def blR (o : Option Bool) (ρ : Env) : Rs Bool := match o with
  | some b => .ok b ρ
  | none => .bad
def op1 (g : D → Option T) (x : Hnd) (ρ : Env) : Rs Hnd := match x.look ρ with
  | some t => valR (g t.d) ρ
  | none => .bad
def op2 (g : D → D → Option T) (x y : Hnd) (ρ : Env) : Rs Hnd := match x.look ρ, y.look ρ with
  | some t, some u => valR (g t.d u.d) ρ
  | _, _ => .bad
def cmp2 (g : D → D → Option Bool) (x y : Hnd) (ρ : Env) : Rs Bool := match x.look ρ, y.look ρ with
  | some t, some u => blR (g t.d u.d) ρ
  | _, _ => .bad
def ofB (r : Rs Bool) : Rs Hnd := r.bind fun b ρ => .ok (.val (fz (.bl b))) ρ
/-- the value is shared from now on -/
def frz (h : Hnd) (ρ : Env) : Rs D := match h with
  | .val t => .ok t.d ρ
  | .rt r => match ρ.at r with
    | some t => .ok t.d (ρ.put r (fz t.d))
    | none => .bad
def frzs : List Hnd → Env → Rs (List D)
  | [], ρ => .ok [] ρ
  | h :: hs, ρ => (frz h ρ).bind fun d ρ1 => (frzs hs ρ1).bind fun ds ρ2 => .ok (d :: ds) ρ2

section
variable {K : PySem.W.Frag} {vs : List V} {σ : L2.St} {W : WX} {F F0 F1 F2 H H0 H1 H2 : Hp} {P P0 : Addr → Prop} {ρ ρ1 ρ2 : Env} {v : V} {h : Hnd} {t : T} {d : D} {Q : VK}
/-- a value of a root that is frozen already -/
theorem ER.at_fz (E : ER K vs σ F H ρ) {r : Root} (e : ρ.at r = some ⟨false, d⟩) (hv : RootV vs σ r v) : Rep K F v d := by
  obtain ⟨w, h1, h2⟩ := E.rel r _ e
  cases h1.inj hv
  cases h2 with
  | fz h => exact h
theorem env_put_same {r : Root} (e : ρ.at r = some t) : ρ.put r t = ρ := by
  obtain ⟨gs, sl⟩ := ρ
  cases r with
  | g j =>
    have e : gs[j]? = some t := e
    show (⟨gs.set j t, sl⟩ : Env) = _
    obtain ⟨hj, e⟩ := List.getElem?_eq_some_iff.mp e
    rw [← e, List.set_getElem_self]
  | s i =>
    rw [Env.at_s] at e
    show (⟨gs, sl.set i (some (.loc t))⟩ : Env) = _
    obtain ⟨hj, e⟩ := List.getElem?_eq_some_iff.mp e
    rw [← e, List.set_getElem_self]
theorem frz_ok (s : Step F0 H0 P0 F1 H1 (Fp vs σ ρ1)) (E : ER K vs σ F1 H1 ρ1) (hr : HR K vs σ F1 H1 ρ1 v h) (hn : HN H0 P0 v h) (e : frz h ρ1 = .ok d ρ2) :
    ∃ F2, Step F0 H0 P0 F2 H1 (Fp vs σ ρ2) ∧ ER K vs σ F2 H1 ρ2 ∧ Rep K F2 v d ∧ Le F1 F2 ∧ (∀ a, F2 a ≠ none → F1 a ≠ none ∨ (v = .ref a ∧ (Fp vs σ ρ1 a ∨ ∃ t, h = .val t ∧ t.o = true))) ∧ ∀ a, Fp vs σ ρ2 a → Fp vs σ ρ1 a := by
  cases hr with
  | @val t hr hp =>
    obtain ⟨o, td⟩ := t
    cases e
    cases hr with
    | fz hr => exact ⟨F1, s, E, hr, .refl _, fun a q => .inl q, fun _ q => q⟩
    | @ow a _ hF ho =>
      obtain ⟨u, eu⟩ := ho.ex
      have hnew : P0 a ∨ H0 a = none := hn rfl a rfl
      have hsub : Sub (upd F1 a u) H1 := fun b w q => by
        by_cases z : b = a
        · subst z; rw [upd_same] at q; cases q; exact eu
        · rw [upd_ne z] at q; exact E.sub b w q
      refine ⟨upd F1 a u, ⟨s.le.trans (Le.upd hF), hsub, s.keep, fun b q => ?_, s.own⟩, E.lift hsub (Le.upd hF) fun b hb => ⟨rfl, ?_⟩, ho.freeze hF eu, Le.upd hF, fun b q => ?_, fun _ q => q⟩
      · by_cases z : b = a
        · subst z; exact .inr hnew
        · rw [upd_ne z] at q; exact s.new b q
      · have z : b ≠ a := fun z => hp rfl a rfl (z ▸ hb)
        rw [upd_ne z]
        exact (E.fp hb).2
      · by_cases z : b = a
        · subst z; exact .inr ⟨rfl, .inr ⟨_, rfl, rfl⟩⟩
        · rw [upd_ne z] at q; exact .inl q
  | @rt r hv =>
    replace e : (match ρ1.at r with | some t => Rs.ok t.d (ρ1.put r (fz t.d)) | none => Rs.bad) = Rs.ok d ρ2 := e
    cases z : ρ1.at r with
    | none => rw [z] at e; cases e
    | some t =>
      rw [z] at e
      cases e
      obtain ⟨o, d⟩ := t
      cases o with
      | false =>
        have q : ρ1.put r (fz d) = ρ1 := env_put_same z
        rw [q]
        exact ⟨F1, s, E, E.at_fz z hv, .refl _, fun a q => .inl q, fun _ q => q⟩
      | true =>
        obtain ⟨a, u, hv', eu, hF, E', s', hrep⟩ := E.freeze z
        cases hv'.inj hv
        refine ⟨_, s.trans s', E', hrep, s'.le, fun b q => ?_, fun b q => fp_put z (fun q => by cases q) q⟩
        by_cases hb : b = a
        · subst hb
          have : Fp vs σ ρ1 b := ⟨r, d, z, hv⟩
          exact .inr ⟨rfl, .inl this⟩
        · rw [upd_ne hb] at q; exact .inl q
end

/-! ### readings -/
section
variable {X : Cx} {W : WX} {vs : List V} {a b c e : Expr} {fa fb fc : Env → Rs Hnd} {ta tb : Env → Rs Bool} {pos : Pos}

theorem se_cst {cst : Const} {j : Nat} {d : D} {v : V} (h : PE X (.Constant cst j pos) (tC v)) (r : ∀ F, Rep X.K F v d) : SE X W vs (.Constant cst j pos) (fun ρ => .ok (.val (fz d)) ρ) :=
  ⟨fun σ F H ρ Q E p => h.w (p F H v (.refl E.sub) E (.val (.fz (r F)) fun q => by cases q) fun q => by cases q)⟩
theorem se_int {i : Int} {j : Nat} : SE X W vs (.Constant (.int i) j pos) (fun ρ => .ok (.val (fz (.int i))) ρ) := se_cst pe_int fun _ => .int i
theorem se_str {i : Str} {j : Nat} : SE X W vs (.Constant (.str i) j pos) (fun ρ => .ok (.val (fz (.str i))) ρ) := se_cst pe_str fun _ => .str i
theorem se_bl {i : Bool} {j : Nat} : SE X W vs (.Constant (.bool i) j pos) (fun ρ => .ok (.val (fz (.bl i))) ρ) := se_cst pe_bl fun _ => .bl i
theorem se_non {j : Nat} : SE X W vs (.Constant .none j pos) (fun ρ => .ok (.val (fz .non)) ρ) := se_cst pe_non fun _ => .non
theorem se_var {i : Nat} {x : Str} (hN : X.N[i]? = some x) (hv : Vis X.env.scope x) (hd : (x == ("__debug__" : Str)) = false) (hcd : (x == ("__classdict__" : Str)) = false) : SE X W vs (.Name x pos) (rdVar i) := by
  constructor; intro σ F H ρ Q E p
  unfold rdVar at p
  refine (pe_var hN hv hd hcd).w ?_
  split at p
  · rename_i j ej
    obtain ⟨v, h1, h2⟩ := E.par i j ej
    refine ⟨v, h2, ?_⟩
    split at p
    · rename_i d eg
      exact p F H v (.refl E.sub) E (.val (.fz (E.at_fz (r := .g j) eg h1)) fun q => by cases q) fun q => by cases q
    · rename_i d eg
      exact p F H v (.refl E.sub) E (.rt h1) trivial
    · exact p.elim
  · rename_i d ed
    have er : ρ.at (.s i) = some ⟨false, d⟩ := Env.at_s.mpr ed
    obtain ⟨v, h1, h2⟩ := E.rel _ _ er
    exact ⟨v, h1, p F H v (.refl E.sub) E (.val (.fz (E.at_fz er h1)) fun q => by cases q) fun q => by cases q⟩
  · rename_i d ed
    have er : ρ.at (.s i) = some ⟨true, d⟩ := Env.at_s.mpr ed
    obtain ⟨v, h1, h2⟩ := E.rel _ _ er
    exact ⟨v, h1, p F H v (.refl E.sub) E (.rt h1) trivial⟩
  · exact p.elim
/-- two expressions, one after the other -/
theorem SE.go2 {k : Hnd → Hnd → Env → Rs Hnd} {σ : L2.St} {F0 H0 F H : Hp} {P0 : Addr → Prop} {ρ : Env} {Q : VK} {Q2 : V → V → Hp → Prop} (ha : SE X W vs a fa) (hb : SE X W vs b fb) (s0 : Step F0 H0 P0 F H (Fp vs σ ρ)) (E : ER X.K vs σ F H ρ)
    (p : PH X.K vs σ W F0 H0 P0 Q ((fa ρ).bind fun x ρ1 => (fb ρ1).bind fun y ρ2 => k x y ρ2))
    (hk : ∀ F2 H2 ρ2 v w x y, Step F0 H0 P0 F2 H2 (Fp vs σ ρ2) → ER X.K vs σ F2 H2 ρ2 → HR X.K vs σ F2 H2 ρ2 v x → HR X.K vs σ F2 H2 ρ2 w y → HN H0 P0 v x → HN H0 P0 w y →
      PH X.K vs σ W F0 H0 P0 Q (k x y ρ2) → Q2 v w H2) :
    wE X a σ H (fun v H1 => wE X b σ H1 fun w H2 => Q2 v w H2) := by
  refine ha.go s0 E p fun F1 H1 ρ1 v x s1 t1 E1 r1 n1 p1 => ?_
  refine hb.go s1 E1 p1 fun F2 H2 ρ2 w y s2 t2 E2 r2 n2 p2 => ?_
  exact hk F2 H2 ρ2 v w x y s2 E2 (r1.step t2) r2 (n1.step s0) (n2.step s1) p2
/-- an operation's end -/
theorem ph_valR {K : PySem.W.Frag} {vs : List V} {σ : L2.St} {W : WX} {F0 H0 F H : Hp} {P0 : Addr → Prop} {ρ : Env} {Q : VK} {o : Option T} (s0 : Step F0 H0 P0 F H (Fp vs σ ρ)) (E : ER K vs σ F H ρ) (p : PH K vs σ W F0 H0 P0 Q (valR o ρ)) :
    ∃ t, o = some t ∧ RP K F H Q t := by
  cases o with
  | none => exact p.elim
  | some t => exact ⟨t, rfl, RP.of_ph E (p.step s0)⟩
theorem se_bin {op : Operator} (ha : SE X W vs a fa) (hb : SE X W vs b fb) : SE X W vs (.BinOp a op b pos) (fun ρ => (fa ρ).bind fun x ρ1 => (fb ρ1).bind fun y ρ2 => op2 (binD op) x y ρ2) := by
  constructor; intro σ F H ρ Q E p
  refine (pe_op (op_binD op) (pe_w X a) (pe_w X b)).w ?_
  refine SE.go2 ha hb (.refl E.sub) E p fun F2 H2 ρ2 v w x y s E2 r1 r2 n1 n2 p2 => ?_
  unfold op2 at p2
  split at p2
  · rename_i t u e1 e2
    obtain ⟨res, e3, q⟩ := ph_valR s E2 p2
    exact ⟨F2, t, u, res, E2.sub, r1.look E2 e1, r2.look E2 e2, e3, q⟩
  · exact p2.elim
theorem se_neg (ha : SE X W vs a fa) : SE X W vs (.UnaryOp .USub a pos) (fun ρ => (fa ρ).bind fun x ρ1 => op1 negD x ρ1) := by
  constructor; intro σ F H ρ Q E p
  refine (pe_un un_negD (pe_w X a)).w ?_
  refine ha.go (.refl E.sub) E p fun F1 H1 ρ1 v x s _ E1 r n p1 => ?_
  unfold op1 at p1
  split at p1
  · rename_i t e1
    obtain ⟨res, e3, q⟩ := ph_valR s E1 p1
    exact ⟨F1, t, res, E1.sub, r.look E1 e1, e3, q⟩
  · exact p1.elim
/-! ### tests -/
theorem ST.go {k : Bool → Env → Rs Hnd} {σ : L2.St} {F0 H0 F H : Hp} {P0 : Addr → Prop} {ρ : Env} {Q : VK} {Q2 : Bool → Hp → Prop} (h : ST X W vs e ta) (s0 : Step F0 H0 P0 F H (Fp vs σ ρ)) (E : ER X.K vs σ F H ρ) (p : PH X.K vs σ W F0 H0 P0 Q ((ta ρ).bind k))
    (hk : ∀ F1 H1 ρ1 b, Step F0 H0 P0 F1 H1 (Fp vs σ ρ1) → Step F H (Fp vs σ ρ) F1 H1 (Fp vs σ ρ1) → ER X.K vs σ F1 H1 ρ1 → PH X.K vs σ W F0 H0 P0 Q (k b ρ1) → Q2 b H1) : wT X e σ H Q2 := by
  refine h σ F H ρ Q2 E ?_
  cases z : ta ρ with
  | bad => rw [z] at p; exact p
  | exc C fs ρ' => rw [z] at p; exact fun F' H' cls d st er x => p F' H' cls d (s0.trans st) er x
  | ok hd ρ1 =>
    rw [z] at p
    exact fun F1 H1 st er => hk F1 H1 ρ1 hd (s0.trans st) st er p
/-- the same towards a test -/
theorem ST.goT {k : Bool → Env → Rs Bool} {σ : L2.St} {F0 H0 F H : Hp} {P0 : Addr → Prop} {ρ : Env} {Q Q2 : Bool → Hp → Prop} (h : ST X W vs e ta) (s0 : Step F0 H0 P0 F H (Fp vs σ ρ)) (E : ER X.K vs σ F H ρ) (p : PB X.K vs σ W F0 H0 P0 Q ((ta ρ).bind k))
    (hk : ∀ F1 H1 ρ1 b, Step F0 H0 P0 F1 H1 (Fp vs σ ρ1) → Step F H (Fp vs σ ρ) F1 H1 (Fp vs σ ρ1) → ER X.K vs σ F1 H1 ρ1 → PB X.K vs σ W F0 H0 P0 Q (k b ρ1) → Q2 b H1) : wT X e σ H Q2 := by
  refine h σ F H ρ Q2 E ?_
  cases z : ta ρ with
  | bad => rw [z] at p; exact p
  | exc C fs ρ' => rw [z] at p; exact fun F' H' cls d st er x => p F' H' cls d (s0.trans st) er x
  | ok hd ρ1 =>
    rw [z] at p
    exact fun F1 H1 st er => hk F1 H1 ρ1 hd (s0.trans st) st er p
theorem SE.goT {k : Hnd → Env → Rs Bool} {σ : L2.St} {F0 H0 F H : Hp} {P0 : Addr → Prop} {ρ : Env} {Q : Bool → Hp → Prop} {Q2 : VK} (h : SE X W vs e fa) (s0 : Step F0 H0 P0 F H (Fp vs σ ρ)) (E : ER X.K vs σ F H ρ) (p : PB X.K vs σ W F0 H0 P0 Q ((fa ρ).bind k))
    (hk : ∀ F1 H1 ρ1 v hd, Step F0 H0 P0 F1 H1 (Fp vs σ ρ1) → Step F H (Fp vs σ ρ) F1 H1 (Fp vs σ ρ1) → ER X.K vs σ F1 H1 ρ1 → HR X.K vs σ F1 H1 ρ1 v hd → HN H (Fp vs σ ρ) v hd → PB X.K vs σ W F0 H0 P0 Q (k hd ρ1) → Q2 v H1) : wE X e σ H Q2 := by
  refine h σ F H ρ Q2 E ?_
  cases z : fa ρ with
  | bad => rw [z] at p; exact p
  | exc C fs ρ' => rw [z] at p; exact fun F' H' cls d st er x => p F' H' cls d (s0.trans st) er x
  | ok hd ρ1 =>
    rw [z] at p
    exact fun F1 H1 v st er hr hn => hk F1 H1 ρ1 v hd (s0.trans st) st er hr hn p
theorem SE.go2T {k : Hnd → Hnd → Env → Rs Bool} {σ : L2.St} {F0 H0 F H : Hp} {P0 : Addr → Prop} {ρ : Env} {Q : Bool → Hp → Prop} {Q2 : V → V → Hp → Prop} (ha : SE X W vs a fa) (hb : SE X W vs b fb) (s0 : Step F0 H0 P0 F H (Fp vs σ ρ)) (E : ER X.K vs σ F H ρ)
    (p : PB X.K vs σ W F0 H0 P0 Q ((fa ρ).bind fun x ρ1 => (fb ρ1).bind fun y ρ2 => k x y ρ2))
    (hk : ∀ F2 H2 ρ2 v w x y, Step F0 H0 P0 F2 H2 (Fp vs σ ρ2) → ER X.K vs σ F2 H2 ρ2 → HR X.K vs σ F2 H2 ρ2 v x → HR X.K vs σ F2 H2 ρ2 w y → HN H0 P0 v x → HN H0 P0 w y →
      PB X.K vs σ W F0 H0 P0 Q (k x y ρ2) → Q2 v w H2) :
    wE X a σ H (fun v H1 => wE X b σ H1 fun w H2 => Q2 v w H2) := by
  refine ha.goT s0 E p fun F1 H1 ρ1 v x s1 t1 E1 r1 n1 p1 => ?_
  refine hb.goT s1 E1 p1 fun F2 H2 ρ2 w y s2 t2 E2 r2 n2 p2 => ?_
  exact hk F2 H2 ρ2 v w x y s2 E2 (r1.step t2) r2 (n1.step s0) (n2.step s1) p2
theorem pb_ok {K : PySem.W.Frag} {vs : List V} {σ : L2.St} {W : WX} {F0 H0 F H : Hp} {P0 : Addr → Prop} {ρ : Env} {Q : Bool → Hp → Prop} {o : Option Bool} (s0 : Step F0 H0 P0 F H (Fp vs σ ρ)) (E : ER K vs σ F H ρ) (p : PB K vs σ W F0 H0 P0 Q (blR o ρ)) :
    ∃ b, o = some b ∧ Q b H := by
  cases o with
  | none => exact p.elim
  | some t => exact ⟨t, rfl, p F H s0 E⟩
/-- a test's answer as a value -/
theorem ph_ofB {K : PySem.W.Frag} {vs : List V} {σ : L2.St} {W : WX} {F H : Hp} {P : Addr → Prop} {Q : VK} {r : Rs Bool} (p : PH K vs σ W F H P Q (ofB r)) : PB K vs σ W F H P (fun b H' => Q (.bl b) H') r := by
  cases r with
  | bad => exact p
  | exc C fs ρ' => exact p
  | ok b ρ' => exact fun F' H' st er => p F' H' _ st er (.val (.fz (.bl b)) fun q => by cases q) fun q => by cases q
theorem st_cmp {op : CmpOp} (hu : X.A.units + 65 < cLine) (hm : behindInMarks op b = false) (ha : SE X W vs a fa) (hb : SE X W vs b fb) : ST X W vs (.Compare a [op] [b] pos) (fun ρ => (fa ρ).bind fun x ρ1 => (fb ρ1).bind fun y ρ2 => cmp2 (cmpD op) x y ρ2) := by
  constructor; intro σ F H ρ Q E p
  refine (pt_cmpR (op_cmpD hu op) (pe_w X a) (pe_w X b) hm).w ?_
  refine SE.go2T ha hb (.refl E.sub) E p fun F2 H2 ρ2 v w x y s E2 r1 r2 n1 n2 p2 => ?_
  unfold cmp2 at p2
  split at p2
  · rename_i t u e1 e2
    obtain ⟨b', e3, q⟩ := pb_ok s E2 p2
    exact ⟨F2, t, u, b', E2.sub, r1.look E2 e1, r2.look E2 e2, e3, b', rfl, q⟩
  · exact p2.elim
theorem se_cmp {op : CmpOp} (hu : X.A.units + 65 < cLine) (hm : behindInMarks op b = false) (ha : SE X W vs a fa) (hb : SE X W vs b fb) : SE X W vs (.Compare a [op] [b] pos) (fun ρ => ofB ((fa ρ).bind fun x ρ1 => (fb ρ1).bind fun y ρ2 => cmp2 (cmpD op) x y ρ2)) := by
  constructor; intro σ F H ρ Q E p
  refine (pe_cmpR (op_cmpD hu op) (pe_w X a) (pe_w X b) hm).w ?_
  refine SE.go2T ha hb (.refl E.sub) E (ph_ofB p) fun F2 H2 ρ2 v w x y s E2 r1 r2 n1 n2 p2 => ?_
  unfold cmp2 at p2
  split at p2
  · rename_i t u e1 e2
    obtain ⟨b', e3, q⟩ := pb_ok s E2 p2
    exact ⟨F2, t, u, b', E2.sub, r1.look E2 e1, r2.look E2 e2, e3, q⟩
  · exact p2.elim
end
end MP
end

section
set_option maxHeartbeats 4000000
/-! Truth, and, or, not, chains, if-expressions. -/
namespace MP
open PySem PySem.Spec PyProof.Rows L2

def truthD : D → Option Bool
  | .non => some false
  | .bl b => some b
  | .int i => some (i != 0)
  | .str x => if x.length ≤ sizeLine then some (x.length != 0) else none
  | .lst xs => some (!xs.isEmpty)
  | .tup xs => some (!xs.isEmpty)
  | .dct xs => some (!xs.isEmpty)
  | _ => none
def tru1 (x : Hnd) (ρ : Env) : Rs Bool := match x.look ρ with
  | some t => blR (truthD t.d) ρ
  | none => .bad
def andB (f g : Env → Rs Bool) (ρ : Env) : Rs Bool := (f ρ).bind fun b ρ1 => if b = true then g ρ1 else .ok false ρ1
def orB (f g : Env → Rs Bool) (ρ : Env) : Rs Bool := (f ρ).bind fun b ρ1 => if b = true then .ok true ρ1 else g ρ1
def notB (f : Env → Rs Bool) (ρ : Env) : Rs Bool := (f ρ).bind fun b ρ1 => .ok (!b) ρ1
def andV (f g : Env → Rs Hnd) (ρ : Env) : Rs Hnd := (f ρ).bind fun x ρ1 => (tru1 x ρ1).bind fun b _ => if b = true then g ρ1 else .ok x ρ1
def orV (f g : Env → Rs Hnd) (ρ : Env) : Rs Hnd := (f ρ).bind fun x ρ1 => (tru1 x ρ1).bind fun b _ => if b = true then .ok x ρ1 else g ρ1
def ifE (t : Env → Rs Bool) (f g : Env → Rs Hnd) (ρ : Env) : Rs Hnd := (t ρ).bind fun b ρ1 => if b = true then f ρ1 else g ρ1

section
variable {X : Cx} {W : WX} {vs : List V} {a b c e : Expr} {fa fb fc : Env → Rs Hnd} {ta tb tc : Env → Rs Bool} {pos : Pos} {rest : List Expr}

theorem tru_okD {F H : Hp} {x : V} {t : T} {k : Bool} (hs : Sub F H) (hx : TRel X.K F H x t) (e : truthD t.d = some k) {pins : List (Addr × Obj)} {s : Shared} {σ : L2.St} {v : Value} {Q : Bool → Hp → Prop} (I : Inv X pins σ H s) (rx : RelV x v) (q : Q k H) :
    wpAny (model X.prog X.w) X.A (truthy v) (TP X pins σ Q) X.xe s := by
  obtain ⟨o, d⟩ := t
  dsimp only at e
  unfold truthD at e
  split at e
  · cases e; cases hx.non; exact tru_ok pins s σ H _ v Q I rx ⟨_, rfl, q⟩
  · cases e; cases hx.bl; exact tru_ok pins s σ H _ v Q I rx ⟨_, rfl, q⟩
  · cases e; cases hx.int; exact tru_ok pins s σ H _ v Q I rx ⟨_, rfl, q⟩
  · rename_i z
    split at e
    · rename_i hl
      cases e; cases hx.str
      refine tru_ok pins s σ H _ v Q I rx ⟨_, ⟨hl, rfl⟩, ?_⟩
      have : ((z.length : Int) != 0) = (z.length != 0) := by
        cases h : z.length with
        | zero => rfl
        | succ n =>
          have h1 : (((n + 1 : Nat) : Int) != 0) = true := by simp; omega
          have h2 : ((n + 1 : Nat) != 0) = true := by simp
          rw [h1, h2]
      rw [this]; exact q
    · cases e
  · cases e
    obtain ⟨p, ws, rfl, h1, r1⟩ := hx.lst hs
    refine tru_ok pins s σ H _ v Q I rx ⟨_, .inl ⟨ws, SqL.of h1, rfl⟩, ?_⟩
    cases r1 <;> exact q
  · cases e
    obtain ⟨p, ws, rfl, h1, r1⟩ := hx.tup hs
    refine tru_ok pins s σ H _ v Q I rx ⟨_, .inr (.inl ⟨ws, h1, rfl⟩), ?_⟩
    cases r1 <;> exact q
  · cases e
    obtain ⟨p, kvs, rfl, h1, r1⟩ := hx.dct hs
    cases rx
    refine d_truth I h1 fun s' I' => ⟨H, I', ?_⟩
    cases r1 <;> exact q
  · cases e
theorem st_truth (ha : SE X W vs a fa) (he : ∀ whole, isTrue a X.env whole = (do let v ← whole; standAt a.pos; holding [v] (truthy v))) : ST X W vs a (fun ρ => (fa ρ).bind tru1) := by
  constructor; intro σ F H ρ Q E p pins s I
  refine isTrue_plain (thn (ha.goT (Q2 := fun x H1 => ∃ F1 t k, Sub F1 H1 ∧ TRel X.K F1 H1 x t ∧ truthD t.d = some k ∧ Q k H1) (.refl E.sub) E p (fun F1 H1 ρ1 v x s1 _ E1 r n p1 => ?_) pins s I) fun v s1 ⟨x, H1, I1, r1, F1, t, k, hs, hx, e, q⟩ => tru_okD hs hx e I1 r1 q) (he _)
  unfold tru1 at p1
  split at p1
  · rename_i t e1
    obtain ⟨k, e3, q⟩ := pb_ok s1 E1 p1
    exact ⟨F1, t, k, E1.sub, r.look E1 e1, e3, q⟩
  · exact p1.elim
/-! ### and, or, not -/
def wW (X : Cx) (e : Expr) : TT := fun σ H Q => ∀ (whole : Sem Value) (pins : List (Addr × Obj)) (s : Shared), Inv X pins σ H s → wpAny (model X.prog X.w) X.A (isTrue e X.env whole) (TP X pins σ Q) X.xe s
theorem pw_w (X : Cx) (e : Expr) : PW X e (wW X e) := ⟨fun whole pins s σ H Q I h => h whole pins s I⟩
theorem _root_.L2.PW.w {t : TT} (h : PW X e t) {σ : L2.St} {H : Hp} {Q : Bool → Hp → Prop} (q : t σ H Q) : wW X e σ H Q := fun whole pins s I => h.run whole pins s σ H Q I q
structure SW (X : Cx) (W : WX) (vs : List V) (e : Expr) (f : Env → Rs Bool) : Prop where
  run : ∀ (σ : L2.St) (F H : Hp) (ρ : Env) (Q : Bool → Hp → Prop), ER X.K vs σ F H ρ → PB X.K vs σ W F H (Fp vs σ ρ) Q (f ρ) → wW X e σ H Q
instance {X : Cx} {W : WX} {vs : List V} {e : Expr} {f : Env → Rs Bool} : CoeFun (SW X W vs e f) (fun _ => ∀ (σ : L2.St) (F H : Hp) (ρ : Env) (Q : Bool → Hp → Prop), ER X.K vs σ F H ρ → PB X.K vs σ W F H (Fp vs σ ρ) Q (f ρ) → wW X e σ H Q) := ⟨SW.run⟩
theorem SW.st (h : SW X W vs e ta) : ST X W vs e ta := ⟨fun σ F H ρ Q E p pins s I => h σ F H ρ Q E p _ pins s I⟩
theorem sw_and1 (ha : ST X W vs a ta) : SW X W vs (.BoolOp .And [a] pos) ta := ⟨fun σ F H ρ Q E p => (pw_and1 (pt_w X a)).w (ha σ F H ρ Q E p)⟩
theorem sw_or1 (ha : ST X W vs a ta) : SW X W vs (.BoolOp .Or [a] pos) ta := ⟨fun σ F H ρ Q E p => (pw_or1 (pt_w X a)).w (ha σ F H ρ Q E p)⟩
theorem sw_and (ha : ST X W vs a ta) (hb : SW X W vs (.BoolOp .And (b :: rest) pos) tb) : SW X W vs (.BoolOp .And (a :: b :: rest) pos) (andB ta tb) := by
  constructor; intro σ F H ρ Q E p
  refine (pw_and (pt_w X a) (pw_w X _)).w ?_
  refine ha.goT (.refl E.sub) E p fun F1 H1 ρ1 k s1 _ E1 p1 => ?_
  cases k with
  | true => exact hb σ F1 H1 ρ1 Q E1 (PB.step p1 s1)
  | false => exact p1 F1 H1 s1 E1
theorem sw_or (ha : ST X W vs a ta) (hb : SW X W vs (.BoolOp .Or (b :: rest) pos) tb) : SW X W vs (.BoolOp .Or (a :: b :: rest) pos) (orB ta tb) := by
  constructor; intro σ F H ρ Q E p
  refine (pw_or (pt_w X a) (pw_w X _)).w ?_
  refine ha.goT (.refl E.sub) E p fun F1 H1 ρ1 k s1 _ E1 p1 => ?_
  cases k with
  | false => exact hb σ F1 H1 ρ1 Q E1 (PB.step p1 s1)
  | true => exact p1 F1 H1 s1 E1
theorem st_not (ha : ST X W vs a ta) : ST X W vs (.UnaryOp .Not a pos) (notB ta) := by
  constructor; intro σ F H ρ Q E p
  refine (pt_not (pt_w X a)).w ?_
  exact ha.goT (.refl E.sub) E p fun F1 H1 ρ1 k s1 _ E1 p1 => p1 F1 H1 s1 E1
theorem se_one {op : BoolOp} (ha : SE X W vs a fa) : SE X W vs (.BoolOp op [a] pos) fa := ⟨fun σ F H ρ Q E p => (pe_one (pe_w X a)).w (ha σ F H ρ Q E p)⟩
/-- a value whose truth is asked -/
theorem look_tru {σ : L2.St} {F0 H0 F H : Hp} {P0 : Addr → Prop} {ρ : Env} {Q : VK} {v : V} {x : Hnd} {k : Bool → Env → Rs Hnd} (E : ER X.K vs σ F H ρ) (r : HR X.K vs σ F H ρ v x) (p : PH X.K vs σ W F0 H0 P0 Q ((tru1 x ρ).bind k)) :
    ∃ t kk, TRel X.K F H v t ∧ truthD t.d = some kk ∧ PH X.K vs σ W F0 H0 P0 Q (k kk ρ) := by
  unfold tru1 at p
  split at p
  · rename_i t e1
    cases h : truthD t.d with
    | none => rw [h] at p; exact p.elim
    | some kk => rw [h] at p; exact ⟨t, kk, r.look E e1, h, p⟩
  · exact p.elim
theorem se_and (ha : SE X W vs a fa) (hb : SE X W vs (.BoolOp .And (b :: rest) pos) fb) : SE X W vs (.BoolOp .And (a :: b :: rest) pos) (andV fa fb) := by
  constructor; intro σ F H ρ Q E p pins s I
  refine BoolOp_and (thn (ha.go (Q2 := fun x H1 => ∃ F1 t k, Sub F1 H1 ∧ TRel X.K F1 H1 x t ∧ truthD t.d = some k ∧ if k = true then wE X (.BoolOp .And (b :: rest) pos) σ H1 Q else Q x H1) (.refl E.sub) E p (fun F1 H1 ρ1 v x s1 _ E1 r n p1 => ?_) pins s I) fun v s1 ⟨x, H1, I1, r1, F1, t, k, hs, hx, e, q⟩ => ?_)
  · obtain ⟨t, k, h1, h2, p2⟩ := look_tru E1 r p1
    refine ⟨F1, t, k, E1.sub, h1, h2, ?_⟩
    cases k with
    | true => exact hb σ F1 H1 ρ1 Q E1 (PH.step p2 s1)
    | false => exact p2 F1 H1 v s1 E1 r n
  · refine thn (tru_okD (Q := fun c H2 => c = k ∧ H2 = H1) hs hx e I1 r1 ⟨rfl, rfl⟩) fun c s2 hc => ?_
    obtain ⟨H2, I2, e1, e2⟩ := hc
    subst e1 e2
    cases c with
    | true => exact q pins s2 I2
    | false => exact ⟨x, _, I2, r1, q⟩
theorem se_or (ha : SE X W vs a fa) (hb : SE X W vs (.BoolOp .Or (b :: rest) pos) fb) : SE X W vs (.BoolOp .Or (a :: b :: rest) pos) (orV fa fb) := by
  constructor; intro σ F H ρ Q E p pins s I
  refine BoolOp_or (thn (ha.go (Q2 := fun x H1 => ∃ F1 t k, Sub F1 H1 ∧ TRel X.K F1 H1 x t ∧ truthD t.d = some k ∧ if k = true then Q x H1 else wE X (.BoolOp .Or (b :: rest) pos) σ H1 Q) (.refl E.sub) E p (fun F1 H1 ρ1 v x s1 _ E1 r n p1 => ?_) pins s I) fun v s1 ⟨x, H1, I1, r1, F1, t, k, hs, hx, e, q⟩ => ?_)
  · obtain ⟨t, k, h1, h2, p2⟩ := look_tru E1 r p1
    refine ⟨F1, t, k, E1.sub, h1, h2, ?_⟩
    cases k with
    | false => exact hb σ F1 H1 ρ1 Q E1 (PH.step p2 s1)
    | true => exact p2 F1 H1 v s1 E1 r n
  · refine thn (tru_okD (Q := fun c H2 => c = k ∧ H2 = H1) hs hx e I1 r1 ⟨rfl, rfl⟩) fun c s2 hc => ?_
    obtain ⟨H2, I2, e1, e2⟩ := hc
    subst e1 e2
    cases c with
    | false => exact q pins s2 I2
    | true => exact ⟨x, _, I2, r1, q⟩
/-- not e, as a value -/
def notV (f : Env → Rs Hnd) (ρ : Env) : Rs Hnd := ofB (((f ρ).bind tru1).bind fun b ρ1 => .ok (!b) ρ1)
theorem se_not (ha : SE X W vs a fa) : SE X W vs (.UnaryOp .Not a pos) (notV fa) := by
  constructor; intro σ F H ρ Q E p pins s I
  have p' := ph_ofB p
  have e0 : ((fa ρ).bind tru1).bind (fun b ρ1 => Rs.ok (!b) ρ1) = (fa ρ).bind fun x ρ1 => (tru1 x ρ1).bind fun b ρ1 => .ok (!b) ρ1 := by cases fa ρ <;> rfl
  rw [e0] at p'
  refine UnaryOp_ (thn (ha.goT (Q2 := fun x H1 => ∃ F1 t k, Sub F1 H1 ∧ TRel X.K F1 H1 x t ∧ truthD t.d = some k ∧ Q (.bl (!k)) H1) (.refl E.sub) E p' (fun F1 H1 ρ1 v x s1 _ E1 r n p1 => ?_) pins s I) fun v s1 ⟨x, H1, I1, r1, F1, t, k, hs, hx, e, q⟩ => ?_)
  · unfold tru1 at p1
    split at p1
    · rename_i t e1
      cases h : truthD t.d with
      | none => rw [h] at p1; exact p1.elim
      | some kk => rw [h] at p1; exact ⟨F1, t, kk, E1.sub, r.look E1 e1, h, p1 F1 H1 s1 E1⟩
    · exact p1.elim
  · exact not_of (thn (tru_okD (Q := fun c H2 => Q (.bl (!c)) H2) hs hx e I1 r1 q) fun c s2 ⟨H2, I2, q2⟩ => ⟨.bl (!c), H2, I2, rfl, q2⟩)
/-! ### a if t else b -/
theorem se_if (ht : ST X W vs c tc) (ha : SE X W vs a fa) (hb : SE X W vs b fb) : SE X W vs (.IfExp c a b pos) (ifE tc fa fb) := by
  constructor; intro σ F H ρ Q E p
  refine (pe_ifExp (pt_w X c) (pe_w X a) (pe_w X b)).w ?_
  refine ht.go (.refl E.sub) E p fun F1 H1 ρ1 k s1 _ E1 p1 => ?_
  cases k with
  | true => exact ha σ F1 H1 ρ1 Q E1 (PH.step p1 s1)
  | false => exact hb σ F1 H1 ρ1 Q E1 (PH.step p1 s1)
/-- .. as a test -/
def ifB (t f g : Env → Rs Bool) (ρ : Env) : Rs Bool := (t ρ).bind fun b ρ1 => if b = true then f ρ1 else g ρ1
/-! ### a < b < c -/
def chn (op op' : CmpOp) (fa fb fc : Env → Rs Hnd) (ρ : Env) : Rs Bool := (fa ρ).bind fun x ρ1 => (fb ρ1).bind fun y ρ2 => (cmp2 (cmpD op) x y ρ2).bind fun k ρ3 => if k = true then (fc ρ3).bind fun z ρ4 => cmp2 (cmpD op') y z ρ4 else .ok false ρ3
theorem chain_read {op op' : CmpOp} {σ : L2.St} {F H : Hp} {ρ : Env} {Q : Bool → Hp → Prop} (hu : X.A.units + 65 < cLine) (ha : SE X W vs a fa) (hb : SE X W vs b fb) (hc : SE X W vs c fc) (E : ER X.K vs σ F H ρ) (p : PB X.K vs σ W F H (Fp vs σ ρ) Q (chn op op' fa fb fc ρ)) :
    tChain (rC X.K (cmpD op)) (rC X.K (cmpD op')) (wE X a) (wE X b) (wE X c) σ H (fun x H' => ∃ k, x = .bl k ∧ Q k H') := by
  refine SE.go2T ha hb (.refl E.sub) E p fun F2 H2 ρ2 v w x y s E2 r1 r2 n1 n2 p2 => ?_
  unfold cmp2 at p2
  cases e1 : x.look ρ2 with
  | none => rw [e1] at p2; exact p2.elim
  | some t =>
    rw [e1] at p2
    cases e2 : y.look ρ2 with
    | none => rw [e2] at p2; exact p2.elim
    | some u =>
      rw [e2] at p2
      cases e3 : cmpD op t.d u.d with
      | none =>
        have p2 : PB X.K vs σ W F H (Fp vs σ ρ) Q ((blR (cmpD op t.d u.d) ρ2).bind _) := p2
        rw [e3] at p2; exact p2.elim
      | some k =>
        have p3 : PB X.K vs σ W F H (Fp vs σ ρ) Q ((blR (cmpD op t.d u.d) ρ2).bind fun k ρ3 => if k = true then (fc ρ3).bind fun z ρ4 => (match y.look ρ4, z.look ρ4 with | some t, some u => blR (cmpD op' t.d u.d) ρ4 | _, _ => .bad) else .ok false ρ3) := p2
        rw [e3] at p3
        refine ⟨F2, t, u, k, E2.sub, r1.look E2 e1, r2.look E2 e2, e3, k, rfl, ?_⟩
        cases k with
        | false => exact ⟨false, rfl, p3 F2 H2 s E2⟩
        | true =>
          refine hc.goT s E2 p3 fun F3 H3 ρ3 w' z s3 t3 E3 r3 n3 p4 => ?_
          split at p4
          · rename_i t' u' e4 e5
            obtain ⟨b', e6, q⟩ := pb_ok s3 E3 p4
            exact ⟨F3, t', u', b', E3.sub, (r2.step t3).look E3 e4, r3.look E3 e5, e6, b', rfl, q⟩
          · exact p4.elim
theorem st_chain {op op' : CmpOp} (hu : X.A.units + 65 < cLine) (hm : lastMarks [op, op'] [b, c] = false) (ha : SE X W vs a fa) (hb : SE X W vs b fb) (hc : SE X W vs c fc) : ST X W vs (.Compare a [op, op'] [b, c] pos) (chn op op' fa fb fc) := by
  constructor; intro σ F H ρ Q E p
  exact (pt_chain (op_cmpD hu op) (op_cmpD hu op') (pe_w X a) (pe_w X b) (pe_w X c) hm).w (chain_read hu ha hb hc E p)
theorem se_chain {op op' : CmpOp} (hu : X.A.units + 65 < cLine) (hm : lastMarks [op, op'] [b, c] = false) (ha : SE X W vs a fa) (hb : SE X W vs b fb) (hc : SE X W vs c fc) : SE X W vs (.Compare a [op, op'] [b, c] pos) (fun ρ => ofB (chn op op' fa fb fc ρ)) := by
  constructor; intro σ F H ρ Q E p pins s I
  exact thn ((pe_chain (op_cmpD hu op) (op_cmpD hu op') (pe_w X a) (pe_w X b) (pe_w X c) hm).w (chain_read hu ha hb hc E (ph_ofB p)) pins s I) fun u s1 ⟨x, H1, I1, r1, k, e, q⟩ => ⟨x, H1, I1, r1, by rw [e]; exact q⟩
end
end MP
end

section
set_option maxHeartbeats 4000000
/-! Argument lists, displays, items. -/
namespace MP
open PySem PySem.Spec PyProof.Rows L2

def evCons (f : Env → Rs Hnd) (g : Env → Rs (List Hnd)) (ρ : Env) : Rs (List Hnd) := (f ρ).bind fun x ρ1 => (g ρ1).bind fun hs ρ2 => .ok (x :: hs) ρ2
def mkTup (hs : List Hnd) (ρ : Env) : Rs Hnd := (frzs hs ρ).bind fun ds ρ1 => if ds.length ≤ sizeLine then .ok (.val (fz (.tup ds))) ρ1 else .bad
def mkLst (hs : List Hnd) (ρ : Env) : Rs Hnd := (frzs hs ρ).bind fun ds ρ1 => if ds.length ≤ sizeLine then .ok (.val (ow (.lst ds))) ρ1 else .bad

section
variable {K : PySem.W.Frag} {vs : List V} {σ : L2.St} {W : WX} {F F0 F1 F2 H H0 H1 H2 : Hp} {P P0 : Addr → Prop} {ρ ρ1 ρ2 : Env}
theorem HRs.step {ws : List V} {hs : List Hnd} (h : HRs K vs σ F1 H1 ρ1 ws hs) (s : Step F1 H1 (Fp vs σ ρ1) F2 H2 (Fp vs σ ρ2)) : HRs K vs σ F2 H2 ρ2 ws hs := by
  induction h with
  | nil => exact .nil
  | cons h _ d ih => exact .cons (h.step s) ih d
theorem HNs.step {ws : List V} {hs : List Hnd} (n : HNs H1 P ws hs) (s : Step F0 H0 P0 F1 H1 P) : HNs H0 P0 ws hs := fun w h m => (n w h m).step s
theorem frz_noexc {h : Hnd} {C : String} {fs : List (String × D)} (e : frz h ρ1 = .exc C fs ρ2) : False := by
  cases h with
  | val t => cases e
  | rt r =>
    replace e : (match ρ1.at r with | some t => Rs.ok t.d (ρ1.put r (fz t.d)) | none => Rs.bad) = Rs.exc C fs ρ2 := e
    split at e <;> cases e
theorem frzs_noexc : ∀ {C : String} {fs : List (String × D)} {hs : List Hnd} {ρ1 ρ2 : Env}, frzs hs ρ1 = .exc C fs ρ2 → False
  | _, _, [], _, _, e => by cases e
  | C, fs, h :: hs, ρ1, ρ2, e => by
    replace e : (frz h ρ1).bind (fun d ρ1 => (frzs hs ρ1).bind fun ds ρ2 => .ok (d :: ds) ρ2) = .exc C fs ρ2 := e
    cases z : frz h ρ1 with
    | bad => rw [z] at e; cases e
    | exc C fs ρ' => exact frz_noexc z
    | ok d ρ' =>
      rw [z, Rs.bind_ok] at e
      cases z2 : frzs hs ρ' with
      | bad => rw [z2] at e; cases e
      | exc C fs ρ' => exact frzs_noexc z2
      | ok ds' ρ'' => rw [z2] at e; cases e
theorem frzs_ok : ∀ {hs : List Hnd} {ws : List V} {F1 : Hp} {ρ1 : Env} {ds : List D}, Step F0 H0 P0 F1 H1 (Fp vs σ ρ1) → ER K vs σ F1 H1 ρ1 → HRs K vs σ F1 H1 ρ1 ws hs → HNs H0 P0 ws hs → frzs hs ρ1 = .ok ds ρ2 →
    ∃ F2, Step F0 H0 P0 F2 H1 (Fp vs σ ρ2) ∧ ER K vs σ F2 H1 ρ2 ∧ Reps K F2 ws ds ∧ Le F1 F2
  | [], _, F1, ρ1, ds, s, E, hr, hn, e => by
    cases hr
    cases e
    exact ⟨F1, s, E, .nil, .refl _⟩
  | h :: hs, _, F1, ρ1, ds, s, E, hr, hn, e => by
    cases hr with
    | @cons v _ ws _ hv hr hd =>
      replace e : (frz h ρ1).bind (fun d ρ1 => (frzs hs ρ1).bind fun ds ρ2 => .ok (d :: ds) ρ2) = .ok ds ρ2 := e
      cases z : frz h ρ1 with
      | bad => rw [z] at e; cases e
      | exc C fs ρ' => rw [z] at e; cases e
      | ok d ρ' =>
        rw [z] at e
        cases z2 : frzs hs ρ' with
        | bad => rw [Rs.bind_ok, z2] at e; cases e
        | exc C fs ρ' => rw [Rs.bind_ok, z2] at e; cases e
        | ok ds' ρ'' =>
          rw [Rs.bind_ok, z2] at e
          cases e
          obtain ⟨F2, s2, E2, rd, le, new, fp⟩ := frz_ok s E hv (hn v h (by simp)) z
          have keep : ∀ {w : V} {h' : Hnd}, (w, h') ∈ ws.zip hs → HR K vs σ F1 H1 ρ1 w h' → HR K vs σ F2 H1 ρ' w h' := fun {w h'} m r => by
            cases r with
            | rt r => exact .rt r
            | @val t r np =>
              refine .val (r.le le fun ho a ea => ⟨rfl, ?_⟩) fun ho a ea q => np ho a ea (fp a q)
              subst ea
              cases r with
              | fz _ => cases ho
              | ow hF hown =>
                cases q : F2 a with
                | none => rfl
                | some u =>
                  exfalso
                  rcases new a (by rw [q]; exact fun z => nomatch z) with z | ⟨rfl, z | ⟨t', rfl, ht'⟩⟩
                  · exact z hF
                  · exact np rfl a rfl z
                  · exact hd t' a rfl ht' rfl _ _ m rfl rfl
          have hr2 : HRs K vs σ F2 H1 ρ' ws hs := by
            have all : ∀ {l : List V} {m : List Hnd}, (∀ p ∈ l.zip m, p ∈ ws.zip hs) → HRs K vs σ F1 H1 ρ1 l m → HRs K vs σ F2 H1 ρ' l m := by
              intro l m sub q
              induction q with
              | nil => exact .nil
              | cons q1 _ q3 ih => exact .cons (keep (sub _ (by simp)) q1) (ih fun p hp => sub p (by simp [hp])) q3
            exact all (fun _ hp => hp) hr
          obtain ⟨F3, s3, E3, rs, le3⟩ := frzs_ok s2 E2 hr2 (fun w h' m => hn w h' (by simp [m])) z2
          exact ⟨F3, s3, E3, .cons (Rep.le le3 rd) rs, le.trans le3⟩
end

section
variable {X : Cx} {W : WX} {vs : List V} {a b c e : Expr} {es : List Expr} {fa fb fc : Env → Rs Hnd} {fs : Env → Rs (List Hnd)} {pos : Pos}
theorem sa_nil : SA X W vs [] (fun ρ => .ok [] ρ) := ⟨fun σ F H ρ Q E p => pa_nil.w (p F H [] (.refl E.sub) E .nil (fun w h m => by simp at m))⟩
theorem SE.goA {k : Hnd → Env → Rs (List Hnd)} {σ : L2.St} {F0 H0 F H : Hp} {P0 : Addr → Prop} {ρ : Env} {Q : List V → Hp → Prop} {Q2 : VK} (h : SE X W vs e fa) (s0 : Step F0 H0 P0 F H (Fp vs σ ρ)) (E : ER X.K vs σ F H ρ) (p : PA' X.K vs σ W F0 H0 P0 Q ((fa ρ).bind k))
    (hk : ∀ F1 H1 ρ1 v hd, Step F0 H0 P0 F1 H1 (Fp vs σ ρ1) → Step F H (Fp vs σ ρ) F1 H1 (Fp vs σ ρ1) → ER X.K vs σ F1 H1 ρ1 → HR X.K vs σ F1 H1 ρ1 v hd → HN H (Fp vs σ ρ) v hd → PA' X.K vs σ W F0 H0 P0 Q (k hd ρ1) → Q2 v H1) : wE X e σ H Q2 := by
  refine h σ F H ρ Q2 E ?_
  cases z : fa ρ with
  | bad => rw [z] at p; exact p
  | exc C fs ρ' => rw [z] at p; exact fun F' H' cls d st er x => p F' H' cls d (s0.trans st) er x
  | ok hd ρ1 =>
    rw [z] at p
    exact fun F1 H1 v st er hr hn => hk F1 H1 ρ1 v hd (s0.trans st) st er hr hn p
theorem SA.goA {k : List Hnd → Env → Rs (List Hnd)} {σ : L2.St} {F0 H0 F H : Hp} {P0 : Addr → Prop} {ρ : Env} {Q Q2 : List V → Hp → Prop} (h : SA X W vs es fs) (s0 : Step F0 H0 P0 F H (Fp vs σ ρ)) (E : ER X.K vs σ F H ρ) (p : PA' X.K vs σ W F0 H0 P0 Q ((fs ρ).bind k))
    (hk : ∀ F1 H1 ρ1 ws hs, Step F0 H0 P0 F1 H1 (Fp vs σ ρ1) → Step F H (Fp vs σ ρ) F1 H1 (Fp vs σ ρ1) → ER X.K vs σ F1 H1 ρ1 → HRs X.K vs σ F1 H1 ρ1 ws hs → HNs H (Fp vs σ ρ) ws hs → PA' X.K vs σ W F0 H0 P0 Q (k hs ρ1) → Q2 ws H1) : wA X es σ H Q2 := by
  refine h σ F H ρ Q2 E ?_
  cases z : fs ρ with
  | bad => rw [z] at p; exact p
  | exc C fs ρ' => rw [z] at p; exact fun F' H' cls d st er x => p F' H' cls d (s0.trans st) er x
  | ok hd ρ1 =>
    rw [z] at p
    exact fun F1 H1 v st er hr hn => hk F1 H1 ρ1 v hd (s0.trans st) st er hr hn p
theorem SA.go {k : List Hnd → Env → Rs Hnd} {σ : L2.St} {F0 H0 F H : Hp} {P0 : Addr → Prop} {ρ : Env} {Q : VK} {Q2 : List V → Hp → Prop} (h : SA X W vs es fs) (s0 : Step F0 H0 P0 F H (Fp vs σ ρ)) (E : ER X.K vs σ F H ρ) (p : PH X.K vs σ W F0 H0 P0 Q ((fs ρ).bind k))
    (hk : ∀ F1 H1 ρ1 ws hs, Step F0 H0 P0 F1 H1 (Fp vs σ ρ1) → Step F H (Fp vs σ ρ) F1 H1 (Fp vs σ ρ1) → ER X.K vs σ F1 H1 ρ1 → HRs X.K vs σ F1 H1 ρ1 ws hs → HNs H (Fp vs σ ρ) ws hs → PH X.K vs σ W F0 H0 P0 Q (k hs ρ1) → Q2 ws H1) : wA X es σ H Q2 := by
  refine h σ F H ρ Q2 E ?_
  cases z : fs ρ with
  | bad => rw [z] at p; exact p
  | exc C fs ρ' => rw [z] at p; exact fun F' H' cls d st er x => p F' H' cls d (s0.trans st) er x
  | ok hd ρ1 =>
    rw [z] at p
    exact fun F1 H1 v st er hr hn => hk F1 H1 ρ1 v hd (s0.trans st) st er hr hn p
theorem cons_dist {K : PySem.W.Frag} {σ : L2.St} {F1 H1 : Hp} {ρ1 : Env} {v : V} {x : Hnd} {ws : List V} {hs : List Hnd} (r1 : HR K vs σ F1 H1 ρ1 v x) (n2 : HNs H1 (Fp vs σ ρ1) ws hs) :
    ∀ t a, x = .val t → t.o = true → v = .ref a → ∀ w t', (w, Hnd.val t') ∈ ws.zip hs → t'.o = true → w ≠ .ref a := by
  rintro t a rfl ht rfl w t' m ht' rfl
  cases r1 with
  | val r1 q1 =>
    cases r1 with
    | fz _ => cases ht
    | ow hF ho =>
      obtain ⟨o, eo⟩ := ho.ex
      rcases n2 _ _ m ht' a rfl with z | z
      · exact q1 rfl a rfl z
      · rw [eo] at z; cases z
theorem sa_cons (ha : SE X W vs e fa) (hr : SA X W vs es fs) (hs : starEach (e :: es) X.env = (false, eval e X.env) :: starEach es X.env) : SA X W vs (e :: es) (evCons fa fs) := by
  constructor; intro σ F H ρ Q E p
  refine (pa_cons (pe_w X e) (pa_w X es) hs).w ?_
  refine ha.goA (.refl E.sub) E p fun F1 H1 ρ1 v x s1 t1 E1 r1 n1 p1 => ?_
  refine hr.goA s1 E1 p1 fun F2 H2 ρ2 ws hs s2 t2 E2 r2 n2 p2 => ?_
  refine p2 F2 H2 (v :: ws) s2 E2 (.cons (r1.step t2) r2 (cons_dist r1 n2)) fun w h m => ?_
  rw [List.zip_cons_cons] at m
  rcases List.mem_cons.mp m with m | m
  · cases m; exact n1
  · exact (n2 w h m).step s1
theorem se_tup {x1} (h : SA X W vs es fs) : SE X W vs (.Tuple es x1 pos) (fun ρ => (fs ρ).bind mkTup) := by
  constructor; intro σ F H ρ Q E p
  refine (pe_tup (pa_w X es)).w ?_
  refine h.go (.refl E.sub) E p fun F1 H1 ρ1 ws hs s1 _ E1 r1 n1 p1 => ?_
  unfold mkTup at p1
  cases z : frzs hs ρ1 with
  | bad => rw [z] at p1; exact p1.elim
  | exc C fs' ρ' => exact (frzs_noexc z).elim
  | ok ds ρ2 =>
    rw [z] at p1
    obtain ⟨F2, s2, E2, rs, le⟩ := frzs_ok s1 E1 r1 n1 z
    rw [Rs.bind_ok] at p1
    split at p1
    · rename_i hl
      refine ⟨by rw [rs.length]; exact hl, fun q nq => ?_⟩
      have q' := RP.of_ph E2 (p1.step s2)
      exact RP.tup E2.sub rs q' q nq
    · exact p1.elim
theorem se_lst (h : SA X W vs es fs) : SE X W vs (.List es pos) (fun ρ => (fs ρ).bind mkLst) := by
  constructor; intro σ F H ρ Q E p
  refine (pe_lst (pa_w X es)).w ?_
  refine h.go (.refl E.sub) E p fun F1 H1 ρ1 ws hs s1 _ E1 r1 n1 p1 => ?_
  unfold mkLst at p1
  cases z : frzs hs ρ1 with
  | bad => rw [z] at p1; exact p1.elim
  | exc C fs' ρ' => exact (frzs_noexc z).elim
  | ok ds ρ2 =>
    rw [z] at p1
    obtain ⟨F2, s2, E2, rs, le⟩ := frzs_ok s1 E1 r1 n1 z
    rw [Rs.bind_ok] at p1
    split at p1
    · rename_i hl
      refine ⟨by rw [rs.length]; exact hl, fun q nq => ?_⟩
      have q' := RP.of_ph E2 (p1.step s2)
      exact RP.lst E2.sub rs q' q nq
    · exact p1.elim
end
end MP
end

section
set_option maxHeartbeats 4000000
/-! Statements. -/
namespace MP
open PySem PySem.Spec PyProof.Rows L2

inductive Fl where
  | nx | bk | ct | rt (t : T)
  deriving Inhabited
def Env.store (ρ : Env) (i : Nat) (t : T) : Env := ⟨ρ.gs, ρ.sl.set i (some (.loc t))⟩
def Env.kill (ρ : Env) (i : Nat) : Env := ⟨ρ.gs, ρ.sl.set i none⟩
/-- name = value -/
def stName (i : Nat) (h : Hnd) (ρ : Env) : Rs Unit := match h with
  | .val t => if i < ρ.sl.length then .ok () (ρ.store i t) else .bad
  | .rt r => (frz (.rt r) ρ).bind fun d ρ1 => if i < ρ1.sl.length then .ok () (ρ1.store i (fz d)) else .bad
def fnRet (h : Hnd) (ρ : Env) : Rs Fl := match h with
  | .val t => .ok (.rt t) ρ
  | .rt (.s i) => match ρ.at (.s i) with
    | some t => .ok (.rt t) (ρ.kill i)
    | none => .bad
  | .rt (.g j) => (frz (.rt (.g j)) ρ).bind fun d ρ1 => .ok (.rt (fz d)) ρ1
def sqS (f g : Env → Rs Fl) (ρ : Env) : Rs Fl := (f ρ).bind fun fl ρ1 => match fl with
  | .nx => g ρ1
  | o => .ok o ρ1

section
variable (K : PySem.W.Frag) (vs : List V)
def PF (W : WX) (F H : Hp) (P : Addr → Prop) (D : Ends) : Rs Fl → Prop
  | .ok .nx ρ' => ∀ F' H' σ', Step F H P F' H' (Fp vs σ' ρ') → ER K vs σ' F' H' ρ' → D.nx σ' H'
  | .ok .bk ρ' => ∀ F' H' σ', Step F H P F' H' (Fp vs σ' ρ') → ER K vs σ' F' H' ρ' → D.bk σ' H'
  | .ok .ct ρ' => ∀ F' H' σ', Step F H P F' H' (Fp vs σ' ρ') → ER K vs σ' F' H' ρ' → D.ct σ' H'
  | .ok (.rt t) ρ' => ∀ F' H' σ' v, Step F H P F' H' (Fp vs σ' ρ') → ER K vs σ' F' H' ρ' → HR K vs σ' F' H' ρ' v (.val t) → HN H P v (.val t) → D.rt v H'
  | .exc C fs ρ' => ∀ F' H' σ' cls d, Step F H P F' H' (Fp vs σ' ρ') → ER K vs σ' F' H' ρ' → ExV K F' H' C fs cls d → W cls d σ' H'
  | .bad => False
def PU (W : WX) (F H : Hp) (P : Addr → Prop) (Q : L2.St → Hp → Prop) : Rs Unit → Prop
  | .ok _ ρ' => ∀ F' H' σ', Step F H P F' H' (Fp vs σ' ρ') → ER K vs σ' F' H' ρ' → Q σ' H'
  | .exc C fs ρ' => ∀ F' H' σ' cls d, Step F H P F' H' (Fp vs σ' ρ') → ER K vs σ' F' H' ρ' → ExV K F' H' C fs cls d → W cls d σ' H'
  | .bad => False
end
def wS (X : Cx) (e : Stmt) : TS := fun D σ H => ∀ (pins : List (Addr × Obj)) (s : Shared), Inv X pins σ H s → wpAny (model X.prog X.w) X.A (exec e X.env) (SP X pins D) X.xe s
def wSs (X : Cx) (e : List Stmt) : TS := fun D σ H => ∀ (pins : List (Addr × Obj)) (s : Shared), Inv X pins σ H s → wpAny (model X.prog X.w) X.A (execs e X.env) (SP X pins D) X.xe s
def wG (X : Cx) (e : Expr) : TG := fun v σ H Q => ∀ (pins : List (Addr × Obj)) (s : Shared) (u : Value), Inv X pins σ H s → RelV v u → wpAny (model X.prog X.w) X.A (assign e X.env u) (fun _ s' => ∃ σ' H', Inv X pins σ' H' s' ∧ Q σ' H') X.xe s
theorem ps_w (X : Cx) (e : Stmt) : PS X e (wS X e) := ⟨fun pins s σ H Q I h => h pins s I⟩
theorem pss_w (X : Cx) (e : List Stmt) : PSs X e (wSs X e) := ⟨fun pins s σ H Q I h => h pins s I⟩
theorem pg_w (X : Cx) (e : Expr) : PG X e (wG X e) := ⟨fun pins s σ H v u Q I r h => h pins s u I r⟩
theorem _root_.L2.PS.w {X : Cx} {e : Stmt} {t : TS} (h : PS X e t) {σ : L2.St} {H : Hp} {D : Ends} (q : t D σ H) : wS X e D σ H := fun pins s I => h.run pins s σ H D I q
theorem _root_.L2.PSs.w {X : Cx} {e : List Stmt} {t : TS} (h : PSs X e t) {σ : L2.St} {H : Hp} {D : Ends} (q : t D σ H) : wSs X e D σ H := fun pins s I => h.run pins s σ H D I q
theorem _root_.L2.PG.w {X : Cx} {e : Expr} {t : TG} (h : PG X e t) {v : V} {σ : L2.St} {H : Hp} {Q : L2.St → Hp → Prop} (q : t v σ H Q) : wG X e v σ H Q := fun pins s u I r => h.run pins s σ H v u Q I r q

structure SS (X : Cx) (W : WX) (vs : List V) (e : Stmt) (f : Env → Rs Fl) : Prop where
  run : ∀ (σ : L2.St) (F H : Hp) (ρ : Env) (D : Ends), ER X.K vs σ F H ρ → PF X.K vs W F H (Fp vs σ ρ) D (f ρ) → wS X e D σ H
instance {X : Cx} {W : WX} {vs : List V} {e : Stmt} {f : Env → Rs Fl} : CoeFun (SS X W vs e f) (fun _ => ∀ (σ : L2.St) (F H : Hp) (ρ : Env) (D : Ends), ER X.K vs σ F H ρ → PF X.K vs W F H (Fp vs σ ρ) D (f ρ) → wS X e D σ H) := ⟨SS.run⟩
structure SSs (X : Cx) (W : WX) (vs : List V) (e : List Stmt) (f : Env → Rs Fl) : Prop where
  run : ∀ (σ : L2.St) (F H : Hp) (ρ : Env) (D : Ends), ER X.K vs σ F H ρ → PF X.K vs W F H (Fp vs σ ρ) D (f ρ) → wSs X e D σ H
instance {X : Cx} {W : WX} {vs : List V} {e : List Stmt} {f : Env → Rs Fl} : CoeFun (SSs X W vs e f) (fun _ => ∀ (σ : L2.St) (F H : Hp) (ρ : Env) (D : Ends), ER X.K vs σ F H ρ → PF X.K vs W F H (Fp vs σ ρ) D (f ρ) → wSs X e D σ H) := ⟨SSs.run⟩
structure SG (X : Cx) (W : WX) (vs : List V) (e : Expr) (g : Hnd → Env → Rs Unit) : Prop where
  run : ∀ (σ : L2.St) (F0 H0 : Hp) (P0 : Addr → Prop) (F H : Hp) (ρ : Env) (v : V) (h : Hnd) (Q : L2.St → Hp → Prop), Step F0 H0 P0 F H (Fp vs σ ρ) → ER X.K vs σ F H ρ → HR X.K vs σ F H ρ v h → HN H0 P0 v h → PU X.K vs W F0 H0 P0 Q (g h ρ) → wG X e v σ H Q
instance {X : Cx} {W : WX} {vs : List V} {e : Expr} {g : Hnd → Env → Rs Unit} : CoeFun (SG X W vs e g) (fun _ => ∀ (σ : L2.St) (F0 H0 : Hp) (P0 : Addr → Prop) (F H : Hp) (ρ : Env) (v : V) (h : Hnd) (Q : L2.St → Hp → Prop), Step F0 H0 P0 F H (Fp vs σ ρ) → ER X.K vs σ F H ρ → HR X.K vs σ F H ρ v h → HN H0 P0 v h → PU X.K vs W F0 H0 P0 Q (g h ρ) → wG X e v σ H Q) := ⟨SG.run⟩

section
variable {K : PySem.W.Frag} {vs : List V} {σ : L2.St} {W : WX} {F F0 F1 F2 H H0 H1 H2 : Hp} {P P0 P1 : Addr → Prop} {ρ ρ1 ρ2 : Env} {v : V} {h : Hnd} {t : T} {d : D} {i : Nat} {D' : Ends}
theorem PF.step {r : Rs Fl} (p : PF K vs W F H P D' r) (s : Step F H P F1 H1 P1) : PF K vs W F1 H1 P1 D' r := by
  cases r with
  | ok fl ρ' =>
    cases fl with
    | nx => exact fun F' H' σ' st er => p F' H' σ' (s.trans st) er
    | bk => exact fun F' H' σ' st er => p F' H' σ' (s.trans st) er
    | ct => exact fun F' H' σ' st er => p F' H' σ' (s.trans st) er
    | rt t => exact fun F' H' σ' v st er hr hn => p F' H' σ' v (s.trans st) er hr (hn.step s)
  | exc C fs ρ' => exact fun F' H' σ' cls d st er x => p F' H' σ' cls d (s.trans st) er x
  | bad => exact p
theorem PU.step {Q : L2.St → Hp → Prop} {r : Rs Unit} (p : PU K vs W F H P Q r) (s : Step F H P F1 H1 P1) : PU K vs W F1 H1 P1 Q r := by
  cases r with
  | ok fl ρ' => exact fun F' H' σ' st er => p F' H' σ' (s.trans st) er
  | exc C fs ρ' => exact fun F' H' σ' cls d st er x => p F' H' σ' cls d (s.trans st) er x
  | bad => exact p
theorem at_store {r : Root} (hi : i < ρ.sl.length) : (ρ.store i t).at r = if r = .s i then some t else ρ.at r := by
  cases r with
  | g j => rfl
  | s k =>
    by_cases e : k = i
    · subst e
      rw [if_pos rfl, Env.at_s]
      show (ρ.sl.set k _)[k]? = _
      simp [hi]
    · rw [if_neg (fun q => e (by cases q; rfl))]
      show (match (ρ.sl.set i (some (.loc t)))[k]? with | some (some (.loc t)) => some t | _ => none) = _
      rw [List.getElem?_set_ne (fun q => e q.symm)]
      rfl
theorem rootv_set {r : Root} {w : V} (hi : i < σ.length) : RootV vs (σ.set i (some v)) r w ↔ if r = .s i then w = v else RootV vs σ r w := by
  cases r with
  | g j => rw [if_neg (by simp)]; exact Iff.rfl
  | s k =>
    by_cases e : k = i
    · subst e
      rw [if_pos rfl]
      show (σ.set k (some v))[k]? = _ ↔ _
      simp [hi]
      exact eq_comm
    · rw [if_neg (fun q => e (by cases q; rfl))]
      show (σ.set i (some v))[k]? = _ ↔ _
      rw [List.getElem?_set_ne (fun q => e q.symm)]
      exact Iff.rfl
theorem fp_store {a : Addr} (hi : i < ρ.sl.length) (hs : ρ.sl.length = σ.length) (q : Fp vs (σ.set i (some v)) (ρ.store i t) a) : Fp vs σ ρ a ∨ (t.o = true ∧ v = .ref a) := by
  obtain ⟨r, d, e, hv⟩ := q
  rw [at_store hi] at e
  rw [rootv_set (hs ▸ hi)] at hv
  by_cases z : r = .s i
  · rw [if_pos z] at e hv
    cases e
    exact .inr ⟨rfl, hv.symm⟩
  · rw [if_neg z] at e hv
    exact .inl ⟨r, d, e, hv⟩
theorem ER.store (E : ER K vs σ F H ρ) (hi : i < ρ.sl.length) (r : HR K vs σ F H ρ v (.val t)) : ER K vs (σ.set i (some v)) F H (ρ.store i t) := by
  have hs : i < σ.length := E.sl ▸ hi
  cases r with
  | val r n =>
    have sep : ∀ a d r', ρ.at r' = some ⟨true, d⟩ → RootV vs σ r' (.ref a) → t.o = true → v = .ref a → False := fun a d r' e hv ho ev => n ho a ev ⟨r', d, e, hv⟩
    refine ⟨E.sub, E.gl, ?_, fun k j q => ?_, fun r' t' e => ?_, fun r1 r2 d1 d2 a e1 e2 v1 v2 => ?_⟩
    · show (ρ.sl.set i _).length = (σ.set i _).length
      simp [E.sl]
    · have hk : k ≠ i := fun e => by
        subst e
        rw [show (ρ.store k t).sl[k]? = some (some (.loc t)) by show (ρ.sl.set k _)[k]? = _; simp [hi]] at q
        cases q
      rw [show (ρ.store i t).sl[k]? = ρ.sl[k]? by show (ρ.sl.set i _)[k]? = _; rw [List.getElem?_set_ne (fun q => hk q.symm)]] at q
      obtain ⟨w, h1, h2⟩ := E.par k j q
      exact ⟨w, h1, by rw [List.getElem?_set_ne (fun q => hk q.symm)]; exact h2⟩
    · rw [at_store hi] at e
      by_cases z : r' = .s i
      · rw [if_pos z] at e
        cases e
        exact ⟨v, by rw [rootv_set hs, if_pos z], r⟩
      · rw [if_neg z] at e
        obtain ⟨w, h1, h2⟩ := E.rel _ _ e
        exact ⟨w, by rw [rootv_set hs, if_neg z]; exact h1, h2⟩
    · rw [at_store hi] at e1 e2
      rw [rootv_set hs] at v1 v2
      by_cases z1 : r1 = .s i
      · by_cases z2 : r2 = .s i
        · rw [z1, z2]
        · rw [if_pos z1] at e1 v1
          rw [if_neg z2] at e2 v2
          cases e1
          exact (sep a d2 r2 e2 v2 rfl v1.symm).elim
      · rw [if_neg z1] at e1 v1
        by_cases z2 : r2 = .s i
        · rw [if_pos z2] at e2 v2
          cases e2
          exact (sep a d1 r1 e1 v1 rfl v2.symm).elim
        · rw [if_neg z2] at e2 v2
          exact E.ap r1 r2 d1 d2 a e1 e2 v1 v2
theorem Step.store (s : Step F0 H0 P0 F H (Fp vs σ ρ)) (E : ER K vs σ F H ρ) (hi : i < ρ.sl.length) (n : HN H0 P0 v (.val t)) : Step F0 H0 P0 F H (Fp vs (σ.set i (some v)) (ρ.store i t)) :=
  ⟨s.le, s.sub, s.keep, s.new, fun a q => (fp_store hi E.sl q).elim (s.own a) fun ⟨ho, e⟩ => n ho a e⟩
theorem at_kill {r : Root} : (ρ.kill i).at r = if r = .s i then none else ρ.at r := by
  cases r with
  | g j => rfl
  | s k =>
    by_cases e : k = i
    · subst e
      rw [if_pos rfl]
      show (match (ρ.sl.set k none)[k]? with | some (some (.loc t)) => some t | _ => none) = none
      by_cases hk : k < ρ.sl.length
      · simp [hk]
      · simp [hk]
    · rw [if_neg (fun q => e (by cases q; rfl))]
      show (match (ρ.sl.set i none)[k]? with | some (some (.loc t)) => some t | _ => none) = _
      rw [List.getElem?_set_ne (fun q => e q.symm)]
      rfl
theorem ER.kill (E : ER K vs σ F H ρ) : ER K vs σ F H (ρ.kill i) := by
  refine ⟨E.sub, E.gl, ?_, fun k j q => ?_, fun r' t' e => ?_, fun r1 r2 d1 d2 a e1 e2 v1 v2 => ?_⟩
  · show (ρ.sl.set i _).length = _
    simp [E.sl]
  · by_cases hk : i = k
    · subst hk
      exfalso
      replace q : (ρ.sl.set i none)[i]? = some (some (.par j)) := q
      by_cases hl : i < ρ.sl.length
      · simp [hl] at q
      · simp [hl] at q
    · rw [show (ρ.kill i).sl[k]? = ρ.sl[k]? by show (ρ.sl.set i _)[k]? = _; rw [List.getElem?_set_ne hk]] at q
      exact E.par k j q
  · rw [at_kill] at e
    split at e
    · cases e
    · exact E.rel _ _ e
  · rw [at_kill] at e1 e2
    split at e1
    · cases e1
    · split at e2
      · cases e2
      · exact E.ap r1 r2 d1 d2 a e1 e2 v1 v2
theorem fp_kill {a : Addr} (q : Fp vs σ (ρ.kill i) a) : Fp vs σ ρ a := by
  obtain ⟨r, d, e, hv⟩ := q
  rw [at_kill] at e
  split at e
  · cases e
  · exact ⟨r, d, e, hv⟩
end
section
variable {X : Cx} {W : WX} {vs : List V} {a b c e tg : Expr} {f : Env → Rs Hnd} {tf : Env → Rs Bool} {g : Hnd → Env → Rs Unit} {F0 H0 F H : Hp} {P0 : Addr → Prop} {ρ : Env} {σ : L2.St} {st : Stmt} {sts sts' : List Stmt} {fs gs : Env → Rs Fl} {pos : Pos}
/-- expression, then statement -/
theorem SE.goS {k : Hnd → Env → Rs Fl} {D : Ends} {Q2 : VK} (h : SE X W vs e f) (s0 : Step F0 H0 P0 F H (Fp vs σ ρ)) (E : ER X.K vs σ F H ρ) (p : PF X.K vs W F0 H0 P0 D ((f ρ).bind k))
    (hk : ∀ F1 H1 ρ1 v hd, Step F0 H0 P0 F1 H1 (Fp vs σ ρ1) → Step F H (Fp vs σ ρ) F1 H1 (Fp vs σ ρ1) → ER X.K vs σ F1 H1 ρ1 → HR X.K vs σ F1 H1 ρ1 v hd → HN H (Fp vs σ ρ) v hd → PF X.K vs W F0 H0 P0 D (k hd ρ1) → Q2 v H1) : wE X e σ H Q2 := by
  refine h σ F H ρ Q2 E ?_
  cases z : f ρ with
  | bad => rw [z] at p; exact p
  | exc C fs ρ' => rw [z] at p; exact fun F' H' cls d st er x => p F' H' σ cls d (s0.trans st) er x
  | ok hd ρ1 =>
    rw [z] at p
    exact fun F1 H1 v st er hr hn => hk F1 H1 ρ1 v hd (s0.trans st) st er hr hn p
theorem ST.goS {k : Bool → Env → Rs Fl} {D : Ends} {Q2 : Bool → Hp → Prop} (h : ST X W vs e tf) (s0 : Step F0 H0 P0 F H (Fp vs σ ρ)) (E : ER X.K vs σ F H ρ) (p : PF X.K vs W F0 H0 P0 D ((tf ρ).bind k))
    (hk : ∀ F1 H1 ρ1 b, Step F0 H0 P0 F1 H1 (Fp vs σ ρ1) → ER X.K vs σ F1 H1 ρ1 → PF X.K vs W F0 H0 P0 D (k b ρ1) → Q2 b H1) : wT X e σ H Q2 := by
  refine h σ F H ρ Q2 E ?_
  cases z : tf ρ with
  | bad => rw [z] at p; exact p
  | exc C fs ρ' => rw [z] at p; exact fun F' H' cls d st er x => p F' H' σ cls d (s0.trans st) er x
  | ok hd ρ1 =>
    rw [z] at p
    exact fun F1 H1 st er => hk F1 H1 ρ1 hd (s0.trans st) er p
theorem SG.goS {k : Unit → Env → Rs Fl} {D : Ends} {v : V} {hd : Hnd} {Q2 : L2.St → Hp → Prop} (h : SG X W vs tg g) (s0 : Step F0 H0 P0 F H (Fp vs σ ρ)) (E : ER X.K vs σ F H ρ) (hr : HR X.K vs σ F H ρ v hd) (hn : HN H0 P0 v hd) (p : PF X.K vs W F0 H0 P0 D ((g hd ρ).bind k))
    (hk : ∀ F1 H1 ρ1 σ1, Step F0 H0 P0 F1 H1 (Fp vs σ1 ρ1) → ER X.K vs σ1 F1 H1 ρ1 → PF X.K vs W F0 H0 P0 D (k () ρ1) → Q2 σ1 H1) : wG X tg v σ H Q2 := by
  refine h σ F0 H0 P0 F H ρ v hd Q2 s0 E hr hn ?_
  cases z : g hd ρ with
  | bad => rw [z] at p; exact p
  | exc C fs ρ' => rw [z] at p; exact p
  | ok u ρ1 =>
    rw [z] at p
    exact fun F1 H1 σ1 st er => hk F1 H1 ρ1 σ1 st er p
theorem ss_pass : SS X W vs (.Pass pos) (fun ρ => .ok .nx ρ) := ⟨fun σ F H ρ D E p => ps_pass.w (p F H σ (.refl E.sub) E)⟩
theorem ss_break : SS X W vs (.Break pos) (fun ρ => .ok .bk ρ) := ⟨fun σ F H ρ D E p => ps_break.w (p F H σ (.refl E.sub) E)⟩
theorem ss_cont : SS X W vs (.Continue pos) (fun ρ => .ok .ct ρ) := ⟨fun σ F H ρ D E p => ps_continue.w (p F H σ (.refl E.sub) E)⟩
theorem ss_doc {x j pos'} : SS X W vs (.Expr (.Constant (.str x) j pos) pos') (fun ρ => .ok .nx ρ) := ⟨fun σ F H ρ D E p => ps_doc.w (p F H σ (.refl E.sub) E)⟩
theorem ss_expr (h : SE X W vs e f) (hs : swapsWith e none pos.line X.env = pure false := by rfl) : SS X W vs (.Expr e pos) (fun ρ => (f ρ).bind fun _ ρ1 => .ok .nx ρ1) := by
  constructor; intro σ F H ρ D E p
  refine (ps_expr (pe_w X e) hs).w ?_
  exact h.goS (.refl E.sub) E p fun F1 H1 ρ1 v hd s1 t1 E1 r1 n1 p1 => p1 F1 H1 σ s1 E1
theorem ss_if {p q : List Stmt} (hc : ST X W vs c tf) (hp : SSs X W vs p fs) (hq : SSs X W vs q gs) : SS X W vs (.If c p q pos) (fun ρ => (tf ρ).bind fun b ρ1 => if b = true then fs ρ1 else gs ρ1) := by
  constructor; intro σ F H ρ D E pp
  refine (ps_if (pt_w X c) (pss_w X p) (pss_w X q)).w ?_
  refine hc.goS (.refl E.sub) E pp fun F1 H1 ρ1 b s1 E1 p1 => ?_
  cases b with
  | true => rw [if_pos rfl] at p1 ⊢; exact hp σ F1 H1 ρ1 D E1 (p1.step s1)
  | false => rw [if_neg Bool.false_ne_true] at p1 ⊢; exact hq σ F1 H1 ρ1 D E1 (p1.step s1)
theorem sss_nil : SSs X W vs [] (fun ρ => .ok .nx ρ) := ⟨fun σ F H ρ D E p => pss_nil.w (p F H σ (.refl E.sub) E)⟩
theorem sss_one (h : SS X W vs st fs) : SSs X W vs [st] fs := ⟨fun σ F H ρ D E p => (pss_one (ps_w X st)).w (h σ F H ρ D E p)⟩
theorem sss_cons (h : SS X W vs st fs) (h' : SSs X W vs sts gs) : SSs X W vs (st :: sts) (sqS fs gs) := by
  constructor; intro σ F H ρ D E p
  refine (pss_cons (ps_w X st) (pss_w X sts)).w ?_
  refine h σ F H ρ _ E ?_
  unfold sqS at p
  cases z : fs ρ with
  | bad => rw [z] at p; exact p
  | exc C fs ρ' => rw [z] at p; exact p
  | ok fl ρ1 =>
    rw [z] at p
    cases fl with
    | nx => exact fun F1 H1 σ1 s1 E1 => h' σ1 F1 H1 ρ1 D E1 (PF.step p s1)
    | bk => exact p
    | ct => exact p
    | rt t => exact p
theorem ss_ret (h : SE X W vs e f) : SS X W vs (.Return (some e) pos) (fun ρ => (f ρ).bind fnRet) := by
  constructor; intro σ F H ρ D E p
  refine (ps_ret (pe_w X e)).w ?_
  refine h.goS (.refl E.sub) E p fun F1 H1 ρ1 v hd s1 t1 E1 r1 n1 p1 => ?_
  cases hd with
  | val t => exact p1 F1 H1 σ v s1 E1 r1 n1
  | rt r =>
    cases r with
    | s i =>
      replace p1 : PF X.K vs W F H (Fp vs σ ρ) D (match ρ1.at (.s i) with | some t => .ok (.rt t) (ρ1.kill i) | none => .bad) := p1
      cases z : ρ1.at (.s i) with
      | none => rw [z] at p1; exact p1.elim
      | some t =>
        rw [z] at p1
        cases r1 with
        | rt hv =>
          obtain ⟨w, h1, h2⟩ := E1.rel _ _ z
          cases h1.inj hv
          refine p1 F1 H1 σ v (s1.mono fun a q => fp_kill q) E1.kill (.val h2 fun ho a ev q => ?_) fun ho a ev => s1.own a ⟨_, t.d, by rw [z]; cases t; cases ho; rfl, ev ▸ hv⟩
          obtain ⟨r', d', e', hv'⟩ := q
          rw [at_kill] at e'
          split at e'
          · cases e'
          · rename_i hne
            exact hne (E1.ap r' (.s i) d' t.d a e' (by rw [z]; cases t; cases ho; rfl) hv' (ev ▸ hv))
    | g j =>
      replace p1 : PF X.K vs W F H (Fp vs σ ρ) D ((frz (.rt (.g j)) ρ1).bind fun d ρ1 => .ok (.rt (fz d)) ρ1) := p1
      cases z : frz (.rt (.g j)) ρ1 with
      | bad => rw [z] at p1; exact p1.elim
      | exc C fs ρ' => exact (frz_noexc z).elim
      | ok d ρ2 =>
        rw [z] at p1
        obtain ⟨F2, s2, E2, rd, le, _, _⟩ := frz_ok s1 E1 r1 n1 z
        exact p1 F2 H1 σ v s2 E2 (.val (.fz rd) fun q => by cases q) fun q => by cases q
theorem ss_retN : SS X W vs (.Return none pos) (fun ρ => .ok (.rt (fz .non)) ρ) := ⟨fun σ F H ρ D E p => ps_retN.w (p F H σ .non (.refl E.sub) E (.val (.fz .non) fun q => by cases q) fun q => by cases q)⟩
theorem sg_name {i : Nat} {x : Str} (hN : X.N.Nodup) (hi : X.N[i]? = some x) (hx : Loc X.env.scope x) (hf : X.fn x = true ∨ X.env.scope.names.lookup x = some .local := by first | exact .inl rfl | exact .inr rfl | assumption) : SG X W vs (.Name x pos) (stName i) := by
  constructor; intro σ F0 H0 P0 F H ρ v h Q s0 E hr hn p
  refine (pg_name hN hi hx hf).w ?_
  cases h with
  | val t =>
    replace p : PU X.K vs W F0 H0 P0 Q (if i < ρ.sl.length then .ok () (ρ.store i t) else .bad) := p
    split at p
    · rename_i hl
      exact p F H _ (s0.store E hl hn) (E.store hl hr)
    · exact p.elim
  | rt r =>
    replace p : PU X.K vs W F0 H0 P0 Q ((frz (.rt r) ρ).bind fun d ρ1 => if i < ρ1.sl.length then .ok () (ρ1.store i (fz d)) else .bad) := p
    cases z : frz (.rt r) ρ with
    | bad => rw [z] at p; exact p.elim
    | exc C fs ρ' => exact (frz_noexc z).elim
    | ok d ρ2 =>
      rw [z, Rs.bind_ok] at p
      obtain ⟨F2, s2, E2, rd, le, _, _⟩ := frz_ok s0 E hr hn z
      split at p
      · rename_i hl
        exact p F2 H _ (s2.store E2 hl (t := fz d) fun q => by cases q) (E2.store hl (.val (.fz rd) fun q => by cases q))
      · exact p.elim
def asgS (f : Env → Rs Hnd) (g : Hnd → Env → Rs Unit) (ρ : Env) : Rs Fl := (f ρ).bind fun h ρ1 => (g h ρ1).bind fun _ ρ2 => .ok .nx ρ2
theorem ss_set {i : Nat} {x : Str} {pos' : Pos} (hN : X.N.Nodup) (hi : X.N[i]? = some x) (hx : Loc X.env.scope x) (h : SE X W vs e f) (hs : swapsWith e (some (.Name x pos')) pos.line X.env = pure false := by rfl) (hf : X.fn x = true ∨ X.env.scope.names.lookup x = some .local := by first | exact .inl rfl | exact .inr rfl | assumption) :
    SS X W vs (.Assign [.Name x pos'] e pos) (asgS f (stName i)) := by
  constructor; intro σ F H ρ D E p
  refine (ps_set (i := i) hN hi hx (pe_w X e) hs hf).w ?_
  refine h.goS (.refl E.sub) E p fun F1 H1 ρ1 v hd s1 t1 E1 r1 n1 p1 => ?_
  have q := (sg_name (pos := pos') hN hi hx hf).goS (Q2 := fun σ' H' => D.nx σ' H') s1 E1 r1 n1 p1 fun F2 H2 ρ2 σ2 s2 E2 p2 => p2 F2 H2 σ2 s2 E2
  cases hd with
  | val t =>
    replace p1 : PF X.K vs W F H (Fp vs σ ρ) D ((if i < ρ1.sl.length then Rs.ok () (ρ1.store i t) else .bad).bind fun _ ρ2 => .ok .nx ρ2) := p1
    split at p1
    · rename_i hl
      exact p1 F1 H1 _ (s1.store E1 hl n1) (E1.store hl r1)
    · exact p1.elim
  | rt r =>
    replace p1 : PF X.K vs W F H (Fp vs σ ρ) D (((frz (.rt r) ρ1).bind fun d ρ1 => if i < ρ1.sl.length then Rs.ok () (ρ1.store i (fz d)) else .bad).bind fun _ ρ2 => .ok .nx ρ2) := p1
    cases z : frz (.rt r) ρ1 with
    | bad => rw [z] at p1; exact p1.elim
    | exc C fs ρ' => exact (frz_noexc z).elim
    | ok d ρ2 =>
      rw [z, Rs.bind_ok] at p1
      obtain ⟨F2, s2, E2, rd, le, _, _⟩ := frz_ok s1 E1 r1 n1 z
      split at p1
      · rename_i hl
        exact p1 F2 H1 _ (s2.store E2 hl (t := fz d) fun q => by cases q) (E2.store hl (.val (.fz rd) fun q => by cases q))
      · exact p1.elim
theorem ss_asg (h : SE X W vs e f) (hg : SG X W vs tg g) (hs : swapsWithSole [tg] e pos.line X.env = pure false := by rfl) (hw : swappedStores [tg] e X.env = pure none := by rfl)
    (h1 : (assignEach [tg] X.env).map (·.2) = [assign tg X.env] := by rfl) : SS X W vs (.Assign [tg] e pos) (asgS f g) := by
  constructor; intro σ F H ρ D E p
  refine (ps_asg (pe_w X e) (pg_w X tg) hs hw h1).w ?_
  refine h.goS (.refl E.sub) E p fun F1 H1 ρ1 v hd s1 t1 E1 r1 n1 p1 => ?_
  exact hg.goS s1 E1 r1 n1 p1 fun F2 H2 ρ2 σ2 s2 E2 p2 => p2 F2 H2 σ2 s2 E2
/-! ### while -/
def whN (tf : Env → Rs Bool) (body : Env → Rs Fl) : Nat → Env → Rs Fl
  | 0, _ => .bad
  | n + 1, ρ => (tf ρ).bind fun b ρ1 => if b = true then (body ρ1).bind fun fl ρ2 => match fl with
    | .nx => whN tf body n ρ2
    | .ct => whN tf body n ρ2
    | .bk => .ok .nx ρ2
    | .rt t => .ok (.rt t) ρ2
    else .ok .nx ρ1
open Classical in
noncomputable def whl (tf : Env → Rs Bool) (body : Env → Rs Fl) (ρ : Env) : Rs Fl := if h : ∃ n, whN tf body n ρ ≠ .bad then whN tf body h.choose ρ else .bad
theorem whN_mono {tf : Env → Rs Bool} {body : Env → Rs Fl} : ∀ {n : Nat} {ρ : Env} {r : Rs Fl} (m : Nat), whN tf body n ρ = r → r ≠ .bad → n ≤ m → whN tf body m ρ = r
  | 0, _, _, _, e, h, _ => absurd e.symm h
  | n + 1, ρ, r, 0, _, _, hl => absurd hl (by omega)
  | n + 1, ρ, r, m + 1, e, h, hl => by
    unfold whN at e ⊢
    cases z : tf ρ with
    | bad => rw [z] at e; exact e
    | exc C fs ρ' => rw [z] at e; exact e
    | ok b ρ1 =>
      rw [z, Rs.bind_ok] at e
      rw [Rs.bind_ok]
      split at e
      · rename_i hb
        rw [if_pos hb]
        cases z2 : body ρ1 with
        | bad => rw [z2] at e; exact e
        | exc C fs ρ' => rw [z2] at e; exact e
        | ok fl ρ2 =>
          rw [z2, Rs.bind_ok] at e
          rw [Rs.bind_ok]
          cases fl with
          | nx => exact whN_mono m e h (by omega)
          | ct => exact whN_mono m e h (by omega)
          | bk => exact e
          | rt t => exact e
      · rename_i hb
        rw [if_neg hb]
        exact e
theorem whl_of {tf : Env → Rs Bool} {body : Env → Rs Fl} {n : Nat} {ρ : Env} {r : Rs Fl} (e : whN tf body n ρ = r) (h : r ≠ .bad) : whl tf body ρ = r := by
  have hx : ∃ n, whN tf body n ρ ≠ .bad := ⟨n, by rw [e]; exact h⟩
  unfold whl
  rw [dif_pos hx]
  have h1 := whN_mono (max n hx.choose) e h (Nat.le_max_left _ _)
  have h2 := whN_mono (max n hx.choose) (rfl : whN tf body hx.choose ρ = _) hx.choose_spec (Nat.le_max_right _ _)
  rw [← h2, h1]
theorem ss_while {body : List Stmt} (hp : PassesOwn (model X.prog X.w) X.A X.env X.xe) (hc : ST X W vs c tf) (hb : SSs X W vs body fs) : SS X W vs (.While c body [] pos) (whl tf fs) := by
  constructor; intro σ F H ρ D E p
  refine (ps_while hp (pt_w X c) (pss_w X body)).w ?_
  unfold whl at p
  split at p
  · rename_i hx
    refine ⟨fun n σ' H' => ∃ F' ρ', Step F H (Fp vs σ ρ) F' H' (Fp vs σ' ρ') ∧ ER X.K vs σ' F' H' ρ' ∧ PF X.K vs W F H (Fp vs σ ρ) D (whN tf fs n ρ'), ⟨_, F, ρ, .refl E.sub, E, p⟩, ?_⟩
    rintro n σ1 H1 ⟨F1, ρ1, s1, E1, p1⟩
    cases n with
    | zero => exact p1.elim
    | succ n =>
      refine hc.goS s1 E1 p1 fun F2 H2 ρ2 b s2 E2 p2 => ?_
      cases b with
      | false => rw [if_neg Bool.false_ne_true] at p2 ⊢; exact p2 F2 H2 σ1 s2 E2
      | true =>
        rw [if_pos rfl] at p2 ⊢
        refine ⟨fun σ' H' => ∃ F' ρ', Step F H (Fp vs σ ρ) F' H' (Fp vs σ' ρ') ∧ ER X.K vs σ' F' H' ρ' ∧ PF X.K vs W F H (Fp vs σ ρ) D (whN tf fs n ρ'), fun σ' H' q => ⟨n, by omega, q⟩, ?_⟩
        refine hb σ1 F2 H2 ρ2 _ E2 ?_
        cases z : fs ρ2 with
        | bad => rw [z] at p2; exact p2
        | exc C fs' ρ' => rw [z] at p2; exact PF.step (r := .exc C fs' ρ') p2 s2
        | ok fl ρ3 =>
          rw [z, Rs.bind_ok] at p2
          cases fl with
          | nx => exact fun F' H' σ' s' E' => ⟨F', ρ3, s2.trans s', E', p2⟩
          | ct => exact fun F' H' σ' s' E' => ⟨F', ρ3, s2.trans s', E', p2⟩
          | bk => exact fun F' H' σ' s' E' => p2 F' H' σ' (s2.trans s') E'
          | rt t => exact fun F' H' σ' v s' E' hr hn => p2 F' H' σ' v (s2.trans s') E' hr (hn.step s2)
  · exact p.elim
end
end MP
end

section
set_option maxHeartbeats 4000000
/-! What is walked; for. -/
namespace MP
open PySem PySem.Spec PyProof.Rows L2

/-- J gives the data ds, one after another, while F0 stays -/
def IWalk (K : PySem.W.Frag) (F0 : Hp) (J : It) (ds : List D) : Prop := ∃ G Y, Walk J ds.length G Y ∧ (∀ F H, Le F0 F → Sub F H → G H) ∧
  ∀ i F H x H', Le F0 F → Sub F H → i < ds.length → Y i H x H' → ∃ F', Grow F H F' H' ∧ ∃ d, ds[i]? = some d ∧ Rep K F' x d
section
variable (K : PySem.W.Frag) (vs : List V) (σ : L2.St)
def PIt (W : WX) (F H : Hp) (P : Addr → Prop) (R : It → Hp → Prop) : Rs (List D) → Prop
  | .ok ds ρ' => ∀ F' H' J, Step F H P F' H' (Fp vs σ ρ') → ER K vs σ F' H' ρ' → IWalk K F' J ds → R J H'
  | .exc C fs ρ' => ∀ F' H' cls d, Step F H P F' H' (Fp vs σ ρ') → ER K vs σ F' H' ρ' → ExV K F' H' C fs cls d → W cls d σ H'
  | .bad => False
end
def wI (X : Cx) (tg iter : Expr) : TI := fun σ H R => ∀ (pins : List (Addr × Obj)) (s : Shared), Inv X pins σ H s →
    wpAny (model X.prog X.w) X.A (eval iter X.env) (fun v s1 => wpAny (model X.prog X.w) X.A (pyIter v) (PIE X pins σ tg R) X.xe s1) X.xe s
theorem pi_w (X : Cx) (tg iter : Expr) : PI X tg iter (wI X tg iter) := ⟨fun pins s σ H R I h => h pins s I⟩
theorem _root_.L2.PI.w {X : Cx} {tg iter : Expr} {t : TI} (h : PI X tg iter t) {σ : L2.St} {H : Hp} {R : It → Hp → Prop} (q : t σ H R) : wI X tg iter σ H R := fun pins s I => h.run pins s σ H R I q
structure SI (X : Cx) (W : WX) (vs : List V) (tg iter : Expr) (f : Env → Rs (List D)) : Prop where
  run : ∀ (σ : L2.St) (F H : Hp) (ρ : Env) (R : It → Hp → Prop), ER X.K vs σ F H ρ → PIt X.K vs σ W F H (Fp vs σ ρ) R (f ρ) → wI X tg iter σ H R
instance {X : Cx} {W : WX} {vs : List V} {tg iter : Expr} {f : Env → Rs (List D)} : CoeFun (SI X W vs tg iter f) (fun _ => ∀ (σ : L2.St) (F H : Hp) (ρ : Env) (R : It → Hp → Prop), ER X.K vs σ F H ρ → PIt X.K vs σ W F H (Fp vs σ ρ) R (f ρ) → wI X tg iter σ H R) := ⟨SI.run⟩

/-- for -/
def forL (g : Hnd → Env → Rs Unit) (body : Env → Rs Fl) : List D → Env → Rs Fl
  | [], ρ => .ok .nx ρ
  | d :: ds, ρ => (g (.val (fz d)) ρ).bind fun _ ρ1 => (body ρ1).bind fun fl ρ2 => match fl with
    | .nx => forL g body ds ρ2
    | .ct => forL g body ds ρ2
    | .bk => .ok .nx ρ2
    | .rt t => .ok (.rt t) ρ2
def forS (fi : Env → Rs (List D)) (g : Hnd → Env → Rs Unit) (body : Env → Rs Fl) (ρ : Env) : Rs Fl := (fi ρ).bind fun ds ρ1 => forL g body ds ρ1

section
variable {X : Cx} {W : WX} {vs : List V} {tg iter e e2 : Expr} {fi : Env → Rs (List D)} {fe : Env → Rs Hnd} {fa : Env → Rs (List Hnd)} {g : Hnd → Env → Rs Unit} {body : List Stmt} {fb : Env → Rs Fl} {pos p : Pos}
theorem ss_for (hp : PassesOwn (model X.prog X.w) X.A X.env X.xe) (hc : X.calm = true) (hi : SI X W vs tg iter fi) (hg : SG X W vs tg g) (hb : SSs X W vs body fb)
    (hs : ∀ x, foldedSetIterable iter X.env x = pure x := by intro _; rfl) : SS X W vs (.For tg iter body [] pos) (forS fi g fb) := by
  constructor; intro σ F H ρ D E p
  refine (ps_for hp hc (pi_w X tg iter) (pg_w X tg) (pss_w X body) hs).w ?_
  refine hi σ F H ρ _ E ?_
  unfold forS at p
  cases z : fi ρ with
  | bad => rw [z] at p; exact p
  | exc C fs ρ' => rw [z] at p; exact fun F' H' cls d st er x => p F' H' σ cls d st er x
  | ok ds ρ1 =>
    rw [z, Rs.bind_ok] at p
    intro F1 H1 J s1 E1 ⟨G, Y, wk, hG, hY⟩
    refine for_it wk (fun i σ' H' => ∃ F' ρ', Step F H (Fp vs σ ρ) F' H' (Fp vs σ' ρ') ∧ ER X.K vs σ' F' H' ρ' ∧ Le F1 F' ∧ PF X.K vs W F H (Fp vs σ ρ) D (forL g fb (ds.drop i) ρ')) ⟨F1, ρ1, s1, E1, .refl _, p⟩ (fun i σ' H' hi q => ?_) (fun i x σ2 H2 H' hi q y => ?_) fun σ' H' q => ?_
    · obtain ⟨F', ρ', _, E', le, _⟩ := q
      exact hG F' H' le E'.sub
    · obtain ⟨F2, ρ2, s2, E2, le, p2⟩ := q
      obtain ⟨F3, gr, d, ed, rd⟩ := hY i F2 H2 x H' le E2.sub hi y
      have e3 : ds.drop i = d :: ds.drop (i + 1) := by
        obtain ⟨h1, h2⟩ := List.getElem?_eq_some_iff.mp ed
        rw [List.drop_eq_getElem_cons h1, h2]
      rw [e3] at p2
      have s3 : Step F H (Fp vs σ ρ) F3 H' (Fp vs σ2 ρ2) := s2.trans gr.step
      refine hg σ2 F3 H' _ F3 H' ρ2 x (.val (fz d)) _ (.refl gr.sub) (gr.er E2) (.val (.fz rd) fun q => by cases q) (fun q => by cases q) ?_
      replace p2 : PF X.K vs W F H (Fp vs σ ρ) D ((g (.val (fz d)) ρ2).bind fun _ ρ1 => (fb ρ1).bind fun fl ρ2 => match fl with
        | .nx => forL g fb (ds.drop (i + 1)) ρ2
        | .ct => forL g fb (ds.drop (i + 1)) ρ2
        | .bk => .ok .nx ρ2
        | .rt t => .ok (.rt t) ρ2) := p2
      cases z2 : g (.val (fz d)) ρ2 with
      | bad => rw [z2] at p2; exact p2
      | exc C fs ρ' => rw [z2] at p2; exact PU.step (r := .exc C fs ρ') (Q := D.nx) p2 s3
      | ok u ρ3 =>
        rw [z2, Rs.bind_ok] at p2
        intro F4 H4 σ4 s4' E4
        have s4 := s3.trans s4'
        refine hb σ4 F4 H4 ρ3 _ E4 ?_
        have le4 : Le F1 F4 := (le.trans gr.le).trans s4'.le
        cases z3 : fb ρ3 with
        | bad => rw [z3] at p2; exact p2
        | exc C fs ρ' => rw [z3] at p2; exact PF.step (r := .exc C fs ρ') p2 s4
        | ok fl ρ4 =>
          rw [z3, Rs.bind_ok] at p2
          cases fl with
          | nx => exact fun F' H' σ' s' E' => ⟨F', ρ4, s4.trans s', E', le4.trans s'.le, p2⟩
          | ct => exact fun F' H' σ' s' E' => ⟨F', ρ4, s4.trans s', E', le4.trans s'.le, p2⟩
          | bk => exact fun F' H' σ' s' E' => p2 F' H' σ' (s4.trans s') E'
          | rt t => exact fun F' H' σ' v s' E' hr hn => p2 F' H' σ' v (s4.trans s') E' hr (hn.step s4)
    · obtain ⟨F', ρ', s', E', le, p'⟩ := q
      rw [List.drop_length] at p'
      exact p' F' H' σ' s' E'

/-! ### what is walked -/
def itD : D → Option (List D)
  | .lst ds => some ds
  | .tup ds => some ds
  | .scr ns => some (ns.map D.int)
  | .dct kvs => some (kvs.map Prod.fst)
  | .str x => some (x.cps.toList.map fun c => .str ⟨#[c]⟩)
  | _ => none
def optR {α : Type} (o : Option α) (ρ : Env) : Rs α := match o with
  | some x => .ok x ρ
  | none => .bad
def itA (fe : Env → Rs Hnd) (ρ : Env) : Rs (List D) := (fe ρ).bind fun h ρ1 => (frz h ρ1).bind fun d ρ2 => optR (itD d) ρ2
theorem SE.goI {σ : L2.St} {F0 H0 F H : Hp} {P0 : Addr → Prop} {ρ : Env} {k : Hnd → Env → Rs (List D)} {R : It → Hp → Prop} {Q2 : VK} (h : SE X W vs e fe) (s0 : Step F0 H0 P0 F H (Fp vs σ ρ)) (E : ER X.K vs σ F H ρ) (p : PIt X.K vs σ W F0 H0 P0 R ((fe ρ).bind k))
    (hk : ∀ F1 H1 ρ1 v hd, Step F0 H0 P0 F1 H1 (Fp vs σ ρ1) → Step F H (Fp vs σ ρ) F1 H1 (Fp vs σ ρ1) → ER X.K vs σ F1 H1 ρ1 → HR X.K vs σ F1 H1 ρ1 v hd → HN H (Fp vs σ ρ) v hd → PIt X.K vs σ W F0 H0 P0 R (k hd ρ1) → Q2 v H1) : wE X e σ H Q2 := by
  refine h σ F H ρ Q2 E ?_
  cases z : fe ρ with
  | bad => rw [z] at p; exact p
  | exc C fs ρ' => rw [z] at p; exact fun F' H' cls d st er x => p F' H' cls d (s0.trans st) er x
  | ok hd ρ1 =>
    rw [z] at p
    exact fun F1 H1 v st er hr hn => hk F1 H1 ρ1 v hd (s0.trans st) st er hr hn p
theorem SA.goI {σ : L2.St} {F0 H0 F H : Hp} {P0 : Addr → Prop} {ρ : Env} {k : List Hnd → Env → Rs (List D)} {R : It → Hp → Prop} {Q2 : List V → Hp → Prop} {es : List Expr} (h : SA X W vs es fa) (s0 : Step F0 H0 P0 F H (Fp vs σ ρ)) (E : ER X.K vs σ F H ρ) (p : PIt X.K vs σ W F0 H0 P0 R ((fa ρ).bind k))
    (hk : ∀ F1 H1 ρ1 v hd, Step F0 H0 P0 F1 H1 (Fp vs σ ρ1) → Step F H (Fp vs σ ρ) F1 H1 (Fp vs σ ρ1) → ER X.K vs σ F1 H1 ρ1 → HRs X.K vs σ F1 H1 ρ1 v hd → HNs H (Fp vs σ ρ) v hd → PIt X.K vs σ W F0 H0 P0 R (k hd ρ1) → Q2 v H1) : wA X es σ H Q2 := by
  refine h σ F H ρ Q2 E ?_
  cases z : fa ρ with
  | bad => rw [z] at p; exact p
  | exc C fs ρ' => rw [z] at p; exact fun F' H' cls d st er x => p F' H' cls d (s0.trans st) er x
  | ok hd ρ1 =>
    rw [z] at p
    exact fun F1 H1 v st er hr hn => hk F1 H1 ρ1 v hd (s0.trans st) st er hr hn p
section
variable {K : PySem.W.Frag} {F F0 H : Hp} {a : Addr} {xs : List V} {ds : List D}
theorem iw_list (h : SqL K F0 a xs) (r : Reps K F0 xs ds) : IWalk K F0 (Itl K a) ds := by
  refine ⟨_, _, r.length ▸ walk_list, fun F H le sub => SqL.sub (SqL.le h le) sub, ?_⟩
  rintro i F H x H' le sub hi ⟨rfl, e⟩
  obtain ⟨d, e1, e2⟩ := Reps.get' (Reps.le le r) e
  exact ⟨F, .refl sub, d, e1, e2⟩
theorem iw_tup (h : SqT K F0 a xs) (r : Reps K F0 xs ds) : IWalk K F0 (Itt K a) ds := by
  refine ⟨_, _, r.length ▸ walk_tup, fun F H le sub => SqT.sub (SqT.le h le) sub, ?_⟩
  rintro i F H x H' le sub hi ⟨rfl, e⟩
  obtain ⟨d, e1, e2⟩ := Reps.get' (Reps.le le r) e
  exact ⟨F, .refl sub, d, e1, e2⟩
theorem iw_rev (h : SqL K F0 a xs) (r : Reps K F0 xs ds) : IWalk K F0 (Itv K a xs.length) ds.reverse := by
  have hl := r.length
  refine ⟨_, _, (by rw [List.length_reverse, ← hl]; exact walk_rev), fun F H le sub => SqL.sub (SqL.le h le) sub, ?_⟩
  rintro i F H x H' le sub hi ⟨rfl, e⟩
  obtain ⟨d, e1, e2⟩ := Reps.get' (Reps.le le r) e
  rw [List.length_reverse] at hi
  exact ⟨F, .refl sub, d, by rw [List.getElem?_reverse (by omega), ← hl]; exact e1, e2⟩
theorem reps_ints : ∀ ns : List Int, Reps K F (ns.map V.int) (ns.map D.int)
  | [] => .nil
  | n :: ns => .cons (.int n) (reps_ints ns)
theorem iw_range {lo : Int} {n : Nat} : IWalk K F0 (Itr lo n) ((List.range n).map fun (i : Nat) => D.int (lo + i)) := by
  refine ⟨_, _, (by rw [List.length_map, List.length_range]; exact walk_range), fun F H le sub => trivial, ?_⟩
  rintro i F H x H' le sub hi ⟨rfl, e⟩
  subst e
  rw [List.length_map, List.length_range] at hi
  exact ⟨F, .refl sub, .int (lo + i), by simp [hi], .int _⟩
theorem iw_rangeC {lo c : Int} {n : Nat} : IWalk K F0 (Itc lo c n) ((List.range n).map fun (i : Nat) => D.int (lo + (i : Nat) * c)) := by
  refine ⟨_, _, (by rw [List.length_map, List.length_range]; exact walk_rangeC), fun F H le sub => trivial, ?_⟩
  rintro i F H x H' le sub hi ⟨rfl, e⟩
  subst e
  rw [List.length_map, List.length_range] at hi
  exact ⟨F, .refl sub, .int (lo + (i : Nat) * c), by simp [hi], .int _⟩
theorem iw_str {x : Str} : IWalk K F0 (Its x) (x.cps.toList.map fun c => D.str ⟨#[c]⟩) := by
  refine ⟨_, _, (by rw [List.length_map]; exact walk_str), fun F H le sub => trivial, ?_⟩
  rintro i F H y H' le sub hi ⟨rfl, c, e, rfl⟩
  refine ⟨F, .refl sub, .str ⟨#[c]⟩, ?_, .str _⟩
  rw [List.getElem?_map, Array.getElem?_toList, e]
  rfl
theorem repKs_get' : ∀ {kvs : List (Key × V)} {ds : List (D × D)} {i : Nat} {k : Key} {v : V}, RepKs K F kvs ds → kvs[i]? = some (k, v) → ∃ d, ds[i]? = some (kD k, d) ∧ Rep K F v d
  | _, _, _, _, _, .nil, e => by simp at e
  | _, _, 0, _, _, .cons h _, e => by simp at e; obtain ⟨rfl, rfl⟩ := e; exact ⟨_, rfl, h⟩
  | _, _, i + 1, _, _, .cons _ r, e => by
    obtain ⟨d, h1, h2⟩ := repKs_get' (i := i) r (by simpa using e)
    exact ⟨d, by simpa using h1, h2⟩
theorem repKs_length : ∀ {kvs : List (Key × V)} {ds : List (D × D)}, RepKs K F kvs ds → kvs.length = ds.length
  | _, _, .nil => rfl
  | _, _, .cons _ r => by simp [repKs_length r]
theorem iw_keys {o : Obj} {kvs : List (Key × V)} {ds : List (D × D)} (h : F0 a = some (.frz o (.dK kvs))) (r : RepKs K F0 kvs ds) : IWalk K F0 (Itk a o kvs) (ds.map Prod.fst) := by
  refine ⟨_, _, (by rw [List.length_map, ← repKs_length r]; exact walk_keys), fun F H le sub => ?_, ?_⟩
  · obtain ⟨o', e, u | ⟨ob, u, ⟨_, z⟩⟩⟩ := le _ _ h
    · subst u; exact sub _ _ e
    · cases z
  · rintro i F H x H' le sub hi ⟨rfl, k, v, e, rfl⟩
    obtain ⟨d, e1, e2⟩ := repKs_get' r e
    exact ⟨F, .refl sub, kD k, by simp [e1], rep_kV k⟩
end
/-- a list, a tuple, a dict (its keys), a text -/
theorem si_any (hc : X.calm = true) (h : SE X W vs e fe) : SI X W vs tg e (itA fe) := by
  constructor; intro σ F H ρ R E p pins s I
  have := (h.goI (.refl E.sub) E p (Q2 := fun v H1 => ∃ F1 ρ1 hd, Step F H (Fp vs σ ρ) F1 H1 (Fp vs σ ρ1) ∧ ER X.K vs σ F1 H1 ρ1 ∧ HR X.K vs σ F1 H1 ρ1 v hd ∧ HN H (Fp vs σ ρ) v hd ∧ PIt X.K vs σ W F H (Fp vs σ ρ) R ((frz hd ρ1).bind fun d ρ2 => optR (itD d) ρ2))
    fun F1 H1 ρ1 v hd s1 _ E1 r1 n1 p1 => ⟨F1, ρ1, hd, s1, E1, r1, n1, p1⟩) pins s I
  refine thn this fun u s1 ⟨v, H1, I1, rv, F1, ρ1, hd, st1, E1, r1, n1, p1⟩ => ?_
  cases z : frz hd ρ1 with
  | bad => rw [z] at p1; exact p1.elim
  | exc C fs ρ' => exact (frz_noexc z).elim
  | ok d ρ2 =>
    rw [z, Rs.bind_ok] at p1
    obtain ⟨F2, s2, E2, rd, le, _, _⟩ := frz_ok st1 E1 r1 n1 z
    cases rd with
    | lst hl rs =>
      obtain rfl : u = Value.ref _ := rv
      have hq : SqL X.K F2 _ _ := .inl (.inl hl)
      obtain ⟨its, rv, p', hz⟩ := I1.list (SqL.sub hq E2.sub)
      exact wpAny_pyIter_list p'.isList (pi_one (tk := s1.toks) I1 _ (turn_list _ _) ⟨_, Heap.get?_push_size _ rfl, rfl, rfl⟩ (p1 F2 H1 _ s2 E2 (iw_list hq rs)))
    | scr hq =>
      obtain rfl : u = Value.ref _ := rv
      obtain ⟨its, rv, p', hz⟩ := I1.list (SqL.sub hq E2.sub)
      exact wpAny_pyIter_list p'.isList (pi_one (tk := s1.toks) I1 _ (turn_list _ _) ⟨_, Heap.get?_push_size _ rfl, rfl, rfl⟩ (p1 F2 H1 _ s2 E2 (iw_list hq (reps_ints _))))
    | tup hq rs =>
      obtain rfl : u = Value.ref _ := rv
      obtain ⟨its, rv, p', hz⟩ := I1.tuple (SqT.sub hq E2.sub)
      exact wpAny_pyIter_tuple (show s1.heap.IsTuple _ its.toArray from p') (pi_one (tk := s1.toks) I1 _ (turn_tuple _ _) ⟨_, Heap.get?_push_size _ rfl, rfl, rfl⟩ (p1 F2 H1 _ s2 E2 (iw_tup hq rs)))
    | str x =>
      obtain ⟨t, rfl⟩ := rv
      have q := p1 F2 H1 _ s2 E2 iw_str
      cases ha : x.cps.all (· < 128)
      · exact wpAny_pyIter_wide ha (pi_one (tk := s1.toks) I1 _ (turn_str _ x t "str_iterator" (.inr rfl)) ⟨_, Heap.get?_push_size _ rfl, rfl, rfl⟩ q)
      · exact wpAny_pyIter_ascii ha (pi_one (tk := s1.toks) I1 _ (turn_str _ x t "str_ascii_iterator" (.inl rfl)) ⟨_, Heap.get?_push_size _ rfl, rfl, rfl⟩ q)
    | @dK a kvs ds hr rs =>
      obtain rfl : u = Value.ref _ := rv
      rcases hr with hr | ⟨o, hr⟩
      · -- locked from now on
        obtain ⟨od, I2⟩ := I1.lock (E2.sub _ _ hr) (by trivial)
        have hd' : (upd H1 a (.frz od (.dK kvs))) a = some (.frz od (.dK kvs)) := upd_same
        have le2 : Le F2 (upd F2 a (.frz od (.dK kvs))) := fun b o e => by
          by_cases q : b = a
          · subst q; rw [hr] at e; cases e; exact ⟨_, upd_same, .inr ⟨od, rfl, ⟨_, rfl⟩⟩⟩
          · exact ⟨o, by rw [upd_ne q]; exact e, .refl _⟩
        have s3 : Step F2 H1 (Fp vs σ ρ2) (upd F2 a (.frz od (.dK kvs))) (upd H1 a (.frz od (.dK kvs))) (Fp vs σ ρ2) := ⟨le2, E2.sub.upd2, fun b o e hb _ => by
          have q : b ≠ a := fun q => by subst q; rw [hr] at hb; cases hb
          rw [upd_ne q]; exact e, fun b hb => by
          by_cases q : b = a
          · subst q; exact .inl (by rw [hr]; exact fun z => nomatch z)
          · rw [upd_ne q] at hb; exact .inl hb, fun b q => .inl q⟩
        have E3 : ER X.K vs σ (upd F2 a (.frz od (.dK kvs))) (upd H1 a (.frz od (.dK kvs))) ρ2 := E2.lift E2.sub.upd2 le2 fun b hb => by
          obtain ⟨_, hF⟩ := E2.fp hb
          have q : b ≠ a := fun q => by subst q; rw [hr] at hF; cases hF
          exact ⟨upd_ne q, by rw [upd_ne q]; exact hF⟩
        obtain ⟨hs, hgd, hx, es, ep, vs', hdt, hsz, kv, hm⟩ := I2.frzK hd'
        refine iter_keys hs hgd hx hdt (pi_one (tk := s1.toks) I2 _ (turn_keys _ hdt) ⟨_, Heap.get?_push_size _ rfl, rfl, ?_⟩ (p1 _ _ _ (s2.trans s3) E3 (iw_keys upd_same (RepKs.le le2 rs))))
        rw [hsz] <;> rfl
      · obtain ⟨hs, hgd, hx, es, ep, vs', hdt, hsz, kv, hm⟩ := I1.frzK (E2.sub _ _ hr)
        refine iter_keys hs hgd hx hdt (pi_one (tk := s1.toks) I1 _ (turn_keys _ hdt) ⟨_, Heap.get?_push_size _ rfl, rfl, ?_⟩ (p1 F2 H1 _ s2 E2 (iw_keys hr rs)))
        rw [hsz] <;> rfl
    | non => exact p1.elim
    | bl _ => exact p1.elim
    | int _ => exact p1.elim
    | ty _ => exact p1.elim
    | ins _ _ => exact p1.elim
    | obj _ => exact p1.elim
    | exc0 _ => exact p1.elim
    | exc _ _ _ => exact p1.elim
/-! range, enumerate, zip, reversed -/
def inR (j : Int) : Bool := decide (-(2 ^ 62) ≤ j) && decide (j < 2 ^ 62)
theorem inR_iff {j : Int} : inR j = true ↔ -(2 ^ 62) ≤ j ∧ j < 2 ^ 62 := by unfold inR; simp
def rng1 : D → Option (List D)
  | .int j => if inR j = true then some ((List.range j.toNat).map fun (i : Nat) => .int (0 + i)) else none
  | _ => none
def rng2 : D → D → Option (List D)
  | .int i, .int j => if inR i = true ∧ inR j = true then some ((List.range (j - i).toNat).map fun (k : Nat) => .int (i + k)) else none
  | _, _ => none
def rngDn : D → D → Option (List D)
  | .int i, .int j => if inR i = true ∧ inR j = true then some ((List.range (i - j).toNat).map fun (k : Nat) => .int (i + (k : Nat) * (-1))) else none
  | _, _ => none
def it1 (g : D → Option (List D)) (fa : Env → Rs Hnd) (ρ : Env) : Rs (List D) := (fa ρ).bind fun x ρ1 => match x.look ρ1 with
  | some t => optR (g t.d) ρ1
  | none => .bad
def it2 (g : D → D → Option (List D)) (fa fb : Env → Rs Hnd) (ρ : Env) : Rs (List D) := (fa ρ).bind fun x ρ1 => (fb ρ1).bind fun y ρ2 => match x.look ρ2, y.look ρ2 with
  | some t, some u => optR (g t.d u.d) ρ2
  | _, _ => .bad
/-- frozen ones -/
def itF (g : D → Option (List D)) (fa : Env → Rs Hnd) (ρ : Env) : Rs (List D) := (fa ρ).bind fun x ρ1 => (frz x ρ1).bind fun d ρ2 => optR (g d) ρ2
def itF2 (g : D → D → Option (List D)) (fa fb : Env → Rs Hnd) (ρ : Env) : Rs (List D) := (fa ρ).bind fun x ρ1 => (fb ρ1).bind fun y ρ2 => (frzs [x, y] ρ2).bind fun ds ρ3 => match ds with
  | [a, b] => optR (g a b) ρ3
  | _ => .bad
def enumD : D → Option (List D)
  | .lst ds => some ((List.range ds.length).zipWith (fun i d => .tup [.int (i : Nat), d]) ds)
  | _ => none
def zipD : D → D → Option (List D)
  | .lst xs, .lst ys => some (xs.zipWith (fun x y => .tup [x, y]) ys)
  | .tup xs, .tup ys => some (xs.zipWith (fun x y => .tup [x, y]) ys)
  | _, _ => none
def revD : D → Option (List D)
  | .lst ds => some ds.reverse
  | .tup ds => some ds.reverse
  | _ => none
section
variable {K : PySem.W.Frag} {F0 : Hp} {a b : Addr} {xs ys : List V} {ds : List D}
theorem walk_revT : Walk (RT.ItvT K a xs.length) xs.length (fun H => SqT K H a xs) (fun i H x H' => H' = H ∧ xs[xs.length - 1 - i]? = some x) :=
  ⟨fun i _ hi q => ⟨hi, xs, xs[xs.length - 1 - i]'(by omega), q, by simp [show xs.length - 1 - i < xs.length by omega]⟩, fun _ _ => Nat.le_refl _, fun _ _ _ _ _ q y => ⟨y.1, y.2 xs q⟩⟩
theorem iw_revT (h : SqT K F0 a xs) (r : Reps K F0 xs ds) : IWalk K F0 (RT.ItvT K a xs.length) ds.reverse := by
  have hl := r.length
  refine ⟨_, _, (by rw [List.length_reverse, ← hl]; exact walk_revT), fun F H le sub => SqT.sub (SqT.le h le) sub, ?_⟩
  rintro i F H x H' le sub hi ⟨rfl, e⟩
  obtain ⟨d, e1, e2⟩ := Reps.get' (Reps.le le r) e
  rw [List.length_reverse] at hi
  exact ⟨F, .refl sub, d, by rw [List.getElem?_reverse (by omega), ← hl]; exact e1, e2⟩
theorem walk_zipT {n : Nat} (hn : n = min xs.length ys.length) : Walk (RZ.ItzT K a b) n (fun H => SqT K H a xs ∧ SqT K H b ys) (YPair (fun i => xs[i]?) (fun i => ys[i]?)) := by
  subst hn
  refine ⟨fun i _ hi q => ?_, fun _ q => ⟨xs, ys, q.1, q.2, by omega⟩, fun i H v H' _ q y => ?_⟩
  · have h1 : i < xs.length := by omega
    have h2 : i < ys.length := by omega
    exact ⟨xs, ys, xs[i], ys[i], q.1, q.2, by simp [h1], by simp [h2]⟩
  · obtain ⟨T, x, z, h1, h2, h3, h4, h5⟩ := y
    exact ⟨T, x, z, h1, h2, h3, h4 xs q.1, h5 ys q.2⟩
end
section
variable {K : PySem.W.Frag} {F F0 H : Hp} {a b : Addr} {xs ys : List V} {ds es : List D}
theorem iw_pair {J : It} {n : Nat} {G : Hp → Prop} {f g : Nat → Option V} {ts : List D} (w : Walk J ts.length G (YPair f g)) (hG : ∀ F H, Le F0 F → Sub F H → G H) (hd : ∀ i x y, i < ts.length → f i = some x → g i = some y → ∃ d e, ts[i]? = some (.tup [d, e]) ∧ Rep K F0 x d ∧ Rep K F0 y e) : IWalk K F0 J ts := by
  refine ⟨_, _, w, hG, ?_⟩
  rintro i F H v H' le sub hi ⟨T, x, y, rfl, hT, rfl, h1, h2⟩
  obtain ⟨d, e, h3, r1, r2⟩ := hd i x y hi h1 h2
  have l2 : Le F (upd F T (.tup [x, y])) := Le.upd (sub.none hT)
  exact ⟨_, .newF sub hT, _, h3, .tup (.inl (.inl upd_same)) (.cons (Rep.le (le.trans l2) r1) (.cons (Rep.le (le.trans l2) r2) .nil))⟩
theorem iw_enum (h : SqL K F0 a xs) (r : Reps K F0 xs ds) : IWalk K F0 (Ite K a) ((List.range ds.length).zipWith (fun i d => .tup [.int (i : Nat), d]) ds) := by
  have hl := r.length
  refine iw_pair (n := ds.length) (by rw [List.length_zipWith, List.length_range, Nat.min_self, ← hl]; exact walk_enum) (fun F H le sub => SqL.sub (SqL.le h le) sub) fun i x y hi e1 e2 => ?_
  cases e1
  obtain ⟨d, e3, e4⟩ := Reps.get' r e2
  have hi' : i < ds.length := (List.getElem?_eq_some_iff.mp e3).1
  exact ⟨.int (i : Nat), d, by simp [List.getElem?_zipWith, hi', e3, (List.getElem?_eq_some_iff.mp e3).2], .int _, e4⟩
theorem iw_zip {J : It} {G : Hp → Prop} (w : Walk J (min xs.length ys.length) G (YPair (fun i => xs[i]?) (fun i => ys[i]?))) (hG : ∀ F H, Le F0 F → Sub F H → G H) (r : Reps K F0 xs ds) (r' : Reps K F0 ys es) : IWalk K F0 J (ds.zipWith (fun x y => D.tup [x, y]) es) := by
  have hl := r.length
  have hl' := r'.length
  refine iw_pair (n := 0) (by rw [List.length_zipWith, ← hl, ← hl']; exact w) hG fun i x y hi e1 e2 => ?_
  obtain ⟨d, e3, e4⟩ := Reps.get' r e1
  obtain ⟨e, e5, e6⟩ := Reps.get' r' e2
  exact ⟨d, e, by simp [List.getElem?_zipWith, e3, e5], e4, e6⟩
end
section
variable {a b c : Expr} {fb' : Env → Rs Hnd}
theorem pit_opt {K : PySem.W.Frag} {σ : L2.St} {F H : Hp} {P : Addr → Prop} {R : It → Hp → Prop} {o : Option (List D)} {ρ : Env} (p : PIt K vs σ W F H P R (optR o ρ)) : ∃ ds, o = some ds ∧ PIt K vs σ W F H P R (.ok ds ρ) := by
  cases o with
  | none => exact p.elim
  | some ds => exact ⟨ds, rfl, p⟩
theorem si_range1 (hg : Gl X "range") (hm : X.mg "range" = none) (ha : SE X W vs a fe) (hs : starEach [a] X.env = [(false, eval a X.env)] := by rfl) : SI X W vs tg (.Call (.Name "range" p) [a] [] pos) (it1 rng1 fe) := by
  constructor; intro σ F H ρ R E q
  refine (pi_range1 hg hm (pa_cons (pe_w X a) pa_nil (by rw [hs]; rfl)) hs).w ?_
  refine ha.goI (.refl E.sub) E q fun F1 H1 ρ1 v x s1 _ E1 r1 n1 p1 => ?_
  split at p1
  · rename_i t e
    obtain ⟨ds, e1, p1⟩ := pit_opt p1
    have tr := r1.look E1 e
    unfold rng1 at e1
    split at e1
    · rename_i j e2
      split at e1
      · rename_i hj
        obtain ⟨o, d⟩ := t
        cases (show d = .int j from e2)
        cases tr.int
        cases e1
        obtain ⟨h1, h2⟩ := inR_iff.mp hj
        exact ⟨j, rfl, h1, h2, p1 F1 H1 _ s1 E1 iw_range⟩
      · cases e1
    · cases e1
  · exact p1.elim
theorem SE.go2I {σ : L2.St} {F0 H0 F H : Hp} {P0 : Addr → Prop} {ρ : Env} {k : Hnd → Hnd → Env → Rs (List D)} {R : It → Hp → Prop} {Q2 : V → V → Hp → Prop} (ha : SE X W vs a fe) (hb : SE X W vs b fb') (s0 : Step F0 H0 P0 F H (Fp vs σ ρ)) (E : ER X.K vs σ F H ρ)
    (p : PIt X.K vs σ W F0 H0 P0 R ((fe ρ).bind fun x ρ1 => (fb' ρ1).bind fun y ρ2 => k x y ρ2))
    (hk : ∀ F2 H2 ρ2 v w x y, Step F0 H0 P0 F2 H2 (Fp vs σ ρ2) → ER X.K vs σ F2 H2 ρ2 → HRs X.K vs σ F2 H2 ρ2 [v, w] [x, y] → HNs H0 P0 [v, w] [x, y] →
      PIt X.K vs σ W F0 H0 P0 R (k x y ρ2) → Q2 v w H2) :
    wE X a σ H (fun v H1 => wE X b σ H1 fun w H2 => Q2 v w H2) := by
  refine ha.goI s0 E p fun F1 H1 ρ1 v x s1 t1 E1 r1 n1 p1 => ?_
  refine hb.goI s1 E1 p1 fun F2 H2 ρ2 w y s2 t2 E2 r2 n2 p2 => ?_
  have n2' : HNs H1 (Fp vs σ ρ1) [w] [y] := fun w' h' m => by
    simp at m; obtain ⟨rfl, rfl⟩ := m; exact n2
  refine hk F2 H2 ρ2 v w x y s2 E2 (.cons (r1.step t2) (.cons r2 .nil fun t a _ _ _ w t' m => by simp at m) (cons_dist r1 n2')) (fun w' h' m => ?_) p2
  simp at m
  rcases m with ⟨rfl, rfl⟩ | ⟨rfl, rfl⟩
  · exact n1.step s0
  · exact n2.step s1
theorem HRs.two {K : PySem.W.Frag} {σ : L2.St} {F H : Hp} {ρ : Env} {v w : V} {x y : Hnd} (r : HRs K vs σ F H ρ [v, w] [x, y]) : HR K vs σ F H ρ v x ∧ HR K vs σ F H ρ w y := by
  cases r with
  | cons h r _ => cases r with
    | cons h' _ _ => exact ⟨h, h'⟩
theorem si_range2 (hg : Gl X "range") (hm : X.mg "range" = none) (ha : SE X W vs a fe) (hb : SE X W vs b fb') (hs : starEach [a, b] X.env = [(false, eval a X.env), (false, eval b X.env)] := by rfl) (hs2 : starEach [b] X.env = [(false, eval b X.env)] := by rfl) : SI X W vs tg (.Call (.Name "range" p) [a, b] [] pos) (it2 rng2 fe fb') := by
  constructor; intro σ F H ρ R E q
  refine (pi_range2 hg hm (pa_cons (pe_w X a) (pa_cons (pe_w X b) pa_nil (by rw [hs2]; rfl)) (by rw [hs, hs2])) hs hs2).w ?_
  refine SE.go2I ha hb (.refl E.sub) E q fun F2 H2 ρ2 v w x y s2 E2 r _ p1 => ?_
  obtain ⟨r1, r2⟩ := r.two
  split at p1
  · rename_i t u e e'
    obtain ⟨ds, e1, p1⟩ := pit_opt p1
    have tr := r1.look E2 e
    have tr' := r2.look E2 e'
    unfold rng2 at e1
    split at e1
    · rename_i i j e2 e3
      split at e1
      · rename_i hj
        obtain ⟨o, d⟩ := t
        obtain ⟨o', d'⟩ := u
        cases (show d = .int i from e2)
        cases (show d' = .int j from e3)
        cases tr.int
        cases tr'.int
        cases e1
        obtain ⟨h1, h2⟩ := inR_iff.mp hj.1
        obtain ⟨h3, h4⟩ := inR_iff.mp hj.2
        exact ⟨i, j, rfl, ⟨h1, h2, h3, h4⟩, p1 F2 H2 _ s2 E2 iw_range⟩
      · cases e1
    · cases e1
  · exact p1.elim
theorem si_rangeDn {j' : Nat} {p' : Pos} (hg : Gl X "range") (hm : X.mg "range" = none) (ha : SE X W vs a fe) (hb : SE X W vs b fb') (hc : PE X c (tC (.int (-1)))) (hs : starEach [a, b, c] X.env = (false, eval a X.env) :: starEach [b, c] X.env := by rfl) (hs2 : starEach [b, c] X.env = (false, eval b X.env) :: starEach [c] X.env := by rfl) (hs3 : starEach [c] X.env = (false, eval c X.env) :: starEach [] X.env := by rfl) (hpl : (backTo pos (starEach [b, c] X.env)).any (·.1) = false := by rfl) : SI X W vs tg (.Call (.Name "range" p) [a, b, c] [] pos) (it2 rngDn fe fb') := by
  constructor; intro σ F H ρ R E q
  refine (pi_range3 hg hm (pa_cons (pe_w X a) (pa_cons (pe_w X b) (pa_cons hc pa_nil hs3) hs2) hs) hs hpl).w ?_
  refine SE.go2I ha hb (.refl E.sub) E q fun F2 H2 ρ2 v w x y s2 E2 r _ p1 => ?_
  obtain ⟨r1, r2⟩ := r.two
  split at p1
  · rename_i t u e e'
    obtain ⟨ds, e1, p1⟩ := pit_opt p1
    have tr := r1.look E2 e
    have tr' := r2.look E2 e'
    unfold rngDn at e1
    split at e1
    · rename_i i j e2 e3
      split at e1
      · rename_i hj
        obtain ⟨o, d⟩ := t
        obtain ⟨o', d'⟩ := u
        cases (show d = .int i from e2)
        cases (show d' = .int j from e3)
        cases tr.int
        cases tr'.int
        cases e1
        obtain ⟨h1, h2⟩ := inR_iff.mp hj.1
        obtain ⟨h3, h4⟩ := inR_iff.mp hj.2
        exact ⟨i, j, -1, _, rfl, RgC.neg h1 h2 h3 h4, p1 F2 H2 _ s2 E2 iw_rangeC⟩
      · cases e1
    · cases e1
  · exact p1.elim
theorem si_enum {tpos : Pos} {elts : List Expr} {kk : Nat} (hg : Gl X "enumerate") (hm : X.mg "enumerate" = none) (ha : SE X W vs a fe) (hs : starEach [a] X.env = [(false, eval a X.env)] := by rfl) : SI X W vs (.Tuple elts kk tpos) (.Call (.Name "enumerate" p) [a] [] pos) (itF enumD fe) := by
  constructor; intro σ F H ρ R E q
  refine (pi_enum hg hm (pa_cons (pe_w X a) pa_nil (by rw [hs]; rfl)) hs).w ?_
  refine ha.goI (.refl E.sub) E q fun F1 H1 ρ1 v x s1 _ E1 r1 n1 p1 => ?_
  cases z : frz x ρ1 with
  | bad => rw [z] at p1; exact p1.elim
  | exc C fs ρ' => exact (frz_noexc z).elim
  | ok d ρ2 =>
    rw [z, Rs.bind_ok] at p1
    obtain ⟨F2, s2, E2, rd, le, _, _⟩ := frz_ok s1 E1 r1 n1 z
    obtain ⟨ds, e1, p1⟩ := pit_opt p1
    cases rd with
    | lst hl rs =>
      cases e1
      have hq : SqL X.K F2 _ _ := .inl (.inl hl)
      exact ⟨_, _, rfl, SqL.sub hq E2.sub, p1 F2 H1 _ s2 E2 (iw_enum hq rs)⟩
    | _ => simp [enumD] at e1
theorem si_rev (hg : Gl X "reversed") (hm : X.mg "reversed" = none) (ha : SE X W vs a fe) (hs : starEach [a] X.env = (false, eval a X.env) :: starEach [] X.env := by rfl) : SI X W vs tg (.Call (.Name "reversed" p) [a] [] pos) (itF revD fe) := by
  constructor; intro σ F H ρ R E q
  refine (RT.pi_revA hg hm (pe_w X a) hs).w ?_
  refine ha.goI (.refl E.sub) E q fun F1 H1 ρ1 v x s1 _ E1 r1 n1 p1 => ?_
  cases z : frz x ρ1 with
  | bad => rw [z] at p1; exact p1.elim
  | exc C fs ρ' => exact (frz_noexc z).elim
  | ok d ρ2 =>
    rw [z, Rs.bind_ok] at p1
    obtain ⟨F2, s2, E2, rd, le, _, _⟩ := frz_ok s1 E1 r1 n1 z
    obtain ⟨ds, e1, p1⟩ := pit_opt p1
    cases rd with
    | lst hl rs =>
      cases e1
      have hq : SqL X.K F2 _ _ := .inl (.inl hl)
      exact ⟨_, _, rfl, .inl ⟨SqL.sub hq E2.sub, p1 F2 H1 _ s2 E2 (iw_rev hq rs)⟩⟩
    | tup hq rs =>
      cases e1
      exact ⟨_, _, rfl, .inr ⟨SqT.sub hq E2.sub, p1 F2 H1 _ s2 E2 (iw_revT hq rs)⟩⟩
    | _ => simp [revD] at e1
theorem si_zip {tpos : Pos} {elts : List Expr} {kk : Nat} (hg : Gl X "zip") (hm : X.mg "zip" = none) (ha : SE X W vs a fe) (hb : SE X W vs b fb') (hs : starEach [a, b] X.env = (false, eval a X.env) :: starEach [b] X.env := by rfl) (hs2 : starEach [b] X.env = (false, eval b X.env) :: starEach [] X.env := by rfl) (hpl : (backTo pos (starEach [b] X.env)).any (·.1) = false := by rfl) :
    SI X W vs (.Tuple elts kk tpos) (.Call (.Name "zip" p) [a, b] [] pos) (itF2 zipD fe fb') := by
  constructor; intro σ F H ρ R E q
  refine (RZ.pi_zipA hg hm (pa_cons (pe_w X a) (pa_cons (pe_w X b) pa_nil hs2) hs) hs hpl).w ?_
  refine SE.go2I ha hb (.refl E.sub) E q fun F1 H1 ρ1 v w x y s1 E1 r n p1 => ?_
  cases z : frzs [x, y] ρ1 with
  | bad => rw [z] at p1; exact p1.elim
  | exc C fs ρ' => exact (frzs_noexc z).elim
  | ok ds ρ2 =>
    rw [z, Rs.bind_ok] at p1
    obtain ⟨F2, s2, E2, rs, le⟩ := frzs_ok s1 E1 r n z
    cases rs with
    | cons rd rs => cases rs with
      | cons rd' rs =>
        cases rs
        obtain ⟨ds, e1, p1⟩ := pit_opt p1
        cases rd with
        | lst hl rs =>
          cases rd' with
          | lst hl' rs' =>
            cases e1
            have hq : SqL X.K F2 _ _ := .inl (.inl hl)
            have hq' : SqL X.K F2 _ _ := .inl (.inl hl')
            exact ⟨_, _, _, _, rfl, .inl ⟨SqL.sub hq E2.sub, SqL.sub hq' E2.sub, p1 F2 H1 _ s2 E2 (iw_zip (walk_zip rfl) (fun F H le sub => ⟨SqL.sub (SqL.le hq le) sub, SqL.sub (SqL.le hq' le) sub⟩) rs rs')⟩⟩
          | _ => simp [zipD] at e1
        | tup hq rs =>
          cases rd' with
          | tup hq' rs' =>
            cases e1
            exact ⟨_, _, _, _, rfl, .inr ⟨SqT.sub hq E2.sub, SqT.sub hq' E2.sub, p1 F2 H1 _ s2 E2 (iw_zip (walk_zipT rfl) (fun F H le sub => ⟨SqT.sub (SqT.le hq le) sub, SqT.sub (SqT.le hq' le) sub⟩) rs rs')⟩⟩
          | _ => simp [zipD] at e1
        | _ => simp [zipD] at e1
end
end
end MP
end

section
set_option maxHeartbeats 4000000
/-! Functions, calls. -/
namespace MP
open PySem PySem.Spec PyProof.Rows L2

inductive FR where
  | ok (t : T) (gs : List T)
  | exc (C : String) (fs : List (String × D)) (gs : List T)
  | bad
abbrev Fn := List T → FR
def mkEnv (N : Nat) (gs : List T) : Env := ⟨gs, (List.range gs.length).map (fun j => some (.par j)) ++ List.replicate (N - gs.length) none⟩
def endF : Rs Fl → FR
  | .ok (.rt t) ρ => .ok t ρ.gs
  | .ok .nx ρ => .ok (fz .non) ρ.gs
  | .exc C fs ρ => .exc C fs ρ.gs
  | _ => .bad
def runF (N n : Nat) (body : Env → Rs Fl) (gs : List T) : FR := if gs.length = n then endF (body (mkEnv N gs)) else .bad
section
variable (K : PySem.W.Frag) (vs : List V)
def PFn (F H : Hp) (P : Addr → Prop) (Q : VK) (E : XK) : FR → Prop
  | .ok t gs' => ∀ F' H' v, Step F H P F' H' (Fp vs [] ⟨gs', []⟩) → ER K vs [] F' H' ⟨gs', []⟩ → HR K vs [] F' H' ⟨gs', []⟩ v (.val t) → HN H P v (.val t) → Q v H'
  | .exc C fs gs' => ∀ F' H' cls d, Step F H P F' H' (Fp vs [] ⟨gs', []⟩) → ER K vs [] F' H' ⟨gs', []⟩ → ExV K F' H' C fs cls d → E cls d H'
  | .bad => False
end
def spF (K : PySem.W.Frag) (n : Nat) (fn : Fn) : Sp := fun vs H Q E => vs.length = n ∧ ∃ F gs, ER K vs [] F H ⟨gs, []⟩ ∧ PFn K vs F H (Fp vs [] ⟨gs, []⟩) Q E (fn gs)
section
variable {K : PySem.W.Frag} {vs : List V} {σ : L2.St} {F H : Hp} {ρ : Env} {gs : List T} {N : List Str} {a : Addr}
theorem at_drop {r : Root} : (⟨ρ.gs, []⟩ : Env).at r = match r with | .g _ => ρ.at r | .s _ => none := by
  cases r <;> rfl
theorem ER.drop (E : ER K vs σ F H ρ) : ER K vs [] F H ⟨ρ.gs, []⟩ := by
  refine ⟨E.sub, E.gl, rfl, fun i j q => by simp at q, fun r t e => ?_, fun r r' d d' a e1 e2 v1 v2 => ?_⟩
  · cases r with
    | g j => exact E.rel (.g j) t e
    | s i => cases e
  · cases r with
    | s i => cases e1
    | g j => cases r' with
      | s i => cases e2
      | g j' => exact E.ap (.g j) (.g j') d d' a e1 e2 v1 v2
theorem fp_drop (q : Fp vs [] ⟨ρ.gs, []⟩ a) : Fp vs σ ρ a := by
  obtain ⟨r, d, e, v⟩ := q
  cases r with
  | g j => exact ⟨.g j, d, e, v⟩
  | s i => cases e
theorem mkEnv_s {n i : Nat} : (mkEnv n gs).at (.s i) = none := by
  show (match (mkEnv n gs).sl[i]? with | some (some (.loc t)) => some t | _ => none) = none
  unfold mkEnv
  simp only [List.getElem?_append, List.getElem?_map, List.getElem?_replicate]
  split
  · rename_i q
    split at q
    · simp at q
    · split at q <;> simp at q
  · rfl
theorem ER.toEnv (E : ER K vs [] F H ⟨gs, []⟩) (hn : gs.length ≤ N.length) : ER K vs (start N vs) F H (mkEnv N.length gs) := by
  have hl : gs.length = vs.length := E.gl
  refine ⟨E.sub, E.gl, ?_, fun i j q => ?_, fun r t e => ?_, fun r r' d d' a e1 e2 v1 v2 => ?_⟩
  · unfold mkEnv L2.start
    simp [hl]
  · unfold mkEnv at q
    simp only [List.getElem?_append, List.getElem?_map, List.getElem?_replicate] at q
    split at q
    · rename_i hi
      simp at hi
      rw [List.getElem?_range hi] at q
      simp at q
      subst q
      refine ⟨vs[i]'(by omega), by simp [show i < vs.length by omega], ?_⟩
      unfold L2.start
      rw [List.getElem?_append_left (by simp; omega)]
      simp [show i < vs.length by omega]
    · split at q <;> simp at q
  · cases r with
    | g j => exact E.rel (.g j) t e
    | s i => rw [mkEnv_s] at e; cases e
  · cases r with
    | s i => rw [mkEnv_s] at e1; cases e1
    | g j => cases r' with
      | s i => rw [mkEnv_s] at e2; cases e2
      | g j' => exact E.ap (.g j) (.g j') d d' a e1 e2 v1 v2
theorem fp_mk {n : Nat} : Fp vs (start N vs) (mkEnv n gs) a ↔ Fp vs [] ⟨gs, []⟩ a := by
  constructor
  · rintro ⟨r, d, e, v⟩
    cases r with
    | g j => exact ⟨.g j, d, e, v⟩
    | s i => rw [mkEnv_s] at e; cases e
  · rintro ⟨r, d, e, v⟩
    cases r with
    | g j => exact ⟨.g j, d, e, v⟩
    | s i => cases e
theorem hr_drop {v : V} {t : T} (h : HR K vs σ F H ρ v (.val t)) : HR K vs [] F H ⟨ρ.gs, []⟩ v (.val t) := by
  cases h with
  | val h n => exact .val h fun ho a e q => n ho a e (fp_drop q)
end
/-- a body keeps the promise -/
theorem fn_body {X : Cx} {n : Nat} {N : List Str} {vs : List V} {body : List Stmt} {f : Env → Rs Fl} {H : Hp} {Q : VK} {E : XK} (hn : n ≤ N.length) (h : spF X.K n (runF N.length n f) vs H Q E) (hb : SSs X (fun c d _ H' => E c d H') vs body f) :
    wSs X body { nx := fun _ H' => Q .non H', rt := Q } (start N vs) H := by
  obtain ⟨hl, F, gs, E0, p⟩ := h
  have hg : gs.length = n := (show gs.length = vs.length from E0.gl).trans hl
  refine hb (start N vs) F H (mkEnv N.length gs) _ (E0.toEnv (by omega)) ?_
  unfold runF at p
  rw [if_pos hg] at p
  have st : ∀ {F' H' : Hp} {σ' : L2.St} {ρ' : Env}, Step F H (Fp vs (start N vs) (mkEnv N.length gs)) F' H' (Fp vs σ' ρ') → Step F H (Fp vs [] ⟨gs, []⟩) F' H' (Fp vs [] ⟨ρ'.gs, []⟩) := fun s =>
    ⟨s.le, s.sub, fun a o e1 e2 e3 => s.keep a o e1 e2 fun q => e3 (fp_mk.mp q), fun a q => (s.new a q).imp id (Or.imp fp_mk.mp id), fun a q => (s.own a (fp_drop q)).imp fp_mk.mp id⟩
  cases z : f (mkEnv N.length gs) with
  | bad => rw [z] at p; exact p
  | exc C fs ρ' => rw [z] at p; exact fun F' H' σ' cls d s er x => p F' H' cls d (st s) er.drop x
  | ok fl ρ' =>
    rw [z] at p
    cases fl with
    | nx => exact fun F' H' σ' s er => p F' H' .non (st s) er.drop (.val (.fz .non) fun q => by cases q) fun q => by cases q
    | bk => exact p.elim
    | ct => exact p.elim
    | rt t => exact fun F' H' σ' v s er hr hn => p F' H' v (st s) er.drop (hr_drop hr) fun ho a e => (hn ho a e).imp fp_mk.mp id

/-! ### give back -/
def backs (ρ : Env) : List Hnd → List T → Option Env
  | [], [] => some ρ
  | .val _ :: hs, _ :: ts => backs ρ hs ts
  | .rt r :: hs, t :: ts => match ρ.at r with
    | some t0 => if t.o = true → t0.o = true then backs (ρ.put r t) hs ts else none
    | none => none
  | _, _ => none
def roots : List Hnd → List Root
  | [] => []
  | .val _ :: hs => roots hs
  | .rt r :: hs => r :: roots hs
def looks (ρ : Env) : List Hnd → Option (List T)
  | [] => some []
  | h :: hs => match h.look ρ, looks ρ hs with
    | some t, some ts => some (t :: ts)
    | _, _ => none
section
theorem mem_roots {r : Root} : ∀ {hs : List Hnd}, r ∈ roots hs ↔ ∃ j : Nat, hs[j]? = some (Hnd.rt r)
  | [] => by simp [roots]
  | .val t :: hs => by
    rw [show roots (.val t :: hs) = roots hs from rfl, mem_roots]
    constructor
    · rintro ⟨j, e⟩; exact ⟨j + 1, by simpa using e⟩
    · rintro ⟨j, e⟩
      cases j with
      | zero => simp at e
      | succ j => exact ⟨j, by simpa using e⟩
  | .rt r' :: hs => by
    rw [show roots (.rt r' :: hs) = r' :: roots hs from rfl, List.mem_cons, mem_roots]
    constructor
    · rintro (rfl | ⟨j, e⟩)
      · exact ⟨0, rfl⟩
      · exact ⟨j + 1, by simpa using e⟩
    · rintro ⟨j, e⟩
      cases j with
      | zero => simp at e; exact .inl e.symm
      | succ j => exact .inr ⟨j, by simpa using e⟩
theorem backs_spec : ∀ {hs : List Hnd} {ts : List T} {ρ ρ' : Env}, (roots hs).Nodup → backs ρ hs ts = some ρ' →
    ρ'.gs.length = ρ.gs.length ∧ ρ'.sl.length = ρ.sl.length ∧ (∀ i j : Nat, ρ'.sl[i]? = some (some (Sv.par j)) → ρ.sl[i]? = some (some (Sv.par j))) ∧
    ∀ r, (∃ (j : Nat) (t t0 : T), hs[j]? = some (Hnd.rt r) ∧ ts[j]? = some t ∧ ρ'.at r = some t ∧ ρ.at r = some t0 ∧ (t.o = true → t0.o = true)) ∨ (r ∉ roots hs ∧ ρ'.at r = ρ.at r)
  | [], [], ρ, ρ', _, e => by cases e; exact ⟨rfl, rfl, fun _ _ q => q, fun r => .inr ⟨by simp [roots], rfl⟩⟩
  | .val t0 :: hs, t :: ts, ρ, ρ', nd, e => by
    obtain ⟨h1, h2, h3, h4⟩ := backs_spec (hs := hs) (ts := ts) nd e
    refine ⟨h1, h2, h3, fun r => ?_⟩
    rcases h4 r with ⟨j, t', t0', e1, e2, e3⟩ | ⟨e1, e2⟩
    · exact .inl ⟨j + 1, t', t0', by simpa using e1, by simpa using e2, e3⟩
    · exact .inr ⟨e1, e2⟩
  | .rt r0 :: hs, t :: ts, ρ, ρ', nd, e => by
    replace e : (match ρ.at r0 with | some t0 => if t.o = true → t0.o = true then backs (ρ.put r0 t) hs ts else none | none => none) = some ρ' := e
    split at e
    · rename_i t0 e0
      split at e
      · rename_i ho
        replace nd : (r0 :: roots hs).Nodup := nd
        obtain ⟨nd1, nd2⟩ := List.nodup_cons.mp nd
        obtain ⟨h1, h2, h3, h4⟩ := backs_spec nd2 e
        refine ⟨h1.trans Env.put_gl, h2.trans Env.put_sl, fun i j q => (Env.put_par e0).mp (h3 i j q), fun r => ?_⟩
        rcases h4 r with ⟨j, t', t0', e1, e2, e3, e4, e5⟩ | ⟨e1, e2⟩
        · have hr : r ≠ r0 := fun q => nd1 (q ▸ mem_roots.mpr ⟨j, e1⟩)
          rw [Env.at_put_ne hr] at e4
          exact .inl ⟨j + 1, t', t0', by simpa using e1, by simpa using e2, e3, e4, e5⟩
        · by_cases hr : r = r0
          · subst hr
            rw [Env.at_put e0] at e2
            exact .inl ⟨0, t, t0, rfl, rfl, e2, e0, ho⟩
          · rw [Env.at_put_ne hr] at e2
            exact .inr ⟨fun q => (List.mem_cons.mp q).elim hr e1, e2⟩
      · cases e
    · cases e
  | [], _ :: _, _, _, _, e => by cases e
  | .val _ :: _, [], _, _, _, e => by cases e
  | .rt _ :: _, [], _, _, _, e => by cases e
theorem roots_inj {r : Root} : ∀ {hs : List Hnd} {j k : Nat}, (roots hs).Nodup → hs[j]? = some (.rt r) → hs[k]? = some (.rt r) → j = k
  | [], _, _, _, h, _ => by simp at h
  | .val t :: hs, j, k, nd, h1, h2 => by
    cases j with
    | zero => simp at h1
    | succ j => cases k with
      | zero => simp at h2
      | succ k => rw [roots_inj (hs := hs) (j := j) (k := k) nd (by simpa using h1) (by simpa using h2)]
  | .rt r' :: hs, j, k, nd, h1, h2 => by
    obtain ⟨n1, n2⟩ := List.nodup_cons.mp (show (r' :: roots hs).Nodup from nd)
    cases j with
    | zero => cases k with
      | zero => rfl
      | succ k => simp at h1; subst h1; exact absurd (mem_roots.mpr ⟨k, by simpa using h2⟩) n1
    | succ j => cases k with
      | zero => simp at h2; subst h2; exact absurd (mem_roots.mpr ⟨j, by simpa using h1⟩) n1
      | succ k => rw [roots_inj (hs := hs) (j := j) (k := k) n2 (by simpa using h1) (by simpa using h2)]
theorem looks_get : ∀ {hs : List Hnd} {ts : List T} {ρ : Env} {j : Nat} {t : T}, looks ρ hs = some ts → ts[j]? = some t → ∃ h, hs[j]? = some h ∧ h.look ρ = some t
  | [], _, _, _, _, e, e2 => by cases e; simp at e2
  | h :: hs, ts, ρ, j, t, e, e2 => by
    replace e : (match h.look ρ, looks ρ hs with | some t, some ts => some (t :: ts) | _, _ => none) = some ts := e
    split at e
    · rename_i t' ts' h1 h2
      cases e
      cases j with
      | zero => simp at e2; subst e2; exact ⟨h, rfl, h1⟩
      | succ j =>
        obtain ⟨h', a1, a2⟩ := looks_get (j := j) h2 (by simpa using e2)
        exact ⟨h', by simpa using a1, a2⟩
    · cases e
theorem looks_length : ∀ {hs : List Hnd} {ts : List T} {ρ : Env}, looks ρ hs = some ts → ts.length = hs.length
  | [], _, _, e => by cases e; rfl
  | h :: hs, ts, ρ, e => by
    replace e : (match h.look ρ, looks ρ hs with | some t, some ts => some (t :: ts) | _, _ => none) = some ts := e
    split at e
    · rename_i t' ts' h1 h2
      cases e
      simp [looks_length h2]
    · cases e
variable {K : PySem.W.Frag} {vs : List V} {σ : L2.St} {F F0 F1 F' H H0 H1 H' : Hp} {P0 : Addr → Prop} {ρ ρ1 ρ' : Env} {gs gs' : List T} {ws : List V} {hs : List Hnd} {a : Addr}
theorem HRs.length (r : HRs K vs σ F H ρ ws hs) : ws.length = hs.length := by
  induction r with
  | nil => rfl
  | cons _ _ _ ih => simp [ih]
theorem HRs.get : ∀ {ws : List V} {hs : List Hnd} {j : Nat} {h : Hnd}, HRs K vs σ F H ρ ws hs → hs[j]? = some h → ∃ v, ws[j]? = some v ∧ HR K vs σ F H ρ v h
  | _, _, _, _, .nil, e => by simp at e
  | _, _, 0, _, .cons h _ _, e => by simp at e; subst e; exact ⟨_, rfl, h⟩
  | _, _, j + 1, _, .cons _ r _, e => by
    obtain ⟨v, h1, h2⟩ := HRs.get (j := j) r (by simpa using e)
    exact ⟨v, by simpa using h1, h2⟩
/-- two owned temporaries are two -/
theorem HRs.dist : ∀ {ws : List V} {hs : List Hnd} {j k : Nat} {t t' : T}, HRs K vs σ F H ρ ws hs → hs[j]? = some (.val t) → hs[k]? = some (.val t') → t.o = true → t'.o = true → ws[j]? = some (.ref a) → ws[k]? = some (.ref a) → j = k
  | _, _, _, _, _, _, .nil, e, _, _, _, _, _ => by simp at e
  | v :: ws, h :: hs, j, k, t, t', .cons h1 h2 h3, e1, e2, o1, o2, v1, v2 => by
    have mem : ∀ {j : Nat} {w : V} {h : Hnd}, ws[j]? = some w → hs[j]? = some h → (w, h) ∈ ws.zip hs := fun {j w h} q1 q2 => by
      refine List.mem_of_getElem? (i := j) ?_
      rw [List.getElem?_zip_eq_some]
      exact ⟨q1, q2⟩
    cases j with
    | zero => cases k with
      | zero => rfl
      | succ k =>
        simp at e1 v1 e2 v2
        exact absurd rfl (h3 t a e1 o1 v1 _ t' (mem v2 e2) o2)
    | succ j => cases k with
      | zero =>
        simp at e1 v1 e2 v2
        exact absurd rfl (h3 t' a e2 o2 v2 _ t (mem v1 e1) o1)
      | succ k => rw [HRs.dist (j := j) (k := k) h2 (by simpa using e1) (by simpa using e2) o1 o2 (by simpa using v1) (by simpa using v2)]
/-- the arguments as an environment -/
theorem ER.args (E : ER K vs σ F H ρ) (r : HRs K vs σ F H ρ ws hs) (e : looks ρ hs = some gs) (nd : (roots hs).Nodup) : ER K ws [] F H ⟨gs, []⟩ := by
  refine ⟨E.sub, (looks_length e).trans r.length.symm, rfl, fun i j q => by simp at q, fun r' t q => ?_, fun r1 r2 d1 d2 a e1 e2 v1 v2 => ?_⟩
  · cases r' with
    | s i => cases q
    | g j =>
      obtain ⟨h, h1, h2⟩ := looks_get e (show gs[j]? = some t from q)
      obtain ⟨v, h3, h4⟩ := r.get h1
      exact ⟨v, h3, h4.look E h2⟩
  · cases r1 with
    | s i => cases e1
    | g j => cases r2 with
      | s i => cases e2
      | g k =>
        obtain ⟨h, h1, h2⟩ := looks_get e (show gs[j]? = some _ from e1)
        obtain ⟨h', h1', h2'⟩ := looks_get e (show gs[k]? = some _ from e2)
        obtain ⟨v, h3, h4⟩ := r.get h1
        obtain ⟨v', h3', h4'⟩ := r.get h1'
        cases h3.symm.trans (show ws[j]? = some (.ref a) from v1)
        cases h3'.symm.trans (show ws[k]? = some (.ref a) from v2)
        cases h4 with
        | val p1 p2 =>
          cases h2
          cases h4' with
          | val p1' p2' =>
            cases h2'
            rw [r.dist h1 h1' rfl rfl h3 h3']
          | rt q => exact (p2 rfl a rfl ⟨_, _, h2', q⟩).elim
        | rt q =>
          cases h4' with
          | val p1' p2' =>
            cases h2'
            exact (p2' rfl a rfl ⟨_, _, h2, q⟩).elim
          | rt q' =>
            have := E.ap _ _ _ _ a h2 h2' q q'
            subst this
            rw [roots_inj nd h1 h1']
/-- whose the arguments' objects are -/
theorem fp_args (E : ER K vs σ F H ρ) (r : HRs K vs σ F H ρ ws hs) (n : HNs H0 P0 ws hs) (s : Step F0 H0 P0 F H (Fp vs σ ρ)) (e : looks ρ hs = some gs) (q : Fp ws [] ⟨gs, []⟩ a) : P0 a ∨ H0 a = none := by
  obtain ⟨r', d, e', hv⟩ := q
  cases r' with
  | s i => cases e'
  | g j =>
    obtain ⟨h, h1, h2⟩ := looks_get e (show gs[j]? = some _ from e')
    obtain ⟨v, h3, h4⟩ := r.get h1
    cases h3.symm.trans (show ws[j]? = some (.ref a) from hv)
    cases h4 with
    | val p1 p2 =>
      cases h2
      refine n (.ref a) (.val ⟨true, d⟩) (List.mem_of_getElem? (i := j) ?_) rfl a rfl
      rw [List.getElem?_zip_eq_some]
      exact ⟨h3, h1⟩
    | rt q => exact s.own a ⟨_, d, h2, q⟩
/-- a root that was not handed in -/
theorem fp_apart (E : ER K vs σ F H ρ) (r : HRs K vs σ F H ρ ws hs) (e : looks ρ hs = some gs) {r' : Root} {d : D} (hr : r' ∉ roots hs) (e' : ρ.at r' = some ⟨true, d⟩) (hv : RootV vs σ r' (.ref a)) : ¬ Fp ws [] ⟨gs, []⟩ a := by
  rintro ⟨r2, d2, e2, v2⟩
  cases r2 with
  | s i => cases e2
  | g j =>
    obtain ⟨h, h1, h2⟩ := looks_get e (show gs[j]? = some _ from e2)
    obtain ⟨v, h3, h4⟩ := r.get h1
    cases h3.symm.trans (show ws[j]? = some (.ref a) from v2)
    cases h4 with
    | val p1 p2 => cases h2; exact p2 rfl a rfl ⟨_, _, e', hv⟩
    | rt q =>
      have := E.ap _ _ _ _ a h2 e' q hv
      subst this
      exact hr (mem_roots.mpr ⟨j, h1⟩)
/-- behind a call -/
theorem ER.back (E : ER K vs σ F H ρ) (r : HRs K vs σ F H ρ ws hs) (e : looks ρ hs = some gs) (nd : (roots hs).Nodup) (n : HNs H0 P0 ws hs) (s0 : Step F0 H0 P0 F H (Fp vs σ ρ)) (s : Step F H (Fp ws [] ⟨gs, []⟩) F' H' (Fp ws [] ⟨gs', []⟩)) (E' : ER K ws [] F' H' ⟨gs', []⟩) (b : backs ρ hs gs' = some ρ') :
    ER K vs σ F' H' ρ' ∧ Step F0 H0 P0 F' H' (Fp vs σ ρ') ∧ ∀ a, Fp vs σ ρ' a → Fp ws [] ⟨gs', []⟩ a ∨ (¬ Fp ws [] ⟨gs, []⟩ a ∧ Fp vs σ ρ a) := by
  obtain ⟨h1, h2, h3, h4⟩ := backs_spec nd b
  -- a root that was handed in
  have touched : ∀ {r' : Root} {j : Nat} {t : T}, hs[j]? = some (.rt r') → gs'[j]? = some t → ∃ v, RootV vs σ r' v ∧ ws[j]? = some v ∧ TRel K F' H' v t := fun {r' j t} q1 q2 => by
    obtain ⟨v, w1, w2⟩ := r.get q1
    obtain ⟨v', w3, w4⟩ := E'.rel (.g j) t q2
    cases w1.symm.trans (show ws[j]? = some v' from w3)
    cases w2 with
    | rt q => exact ⟨v, q, w1, w4⟩
  have fp : ∀ a, Fp vs σ ρ' a → Fp ws [] ⟨gs', []⟩ a ∨ (¬ Fp ws [] ⟨gs, []⟩ a ∧ Fp vs σ ρ a) := by
    rintro a ⟨r', d, e', hv⟩
    rcases h4 r' with ⟨j, t, t0, q1, q2, q3, q4, q5⟩ | ⟨q1, q2⟩
    · rw [q3] at e'
      cases e'
      obtain ⟨v, w1, w2, w3⟩ := touched q1 q2
      cases w1.inj hv
      exact .inl ⟨.g j, d, q2, w2⟩
    · rw [q2] at e'
      exact .inr ⟨fp_apart E r e q1 e' hv, ⟨r', d, e', hv⟩⟩
  refine ⟨⟨s.sub, h1.trans E.gl, h2.trans E.sl, fun i j q => E.par i j (h3 i j q), fun r' t e' => ?_, fun r1 r2 d1 d2 a e1 e2 v1 v2 => ?_⟩, ?_, fp⟩
  · rcases h4 r' with ⟨j, t', t0, q1, q2, q3, q4, q5⟩ | ⟨q1, q2⟩
    · rw [q3] at e'
      cases e'
      obtain ⟨v, w1, w2, w3⟩ := touched q1 q2
      exact ⟨v, w1, w3⟩
    · rw [q2] at e'
      obtain ⟨v, w1, w2⟩ := E.rel _ _ e'
      refine ⟨v, w1, w2.le s.le fun ho a ea => ?_⟩
      subst ea
      have e'' : ρ.at r' = some ⟨true, t.d⟩ := by rw [e']; cases t; cases ho; rfl
      have na := fp_apart E r e q1 e'' w1
      obtain ⟨⟨o, eo⟩, hF⟩ := E.fp ⟨r', t.d, e'', w1⟩
      obtain ⟨z1, z2, _⟩ := s.temp eo hF na
      exact ⟨by rw [z1, eo], z2⟩
  · -- no address twice
    have orig : ∀ {r' : Root} {d : D}, ρ'.at r' = some ⟨true, d⟩ → ∃ d0, ρ.at r' = some ⟨true, d0⟩ := fun {r' d} q => by
      rcases h4 r' with ⟨j, t', t0, q1, q2, q3, q4, q5⟩ | ⟨q1, q2⟩
      · rw [q3] at q
        cases q
        exact ⟨t0.d, by rw [q4]; cases t0; cases q5 rfl; rfl⟩
      · exact ⟨d, by rw [← q2]; exact q⟩
    obtain ⟨x1, y1⟩ := orig e1
    obtain ⟨x2, y2⟩ := orig e2
    exact E.ap _ _ _ _ a y1 y2 v1 v2
  · refine ⟨s0.le.trans s.le, s.sub, fun a o e1 e2 e3 => ?_, fun a q => ?_, fun a q => ?_⟩
    · have k1 := s0.keep a o e1 e2 e3
      have nF : F a = none ∧ ¬ Fp vs σ ρ a := by
        obtain ⟨_, z2, z3⟩ := s0.temp e1 e2 e3
        exact ⟨z2, z3⟩
      refine s.keep a o k1 nF.1 fun q => ?_
      rcases fp_args E r n s0 e q with z | z
      · exact e3 z
      · rw [e1] at z; cases z
    · rcases s.new a q with q | q | q
      · exact s0.new a q
      · rcases fp_args E r n s0 e q with z | z
        · exact .inr (.inl z)
        · exact .inr (.inr z)
      · rcases s0.none_of (.inr q) with z | z
        · exact .inr (.inl z)
        · exact .inr (.inr z)
    · rcases fp a q with q | ⟨_, q⟩
      · rcases s.own a q with q | q
        · exact fp_args E r n s0 e q
        · exact s0.none_of (.inr q)
      · exact s0.own a q
/-- .. its value -/
theorem hr_back (E : ER K vs σ F H ρ) (r : HRs K vs σ F H ρ ws hs) (e : looks ρ hs = some gs) (n : HNs H0 P0 ws hs) (s0 : Step F0 H0 P0 F H (Fp vs σ ρ)) (fp : ∀ a, Fp vs σ ρ' a → Fp ws [] ⟨gs', []⟩ a ∨ (¬ Fp ws [] ⟨gs, []⟩ a ∧ Fp vs σ ρ a)) {v : V} {t : T} (h : HR K ws [] F' H' ⟨gs', []⟩ v (.val t)) (hn : HN H (Fp ws [] ⟨gs, []⟩) v (.val t)) :
    HR K vs σ F' H' ρ' v (.val t) ∧ HN H0 P0 v (.val t) := by
  cases h with
  | val h nf =>
    refine ⟨.val h fun ho a ea q => ?_, fun ho a ea => ?_⟩
    · rcases fp a q with q | ⟨q1, q2⟩
      · exact nf ho a ea q
      · rcases hn ho a ea with z | z
        · exact q1 z
        · obtain ⟨⟨o, eo⟩, _⟩ := E.fp q2
          rw [eo] at z; cases z
    · rcases hn ho a ea with z | z
      · exact fp_args E r n s0 e z
      · exact s0.none_of (.inr z)
end
def callD (fn : Fn) (hs : List Hnd) (ρ : Env) : Rs Hnd := match looks ρ hs with
  | none => .bad
  | some gs => if (roots hs).Nodup then match fn gs with
    | .bad => .bad
    | .ok t gs' => match backs ρ hs gs' with
      | some ρ' => .ok (.val t) ρ'
      | none => .bad
    | .exc C fs gs' => match backs ρ hs gs' with
      | some ρ' => .exc C fs ρ'
      | none => .bad
    else .bad
/-- the promise at a call's arguments -/
theorem callD_sp {X : Cx} {W : WX} {vs : List V} {σ : L2.St} {F0 H0 F H : Hp} {P0 : Addr → Prop} {ρ : Env} {ws : List V} {hs : List Hnd} {Q : VK} {n : Nat} {fn : Fn} (hn : ∀ gs, fn gs ≠ .bad → gs.length = n) (s0 : Step F0 H0 P0 F H (Fp vs σ ρ)) (E : ER X.K vs σ F H ρ) (r : HRs X.K vs σ F H ρ ws hs) (nn : HNs H0 P0 ws hs)
    (p : PH X.K vs σ W F0 H0 P0 Q (callD fn hs ρ)) : spF X.K n fn ws H Q (fun c d H' => W c d σ H') := by
  unfold callD at p
  split at p
  · exact p.elim
  · rename_i gs eg
    split at p
    · rename_i nd
      have hl : ws.length = n := by
        rw [r.length, ← looks_length eg]
        refine hn gs fun q => ?_
        rw [q] at p
        exact p
      refine ⟨hl, F, gs, E.args r eg nd, ?_⟩
      cases z : fn gs with
      | bad => rw [z] at p; exact p.elim
      | ok t gs' =>
        rw [z] at p
        dsimp only at p
        split at p
        · rename_i ρ' eb
          intro F' H' v s E' hr hn'
          obtain ⟨E2, s2, fp⟩ := E.back r eg nd nn s0 s E' eb
          obtain ⟨r2, n2⟩ := hr_back E r eg nn s0 fp hr hn'
          exact p F' H' v s2 E2 r2 n2
        · exact p.elim
      | exc C fs gs' =>
        rw [z] at p
        dsimp only at p
        split at p
        · rename_i ρ' eb
          intro F' H' cls d s E' x
          obtain ⟨E2, s2, fp⟩ := E.back r eg nd nn s0 s E' eb
          exact p F' H' cls d s2 E2 x
        · exact p.elim
    · exact p.elim
end MP
end

section
set_option maxHeartbeats 4000000
/-! Promises of defs that may use repr: no guard stands around a call. The lines follow FnOk, fn_of, law_call of the hand layer; what is added is the guard. -/
namespace MP
open PySem PySem.Spec PyProof.Rows L2
structure RoomG (k : Nat) (A : Around) : Prop where
  r : Room k A
  g : A.guards = some []
theorem RoomG.mono {j k : Nat} {A : Around} (h : RoomG k A) (l : j ≤ k) : RoomG j A := ⟨h.r.mono l, h.g⟩
theorem RoomG.deeper {k : Nat} {A : Around} (h : RoomG (k + 1) A) (env : PySem.Env) : RoomG k (A.deeper env) := ⟨h.r.deeper env, h.g⟩
theorem RoomG.make {k : Nat} {A : Around} (h : RoomG (k + 1) A) (C : Addr) (us : List Value) (kw : List (Str × Value)) : RoomG k (A.under (.builtin "type.__call__" ⟨.ref C :: us, kw⟩)) :=
  ⟨h.r.make C us kw, by
    have := h.g
    first | exact this | (simpa [Around.under, Code.guards, Code.isGuard, guardIds, pushGuards] using this)⟩
structure FnG (P : Program) (w : World) (K : PySem.W.Frag) (mg : Str → Option Value) (base : Heap) (CX : CXT) (k : Nat) (f : Addr) (fd : FuncData) (ps : List Str) (sp : Sp) : Prop where
  len : ∀ vs H Q E, sp vs H Q E → vs.length = ps.length
  run : ∀ (A : Around) (outer : List PySem.Env) (s : Shared) (H : Hp) (args : Args) (us : List Value) (vs : List V) (Q : VK) (E : XK), RoomG k A → Env0 P w K mg base A outer s H → BindsTo s fd args (ps.zip us) → Vals vs us → sp vs H Q E →
    codeAny (model P w) A (.call (.ref f) args) (CR CX outer P w H s Q E) s
theorem FnG.mono {P : Program} {w : World} {K : PySem.W.Frag} {mg : Str → Option Value} {base : Heap} {CX : CXT} {j k : Nat} {f : Addr} {fd : FuncData} {ps : List Str} {sp : Sp} (F : FnG P w K mg base CX j f fd ps sp) (h : j ≤ k) :
    FnG P w K mg base CX k f fd ps sp := ⟨F.len, fun A outer s H args us vs Q E hr => F.run A outer s H args us vs Q E (hr.mono h)⟩
theorem fn_ofG {CX : CXT} {P : Program} {w : World} {K : PySem.W.Frag} {mg : Str → Option Value} {base : Heap} {k : Nat} {f : Addr} {name qual : Str} {params : Arguments} {body : List Stmt} {scope : Scope} {dV kV doc pm cdv ct oc : Value} {an od : Option Addr}
    {osl : Array (Option Value)} {N ps : List Str} {sp : Sp} (lk : K.lookup f = some ⟨oc, od, .func (PySem.W.fnOf name qual params body scope dV kV doc pm an cdv ct), osl⟩) (hcd : PySem.W.codeIn K cdv qual = true) (S : FnScope N ps scope)
    (len : ∀ vs H Q E, sp vs H Q E → vs.length = ps.length)
    (hbody : ∀ (A : Around) (outer : List PySem.Env) (s : Shared) (H : Hp) (vs : List V) (Q : VK) (E : XK), RoomG k (A.deeper (envOfC qual scope s.heap.objs.size f cdv)) → sp vs H Q E →
      wSs (cxOf CX P w K mg base N qual scope f cdv A outer s H E) body { nx := fun _ H' => Q .non H', rt := Q } (L2.start N vs) H) :
    FnG P w K mg base CX (k + 1) f (PySem.W.fnOf name qual params body scope dV kV doc pm an cdv ct) ps sp := by
  refine ⟨len, fun A outer s H args us vs Q E hr e0 hb r hsp => ?_⟩
  have hl := len _ _ _ _ hsp
  have KX : K.In s.heap := e0.mod.kin.keeps fun b o e => (e0.bs b o e).1
  have lim : s.heap.NoLimit := e0.mod.nolimit.keeps fun b o e => (e0.bs b o e).1
  have hkind : ∀ y ∈ ps.zip us, scope.names.lookup y.1 = some .local ∨ (scope.names.lookup y.1 = some .cell ∧ ((cellsFrom (s.heap.objs.size + 1) scope.names []).lookup y.1).isSome = true) := fun ⟨n, v⟩ hy => by
    rcases S.par n (List.of_mem_zip hy).1 with q | q
    · exact .inl q
    · exact .inr ⟨q, PySem.W.cellsFrom_some _ _ _ (.inl q)⟩
  refine codeAny_call_function hr.r.depth (KX _ _ lk) rfl S.co S.gen rfl (PySem.W.codeRec_of KX hcd) (hb _ _ _ _ ?_)
  refine wpAny_newFunctionEnv_cells S.kind hkind fun env he s1 x => ?_
  subst he
  refine ⟨lim.keeps x.toInCall.keep, codeAny_func ?_⟩
  have I : Inv (cxOf CX P w K mg base N qual scope f cdv A outer s H E) [] (L2.start N vs) H s1 := inv_start S hr.r.hd e0 hl r x
  refine wpAny_mono (hbody A outer s H vs Q E (hr.deeper _) hsp [] s1 I) (fun fl s' hs => ?_) fun e s' hs => hs
  have fin : ∀ {σ' : L2.St} {H' : Hp} {v : V} {u : Value}, Inv (cxOf CX P w K mg base N qual scope f cdv A outer s H E) [] σ' H' s' → RelV v u → Q v H' → CE outer P w H s Q u s' :=
    fun {σ' H' v u} J rv q => ⟨v, H', J.os, J.bare, J.base, J.hok, rv, q⟩
  cases fl with
  | ret u =>
    obtain ⟨v, σ', H', J, rv, q⟩ := hs
    exact fin J rv q
  | next =>
    obtain ⟨σ', H', J, q⟩ := hs
    exact fin (v := V.non) (u := Value.none) J rfl q
  | brk =>
    obtain ⟨_, _, _, q⟩ := hs
    exact False.elim q
  | cont =>
    obtain ⟨_, _, _, q⟩ := hs
    exact False.elim q
theorem law_callG {P : Program} {w : World} {K : PySem.W.Frag} {mg mb : Str → Option Value} {CX : CXT} {k : Nat} {fa a : Addr} {fd : FuncData} {x : Str} {sp : Sp} {s₁ : Shared} {vs : List Value} {ns : List Int}
    (KX : K.In s₁.heap) (hns : s₁.heap.Ns mainGlobals mg) (hb : s₁.heap.Ns builtinsNs mb) (hbb : ∀ x : Str, x ≠ "__name__" → mb x = bootBuiltins x) (hlim : s₁.heap.NoLimit) (hg : s₁.gens = #[])
    (ha : s₁.heap.get? a = some { cls := .type "list", data := .seq vs.toArray }) (hi : IntsAre vs ns) (hl : ns.length ≤ sizeLine) (hr : RoomG k callerA)
    (F : ∀ base : Heap, K.In base → base.Ns mainGlobals mg → FnG P w K mg base CX k fa fd [x] sp) (hbind : ∀ (s : Shared) (u : Value), BindsTo s fd ⟨[u], []⟩ [(x, u)])
    (hsp : ∀ H : Hp, Only H → SqL K H a (ns.map V.int) → sp [.ref a] H (fun v _ => v = .bl true) fun _ _ _ => False)
    (hCX : ∀ H e s', CX [] H s₁ (fun _ _ _ => False) e s' → False) :
    codeAny (model P w) callerA (.call (.ref fa) ⟨[.ref a], []⟩) (fun r s' => r = .ok (.ret (.bool true)) ∧ OldK s₁.heap s'.heap ∧ s'.os = s₁.os ∧ AllBare s'.gens) s₁ := by
  have rv := vals_ints hi
  have lenV := hi.length
  have core : ∀ H : Hp, Only H → SqL K H a (ns.map V.int) → HOk P w H s₁.heap → (∀ b, H b ≠ none → b = a) → (H a ≠ none → K.lookup a = none) →
      codeAny (model P w) callerA (.call (.ref fa) ⟨[.ref a], []⟩) (fun r s' => r = .ok (.ret (.bool true)) ∧ OldK s₁.heap s'.heap ∧ s'.os = s₁.os ∧ AllBare s'.gens) s₁ := by
    intro H hO hS hok hA hK
    have noA : ∀ {b : Addr} {o : Obj} {es : Array DictEntry} {ep : Nat}, s₁.heap.get? b = some o → o.data = .dict es ep → H b = none := fun {b o es ep} e d => by
      cases q : H b with
      | none => rfl
      | some u =>
        obtain rfl := hA b (by rw [q]; simp)
        rw [ha] at e; cases e
        exact nomatch (show Data.seq vs.toArray _ = Data.dict es ep from d)
    have nsK : ∀ {b : Addr} {m : Str → Option Value}, s₁.heap.Ns b m → (hidT s₁.heap H).Ns b m := fun {b m} ⟨o, es, ep, e, d, r⟩ => ⟨o, es, ep, hidT_get e (noA e d), d, r⟩
    have hKb : K.In (hidT s₁.heap H) := fun b o e => hidT_get (KX b o e) (by
      cases q : H b with
      | none => rfl
      | some u =>
        obtain rfl := hA b (by rw [q]; simp)
        rw [hK (by rw [q]; simp)] at e; cases e)
    have hM : Mod K mg (hidT s₁.heap H) := ⟨hKb, nsK hns, ⟨mb, nsK hb, hbb⟩, let ⟨mc, h1, h2⟩ := hlim; ⟨mc, nsK h1, h2⟩⟩
    have e0 : Env0 P w K mg (hidT s₁.heap H) callerA [] s₁ H := ⟨rfl, hM, fun b o e => of_hidT e, Nat.le_of_eq (hidT_size _ _), trivial, fun b hb => absurd (show b ∈ ([] : List Addr) from hb) (by simp), hok, .of_eq hg⟩
    refine codeAny_mono ((F _ hKb (nsK hns)).run callerA [] s₁ H ⟨[.ref a], []⟩ [.ref a] [.ref a] _ _ hr e0 (hbind s₁ (.ref a)) (.cons rfl .nil) (hsp H hO hS)) fun r s' h => ?_
    cases r with
    | error e => exact (hCX H e s' h).elim
    | ok fl =>
      cases fl with
      | next => exact False.elim h
      | brk => exact False.elim h
      | cont => exact False.elim h
      | ret u =>
        obtain ⟨v, H', os, bare, un, hok', r', q⟩ := h
        cases (show v = V.bl true from q)
        obtain rfl : u = Value.bool true := r'
        refine ⟨rfl, OldK.of_keep fun b o e => ?_, os, bare⟩
        rcases hO b with z | ⟨ob, xs, z⟩
        · exact un.keep b o e z (by intro z; exact absurd (show b ∈ ([] : List Addr) from z) (by simp)) (by simp)
        · obtain ⟨e1, _⟩ := hok b _ z
          obtain ⟨e2, _⟩ := hok' b _ (un.frzs b ob _ z)
          rw [e] at e1; cases e1
          exact e2
  cases hk : K.lookup a with
  | some o =>
    have e := KX a o hk
    rw [ha] at e
    cases e
    exact core (fun _ => none) (fun _ => .inl rfl) (.inr ⟨_, vs.toArray, _, hk, rfl, rfl, rfl, by rw [List.size_toArray, lenV]; exact hl, by simpa using rv⟩) (fun b u z => nomatch z) (fun b z => absurd rfl z) fun z => absurd rfl z
  | none =>
    refine core (fun b => if b = a then some (.frz { cls := .type "list", data := .seq vs.toArray } (.lst (ns.map V.int))) else none) (fun b => ?_) (.inl (.inr ⟨{ cls := .type "list", data := .seq vs.toArray }, if_pos rfl⟩)) (fun b u z => ?_) (fun b z => ?_) fun _ => hk
    · by_cases hb : b = a
      · exact .inr ⟨_, _, if_pos hb⟩
      · exact .inl (if_neg hb)
    · by_cases hb : b = a
      · cases (if_pos hb).symm.trans z
        subst hb
        exact ⟨ha, by rw [List.length_map]; exact hl, vs, _, rv, ha⟩
      · exact nomatch (if_neg hb).symm.trans z
    · by_cases hb : b = a
      · exact hb
      · exact absurd (if_neg hb) z
theorem walk_ofG {l : PySem.W.OpenLaw} {n k : Nat} {q : Program} {loose : List Str} {XP : (Str → Option Value) → Heap → Prop} {YP : World → Heap → Prop} {d : DefRec} {CX : World → CXT} {x : Str}
    (hn : l.most = some n) (hn2 : n ≤ sizeLine) (hdf : d.params.defaults = []) (hr : RoomG k callerA)
    (F : ∀ (w : World) (mg : Str → Option Value) (fa : Addr) (h : Heap), YP w h → h.Ns mainGlobals mg → mg d.name = some (.ref fa) →
      ∃ (K : PySem.W.Frag) (fd : FuncData) (sp : Sp), K.In h ∧ (∀ (s : Shared) (u : Value), BindsTo s fd ⟨[u], []⟩ [(x, u)]) ∧
        (∀ (H : Hp) (a : Addr) (ns : List Int), ns.length ≤ n → Only H → SqL K H a (ns.map V.int) → sp [.ref a] H (fun v _ => v = .bl true) fun _ _ _ => False) ∧
        ∀ base : Heap, K.In base → base.Ns mainGlobals mg → FnG l.prog w K mg base (CX w) k fa fd [x] sp)
    (hCX : ∀ (w : World) (H : Hp) (s : Shared) (e : Value) (s' : Shared), CX w [] H s (fun _ _ _ => False) e s' → False) :
    PySem.W.WalkO q loose XP YP l.row.toRowW d [] (fun f vs => PySem.call f vs) := by
  refine Att.attach_call hn hdf fun w s₀ s₁ mg mb fa o pm cd doc a vs ns G Y ho hd hcd hmg hobj hints hlen hg => ?_
  obtain ⟨K, fd, sp, KX, hb, hsp, hF⟩ := F w mg fa _ Y G.T.g hmg
  exact law_callG KX G.T.g G.T.b G.T.builtins G.T.nolimit hg hobj hints (Nat.le_trans hlen hn2) hr hF hb (fun H hO hS => hsp H a ns hlen hO hS) fun H e s' => hCX w H s₁ e s'
end MP
end

section
set_option maxHeartbeats 4000000
/-! Calls of own defs, methods, classes. -/
namespace MP
open PySem PySem.Spec PyProof.Rows L2
section
variable {X : Cx} {W : WX} {k : Nat} {f C : Addr} {fd : FuncData} {ps : List Str} {sp : Sp} {dvs : List V} {ds : List Value} {x m : Str} {p pos apos : Pos} {e o : Expr} {es : List Expr} {σ : L2.St} {H : Hp} {Q : VK}
/-- the callee runs -/
theorem run_w {pins : List (Addr × Obj)} {s : Shared} {us : List Value} {vs : List V} (tk : Takes X W) (F : FnG X.prog X.w X.K X.mg X.base (CX X.prog X.w) k f fd ps sp) (hr : RoomG k X.A) (hb : Binds X.K fd ps ds) (hd : Vals dvs ds)
    (I : Inv X pins σ H s) (r : Vals vs us) (h : sp (vs ++ dvs) H Q (fun c d H' => W c d σ H')) : wpAny (model X.prog X.w) X.A (call (.ref f) us) (EP X pins σ Q) X.xe s := by
  have r2 : Vals (vs ++ dvs) (us ++ ds) := r.append hd
  have hl : (us ++ ds).length = ps.length := by rw [← r2.length]; exact F.len _ _ _ _ h
  refine wpAny_call (codeAny_mono (F.run X.A X.stack s H ⟨us, []⟩ (us ++ ds) (vs ++ dvs) Q _ hr I.env0 (hb s us I.kIn hl) r2 h) fun r s' hq => ?_)
  cases r with
  | error e => exact tk _ _ (XE.of_call I (fun _ _ _ z => z) hq)
  | ok fl =>
    cases fl with
    | ret u => exact I.after hq
    | next => exact False.elim hq
    | brk => exact False.elim hq
    | cont => exact False.elim hq
theorem we_call (tk : Takes X W) (F : FnG X.prog X.w X.K X.mg X.base (CX X.prog X.w) k f fd ps sp) (hr : RoomG k X.A) (hg : Gl X x) (hm : X.mg x = some (.ref f)) (hk : PySem.W.keepIn X.K (.ref f) = true) (hb : Binds X.K fd ps ds) (hd : Vals dvs ds)
    (h : wA X (e :: es) σ H fun vs H1 => sp (vs ++ dvs) H1 Q (fun c d H' => W c d σ H')) (hdb : (x == ("__debug__" : Str)) = false := by decide) (he : starEach (e :: es) X.env = (false, eval e X.env) :: starEach es X.env := by rfl) (hpl : (backTo pos (starEach es X.env)).any (·.1) = false := by rfl) :
    wE X (.Call (.Name x p) (e :: es) [] pos) σ H Q := by
  intro pins s I
  refine wpAny_Call_Name_kw (ld_glob I hg hm ?_ hdb)
  refine PySem.W.callWith_K (h₀ := X.base) I.ok.mod.kin hk (thn (h pos pins s I) fun us s1 ⟨vs, H1, I1, r, q⟩ => ⟨I1.kIn, ?_⟩) he hpl
  exact run_w tk F hr hb hd I1 r q
theorem we_call0 (tk : Takes X W) (F : FnG X.prog X.w X.K X.mg X.base (CX X.prog X.w) k f fd ps sp) (hr : RoomG k X.A) (hg : Gl X x) (hm : X.mg x = some (.ref f)) (hk : PySem.W.keepIn X.K (.ref f) = true) (hb : Binds X.K fd ps ds) (hd : Vals dvs ds)
    (h : sp dvs H Q (fun c d H' => W c d σ H')) (hdb : (x == ("__debug__" : Str)) = false := by decide) : wE X (.Call (.Name x p) [] [] pos) σ H Q := by
  intro pins s I
  refine wpAny_Call_Name_kw (ld_glob I hg hm ?_ hdb)
  exact PySem.W.callWith_K0 I.kIn hk (run_w (us := []) tk F hr hb hd I .nil h)
theorem we_meth {pl : Sem Bool} (tk : Takes X W) (c : Cls X.K C) (hm : Meth X.K C m f) (F : FnG X.prog X.w X.K X.mg X.base (CX X.prog X.w) k f fd ps sp) (hr : RoomG k X.A) (hb : Binds X.K fd ps ds) (hd : Vals dvs ds)
    (h : wE X o σ H fun x H1 => ∃ a dx fs, x = .ref a ∧ H1 a = some (.ins C dx fs) ∧ fs.lookup m = none ∧ wA X (e :: es) σ H1 fun vs H2 => sp (x :: (vs ++ dvs)) H2 Q (fun c d H' => W c d σ H'))
    (hst : starEach (e :: es) X.env = (false, eval e X.env) :: starEach es X.env := by rfl) (hpl : (backTo pos (starEach es X.env)).any (·.1) = false := by rfl)
    (ht : eval (.Call (.Attribute o m apos) (e :: es) [] pos) X.env = (do
      let ov ← eval o X.env
      standAt apos.atName
      let (f, first) ← holding [ov] (getMethod ov m pl)
      callWith pos f first (backTo pos (starEach (e :: es) X.env)) (backToKw pos (keywordEach [] X.env))) := by rfl) :
    wE X (.Call (.Attribute o m apos) (e :: es) [] pos) σ H Q := by
  intro pins s I
  refine PySem.W.methodCall_KW (pl := pl) (thn (h pins s I) fun u s1 ⟨x, H1, I1, rx, a, dx, fs, ex, ea, l, q⟩ => ?_) ht
  subst ex
  obtain rfl : u = Value.ref a := rx
  refine getmeth_ok I1 ea c hm l ?_
  refine PySem.W.callWith_K (first := [.ref a]) (h₀ := X.base) I.ok.mod.kin hm.kp (thn (q pos pins s1 I1) fun us s2 ⟨vs, H2, I2, r, q2⟩ => ⟨I2.kIn, ?_⟩) hst hpl
  exact run_w (us := .ref a :: us) (vs := .ref a :: vs) tk F hr hb hd I2 (.cons rfl r) q2
theorem we_meth0 {pl : Sem Bool} (tk : Takes X W) (c : Cls X.K C) (hm : Meth X.K C m f) (F : FnG X.prog X.w X.K X.mg X.base (CX X.prog X.w) k f fd ps sp) (hr : RoomG k X.A) (hb : Binds X.K fd ps ds) (hd : Vals dvs ds)
    (h : wE X o σ H fun x H1 => ∃ a dx fs, x = .ref a ∧ H1 a = some (.ins C dx fs) ∧ fs.lookup m = none ∧ sp (x :: dvs) H1 Q (fun c d H' => W c d σ H'))
    (ht : eval (.Call (.Attribute o m apos) [] [] pos) X.env = (do
      let ov ← eval o X.env
      standAt apos.atName
      let (f, first) ← holding [ov] (getMethod ov m pl)
      callWith pos f first (backTo pos (starEach [] X.env)) (backToKw pos (keywordEach [] X.env))) := by rfl) :
    wE X (.Call (.Attribute o m apos) [] [] pos) σ H Q := by
  intro pins s I
  refine PySem.W.methodCall_KW (pl := pl) (thn (h pins s I) fun u s1 ⟨x, H1, I1, rx, a, dx, fs, ex, ea, l, q⟩ => ?_) ht
  subst ex
  obtain rfl : u = Value.ref a := rx
  refine getmeth_ok I1 ea c hm l ?_
  exact PySem.W.callWith_K0 (first := [.ref a]) I1.kIn hm.kp (run_w (us := [.ref a]) (vs := [.ref a]) tk F hr hb hd I1 (.cons rfl .nil) q)
theorem run_mkw {pins : List (Addr × Obj)} {s : Shared} {us : List Value} {vs : List V} (tk : Takes X W) (M : Mk X.K C f) (F : FnG X.prog X.w X.K X.mg X.base (CX X.prog X.w) k f fd ps sp) (hr : RoomG (k + 1) X.A) (hb : Binds X.K fd ps ds) (hd : Vals dvs ds)
    (I : Inv X pins σ H s) (r : Vals vs us)
    (h : ∀ x dx, H x = none → H dx = none → dx ≠ x → sp (.ref x :: (vs ++ dvs)) (upd (upd H dx (.own x)) x (.ins C dx [])) (fun v H2 => v = .non ∧ Q (.ref x) H2) (fun c d H' => W c d σ H')) :
    wpAny (model X.prog X.w) X.A (call (.ref C) us) (EP X pins σ Q) X.xe s := by
  have hq := h (s.heap.objs.size + 1) s.heap.objs.size (I.hok.fresh (Nat.le_succ _)) (I.hok.fresh (Nat.le_refl _)) (Nat.ne_of_lt (Nat.lt_succ_self _))
  have I2 := Inv.made (C := C) I
  have r2 : Vals (V.ref (s.heap.objs.size + 1) :: (vs ++ dvs)) (Value.ref (s.heap.objs.size + 1) :: (us ++ ds)) := .cons rfl (r.append hd)
  have hl : (Value.ref (s.heap.objs.size + 1) :: us ++ ds).length = ps.length := by
    have e := r2.length
    rw [F.len _ _ _ _ hq] at e
    exact e.symm
  refine wpAny_call (make_map (f := f) I.kIn M.makes M.init (beq_iff_eq.mp M.fn) (codeAny_mono (F.run _ X.stack _ _ ⟨Value.ref (s.heap.objs.size + 1) :: us, []⟩ (Value.ref (s.heap.objs.size + 1) :: (us ++ ds)) _ _ _ (hr.make C us [])
    (I2.env0.make C us []) (hb _ (Value.ref (s.heap.objs.size + 1) :: us) I2.kIn hl) r2 hq) fun r s' hq' => ?_))
  cases r with
  | error e => exact tk _ _ (XE.of_call I2 (fun _ _ _ z => z) hq')
  | ok fl =>
    cases fl with
    | ret u =>
      obtain ⟨v, H', I3, rv, ev, q3⟩ := I2.after hq'
      subst ev
      exact ⟨rv, ⟨V.ref (s.heap.objs.size + 1), H', I3, rfl, q3⟩⟩
    | next => exact False.elim hq'
    | brk => exact False.elim hq'
    | cont => exact False.elim hq'
theorem we_make (tk : Takes X W) (M : Mk X.K C f) (F : FnG X.prog X.w X.K X.mg X.base (CX X.prog X.w) k f fd ps sp) (hr : RoomG (k + 1) X.A) (hg : Gl X x) (hm : X.mg x = some (.ref C)) (hb : Binds X.K fd ps ds) (hd : Vals dvs ds)
    (h : wA X (e :: es) σ H fun vs H1 => ∀ x dx, H1 x = none → H1 dx = none → dx ≠ x → sp (.ref x :: (vs ++ dvs)) (upd (upd H1 dx (.own x)) x (.ins C dx [])) (fun v H2 => v = .non ∧ Q (.ref x) H2) (fun c d H' => W c d σ H'))
    (hdb : (x == ("__debug__" : Str)) = false := by decide) (he : starEach (e :: es) X.env = (false, eval e X.env) :: starEach es X.env := by rfl) (hpl : (backTo pos (starEach es X.env)).any (·.1) = false := by rfl) :
    wE X (.Call (.Name x p) (e :: es) [] pos) σ H Q := by
  intro pins s I
  refine wpAny_Call_Name_kw (ld_glob I hg hm ?_ hdb)
  refine PySem.W.callWith_K (h₀ := X.base) I.ok.mod.kin M.kp (thn (h pos pins s I) fun us s1 ⟨vs, H1, I1, r, q⟩ => ⟨I1.kIn, ?_⟩) he hpl
  exact run_mkw tk M F hr hb hd I1 r q
theorem we_make0 (tk : Takes X W) (M : Mk X.K C f) (F : FnG X.prog X.w X.K X.mg X.base (CX X.prog X.w) k f fd ps sp) (hr : RoomG (k + 1) X.A) (hg : Gl X x) (hm : X.mg x = some (.ref C)) (hb : Binds X.K fd ps ds) (hd : Vals dvs ds)
    (h : ∀ x dx, H x = none → H dx = none → dx ≠ x → sp (.ref x :: dvs) (upd (upd H dx (.own x)) x (.ins C dx [])) (fun v H2 => v = .non ∧ Q (.ref x) H2) (fun c d H' => W c d σ H'))
    (hdb : (x == ("__debug__" : Str)) = false := by decide) :
    wE X (.Call (.Name x p) [] [] pos) σ H Q := by
  intro pins s I
  refine wpAny_Call_Name_kw (ld_glob I hg hm ?_ hdb)
  exact PySem.W.callWith_K0 I.kIn M.kp (run_mkw (us := []) tk M F hr hb hd I .nil h)
end

/-! ### over data -/
/-- a def as a global: where it stands, what it does -/
structure Fun (X : Cx) (k n : Nat) (f : Addr) (fn : Fn) : Prop where
  ok : ∃ fd ps, FnG X.prog X.w X.K X.mg X.base (CX X.prog X.w) k f fd ps (spF X.K n fn) ∧ Binds X.K fd ps []
  kp : PySem.W.keepIn X.K (.ref f) = true
  len : ∀ gs, fn gs ≠ .bad → gs.length = n
def callS (fn : Fn) (fs : Env → Rs (List Hnd)) (ρ : Env) : Rs Hnd := (fs ρ).bind (callD fn)
/-- o.m(..): by the instance's class -/
def methS (Cs : List (String × Fn)) (m : String) (fo : Env → Rs Hnd) (fs : Env → Rs (List Hnd)) (ρ : Env) : Rs Hnd := (fo ρ).bind fun h ρ1 => match h.look ρ1 with
  | some ⟨_, .ins C fds⟩ => match Cs.lookup C with
    | some fn => if fds.lookup m = none then (fs ρ1).bind fun hs ρ2 => callD fn (h :: hs) ρ2 else .bad
    | none => .bad
  | _ => .bad
/-- C(..) -/
def makeD (C : String) (fn : Fn) (hs : List Hnd) (ρ : Env) : Rs Hnd := match looks ρ hs with
  | none => .bad
  | some gs => if (roots hs).Nodup then match fn (ow (.ins C []) :: gs) with
    | .ok ⟨_, .non⟩ (self :: gs') => match backs ρ hs gs' with
      | some ρ' => .ok (.val self) ρ'
      | none => .bad
    | .exc C fs (_ :: gs') => match backs ρ hs gs' with
      | some ρ' => .exc C fs ρ'
      | none => .bad
    | _ => .bad
    else .bad
section
variable {X : Cx} {W : WX} {vs : List V} {k n : Nat} {f : Addr} {fn : Fn} {x : Str} {p pos apos : Pos} {e o : Expr} {es : List Expr} {fs : Env → Rs (List Hnd)} {fo : Env → Rs Hnd}
theorem looks_cons {ρ : Env} {h : Hnd} {hs : List Hnd} {t : T} {ts : List T} (h1 : h.look ρ = some t) (h2 : looks ρ hs = some ts) : looks ρ (h :: hs) = some (t :: ts) := by
  show (match h.look ρ, looks ρ hs with | some t, some ts => some (t :: ts) | _, _ => none) = _
  rw [h1, h2]
theorem se_call (tk : Takes X W) (F : Fun X k n f fn) (hr : RoomG k X.A) (hg : Gl X x) (hm : X.mg x = some (.ref f)) (ha : SA X W vs (e :: es) fs)
    (hdb : (x == ("__debug__" : Str)) = false := by decide) (he : starEach (e :: es) X.env = (false, eval e X.env) :: starEach es X.env := by rfl) (hpl : (backTo pos (starEach es X.env)).any (·.1) = false := by rfl) :
    SE X W vs (.Call (.Name x p) (e :: es) [] pos) (callS fn fs) := by
  obtain ⟨⟨fd, ps, F, hb⟩, kp, hn⟩ := F
  constructor; intro σ F0 H0 ρ0 Q E q
  refine we_call (dvs := []) tk F hr hg hm kp hb .nil ?_ hdb he hpl
  unfold callS at q
  refine ha σ F0 H0 ρ0 _ E ?_
  cases z : fs ρ0 with
  | bad => rw [z] at q; exact q
  | exc C fs' ρ' => rw [z] at q; exact q
  | ok hs ρ1 =>
    rw [z, Rs.bind_ok] at q
    intro F1 H1 ws s1 E1 r1 n1
    rw [List.append_nil]
    exact callD_sp hn s1 E1 r1 n1 q
theorem se_call0 (tk : Takes X W) (F : Fun X k n f fn) (hr : RoomG k X.A) (hg : Gl X x) (hm : X.mg x = some (.ref f))
    (hdb : (x == ("__debug__" : Str)) = false := by decide) : SE X W vs (.Call (.Name x p) [] [] pos) (callD fn []) := by
  obtain ⟨⟨fd, ps, F, hb⟩, kp, hn⟩ := F
  constructor; intro σ F0 H0 ρ0 Q E q
  exact we_call0 (dvs := []) tk F hr hg hm kp hb .nil (callD_sp hn (.refl E.sub) E .nil (fun w h m => by simp at m) q) hdb
theorem repFs_none {K : PySem.W.Frag} {F : Hp} {m : String} : ∀ {fvs : List (Str × V)} {fds : List (String × D)}, RepFs K F fvs fds → fds.lookup m = none → fvs.lookup (Str.ofString m) = none
  | _, _, .nil, _ => rfl
  | _, _, @RepFs.cons _ _ n v d vs ds h r, e => by
    rw [List.lookup_cons] at e ⊢
    split at e
    · cases e
    · rename_i hne
      have : (Str.ofString m == Str.ofString n) = false := by
        rw [beq_eq_false_iff_ne]
        exact fun q => by rw [ofS_inj q] at hne; simp at hne
      rw [this]
      exact repFs_none r e
theorem repFs_some {K : PySem.W.Frag} {F : Hp} {m : String} {d : D} : ∀ {fvs : List (Str × V)} {fds : List (String × D)}, RepFs K F fvs fds → fds.lookup m = some d → ∃ v, fvs.lookup (Str.ofString m) = some v ∧ Rep K F v d
  | _, _, .nil, e => by cases e
  | _, _, @RepFs.cons _ _ n v d vs ds h r, e => by
    rw [List.lookup_cons] at e ⊢
    split at e
    · rename_i hne
      cases e
      have : m = n := by simpa using hne
      subst this
      exact ⟨v, by simp, h⟩
    · rename_i hne
      have : (Str.ofString m == Str.ofString n) = false := by
        rw [beq_eq_false_iff_ne]
        exact fun q => by rw [ofS_inj q] at hne; simp at hne
      rw [this]
      exact repFs_some r e
/-- a method -/
structure MethF (X : Cx) (C m : String) (fn : Fn) : Prop where
  cls : Cls X.K (He.ga X.K (Str.ofString C))
  at_ : ∃ f k n, Meth X.K (He.ga X.K (Str.ofString C)) (Str.ofString m) f ∧ Fun X k n f fn ∧ RoomG k X.A
theorem hns_cons {H0 : Hp} {P0 : Addr → Prop} {v : V} {h : Hnd} {ws : List V} {hs : List Hnd} (h1 : HN H0 P0 v h) (h2 : HNs H0 P0 ws hs) : HNs H0 P0 (v :: ws) (h :: hs) := fun w h' m => by
  rw [List.zip_cons_cons] at m
  rcases List.mem_cons.mp m with m | m
  · cases m; exact h1
  · exact h2 w h' m
theorem se_meth {Cs : List (String × Fn)} {m : String} {pl : Sem Bool} (tk : Takes X W) (hC : ∀ C fn, Cs.lookup C = some fn → MethF X C m fn) (ho : SE X W vs o fo) (ha : SA X W vs (e :: es) fs)
    (hst : starEach (e :: es) X.env = (false, eval e X.env) :: starEach es X.env := by rfl) (hpl : (backTo pos (starEach es X.env)).any (·.1) = false := by rfl)
    (ht : eval (.Call (.Attribute o (Str.ofString m) apos) (e :: es) [] pos) X.env = (do
      let ov ← eval o X.env
      standAt apos.atName
      let (f, first) ← holding [ov] (getMethod ov (Str.ofString m) pl)
      callWith pos f first (backTo pos (starEach (e :: es) X.env)) (backToKw pos (keywordEach [] X.env))) := by rfl) :
    SE X W vs (.Call (.Attribute o (Str.ofString m) apos) (e :: es) [] pos) (methS Cs m fo fs) := by
  constructor; intro σ F0 H0 ρ0 Q E q
  unfold methS at q
  cases z : fo ρ0 with
  | bad => rw [z] at q; exact q.elim
  | exc C fs' ρ' =>
    rw [z] at q
    -- the receiver raises: any class will do; the rule needs none
    intro pins s I
    exact PySem.W.methodCall_KW (pl := pl) (thn (ho σ F0 H0 ρ0 (fun _ _ => False) E (by rw [z]; exact q) pins s I) fun u s1 ⟨_, _, _, _, q⟩ => q.elim) ht
  | ok h ρ1 =>
    rw [z, Rs.bind_ok] at q
    split at q
    · rename_i o' C fds el
      split at q
      · rename_i fn eC
        split at q
        · rename_i hm0
          obtain ⟨c, f, k, n, hm, ⟨⟨fd, ps, F, hb⟩, kp, hn⟩, hr⟩ := hC C fn eC
          refine we_meth (pl := pl) (dvs := []) tk c hm F hr hb .nil ?_ hst hpl ht
          refine ho σ F0 H0 ρ0 _ E ?_
          rw [z]
          intro F1 H1 v s1 E1 r1 n1
          obtain ⟨a, dx, fvs, rfl, ea, rf⟩ := (r1.look E1 el).ins E1.sub
          refine ⟨a, dx, fvs, rfl, ea, repFs_none rf hm0, ?_⟩
          refine ha.go s1 E1 q fun F2 H2 ρ2 ws hs s2 t2 E2 r2 n2 p2 => ?_
          rw [List.append_nil]
          exact callD_sp hn s2 E2 (.cons (r1.step t2) r2 (cons_dist r1 n2)) (hns_cons n1 fun w h' m => (n2 w h' m).step s1) p2
        · exact q.elim
      · exact q.elim
    · exact q.elim
def meth0S (Cs : List (String × Fn)) (m : String) (fo : Env → Rs Hnd) (ρ : Env) : Rs Hnd := methS Cs m fo (fun ρ => .ok [] ρ) ρ
theorem se_meth0 {Cs : List (String × Fn)} {m : String} {pl : Sem Bool} (tk : Takes X W) (hC : ∀ C fn, Cs.lookup C = some fn → MethF X C m fn) (ho : SE X W vs o fo)
    (ht : eval (.Call (.Attribute o (Str.ofString m) apos) [] [] pos) X.env = (do
      let ov ← eval o X.env
      standAt apos.atName
      let (f, first) ← holding [ov] (getMethod ov (Str.ofString m) pl)
      callWith pos f first (backTo pos (starEach [] X.env)) (backToKw pos (keywordEach [] X.env))) := by rfl) :
    SE X W vs (.Call (.Attribute o (Str.ofString m) apos) [] [] pos) (meth0S Cs m fo) := by
  constructor; intro σ F0 H0 ρ0 Q E q
  unfold meth0S methS at q
  cases z : fo ρ0 with
  | bad => rw [z] at q; exact q.elim
  | exc C fs' ρ' =>
    rw [z] at q
    intro pins s I
    exact PySem.W.methodCall_KW (pl := pl) (thn (ho σ F0 H0 ρ0 (fun _ _ => False) E (by rw [z]; exact q) pins s I) fun u s1 ⟨_, _, _, _, q⟩ => q.elim) ht
  | ok h ρ1 =>
    rw [z, Rs.bind_ok] at q
    split at q
    · rename_i o' C fds el
      split at q
      · rename_i fn eC
        split at q
        · rename_i hm0
          obtain ⟨c, f, k, n, hm, ⟨⟨fd, ps, F, hb⟩, kp, hn⟩, hr⟩ := hC C fn eC
          refine we_meth0 (pl := pl) (dvs := []) tk c hm F hr hb .nil ?_ ht
          refine ho σ F0 H0 ρ0 _ E ?_
          rw [z]
          intro F1 H1 v s1 E1 r1 n1
          obtain ⟨a, dx, fvs, rfl, ea, rf⟩ := (r1.look E1 el).ins E1.sub
          refine ⟨a, dx, fvs, rfl, ea, repFs_none rf hm0, ?_⟩
          exact callD_sp hn s1 E1 (.cons r1 .nil fun t a _ _ _ w t' m => by simp at m) (hns_cons n1 fun w h' m => by simp at m) q
        · exact q.elim
      · exact q.elim
    · exact q.elim
/-- a new instance ahead of its __init__ -/
theorem makeD_sp {vs : List V} {σ : L2.St} {C : String} {F0 H0 F H : Hp} {P0 : Addr → Prop} {ρ : Env} {ws : List V} {hs : List Hnd} {Q : VK} {n : Nat} {fn : Fn} (hn : ∀ gs, fn gs ≠ .bad → gs.length = n) (s0 : Step F0 H0 P0 F H (Fp vs σ ρ)) (E : ER X.K vs σ F H ρ) (r : HRs X.K vs σ F H ρ ws hs) (nn : HNs H0 P0 ws hs)
    (p : PH X.K vs σ W F0 H0 P0 Q (makeD C fn hs ρ)) (x dx : Addr) (hx : H x = none) (hdx : H dx = none) (hne : dx ≠ x) :
    spF X.K n fn (.ref x :: ws) (upd (upd H dx (.own x)) x (.ins (He.ga X.K (Str.ofString C)) dx [])) (fun v H2 => v = .non ∧ Q (.ref x) H2) (fun c d H' => W c d σ H') := by
  have g1 : Grow F H F (upd H dx (.own x)) := .newO E.sub hdx
  have hx1 : (upd H dx (.own x)) x = none := by rw [upd_ne (Ne.symm hne)]; exact hx
  have E1 := g1.er E
  have g2 : Grow F (upd H dx (.own x)) F (upd (upd H dx (.own x)) x (.ins (He.ga X.K (Str.ofString C)) dx [])) := .newO E1.sub hx1
  have E2 := g2.er E1
  have st : Step F H (Fp vs σ ρ) F (upd (upd H dx (.own x)) x (.ins (He.ga X.K (Str.ofString C)) dx [])) (Fp vs σ ρ) := g1.step.trans g2.step
  have s2 := s0.trans st
  have nfx : ¬ Fp vs σ ρ x := fun q => by
    obtain ⟨⟨o, e⟩, _⟩ := E.fp q
    rw [e] at hx; cases hx
  have r0 : HR X.K vs σ F (upd (upd H dx (.own x)) x (.ins (He.ga X.K (Str.ofString C)) dx [])) ρ (.ref x) (.val (ow (.ins C []))) :=
    .val (.ow (E.sub.none hx) (.ins upd_same .nil)) fun _ a e => by cases e; exact nfx
  have n0 : HN H0 P0 (.ref x) (.val (ow (.ins C []))) := fun _ a e => by cases e; exact s0.none_of (.inr hx)
  have r2 : HRs X.K vs σ F (upd (upd H dx (.own x)) x (.ins (He.ga X.K (Str.ofString C)) dx [])) ρ (.ref x :: ws) (.val (ow (.ins C [])) :: hs) := by
    refine .cons r0 (r.step st) fun t a e1 e2 e3 w t' m e4 e5 => ?_
    cases e3
    -- an older temporary is older
    obtain ⟨j, hj⟩ := List.getElem?_of_mem m
    rw [List.getElem?_zip_eq_some] at hj
    obtain ⟨v, h1, h2⟩ := r.get hj.2
    cases h1.symm.trans hj.1
    cases h2 with
    | val h2 _ =>
      subst e5
      obtain ⟨o, d⟩ := t'
      cases e4
      cases h2 with
      | ow _ ho =>
        obtain ⟨o, eo⟩ := ho.ex
        rw [eo] at hx; cases hx
  have n2 : HNs H0 P0 (.ref x :: ws) (.val (ow (.ins C [])) :: hs) := hns_cons n0 nn
  unfold makeD at p
  split at p
  · exact p.elim
  · rename_i gs eg
    split at p
    · rename_i nd0
      have eg2 : looks ρ (.val (ow (.ins C [])) :: hs) = some (ow (.ins C []) :: gs) := looks_cons (t := ow (.ins C [])) rfl eg
      have nd : (roots (.val (ow (.ins C [])) :: hs)).Nodup := nd0
      have bk : ∀ self gs', backs ρ (.val (ow (.ins C [])) :: hs) (self :: gs') = backs ρ hs gs' := fun _ _ => rfl
      have hl : fn (ow (.ins C []) :: gs) ≠ .bad → (V.ref x :: ws).length = n := fun z => by
        have := hn _ z
        rw [← this, List.length_cons, List.length_cons, r.length, looks_length eg]
      split at p
      · rename_i o' self gs' ez
        split at p
        · rename_i ρ' eb
          refine ⟨hl (by rw [ez]; exact fun z => by cases z), F, _, E2.args r2 eg2 nd, ?_⟩
          rw [ez]
          intro F' H' v s E' hr hn'
          have eb' : backs ρ (.val (ow (.ins C [])) :: hs) (self :: gs') = some ρ' := eb
          obtain ⟨E3, s3, fp⟩ := E2.back r2 eg2 nd n2 s2 s E' eb'
          refine ⟨?_, p F' H' (.ref x) s3 E3 ?_ ?_⟩
          · cases hr with
            | val hr _ => exact TRel.non hr
          · obtain ⟨w, w1, w2⟩ := E'.rel (.g 0) self rfl
            cases (show some (V.ref x) = some w from w1)
            refine .val w2 fun ho a ea q => ?_
            cases ea
            obtain ⟨r', d', e', hv⟩ := q
            obtain ⟨_, _, _, h4⟩ := backs_spec nd eb'
            rcases h4 r' with ⟨j, t, t0, q1, q2, q3, q4, q5⟩ | ⟨q1, q2⟩
            · rw [q3] at e'
              cases e'
              exact nfx ⟨r', t0.d, by rw [q4]; cases t0; cases q5 rfl; rfl, hv⟩
            · rw [q2] at e'
              exact nfx ⟨r', d', e', hv⟩
          · intro ho a ea
            cases ea
            exact s0.none_of (.inr hx)
        · exact p.elim
      · rename_i C' fs' t0 gs' ez
        split at p
        · rename_i ρ' eb
          refine ⟨hl (by rw [ez]; exact fun z => by cases z), F, _, E2.args r2 eg2 nd, ?_⟩
          rw [ez]
          intro F' H' cls d s E' xv
          have eb' : backs ρ (.val (ow (.ins C [])) :: hs) (t0 :: gs') = some ρ' := eb
          obtain ⟨E3, s3, fp⟩ := E2.back r2 eg2 nd n2 s2 s E' eb'
          exact p F' H' cls d s3 E3 xv
        · exact p.elim
      · exact p.elim
    · exact p.elim
/-- a class that is made by its own __init__ -/
structure MakeF (X : Cx) (C : String) (fn : Fn) : Prop where
  at_ : ∃ f k n, Mk X.K (He.ga X.K (Str.ofString C)) f ∧ Fun X k n f fn ∧ RoomG (k + 1) X.A
def makeS (C : String) (fn : Fn) (fs : Env → Rs (List Hnd)) (ρ : Env) : Rs Hnd := (fs ρ).bind (makeD C fn)
theorem se_make {C : String} (tk : Takes X W) (F : MakeF X C fn) (hg : Gl X x) (hm : X.mg x = some (.ref (He.ga X.K (Str.ofString C)))) (ha : SA X W vs (e :: es) fs)
    (hdb : (x == ("__debug__" : Str)) = false := by decide) (he : starEach (e :: es) X.env = (false, eval e X.env) :: starEach es X.env := by rfl) (hpl : (backTo pos (starEach es X.env)).any (·.1) = false := by rfl) :
    SE X W vs (.Call (.Name x p) (e :: es) [] pos) (makeS C fn fs) := by
  obtain ⟨f, k, n, M, ⟨⟨fd, ps, F, hb⟩, kp, hn⟩, hr⟩ := F
  constructor; intro σ F0 H0 ρ0 Q E q
  refine we_make (dvs := []) tk M F hr hg hm hb .nil ?_ hdb he hpl
  unfold makeS at q
  refine ha σ F0 H0 ρ0 _ E ?_
  cases z : fs ρ0 with
  | bad => rw [z] at q; exact q
  | exc C fs' ρ' => rw [z] at q; exact q
  | ok hs ρ1 =>
    rw [z, Rs.bind_ok] at q
    intro F1 H1 ws s1 E1 r1 n1 x dx hx hdx hne
    rw [List.append_nil]
    exact makeD_sp hn s1 E1 r1 n1 q x dx hx hdx hne
theorem se_make0 {C : String} (tk : Takes X W) (F : MakeF X C fn) (hg : Gl X x) (hm : X.mg x = some (.ref (He.ga X.K (Str.ofString C))))
    (hdb : (x == ("__debug__" : Str)) = false := by decide) :
    SE X W vs (.Call (.Name x p) [] [] pos) (makeS C fn fun ρ => .ok [] ρ) := by
  obtain ⟨f, k, n, M, ⟨⟨fd, ps, F, hb⟩, kp, hn⟩, hr⟩ := F
  constructor; intro σ F0 H0 ρ0 Q E q
  refine we_make0 (dvs := []) tk M F hr hg hm hb .nil (fun x dx hx hdx hne => ?_) hdb
  exact makeD_sp hn (.refl E.sub) E .nil (fun w h m => by simp at m) q x dx hx hdx hne
end
end MP
end

section
set_option maxHeartbeats 4000000
/-! Items, slices, attributes, stores, methods of lists, built-in functions. -/
namespace MP
open PySem PySem.Spec PyProof.Rows L2

/-! ### built-in functions -/
inductive TRels (K : PySem.W.Frag) (F H : Hp) : List V → List T → Prop
  | nil : TRels K F H [] []
  | cons {v t vs ts} : TRel K F H v t → TRels K F H vs ts → TRels K F H (v :: vs) (t :: ts)
theorem HRs.looks {K : PySem.W.Frag} {vs : List V} {σ : L2.St} {F H : Hp} {ρ : Env} {ws : List V} {hs : List Hnd} (r : HRs K vs σ F H ρ ws hs) (E : ER K vs σ F H ρ) : ∀ {ts : List T}, MP.looks ρ hs = some ts → TRels K F H ws ts := by
  induction r with
  | nil => intro ts e; cases e; exact .nil
  | @cons v h ws hs h1 _ _ ih =>
    intro ts e
    replace e : (match h.look ρ, MP.looks ρ hs with | some t, some ts => some (t :: ts) | _, _ => none) = some ts := e
    split at e
    · rename_i t ts' e1 e2
      cases e
      exact .cons (h1.look E e1) (ih e2)
    · cases e
def rBn (K : PySem.W.Frag) (g : List D → Option T) : List V → Hp → VK → Prop := fun xs H Q => ∃ F ts res, Sub F H ∧ TRels K F H xs ts ∧ g (ts.map T.d) = some res ∧ RP K F H Q res
def opL (g : List D → Option T) (fs : Env → Rs (List Hnd)) (ρ : Env) : Rs Hnd := (fs ρ).bind fun hs ρ1 => match looks ρ1 hs with
  | some ts => valR (g (ts.map T.d)) ρ1
  | none => .bad
section
variable {X : Cx} {W : WX} {vs : List V} {x : Str} {p pos apos : Pos} {a b c e o : Expr} {es : List Expr} {fs : Env → Rs (List Hnd)} {fo fa fb : Env → Rs Hnd} {g : List D → Option T}
theorem opL_sp {σ : L2.St} {F0 H0 F H : Hp} {P0 : Addr → Prop} {ρ : Env} {ws : List V} {hs : List Hnd} {Q : VK} (s0 : Step F0 H0 P0 F H (Fp vs σ ρ)) (E : ER X.K vs σ F H ρ) (r : HRs X.K vs σ F H ρ ws hs)
    (p : PH X.K vs σ W F0 H0 P0 Q (match looks ρ hs with | some ts => valR (g (ts.map T.d)) ρ | none => .bad)) : rBn X.K g ws H Q := by
  split at p
  · rename_i ts el
    obtain ⟨res, e3, q⟩ := ph_valR s0 E p
    exact ⟨F, ts, res, E.sub, r.looks E el, e3, q⟩
  · exact p.elim
theorem se_callB {id : String} (hc : CallR X (.builtin id) (rBn X.K g)) (hg : Gl X x) (hm : X.mg x = none) (hv : bootBuiltins x = some (.builtin id)) (ha : SA X W vs (e :: es) fs) (hn : x ≠ "__name__" := by decide) (hdb : (x == ("__debug__" : Str)) = false := by decide)
    (he : starEach (e :: es) X.env = (false, eval e X.env) :: starEach es X.env := by rfl) (hpl : (backTo pos (starEach es X.env)).any (·.1) = false := by rfl) : SE X W vs (.Call (.Name x p) (e :: es) [] pos) (opL g fs) := by
  constructor; intro σ F H ρ Q E q
  refine (pe_callB hc hg hm hv (pa_w X (e :: es)) hn hdb he hpl).w ?_
  exact ha.go (.refl E.sub) E q fun F1 H1 ρ1 ws hs s1 _ E1 r1 _ p1 => opL_sp s1 E1 r1 p1
theorem se_callT {T : String} (hc : CallR X (.type T) (rBn X.K g)) (hg : Gl X x) (hm : X.mg x = none) (hv : bootBuiltins x = some (.type T)) (ha : SA X W vs (e :: es) fs) (hn : x ≠ "__name__" := by decide) (hdb : (x == ("__debug__" : Str)) = false := by decide)
    (he : starEach (e :: es) X.env = (false, eval e X.env) :: starEach es X.env := by rfl) (hpl : (backTo pos (starEach es X.env)).any (·.1) = false := by rfl) : SE X W vs (.Call (.Name x p) (e :: es) [] pos) (opL g fs) := by
  constructor; intro σ F H ρ Q E q
  refine (pe_callTy hc hg hm hv (pa_w X (e :: es)) hn hdb he hpl).w ?_
  exact ha.go (.refl E.sub) E q fun F1 H1 ρ1 ws hs s1 _ E1 r1 _ p1 => opL_sp s1 E1 r1 p1
end
def lenD : List D → Option T
  | [.lst ds] => some (fz (.int ds.length))
  | [.tup ds] => some (fz (.int ds.length))
  | [.scr ds] => some (fz (.int ds.length))
  | [.dct ds] => some (fz (.int ds.length))
  | [.str x] => if x.length ≤ sizeLine then some (fz (.int x.length)) else none
  | _ => none
def intD : List D → Option T
  | [.int i] => some (fz (.int i))
  | [.bl b] => some (fz (.int (if b then 1 else 0)))
  | _ => none
def absD : List D → Option T
  | [.int i] => some (fz (.int (if i < 0 then -i else i)))
  | _ => none
def maxD : List D → Option T
  | [.int i, .int j] => some (fz (.int (if j > i then j else i)))
  | _ => none
def minD : List D → Option T
  | [.int i, .int j] => some (fz (.int (if j < i then j else i)))
  | _ => none
def strD : List D → Option T
  | [.int i] => if i.natAbs.log2 < 1920 then some (fz (.str (toString i))) else none
  | [.str x] => some (fz (.str x))
  | _ => none
def listD : List D → Option T
  | [.lst ds] => some (ow (.lst ds))
  | [.tup ds] => some (ow (.lst ds))
  | [.scr ns] => some (ow (.lst (ns.map D.int)))
  | _ => none
def tupleD : List D → Option T
  | [.lst ds] => some (fz (.tup ds))
  | [.tup ds] => some (fz (.tup ds))
  | [.scr ns] => some (fz (.tup (ns.map D.int)))
  | _ => none
section
variable {K : PySem.W.Frag} {F H : Hp} {v : V} {ws : List V}
/-- a sequence's items -/
theorem TRel.seqL {t : T} {ds : List D} (hs : Sub F H) (h : TRel K F H v t) (e : t.d = .lst ds) : ∃ a xs, v = .ref a ∧ SqL K H a xs ∧ Reps K F xs ds := by
  obtain ⟨o, d⟩ := t
  cases (show d = .lst ds from e)
  obtain ⟨a, ws, h1, h2, h3⟩ := h.lst hs
  exact ⟨a, ws, h1, .inl (.inl h2), h3⟩
theorem TRel.seqS {t : T} {ns : List Int} (hs : Sub F H) (h : TRel K F H v t) (e : t.d = .scr ns) : ∃ a xs, v = .ref a ∧ SqL K H a xs ∧ Reps K F xs (ns.map D.int) := by
  obtain ⟨o, d⟩ := t
  cases (show d = .scr ns from e)
  obtain ⟨a, h1, h2⟩ := h.scr hs
  exact ⟨a, _, h1, h2, reps_ints _⟩
theorem TRel.seqT {t : T} {ds : List D} (hs : Sub F H) (h : TRel K F H v t) (e : t.d = .tup ds) : ∃ a xs, v = .ref a ∧ SqT K H a xs ∧ Reps K F xs ds := by
  obtain ⟨o, d⟩ := t
  cases (show d = .tup ds from e)
  exact h.tup hs
theorem TRel.i {t : T} {i : Int} (h : TRel K F H v t) (e : t.d = .int i) : v = .int i := by
  obtain ⟨o, d⟩ := t; cases (show d = .int i from e); exact h.int
theorem TRel.s {t : T} {i : Str} (h : TRel K F H v t) (e : t.d = .str i) : v = .str i := by
  obtain ⟨o, d⟩ := t; cases (show d = .str i from e); exact h.str
theorem TRel.bb {t : T} {i : Bool} (h : TRel K F H v t) (e : t.d = .bl i) : v = .bl i := by
  obtain ⟨o, d⟩ := t; cases (show d = .bl i from e); exact h.bl
theorem map1 {ts : List T} {d : D} (e : ts.map T.d = [d]) : ∃ t, ts = [t] ∧ t.d = d := by
  match ts, e with
  | [t], e => exact ⟨t, rfl, by simpa using e⟩
theorem map2 {ts : List T} {d d' : D} (e : ts.map T.d = [d, d']) : ∃ t t', ts = [t, t'] ∧ t.d = d ∧ t'.d = d' := by
  match ts, e with
  | [t, t'], e => exact ⟨t, t', rfl, by simpa using e⟩
theorem TRels.one {ts : List T} {d : D} (h : TRels K F H ws ts) (e : ts.map T.d = [d]) : ∃ v t, ws = [v] ∧ TRel K F H v t ∧ t.d = d := by
  obtain ⟨t, rfl, e2⟩ := map1 e
  cases h with
  | cons h h' => cases h'; exact ⟨_, t, rfl, h, e2⟩
theorem TRels.two {ts : List T} {d d' : D} (h : TRels K F H ws ts) (e : ts.map T.d = [d, d']) : ∃ v w t t', ws = [v, w] ∧ TRel K F H v t ∧ TRel K F H w t' ∧ t.d = d ∧ t'.d = d' := by
  obtain ⟨t, t', rfl, e2, e3⟩ := map2 e
  cases h with
  | cons h h' => cases h' with
    | cons h' h'' => cases h''; exact ⟨_, _, t, t', rfl, h, h', e2, e3⟩
end
section
variable {X : Cx}
theorem call_lenB : CallR X (.builtin "len") (rBn X.K lenD) := by
  intro pins s σ H xs us Q I r h
  obtain ⟨F, ts, res, hs, hr, e, q⟩ := h
  unfold lenD at e
  split at e
  · rename_i ds em
    obtain ⟨v, t, rfl, ht, ed⟩ := hr.one em
    obtain ⟨a, xs, rfl, h1, h2⟩ := ht.seqL hs ed
    cases e
    exact call_len_seq pins s σ H _ us Q I r ⟨a, xs, rfl, .inl h1, by rw [h2.length]; exact RP.imm hs (.int _) q⟩
  · rename_i ds em
    obtain ⟨v, t, rfl, ht, ed⟩ := hr.one em
    obtain ⟨a, xs, rfl, h1, h2⟩ := ht.seqT hs ed
    cases e
    exact call_len_seq pins s σ H _ us Q I r ⟨a, xs, rfl, .inr h1, by rw [h2.length]; exact RP.imm hs (.int _) q⟩
  · rename_i ns em
    obtain ⟨v, t, rfl, ht, ed⟩ := hr.one em
    obtain ⟨a, xs, rfl, h1, h2⟩ := ht.seqS hs ed
    cases e
    exact call_len_seq pins s σ H _ us Q I r ⟨a, xs, rfl, .inl h1, by rw [h2.length, List.length_map]; exact RP.imm hs (.int _) q⟩
  · rename_i ds em
    obtain ⟨v, ⟨o, d⟩, rfl, ht, ed⟩ := hr.one em
    cases (show d = .dct ds from ed)
    obtain ⟨a, kvs, rfl, h1, h2⟩ := ht.dct hs
    cases e
    obtain ⟨u, rfl, ru⟩ := r.one
    obtain rfl : u = Value.ref a := ru
    refine d_len I h1 fun t s' I' => ⟨.int kvs.length, H, I', ⟨_, rfl⟩, ?_⟩
    rw [repKs_length h2]
    exact RP.imm hs (.int _) q
  · rename_i z em
    obtain ⟨v, t, rfl, ht, ed⟩ := hr.one em
    cases ht.s ed
    split at e
    · rename_i hl
      cases e
      exact call_len_str pins s σ H _ us Q I r ⟨z, rfl, hl, RP.imm hs (.int _) q⟩
    · cases e
  · cases e
theorem call_intB : CallR X (.type "int") (rBn X.K intD) := by
  intro pins s σ H xs us Q I r h
  obtain ⟨F, ts, res, hs, hr, e, q⟩ := h
  unfold intD at e
  split at e
  · rename_i i em
    obtain ⟨v, t, rfl, ht, ed⟩ := hr.one em
    cases ht.i ed
    cases e
    exact call_int1 pins s σ H _ us Q I r (.inl ⟨i, rfl, RP.imm hs (.int _) q⟩)
  · rename_i i em
    obtain ⟨v, t, rfl, ht, ed⟩ := hr.one em
    cases ht.bb ed
    cases e
    exact call_int1 pins s σ H _ us Q I r (.inr ⟨i, rfl, RP.imm hs (.int _) q⟩)
  · cases e
theorem call_absB : CallR X (.builtin "abs") (rBn X.K absD) := by
  intro pins s σ H xs us Q I r h
  obtain ⟨F, ts, res, hs, hr, e, q⟩ := h
  unfold absD at e
  split at e
  · rename_i i em
    obtain ⟨v, t, rfl, ht, ed⟩ := hr.one em
    cases ht.i ed
    cases e
    exact call_abs pins s σ H _ us Q I r ⟨i, rfl, RP.imm hs (.int _) q⟩
  · cases e
theorem call_maxB (hc : X.calm = true) : CallR X (.builtin "max") (rBn X.K maxD) := by
  intro pins s σ H xs us Q I r h
  obtain ⟨F, ts, res, hs, hr, e, q⟩ := h
  unfold maxD at e
  split at e
  · rename_i i j em
    obtain ⟨v, w, t, t', rfl, ht, ht', ed, ed'⟩ := hr.two em
    cases ht.i ed
    cases ht'.i ed'
    cases e
    exact call_max2 hc pins s σ H _ us Q I r ⟨i, j, rfl, RP.imm hs (.int _) q⟩
  · cases e
theorem call_minB (hc : X.calm = true) : CallR X (.builtin "min") (rBn X.K minD) := by
  intro pins s σ H xs us Q I r h
  obtain ⟨F, ts, res, hs, hr, e, q⟩ := h
  unfold minD at e
  split at e
  · rename_i i j em
    obtain ⟨v, w, t, t', rfl, ht, ht', ed, ed'⟩ := hr.two em
    cases ht.i ed
    cases ht'.i ed'
    cases e
    exact call_min2 hc pins s σ H _ us Q I r ⟨i, j, rfl, RP.imm hs (.int _) q⟩
  · cases e
theorem call_strB : CallR X (.type "str") (rBn X.K strD) := by
  intro pins s σ H xs us Q I r h
  obtain ⟨F, ts, res, hs, hr, e, q⟩ := h
  unfold strD at e
  split at e
  · rename_i i em
    obtain ⟨v, t, rfl, ht, ed⟩ := hr.one em
    cases ht.i ed
    split at e
    · rename_i hl
      cases e
      exact call_str_int pins s σ H _ us Q I r ⟨i, rfl, hl, RP.imm hs (.str _) q⟩
    · cases e
  · rename_i i em
    obtain ⟨v, t, rfl, ht, ed⟩ := hr.one em
    cases ht.s ed
    cases e
    exact SkE.call_str_str pins s σ H _ us Q I r ⟨i, rfl, RP.imm hs (.str _) q⟩
  · cases e
theorem call_listB : CallR X (.type "list") (rBn X.K listD) := by
  intro pins s σ H xs us Q I r h
  obtain ⟨F, ts, res, hs, hr, e, q⟩ := h
  unfold listD at e
  split at e
  · rename_i ds em
    obtain ⟨v, t, rfl, ht, ed⟩ := hr.one em
    obtain ⟨a, xs, rfl, h1, h2⟩ := ht.seqL hs ed
    cases e
    exact call_list_of pins s σ H _ us Q I r ⟨a, xs, rfl, .inl h1, RP.lst hs h2 q⟩
  · rename_i ds em
    obtain ⟨v, t, rfl, ht, ed⟩ := hr.one em
    obtain ⟨a, xs, rfl, h1, h2⟩ := ht.seqT hs ed
    cases e
    exact call_list_of pins s σ H _ us Q I r ⟨a, xs, rfl, .inr h1, RP.lst hs h2 q⟩
  · rename_i ds em
    obtain ⟨v, t, rfl, ht, ed⟩ := hr.one em
    obtain ⟨a, xs, rfl, h1, h2⟩ := ht.seqS hs ed
    cases e
    exact call_list_of pins s σ H _ us Q I r ⟨a, xs, rfl, .inl h1, RP.lst hs h2 q⟩
  · cases e
theorem call_tupleB : CallR X (.type "tuple") (rBn X.K tupleD) := by
  intro pins s σ H xs us Q I r h
  obtain ⟨F, ts, res, hs, hr, e, q⟩ := h
  unfold tupleD at e
  split at e
  · rename_i ds em
    obtain ⟨v, t, rfl, ht, ed⟩ := hr.one em
    obtain ⟨a, xs, rfl, h1, h2⟩ := ht.seqL hs ed
    cases e
    exact call_tuple_of pins s σ H _ us Q I r ⟨a, xs, rfl, .inl ⟨h1, RP.tup hs h2 q⟩⟩
  · rename_i ds em
    obtain ⟨v, ⟨o, d⟩, rfl, ht, ed⟩ := hr.one em
    cases (show d = .tup ds from ed)
    have rp := ht.repT
    obtain ⟨a, xs, rfl, h1, h2⟩ := ht.tup hs
    cases e
    exact call_tuple_of pins s σ H _ us Q I r ⟨a, xs, rfl, .inr ⟨h1, RP.imm hs rp q⟩⟩
  · rename_i ds em
    obtain ⟨v, t, rfl, ht, ed⟩ := hr.one em
    obtain ⟨a, xs, rfl, h1, h2⟩ := ht.seqS hs ed
    cases e
    exact call_tuple_of pins s σ H _ us Q I r ⟨a, xs, rfl, .inl ⟨h1, RP.tup hs h2 q⟩⟩
  · cases e
end

/-! ### items, slices -/
def ixD : D → D → Option T
  | .lst ds, .int i => (atI ds i).map fz
  | .tup ds, .int i => (atI ds i).map fz
  | .scr ns, .int i => (atI ns i).map fun n => fz (.int n)
  | .str z, .int i => if z.length ≤ sizeLine then (atI z.cps.toList i).map fun c => fz (.str ⟨#[c]⟩) else none
  | .dct kvs, k => if k.key.isSome = true then (dget kvs k).map fz else none
  | _, _ => none
def cutD {α : Type} (xs : List α) (lo hi : Option Int) : List α := (xs.drop (HT.sIx xs.length 0 lo)).take (HT.sIx xs.length xs.length hi - HT.sIx xs.length 0 lo)
def slD (d : D) (lo hi : Option Int) : Option T := match d with
  | .lst ds => some (ow (.lst (cutD ds lo hi)))
  | .tup ds => some (fz (.tup (cutD ds lo hi)))
  | .scr ns => some (ow (.lst (cutD (ns.map D.int) lo hi)))
  | .str z => if z.length ≤ sizeLine then some (fz (.str (cutS z lo hi))) else none
  | _ => none
section
variable {K : PySem.W.Frag} {F H : Hp} {v : V}
theorem Reps.atI {xs : List V} {ds : List D} {i : Int} {d : D} (r : Reps K F xs ds) (e : L2.atI ds i = some d) : ∃ v, L2.atI xs i = some v ∧ Rep K F v d := by
  unfold L2.atI at e ⊢
  rw [r.length]
  cases z : ixN ds.length i with
  | none => rw [z] at e; cases e
  | some j =>
    rw [z] at e
    exact r.get e
theorem Reps.cut {xs : List V} {ds : List D} (lo hi : Option Int) (r : Reps K F xs ds) : Reps K F (cutV xs lo hi) (cutD ds lo hi) := by
  unfold cutV cutD
  rw [r.length]
  exact (r.drop _).take _
variable {X : Cx}
theorem ix_D (hu : X.A.units + 1 < cLine) : IxR X (rB X.K ixD) := by
  rintro value slice pins s σ H x y v u Q I rx ry ⟨F, t, w, res, hs, hx, hy, e, q⟩ hsub
  unfold ixD at e
  split at e
  · rename_i ds i e1 e2
    obtain ⟨a, xs, rfl, h1, h2⟩ := hx.seqL hs e1
    cases hy.i e2
    obtain ⟨d, e3, rfl⟩ := Option.map_eq_some_iff.mp e
    obtain ⟨z, e4, rz⟩ := h2.atI e3
    exact ix_list value slice pins s σ H _ _ v u Q I rx ry ⟨a, xs, i, z, rfl, rfl, h1, e4, RP.imm hs rz q⟩ hsub
  · rename_i ds i e1 e2
    obtain ⟨a, xs, rfl, h1, h2⟩ := hx.seqT hs e1
    cases hy.i e2
    obtain ⟨d, e3, rfl⟩ := Option.map_eq_some_iff.mp e
    obtain ⟨z, e4, rz⟩ := h2.atI e3
    exact ix_tup value slice pins s σ H _ _ v u Q I rx ry ⟨a, xs, i, z, rfl, rfl, h1, e4, RP.imm hs rz q⟩ hsub
  · rename_i ns i e1 e2
    obtain ⟨a, xs, rfl, h1, h2⟩ := hx.seqS hs e1
    cases hy.i e2
    obtain ⟨d, e3, rfl⟩ := Option.map_eq_some_iff.mp e
    have e3' : L2.atI (ns.map D.int) i = some (.int d) := by
      unfold L2.atI at e3 ⊢
      rw [List.length_map]
      cases z : ixN ns.length i with
      | none => rw [z] at e3; cases e3
      | some j =>
        rw [z] at e3
        show (ns.map D.int)[j]? = _
        rw [List.getElem?_map, show ns[j]? = some d from e3]
        rfl
    obtain ⟨z, e4, rz⟩ := h2.atI e3'
    exact ix_list value slice pins s σ H _ _ v u Q I rx ry ⟨a, xs, i, z, rfl, rfl, h1, e4, RP.imm hs rz q⟩ hsub
  · rename_i z i e1 e2
    cases hx.s e1
    cases hy.i e2
    split at e
    · rename_i hl
      obtain ⟨c, e3, rfl⟩ := Option.map_eq_some_iff.mp e
      exact ix_str value slice pins s σ H _ _ v u Q I rx ry ⟨z, i, c, rfl, rfl, hl, e3, RP.imm hs (.str _) q⟩ hsub
    · cases e
  · rename_i kvs e1
    obtain ⟨o, d⟩ := t
    cases (show d = .dct kvs from e1)
    obtain ⟨a, kws, rfl, h1, h2⟩ := hx.dct hs
    split at e
    · rename_i hk
      obtain ⟨key, ek⟩ := Option.isSome_iff_exists.mp hk
      cases hy.key ek
      obtain ⟨d, e3, rfl⟩ := Option.map_eq_some_iff.mp e
      have ekk : w.d = kD key := key_iff.mp ek
      rw [ekk] at e3
      rcases RepKs.get key h2 with ⟨_, z⟩ | ⟨w', d', h3, h4, h5⟩
      · rw [z] at e3; cases e3
      · rw [h4] at e3
        cases e3
        have g : DGet H a (kV key) (some w') := .inl ⟨kws, key, h1, rfl, h3.symm⟩
        obtain rfl : v = Value.ref a := rx
        exact tail_any (dict_typeIs I g) PySem.F.slot_dict_getitem.lookup (d_getItem hu I g ry fun w'' s3 I3 rw' => ⟨w', H, I3, rw', RP.imm hs h5 q⟩) hsub
    · cases e
  · cases e
def rSlD (K : PySem.W.Frag) : V → Option Int → Option Int → Hp → VK → Prop := fun x lo hi H Q => ∃ F t res, Sub F H ∧ TRel K F H x t ∧ slD t.d lo hi = some res ∧ RP K F H Q res
theorem sl_D : SlR X (rSlD X.K) := by
  rintro pins s σ H x v vl vu lo hi sl Q I rx hsl pl pu ⟨F, t, res, hs, hx, e, q⟩
  unfold slD at e
  split at e
  · rename_i ds e1
    obtain ⟨a, xs, rfl, h1, h2⟩ := hx.seqL hs e1
    cases e
    exact sl_list pins s σ H _ v vl vu lo hi sl Q I rx hsl pl pu ⟨a, xs, rfl, h1, RP.lst hs (h2.cut lo hi) q⟩
  · rename_i ds e1
    obtain ⟨o, d⟩ := t
    cases (show d = .tup ds from e1)
    have rp := hx.repT
    obtain ⟨a, xs, rfl, h1, h2⟩ := hx.tup hs
    cases e
    refine sl_tupA pins s σ H _ v vl vu lo hi sl Q I rx hsl pl pu ⟨a, xs, rfl, h1, fun hw => ?_, fun _ => RP.tup hs (h2.cut lo hi) q⟩
    have e : cutD ds lo hi = ds := by
      unfold cutD
      rw [← h2.length, hw.1, hw.2, h2.length]
      simp
    rw [e] at q
    exact RP.imm hs rp q
  · rename_i ns e1
    obtain ⟨a, xs, rfl, h1, h2⟩ := hx.seqS hs e1
    cases e
    exact sl_list pins s σ H _ v vl vu lo hi sl Q I rx hsl pl pu ⟨a, xs, rfl, h1, RP.lst hs (h2.cut lo hi) q⟩
  · rename_i z e1
    cases hx.s e1
    split at e
    · rename_i hl
      cases e
      exact sl_str pins s σ H _ v vl vu lo hi sl Q I rx hsl pl pu ⟨z, rfl, hl, RP.imm hs (.str _) q⟩
    · cases e
  · cases e
end
def sl1 (lo hi : Option Int) (fo : Env → Rs Hnd) (ρ : Env) : Rs Hnd := (fo ρ).bind fun x ρ1 => op1 (fun d => slD d lo hi) x ρ1
def d2i : D → Option Int
  | .int i => some i
  | _ => none
def slFrom (fo fa : Env → Rs Hnd) (ρ : Env) : Rs Hnd := (fo ρ).bind fun x ρ1 => (fa ρ1).bind fun y ρ2 => op2 (fun d i => (d2i i).bind fun i => slD d (some i) none) x y ρ2
def slTo (fo fa : Env → Rs Hnd) (ρ : Env) : Rs Hnd := (fo ρ).bind fun x ρ1 => (fa ρ1).bind fun y ρ2 => op2 (fun d i => (d2i i).bind fun i => slD d none (some i)) x y ρ2
section
variable {X : Cx} {W : WX} {vs : List V} {x : Str} {p pos apos p2 : Pos} {a b c e o : Expr} {es : List Expr} {fs : Env → Rs (List Hnd)} {fo fa fb : Env → Rs Hnd} {g : List D → Option T}
theorem se_ix (hu : X.A.units + 1 < cLine) (ha : SE X W vs a fa) (hb : SE X W vs b fb) (hs : PlainIx b := by intro _ _; rfl) : SE X W vs (.Subscript a b pos) (fun ρ => (fa ρ).bind fun x ρ1 => (fb ρ1).bind fun y ρ2 => op2 ixD x y ρ2) := by
  constructor; intro σ F H ρ Q E p
  refine (pe_ix (ix_D hu) (pe_w X a) (pe_w X b) hs).w ?_
  refine SE.go2 ha hb (.refl E.sub) E p fun F2 H2 ρ2 v w x y s E2 r1 r2 n1 n2 p2 => ?_
  unfold op2 at p2
  split at p2
  · rename_i t u e1 e2
    obtain ⟨res, e3, q⟩ := ph_valR s E2 p2
    exact ⟨F2, t, u, res, E2.sub, r1.look E2 e1, r2.look E2 e2, e3, q⟩
  · exact p2.elim
theorem d2i_eq {d : D} {i : Int} (h : d2i d = some i) : d = .int i := by
  cases d <;> first | (cases h; rfl) | (cases h)
theorem se_slFrom (ho : SE X W vs o fo) (ha : SE X W vs a fa) : SE X W vs (.Subscript o (.Slice (some a) none none p2) pos) (slFrom fo fa) := by
  constructor; intro σ F H ρ Q E p
  refine (pe_slice sl_D (pe_w X o) (po_some (pe_w X a)) po_none).w ?_
  refine SE.go2 ho ha (.refl E.sub) E p (Q2 := fun v w H2 => ∃ i, w = .int i ∧ rSlD X.K v (some i) none H2 Q) fun F2 H2 ρ2 v w x y s E2 r1 r2 n1 n2 p2 => ?_
  unfold op2 at p2
  split at p2
  · rename_i t u e1 e2
    obtain ⟨res, e3, q⟩ := ph_valR s E2 p2
    obtain ⟨i, ei, e4⟩ := Option.bind_eq_some_iff.mp e3
    cases (r2.look E2 e2).i (d2i_eq ei)
    exact ⟨i, rfl, F2, t, res, E2.sub, r1.look E2 e1, e4, q⟩
  · exact p2.elim
theorem se_slTo (ho : SE X W vs o fo) (ha : SE X W vs a fa) : SE X W vs (.Subscript o (.Slice none (some a) none p2) pos) (slTo fo fa) := by
  constructor; intro σ F H ρ Q E p
  refine (pe_slice sl_D (pe_w X o) po_none (po_some (pe_w X a))).w ?_
  refine SE.go2 ho ha (.refl E.sub) E p (Q2 := fun v w H2 => ∃ i, w = .int i ∧ rSlD X.K v none (some i) H2 Q) fun F2 H2 ρ2 v w x y s E2 r1 r2 n1 n2 p2 => ?_
  unfold op2 at p2
  split at p2
  · rename_i t u e1 e2
    obtain ⟨res, e3, q⟩ := ph_valR s E2 p2
    obtain ⟨i, ei, e4⟩ := Option.bind_eq_some_iff.mp e3
    cases (r2.look E2 e2).i (d2i_eq ei)
    exact ⟨i, rfl, F2, t, res, E2.sub, r1.look E2 e1, e4, q⟩
  · exact p2.elim
end
end MP
end

section
set_option maxHeartbeats 4000000
/-! Attributes, stores, targets, methods of lists. -/
namespace MP
open PySem PySem.Spec PyProof.Rows L2

/-- an attribute of an instance of one of these classes -/
def fldD (Cs : List String) (f : String) : D → Option T
  | .ins C fs => if C ∈ Cs then (fs.lookup f).map fz else none
  | _ => none
/-- a constant of the class -/
def conD (Cs : List (String × D)) (f : String) : D → Option T
  | .ins C fs => if fs.lookup f = none then (Cs.lookup C).map fz else none
  | _ => none
structure ConF (K : PySem.W.Frag) (C f : String) (d : D) : Prop where
  cls : Cls K (He.ga K (Str.ofString C))
  con : ∃ v u, Con K (He.ga K (Str.ofString C)) (Str.ofString f) v u ∧ ∀ F, Rep K F v d
structure FldF (K : PySem.W.Frag) (C f : String) : Prop where
  cls : Cls K (He.ga K (Str.ofString C))
  no : NoAttr K (He.ga K (Str.ofString C)) (Str.ofString f)
section
variable {X : Cx} {W : WX} {vs : List V} {x : Str} {p pos apos pos' : Pos} {a b c e o i tg value : Expr} {es : List Expr} {fs : Env → Rs (List Hnd)} {fo fa fb fi fv : Env → Rs Hnd}
theorem TRel.insD {K : PySem.W.Frag} {F H : Hp} {v : V} {t : T} {C : String} {fs : List (String × D)} (hs : Sub F H) (h : TRel K F H v t) (e : t.d = .ins C fs) : ∃ a dx fvs, v = .ref a ∧ H a = some (.ins (He.ga K (Str.ofString C)) dx fvs) ∧ RepFs K F fvs fs := by
  obtain ⟨o, d⟩ := t
  cases (show d = .ins C fs from e)
  exact h.ins hs
theorem se_fld {Cs : List String} {f : String} (hC : ∀ C ∈ Cs, FldF X.K C f) (ho : SE X W vs o fo) (hb : attributeBase o (Str.ofString f) X.env (eval o X.env) = eval o X.env := by rfl) :
    SE X W vs (.Attribute o (Str.ofString f) pos) (fun ρ => (fo ρ).bind fun x ρ1 => op1 (fldD Cs f) x ρ1) := by
  constructor; intro σ F H ρ Q E p
  refine (pe_fld (pe_w X o) hb).w ?_
  refine ho.go (.refl E.sub) E p fun F1 H1 ρ1 v x s _ E1 r n p1 => ?_
  unfold op1 at p1
  split at p1
  · rename_i t e1
    obtain ⟨res, e3, q⟩ := ph_valR s E1 p1
    have tr := r.look E1 e1
    unfold fldD at e3
    split at e3
    · rename_i C fds ed
      split at e3
      · rename_i hm
        obtain ⟨d, e4, rfl⟩ := Option.map_eq_some_iff.mp e3
        obtain ⟨a, dx, fvs, rfl, ea, rf⟩ := tr.insD E1.sub ed
        obtain ⟨w, h1, h2⟩ := repFs_some rf e4
        exact ⟨a, _, dx, fvs, w, rfl, ea, (hC C hm).cls, (hC C hm).no, h1, RP.imm E1.sub h2 q⟩
      · cases e3
    · cases e3
  · exact p1.elim
theorem se_con {Cs : List (String × D)} {f : String} (hC : ∀ C d, Cs.lookup C = some d → ConF X.K C f d) (ho : SE X W vs o fo) (hb : attributeBase o (Str.ofString f) X.env (eval o X.env) = eval o X.env := by rfl) :
    SE X W vs (.Attribute o (Str.ofString f) pos) (fun ρ => (fo ρ).bind fun x ρ1 => op1 (conD Cs f) x ρ1) := by
  constructor; intro σ F H ρ Q E p
  refine (pe_con (pe_w X o) hb).w ?_
  refine ho.go (.refl E.sub) E p fun F1 H1 ρ1 v x s _ E1 r n p1 => ?_
  unfold op1 at p1
  split at p1
  · rename_i t e1
    obtain ⟨res, e3, q⟩ := ph_valR s E1 p1
    have tr := r.look E1 e1
    unfold conD at e3
    split at e3
    · rename_i C fds ed
      split at e3
      · rename_i hm
        obtain ⟨d, e4, rfl⟩ := Option.map_eq_some_iff.mp e3
        obtain ⟨a, dx, fvs, rfl, ea, rf⟩ := tr.insD E1.sub ed
        obtain ⟨cl, w, u, h1, h2⟩ := hC C d e4
        exact ⟨a, _, dx, fvs, w, u, rfl, ea, cl, h1, repFs_none rf hm, RP.imm E1.sub (h2 F1) q⟩
      · cases e3
    · cases e3
  · exact p1.elim

/-! ### stores -/
def dput (kvs : List (D × D)) (k v : D) : List (D × D) :=
  if (kvs.any fun kv => decide (kv.1 = k)) = true then kvs.map (fun kv => if kv.1 = k then (kv.1, v) else kv) else kvs ++ [(k, v)]
/-- c[k] = d -/
def setD (c k d : D) : Option D := match c, k with
  | .lst ds, .int i => (ixN ds.length i).map fun j => .lst (ds.set j d)
  | .dct kvs, k => if k.key.isSome = true ∧ kvs.length < sizeLine then some (.dct (dput kvs k d)) else none
  | _, _ => none
/-- the object at an owned root is changed -/
def modR (g : D → Option D) (r : Root) (ρ : Env) : Rs Unit := match ρ.at r with
  | some ⟨true, c⟩ => match g c with
    | some c' => .ok () (ρ.put r (ow c'))
    | none => .bad
  | _ => .bad
def storeI (x y h : Hnd) (ρ : Env) : Rs Unit := match x with
  | .rt r => match y.look ρ with
    | some ty => (frz h ρ).bind fun d ρ1 => modR (fun c => setD c ty.d d) r ρ1
    | none => .bad
  | .val _ => .bad
theorem repKs_any {K : PySem.W.Frag} {F : Hp} (k : Key) : ∀ {kvs : List (Key × V)} {ds : List (D × D)}, RepKs K F kvs ds → (kvs.any fun kv => decide (kv.1 = k)) = ds.any fun kv => decide (kv.1 = kD k)
  | _, _, .nil => rfl
  | _, _, @RepKs.cons _ _ k' v d vs ds h r => by
    rw [List.any_cons, List.any_cons, repKs_any k r]
    congr 1
    by_cases e : k' = k
    · simp [e]
    · have e2 : ¬ kD k' = kD k := fun q => e (kD_inj q)
      simp [e, e2]
theorem repKs_map {K : PySem.W.Frag} {F : Hp} {k : Key} {v : V} {d : D} (h : Rep K F v d) : ∀ {kvs : List (Key × V)} {ds : List (D × D)}, RepKs K F kvs ds → RepKs K F (kvs.map fun kv => if kv.1 = k then (kv.1, v) else kv) (ds.map fun kv => if kv.1 = kD k then (kv.1, d) else kv)
  | _, _, .nil => .nil
  | _, _, @RepKs.cons _ _ k' v' d' vs ds h' r => by
    rw [List.map_cons, List.map_cons]
    by_cases e : k' = k
    · subst e
      rw [if_pos rfl, if_pos rfl]
      exact .cons h (repKs_map h r)
    · rw [if_neg e, if_neg fun q => e (kD_inj q)]
      exact .cons h' (repKs_map h r)
theorem repKs_append {K : PySem.W.Frag} {F : Hp} {k : Key} {v : V} {d : D} (h : Rep K F v d) : ∀ {kvs : List (Key × V)} {ds : List (D × D)}, RepKs K F kvs ds → RepKs K F (kvs ++ [(k, v)]) (ds ++ [(kD k, d)])
  | _, _, .nil => .cons h .nil
  | _, _, .cons h' r => .cons h' (repKs_append h r)
theorem RepKs.put {K : PySem.W.Frag} {F : Hp} {k : Key} {v : V} {d : D} (h : Rep K F v d) {kvs : List (Key × V)} {ds : List (D × D)} (r : RepKs K F kvs ds) : RepKs K F (putK kvs k v) (dput ds (kD k) d) := by
  unfold putK dput
  rw [repKs_any k r]
  split
  · exact repKs_map h r
  · exact repKs_append h r
/-- an object at an owned root is written -/
theorem mod_ok {K : PySem.W.Frag} {σ : L2.St} {F0 H0 F H : Hp} {P0 : Addr → Prop} {ρ ρ' : Env} {g : D → Option D} {r : Root} (s : Step F0 H0 P0 F H (Fp vs σ ρ)) (E : ER K vs σ F H ρ) (e : modR g r ρ = .ok () ρ') :
    ∃ a c c', RootV vs σ r (.ref a) ∧ F a = none ∧ Own K F H a c ∧ ρ.at r = some ⟨true, c⟩ ∧ g c = some c' ∧ ∀ o, Own K F (upd H a o) a c' → ER K vs σ F (upd H a o) ρ' ∧ Step F0 H0 P0 F (upd H a o) (Fp vs σ ρ') := by
  unfold modR at e
  split at e
  · rename_i c ec
    split at e
    · rename_i c' eg
      cases e
      obtain ⟨a, hv, hF, ho⟩ := E.ownAt ec
      refine ⟨a, c, c', hv, hF, ho, ec, eg, fun o how => ?_⟩
      obtain ⟨E', s'⟩ := E.write ec hv how
      exact ⟨E', s.trans s'⟩
    · cases e
  · cases e
theorem mod_noexc {g : D → Option D} {r : Root} {ρ : Env} {C : String} {fs : List (String × D)} {ρ' : Env} (e : modR g r ρ = .exc C fs ρ') : False := by
  unfold modR at e
  split at e
  · split at e <;> cases e
  · cases e
theorem pu_mod {K : PySem.W.Frag} {F0 H0 : Hp} {P0 : Addr → Prop} {ρ : Env} {g : D → Option D} {r : Root} {Q : L2.St → Hp → Prop} (p : PU K vs W F0 H0 P0 Q (modR g r ρ)) : ∃ ρ', modR g r ρ = .ok () ρ' ∧ PU K vs W F0 H0 P0 Q (.ok () ρ') := by
  cases z : modR g r ρ with
  | bad => rw [z] at p; exact p.elim
  | exc C fs ρ' => exact (mod_noexc z).elim
  | ok u ρ' => rw [z] at p; exact ⟨ρ', rfl, p⟩
theorem SE.goU {σ : L2.St} {F0 H0 F H : Hp} {P0 : Addr → Prop} {ρ : Env} {k : Hnd → Env → Rs Unit} {Q : L2.St → Hp → Prop} {Q2 : VK} (h : SE X W vs e fo) (s0 : Step F0 H0 P0 F H (Fp vs σ ρ)) (E : ER X.K vs σ F H ρ) (p : PU X.K vs W F0 H0 P0 Q ((fo ρ).bind k))
    (hk : ∀ F1 H1 ρ1 v hd, Step F0 H0 P0 F1 H1 (Fp vs σ ρ1) → Step F H (Fp vs σ ρ) F1 H1 (Fp vs σ ρ1) → ER X.K vs σ F1 H1 ρ1 → HR X.K vs σ F1 H1 ρ1 v hd → HN H (Fp vs σ ρ) v hd → PU X.K vs W F0 H0 P0 Q (k hd ρ1) → Q2 v H1) : wE X e σ H Q2 := by
  refine h σ F H ρ Q2 E ?_
  cases z : fo ρ with
  | bad => rw [z] at p; exact p
  | exc C fs ρ' => rw [z] at p; exact fun F' H' cls d st er x => p F' H' σ cls d (s0.trans st) er x
  | ok hd ρ1 =>
    rw [z] at p
    exact fun F1 H1 v st er hr hn => hk F1 H1 ρ1 v hd (s0.trans st) st er hr hn p
def gSubS (fo fi : Env → Rs Hnd) (h : Hnd) (ρ : Env) : Rs Unit := (fo ρ).bind fun x ρ1 => (fi ρ1).bind fun y ρ2 => storeI x y h ρ2
/-- o[i] = .. -/
theorem sg_sub (hu : X.A.units + 1 < cLine) (ho : SE X W vs o fo) (hi : SE X W vs i fi)
    (ha : ∀ v, assign (.Subscript o i pos) X.env v = (do
      let ov ← holding [v] (eval o X.env)
      let iv ← holding [v, ov] (eval i X.env)
      standAt pos
      holding [v, ov, iv] (setItem ov iv v)
      release [v, ov, iv] []) := by intro _; rfl) : SG X W vs (.Subscript o i pos) (gSubS fo fi) := by
  constructor; intro σ F0 H0 P0 F H ρ v h Q s0 E hr hn p
  -- a store in a list or a dict
  have hset : PSet X (fun o i v H Q => rSetL o i v H Q ∨ rSetD o i v H Q) := by
    intro pins s σ H o i v ov iv u Q I ro ri rv h
    rcases h with h | h
    · exact set_list pins s σ H o i v ov iv u Q I ro ri rv h
    · exact set_dict hu pins s σ H o i v ov iv u Q I ro ri rv h
  refine (pg_sub (pe_w X o) (pe_w X i) hset ha).w ?_
  refine ho.goU s0 E p fun F1 H1 ρ1 w x s1 t1 E1 r1 n1 p1 => ?_
  refine hi.goU s1 E1 p1 fun F2 H2 ρ2 z y s2 t2 E2 r2 n2 p2 => ?_
  have hr2 := (hr.step t1).step t2
  have r1' := r1.step t2
  unfold storeI at p2
  split at p2
  · rename_i r
    split at p2
    · rename_i ty ey
      cases zf : frz h ρ2 with
      | bad => rw [zf] at p2; exact p2.elim
      | exc C fs ρ' => exact (frz_noexc zf).elim
      | ok d ρ3 =>
        rw [zf, Rs.bind_ok] at p2
        have try_ := r2.look E2 ey
        obtain ⟨F3, s3, E3, rd, le, _, _⟩ := frz_ok s2 E2 hr2 hn zf
        obtain ⟨ρ4, em, p4⟩ := pu_mod p2
        obtain ⟨a, c, c', hv, hF, ho', ec, eg, hw⟩ := mod_ok s3 E3 em
        cases r1' with
        | rt hv' =>
          cases hv.inj hv'
          unfold setD at eg
          split at eg
          · rename_i ds k e1
            obtain ⟨j, ej, rfl⟩ := Option.map_eq_some_iff.mp eg
            cases try_.i e1
            cases ho' with
            | lst hl rs =>
              obtain ⟨E5, s5⟩ := hw (.lst _) (.lst upd_same (rs.set rd j))
              exact .inl ⟨a, _, k, j, rfl, rfl, hl, by rw [rs.length]; exact ej, p4 _ _ _ s5 E5⟩
          · rename_i kvs
            split at eg
            · rename_i hk
              cases eg
              obtain ⟨key, ek⟩ := Option.isSome_iff_exists.mp hk.1
              cases try_.key ek
              have ekk : ty.d = kD key := key_iff.mp ek
              cases ho' with
              | @dK kws _ hl rs =>
                obtain ⟨E5, s5⟩ := hw (.dK (putK kws key v)) (.dK upd_same (by rw [ekk]; exact rs.put rd))
                exact .inr ⟨a, _, rfl, .inl ⟨kws, key, hl, rfl, by rw [repKs_length rs]; exact hk.2, rfl⟩, p4 _ _ _ s5 E5⟩
            · cases eg
          · cases eg
    · exact p2.elim
  · exact p2.elim
/-! ### attributes stored -/
def putFD (f : String) (d : D) : List (String × D) → List (String × D)
  | [] => [(f, d)]
  | (g, x) :: r => if g = f then (g, d) :: r else (g, x) :: putFD f d r
def setF (Cs : List String) (f : String) (d : D) : D → Option D
  | .ins C fs => if C ∈ Cs ∧ fs.length < 1000 then some (.ins C (putFD f d fs)) else none
  | _ => none
theorem RepFs.put {K : PySem.W.Frag} {F : Hp} {f : String} {v : V} {d : D} (h : Rep K F v d) : ∀ {fvs : List (Str × V)} {fds : List (String × D)}, RepFs K F fvs fds → RepFs K F (putF (Str.ofString f) v fvs) (putFD f d fds)
  | _, _, .nil => .cons h .nil
  | _, _, @RepFs.cons _ _ n v' d' vs ds h' r => by
    unfold putF putFD
    by_cases e : n = f
    · subst e
      rw [if_pos rfl, if_pos rfl]
      exact .cons h r
    · rw [if_neg (fun q => e (ofS_inj q)), if_neg e]
      exact .cons h' (RepFs.put h r)
theorem repFs_length {K : PySem.W.Frag} {F : Hp} : ∀ {fvs : List (Str × V)} {fds : List (String × D)}, RepFs K F fvs fds → fvs.length = fds.length
  | _, _, .nil => rfl
  | _, _, .cons _ r => by simp [repFs_length r]
def storeF (Cs : List String) (f : String) (h x : Hnd) (ρ : Env) : Rs Unit := match x with
  | .rt r => (frz h ρ).bind fun d ρ1 => modR (setF Cs f d) r ρ1
  | .val _ => .bad
def fldS (Cs : List String) (f : String) (fv fo : Env → Rs Hnd) (ρ : Env) : Rs Fl := (fv ρ).bind fun h ρ1 => (fo ρ1).bind fun x ρ2 => (storeF Cs f h x ρ2).bind fun _ ρ3 => .ok .nx ρ3
/-- o.f = value -/
theorem ss_fld {Cs : List String} {f : String} (hC : ∀ C ∈ Cs, FldF X.K C f) (ho : SE X W vs o fo) (hv : SE X W vs value fv) (hs : swapsWith value (some (.Attribute o (Str.ofString f) pos')) pos.line X.env = pure false := by rfl) :
    SS X W vs (.Assign [.Attribute o (Str.ofString f) pos'] value pos) (fldS Cs f fv fo) := by
  constructor; intro σ F H ρ D E p
  refine (ps_fld (pe_w X o) (pe_w X value) hs).w ?_
  unfold fldS at p
  refine hv.goS (.refl E.sub) E p fun F1 H1 ρ1 v h s1 t1 E1 r1 n1 p1 => ?_
  refine ho.goS s1 E1 p1 fun F2 H2 ρ2 w x s2 t2 E2 r2 n2 p2 => ?_
  have r1' := r1.step t2
  unfold storeF at p2
  split at p2
  · rename_i r
    cases zf : frz h ρ2 with
    | bad => rw [zf] at p2; exact p2.elim
    | exc C fs ρ' => exact (frz_noexc zf).elim
    | ok d ρ3 =>
      rw [zf, Rs.bind_ok] at p2
      obtain ⟨F3, s3, E3, rd, le, _, _⟩ := frz_ok s2 E2 r1' n1 zf
      cases em : modR (setF Cs f d) r ρ3 with
      | bad => rw [em] at p2; exact p2.elim
      | exc C fs ρ' => exact (mod_noexc em).elim
      | ok u ρ4 =>
        rw [em, Rs.bind_ok] at p2
        obtain ⟨a, c, c', hv', hF, ho', ec, eg, hw⟩ := mod_ok s3 E3 em
        cases r2 with
        | rt hv'' =>
          cases hv'.inj hv''
          unfold setF at eg
          split at eg
          · rename_i C fds
            split at eg
            · rename_i hm
              cases eg
              cases ho' with
              | @ins dx _ fvs _ hl rs =>
                obtain ⟨E5, s5⟩ := hw (.ins _ dx (putF (Str.ofString f) v fvs)) (.ins upd_same (rs.put rd))
                exact ⟨a, _, dx, fvs, rfl, hl, (hC C hm.1).cls, (hC C hm.1).no, by rw [repFs_length rs]; exact hm.2, p2 _ _ σ s5 E5⟩
            · cases eg
          · cases eg
  · exact p2.elim
/-! ### targets of tuples -/
def gLst : List (Hnd → Env → Rs Unit) → List D → Env → Rs Unit
  | [], [], ρ => .ok () ρ
  | g :: gs, d :: ds, ρ => (g (.val (fz d)) ρ).bind fun _ ρ1 => gLst gs ds ρ1
  | _, _, _ => .bad
def gTupS (gs : List (Hnd → Env → Rs Unit)) (h : Hnd) (ρ : Env) : Rs Unit := match h.look ρ with
  | some ⟨_, .tup ds⟩ => if ds.length = gs.length then gLst gs ds ρ else .bad
  | _ => .bad
structure SGs (X : Cx) (W : WX) (vs : List V) (es : List Expr) (gs : List (Hnd → Env → Rs Unit)) : Prop where
  run : ∀ (σ : L2.St) (F0 H0 : Hp) (P0 : Addr → Prop) (F H : Hp) (ρ : Env) (ws : List V) (ds : List D) (Q : L2.St → Hp → Prop), Step F0 H0 P0 F H (Fp vs σ ρ) → ER X.K vs σ F H ρ → Reps X.K F ws ds → PU X.K vs W F0 H0 P0 Q (gLst gs ds ρ) → ∀ (pins : List (Addr × Obj)) (s : Shared) (us : List Value), Inv X pins σ H s → Vals ws us → wpAny (model X.prog X.w) X.A (assignInOrder ((assignEach es X.env).map (·.2)) us) (fun _ s' => ∃ σ' H', Inv X pins σ' H' s' ∧ Q σ' H') X.xe s
instance {X : Cx} {W : WX} {vs : List V} {es : List Expr} {gs : List (Hnd → Env → Rs Unit)} : CoeFun (SGs X W vs es gs) (fun _ => ∀ (σ : L2.St) (F0 H0 : Hp) (P0 : Addr → Prop) (F H : Hp) (ρ : Env) (ws : List V) (ds : List D) (Q : L2.St → Hp → Prop), Step F0 H0 P0 F H (Fp vs σ ρ) → ER X.K vs σ F H ρ → Reps X.K F ws ds → PU X.K vs W F0 H0 P0 Q (gLst gs ds ρ) → ∀ (pins : List (Addr × Obj)) (s : Shared) (us : List Value), Inv X pins σ H s → Vals ws us → wpAny (model X.prog X.w) X.A (assignInOrder ((assignEach es X.env).map (·.2)) us) (fun _ s' => ∃ σ' H', Inv X pins σ' H' s' ∧ Q σ' H') X.xe s) := ⟨SGs.run⟩
theorem sgs_nil : SGs X W vs [] [] := by
  constructor; intro σ F0 H0 P0 F H ρ ws ds Q s E r p pins sh us I v
  cases r with
  | nil =>
    cases v
    exact assignInOrder_nil ⟨σ, H, I, p F H σ s E⟩
  | cons _ _ => exact p.elim
theorem sgs_cons {g : Hnd → Env → Rs Unit} {gs : List (Hnd → Env → Rs Unit)} (h1 : SG X W vs e g) (h2 : SGs X W vs es gs) (hs : (assignEach (e :: es) X.env).map (·.2) = assign e X.env :: (assignEach es X.env).map (·.2) := by rfl) : SGs X W vs (e :: es) (g :: gs) := by
  constructor; intro σ F0 H0 P0 F H ρ ws ds Q s E r p pins sh us I v
  cases r with
  | nil => exact p.elim
  | cons r rr =>
    rename_i w d ws ds
    cases v with
    | cons rv rvs =>
      rw [hs]
      refine assignInOrder_cons ?_
      have p' : PU X.K vs W F0 H0 P0 Q ((g (.val (fz d)) ρ).bind fun _ ρ1 => gLst gs ds ρ1) := p
      have := h1 σ F H _ F H ρ w (.val (fz d)) (fun σ1 H1 => ∃ F1 ρ1, Step F H (Fp vs σ ρ) F1 H1 (Fp vs σ1 ρ1) ∧ ER X.K vs σ1 F1 H1 ρ1 ∧ PU X.K vs W F0 H0 P0 Q (gLst gs ds ρ1)) (.refl E.sub) E (.val (.fz r) fun q => by cases q) (fun q => by cases q) (by
        cases z : g (.val (fz d)) ρ with
        | bad => rw [z] at p'; exact p'
        | exc C fs ρ' => rw [z] at p'; exact PU.step (r := .exc C fs ρ') (Q := Q) p' s
        | ok u ρ1 => rw [z] at p'; exact fun F1 H1 σ1 s1 E1 => ⟨F1, ρ1, s1, E1, p'⟩) pins sh _ I rv
      refine thn this fun _ s1 ⟨σ1, H1, I1, F1, ρ1, st1, E1, p1⟩ => ?_
      exact h2 σ1 F0 H0 P0 F1 H1 ρ1 ws ds Q (s.trans st1) E1 (Reps.le st1.le rr) p1 pins s1 _ I1 rvs
theorem sg_tup {gs : List (Hnd → Env → Rs Unit)} {k : Nat} (hc : X.calm = true) (h : SGs X W vs es gs) (hn : (assignEach es X.env).length = es.length := by rfl) (hst : (assignEach es X.env).findIdx? (·.1) = none := by rfl) (hl : es.length = gs.length := by rfl) : SG X W vs (.Tuple es k pos) (gTupS gs) := by
  constructor; intro σ F0 H0 P0 F H ρ v hd Q s E hr hn' p
  have pgs : PGs X es (fun ws σ H Q => ∀ (pins : List (Addr × Obj)) (s : Shared) (us : List Value), Inv X pins σ H s → Vals ws us → wpAny (model X.prog X.w) X.A (assignInOrder ((assignEach es X.env).map (·.2)) us) (fun _ s' => ∃ σ' H', Inv X pins σ' H' s' ∧ Q σ' H') X.xe s) :=
    ⟨fun pins s σ H vs us Q I r h => h pins s us I r⟩
  refine (pg_tup hc pgs hn hst).w ?_
  unfold gTupS at p
  split at p
  · rename_i o ds el
    split at p
    · rename_i hd'
      have tr := hr.look E el
      obtain ⟨a, xs, rfl, h1, h2⟩ := tr.tup E.sub
      exact ⟨a, xs, rfl, h1, by rw [h2.length, hd', hl], h σ F0 H0 P0 F H ρ xs ds Q s E h2 p⟩
    · exact p.elim
  · exact p.elim
end
end MP
end

section
set_option maxHeartbeats 4000000
/-! List comprehensions; a, b = x, y; methods of lists. -/
namespace MP
open PySem PySem.Spec PyProof.Rows L2

def Env.kills (ρ : Env) : List Nat → Env
  | [] => ρ
  | i :: is => (ρ.kills is).kill i
def lcL (g : Hnd → Env → Rs Unit) (t : Env → Rs Bool) (f : Env → Rs Hnd) (own : List Nat) : List D → List D → Env → Rs (List D)
  | [], acc, ρ => .ok acc ρ
  | d :: ds, acc, ρ => match g (.val (fz d)) ρ with
    | .ok _ ρ1 => match t ρ1 with
      | .ok false ρ2 => lcL g t f own ds acc (ρ2.kills own)
      | .ok true ρ2 => match f ρ2 with
        | .ok h ρ3 => match frz h ρ3 with
          | .ok d' ρ4 => if acc.length < sizeLine then lcL g t f own ds (acc ++ [d']) (ρ4.kills own) else .bad
          | _ => .bad
        | _ => .bad
      | _ => .bad
    | _ => .bad
def compS (fi : Env → Rs (List D)) (g : Hnd → Env → Rs Unit) (t : Env → Rs Bool) (f : Env → Rs Hnd) (own : List Nat) (ρ : Env) : Rs Hnd :=
  (fi ρ).bind fun ds ρ1 => (lcL g t f own ds [] (ρ1.kills own)).bind fun acc ρ2 => .ok (.val (ow (.lst acc))) ρ2
def yesS (ρ : Env) : Rs Bool := .ok true ρ
def WF : WX := fun _ _ _ _ => False
section
variable {K : PySem.W.Frag} {vs : List V} {σ σ' : L2.St} {F H : Hp} {ρ : Env} {a : Addr}
theorem wipe_get (σ : L2.St) (i : Nat) : ∀ is : List Nat, (wipe σ is)[i]? = if i ∈ is then (if i < σ.length then some none else none) else σ[i]?
  | [] => by simp [wipe]
  | j :: is => by
    unfold wipe
    by_cases e : j = i
    · subst e
      rw [if_pos List.mem_cons_self]
      by_cases hl : j < σ.length
      · rw [if_pos hl, List.getElem?_set_self (by rw [wipe_length]; exact hl)]
      · rw [if_neg hl, List.getElem?_eq_none (by rw [List.length_set, wipe_length]; omega)]
    · rw [List.getElem?_set_ne e, wipe_get σ i is]
      have : (i ∈ j :: is) ↔ i ∈ is := by
        rw [List.mem_cons]
        exact ⟨fun q => q.elim (fun z => absurd z.symm e) id, .inr⟩
      by_cases h : i ∈ is
      · rw [if_pos h, if_pos (this.mpr h)]
      · rw [if_neg h, if_neg (fun q => h (this.mp q))]
theorem wipe_wipe (σ : L2.St) (is : List Nat) : wipe (wipe σ is) is = wipe σ is := by
  refine List.ext_getElem? fun i => ?_
  rw [wipe_get, wipe_get, wipe_length]
  by_cases h : i ∈ is
  · rw [if_pos h, if_pos h]
  · rw [if_neg h, if_neg h]
theorem wipe_set {σ : L2.St} {i : Nat} {is : List Nat} {v : Option V} (h : i ∈ is) : wipe (σ.set i v) is = wipe σ is := by
  refine List.ext_getElem? fun j => ?_
  rw [wipe_get, wipe_get, List.length_set]
  by_cases hj : j ∈ is
  · rw [if_pos hj, if_pos hj]
  · rw [if_neg hj, if_neg hj, List.getElem?_set_ne (fun e : i = j => hj (e ▸ h))]
theorem kills_gs : ∀ is : List Nat, (ρ.kills is).gs = ρ.gs
  | [] => rfl
  | _ :: is => kills_gs is
theorem kills_len : ∀ is : List Nat, (ρ.kills is).sl.length = ρ.sl.length
  | [] => rfl
  | i :: is => by
    show ((ρ.kills is).sl.set i none).length = _
    rw [List.length_set, kills_len is]
theorem kills_get (i : Nat) : ∀ is : List Nat, (ρ.kills is).sl[i]? = if i ∈ is then (if i < ρ.sl.length then some none else none) else ρ.sl[i]?
  | [] => by simp [Env.kills]
  | j :: is => by
    show ((ρ.kills is).sl.set j none)[i]? = _
    by_cases e : j = i
    · subst e
      rw [if_pos List.mem_cons_self]
      by_cases hl : j < ρ.sl.length
      · rw [if_pos hl, List.getElem?_set_self (by rw [kills_len]; exact hl)]
      · rw [if_neg hl, List.getElem?_eq_none (by rw [List.length_set, kills_len]; omega)]
    · rw [List.getElem?_set_ne e, kills_get i is]
      have : (i ∈ j :: is) ↔ i ∈ is := by
        rw [List.mem_cons]
        exact ⟨fun q => q.elim (fun z => absurd z.symm e) id, .inr⟩
      by_cases h : i ∈ is
      · rw [if_pos h, if_pos (this.mpr h)]
      · rw [if_neg h, if_neg (fun q => h (this.mp q))]
theorem kills_kills (is : List Nat) : (ρ.kills is).kills is = ρ.kills is := by
  have h1 : ((ρ.kills is).kills is).gs = (ρ.kills is).gs := kills_gs is
  have h2 : ((ρ.kills is).kills is).sl = (ρ.kills is).sl := by
    refine List.ext_getElem? fun i => ?_
    rw [kills_get, kills_get, kills_len]
    by_cases h : i ∈ is
    · rw [if_pos h, if_pos h]
    · rw [if_neg h, if_neg h]
  revert h1 h2
  generalize (ρ.kills is).kills is = x
  generalize ρ.kills is = y
  intro h1 h2
  cases x; cases y
  cases h1; cases h2; rfl
/-- a temporary is written -/
theorem Step.twr {F0 H0 F H : Hp} {P0 P : Addr → Prop} {D : Addr} {o : HO} (s : Step F0 H0 P0 F H P) (n : P0 D ∨ H0 D = none) (hF : F D = none) : Step F0 H0 P0 F (upd H D o) P :=
  ⟨s.le, fun b u e => by
    have q : b ≠ D := fun q => by subst q; rw [hF] at e; cases e
    rw [upd_ne q]; exact s.sub b u e, fun b u e1 e2 e3 => by
    have q : b ≠ D := fun q => by
      subst q
      rcases n with n | n
      · exact e3 n
      · rw [n] at e1; cases e1
    rw [upd_ne q]; exact s.keep b u e1 e2 e3, s.new, s.own⟩
theorem at_kills {r : Root} {t : T} (is : List Nat) : (ρ.kills is).at r = some t ↔ ρ.at r = some t ∧ ∀ i, r = .s i → i ∉ is := by
  cases r with
  | g j =>
    show (ρ.kills is).gs[j]? = some t ↔ ρ.gs[j]? = some t ∧ _
    rw [kills_gs]
    exact ⟨fun h => ⟨h, fun i e => by cases e⟩, fun h => h.1⟩
  | s i =>
    rw [Env.at_s, Env.at_s, kills_get]
    constructor
    · intro h
      by_cases hi : i ∈ is
      · rw [if_pos hi] at h
        split at h <;> simp at h
      · rw [if_neg hi] at h
        exact ⟨h, fun k e => by cases e; exact hi⟩
    · rintro ⟨h, hn⟩
      rw [if_neg (hn i rfl)]
      exact h
/-- the slots of σ and σ' agree but at is -/
theorem ER.kills {is : List Nat} (E : ER K vs σ F H ρ) (hw : wipe σ' is = wipe σ is) : ER K vs σ' F H (ρ.kills is) ∧ ∀ a, Fp vs σ' (ρ.kills is) a → Fp vs σ ρ a := by
  have hl : σ'.length = σ.length := by rw [← wipe_length σ' is, hw, wipe_length]
  have get : ∀ i, i ∉ is → σ'[i]? = σ[i]? := fun i hi => by
    have : (wipe σ' is)[i]? = (wipe σ is)[i]? := by rw [hw]
    rwa [wipe_get, wipe_get, if_neg hi, if_neg hi] at this
  have rv : ∀ {r : Root} {v : V}, (∀ i, r = .s i → i ∉ is) → (RootV vs σ' r v ↔ RootV vs σ r v) := fun {r v} h => by
    cases r with
    | g j => exact Iff.rfl
    | s i =>
      show σ'[i]? = _ ↔ σ[i]? = _
      rw [get i (h i rfl)]
  refine ⟨⟨E.sub, by rw [kills_gs]; exact E.gl, by rw [kills_len, hl]; exact E.sl, fun i j q => ?_, fun r t e => ?_, fun r1 r2 d1 d2 a e1 e2 v1 v2 => ?_⟩, ?_⟩
  · rw [kills_get] at q
    by_cases hi : i ∈ is
    · rw [if_pos hi] at q
      split at q <;> simp at q
    · rw [if_neg hi] at q
      obtain ⟨v, h1, h2⟩ := E.par i j q
      exact ⟨v, h1, by rw [get i hi]; exact h2⟩
  · obtain ⟨h1, h2⟩ := (at_kills is).mp e
    obtain ⟨v, h3, h4⟩ := E.rel r t h1
    exact ⟨v, (rv h2).mpr h3, h4⟩
  · obtain ⟨h1, h2⟩ := (at_kills is).mp e1
    obtain ⟨h3, h4⟩ := (at_kills is).mp e2
    exact E.ap r1 r2 d1 d2 a h1 h3 ((rv h2).mp v1) ((rv h4).mp v2)
  · rintro a ⟨r, d, e, hv⟩
    obtain ⟨h1, h2⟩ := (at_kills is).mp e
    exact ⟨r, d, h1, (rv h2).mp hv⟩
end
/-- a comprehension's target -/
def POk (K : PySem.W.Frag) (vs : List V) (own : List Nat) (σ : L2.St) (F H : Hp) (P : Addr → Prop) (Q : L2.St → Hp → Prop) : Rs Unit → Prop
  | .ok _ ρ' => ∀ F' H' σ', Step F H P F' H' (Fp vs σ' ρ') → ER K vs σ' F' H' ρ' → wipe σ' own = wipe σ own → Q σ' H'
  | _ => False
structure SGo (X : Cx) (vs : List V) (own : List Nat) (e : Expr) (g : Hnd → Env → Rs Unit) : Prop where
  run : ∀ (σ : L2.St) (F H : Hp) (ρ : Env) (v : V) (d : D) (Q : L2.St → Hp → Prop), ER X.K vs σ F H ρ → Rep X.K F v d → POk X.K vs own σ F H (Fp vs σ ρ) Q (g (.val (fz d)) ρ) → wG X e v σ H Q
instance {X : Cx} {vs : List V} {own : List Nat} {e : Expr} {g : Hnd → Env → Rs Unit} : CoeFun (SGo X vs own e g) (fun _ => ∀ (σ : L2.St) (F H : Hp) (ρ : Env) (v : V) (d : D) (Q : L2.St → Hp → Prop), ER X.K vs σ F H ρ → Rep X.K F v d → POk X.K vs own σ F H (Fp vs σ ρ) Q (g (.val (fz d)) ρ) → wG X e v σ H Q) := ⟨SGo.run⟩
structure SGos (X : Cx) (vs : List V) (own : List Nat) (es : List Expr) (gs : List (Hnd → Env → Rs Unit)) : Prop where
  run : ∀ (σ : L2.St) (F H : Hp) (ρ : Env) (ws : List V) (ds : List D) (Q : L2.St → Hp → Prop), ER X.K vs σ F H ρ → Reps X.K F ws ds → POk X.K vs own σ F H (Fp vs σ ρ) Q (gLst gs ds ρ) → ∀ (pins : List (Addr × Obj)) (s : Shared) (us : List Value), Inv X pins σ H s → Vals ws us → wpAny (model X.prog X.w) X.A (assignInOrder ((assignEach es X.env).map (·.2)) us) (fun _ s' => ∃ σ' H', Inv X pins σ' H' s' ∧ Q σ' H') X.xe s
instance {X : Cx} {vs : List V} {own : List Nat} {es : List Expr} {gs : List (Hnd → Env → Rs Unit)} : CoeFun (SGos X vs own es gs) (fun _ => ∀ (σ : L2.St) (F H : Hp) (ρ : Env) (ws : List V) (ds : List D) (Q : L2.St → Hp → Prop), ER X.K vs σ F H ρ → Reps X.K F ws ds → POk X.K vs own σ F H (Fp vs σ ρ) Q (gLst gs ds ρ) → ∀ (pins : List (Addr × Obj)) (s : Shared) (us : List Value), Inv X pins σ H s → Vals ws us → wpAny (model X.prog X.w) X.A (assignInOrder ((assignEach es X.env).map (·.2)) us) (fun _ s' => ∃ σ' H', Inv X pins σ' H' s' ∧ Q σ' H') X.xe s) := ⟨SGos.run⟩
section
variable {X : Cx} {W : WX} {vs : List V} {own : List Nat} {x : Str} {p pos apos pos' : Pos} {a b c e o i tg iter elt value : Expr} {es : List Expr} {fi : Env → Rs (List D)} {fs : Env → Rs (List Hnd)} {fo fa fb f fv : Env → Rs Hnd} {t : Env → Rs Bool} {g : Hnd → Env → Rs Unit}
theorem sgo_name {i : Nat} (hN : X.N.Nodup) (hi : X.N[i]? = some x) (hx : Loc X.env.scope x) (hf : X.fn x = true ∨ X.env.scope.names.lookup x = some .local) (ho : i ∈ own) : SGo X vs own (.Name x pos) (stName i) := by
  constructor; intro σ F H ρ v d Q E r p
  refine (pg_name hN hi hx hf).w ?_
  replace p : POk X.K vs own σ F H (Fp vs σ ρ) Q (if i < ρ.sl.length then .ok () (ρ.store i (fz d)) else .bad) := p
  split at p
  · rename_i hl
    have hr : HR X.K vs σ F H ρ v (.val (fz d)) := .val (.fz r) fun q => by cases q
    exact p F H _ ((Step.refl E.sub).store E hl fun q => by cases q) (E.store hl hr) (wipe_set ho)
  · exact p.elim
theorem sgos_nil : SGos X vs own [] [] := by
  constructor; intro σ F H ρ ws ds Q E r p pins sh us I v
  cases r with
  | nil => cases v; exact assignInOrder_nil ⟨σ, H, I, p F H σ (.refl E.sub) E rfl⟩
  | cons _ _ => exact p.elim
theorem sgos_cons {gs : List (Hnd → Env → Rs Unit)} (h1 : SGo X vs own e g) (h2 : SGos X vs own es gs) (hs : (assignEach (e :: es) X.env).map (·.2) = assign e X.env :: (assignEach es X.env).map (·.2) := by rfl) : SGos X vs own (e :: es) (g :: gs) := by
  constructor; intro σ F H ρ ws ds Q E r p pins sh us I v
  cases r with
  | nil => exact p.elim
  | cons r rr =>
    rename_i w d ws ds
    cases v with
    | cons rv rvs =>
      rw [hs]
      refine assignInOrder_cons ?_
      have p' : POk X.K vs own σ F H (Fp vs σ ρ) Q ((g (.val (fz d)) ρ).bind fun _ ρ1 => gLst gs ds ρ1) := p
      have := h1 σ F H ρ w d (fun σ1 H1 => ∃ F1 ρ1, Step F H (Fp vs σ ρ) F1 H1 (Fp vs σ1 ρ1) ∧ ER X.K vs σ1 F1 H1 ρ1 ∧ wipe σ1 own = wipe σ own ∧ POk X.K vs own σ F H (Fp vs σ ρ) Q (gLst gs ds ρ1)) E r (by
        cases z : g (.val (fz d)) ρ with
        | bad => rw [z] at p'; exact p'
        | exc C fs ρ' => rw [z] at p'; exact p'
        | ok u ρ1 => rw [z] at p'; exact fun F1 H1 σ1 s1 E1 w1 => ⟨F1, ρ1, s1, E1, w1, p'⟩) pins sh _ I rv
      refine thn this fun _ s1 ⟨σ1, H1, I1, F1, ρ1, st1, E1, w1, p1⟩ => ?_
      refine h2 σ1 F1 H1 ρ1 ws ds Q E1 (Reps.le st1.le rr) ?_ pins s1 _ I1 rvs
      cases z : gLst gs ds ρ1 with
      | bad => rw [z] at p1; exact p1
      | exc C fs ρ' => rw [z] at p1; exact p1
      | ok u ρ2 => rw [z] at p1; exact fun F2 H2 σ2 s2 E2 w2 => p1 F2 H2 σ2 (st1.trans s2) E2 (w2.trans w1)
theorem sgo_tup {gs : List (Hnd → Env → Rs Unit)} {k : Nat} (hc : X.calm = true) (h : SGos X vs own es gs) (hn : (assignEach es X.env).length = es.length := by rfl) (hst : (assignEach es X.env).findIdx? (·.1) = none := by rfl) (hl : es.length = gs.length := by rfl) : SGo X vs own (.Tuple es k pos) (gTupS gs) := by
  constructor; intro σ F H ρ v d Q E r p
  have pgs : PGs X es (fun ws σ H Q => ∀ (pins : List (Addr × Obj)) (s : Shared) (us : List Value), Inv X pins σ H s → Vals ws us → wpAny (model X.prog X.w) X.A (assignInOrder ((assignEach es X.env).map (·.2)) us) (fun _ s' => ∃ σ' H', Inv X pins σ' H' s' ∧ Q σ' H') X.xe s) :=
    ⟨fun pins s σ H vs us Q I r h => h pins s us I r⟩
  refine (pg_tup hc pgs hn hst).w ?_
  unfold gTupS at p
  split at p
  · rename_i o ds el
    cases el
    split at p
    · rename_i hd'
      cases r with
      | tup h1 h2 => exact ⟨_, _, rfl, SqT.sub h1 E.sub, by rw [h2.length, hd', hl], h σ F H ρ _ ds Q E h2 p⟩
    · exact p.elim
  · exact p.elim
def STs (X : Cx) (W : WX) (vs : List V) (es : List Expr) (f : Env → Rs Bool) : Prop :=
  ∃ tt, PTs X es tt ∧ ∀ (σ : L2.St) (F H : Hp) (ρ : Env) (Q : Bool → Hp → Prop), ER X.K vs σ F H ρ → PB X.K vs σ W F H (Fp vs σ ρ) Q (f ρ) → tt σ H Q
theorem sts_nil : STs X W vs [] yesS := ⟨tYes, pts_nil, fun σ F H ρ Q E p => p F H (.refl E.sub) E⟩
theorem sts_one (h : ST X W vs c t) : STs X W vs [c] t := ⟨wT X c, pts_one (pt_w X c), h⟩
/-- [elt for tg in iter if test] -/
theorem se_lc {scope : Scope} {owns : List (Str × Nat)} {ifs : List Expr} (hc : X.calm = true) (hN : X.N.Nodup) (hi : SI X W vs tg iter fi) (ok : BlkOk X.N X.env.scope scope owns)
    (hg : ∀ (s : Shared) (H : Hp) (C : Addr) (cl : List (Str × Addr)) (fp : List Addr), SGo (X.blk s H scope (compEnvC scope cl C X.env) fp) vs (owns.map (·.2)) tg g)
    (ht : ∀ (s : Shared) (H : Hp) (C : Addr) (cl : List (Str × Addr)) (fp : List Addr), STs (X.blk s H scope (compEnvC scope cl C X.env) fp) WF vs ifs t)
    (he : ∀ (s : Shared) (H : Hp) (C : Addr) (cl : List (Str × Addr)) (fp : List Addr), SE (X.blk s H scope (compEnvC scope cl C X.env) fp) WF vs elt f) (hs : ∀ x, foldedSetIterable iter X.env x = pure x := by intro _; rfl) :
    SE X W vs (.ListComp elt [⟨tg, iter, ifs, 0⟩] scope pos) (compS fi g t f (owns.map (·.2))) := by
  constructor; intro σ F0 H0 ρ0 Q E0 p
  generalize hown : owns.map (·.2) = own at hg p
  -- the block's readings, whatever the block's place
  let gW : TG := fun v σ H Q => ∀ (s : Shared) (Hb : Hp) (C : Addr) (cl : List (Str × Addr)) (fp : List Addr), wG (X.blk s Hb scope (compEnvC scope cl C X.env) fp) tg v σ H Q
  let tW : TT := fun σ H Q => ∀ (s : Shared) (Hb : Hp) (C : Addr) (cl : List (Str × Addr)) (fp : List Addr), (ht s Hb C cl fp).choose σ H Q
  let eW : TE := fun σ H Q => ∀ (s : Shared) (Hb : Hp) (C : Addr) (cl : List (Str × Addr)) (fp : List Addr), wE (X.blk s Hb scope (compEnvC scope cl C X.env) fp) elt σ H Q
  have hgW : ∀ (s : Shared) (H : Hp) (C : Addr) (cl : List (Str × Addr)) (fp : List Addr), PG (X.blk s H scope (compEnvC scope cl C X.env) fp) tg gW := fun s H C cl fp => ⟨fun pins sh σ H1 v u Q I r h => h s H C cl fp pins sh u I r⟩
  have htW : ∀ (s : Shared) (H : Hp) (C : Addr) (cl : List (Str × Addr)) (fp : List Addr), PTs (X.blk s H scope (compEnvC scope cl C X.env) fp) ifs tW := fun s H C cl fp => ⟨fun pins sh σ H1 Q I h => (ht s H C cl fp).choose_spec.1.run pins sh σ H1 Q I (h s H C cl fp)⟩
  have heW : ∀ (s : Shared) (H : Hp) (C : Addr) (cl : List (Str × Addr)) (fp : List Addr), PE (X.blk s H scope (compEnvC scope cl C X.env) fp) elt eW := fun s H C cl fp => ⟨fun pins sh σ H1 Q I h => h s H C cl fp pins sh I⟩
  refine (pe_lc hc hN (pi_w X tg iter) ok hgW htW heW hs).w ?_
  rw [hown]
  refine hi σ F0 H0 ρ0 _ E0 ?_
  unfold compS at p
  cases z : fi ρ0 with
  | bad => rw [z] at p; exact p
  | exc C fs ρ' => rw [z] at p; exact p
  | ok ds ρ1 =>
    rw [z, Rs.bind_ok] at p
    intro F1 H1 J s1 E1 ⟨G, Y, wk, hG, hY⟩ D hD
    have nfD : ¬ Fp vs σ ρ1 D := fun q => by
      obtain ⟨⟨o, e⟩, _⟩ := E1.fp q
      rw [e] at hD; cases hD
    obtain ⟨E1k, f1k⟩ := E1.kills (σ' := wipe σ own) (is := own) (wipe_wipe σ own)
    have g1 : Grow F1 H1 F1 (upd H1 D (.lst [])) := .newO E1.sub hD
    refine lc_it wk (fun i H' => ∃ F' ρ' ws acc, Step F0 H0 (Fp vs σ ρ0) F' H' (Fp vs (wipe σ own) ρ') ∧ ER X.K vs (wipe σ own) F' H' ρ' ∧ ρ'.kills own = ρ' ∧ Le F1 F' ∧ H' D = some (.lst ws) ∧ F' D = none ∧ ¬ Fp vs (wipe σ own) ρ' D ∧ Reps X.K F' ws acc ∧
      PH X.K vs σ W F0 H0 (Fp vs σ ρ0) Q ((lcL g t f own (ds.drop i) acc ρ').bind fun acc ρ2 => .ok (.val (ow (.lst acc))) ρ2)) ?_ ?_ ?_ ?_
    · refine ⟨F1, ρ1.kills own, [], [], (s1.trans g1.step).mono f1k, g1.er E1k, ?_, .refl _, upd_same, E1.sub.none hD, fun q => nfD (f1k D q), .nil, p⟩
      exact kills_kills own
    · rintro i H' hi ⟨F', ρ', ws, acc, st, E', kk, le, hDD, hFD, nf, rs, p'⟩
      exact hG F' H' le E'.sub
    · rintro i x H2 H' hi ⟨F2, ρ2, ws, acc, st, E2, kk, le, hDD, hFD, nf, rs, p2⟩ y s Hb C cl fp
      obtain ⟨F3, gr, d, ed, rd⟩ := hY i F2 H2 x H' le E2.sub hi y
      have e3 : ds.drop i = d :: ds.drop (i + 1) := by
        obtain ⟨h1, h2⟩ := List.getElem?_eq_some_iff.mp ed
        rw [List.drop_eq_getElem_cons h1, h2]
      rw [e3] at p2
      have E3 := gr.er E2
      have st3 := st.trans gr.step
      obtain ⟨hD3, hF3, nf3⟩ := (gr.step (P := Fp vs (wipe σ own) ρ2)).temp hDD hFD nf
      unfold lcL at p2
      refine hg s Hb C cl fp (wipe σ own) F3 H' ρ2 x d _ E3 rd ?_
      cases z2 : g (.val (fz d)) ρ2 with
      | bad => rw [z2] at p2; exact p2.elim
      | exc C fs ρ' => rw [z2] at p2; exact p2.elim
      | ok u ρ3 =>
        rw [z2] at p2
        dsimp only at p2
        intro F4 H4 σ4 s4 E4 w4
        rw [wipe_wipe] at w4
        refine ⟨w4, fun s' Hb' C' cl' fp' => (ht s' Hb' C' cl' fp').choose_spec.2 σ4 F4 H4 ρ3 _ E4 ?_⟩
        obtain ⟨hD4, hF4, nf4⟩ := s4.temp hD3 hF3 nf3
        have st4 := st3.trans s4
        have le4 := (le.trans gr.le).trans s4.le
        have rs4 := Reps.le (gr.le.trans s4.le) rs
        -- the end of a turn
        cases z3 : t ρ3 with
        | bad => rw [z3] at p2; exact p2.elim
        | exc C fs ρ' => rw [z3] at p2; exact p2.elim
        | ok b ρ4 =>
          rw [z3] at p2
          intro F5 H5 s5 E5
          obtain ⟨hD5, hF5, nf5⟩ := s5.temp hD4 hF4 nf4
          have st5 := st4.trans s5
          have le5 := le4.trans s5.le
          have rs5 := Reps.le s5.le rs4
          cases b with
          | false =>
            dsimp only at p2
            rw [if_neg Bool.false_ne_true]
            obtain ⟨E6, f6⟩ := E5.kills (σ' := wipe σ own) (is := own) (by rw [wipe_wipe, w4])
            exact ⟨F5, _, ws, acc, st5.mono f6, E6, kills_kills own, le5, hD5, hF5, fun q => nf5 (f6 D q), rs5, p2⟩
          | true =>
            dsimp only at p2
            rw [if_pos rfl]
            intro s' Hb' C' cl' fp'
            refine he s' Hb' C' cl' fp' σ4 F5 H5 ρ4 _ E5 ?_
            cases z4 : f ρ4 with
            | bad => rw [z4] at p2; exact p2.elim
            | exc C fs ρ' => rw [z4] at p2; exact p2.elim
            | ok h ρ5 =>
              rw [z4] at p2
              dsimp only at p2
              intro F6 H6 v s6 E6 r6 n6
              obtain ⟨hD6, hF6, nf6⟩ := s6.temp hD5 hF5 nf5
              cases z5 : frz h ρ5 with
              | bad => rw [z5] at p2; exact p2.elim
              | exc C fs ρ' => exact (frz_noexc z5).elim
              | ok d' ρ6 =>
                rw [z5] at p2
                dsimp only at p2
                split at p2
                · rename_i hlen
                  obtain ⟨F7, s7, E7, rd7, le7, _, _⟩ := frz_ok s6 E6 r6 n6 z5
                  obtain ⟨hD7, hF7, nf7⟩ := s7.temp hD5 hF5 nf5
                  have rs7 := Reps.le s7.le rs5
                  have hDn : ¬ Fp vs σ4 ρ6 D := nf7
                  refine ⟨ws, hD7, by rw [rs7.length]; exact hlen, ?_⟩
                  have E8 : ER X.K vs σ4 F7 (upd H6 D (.lst (ws ++ [v]))) ρ6 := E7.lift (fun b o e => by
                    have q : b ≠ D := fun q => by subst q; rw [hF7] at e; cases e
                    rw [upd_ne q]; exact E7.sub b o e) (.refl _) fun b hb => by
                    have q : b ≠ D := fun q => by subst q; exact hDn hb
                    exact ⟨upd_ne q, (E7.fp hb).2⟩
                  obtain ⟨E9, f9⟩ := E8.kills (σ' := wipe σ own) (is := own) (by rw [wipe_wipe, w4])
                  exact ⟨F7, _, ws ++ [v], acc ++ [d'], ((st5.trans s7).twr (s1.none_of (.inr hD)) hF7).mono f9, E9, kills_kills own, le5.trans s7.le, upd_same, hF7, fun q => hDn (f9 D q), rs7.append (.cons rd7 .nil), p2⟩
                · exact p2.elim
    · rintro H' ⟨F', ρ', ws, acc, st, E', kk, le, hDD, hFD, nf, rs, p'⟩
      rw [List.drop_length] at p'
      obtain ⟨E2, f2⟩ := E'.kills (σ' := σ) (is := own) (wipe_wipe σ own).symm
      rw [kk] at E2 f2
      refine p' F' H' (.ref D) (st.mono f2) E2 (.val (.ow hFD (.lst hDD rs)) fun _ a ea q => ?_) fun _ a ea => ?_
      · cases ea; exact nf (f2 D q)
      · cases ea; exact s1.none_of (.inr hD)
end
end MP
end

section
set_option maxHeartbeats 4000000
/-! a, b = x, y; append, pop; names of the module; isinstance; starred items; dict displays. -/
namespace MP
open PySem PySem.Spec PyProof.Rows L2

/-- values that wait for no root -/
def settle1 (h : Hnd) (ρ : Env) : Rs T := match h with
  | .val t => .ok t ρ
  | .rt r => (frz (.rt r) ρ).bind fun d ρ1 => .ok (fz d) ρ1
def settle : List Hnd → Env → Rs (List T)
  | [], ρ => .ok [] ρ
  | h :: hs, ρ => (settle1 h ρ).bind fun t ρ1 => (settle hs ρ1).bind fun ts ρ2 => .ok (t :: ts) ρ2
section
variable {K : PySem.W.Frag} {vs : List V} {σ : L2.St} {F F0 F1 F2 H H0 H1 : Hp} {P0 : Addr → Prop} {ρ ρ1 ρ2 : Env} {v : V} {h : Hnd}
theorem settle1_noexc {t : Hnd} {C : String} {fs : List (String × D)} (e : settle1 h ρ1 = .exc C fs ρ2) : False := by
  cases h with
  | val t => cases e
  | rt r =>
    replace e : (frz (.rt r) ρ1).bind (fun d ρ1 => .ok (fz d) ρ1) = .exc C fs ρ2 := e
    cases z : frz (.rt r) ρ1 with
    | bad => rw [z] at e; cases e
    | exc C fs ρ' => exact frz_noexc z
    | ok d ρ' => rw [z] at e; cases e
theorem settle_noexc : ∀ {hs : List Hnd} {C : String} {fs : List (String × D)} {ρ1 ρ2 : Env}, settle hs ρ1 = .exc C fs ρ2 → False
  | [], _, _, _, _, e => by cases e
  | h :: hs, C, fs, ρ1, ρ2, e => by
    replace e : (settle1 h ρ1).bind (fun d ρ1 => (settle hs ρ1).bind fun ds ρ2 => .ok (d :: ds) ρ2) = .exc C fs ρ2 := e
    cases z : settle1 h ρ1 with
    | bad => rw [z] at e; cases e
    | exc C fs ρ' => exact settle1_noexc (t := h) z
    | ok d ρ' =>
      rw [z, Rs.bind_ok] at e
      cases z2 : settle hs ρ' with
      | bad => rw [z2] at e; cases e
      | exc C fs ρ' => exact settle_noexc z2
      | ok ds' ρ'' => rw [z2] at e; cases e
theorem settle1_ok {t : T} (E : ER K vs σ F1 H1 ρ1) (hr : HR K vs σ F1 H1 ρ1 v h) (e : settle1 h ρ1 = .ok t ρ2) :
    ∃ F2, Step F1 H1 (Fp vs σ ρ1) F2 H1 (Fp vs σ ρ2) ∧ ER K vs σ F2 H1 ρ2 ∧ HR K vs σ F2 H1 ρ2 v (.val t) ∧ (h = .val t ∨ t.o = false) := by
  cases h with
  | val t' => cases e; exact ⟨F1, .refl E.sub, E, hr, .inl rfl⟩
  | rt r =>
    replace e : (frz (.rt r) ρ1).bind (fun d ρ1 => .ok (fz d) ρ1) = .ok t ρ2 := e
    cases z : frz (.rt r) ρ1 with
    | bad => rw [z] at e; cases e
    | exc C fs ρ' => exact (frz_noexc z).elim
    | ok d ρ' =>
      rw [z] at e
      cases e
      obtain ⟨F2, s2, E2, rd, le, _, _⟩ := frz_ok (.refl E.sub) E hr trivial z
      exact ⟨F2, s2, E2, (.val (.fz rd) fun q => by cases q), .inr rfl⟩
theorem settle_ok : ∀ {hs : List Hnd} {ws : List V} {F1 : Hp} {ρ1 ρ2 : Env} {ts : List T}, ER K vs σ F1 H1 ρ1 → HRs K vs σ F1 H1 ρ1 ws hs → settle hs ρ1 = .ok ts ρ2 →
    ∃ F2, Step F1 H1 (Fp vs σ ρ1) F2 H1 (Fp vs σ ρ2) ∧ ER K vs σ F2 H1 ρ2 ∧ HRs K vs σ F2 H1 ρ2 ws (ts.map Hnd.val) ∧ ∀ w t, (w, t) ∈ ws.zip ts → t.o = true → (w, Hnd.val t) ∈ ws.zip hs
  | [], _, F1, ρ1, ρ2, ts, E, hr, e => by
    cases hr
    cases e
    exact ⟨F1, .refl E.sub, E, .nil, fun w t m => by simp at m⟩
  | h :: hs, _, F1, ρ1, ρ2, ts, E, hr, e => by
    cases hr with
    | @cons v _ ws _ hv hr hd =>
      replace e : (settle1 h ρ1).bind (fun d ρ1 => (settle hs ρ1).bind fun ds ρ2 => .ok (d :: ds) ρ2) = .ok ts ρ2 := e
      cases z : settle1 h ρ1 with
      | bad => rw [z] at e; cases e
      | exc C fs ρ' => exact (settle1_noexc (t := h) z).elim
      | ok t ρ' =>
        rw [z, Rs.bind_ok] at e
        cases z2 : settle hs ρ' with
        | bad => rw [z2] at e; cases e
        | exc C fs ρ' => exact (settle_noexc z2).elim
        | ok ts' ρ'' =>
          rw [z2] at e
          cases e
          obtain ⟨F2, s2, E2, h2, c2⟩ := settle1_ok E hv z
          obtain ⟨F3, s3, E3, h3, c3⟩ := settle_ok E2 (hr.step s2) z2
          refine ⟨F3, s2.trans s3, E3, .cons (h2.step s3) h3 fun t0 a e1 e2 e3 w t' m e4 => ?_, fun w t' m ho => ?_⟩
          · cases e1
            rcases c2 with c2 | c2
            · have m' : (w, t') ∈ ws.zip ts' := by
                have : ws.zip (ts'.map Hnd.val) = (ws.zip ts').map fun p => (p.1, Hnd.val p.2) := by
                  rw [List.zip_map_right]; rfl
                rw [this] at m
                obtain ⟨⟨w1, t1⟩, m1, m2⟩ := List.mem_map.mp m
                cases m2
                exact m1
              exact hd t a c2 e2 e3 w t' (c3 w t' m' e4) e4
            · rw [c2] at e2; cases e2
          · rw [List.zip_cons_cons] at m
            rw [List.zip_cons_cons]
            rcases List.mem_cons.mp m with m | m
            · cases m
              rcases c2 with c2 | c2
              · rw [c2]; exact List.mem_cons_self
              · rw [c2] at ho; cases ho
            · exact List.mem_cons_of_mem _ (c3 w t' m ho)
end
def parS (i j : Nat) (fs : Env → Rs (List Hnd)) (ρ : Env) : Rs Fl := (fs ρ).bind fun hs ρ1 => (settle hs ρ1).bind fun ts ρ2 => match ts with
  | [t, u] => if i < ρ2.sl.length ∧ j < ρ2.sl.length then .ok .nx ((ρ2.store i t).store j u) else .bad
  | _ => .bad
def appD (d : D) : D → Option D
  | .lst ds => if ds.length < sizeLine then some (.lst (ds ++ [d])) else none
  | _ => none
def isLst : Option T → Bool
  | some ⟨_, .lst _⟩ => true
  | _ => false
def appS (fo fa : Env → Rs Hnd) (ρ : Env) : Rs Hnd := (fo ρ).bind fun x ρ1 => if isLst (x.look ρ1) = true then (fa ρ1).bind fun y ρ2 => match x with
  | .rt r => (frz y ρ2).bind fun d ρ3 => (modR (appD d) r ρ3).bind fun _ ρ4 => .ok (.val (fz .non)) ρ4
  | _ => .bad else .bad
section
variable {X : Cx} {W : WX} {vs : List V} {x y : Str} {p pos apos pos' cpos : Pos} {a b c e o i tg iter elt value : Expr} {es : List Expr} {fi : Env → Rs (List D)} {fs gs : Env → Rs (List Hnd)} {fo fa fb f fv : Env → Rs Hnd} {t : Env → Rs Bool} {g : Hnd → Env → Rs Unit}
theorem SA.goS {σ : L2.St} {F0 H0 F H : Hp} {P0 : Addr → Prop} {ρ : Env} {k : List Hnd → Env → Rs Fl} {D : Ends} {Q2 : List V → Hp → Prop} (h : SA X W vs es fs) (s0 : Step F0 H0 P0 F H (Fp vs σ ρ)) (E : ER X.K vs σ F H ρ) (p : PF X.K vs W F0 H0 P0 D ((fs ρ).bind k))
    (hk : ∀ F1 H1 ρ1 v hd, Step F0 H0 P0 F1 H1 (Fp vs σ ρ1) → Step F H (Fp vs σ ρ) F1 H1 (Fp vs σ ρ1) → ER X.K vs σ F1 H1 ρ1 → HRs X.K vs σ F1 H1 ρ1 v hd → HNs H (Fp vs σ ρ) v hd → PF X.K vs W F0 H0 P0 D (k hd ρ1) → Q2 v H1) : wA X es σ H Q2 := by
  refine h σ F H ρ Q2 E ?_
  cases z : fs ρ with
  | bad => rw [z] at p; exact p
  | exc C fs ρ' => rw [z] at p; exact fun F' H' cls d st er x => p F' H' σ cls d (s0.trans st) er x
  | ok hd ρ1 =>
    rw [z] at p
    exact fun F1 H1 v st er hr hn => hk F1 H1 ρ1 v hd (s0.trans st) st er hr hn p
theorem ss_par {i j : Nat} {px py pt : Pos} {kt k2 : Nat} {pt2 : Pos} (hc : X.calm = true) (hN : X.N.Nodup) (hi : X.N[i]? = some x) (hj : X.N[j]? = some y) (hij : i ≠ j)
    (hx : X.env.scope.names.lookup x = some .local) (hy : X.env.scope.names.lookup y = some .local) (ha : SA X W vs [a, b] fs)
    (hw : swappedStores [.Tuple [.Name x px, .Name y py] kt pt] (.Tuple [a, b] k2 pt2) X.env = pure (some [x, y]))
    (hs : swapsWithSole [.Tuple [.Name x px, .Name y py] kt pt] (.Tuple [a, b] k2 pt2) pos.line X.env = pure false := by rfl) :
    SS X W vs (.Assign [.Tuple [.Name x px, .Name y py] kt pt] (.Tuple [a, b] k2 pt2) pos) (parS i j fs) := by
  constructor; intro σ F H ρ D E p
  refine (ps_par hc hN hi hj hij hx hy (pa_w X [a, b]) hw hs).w ?_
  unfold parS at p
  refine ha.goS (.refl E.sub) E p fun F1 H1 ρ1 ws hs s1 _ E1 r1 n1 p1 => ?_
  cases z : settle hs ρ1 with
  | bad => rw [z] at p1; exact p1.elim
  | exc C fs ρ' => exact (settle_noexc z).elim
  | ok ts ρ2 =>
    rw [z, Rs.bind_ok] at p1
    obtain ⟨F2, s2, E2, r2, c2⟩ := settle_ok E1 r1 z
    split at p1
    · rename_i t u
      split at p1
      · rename_i hl
        cases r2 with
        | @cons v _ ws' _ rv r2' d2 =>
          cases r2' with
          | @cons w _ ws'' _ rw' r3 _ =>
            cases r3
            have nv : HN H (Fp vs σ ρ) v (.val t) := fun ho a ea => n1 v (.val t) (c2 v t (by simp) ho) ho a ea
            have nw : HN H (Fp vs σ ρ) w (.val u) := fun ho a ea => n1 w (.val u) (c2 w u (by simp) ho) ho a ea
            have E3 := E2.store hl.1 rv
            have s3 := (s1.trans s2).store E2 hl.1 nv
            have hl2 : j < (ρ2.store i t).sl.length := by show j < (ρ2.sl.set i _).length; rw [List.length_set]; exact hl.2
            have rw2 : HR X.K vs (σ.set i (some v)) F2 H1 (ρ2.store i t) w (.val u) := by
              cases rw' with
              | val h1 h2 =>
                refine .val h1 fun ho a ea q => ?_
                rcases fp_store hl.1 E2.sl q with q | ⟨q1, q2⟩
                · exact h2 ho a ea q
                · exact d2 t a rfl q1 q2 w u (by simp) ho ea
            exact ⟨v, w, rfl, p1 F2 H1 _ (s3.store E3 hl2 nw) (E3.store hl2 rw2)⟩
      · exact p1.elim
    · exact p1.elim
/-- o.append(e) -/
theorem se_append (ho : SE X W vs o fo) (ha : SE X W vs a fa) (hbase : attributeBase o "append" X.env (eval o X.env) = eval o X.env := by rfl)
    (hfew : ((backTo cpos (starEach [a] X.env)).all (fun x => !x.1) && (backToKw cpos (keywordEach [] X.env)).all (fun x => x.1.isSome)
      && decide ([a].length + ([] : List Keyword).length + (if ([] : List Keyword).isEmpty then 0 else 1) < 30)) = true := by rfl)
    (hline : (apos.endLine == cpos.line) = true := by rfl) (hs : starEach [a] X.env = (false, eval a X.env) :: starEach [] X.env := by rfl) (hplain : (backTo cpos (starEach [] X.env)).any (·.1) = false := by rfl) :
    SE X W vs (.Call (.Attribute o "append" apos) [a] [] cpos) (appS fo fa) := by
  constructor; intro σ F H ρ Q E p
  refine (pe_bm (name := "append") PySem.F.plainAttrs_list PySem.F.slot_list_append PySem.F.type_list_append mt_append (pe_w X o) (pa_cons (pe_w X a) pa_nil hs) hbase hfew hline hs hplain).w ?_
  unfold appS at p
  refine ho.go (.refl E.sub) E p fun F1 H1 ρ1 v x s1 t1 E1 r1 n1 p1 => ?_
  split at p1
  · rename_i hl
    have isl : ∃ o ds, x.look ρ1 = some ⟨o, .lst ds⟩ := by
      revert hl
      cases x.look ρ1 with
      | none => intro hl; cases hl
      | some t => obtain ⟨o, d⟩ := t; cases d <;> intro hl <;> first | exact ⟨_, _, rfl⟩ | cases hl
    obtain ⟨o', ds, el⟩ := isl
    obtain ⟨a', xs, rfl, h1, h2⟩ := (r1.look E1 el).lst E1.sub
    refine ⟨.inl ⟨rfl, xs, .inl (.inl h1)⟩, ?_⟩
    refine ha.go s1 E1 p1 fun F2 H2 ρ2 w y s2 t2 E2 r2 n2 p2 => ?_
    split at p2
    · rename_i r
      cases zf : frz y ρ2 with
      | bad => rw [zf] at p2; exact p2.elim
      | exc C fs ρ' => exact (frz_noexc zf).elim
      | ok d ρ3 =>
        rw [zf, Rs.bind_ok] at p2
        obtain ⟨F3, s3, E3, rd, le, _, _⟩ := frz_ok s2 E2 r2 (n2.step s1) zf
        cases em : modR (appD d) r ρ3 with
        | bad => rw [em] at p2; exact p2.elim
        | exc C fs ρ' => exact (mod_noexc em).elim
        | ok u ρ4 =>
          rw [em, Rs.bind_ok] at p2
          obtain ⟨b, c, c', hv, hF, ho', ec, eg, hw⟩ := mod_ok s3 E3 em
          cases r1 with
          | rt hv' =>
            cases hv.inj hv'
            unfold appD at eg
            split at eg
            · rename_i ds'
              split at eg
              · rename_i hlen
                cases eg
                cases ho' with
                | @lst ws _ hl' rs =>
                  obtain ⟨E5, s5⟩ := hw (.lst (ws ++ [w])) (.lst upd_same (rs.append (.cons rd .nil)))
                  exact ⟨_, ws, w, rfl, rfl, hl', by rw [rs.length]; exact hlen, p2 _ _ _ s5 E5 (.val (.fz .non) fun q => by cases q) fun q => by cases q⟩
              · cases eg
            · cases eg
    · exact p2.elim
  · exact p1.elim
/-! ### names of the module -/
theorem se_glob {d : D} (hg : Gl X x) (h : ∃ v u, X.mg x = some u ∧ RelV v u ∧ ∀ F, Rep X.K F v d) (hd : (x == ("__debug__" : Str)) = false := by decide) : SE X W vs (.Name x pos) (fun ρ => .ok (.val (fz d)) ρ) := by
  obtain ⟨v, u, hm, r, rd⟩ := h
  constructor; intro σ F H ρ Q E p
  exact (pe_glob hg hm r hd).w (p F H v (.refl E.sub) E (.val (.fz (rd F)) fun q => by cases q) fun q => by cases q)
theorem se_ty {n : String} (hg : Gl X x) (hm : X.mg x = none) (hv : bootBuiltins x = some (.type n)) (hn : x ≠ "__name__" := by decide) (hd : (x == ("__debug__" : Str)) = false := by decide) : SE X W vs (.Name x pos) (fun ρ => .ok (.val (fz (.ty n))) ρ) := by
  constructor; intro σ F H ρ Q E p
  exact (pe_bltn (v := .ty n) hg hm hv rfl hn hd).w (p F H (.ty n) (.refl E.sub) E (.val (.fz (.ty n)) fun q => by cases q) fun q => by cases q)
theorem se_cls {g : String} (hg : Gl X (Str.ofString g)) (hm : X.mg (Str.ofString g) = some (.ref (He.ga X.K (Str.ofString g)))) (hd : ((Str.ofString g) == ("__debug__" : Str)) = false := by decide) : SE X W vs (.Name (Str.ofString g) pos) (fun ρ => .ok (.val (fz (.obj g))) ρ) :=
  se_glob hg ⟨.ref (He.ga X.K (Str.ofString g)), .ref (He.ga X.K (Str.ofString g)), hm, rfl, fun F => .obj g⟩ hd
/-! ### starred items -/
def evStar (f : Env → Rs Hnd) (g : Env → Rs (List Hnd)) (ρ : Env) : Rs (List Hnd) := (f ρ).bind fun x ρ1 => (frz x ρ1).bind fun d ρ2 => match d with
  | .lst ds => (g ρ2).bind fun hs ρ3 => .ok ((ds.map fun d => Hnd.val (fz d)) ++ hs) ρ3
  | .tup ds => (g ρ2).bind fun hs ρ3 => .ok ((ds.map fun d => Hnd.val (fz d)) ++ hs) ρ3
  | _ => .bad
theorem hrs_vals {K : PySem.W.Frag} {σ : L2.St} {F H : Hp} {ρ : Env} : ∀ {xs : List V} {ds : List D} {ws : List V} {hs : List Hnd}, Reps K F xs ds → HRs K vs σ F H ρ ws hs → HRs K vs σ F H ρ (xs ++ ws) ((ds.map fun d => Hnd.val (fz d)) ++ hs)
  | _, _, _, _, .nil, h => h
  | _, _, _, _, .cons r rr, h => .cons (.val (.fz r) fun q => by cases q) (hrs_vals rr h) fun t a e1 e2 => by cases e1; cases e2
theorem hns_vals {K : PySem.W.Frag} {F H : Hp} {P : Addr → Prop} : ∀ {xs : List V} {ds : List D} {ws : List V} {hs : List Hnd}, Reps K F xs ds → HNs H P ws hs → HNs H P (xs ++ ws) ((ds.map fun d => Hnd.val (fz d)) ++ hs)
  | _, _, _, _, .nil, h => h
  | _, _, _, _, .cons r rr, h => hns_cons (fun q => by cases q) (hns_vals rr h)
theorem sa_star (he : SE X W vs e fo) (hr : SA X W vs es fs) (hs : starEach (.Starred e p :: es) X.env = (true, eval e X.env) :: starEach es X.env := by rfl) : SA X W vs (.Starred e p :: es) (evStar fo fs) := by
  constructor; intro σ F H ρ Q E q
  refine (StX.pa_star (pe_w X e) (pa_w X es) hs).w ?_
  unfold evStar at q
  refine he.goA (.refl E.sub) E q fun F1 H1 ρ1 v x s1 t1 E1 r1 n1 p1 => ?_
  cases z : frz x ρ1 with
  | bad => rw [z] at p1; exact p1.elim
  | exc C fs ρ' => exact (frz_noexc z).elim
  | ok d ρ2 =>
    rw [z, Rs.bind_ok] at p1
    obtain ⟨F2, s2, E2, rd, le, _, _⟩ := frz_ok s1 E1 r1 n1 z
    cases rd with
    | lst hl rs =>
      have hq : SqL X.K F2 _ _ := .inl (.inl hl)
      refine ⟨_, _, rfl, .inr (SqL.sub hq E2.sub), ?_⟩
      refine hr.goA s2 E2 p1 fun F3 H3 ρ3 ws hs s3 t3 E3 r3 n3 p3 => ?_
      have rs' := Reps.le t3.le rs
      exact p3 F3 H3 _ s3 E3 (hrs_vals rs' r3) (hns_vals rs' fun w h' m => (n3 w h' m).step s2)
    | tup hq rs =>
      refine ⟨_, _, rfl, .inl (SqT.sub hq E2.sub), ?_⟩
      refine hr.goA s2 E2 p1 fun F3 H3 ρ3 ws hs s3 t3 E3 r3 n3 p3 => ?_
      have rs' := Reps.le t3.le rs
      exact p3 F3 H3 _ s3 E3 (hrs_vals rs' r3) (hns_vals rs' fun w h' m => (n3 w h' m).step s2)
    | _ => exact p1.elim
end
end MP
end

section
set_option maxHeartbeats 4000000
/-! isinstance; exception objects as values. -/
namespace PySem.W
open PySem PySem.Spec PySem.Calls PyProof.Rows
section
variable {prog : Program} {w : World} {A : Around} {E : Value → Shared → Prop} {s : Shared} {K : Frag} {x D : Addr} {ox : Obj} {od : Option Obj}
theorem mp_findObj {C : Addr} {name : Str} {a g : Value} (hc : (clsIn K C).isSome = true) (ha : findIn K (.ref C) name = some (some a)) (hg : specialIn K a "__get__" = some (some g)) (ht : takesIn K a = some true) : findObj K C od name = some (.bind g a) := by
  obtain ⟨cd, hc⟩ := Option.isSome_iff_exists.mp hc
  unfold findObj
  rw [hc, Option.bind_some, ha, Option.bind_some]
  simp [hg, ht]
/-- __class__ of an exception object, with a dict or without (the lines follow the hand layer's one without) -/
theorem mp_classE {Q : Option Value → Shared → Prop} (hga : findIn K (.ref D) "__getattribute__" = some (some (.builtin "BaseException.__getattribute__"))) (hgt : findIn K (.ref D) "__getattr__" = some none) (hsub : subIn K (.ref D) (.type "BaseException") = some true)
    (hdct : hasDictIn K D = true) (ha : findIn K (.ref D) "__class__" = some (some (.builtin "object.__class__")))
    (hn : specialIn K (.builtin "object.__class__") "__get__" = some (some (.builtin "getset_descriptor.__get__"))) (htk : takesIn K (.builtin "object.__class__") = some true) (hm : mroIn K D (.type "object") = some true)
    (X : K.In s.heap) (I : InstAt s.heap x ox D od) (h : Q (some (.ref D)) { s with toks := s.toks + 1 }) : wpAny (model prog w) A (getAttr? (.ref x) "__class__") Q E s := by
  have hf : findObj K D od "__class__" = some (.bind (.builtin "getset_descriptor.__get__") (.builtin "object.__class__")) := mp_findObj (by obtain ⟨cd, hc, _⟩ := any_some hdct; rw [hc]; rfl) ha hn htk
  obtain ⟨hp, g, d, t, os⟩ := s
  have L0 := I.type (M := model prog w)
  have L1 := looks_findIn (M := model prog w) X hga
  have L2 := looks_findIn (M := model prog w) X hgt
  have L3 := looks_find (M := model prog w) X I hf
  have sub : Looks (model prog w) hp (isInstance (.ref x) (.type "BaseException")) true := L0.andThen (looks_subIn X hsub)
  have hx0 : (false && onTheHeap (Value.builtin "BaseException.__getattribute__")) = false := rfl
  have hx2 : (Value.builtin "BaseException.__getattribute__" == Value.builtin "object.__getattribute__") = false := by decide +kernel
  have hx1 : (onTheHeap (Value.ref D) && Value.builtin "BaseException.__getattribute__" == Value.builtin "object.__getattribute__") = false := by rw [hx2]; rfl
  unfold getAttr? getAttrBy? getAttrBy
  refine wpAny_bind (wpAny_mkText (wpAny_bind (wpAny_attempt (wpAny_holding (wpAny_bind (L0.at (wpAny_bind (L1.at ?_))))))))
  show wpAny _ _ (if (onTheHeap (Value.ref D) && Value.builtin "BaseException.__getattribute__" == Value.builtin "object.__getattribute__") = true then _ else _) _ _ _
  rw [hx1, if_neg Bool.false_ne_true]
  unfold getAttrByItsOwn hookBefore
  refine wpAny_bind ?_
  rw [if_pos (show onTheHeap (Value.ref D) = true from rfl)]
  refine L2.at ?_
  refine wpAny_bind (wpAny_attempt (wpAny_holding ?_))
  unfold callGetattribute
  rw [hx0, if_neg Bool.false_ne_true]
  unfold boundAndCalled
  rw [PySem.F.excAttr_ValueError.ga.bind (.ref x)]
  refine wpAny_bind (wpAny_pure ?_)
  show wpAny _ _ (call (.builtin "BaseException.__getattribute__") [.ref x, .str "__class__" t]) _ _ _
  refine wpAny_call (codeAny_call_builtin PySem.F.excAttr_ValueError.ga.plain PySem.F.entry_bexc_ga ?_)
  refine @check_slot (model prog w) _ _ ⟨hp, g, d, t + 1, os⟩ "BaseException.__getattribute__" "BaseException" "__getattribute__" (.ref x) [.str "__class__" t] [] _ (by decide +kernel) (by decide +kernel) sub (PySem.F.args_bexc_ga (.ref x) (.str "__class__" t)) ?_
  unfold Builtin.«object.__getattribute__»
  refine wpAny_bind (wpAny_of_eq (a := ((Value.ref x : Value), [Value.str "__class__" t])) (by first | rfl | (simp only [slotArgs]; rfl)) ?_)
  refine wpAny_bind (wpAny_pure (wpAny_bind (L0.at (wpAny_bind (L3.at ?_)))))
  show wpAny _ _ (holding [Value.builtin "object.__class__"] (call (.builtin "getset_descriptor.__get__") [.builtin "object.__class__", .ref x, .ref D]) >>= ret) _ _ _
  refine wpAny_bind (wpAny_holding (wpAny_call (class_get (s := ⟨hp, g, d, t + 1, os⟩) (ox := ox) (od := od) X I hm ?_)))
  refine wpAny_pure ?_
  show wpAny _ _ (handedOut (.ref D)) _ _ _
  rw [handedOut_of (v := .ref D) rfl]
  first
    | exact wpAny_pure (wpAny_pure h)
    | exact wpAny_pure h
    | exact wpAny_pure (wpAny_bind (wpAny_pure (wpAny_pure h)))
theorem mp_kitx (hga : findIn K (.ref D) "__getattribute__" = some (some (.builtin "BaseException.__getattribute__"))) (hgt : findIn K (.ref D) "__getattr__" = some none) (hsub : subIn K (.ref D) (.type "BaseException") = some true) (hdct : hasDictIn K D = true) (ha : findIn K (.ref D) "__class__" = some (some (.builtin "object.__class__")))
    (hn : specialIn K (.builtin "object.__class__") "__get__" = some (some (.builtin "getset_descriptor.__get__"))) (htk : takesIn K (.builtin "object.__class__") = some true) (hm : mroIn K D (.type "object") = some true) :
    KitX K (.ref x) (.ref D) (fun h => InstAt h x ox D od) where
  ty := fun _ _ _ I => I.type
  it := fun _ _ X _ => by
    obtain ⟨cdD, hcD, _⟩ := any_some hdct
    unfold clsIn at hcD
    split at hcD
    · rename_i c' d' cd' sl' ho
      intro A' Q' E' s' k q
      unfold isType loadHead
      exact wpAny_bind (wpAny_loadPart (k _ _ (X _ _ ho)) (wpAny_pure q))
    · cases hcD
  ne := fun h tp dd its n sl X htp => by
    obtain ⟨cdD, hcD, _⟩ := any_some hdct
    refine Bool.eq_false_iff.mpr fun q => ?_
    have e : D = tp := Value.ref.inj (beq_iff_eq.mp q)
    subst e
    unfold clsIn at hcD
    split at hcD
    · rename_i c' d' cd' sl' ho
      have z := (X _ _ ho).symm.trans htp
      cases z
    · cases hcD
  ca := fun X I k => mp_classE hga hgt hsub hdct ha hn htk hm X I k
end
end PySem.W
namespace MP
open PySem PySem.Spec PyProof.Rows L2
/-! ### isinstance -/
/-- a datum's class, as isinstance asks -/
inductive Kd | b (n : String) | c (C : String) | x (C : String)
  deriving DecidableEq
def kdOf : D → Option Kd
  | .non => some (.b "NoneType")
  | .bl _ => some (.b "bool")
  | .int _ => some (.b "int")
  | .str _ => some (.b "str")
  | .tup _ => some (.b "tuple")
  | .lst _ => some (.b "list")
  | .scr _ => some (.b "list")
  | .dct _ => some (.b "dict")
  | .ins C _ => some (.c C)
  | .exc C _ => some (.x C)
  | _ => none
def clsOf : D → Option Kd
  | .ty n => some (.b n)
  | .obj g => some (.c g)
  | _ => none
def kdV (K : PySem.W.Frag) : Kd → Value
  | .b n => .type n
  | .c C => .ref (He.ga K (Str.ofString C))
  | .x C => .ref (He.ga K (Str.ofString C))
def anyT (tab : Kd → Kd → Option Bool) (k : Kd) : List D → Option Bool
  | [] => some false
  | d :: ds => match clsOf d with
    | some c => match tab k c with
      | some true => some true
      | some false => anyT tab k ds
      | none => none
    | none => none
/-- tab: what isinstance tells of a class and a class -/
def isiD (tab : Kd → Kd → Option Bool) : List D → Option T
  | [x, .tup (c0 :: cs)] => (kdOf x).bind fun k => (anyT tab k (c0 :: cs)).map fun b => fz (.bl b)
  | [x, c] => (kdOf x).bind fun k => (clsOf c).bind fun c => (tab k c).map fun b => fz (.bl b)
  | _ => none
/-- what a class of exceptions must be -/
structure ExF (K : PySem.W.Frag) (C : Addr) : Prop where
  ex : ExcC K C
  xf : XfC K C
/-- what the table must be -/
structure IsiT (K : PySem.W.Frag) (tab : Kd → Kd → Option Bool) : Prop where
  ok : ∀ k c b, tab k c = some b → PySem.W.kitOne K (kdV K k) (kdV K c) = some b
  cls : ∀ (C : String) (c : Kd) (b : Bool), tab (Kd.c C) c = some b → C8.InsC K (He.ga K (Str.ofString C))
  exc : ∀ (C : String) (c : Kd) (b : Bool), tab (Kd.x C) c = some b → ExcC K (He.ga K (Str.ofString C))
section
variable {X : Cx} {F H : Hp} {v : V}
theorem exAt_inst {K : PySem.W.Frag} {σ : L2.St} {pins : List (Addr × Obj)} {s : Shared} {a C : Addr} {d : Option Addr} (hs : Sub F H) (I : Inv X pins σ H s) (h : ExAt F a (.ref C) d) (hd : ∀ dx, d = some dx → ∃ o, s.heap.get? dx = some o) : ∃ ox od, PySem.W.InstAt s.heap a ox C od ∧ ∀ dx, d = some dx → ∃ o, od = some o ∧ s.heap.get? dx = some o := by
  obtain ⟨φ, e, hφ⟩ := h
  have hx : ObjOk X.prog X.w H s.heap a (.ext φ) := I.hok a _ (hs _ _ e)
  obtain ⟨oe, vs, e1, hz, e2⟩ := hφ _ hx.1
  cases d with
  | none => exact ⟨oe, none, ⟨e1, hz.1, by unfold PySem.W.notCls; rw [e2] <;> rfl, by rw [hz.2]; trivial⟩, fun dx q => by cases q⟩
  | some dx =>
    obtain ⟨o, eo⟩ := hd dx rfl
    exact ⟨oe, some o, ⟨e1, hz.1, by unfold PySem.W.notCls; rw [e2] <;> rfl, by rw [hz.2]; exact eo⟩, fun dx' q => by cases q; exact ⟨o, rfl, eo⟩⟩
theorem xdAt_ns {σ : L2.St} {pins : List (Addr × Obj)} {s : Shared} {dx : Addr} {fvs : List (Str × V)} (hs : Sub F H) (I : Inv X pins σ H s) (h : XdAt F dx fvs) : ∃ mA, s.heap.Ns1 dx mA ∧ ∀ f, RelO (fvs.lookup f) (mA f) := by
  rcases h with e | ⟨ψ, e, hψ⟩
  · have hx : ObjOk X.prog X.w H s.heap dx (.xd fvs) := I.hok dx _ (hs _ _ e)
    obtain ⟨mA, hns, hr⟩ := hx
    exact ⟨mA, hns, hr⟩
  · have hx : ObjOk X.prog X.w H s.heap dx (.ext ψ) := I.hok dx _ (hs _ _ e)
    exact hψ _ hx.1
theorem kd_kit {σ : L2.St} {pins : List (Addr × Obj)} {s : Shared} {t : T} {k : Kd} {u : Value} {tab : Kd → Kd → Option Bool} (ht : IsiT X.K tab) (hs : Sub F H) (I : Inv X pins σ H s) (r : TRel X.K F H v t) (ru : RelV v u) (e : kdOf t.d = some k) (hk : ∃ c b, tab k c = some b) :
    ∃ P : Heap → Prop, PySem.W.KitX X.K u (kdV X.K k) P ∧ P s.heap ∧ u ≠ .builtin "__main__.__loader__#opaque" := by
  obtain ⟨o, d⟩ := t
  dsimp only at e
  cases d with
  | non => cases e; cases r.non; exact kit_of I ru (.base .non)
  | bl b => cases e; cases r.bl; exact kit_of I ru (.base (.bl _))
  | int i => cases e; cases r.int; exact kit_of I ru (.base (.int _))
  | str x => cases e; cases r.str; exact kit_of I ru (.base (.str _))
  | tup ds =>
    cases e
    obtain ⟨a, ws, rfl, h1, _⟩ := r.tup hs
    rcases h1 with (h1 | ⟨o, h1⟩) | ⟨o, _, _, h1, h2, _⟩
    · exact kit_of I ru (.base (.tup h1))
    · exact kit_of I ru (.fTuple h1)
    · exact kit_of I ru (.kTuple h1 h2)
  | lst ds =>
    cases e
    obtain ⟨a, ws, rfl, h1, _⟩ := r.lst hs
    exact kit_of I ru (.base (.lst h1))
  | scr ds =>
    cases e
    obtain ⟨a, rfl, h1⟩ := r.scr hs
    rcases h1 with (h1 | ⟨o, h1⟩) | ⟨o, _, _, h1, h2, _⟩
    · exact kit_of I ru (.base (.lst h1))
    · exact kit_of I ru (.base (.frz h1))
    · exact kit_of I ru (.kList h1 h2)
  | dct ds =>
    cases e
    obtain ⟨a, kvs, rfl, h1, _⟩ := r.dct hs
    rcases h1 with h1 | ⟨o, h1⟩
    · exact kit_of I ru (.base (.dK h1))
    · exact kit_of I ru (.fDict h1)
  | ins C fs =>
    cases e
    obtain ⟨a, dx, fvs, rfl, h1, _⟩ := r.ins hs
    obtain ⟨c, b, hcb⟩ := hk
    have ic := ht.cls C c b hcb
    exact kit_of I ru (.base (.ins h1 ic.cl ic.ha ic.hn ic.htk ic.hm))
  | exc C fs =>
    cases e
    obtain ⟨c, b, hcb⟩ := hk
    have ic := ht.exc C c b hcb
    have rep : Rep X.K F v (.exc C fs) := by
      cases r with
      | fz h => exact h
      | ow _ h => cases h
    cases rep with
    | exc0 h =>
      obtain rfl : u = Value.ref _ := ru
      obtain ⟨ox, od, J, _⟩ := exAt_inst (K := X.K) hs I h fun dx q => by cases q
      exact ⟨_, PySem.W.mp_kitx ic.hg ic.hk ic.hs ic.hd ic.ha ic.hn ic.ht ic.hm, J, fun z => nomatch z⟩
    | exc h h' rf =>
      obtain rfl : u = Value.ref _ := ru
      obtain ⟨ox, od, J, _⟩ := exAt_inst (K := X.K) hs I h fun dx q => by
        cases q
        obtain ⟨mA, ⟨o, _, _, eo, _⟩, _⟩ := xdAt_ns hs I h'
        exact ⟨o, eo⟩
      exact ⟨_, PySem.W.mp_kitx ic.hg ic.hk ic.hs ic.hd ic.ha ic.hn ic.ht ic.hm, J, fun z => nomatch z⟩
  | _ => cases e
theorem clsOf_v {t : T} {c : Kd} {u : Value} (r : TRel X.K F H v t) (ru : RelV v u) (e : clsOf t.d = some c) : u = kdV X.K c := by
  obtain ⟨o, d⟩ := t
  dsimp only at e
  cases d <;> first | (cases e; done) | skip
  · cases e; cases r.ty; exact ru
  · cases e
    cases r with
    | fz h => cases h; exact ru
    | ow _ h => cases h
theorem clsOf_rep {d : D} {c : Kd} {u : Value} (r : Rep X.K F v d) (ru : RelV v u) (e : clsOf d = some c) : u = kdV X.K c := by
  cases r <;> first | (cases e; done) | (cases e; exact ru)
theorem anyT_kit {tab : Kd → Kd → Option Bool} (ht : IsiT X.K tab) {k : Kd} : ∀ {ds : List D} {ws : List V} {us : List Value} {b : Bool}, Reps X.K F ws ds → Vals ws us → anyT tab k ds = some b → PySem.W.kitAny X.K (kdV X.K k) us = some b
  | [], _, _, b, .nil, .nil, e => by cases e; rfl
  | d :: ds, _, _, b, .cons r rr, .cons q qq, e => by
    unfold anyT at e
    split at e
    · rename_i c ec
      have eu := clsOf_rep r q ec
      split at e
      · rename_i et
        cases e
        unfold PySem.W.kitAny
        rw [eu, ht.ok _ _ _ et]
      · rename_i et
        unfold PySem.W.kitAny
        rw [eu, ht.ok _ _ _ et]
        exact anyT_kit ht rr qq e
      · cases e
    · cases e
theorem call_isiB {tab : Kd → Kd → Option Bool} (ht : IsiT X.K tab) : CallR X (.builtin "isinstance") (rBn X.K (isiD tab)) := by
  intro pins s σ H xs us Q I r h
  obtain ⟨F, ts, res, hs, hr, e, q⟩ := h
  unfold isiD at e
  split at e
  · rename_i x c cs em
    obtain ⟨v, w, t, t', rfl, hv, hw, ed, ed'⟩ := hr.two em
    obtain ⟨k, ek, e⟩ := Option.bind_eq_some_iff.mp e
    obtain ⟨b, eb, rfl⟩ := Option.map_eq_some_iff.mp e
    obtain ⟨u1, u2, rfl, r1, r2⟩ := vals2 r
    obtain ⟨a, ws, rfl, h1, h2⟩ := hw.seqT hs ed'
    obtain rfl : u2 = Value.ref a := r2
    · have hk : ∃ c b, tab k c = some b := by
        unfold anyT at eb
        split at eb
        · rename_i c' ec
          split at eb
          · exact ⟨_, _, by assumption⟩
          · exact ⟨_, _, by assumption⟩
          · cases eb
        · cases eb
      obtain ⟨P, Z, p, hx⟩ := kd_kit ht hs I hv r1 (by rw [ed]; exact ek) hk
      obtain ⟨its, rv, ⟨o, h3, h4, n, h5⟩, hz⟩ := I.tuple h1
      obtain ⟨oc, od, dt, sl⟩ := o
      simp only at h4 h5
      subst h4 h5
      exact PySem.W.kia_tup Z I.kIn p h3 (anyT_kit ht h2 rv eb) hx fun tk => ⟨.bl b, H, I.tok tk, rfl, RP.imm hs (.bl _) q⟩
  · rename_i x c _ em
    obtain ⟨v, w, t, t', rfl, hv, hw, ed, ed'⟩ := hr.two em
    obtain ⟨k, ek, e⟩ := Option.bind_eq_some_iff.mp e
    obtain ⟨c', ec, e⟩ := Option.bind_eq_some_iff.mp e
    obtain ⟨b, eb, rfl⟩ := Option.map_eq_some_iff.mp e
    obtain ⟨u1, u2, rfl, r1, r2⟩ := vals2 r
    have eu := clsOf_v hw r2 (by rw [ed']; exact ec)
    obtain ⟨P, Z, p, hx⟩ := kd_kit ht hs I hv r1 (by rw [ed]; exact ek) ⟨c', b, eb⟩
    rw [eu]
    exact PySem.W.kia_one Z I.kIn p (ht.ok _ _ _ eb) hx fun tk => ⟨.bl b, H, I.tok tk, rfl, RP.imm hs (.bl _) q⟩
  · cases e
end
end MP
end

section
set_option maxHeartbeats 4000000
/-! Exception objects made as values, with keywords too; their attributes. -/
namespace PySem.HandSPX
open PySem PySem.Spec PySem.Calls PyProof.Rows Builtin
/-! the hand layer's four steps of type.__call__, with keywords (BaseException.__new__ takes any, the own __init__ binds them) -/
section
variable {M : Model} {A : Around} {E : Value → Shared → Prop} {h : Heap} {g : Array GenState} {d : Drawn} {t : Nat} {os : OsState}
variable {nm q : Str} {C N : Addr} {bs bm bmB : List Value} {hdct : Bool} {sn : List Str} {sub : List Value} {ab : Bool} {col : Option Bool} {dd : Option Addr} {k0 k1 k2 k3 k5 : Option Value} {B newId initId : String} {kw : List (Str × Value)}
theorem mp_check_new (F : ExcBaseFacts B newId initId bmB) (hT : ∀ X : String, bm.contains (.type X) = bmB.contains (.type X)) {rest : List Value} {Q : Unit → Shared → Prop}
    (hC : h.get? C = some (excClassObj nm q C N bs bm hdct sn sub ab col dd k0 k1 k2 k3 k5 newId)) (hq : Q () ⟨h, g, d, t, os⟩) : wpAny M A (checkBuiltinCall newId ⟨.ref C :: rest, kw⟩) Q E ⟨h, g, d, t, os⟩ := by
  have hcont : (Value.ref C :: bm).contains (.type B) = true := by rw [List.contains_cons, hT, F.hasB, Bool.or_true]
  have hstar := F.noStar
  simp only [checkBuiltinCall, F.newKind, F.newSplit, F.newRow]
  repeat (first | refine wpAny_loadPart_at hC ?_ | (refine wpAny_isSubtype_exc hC ?_; rw [hcont]) | refine wpAny_staticBase_exc hC ?_ | refine wpAny_madeBy_exc hC ?_ | simp only [bne_self_eq_false, Bool.false_eq_true, if_false] | wp_step)
  exact hq
end
section
variable {prog : Program} {w : World} {A : Around} {E : Value → Shared → Prop} {R : Result → Shared → Prop} {h : Heap} {g : Array GenState} {d : Drawn} {t : Nat} {os : OsState}
variable {nm q : Str} {C N : Addr} {bs bm bmB : List Value} {hdct : Bool} {sn : List Str} {sub : List Value} {ab : Bool} {col : Option Bool} {dd : Option Addr} {k0 k1 k2 k3 k5 : Option Value} {B newId initId : String} {kw : List (Str × Value)}
theorem mp_new (F : ExcBaseFacts B newId initId bmB) (hT : ∀ X : String, bm.contains (.type X) = bmB.contains (.type X)) {rest : List Value}
    (hC : h.get? C = some (excClassObj nm q C N bs bm hdct sn sub ab col dd k0 k1 k2 k3 k5 newId))
    (hq : R (.ok (.ret (.ref (h.objs.size + 1)))) ⟨(h.push { cls := .type "tuple", data := .seq rest.toArray }).push
      { cls := .ref C, data := .fields #[.ref h.objs.size, .none, .none, .none, .bool false, .none] }, g, d, t, os⟩) (hrest : rest.length ≤ sizeLine) :
    codeAny (model prog w) A (.builtin newId ⟨.ref C :: rest, kw⟩) R ⟨h, g, d, t, os⟩ := by
  have hends := F.ends
  have hcB : (Value.ref C :: bm).contains (.type B) = true := by rw [List.contains_cons, hT, F.hasB, Bool.or_true]
  have hcA : (Value.ref C :: bm).contains (.type "AttributeError") = false := by rw [List.contains_cons, hT, F.noAttr]; rfl
  have hcN : (Value.ref C :: bm).contains (.type "NameError") = false := by rw [List.contains_cons, hT, F.noName]; rfl
  refine codeAny_builtinAt F.entry ?_
  unfold Builtin.«BaseException.__new__»
  refine wpAt_bind ?_
  show wpAt _ _ _ (stack >>= _) _ _ _
  refine wpAt_bind (wpAt_stack fun p below => wpAt_of_wpAny ?_)
  wp_walk
  refine wpAt_of_wpAny ?_
  rw [F.owner]
  repeat (first | with_reducible refine wpAny_madeHere_exc F.canon hC ?_ | with_reducible refine wpAny_loadPart_at hC ?_ | (with_reducible refine wpAny_isSubtype_exc hC ?_; first | rw [hcB] | rw [hcA] | rw [hcN]) | wp_step)
  show R _ _
  rw [Heap.size_push]
  exact hq
theorem mp_type_call (F : ExcBaseFacts B newId initId bmB) (hT : ∀ X : String, bm.contains (.type X) = bmB.contains (.type X)) {rest : List Value} {fI : Addr} {Q : Fin → Shared → Prop}
    (hC : h.get? C = some (excClassObj nm q C N bs bm hdct sn sub ab col dd k0 k1 k2 k3 k5 newId))
    (hi : W.Looks (model prog w) h (typeLookup (.ref C) "__init__") (some (.ref fI))) (hb : ∀ self, W.Looks (model prog w) h (bindSpecial (.ref fI) self) (.ref fI, [self])) (hrest : rest.length ≤ sizeLine)
    (hq : codeAny (model prog w) A (.call (.ref fI) ⟨.ref (h.objs.size + 1) :: rest, kw⟩)
      (fun r s' => match r with | .ok (.ret v) => v = .none ∧ Q (.done (.ret (.ref (h.objs.size + 1)))) s' | .ok _ => False | .error e => E e s')
      ⟨(h.push (W.kdv_tup rest)).push (excO C h.objs.size), g, d, t, os⟩) :
    wpAny (model prog w) A (Builtin.«type.__call__» ⟨.ref C :: rest, kw⟩) Q E ⟨h, g, d, t, os⟩ := by
  repeat (first | with_reducible refine wpAny_loadPart_at hC ?_ | with_reducible refine wpAny_madeBy_exc hC ?_ | wp_step)
  refine codeAny_call_builtin_code (Code.quiet_builtin _ F.quiet) (mp_check_new F hT hC ?_)
  refine mp_new F hT hC ?_ hrest
  show wpAny _ _ _ _ _ _
  have k : ∀ b o, h.get? b = some o → ((h.push (W.kdv_tup rest)).push (excO C h.objs.size)).get? b = some o := fun b o e => Heap.get?_push_of_some _ (Heap.get?_push_of_some _ e)
  have hC₁ := k _ _ hC
  have hget : ((h.push (W.kdv_tup rest)).push (excO C h.objs.size)).get? (h.objs.size + 1) = some (excO C h.objs.size) := by heap_get
  have hcC : (Value.ref C :: bm).contains (.ref C) = true := by simp
  have i1 := hi.keeps k
  have b1 := (hb (.ref (h.objs.size + 1))).keeps k
  unfold isInstance
  repeat (first | with_reducible refine wpAny_loadPart_at hget ?_ | (with_reducible refine wpAny_isSubtype_exc hC₁ ?_; rw [hcC]) | wp_step)
  show wpAny _ _ (typeLookup (.ref C) _) _ _ _
  refine i1.at ?_
  refine wpAny_holding (wpAny_bind (b1.at ?_))
  refine wpAny_bind (wpAny_call (codeAny_mono hq fun r s' z => ?_))
  rcases r with e | (v | _ | _ | _) <;> first | exact z | exact z.elim | skip
  obtain ⟨rfl, z⟩ := z
  first
    | exact wpAny_pure (wpAny_pure z)
    | (wp_walk; exact z)
theorem mp_call (F : ExcBaseFacts B newId initId bmB) (hT : ∀ X : String, bm.contains (.type X) = bmB.contains (.type X)) {rest : List Value} {fI : Addr}
    (hC : h.get? C = some (excClassObj nm q C N bs bm hdct sn sub ab col dd k0 k1 k2 k3 k5 newId))
    (hi : W.Looks (model prog w) h (typeLookup (.ref C) "__init__") (some (.ref fI))) (hb : ∀ self, W.Looks (model prog w) h (bindSpecial (.ref fI) self) (.ref fI, [self])) (hrest : rest.length ≤ sizeLine)
    (hq : codeAny (model prog w) (A.under (.builtin "type.__call__" ⟨.ref C :: rest, kw⟩)) (.call (.ref fI) ⟨.ref (h.objs.size + 1) :: rest, kw⟩) (W.InitBack (h.objs.size + 1) R)
      ⟨(h.push (W.kdv_tup rest)).push (excO C h.objs.size), g, d, t, os⟩) :
    codeAny (model prog w) A (.call (.ref C) ⟨rest, kw⟩) R ⟨h, g, d, t, os⟩ := by
  have f1 := tc_lookup
  have f2 := tc_bind (.ref C)
  have hTy : (⟨h, g, d, t, os⟩ : Shared).TypeIs (.ref C) "type" := ⟨_, hC, rfl⟩
  refine codeAny_of_tree ?_
  show wpAny _ _ (callAny (.ref C) _) _ _ _
  repeat (any_goals (first | assumption | with_reducible refine wpAny_loadPart_at hC ?_ | wp_step))
  refine ⟨rfl, ?_⟩
  refine codeAny_call_builtin_at (Code.quiet_builtin _ (by decide +kernel)) entry_typeCall (wpAny_check_type_call_sub hC (mp_type_call F hT hC hi hb hrest ?_))
  refine codeAny_mono hq fun r s' z => ?_
  rcases r with e | (v | _ | _ | _) <;> exact z
end
end PySem.HandSPX
namespace MP
open PySem PySem.Spec PyProof.Rows L2
/-- what an own __init__ of an exception class does: its attributes are the arguments -/
def spI (K : PySem.W.Frag) (fs : List Str) : Sp := fun vs H Q _ => ∃ (a C : Addr) (ws : List V), vs = .ref a :: ws ∧ ws.length = fs.length ∧ OexC K C ∧ (∀ f ∈ fs, PySem.W.findIn K (.ref C) f = some none) ∧ H a = some (exo a C none) ∧
  ∀ (H2 : Hp) (d : Addr), H2 a = some (exo a C (some d)) → H2 d = some (exd d (fs.zip ws).reverse) → d ≠ a → H d = none → (∀ b, b ≠ a → b ≠ d → H2 b = H b) → Q .non H2
structure ExK (K : PySem.W.Frag) (C fI : Addr) : Prop where
  oex : OexC K C
  init : PySem.W.findIn K (.ref C) "__init__" = some (some (.ref fI))
  ty : PySem.W.typeIn K (.ref fI) = some (.type "function")
section
variable {X : Cx} {W : WX} {k n : Nat} {C fI : Addr} {fd : FuncData} {ps ks : List Str} {sp : Sp} {σ : L2.St} {H : Hp} {Q : VK} {x : Str} {p pos : Pos} {e : Expr} {es : List Expr}
/-- C(..), as a value: us the positional arguments, ws the keywords' values; args: all in the parameters' order -/
theorem run_exw {pins : List (Addr × Obj)} {s : Shared} {us ws args : List Value} {vs : List V} (tk : Takes X W) (T : ExK X.K C fI) (F1 : FnG X.prog X.w X.K X.mg X.base (CX X.prog X.w) k fI fd ps sp) (hr : RoomG (k + 1) X.A)
    (hb : ∀ (s : Shared) (a : Value), X.K.In s.heap → BindsTo s fd ⟨a :: us, ks.zip ws⟩ (ps.zip (a :: args))) (I : Inv X pins σ H s) (r : Vals vs args) (hl0 : us.length ≤ 1000)
    (h : ∀ a, H a = none → sp (.ref a :: vs) (upd H a (exo a C none)) (fun v H2 => v = .non ∧ Q (.ref a) H2) (fun c d H' => W c d σ H')) :
    wpAny (model X.prog X.w) X.A (call (.ref C) us (ks.zip ws)) (EP X pins σ Q) X.xe s := by
  obtain ⟨nm, q, N, bs, bm, sn, sub, ab, col, dd, k0, k1, k2, k3, k5, hC, hbm⟩ := T.oex.cls
  obtain ⟨hp, g, dr, tk', os⟩ := s
  have hsz : hp.objs.size ≤ hp.objs.size + 1 := Nat.le_succ _
  have hn : H (hp.objs.size + 1) = none := I.hok.fresh hsz
  have hq := h (hp.objs.size + 1) hn
  have kk : ∀ b o, hp.get? b = some o → ((hp.push (PySem.W.kdv_tup us)).push (PySem.HandSPX.excO C hp.objs.size)).get? b = some o := fun b o e => Heap.get?_push_of_some _ (Heap.get?_push_of_some _ e)
  have hget : ((hp.push (PySem.W.kdv_tup us)).push (PySem.HandSPX.excO C hp.objs.size)).get? (hp.objs.size + 1) = some (PySem.HandSPX.excO C hp.objs.size) := by heap_get
  have I2 : Inv X pins σ (upd H (hp.objs.size + 1) (exo (hp.objs.size + 1) C none)) ⟨(hp.push (PySem.W.kdv_tup us)).push (PySem.HandSPX.excO C hp.objs.size), g, dr, tk', os⟩ :=
    I.laid (t' := tk') (a := hp.objs.size + 1) (o := exo (hp.objs.size + 1) C none) (h' := (hp.push (PySem.W.kdv_tup us)).push (PySem.HandSPX.excO C hp.objs.size)) kk hsz (exo_ok hget)
  have r2 : Vals (V.ref (hp.objs.size + 1) :: vs) (Value.ref (hp.objs.size + 1) :: args) := .cons rfl r
  have hus : us.length ≤ sizeLine := by rw [sizeLine_eq]; omega
  refine wpAny_call (PySem.HandSPX.mp_call F.excBase_ValueError (fun Y => PySem.HandSPX.refsVE_contains Y bm hbm) (I.kIn _ _ hC) (PySem.W.looks_findIn I.kIn T.init) (fun self => PySem.W.bind_fn I.kIn self T.ty) hus
    (codeAny_mono (F1.run _ X.stack _ _ ⟨Value.ref (hp.objs.size + 1) :: us, ks.zip ws⟩ (Value.ref (hp.objs.size + 1) :: args) _ _ _ (hr.make C us (ks.zip ws)) (I2.env0.make C us (ks.zip ws)) (hb _ _ I2.kIn) r2 hq) fun r s' hq' => ?_))
  cases r with
  | error er => exact tk _ _ (XE.of_call I2 (fun _ _ _ z => z) hq')
  | ok fl =>
    cases fl with
    | ret u =>
      obtain ⟨v, H', I3, rv, ev, q3⟩ := I2.after hq'
      subst ev
      exact ⟨rv, ⟨V.ref (hp.objs.size + 1), H', I3, rfl, q3⟩⟩
    | next => exact False.elim hq'
    | brk => exact False.elim hq'
    | cont => exact False.elim hq'
end
/-! ### over data -/
/-- an exception class with its own __init__, whose attributes are its arguments -/
structure ExMk (X : Cx) (C : String) (fs : List String) : Prop where
  at_ : ∃ fI k fd ps, ExK X.K (He.ga X.K (Str.ofString C)) fI ∧ FnG X.prog X.w X.K X.mg X.base (CX X.prog X.w) k fI fd ps (spI X.K (fs.map Str.ofString)) ∧ RoomG (k + 1) X.A ∧
    (∀ (s : Shared) (a : Value) (us : List Value), X.K.In s.heap → us.length = fs.length → BindsTo s fd ⟨a :: us, []⟩ (ps.zip (a :: us)))
  no : ∀ f ∈ fs, PySem.W.findIn X.K (.ref (He.ga X.K (Str.ofString C))) (Str.ofString f) = some none
  few : fs.length ≤ 900
def excS (C : String) (fns : List String) (fs : Env → Rs (List Hnd)) (ρ : Env) : Rs Hnd := (fs ρ).bind fun hs ρ1 => (frzs hs ρ1).bind fun ds ρ2 => if ds.length = fns.length then .ok (.val (fz (.exc C (fns.zip ds).reverse))) ρ2 else .bad
section
variable {K : PySem.W.Frag} {F : Hp}
theorem RepFs.append {fvs gvs : List (Str × V)} {fs gs : List (String × D)} (h : RepFs K F fvs fs) (h' : RepFs K F gvs gs) : RepFs K F (fvs ++ gvs) (fs ++ gs) := by
  induction fvs generalizing fs with
  | nil => cases h; exact h'
  | cons p r ih =>
    cases h with
    | cons h rr => exact .cons h (ih rr)
theorem RepFs.reverse {fvs : List (Str × V)} {fs : List (String × D)} (h : RepFs K F fvs fs) : RepFs K F fvs.reverse fs.reverse := by
  induction fvs generalizing fs with
  | nil => cases h; exact .nil
  | cons p r ih =>
    cases h with
    | cons h rr => rw [List.reverse_cons, List.reverse_cons]; exact (ih rr).append (.cons h .nil)
theorem repFs_zip : ∀ {fns : List String} {ws : List V} {ds : List D}, Reps K F ws ds → RepFs K F ((fns.map Str.ofString).zip ws) (fns.zip ds)
  | [], _, _, _ => .nil
  | _ :: _, _, _, .nil => .nil
  | _ :: _, _, _, .cons h r => .cons h (repFs_zip r)
theorem exo_exAt {a C : Addr} {d : Option Addr} (h : F a = some (exo a C d)) : ExAt F a (.ref C) d := ⟨_, h, fun h' ⟨t1, e⟩ => ⟨_, _, e, ⟨rfl, rfl⟩, rfl⟩⟩
theorem exd_xdAt {a : Addr} {fvs : List (Str × V)} (h : F a = some (exd a fvs)) : XdAt F a fvs := .inr ⟨_, h, fun h' q => q⟩
/-- what the __init__ leaves -/
theorem spI_of {X : Cx} {C : String} {fns : List String} {H : Hp} {ws : List V} {ds : List D} {Q : VK} {E : XK} {a : Addr} (T : OexC X.K (He.ga X.K (Str.ofString C))) (hno : ∀ f ∈ fns, PySem.W.findIn X.K (.ref (He.ga X.K (Str.ofString C))) (Str.ofString f) = some none) (hs : Sub F H) (r : Reps X.K F ws ds) (hl : ds.length = fns.length) (ha : H a = none)
    (q : RP X.K F H Q (fz (.exc C (fns.zip ds).reverse))) : spI X.K (fns.map Str.ofString) (.ref a :: ws) (upd H a (exo a (He.ga X.K (Str.ofString C)) none)) (fun v H2 => v = .non ∧ Q (.ref a) H2) E := by
  refine ⟨a, _, ws, rfl, by rw [r.length, hl, List.length_map], T, fun f hf => ?_, upd_same, fun H2 d h1 h2 hda hd hH => ⟨rfl, ?_⟩⟩
  · obtain ⟨f', hf', rfl⟩ := List.mem_map.mp hf
    exact hno f' hf'
  · rw [upd_ne hda] at hd
    have eH : H2 = upd (upd H d (exd d ((fns.map Str.ofString).zip ws).reverse)) a (exo a (He.ga X.K (Str.ofString C)) (some d)) := by
      funext b
      by_cases hb : b = a
      · subst hb; rw [upd_same, h1]
      · rw [upd_ne hb]
        by_cases hb2 : b = d
        · subst hb2; rw [upd_same, h2]
        · rw [upd_ne hb2, hH b hb hb2, upd_ne hb]
    have g1 := Grow.newF (o := exd d ((fns.map Str.ofString).zip ws).reverse) hs hd
    have ha1 : (upd H d (exd d ((fns.map Str.ofString).zip ws).reverse)) a = none := by rw [upd_ne (Ne.symm hda)]; exact ha
    have g2 := Grow.newF (o := exo a (He.ga X.K (Str.ofString C)) (some d)) g1.sub ha1
    have gg : Grow F H (upd (upd F d (exd d ((fns.map Str.ofString).zip ws).reverse)) a (exo a (He.ga X.K (Str.ofString C)) (some d))) H2 := by
      rw [eH]
      refine ⟨g1.le.trans g2.le, g2.sub, fun b o e => g2.keep b o (g1.keep b o e), fun b e => ?_⟩
      rcases g2.new b e with z | z
      · exact g1.new b z
      · refine .inr ?_
        cases w : H b with
        | none => rfl
        | some o => rw [g1.keep b o w] at z; cases z
    refine q _ _ _ gg (.fz (.exc (dx := d) (fvs := ((fns.map Str.ofString).zip ws).reverse) (exo_exAt upd_same) (exd_xdAt ?_) (RepFs.le gg.le (repFs_zip r).reverse))) fun z => by cases z
    rw [upd_ne hda, upd_same]
end
section
variable {X : Cx} {W : WX} {vs : List V} {x : Str} {p pos : Pos} {e : Expr} {es : List Expr} {fs : Env → Rs (List Hnd)} {kws : List Keyword} {C : String} {fns : List String}
theorem frzs_go {σ : L2.St} {F0 H0 F1 H1 : Hp} {P0 : Addr → Prop} {ρ1 : Env} {ws : List V} {hs : List Hnd} {k : List D → Env → Rs Hnd} {Q : VK} {P : Prop} (s1 : Step F0 H0 P0 F1 H1 (Fp vs σ ρ1)) (E1 : ER X.K vs σ F1 H1 ρ1) (r : HRs X.K vs σ F1 H1 ρ1 ws hs) (n : HNs H0 P0 ws hs) (p : PH X.K vs σ W F0 H0 P0 Q ((frzs hs ρ1).bind k))
    (h : ∀ F2 ρ2 ds, Step F0 H0 P0 F2 H1 (Fp vs σ ρ2) → ER X.K vs σ F2 H1 ρ2 → Reps X.K F2 ws ds → PH X.K vs σ W F0 H0 P0 Q (k ds ρ2) → P) : P := by
  cases z : frzs hs ρ1 with
  | bad => rw [z] at p; exact p.elim
  | exc C fs' ρ' => exact (frzs_noexc z).elim
  | ok ds ρ2 =>
    rw [z] at p
    obtain ⟨F2, s2, E2, rs, le⟩ := frzs_ok s1 E1 r n z
    exact h F2 ρ2 ds s2 E2 rs p
theorem se_exc (tk : Takes X W) (M : ExMk X C fns) (hg : Gl X x) (hm : X.mg x = some (.ref (He.ga X.K (Str.ofString C)))) (ha : SA X W vs (e :: es) fs)
    (hdb : (x == ("__debug__" : Str)) = false := by decide) (he : starEach (e :: es) X.env = (false, eval e X.env) :: starEach es X.env := by rfl) (hpl : (backTo pos (starEach es X.env)).any (·.1) = false := by rfl) :
    SE X W vs (.Call (.Name x p) (e :: es) [] pos) (excS C fns fs) := by
  obtain ⟨fI, k, fd, ps, T, F1, hr, hb⟩ := M.at_
  constructor; intro σ F0 H0 ρ0 Q E q pins s I
  refine wpAny_Call_Name_kw (ld_glob I hg hm ?_ hdb)
  refine PySem.W.callWith_K (h₀ := X.base) I.ok.mod.kin T.oex.kC (thn ((ha.go (.refl E.sub) E q (Q2 := fun ws H1 => ws.length = fns.length ∧ ∀ a, H1 a = none → spI X.K (fns.map Str.ofString) (.ref a :: ws) (upd H1 a (exo a (He.ga X.K (Str.ofString C)) none)) (fun v H2 => v = .non ∧ Q (.ref a) H2) (fun c d H' => W c d σ H'))
    fun F1 H1 ρ1 ws hs s1 t1 E1 r1 n1 p1 => ?_) pos pins s I) fun us s1 ⟨vs1, H1, I1, r, hl, q1⟩ => ⟨I1.kIn, ?_⟩) he hpl
  · refine frzs_go s1 E1 r1 n1 p1 fun F2 ρ2 ds s2 E2 rs p2 => ?_
    split at p2
    · rename_i hl
      exact ⟨rs.length.trans hl, fun a ha => spI_of T.oex M.no E2.sub rs hl ha (RP.of_ph E2 (p2.step s2))⟩
    · exact p2.elim
  · have hlu : us.length = fns.length := r.length.symm.trans hl
    exact run_exw (ks := []) (ws := []) (args := us) tk T F1 hr (fun s a K => hb s a us K hlu) I1 r (by show us.length ≤ 1000; have := M.few; omega) q1
/-! ### keywords -/
def wK (X : Cx) (kws : List Keyword) : TA := fun σ H Q => ∀ (pos : Pos) (pins : List (Addr × Obj)) (s : Shared), Inv X pins σ H s → wpAny (model X.prog X.w) X.A (evalAll ((backToKw pos (keywordEach kws X.env)).map (·.2))) (AP X pins σ Q) X.xe s
structure SK (X : Cx) (W : WX) (vs : List V) (kws : List Keyword) (f : Env → Rs (List Hnd)) : Prop where
  run : ∀ (σ : L2.St) (F H : Hp) (ρ : Env) (Q : List V → Hp → Prop), ER X.K vs σ F H ρ → PA' X.K vs σ W F H (Fp vs σ ρ) Q (f ρ) → wK X kws σ H Q
instance {X : Cx} {W : WX} {vs : List V} {kws : List Keyword} {f : Env → Rs (List Hnd)} : CoeFun (SK X W vs kws f) (fun _ => ∀ (σ : L2.St) (F H : Hp) (ρ : Env) (Q : List V → Hp → Prop), ER X.K vs σ F H ρ → PA' X.K vs σ W F H (Fp vs σ ρ) Q (f ρ) → wK X kws σ H Q) := ⟨SK.run⟩
theorem pk_w (X : Cx) (kws : List Keyword) : PK X kws (wK X kws) := ⟨fun pos pins s σ H Q I h => h pos pins s I⟩
theorem sk_nil : SK X W vs [] (fun ρ => .ok [] ρ) := ⟨fun σ F H ρ Q E p pos pins s I => pk_nil.run pos pins s σ H Q I (p F H [] (.refl E.sub) E .nil (fun w h m => by simp at m))⟩
theorem sk_cons {nm : Option Str} {kpos : Pos} {fa : Env → Rs Hnd} (ha : SE X W vs e fa) (hr : SK X W vs kws fs) : SK X W vs (⟨nm, e, kpos⟩ :: kws) (evCons fa fs) := by
  constructor; intro σ F H ρ Q E q pos pins s I
  refine (pk_cons (nm := nm) (kpos := kpos) (pe_w X e) (pk_w X kws)).run pos pins s σ H Q I ?_
  refine ha.goA (.refl E.sub) E q fun F1 H1 ρ1 v x s1 t1 E1 r1 n1 p1 => ?_
  refine hr σ F1 H1 ρ1 _ E1 ?_
  cases z : fs ρ1 with
  | bad => rw [z] at p1; exact p1
  | exc C fs' ρ' => rw [z] at p1; exact PA'.step (r := .exc C fs' ρ') (Q := Q) p1 s1
  | ok hs ρ2 =>
    rw [z, Rs.bind_ok] at p1
    intro F2 H2 ws t2 E2 r2 n2
    refine p1 F2 H2 (v :: ws) (s1.trans t2) E2 (.cons (r1.step t2) r2 (cons_dist r1 n2)) fun w h m => ?_
    rw [List.zip_cons_cons] at m
    rcases List.mem_cons.mp m with m | m
    · cases m; exact n1
    · exact (n2 w h m).step s1
theorem SK.go {σ : L2.St} {F0 H0 F H : Hp} {P0 : Addr → Prop} {ρ : Env} {k : List Hnd → Env → Rs Hnd} {Q : VK} {Q2 : List V → Hp → Prop} (h : SK X W vs kws fs) (s0 : Step F0 H0 P0 F H (Fp vs σ ρ)) (E : ER X.K vs σ F H ρ) (p : PH X.K vs σ W F0 H0 P0 Q ((fs ρ).bind k))
    (hk : ∀ F1 H1 ρ1 ws hs, Step F0 H0 P0 F1 H1 (Fp vs σ ρ1) → ER X.K vs σ F1 H1 ρ1 → HRs X.K vs σ F1 H1 ρ1 ws hs → HNs H (Fp vs σ ρ) ws hs → PH X.K vs σ W F0 H0 P0 Q (k hs ρ1) → Q2 ws H1) : wK X kws σ H Q2 := by
  refine h σ F H ρ Q2 E ?_
  cases z : fs ρ with
  | bad => rw [z] at p; exact p
  | exc C fs ρ' => rw [z] at p; exact fun F' H' cls d st er x => p F' H' cls d (s0.trans st) er x
  | ok hd ρ1 =>
    rw [z] at p
    exact fun F1 H1 v st er hr hn => hk F1 H1 ρ1 v hd (s0.trans st) er hr hn p
def flip {α : Type} (rev : Bool) (l : List α) : List α := if rev = true then l.reverse else l
def excKS (C : String) (fns : List String) (rev : Bool) (fs : Env → Rs (List Hnd)) (ρ : Env) : Rs Hnd := (fs ρ).bind fun hs ρ1 => (frzs hs ρ1).bind fun ds ρ2 => if ds.length = fns.length then .ok (.val (fz (.exc C (fns.zip (flip rev ds)).reverse))) ρ2 else .bad
/-- .. bound by keywords, in the parameters' order or the other way round -/
structure ExMkK (X : Cx) (C : String) (fs : List String) (rev : Bool) : Prop where
  at_ : ∃ fI k fd ps, ExK X.K (He.ga X.K (Str.ofString C)) fI ∧ FnG X.prog X.w X.K X.mg X.base (CX X.prog X.w) k fI fd ps (spI X.K (fs.map Str.ofString)) ∧ RoomG (k + 1) X.A ∧
    (∀ (s : Shared) (a : Value) (us : List Value), X.K.In s.heap → us.length = fs.length → BindsTo s fd ⟨[a], (flip rev (fs.map Str.ofString)).zip us⟩ (ps.zip (a :: flip rev us)))
  no : ∀ f ∈ fs, PySem.W.findIn X.K (.ref (He.ga X.K (Str.ofString C))) (Str.ofString f) = some none
theorem Reps.flip {K : PySem.W.Frag} {F : Hp} {ws : List V} {ds : List D} (rev : Bool) (h : Reps K F ws ds) : Reps K F (MP.flip rev ws) (MP.flip rev ds) := by
  unfold MP.flip
  split
  · exact h.reverse
  · exact h
theorem se_excK {rev : Bool} (tk : Takes X W) (M : ExMkK X C fns rev) (hg : Gl X x) (hm : X.mg x = some (.ref (He.ga X.K (Str.ofString C)))) (ha : SK X W vs kws fs) (hall : (backToKw pos (keywordEach kws X.env)).all (·.1.isSome) = true := by rfl) (hks : (backToKw pos (keywordEach kws X.env)).filterMap (·.1) = flip rev (fns.map Str.ofString) := by rfl)
    (hdb : (x == ("__debug__" : Str)) = false := by decide) (hpl : ((backTo pos (starEach [] X.env)).any (·.1) || (backToKw pos (keywordEach kws X.env)).any (·.1.isNone)) = false := by rfl) :
    SE X W vs (.Call (.Name x p) [] kws pos) (excKS C fns rev fs) := by
  obtain ⟨fI, k, fd, ps, T, F1, hr, hb⟩ := M.at_
  constructor; intro σ F0 H0 ρ0 Q E q pins s I
  refine wpAny_Call_Name_kw (ld_glob I hg hm ?_ hdb)
  refine PySem.W.callWith_KW0 (h₀ := X.base) I.ok.mod.kin T.oex.kC hall (thn ((ha.go (.refl E.sub) E q (Q2 := fun ws H1 => ws.length = fns.length ∧ ∀ a, H1 a = none → spI X.K (fns.map Str.ofString) (.ref a :: flip rev ws) (upd H1 a (exo a (He.ga X.K (Str.ofString C)) none)) (fun v H2 => v = .non ∧ Q (.ref a) H2) (fun c d H' => W c d σ H'))
    fun F1 H1 ρ1 ws hs s1 E1 r1 n1 p1 => ?_) pos pins s I) fun us s1 ⟨vs1, H1, I1, r, hl, q1⟩ => ⟨I1.kIn, ?_⟩) hpl
  · refine frzs_go s1 E1 r1 n1 p1 fun F2 ρ2 ds s2 E2 rs p2 => ?_
    split at p2
    · rename_i hl
      exact ⟨rs.length.trans hl, fun a ha => spI_of T.oex M.no E2.sub (rs.flip rev) (by unfold flip; split <;> simp [hl]) ha (RP.of_ph E2 (p2.step s2))⟩
    · exact p2.elim
  · have hlu : us.length = fns.length := r.length.symm.trans hl
    rw [hks]
    have rf : Vals (flip rev vs1) (flip rev us) := by
      unfold flip
      split
      · exact r.reverse
      · exact r
    exact run_exw (us := []) (args := flip rev us) tk T F1 hr (fun s a K => hb s a us K hlu) I1 rf (Nat.zero_le _) q1
/-! ### attributes -/
/-- an attribute of an instance, a constant of its class, an attribute of an exception -/
def attrD (Cs : List String) (Ks : List (String × D)) (Es : List String) (f : String) : D → Option T
  | .ins C fs => match fs.lookup f with
    | some d => if C ∈ Cs then some (fz d) else none
    | none => (Ks.lookup C).map fz
  | .exc C fs => if C ∈ Es then (fs.lookup f).map fz else none
  | _ => none
structure XflF (K : PySem.W.Frag) (C f : String) : Prop where
  cls : XfC K (He.ga K (Str.ofString C))
  no : PySem.W.findIn K (.ref (He.ga K (Str.ofString C))) (Str.ofString f) = some none
theorem se_attr {o : Expr} {fo : Env → Rs Hnd} {Cs : List String} {Ks : List (String × D)} {Es : List String} {f : String} (hC : ∀ C ∈ Cs, FldF X.K C f) (hK : ∀ C d, Ks.lookup C = some d → ConF X.K C f d) (hE : ∀ C ∈ Es, XflF X.K C f) (ho : SE X W vs o fo) (hb : attributeBase o (Str.ofString f) X.env (eval o X.env) = eval o X.env := by rfl) :
    SE X W vs (.Attribute o (Str.ofString f) pos) (fun ρ => (fo ρ).bind fun x ρ1 => op1 (attrD Cs Ks Es f) x ρ1) := by
  constructor; intro σ F H ρ Q E q pins s I
  refine attr_of hb (thn ((ho.go (.refl E.sub) E q (Q2 := fun v H1 => ∃ F1 t res, Sub F1 H1 ∧ TRel X.K F1 H1 v t ∧ attrD Cs Ks Es f t.d = some res ∧ RP X.K F1 H1 Q res) fun F1 H1 ρ1 v x s1 _ E1 r n p1 => ?_) pins s I) fun u s1 ⟨v, H1, I1, rv, F1, t, res, hs, tr, e, q1⟩ => ?_)
  · unfold op1 at p1
    split at p1
    · rename_i t e1
      obtain ⟨res, e3, q⟩ := ph_valR s1 E1 p1
      exact ⟨F1, t, res, E1.sub, r.look E1 e1, e3, q⟩
    · exact p1.elim
  · unfold attrD at e
    split at e
    · rename_i C fds ed
      obtain ⟨a, dx, fvs, rfl, ea, rf⟩ := tr.insD hs ed
      obtain rfl : u = Value.ref a := rv
      split at e
      · rename_i d el
        split at e
        · rename_i hm
          cases e
          obtain ⟨w, h1, h2⟩ := repFs_some rf el
          exact getattr_ok I1 ea (hC C hm).cls (hC C hm).no h1 fun u' s2 I2 ru => ⟨w, H1, I2, ru, RP.imm hs h2 q1⟩
        · cases e
      · rename_i el
        obtain ⟨d, e4, rfl⟩ := Option.map_eq_some_iff.mp e
        obtain ⟨cl, w, u0, h1, h2⟩ := hK C d e4
        exact getcon_ok I1 ea cl h1 (repFs_none rf el) fun s2 I2 => ⟨w, H1, I2, h1.rel, RP.imm hs (h2 F1) q1⟩
    · rename_i C fds ed
      split at e
      · rename_i hm
        obtain ⟨d, el, rfl⟩ := Option.map_eq_some_iff.mp e
        have rep : Rep X.K F1 v (.exc C fds) := by
          obtain ⟨o, d'⟩ := t
          cases (show d' = .exc C fds from ed)
          cases tr with
          | fz h => exact h
          | ow _ h => cases h
        cases rep with
        | exc0 h => cases el
        | @exc a dd _ fvs _ h h' rf =>
          obtain rfl : u = Value.ref a := rv
          obtain ⟨w, h1, h2⟩ := repFs_some rf el
          obtain ⟨mA, hns, hr⟩ := xdAt_ns hs I1 h'
          obtain ⟨od, ho', hl⟩ := lookIn_ns hns
          obtain ⟨u', hu, ru⟩ := RelO.some_of (v := w) (o := mA (Str.ofString f)) (by rw [← h1]; exact hr (Str.ofString f))
          obtain ⟨ox, od2, J, hod⟩ := exAt_inst (K := X.K) hs I1 h fun dx q => by cases q; exact ⟨od, ho'⟩
          obtain ⟨o2, e2, e3⟩ := hod dd rfl
          rw [ho'] at e3
          cases e3
          subst e2
          have T := hE C hm
          exact HandSPX.exc_get I1.kIn J T.cls.ga T.cls.gg T.cls.exC (PySem.W.findObj_own T.cls.hdC T.no rfl (by rw [hl, hu])) (handed_of ru) ⟨w, H1, I1.tok _, ru, RP.imm hs h2 q1⟩
      · cases e
    · cases e
end
end MP
end

section
set_option maxHeartbeats 4000000
/-! repr. -/
namespace PySem
open Sem (wp)
mutual
/-- what stands at a value, a dict never sys.modules -/
inductive Sw (h : Heap) : Value → PyData → Prop
  | none : Sw h .none .none
  | bool (b) : Sw h (.bool b) (.bool b)
  | int (i t) : Sw h (.int i t) (.int i)
  | str (x t) : Sw h (.str x t) (.str x)
  | list {a o vs n xs} : h.get? a = some o → o.cls = .type "list" → o.data = .seq vs n → SwAll h vs.toList xs → Sw h (.ref a) (.list xs)
  | tuple {a o vs n xs} : h.get? a = some o → o.cls = .type "tuple" → o.data = .seq vs n → SwAll h vs.toList xs → Sw h (.ref a) (.tuple xs)
  | dict {a o es n kvs} : h.get? a = some o → o.cls = .type "dict" → o.data = .dict es n → (a == sysModules) = false → SwAll h (es.toList.map (·.key)) (kvs.map (·.1)) → SwAll h (es.toList.map (·.val)) (kvs.map (·.2)) → Sw h (.ref a) (.dict kvs)
inductive SwAll (h : Heap) : List Value → List PyData → Prop
  | nil : SwAll h [] []
  | cons {v vs d ds} : Sw h v d → SwAll h vs ds → SwAll h (v :: vs) (d :: ds)
end
mutual
theorem Sw.reads {h : Heap} : ∀ {v : Value} {d : PyData}, Sw h v d → ∃ as, Reads h v d as
  | _, _, .none => ⟨_, .none⟩
  | _, _, .bool b => ⟨_, .bool b⟩
  | _, _, .int i t => ⟨_, .int i t⟩
  | _, _, .str x t => ⟨_, .str x t⟩
  | _, _, .list h1 h2 h3 h4 => let ⟨as, r⟩ := SwAll.reads h4; ⟨_, .list h1 h2 h3 r⟩
  | _, _, .tuple h1 h2 h3 h4 => let ⟨as, r⟩ := SwAll.reads h4; ⟨_, .tuple h1 h2 h3 r⟩
  | _, _, .dict h1 h2 h3 _ h4 h5 => let ⟨as, r⟩ := SwAll.reads h4; let ⟨bs, q⟩ := SwAll.reads h5; ⟨_, .dict h1 h2 h3 r q⟩
theorem SwAll.reads {h : Heap} : ∀ {vs : List Value} {ds : List PyData}, SwAll h vs ds → ∃ as, ReadsAll h vs ds as
  | _, _, .nil => ⟨_, .nil⟩
  | _, _, .cons h1 h2 => let ⟨as, r⟩ := Sw.reads h1; let ⟨bs, q⟩ := SwAll.reads h2; ⟨_, .cons r q⟩
end
section
variable {prog : Program} {w : World} {h₀ : Heap}
mutual
theorem ReprK.of_sw : ∀ {v : Value} {d : PyData}, Sw h₀ v d → d.showable = true → d.shown.length ≤ sizeLine → ∃ bs, ReadAtMost h₀ d.depth bs ∧ ReprK prog w bs h₀ d.depth v d.shown
  | _, _, .none, _, _ => ⟨[], (fun _ h => nomatch h), by simp only [PyData.shown]; exact .of_is ReprIs.none _ _ _⟩
  | _, _, .bool b, _, _ => ⟨[], (fun _ h => nomatch h), by simp only [PyData.shown]; exact .of_is (ReprIs.bool b) _ _ _⟩
  | _, _, .int i t, hs, _ => ⟨[], (fun _ h => nomatch h), by simp only [PyData.shown]; exact .of_is (ReprIs.int t (by simpa [PyData.showable] using hs)) _ _ _⟩
  | _, _, .str x t, _, hz => ⟨[], (fun _ h => nomatch h), by simp only [PyData.shown]; exact .of_is (ReprIs.str x t (by simpa only [PyData.shown] using hz)) _ _ _⟩
  | _, _, .list (a := a) (vs := vs) (xs := xs) h1 h2 h3 h4, hs, hz => by
    have hz' : (listText (PyData.shownAll xs)).length ≤ sizeLine := by simpa only [PyData.shown] using hz
    obtain ⟨bs, hb, hk⟩ := ReprAllK.of_swAll h4 (by simpa [PyData.showable] using hs) (fun t ht => Nat.le_trans (listText_mem_le ht) hz')
    obtain ⟨as, r⟩ := Sw.reads (.list h1 h2 h3 h4 : Sw h₀ (.ref a) (.list xs))
    have hna : a ∉ bs := not_mem_of_deeper r (by simp only [PyData.depth]; omega) hb
    refine ⟨a :: bs, ReadAtMost.cons r (by simp only [PyData.depth]; omega) hb, ?_⟩
    simp only [PyData.depth, PyData.shown]
    obtain ⟨l⟩ := vs
    cases l with
    | nil =>
      have h4' : SwAll h₀ [] xs := h4
      cases h4'
      simp only [PyData.shownAll, listText_nil]
      exact ReprK.listEmpty h1 h2 h3
    | cons x l => exact ReprK.list h1 h2 h3 hna (by simpa using hk.length_eq) (fun i y e => hk.item i y (by simpa using e))
  | _, _, .tuple (a := a) (xs := xs) h1 h2 h3 h4, hs, hz => by
    have hz' : (tupleText (PyData.shownAll xs)).length ≤ sizeLine := by simpa only [PyData.shown] using hz
    obtain ⟨bs, hb, hk⟩ := ReprAllK.of_swAll h4 (by simpa [PyData.showable] using hs) (fun t ht => Nat.le_trans (tupleText_mem_le ht) hz')
    obtain ⟨as, r⟩ := Sw.reads (.tuple h1 h2 h3 h4 : Sw h₀ (.ref a) (.tuple xs))
    have hna : a ∉ bs := not_mem_of_deeper r (by simp only [PyData.depth]; omega) hb
    refine ⟨a :: bs, ReadAtMost.cons r (by simp only [PyData.depth]; omega) hb, ?_⟩
    simp only [PyData.depth, PyData.shown]
    exact ReprK.tuple h1 h2 h3 hna hk
  | _, _, .dict (a := a) (es := es) (kvs := kvs) h1 h2 h3 hsys h4 h5, hs, hz => by
    have hz' : (dictText (PyData.shownKv kvs)).length ≤ sizeLine := by simpa only [PyData.shown] using hz
    obtain ⟨hs1, hs2⟩ := PyData.showableKv_split kvs (by simpa [PyData.showable] using hs)
    obtain ⟨b1, hb1, k1⟩ := ReprAllK.of_swAll h4 hs1 (fun t ht => let ⟨p, hp, hl⟩ := PyData.shownKv_key_le kvs t ht; Nat.le_trans hl (Nat.le_trans (dictText_mem_le hp) hz'))
    obtain ⟨b2, hb2, k2⟩ := ReprAllK.of_swAll h5 hs2 (fun t ht => let ⟨p, hp, hl⟩ := PyData.shownKv_val_le kvs t ht; Nat.le_trans hl (Nat.le_trans (dictText_mem_le hp) hz'))
    obtain ⟨as, r⟩ := Sw.reads (.dict h1 h2 h3 hsys h4 h5 : Sw h₀ (.ref a) (.dict kvs))
    have hb : ReadAtMost h₀ (PyData.depthKv kvs) (b1 ++ b2) := (hb1.mono (PyData.depthAll_keys_le kvs)).append (hb2.mono (PyData.depthAll_vals_le kvs))
    have hna : a ∉ b1 ++ b2 := not_mem_of_deeper r (by simp only [PyData.depth]; omega) hb
    refine ⟨a :: (b1 ++ b2), ReadAtMost.cons r (by simp only [PyData.depth]; omega) hb, ?_⟩
    simp only [PyData.depth, PyData.shown, PyData.shownKv_eq]
    exact ReprK.dict h1 h2 h3 hsys hna (ReprEntriesK.of_two es.toList _ _
      (k1.more_le (fun b hb => List.mem_append_left _ hb) (PyData.depthAll_keys_le kvs)) (k2.more_le (fun b hb => List.mem_append_right _ hb) (PyData.depthAll_vals_le kvs)))
theorem ReprAllK.of_swAll : ∀ {vs : List Value} {ds : List PyData}, SwAll h₀ vs ds → PyData.showableAll ds = true → (∀ t ∈ PyData.shownAll ds, t.length ≤ sizeLine) →
    ∃ bs, ReadAtMost h₀ (PyData.depthAll ds) bs ∧ ReprAllK prog w bs h₀ (PyData.depthAll ds) vs (PyData.shownAll ds)
  | _, _, .nil, _, _ => ⟨[], (fun _ h => nomatch h), by simp only [PyData.shownAll]; exact .nil⟩
  | _, _, .cons (d := d) (ds := ds) r rs, hs, hz => by
    have hs' : d.showable = true ∧ PyData.showableAll ds = true := by simpa [PyData.showableAll] using hs
    obtain ⟨b1, hb1, k1⟩ := ReprK.of_sw r hs'.1 (hz _ (by simp only [PyData.shownAll]; exact List.mem_cons_self ..))
    obtain ⟨b2, hb2, k2⟩ := ReprAllK.of_swAll rs hs'.2 (fun t ht => hz t (by simp only [PyData.shownAll]; exact List.mem_cons_of_mem _ ht))
    refine ⟨b1 ++ b2, ?_, ?_⟩
    · intro b hm
      simp only [PyData.depthAll]
      rcases List.mem_append.mp hm with hm | hm
      · obtain ⟨d', as', r', hd'⟩ := hb1 b hm
        exact ⟨d', as', r', Nat.le_trans hd' (Nat.le_max_left _ _)⟩
      · obtain ⟨d', as', r', hd'⟩ := hb2 b hm
        exact ⟨d', as', r', Nat.le_trans hd' (Nat.le_max_right _ _)⟩
    · simp only [PyData.depthAll, PyData.shownAll]
      exact .cons ((k1.more fun b hb => List.mem_append_left _ hb).level_le (Nat.le_max_left _ _)) (k2.more_le (fun b hb => List.mem_append_right _ hb) (Nat.le_max_right _ _))
end
/-- repr(a list, a tuple, a dict) -/
theorem repr_of_sw {a : Addr} {d : PyData} {A : Around} {E : Value → Shared → Prop} {s : Shared} {Q : Value → Shared → Prop} (r : Sw h₀ (.ref a) d) (hs : d.showable = true) (hsz : d.shown.length ≤ sizeLine) (hg : A.guards = some []) (hu : A.units + (d.depth + 1) < cLine) (hk0 : ∀ b o, h₀.get? b = some o → s.heap.get? b = some o)
    (hQ : ∀ h' u tk, (∀ b o, s.heap.get? b = some o → h'.get? b = some o) → Q (.str d.shown u) { s with heap := h', toks := tk }) : wpAny (model prog w) A (call (.builtin "repr") [.ref a]) Q E s := by
  have hg1 : A.in1.guards = some [] := hg
  cases r with
  | list h1 h2 h3 h4 =>
    rename_i o vs n xs
    have hz' : (listText (PyData.shownAll xs)).length ≤ sizeLine := by simpa only [PyData.shown] using hsz
    obtain ⟨bs, hb, hk⟩ := ReprAllK.of_swAll (prog := prog) (w := w) h4 (by simpa [PyData.showable] using hs) (fun t ht => Nat.le_trans (listText_mem_le ht) hz')
    obtain ⟨as, r⟩ := Sw.reads (.list h1 h2 h3 h4 : Sw h₀ (.ref a) (.list xs))
    have hna : a ∉ bs := not_mem_of_deeper r (by simp only [PyData.depth]; omega) hb
    simp only [PyData.depth] at hu
    simp only [PyData.shown] at hQ
    have hu1 : A.in1.units + (PyData.depthAll xs + 1) < cLine := by show A.units + 1 + _ < _; omega
    refine call_repr_slot (idr := "list.__repr__") (by omega) ⟨o, hk0 _ _ h1, h2⟩ F.slot_list_repr.toG ?_
    obtain ⟨l⟩ := vs
    cases l with
    | nil =>
      have h4' : SwAll h₀ [] xs := h4
      cases h4'
      simp only [PyData.shownAll, listText_nil] at hQ
      exact call_list_repr_empty ⟨o, hk0 _ _ h1, h2⟩ (hk0 _ _ h1) h3 ⟨_, _, rfl, hQ s.heap _ _ fun _ _ e => e⟩
    | cons x l =>
      exact call_list_reprK h1 h2 h3 hna (by simpa using hk.length_eq) (fun i y e => hk.item i y (by simpa using e)) hg1 (fun b _ => Clear.nil b) hu1 hk0 (fun h' u tk hk => ⟨_, _, rfl, hQ h' u tk hk⟩) hz'
  | tuple h1 h2 h3 h4 =>
    rename_i o vs n xs
    have hz' : (tupleText (PyData.shownAll xs)).length ≤ sizeLine := by simpa only [PyData.shown] using hsz
    obtain ⟨bs, hb, hk⟩ := ReprAllK.of_swAll (prog := prog) (w := w) h4 (by simpa [PyData.showable] using hs) (fun t ht => Nat.le_trans (tupleText_mem_le ht) hz')
    obtain ⟨as, r⟩ := Sw.reads (.tuple h1 h2 h3 h4 : Sw h₀ (.ref a) (.tuple xs))
    have hna : a ∉ bs := not_mem_of_deeper r (by simp only [PyData.depth]; omega) hb
    simp only [PyData.depth] at hu
    simp only [PyData.shown] at hQ
    have hu1 : A.in1.units + (PyData.depthAll xs + 1) < cLine := by show A.units + 1 + _ < _; omega
    refine call_repr_slot (idr := "tuple.__repr__") (by omega) ⟨o, hk0 _ _ h1, h2⟩ F.slot_tuple_repr ?_
    exact call_tuple_reprK h1 h2 h3 hna hk hg1 (fun b _ => Clear.nil b) hu1 hk0 (fun h' u tk hk => ⟨_, _, rfl, hQ h' u tk hk⟩) hz'
  | dict h1 h2 h3 hsys h4 h5 =>
    rename_i o es n kvs
    have hz' : (dictText (PyData.shownKv kvs)).length ≤ sizeLine := by simpa only [PyData.shown] using hsz
    obtain ⟨hs1, hs2⟩ := PyData.showableKv_split kvs (by simpa [PyData.showable] using hs)
    obtain ⟨b1, hb1, k1⟩ := ReprAllK.of_swAll (prog := prog) (w := w) h4 hs1 (fun t ht => let ⟨p, hp, hl⟩ := PyData.shownKv_key_le kvs t ht; Nat.le_trans hl (Nat.le_trans (dictText_mem_le hp) hz'))
    obtain ⟨b2, hb2, k2⟩ := ReprAllK.of_swAll (prog := prog) (w := w) h5 hs2 (fun t ht => let ⟨p, hp, hl⟩ := PyData.shownKv_val_le kvs t ht; Nat.le_trans hl (Nat.le_trans (dictText_mem_le hp) hz'))
    obtain ⟨as, r⟩ := Sw.reads (.dict h1 h2 h3 hsys h4 h5 : Sw h₀ (.ref a) (.dict kvs))
    have hb : ReadAtMost h₀ (PyData.depthKv kvs) (b1 ++ b2) := (hb1.mono (PyData.depthAll_keys_le kvs)).append (hb2.mono (PyData.depthAll_vals_le kvs))
    have hna : a ∉ b1 ++ b2 := not_mem_of_deeper r (by simp only [PyData.depth]; omega) hb
    simp only [PyData.depth] at hu
    simp only [PyData.shown, PyData.shownKv_eq] at hQ
    have hu1 : A.in1.units + (PyData.depthKv kvs + 1) < cLine := by show A.units + 1 + _ < _; omega
    refine call_repr_slot (idr := "dict.__repr__") (by omega) ⟨o, hk0 _ _ h1, h2⟩ F.slot_dict_repr ?_
    exact call_dict_reprK h1 h2 h3 hsys hna (ReprEntriesK.of_two es.toList _ _
      (k1.more_le (fun b hb => List.mem_append_left _ hb) (PyData.depthAll_keys_le kvs)) (k2.more_le (fun b hb => List.mem_append_right _ hb) (PyData.depthAll_vals_le kvs))) hg1 (fun b _ => Clear.nil b) hu1 hk0 (fun h' u tk hk => ⟨_, _, rfl, hQ h' u tk hk⟩) (by rw [← PyData.shownKv_eq]; exact hz')
end
end PySem
namespace MP
open PySem PySem.Spec PyProof.Rows L2
mutual
def D.pyR : D → Option PyData
  | .non => some .none
  | .bl b => some (.bool b)
  | .int i => some (.int i)
  | .str x => some (.str x)
  | .tup xs => (D.pyRL xs).map .tuple
  | .lst xs => (D.pyRL xs).map .list
  | .dct kvs => (D.pyRK kvs).map .dict
  | .ty _ => none
  | .ins _ _ => none
  | .obj _ => none
  | .scr _ => none
  | .exc _ _ => none
termination_by structural d => d
def D.pyRL : List D → Option (List PyData)
  | [] => some []
  | d :: r => match D.pyR d with
    | some p => (D.pyRL r).map (p :: ·)
    | none => none
termination_by structural d => d
def D.pyRK : List (D × D) → Option (List (PyData × PyData))
  | [] => some []
  | p :: r => match D.pyRP p with
    | some q => (D.pyRK r).map (q :: ·)
    | none => none
termination_by structural d => d
def D.pyRP : D × D → Option (PyData × PyData)
  | (k, v) => match D.pyR k, D.pyR v with
    | some a, some b => some (a, b)
    | _, _ => none
termination_by structural d => d
end
theorem pyR_kD (k : Key) : D.pyR (kD k) = some (match k with | .inl i => .int i | .inr x => .str x) := by
  cases k <;> simp [kD, D.pyR]
section
variable {X : Cx} {F H : Hp} {σ : L2.St} {pins : List (Addr × Obj)} {s : Shared}
theorem sw_pairs {P : Program} {w : World} : ∀ {es : List DictEntry} {kvs : List (Key × Value)}, Pairs (mixKind P w) es kvs → SwAll s.heap (es.map (·.key)) (kvs.map fun kv => match kv.1 with | .inl i => PyData.int i | .inr x => PyData.str x)
  | _, _, .nil => .nil
  | _, _, .cons (kv := kv) h1 h2 h3 => by
    refine .cons ?_ (sw_pairs h3)
    obtain ⟨k, v⟩ := kv
    rcases keyIs_shape (show keyIs k _ = true from h1) with ⟨i, t, e1, e2⟩ | ⟨x, t, e1, e2⟩
    · dsimp only at e1 ⊢
      rw [e1, e2]; exact .int i t
    · dsimp only at e1 ⊢
      rw [e1, e2]; exact .str x t
theorem pairs_vals {P : Program} {w : World} : ∀ {es : List DictEntry} {kvs : List (Key × Value)}, Pairs (mixKind P w) es kvs → es.map (·.val) = kvs.map (·.2)
  | _, _, .nil => rfl
  | _, _, .cons h1 h2 h3 => by rw [List.map_cons, List.map_cons, h2, pairs_vals h3]
mutual
theorem Rep.sw (hs : Sub F H) (I : Inv X pins σ H s) : ∀ {v : V} {d : D} {u : Value} {p : PyData}, Rep X.K F v d → RelV v u → d.pyR = some p → Sw s.heap u p
  | _, _, _, _, .non, r, e => by simp [D.pyR] at e; subst e; obtain rfl := r; exact .none
  | _, _, _, _, .bl b, r, e => by simp [D.pyR] at e; subst e; obtain rfl := r; exact .bool b
  | _, _, _, _, .int i, r, e => by simp [D.pyR] at e; subst e; obtain ⟨t, rfl⟩ := r; exact .int i t
  | _, _, _, _, .str x, r, e => by simp [D.pyR] at e; subst e; obtain ⟨t, rfl⟩ := r; exact .str x t
  | _, _, _, _, .ty n, r, e => by simp [D.pyR] at e
  | _, _, _, _, .tup (a := a) h rs, r, e => by
    simp [D.pyR] at e
    obtain ⟨ps, e1, rfl⟩ := e
    obtain rfl := r
    obtain ⟨its, rv, ⟨o, h3, h4, n, h5⟩, hz⟩ := I.tuple (SqT.sub h hs)
    exact .tuple h3 h4 h5 (Reps.sw hs I rs rv e1)
  | _, _, _, _, .lst (a := a) h rs, r, e => by
    simp [D.pyR] at e
    obtain ⟨ps, e1, rfl⟩ := e
    obtain rfl := r
    obtain ⟨hz, its, n, rv, h3⟩ := (show ObjOk X.prog X.w H s.heap a (.lst _) from I.hok a _ (hs _ _ h))
    exact .list h3 rfl rfl (Reps.sw hs I rs rv e1)
  | _, _, _, _, .scr _, r, e => by simp [D.pyR] at e
  | _, _, _, _, .dK (a := a) (kvs := kvs) (ds := ds) h rs, r, e => by
    simp [D.pyR] at e
    obtain ⟨ps, e1, rfl⟩ := e
    obtain rfl := r
    obtain ⟨hz, hsys, ws, kv, o, es, ep, h1, h2, h3, h4, h5, h6⟩ := dk_rd I.hok (Rd.sub h hs)
    obtain ⟨q1, q2⟩ := RepKs.sw hs I rs kv e1
    refine .dict h1 h2.1 h3 hsys ?_ ?_
    · rw [q1]; exact sw_pairs h5
    · rw [pairs_vals h5]; exact q2
  | _, _, _, _, .ins _ _, r, e => by simp [D.pyR] at e
  | _, _, _, _, .obj _, r, e => by simp [D.pyR] at e
  | _, _, _, _, .exc0 _, r, e => by simp [D.pyR] at e
  | _, _, _, _, .exc _ _ _, r, e => by simp [D.pyR] at e
theorem Reps.sw (hs : Sub F H) (I : Inv X pins σ H s) : ∀ {vs : List V} {ds : List D} {us : List Value} {ps : List PyData}, Reps X.K F vs ds → Vals vs us → D.pyRL ds = some ps → SwAll s.heap us ps
  | _, _, _, _, .nil, r, e => by simp [D.pyRL] at e; subst e; cases r; exact .nil
  | _, _, _, _, .cons (d := d) h rs, r, e => by
    cases z : D.pyR d with
    | none => simp [D.pyRL, z] at e
    | some p =>
      simp [D.pyRL, z] at e
      obtain ⟨ps, e1, rfl⟩ := e
      cases r with
      | cons r rr => exact .cons (Rep.sw hs I h r z) (Reps.sw hs I rs rr e1)
theorem RepKs.sw (hs : Sub F H) (I : Inv X pins σ H s) : ∀ {kvs : List (Key × V)} {ds : List (D × D)} {ws : List (Key × Value)} {ps : List (PyData × PyData)}, RepKs X.K F kvs ds → KV kvs ws → D.pyRK ds = some ps →
    ps.map (·.1) = ws.map (fun kv => match kv.1 with | .inl i => PyData.int i | .inr x => PyData.str x) ∧ SwAll s.heap (ws.map (·.2)) (ps.map (·.2))
  | _, _, _, _, .nil, r, e => by simp [D.pyRK] at e; subst e; cases r; exact ⟨rfl, .nil⟩
  | _, _, _, _, .cons (k := k) (d := d) h rs, r, e => by
    cases z : D.pyR d with
    | none => simp [D.pyRK, D.pyRP, pyR_kD, z] at e
    | some p =>
      simp [D.pyRK, D.pyRP, pyR_kD, z] at e
      obtain ⟨ps, e1, rfl⟩ := e
      cases r with
      | cons r rr =>
        obtain ⟨r1, r2⟩ := r
        obtain ⟨q1, q2⟩ := RepKs.sw hs I rs rr e1
        refine ⟨?_, .cons (Rep.sw hs I h r2 z) q2⟩
        rw [List.map_cons, List.map_cons, q1, ← r1]
end
end
def reprD : List D → Option T
  | [d] => d.pyR.bind fun p => if p.showable = true ∧ p.shown.length ≤ sizeLine ∧ p.depth ≤ 60 then some (fz (.str p.shown)) else none
  | _ => none
/-- a value that is shared from here on, for those who only read -/
theorem TRel.asRep {K : PySem.W.Frag} {F H : Hp} {v : V} {t : T} (hs : Sub F H) (h : TRel K F H v t) : ∃ F', Sub F' H ∧ Rep K F' v t.d := by
  cases h with
  | fz h => exact ⟨F, hs, h⟩
  | ow hF h =>
    obtain ⟨o, e⟩ := h.ex
    refine ⟨_, fun b u q => ?_, h.freeze hF e⟩
    rename_i a d
    by_cases z : b = a
    · subst z; rw [upd_same] at q; cases q; exact e
    · rw [upd_ne z] at q; exact hs b u q
theorem call_reprB {X : Cx} (hg : X.A.guards = some []) (hu : X.A.units + 64 < cLine) : CallR X (.builtin "repr") (rBn X.K reprD) := by
  intro pins s σ H xs us Q I r h
  obtain ⟨F, ts, res, hs, hr, e, q⟩ := h
  unfold reprD at e
  split at e
  · rename_i d em
    obtain ⟨v, t, rfl, ht, ed⟩ := hr.one em
    obtain ⟨p, ep, e⟩ := Option.bind_eq_some_iff.mp e
    split at e
    · rename_i hp
      cases e
      obtain ⟨u, rfl, ru⟩ := vals1 r
      obtain ⟨F', hs', rp⟩ := ht.asRep hs
      have sw := Rep.sw hs' I rp ru (by rw [ed]; exact ep)
      have fin : Q (.str p.shown) H := RP.imm hs (.str _) q
      cases sw with
      | none => exact P.repr_of_none ⟨.str _, H, I.tok _, ⟨s.toks, by simp only [PyData.shown]⟩, fin⟩
      | bool b => exact P.repr_of_bool ⟨.str _, H, I.tok _, ⟨s.toks, by simp only [PyData.shown]⟩, fin⟩
      | int i t => exact P.repr_of_int (by simpa [PyData.showable] using hp.1) ⟨.str _, H, I.tok _, ⟨s.toks, by simp only [PyData.shown]⟩, fin⟩
      | str x t => exact P.repr_of_str ⟨.str _, H, I.tok _, ⟨s.toks, by simp only [PyData.shown]⟩, fin⟩ (by simpa only [PyData.shown] using hp.2.1)
      | list h1 h2 h3 h4 => exact repr_of_sw (.list h1 h2 h3 h4) hp.1 hp.2.1 hg (by omega) (fun _ _ e => e) fun h' u tk hk => ⟨.str _, H, I.kept (t' := tk) hk, ⟨_, rfl⟩, fin⟩
      | tuple h1 h2 h3 h4 => exact repr_of_sw (.tuple h1 h2 h3 h4) hp.1 hp.2.1 hg (by omega) (fun _ _ e => e) fun h' u tk hk => ⟨.str _, H, I.kept (t' := tk) hk, ⟨_, rfl⟩, fin⟩
      | dict h1 h2 h3 h4 h5 h6 => exact repr_of_sw (.dict h1 h2 h3 h4 h5 h6) hp.1 hp.2.1 hg (by omega) (fun _ _ e => e) fun h' u tk hk => ⟨.str _, H, I.kept (t' := tk) hk, ⟨_, rfl⟩, fin⟩
    · cases e
  · cases e
end MP
end

section
set_option maxHeartbeats 4000000
/-! Dict displays; text with parts. -/
namespace MP
open PySem PySem.Spec PyProof.Rows L2
def flatP : List (V × V) → List V
  | [] => []
  | (x, y) :: r => x :: y :: flatP r
structure SD (X : Cx) (W : WX) (vs : List V) (trs : List (TE × TE)) (f : Env → Rs (List Hnd)) : Prop where
  run : ∀ (σ : L2.St) (F H : Hp) (ρ : Env) (Q : List (V × V) → Hp → Prop), ER X.K vs σ F H ρ → PA' X.K vs σ W F H (Fp vs σ ρ) (fun ws H' => ∀ ps, flatP ps = ws → Q ps H') (f ρ) → tPairs trs σ H Q
instance {X : Cx} {W : WX} {vs : List V} {trs : List (TE × TE)} {f : Env → Rs (List Hnd)} : CoeFun (SD X W vs trs f) (fun _ => ∀ (σ : L2.St) (F H : Hp) (ρ : Env) (Q : List (V × V) → Hp → Prop), ER X.K vs σ F H ρ → PA' X.K vs σ W F H (Fp vs σ ρ) (fun ws H' => ∀ ps, flatP ps = ws → Q ps H') (f ρ) → tPairs trs σ H Q) := ⟨SD.run⟩
/-- the pairs' keys and values, in turn -/
def pairUp : List D → Option (List (D × D))
  | [] => some []
  | k :: v :: r => if k.key.isSome = true then (pairUp r).map ((k, v) :: ·) else none
  | _ => none
def dispS (f : Env → Rs (List Hnd)) (ρ : Env) : Rs Hnd := (f ρ).bind fun hs ρ1 => (frzs hs ρ1).bind fun ds ρ2 => match pairUp ds with
  | some kds => if kds.length ≤ 15 then .ok (.val (ow (.dct (kds.foldl (fun acc kv => dput acc kv.1 kv.2) [])))) ρ2 else .bad
  | none => .bad
section
variable {K : PySem.W.Frag} {F : Hp}
theorem pairUp_rep : ∀ {ps : List (V × V)} {ds : List D} {kds : List (D × D)}, Reps K F (flatP ps) ds → pairUp ds = some kds → ∃ kvs : List (Key × V), ps = kvs.map (fun kv => (kV kv.1, kv.2)) ∧ RepKs K F kvs kds
  | [], _, _, r, e => by cases r; cases e; exact ⟨[], rfl, .nil⟩
  | (x, y) :: ps, _, kds, r, e => by
    cases r with
    | cons r1 r => cases r with
      | cons r2 r =>
        rename_i k v ds
        replace e : (if k.key.isSome = true then (pairUp ds).map ((k, v) :: ·) else none) = some kds := e
        split at e
        · rename_i hk
          obtain ⟨key, ek⟩ := Option.isSome_iff_exists.mp hk
          obtain ⟨kds', e1, rfl⟩ := Option.map_eq_some_iff.mp e
          obtain ⟨kvs, rfl, rk⟩ := pairUp_rep r e1
          have := key_iff.mp ek
          subst this
          exact ⟨(key, y) :: kvs, by rw [r1.key key_kD]; rfl, .cons r2 rk⟩
        · cases e
theorem merge_rep : ∀ {kvs : List (Key × V)} {kds : List (D × D)} {acc : List (Key × V)} {accD : List (D × D)}, RepKs K F kvs kds → RepKs K F acc accD → RepKs K F (mergeK acc kvs) (kds.foldl (fun acc kv => dput acc kv.1 kv.2) accD)
  | [], _, _, _, .nil, h => h
  | (k, v) :: kvs, _ :: kds, acc, accD, .cons r rr, h => merge_rep (kvs := kvs) (kds := kds) rr (h.put r)
end
section
variable {X : Cx} {W : WX} {vs : List V} {k v : Expr} {ks : List (Option Expr)} {es : List Expr} {trs : List (TE × TE)} {fk fv : Env → Rs Hnd} {f : Env → Rs (List Hnd)} {pos : Pos}
theorem sd_nil : SD X W vs [] (fun ρ => .ok [] ρ) := ⟨fun σ F H ρ Q E p => p F H [] (.refl E.sub) E .nil (fun w h m => by simp at m) [] rfl⟩
theorem sd_cons (hk : SE X W vs k fk) (hv : SE X W vs v fv) (hr : SD X W vs trs f) : SD X W vs ((wE X k, wE X v) :: trs) (evCons fk (evCons fv f)) := by
  constructor; intro σ F H ρ Q E p
  refine hk.goA (.refl E.sub) E p fun F1 H1 ρ1 x hx s1 t1 E1 r1 n1 p1 => ?_
  have p1' : PA' X.K vs σ W F H (Fp vs σ ρ) (fun ws H' => ∀ ps, flatP ps = ws → Q ps H') ((fv ρ1).bind fun y ρ2 => ((f ρ2).bind fun hs ρ3 => .ok (y :: hs) ρ3).bind fun hs ρ2 => .ok (hx :: hs) ρ2) := by
    unfold evCons at p1
    cases z : fv ρ1 with
    | bad => rw [z] at p1; exact p1
    | exc C fs ρ' => rw [z] at p1; exact p1
    | ok y ρ2 => rw [z] at p1; exact p1
  refine hv.goA s1 E1 p1' fun F2 H2 ρ2 y hy s2 t2 E2 r2 n2 p2 => ?_
  refine hr σ F2 H2 ρ2 _ E2 ?_
  cases z : f ρ2 with
  | bad => rw [z] at p2; exact p2
  | exc C fs' ρ' => rw [z] at p2; exact PA'.step (r := .exc C fs' ρ') (Q := fun ws H' => ∀ ps, flatP ps = ws → Q ps H') p2 s2
  | ok hs ρ3 =>
    rw [z] at p2
    intro F3 H3 ws t3 E3 r3 n3 ps eps
    have r2' : HRs X.K vs σ F3 H3 ρ3 (y :: ws) (hy :: hs) := .cons (r2.step t3) r3 (cons_dist r2 n3)
    have n2' : HNs H1 (Fp vs σ ρ1) (y :: ws) (hy :: hs) := hns_cons n2 fun w h m => (n3 w h m).step t2
    refine p2 F3 H3 (x :: y :: ws) (s2.trans t3) E3 (.cons (r1.step (t2.trans t3)) r2' (cons_dist r1 n2')) (hns_cons n1 fun w h m => ((n2' w h m).step s1)) ((x, y) :: ps) (by rw [← eps]; rfl)
theorem se_dict0 : SE X W vs (.Dict [] [] pos) (fun ρ => .ok (.val (ow (.dct []))) ρ) := by
  constructor; intro σ F H ρ Q E p
  exact pe_dnewK.w (RP.dctK E.sub (RP.of_ph E p))
theorem se_dict (h : PPs X pos ks es trs) (hd : SD X W vs trs f) (hall : ks.all (·.isSome) = true := by rfl) (hl : ks.length = es.length := by rfl) (h0 : ks ≠ [] := by exact fun z => by cases z) (h15 : ks.length ≤ 15 := by exact Nat.le_of_ble_eq_true rfl) : SE X W vs (.Dict ks es pos) (dispS f) := by
  constructor; intro σ F H ρ Q E q
  refine (pe_disp h hall hl h0 h15).w fun p hp => ?_
  have g1 : Grow F H F (upd H p (.dK [])) := .newO E.sub hp
  have E1 := g1.er E
  have nfp : ¬ Fp vs σ ρ p := fun z => by
    obtain ⟨⟨o, e⟩, _⟩ := E.fp z
    rw [e] at hp; cases hp
  have q1 := q
  have hF := E.sub.none hp
  refine hd σ F _ ρ _ E1 ?_
  unfold dispS at q1
  cases z : f ρ with
  | bad => rw [z] at q1; exact q1
  | exc C fs' ρ' => rw [z] at q1; exact fun F' H' cls d st er x => q1 F' H' cls d (g1.step.trans st) er x
  | ok hs ρ1 =>
    rw [z, Rs.bind_ok] at q1
    intro F1 H1 ws s1 E2 r1 n1 ps eps
    cases zf : frzs hs ρ1 with
    | bad => rw [zf] at q1; exact q1.elim
    | exc C fs' ρ' => exact (frzs_noexc zf).elim
    | ok ds ρ2 =>
      rw [zf, Rs.bind_ok] at q1
      obtain ⟨F2, s2, E3, rs, le⟩ := frzs_ok s1 E2 r1 n1 zf
      split at q1
      · rename_i kds ek
        split at q1
        · rename_i h15'
          subst eps
          obtain ⟨kvs, rfl, rk⟩ := pairUp_rep rs ek
          obtain ⟨t1, t2, t3⟩ := s2.temp upd_same hF nfp
          refine ⟨t1, kvs, rfl, by rw [repKs_length rk]; exact h15', ?_⟩
          have rm := merge_rep (acc := []) (accD := []) rk .nil
          have E4 : ER X.K vs σ F2 (upd H1 p (.dK (mergeK [] kvs))) ρ2 := E3.lift (fun b o e => by
              have z : b ≠ p := fun z => by subst z; rw [t2] at e; cases e
              rw [upd_ne z]; exact E3.sub b o e) (.refl _) fun b hb => by
              have z : b ≠ p := fun z => by subst z; exact t3 hb
              exact ⟨upd_ne z, (E3.fp hb).2⟩
          have s3 : Step F H (Fp vs σ ρ) F2 (upd H1 p (.dK (mergeK [] kvs))) (Fp vs σ ρ2) := (g1.step.trans s2).twr (.inr hp) t2
          exact q1 F2 _ (.ref p) s3 E4 (.val (.ow t2 (.dK upd_same rm)) fun _ a ea z => by cases ea; exact t3 z) fun _ a ea => by cases ea; exact .inr hp
        · exact q1.elim
      · exact q1.elim
end
end MP
end

section
set_option maxHeartbeats 4000000
/-! Defs by their facts; short names for what the generator writes. -/
namespace MP
open PySem PySem.Spec PyProof.Rows L2

theorem FunD.okG {P : Program} {w : World} {K : PySem.W.Frag} {mg : Str → Option Value} {base : Heap} {CX : CXT} {x qual : Str} {params : Arguments} {body : List Stmt} {scope : Scope} {dvs : List V} {kws : List (Str × V)} {f : Addr} {fd : FuncData} {N ps : List Str} {k : Nat} {sp : Sp} (F : FunD K x qual params body scope dvs kws f fd) (S : FnScope N ps scope) (len : ∀ vs H Q E, sp vs H Q E → vs.length = ps.length)
    (hbody : ∀ (cdv : Value) (A : Around) (outer : List PySem.Env) (s : Shared) (H : Hp) (vs : List V) (Q : VK) (E : XK), RoomG k (A.deeper (envOfC qual scope s.heap.objs.size f cdv)) → sp vs H Q E →
      wSs (cxOf CX P w K mg base N qual scope f cdv A outer s H E) body { nx := fun _ H' => Q .non H', rt := Q } (L2.start N vs) H) : FnG P w K mg base CX (k + 1) f fd ps sp := by
  obtain ⟨oc, od, dV, kV, doc, pm, an, cdv, ct, osl, rfl, lk, hcd, _, _⟩ := F.ex
  exact fn_ofG lk hcd S len fun A outer s H vs Q E hr hsp => hbody cdv A outer s H vs Q E hr hsp
/-- a def of the module, by its name -/
structure FunK (P : Program) (w : World) (K : PySem.W.Frag) (mg : Str → Option Value) (base : Heap) (k n : Nat) (x : Str) (fn : Fn) : Prop where
  at_ : ∃ f fd ps, mg x = some (.ref f) ∧ FnG P w K mg base (CX P w) k f fd ps (spF K n fn) ∧ Binds K fd ps [] ∧ PySem.W.keepIn K (.ref f) = true
  len : ∀ gs, fn gs ≠ .bad → gs.length = n
theorem runF_len {N n : Nat} {b : Env → Rs Fl} : ∀ gs, runF N n b gs ≠ .bad → gs.length = n := fun gs h => by
  unfold runF at h
  split at h
  · assumption
  · exact absurd rfl h
theorem spF_len {K : PySem.W.Frag} {n : Nat} {fn : Fn} {ps : List Str} (h : ps.length = n) : ∀ vs H Q E, spF K n fn vs H Q E → vs.length = ps.length := fun vs H Q E q => q.1.trans h.symm
/-- a def's body gives the def -/
theorem funK_of {P : Program} {w : World} {K : PySem.W.Frag} {mg : Str → Option Value} {base : Heap} {x qual : Str} {params : Arguments} {body : List Stmt} {scope : Scope} {f : Addr} {fd : FuncData} {N ps : List Str} {k n : Nat} {sem : Env → Rs Fl}
    (F : FunD K x qual params body scope [] [] f fd) (hm : mg x = some (.ref f)) (S : FnScope N ps scope) (hn : ps.length = n) (hN : n ≤ N.length)
    (hb : ∀ (kV doc pm : Value) (an : Option Addr) (cdv ct : Value) (us : List Value), us.length = ps.length → bindArgs (PySem.W.fnOf x qual params body scope .none kV doc pm an cdv ct) ⟨us, []⟩ = pure (ps.zip us))
    (h : ∀ (cdv : Value) (A : Around) (outer : List PySem.Env) (s : Shared) (H : Hp) (E : XK) (vs : List V), RoomG k (A.deeper (envOfC qual scope s.heap.objs.size f cdv)) →
      SSs (cxOf (CX P w) P w K mg base N qual scope f cdv A outer s H E) (fun c d _ H' => E c d H') vs body sem) : FunK P w K mg base (k + 1) n x (runF N.length n sem) :=
  ⟨⟨f, fd, ps, hm, FunD.okG F S (spF_len hn) fun cdv A outer s H vs Q E hr q => fn_body (X := cxOf (CX P w) P w K mg base N qual scope f cdv A outer s H E) hN q (h cdv A outer s H E vs hr), F.bindsN hb, F.kp⟩, runF_len⟩
section
variable {X : Cx} {W : WX} {vs : List V} {k j n : Nat} {fn : Fn} {x : Str} {p pos : Pos} {e : Expr} {es : List Expr} {fs : Env → Rs (List Hnd)}
theorem se_callF (F : FunK X.prog X.w X.K X.mg X.base j n x fn) (tk : Takes X W) (hr : RoomG k X.A) (hj : j ≤ k) (hg : Gl X x) (ha : SA X W vs (e :: es) fs)
    (hdb : (x == ("__debug__" : Str)) = false := by decide) (he : starEach (e :: es) X.env = (false, eval e X.env) :: starEach es X.env := by rfl) (hpl : (backTo pos (starEach es X.env)).any (·.1) = false := by rfl) :
    SE X W vs (.Call (.Name x p) (e :: es) [] pos) (callS fn fs) := by
  obtain ⟨f, fd, ps, hm, F1, hb, kp⟩ := F.at_
  exact se_call tk ⟨⟨fd, ps, F1.mono hj, hb⟩, kp, F.len⟩ hr hg hm ha hdb he hpl
theorem se_callF0 (F : FunK X.prog X.w X.K X.mg X.base j n x fn) (tk : Takes X W) (hr : RoomG k X.A) (hj : j ≤ k) (hg : Gl X x)
    (hdb : (x == ("__debug__" : Str)) = false := by decide) : SE X W vs (.Call (.Name x p) [] [] pos) (callD fn []) := by
  obtain ⟨f, fd, ps, hm, F1, hb, kp⟩ := F.at_
  exact se_call0 tk ⟨⟨fd, ps, F1.mono hj, hb⟩, kp, F.len⟩ hr hg hm hdb
theorem RoomG.u65 {A : Around} (h : RoomG k A) : A.units + 65 < cLine := by have := h.r.un; omega
theorem RoomG.u64 {A : Around} (h : RoomG k A) : A.units + 64 < cLine := by have := h.r.un; omega
theorem RoomG.u1 {A : Around} (h : RoomG k A) : A.units + 1 < cLine := by have := h.r.un; omega
theorem takesWF : Takes X WF := fun _ _ x => by
  obtain ⟨_, _, _, _, _, _, _, _, _, _, _, _, _, _, _, _, w⟩ := x
  exact w.elim
end
/-! ### short names -/
def cI (i : Int) (ρ : Env) : Rs Hnd := .ok (.val (fz (.int i))) ρ
def cS (x : Str) (ρ : Env) : Rs Hnd := .ok (.val (fz (.str x))) ρ
def cB (b : Bool) (ρ : Env) : Rs Hnd := .ok (.val (fz (.bl b))) ρ
def cN (ρ : Env) : Rs Hnd := .ok (.val (fz .non)) ρ
def cD (d : D) (ρ : Env) : Rs Hnd := .ok (.val (fz d)) ρ
def binS (op : Operator) (fa fb : Env → Rs Hnd) (ρ : Env) : Rs Hnd := (fa ρ).bind fun x ρ1 => (fb ρ1).bind fun y ρ2 => op2 (binD op) x y ρ2
def ixS (fa fb : Env → Rs Hnd) (ρ : Env) : Rs Hnd := (fa ρ).bind fun x ρ1 => (fb ρ1).bind fun y ρ2 => op2 ixD x y ρ2
def negS (fa : Env → Rs Hnd) (ρ : Env) : Rs Hnd := (fa ρ).bind fun x ρ1 => op1 negD x ρ1
def cmpS (op : CmpOp) (fa fb : Env → Rs Hnd) (ρ : Env) : Rs Bool := (fa ρ).bind fun x ρ1 => (fb ρ1).bind fun y ρ2 => cmp2 (cmpD op) x y ρ2
def cmpV (op : CmpOp) (fa fb : Env → Rs Hnd) (ρ : Env) : Rs Hnd := ofB (cmpS op fa fb ρ)
def chnV (op op' : CmpOp) (fa fb fc : Env → Rs Hnd) (ρ : Env) : Rs Hnd := ofB (chn op op' fa fb fc ρ)
def truS (fa : Env → Rs Hnd) (ρ : Env) : Rs Bool := (fa ρ).bind tru1
def tupS (fs : Env → Rs (List Hnd)) (ρ : Env) : Rs Hnd := (fs ρ).bind mkTup
def lstS (fs : Env → Rs (List Hnd)) (ρ : Env) : Rs Hnd := (fs ρ).bind mkLst
def nilA (ρ : Env) : Rs (List Hnd) := .ok [] ρ
def attrS (Cs : List String) (Ks : List (String × D)) (Es : List String) (f : String) (fo : Env → Rs Hnd) (ρ : Env) : Rs Hnd := (fo ρ).bind fun x ρ1 => op1 (attrD Cs Ks Es f) x ρ1
def retS (fa : Env → Rs Hnd) (ρ : Env) : Rs Fl := (fa ρ).bind fnRet
def retN (ρ : Env) : Rs Fl := .ok (.rt (fz .non)) ρ
def exprS (fa : Env → Rs Hnd) (ρ : Env) : Rs Fl := (fa ρ).bind fun _ ρ1 => .ok .nx ρ1
def ifS (t : Env → Rs Bool) (f g : Env → Rs Fl) (ρ : Env) : Rs Fl := (t ρ).bind fun b ρ1 => if b = true then f ρ1 else g ρ1
def nxS (ρ : Env) : Rs Fl := .ok .nx ρ
def bkS (ρ : Env) : Rs Fl := .ok .bk ρ
def ctS (ρ : Env) : Rs Fl := .ok .ct ρ
def badS (ρ : Env) : Rs Fl := .bad
def badE (ρ : Env) : Rs Hnd := .bad
section
variable {X : Cx} {W : WX} {vs : List V} {x : Str} {pos p2 : Pos} {a b c e o : Expr} {es : List Expr} {fs : Env → Rs (List Hnd)} {fa fb fc fo : Env → Rs Hnd} {ta : Env → Rs Bool} {st : Stmt} {sts p q : List Stmt} {ga gb : Env → Rs Fl}
theorem g_int {i : Int} {j : Nat} : SE X W vs (.Constant (.int i) j pos) (cI i) := se_int
theorem g_str {i : Str} {j : Nat} : SE X W vs (.Constant (.str i) j pos) (cS i) := se_str
theorem g_bl {i : Bool} {j : Nat} : SE X W vs (.Constant (.bool i) j pos) (cB i) := se_bl
theorem g_non {j : Nat} : SE X W vs (.Constant .none j pos) cN := se_non
theorem g_bin {op : Operator} (ha : SE X W vs a fa) (hb : SE X W vs b fb) : SE X W vs (.BinOp a op b pos) (binS op fa fb) := se_bin ha hb
theorem g_neg (ha : SE X W vs a fa) : SE X W vs (.UnaryOp .USub a pos) (negS fa) := se_neg ha
theorem g_ix (hu : X.A.units + 1 < cLine) (ha : SE X W vs a fa) (hb : SE X W vs b fb) (hs : PlainIx b := by intro _ _; rfl) : SE X W vs (.Subscript a b pos) (ixS fa fb) := se_ix hu ha hb hs
theorem g_cmpT {op : CmpOp} (hu : X.A.units + 65 < cLine) (ha : SE X W vs a fa) (hb : SE X W vs b fb) (hm : behindInMarks op b = false := by rfl) : ST X W vs (.Compare a [op] [b] pos) (cmpS op fa fb) := st_cmp hu hm ha hb
theorem g_cmp {op : CmpOp} (hu : X.A.units + 65 < cLine) (ha : SE X W vs a fa) (hb : SE X W vs b fb) (hm : behindInMarks op b = false := by rfl) : SE X W vs (.Compare a [op] [b] pos) (cmpV op fa fb) := se_cmp hu hm ha hb
theorem g_chain {op op' : CmpOp} (hu : X.A.units + 65 < cLine) (ha : SE X W vs a fa) (hb : SE X W vs b fb) (hc : SE X W vs c fc) (hm : lastMarks [op, op'] [b, c] = false := by rfl) : SE X W vs (.Compare a [op, op'] [b, c] pos) (chnV op op' fa fb fc) := se_chain hu hm ha hb hc
theorem g_chainT {op op' : CmpOp} (hu : X.A.units + 65 < cLine) (ha : SE X W vs a fa) (hb : SE X W vs b fb) (hc : SE X W vs c fc) (hm : lastMarks [op, op'] [b, c] = false := by rfl) : ST X W vs (.Compare a [op, op'] [b, c] pos) (chn op op' fa fb fc) := st_chain hu hm ha hb hc
theorem g_tru (ha : SE X W vs a fa) (he : ∀ whole, isTrue a X.env whole = (do let v ← whole; standAt a.pos; holding [v] (truthy v)) := by intro _; rfl) : ST X W vs a (truS fa) := st_truth ha he
theorem g_tup {x1} (h : SA X W vs es fs) : SE X W vs (.Tuple es x1 pos) (tupS fs) := se_tup h
theorem g_lst (h : SA X W vs es fs) : SE X W vs (.List es pos) (lstS fs) := se_lst h
theorem g_nil : SA X W vs [] nilA := sa_nil
theorem g_cons (ha : SE X W vs e fa) (hr : SA X W vs es fs) (hs : starEach (e :: es) X.env = (false, eval e X.env) :: starEach es X.env := by rfl) : SA X W vs (e :: es) (evCons fa fs) := sa_cons ha hr hs
theorem g_attr {Cs : List String} {Ks : List (String × D)} {Es : List String} {f : String} (hC : ∀ C ∈ Cs, FldF X.K C f) (hK : ∀ C d, Ks.lookup C = some d → ConF X.K C f d) (hE : ∀ C ∈ Es, XflF X.K C f) (ho : SE X W vs o fo) (hb : attributeBase o (Str.ofString f) X.env (eval o X.env) = eval o X.env := by rfl) :
    SE X W vs (.Attribute o (Str.ofString f) pos) (attrS Cs Ks Es f fo) := se_attr hC hK hE ho hb
theorem g_ret (h : SE X W vs e fa) : SS X W vs (.Return (some e) pos) (retS fa) := ss_ret h
theorem g_retN : SS X W vs (.Return none pos) retN := ss_retN
theorem g_expr (h : SE X W vs e fa) (hs : swapsWith e none pos.line X.env = pure false := by rfl) : SS X W vs (.Expr e pos) (exprS fa) := ss_expr h hs
theorem g_if (hc : ST X W vs c ta) (hp : SSs X W vs p ga) (hq : SSs X W vs q gb) : SS X W vs (.If c p q pos) (ifS ta ga gb) := ss_if hc hp hq
theorem g_pass : SS X W vs (.Pass pos) nxS := ss_pass
theorem g_break : SS X W vs (.Break pos) bkS := ss_break
theorem g_cont : SS X W vs (.Continue pos) ctS := ss_cont
theorem g_doc {x j pos'} : SS X W vs (.Expr (.Constant (.str x) j pos) pos') nxS := ss_doc
theorem g_end : SSs X W vs [] nxS := sss_nil
theorem g_bad : SS X W vs st badS := ⟨fun σ F H ρ D E p => p.elim⟩
theorem g_badE : SE X W vs e badE := ⟨fun σ F H ρ Q E p => p.elim⟩
theorem g_ty {n : String} (hg : Gl X x) (hm : X.mg x = none) (hv : bootBuiltins x = some (.type n)) (hn : x ≠ "__name__" := by decide) (hd : (x == ("__debug__" : Str)) = false := by decide) : SE X W vs (.Name x pos) (cD (.ty n)) := se_ty hg hm hv hn hd
theorem g_cls {g : String} (hg : Gl X (Str.ofString g)) (hm : X.mg (Str.ofString g) = some (.ref (He.ga X.K (Str.ofString g)))) (hd : ((Str.ofString g) == ("__debug__" : Str)) = false := by decide) : SE X W vs (.Name (Str.ofString g) pos) (cD (.obj g)) := se_cls hg hm hd
theorem g_glob {d : D} (hg : Gl X x) (h : ∃ v u, X.mg x = some u ∧ RelV v u ∧ ∀ F, Rep X.K F v d) (hd : (x == ("__debug__" : Str)) = false := by decide) : SE X W vs (.Name x pos) (cD d) := se_glob hg h hd
end
end MP
end

section
set_option maxHeartbeats 4000000
/-! Exception classes: what is to be looked up, what their __init__ does, those without one. -/
namespace MP
open PySem PySem.Spec PyProof.Rows L2
/-! ### lookups -/
def oexB (K : PySem.W.Frag) (C : Addr) : Bool := (match K.lookup C with
  | some ⟨.type "type", _, .cls cd, sl⟩ => (match cd.mro, sl.toList with
    | .ref C' :: bm, [_, _, _, _, some (.builtin n), _] => C' == C && n == "ValueError.__new__" && cd.hasDict && !cd.hasDel && PySem.HandSPX.refsVE bm
    | _, _ => false)
  | _ => false) && (decide (PySem.W.findIn K (.ref C) "__setattr__" = some (some (.builtin "object.__setattr__"))) && (decide (PySem.W.subIn K (.ref C) (.type "BaseException") = some true) && (decide (PySem.W.typeIn K (.ref C) = some (.type "type")) && PySem.W.keepIn K (.ref C))))
theorem band {a b : Bool} (h : (a && b) = true) : a = true ∧ b = true := Bool.and_eq_true_iff.mp h
theorem oexB_ok {K : PySem.W.Frag} {C : Addr} (h : oexB K C = true) : OexC K C := by
  unfold oexB at h
  obtain ⟨h1, h⟩ := band h
  obtain ⟨h2, h⟩ := band h
  obtain ⟨h3, h⟩ := band h
  obtain ⟨h4, h5⟩ := band h
  refine ⟨?_, of_decide_eq_true h2, of_decide_eq_true h3, of_decide_eq_true h4, h5⟩
  split at h1
  · rename_i dd cd sl ho
    split at h1
    · rename_i C' bm k0 k1 k2 k3 n k5 hm hs
      simp only [Bool.and_eq_true, beq_iff_eq, Bool.not_eq_true'] at h1
      obtain ⟨⟨⟨⟨e1, e2⟩, e3⟩, e4⟩, e5⟩ := h1
      obtain ⟨nm, bs, mro, ns, q, hdct, sn, sub, ab, col, hd⟩ := cd
      simp only at hm e3 e4
      subst e1 e2 hm e3 e4
      refine ⟨nm, q, ns, bs, bm, sn, sub, ab, col, dd, k0, k1, k2, k3, k5, ?_, e5⟩
      rw [ho]
      congr 1
      obtain ⟨sl⟩ := sl
      simp only at hs
      subst hs
      rfl
    · cases h1
  · cases h1
def excCB (K : PySem.W.Frag) (D : Addr) : Bool := xfB K D && (decide (PySem.W.findIn K (.ref D) "__class__" = some (some (.builtin "object.__class__"))) && (decide (PySem.W.specialIn K (.builtin "object.__class__") "__get__" = some (some (.builtin "getset_descriptor.__get__"))) && (decide (PySem.W.takesIn K (.builtin "object.__class__") = some true) && decide (PySem.W.mroIn K D (.type "object") = some true))))
theorem excCB_ok {K : PySem.W.Frag} {D : Addr} (h : excCB K D = true) : ExcC K D ∧ XfC K D := by
  obtain ⟨h1, h⟩ := band h
  obtain ⟨h2, h⟩ := band h
  obtain ⟨h3, h⟩ := band h
  obtain ⟨h4, h5⟩ := band h
  have x := xfB_ok h1
  exact ⟨⟨x.ga, x.gg, x.exC, x.hdC, of_decide_eq_true h2, of_decide_eq_true h3, of_decide_eq_true h4, of_decide_eq_true h5⟩, x⟩
/-- no attribute of that name in the class -/
def noB (K : PySem.W.Frag) (C : Addr) (f : Str) : Bool := decide (PySem.W.findIn K (.ref C) f = some none)
theorem noB_ok {K : PySem.W.Frag} {C : Addr} {f : Str} (h : noB K C f = true) : PySem.W.findIn K (.ref C) f = some none := of_decide_eq_true h
def initB (K : PySem.W.Frag) (C : Addr) : Bool := oexB K C && (decide (PySem.W.findIn K (.ref C) "__init__" = some (some (.ref (He.ma K C "__init__")))) && decide (PySem.W.typeIn K (.ref (He.ma K C "__init__")) = some (.type "function")))
theorem initB_ok {K : PySem.W.Frag} {C : Addr} (h : initB K C = true) : ExK K C (He.ma K C "__init__") := by
  obtain ⟨h1, h⟩ := band h
  obtain ⟨h2, h3⟩ := band h
  exact ⟨oexB_ok h1, of_decide_eq_true h2, of_decide_eq_true h3⟩
/-! ### the __init__ of one attribute, of two -/
theorem zip1 {f : Str} {w : V} : ([f].zip [w]).reverse = [(f, w)] := rfl
theorem fnG_init1 {P : Program} {w : World} {K : PySem.W.Frag} {mg : Str → Option Value} {base : Heap} {x qual f1 s1 : Str} {params : Arguments} {body : List Stmt} {scope : Scope} {f : Addr} {fd : FuncData} {k : Nat}
    (F : FunD K x qual params body scope [] [] f fd) (S : FnScope [s1, f1] [s1, f1] scope) {p1 p2 p3 p4 : Pos} (hbd : body = [.Assign [.Attribute (.Name s1 p1) f1 p2] (.Name f1 p3) p4])
    (h1 : Vis scope s1) (h2 : Vis scope f1) (hd1 : (s1 == ("__debug__" : Str)) = false ∧ (s1 == ("__classdict__" : Str)) = false) (hd2 : (f1 == ("__debug__" : Str)) = false ∧ (f1 == ("__classdict__" : Str)) = false) : FnG P w K mg base (CX P w) (k + 1) f fd [s1, f1] (spI K [f1]) := by
  subst hbd
  refine FunD.okG F S (fun vs H Q E h => ?_) fun cdv A outer s H vs Q E hr h => ?_
  · obtain ⟨a, C, ws, rfl, hl, _⟩ := h
    simp [hl]
  · obtain ⟨a, C, ws, rfl, hl, T, hno, ha, q⟩ := h
    match ws, hl with
    | [y], _ =>
      have v0 : PE (cxOf (CX P w) P w K mg base [s1, f1] qual scope f cdv A outer s H E) (.Name s1 p1) (tVar 0) := pe_var (i := 0) rfl h1 hd1.1 hd1.2
      have v1 : PE (cxOf (CX P w) P w K mg base [s1, f1] qual scope f cdv A outer s H E) (.Name f1 p3) (tVar 1) := pe_var (i := 1) rfl h2 hd2.1 hd2.2
      refine (pss_one (ps_ost v0 v1)).w ⟨y, rfl, .ref a, rfl, a, C, rfl, T, hno f1 (by simp), .inl ⟨ha, fun dx hdx hne => ?_⟩⟩
      exact q _ dx upd_same (by rw [upd_ne hne, upd_same]; rfl) hne hdx fun b hb hb2 => by rw [upd_ne hb, upd_ne hb2]
theorem fnG_init2 {P : Program} {w : World} {K : PySem.W.Frag} {mg : Str → Option Value} {base : Heap} {x qual f1 f2 s1 : Str} {params : Arguments} {body : List Stmt} {scope : Scope} {f : Addr} {fd : FuncData} {k : Nat}
    (F : FunD K x qual params body scope [] [] f fd) (S : FnScope [s1, f1, f2] [s1, f1, f2] scope) {p1 p2 p3 p4 p5 p6 p7 p8 : Pos} (hbd : body = [.Assign [.Attribute (.Name s1 p1) f1 p2] (.Name f1 p3) p4, .Assign [.Attribute (.Name s1 p5) f2 p6] (.Name f2 p7) p8])
    (h1 : Vis scope s1) (h2 : Vis scope f1) (h3 : Vis scope f2) (hd1 : (s1 == ("__debug__" : Str)) = false ∧ (s1 == ("__classdict__" : Str)) = false) (hd2 : (f1 == ("__debug__" : Str)) = false ∧ (f1 == ("__classdict__" : Str)) = false) (hd3 : (f2 == ("__debug__" : Str)) = false ∧ (f2 == ("__classdict__" : Str)) = false) : FnG P w K mg base (CX P w) (k + 1) f fd [s1, f1, f2] (spI K [f1, f2]) := by
  subst hbd
  refine FunD.okG F S (fun vs H Q E h => ?_) fun cdv A outer s H vs Q E hr h => ?_
  · obtain ⟨a, C, ws, rfl, hl, _⟩ := h
    simp [hl]
  · obtain ⟨a, C, ws, rfl, hl, T, hno, ha, q⟩ := h
    match ws, hl with
    | [y, z], _ =>
      have v0 : ∀ p, PE (cxOf (CX P w) P w K mg base [s1, f1, f2] qual scope f cdv A outer s H E) (.Name s1 p) (tVar 0) := fun p => pe_var (i := 0) rfl h1 hd1.1 hd1.2
      have v1 : PE (cxOf (CX P w) P w K mg base [s1, f1, f2] qual scope f cdv A outer s H E) (.Name f1 p3) (tVar 1) := pe_var (i := 1) rfl h2 hd2.1 hd2.2
      have v2 : PE (cxOf (CX P w) P w K mg base [s1, f1, f2] qual scope f cdv A outer s H E) (.Name f2 p7) (tVar 2) := pe_var (i := 2) rfl h3 hd3.1 hd3.2
      refine (pss_cons (ps_ost (v0 p1) v1) (pss_one (ps_ost (v0 p5) v2))).w ?_
      refine ⟨y, rfl, .ref a, rfl, a, C, rfl, T, hno f1 (by simp), .inl ⟨ha, fun dx hdx hne => ?_⟩⟩
      refine ⟨z, rfl, .ref a, rfl, a, C, rfl, T, hno f2 (by simp), .inr ⟨dx, _, upd_same, by rw [upd_ne hne, upd_same], by simp, ?_⟩⟩
      exact q _ dx (by rw [upd_ne (Ne.symm hne), upd_same]) (by rw [upd_same]; rfl) hne hdx fun b hb hb2 => by rw [upd_ne hb2, upd_ne hb, upd_ne hb2]
/-! ### without an __init__ -/
def excNS (C : String) (fs : Env → Rs (List Hnd)) (ρ : Env) : Rs Hnd := (fs ρ).bind fun hs ρ1 => if hs.length ≤ 1000 then .ok (.val (fz (.exc C []))) ρ1 else .bad
section
variable {X : Cx} {W : WX} {vs : List V} {x : Str} {p pos : Pos} {e : Expr} {es : List Expr} {fs : Env → Rs (List Hnd)} {C : String}
theorem excN_end {σ : L2.St} {F0 H0 F H : Hp} {P0 : Addr → Prop} {ρ : Env} {Q : VK} {a : Addr} (s0 : Step F0 H0 P0 F H (Fp vs σ ρ)) (E : ER X.K vs σ F H ρ) (p : PH X.K vs σ W F0 H0 P0 Q (.ok (.val (fz (.exc C []))) ρ)) (ha : H a = none) : Q (.ref a) (upd H a (ExO (.ref (He.ga X.K (Str.ofString C))) a)) := by
  have q := RP.of_ph E (p.step s0)
  refine q _ _ _ (.newF E.sub ha) (.fz (.exc0 ⟨_, upd_same, fun h z => ?_⟩)) fun z => by cases z
  obtain ⟨oe, ws, h1, h2, h3, _⟩ := z
  exact ⟨oe, ws, h1, h2, h3⟩
theorem we_exN {σ : L2.St} {H : Hp} {Q : VK} {pins : List (Addr × Obj)} {s : Shared} {us : List Value} (q : PySem.W.excIn X.K (He.ga X.K (Str.ofString C)) He.veBase "ValueError.__new__" = true) (I : Inv X pins σ H s) (hl : us.length ≤ 1000) (h : ∀ a, H a = none → Q (.ref a) (upd H a (ExO (.ref (He.ga X.K (Str.ofString C))) a))) :
    wpAny (model X.prog X.w) X.A (call (.ref (He.ga X.K (Str.ofString C))) us) (EP X pins σ Q) X.xe s := by
  obtain ⟨bm, N, nm, qn, bs, hdct, sn, sub, ab, col, dd, k0, k1, k2, k3, k5, mN, hC, hN, hni, T⟩ := exc_obj I.kIn q
  refine wpAny_call_exc_subT F.excBase_ValueError T hC hN hni (fun h' a hm => ?_) (by rw [sizeLine_eq]; omega)
  have hn : H a = none := I.hok.gone hm.new
  obtain ⟨t, ht, _, _⟩ := hm.there
  exact ⟨.ref a, upd H a (ExO (.ref (He.ga X.K (Str.ofString C))) a), I.laidN hm.keeps hm.new hn (exO_ok ht ⟨rfl, rfl⟩ rfl rfl rfl (show 4 < 6 by decide)), rfl, h a hn⟩
theorem se_exN (q : PySem.W.excIn X.K (He.ga X.K (Str.ofString C)) He.veBase "ValueError.__new__" = true) (kC : PySem.W.keepIn X.K (.ref (He.ga X.K (Str.ofString C))) = true) (hg : Gl X x) (hm : X.mg x = some (.ref (He.ga X.K (Str.ofString C)))) (ha : SA X W vs (e :: es) fs)
    (hdb : (x == ("__debug__" : Str)) = false := by decide) (he : starEach (e :: es) X.env = (false, eval e X.env) :: starEach es X.env := by rfl) (hpl : (backTo pos (starEach es X.env)).any (·.1) = false := by rfl) :
    SE X W vs (.Call (.Name x p) (e :: es) [] pos) (excNS C fs) := by
  constructor; intro σ F0 H0 ρ0 Q E p0 pins s I
  refine wpAny_Call_Name_kw (ld_glob I hg hm ?_ hdb)
  refine PySem.W.callWith_K (h₀ := X.base) I.ok.mod.kin kC (thn ((ha.go (.refl E.sub) E p0 (Q2 := fun ws H1 => ws.length ≤ 1000 ∧ ∀ a, H1 a = none → Q (.ref a) (upd H1 a (ExO (.ref (He.ga X.K (Str.ofString C))) a))) fun F1 H1 ρ1 ws hs s1 t1 E1 r1 n1 p1 => ?_) pos pins s I) fun us s1 ⟨vs1, H1, I1, r, hl, q1⟩ => ⟨I1.kIn, ?_⟩) he hpl
  · split at p1
    · rename_i hl
      exact ⟨by rw [r1.length]; exact hl, fun a ha => excN_end s1 E1 p1 ha⟩
    · exact p1.elim
  · exact we_exN q I1 (by show ([] ++ us).length ≤ 1000; rw [List.nil_append, ← Paired.length r]; exact hl) q1
theorem se_exN0 (q : PySem.W.excIn X.K (He.ga X.K (Str.ofString C)) He.veBase "ValueError.__new__" = true) (kC : PySem.W.keepIn X.K (.ref (He.ga X.K (Str.ofString C))) = true) (hg : Gl X x) (hm : X.mg x = some (.ref (He.ga X.K (Str.ofString C))))
    (hdb : (x == ("__debug__" : Str)) = false := by decide) : SE X W vs (.Call (.Name x p) [] [] pos) (excNS C nilA) := by
  constructor; intro σ F0 H0 ρ0 Q E p0 pins s I
  refine wpAny_Call_Name_kw (ld_glob I hg hm ?_ hdb)
  have p1 : PH X.K vs σ W F0 H0 (Fp vs σ ρ0) Q (.ok (.val (fz (.exc C []))) ρ0) := by
    unfold excNS nilA at p0
    rw [Rs.bind_ok, if_pos (by simp)] at p0
    exact p0
  exact PySem.W.callWith_K0 I.kIn kC (we_exN (us := []) q I (by simp) fun a ha => excN_end (.refl E.sub) E p1 ha)
end
end MP
end

section
set_option maxHeartbeats 4000000
/-! Facts by lookups: isinstance's table, attributes, constants of classes. -/
namespace MP
open PySem PySem.Spec PyProof.Rows L2
def tabOf (ks cs : List Kd) (tb : Kd → Kd → Bool) (k c : Kd) : Option Bool := if k ∈ ks ∧ c ∈ cs then some (tb k c) else none
def clsB (K : PySem.W.Frag) (C : Addr) : Bool := PySem.W.plainGet K C Str.empty && (PySem.W.hasDictIn K C && (PySem.W.plainOver K C && decide (PySem.W.findIn K (.ref C) "__setattr__" = some (some (.builtin "object.__setattr__")))))
theorem clsB_ok {K : PySem.W.Frag} {C : Addr} (h : clsB K C = true) : Cls K C := by
  obtain ⟨h1, h⟩ := band h
  obtain ⟨h2, h⟩ := band h
  obtain ⟨h3, h4⟩ := band h
  exact ⟨h1, h2, h3, of_decide_eq_true h4⟩
def insCB (K : PySem.W.Frag) (C : Addr) : Bool := clsB K C && (decide (PySem.W.findIn K (.ref C) "__class__" = some (some (.builtin "object.__class__"))) && (decide (PySem.W.specialIn K (.builtin "object.__class__") "__get__" = some (some (.builtin "getset_descriptor.__get__"))) && (decide (PySem.W.takesIn K (.builtin "object.__class__") = some true) && (decide (PySem.W.mroIn K C (.type "object") = some true) && decide (PySem.W.kitOne K (.ref C) (.ref C) = some true)))))
theorem insCB_ok {K : PySem.W.Frag} {C : Addr} (h : insCB K C = true) : C8.InsC K C := by
  obtain ⟨h1, h⟩ := band h
  obtain ⟨h2, h⟩ := band h
  obtain ⟨h3, h⟩ := band h
  obtain ⟨h4, h⟩ := band h
  obtain ⟨h5, h6⟩ := band h
  exact ⟨clsB_ok h1, of_decide_eq_true h2, of_decide_eq_true h3, of_decide_eq_true h4, of_decide_eq_true h5, of_decide_eq_true h6⟩
def kdB (K : PySem.W.Frag) : Kd → Bool
  | .b _ => true
  | .c C => insCB K (He.ga K (Str.ofString C))
  | .x C => excCB K (He.ga K (Str.ofString C))
def isiB (K : PySem.W.Frag) (ks cs : List Kd) (tb : Kd → Kd → Bool) : Bool := ks.all fun k => kdB K k && cs.all fun c => decide (PySem.W.kitOne K (kdV K k) (kdV K c) = some (tb k c))
theorem isiB_ok {K : PySem.W.Frag} {ks cs : List Kd} {tb : Kd → Kd → Bool} (h : isiB K ks cs tb = true) : IsiT K (tabOf ks cs tb) := by
  have key : ∀ {k c : Kd} {b : Bool}, tabOf ks cs tb k c = some b → kdB K k = true ∧ PySem.W.kitOne K (kdV K k) (kdV K c) = some b := fun {k c b} e => by
    unfold tabOf at e
    split at e
    · rename_i hm
      cases e
      obtain ⟨h1, h2⟩ := band (List.all_eq_true.mp h k hm.1)
      exact ⟨h1, of_decide_eq_true (List.all_eq_true.mp h2 c hm.2)⟩
    · cases e
  exact ⟨fun k c b e => (key e).2, fun C c b e => insCB_ok (key e).1, fun C c b e => (excCB_ok (key e).1).1⟩
def fldB (K : PySem.W.Frag) (Cs : List String) (f : String) : Bool := Cs.all fun C => clsB K (He.ga K (Str.ofString C)) && noB K (He.ga K (Str.ofString C)) (Str.ofString f)
theorem fldB_ok {K : PySem.W.Frag} {Cs : List String} {f : String} (h : fldB K Cs f = true) : ∀ C ∈ Cs, FldF K C f := fun C hC => by
  obtain ⟨h1, h2⟩ := band (List.all_eq_true.mp h C hC)
  exact ⟨clsB_ok h1, noB_ok h2⟩
def xflB (K : PySem.W.Frag) (Cs : List String) (f : String) : Bool := Cs.all fun C => xfB K (He.ga K (Str.ofString C)) && noB K (He.ga K (Str.ofString C)) (Str.ofString f)
theorem xflB_ok {K : PySem.W.Frag} {Cs : List String} {f : String} (h : xflB K Cs f = true) : ∀ C ∈ Cs, XflF K C f := fun C hC => by
  obtain ⟨h1, h2⟩ := band (List.all_eq_true.mp h C hC)
  exact ⟨xfB_ok h1, noB_ok h2⟩
/-- an exception class of the module with its own __init__: attributes fs -/
def xmkB (K : PySem.W.Frag) (C : String) (fs : List String) : Bool := initB K (He.ga K (Str.ofString C)) && fs.all fun f => noB K (He.ga K (Str.ofString C)) (Str.ofString f)
theorem xmkB_ok {K : PySem.W.Frag} {C : String} {fs : List String} (h : xmkB K C fs = true) : ExK K (He.ga K (Str.ofString C)) (He.ma K (He.ga K (Str.ofString C)) "__init__") ∧ ∀ f ∈ fs, PySem.W.findIn K (.ref (He.ga K (Str.ofString C))) (Str.ofString f) = some none := by
  obtain ⟨h1, h2⟩ := band h
  exact ⟨initB_ok h1, fun f hf => noB_ok (List.all_eq_true.mp h2 f hf)⟩
/-- .. without one -/
def xnB (K : PySem.W.Frag) (C : String) : Bool := PySem.W.excIn K (He.ga K (Str.ofString C)) He.veBase "ValueError.__new__" && PySem.W.keepIn K (.ref (He.ga K (Str.ofString C)))
end MP
end

section
set_option maxHeartbeats 0
namespace Gk08
open PySem PySem.Spec PyProof.Rows L2 MP
def top (i : Nat) : Stmt := PySem.Challenge.pw_manypads_k08_errors_of_all_classes.main.body.getD i (.Pass ⟨0, 0, 0, 0⟩)
abbrev st__law_first_rows : Stmt := top 30
abbrev st__law_last_rows : Stmt := top 31
abbrev st__law_marks : Stmt := top 33
abbrev st__law_named_right : Stmt := top 32
abbrev st__law_pen : Stmt := top 26
abbrev st__law_draw : Stmt := top 27
abbrev st__law_pick : Stmt := top 28
abbrev st__law_value : Stmt := top 29
abbrev st_law : Stmt := top 34
abbrev st_BadName : Stmt := inClass (top 2) 0
abbrev st_BadTimes : Stmt := inClass (top 3) 0
abbrev st_BadParts : Stmt := inClass (top 4) 0
abbrev st_NoPath : Stmt := inClass (top 5) 0
abbrev st_NoName : Stmt := inClass (top 6) 0
abbrev st_Taken : Stmt := inClass (top 7) 0
abbrev st_Ring : Stmt := inClass (top 8) 0
abbrev st_InUse : Stmt := inClass (top 9) 0
abbrev st_Unresolved : Stmt := inClass (top 10) 0
abbrev st_NoMachine : Stmt := inClass (top 11) 0
abbrev st_BadValue : Stmt := inClass (top 12) 0
abbrev st_TooLarge : Stmt := inClass (top 13) 0
abbrev st_NoScale : Stmt := inClass (top 14) 0
abbrev st_BadBound : Stmt := inClass (top 15) 0
abbrev st_NoTerm : Stmt := inClass (top 16) 0
abbrev st_NoClaim : Stmt := inClass (top 17) 0
abbrev st_NotRecord : Stmt := inClass (top 18) 0
abbrev st_Endless : Stmt := inClass (top 20) 0
abbrev st_NoOffer : Stmt := inClass (top 21) 0
abbrev st_NoOrder : Stmt := inClass (top 22) 0
abbrev st_BadText : Stmt := inClass (top 23) 0
theorem n_at : (("at" : Str) == ("__debug__" : Str)) = false ∧ (("at" : Str) == ("__classdict__" : Str)) = false := by decide +kernel
theorem n_cell : (("cell" : Str) == ("__debug__" : Str)) = false ∧ (("cell" : Str) == ("__classdict__" : Str)) = false := by decide +kernel
theorem n_digit : (("digit" : Str) == ("__debug__" : Str)) = false ∧ (("digit" : Str) == ("__classdict__" : Str)) = false := by decide +kernel
theorem n_due : (("due" : Str) == ("__debug__" : Str)) = false ∧ (("due" : Str) == ("__classdict__" : Str)) = false := by decide +kernel
theorem n_error : (("error" : Str) == ("__debug__" : Str)) = false ∧ (("error" : Str) == ("__classdict__" : Str)) = false := by decide +kernel
theorem n_found : (("found" : Str) == ("__debug__" : Str)) = false ∧ (("found" : Str) == ("__classdict__" : Str)) = false := by decide +kernel
theorem n_great : (("great" : Str) == ("__debug__" : Str)) = false ∧ (("great" : Str) == ("__classdict__" : Str)) = false := by decide +kernel
theorem n_k : (("k" : Str) == ("__debug__" : Str)) = false ∧ (("k" : Str) == ("__classdict__" : Str)) = false := by decide +kernel
theorem n_many : (("many" : Str) == ("__debug__" : Str)) = false ∧ (("many" : Str) == ("__classdict__" : Str)) = false := by decide +kernel
theorem n_mixed : (("mixed" : Str) == ("__debug__" : Str)) = false ∧ (("mixed" : Str) == ("__classdict__" : Str)) = false := by decide +kernel
theorem n_most : (("most" : Str) == ("__debug__" : Str)) = false ∧ (("most" : Str) == ("__classdict__" : Str)) = false := by decide +kernel
theorem n_name : (("name" : Str) == ("__debug__" : Str)) = false ∧ (("name" : Str) == ("__classdict__" : Str)) = false := by decide +kernel
theorem n_one : (("one" : Str) == ("__debug__" : Str)) = false ∧ (("one" : Str) == ("__classdict__" : Str)) = false := by decide +kernel
theorem n_path : (("path" : Str) == ("__debug__" : Str)) = false ∧ (("path" : Str) == ("__classdict__" : Str)) = false := by decide +kernel
theorem n_pen : (("pen" : Str) == ("__debug__" : Str)) = false ∧ (("pen" : Str) == ("__classdict__" : Str)) = false := by decide +kernel
theorem n_rows : (("rows" : Str) == ("__debug__" : Str)) = false ∧ (("rows" : Str) == ("__classdict__" : Str)) = false := by decide +kernel
theorem n_scale : (("scale" : Str) == ("__debug__" : Str)) = false ∧ (("scale" : Str) == ("__classdict__" : Str)) = false := by decide +kernel
theorem n_script : (("script" : Str) == ("__debug__" : Str)) = false ∧ (("script" : Str) == ("__classdict__" : Str)) = false := by decide +kernel
theorem n_seen : (("seen" : Str) == ("__debug__" : Str)) = false ∧ (("seen" : Str) == ("__classdict__" : Str)) = false := by decide +kernel
theorem n_self : (("self" : Str) == ("__debug__" : Str)) = false ∧ (("self" : Str) == ("__classdict__" : Str)) = false := by decide +kernel
theorem n_some : (("some" : Str) == ("__debug__" : Str)) = false ∧ (("some" : Str) == ("__classdict__" : Str)) = false := by decide +kernel
theorem n_spot : (("spot" : Str) == ("__debug__" : Str)) = false ∧ (("spot" : Str) == ("__classdict__" : Str)) = false := by decide +kernel
theorem n_taken : (("taken" : Str) == ("__debug__" : Str)) = false ∧ (("taken" : Str) == ("__classdict__" : Str)) = false := by decide +kernel
theorem n_turn : (("turn" : Str) == ("__debug__" : Str)) = false ∧ (("turn" : Str) == ("__classdict__" : Str)) = false := by decide +kernel
theorem n_two : (("two" : Str) == ("__debug__" : Str)) = false ∧ (("two" : Str) == ("__classdict__" : Str)) = false := by decide +kernel
theorem n_value : (("value" : Str) == ("__debug__" : Str)) = false ∧ (("value" : Str) == ("__classdict__" : Str)) = false := by decide +kernel
theorem n_way : (("way" : Str) == ("__debug__" : Str)) = false ∧ (("way" : Str) == ("__classdict__" : Str)) = false := by decide +kernel
theorem n_what : (("what" : Str) == ("__debug__" : Str)) = false ∧ (("what" : Str) == ("__classdict__" : Str)) = false := by decide +kernel
/-! ### facts -/
def tks : List Kd := [.x "PadError", .x "BadName", .x "BadTimes", .x "BadParts", .x "NoPath", .x "NoName", .x "Taken", .x "Ring", .x "InUse", .x "Unresolved", .x "NoMachine", .x "BadValue", .x "TooLarge", .x "NoScale", .x "BadBound", .x "NoTerm", .x "NoClaim", .x "NotRecord", .x "Barred", .x "Endless", .x "NoOffer", .x "NoOrder", .x "BadText", .x "NoLine", .b "NoneType", .b "bool", .b "int", .b "str", .b "tuple", .b "list", .b "dict"]
def tcs : List Kd := [.c "BadBound", .c "BadName", .c "BadParts", .c "BadText", .c "BadTimes", .c "BadValue", .c "Barred", .c "Endless", .c "InUse", .b "IndexError", .b "KeyError", .b "LookupError", .c "NoClaim", .c "NoLine", .c "NoMachine", .c "NoName", .c "NoOffer", .c "NoOrder", .c "NoPath", .c "NoScale", .c "NoTerm", .c "NotRecord", .c "PadError", .c "Ring", .c "Taken", .c "TooLarge", .c "Unresolved", .b "ValueError"]
def mros : List (String × List String) := [("PadError", ["PadError", "ValueError", "Exception", "BaseException", "object"]), ("BadName", ["BadName", "PadError", "ValueError", "Exception", "BaseException", "object"]), ("BadTimes", ["BadTimes", "PadError", "ValueError", "Exception", "BaseException", "object"]), ("BadParts", ["BadParts", "PadError", "ValueError", "Exception", "BaseException", "object"]), ("NoPath", ["NoPath", "PadError", "ValueError", "Exception", "BaseException", "object"]), ("NoName", ["NoName", "PadError", "ValueError", "Exception", "BaseException", "object"]), ("Taken", ["Taken", "PadError", "ValueError", "Exception", "BaseException", "object"]), ("Ring", ["Ring", "PadError", "ValueError", "Exception", "BaseException", "object"]), ("InUse", ["InUse", "PadError", "ValueError", "Exception", "BaseException", "object"]), ("Unresolved", ["Unresolved", "PadError", "ValueError", "Exception", "BaseException", "object"]), ("NoMachine", ["NoMachine", "PadError", "ValueError", "Exception", "BaseException", "object"]), ("BadValue", ["BadValue", "PadError", "ValueError", "Exception", "BaseException", "object"]), ("TooLarge", ["TooLarge", "PadError", "ValueError", "Exception", "BaseException", "object"]), ("NoScale", ["NoScale", "PadError", "ValueError", "Exception", "BaseException", "object"]), ("BadBound", ["BadBound", "PadError", "ValueError", "Exception", "BaseException", "object"]), ("NoTerm", ["NoTerm", "PadError", "ValueError", "Exception", "BaseException", "object"]), ("NoClaim", ["NoClaim", "PadError", "ValueError", "Exception", "BaseException", "object"]), ("NotRecord", ["NotRecord", "PadError", "ValueError", "Exception", "BaseException", "object"]), ("Barred", ["Barred", "PadError", "ValueError", "Exception", "BaseException", "object"]), ("Endless", ["Endless", "PadError", "ValueError", "Exception", "BaseException", "object"]), ("NoOffer", ["NoOffer", "PadError", "ValueError", "Exception", "BaseException", "object"]), ("NoOrder", ["NoOrder", "PadError", "ValueError", "Exception", "BaseException", "object"]), ("BadText", ["BadText", "PadError", "ValueError", "Exception", "BaseException", "object"]), ("NoLine", ["NoLine", "PadError", "ValueError", "Exception", "BaseException", "object"])]
def tbl : Kd → Kd → Bool
  | .x C, .c E => ((mros.lookup C).getD []).contains E
  | .x C, .b E => ((mros.lookup C).getD []).contains E
  | .c C, .c E => ((mros.lookup C).getD []).contains E
  | .c C, .b E => ((mros.lookup C).getD []).contains E
  | .b "bool", .b "int" => true
  | .b a, .b b => decide (a = b)
  | _, _ => false
abbrev tab : Kd → Kd → Option Bool := tabOf tks tcs tbl
abbrev aC_at : List String := []
abbrev aK_at : List (String × D) := []
abbrev aE_at : List String := ["BadParts", "NoPath", "NoTerm", "NoClaim", "NoOffer", "NoOrder", "BadText"]
abbrev aC_most : List String := []
abbrev aK_most : List (String × D) := []
abbrev aE_most : List String := ["TooLarge"]
abbrev aC_name : List String := []
abbrev aK_name : List (String × D) := []
abbrev aE_name : List String := ["BadName", "NoName", "Taken", "InUse", "Unresolved", "NotRecord"]
abbrev aC_path : List String := []
abbrev aK_path : List (String × D) := []
abbrev aE_path : List String := ["NoPath", "BadValue"]
abbrev aC_scale : List String := []
abbrev aK_scale : List (String × D) := []
abbrev aE_scale : List String := ["NoMachine", "NoScale", "Endless"]
abbrev aC_value : List String := []
abbrev aK_value : List (String × D) := []
abbrev aE_value : List String := ["BadTimes", "BadBound"]
abbrev aC_way : List String := []
abbrev aK_way : List (String × D) := []
abbrev aE_way : List String := ["Ring"]
abbrev aC_what : List String := []
abbrev aK_what : List (String × D) := []
abbrev aE_what : List String := ["TooLarge"]
def chks (K : PySem.W.Frag) : List Bool := [isiB K tks tcs tbl,
  xmkB K "BadName" ["name"],
  xmkB K "BadTimes" ["value"],
  xmkB K "BadParts" ["at"],
  xmkB K "NoPath" ["path", "at"],
  xmkB K "NoName" ["name"],
  xmkB K "Taken" ["name"],
  xmkB K "Ring" ["way"],
  xmkB K "InUse" ["name"],
  xmkB K "Unresolved" ["name"],
  xmkB K "NoMachine" ["scale"],
  xmkB K "BadValue" ["path"],
  xmkB K "TooLarge" ["what", "most"],
  xmkB K "NoScale" ["scale"],
  xmkB K "BadBound" ["value"],
  xmkB K "NoTerm" ["at"],
  xmkB K "NoClaim" ["at"],
  xmkB K "NotRecord" ["name"],
  xmkB K "Endless" ["scale"],
  xmkB K "NoOffer" ["at"],
  xmkB K "NoOrder" ["at"],
  xmkB K "BadText" ["at"],
  xnB K "PadError",
  xnB K "Barred",
  xnB K "NoLine",
  fldB K aC_at "at",
  xflB K aE_at "at",
  fldB K aC_most "most",
  xflB K aE_most "most",
  fldB K aC_name "name",
  xflB K aE_name "name",
  fldB K aC_path "path",
  xflB K aE_path "path",
  fldB K aC_scale "scale",
  xflB K aE_scale "scale",
  fldB K aC_value "value",
  xflB K aE_value "value",
  fldB K aC_way "way",
  xflB K aE_way "way",
  fldB K aC_what "what",
  xflB K aE_what "what"]
def chk (K : PySem.W.Frag) : Bool := (chks K).all id
def dd__law_first_rows : He.DefD := ⟨("_law_first_rows", none), "_law_first_rows", "_law_first_rows", defArgs st__law_first_rows, defBody st__law_first_rows, defScope st__law_first_rows, [], []⟩
def dd__law_last_rows : He.DefD := ⟨("_law_last_rows", none), "_law_last_rows", "_law_last_rows", defArgs st__law_last_rows, defBody st__law_last_rows, defScope st__law_last_rows, [], []⟩
def dd__law_marks : He.DefD := ⟨("_law_marks", none), "_law_marks", "_law_marks", defArgs st__law_marks, defBody st__law_marks, defScope st__law_marks, [], []⟩
def dd__law_named_right : He.DefD := ⟨("_law_named_right", none), "_law_named_right", "_law_named_right", defArgs st__law_named_right, defBody st__law_named_right, defScope st__law_named_right, [], []⟩
def dd__law_pen : He.DefD := ⟨("_law_pen", none), "_law_pen", "_law_pen", defArgs st__law_pen, defBody st__law_pen, defScope st__law_pen, [], []⟩
def dd__law_draw : He.DefD := ⟨("_law_draw", none), "_law_draw", "_law_draw", defArgs st__law_draw, defBody st__law_draw, defScope st__law_draw, [], []⟩
def dd__law_pick : He.DefD := ⟨("_law_pick", none), "_law_pick", "_law_pick", defArgs st__law_pick, defBody st__law_pick, defScope st__law_pick, [], []⟩
def dd__law_value : He.DefD := ⟨("_law_value", none), "_law_value", "_law_value", defArgs st__law_value, defBody st__law_value, defScope st__law_value, [], []⟩
def dd_law : He.DefD := ⟨("law", none), "law", "law", defArgs st_law, defBody st_law, defScope st_law, [], []⟩
def dd_BadName : He.DefD := ⟨("BadName", some "__init__"), "__init__", "BadName.__init__", defArgs st_BadName, defBody st_BadName, defScope st_BadName, [], []⟩
def dd_BadTimes : He.DefD := ⟨("BadTimes", some "__init__"), "__init__", "BadTimes.__init__", defArgs st_BadTimes, defBody st_BadTimes, defScope st_BadTimes, [], []⟩
def dd_BadParts : He.DefD := ⟨("BadParts", some "__init__"), "__init__", "BadParts.__init__", defArgs st_BadParts, defBody st_BadParts, defScope st_BadParts, [], []⟩
def dd_NoPath : He.DefD := ⟨("NoPath", some "__init__"), "__init__", "NoPath.__init__", defArgs st_NoPath, defBody st_NoPath, defScope st_NoPath, [], []⟩
def dd_NoName : He.DefD := ⟨("NoName", some "__init__"), "__init__", "NoName.__init__", defArgs st_NoName, defBody st_NoName, defScope st_NoName, [], []⟩
def dd_Taken : He.DefD := ⟨("Taken", some "__init__"), "__init__", "Taken.__init__", defArgs st_Taken, defBody st_Taken, defScope st_Taken, [], []⟩
def dd_Ring : He.DefD := ⟨("Ring", some "__init__"), "__init__", "Ring.__init__", defArgs st_Ring, defBody st_Ring, defScope st_Ring, [], []⟩
def dd_InUse : He.DefD := ⟨("InUse", some "__init__"), "__init__", "InUse.__init__", defArgs st_InUse, defBody st_InUse, defScope st_InUse, [], []⟩
def dd_Unresolved : He.DefD := ⟨("Unresolved", some "__init__"), "__init__", "Unresolved.__init__", defArgs st_Unresolved, defBody st_Unresolved, defScope st_Unresolved, [], []⟩
def dd_NoMachine : He.DefD := ⟨("NoMachine", some "__init__"), "__init__", "NoMachine.__init__", defArgs st_NoMachine, defBody st_NoMachine, defScope st_NoMachine, [], []⟩
def dd_BadValue : He.DefD := ⟨("BadValue", some "__init__"), "__init__", "BadValue.__init__", defArgs st_BadValue, defBody st_BadValue, defScope st_BadValue, [], []⟩
def dd_TooLarge : He.DefD := ⟨("TooLarge", some "__init__"), "__init__", "TooLarge.__init__", defArgs st_TooLarge, defBody st_TooLarge, defScope st_TooLarge, [], []⟩
def dd_NoScale : He.DefD := ⟨("NoScale", some "__init__"), "__init__", "NoScale.__init__", defArgs st_NoScale, defBody st_NoScale, defScope st_NoScale, [], []⟩
def dd_BadBound : He.DefD := ⟨("BadBound", some "__init__"), "__init__", "BadBound.__init__", defArgs st_BadBound, defBody st_BadBound, defScope st_BadBound, [], []⟩
def dd_NoTerm : He.DefD := ⟨("NoTerm", some "__init__"), "__init__", "NoTerm.__init__", defArgs st_NoTerm, defBody st_NoTerm, defScope st_NoTerm, [], []⟩
def dd_NoClaim : He.DefD := ⟨("NoClaim", some "__init__"), "__init__", "NoClaim.__init__", defArgs st_NoClaim, defBody st_NoClaim, defScope st_NoClaim, [], []⟩
def dd_NotRecord : He.DefD := ⟨("NotRecord", some "__init__"), "__init__", "NotRecord.__init__", defArgs st_NotRecord, defBody st_NotRecord, defScope st_NotRecord, [], []⟩
def dd_Endless : He.DefD := ⟨("Endless", some "__init__"), "__init__", "Endless.__init__", defArgs st_Endless, defBody st_Endless, defScope st_Endless, [], []⟩
def dd_NoOffer : He.DefD := ⟨("NoOffer", some "__init__"), "__init__", "NoOffer.__init__", defArgs st_NoOffer, defBody st_NoOffer, defScope st_NoOffer, [], []⟩
def dd_NoOrder : He.DefD := ⟨("NoOrder", some "__init__"), "__init__", "NoOrder.__init__", defArgs st_NoOrder, defBody st_NoOrder, defScope st_NoOrder, [], []⟩
def dd_BadText : He.DefD := ⟨("BadText", some "__init__"), "__init__", "BadText.__init__", defArgs st_BadText, defBody st_BadText, defScope st_BadText, [], []⟩
def fnl0 : List He.DefD := [dd__law_first_rows, dd__law_last_rows, dd__law_marks, dd__law_named_right, dd__law_pen, dd__law_draw, dd__law_pick, dd__law_value, dd_law, dd_BadName, dd_BadTimes, dd_BadParts]
def fnl1 : List He.DefD := [dd_NoPath, dd_NoName, dd_Taken, dd_Ring, dd_InUse, dd_Unresolved, dd_NoMachine, dd_BadValue, dd_TooLarge, dd_NoScale, dd_BadBound, dd_NoTerm]
def fnl2 : List He.DefD := [dd_NoClaim, dd_NotRecord, dd_Endless, dd_NoOffer, dd_NoOrder, dd_BadText]
def fnl : List He.DefD := fnl0 ++ fnl1 ++ fnl2
def fal0 : List He.Fa := [.glo "_law_first_rows", .glo "_law_last_rows", .glo "_law_marks", .glo "_law_named_right", .glo "_law_pen", .glo "_law_draw", .glo "_law_pick", .glo "_law_value", .glo "law", .glo "BadBound", .glo "BadName", .glo "BadParts"]
def fal1 : List He.Fa := [.glo "BadText", .glo "BadTimes", .glo "BadValue", .glo "Barred", .glo "Endless", .glo "InUse", .glo "NoClaim", .glo "NoLine", .glo "NoMachine", .glo "NoName", .glo "NoOffer", .glo "NoOrder"]
def fal2 : List He.Fa := [.glo "NoPath", .glo "NoScale", .glo "NoTerm", .glo "NotRecord", .glo "PadError", .glo "Ring", .glo "Taken", .glo "TooLarge", .glo "Unresolved", .free "IndexError", .free "KeyError", .free "LookupError"]
def fal3 : List He.Fa := [.free "ValueError", .free "abs", .free "int", .free "isinstance", .free "len", .free "list", .free "range", .free "repr"]
def fal : List He.Fa := fal0 ++ fal1 ++ fal2 ++ fal3
structure Cfg (P : Program) (w : World) (K : PySem.W.Frag) (mg : Str → Option Value) (base : Heap) : Prop where
  sd : He.SaysD fal fnl K
  ex : chk K = true
  mgs : ∃ h : Heap, K.In h ∧ h.Ns mainGlobals mg
section
variable {P : Program} {w : World} {K : PySem.W.Frag} {mg : Str → Option Value} {base : Heap}
theorem Cfg.nth (C : Cfg P w K mg base) (i : Nat) {b : Bool} (h : (chks K)[i]? = some b) : b = true := List.all_eq_true.mp C.ex b (List.mem_of_getElem? h)
theorem Cfg.glo__law_first_rows (C : Cfg P w K mg base) : mg (Str.ofString "_law_first_rows") = some (.ref (He.ga K (Str.ofString "_law_first_rows"))) := let ⟨_, X, G⟩ := C.mgs; He.glo_ok X G (C.sd.fact 0 (f := .glo "_law_first_rows") rfl)
theorem Cfg.glo__law_last_rows (C : Cfg P w K mg base) : mg (Str.ofString "_law_last_rows") = some (.ref (He.ga K (Str.ofString "_law_last_rows"))) := let ⟨_, X, G⟩ := C.mgs; He.glo_ok X G (C.sd.fact 1 (f := .glo "_law_last_rows") rfl)
theorem Cfg.glo__law_marks (C : Cfg P w K mg base) : mg (Str.ofString "_law_marks") = some (.ref (He.ga K (Str.ofString "_law_marks"))) := let ⟨_, X, G⟩ := C.mgs; He.glo_ok X G (C.sd.fact 2 (f := .glo "_law_marks") rfl)
theorem Cfg.glo__law_named_right (C : Cfg P w K mg base) : mg (Str.ofString "_law_named_right") = some (.ref (He.ga K (Str.ofString "_law_named_right"))) := let ⟨_, X, G⟩ := C.mgs; He.glo_ok X G (C.sd.fact 3 (f := .glo "_law_named_right") rfl)
theorem Cfg.glo__law_pen (C : Cfg P w K mg base) : mg (Str.ofString "_law_pen") = some (.ref (He.ga K (Str.ofString "_law_pen"))) := let ⟨_, X, G⟩ := C.mgs; He.glo_ok X G (C.sd.fact 4 (f := .glo "_law_pen") rfl)
theorem Cfg.glo__law_draw (C : Cfg P w K mg base) : mg (Str.ofString "_law_draw") = some (.ref (He.ga K (Str.ofString "_law_draw"))) := let ⟨_, X, G⟩ := C.mgs; He.glo_ok X G (C.sd.fact 5 (f := .glo "_law_draw") rfl)
theorem Cfg.glo__law_pick (C : Cfg P w K mg base) : mg (Str.ofString "_law_pick") = some (.ref (He.ga K (Str.ofString "_law_pick"))) := let ⟨_, X, G⟩ := C.mgs; He.glo_ok X G (C.sd.fact 6 (f := .glo "_law_pick") rfl)
theorem Cfg.glo__law_value (C : Cfg P w K mg base) : mg (Str.ofString "_law_value") = some (.ref (He.ga K (Str.ofString "_law_value"))) := let ⟨_, X, G⟩ := C.mgs; He.glo_ok X G (C.sd.fact 7 (f := .glo "_law_value") rfl)
theorem Cfg.glo_law (C : Cfg P w K mg base) : mg (Str.ofString "law") = some (.ref (He.ga K (Str.ofString "law"))) := let ⟨_, X, G⟩ := C.mgs; He.glo_ok X G (C.sd.fact 8 (f := .glo "law") rfl)
theorem Cfg.glo_BadBound (C : Cfg P w K mg base) : mg (Str.ofString "BadBound") = some (.ref (He.ga K (Str.ofString "BadBound"))) := let ⟨_, X, G⟩ := C.mgs; He.glo_ok X G (C.sd.fact 9 (f := .glo "BadBound") rfl)
theorem Cfg.glo_BadName (C : Cfg P w K mg base) : mg (Str.ofString "BadName") = some (.ref (He.ga K (Str.ofString "BadName"))) := let ⟨_, X, G⟩ := C.mgs; He.glo_ok X G (C.sd.fact 10 (f := .glo "BadName") rfl)
theorem Cfg.glo_BadParts (C : Cfg P w K mg base) : mg (Str.ofString "BadParts") = some (.ref (He.ga K (Str.ofString "BadParts"))) := let ⟨_, X, G⟩ := C.mgs; He.glo_ok X G (C.sd.fact 11 (f := .glo "BadParts") rfl)
theorem Cfg.glo_BadText (C : Cfg P w K mg base) : mg (Str.ofString "BadText") = some (.ref (He.ga K (Str.ofString "BadText"))) := let ⟨_, X, G⟩ := C.mgs; He.glo_ok X G (C.sd.fact 12 (f := .glo "BadText") rfl)
theorem Cfg.glo_BadTimes (C : Cfg P w K mg base) : mg (Str.ofString "BadTimes") = some (.ref (He.ga K (Str.ofString "BadTimes"))) := let ⟨_, X, G⟩ := C.mgs; He.glo_ok X G (C.sd.fact 13 (f := .glo "BadTimes") rfl)
theorem Cfg.glo_BadValue (C : Cfg P w K mg base) : mg (Str.ofString "BadValue") = some (.ref (He.ga K (Str.ofString "BadValue"))) := let ⟨_, X, G⟩ := C.mgs; He.glo_ok X G (C.sd.fact 14 (f := .glo "BadValue") rfl)
theorem Cfg.glo_Barred (C : Cfg P w K mg base) : mg (Str.ofString "Barred") = some (.ref (He.ga K (Str.ofString "Barred"))) := let ⟨_, X, G⟩ := C.mgs; He.glo_ok X G (C.sd.fact 15 (f := .glo "Barred") rfl)
theorem Cfg.glo_Endless (C : Cfg P w K mg base) : mg (Str.ofString "Endless") = some (.ref (He.ga K (Str.ofString "Endless"))) := let ⟨_, X, G⟩ := C.mgs; He.glo_ok X G (C.sd.fact 16 (f := .glo "Endless") rfl)
theorem Cfg.glo_InUse (C : Cfg P w K mg base) : mg (Str.ofString "InUse") = some (.ref (He.ga K (Str.ofString "InUse"))) := let ⟨_, X, G⟩ := C.mgs; He.glo_ok X G (C.sd.fact 17 (f := .glo "InUse") rfl)
theorem Cfg.glo_NoClaim (C : Cfg P w K mg base) : mg (Str.ofString "NoClaim") = some (.ref (He.ga K (Str.ofString "NoClaim"))) := let ⟨_, X, G⟩ := C.mgs; He.glo_ok X G (C.sd.fact 18 (f := .glo "NoClaim") rfl)
theorem Cfg.glo_NoLine (C : Cfg P w K mg base) : mg (Str.ofString "NoLine") = some (.ref (He.ga K (Str.ofString "NoLine"))) := let ⟨_, X, G⟩ := C.mgs; He.glo_ok X G (C.sd.fact 19 (f := .glo "NoLine") rfl)
theorem Cfg.glo_NoMachine (C : Cfg P w K mg base) : mg (Str.ofString "NoMachine") = some (.ref (He.ga K (Str.ofString "NoMachine"))) := let ⟨_, X, G⟩ := C.mgs; He.glo_ok X G (C.sd.fact 20 (f := .glo "NoMachine") rfl)
theorem Cfg.glo_NoName (C : Cfg P w K mg base) : mg (Str.ofString "NoName") = some (.ref (He.ga K (Str.ofString "NoName"))) := let ⟨_, X, G⟩ := C.mgs; He.glo_ok X G (C.sd.fact 21 (f := .glo "NoName") rfl)
theorem Cfg.glo_NoOffer (C : Cfg P w K mg base) : mg (Str.ofString "NoOffer") = some (.ref (He.ga K (Str.ofString "NoOffer"))) := let ⟨_, X, G⟩ := C.mgs; He.glo_ok X G (C.sd.fact 22 (f := .glo "NoOffer") rfl)
theorem Cfg.glo_NoOrder (C : Cfg P w K mg base) : mg (Str.ofString "NoOrder") = some (.ref (He.ga K (Str.ofString "NoOrder"))) := let ⟨_, X, G⟩ := C.mgs; He.glo_ok X G (C.sd.fact 23 (f := .glo "NoOrder") rfl)
theorem Cfg.glo_NoPath (C : Cfg P w K mg base) : mg (Str.ofString "NoPath") = some (.ref (He.ga K (Str.ofString "NoPath"))) := let ⟨_, X, G⟩ := C.mgs; He.glo_ok X G (C.sd.fact 24 (f := .glo "NoPath") rfl)
theorem Cfg.glo_NoScale (C : Cfg P w K mg base) : mg (Str.ofString "NoScale") = some (.ref (He.ga K (Str.ofString "NoScale"))) := let ⟨_, X, G⟩ := C.mgs; He.glo_ok X G (C.sd.fact 25 (f := .glo "NoScale") rfl)
theorem Cfg.glo_NoTerm (C : Cfg P w K mg base) : mg (Str.ofString "NoTerm") = some (.ref (He.ga K (Str.ofString "NoTerm"))) := let ⟨_, X, G⟩ := C.mgs; He.glo_ok X G (C.sd.fact 26 (f := .glo "NoTerm") rfl)
theorem Cfg.glo_NotRecord (C : Cfg P w K mg base) : mg (Str.ofString "NotRecord") = some (.ref (He.ga K (Str.ofString "NotRecord"))) := let ⟨_, X, G⟩ := C.mgs; He.glo_ok X G (C.sd.fact 27 (f := .glo "NotRecord") rfl)
theorem Cfg.glo_PadError (C : Cfg P w K mg base) : mg (Str.ofString "PadError") = some (.ref (He.ga K (Str.ofString "PadError"))) := let ⟨_, X, G⟩ := C.mgs; He.glo_ok X G (C.sd.fact 28 (f := .glo "PadError") rfl)
theorem Cfg.glo_Ring (C : Cfg P w K mg base) : mg (Str.ofString "Ring") = some (.ref (He.ga K (Str.ofString "Ring"))) := let ⟨_, X, G⟩ := C.mgs; He.glo_ok X G (C.sd.fact 29 (f := .glo "Ring") rfl)
theorem Cfg.glo_Taken (C : Cfg P w K mg base) : mg (Str.ofString "Taken") = some (.ref (He.ga K (Str.ofString "Taken"))) := let ⟨_, X, G⟩ := C.mgs; He.glo_ok X G (C.sd.fact 30 (f := .glo "Taken") rfl)
theorem Cfg.glo_TooLarge (C : Cfg P w K mg base) : mg (Str.ofString "TooLarge") = some (.ref (He.ga K (Str.ofString "TooLarge"))) := let ⟨_, X, G⟩ := C.mgs; He.glo_ok X G (C.sd.fact 31 (f := .glo "TooLarge") rfl)
theorem Cfg.glo_Unresolved (C : Cfg P w K mg base) : mg (Str.ofString "Unresolved") = some (.ref (He.ga K (Str.ofString "Unresolved"))) := let ⟨_, X, G⟩ := C.mgs; He.glo_ok X G (C.sd.fact 32 (f := .glo "Unresolved") rfl)
theorem Cfg.fre_IndexError (C : Cfg P w K mg base) : mg (Str.ofString "IndexError") = none := let ⟨_, X, G⟩ := C.mgs; He.free_ok X G (C.sd.fact 33 (f := .free "IndexError") rfl)
theorem Cfg.fre_KeyError (C : Cfg P w K mg base) : mg (Str.ofString "KeyError") = none := let ⟨_, X, G⟩ := C.mgs; He.free_ok X G (C.sd.fact 34 (f := .free "KeyError") rfl)
theorem Cfg.fre_LookupError (C : Cfg P w K mg base) : mg (Str.ofString "LookupError") = none := let ⟨_, X, G⟩ := C.mgs; He.free_ok X G (C.sd.fact 35 (f := .free "LookupError") rfl)
theorem Cfg.fre_ValueError (C : Cfg P w K mg base) : mg (Str.ofString "ValueError") = none := let ⟨_, X, G⟩ := C.mgs; He.free_ok X G (C.sd.fact 36 (f := .free "ValueError") rfl)
theorem Cfg.fre_abs (C : Cfg P w K mg base) : mg (Str.ofString "abs") = none := let ⟨_, X, G⟩ := C.mgs; He.free_ok X G (C.sd.fact 37 (f := .free "abs") rfl)
theorem Cfg.fre_int (C : Cfg P w K mg base) : mg (Str.ofString "int") = none := let ⟨_, X, G⟩ := C.mgs; He.free_ok X G (C.sd.fact 38 (f := .free "int") rfl)
theorem Cfg.fre_isinstance (C : Cfg P w K mg base) : mg (Str.ofString "isinstance") = none := let ⟨_, X, G⟩ := C.mgs; He.free_ok X G (C.sd.fact 39 (f := .free "isinstance") rfl)
theorem Cfg.fre_len (C : Cfg P w K mg base) : mg (Str.ofString "len") = none := let ⟨_, X, G⟩ := C.mgs; He.free_ok X G (C.sd.fact 40 (f := .free "len") rfl)
theorem Cfg.fre_list (C : Cfg P w K mg base) : mg (Str.ofString "list") = none := let ⟨_, X, G⟩ := C.mgs; He.free_ok X G (C.sd.fact 41 (f := .free "list") rfl)
theorem Cfg.fre_range (C : Cfg P w K mg base) : mg (Str.ofString "range") = none := let ⟨_, X, G⟩ := C.mgs; He.free_ok X G (C.sd.fact 42 (f := .free "range") rfl)
theorem Cfg.fre_repr (C : Cfg P w K mg base) : mg (Str.ofString "repr") = none := let ⟨_, X, G⟩ := C.mgs; He.free_ok X G (C.sd.fact 43 (f := .free "repr") rfl)
theorem Cfg.isi (C : Cfg P w K mg base) : IsiT K tab := isiB_ok (C.nth 0 rfl)
theorem Cfg.xmk_BadName (C : Cfg P w K mg base) : xmkB K "BadName" ["name"] = true := C.nth 1 rfl
theorem Cfg.xmk_BadTimes (C : Cfg P w K mg base) : xmkB K "BadTimes" ["value"] = true := C.nth 2 rfl
theorem Cfg.xmk_BadParts (C : Cfg P w K mg base) : xmkB K "BadParts" ["at"] = true := C.nth 3 rfl
theorem Cfg.xmk_NoPath (C : Cfg P w K mg base) : xmkB K "NoPath" ["path", "at"] = true := C.nth 4 rfl
theorem Cfg.xmk_NoName (C : Cfg P w K mg base) : xmkB K "NoName" ["name"] = true := C.nth 5 rfl
theorem Cfg.xmk_Taken (C : Cfg P w K mg base) : xmkB K "Taken" ["name"] = true := C.nth 6 rfl
theorem Cfg.xmk_Ring (C : Cfg P w K mg base) : xmkB K "Ring" ["way"] = true := C.nth 7 rfl
theorem Cfg.xmk_InUse (C : Cfg P w K mg base) : xmkB K "InUse" ["name"] = true := C.nth 8 rfl
theorem Cfg.xmk_Unresolved (C : Cfg P w K mg base) : xmkB K "Unresolved" ["name"] = true := C.nth 9 rfl
theorem Cfg.xmk_NoMachine (C : Cfg P w K mg base) : xmkB K "NoMachine" ["scale"] = true := C.nth 10 rfl
theorem Cfg.xmk_BadValue (C : Cfg P w K mg base) : xmkB K "BadValue" ["path"] = true := C.nth 11 rfl
theorem Cfg.xmk_TooLarge (C : Cfg P w K mg base) : xmkB K "TooLarge" ["what", "most"] = true := C.nth 12 rfl
theorem Cfg.xmk_NoScale (C : Cfg P w K mg base) : xmkB K "NoScale" ["scale"] = true := C.nth 13 rfl
theorem Cfg.xmk_BadBound (C : Cfg P w K mg base) : xmkB K "BadBound" ["value"] = true := C.nth 14 rfl
theorem Cfg.xmk_NoTerm (C : Cfg P w K mg base) : xmkB K "NoTerm" ["at"] = true := C.nth 15 rfl
theorem Cfg.xmk_NoClaim (C : Cfg P w K mg base) : xmkB K "NoClaim" ["at"] = true := C.nth 16 rfl
theorem Cfg.xmk_NotRecord (C : Cfg P w K mg base) : xmkB K "NotRecord" ["name"] = true := C.nth 17 rfl
theorem Cfg.xmk_Endless (C : Cfg P w K mg base) : xmkB K "Endless" ["scale"] = true := C.nth 18 rfl
theorem Cfg.xmk_NoOffer (C : Cfg P w K mg base) : xmkB K "NoOffer" ["at"] = true := C.nth 19 rfl
theorem Cfg.xmk_NoOrder (C : Cfg P w K mg base) : xmkB K "NoOrder" ["at"] = true := C.nth 20 rfl
theorem Cfg.xmk_BadText (C : Cfg P w K mg base) : xmkB K "BadText" ["at"] = true := C.nth 21 rfl
theorem Cfg.xn_PadError (C : Cfg P w K mg base) : PySem.W.excIn K (He.ga K (Str.ofString "PadError")) He.veBase "ValueError.__new__" = true ∧ PySem.W.keepIn K (.ref (He.ga K (Str.ofString "PadError"))) = true := band (C.nth 22 rfl)
theorem Cfg.xn_Barred (C : Cfg P w K mg base) : PySem.W.excIn K (He.ga K (Str.ofString "Barred")) He.veBase "ValueError.__new__" = true ∧ PySem.W.keepIn K (.ref (He.ga K (Str.ofString "Barred"))) = true := band (C.nth 23 rfl)
theorem Cfg.xn_NoLine (C : Cfg P w K mg base) : PySem.W.excIn K (He.ga K (Str.ofString "NoLine")) He.veBase "ValueError.__new__" = true ∧ PySem.W.keepIn K (.ref (He.ga K (Str.ofString "NoLine"))) = true := band (C.nth 24 rfl)
theorem Cfg.aC_at (C : Cfg P w K mg base) : ∀ D ∈ aC_at, FldF K D "at" := fldB_ok (C.nth 25 rfl)
theorem Cfg.aE_at (C : Cfg P w K mg base) : ∀ D ∈ aE_at, XflF K D "at" := xflB_ok (C.nth 26 rfl)
theorem Cfg.aK_at (C : Cfg P w K mg base) : ∀ D d, List.lookup D aK_at = some d → ConF K D "at" d := fun _ _ e => by cases e
theorem Cfg.aC_most (C : Cfg P w K mg base) : ∀ D ∈ aC_most, FldF K D "most" := fldB_ok (C.nth 27 rfl)
theorem Cfg.aE_most (C : Cfg P w K mg base) : ∀ D ∈ aE_most, XflF K D "most" := xflB_ok (C.nth 28 rfl)
theorem Cfg.aK_most (C : Cfg P w K mg base) : ∀ D d, List.lookup D aK_most = some d → ConF K D "most" d := fun _ _ e => by cases e
theorem Cfg.aC_name (C : Cfg P w K mg base) : ∀ D ∈ aC_name, FldF K D "name" := fldB_ok (C.nth 29 rfl)
theorem Cfg.aE_name (C : Cfg P w K mg base) : ∀ D ∈ aE_name, XflF K D "name" := xflB_ok (C.nth 30 rfl)
theorem Cfg.aK_name (C : Cfg P w K mg base) : ∀ D d, List.lookup D aK_name = some d → ConF K D "name" d := fun _ _ e => by cases e
theorem Cfg.aC_path (C : Cfg P w K mg base) : ∀ D ∈ aC_path, FldF K D "path" := fldB_ok (C.nth 31 rfl)
theorem Cfg.aE_path (C : Cfg P w K mg base) : ∀ D ∈ aE_path, XflF K D "path" := xflB_ok (C.nth 32 rfl)
theorem Cfg.aK_path (C : Cfg P w K mg base) : ∀ D d, List.lookup D aK_path = some d → ConF K D "path" d := fun _ _ e => by cases e
theorem Cfg.aC_scale (C : Cfg P w K mg base) : ∀ D ∈ aC_scale, FldF K D "scale" := fldB_ok (C.nth 33 rfl)
theorem Cfg.aE_scale (C : Cfg P w K mg base) : ∀ D ∈ aE_scale, XflF K D "scale" := xflB_ok (C.nth 34 rfl)
theorem Cfg.aK_scale (C : Cfg P w K mg base) : ∀ D d, List.lookup D aK_scale = some d → ConF K D "scale" d := fun _ _ e => by cases e
theorem Cfg.aC_value (C : Cfg P w K mg base) : ∀ D ∈ aC_value, FldF K D "value" := fldB_ok (C.nth 35 rfl)
theorem Cfg.aE_value (C : Cfg P w K mg base) : ∀ D ∈ aE_value, XflF K D "value" := xflB_ok (C.nth 36 rfl)
theorem Cfg.aK_value (C : Cfg P w K mg base) : ∀ D d, List.lookup D aK_value = some d → ConF K D "value" d := fun _ _ e => by cases e
theorem Cfg.aC_way (C : Cfg P w K mg base) : ∀ D ∈ aC_way, FldF K D "way" := fldB_ok (C.nth 37 rfl)
theorem Cfg.aE_way (C : Cfg P w K mg base) : ∀ D ∈ aE_way, XflF K D "way" := xflB_ok (C.nth 38 rfl)
theorem Cfg.aK_way (C : Cfg P w K mg base) : ∀ D d, List.lookup D aK_way = some d → ConF K D "way" d := fun _ _ e => by cases e
theorem Cfg.aC_what (C : Cfg P w K mg base) : ∀ D ∈ aC_what, FldF K D "what" := fldB_ok (C.nth 39 rfl)
theorem Cfg.aE_what (C : Cfg P w K mg base) : ∀ D ∈ aE_what, XflF K D "what" := xflB_ok (C.nth 40 rfl)
theorem Cfg.aK_what (C : Cfg P w K mg base) : ∀ D d, List.lookup D aK_what = some d → ConF K D "what" d := fun _ _ e => by cases e
end
end Gk08
end

section
set_option maxHeartbeats 0
namespace Gk08
open PySem PySem.Spec PyProof.Rows L2 MP
/-! ### the exception classes -/
theorem sc_BadName : FnScope ["self", "name"] ["self", "name"] (defScope st_BadName) := ⟨rfl, rfl, rfl, by decide +kernel, rfl, by decide +kernel, by decide +kernel⟩
theorem Cfg.fd_BadName {P : Program} {w : World} {K : PySem.W.Frag} {mg : Str → Option Value} {base : Heap} (C : Cfg P w K mg base) : ∃ fd, FunD K "__init__" "BadName.__init__" (defArgs st_BadName) (defBody st_BadName) (defScope st_BadName) [] [] (He.ma K (He.ga K (Str.ofString "BadName")) "__init__") fd := C.sd.def_ 9 (d := dd_BadName) rfl
theorem Cfg.xm_BadName {X : Cx} (C : Cfg X.prog X.w X.K X.mg X.base) (hr : RoomG 2 X.A) : ExMk X "BadName" ["name"] := by
  obtain ⟨fd, F⟩ := C.fd_BadName
  have z := xmkB_ok C.xmk_BadName
  refine ⟨⟨_, 1, fd, ["self", "name"], z.1, fnG_init1 (k := 0) F sc_BadName rfl (.inl rfl) (.inl rfl) n_self n_name, hr, fun s a us hK hl => ?_⟩, z.2, by decide⟩
  refine (F.bindsA (fun _ _ _ _ _ _ us hl => match us, hl with | [_, _], _ => rfl)) s (a :: us) (by simp [hl])
theorem Cfg.xk_BadName {X : Cx} (C : Cfg X.prog X.w X.K X.mg X.base) (hr : RoomG 2 X.A) : ExMkK X "BadName" ["name"] false := by
  obtain ⟨fd, F⟩ := C.fd_BadName
  have z := xmkB_ok C.xmk_BadName
  refine ⟨⟨_, 1, fd, ["self", "name"], z.1, fnG_init1 (k := 0) F sc_BadName rfl (.inl rfl) (.inl rfl) n_self n_name, hr, fun s a us hK hl => ?_⟩, z.2⟩
  match us, hl with
  | [u0], _ =>
    obtain ⟨oc, od, dV, kV, doc, pm, an, cdv, ct, osl, rfl, lk, hcd, hD, hKw⟩ := F.ex
    rcases hD with ⟨_, rfl⟩ | ⟨e, _⟩
    · exact .of_eq rfl
    · exact absurd rfl e
theorem sc_BadTimes : FnScope ["self", "value"] ["self", "value"] (defScope st_BadTimes) := ⟨rfl, rfl, rfl, by decide +kernel, rfl, by decide +kernel, by decide +kernel⟩
theorem Cfg.fd_BadTimes {P : Program} {w : World} {K : PySem.W.Frag} {mg : Str → Option Value} {base : Heap} (C : Cfg P w K mg base) : ∃ fd, FunD K "__init__" "BadTimes.__init__" (defArgs st_BadTimes) (defBody st_BadTimes) (defScope st_BadTimes) [] [] (He.ma K (He.ga K (Str.ofString "BadTimes")) "__init__") fd := C.sd.def_ 10 (d := dd_BadTimes) rfl
theorem Cfg.xm_BadTimes {X : Cx} (C : Cfg X.prog X.w X.K X.mg X.base) (hr : RoomG 2 X.A) : ExMk X "BadTimes" ["value"] := by
  obtain ⟨fd, F⟩ := C.fd_BadTimes
  have z := xmkB_ok C.xmk_BadTimes
  refine ⟨⟨_, 1, fd, ["self", "value"], z.1, fnG_init1 (k := 0) F sc_BadTimes rfl (.inl rfl) (.inl rfl) n_self n_value, hr, fun s a us hK hl => ?_⟩, z.2, by decide⟩
  refine (F.bindsA (fun _ _ _ _ _ _ us hl => match us, hl with | [_, _], _ => rfl)) s (a :: us) (by simp [hl])
theorem Cfg.xk_BadTimes {X : Cx} (C : Cfg X.prog X.w X.K X.mg X.base) (hr : RoomG 2 X.A) : ExMkK X "BadTimes" ["value"] false := by
  obtain ⟨fd, F⟩ := C.fd_BadTimes
  have z := xmkB_ok C.xmk_BadTimes
  refine ⟨⟨_, 1, fd, ["self", "value"], z.1, fnG_init1 (k := 0) F sc_BadTimes rfl (.inl rfl) (.inl rfl) n_self n_value, hr, fun s a us hK hl => ?_⟩, z.2⟩
  match us, hl with
  | [u0], _ =>
    obtain ⟨oc, od, dV, kV, doc, pm, an, cdv, ct, osl, rfl, lk, hcd, hD, hKw⟩ := F.ex
    rcases hD with ⟨_, rfl⟩ | ⟨e, _⟩
    · exact .of_eq rfl
    · exact absurd rfl e
theorem sc_BadParts : FnScope ["self", "at"] ["self", "at"] (defScope st_BadParts) := ⟨rfl, rfl, rfl, by decide +kernel, rfl, by decide +kernel, by decide +kernel⟩
theorem Cfg.fd_BadParts {P : Program} {w : World} {K : PySem.W.Frag} {mg : Str → Option Value} {base : Heap} (C : Cfg P w K mg base) : ∃ fd, FunD K "__init__" "BadParts.__init__" (defArgs st_BadParts) (defBody st_BadParts) (defScope st_BadParts) [] [] (He.ma K (He.ga K (Str.ofString "BadParts")) "__init__") fd := C.sd.def_ 11 (d := dd_BadParts) rfl
theorem Cfg.xm_BadParts {X : Cx} (C : Cfg X.prog X.w X.K X.mg X.base) (hr : RoomG 2 X.A) : ExMk X "BadParts" ["at"] := by
  obtain ⟨fd, F⟩ := C.fd_BadParts
  have z := xmkB_ok C.xmk_BadParts
  refine ⟨⟨_, 1, fd, ["self", "at"], z.1, fnG_init1 (k := 0) F sc_BadParts rfl (.inl rfl) (.inl rfl) n_self n_at, hr, fun s a us hK hl => ?_⟩, z.2, by decide⟩
  refine (F.bindsA (fun _ _ _ _ _ _ us hl => match us, hl with | [_, _], _ => rfl)) s (a :: us) (by simp [hl])
theorem Cfg.xk_BadParts {X : Cx} (C : Cfg X.prog X.w X.K X.mg X.base) (hr : RoomG 2 X.A) : ExMkK X "BadParts" ["at"] false := by
  obtain ⟨fd, F⟩ := C.fd_BadParts
  have z := xmkB_ok C.xmk_BadParts
  refine ⟨⟨_, 1, fd, ["self", "at"], z.1, fnG_init1 (k := 0) F sc_BadParts rfl (.inl rfl) (.inl rfl) n_self n_at, hr, fun s a us hK hl => ?_⟩, z.2⟩
  match us, hl with
  | [u0], _ =>
    obtain ⟨oc, od, dV, kV, doc, pm, an, cdv, ct, osl, rfl, lk, hcd, hD, hKw⟩ := F.ex
    rcases hD with ⟨_, rfl⟩ | ⟨e, _⟩
    · exact .of_eq rfl
    · exact absurd rfl e
theorem sc_NoPath : FnScope ["self", "path", "at"] ["self", "path", "at"] (defScope st_NoPath) := ⟨rfl, rfl, rfl, by decide +kernel, rfl, by decide +kernel, by decide +kernel⟩
theorem Cfg.fd_NoPath {P : Program} {w : World} {K : PySem.W.Frag} {mg : Str → Option Value} {base : Heap} (C : Cfg P w K mg base) : ∃ fd, FunD K "__init__" "NoPath.__init__" (defArgs st_NoPath) (defBody st_NoPath) (defScope st_NoPath) [] [] (He.ma K (He.ga K (Str.ofString "NoPath")) "__init__") fd := C.sd.def_ 12 (d := dd_NoPath) rfl
theorem Cfg.xm_NoPath {X : Cx} (C : Cfg X.prog X.w X.K X.mg X.base) (hr : RoomG 2 X.A) : ExMk X "NoPath" ["path", "at"] := by
  obtain ⟨fd, F⟩ := C.fd_NoPath
  have z := xmkB_ok C.xmk_NoPath
  refine ⟨⟨_, 1, fd, ["self", "path", "at"], z.1, fnG_init2 (k := 0) F sc_NoPath rfl (.inl rfl) (.inl rfl) (.inl rfl) n_self n_path n_at, hr, fun s a us hK hl => ?_⟩, z.2, by decide⟩
  refine (F.bindsA (fun _ _ _ _ _ _ us hl => match us, hl with | [_, _, _], _ => rfl)) s (a :: us) (by simp [hl])
theorem Cfg.xk_NoPath {X : Cx} (C : Cfg X.prog X.w X.K X.mg X.base) (hr : RoomG 2 X.A) : ExMkK X "NoPath" ["path", "at"] false := by
  obtain ⟨fd, F⟩ := C.fd_NoPath
  have z := xmkB_ok C.xmk_NoPath
  refine ⟨⟨_, 1, fd, ["self", "path", "at"], z.1, fnG_init2 (k := 0) F sc_NoPath rfl (.inl rfl) (.inl rfl) (.inl rfl) n_self n_path n_at, hr, fun s a us hK hl => ?_⟩, z.2⟩
  match us, hl with
  | [u0, u1], _ =>
    obtain ⟨oc, od, dV, kV, doc, pm, an, cdv, ct, osl, rfl, lk, hcd, hD, hKw⟩ := F.ex
    rcases hD with ⟨_, rfl⟩ | ⟨e, _⟩
    · exact .of_eq rfl
    · exact absurd rfl e
theorem Cfg.xkr_NoPath {X : Cx} (C : Cfg X.prog X.w X.K X.mg X.base) (hr : RoomG 2 X.A) : ExMkK X "NoPath" ["path", "at"] true := by
  obtain ⟨fd, F⟩ := C.fd_NoPath
  have z := xmkB_ok C.xmk_NoPath
  refine ⟨⟨_, 1, fd, ["self", "path", "at"], z.1, fnG_init2 (k := 0) F sc_NoPath rfl (.inl rfl) (.inl rfl) (.inl rfl) n_self n_path n_at, hr, fun s a us hK hl => ?_⟩, z.2⟩
  match us, hl with
  | [u0, u1], _ =>
    obtain ⟨oc, od, dV, kV, doc, pm, an, cdv, ct, osl, rfl, lk, hcd, hD, hKw⟩ := F.ex
    rcases hD with ⟨_, rfl⟩ | ⟨e, _⟩
    · exact .of_eq rfl
    · exact absurd rfl e
theorem sc_NoName : FnScope ["self", "name"] ["self", "name"] (defScope st_NoName) := ⟨rfl, rfl, rfl, by decide +kernel, rfl, by decide +kernel, by decide +kernel⟩
theorem Cfg.fd_NoName {P : Program} {w : World} {K : PySem.W.Frag} {mg : Str → Option Value} {base : Heap} (C : Cfg P w K mg base) : ∃ fd, FunD K "__init__" "NoName.__init__" (defArgs st_NoName) (defBody st_NoName) (defScope st_NoName) [] [] (He.ma K (He.ga K (Str.ofString "NoName")) "__init__") fd := C.sd.def_ 13 (d := dd_NoName) rfl
theorem Cfg.xm_NoName {X : Cx} (C : Cfg X.prog X.w X.K X.mg X.base) (hr : RoomG 2 X.A) : ExMk X "NoName" ["name"] := by
  obtain ⟨fd, F⟩ := C.fd_NoName
  have z := xmkB_ok C.xmk_NoName
  refine ⟨⟨_, 1, fd, ["self", "name"], z.1, fnG_init1 (k := 0) F sc_NoName rfl (.inl rfl) (.inl rfl) n_self n_name, hr, fun s a us hK hl => ?_⟩, z.2, by decide⟩
  refine (F.bindsA (fun _ _ _ _ _ _ us hl => match us, hl with | [_, _], _ => rfl)) s (a :: us) (by simp [hl])
theorem Cfg.xk_NoName {X : Cx} (C : Cfg X.prog X.w X.K X.mg X.base) (hr : RoomG 2 X.A) : ExMkK X "NoName" ["name"] false := by
  obtain ⟨fd, F⟩ := C.fd_NoName
  have z := xmkB_ok C.xmk_NoName
  refine ⟨⟨_, 1, fd, ["self", "name"], z.1, fnG_init1 (k := 0) F sc_NoName rfl (.inl rfl) (.inl rfl) n_self n_name, hr, fun s a us hK hl => ?_⟩, z.2⟩
  match us, hl with
  | [u0], _ =>
    obtain ⟨oc, od, dV, kV, doc, pm, an, cdv, ct, osl, rfl, lk, hcd, hD, hKw⟩ := F.ex
    rcases hD with ⟨_, rfl⟩ | ⟨e, _⟩
    · exact .of_eq rfl
    · exact absurd rfl e
theorem sc_Taken : FnScope ["self", "name"] ["self", "name"] (defScope st_Taken) := ⟨rfl, rfl, rfl, by decide +kernel, rfl, by decide +kernel, by decide +kernel⟩
theorem Cfg.fd_Taken {P : Program} {w : World} {K : PySem.W.Frag} {mg : Str → Option Value} {base : Heap} (C : Cfg P w K mg base) : ∃ fd, FunD K "__init__" "Taken.__init__" (defArgs st_Taken) (defBody st_Taken) (defScope st_Taken) [] [] (He.ma K (He.ga K (Str.ofString "Taken")) "__init__") fd := C.sd.def_ 14 (d := dd_Taken) rfl
theorem Cfg.xm_Taken {X : Cx} (C : Cfg X.prog X.w X.K X.mg X.base) (hr : RoomG 2 X.A) : ExMk X "Taken" ["name"] := by
  obtain ⟨fd, F⟩ := C.fd_Taken
  have z := xmkB_ok C.xmk_Taken
  refine ⟨⟨_, 1, fd, ["self", "name"], z.1, fnG_init1 (k := 0) F sc_Taken rfl (.inl rfl) (.inl rfl) n_self n_name, hr, fun s a us hK hl => ?_⟩, z.2, by decide⟩
  refine (F.bindsA (fun _ _ _ _ _ _ us hl => match us, hl with | [_, _], _ => rfl)) s (a :: us) (by simp [hl])
theorem Cfg.xk_Taken {X : Cx} (C : Cfg X.prog X.w X.K X.mg X.base) (hr : RoomG 2 X.A) : ExMkK X "Taken" ["name"] false := by
  obtain ⟨fd, F⟩ := C.fd_Taken
  have z := xmkB_ok C.xmk_Taken
  refine ⟨⟨_, 1, fd, ["self", "name"], z.1, fnG_init1 (k := 0) F sc_Taken rfl (.inl rfl) (.inl rfl) n_self n_name, hr, fun s a us hK hl => ?_⟩, z.2⟩
  match us, hl with
  | [u0], _ =>
    obtain ⟨oc, od, dV, kV, doc, pm, an, cdv, ct, osl, rfl, lk, hcd, hD, hKw⟩ := F.ex
    rcases hD with ⟨_, rfl⟩ | ⟨e, _⟩
    · exact .of_eq rfl
    · exact absurd rfl e
theorem sc_Ring : FnScope ["self", "way"] ["self", "way"] (defScope st_Ring) := ⟨rfl, rfl, rfl, by decide +kernel, rfl, by decide +kernel, by decide +kernel⟩
theorem Cfg.fd_Ring {P : Program} {w : World} {K : PySem.W.Frag} {mg : Str → Option Value} {base : Heap} (C : Cfg P w K mg base) : ∃ fd, FunD K "__init__" "Ring.__init__" (defArgs st_Ring) (defBody st_Ring) (defScope st_Ring) [] [] (He.ma K (He.ga K (Str.ofString "Ring")) "__init__") fd := C.sd.def_ 15 (d := dd_Ring) rfl
theorem Cfg.xm_Ring {X : Cx} (C : Cfg X.prog X.w X.K X.mg X.base) (hr : RoomG 2 X.A) : ExMk X "Ring" ["way"] := by
  obtain ⟨fd, F⟩ := C.fd_Ring
  have z := xmkB_ok C.xmk_Ring
  refine ⟨⟨_, 1, fd, ["self", "way"], z.1, fnG_init1 (k := 0) F sc_Ring rfl (.inl rfl) (.inl rfl) n_self n_way, hr, fun s a us hK hl => ?_⟩, z.2, by decide⟩
  refine (F.bindsA (fun _ _ _ _ _ _ us hl => match us, hl with | [_, _], _ => rfl)) s (a :: us) (by simp [hl])
theorem Cfg.xk_Ring {X : Cx} (C : Cfg X.prog X.w X.K X.mg X.base) (hr : RoomG 2 X.A) : ExMkK X "Ring" ["way"] false := by
  obtain ⟨fd, F⟩ := C.fd_Ring
  have z := xmkB_ok C.xmk_Ring
  refine ⟨⟨_, 1, fd, ["self", "way"], z.1, fnG_init1 (k := 0) F sc_Ring rfl (.inl rfl) (.inl rfl) n_self n_way, hr, fun s a us hK hl => ?_⟩, z.2⟩
  match us, hl with
  | [u0], _ =>
    obtain ⟨oc, od, dV, kV, doc, pm, an, cdv, ct, osl, rfl, lk, hcd, hD, hKw⟩ := F.ex
    rcases hD with ⟨_, rfl⟩ | ⟨e, _⟩
    · exact .of_eq rfl
    · exact absurd rfl e
theorem sc_InUse : FnScope ["self", "name"] ["self", "name"] (defScope st_InUse) := ⟨rfl, rfl, rfl, by decide +kernel, rfl, by decide +kernel, by decide +kernel⟩
theorem Cfg.fd_InUse {P : Program} {w : World} {K : PySem.W.Frag} {mg : Str → Option Value} {base : Heap} (C : Cfg P w K mg base) : ∃ fd, FunD K "__init__" "InUse.__init__" (defArgs st_InUse) (defBody st_InUse) (defScope st_InUse) [] [] (He.ma K (He.ga K (Str.ofString "InUse")) "__init__") fd := C.sd.def_ 16 (d := dd_InUse) rfl
theorem Cfg.xm_InUse {X : Cx} (C : Cfg X.prog X.w X.K X.mg X.base) (hr : RoomG 2 X.A) : ExMk X "InUse" ["name"] := by
  obtain ⟨fd, F⟩ := C.fd_InUse
  have z := xmkB_ok C.xmk_InUse
  refine ⟨⟨_, 1, fd, ["self", "name"], z.1, fnG_init1 (k := 0) F sc_InUse rfl (.inl rfl) (.inl rfl) n_self n_name, hr, fun s a us hK hl => ?_⟩, z.2, by decide⟩
  refine (F.bindsA (fun _ _ _ _ _ _ us hl => match us, hl with | [_, _], _ => rfl)) s (a :: us) (by simp [hl])
theorem Cfg.xk_InUse {X : Cx} (C : Cfg X.prog X.w X.K X.mg X.base) (hr : RoomG 2 X.A) : ExMkK X "InUse" ["name"] false := by
  obtain ⟨fd, F⟩ := C.fd_InUse
  have z := xmkB_ok C.xmk_InUse
  refine ⟨⟨_, 1, fd, ["self", "name"], z.1, fnG_init1 (k := 0) F sc_InUse rfl (.inl rfl) (.inl rfl) n_self n_name, hr, fun s a us hK hl => ?_⟩, z.2⟩
  match us, hl with
  | [u0], _ =>
    obtain ⟨oc, od, dV, kV, doc, pm, an, cdv, ct, osl, rfl, lk, hcd, hD, hKw⟩ := F.ex
    rcases hD with ⟨_, rfl⟩ | ⟨e, _⟩
    · exact .of_eq rfl
    · exact absurd rfl e
theorem sc_Unresolved : FnScope ["self", "name"] ["self", "name"] (defScope st_Unresolved) := ⟨rfl, rfl, rfl, by decide +kernel, rfl, by decide +kernel, by decide +kernel⟩
theorem Cfg.fd_Unresolved {P : Program} {w : World} {K : PySem.W.Frag} {mg : Str → Option Value} {base : Heap} (C : Cfg P w K mg base) : ∃ fd, FunD K "__init__" "Unresolved.__init__" (defArgs st_Unresolved) (defBody st_Unresolved) (defScope st_Unresolved) [] [] (He.ma K (He.ga K (Str.ofString "Unresolved")) "__init__") fd := C.sd.def_ 17 (d := dd_Unresolved) rfl
theorem Cfg.xm_Unresolved {X : Cx} (C : Cfg X.prog X.w X.K X.mg X.base) (hr : RoomG 2 X.A) : ExMk X "Unresolved" ["name"] := by
  obtain ⟨fd, F⟩ := C.fd_Unresolved
  have z := xmkB_ok C.xmk_Unresolved
  refine ⟨⟨_, 1, fd, ["self", "name"], z.1, fnG_init1 (k := 0) F sc_Unresolved rfl (.inl rfl) (.inl rfl) n_self n_name, hr, fun s a us hK hl => ?_⟩, z.2, by decide⟩
  refine (F.bindsA (fun _ _ _ _ _ _ us hl => match us, hl with | [_, _], _ => rfl)) s (a :: us) (by simp [hl])
theorem Cfg.xk_Unresolved {X : Cx} (C : Cfg X.prog X.w X.K X.mg X.base) (hr : RoomG 2 X.A) : ExMkK X "Unresolved" ["name"] false := by
  obtain ⟨fd, F⟩ := C.fd_Unresolved
  have z := xmkB_ok C.xmk_Unresolved
  refine ⟨⟨_, 1, fd, ["self", "name"], z.1, fnG_init1 (k := 0) F sc_Unresolved rfl (.inl rfl) (.inl rfl) n_self n_name, hr, fun s a us hK hl => ?_⟩, z.2⟩
  match us, hl with
  | [u0], _ =>
    obtain ⟨oc, od, dV, kV, doc, pm, an, cdv, ct, osl, rfl, lk, hcd, hD, hKw⟩ := F.ex
    rcases hD with ⟨_, rfl⟩ | ⟨e, _⟩
    · exact .of_eq rfl
    · exact absurd rfl e
theorem sc_NoMachine : FnScope ["self", "scale"] ["self", "scale"] (defScope st_NoMachine) := ⟨rfl, rfl, rfl, by decide +kernel, rfl, by decide +kernel, by decide +kernel⟩
theorem Cfg.fd_NoMachine {P : Program} {w : World} {K : PySem.W.Frag} {mg : Str → Option Value} {base : Heap} (C : Cfg P w K mg base) : ∃ fd, FunD K "__init__" "NoMachine.__init__" (defArgs st_NoMachine) (defBody st_NoMachine) (defScope st_NoMachine) [] [] (He.ma K (He.ga K (Str.ofString "NoMachine")) "__init__") fd := C.sd.def_ 18 (d := dd_NoMachine) rfl
theorem Cfg.xm_NoMachine {X : Cx} (C : Cfg X.prog X.w X.K X.mg X.base) (hr : RoomG 2 X.A) : ExMk X "NoMachine" ["scale"] := by
  obtain ⟨fd, F⟩ := C.fd_NoMachine
  have z := xmkB_ok C.xmk_NoMachine
  refine ⟨⟨_, 1, fd, ["self", "scale"], z.1, fnG_init1 (k := 0) F sc_NoMachine rfl (.inl rfl) (.inl rfl) n_self n_scale, hr, fun s a us hK hl => ?_⟩, z.2, by decide⟩
  refine (F.bindsA (fun _ _ _ _ _ _ us hl => match us, hl with | [_, _], _ => rfl)) s (a :: us) (by simp [hl])
theorem Cfg.xk_NoMachine {X : Cx} (C : Cfg X.prog X.w X.K X.mg X.base) (hr : RoomG 2 X.A) : ExMkK X "NoMachine" ["scale"] false := by
  obtain ⟨fd, F⟩ := C.fd_NoMachine
  have z := xmkB_ok C.xmk_NoMachine
  refine ⟨⟨_, 1, fd, ["self", "scale"], z.1, fnG_init1 (k := 0) F sc_NoMachine rfl (.inl rfl) (.inl rfl) n_self n_scale, hr, fun s a us hK hl => ?_⟩, z.2⟩
  match us, hl with
  | [u0], _ =>
    obtain ⟨oc, od, dV, kV, doc, pm, an, cdv, ct, osl, rfl, lk, hcd, hD, hKw⟩ := F.ex
    rcases hD with ⟨_, rfl⟩ | ⟨e, _⟩
    · exact .of_eq rfl
    · exact absurd rfl e
theorem sc_BadValue : FnScope ["self", "path"] ["self", "path"] (defScope st_BadValue) := ⟨rfl, rfl, rfl, by decide +kernel, rfl, by decide +kernel, by decide +kernel⟩
theorem Cfg.fd_BadValue {P : Program} {w : World} {K : PySem.W.Frag} {mg : Str → Option Value} {base : Heap} (C : Cfg P w K mg base) : ∃ fd, FunD K "__init__" "BadValue.__init__" (defArgs st_BadValue) (defBody st_BadValue) (defScope st_BadValue) [] [] (He.ma K (He.ga K (Str.ofString "BadValue")) "__init__") fd := C.sd.def_ 19 (d := dd_BadValue) rfl
theorem Cfg.xm_BadValue {X : Cx} (C : Cfg X.prog X.w X.K X.mg X.base) (hr : RoomG 2 X.A) : ExMk X "BadValue" ["path"] := by
  obtain ⟨fd, F⟩ := C.fd_BadValue
  have z := xmkB_ok C.xmk_BadValue
  refine ⟨⟨_, 1, fd, ["self", "path"], z.1, fnG_init1 (k := 0) F sc_BadValue rfl (.inl rfl) (.inl rfl) n_self n_path, hr, fun s a us hK hl => ?_⟩, z.2, by decide⟩
  refine (F.bindsA (fun _ _ _ _ _ _ us hl => match us, hl with | [_, _], _ => rfl)) s (a :: us) (by simp [hl])
theorem Cfg.xk_BadValue {X : Cx} (C : Cfg X.prog X.w X.K X.mg X.base) (hr : RoomG 2 X.A) : ExMkK X "BadValue" ["path"] false := by
  obtain ⟨fd, F⟩ := C.fd_BadValue
  have z := xmkB_ok C.xmk_BadValue
  refine ⟨⟨_, 1, fd, ["self", "path"], z.1, fnG_init1 (k := 0) F sc_BadValue rfl (.inl rfl) (.inl rfl) n_self n_path, hr, fun s a us hK hl => ?_⟩, z.2⟩
  match us, hl with
  | [u0], _ =>
    obtain ⟨oc, od, dV, kV, doc, pm, an, cdv, ct, osl, rfl, lk, hcd, hD, hKw⟩ := F.ex
    rcases hD with ⟨_, rfl⟩ | ⟨e, _⟩
    · exact .of_eq rfl
    · exact absurd rfl e
theorem sc_TooLarge : FnScope ["self", "what", "most"] ["self", "what", "most"] (defScope st_TooLarge) := ⟨rfl, rfl, rfl, by decide +kernel, rfl, by decide +kernel, by decide +kernel⟩
theorem Cfg.fd_TooLarge {P : Program} {w : World} {K : PySem.W.Frag} {mg : Str → Option Value} {base : Heap} (C : Cfg P w K mg base) : ∃ fd, FunD K "__init__" "TooLarge.__init__" (defArgs st_TooLarge) (defBody st_TooLarge) (defScope st_TooLarge) [] [] (He.ma K (He.ga K (Str.ofString "TooLarge")) "__init__") fd := C.sd.def_ 20 (d := dd_TooLarge) rfl
theorem Cfg.xm_TooLarge {X : Cx} (C : Cfg X.prog X.w X.K X.mg X.base) (hr : RoomG 2 X.A) : ExMk X "TooLarge" ["what", "most"] := by
  obtain ⟨fd, F⟩ := C.fd_TooLarge
  have z := xmkB_ok C.xmk_TooLarge
  refine ⟨⟨_, 1, fd, ["self", "what", "most"], z.1, fnG_init2 (k := 0) F sc_TooLarge rfl (.inl rfl) (.inl rfl) (.inl rfl) n_self n_what n_most, hr, fun s a us hK hl => ?_⟩, z.2, by decide⟩
  refine (F.bindsA (fun _ _ _ _ _ _ us hl => match us, hl with | [_, _, _], _ => rfl)) s (a :: us) (by simp [hl])
theorem Cfg.xk_TooLarge {X : Cx} (C : Cfg X.prog X.w X.K X.mg X.base) (hr : RoomG 2 X.A) : ExMkK X "TooLarge" ["what", "most"] false := by
  obtain ⟨fd, F⟩ := C.fd_TooLarge
  have z := xmkB_ok C.xmk_TooLarge
  refine ⟨⟨_, 1, fd, ["self", "what", "most"], z.1, fnG_init2 (k := 0) F sc_TooLarge rfl (.inl rfl) (.inl rfl) (.inl rfl) n_self n_what n_most, hr, fun s a us hK hl => ?_⟩, z.2⟩
  match us, hl with
  | [u0, u1], _ =>
    obtain ⟨oc, od, dV, kV, doc, pm, an, cdv, ct, osl, rfl, lk, hcd, hD, hKw⟩ := F.ex
    rcases hD with ⟨_, rfl⟩ | ⟨e, _⟩
    · exact .of_eq rfl
    · exact absurd rfl e
theorem Cfg.xkr_TooLarge {X : Cx} (C : Cfg X.prog X.w X.K X.mg X.base) (hr : RoomG 2 X.A) : ExMkK X "TooLarge" ["what", "most"] true := by
  obtain ⟨fd, F⟩ := C.fd_TooLarge
  have z := xmkB_ok C.xmk_TooLarge
  refine ⟨⟨_, 1, fd, ["self", "what", "most"], z.1, fnG_init2 (k := 0) F sc_TooLarge rfl (.inl rfl) (.inl rfl) (.inl rfl) n_self n_what n_most, hr, fun s a us hK hl => ?_⟩, z.2⟩
  match us, hl with
  | [u0, u1], _ =>
    obtain ⟨oc, od, dV, kV, doc, pm, an, cdv, ct, osl, rfl, lk, hcd, hD, hKw⟩ := F.ex
    rcases hD with ⟨_, rfl⟩ | ⟨e, _⟩
    · exact .of_eq rfl
    · exact absurd rfl e
theorem sc_NoScale : FnScope ["self", "scale"] ["self", "scale"] (defScope st_NoScale) := ⟨rfl, rfl, rfl, by decide +kernel, rfl, by decide +kernel, by decide +kernel⟩
theorem Cfg.fd_NoScale {P : Program} {w : World} {K : PySem.W.Frag} {mg : Str → Option Value} {base : Heap} (C : Cfg P w K mg base) : ∃ fd, FunD K "__init__" "NoScale.__init__" (defArgs st_NoScale) (defBody st_NoScale) (defScope st_NoScale) [] [] (He.ma K (He.ga K (Str.ofString "NoScale")) "__init__") fd := C.sd.def_ 21 (d := dd_NoScale) rfl
theorem Cfg.xm_NoScale {X : Cx} (C : Cfg X.prog X.w X.K X.mg X.base) (hr : RoomG 2 X.A) : ExMk X "NoScale" ["scale"] := by
  obtain ⟨fd, F⟩ := C.fd_NoScale
  have z := xmkB_ok C.xmk_NoScale
  refine ⟨⟨_, 1, fd, ["self", "scale"], z.1, fnG_init1 (k := 0) F sc_NoScale rfl (.inl rfl) (.inl rfl) n_self n_scale, hr, fun s a us hK hl => ?_⟩, z.2, by decide⟩
  refine (F.bindsA (fun _ _ _ _ _ _ us hl => match us, hl with | [_, _], _ => rfl)) s (a :: us) (by simp [hl])
theorem Cfg.xk_NoScale {X : Cx} (C : Cfg X.prog X.w X.K X.mg X.base) (hr : RoomG 2 X.A) : ExMkK X "NoScale" ["scale"] false := by
  obtain ⟨fd, F⟩ := C.fd_NoScale
  have z := xmkB_ok C.xmk_NoScale
  refine ⟨⟨_, 1, fd, ["self", "scale"], z.1, fnG_init1 (k := 0) F sc_NoScale rfl (.inl rfl) (.inl rfl) n_self n_scale, hr, fun s a us hK hl => ?_⟩, z.2⟩
  match us, hl with
  | [u0], _ =>
    obtain ⟨oc, od, dV, kV, doc, pm, an, cdv, ct, osl, rfl, lk, hcd, hD, hKw⟩ := F.ex
    rcases hD with ⟨_, rfl⟩ | ⟨e, _⟩
    · exact .of_eq rfl
    · exact absurd rfl e
theorem sc_BadBound : FnScope ["self", "value"] ["self", "value"] (defScope st_BadBound) := ⟨rfl, rfl, rfl, by decide +kernel, rfl, by decide +kernel, by decide +kernel⟩
theorem Cfg.fd_BadBound {P : Program} {w : World} {K : PySem.W.Frag} {mg : Str → Option Value} {base : Heap} (C : Cfg P w K mg base) : ∃ fd, FunD K "__init__" "BadBound.__init__" (defArgs st_BadBound) (defBody st_BadBound) (defScope st_BadBound) [] [] (He.ma K (He.ga K (Str.ofString "BadBound")) "__init__") fd := C.sd.def_ 22 (d := dd_BadBound) rfl
theorem Cfg.xm_BadBound {X : Cx} (C : Cfg X.prog X.w X.K X.mg X.base) (hr : RoomG 2 X.A) : ExMk X "BadBound" ["value"] := by
  obtain ⟨fd, F⟩ := C.fd_BadBound
  have z := xmkB_ok C.xmk_BadBound
  refine ⟨⟨_, 1, fd, ["self", "value"], z.1, fnG_init1 (k := 0) F sc_BadBound rfl (.inl rfl) (.inl rfl) n_self n_value, hr, fun s a us hK hl => ?_⟩, z.2, by decide⟩
  refine (F.bindsA (fun _ _ _ _ _ _ us hl => match us, hl with | [_, _], _ => rfl)) s (a :: us) (by simp [hl])
theorem Cfg.xk_BadBound {X : Cx} (C : Cfg X.prog X.w X.K X.mg X.base) (hr : RoomG 2 X.A) : ExMkK X "BadBound" ["value"] false := by
  obtain ⟨fd, F⟩ := C.fd_BadBound
  have z := xmkB_ok C.xmk_BadBound
  refine ⟨⟨_, 1, fd, ["self", "value"], z.1, fnG_init1 (k := 0) F sc_BadBound rfl (.inl rfl) (.inl rfl) n_self n_value, hr, fun s a us hK hl => ?_⟩, z.2⟩
  match us, hl with
  | [u0], _ =>
    obtain ⟨oc, od, dV, kV, doc, pm, an, cdv, ct, osl, rfl, lk, hcd, hD, hKw⟩ := F.ex
    rcases hD with ⟨_, rfl⟩ | ⟨e, _⟩
    · exact .of_eq rfl
    · exact absurd rfl e
theorem sc_NoTerm : FnScope ["self", "at"] ["self", "at"] (defScope st_NoTerm) := ⟨rfl, rfl, rfl, by decide +kernel, rfl, by decide +kernel, by decide +kernel⟩
theorem Cfg.fd_NoTerm {P : Program} {w : World} {K : PySem.W.Frag} {mg : Str → Option Value} {base : Heap} (C : Cfg P w K mg base) : ∃ fd, FunD K "__init__" "NoTerm.__init__" (defArgs st_NoTerm) (defBody st_NoTerm) (defScope st_NoTerm) [] [] (He.ma K (He.ga K (Str.ofString "NoTerm")) "__init__") fd := C.sd.def_ 23 (d := dd_NoTerm) rfl
theorem Cfg.xm_NoTerm {X : Cx} (C : Cfg X.prog X.w X.K X.mg X.base) (hr : RoomG 2 X.A) : ExMk X "NoTerm" ["at"] := by
  obtain ⟨fd, F⟩ := C.fd_NoTerm
  have z := xmkB_ok C.xmk_NoTerm
  refine ⟨⟨_, 1, fd, ["self", "at"], z.1, fnG_init1 (k := 0) F sc_NoTerm rfl (.inl rfl) (.inl rfl) n_self n_at, hr, fun s a us hK hl => ?_⟩, z.2, by decide⟩
  refine (F.bindsA (fun _ _ _ _ _ _ us hl => match us, hl with | [_, _], _ => rfl)) s (a :: us) (by simp [hl])
theorem Cfg.xk_NoTerm {X : Cx} (C : Cfg X.prog X.w X.K X.mg X.base) (hr : RoomG 2 X.A) : ExMkK X "NoTerm" ["at"] false := by
  obtain ⟨fd, F⟩ := C.fd_NoTerm
  have z := xmkB_ok C.xmk_NoTerm
  refine ⟨⟨_, 1, fd, ["self", "at"], z.1, fnG_init1 (k := 0) F sc_NoTerm rfl (.inl rfl) (.inl rfl) n_self n_at, hr, fun s a us hK hl => ?_⟩, z.2⟩
  match us, hl with
  | [u0], _ =>
    obtain ⟨oc, od, dV, kV, doc, pm, an, cdv, ct, osl, rfl, lk, hcd, hD, hKw⟩ := F.ex
    rcases hD with ⟨_, rfl⟩ | ⟨e, _⟩
    · exact .of_eq rfl
    · exact absurd rfl e
theorem sc_NoClaim : FnScope ["self", "at"] ["self", "at"] (defScope st_NoClaim) := ⟨rfl, rfl, rfl, by decide +kernel, rfl, by decide +kernel, by decide +kernel⟩
theorem Cfg.fd_NoClaim {P : Program} {w : World} {K : PySem.W.Frag} {mg : Str → Option Value} {base : Heap} (C : Cfg P w K mg base) : ∃ fd, FunD K "__init__" "NoClaim.__init__" (defArgs st_NoClaim) (defBody st_NoClaim) (defScope st_NoClaim) [] [] (He.ma K (He.ga K (Str.ofString "NoClaim")) "__init__") fd := C.sd.def_ 24 (d := dd_NoClaim) rfl
theorem Cfg.xm_NoClaim {X : Cx} (C : Cfg X.prog X.w X.K X.mg X.base) (hr : RoomG 2 X.A) : ExMk X "NoClaim" ["at"] := by
  obtain ⟨fd, F⟩ := C.fd_NoClaim
  have z := xmkB_ok C.xmk_NoClaim
  refine ⟨⟨_, 1, fd, ["self", "at"], z.1, fnG_init1 (k := 0) F sc_NoClaim rfl (.inl rfl) (.inl rfl) n_self n_at, hr, fun s a us hK hl => ?_⟩, z.2, by decide⟩
  refine (F.bindsA (fun _ _ _ _ _ _ us hl => match us, hl with | [_, _], _ => rfl)) s (a :: us) (by simp [hl])
theorem Cfg.xk_NoClaim {X : Cx} (C : Cfg X.prog X.w X.K X.mg X.base) (hr : RoomG 2 X.A) : ExMkK X "NoClaim" ["at"] false := by
  obtain ⟨fd, F⟩ := C.fd_NoClaim
  have z := xmkB_ok C.xmk_NoClaim
  refine ⟨⟨_, 1, fd, ["self", "at"], z.1, fnG_init1 (k := 0) F sc_NoClaim rfl (.inl rfl) (.inl rfl) n_self n_at, hr, fun s a us hK hl => ?_⟩, z.2⟩
  match us, hl with
  | [u0], _ =>
    obtain ⟨oc, od, dV, kV, doc, pm, an, cdv, ct, osl, rfl, lk, hcd, hD, hKw⟩ := F.ex
    rcases hD with ⟨_, rfl⟩ | ⟨e, _⟩
    · exact .of_eq rfl
    · exact absurd rfl e
theorem sc_NotRecord : FnScope ["self", "name"] ["self", "name"] (defScope st_NotRecord) := ⟨rfl, rfl, rfl, by decide +kernel, rfl, by decide +kernel, by decide +kernel⟩
theorem Cfg.fd_NotRecord {P : Program} {w : World} {K : PySem.W.Frag} {mg : Str → Option Value} {base : Heap} (C : Cfg P w K mg base) : ∃ fd, FunD K "__init__" "NotRecord.__init__" (defArgs st_NotRecord) (defBody st_NotRecord) (defScope st_NotRecord) [] [] (He.ma K (He.ga K (Str.ofString "NotRecord")) "__init__") fd := C.sd.def_ 25 (d := dd_NotRecord) rfl
theorem Cfg.xm_NotRecord {X : Cx} (C : Cfg X.prog X.w X.K X.mg X.base) (hr : RoomG 2 X.A) : ExMk X "NotRecord" ["name"] := by
  obtain ⟨fd, F⟩ := C.fd_NotRecord
  have z := xmkB_ok C.xmk_NotRecord
  refine ⟨⟨_, 1, fd, ["self", "name"], z.1, fnG_init1 (k := 0) F sc_NotRecord rfl (.inl rfl) (.inl rfl) n_self n_name, hr, fun s a us hK hl => ?_⟩, z.2, by decide⟩
  refine (F.bindsA (fun _ _ _ _ _ _ us hl => match us, hl with | [_, _], _ => rfl)) s (a :: us) (by simp [hl])
theorem Cfg.xk_NotRecord {X : Cx} (C : Cfg X.prog X.w X.K X.mg X.base) (hr : RoomG 2 X.A) : ExMkK X "NotRecord" ["name"] false := by
  obtain ⟨fd, F⟩ := C.fd_NotRecord
  have z := xmkB_ok C.xmk_NotRecord
  refine ⟨⟨_, 1, fd, ["self", "name"], z.1, fnG_init1 (k := 0) F sc_NotRecord rfl (.inl rfl) (.inl rfl) n_self n_name, hr, fun s a us hK hl => ?_⟩, z.2⟩
  match us, hl with
  | [u0], _ =>
    obtain ⟨oc, od, dV, kV, doc, pm, an, cdv, ct, osl, rfl, lk, hcd, hD, hKw⟩ := F.ex
    rcases hD with ⟨_, rfl⟩ | ⟨e, _⟩
    · exact .of_eq rfl
    · exact absurd rfl e
theorem sc_Endless : FnScope ["self", "scale"] ["self", "scale"] (defScope st_Endless) := ⟨rfl, rfl, rfl, by decide +kernel, rfl, by decide +kernel, by decide +kernel⟩
theorem Cfg.fd_Endless {P : Program} {w : World} {K : PySem.W.Frag} {mg : Str → Option Value} {base : Heap} (C : Cfg P w K mg base) : ∃ fd, FunD K "__init__" "Endless.__init__" (defArgs st_Endless) (defBody st_Endless) (defScope st_Endless) [] [] (He.ma K (He.ga K (Str.ofString "Endless")) "__init__") fd := C.sd.def_ 26 (d := dd_Endless) rfl
theorem Cfg.xm_Endless {X : Cx} (C : Cfg X.prog X.w X.K X.mg X.base) (hr : RoomG 2 X.A) : ExMk X "Endless" ["scale"] := by
  obtain ⟨fd, F⟩ := C.fd_Endless
  have z := xmkB_ok C.xmk_Endless
  refine ⟨⟨_, 1, fd, ["self", "scale"], z.1, fnG_init1 (k := 0) F sc_Endless rfl (.inl rfl) (.inl rfl) n_self n_scale, hr, fun s a us hK hl => ?_⟩, z.2, by decide⟩
  refine (F.bindsA (fun _ _ _ _ _ _ us hl => match us, hl with | [_, _], _ => rfl)) s (a :: us) (by simp [hl])
theorem Cfg.xk_Endless {X : Cx} (C : Cfg X.prog X.w X.K X.mg X.base) (hr : RoomG 2 X.A) : ExMkK X "Endless" ["scale"] false := by
  obtain ⟨fd, F⟩ := C.fd_Endless
  have z := xmkB_ok C.xmk_Endless
  refine ⟨⟨_, 1, fd, ["self", "scale"], z.1, fnG_init1 (k := 0) F sc_Endless rfl (.inl rfl) (.inl rfl) n_self n_scale, hr, fun s a us hK hl => ?_⟩, z.2⟩
  match us, hl with
  | [u0], _ =>
    obtain ⟨oc, od, dV, kV, doc, pm, an, cdv, ct, osl, rfl, lk, hcd, hD, hKw⟩ := F.ex
    rcases hD with ⟨_, rfl⟩ | ⟨e, _⟩
    · exact .of_eq rfl
    · exact absurd rfl e
theorem sc_NoOffer : FnScope ["self", "at"] ["self", "at"] (defScope st_NoOffer) := ⟨rfl, rfl, rfl, by decide +kernel, rfl, by decide +kernel, by decide +kernel⟩
theorem Cfg.fd_NoOffer {P : Program} {w : World} {K : PySem.W.Frag} {mg : Str → Option Value} {base : Heap} (C : Cfg P w K mg base) : ∃ fd, FunD K "__init__" "NoOffer.__init__" (defArgs st_NoOffer) (defBody st_NoOffer) (defScope st_NoOffer) [] [] (He.ma K (He.ga K (Str.ofString "NoOffer")) "__init__") fd := C.sd.def_ 27 (d := dd_NoOffer) rfl
theorem Cfg.xm_NoOffer {X : Cx} (C : Cfg X.prog X.w X.K X.mg X.base) (hr : RoomG 2 X.A) : ExMk X "NoOffer" ["at"] := by
  obtain ⟨fd, F⟩ := C.fd_NoOffer
  have z := xmkB_ok C.xmk_NoOffer
  refine ⟨⟨_, 1, fd, ["self", "at"], z.1, fnG_init1 (k := 0) F sc_NoOffer rfl (.inl rfl) (.inl rfl) n_self n_at, hr, fun s a us hK hl => ?_⟩, z.2, by decide⟩
  refine (F.bindsA (fun _ _ _ _ _ _ us hl => match us, hl with | [_, _], _ => rfl)) s (a :: us) (by simp [hl])
theorem Cfg.xk_NoOffer {X : Cx} (C : Cfg X.prog X.w X.K X.mg X.base) (hr : RoomG 2 X.A) : ExMkK X "NoOffer" ["at"] false := by
  obtain ⟨fd, F⟩ := C.fd_NoOffer
  have z := xmkB_ok C.xmk_NoOffer
  refine ⟨⟨_, 1, fd, ["self", "at"], z.1, fnG_init1 (k := 0) F sc_NoOffer rfl (.inl rfl) (.inl rfl) n_self n_at, hr, fun s a us hK hl => ?_⟩, z.2⟩
  match us, hl with
  | [u0], _ =>
    obtain ⟨oc, od, dV, kV, doc, pm, an, cdv, ct, osl, rfl, lk, hcd, hD, hKw⟩ := F.ex
    rcases hD with ⟨_, rfl⟩ | ⟨e, _⟩
    · exact .of_eq rfl
    · exact absurd rfl e
theorem sc_NoOrder : FnScope ["self", "at"] ["self", "at"] (defScope st_NoOrder) := ⟨rfl, rfl, rfl, by decide +kernel, rfl, by decide +kernel, by decide +kernel⟩
theorem Cfg.fd_NoOrder {P : Program} {w : World} {K : PySem.W.Frag} {mg : Str → Option Value} {base : Heap} (C : Cfg P w K mg base) : ∃ fd, FunD K "__init__" "NoOrder.__init__" (defArgs st_NoOrder) (defBody st_NoOrder) (defScope st_NoOrder) [] [] (He.ma K (He.ga K (Str.ofString "NoOrder")) "__init__") fd := C.sd.def_ 28 (d := dd_NoOrder) rfl
theorem Cfg.xm_NoOrder {X : Cx} (C : Cfg X.prog X.w X.K X.mg X.base) (hr : RoomG 2 X.A) : ExMk X "NoOrder" ["at"] := by
  obtain ⟨fd, F⟩ := C.fd_NoOrder
  have z := xmkB_ok C.xmk_NoOrder
  refine ⟨⟨_, 1, fd, ["self", "at"], z.1, fnG_init1 (k := 0) F sc_NoOrder rfl (.inl rfl) (.inl rfl) n_self n_at, hr, fun s a us hK hl => ?_⟩, z.2, by decide⟩
  refine (F.bindsA (fun _ _ _ _ _ _ us hl => match us, hl with | [_, _], _ => rfl)) s (a :: us) (by simp [hl])
theorem Cfg.xk_NoOrder {X : Cx} (C : Cfg X.prog X.w X.K X.mg X.base) (hr : RoomG 2 X.A) : ExMkK X "NoOrder" ["at"] false := by
  obtain ⟨fd, F⟩ := C.fd_NoOrder
  have z := xmkB_ok C.xmk_NoOrder
  refine ⟨⟨_, 1, fd, ["self", "at"], z.1, fnG_init1 (k := 0) F sc_NoOrder rfl (.inl rfl) (.inl rfl) n_self n_at, hr, fun s a us hK hl => ?_⟩, z.2⟩
  match us, hl with
  | [u0], _ =>
    obtain ⟨oc, od, dV, kV, doc, pm, an, cdv, ct, osl, rfl, lk, hcd, hD, hKw⟩ := F.ex
    rcases hD with ⟨_, rfl⟩ | ⟨e, _⟩
    · exact .of_eq rfl
    · exact absurd rfl e
theorem sc_BadText : FnScope ["self", "at"] ["self", "at"] (defScope st_BadText) := ⟨rfl, rfl, rfl, by decide +kernel, rfl, by decide +kernel, by decide +kernel⟩
theorem Cfg.fd_BadText {P : Program} {w : World} {K : PySem.W.Frag} {mg : Str → Option Value} {base : Heap} (C : Cfg P w K mg base) : ∃ fd, FunD K "__init__" "BadText.__init__" (defArgs st_BadText) (defBody st_BadText) (defScope st_BadText) [] [] (He.ma K (He.ga K (Str.ofString "BadText")) "__init__") fd := C.sd.def_ 29 (d := dd_BadText) rfl
theorem Cfg.xm_BadText {X : Cx} (C : Cfg X.prog X.w X.K X.mg X.base) (hr : RoomG 2 X.A) : ExMk X "BadText" ["at"] := by
  obtain ⟨fd, F⟩ := C.fd_BadText
  have z := xmkB_ok C.xmk_BadText
  refine ⟨⟨_, 1, fd, ["self", "at"], z.1, fnG_init1 (k := 0) F sc_BadText rfl (.inl rfl) (.inl rfl) n_self n_at, hr, fun s a us hK hl => ?_⟩, z.2, by decide⟩
  refine (F.bindsA (fun _ _ _ _ _ _ us hl => match us, hl with | [_, _], _ => rfl)) s (a :: us) (by simp [hl])
theorem Cfg.xk_BadText {X : Cx} (C : Cfg X.prog X.w X.K X.mg X.base) (hr : RoomG 2 X.A) : ExMkK X "BadText" ["at"] false := by
  obtain ⟨fd, F⟩ := C.fd_BadText
  have z := xmkB_ok C.xmk_BadText
  refine ⟨⟨_, 1, fd, ["self", "at"], z.1, fnG_init1 (k := 0) F sc_BadText rfl (.inl rfl) (.inl rfl) n_self n_at, hr, fun s a us hK hl => ?_⟩, z.2⟩
  match us, hl with
  | [u0], _ =>
    obtain ⟨oc, od, dV, kV, doc, pm, an, cdv, ct, osl, rfl, lk, hcd, hD, hKw⟩ := F.ex
    rcases hD with ⟨_, rfl⟩ | ⟨e, _⟩
    · exact .of_eq rfl
    · exact absurd rfl e
end Gk08
end

section
set_option maxHeartbeats 0
namespace Gk08
open PySem PySem.Spec PyProof.Rows L2 MP
noncomputable def b__law_pen : MP.Env → Rs Fl := (retS (lstS (evCons (opL listD (evCons (slTo (rdVar 0) (cI 63)) nilA)) (evCons (cI 0) (evCons (cI 0) nilA)))))
noncomputable def f__law_pen : Fn := runF 1 1 b__law_pen
theorem sc__law_pen : FnScope ["script"] ["script"] (defScope st__law_pen) := ⟨rfl, rfl, rfl, by decide +kernel, rfl, by decide +kernel, by decide +kernel⟩
theorem vis__law_pen_0 : Vis (defScope st__law_pen) "script" := .inl (by decide +kernel)
theorem body__law_pen {P : Program} {w : World} {K : PySem.W.Frag} {mg : Str → Option Value} {base : Heap} {f : Addr} (C : Cfg P w K mg base) (cdv : Value) (A : Around) (outer : List PySem.Env) (s : Shared) (H : Hp) (E : XK) (vs : List V) (hr : RoomG 0 (A.deeper (envOfC "_law_pen" (defScope st__law_pen) s.heap.objs.size f cdv))) :
    SSs (cxOf (CX P w) P w K mg base ["script"] "_law_pen" (defScope st__law_pen) f cdv A outer s H E) (fun c d _ H' => E c d H') vs (defBody st__law_pen) b__law_pen := by
  let Y := cxOf (CX P w) P w K mg base ["script"] "_law_pen" (defScope st__law_pen) f cdv A outer s H E
  let Wy : WX := fun c d _ H' => E c d H'
  have tk : Takes Y Wy := takes_of rfl rfl rfl rfl
  have hp : PassesOwn (model Y.prog Y.w) Y.A Y.env Y.xe := passes_of rfl
  have sc := sc__law_pen
  have v0 : ∀ {pos : Pos}, SE Y Wy vs (.Name "script" pos) (rdVar 0) := fun {pos} => se_var rfl vis__law_pen_0 n_script.1 n_script.2
  exact (sss_one (g_ret (g_lst (g_cons (se_callT call_listB rfl C.fre_list (by decide +kernel) (g_cons (se_slTo v0 g_int) g_nil)) (g_cons g_int (g_cons g_int g_nil))))))
theorem Cfg.ok__law_pen {P : Program} {w : World} {K : PySem.W.Frag} {mg : Str → Option Value} {base : Heap} (C : Cfg P w K mg base) : FunK P w K mg base 1 1 (Str.ofString "_law_pen") f__law_pen := by
  obtain ⟨fd, F⟩ := C.sd.def_ 4 (d := dd__law_pen) rfl
  exact funK_of (N := ["script"]) (ps := ["script"]) F C.glo__law_pen sc__law_pen rfl (by decide) (fun _ _ _ _ _ _ us hl => match us, hl with | [_], _ => rfl) (fun cdv A outer s H E vs hr => body__law_pen C cdv A outer s H E vs hr)
end Gk08
end

section
set_option maxHeartbeats 0
namespace Gk08
open PySem PySem.Spec PyProof.Rows L2 MP
noncomputable def b__law_draw : MP.Env → Rs Fl := (sqS (ifS (cmpS .Gt (ixS (rdVar 0) (cI 2)) (cI 0)) (sqS (asgS (binS .Mod (opL intD (evCons (ixS (rdVar 0) (cI 2)) nilA)) (rdVar 1)) (stName 2))
  (sqS (asgS (binS .FloorDiv (opL intD (evCons (ixS (rdVar 0) (cI 2)) nilA)) (rdVar 1)) (gSubS (rdVar 0) (cI 2)))
  (retS (rdVar 2)))) nxS)
  (sqS (asgS (ixS (rdVar 0) (cI 1)) (stName 3))
  (sqS (asgS (binS .Add (rdVar 3) (cI 1)) (gSubS (rdVar 0) (cI 1)))
  (sqS (asgS (binS .Add (binS .Mult (cI 71379) (rdVar 3)) (cI 675)) (stName 4))
  (sqS (ifS (cmpS .NotEq (ixS (rdVar 0) (cI 0)) (lstS nilA)) (asgS (ixS (ixS (rdVar 0) (cI 0)) (binS .Mod (opL intD (evCons (rdVar 3) nilA)) (opL lenD (evCons (ixS (rdVar 0) (cI 0)) nilA)))) (stName 4)) nxS)
  (sqS (ifS (andB (cmpS .Lt (rdVar 3) (opL lenD (evCons (ixS (rdVar 0) (cI 0)) nilA))) (cmpS .GtE (opL absD (evCons (rdVar 4) nilA)) (binS .Pow (cI 10) (cI 18)))) (sqS (asgS (binS .Add (binS .Mult (cI 2) (binS .Sub (opL absD (evCons (rdVar 4) nilA)) (binS .Pow (cI 10) (cI 18)))) (opL intD (evCons (cmpV .Lt (rdVar 4) (cI 0)) nilA))) (stName 5))
  (sqS (asgS (binS .FloorDiv (opL intD (evCons (rdVar 5) nilA)) (rdVar 1)) (gSubS (rdVar 0) (cI 2)))
  (retS (binS .Mod (opL intD (evCons (rdVar 5) nilA)) (rdVar 1))))) nxS)
  (sqS (asgS (binS .Mod (opL intD (evCons (binS .Pow (binS .Add (binS .Add (binS .Mod (opL intD (evCons (rdVar 4) nilA)) (cI 2147483563)) (binS .Mult (cI 64317) (rdVar 3))) (cI 223)) (cI 5)) nilA)) (cI 2147483629)) (stName 6))
  (sqS (asgS (binS .Mod (opL intD (evCons (binS .Pow (binS .Add (binS .Add (binS .Mult (rdVar 6) (binS .Add (binS .Mult (cI 2) (rdVar 3)) (cI 483))) (binS .Mult (binS .Mult (cI 58235) (rdVar 3)) (rdVar 3))) (cI 49)) (cI 3)) nilA)) (cI 2147483587)) (stName 6))
  (retS (binS .Mod (opL intD (evCons (binS .FloorDiv (rdVar 6) (cI 32)) nilA)) (rdVar 1)))))))))))
noncomputable def f__law_draw : Fn := runF 7 2 b__law_draw
theorem sc__law_draw : FnScope ["pen", "many", "digit", "taken", "cell", "great", "mixed"] ["pen", "many"] (defScope st__law_draw) := ⟨rfl, rfl, rfl, by decide +kernel, rfl, by decide +kernel, by decide +kernel⟩
theorem vis__law_draw_0 : Vis (defScope st__law_draw) "pen" := .inl (by decide +kernel)
theorem vis__law_draw_1 : Vis (defScope st__law_draw) "many" := .inl (by decide +kernel)
theorem vis__law_draw_2 : Vis (defScope st__law_draw) "digit" := .inl (by decide +kernel)
theorem vis__law_draw_3 : Vis (defScope st__law_draw) "taken" := .inl (by decide +kernel)
theorem vis__law_draw_4 : Vis (defScope st__law_draw) "cell" := .inl (by decide +kernel)
theorem vis__law_draw_5 : Vis (defScope st__law_draw) "great" := .inl (by decide +kernel)
theorem vis__law_draw_6 : Vis (defScope st__law_draw) "mixed" := .inl (by decide +kernel)
theorem body__law_draw {P : Program} {w : World} {K : PySem.W.Frag} {mg : Str → Option Value} {base : Heap} {f : Addr} (C : Cfg P w K mg base) (cdv : Value) (A : Around) (outer : List PySem.Env) (s : Shared) (H : Hp) (E : XK) (vs : List V) (hr : RoomG 0 (A.deeper (envOfC "_law_draw" (defScope st__law_draw) s.heap.objs.size f cdv))) :
    SSs (cxOf (CX P w) P w K mg base ["pen", "many", "digit", "taken", "cell", "great", "mixed"] "_law_draw" (defScope st__law_draw) f cdv A outer s H E) (fun c d _ H' => E c d H') vs (defBody st__law_draw) b__law_draw := by
  let Y := cxOf (CX P w) P w K mg base ["pen", "many", "digit", "taken", "cell", "great", "mixed"] "_law_draw" (defScope st__law_draw) f cdv A outer s H E
  let Wy : WX := fun c d _ H' => E c d H'
  have tk : Takes Y Wy := takes_of rfl rfl rfl rfl
  have hp : PassesOwn (model Y.prog Y.w) Y.A Y.env Y.xe := passes_of rfl
  have sc := sc__law_draw
  have v0 : ∀ {pos : Pos}, SE Y Wy vs (.Name "pen" pos) (rdVar 0) := fun {pos} => se_var rfl vis__law_draw_0 n_pen.1 n_pen.2
  have v1 : ∀ {pos : Pos}, SE Y Wy vs (.Name "many" pos) (rdVar 1) := fun {pos} => se_var rfl vis__law_draw_1 n_many.1 n_many.2
  have v2 : ∀ {pos : Pos}, SE Y Wy vs (.Name "digit" pos) (rdVar 2) := fun {pos} => se_var rfl vis__law_draw_2 n_digit.1 n_digit.2
  have v3 : ∀ {pos : Pos}, SE Y Wy vs (.Name "taken" pos) (rdVar 3) := fun {pos} => se_var rfl vis__law_draw_3 n_taken.1 n_taken.2
  have v4 : ∀ {pos : Pos}, SE Y Wy vs (.Name "cell" pos) (rdVar 4) := fun {pos} => se_var rfl vis__law_draw_4 n_cell.1 n_cell.2
  have v5 : ∀ {pos : Pos}, SE Y Wy vs (.Name "great" pos) (rdVar 5) := fun {pos} => se_var rfl vis__law_draw_5 n_great.1 n_great.2
  have v6 : ∀ {pos : Pos}, SE Y Wy vs (.Name "mixed" pos) (rdVar 6) := fun {pos} => se_var rfl vis__law_draw_6 n_mixed.1 n_mixed.2
  exact (sss_cons (g_if (g_cmpT (op := .Gt) hr.u65 (g_ix hr.u1 v0 g_int) g_int) (sss_cons (ss_set (i := 2) sc.nd rfl (.inl rfl) (g_bin (op := .Mod) (se_callT call_intB rfl C.fre_int (by decide +kernel) (g_cons (g_ix hr.u1 v0 g_int) g_nil)) v1))
  (sss_cons (ss_asg (g_bin (op := .FloorDiv) (se_callT call_intB rfl C.fre_int (by decide +kernel) (g_cons (g_ix hr.u1 v0 g_int) g_nil)) v1) (sg_sub hr.u1 v0 g_int))
  (sss_one (g_ret v2)))) g_end)
  (sss_cons (ss_set (i := 3) sc.nd rfl (.inl rfl) (g_ix hr.u1 v0 g_int))
  (sss_cons (ss_asg (g_bin (op := .Add) v3 g_int) (sg_sub hr.u1 v0 g_int))
  (sss_cons (ss_set (i := 4) sc.nd rfl (.inl rfl) (g_bin (op := .Add) (g_bin (op := .Mult) g_int v3) g_int))
  (sss_cons (g_if (g_cmpT (op := .NotEq) hr.u65 (g_ix hr.u1 v0 g_int) (g_lst g_nil)) (sss_one (ss_set (i := 4) sc.nd rfl (.inl rfl) (g_ix hr.u1 (g_ix hr.u1 v0 g_int) (g_bin (op := .Mod) (se_callT call_intB rfl C.fre_int (by decide +kernel) (g_cons v3 g_nil)) (se_callB call_lenB rfl C.fre_len (by decide +kernel) (g_cons (g_ix hr.u1 v0 g_int) g_nil)))))) g_end)
  (sss_cons (g_if (SW.st (sw_and (g_cmpT (op := .Lt) hr.u65 v3 (se_callB call_lenB rfl C.fre_len (by decide +kernel) (g_cons (g_ix hr.u1 v0 g_int) g_nil))) (sw_and1 (g_cmpT (op := .GtE) hr.u65 (se_callB call_absB rfl C.fre_abs (by decide +kernel) (g_cons v4 g_nil)) (g_bin (op := .Pow) g_int g_int))))) (sss_cons (ss_set (i := 5) sc.nd rfl (.inl rfl) (g_bin (op := .Add) (g_bin (op := .Mult) g_int (g_bin (op := .Sub) (se_callB call_absB rfl C.fre_abs (by decide +kernel) (g_cons v4 g_nil)) (g_bin (op := .Pow) g_int g_int))) (se_callT call_intB rfl C.fre_int (by decide +kernel) (g_cons (g_cmp (op := .Lt) hr.u65 v4 g_int) g_nil))))
  (sss_cons (ss_asg (g_bin (op := .FloorDiv) (se_callT call_intB rfl C.fre_int (by decide +kernel) (g_cons v5 g_nil)) v1) (sg_sub hr.u1 v0 g_int))
  (sss_one (g_ret (g_bin (op := .Mod) (se_callT call_intB rfl C.fre_int (by decide +kernel) (g_cons v5 g_nil)) v1))))) g_end)
  (sss_cons (ss_set (i := 6) sc.nd rfl (.inl rfl) (g_bin (op := .Mod) (se_callT call_intB rfl C.fre_int (by decide +kernel) (g_cons (g_bin (op := .Pow) (g_bin (op := .Add) (g_bin (op := .Add) (g_bin (op := .Mod) (se_callT call_intB rfl C.fre_int (by decide +kernel) (g_cons v4 g_nil)) g_int) (g_bin (op := .Mult) g_int v3)) g_int) g_int) g_nil)) g_int))
  (sss_cons (ss_set (i := 6) sc.nd rfl (.inl rfl) (g_bin (op := .Mod) (se_callT call_intB rfl C.fre_int (by decide +kernel) (g_cons (g_bin (op := .Pow) (g_bin (op := .Add) (g_bin (op := .Add) (g_bin (op := .Mult) v6 (g_bin (op := .Add) (g_bin (op := .Mult) g_int v3) g_int)) (g_bin (op := .Mult) (g_bin (op := .Mult) g_int v3) v3)) g_int) g_int) g_nil)) g_int))
  (sss_one (g_ret (g_bin (op := .Mod) (se_callT call_intB rfl C.fre_int (by decide +kernel) (g_cons (g_bin (op := .FloorDiv) v6 g_int) g_nil)) v1)))))))))))
theorem Cfg.ok__law_draw {P : Program} {w : World} {K : PySem.W.Frag} {mg : Str → Option Value} {base : Heap} (C : Cfg P w K mg base) : FunK P w K mg base 1 2 (Str.ofString "_law_draw") f__law_draw := by
  obtain ⟨fd, F⟩ := C.sd.def_ 5 (d := dd__law_draw) rfl
  exact funK_of (N := ["pen", "many", "digit", "taken", "cell", "great", "mixed"]) (ps := ["pen", "many"]) F C.glo__law_draw sc__law_draw rfl (by decide) (fun _ _ _ _ _ _ us hl => match us, hl with | [_, _], _ => rfl) (fun cdv A outer s H E vs hr => body__law_draw C cdv A outer s H E vs hr)
end Gk08
end

section
set_option maxHeartbeats 0
namespace Gk08
open PySem PySem.Spec PyProof.Rows L2 MP
noncomputable def b__law_pick : MP.Env → Rs Fl := (retS (ixS (rdVar 1) (callS f__law_draw (evCons (rdVar 0) (evCons (opL lenD (evCons (rdVar 1) nilA)) nilA)))))
noncomputable def f__law_pick : Fn := runF 2 2 b__law_pick
theorem sc__law_pick : FnScope ["pen", "some"] ["pen", "some"] (defScope st__law_pick) := ⟨rfl, rfl, rfl, by decide +kernel, rfl, by decide +kernel, by decide +kernel⟩
theorem vis__law_pick_0 : Vis (defScope st__law_pick) "pen" := .inl (by decide +kernel)
theorem vis__law_pick_1 : Vis (defScope st__law_pick) "some" := .inl (by decide +kernel)
theorem body__law_pick {P : Program} {w : World} {K : PySem.W.Frag} {mg : Str → Option Value} {base : Heap} {f : Addr} (C : Cfg P w K mg base) (cdv : Value) (A : Around) (outer : List PySem.Env) (s : Shared) (H : Hp) (E : XK) (vs : List V) (hr : RoomG 1 (A.deeper (envOfC "_law_pick" (defScope st__law_pick) s.heap.objs.size f cdv))) :
    SSs (cxOf (CX P w) P w K mg base ["pen", "some"] "_law_pick" (defScope st__law_pick) f cdv A outer s H E) (fun c d _ H' => E c d H') vs (defBody st__law_pick) b__law_pick := by
  let Y := cxOf (CX P w) P w K mg base ["pen", "some"] "_law_pick" (defScope st__law_pick) f cdv A outer s H E
  let Wy : WX := fun c d _ H' => E c d H'
  have tk : Takes Y Wy := takes_of rfl rfl rfl rfl
  have hp : PassesOwn (model Y.prog Y.w) Y.A Y.env Y.xe := passes_of rfl
  have sc := sc__law_pick
  have v0 : ∀ {pos : Pos}, SE Y Wy vs (.Name "pen" pos) (rdVar 0) := fun {pos} => se_var rfl vis__law_pick_0 n_pen.1 n_pen.2
  have v1 : ∀ {pos : Pos}, SE Y Wy vs (.Name "some" pos) (rdVar 1) := fun {pos} => se_var rfl vis__law_pick_1 n_some.1 n_some.2
  exact (sss_one (g_ret (g_ix hr.u1 v1 (se_callF (C.ok__law_draw) tk hr (by decide) rfl (g_cons v0 (g_cons (se_callB call_lenB rfl C.fre_len (by decide +kernel) (g_cons v1 g_nil)) g_nil))))))
theorem Cfg.ok__law_pick {P : Program} {w : World} {K : PySem.W.Frag} {mg : Str → Option Value} {base : Heap} (C : Cfg P w K mg base) : FunK P w K mg base 2 2 (Str.ofString "_law_pick") f__law_pick := by
  obtain ⟨fd, F⟩ := C.sd.def_ 6 (d := dd__law_pick) rfl
  exact funK_of (N := ["pen", "some"]) (ps := ["pen", "some"]) F C.glo__law_pick sc__law_pick rfl (by decide) (fun _ _ _ _ _ _ us hl => match us, hl with | [_, _], _ => rfl) (fun cdv A outer s H E vs hr => body__law_pick C cdv A outer s H E vs hr)
end Gk08
end

section
set_option maxHeartbeats 0
namespace Gk08
open PySem PySem.Spec PyProof.Rows L2 MP
noncomputable def b__law_value : MP.Env → Rs Fl := (sqS (asgS (lstS (evCons cN (evCons (cB true) (evCons (cB false) (evCons (cI 0) (evCons (negS (cI 3)) (evCons (binS .Pow (cI 10) (cI 40)) (evCons (cS "") (evCons (cS "size int") (evCons (cS "a.b") (evCons (tupS nilA) (evCons (tupS (evCons (cS "p") (evCons (cS "q") nilA))) (evCons (lstS (evCons (cI 1) (evCons cN nilA))) (evCons (dispS (evCons (cS "a") (evCons (tupS (evCons (cI 1) (evCons (cI 2) nilA))) nilA))) nilA)))))))))))))) (stName 1))
  (retS (callS f__law_pick (evCons (rdVar 0) (evCons (binS .Add (rdVar 1) (lstS (evCons (callS f__law_draw (evCons (rdVar 0) (evCons (binS .Pow (cI 10) (cI 6)) nilA))) (evCons (lstS (evCons (lstS nilA) (evCons (fun ρ => .ok (.val (ow (.dct []))) ρ) nilA))) (evCons (cS "~") (evCons (tupS (evCons (cS "byte") (evCons (cS "align k") (evCons (negS (cI 1)) nilA)))) nilA)))))) nilA)))))
noncomputable def f__law_value : Fn := runF 2 1 b__law_value
theorem sc__law_value : FnScope ["pen", "some"] ["pen"] (defScope st__law_value) := ⟨rfl, rfl, rfl, by decide +kernel, rfl, by decide +kernel, by decide +kernel⟩
theorem vis__law_value_0 : Vis (defScope st__law_value) "pen" := .inl (by decide +kernel)
theorem vis__law_value_1 : Vis (defScope st__law_value) "some" := .inl (by decide +kernel)
theorem body__law_value {P : Program} {w : World} {K : PySem.W.Frag} {mg : Str → Option Value} {base : Heap} {f : Addr} (C : Cfg P w K mg base) (cdv : Value) (A : Around) (outer : List PySem.Env) (s : Shared) (H : Hp) (E : XK) (vs : List V) (hr : RoomG 2 (A.deeper (envOfC "_law_value" (defScope st__law_value) s.heap.objs.size f cdv))) :
    SSs (cxOf (CX P w) P w K mg base ["pen", "some"] "_law_value" (defScope st__law_value) f cdv A outer s H E) (fun c d _ H' => E c d H') vs (defBody st__law_value) b__law_value := by
  let Y := cxOf (CX P w) P w K mg base ["pen", "some"] "_law_value" (defScope st__law_value) f cdv A outer s H E
  let Wy : WX := fun c d _ H' => E c d H'
  have tk : Takes Y Wy := takes_of rfl rfl rfl rfl
  have hp : PassesOwn (model Y.prog Y.w) Y.A Y.env Y.xe := passes_of rfl
  have sc := sc__law_value
  have v0 : ∀ {pos : Pos}, SE Y Wy vs (.Name "pen" pos) (rdVar 0) := fun {pos} => se_var rfl vis__law_value_0 n_pen.1 n_pen.2
  have v1 : ∀ {pos : Pos}, SE Y Wy vs (.Name "some" pos) (rdVar 1) := fun {pos} => se_var rfl vis__law_value_1 n_some.1 n_some.2
  exact (sss_cons (ss_set (i := 1) sc.nd rfl (.inl rfl) (g_lst (g_cons g_non (g_cons g_bl (g_cons g_bl (g_cons g_int (g_cons (g_neg g_int) (g_cons (g_bin (op := .Pow) g_int g_int) (g_cons g_str (g_cons g_str (g_cons g_str (g_cons (g_tup g_nil) (g_cons (g_tup (g_cons g_str (g_cons g_str g_nil))) (g_cons (g_lst (g_cons g_int (g_cons g_non g_nil))) (g_cons (se_dict (pps_cons (pe_w _ _) (pe_w _ _) pps_nil) (sd_cons g_str (g_tup (g_cons g_int (g_cons g_int g_nil))) sd_nil)) g_nil)))))))))))))))
  (sss_one (g_ret (se_callF (C.ok__law_pick) tk hr (by decide) rfl (g_cons v0 (g_cons (g_bin (op := .Add) v1 (g_lst (g_cons (se_callF (C.ok__law_draw) tk hr (by decide) rfl (g_cons v0 (g_cons (g_bin (op := .Pow) g_int g_int) g_nil))) (g_cons (g_lst (g_cons (g_lst g_nil) (g_cons se_dict0 g_nil))) (g_cons g_str (g_cons (g_tup (g_cons g_str (g_cons g_str (g_cons (g_neg g_int) g_nil)))) g_nil)))))) g_nil))))))
theorem Cfg.ok__law_value {P : Program} {w : World} {K : PySem.W.Frag} {mg : Str → Option Value} {base : Heap} (C : Cfg P w K mg base) : FunK P w K mg base 3 1 (Str.ofString "_law_value") f__law_value := by
  obtain ⟨fd, F⟩ := C.sd.def_ 7 (d := dd__law_value) rfl
  exact funK_of (N := ["pen", "some"]) (ps := ["pen"]) F C.glo__law_value sc__law_value rfl (by decide) (fun _ _ _ _ _ _ us hl => match us, hl with | [_], _ => rfl) (fun cdv A outer s H E vs hr => body__law_value C cdv A outer s H E vs hr)
end Gk08
end

section
set_option maxHeartbeats 0
namespace Gk08
open PySem PySem.Spec PyProof.Rows L2 MP
noncomputable def b__law_first_rows : MP.Env → Rs Fl := (sqS (asgS (lstS (evCons (tupS (evCons (excS "BadName" ["name"] (evCons (rdVar 0) nilA)) (evCons (attrS aC_name aK_name aE_name "name" (excS "BadName" ["name"] (evCons (rdVar 0) nilA))) (evCons (rdVar 0) nilA)))) (evCons (tupS (evCons (excS "BadTimes" ["value"] (evCons (rdVar 1) nilA)) (evCons (attrS aC_value aK_value aE_value "value" (excS "BadTimes" ["value"] (evCons (rdVar 1) nilA))) (evCons (rdVar 1) nilA)))) nilA))) (stName 2))
  (sqS (asgS (binS .Add (rdVar 2) (lstS (evCons (tupS (evCons (excS "BadParts" ["at"] (evCons (rdVar 0) nilA)) (evCons (attrS aC_at aK_at aE_at "at" (excS "BadParts" ["at"] (evCons (rdVar 0) nilA))) (evCons (rdVar 0) nilA)))) (evCons (tupS (evCons (excS "NoName" ["name"] (evCons (rdVar 1) nilA)) (evCons (attrS aC_name aK_name aE_name "name" (excS "NoName" ["name"] (evCons (rdVar 1) nilA))) (evCons (rdVar 1) nilA)))) nilA)))) (stName 2))
  (sqS (asgS (excS "NoPath" ["path", "at"] (evCons (rdVar 0) (evCons (rdVar 1) nilA))) (stName 3))
  (sqS (exprS (appS (rdVar 2) (tupS (evCons (rdVar 3) (evCons (lstS (evCons (attrS aC_path aK_path aE_path "path" (rdVar 3)) (evCons (attrS aC_at aK_at aE_at "at" (rdVar 3)) nilA))) (evCons (lstS (evCons (rdVar 0) (evCons (rdVar 1) nilA))) nilA))))))
  (sqS (asgS (binS .Add (rdVar 2) (lstS (evCons (tupS (evCons (excS "Taken" ["name"] (evCons (rdVar 0) nilA)) (evCons (attrS aC_name aK_name aE_name "name" (excS "Taken" ["name"] (evCons (rdVar 0) nilA))) (evCons (rdVar 0) nilA)))) (evCons (tupS (evCons (excS "Ring" ["way"] (evCons (rdVar 1) nilA)) (evCons (attrS aC_way aK_way aE_way "way" (excS "Ring" ["way"] (evCons (rdVar 1) nilA))) (evCons (rdVar 1) nilA)))) nilA)))) (stName 2))
  (sqS (asgS (binS .Add (rdVar 2) (lstS (evCons (tupS (evCons (excS "InUse" ["name"] (evCons (rdVar 0) nilA)) (evCons (attrS aC_name aK_name aE_name "name" (excS "InUse" ["name"] (evCons (rdVar 0) nilA))) (evCons (rdVar 0) nilA)))) (evCons (tupS (evCons (excS "Unresolved" ["name"] (evCons (rdVar 1) nilA)) (evCons (attrS aC_name aK_name aE_name "name" (excS "Unresolved" ["name"] (evCons (rdVar 1) nilA))) (evCons (rdVar 1) nilA)))) nilA)))) (stName 2))
  (sqS (asgS (binS .Add (rdVar 2) (lstS (evCons (tupS (evCons (excS "NoMachine" ["scale"] (evCons (rdVar 0) nilA)) (evCons (attrS aC_scale aK_scale aE_scale "scale" (excS "NoMachine" ["scale"] (evCons (rdVar 0) nilA))) (evCons (rdVar 0) nilA)))) (evCons (tupS (evCons (excS "BadValue" ["path"] (evCons (rdVar 1) nilA)) (evCons (attrS aC_path aK_path aE_path "path" (excS "BadValue" ["path"] (evCons (rdVar 1) nilA))) (evCons (rdVar 1) nilA)))) nilA)))) (stName 2))
  (sqS (asgS (excS "TooLarge" ["what", "most"] (evCons (rdVar 1) (evCons (rdVar 0) nilA))) (stName 3))
  (retS (binS .Add (rdVar 2) (lstS (evCons (tupS (evCons (rdVar 3) (evCons (lstS (evCons (attrS aC_what aK_what aE_what "what" (rdVar 3)) (evCons (attrS aC_most aK_most aE_most "most" (rdVar 3)) nilA))) (evCons (lstS (evCons (rdVar 1) (evCons (rdVar 0) nilA))) nilA)))) nilA))))))))))))
noncomputable def f__law_first_rows : Fn := runF 4 2 b__law_first_rows
theorem sc__law_first_rows : FnScope ["one", "two", "found", "error"] ["one", "two"] (defScope st__law_first_rows) := ⟨rfl, rfl, rfl, by decide +kernel, rfl, by decide +kernel, by decide +kernel⟩
theorem vis__law_first_rows_0 : Vis (defScope st__law_first_rows) "one" := .inl (by decide +kernel)
theorem vis__law_first_rows_1 : Vis (defScope st__law_first_rows) "two" := .inl (by decide +kernel)
theorem vis__law_first_rows_2 : Vis (defScope st__law_first_rows) "found" := .inl (by decide +kernel)
theorem vis__law_first_rows_3 : Vis (defScope st__law_first_rows) "error" := .inl (by decide +kernel)
theorem body__law_first_rows {P : Program} {w : World} {K : PySem.W.Frag} {mg : Str → Option Value} {base : Heap} {f : Addr} (C : Cfg P w K mg base) (cdv : Value) (A : Around) (outer : List PySem.Env) (s : Shared) (H : Hp) (E : XK) (vs : List V) (hr : RoomG 2 (A.deeper (envOfC "_law_first_rows" (defScope st__law_first_rows) s.heap.objs.size f cdv))) :
    SSs (cxOf (CX P w) P w K mg base ["one", "two", "found", "error"] "_law_first_rows" (defScope st__law_first_rows) f cdv A outer s H E) (fun c d _ H' => E c d H') vs (defBody st__law_first_rows) b__law_first_rows := by
  let Y := cxOf (CX P w) P w K mg base ["one", "two", "found", "error"] "_law_first_rows" (defScope st__law_first_rows) f cdv A outer s H E
  let Wy : WX := fun c d _ H' => E c d H'
  have tk : Takes Y Wy := takes_of rfl rfl rfl rfl
  have hp : PassesOwn (model Y.prog Y.w) Y.A Y.env Y.xe := passes_of rfl
  have sc := sc__law_first_rows
  have v0 : ∀ {pos : Pos}, SE Y Wy vs (.Name "one" pos) (rdVar 0) := fun {pos} => se_var rfl vis__law_first_rows_0 n_one.1 n_one.2
  have v1 : ∀ {pos : Pos}, SE Y Wy vs (.Name "two" pos) (rdVar 1) := fun {pos} => se_var rfl vis__law_first_rows_1 n_two.1 n_two.2
  have v2 : ∀ {pos : Pos}, SE Y Wy vs (.Name "found" pos) (rdVar 2) := fun {pos} => se_var rfl vis__law_first_rows_2 n_found.1 n_found.2
  have v3 : ∀ {pos : Pos}, SE Y Wy vs (.Name "error" pos) (rdVar 3) := fun {pos} => se_var rfl vis__law_first_rows_3 n_error.1 n_error.2
  exact (sss_cons (ss_set (i := 2) sc.nd rfl (.inl rfl) (g_lst (g_cons (g_tup (g_cons (se_exc tk (C.xm_BadName (hr.mono (by decide))) rfl C.glo_BadName (g_cons v0 g_nil)) (g_cons (g_attr C.aC_name C.aK_name C.aE_name (se_exc tk (C.xm_BadName (hr.mono (by decide))) rfl C.glo_BadName (g_cons v0 g_nil))) (g_cons v0 g_nil)))) (g_cons (g_tup (g_cons (se_exc tk (C.xm_BadTimes (hr.mono (by decide))) rfl C.glo_BadTimes (g_cons v1 g_nil)) (g_cons (g_attr C.aC_value C.aK_value C.aE_value (se_exc tk (C.xm_BadTimes (hr.mono (by decide))) rfl C.glo_BadTimes (g_cons v1 g_nil))) (g_cons v1 g_nil)))) g_nil))))
  (sss_cons (ss_set (i := 2) sc.nd rfl (.inl rfl) (g_bin (op := .Add) v2 (g_lst (g_cons (g_tup (g_cons (se_exc tk (C.xm_BadParts (hr.mono (by decide))) rfl C.glo_BadParts (g_cons v0 g_nil)) (g_cons (g_attr C.aC_at C.aK_at C.aE_at (se_exc tk (C.xm_BadParts (hr.mono (by decide))) rfl C.glo_BadParts (g_cons v0 g_nil))) (g_cons v0 g_nil)))) (g_cons (g_tup (g_cons (se_exc tk (C.xm_NoName (hr.mono (by decide))) rfl C.glo_NoName (g_cons v1 g_nil)) (g_cons (g_attr C.aC_name C.aK_name C.aE_name (se_exc tk (C.xm_NoName (hr.mono (by decide))) rfl C.glo_NoName (g_cons v1 g_nil))) (g_cons v1 g_nil)))) g_nil)))))
  (sss_cons (ss_set (i := 3) sc.nd rfl (.inl rfl) (se_exc tk (C.xm_NoPath (hr.mono (by decide))) rfl C.glo_NoPath (g_cons v0 (g_cons v1 g_nil))))
  (sss_cons (g_expr (se_append v2 (g_tup (g_cons v3 (g_cons (g_lst (g_cons (g_attr C.aC_path C.aK_path C.aE_path v3) (g_cons (g_attr C.aC_at C.aK_at C.aE_at v3) g_nil))) (g_cons (g_lst (g_cons v0 (g_cons v1 g_nil))) g_nil))))))
  (sss_cons (ss_set (i := 2) sc.nd rfl (.inl rfl) (g_bin (op := .Add) v2 (g_lst (g_cons (g_tup (g_cons (se_exc tk (C.xm_Taken (hr.mono (by decide))) rfl C.glo_Taken (g_cons v0 g_nil)) (g_cons (g_attr C.aC_name C.aK_name C.aE_name (se_exc tk (C.xm_Taken (hr.mono (by decide))) rfl C.glo_Taken (g_cons v0 g_nil))) (g_cons v0 g_nil)))) (g_cons (g_tup (g_cons (se_exc tk (C.xm_Ring (hr.mono (by decide))) rfl C.glo_Ring (g_cons v1 g_nil)) (g_cons (g_attr C.aC_way C.aK_way C.aE_way (se_exc tk (C.xm_Ring (hr.mono (by decide))) rfl C.glo_Ring (g_cons v1 g_nil))) (g_cons v1 g_nil)))) g_nil)))))
  (sss_cons (ss_set (i := 2) sc.nd rfl (.inl rfl) (g_bin (op := .Add) v2 (g_lst (g_cons (g_tup (g_cons (se_exc tk (C.xm_InUse (hr.mono (by decide))) rfl C.glo_InUse (g_cons v0 g_nil)) (g_cons (g_attr C.aC_name C.aK_name C.aE_name (se_exc tk (C.xm_InUse (hr.mono (by decide))) rfl C.glo_InUse (g_cons v0 g_nil))) (g_cons v0 g_nil)))) (g_cons (g_tup (g_cons (se_exc tk (C.xm_Unresolved (hr.mono (by decide))) rfl C.glo_Unresolved (g_cons v1 g_nil)) (g_cons (g_attr C.aC_name C.aK_name C.aE_name (se_exc tk (C.xm_Unresolved (hr.mono (by decide))) rfl C.glo_Unresolved (g_cons v1 g_nil))) (g_cons v1 g_nil)))) g_nil)))))
  (sss_cons (ss_set (i := 2) sc.nd rfl (.inl rfl) (g_bin (op := .Add) v2 (g_lst (g_cons (g_tup (g_cons (se_exc tk (C.xm_NoMachine (hr.mono (by decide))) rfl C.glo_NoMachine (g_cons v0 g_nil)) (g_cons (g_attr C.aC_scale C.aK_scale C.aE_scale (se_exc tk (C.xm_NoMachine (hr.mono (by decide))) rfl C.glo_NoMachine (g_cons v0 g_nil))) (g_cons v0 g_nil)))) (g_cons (g_tup (g_cons (se_exc tk (C.xm_BadValue (hr.mono (by decide))) rfl C.glo_BadValue (g_cons v1 g_nil)) (g_cons (g_attr C.aC_path C.aK_path C.aE_path (se_exc tk (C.xm_BadValue (hr.mono (by decide))) rfl C.glo_BadValue (g_cons v1 g_nil))) (g_cons v1 g_nil)))) g_nil)))))
  (sss_cons (ss_set (i := 3) sc.nd rfl (.inl rfl) (se_exc tk (C.xm_TooLarge (hr.mono (by decide))) rfl C.glo_TooLarge (g_cons v1 (g_cons v0 g_nil))))
  (sss_one (g_ret (g_bin (op := .Add) v2 (g_lst (g_cons (g_tup (g_cons v3 (g_cons (g_lst (g_cons (g_attr C.aC_what C.aK_what C.aE_what v3) (g_cons (g_attr C.aC_most C.aK_most C.aE_most v3) g_nil))) (g_cons (g_lst (g_cons v1 (g_cons v0 g_nil))) g_nil)))) g_nil)))))))))))))
theorem Cfg.ok__law_first_rows {P : Program} {w : World} {K : PySem.W.Frag} {mg : Str → Option Value} {base : Heap} (C : Cfg P w K mg base) : FunK P w K mg base 3 2 (Str.ofString "_law_first_rows") f__law_first_rows := by
  obtain ⟨fd, F⟩ := C.sd.def_ 0 (d := dd__law_first_rows) rfl
  exact funK_of (N := ["one", "two", "found", "error"]) (ps := ["one", "two"]) F C.glo__law_first_rows sc__law_first_rows rfl (by decide) (fun _ _ _ _ _ _ us hl => match us, hl with | [_, _], _ => rfl) (fun cdv A outer s H E vs hr => body__law_first_rows C cdv A outer s H E vs hr)
end Gk08
end

section
set_option maxHeartbeats 0
namespace Gk08
open PySem PySem.Spec PyProof.Rows L2 MP
noncomputable def b__law_last_rows : MP.Env → Rs Fl := (sqS (asgS (lstS (evCons (tupS (evCons (excS "NoScale" ["scale"] (evCons (rdVar 0) nilA)) (evCons (attrS aC_scale aK_scale aE_scale "scale" (excS "NoScale" ["scale"] (evCons (rdVar 0) nilA))) (evCons (rdVar 0) nilA)))) (evCons (tupS (evCons (excS "BadBound" ["value"] (evCons (rdVar 1) nilA)) (evCons (attrS aC_value aK_value aE_value "value" (excS "BadBound" ["value"] (evCons (rdVar 1) nilA))) (evCons (rdVar 1) nilA)))) nilA))) (stName 2))
  (sqS (asgS (binS .Add (rdVar 2) (lstS (evCons (tupS (evCons (excS "NoTerm" ["at"] (evCons (rdVar 0) nilA)) (evCons (attrS aC_at aK_at aE_at "at" (excS "NoTerm" ["at"] (evCons (rdVar 0) nilA))) (evCons (rdVar 0) nilA)))) (evCons (tupS (evCons (excS "NoClaim" ["at"] (evCons (rdVar 1) nilA)) (evCons (attrS aC_at aK_at aE_at "at" (excS "NoClaim" ["at"] (evCons (rdVar 1) nilA))) (evCons (rdVar 1) nilA)))) nilA)))) (stName 2))
  (sqS (asgS (binS .Add (rdVar 2) (lstS (evCons (tupS (evCons (excS "NotRecord" ["name"] (evCons (rdVar 0) nilA)) (evCons (attrS aC_name aK_name aE_name "name" (excS "NotRecord" ["name"] (evCons (rdVar 0) nilA))) (evCons (rdVar 0) nilA)))) (evCons (tupS (evCons (excS "Endless" ["scale"] (evCons (rdVar 1) nilA)) (evCons (attrS aC_scale aK_scale aE_scale "scale" (excS "Endless" ["scale"] (evCons (rdVar 1) nilA))) (evCons (rdVar 1) nilA)))) nilA)))) (stName 2))
  (sqS (asgS (binS .Add (rdVar 2) (lstS (evCons (tupS (evCons (excS "NoOffer" ["at"] (evCons (rdVar 0) nilA)) (evCons (attrS aC_at aK_at aE_at "at" (excS "NoOffer" ["at"] (evCons (rdVar 0) nilA))) (evCons (rdVar 0) nilA)))) (evCons (tupS (evCons (excS "NoOrder" ["at"] (evCons (rdVar 1) nilA)) (evCons (attrS aC_at aK_at aE_at "at" (excS "NoOrder" ["at"] (evCons (rdVar 1) nilA))) (evCons (rdVar 1) nilA)))) nilA)))) (stName 2))
  (retS (binS .Add (rdVar 2) (lstS (evCons (tupS (evCons (excS "BadText" ["at"] (evCons (rdVar 0) nilA)) (evCons (attrS aC_at aK_at aE_at "at" (excS "BadText" ["at"] (evCons (rdVar 0) nilA))) (evCons (rdVar 0) nilA)))) (evCons (tupS (evCons (excNS "Barred" nilA) (evCons (cI 0) (evCons (cI 0) nilA)))) (evCons (tupS (evCons (excNS "NoLine" nilA) (evCons (cI 0) (evCons (cI 0) nilA)))) nilA))))))))))
noncomputable def f__law_last_rows : Fn := runF 3 2 b__law_last_rows
theorem sc__law_last_rows : FnScope ["one", "two", "found"] ["one", "two"] (defScope st__law_last_rows) := ⟨rfl, rfl, rfl, by decide +kernel, rfl, by decide +kernel, by decide +kernel⟩
theorem vis__law_last_rows_0 : Vis (defScope st__law_last_rows) "one" := .inl (by decide +kernel)
theorem vis__law_last_rows_1 : Vis (defScope st__law_last_rows) "two" := .inl (by decide +kernel)
theorem vis__law_last_rows_2 : Vis (defScope st__law_last_rows) "found" := .inl (by decide +kernel)
theorem body__law_last_rows {P : Program} {w : World} {K : PySem.W.Frag} {mg : Str → Option Value} {base : Heap} {f : Addr} (C : Cfg P w K mg base) (cdv : Value) (A : Around) (outer : List PySem.Env) (s : Shared) (H : Hp) (E : XK) (vs : List V) (hr : RoomG 2 (A.deeper (envOfC "_law_last_rows" (defScope st__law_last_rows) s.heap.objs.size f cdv))) :
    SSs (cxOf (CX P w) P w K mg base ["one", "two", "found"] "_law_last_rows" (defScope st__law_last_rows) f cdv A outer s H E) (fun c d _ H' => E c d H') vs (defBody st__law_last_rows) b__law_last_rows := by
  let Y := cxOf (CX P w) P w K mg base ["one", "two", "found"] "_law_last_rows" (defScope st__law_last_rows) f cdv A outer s H E
  let Wy : WX := fun c d _ H' => E c d H'
  have tk : Takes Y Wy := takes_of rfl rfl rfl rfl
  have hp : PassesOwn (model Y.prog Y.w) Y.A Y.env Y.xe := passes_of rfl
  have sc := sc__law_last_rows
  have v0 : ∀ {pos : Pos}, SE Y Wy vs (.Name "one" pos) (rdVar 0) := fun {pos} => se_var rfl vis__law_last_rows_0 n_one.1 n_one.2
  have v1 : ∀ {pos : Pos}, SE Y Wy vs (.Name "two" pos) (rdVar 1) := fun {pos} => se_var rfl vis__law_last_rows_1 n_two.1 n_two.2
  have v2 : ∀ {pos : Pos}, SE Y Wy vs (.Name "found" pos) (rdVar 2) := fun {pos} => se_var rfl vis__law_last_rows_2 n_found.1 n_found.2
  exact (sss_cons (ss_set (i := 2) sc.nd rfl (.inl rfl) (g_lst (g_cons (g_tup (g_cons (se_exc tk (C.xm_NoScale (hr.mono (by decide))) rfl C.glo_NoScale (g_cons v0 g_nil)) (g_cons (g_attr C.aC_scale C.aK_scale C.aE_scale (se_exc tk (C.xm_NoScale (hr.mono (by decide))) rfl C.glo_NoScale (g_cons v0 g_nil))) (g_cons v0 g_nil)))) (g_cons (g_tup (g_cons (se_exc tk (C.xm_BadBound (hr.mono (by decide))) rfl C.glo_BadBound (g_cons v1 g_nil)) (g_cons (g_attr C.aC_value C.aK_value C.aE_value (se_exc tk (C.xm_BadBound (hr.mono (by decide))) rfl C.glo_BadBound (g_cons v1 g_nil))) (g_cons v1 g_nil)))) g_nil))))
  (sss_cons (ss_set (i := 2) sc.nd rfl (.inl rfl) (g_bin (op := .Add) v2 (g_lst (g_cons (g_tup (g_cons (se_exc tk (C.xm_NoTerm (hr.mono (by decide))) rfl C.glo_NoTerm (g_cons v0 g_nil)) (g_cons (g_attr C.aC_at C.aK_at C.aE_at (se_exc tk (C.xm_NoTerm (hr.mono (by decide))) rfl C.glo_NoTerm (g_cons v0 g_nil))) (g_cons v0 g_nil)))) (g_cons (g_tup (g_cons (se_exc tk (C.xm_NoClaim (hr.mono (by decide))) rfl C.glo_NoClaim (g_cons v1 g_nil)) (g_cons (g_attr C.aC_at C.aK_at C.aE_at (se_exc tk (C.xm_NoClaim (hr.mono (by decide))) rfl C.glo_NoClaim (g_cons v1 g_nil))) (g_cons v1 g_nil)))) g_nil)))))
  (sss_cons (ss_set (i := 2) sc.nd rfl (.inl rfl) (g_bin (op := .Add) v2 (g_lst (g_cons (g_tup (g_cons (se_exc tk (C.xm_NotRecord (hr.mono (by decide))) rfl C.glo_NotRecord (g_cons v0 g_nil)) (g_cons (g_attr C.aC_name C.aK_name C.aE_name (se_exc tk (C.xm_NotRecord (hr.mono (by decide))) rfl C.glo_NotRecord (g_cons v0 g_nil))) (g_cons v0 g_nil)))) (g_cons (g_tup (g_cons (se_exc tk (C.xm_Endless (hr.mono (by decide))) rfl C.glo_Endless (g_cons v1 g_nil)) (g_cons (g_attr C.aC_scale C.aK_scale C.aE_scale (se_exc tk (C.xm_Endless (hr.mono (by decide))) rfl C.glo_Endless (g_cons v1 g_nil))) (g_cons v1 g_nil)))) g_nil)))))
  (sss_cons (ss_set (i := 2) sc.nd rfl (.inl rfl) (g_bin (op := .Add) v2 (g_lst (g_cons (g_tup (g_cons (se_exc tk (C.xm_NoOffer (hr.mono (by decide))) rfl C.glo_NoOffer (g_cons v0 g_nil)) (g_cons (g_attr C.aC_at C.aK_at C.aE_at (se_exc tk (C.xm_NoOffer (hr.mono (by decide))) rfl C.glo_NoOffer (g_cons v0 g_nil))) (g_cons v0 g_nil)))) (g_cons (g_tup (g_cons (se_exc tk (C.xm_NoOrder (hr.mono (by decide))) rfl C.glo_NoOrder (g_cons v1 g_nil)) (g_cons (g_attr C.aC_at C.aK_at C.aE_at (se_exc tk (C.xm_NoOrder (hr.mono (by decide))) rfl C.glo_NoOrder (g_cons v1 g_nil))) (g_cons v1 g_nil)))) g_nil)))))
  (sss_one (g_ret (g_bin (op := .Add) v2 (g_lst (g_cons (g_tup (g_cons (se_exc tk (C.xm_BadText (hr.mono (by decide))) rfl C.glo_BadText (g_cons v0 g_nil)) (g_cons (g_attr C.aC_at C.aK_at C.aE_at (se_exc tk (C.xm_BadText (hr.mono (by decide))) rfl C.glo_BadText (g_cons v0 g_nil))) (g_cons v0 g_nil)))) (g_cons (g_tup (g_cons (se_exN0 C.xn_Barred.1 C.xn_Barred.2 rfl C.glo_Barred) (g_cons g_int (g_cons g_int g_nil)))) (g_cons (g_tup (g_cons (se_exN0 C.xn_NoLine.1 C.xn_NoLine.2 rfl C.glo_NoLine) (g_cons g_int (g_cons g_int g_nil)))) g_nil)))))))))))
theorem Cfg.ok__law_last_rows {P : Program} {w : World} {K : PySem.W.Frag} {mg : Str → Option Value} {base : Heap} (C : Cfg P w K mg base) : FunK P w K mg base 3 2 (Str.ofString "_law_last_rows") f__law_last_rows := by
  obtain ⟨fd, F⟩ := C.sd.def_ 1 (d := dd__law_last_rows) rfl
  exact funK_of (N := ["one", "two", "found"]) (ps := ["one", "two"]) F C.glo__law_last_rows sc__law_last_rows rfl (by decide) (fun _ _ _ _ _ _ us hl => match us, hl with | [_, _], _ => rfl) (fun cdv A outer s H E vs hr => body__law_last_rows C cdv A outer s H E vs hr)
end Gk08
end

section
set_option maxHeartbeats 0
namespace Gk08
open PySem PySem.Spec PyProof.Rows L2 MP
noncomputable def b__law_named_right : MP.Env → Rs Fl := (sqS (asgS (lstS (evCons (tupS (evCons (attrS aC_name aK_name aE_name "name" (excKS "BadName" ["name"] false (evCons (rdVar 0) nilA))) (evCons (rdVar 0) nilA))) (evCons (tupS (evCons (attrS aC_value aK_value aE_value "value" (excKS "BadTimes" ["value"] false (evCons (rdVar 1) nilA))) (evCons (rdVar 1) nilA))) (evCons (tupS (evCons (attrS aC_at aK_at aE_at "at" (excKS "BadParts" ["at"] false (evCons (rdVar 0) nilA))) (evCons (rdVar 0) nilA))) nilA)))) (stName 2))
  (sqS (asgS (binS .Add (rdVar 2) (lstS (evCons (tupS (evCons (attrS aC_name aK_name aE_name "name" (excKS "NoName" ["name"] false (evCons (rdVar 1) nilA))) (evCons (rdVar 1) nilA))) (evCons (tupS (evCons (attrS aC_name aK_name aE_name "name" (excKS "Taken" ["name"] false (evCons (rdVar 0) nilA))) (evCons (rdVar 0) nilA))) (evCons (tupS (evCons (attrS aC_way aK_way aE_way "way" (excKS "Ring" ["way"] false (evCons (rdVar 1) nilA))) (evCons (rdVar 1) nilA))) nilA))))) (stName 2))
  (sqS (asgS (binS .Add (rdVar 2) (lstS (evCons (tupS (evCons (attrS aC_name aK_name aE_name "name" (excKS "InUse" ["name"] false (evCons (rdVar 0) nilA))) (evCons (rdVar 0) nilA))) (evCons (tupS (evCons (attrS aC_name aK_name aE_name "name" (excKS "Unresolved" ["name"] false (evCons (rdVar 1) nilA))) (evCons (rdVar 1) nilA))) (evCons (tupS (evCons (attrS aC_scale aK_scale aE_scale "scale" (excKS "NoMachine" ["scale"] false (evCons (rdVar 0) nilA))) (evCons (rdVar 0) nilA))) nilA))))) (stName 2))
  (sqS (asgS (binS .Add (rdVar 2) (lstS (evCons (tupS (evCons (attrS aC_path aK_path aE_path "path" (excKS "BadValue" ["path"] false (evCons (rdVar 1) nilA))) (evCons (rdVar 1) nilA))) (evCons (tupS (evCons (attrS aC_scale aK_scale aE_scale "scale" (excKS "NoScale" ["scale"] false (evCons (rdVar 0) nilA))) (evCons (rdVar 0) nilA))) (evCons (tupS (evCons (attrS aC_value aK_value aE_value "value" (excKS "BadBound" ["value"] false (evCons (rdVar 1) nilA))) (evCons (rdVar 1) nilA))) nilA))))) (stName 2))
  (sqS (asgS (binS .Add (rdVar 2) (lstS (evCons (tupS (evCons (attrS aC_at aK_at aE_at "at" (excKS "NoTerm" ["at"] false (evCons (rdVar 0) nilA))) (evCons (rdVar 0) nilA))) (evCons (tupS (evCons (attrS aC_at aK_at aE_at "at" (excKS "NoClaim" ["at"] false (evCons (rdVar 1) nilA))) (evCons (rdVar 1) nilA))) (evCons (tupS (evCons (attrS aC_name aK_name aE_name "name" (excKS "NotRecord" ["name"] false (evCons (rdVar 0) nilA))) (evCons (rdVar 0) nilA))) nilA))))) (stName 2))
  (sqS (asgS (binS .Add (rdVar 2) (lstS (evCons (tupS (evCons (attrS aC_scale aK_scale aE_scale "scale" (excKS "Endless" ["scale"] false (evCons (rdVar 1) nilA))) (evCons (rdVar 1) nilA))) (evCons (tupS (evCons (attrS aC_at aK_at aE_at "at" (excKS "NoOffer" ["at"] false (evCons (rdVar 0) nilA))) (evCons (rdVar 0) nilA))) (evCons (tupS (evCons (attrS aC_at aK_at aE_at "at" (excKS "NoOrder" ["at"] false (evCons (rdVar 1) nilA))) (evCons (rdVar 1) nilA))) nilA))))) (stName 2))
  (sqS (asgS (binS .Add (rdVar 2) (lstS (evCons (tupS (evCons (attrS aC_at aK_at aE_at "at" (excKS "BadText" ["at"] false (evCons (rdVar 0) nilA))) (evCons (rdVar 0) nilA))) nilA))) (stName 2))
  (sqS (asgS (excKS "NoPath" ["path", "at"] true (evCons (rdVar 1) (evCons (rdVar 0) nilA))) (stName 3))
  (sqS (asgS (binS .Add (rdVar 2) (lstS (evCons (tupS (evCons (lstS (evCons (attrS aC_path aK_path aE_path "path" (rdVar 3)) (evCons (attrS aC_at aK_at aE_at "at" (rdVar 3)) nilA))) (evCons (lstS (evCons (rdVar 0) (evCons (rdVar 1) nilA))) nilA))) nilA))) (stName 2))
  (sqS (asgS (excKS "TooLarge" ["what", "most"] true (evCons (rdVar 0) (evCons (rdVar 1) nilA))) (stName 3))
  (sqS (asgS (binS .Add (rdVar 2) (lstS (evCons (tupS (evCons (lstS (evCons (attrS aC_what aK_what aE_what "what" (rdVar 3)) (evCons (attrS aC_most aK_most aE_most "most" (rdVar 3)) nilA))) (evCons (lstS (evCons (rdVar 1) (evCons (rdVar 0) nilA))) nilA))) nilA))) (stName 2))
  (retS (cmpV .Eq (compS (itA (rdVar 2)) (gTupS [(stName 4), (stName 5)]) (cmpS .NotEq (opL reprD (evCons (rdVar 4) nilA)) (opL reprD (evCons (rdVar 5) nilA))) (cI 1) [4, 5]) (lstS nilA))))))))))))))
noncomputable def f__law_named_right : Fn := runF 6 2 b__law_named_right
theorem sc__law_named_right : FnScope ["one", "two", "found", "error", "seen", "due"] ["one", "two"] (defScope st__law_named_right) := ⟨rfl, rfl, rfl, by decide +kernel, rfl, by decide +kernel, by decide +kernel⟩
theorem vis__law_named_right_0 : Vis (defScope st__law_named_right) "one" := .inl (by decide +kernel)
theorem vis__law_named_right_1 : Vis (defScope st__law_named_right) "two" := .inl (by decide +kernel)
theorem vis__law_named_right_2 : Vis (defScope st__law_named_right) "found" := .inl (by decide +kernel)
theorem vis__law_named_right_3 : Vis (defScope st__law_named_right) "error" := .inl (by decide +kernel)
theorem body__law_named_right {P : Program} {w : World} {K : PySem.W.Frag} {mg : Str → Option Value} {base : Heap} {f : Addr} (C : Cfg P w K mg base) (cdv : Value) (A : Around) (outer : List PySem.Env) (s : Shared) (H : Hp) (E : XK) (vs : List V) (hr : RoomG 2 (A.deeper (envOfC "_law_named_right" (defScope st__law_named_right) s.heap.objs.size f cdv))) :
    SSs (cxOf (CX P w) P w K mg base ["one", "two", "found", "error", "seen", "due"] "_law_named_right" (defScope st__law_named_right) f cdv A outer s H E) (fun c d _ H' => E c d H') vs (defBody st__law_named_right) b__law_named_right := by
  let Y := cxOf (CX P w) P w K mg base ["one", "two", "found", "error", "seen", "due"] "_law_named_right" (defScope st__law_named_right) f cdv A outer s H E
  let Wy : WX := fun c d _ H' => E c d H'
  have tk : Takes Y Wy := takes_of rfl rfl rfl rfl
  have hp : PassesOwn (model Y.prog Y.w) Y.A Y.env Y.xe := passes_of rfl
  have sc := sc__law_named_right
  have v0 : ∀ {pos : Pos}, SE Y Wy vs (.Name "one" pos) (rdVar 0) := fun {pos} => se_var rfl vis__law_named_right_0 n_one.1 n_one.2
  have v1 : ∀ {pos : Pos}, SE Y Wy vs (.Name "two" pos) (rdVar 1) := fun {pos} => se_var rfl vis__law_named_right_1 n_two.1 n_two.2
  have v2 : ∀ {pos : Pos}, SE Y Wy vs (.Name "found" pos) (rdVar 2) := fun {pos} => se_var rfl vis__law_named_right_2 n_found.1 n_found.2
  have v3 : ∀ {pos : Pos}, SE Y Wy vs (.Name "error" pos) (rdVar 3) := fun {pos} => se_var rfl vis__law_named_right_3 n_error.1 n_error.2
  exact (sss_cons (ss_set (i := 2) sc.nd rfl (.inl rfl) (g_lst (g_cons (g_tup (g_cons (g_attr C.aC_name C.aK_name C.aE_name (se_excK (rev := false) tk (C.xk_BadName (hr.mono (by decide))) rfl C.glo_BadName (sk_cons v0 sk_nil))) (g_cons v0 g_nil))) (g_cons (g_tup (g_cons (g_attr C.aC_value C.aK_value C.aE_value (se_excK (rev := false) tk (C.xk_BadTimes (hr.mono (by decide))) rfl C.glo_BadTimes (sk_cons v1 sk_nil))) (g_cons v1 g_nil))) (g_cons (g_tup (g_cons (g_attr C.aC_at C.aK_at C.aE_at (se_excK (rev := false) tk (C.xk_BadParts (hr.mono (by decide))) rfl C.glo_BadParts (sk_cons v0 sk_nil))) (g_cons v0 g_nil))) g_nil)))))
  (sss_cons (ss_set (i := 2) sc.nd rfl (.inl rfl) (g_bin (op := .Add) v2 (g_lst (g_cons (g_tup (g_cons (g_attr C.aC_name C.aK_name C.aE_name (se_excK (rev := false) tk (C.xk_NoName (hr.mono (by decide))) rfl C.glo_NoName (sk_cons v1 sk_nil))) (g_cons v1 g_nil))) (g_cons (g_tup (g_cons (g_attr C.aC_name C.aK_name C.aE_name (se_excK (rev := false) tk (C.xk_Taken (hr.mono (by decide))) rfl C.glo_Taken (sk_cons v0 sk_nil))) (g_cons v0 g_nil))) (g_cons (g_tup (g_cons (g_attr C.aC_way C.aK_way C.aE_way (se_excK (rev := false) tk (C.xk_Ring (hr.mono (by decide))) rfl C.glo_Ring (sk_cons v1 sk_nil))) (g_cons v1 g_nil))) g_nil))))))
  (sss_cons (ss_set (i := 2) sc.nd rfl (.inl rfl) (g_bin (op := .Add) v2 (g_lst (g_cons (g_tup (g_cons (g_attr C.aC_name C.aK_name C.aE_name (se_excK (rev := false) tk (C.xk_InUse (hr.mono (by decide))) rfl C.glo_InUse (sk_cons v0 sk_nil))) (g_cons v0 g_nil))) (g_cons (g_tup (g_cons (g_attr C.aC_name C.aK_name C.aE_name (se_excK (rev := false) tk (C.xk_Unresolved (hr.mono (by decide))) rfl C.glo_Unresolved (sk_cons v1 sk_nil))) (g_cons v1 g_nil))) (g_cons (g_tup (g_cons (g_attr C.aC_scale C.aK_scale C.aE_scale (se_excK (rev := false) tk (C.xk_NoMachine (hr.mono (by decide))) rfl C.glo_NoMachine (sk_cons v0 sk_nil))) (g_cons v0 g_nil))) g_nil))))))
  (sss_cons (ss_set (i := 2) sc.nd rfl (.inl rfl) (g_bin (op := .Add) v2 (g_lst (g_cons (g_tup (g_cons (g_attr C.aC_path C.aK_path C.aE_path (se_excK (rev := false) tk (C.xk_BadValue (hr.mono (by decide))) rfl C.glo_BadValue (sk_cons v1 sk_nil))) (g_cons v1 g_nil))) (g_cons (g_tup (g_cons (g_attr C.aC_scale C.aK_scale C.aE_scale (se_excK (rev := false) tk (C.xk_NoScale (hr.mono (by decide))) rfl C.glo_NoScale (sk_cons v0 sk_nil))) (g_cons v0 g_nil))) (g_cons (g_tup (g_cons (g_attr C.aC_value C.aK_value C.aE_value (se_excK (rev := false) tk (C.xk_BadBound (hr.mono (by decide))) rfl C.glo_BadBound (sk_cons v1 sk_nil))) (g_cons v1 g_nil))) g_nil))))))
  (sss_cons (ss_set (i := 2) sc.nd rfl (.inl rfl) (g_bin (op := .Add) v2 (g_lst (g_cons (g_tup (g_cons (g_attr C.aC_at C.aK_at C.aE_at (se_excK (rev := false) tk (C.xk_NoTerm (hr.mono (by decide))) rfl C.glo_NoTerm (sk_cons v0 sk_nil))) (g_cons v0 g_nil))) (g_cons (g_tup (g_cons (g_attr C.aC_at C.aK_at C.aE_at (se_excK (rev := false) tk (C.xk_NoClaim (hr.mono (by decide))) rfl C.glo_NoClaim (sk_cons v1 sk_nil))) (g_cons v1 g_nil))) (g_cons (g_tup (g_cons (g_attr C.aC_name C.aK_name C.aE_name (se_excK (rev := false) tk (C.xk_NotRecord (hr.mono (by decide))) rfl C.glo_NotRecord (sk_cons v0 sk_nil))) (g_cons v0 g_nil))) g_nil))))))
  (sss_cons (ss_set (i := 2) sc.nd rfl (.inl rfl) (g_bin (op := .Add) v2 (g_lst (g_cons (g_tup (g_cons (g_attr C.aC_scale C.aK_scale C.aE_scale (se_excK (rev := false) tk (C.xk_Endless (hr.mono (by decide))) rfl C.glo_Endless (sk_cons v1 sk_nil))) (g_cons v1 g_nil))) (g_cons (g_tup (g_cons (g_attr C.aC_at C.aK_at C.aE_at (se_excK (rev := false) tk (C.xk_NoOffer (hr.mono (by decide))) rfl C.glo_NoOffer (sk_cons v0 sk_nil))) (g_cons v0 g_nil))) (g_cons (g_tup (g_cons (g_attr C.aC_at C.aK_at C.aE_at (se_excK (rev := false) tk (C.xk_NoOrder (hr.mono (by decide))) rfl C.glo_NoOrder (sk_cons v1 sk_nil))) (g_cons v1 g_nil))) g_nil))))))
  (sss_cons (ss_set (i := 2) sc.nd rfl (.inl rfl) (g_bin (op := .Add) v2 (g_lst (g_cons (g_tup (g_cons (g_attr C.aC_at C.aK_at C.aE_at (se_excK (rev := false) tk (C.xk_BadText (hr.mono (by decide))) rfl C.glo_BadText (sk_cons v0 sk_nil))) (g_cons v0 g_nil))) g_nil))))
  (sss_cons (ss_set (i := 3) sc.nd rfl (.inl rfl) (se_excK (rev := true) tk (C.xkr_NoPath (hr.mono (by decide))) rfl C.glo_NoPath (sk_cons v1 (sk_cons v0 sk_nil))))
  (sss_cons (ss_set (i := 2) sc.nd rfl (.inl rfl) (g_bin (op := .Add) v2 (g_lst (g_cons (g_tup (g_cons (g_lst (g_cons (g_attr C.aC_path C.aK_path C.aE_path v3) (g_cons (g_attr C.aC_at C.aK_at C.aE_at v3) g_nil))) (g_cons (g_lst (g_cons v0 (g_cons v1 g_nil))) g_nil))) g_nil))))
  (sss_cons (ss_set (i := 3) sc.nd rfl (.inl rfl) (se_excK (rev := true) tk (C.xkr_TooLarge (hr.mono (by decide))) rfl C.glo_TooLarge (sk_cons v0 (sk_cons v1 sk_nil))))
  (sss_cons (ss_set (i := 2) sc.nd rfl (.inl rfl) (g_bin (op := .Add) v2 (g_lst (g_cons (g_tup (g_cons (g_lst (g_cons (g_attr C.aC_what C.aK_what C.aE_what v3) (g_cons (g_attr C.aC_most C.aK_most C.aE_most v3) g_nil))) (g_cons (g_lst (g_cons v1 (g_cons v0 g_nil))) g_nil))) g_nil))))
  (sss_one (g_ret (g_cmp (op := .Eq) hr.u65 (se_lc (owns := [("seen", 4), ("due", 5)]) rfl sc.nd (si_any rfl v2) (blkOk_by (N := ["one", "two", "found", "error", "seen", "due"]) (sc := defScope st__law_named_right) (by decide +kernel)) (fun _ _ _ _ _ => (sgo_tup rfl (sgos_cons (sgo_name (i := 4) sc.nd rfl (by first | exact .inl rfl | exact .inr rfl) (by first | exact .inl rfl | exact .inr rfl) (by decide)) (sgos_cons (sgo_name (i := 5) sc.nd rfl (by first | exact .inl rfl | exact .inr rfl) (by first | exact .inl rfl | exact .inr rfl) (by decide)) sgos_nil)))) (fun _ _ _ _ _ => (sts_one (g_cmpT (op := .NotEq) hr.u65 (se_callB (call_reprB hr.g hr.u64) rfl C.fre_repr (by decide +kernel) (g_cons (se_var (i := 4) rfl (.inl rfl) n_seen.1 n_seen.2) g_nil)) (se_callB (call_reprB hr.g hr.u64) rfl C.fre_repr (by decide +kernel) (g_cons (se_var (i := 5) rfl (.inl rfl) n_due.1 n_due.2) g_nil))))) (fun _ _ _ _ _ => g_int)) (g_lst g_nil)))))))))))))))
theorem Cfg.ok__law_named_right {P : Program} {w : World} {K : PySem.W.Frag} {mg : Str → Option Value} {base : Heap} (C : Cfg P w K mg base) : FunK P w K mg base 3 2 (Str.ofString "_law_named_right") f__law_named_right := by
  obtain ⟨fd, F⟩ := C.sd.def_ 3 (d := dd__law_named_right) rfl
  exact funK_of (N := ["one", "two", "found", "error", "seen", "due"]) (ps := ["one", "two"]) F C.glo__law_named_right sc__law_named_right rfl (by decide) (fun _ _ _ _ _ _ us hl => match us, hl with | [_, _], _ => rfl) (fun cdv A outer s H E vs hr => body__law_named_right C cdv A outer s H E vs hr)
end Gk08
end

section
set_option maxHeartbeats 0
namespace Gk08
open PySem PySem.Spec PyProof.Rows L2 MP
noncomputable def b__law_marks : MP.Env → Rs Fl := (sqS (asgS (lstS (evCons (opL (isiD tab) (evCons (rdVar 0) (evCons (cD (.obj "BadName")) nilA))) (evCons (opL (isiD tab) (evCons (rdVar 0) (evCons (cD (.obj "BadTimes")) nilA))) (evCons (opL (isiD tab) (evCons (rdVar 0) (evCons (cD (.obj "BadParts")) nilA))) nilA)))) (stName 1))
  (sqS (asgS (binS .Add (rdVar 1) (lstS (evCons (opL (isiD tab) (evCons (rdVar 0) (evCons (cD (.obj "NoName")) nilA))) (evCons (opL (isiD tab) (evCons (rdVar 0) (evCons (cD (.obj "NoPath")) nilA))) (evCons (opL (isiD tab) (evCons (rdVar 0) (evCons (cD (.obj "Taken")) nilA))) nilA))))) (stName 1))
  (sqS (asgS (binS .Add (rdVar 1) (lstS (evCons (opL (isiD tab) (evCons (rdVar 0) (evCons (cD (.obj "Ring")) nilA))) (evCons (opL (isiD tab) (evCons (rdVar 0) (evCons (cD (.obj "InUse")) nilA))) (evCons (opL (isiD tab) (evCons (rdVar 0) (evCons (cD (.obj "Unresolved")) nilA))) nilA))))) (stName 1))
  (sqS (asgS (binS .Add (rdVar 1) (lstS (evCons (opL (isiD tab) (evCons (rdVar 0) (evCons (cD (.obj "NoMachine")) nilA))) (evCons (opL (isiD tab) (evCons (rdVar 0) (evCons (cD (.obj "BadValue")) nilA))) (evCons (opL (isiD tab) (evCons (rdVar 0) (evCons (cD (.obj "TooLarge")) nilA))) nilA))))) (stName 1))
  (sqS (asgS (binS .Add (rdVar 1) (lstS (evCons (opL (isiD tab) (evCons (rdVar 0) (evCons (cD (.obj "NoScale")) nilA))) (evCons (opL (isiD tab) (evCons (rdVar 0) (evCons (cD (.obj "BadBound")) nilA))) (evCons (opL (isiD tab) (evCons (rdVar 0) (evCons (cD (.obj "NoTerm")) nilA))) nilA))))) (stName 1))
  (sqS (asgS (binS .Add (rdVar 1) (lstS (evCons (opL (isiD tab) (evCons (rdVar 0) (evCons (cD (.obj "NoClaim")) nilA))) (evCons (opL (isiD tab) (evCons (rdVar 0) (evCons (cD (.obj "NotRecord")) nilA))) (evCons (opL (isiD tab) (evCons (rdVar 0) (evCons (cD (.obj "Endless")) nilA))) nilA))))) (stName 1))
  (sqS (asgS (binS .Add (rdVar 1) (lstS (evCons (opL (isiD tab) (evCons (rdVar 0) (evCons (cD (.obj "NoOffer")) nilA))) (evCons (opL (isiD tab) (evCons (rdVar 0) (evCons (cD (.obj "NoOrder")) nilA))) (evCons (opL (isiD tab) (evCons (rdVar 0) (evCons (cD (.obj "BadText")) nilA))) nilA))))) (stName 1))
  (retS (binS .Add (rdVar 1) (lstS (evCons (opL (isiD tab) (evCons (rdVar 0) (evCons (cD (.obj "Barred")) nilA))) (evCons (opL (isiD tab) (evCons (rdVar 0) (evCons (cD (.obj "NoLine")) nilA))) nilA))))))))))))
noncomputable def f__law_marks : Fn := runF 2 1 b__law_marks
theorem sc__law_marks : FnScope ["error", "found"] ["error"] (defScope st__law_marks) := ⟨rfl, rfl, rfl, by decide +kernel, rfl, by decide +kernel, by decide +kernel⟩
theorem vis__law_marks_0 : Vis (defScope st__law_marks) "error" := .inl (by decide +kernel)
theorem vis__law_marks_1 : Vis (defScope st__law_marks) "found" := .inl (by decide +kernel)
theorem body__law_marks {P : Program} {w : World} {K : PySem.W.Frag} {mg : Str → Option Value} {base : Heap} {f : Addr} (C : Cfg P w K mg base) (cdv : Value) (A : Around) (outer : List PySem.Env) (s : Shared) (H : Hp) (E : XK) (vs : List V) (hr : RoomG 0 (A.deeper (envOfC "_law_marks" (defScope st__law_marks) s.heap.objs.size f cdv))) :
    SSs (cxOf (CX P w) P w K mg base ["error", "found"] "_law_marks" (defScope st__law_marks) f cdv A outer s H E) (fun c d _ H' => E c d H') vs (defBody st__law_marks) b__law_marks := by
  let Y := cxOf (CX P w) P w K mg base ["error", "found"] "_law_marks" (defScope st__law_marks) f cdv A outer s H E
  let Wy : WX := fun c d _ H' => E c d H'
  have tk : Takes Y Wy := takes_of rfl rfl rfl rfl
  have hp : PassesOwn (model Y.prog Y.w) Y.A Y.env Y.xe := passes_of rfl
  have sc := sc__law_marks
  have v0 : ∀ {pos : Pos}, SE Y Wy vs (.Name "error" pos) (rdVar 0) := fun {pos} => se_var rfl vis__law_marks_0 n_error.1 n_error.2
  have v1 : ∀ {pos : Pos}, SE Y Wy vs (.Name "found" pos) (rdVar 1) := fun {pos} => se_var rfl vis__law_marks_1 n_found.1 n_found.2
  exact (sss_cons (ss_set (i := 1) sc.nd rfl (.inl rfl) (g_lst (g_cons (se_callB (call_isiB C.isi) rfl C.fre_isinstance (by decide +kernel) (g_cons v0 (g_cons (g_cls rfl (C.glo_BadName)) g_nil))) (g_cons (se_callB (call_isiB C.isi) rfl C.fre_isinstance (by decide +kernel) (g_cons v0 (g_cons (g_cls rfl (C.glo_BadTimes)) g_nil))) (g_cons (se_callB (call_isiB C.isi) rfl C.fre_isinstance (by decide +kernel) (g_cons v0 (g_cons (g_cls rfl (C.glo_BadParts)) g_nil))) g_nil)))))
  (sss_cons (ss_set (i := 1) sc.nd rfl (.inl rfl) (g_bin (op := .Add) v1 (g_lst (g_cons (se_callB (call_isiB C.isi) rfl C.fre_isinstance (by decide +kernel) (g_cons v0 (g_cons (g_cls rfl (C.glo_NoName)) g_nil))) (g_cons (se_callB (call_isiB C.isi) rfl C.fre_isinstance (by decide +kernel) (g_cons v0 (g_cons (g_cls rfl (C.glo_NoPath)) g_nil))) (g_cons (se_callB (call_isiB C.isi) rfl C.fre_isinstance (by decide +kernel) (g_cons v0 (g_cons (g_cls rfl (C.glo_Taken)) g_nil))) g_nil))))))
  (sss_cons (ss_set (i := 1) sc.nd rfl (.inl rfl) (g_bin (op := .Add) v1 (g_lst (g_cons (se_callB (call_isiB C.isi) rfl C.fre_isinstance (by decide +kernel) (g_cons v0 (g_cons (g_cls rfl (C.glo_Ring)) g_nil))) (g_cons (se_callB (call_isiB C.isi) rfl C.fre_isinstance (by decide +kernel) (g_cons v0 (g_cons (g_cls rfl (C.glo_InUse)) g_nil))) (g_cons (se_callB (call_isiB C.isi) rfl C.fre_isinstance (by decide +kernel) (g_cons v0 (g_cons (g_cls rfl (C.glo_Unresolved)) g_nil))) g_nil))))))
  (sss_cons (ss_set (i := 1) sc.nd rfl (.inl rfl) (g_bin (op := .Add) v1 (g_lst (g_cons (se_callB (call_isiB C.isi) rfl C.fre_isinstance (by decide +kernel) (g_cons v0 (g_cons (g_cls rfl (C.glo_NoMachine)) g_nil))) (g_cons (se_callB (call_isiB C.isi) rfl C.fre_isinstance (by decide +kernel) (g_cons v0 (g_cons (g_cls rfl (C.glo_BadValue)) g_nil))) (g_cons (se_callB (call_isiB C.isi) rfl C.fre_isinstance (by decide +kernel) (g_cons v0 (g_cons (g_cls rfl (C.glo_TooLarge)) g_nil))) g_nil))))))
  (sss_cons (ss_set (i := 1) sc.nd rfl (.inl rfl) (g_bin (op := .Add) v1 (g_lst (g_cons (se_callB (call_isiB C.isi) rfl C.fre_isinstance (by decide +kernel) (g_cons v0 (g_cons (g_cls rfl (C.glo_NoScale)) g_nil))) (g_cons (se_callB (call_isiB C.isi) rfl C.fre_isinstance (by decide +kernel) (g_cons v0 (g_cons (g_cls rfl (C.glo_BadBound)) g_nil))) (g_cons (se_callB (call_isiB C.isi) rfl C.fre_isinstance (by decide +kernel) (g_cons v0 (g_cons (g_cls rfl (C.glo_NoTerm)) g_nil))) g_nil))))))
  (sss_cons (ss_set (i := 1) sc.nd rfl (.inl rfl) (g_bin (op := .Add) v1 (g_lst (g_cons (se_callB (call_isiB C.isi) rfl C.fre_isinstance (by decide +kernel) (g_cons v0 (g_cons (g_cls rfl (C.glo_NoClaim)) g_nil))) (g_cons (se_callB (call_isiB C.isi) rfl C.fre_isinstance (by decide +kernel) (g_cons v0 (g_cons (g_cls rfl (C.glo_NotRecord)) g_nil))) (g_cons (se_callB (call_isiB C.isi) rfl C.fre_isinstance (by decide +kernel) (g_cons v0 (g_cons (g_cls rfl (C.glo_Endless)) g_nil))) g_nil))))))
  (sss_cons (ss_set (i := 1) sc.nd rfl (.inl rfl) (g_bin (op := .Add) v1 (g_lst (g_cons (se_callB (call_isiB C.isi) rfl C.fre_isinstance (by decide +kernel) (g_cons v0 (g_cons (g_cls rfl (C.glo_NoOffer)) g_nil))) (g_cons (se_callB (call_isiB C.isi) rfl C.fre_isinstance (by decide +kernel) (g_cons v0 (g_cons (g_cls rfl (C.glo_NoOrder)) g_nil))) (g_cons (se_callB (call_isiB C.isi) rfl C.fre_isinstance (by decide +kernel) (g_cons v0 (g_cons (g_cls rfl (C.glo_BadText)) g_nil))) g_nil))))))
  (sss_one (g_ret (g_bin (op := .Add) v1 (g_lst (g_cons (se_callB (call_isiB C.isi) rfl C.fre_isinstance (by decide +kernel) (g_cons v0 (g_cons (g_cls rfl (C.glo_Barred)) g_nil))) (g_cons (se_callB (call_isiB C.isi) rfl C.fre_isinstance (by decide +kernel) (g_cons v0 (g_cons (g_cls rfl (C.glo_NoLine)) g_nil))) g_nil)))))))))))))
theorem Cfg.ok__law_marks {P : Program} {w : World} {K : PySem.W.Frag} {mg : Str → Option Value} {base : Heap} (C : Cfg P w K mg base) : FunK P w K mg base 1 1 (Str.ofString "_law_marks") f__law_marks := by
  obtain ⟨fd, F⟩ := C.sd.def_ 2 (d := dd__law_marks) rfl
  exact funK_of (N := ["error", "found"]) (ps := ["error"]) F C.glo__law_marks sc__law_marks rfl (by decide) (fun _ _ _ _ _ _ us hl => match us, hl with | [_], _ => rfl) (fun cdv A outer s H E vs hr => body__law_marks C cdv A outer s H E vs hr)
end Gk08
end

section
set_option maxHeartbeats 0
namespace Gk08
open PySem PySem.Spec PyProof.Rows L2 MP
noncomputable def b_law : MP.Env → Rs Fl := (sqS (asgS (callS f__law_pen (evCons (rdVar 0) nilA)) (stName 1))
  (sqS (forS (it1 rng1 (cI 4)) (stName 2) (sqS (parS 3 4 (evCons (callS f__law_value (evCons (rdVar 1) nilA)) (evCons (callS f__law_value (evCons (rdVar 1) nilA)) nilA)))
  (sqS (asgS (binS .Add (callS f__law_first_rows (evCons (rdVar 3) (evCons (rdVar 4) nilA))) (callS f__law_last_rows (evCons (rdVar 3) (evCons (rdVar 4) nilA)))) (stName 5))
  (sqS (ifS (notB (truS (callS f__law_named_right (evCons (rdVar 3) (evCons (rdVar 4) nilA))))) (retS (cB false)) nxS)
  (forS (it1 rng1 (opL lenD (evCons (rdVar 5) nilA))) (stName 6) (sqS (asgS (ixS (rdVar 5) (rdVar 6)) (gTupS [(stName 7), (stName 8), (stName 9)]))
  (sqS (ifS (orB (cmpS .NotEq (opL reprD (evCons (rdVar 8) nilA)) (opL reprD (evCons (rdVar 9) nilA))) (cmpS .NotEq (callS f__law_marks (evCons (rdVar 7) nilA)) (compS (it1 rng1 (cI 23)) (stName 10) yesS (cmpV .Eq (rdVar 10) (rdVar 6)) [10]))) (retS (cB false)) nxS)
  (sqS (ifS (orB (notB (truS (opL (isiD tab) (evCons (rdVar 7) (evCons (cD (.obj "PadError")) nilA))))) (notB (truS (opL (isiD tab) (evCons (rdVar 7) (evCons (cD (.ty "ValueError")) nilA)))))) (retS (cB false)) nxS)
  (ifS (truS (opL (isiD tab) (evCons (rdVar 7) (evCons (tupS (evCons (cD (.ty "KeyError")) (evCons (cD (.ty "IndexError")) (evCons (cD (.ty "LookupError")) nilA)))) nilA)))) (retS (cB false)) nxS)))))))))
  (retS (opL (isiD tab) (evCons (excNS "PadError" (evCons (cS "x") nilA)) (evCons (cD (.ty "ValueError")) nilA))))))
noncomputable def f_law : Fn := runF 11 1 b_law
theorem sc_law : FnScope ["script", "pen", "turn", "one", "two", "rows", "spot", "error", "seen", "due", "k"] ["script"] (defScope st_law) := ⟨rfl, rfl, rfl, by decide +kernel, rfl, by decide +kernel, by decide +kernel⟩
theorem vis_law_0 : Vis (defScope st_law) "script" := .inl (by decide +kernel)
theorem vis_law_1 : Vis (defScope st_law) "pen" := .inl (by decide +kernel)
theorem vis_law_2 : Vis (defScope st_law) "turn" := .inl (by decide +kernel)
theorem vis_law_3 : Vis (defScope st_law) "one" := .inl (by decide +kernel)
theorem vis_law_4 : Vis (defScope st_law) "two" := .inl (by decide +kernel)
theorem vis_law_5 : Vis (defScope st_law) "rows" := .inl (by decide +kernel)
theorem vis_law_6 : Vis (defScope st_law) "spot" := .inr (.inl (by decide +kernel))
theorem vis_law_7 : Vis (defScope st_law) "error" := .inl (by decide +kernel)
theorem vis_law_8 : Vis (defScope st_law) "seen" := .inl (by decide +kernel)
theorem vis_law_9 : Vis (defScope st_law) "due" := .inl (by decide +kernel)
theorem body_law {P : Program} {w : World} {K : PySem.W.Frag} {mg : Str → Option Value} {base : Heap} {f : Addr} (C : Cfg P w K mg base) (cdv : Value) (A : Around) (outer : List PySem.Env) (s : Shared) (H : Hp) (E : XK) (vs : List V) (hr : RoomG 3 (A.deeper (envOfC "law" (defScope st_law) s.heap.objs.size f cdv))) :
    SSs (cxOf (CX P w) P w K mg base ["script", "pen", "turn", "one", "two", "rows", "spot", "error", "seen", "due", "k"] "law" (defScope st_law) f cdv A outer s H E) (fun c d _ H' => E c d H') vs (defBody st_law) b_law := by
  let Y := cxOf (CX P w) P w K mg base ["script", "pen", "turn", "one", "two", "rows", "spot", "error", "seen", "due", "k"] "law" (defScope st_law) f cdv A outer s H E
  let Wy : WX := fun c d _ H' => E c d H'
  have tk : Takes Y Wy := takes_of rfl rfl rfl rfl
  have hp : PassesOwn (model Y.prog Y.w) Y.A Y.env Y.xe := passes_of rfl
  have sc := sc_law
  have v0 : ∀ {pos : Pos}, SE Y Wy vs (.Name "script" pos) (rdVar 0) := fun {pos} => se_var rfl vis_law_0 n_script.1 n_script.2
  have v1 : ∀ {pos : Pos}, SE Y Wy vs (.Name "pen" pos) (rdVar 1) := fun {pos} => se_var rfl vis_law_1 n_pen.1 n_pen.2
  have v2 : ∀ {pos : Pos}, SE Y Wy vs (.Name "turn" pos) (rdVar 2) := fun {pos} => se_var rfl vis_law_2 n_turn.1 n_turn.2
  have v3 : ∀ {pos : Pos}, SE Y Wy vs (.Name "one" pos) (rdVar 3) := fun {pos} => se_var rfl vis_law_3 n_one.1 n_one.2
  have v4 : ∀ {pos : Pos}, SE Y Wy vs (.Name "two" pos) (rdVar 4) := fun {pos} => se_var rfl vis_law_4 n_two.1 n_two.2
  have v5 : ∀ {pos : Pos}, SE Y Wy vs (.Name "rows" pos) (rdVar 5) := fun {pos} => se_var rfl vis_law_5 n_rows.1 n_rows.2
  have v6 : ∀ {pos : Pos}, SE Y Wy vs (.Name "spot" pos) (rdVar 6) := fun {pos} => se_var rfl vis_law_6 n_spot.1 n_spot.2
  have v7 : ∀ {pos : Pos}, SE Y Wy vs (.Name "error" pos) (rdVar 7) := fun {pos} => se_var rfl vis_law_7 n_error.1 n_error.2
  have v8 : ∀ {pos : Pos}, SE Y Wy vs (.Name "seen" pos) (rdVar 8) := fun {pos} => se_var rfl vis_law_8 n_seen.1 n_seen.2
  have v9 : ∀ {pos : Pos}, SE Y Wy vs (.Name "due" pos) (rdVar 9) := fun {pos} => se_var rfl vis_law_9 n_due.1 n_due.2
  exact (sss_cons (ss_set (i := 1) sc.nd rfl (.inl rfl) (se_callF (C.ok__law_pen) tk hr (by decide) rfl (g_cons v0 g_nil)))
  (sss_cons (ss_for hp rfl (si_range1 rfl C.fre_range g_int) (sg_name (i := 2) sc.nd rfl (.inl rfl) (.inl rfl)) (sss_cons (ss_par (i := 3) (j := 4) rfl sc.nd rfl rfl (by decide) rfl rfl (g_cons (se_callF (C.ok__law_value) tk hr (by decide) rfl (g_cons v1 g_nil)) (g_cons (se_callF (C.ok__law_value) tk hr (by decide) rfl (g_cons v1 g_nil)) g_nil)) rfl)
  (sss_cons (ss_set (i := 5) sc.nd rfl (.inl rfl) (g_bin (op := .Add) (se_callF (C.ok__law_first_rows) tk hr (by decide) rfl (g_cons v3 (g_cons v4 g_nil))) (se_callF (C.ok__law_last_rows) tk hr (by decide) rfl (g_cons v3 (g_cons v4 g_nil)))))
  (sss_cons (g_if (st_not (g_tru (se_callF (C.ok__law_named_right) tk hr (by decide) rfl (g_cons v3 (g_cons v4 g_nil))))) (sss_one (g_ret g_bl)) g_end)
  (sss_one (ss_for hp rfl (si_range1 rfl C.fre_range (se_callB call_lenB rfl C.fre_len (by decide +kernel) (g_cons v5 g_nil))) (sg_name (i := 6) sc.nd rfl (.inr rfl) (.inl rfl)) (sss_cons (ss_asg (g_ix hr.u1 v5 v6) (sg_tup rfl (sgs_cons (sg_name (i := 7) sc.nd rfl (.inl rfl) (.inl rfl)) (sgs_cons (sg_name (i := 8) sc.nd rfl (.inl rfl) (.inl rfl)) (sgs_cons (sg_name (i := 9) sc.nd rfl (.inl rfl) (.inl rfl)) sgs_nil)))))
  (sss_cons (g_if (SW.st (sw_or (g_cmpT (op := .NotEq) hr.u65 (se_callB (call_reprB hr.g hr.u64) rfl C.fre_repr (by decide +kernel) (g_cons v8 g_nil)) (se_callB (call_reprB hr.g hr.u64) rfl C.fre_repr (by decide +kernel) (g_cons v9 g_nil))) (sw_or1 (g_cmpT (op := .NotEq) hr.u65 (se_callF (C.ok__law_marks) tk hr (by decide) rfl (g_cons v7 g_nil)) (se_lc (owns := [("k", 10)]) rfl sc.nd (si_range1 rfl C.fre_range g_int) (blkOk_by (N := ["script", "pen", "turn", "one", "two", "rows", "spot", "error", "seen", "due", "k"]) (sc := defScope st_law) (by decide +kernel)) (fun _ _ _ _ _ => (sgo_name (i := 10) sc.nd rfl (by first | exact .inl rfl | exact .inr rfl) (by first | exact .inl rfl | exact .inr rfl) (by decide))) (fun _ _ _ _ _ => sts_nil) (fun _ _ _ _ _ => (g_cmp (op := .Eq) hr.u65 (se_var (i := 10) rfl (.inl rfl) n_k.1 n_k.2) (se_var (i := 6) rfl (.inr (.inl rfl)) n_spot.1 n_spot.2)))))))) (sss_one (g_ret g_bl)) g_end)
  (sss_cons (g_if (SW.st (sw_or (st_not (g_tru (se_callB (call_isiB C.isi) rfl C.fre_isinstance (by decide +kernel) (g_cons v7 (g_cons (g_cls rfl (C.glo_PadError)) g_nil))))) (sw_or1 (st_not (g_tru (se_callB (call_isiB C.isi) rfl C.fre_isinstance (by decide +kernel) (g_cons v7 (g_cons (g_ty rfl C.fre_ValueError (by decide +kernel)) g_nil)))))))) (sss_one (g_ret g_bl)) g_end)
  (sss_one (g_if (g_tru (se_callB (call_isiB C.isi) rfl C.fre_isinstance (by decide +kernel) (g_cons v7 (g_cons (g_tup (g_cons (g_ty rfl C.fre_KeyError (by decide +kernel)) (g_cons (g_ty rfl C.fre_IndexError (by decide +kernel)) (g_cons (g_ty rfl C.fre_LookupError (by decide +kernel)) g_nil)))) g_nil)))) (sss_one (g_ret g_bl)) g_end)))))))))))
  (sss_one (g_ret (se_callB (call_isiB C.isi) rfl C.fre_isinstance (by decide +kernel) (g_cons (se_exN C.xn_PadError.1 C.xn_PadError.2 rfl C.glo_PadError (g_cons g_str g_nil)) (g_cons (g_ty rfl C.fre_ValueError (by decide +kernel)) g_nil)))))))
theorem Cfg.ok_law {P : Program} {w : World} {K : PySem.W.Frag} {mg : Str → Option Value} {base : Heap} (C : Cfg P w K mg base) : FunK P w K mg base 4 1 (Str.ofString "law") f_law := by
  obtain ⟨fd, F⟩ := C.sd.def_ 8 (d := dd_law) rfl
  exact funK_of (N := ["script", "pen", "turn", "one", "two", "rows", "spot", "error", "seen", "due", "k"]) (ps := ["script"]) F C.glo_law sc_law rfl (by decide) (fun _ _ _ _ _ _ us hl => match us, hl with | [_], _ => rfl) (fun cdv A outer s H E vs hr => body_law C cdv A outer s H E vs hr)
end Gk08
end

section
set_option maxHeartbeats 8000000
namespace Gk08
open PySem PySem.Spec PyProof.Rows L2 MP
def pen (L : List Int) (t r : Int) : D := .lst [.lst (L.map .int), .int t, .int r]
theorem fdiv_of {i j : Int} (h : DivOk j) : fdivD (.int i) (.int j) = some (fz (.int (i / j))) := if_pos h
theorem mul_of {i j : Int} (h : MulOk i j) : mulD (.int i) (.int j) = some (fz (.int (i * j))) := if_pos h
theorem pow_of {i j : Int} (h : PowOk i j) : powD (.int i) (.int j) = some (fz (.int (i ^ j.toNat))) := if_pos h
theorem draw1 (L : List Int) (t r many : Int) (hr : 0 < r) (hm : 0 < many) (hd : DivOk many) : f__law_draw [ow (pen L t r), fz (.int many)] = .ok (fz (.int (r % many))) [ow (pen L t (r / many)), fz (.int many)] := by
  have e := fun i => fdiv_of (i := i) hd
  simp [f__law_draw, b__law_draw, runF, endF, mkEnv, sqS, ifS, cmpS, cmpV, ixS, rdVar, op1, op2, cmp2, valR, blR, binS, binD, addD, subD, modD, cI, opL, looks, evCons, nilA, MP.intD, lenD, absD, asgS, stName, gSubS, storeI, modR, setD, frz, Env.store, Env.put, Env.at, retS, fnRet, andB, atI, ixN, cmpD, ordD, ixD, pen, List.range, List.range.loop, lstS, mkLst, frzs, ofB, nxS, hr, hm, e]
theorem pyL_ints : ∀ L : List Int, D.pyL (L.map D.int) = some (L.map PyData.int)
  | [] => rfl
  | a :: r => by simp [D.pyL, D.py, pyL_ints r]
theorem canLay_ints : ∀ L : List Int, PyData.canLayAll0 (L.map PyData.int) = true ∧ PyData.depthAll (L.map PyData.int) = 0
  | [] => by simp [PyData.canLayAll0, PyData.depthAll]
  | a :: r => by
    obtain ⟨h1, h2⟩ := canLay_ints r
    simp [PyData.canLayAll0, PyData.depthAll, PyData.canLay0, PyData.depth, h1, h2]
theorem eq_nil (L : List Int) : eqD (.lst (L.map .int)) (.lst []) = some L.isEmpty := by
  have h1 : SeqAt.shaped (.list (L.map PyData.int)) = true := by
    obtain ⟨h1, h2⟩ := canLay_ints L
    simp [SeqAt.shaped, PyData.canLay0, PyData.depth, h1, h2]
  have h2 : SeqAt.shaped (.list []) = true := by simp [SeqAt.shaped, PyData.canLay0, PyData.depth, PyData.canLayAll0, PyData.depthAll]
  simp [eqD, D.py, pyL_ints, D.pyL, h1, h2]
  cases L <;> simp [PyData.eqv, PyData.eqvAll]

theorem at0 {α : Type} (a b c : α) : atI [a, b, c] 0 = some a := rfl
theorem at1 {α : Type} (a b c : α) : atI [a, b, c] 1 = some b := rfl
theorem at2 {α : Type} (a b c : α) : atI [a, b, c] 2 = some c := rfl
theorem ix31 : ixN 3 1 = some 1 := rfl
theorem ix32 : ixN 3 2 = some 2 := rfl
def mixed (t c : Int) : Int := ((((c % 2147483563 + 64317 * t + 223) ^ 5 % 2147483629) * (2 * t + 483) + 58235 * t * t + 49) ^ 3 % 2147483587) / 32
theorem atI_map (L : List Int) (i : Int) (h0 : 0 ≤ i) (h : i < L.length) : atI (L.map D.int) i = some (.int (L[i.toNat]'(by omega))) := by
  unfold atI ixN
  rw [List.length_map, if_pos h0, if_pos h]
  simp [show i.toNat < L.length by omega]
theorem pow5 (t c : Int) (ht : 0 ≤ t) (ht2 : t ≤ 1000) : powD (.int (c % 2147483563 + 64317 * t + 223)) (.int 5) = some (fz (.int ((c % 2147483563 + 64317 * t + 223) ^ 5))) := pow_of ⟨by decide, by decide, by omega⟩
theorem pow3 (t x : Int) (ht : 0 ≤ t) (ht2 : t ≤ 1000) : powD (.int (x % 2147483629 * (2 * t + 483) + 58235 * t * t + 49)) (.int 3) = some (fz (.int ((x % 2147483629 * (2 * t + 483) + 58235 * t * t + 49) ^ 3))) := by
  refine pow_of ⟨by decide, by decide, ?_⟩
  have a1 : x % 2147483629 * (2 * t + 483) ≤ 2147483629 * 2483 := Int.mul_le_mul (by omega) (by omega) (by omega) (by omega)
  have a2 : 0 ≤ x % 2147483629 * (2 * t + 483) := Int.mul_nonneg (by omega) (by omega)
  have b1 : 58235 * t * t ≤ 58235000 * 1000 := Int.mul_le_mul (by omega) (by omega) (by omega) (by omega)
  have b2 : 0 ≤ 58235 * t * t := Int.mul_nonneg (by omega) (by omega)
  omega
theorem p18 : powD (.int 10) (.int 18) = some (fz (.int (10 ^ 18))) := pow_of ⟨by decide, by decide, by decide⟩
theorem draw_m0 (t r many : Int) (hr : ¬ 0 < r) (ht : 0 ≤ t) (ht2 : t ≤ 1000) (hm : 0 < many) (hd : DivOk many) : f__law_draw [ow (pen [] t r), fz (.int many)] = .ok (fz (.int (mixed t (71379 * t + 675) % many))) [ow (pen [] (t + 1) r), fz (.int many)] := by
  have e := fun i => fdiv_of (i := i) hd
  have en := eq_nil []
  have e32 := fun i => fdiv_of (i := i) (j := 32) ⟨by decide, by decide⟩
  have m1 : mulD (.int 71379) (.int t) = some (fz (.int (71379 * t))) := mul_of (.inl (.inl (by omega)))
  have m2 : mulD (.int 64317) (.int t) = some (fz (.int (64317 * t))) := mul_of (.inl (.inl (by omega)))
  have m3 : mulD (.int 2) (.int t) = some (fz (.int (2 * t))) := mul_of (.inl (.inl (by omega)))
  have m4 : mulD (.int 58235) (.int t) = some (fz (.int (58235 * t))) := mul_of (.inl (.inl (by omega)))
  have m5 : mulD (.int (58235 * t)) (.int t) = some (fz (.int (58235 * t * t))) := mul_of (.inl (.inl (by omega)))
  have m6 : ∀ x, mulD (.int x) (.int (2 * t + 483)) = some (fz (.int (x * (2 * t + 483)))) := fun x => mul_of (.inl (.inr (by omega)))
  have hn : ¬ t < 0 := by omega
  have p5 := fun c => pow5 t c ht ht2
  have p3 := fun x => pow3 t x ht ht2
  simp only [List.map_nil, List.isEmpty_nil] at en
  simp [f__law_draw, b__law_draw, runF, endF, mkEnv, sqS, ifS, cmpS, cmpV, ixS, rdVar, op1, op2, cmp2, valR, blR, binS, binD, addD, subD, modD, cI, opL, looks, evCons, nilA, MP.intD, lenD, absD, asgS, stName, gSubS, storeI, modR, setD, frz, Env.store, Env.put, Env.at, retS, fnRet, andB, cmpD, ordD, ixD, pen, List.range, List.range.loop, lstS, mkLst, frzs, ofB, nxS, at0, at1, at2, ix31, ix32, hr, hm, e, en, m1, m2, m3, m4, m5, m6, e32, hn, p5, p3, mixed]
theorem draw_m (L : List Int) (t r many : Int) (hL : L ≠ []) (hr : ¬ 0 < r) (ht : 0 ≤ t) (ht2 : t ≤ 1000) (hm : 0 < many) (hd : DivOk many) : ∃ v r', 0 ≤ v ∧ v < many ∧ f__law_draw [ow (pen L t r), fz (.int many)] = .ok (fz (.int v)) [ow (pen L (t + 1) r'), fz (.int many)] := by
  have e := fun i => fdiv_of (i := i) hd
  have en := eq_nil L
  have e32 := fun i => fdiv_of (i := i) (j := 32) ⟨by decide, by decide⟩
  have hl : 0 < L.length := List.length_pos_iff.mpr hL
  have m1 : mulD (.int 71379) (.int t) = some (fz (.int (71379 * t))) := mul_of (.inl (.inl (by omega)))
  have m2 : mulD (.int 64317) (.int t) = some (fz (.int (64317 * t))) := mul_of (.inl (.inl (by omega)))
  have m3 : ∀ x, mulD (.int 2) (.int x) = some (fz (.int (2 * x))) := fun x => mul_of (.inl (.inl (by omega)))
  have m4 : mulD (.int 58235) (.int t) = some (fz (.int (58235 * t))) := mul_of (.inl (.inl (by omega)))
  have m5 : mulD (.int (58235 * t)) (.int t) = some (fz (.int (58235 * t * t))) := mul_of (.inl (.inl (by omega)))
  have m6 : ∀ x, mulD (.int x) (.int (2 * t + 483)) = some (fz (.int (x * (2 * t + 483)))) := fun x => mul_of (.inl (.inr (by omega)))
  have p5 := fun c => pow5 t c ht ht2
  have p3 := fun x => pow3 t x ht ht2
  have i0 : 0 ≤ t % (L.length : Int) := Int.emod_nonneg _ (by omega)
  have i1 : t % (L.length : Int) < L.length := Int.emod_lt_of_pos _ (by omega)
  have ix := atI_map L (t % (L.length : Int)) i0 i1
  have eE : L.isEmpty = false := by simpa using hL
  rw [eE] at en
  generalize L[(t % (L.length : Int)).toNat]'(by omega) = c at ix
  have hl' : (0 : Int) < L.length := by omega
  by_cases h1 : t < L.length
  · by_cases h2 : (10 : Int) ^ 18 ≤ (if c < 0 then -c else c)
    · refine ⟨(2 * ((if c < 0 then -c else c) - 10 ^ 18) + (if c < 0 then 1 else 0)) % many, (2 * ((if c < 0 then -c else c) - 10 ^ 18) + (if c < 0 then 1 else 0)) / many, Int.emod_nonneg _ (by omega), Int.emod_lt_of_pos _ hm, ?_⟩
      simp only [Int.reducePow] at h2
      simp [f__law_draw, b__law_draw, runF, endF, mkEnv, sqS, ifS, cmpS, cmpV, ixS, rdVar, op1, op2, cmp2, valR, blR, binS, binD, addD, subD, modD, cI, opL, looks, evCons, nilA, MP.intD, lenD, absD, asgS, stName, gSubS, storeI, modR, setD, frz, Env.store, Env.put, Env.at, retS, fnRet, andB, cmpD, ordD, ixD, pen, List.range, List.range.loop, lstS, mkLst, frzs, ofB, nxS, at0, at1, at2, ix31, ix32, hr, hm, e, en, m1, m2, m3, m4, m5, m6, e32, p5, p3, p18, ix, hl, hl', h1, h2]
    · refine ⟨mixed t c % many, r, Int.emod_nonneg _ (by omega), Int.emod_lt_of_pos _ hm, ?_⟩
      simp only [Int.reducePow] at h2
      simp [f__law_draw, b__law_draw, runF, endF, mkEnv, sqS, ifS, cmpS, cmpV, ixS, rdVar, op1, op2, cmp2, valR, blR, binS, binD, addD, subD, modD, cI, opL, looks, evCons, nilA, MP.intD, lenD, absD, asgS, stName, gSubS, storeI, modR, setD, frz, Env.store, Env.put, Env.at, retS, fnRet, andB, cmpD, ordD, ixD, pen, List.range, List.range.loop, lstS, mkLst, frzs, ofB, nxS, at0, at1, at2, ix31, ix32, hr, hm, e, en, m1, m2, m3, m4, m5, m6, e32, p5, p3, p18, ix, hl, hl', h1, h2, mixed]
  · refine ⟨mixed t c % many, r, Int.emod_nonneg _ (by omega), Int.emod_lt_of_pos _ hm, ?_⟩
    simp [f__law_draw, b__law_draw, runF, endF, mkEnv, sqS, ifS, cmpS, cmpV, ixS, rdVar, op1, op2, cmp2, valR, blR, binS, binD, addD, subD, modD, cI, opL, looks, evCons, nilA, MP.intD, lenD, absD, asgS, stName, gSubS, storeI, modR, setD, frz, Env.store, Env.put, Env.at, retS, fnRet, andB, cmpD, ordD, ixD, pen, List.range, List.range.loop, lstS, mkLst, frzs, ofB, nxS, at0, at1, at2, ix31, ix32, hr, hm, e, en, m1, m2, m3, m4, m5, m6, e32, p5, p3, p18, ix, hl, hl', h1, mixed]
end Gk08
end

section
set_option maxHeartbeats 8000000
namespace Gk08
open PySem PySem.Spec PyProof.Rows L2 MP
theorem draw (L : List Int) (t r many : Int) (ht : 0 ≤ t) (ht2 : t ≤ 1000) (hm : 0 < many) (hd : DivOk many) : ∃ v t' r', 0 ≤ v ∧ v < many ∧ 0 ≤ t' ∧ t' ≤ t + 1 ∧ f__law_draw [ow (pen L t r), fz (.int many)] = .ok (fz (.int v)) [ow (pen L t' r'), fz (.int many)] := by
  by_cases hr : 0 < r
  · exact ⟨r % many, t, r / many, Int.emod_nonneg _ (by omega), Int.emod_lt_of_pos _ hm, ht, by omega, draw1 L t r many hr hm hd⟩
  · by_cases hL : L = []
    · subst hL
      exact ⟨_, t + 1, r, Int.emod_nonneg _ (by omega), Int.emod_lt_of_pos _ hm, by omega, by omega, draw_m0 t r many hr ht ht2 hm hd⟩
    · obtain ⟨v, r', a, b, e⟩ := draw_m L t r many hL hr ht ht2 hm hd
      exact ⟨v, t + 1, r', a, b, by omega, by omega, e⟩
theorem pick (L : List Int) (t r : Int) (xs : List D) (ht : 0 ≤ t) (ht2 : t ≤ 1000) (hx : 0 < xs.length) (hx2 : DivOk xs.length) : ∃ d t' r', d ∈ xs ∧ 0 ≤ t' ∧ t' ≤ t + 1 ∧ f__law_pick [ow (pen L t r), ow (.lst xs)] = .ok (fz d) [ow (pen L t' r'), ow (.lst xs)] := by
  obtain ⟨v, t', r', a, b, c1, c2, e⟩ := draw L t r xs.length ht ht2 (by omega) hx2
  have hv : v.toNat < xs.length := by omega
  have ia : atI xs v = some xs[v.toNat] := by
    unfold atI ixN
    rw [if_pos a, if_pos b]
    simp [hv]
  refine ⟨xs[v.toNat], t', r', List.getElem_mem hv, c1, c2, ?_⟩
  simp [f__law_pick, b__law_pick, runF, endF, mkEnv, retS, fnRet, ixS, rdVar, op2, valR, callS, callD, opL, looks, roots, backs, evCons, nilA, lenD, Env.put, Env.at, Env.store, List.range, List.range.loop, Hnd.look, e, ia, ixD]
def vals (n : Int) : List D := [.non, .bl true, .bl false, .int 0, .int (-3), .int (10 ^ 40), .str "", .str "size int", .str "a.b", .tup [], .tup [.str "p", .str "q"], .lst [.int 1, .non], .dct [(.str "a", .tup [.int 1, .int 2])], .int n, .lst [.lst [], .dct []], .str "~", .tup [.str "byte", .str "align k", .int (-1)]]
theorem sz0 : 0 ≤ sizeLine := by decide
theorem sz1 : 1 ≤ sizeLine := by decide
theorem sz2 : 2 ≤ sizeLine := by decide
theorem sz3 : 3 ≤ sizeLine := by decide
theorem sz4 : 4 ≤ sizeLine := by decide
theorem sz5 : 5 ≤ sizeLine := by decide
theorem sz13 : 13 ≤ sizeLine := by decide
theorem sz17 : 17 ≤ sizeLine := by decide
theorem p6 : powD (.int 10) (.int 6) = some (fz (.int 1000000)) := by kernel_rfl
theorem p40 : powD (.int 10) (.int 40) = some (fz (.int (10 ^ 40))) := by kernel_rfl
theorem value (L : List Int) (t r : Int) (ht : 0 ≤ t) (ht2 : t ≤ 999) : ∃ n d t' r', 0 ≤ n ∧ n < 1000000 ∧ d ∈ vals n ∧ 0 ≤ t' ∧ t' ≤ t + 2 ∧ f__law_value [ow (pen L t r)] = .ok (fz d) [ow (pen L t' r')] := by
  obtain ⟨n, t1, r1, a, b, c1, c2, e1⟩ := draw L t r 1000000 ht (by omega) (by decide) ⟨by decide, by decide⟩
  obtain ⟨d, t2, r2, hd, d1, d2, e2⟩ := pick L t1 r1 (vals n) c1 (by omega) (by simp [vals]) ⟨by simp [vals], by simp only [vals, List.length]; decide⟩
  refine ⟨n, d, t2, r2, a, b, hd, d1, by omega, ?_⟩
  simp only [vals, Int.reducePow] at e2
  simp [f__law_value, b__law_value, runF, endF, mkEnv, retS, sqS, asgS, stName, fnRet, ixS, rdVar, op1, op2, valR, callS, callD, opL, looks, roots, backs, evCons, nilA, lenD, Env.put, Env.at, Env.store, List.range, List.range.loop, Hnd.look, lstS, mkLst, tupS, mkTup, frzs, frz, cN, cB, cI, cS, negS, dispS, binS, binD, addD, p6, p40, e1, e2, negD, pairUp, dput, sz2, sz3, sz4, sz5, sz13, sz17, sz1, sz0, frz, MP.kD, D.key]
theorem strOk_app (a b : Str) (h : PyData.strOk a = true) (k : PyData.strOk b = true) : PyData.strOk (a ++ b) = true := by
  have e : (a ++ b).cps = a.cps ++ b.cps := rfl
  unfold PyData.strOk at *
  rw [e, Array.all_append, h, k]; rfl
theorem strOk_of (s : String) : PyData.strOk (Str.ofString s) = true := by
  rw [Str.ofString_eq_toList]
  simp only [PyData.strOk, List.all_toArray, List.all_map, List.all_eq_true, Function.comp]
  intro c _
  have := c.valid
  simp only [decide_eq_true_eq]
  rcases this with h | h <;> simp only [Char.toNat] <;> omega
def Good (d : D) : Prop := ∃ p : PyData, d.pyR = some p ∧ p.showable = true ∧ p.shown.length ≤ 1000 ∧ p.depth ≤ 10 ∧ PyData.strOk p.shown = true
theorem Good.repr {d : D} (h : Good d) : ∃ x : Str, PyData.strOk x = true ∧ reprD [d] = some (fz (.str x)) := by
  obtain ⟨p, a, b, c, e, o⟩ := h
  exact ⟨p.shown, o, by simp [reprD, a, b, show p.shown.length ≤ sizeLine from Nat.le_trans c (by decide), show p.depth ≤ 60 by omega]⟩
theorem Good.two {d e : D} (h : Good d) (k : Good e) : ∃ x : Str, PyData.strOk x = true ∧ reprD [.lst [d, e]] = some (fz (.str x)) := by
  obtain ⟨p, a, b, c, f, o⟩ := h
  obtain ⟨q, a', b', c', f', o'⟩ := k
  have z : (PyData.shown (.list [p, q])).length ≤ 3000 := by
    refine Nat.le_trans (by rw [PyData.shown]; exact listText_len_le _) ?_
    simp [PyData.shownAll]
    omega
  refine ⟨(PyData.list [p, q]).shown, ?_, ?_⟩
  · rw [PyData.shown]
    simp only [PyData.shownAll, listText, textFrom]
    refine strOk_app _ _ (strOk_app _ _ (strOk_app _ _ (strOk_app _ _ (strOk_app _ _ ?_ ?_) o) ?_) o') ?_ <;> exact strOk_of _
  have w : PyData.showable (.list [p, q]) = true := by simp [PyData.showable, PyData.showableAll, b, b']
  have u : PyData.depth (.list [p, q]) ≤ 60 := by simp [PyData.depth, PyData.depthAll]; omega
  have s : (PyData.shown (.list [p, q])).length ≤ sizeLine := Nat.le_trans z (by decide)
  simp [reprD, D.pyR, D.pyRL, a, a', w, u, s]
theorem good_vals {n : Int} (h : 0 ≤ n) (h2 : n < 1000000) : ∀ d ∈ vals n, Good d := by
  intro d hd
  simp only [vals, List.mem_cons, List.not_mem_nil, or_false] at hd
  have gl : (PyData.int n).showable = true := by
    simp [PyData.showable]
    by_cases z : n.natAbs = 0
    · rw [z]; decide
    · exact Nat.lt_trans ((Nat.log2_lt z).mpr (show n.natAbs < 2 ^ 20 by omega)) (by decide)
  have gi : Good (.int n) := ⟨.int n, rfl, gl, Nat.le_trans (PyData.shown_int_le (by omega)) (by omega), by simp [PyData.depth], strOk_of _⟩
  rcases hd with rfl | rfl | rfl | rfl | rfl | rfl | rfl | rfl | rfl | rfl | rfl | rfl | rfl | rfl | rfl | rfl | rfl
  all_goals first | exact gi | exact ⟨_, rfl, by decide +kernel, by decide +kernel, by decide +kernel, by decide +kernel⟩
theorem e_pen (ns : List Int) : ∃ L, f__law_pen [fz (.scr ns)] = .ok (ow (pen L 0 0)) [fz (.scr ns)] := by
  refine ⟨MP.cutD ns none (some 63), ?_⟩
  simp [f__law_pen, b__law_pen, runF, endF, mkEnv, retS, lstS, evCons, nilA, opL, slTo, rdVar, cI, op2, slD, listD, looks, fnRet, List.range, List.range.loop, Hnd.look, Env.at, MP.cutD, List.map_take, List.map_drop, d2i, valR, mkLst, frzs, frz, sz3, pen]
end Gk08
end

section
set_option maxHeartbeats 0
namespace Gk08
open PySem PySem.Spec PyProof.Rows L2 MP
def rows1 (one two : D) : List (D × D) := [
  (.exc "BadName" [("name", one)], one), (.exc "BadTimes" [("value", two)], two), (.exc "BadParts" [("at", one)], one), (.exc "NoName" [("name", two)], two),
  (.exc "NoPath" [("at", two), ("path", one)], .lst [one, two]),
  (.exc "Taken" [("name", one)], one), (.exc "Ring" [("way", two)], two), (.exc "InUse" [("name", one)], one), (.exc "Unresolved" [("name", two)], two), (.exc "NoMachine" [("scale", one)], one), (.exc "BadValue" [("path", two)], two),
  (.exc "TooLarge" [("most", one), ("what", two)], .lst [two, one])]
def rows2 (one two : D) : List (D × D) := [
  (.exc "NoScale" [("scale", one)], one), (.exc "BadBound" [("value", two)], two), (.exc "NoTerm" [("at", one)], one), (.exc "NoClaim" [("at", two)], two),
  (.exc "NotRecord" [("name", one)], one), (.exc "Endless" [("scale", two)], two), (.exc "NoOffer" [("at", one)], one), (.exc "NoOrder" [("at", two)], two),
  (.exc "BadText" [("at", one)], one), (.exc "Barred" [], .int 0), (.exc "NoLine" [], .int 0)]
def row3 (p : D × D) : D := .tup [p.1, p.2, p.2]
theorem e_first (one two : D) : f__law_first_rows [fz one, fz two] = .ok (ow (.lst ((rows1 one two).map row3))) [fz one, fz two] := by
  kernel_rfl
theorem e_last (one two : D) : f__law_last_rows [fz one, fz two] = .ok (ow (.lst ((rows2 one two).map row3))) [fz one, fz two] := by
  kernel_rfl
def clss : List String := ["BadName", "BadTimes", "BadParts", "NoName", "NoPath", "Taken", "Ring", "InUse", "Unresolved", "NoMachine", "BadValue", "TooLarge", "NoScale", "BadBound", "NoTerm", "NoClaim", "NotRecord", "Endless", "NoOffer", "NoOrder", "BadText", "Barred", "NoLine"]
theorem e_marks (one two : D) (k : Nat) (hk : k < 23) : ∃ e s, (rows1 one two ++ rows2 one two)[k]? = some (e, s) ∧ (s = one ∨ s = two ∨ s = .lst [one, two] ∨ s = .lst [two, one] ∨ s = .int 0) ∧ f__law_marks [fz e] = .ok (ow (.lst ((List.range 23).map fun j => D.bl (decide (j = k))))) [fz e]
    ∧ isiD tab [e, .obj "PadError"] = some (fz (.bl true)) ∧ isiD tab [e, .ty "ValueError"] = some (fz (.bl true)) ∧ isiD tab [e, .tup [.ty "KeyError", .ty "IndexError", .ty "LookupError"]] = some (fz (.bl false)) := by
  match k, hk with
  | 0, _ => exact ⟨_, _, rfl, by first | exact .inl rfl | exact .inr (.inl rfl) | exact .inr (.inr (.inl rfl)) | exact .inr (.inr (.inr (.inl rfl))) | exact .inr (.inr (.inr (.inr rfl))), by kernel_rfl, by kernel_rfl, by kernel_rfl, by kernel_rfl⟩
  | 1, _ => exact ⟨_, _, rfl, by first | exact .inl rfl | exact .inr (.inl rfl) | exact .inr (.inr (.inl rfl)) | exact .inr (.inr (.inr (.inl rfl))) | exact .inr (.inr (.inr (.inr rfl))), by kernel_rfl, by kernel_rfl, by kernel_rfl, by kernel_rfl⟩
  | 2, _ => exact ⟨_, _, rfl, by first | exact .inl rfl | exact .inr (.inl rfl) | exact .inr (.inr (.inl rfl)) | exact .inr (.inr (.inr (.inl rfl))) | exact .inr (.inr (.inr (.inr rfl))), by kernel_rfl, by kernel_rfl, by kernel_rfl, by kernel_rfl⟩
  | 3, _ => exact ⟨_, _, rfl, by first | exact .inl rfl | exact .inr (.inl rfl) | exact .inr (.inr (.inl rfl)) | exact .inr (.inr (.inr (.inl rfl))) | exact .inr (.inr (.inr (.inr rfl))), by kernel_rfl, by kernel_rfl, by kernel_rfl, by kernel_rfl⟩
  | 4, _ => exact ⟨_, _, rfl, by first | exact .inl rfl | exact .inr (.inl rfl) | exact .inr (.inr (.inl rfl)) | exact .inr (.inr (.inr (.inl rfl))) | exact .inr (.inr (.inr (.inr rfl))), by kernel_rfl, by kernel_rfl, by kernel_rfl, by kernel_rfl⟩
  | 5, _ => exact ⟨_, _, rfl, by first | exact .inl rfl | exact .inr (.inl rfl) | exact .inr (.inr (.inl rfl)) | exact .inr (.inr (.inr (.inl rfl))) | exact .inr (.inr (.inr (.inr rfl))), by kernel_rfl, by kernel_rfl, by kernel_rfl, by kernel_rfl⟩
  | 6, _ => exact ⟨_, _, rfl, by first | exact .inl rfl | exact .inr (.inl rfl) | exact .inr (.inr (.inl rfl)) | exact .inr (.inr (.inr (.inl rfl))) | exact .inr (.inr (.inr (.inr rfl))), by kernel_rfl, by kernel_rfl, by kernel_rfl, by kernel_rfl⟩
  | 7, _ => exact ⟨_, _, rfl, by first | exact .inl rfl | exact .inr (.inl rfl) | exact .inr (.inr (.inl rfl)) | exact .inr (.inr (.inr (.inl rfl))) | exact .inr (.inr (.inr (.inr rfl))), by kernel_rfl, by kernel_rfl, by kernel_rfl, by kernel_rfl⟩
  | 8, _ => exact ⟨_, _, rfl, by first | exact .inl rfl | exact .inr (.inl rfl) | exact .inr (.inr (.inl rfl)) | exact .inr (.inr (.inr (.inl rfl))) | exact .inr (.inr (.inr (.inr rfl))), by kernel_rfl, by kernel_rfl, by kernel_rfl, by kernel_rfl⟩
  | 9, _ => exact ⟨_, _, rfl, by first | exact .inl rfl | exact .inr (.inl rfl) | exact .inr (.inr (.inl rfl)) | exact .inr (.inr (.inr (.inl rfl))) | exact .inr (.inr (.inr (.inr rfl))), by kernel_rfl, by kernel_rfl, by kernel_rfl, by kernel_rfl⟩
  | 10, _ => exact ⟨_, _, rfl, by first | exact .inl rfl | exact .inr (.inl rfl) | exact .inr (.inr (.inl rfl)) | exact .inr (.inr (.inr (.inl rfl))) | exact .inr (.inr (.inr (.inr rfl))), by kernel_rfl, by kernel_rfl, by kernel_rfl, by kernel_rfl⟩
  | 11, _ => exact ⟨_, _, rfl, by first | exact .inl rfl | exact .inr (.inl rfl) | exact .inr (.inr (.inl rfl)) | exact .inr (.inr (.inr (.inl rfl))) | exact .inr (.inr (.inr (.inr rfl))), by kernel_rfl, by kernel_rfl, by kernel_rfl, by kernel_rfl⟩
  | 12, _ => exact ⟨_, _, rfl, by first | exact .inl rfl | exact .inr (.inl rfl) | exact .inr (.inr (.inl rfl)) | exact .inr (.inr (.inr (.inl rfl))) | exact .inr (.inr (.inr (.inr rfl))), by kernel_rfl, by kernel_rfl, by kernel_rfl, by kernel_rfl⟩
  | 13, _ => exact ⟨_, _, rfl, by first | exact .inl rfl | exact .inr (.inl rfl) | exact .inr (.inr (.inl rfl)) | exact .inr (.inr (.inr (.inl rfl))) | exact .inr (.inr (.inr (.inr rfl))), by kernel_rfl, by kernel_rfl, by kernel_rfl, by kernel_rfl⟩
  | 14, _ => exact ⟨_, _, rfl, by first | exact .inl rfl | exact .inr (.inl rfl) | exact .inr (.inr (.inl rfl)) | exact .inr (.inr (.inr (.inl rfl))) | exact .inr (.inr (.inr (.inr rfl))), by kernel_rfl, by kernel_rfl, by kernel_rfl, by kernel_rfl⟩
  | 15, _ => exact ⟨_, _, rfl, by first | exact .inl rfl | exact .inr (.inl rfl) | exact .inr (.inr (.inl rfl)) | exact .inr (.inr (.inr (.inl rfl))) | exact .inr (.inr (.inr (.inr rfl))), by kernel_rfl, by kernel_rfl, by kernel_rfl, by kernel_rfl⟩
  | 16, _ => exact ⟨_, _, rfl, by first | exact .inl rfl | exact .inr (.inl rfl) | exact .inr (.inr (.inl rfl)) | exact .inr (.inr (.inr (.inl rfl))) | exact .inr (.inr (.inr (.inr rfl))), by kernel_rfl, by kernel_rfl, by kernel_rfl, by kernel_rfl⟩
  | 17, _ => exact ⟨_, _, rfl, by first | exact .inl rfl | exact .inr (.inl rfl) | exact .inr (.inr (.inl rfl)) | exact .inr (.inr (.inr (.inl rfl))) | exact .inr (.inr (.inr (.inr rfl))), by kernel_rfl, by kernel_rfl, by kernel_rfl, by kernel_rfl⟩
  | 18, _ => exact ⟨_, _, rfl, by first | exact .inl rfl | exact .inr (.inl rfl) | exact .inr (.inr (.inl rfl)) | exact .inr (.inr (.inr (.inl rfl))) | exact .inr (.inr (.inr (.inr rfl))), by kernel_rfl, by kernel_rfl, by kernel_rfl, by kernel_rfl⟩
  | 19, _ => exact ⟨_, _, rfl, by first | exact .inl rfl | exact .inr (.inl rfl) | exact .inr (.inr (.inl rfl)) | exact .inr (.inr (.inr (.inl rfl))) | exact .inr (.inr (.inr (.inr rfl))), by kernel_rfl, by kernel_rfl, by kernel_rfl, by kernel_rfl⟩
  | 20, _ => exact ⟨_, _, rfl, by first | exact .inl rfl | exact .inr (.inl rfl) | exact .inr (.inr (.inl rfl)) | exact .inr (.inr (.inr (.inl rfl))) | exact .inr (.inr (.inr (.inr rfl))), by kernel_rfl, by kernel_rfl, by kernel_rfl, by kernel_rfl⟩
  | 21, _ => exact ⟨_, _, rfl, by first | exact .inl rfl | exact .inr (.inl rfl) | exact .inr (.inr (.inl rfl)) | exact .inr (.inr (.inr (.inl rfl))) | exact .inr (.inr (.inr (.inr rfl))), by kernel_rfl, by kernel_rfl, by kernel_rfl, by kernel_rfl⟩
  | 22, _ => exact ⟨_, _, rfl, by first | exact .inl rfl | exact .inr (.inl rfl) | exact .inr (.inr (.inl rfl)) | exact .inr (.inr (.inr (.inl rfl))) | exact .inr (.inr (.inr (.inr rfl))), by kernel_rfl, by kernel_rfl, by kernel_rfl, by kernel_rfl⟩
  | n + 23, h => omega
end Gk08
end

section
set_option maxHeartbeats 0
namespace Gk08
open PySem PySem.Spec PyProof.Rows L2 MP
def nr (one two : D) : List D := [one, two, one, two, one, two, one, two, one, two, one, two, one, two, one, two, one, two, one, .lst [one, two], .lst [two, one]]
noncomputable def nrEnd : MP.Env → Rs Fl := (retS (cmpV .Eq (compS (itA (rdVar 2)) (gTupS [(stName 4), (stName 5)]) (cmpS .NotEq (opL reprD (evCons (rdVar 4) nilA)) (opL reprD (evCons (rdVar 5) nilA))) (cI 1) [4, 5]) (lstS nilA)))
theorem e_nr (one two : D) : ∃ (xs : List D) (e : T), (∀ d ∈ xs, d = one ∨ d = two ∨ d = .lst [one, two] ∨ d = .lst [two, one]) ∧ f__law_named_right [fz one, fz two] = endF (nrEnd ⟨[fz one, fz two], [some (.par 0), some (.par 1), some (.loc (ow (.lst (xs.map fun d => .tup [d, d])))), some (.loc e), none, none]⟩) := by
  refine ⟨[one, two, one, two, one, two, one, two, one, two, one, two, one, two, one, two, one, two, one, .lst [one, two], .lst [two, one]], ?e, ?h, ?g⟩
  case e => exact fz (.exc "TooLarge" [("most", one), ("what", two)])
  case h =>
    intro d hd
    simp only [List.mem_cons, List.not_mem_nil, or_false] at hd
    rcases hd with rfl | rfl | rfl | rfl | rfl | rfl | rfl | rfl | rfl | rfl | rfl | rfl | rfl | rfl | rfl | rfl | rfl | rfl | rfl | rfl | rfl <;> simp
  case g => kernel_rfl
theorem eq_str (x : Str) (h : PyData.strOk x = true) : eqD (.str x) (.str x) = some true := by
  simp [eqD, D.py, SeqAt.shaped, PyData.canLay0, PyData.depth, PyData.eqv, h]
theorem lc_nr (gs : List T) (a0 a1 a2 a3 : Option Sv) : ∀ xs : List D, (∀ d ∈ xs, ∃ x : Str, PyData.strOk x = true ∧ reprD [d] = some (fz (.str x))) → lcL (gTupS [(stName 4), (stName 5)]) (cmpS .NotEq (opL reprD (evCons (rdVar 4) nilA)) (opL reprD (evCons (rdVar 5) nilA))) (cI 1) [4, 5] (xs.map fun d => .tup [d, d]) [] ⟨gs, [a0, a1, a2, a3, none, none]⟩ = .ok [] ⟨gs, [a0, a1, a2, a3, none, none]⟩
  | [], _ => rfl
  | d :: ds, h => by
    obtain ⟨x, o, e⟩ := h d List.mem_cons_self
    have ih := lc_nr gs a0 a1 a2 a3 ds fun d hd => h d (List.mem_cons_of_mem _ hd)
    rw [List.map_cons]
    unfold lcL
    simp [gTupS, Hnd.look, gLst, stName, Env.store, Rs.bind, cmpS, opL, evCons, rdVar, nilA, looks, e, valR, cmp2, cmpD, eq_str x o, blR, Env.kills, Env.kill, ih]
theorem named_right {one two : D} (h : Good one) (k : Good two) : f__law_named_right [fz one, fz two] = .ok (fz (.bl true)) [fz one, fz two] := by
  obtain ⟨xs, e, hx, E⟩ := e_nr one two
  rw [E]
  have z := lc_nr [fz one, fz two] (some (.par 0)) (some (.par 1)) (some (.loc (fz (.lst (xs.map fun d => .tup [d, d]))))) (some (.loc e)) xs (by
    intro d hd
    rcases hx d hd with rfl | rfl | rfl | rfl
    · exact h.repr
    · exact k.repr
    · exact h.two k
    · exact k.two h)
  have en := eq_nil []
  simp only [List.map_nil, List.isEmpty_nil] at en
  simp [nrEnd, retS, cmpV, cmpS, ofB, compS, itA, rdVar, frz, Env.at, Env.put, Env.store, optR, itD, Env.kills, Env.kill, z, lstS, nilA, mkLst, frzs, cmp2, Hnd.look, cmpD, en, blR, fnRet, endF, sz0]
end Gk08
end

section
set_option maxHeartbeats 0
namespace Gk08
open PySem PySem.Spec PyProof.Rows L2 MP
noncomputable def ksS : MP.Env → Rs Hnd := compS (it1 rng1 (cI 23)) (stName 10) yesS (cmpV .Eq (rdVar 10) (rdVar 6)) [10]
noncomputable def inB : MP.Env → Rs Fl := (sqS (asgS (ixS (rdVar 5) (rdVar 6)) (gTupS [(stName 7), (stName 8), (stName 9)]))
  (sqS (ifS (orB (cmpS .NotEq (opL reprD (evCons (rdVar 8) nilA)) (opL reprD (evCons (rdVar 9) nilA))) (cmpS .NotEq (callS f__law_marks (evCons (rdVar 7) nilA)) ksS)) (retS (cB false)) nxS)
  (sqS (ifS (orB (notB (truS (opL (isiD tab) (evCons (rdVar 7) (evCons (cD (.obj "PadError")) nilA))))) (notB (truS (opL (isiD tab) (evCons (rdVar 7) (evCons (cD (.ty "ValueError")) nilA)))))) (retS (cB false)) nxS)
  (ifS (truS (opL (isiD tab) (evCons (rdVar 7) (evCons (tupS (evCons (cD (.ty "KeyError")) (evCons (cD (.ty "IndexError")) (evCons (cD (.ty "LookupError")) nilA)))) nilA)))) (retS (cB false)) nxS))))
noncomputable def outB : MP.Env → Rs Fl := (sqS (parS 3 4 (evCons (callS f__law_value (evCons (rdVar 1) nilA)) (evCons (callS f__law_value (evCons (rdVar 1) nilA)) nilA)))
  (sqS (asgS (binS .Add (callS f__law_first_rows (evCons (rdVar 3) (evCons (rdVar 4) nilA))) (callS f__law_last_rows (evCons (rdVar 3) (evCons (rdVar 4) nilA)))) (stName 5))
  (sqS (ifS (notB (truS (callS f__law_named_right (evCons (rdVar 3) (evCons (rdVar 4) nilA))))) (retS (cB false)) nxS)
  (forS (it1 rng1 (opL lenD (evCons (rdVar 5) nilA))) (stName 6) inB))))
theorem law_eq : b_law = (sqS (asgS (callS f__law_pen (evCons (rdVar 0) nilA)) (stName 1)) (sqS (forS (it1 rng1 (cI 4)) (stName 2) outB) (retS (opL (isiD tab) (evCons (excNS "PadError" (evCons (cS "x") nilA)) (evCons (cD (.ty "ValueError")) nilA)))))) := rfl
def bls (k : Nat) : D := .lst ((List.range 23).map fun j => D.bl (decide (j = k)))
theorem e_ks (k : Nat) (hk : k < 23) (gs : List T) (a0 a1 a2 a3 a4 a5 a7 a8 a9 : Option Sv) : ksS ⟨gs, [a0, a1, a2, a3, a4, a5, some (.loc (fz (.int (0 + k)))), a7, a8, a9, none]⟩ = .ok (.val (ow (bls k))) ⟨gs, [a0, a1, a2, a3, a4, a5, some (.loc (fz (.int (0 + k)))), a7, a8, a9, none]⟩ ∧ eqD (bls k) (bls k) = some true := by
  match k, hk with
  | 0, _ => exact ⟨by kernel_rfl, by kernel_rfl⟩
  | 1, _ => exact ⟨by kernel_rfl, by kernel_rfl⟩
  | 2, _ => exact ⟨by kernel_rfl, by kernel_rfl⟩
  | 3, _ => exact ⟨by kernel_rfl, by kernel_rfl⟩
  | 4, _ => exact ⟨by kernel_rfl, by kernel_rfl⟩
  | 5, _ => exact ⟨by kernel_rfl, by kernel_rfl⟩
  | 6, _ => exact ⟨by kernel_rfl, by kernel_rfl⟩
  | 7, _ => exact ⟨by kernel_rfl, by kernel_rfl⟩
  | 8, _ => exact ⟨by kernel_rfl, by kernel_rfl⟩
  | 9, _ => exact ⟨by kernel_rfl, by kernel_rfl⟩
  | 10, _ => exact ⟨by kernel_rfl, by kernel_rfl⟩
  | 11, _ => exact ⟨by kernel_rfl, by kernel_rfl⟩
  | 12, _ => exact ⟨by kernel_rfl, by kernel_rfl⟩
  | 13, _ => exact ⟨by kernel_rfl, by kernel_rfl⟩
  | 14, _ => exact ⟨by kernel_rfl, by kernel_rfl⟩
  | 15, _ => exact ⟨by kernel_rfl, by kernel_rfl⟩
  | 16, _ => exact ⟨by kernel_rfl, by kernel_rfl⟩
  | 17, _ => exact ⟨by kernel_rfl, by kernel_rfl⟩
  | 18, _ => exact ⟨by kernel_rfl, by kernel_rfl⟩
  | 19, _ => exact ⟨by kernel_rfl, by kernel_rfl⟩
  | 20, _ => exact ⟨by kernel_rfl, by kernel_rfl⟩
  | 21, _ => exact ⟨by kernel_rfl, by kernel_rfl⟩
  | 22, _ => exact ⟨by kernel_rfl, by kernel_rfl⟩
  | n + 23, h => omega
end Gk08
end

section
set_option maxHeartbeats 0
namespace Gk08
open PySem PySem.Spec PyProof.Rows L2 MP
def rws (one two : D) : List D := (rows1 one two ++ rows2 one two).map row3
theorem rws_len (one two : D) : (rws one two).length = 23 := by simp [rws, rows1, rows2]
theorem atI_nat (xs : List D) (k : Nat) (x : D) (h : xs[k]? = some x) : atI xs (0 + (k : Int)) = some x := by
  have hk : k < xs.length := by
    rcases Nat.lt_or_ge k xs.length with h1 | h1
    · exact h1
    · rw [List.getElem?_eq_none h1] at h; cases h
  unfold atI ixN
  rw [if_pos (by omega), if_pos (by omega)]
  simpa using h
theorem e_in {one two : D} (g1 : Good one) (g2 : Good two) (k : Nat) (hk : k < 23) (gs : List T) (a0 a1 a2 a3 a4 a7 a8 a9 : Option Sv) : ∃ b7 b8 b9, inB ⟨gs, [a0, a1, a2, a3, a4, some (.loc (ow (.lst (rws one two)))), some (.loc (fz (.int (0 + k)))), a7, a8, a9, none]⟩ = .ok .nx ⟨gs, [a0, a1, a2, a3, a4, some (.loc (ow (.lst (rws one two)))), some (.loc (fz (.int (0 + k)))), b7, b8, b9, none]⟩ := by
  obtain ⟨e, s, h1, h2, h3, h4, h5, h6⟩ := e_marks one two k hk
  have hr : ∃ x : Str, PyData.strOk x = true ∧ reprD [s] = some (fz (.str x)) := by
    rcases h2 with rfl | rfl | rfl | rfl | rfl
    · exact g1.repr
    · exact g2.repr
    · exact g1.two g2
    · exact g2.two g1
    · exact ⟨Str.ofString "0", strOk_of _, by kernel_rfl⟩
  obtain ⟨x, o, hx⟩ := hr
  have ha : atI (rws one two) (0 + (k : Int)) = some (row3 (e, s)) := atI_nat _ _ _ (by rw [rws, List.getElem?_map, h1]; rfl)
  have hks := fun b7 b8 b9 => (e_ks k hk gs a0 a1 a2 a3 a4 (some (.loc (ow (.lst (rws one two))))) b7 b8 b9).1
  have heq := (e_ks k hk gs a0 a1 a2 a3 a4 none none none none).2
  generalize rws one two = R at *
  simp only [show (D.lst ((List.range 23).map fun j => D.bl (decide (j = k)))) = bls k from rfl] at h3
  generalize bls k = B at *
  generalize (0 + (k : Int)) = kk at *
  refine ⟨some (.loc (fz e)), some (.loc (fz s)), some (.loc (fz s)), ?_⟩
  simp [inB, sqS, asgS, ixS, rdVar, op2, ixD, ha, valR, gTupS, gLst, stName, Env.store, Hnd.look, row3, ifS, orB, cmpS, opL, evCons, nilA, looks, hx, cmp2, cmpD, eq_str x o, blR, callS, callD, h3, roots, backs, hks, heq, notB, truS, tru1, truthD, h4, h5, h6, cD, tupS, mkTup, frzs, frz, sz3, nxS, Env.at]
theorem e_inner {one two : D} (g1 : Good one) (g2 : Good two) (gs : List T) (a0 a1 a2 a3 a4 : Option Sv) : ∀ (n m : Nat) (a6 a7 a8 a9 : Option Sv), m + n = 23 → ∃ b6 b7 b8 b9, forL (stName 6) inB (((List.range 23).drop m).map fun (i : Nat) => .int (0 + i)) ⟨gs, [a0, a1, a2, a3, a4, some (.loc (ow (.lst (rws one two)))), a6, a7, a8, a9, none]⟩ = .ok .nx ⟨gs, [a0, a1, a2, a3, a4, some (.loc (ow (.lst (rws one two)))), b6, b7, b8, b9, none]⟩
  | 0, m, a6, a7, a8, a9, h => by
    have e : m = 23 := by omega
    subst e
    exact ⟨a6, a7, a8, a9, rfl⟩
  | n + 1, m, a6, a7, a8, a9, h => by
    obtain ⟨b7, b8, b9, e⟩ := e_in g1 g2 m (by omega) gs a0 a1 a2 a3 a4 a7 a8 a9
    obtain ⟨c6, c7, c8, c9, e2⟩ := e_inner g1 g2 gs a0 a1 a2 a3 a4 n (m + 1) (some (.loc (fz (.int (0 + m))))) b7 b8 b9 (by omega)
    refine ⟨c6, c7, c8, c9, ?_⟩
    have hm : m < (List.range 23).length := by simp; omega
    rw [List.drop_eq_getElem_cons hm, List.map_cons, List.getElem_range]
    unfold forL
    have z : stName 6 (.val (fz (.int (0 + (m : Int))))) ⟨gs, [a0, a1, a2, a3, a4, some (.loc (ow (.lst (rws one two)))), a6, a7, a8, a9, none]⟩ = .ok () ⟨gs, [a0, a1, a2, a3, a4, some (.loc (ow (.lst (rws one two)))), some (.loc (fz (.int (0 + m)))), a7, a8, a9, none]⟩ := rfl
    rw [z, Rs.bind_ok, e, Rs.bind_ok]
    exact e2
theorem e_out (ns : List Int) (L : List Int) (t r : Int) (ht : 0 ≤ t) (ht2 : t ≤ 900) (a2 a3 a4 a5 a6 a7 a8 a9 : Option Sv) : ∃ t' r' b3 b4 b5 b6 b7 b8 b9, 0 ≤ t' ∧ t' ≤ t + 4 ∧ outB ⟨[fz (.scr ns)], [some (.par 0), some (.loc (ow (pen L t r))), a2, a3, a4, a5, a6, a7, a8, a9, none]⟩ = .ok .nx ⟨[fz (.scr ns)], [some (.par 0), some (.loc (ow (pen L t' r'))), a2, b3, b4, b5, b6, b7, b8, b9, none]⟩ := by
  obtain ⟨n1, one, t1, r1, p1, p2, d1, q1, q2, e1⟩ := value L t r ht (by omega)
  obtain ⟨n2, two, t2, r2, p3, p4, d2, q3, q4, e2⟩ := value L t1 r1 q1 (by omega)
  have g1 := good_vals p1 p2 one d1
  have g2 := good_vals p3 p4 two d2
  obtain ⟨b6, b7, b8, b9, e⟩ := e_inner g1 g2 [fz (.scr ns)] (some (.par 0)) (some (.loc (ow (pen L t2 r2)))) a2 (some (.loc (fz one))) (some (.loc (fz two))) 23 0 a6 a7 a8 a9 rfl
  have en := named_right g1 g2
  have ef := e_first one two
  have el := e_last one two
  have hl : ((rows1 one two).map row3 ++ (rows2 one two).map row3) = rws one two := by rw [rws, List.map_append]
  have h1 : ((rows1 one two).map row3).length = 12 := rfl
  have h2 : ((rows2 one two).map row3).length = 11 := rfl
  have rl := rws_len one two
  generalize rws one two = R at *
  generalize (rows1 one two).map row3 = R1 at *
  generalize (rows2 one two).map row3 = R2 at *
  refine ⟨t2, r2, some (.loc (fz one)), some (.loc (fz two)), some (.loc (ow (.lst R))), b6, b7, b8, b9, q3, by omega, ?_⟩
  simp only [List.drop_zero] at e
  have sz23 : 23 ≤ sizeLine := by decide
  have i23 : MP.inR 23 = true := by decide
  simp only [Int.zero_add] at e
  unfold outB
  simp [sqS, parS, evCons, callS, callD, rdVar, looks, roots, backs, nilA, e1, e2, Hnd.look, Env.at, Env.put, Env.store, MP.settle, MP.settle1, asgS, binS, op2, binD, addD, ef, el, hl, h1, h2, sz23, stName, valR, ifS, notB, truS, tru1, truthD, en, blR, nxS, forS, it1, opL, lenD, rng1, rl, optR, i23, e]


end Gk08
end

section
set_option maxHeartbeats 0
namespace Gk08
open PySem PySem.Spec PyProof.Rows L2 MP
theorem e_loop (ns : List Int) (L : List Int) : ∀ (n m : Nat) (t r : Int) (a2 a3 a4 a5 a6 a7 a8 a9 : Option Sv), m + n = 4 → 0 ≤ t → t ≤ 4 * m → ∃ ρ, ρ.gs = [fz (.scr ns)] ∧ forL (stName 2) outB (((List.range 4).drop m).map fun (i : Nat) => .int (0 + i)) ⟨[fz (.scr ns)], [some (.par 0), some (.loc (ow (pen L t r))), a2, a3, a4, a5, a6, a7, a8, a9, none]⟩ = .ok .nx ρ
  | 0, m, t, r, a2, a3, a4, a5, a6, a7, a8, a9, h, h1, h2 => by
    have e : m = 4 := by omega
    subst e
    exact ⟨_, rfl, rfl⟩
  | n + 1, m, t, r, a2, a3, a4, a5, a6, a7, a8, a9, h, h1, h2 => by
    obtain ⟨t', r', b3, b4, b5, b6, b7, b8, b9, p1, p2, e⟩ := e_out ns L t r h1 (by omega) (some (.loc (fz (.int (0 + m))))) a3 a4 a5 a6 a7 a8 a9
    obtain ⟨ρ, hρ, e2⟩ := e_loop ns L n (m + 1) t' r' (some (.loc (fz (.int (0 + m))))) b3 b4 b5 b6 b7 b8 b9 (by omega) p1 (by omega)
    refine ⟨ρ, hρ, ?_⟩
    have hm : m < (List.range 4).length := by simp; omega
    rw [List.drop_eq_getElem_cons hm, List.map_cons, List.getElem_range]
    unfold forL
    have z : stName 2 (.val (fz (.int (0 + (m : Int))))) ⟨[fz (.scr ns)], [some (.par 0), some (.loc (ow (pen L t r))), a2, a3, a4, a5, a6, a7, a8, a9, none]⟩ = .ok () ⟨[fz (.scr ns)], [some (.par 0), some (.loc (ow (pen L t r))), some (.loc (fz (.int (0 + m)))), a3, a4, a5, a6, a7, a8, a9, none]⟩ := rfl
    rw [z, Rs.bind_ok, e, Rs.bind_ok]
    exact e2
theorem e_fin : ∀ ρ : MP.Env, retS (opL (isiD tab) (evCons (excNS "PadError" (evCons (cS "x") nilA)) (evCons (cD (.ty "ValueError")) nilA))) ρ = .ok (.rt (fz (.bl true))) ρ := fun ρ => by kernel_rfl
theorem true_law (ns : List Int) (h : ns.length ≤ 63) : ∃ gs, f_law [fz (.scr ns)] = .ok (fz (.bl true)) gs := by
  obtain ⟨L, e1⟩ := e_pen ns
  obtain ⟨ρ, hρ, e2⟩ := e_loop ns L 4 0 0 0 none none none none none none none none rfl (by decide) (by decide)
  refine ⟨ρ.gs, ?_⟩
  have i4 : MP.inR 4 = true := by decide
  have ef := e_fin ρ
  simp only [List.drop_zero] at e2
  unfold f_law
  rw [law_eq]
  generalize (retS (opL (isiD tab) (evCons (excNS "PadError" (evCons (cS "x") nilA)) (evCons (cD (.ty "ValueError")) nilA)))) = FIN at *
  generalize outB = OB at *
  simp only [Int.zero_add] at e2
  simp [runF, mkEnv, sqS, asgS, callS, callD, evCons, nilA, rdVar, looks, roots, backs, e1, Hnd.look, Env.at, Env.put, stName, Env.store, forS, it1, cI, rng1, i4, optR, List.range, List.range.loop]
  simp [List.range, List.range.loop] at e2
  rw [e2]
  simp [ef, endF]
end Gk08
end

section
set_option maxHeartbeats 0
/-! ### the head -/
namespace Gk08
open PySem PySem.Spec PyProof.Rows L2 MP
def lo0 : List PySem.Str := ["PadError", "BadName", "BadTimes", "BadParts", "NoPath", "NoName", "Taken", "Ring", "InUse", "Unresolved", "NoMachine", "BadValue"]
def lo1 : List PySem.Str := ["TooLarge", "NoScale", "BadBound", "NoTerm", "NoClaim", "NotRecord", "Barred", "Endless", "NoOffer", "NoOrder", "BadText", "NoLine"]
def lo2 : List PySem.Str := ["_law_pen", "_law_draw", "_law_pick", "_law_value", "_law_first_rows", "_law_last_rows", "_law_named_right", "_law_marks"]
def loose : List PySem.Str := lo0 ++ lo1 ++ lo2
abbrev R : PySem.W.OpenRow := PySem.W.OpenLaw.row PySem.Challenge.rw_manypads_k08_errors_of_all_classes
abbrev hk : PySem.W.Hook := He.hookX 4 fal fnl [] [] chk
def ob (s : PySem.W.SharedT) : He.AlX := He.obsX 4 fal fnl [] [] chk (HandSHeadRun.getT s)
theorem ob_eq (s : PySem.W.SharedT) : ob s = hk.obs s.abs := He.obsX_eq (HandSHeadRun.getT_eq s)

theorem run (w : World) : HandSHeadRun.RunEq R (PySem.W.view R.prog [34]) hk ob 20000 loose w := by
  intro os
  kernel_rfl
theorem facts {P : Program} {w : World} {K : PySem.W.Frag} {h : Heap} {mg : Str → Option Value} {f : Addr} (X : K.In h) (G : h.Ns mainGlobals mg) (hfa : mg ("law" : Str) = some (.ref f)) (c : He.SaysX fal fnl [] [] chk w h K) :
    ∃ fd : FuncData, (∀ (s : Shared) (v : Value), BindsTo s fd ⟨[v], []⟩ [("script", v)]) ∧ ∀ base : Heap, K.In base → base.Ns mainGlobals mg → FnG P w K mg base (CX P w) 4 f fd ["script"] (spF K 1 f_law) := by
  have sd : He.SaysD fal fnl K := c.t.d
  obtain ⟨fd, F⟩ := sd.def_ 8 (d := dd_law) rfl
  have e := hfa.symm.trans (He.glo_ok X G (sd.fact 8 (f := .glo "law") rfl))
  cases e
  have b := FunD.bindsA (ps := ["script"]) F fun _ _ _ _ _ _ us hl => match us, hl with | [_], _ => rfl
  refine ⟨fd, fun s v => b s [v] rfl, fun base hK hns => ?_⟩
  have C : Cfg P w K mg base := ⟨sd, c.more, ⟨base, hK, hns⟩⟩
  exact FunD.okG F sc_law (spF_len rfl) fun cdv A outer s H vs Q E hr q => fn_body (X := cxOf (CX P w) P w K mg base ["script", "pen", "turn", "one", "two", "rows", "spot", "error", "seen", "due", "k"] "law" (defScope st_law) (He.fAd K ("law", none)) cdv A outer s H E) (by decide) q (body_law C cdv A outer s H E vs hr)
/-- the script's datum is handed in -/
theorem start_law {K : PySem.W.Frag} {H : Hp} {a : Addr} {ns : List Int} (hO : Only H) (hS : SqL K H a (ns.map V.int)) (hR : ∃ gs, f_law [fz (.scr ns)] = .ok (fz (.bl true)) gs) : spF K 1 f_law [.ref a] H (fun v _ => v = .bl true) fun _ _ _ => False := by
  obtain ⟨gs, e⟩ := hR
  refine ⟨rfl, H, [fz (.scr ns)], ⟨fun _ _ h => h, rfl, rfl, fun i j q => by simp at q, fun r t q => ?_, fun r r' d d' a' q => ?_⟩, ?_⟩
  · cases r with
    | s i => cases q
    | g j => match j, q with
      | 0, q => cases q; exact ⟨.ref a, rfl, .fz (.scr hS)⟩
      | j + 1, q => simp [MP.Env.at] at q
  · cases r with
    | s i => cases q
    | g j => match j, q with
      | 0, q => cases q
      | j + 1, q => simp [MP.Env.at] at q
  · rw [e]
    intro F' H' v _ _ hr _
    cases hr with
    | val hr _ => exact hr.bl
end Gk08
open PySem PySem.W PySem.Calls PyProof.Rows
theorem PySem.Challenge.cw_manypads_k08_errors_of_all_classes_holds : PySem.Challenge.rw_manypads_k08_errors_of_all_classes.Holds := by
  w_on; o_law
  refine HandSHeadRun.head_any (r := OpenLaw.row PySem.Challenge.rw_manypads_k08_errors_of_all_classes) (q := view (OpenLaw.row PySem.Challenge.rw_manypads_k08_errors_of_all_classes).prog [34]) (H := Gk08.hk) (ob := Gk08.ob) (M := 20000) (loose := Gk08.loose) (d := HandSHeadRun.topDef (OpenLaw.row PySem.Challenge.rw_manypads_k08_errors_of_all_classes).prog 34) (kwd := []) Gk08.ob_eq
    (by kernel_rfl) (fun s => by kernel_rfl) Gk08.run (by kernel_rfl) (by kernel_rfl) (by kernel_rfl) (by rfl) (by first | assumption | decide +kernel) (by decide +kernel) ⟨rfl, rfl, rfl, rfl, rfl, by decide +kernel⟩ ?hw ?hc
  case hw => w_witness2
  case hc =>
    refine MP.walk_ofG (l := PySem.Challenge.rw_manypads_k08_errors_of_all_classes) (n := 63) (k := 4) (x := "script") (CX := fun w => L2.CX (PySem.Challenge.rw_manypads_k08_errors_of_all_classes).prog w) rfl (by decide) (by kernel_rfl) ⟨⟨rfl, by decide, by decide⟩, rfl⟩ ?F (fun w H s e s' h => by
      obtain ⟨_, _, _, _, _, _, _, _, _, _, _, _, z⟩ := h
      exact z)
    intro w mg fa h Y G hmg0
    obtain ⟨K, KX, c⟩ := Y
    have hmg : mg ("law" : PySem.Str) = some (.ref fa) := by
      have e : (HandSHeadRun.topDef (OpenLaw.row PySem.Challenge.rw_manypads_k08_errors_of_all_classes).prog 34).name = ("law" : PySem.Str) := by kernel_rfl
      rw [← e]
      exact hmg0
    obtain ⟨fd, hb, hF⟩ := Gk08.facts (P := (PySem.Challenge.rw_manypads_k08_errors_of_all_classes).prog) (w := w) KX G hmg c
    exact ⟨K, fd, MP.spF K 1 Gk08.f_law, KX, hb, fun H a ns hl hO hS => Gk08.start_law hO hS (Gk08.true_law ns hl), hF⟩
end
