import PyProof.Rows.All
import Wide.All
import OpenK.AllK
import Wide.FinOn
import PySem.Challenge.RW_fourtreestell_k02_sums_of_floors
import HandS.ForMost
import HandS.ForExc
import HandS.Deep
import HandS.Wide
import HandS.WideBits
import HandS.TupLe
import HandS.TupAny
import HandS.Flow
import HandS.CallSlots
import HandS.TryMany
import HandS.IsInst
import HandS.Style
import HandS.Gcd
import KE.KExcSuper
import KE.KSuper
import HandS.Defaults
import HandS.HeadHook2
import HandS.EndBits
import KE.KStateDown
import HandS.Head0
import HandS.Head1
import HandS.Head2
import HandS.HeadEnd
import HandS.HeadHook1
import PyProof.FitsInt
import PyProof.ReprLen
set_option Elab.async false
set_option linter.all false
set_option maxRecDepth 100000
set_option maxHeartbeats 4000000
/-! Rf1: plain data, how the heap bears them, what a reading over plain data is. -/
namespace Rf
open PySem PySem.Spec PyProof.Rows L2

/-- plain data: tuples and lists that nobody changes by value; ref: a tracked object; fn: a def or class of the table; ty: a built-in class -/
inductive D where
  | non | bl (b : Bool) | int (i : Int) | str (x : Str) | tup (xs : List D) | lst (xs : List D)
  | ref (a : Addr) | fn (k : Nat) | ty (n : String) | scr (xs : List D)
instance : Inhabited D := ⟨.non⟩

/-- a tracked object -/
inductive MO where
  | lst (xs : List D)
  | ins (C : Nat) (fs : List (Str × D))
abbrev Mem := Addr → Option MO
def mupd (M : Mem) (a : Addr) (o : MO) : Mem := fun b => if b = a then some o else M b
def mdel (M : Mem) (a : Addr) : Mem := fun b => if b = a then none else M b
theorem mupd_same {M : Mem} {a : Addr} {o : MO} : mupd M a o a = some o := by unfold mupd; rw [if_pos rfl]
theorem mupd_ne {M : Mem} {a b : Addr} {o : MO} (h : b ≠ a) : mupd M a o b = M b := by unfold mupd; rw [if_neg h]
theorem mdel_same {M : Mem} {a : Addr} : mdel M a a = none := by unfold mdel; rw [if_pos rfl]
theorem mdel_ne {M : Mem} {a b : Addr} (h : b ≠ a) : mdel M a b = M b := by unfold mdel; rw [if_neg h]
theorem mdel_mupd {M : Mem} {a : Addr} {o : MO} (h : M a = none) : mdel (mupd M a o) a = M := by
  funext b; unfold mdel mupd; by_cases e : b = a
  · subst e; simp [h]
  · simp [e]
theorem mupd_mupd {M : Mem} {a : Addr} {o o' : MO} : mupd (mupd M a o) a o' = mupd M a o' := by
  funext b; unfold mupd; by_cases e : b = a <;> simp [e]

structure Gx where
  K : PySem.W.Frag
  ad : Nat → Addr
  fld : Nat → Str
  cd : Nat → Addr

def LsK (K : PySem.W.Frag) (a : Addr) (xs : List V) : Prop :=
  ∃ (o : Obj) (its : Array Value) (n : Nat), K.lookup a = some o ∧ o.cls = .type "list" ∧ o.dict = none ∧ o.data = .seq its n ∧ its.size ≤ sizeLine ∧ Vals xs its.toList
def TpK (K : PySem.W.Frag) (a : Addr) (xs : List V) : Prop :=
  ∃ (o : Obj) (its : Array Value) (n : Nat), K.lookup a = some o ∧ o.cls = .type "tuple" ∧ o.data = .seq its n ∧ its.size ≤ sizeLine ∧ Vals xs its.toList

/-- what is not tracked by M stands, and is tracked by none behind -/
def Keep (H : Hp) (M : Mem) (H' : Hp) (M' : Mem) : Prop := ∀ a o, H a = some o → M a = none → H' a = some o ∧ M' a = none

mutual
inductive Den (G : Gx) (H : Hp) (M : Mem) : V → D → Prop
  | non : Den G H M .non .non
  | bl (b : Bool) : Den G H M (.bl b) (.bl b)
  | int (i : Int) : Den G H M (.int i) (.int i)
  | str (x : Str) : Den G H M (.str x) (.str x)
  | tup {a : Addr} {vs : List V} {ds : List D} : Rd H a (.tup vs) → M a = none → Dens G H M vs ds → Den G H M (.ref a) (.tup ds)
  | tupK {a : Addr} {vs : List V} {ds : List D} : TpK G.K a vs → Dens G H M vs ds → Den G H M (.ref a) (.tup ds)
  | lst {a : Addr} {vs : List V} {ds : List D} : Rd H a (.lst vs) → M a = none → Dens G H M vs ds → Den G H M (.ref a) (.lst ds)
  | scr {a : Addr} {vs : List V} {ds : List D} : Rd H a (.lst vs) → M a = none → Dens G H M vs ds → Den G H M (.ref a) (.scr ds)
  | scrK {a : Addr} {vs : List V} {ds : List D} : LsK G.K a vs → Dens G H M vs ds → Den G H M (.ref a) (.scr ds)
  | ref (a : Addr) : Den G H M (.ref a) (.ref a)
  | fn (k : Nat) : Den G H M (.ref (G.ad k)) (.fn k)
  | ty (n : String) : Den G H M (.ty n) (.ty n)
inductive Dens (G : Gx) (H : Hp) (M : Mem) : List V → List D → Prop
  | nil : Dens G H M [] []
  | cons {v : V} {vs : List V} {d : D} {ds : List D} : Den G H M v d → Dens G H M vs ds → Dens G H M (v :: vs) (d :: ds)
end

section
variable {G : Gx} {H H' H1 H2 : Hp} {M M' M1 M2 : Mem}
theorem Keep.refl : Keep H M H M := fun _ _ h m => ⟨h, m⟩
theorem Keep.trans (a : Keep H M H1 M1) (b : Keep H1 M1 H2 M2) : Keep H M H2 M2 := fun x o h m => b x o (a x o h m).1 (a x o h m).2
theorem Keep.new {p : Addr} {o : HO} (h : H p = none) : Keep H M (upd H p o) M := fun a u e m => ⟨by rw [upd_ne (ne_of_none e h)]; exact e, m⟩
theorem Keep.newM {p : Addr} {o : HO} {mo : MO} (h : H p = none) : Keep H M (upd H p o) (mupd M p mo) := fun a u e m =>
  ⟨by rw [upd_ne (ne_of_none e h)]; exact e, by rw [mupd_ne (ne_of_none e h)]; exact m⟩
theorem Keep.mut {p : Addr} {o : HO} {mo mo' : MO} (h : M p = some mo) : Keep H M (upd H p o) (mupd M p mo') := fun a u e m => by
  have ne : a ≠ p := fun z => by subst z; rw [h] at m; cases m
  exact ⟨by rw [upd_ne ne]; exact e, by rw [mupd_ne ne]; exact m⟩
theorem Keep.del {p : Addr} : Keep H M H (mdel M p) := fun a u e m => ⟨e, by
  by_cases z : a = p
  · subst z; exact mdel_same
  · rw [mdel_ne z]; exact m⟩
theorem Keep.rd (k : Keep H M H' M') {a : Addr} {u : HO} (r : Rd H a u) (m : M a = none) : Rd H' a u ∧ M' a = none := by
  rcases r with r | ⟨o, r⟩
  · exact ⟨.inl (k a _ r m).1, (k a _ r m).2⟩
  · exact ⟨.inr ⟨o, (k a _ r m).1⟩, (k a _ r m).2⟩
mutual
theorem Den.mono (k : Keep H M H' M') : ∀ (d : D) (v : V), Den G H M v d → Den G H' M' v d
  | .non, _, h => by cases h; exact .non
  | .bl _, _, h => by cases h; exact .bl _
  | .int _, _, h => by cases h; exact .int _
  | .str _, _, h => by cases h; exact .str _
  | .ref _, _, h => by cases h; exact .ref _
  | .fn _, _, h => by cases h; exact .fn _
  | .ty _, _, h => by cases h; exact .ty _
  | .tup ds, _, h => by
    cases h with
    | tup r m hs => exact .tup (k.rd r m).1 (k.rd r m).2 (Dens.mono k ds _ hs)
    | tupK r hs => exact .tupK r (Dens.mono k ds _ hs)
  | .lst ds, _, h => by
    cases h with
    | lst r m hs => exact .lst (k.rd r m).1 (k.rd r m).2 (Dens.mono k ds _ hs)
  | .scr ds, _, h => by
    cases h with
    | scr r m hs => exact .scr (k.rd r m).1 (k.rd r m).2 (Dens.mono k ds _ hs)
    | scrK r hs => exact .scrK r (Dens.mono k ds _ hs)
theorem Dens.mono (k : Keep H M H' M') : ∀ (ds : List D) (vs : List V), Dens G H M vs ds → Dens G H' M' vs ds
  | [], _, h => by cases h; exact .nil
  | d :: ds, _, h => by
    cases h with
    | cons h1 h2 => exact .cons (Den.mono k d _ h1) (Dens.mono k ds _ h2)
end
theorem Dens.length : ∀ {vs : List V} {ds : List D}, Dens G H M vs ds → vs.length = ds.length
  | _, _, .nil => rfl
  | _, _, .cons _ t => by rw [List.length_cons, List.length_cons, t.length]
theorem Dens.get : ∀ {vs : List V} {ds : List D} {i : Nat} {d : D}, Dens G H M vs ds → ds[i]? = some d → ∃ v, vs[i]? = some v ∧ Den G H M v d
  | _, _, _, _, .nil, e => by simp at e
  | _, _, 0, _, .cons r _, e => by simp at e; subst e; exact ⟨_, rfl, r⟩
  | _, _, i + 1, _, .cons _ t, e => by
    obtain ⟨v, h1, h2⟩ := t.get (i := i) (by simpa using e)
    exact ⟨v, by simpa using h1, h2⟩
theorem Dens.getV : ∀ {vs : List V} {ds : List D} {i : Nat} {v : V}, Dens G H M vs ds → vs[i]? = some v → ∃ d, ds[i]? = some d ∧ Den G H M v d
  | _, _, _, _, .nil, e => by simp at e
  | _, _, 0, _, .cons r _, e => by simp at e; subst e; exact ⟨_, rfl, r⟩
  | _, _, i + 1, _, .cons _ t, e => by
    obtain ⟨v, h1, h2⟩ := t.getV (i := i) (by simpa using e)
    exact ⟨v, by simpa using h1, h2⟩
theorem Dens.append : ∀ {vs ws : List V} {ds es : List D}, Dens G H M vs ds → Dens G H M ws es → Dens G H M (vs ++ ws) (ds ++ es)
  | _, _, _, _, .nil, s => s
  | _, _, _, _, .cons r t, s => .cons r (t.append s)
theorem Dens.take : ∀ {vs : List V} {ds : List D} (n : Nat), Dens G H M vs ds → Dens G H M (vs.take n) (ds.take n)
  | _, _, 0, _ => by simp only [List.take_zero]; exact .nil
  | _, _, _ + 1, .nil => by simp only [List.take_nil]; exact .nil
  | _, _, n + 1, .cons r t => by simp only [List.take_succ_cons]; exact .cons r (t.take n)
theorem Dens.drop : ∀ {vs : List V} {ds : List D} (n : Nat), Dens G H M vs ds → Dens G H M (vs.drop n) (ds.drop n)
  | _, _, 0, r => by simpa only [List.drop_zero] using r
  | _, _, _ + 1, .nil => by simp only [List.drop_nil]; exact .nil
  | _, _, n + 1, .cons _ t => by simp only [List.drop_succ_cons]; exact t.drop n
theorem Dens.set {v : V} {d : D} (r : Den G H M v d) : ∀ {vs : List V} {ds : List D} (i : Nat), Dens G H M vs ds → Dens G H M (vs.set i v) (ds.set i d)
  | _, _, _, .nil => .nil
  | _, _, 0, .cons _ t => .cons r t
  | _, _, i + 1, .cons q t => .cons q (t.set r i)
theorem Dens.reverse {vs : List V} {ds : List D} (h : Dens G H M vs ds) : Dens G H M vs.reverse ds.reverse := by
  induction h using Dens.rec (motive_1 := fun _ _ _ => True) with
  | nil => exact .nil
  | cons r t _ ih => rw [List.reverse_cons, List.reverse_cons]; exact ih.append (.cons r .nil)
  | _ => trivial
end

/-- how a tracked object stands in the heap -/
def MOk (G : Gx) (H : Hp) (M : Mem) (a : Addr) : MO → Prop
  | .lst ds => ∃ vs, H a = some (.lst vs) ∧ Dens G H M vs ds
  | .ins C fs => ∃ dx vf, H a = some (.ins (G.ad C) dx vf) ∧ vf.map (·.1) = fs.map (·.1) ∧ Dens G H M (vf.map (·.2)) (fs.map (·.2))
def RelM (G : Gx) (H : Hp) (M : Mem) : Prop := ∀ a o, M a = some o → MOk G H M a o
abbrev Env' := List (Option D)
structure RelE (G : Gx) (H : Hp) (M : Mem) (σ : L2.St) (ρ : Env') : Prop where
  len : σ.length = ρ.length
  get : ∀ (i : Nat) (d : D), ρ[i]? = some (some d) → ∃ v, σ[i]? = some (some v) ∧ Den G H M v d
/-- an exception: its class, its own dict -/
def XDen (G : Gx) (H : Hp) (M : Mem) (cls : Value) (d : Option Addr) (c : Nat) (r : D) : Prop :=
  cls = .ref (G.cd c) ∧ ∃ (dd : Addr) (v : V), d = some dd ∧ H dd = some (.xd [(G.fld c, v)]) ∧ M dd = none ∧ Den G H M v r
section
variable {G : Gx} {H H' H1 H2 : Hp} {M M' M1 M2 : Mem} {σ : L2.St} {ρ : Env'}
theorem RelE.mono (k : Keep H M H' M') (r : RelE G H M σ ρ) : RelE G H' M' σ ρ := ⟨r.len, fun i d e => by
  obtain ⟨v, h1, h2⟩ := r.get i d e
  exact ⟨v, h1, h2.mono k⟩⟩
theorem RelE.set {i : Nat} {v : V} {d : D} (r : RelE G H M σ ρ) (h : Den G H M v d) : RelE G H M (σ.set i (some v)) (ρ.set i (some d)) := by
  refine ⟨by rw [List.length_set, List.length_set, r.len], fun j d' e => ?_⟩
  by_cases hj : i = j
  · subst hj
    by_cases hl : i < ρ.length
    · rw [List.getElem?_set_self hl] at e
      cases e
      exact ⟨v, List.getElem?_set_self (by rw [r.len]; exact hl), h⟩
    · rw [List.getElem?_eq_none (by rw [List.length_set]; omega)] at e; cases e
  · rw [List.getElem?_set_ne hj] at e
    obtain ⟨w, h1, h2⟩ := r.get j d' e
    exact ⟨w, by rw [List.getElem?_set_ne hj]; exact h1, h2⟩
/-- a slot forgotten -/
theorem RelE.unset {i : Nat} {x : Option V} (r : RelE G H M σ ρ) : RelE G H M (σ.set i x) (ρ.set i none) := by
  refine ⟨by rw [List.length_set, List.length_set, r.len], fun j d' e => ?_⟩
  by_cases hj : i = j
  · subst hj
    by_cases hl : i < ρ.length
    · rw [List.getElem?_set_self hl] at e; cases e
    · rw [List.getElem?_eq_none (by rw [List.length_set]; omega)] at e; cases e
  · rw [List.getElem?_set_ne hj] at e
    obtain ⟨w, h1, h2⟩ := r.get j d' e
    exact ⟨w, by rw [List.getElem?_set_ne hj]; exact h1, h2⟩
theorem MOk.mono {a : Addr} {o : MO} (k : Keep H M H' M') (ha : H' a = H a) (x : MOk G H M a o) : MOk G H' M' a o := by
  cases o with
  | lst ds => obtain ⟨vs, e, r⟩ := x; exact ⟨vs, ha.trans e, r.mono k⟩
  | ins C fs => obtain ⟨dx, vf, e, n, r⟩ := x; exact ⟨dx, vf, ha.trans e, n, r.mono k⟩
theorem MOk.some {a : Addr} {o : MO} (x : MOk G H M a o) : ∃ u, H a = some u := by
  cases o with
  | lst ds => obtain ⟨vs, e, _⟩ := x; exact ⟨_, e⟩
  | ins C fs => obtain ⟨dx, vf, e, _⟩ := x; exact ⟨_, e⟩
/-- fresh in the heap is fresh in the memory -/
theorem RelM.fresh (r : RelM G H M) {p : Addr} (h : H p = none) : M p = none := by
  cases e : M p with
  | none => rfl
  | some o =>
    obtain ⟨u, q⟩ := (r p o e).some
    rw [h] at q; cases q
/-- a new object that is not tracked -/
theorem RelM.new (r : RelM G H M) {p : Addr} {o : HO} (h : H p = none) : RelM G (upd H p o) M := fun a u e => by
  obtain ⟨w, q⟩ := (r a u e).some
  exact (r a u e).mono (Keep.new h) (upd_ne (ne_of_none q h))
/-- a tracked object is new, or changes -/
theorem RelM.put (r : RelM G H M) {p : Addr} {o : HO} {mo : MO} (k : Keep H M (upd H p o) (mupd M p mo)) (n : MOk G (upd H p o) (mupd M p mo) p mo) : RelM G (upd H p o) (mupd M p mo) := fun a u e => by
  by_cases z : a = p
  · subst z; rw [mupd_same] at e; cases e; exact n
  · rw [mupd_ne z] at e
    exact (r a u e).mono k (upd_ne z)
theorem RelM.del (r : RelM G H M) {p : Addr} : RelM G H (mdel M p) := fun a u e => by
  by_cases z : a = p
  · subst z; rw [mdel_same] at e; cases e
  · rw [mdel_ne z] at e
    exact (r a u e).mono Keep.del rfl
theorem XDen.mono {cls : Value} {d : Option Addr} {c : Nat} {q : D} (k : Keep H M H' M') (x : XDen G H M cls d c q) : XDen G H' M' cls d c q := by
  obtain ⟨h1, dd, v, h2, h3, h4, h5⟩ := x
  exact ⟨h1, dd, v, h2, (k dd _ h3 h4).1, (k dd _ h3 h4).2, h5.mono k⟩
end
theorem sqL_of {G : Gx} {H : Hp} {M : Mem} {a : Addr} {ds : List D} (h : Den G H M (.ref a) (.lst ds)) : ∃ vs, SqL G.K H a vs ∧ Dens G H M vs ds := by
  cases h with
  | lst r _ hs => exact ⟨_, .inl r, hs⟩
theorem rdL_of {G : Gx} {H : Hp} {M : Mem} {a : Addr} {ds : List D} (h : Den G H M (.ref a) (.lst ds)) : ∃ vs, Rd H a (.lst vs) ∧ Dens G H M vs ds := by
  cases h with
  | lst r _ hs => exact ⟨_, r, hs⟩
theorem sqS_of {G : Gx} {H : Hp} {M : Mem} {a : Addr} {ds : List D} (h : Den G H M (.ref a) (.scr ds)) : ∃ vs, SqL G.K H a vs ∧ Dens G H M vs ds := by
  cases h with
  | scr r _ hs => exact ⟨_, .inl r, hs⟩
  | scrK r hs => exact ⟨_, .inr r, hs⟩
theorem sqT_of {G : Gx} {H : Hp} {M : Mem} {a : Addr} {ds : List D} (h : Den G H M (.ref a) (.tup ds)) : ∃ vs, SqT G.K H a vs ∧ Dens G H M vs ds := by
  cases h with
  | tup r _ hs => exact ⟨_, .inl r, hs⟩
  | tupK r hs => exact ⟨_, .inr r, hs⟩
end Rf

set_option Elab.async false
set_option linter.all false
set_option maxRecDepth 100000
set_option maxHeartbeats 4000000
/-! Rf2: readings over plain data; the judgements. -/
namespace Rf
open PySem PySem.Spec PyProof.Rows L2

abbrev QV := D → Mem → Prop
abbrev QX := Nat → D → Mem → Prop
abbrev WE := Env' → Mem → QV → QX → Prop
abbrev WT := Env' → Mem → (Bool → Mem → Prop) → QX → Prop
abbrev WA := Env' → Mem → (List D → Mem → Prop) → QX → Prop
def Mono {α : Type} (w : Env' → Mem → (α → Mem → Prop) → QX → Prop) : Prop :=
  ∀ ρ M (Q Q' : α → Mem → Prop) (Z Z' : QX), (∀ d M', Q d M' → Q' d M') → (∀ c r M', Z c r M' → Z' c r M') → w ρ M Q Z → w ρ M Q' Z'

def XFit (G : Gx) (W : WX) (σ : L2.St) (H : Hp) (M : Mem) (Z : QX) : Prop :=
  ∀ c r M' H' cls d, Keep H M H' M' → RelM G H' M' → XDen G H' M' cls d c r → Z c r M' → W cls d σ H'
theorem XFit.mono {G : Gx} {W : WX} {σ : L2.St} {H H1 : Hp} {M M1 : Mem} {Z : QX} (k : Keep H M H1 M1) (x : XFit G W σ H M Z) : XFit G W σ H1 M1 Z :=
  fun c r M' H' cls d k' rm xd z => x c r M' H' cls d (k.trans k') rm xd z

def tE (G : Gx) (W : WX) (w : WE) : TE := fun σ H Q => ∃ ρ M Z, RelE G H M σ ρ ∧ RelM G H M ∧ XFit G W σ H M Z ∧
  w ρ M (fun d M' => ∀ v H', Keep H M H' M' → RelM G H' M' → Den G H' M' v d → Q v H') Z
def tT (G : Gx) (W : WX) (w : WT) : TT := fun σ H Q => ∃ ρ M Z, RelE G H M σ ρ ∧ RelM G H M ∧ XFit G W σ H M Z ∧
  w ρ M (fun b M' => ∀ H', Keep H M H' M' → RelM G H' M' → Q b H') Z
def tA (G : Gx) (W : WX) (w : WA) : TA := fun σ H Q => ∃ ρ M Z, RelE G H M σ ρ ∧ RelM G H M ∧ XFit G W σ H M Z ∧
  w ρ M (fun ds M' => ∀ vs H', Keep H M H' M' → RelM G H' M' → Dens G H' M' vs ds → Q vs H') Z

theorem PE.imp {X : Cx} {e : Expr} {t t' : TE} (h : PE X e t) (i : ∀ σ H Q, t' σ H Q → t σ H Q) : PE X e t' := ⟨fun pins s σ H Q I hw => h.run pins s σ H Q I (i σ H Q hw)⟩
theorem PT.imp {X : Cx} {e : Expr} {t t' : TT} (h : PT X e t) (i : ∀ σ H Q, t' σ H Q → t σ H Q) : PT X e t' := ⟨fun pins s σ H Q I hw => h.run pins s σ H Q I (i σ H Q hw)⟩
theorem PA.imp {X : Cx} {e : List Expr} {t t' : TA} (h : PA X e t) (i : ∀ σ H Q, t' σ H Q → t σ H Q) : PA X e t' := ⟨fun pos pins s σ H Q I hw => h.run pos pins s σ H Q I (i σ H Q hw)⟩
theorem PS.imp {X : Cx} {e : Stmt} {t t' : TS} (h : PS X e t) (i : ∀ D σ H, t' D σ H → t D σ H) : PS X e t' := ⟨fun pins s σ H D I hw => h.run pins s σ H D I (i D σ H hw)⟩
theorem PSs.imp {X : Cx} {e : List Stmt} {t t' : TS} (h : PSs X e t) (i : ∀ D σ H, t' D σ H → t D σ H) : PSs X e t' := ⟨fun pins s σ H D I hw => h.run pins s σ H D I (i D σ H hw)⟩

structure EV (G : Gx) (W : WX) (X : Cx) (e : Expr) (w : WE) : Prop where
  mono : Mono w
  pe : PE X e (tE G W w)
structure TV (G : Gx) (W : WX) (X : Cx) (e : Expr) (w : WT) : Prop where
  mono : Mono w
  pt : PT X e (tT G W w)
structure AV (G : Gx) (W : WX) (X : Cx) (es : List Expr) (w : WA) : Prop where
  mono : Mono w
  pa : PA X es (tA G W w)

section
variable {G : Gx} {W : WX} {σ : L2.St} {H : Hp} {M : Mem} {ρ : Env'} {Z : QX}
/-- one expression, then the rest -/
theorem tE_bind {w : WE} {k : QV} {R : VK} (m : Mono w) (re : RelE G H M σ ρ) (rm : RelM G H M) (xf : XFit G W σ H M Z) (h : w ρ M k Z)
    (hk : ∀ v d H1 M1, Keep H M H1 M1 → RelM G H1 M1 → Den G H1 M1 v d → k d M1 → R v H1) : tE G W w σ H R :=
  ⟨ρ, M, Z, re, rm, xf, m ρ M _ _ Z Z (fun d M1 q v H1 k1 r1 d1 => hk v d H1 M1 k1 r1 d1 q) (fun _ _ _ z => z) h⟩
theorem tT_bind {w : WT} {k : Bool → Mem → Prop} {R : Bool → Hp → Prop} (m : Mono w) (re : RelE G H M σ ρ) (rm : RelM G H M) (xf : XFit G W σ H M Z) (h : w ρ M k Z)
    (hk : ∀ b H1 M1, Keep H M H1 M1 → RelM G H1 M1 → k b M1 → R b H1) : tT G W w σ H R :=
  ⟨ρ, M, Z, re, rm, xf, m ρ M _ _ Z Z (fun b M1 q H1 k1 r1 => hk b H1 M1 k1 r1 q) (fun _ _ _ z => z) h⟩
theorem tA_bind {w : WA} {k : List D → Mem → Prop} {R : List V → Hp → Prop} (m : Mono w) (re : RelE G H M σ ρ) (rm : RelM G H M) (xf : XFit G W σ H M Z) (h : w ρ M k Z)
    (hk : ∀ vs ds H1 M1, Keep H M H1 M1 → RelM G H1 M1 → Dens G H1 M1 vs ds → k ds M1 → R vs H1) : tA G W w σ H R :=
  ⟨ρ, M, Z, re, rm, xf, m ρ M _ _ Z Z (fun d M1 q v H1 k1 r1 d1 => hk v d H1 M1 k1 r1 d1 q) (fun _ _ _ z => z) h⟩
end

/-! ### what is asked of values: a two-place, a one-place operation, a call with values -/
abbrev O2 := D → D → Mem → QV → Prop
abbrev O1 := D → Mem → QV → Prop
abbrev ON := List D → Mem → QV → Prop
/-- an end, from the data to the heap -/
def Fit (G : Gx) (H : Hp) (M : Mem) (Qd : QV) (Q : VK) : Prop := ∀ v d H' M', Keep H M H' M' → RelM G H' M' → Den G H' M' v d → Qd d M' → Q v H'
theorem Fit.mono {G : Gx} {H H1 : Hp} {M M1 : Mem} {Qd : QV} {Q : VK} (k : Keep H M H1 M1) (f : Fit G H M Qd Q) : Fit G H1 M1 Qd Q := fun v d H' M' k' r dn q => f v d H' M' (k.trans k') r dn q
def R2I (G : Gx) (r : R2) (o : O2) : Prop := ∀ x y dx dy H M Qd Q, RelM G H M → Den G H M x dx → Den G H M y dy → Fit G H M Qd Q → o dx dy M Qd → r x y H Q
def R1I (G : Gx) (r : V → Hp → VK → Prop) (o : O1) : Prop := ∀ x dx H M Qd Q, RelM G H M → Den G H M x dx → Fit G H M Qd Q → o dx M Qd → r x H Q
def RNI (G : Gx) (r : List V → Hp → VK → Prop) (o : ON) : Prop := ∀ xs ds H M Qd Q, RelM G H M → Dens G H M xs ds → Fit G H M Qd Q → o ds M Qd → r xs H Q
def Mono2 (o : O2) : Prop := ∀ x y M Q Q', (∀ d M', Q d M' → Q' d M') → o x y M Q → o x y M Q'
def Mono1 (o : O1) : Prop := ∀ x M Q Q', (∀ d M', Q d M' → Q' d M') → o x M Q → o x M Q'
def MonoN (o : ON) : Prop := ∀ xs M Q Q', (∀ d M', Q d M' → Q' d M') → o xs M Q → o xs M Q'

def w2 (o : O2) (wa wb : WE) : WE := fun ρ M Q Z => wa ρ M (fun x M1 => wb ρ M1 (fun y M2 => o x y M2 Q) Z) Z
def w1 (o : O1) (wa : WE) : WE := fun ρ M Q Z => wa ρ M (fun x M1 => o x M1 Q) Z
def wN (o : ON) (wa : WA) : WE := fun ρ M Q Z => wa ρ M (fun xs M1 => o xs M1 Q) Z
theorem mono_w2 {o : O2} {wa wb : WE} (ho : Mono2 o) (ha : Mono wa) (hb : Mono wb) : Mono (w2 o wa wb) := fun ρ M Q Q' Z Z' hq hz =>
  ha ρ M _ _ Z Z' (fun x M1 => hb ρ M1 _ _ Z Z' (fun y M2 => ho x y M2 Q Q' hq) hz) hz
theorem mono_w1 {o : O1} {wa : WE} (ho : Mono1 o) (ha : Mono wa) : Mono (w1 o wa) := fun ρ M Q Q' Z Z' hq hz => ha ρ M _ _ Z Z' (fun x M1 => ho x M1 Q Q' hq) hz
theorem mono_wN {o : ON} {wa : WA} (ho : MonoN o) (ha : Mono wa) : Mono (wN o wa) := fun ρ M Q Q' Z Z' hq hz => ha ρ M _ _ Z Z' (fun x M1 => ho x M1 Q Q' hq) hz

section
variable {G : Gx} {W : WX} {X : Cx} {a b : Expr} {es : List Expr} {wa wb : WE}
theorem fit_id {G : Gx} {H H1 : Hp} {M M1 : Mem} {Q : VK} (k : Keep H M H1 M1) : Fit G H1 M1 (fun d M' => ∀ v H', Keep H M H' M' → RelM G H' M' → Den G H' M' v d → Q v H') Q :=
  fun v d H' M' k' r dn q => q v H' (k.trans k') r dn
/-- two operands, then a relation of their values -/
theorem tE_w2 {o : O2} {r : R2} (ri : R2I G r o) (ha : Mono wa) (hb : Mono wb) {σ : L2.St} {H : Hp} {Q : VK} (h : tE G W (w2 o wa wb) σ H Q) : tOp r (tE G W wa) (tE G W wb) σ H Q := by
  obtain ⟨ρ, M, Z, re, rm, xf, h⟩ := h
  refine tE_bind ha re rm xf h fun x dx H1 M1 k1 r1 d1 h1 => ?_
  refine tE_bind hb (re.mono k1) r1 (xf.mono k1) h1 fun y dy H2 M2 k2 r2 d2 h2 => ?_
  exact ri x y dx dy H2 M2 _ Q r2 (d1.mono k2) d2 (fit_id (k1.trans k2)) h2
theorem tE_w1 {o : O1} {r : V → Hp → VK → Prop} (ri : R1I G r o) (ha : Mono wa) {σ : L2.St} {H : Hp} {Q : VK} (h : tE G W (w1 o wa) σ H Q) : tUn r (tE G W wa) σ H Q := by
  obtain ⟨ρ, M, Z, re, rm, xf, h⟩ := h
  refine tE_bind ha re rm xf h fun x dx H1 M1 k1 r1 d1 h1 => ?_
  exact ri x dx H1 M1 _ Q r1 d1 (fit_id k1) h1
theorem tE_wN {o : ON} {r : List V → Hp → VK → Prop} {ws : WA} (ri : RNI G r o) (ha : Mono ws) {σ : L2.St} {H : Hp} {Q : VK} (h : tE G W (wN o ws) σ H Q) : tCB r (tA G W ws) σ H Q := by
  obtain ⟨ρ, M, Z, re, rm, xf, h⟩ := h
  refine tA_bind ha re rm xf h fun xs ds H1 M1 k1 r1 d1 h1 => ?_
  exact ri xs ds H1 M1 _ Q r1 d1 (fit_id k1) h1
theorem ev_op {o : O2} {r : R2} {op : Operator} {pos : Pos} (ho : OpR X (binaryOp op) r) (ri : R2I G r o) (mo : Mono2 o) (ha : EV G W X a wa) (hb : EV G W X b wb) : EV G W X (.BinOp a op b pos) (w2 o wa wb) :=
  ⟨mono_w2 mo ha.mono hb.mono, PE.imp (pe_op ho ha.pe hb.pe) fun _ _ _ => tE_w2 ri ha.mono hb.mono⟩
theorem ev_un {o : O1} {r : V → Hp → VK → Prop} {op : UnaryOp} {pos : Pos} (ho : UnR X (unaryOp op) r) (ri : R1I G r o) (mo : Mono1 o) (ha : EV G W X a wa) : EV G W X (.UnaryOp op a pos) (w1 o wa) :=
  ⟨mono_w1 mo ha.mono, PE.imp (pe_un ho ha.pe) fun _ _ _ => tE_w1 ri ha.mono⟩
end
section
variable {G : Gx} {W : WX} {X : Cx}
/-! names, constants -/
def wVar (i : Nat) : WE := fun ρ M Q _ => match ρ[i]? with | some (some d) => Q d M | _ => False
def wLit (d : D) : WE := fun _ M Q _ => Q d M
theorem mono_wVar {i : Nat} : Mono (wVar i) := fun ρ M Q Q' _ _ hq _ h => by
  unfold wVar at *
  split at h
  · exact hq _ _ h
  · exact h.elim
theorem mono_wLit {d : D} : Mono (wLit d) := fun _ M _ _ _ _ hq _ h => hq _ _ h
theorem ev_var {i : Nat} {x : Str} {pos : Pos} (hN : X.N[i]? = some x) (hv : Vis X.env.scope x) (hd : (x == ("__debug__" : Str)) = false) (hc : (x == ("__classdict__" : Str)) = false) : EV G W X (.Name x pos) (wVar i) :=
  ⟨mono_wVar, PE.imp (pe_var hN hv hd hc) fun σ H Q h => by
    obtain ⟨ρ, M, Z, re, rm, xf, h⟩ := h
    unfold wVar at h
    split at h
    · rename_i d e
      obtain ⟨v, h1, h2⟩ := re.get i d e
      exact ⟨v, h1, h v H Keep.refl rm h2⟩
    · exact h.elim⟩
theorem ev_const {e : Expr} {v : V} {d : D} (he : PE X e (tC v)) (hd : ∀ H M, Den G H M v d) : EV G W X e (wLit d) :=
  ⟨mono_wLit, PE.imp he fun σ H Q h => by
    obtain ⟨ρ, M, Z, re, rm, xf, h⟩ := h
    exact h v H Keep.refl rm (hd H M)⟩
end
/-! arguments -/
section
variable {G : Gx} {W : WX} {X : Cx}
def wNil : WA := fun _ M Q _ => Q [] M
def wCons (w : WE) (ws : WA) : WA := fun ρ M Q Z => w ρ M (fun x M1 => ws ρ M1 (fun xs M2 => Q (x :: xs) M2) Z) Z
theorem mono_wNil : Mono wNil := fun _ M _ _ _ _ hq _ h => hq _ _ h
theorem mono_wCons {w : WE} {ws : WA} (h1 : Mono w) (h2 : Mono ws) : Mono (wCons w ws) := fun ρ M Q Q' Z Z' hq hz =>
  h1 ρ M _ _ Z Z' (fun x M1 => h2 ρ M1 _ _ Z Z' (fun xs M2 => hq _ _) hz) hz
theorem av_nil : AV G W X [] wNil := ⟨mono_wNil, PA.imp pa_nil fun σ H Q h => by
  obtain ⟨ρ, M, Z, re, rm, xf, h⟩ := h
  exact h [] H Keep.refl rm .nil⟩
def starred : Expr → Bool
  | .Starred .. => true
  | _ => false
theorem star_cons {e : Expr} {es : List Expr} {env : PySem.Env} (h : starred e = false) : starEach (e :: es) env = (false, eval e env) :: starEach es env := by
  cases e <;> first | rfl | exact absurd h (by intro q; cases q)
def noStars : List Expr → Bool
  | [] => true
  | e :: es => !starred e && noStars es
theorem stars_none {env : PySem.Env} {pos : Pos} : ∀ {es : List Expr}, noStars es = true → (backTo pos (starEach es env)).any (·.1) = false
  | [], _ => rfl
  | e :: es, h => by
    have h' : starred e = false ∧ noStars es = true := by simpa [noStars] using h
    rw [star_cons h'.1]
    show (false || (backTo pos (starEach es env)).any (·.1)) = false
    rw [stars_none h'.2]; rfl
theorem av_cons {e : Expr} {es : List Expr} {w : WE} {ws : WA} (h1 : EV G W X e w) (h2 : AV G W X es ws) (hs : starred e = false) : AV G W X (e :: es) (wCons w ws) :=
  ⟨mono_wCons h1.mono h2.mono, PA.imp (pa_cons h1.pe h2.pa (star_cons hs)) fun σ H Q h => by
    obtain ⟨ρ, M, Z, re, rm, xf, h⟩ := h
    refine tE_bind h1.mono re rm xf h fun x dx H1 M1 k1 r1 d1 h => ?_
    refine tA_bind h2.mono (re.mono k1) r1 (xf.mono k1) h fun xs ds H2 M2 k2 r2 d2 h => ?_
    exact h (x :: xs) H2 (k1.trans k2) r2 (.cons (d1.mono k2) d2)⟩
end
end Rf

set_option Elab.async false
set_option linter.all false
set_option maxRecDepth 100000
set_option maxHeartbeats 4000000
/-! Rf3: operations on plain data. -/
namespace Rf
open PySem PySem.Spec PyProof.Rows L2

/-! ### data that == and repr read -/
mutual
def D.py : D → PyData
  | .non => .none | .bl b => .bool b | .int i => .int i | .str x => .str x
  | .tup xs => .tuple (D.pys xs) | .lst xs => .list (D.pys xs) | _ => .none
def D.pys : List D → List PyData
  | [] => []
  | x :: xs => D.py x :: D.pys xs
end
theorem D.pys_map : ∀ xs : List D, D.pys xs = xs.map D.py
  | [] => rfl
  | x :: xs => by rw [D.pys, D.pys_map xs]; rfl
/-- data of at most this depth -/
def D.okN : Nat → D → Bool
  | _, .non => true | _, .bl _ => true | _, .int _ => true | _, .str x => PyData.strOk x
  | n + 1, .tup xs => xs.all (D.okN n) | n + 1, .lst xs => xs.all (D.okN n) | _, _ => false
theorem D.okN_data : ∀ (n : Nat) (d : D), D.okN n d = true → d.py.canLay0 = true ∧ d.py.depth ≤ n := by
  intro n
  induction n with
  | zero => intro d h; cases d <;> simp [D.okN, D.py, PyData.canLay0, PyData.depth] at * <;> exact h
  | succ n ih =>
    have all : ∀ xs : List D, xs.all (D.okN n) = true → PyData.canLayAll0 (D.pys xs) = true ∧ PyData.depthAll (D.pys xs) ≤ n := by
      intro xs
      induction xs with
      | nil => intro _; simp [D.pys, PyData.canLayAll0, PyData.depthAll]
      | cons x xs ihx =>
        intro h
        simp only [List.all_cons, Bool.and_eq_true] at h
        obtain ⟨a1, a2⟩ := ih x h.1
        obtain ⟨b1, b2⟩ := ihx h.2
        simp only [D.pys, PyData.canLayAll0, PyData.depthAll, a1, b1, Bool.and_self, true_and]
        omega
    intro d h
    cases d with
    | tup xs => obtain ⟨a, b⟩ := all xs (by simpa [D.okN] using h); simp only [D.py, PyData.canLay0, PyData.depth]; exact ⟨a, by omega⟩
    | lst xs => obtain ⟨a, b⟩ := all xs (by simpa [D.okN] using h); simp only [D.py, PyData.canLay0, PyData.depth]; exact ⟨a, by omega⟩
    | _ => simp [D.okN, D.py, PyData.canLay0, PyData.depth] at * <;> try exact h
theorem D.okN_mono : ∀ (n m : Nat) (d : D), n ≤ m → D.okN n d = true → D.okN m d = true := by
  intro n
  induction n with
  | zero => intro m d _ h; cases d <;> cases m <;> simp [D.okN] at * <;> try exact h
  | succ n ih =>
    intro m d hm h
    cases m with
    | zero => omega
    | succ m =>
      cases d with
      | tup xs => simp only [D.okN, List.all_eq_true] at *; exact fun x hx => ih m x (by omega) (h x hx)
      | lst xs => simp only [D.okN, List.all_eq_true] at *; exact fun x hx => ih m x (by omega) (h x hx)
      | _ => simp [D.okN] at * <;> try exact h
abbrev D.ok (d : D) : Bool := D.okN 60 d
theorem D.ok_shaped {d : D} (h : d.ok = true) : SeqAt.shaped d.py = true := by
  obtain ⟨a, b⟩ := D.okN_data 60 d h
  unfold SeqAt.shaped
  rw [a, Bool.true_and]
  exact decide_eq_true (by omega)
mutual
theorem Den.dp {G : Gx} {H : Hp} {M : Mem} : ∀ (n : Nat) (d : D) (v : V), D.okN n d = true → Den G H M v d → Dp G.K H v d.py
  | _, .non, _, _, h => by cases h; exact .non
  | _, .bl _, _, _, h => by cases h; exact .bl _
  | _, .int _, _, _, h => by cases h; exact .int _
  | _, .str _, _, _, h => by cases h; exact .str _
  | n + 1, .tup xs, _, k, h => by
    cases h with
    | tup r m hs => exact .tup (.inl r) (Dens.dp n xs _ (by simpa [D.okN] using k) hs)
    | tupK r hs => exact .tup (.inr r) (Dens.dp n xs _ (by simpa [D.okN] using k) hs)
  | n + 1, .lst xs, _, k, h => by
    cases h with
    | lst r m hs => exact .lst (.inl r) (Dens.dp n xs _ (by simpa [D.okN] using k) hs)
  | 0, .tup _, _, k, _ => by simp [D.okN] at k
  | 0, .lst _, _, k, _ => by simp [D.okN] at k
  | 0, .ref _, _, k, _ => by simp [D.okN] at k
  | 0, .fn _, _, k, _ => by simp [D.okN] at k
  | 0, .ty _, _, k, _ => by simp [D.okN] at k
  | 0, .scr _, _, k, _ => by simp [D.okN] at k
  | _ + 1, .scr _, _, k, _ => by simp [D.okN] at k
  | _ + 1, .ref _, _, k, _ => by simp [D.okN] at k
  | _ + 1, .fn _, _, k, _ => by simp [D.okN] at k
  | _ + 1, .ty _, _, k, _ => by simp [D.okN] at k
theorem Dens.dp {G : Gx} {H : Hp} {M : Mem} : ∀ (n : Nat) (ds : List D) (vs : List V), ds.all (D.okN n) = true → Dens G H M vs ds → DpAll G.K H vs (D.pys ds)
  | _, [], _, _, h => by cases h; exact .nil
  | n, d :: ds, _, k, h => by
    cases h with
    | cons h1 h2 =>
      simp only [List.all_cons, Bool.and_eq_true] at k
      exact .cons (Den.dp n d _ k.1 h1) (Dens.dp n ds _ k.2 h2)
end
/-- == on plain data -/
def D.eqv (x y : D) : Bool := PyData.eqv x.py y.py
theorem D.eqv_refl {d : D} (h : d.ok = true) : D.eqv d d = true := SeqAt.eqv_refl _ (D.okN_data 60 d h).1

theorem OpR.or {X : Cx} {f : Value → Value → Sem Value} {r r' : R2} (h : OpR X f r) (h' : OpR X f r') : OpR X f (fun x y H Q => r x y H Q ∨ r' x y H Q) :=
  fun pins s σ H x y v u Q I rx ry q => q.elim (h pins s σ H x y v u Q I rx ry) (h' pins s σ H x y v u Q I rx ry)
theorem CallR.or {X : Cx} {f : Value} {r r' : List V → Hp → VK → Prop} (h : CallR X f r) (h' : CallR X f r') : CallR X f (fun x H Q => r x H Q ∨ r' x H Q) :=
  fun pins s σ H xs us Q I r q => q.elim (h pins s σ H xs us Q I r) (h' pins s σ H xs us Q I r)

/-! ### ends for immediate values -/
theorem Fit.imm {G : Gx} {H : Hp} {M : Mem} {Qd : QV} {Q : VK} (f : Fit G H M Qd Q) (rm : RelM G H M) {v : V} {d : D} (dn : Den G H M v d) (q : Qd d M) : Q v H := f v d H M Keep.refl rm dn q
theorem Fit.tup {G : Gx} {H : Hp} {M : Mem} {Qd : QV} {Q : VK} (f : Fit G H M Qd Q) (rm : RelM G H M) {vs : List V} {ds : List D} (dn : Dens G H M vs ds) (q : Qd (.tup ds) M) : ∀ p, H p = none → Q (.ref p) (upd H p (.tup vs)) := fun p hp =>
  f (.ref p) (.tup ds) _ M (Keep.new hp) (rm.new hp) (.tup (.inl upd_same) (rm.fresh hp) (dn.mono (Keep.new hp))) q
theorem Fit.lst {G : Gx} {H : Hp} {M : Mem} {Qd : QV} {Q : VK} (f : Fit G H M Qd Q) (rm : RelM G H M) {vs : List V} {ds : List D} (dn : Dens G H M vs ds) (q : Qd (.lst ds) M) : ∀ p, H p = none → Q (.ref p) (upd H p (.lst vs)) := fun p hp =>
  f (.ref p) (.lst ds) _ M (Keep.new hp) (rm.new hp) (.lst (.inl upd_same) (rm.fresh hp) (dn.mono (Keep.new hp))) q
theorem Fit.lstM {G : Gx} {H : Hp} {M : Mem} {Qd : QV} {Q : VK} (f : Fit G H M Qd Q) (rm : RelM G H M) {vs : List V} {ds : List D} (dn : Dens G H M vs ds) (q : ∀ p, M p = none → Qd (.ref p) (mupd M p (.lst ds))) : ∀ p, H p = none → Q (.ref p) (upd H p (.lst vs)) := fun p hp =>
  f (.ref p) (.ref p) _ _ (Keep.newM hp) (rm.put (mo := .lst ds) (Keep.newM hp) ⟨vs, upd_same, dn.mono (Keep.newM hp)⟩) (.ref p) (q p (rm.fresh hp))

section
variable {G : Gx}
/-! ### ints -/
def cDiv (i j : Int) : Prop := j ≠ 0 ∧ j.natAbs.log2 < 9000
def cMul (i j : Int) : Prop := i.natAbs.log2 + j.natAbs.log2 < 1000000
def oAdd : O2 := fun x y M Q => match x, y with
  | .int a, .int b => Q (.int (a + b)) M
  | .str a, .str b => a.length + b.length ≤ 16777216 ∧ Q (.str (a ++ b)) M
  | .tup a, .tup b => a.length + b.length ≤ 16777216 ∧ Q (.tup (a ++ b)) M
  | .lst a, .lst b => a.length + b.length ≤ 16777216 ∧ Q (.lst (a ++ b)) M
  | _, _ => False
def oSub : O2 := fun x y M Q => match x, y with
  | .int a, .int b => Q (.int (a - b)) M
  | _, _ => False
def oMul : O2 := fun x y M Q => match x, y with
  | .int a, .int b => cMul a b ∧ Q (.int (a * b)) M
  | _, _ => False
def oDiv : O2 := fun x y M Q => match x, y with
  | .int a, .int b => cDiv a b ∧ Q (.int (a.fdiv b)) M
  | _, _ => False
def oMod : O2 := fun x y M Q => match x, y with
  | .int a, .int b => b ≠ 0 ∧ Q (.int (a.fmod b)) M
  | _, _ => False
def oPow : O2 := fun x y M Q => match x, y with
  | .int a, .int b => CPow a b ∧ Q (.int (a ^ b.toNat)) M
  | _, _ => False
def oNeg : O1 := fun x M Q => match x with
  | .int a => Q (.int (-a)) M
  | _ => False
theorem mono_oAdd : Mono2 oAdd := fun x y M Q Q' hq h => by
  unfold oAdd at *; split at h <;> first | exact hq _ _ h | exact ⟨h.1, hq _ _ h.2⟩ | exact h.elim
theorem mono_oSub : Mono2 oSub := fun x y M Q Q' hq h => by
  unfold oSub at *; split at h <;> first | exact hq _ _ h | exact h.elim
theorem mono_oMul : Mono2 oMul := fun x y M Q Q' hq h => by
  unfold oMul at *; split at h <;> first | exact ⟨h.1, hq _ _ h.2⟩ | exact h.elim
theorem mono_oDiv : Mono2 oDiv := fun x y M Q Q' hq h => by
  unfold oDiv at *; split at h <;> first | exact ⟨h.1, hq _ _ h.2⟩ | exact h.elim
theorem mono_oMod : Mono2 oMod := fun x y M Q Q' hq h => by
  unfold oMod at *; split at h <;> first | exact ⟨h.1, hq _ _ h.2⟩ | exact h.elim
theorem mono_oPow : Mono2 oPow := fun x y M Q Q' hq h => by
  unfold oPow at *; split at h <;> first | exact ⟨h.1, hq _ _ h.2⟩ | exact h.elim
theorem mono_oNeg : Mono1 oNeg := fun x M Q Q' hq h => by
  unfold oNeg at *; split at h <;> first | exact hq _ _ h | exact h.elim
theorem op_divG {X : Cx} : OpR X (binaryOp .FloorDiv) (rI cDiv fun i j => .int (i.fdiv j)) := opI fun i j _ _ _ _ _ hc q => floordiv_int hc.1 q (.inl (PyProof.noPylong_of_log2 hc.2))
theorem op_mulG {X : Cx} : OpR X (binaryOp .Mult) (rI cMul fun i j => .int (i * j)) := opI fun _ _ _ _ _ _ _ hc q => mul_int q (CMulW.ok hc)
/-- list + list -/
def rCatL : R2 := fun x y H Q => ∃ l b xs zs, x = .ref l ∧ y = .ref b ∧ Rd H l (.lst xs) ∧ Rd H b (.lst zs) ∧ xs.length + zs.length ≤ sizeLine ∧ ∀ p, H p = none → Q (.ref p) (upd H p (.lst (xs ++ zs)))
theorem op_catL {X : Cx} : OpR X (binaryOp .Add) rCatL := by
  intro pins s σ H x y v u Q I rx ry h
  obtain ⟨l, b, xs, zs, rfl, rfl, h1, h2, hz, q⟩ := h
  cases rx; cases ry
  obtain ⟨_, its, n, r, e⟩ := h1.ok I.hok
  obtain ⟨_, its2, n2, r2, e2⟩ := h2.ok I.hok
  refine PySem.P.add_list e e2 ?_ (by rw [List.size_toArray, List.size_toArray, ← r.length, ← r2.length]; exact hz)
  rw [show its.toArray ++ its2.toArray = (its ++ its2).toArray by simp]
  exact ⟨.ref _, _, I.lnew (t' := s.toks) (r.append r2) (by rw [List.length_append]; exact hz), rfl, q _ I.fresh⟩
def rAddG (K : PySem.W.Frag) : R2 := fun x y H Q => (rI0 fun i j => .int (i + j)) x y H Q ∨ (∃ i j, x = .str i ∧ y = .str j ∧ i.length + j.length ≤ sizeLine ∧ Q (.str (i ++ j)) H) ∨ rCatA K x y H Q ∨ rCatL x y H Q
theorem op_addG {X : Cx} : OpR X (binaryOp .Add) (rAddG X.K) := op_add.or (op_add_str.or (op_catA.or op_catL))
theorem len_line {n : Nat} (h : n ≤ 16777216) : n ≤ sizeLine := by rw [sizeLine_eq]; exact h
theorem ri_add : R2I G (rAddG G.K) oAdd := by
  intro x y dx dy H M Qd Q rm hx hy f h
  unfold oAdd at h
  split at h
  · cases hx; cases hy
    exact .inl ⟨_, _, rfl, rfl, f.imm rm (.int _) h⟩
  · cases hx; cases hy
    exact .inr (.inl ⟨_, _, rfl, rfl, len_line h.1, f.imm rm (.str _) h.2⟩)
  · rename_i a b
    obtain ⟨p, rfl⟩ : ∃ p, x = .ref p := by cases hx <;> exact ⟨_, rfl⟩
    obtain ⟨q, rfl⟩ : ∃ p, y = .ref p := by cases hy <;> exact ⟨_, rfl⟩
    obtain ⟨vs, s1, d1⟩ := sqT_of hx
    obtain ⟨ws, s2, d2⟩ := sqT_of hy
    have l1 := d1.length
    have l2 := d2.length
    refine .inr (.inr (.inl ⟨p, q, vs, ws, rfl, rfl, s1, s2, len_line (by omega), fun e => ?_, fun _ e => ?_, fun _ _ => ?_⟩))
    · subst e; cases d1; exact f.imm rm hy h.2
    · subst e; cases d2; exact f.imm rm hx (by have := h.2; rwa [List.append_nil] at this)
    · exact f.tup rm (d1.append d2) h.2
  · rename_i a b
    obtain ⟨p, rfl⟩ : ∃ p, x = .ref p := by cases hx <;> exact ⟨_, rfl⟩
    obtain ⟨q, rfl⟩ : ∃ p, y = .ref p := by cases hy <;> exact ⟨_, rfl⟩
    obtain ⟨vs, s1, d1⟩ := rdL_of hx
    obtain ⟨ws, s2, d2⟩ := rdL_of hy
    have l1 := d1.length
    have l2 := d2.length
    exact .inr (.inr (.inr ⟨p, q, vs, ws, rfl, rfl, s1, s2, len_line (by omega), f.lst rm (d1.append d2) h.2⟩))
  · exact h.elim
theorem ri_I {C : Int → Int → Prop} {g : Int → Int → Int} {o : O2} (ho : ∀ x y M Q, o x y M Q → ∃ a b, x = .int a ∧ y = .int b ∧ C a b ∧ Q (.int (g a b)) M) : R2I G (rI C fun i j => .int (g i j)) o := by
  intro x y dx dy H M Qd Q rm hx hy f h
  obtain ⟨a, b, rfl, rfl, hc, q⟩ := ho _ _ _ _ h
  cases hx; cases hy
  exact ⟨a, b, rfl, rfl, hc, f.imm rm (.int _) q⟩
theorem ri_I0 {g : Int → Int → Int} {o : O2} (ho : ∀ x y M Q, o x y M Q → ∃ a b, x = .int a ∧ y = .int b ∧ Q (.int (g a b)) M) : R2I G (rI0 fun i j => .int (g i j)) o := by
  intro x y dx dy H M Qd Q rm hx hy f h
  obtain ⟨a, b, rfl, rfl, q⟩ := ho _ _ _ _ h
  cases hx; cases hy
  exact ⟨a, b, rfl, rfl, f.imm rm (.int _) q⟩
theorem ri_sub : R2I G (rI0 fun i j => .int (i - j)) oSub := ri_I0 fun x y M Q h => by
  unfold oSub at h; split at h <;> first | exact ⟨_, _, rfl, rfl, h⟩ | exact h.elim
theorem ri_mul : R2I G (rI cMul fun i j => .int (i * j)) oMul := ri_I fun x y M Q h => by
  unfold oMul at h; split at h <;> first | exact ⟨_, _, rfl, rfl, h.1, h.2⟩ | exact h.elim
theorem ri_div : R2I G (rI cDiv fun i j => .int (i.fdiv j)) oDiv := ri_I fun x y M Q h => by
  unfold oDiv at h; split at h <;> first | exact ⟨_, _, rfl, rfl, h.1, h.2⟩ | exact h.elim
theorem ri_mod : R2I G (rI (fun _ j => j ≠ 0) fun i j => .int (i.fmod j)) oMod := ri_I fun x y M Q h => by
  unfold oMod at h; split at h <;> first | exact ⟨_, _, rfl, rfl, h.1, h.2⟩ | exact h.elim
theorem ri_pow : R2I G (rI CPow fun i j => .int (i ^ j.toNat)) oPow := ri_I fun x y M Q h => by
  unfold oPow at h; split at h <;> first | exact ⟨_, _, rfl, rfl, h.1, h.2⟩ | exact h.elim
theorem ri_neg : R1I G (rU fun i => .int (-i)) oNeg := by
  intro x dx H M Qd Q rm hx f h
  unfold oNeg at h
  split at h
  · cases hx; exact ⟨_, rfl, f.imm rm (.int _) h⟩
  · exact h.elim
/-! ### truth -/
def truD : D → Mem → (Bool → Prop) → Prop := fun x M Q => match x with
  | .non => Q false | .bl b => Q b | .int i => Q (i != 0)
  | .str y => y.length ≤ 16777216 ∧ Q ((y.length : Int) != 0)
  | .tup xs => Q (!xs.isEmpty) | .lst xs => Q (!xs.isEmpty)
  | .ref a => match M a with
    | some (.lst ds) => Q (!ds.isEmpty)
    | _ => False
  | _ => False
theorem truD_mono {x : D} {M : Mem} {Q Q' : Bool → Prop} (hq : ∀ b, Q b → Q' b) (h : truD x M Q) : truD x M Q' := by
  unfold truD at *
  split at h <;> first | exact hq _ h | exact ⟨h.1, hq _ h.2⟩ | skip
  · split at h
    · exact hq _ h
    · exact h.elim
  · exact h.elim
theorem dens_empty {H : Hp} {M : Mem} {vs : List V} {ds : List D} (h : Dens G H M vs ds) : vs.isEmpty = ds.isEmpty := by cases h <;> rfl
theorem truD_ok {x : V} {d : D} {H : Hp} {M : Mem} {Q : Bool → Prop} (rm : RelM G H M) (hx : Den G H M x d) (h : truD d M Q) : ∃ k, TruV G.K x H k ∧ Q k := by
  unfold truD at h
  split at h
  · cases hx; exact ⟨_, rfl, h⟩
  · cases hx; exact ⟨_, rfl, h⟩
  · cases hx; exact ⟨_, rfl, h⟩
  · cases hx; exact ⟨_, ⟨len_line h.1, rfl⟩, h.2⟩
  · obtain ⟨p, rfl⟩ : ∃ p, x = .ref p := by cases hx <;> exact ⟨_, rfl⟩
    obtain ⟨vs, s1, d1⟩ := sqT_of hx
    exact ⟨_, .inr (.inl ⟨vs, s1, rfl⟩), by rw [dens_empty d1]; exact h⟩
  · obtain ⟨p, rfl⟩ : ∃ p, x = .ref p := by cases hx <;> exact ⟨_, rfl⟩
    obtain ⟨vs, s1, d1⟩ := sqL_of hx
    exact ⟨_, .inl ⟨vs, s1, rfl⟩, by rw [dens_empty d1]; exact h⟩
  · rename_i a
    cases hx
    split at h
    · rename_i ds e
      obtain ⟨vs, e1, d1⟩ := rm _ _ e
      exact ⟨_, .inl ⟨vs, SqL.of e1, rfl⟩, by rw [dens_empty d1]; exact h⟩
    · exact h.elim
  · exact h.elim
end
/-! ### tests, not, and, or, conditional expressions -/
section
variable {G : Gx} {W : WX} {X : Cx} {a b c : Expr} {wa wb : WE} {wt wu : WT}
def wTru (wa : WE) : WT := fun ρ M Q Z => wa ρ M (fun x M1 => truD x M1 fun k => Q k M1) Z
theorem mono_wTru (ha : Mono wa) : Mono (wTru wa) := fun ρ M Q Q' Z Z' hq hz => ha ρ M _ _ Z Z' (fun x M1 => truD_mono fun k => hq k M1) hz
/-- an expression whose test is its value's truth -/
def plainTest : Expr → Bool
  | .UnaryOp .Not _ _ => false | .BoolOp .. => false | .IfExp .. => false | .Compare .. => false | _ => true
theorem isTrue_of_plain {e : Expr} {env : PySem.Env} (h : plainTest e = true) (whole : Sem Value) : isTrue e env whole = (do let v ← whole; standAt e.pos; holding [v] (truthy v)) := by
  cases e with
  | UnaryOp op x p => cases op <;> first | rfl | exact absurd h (by intro q; cases q)
  | BoolOp => cases h
  | IfExp => cases h
  | Compare => cases h
  | _ => rfl
theorem tv_tru (hK : G.K = X.K) (h : EV G W X a wa) (hp : plainTest a = true) : TV G W X a (wTru wa) :=
  ⟨mono_wTru h.mono, PT.imp (pt_truth h.pe (isTrue_of_plain hp)) fun σ H Q hh => by
    obtain ⟨ρ, M, Z, re, rm, xf, hh⟩ := hh
    refine tE_bind h.mono re rm xf hh fun x dx H1 M1 k1 r1 d1 h1 => ?_
    rw [← hK]
    obtain ⟨k, t, q⟩ := truD_ok r1 d1 h1
    exact ⟨k, t, q H1 k1 r1⟩⟩
/-- a test whose value is a bool -/
def wAsT (wa : WE) : WT := fun ρ M Q Z => wa ρ M (fun x M1 => match x with | .bl k => Q k M1 | _ => False) Z
theorem mono_wAsT (ha : Mono wa) : Mono (wAsT wa) := fun ρ M Q Q' Z Z' hq hz => ha ρ M _ _ Z Z' (fun x M1 h => by split at h <;> first | exact hq _ _ h | exact h.elim) hz
theorem tv_asT {t : TE} (ha : Mono wa) (hp : PT X a (tTest t)) (ht : ∀ σ H Q, tE G W wa σ H Q → t σ H Q) : TV G W X a (wAsT wa) :=
  ⟨mono_wAsT ha, PT.imp hp fun σ H Q hh => by
    obtain ⟨ρ, M, Z, re, rm, xf, hh⟩ := hh
    refine ht σ H _ (tE_bind ha re rm xf hh fun x dx H1 M1 k1 r1 d1 h1 => ?_)
    dsimp only at h1
    split at h1
    · cases d1; exact ⟨_, rfl, h1 H1 k1 r1⟩
    · exact h1.elim⟩
def wNotT (wt : WT) : WT := fun ρ M Q Z => wt ρ M (fun k M1 => Q (!k) M1) Z
theorem mono_wNotT (h : Mono wt) : Mono (wNotT wt) := fun ρ M Q Q' Z Z' hq hz => h ρ M _ _ Z Z' (fun k M1 => hq _ M1) hz
theorem tv_not {pos : Pos} (h : TV G W X a wt) : TV G W X (.UnaryOp .Not a pos) (wNotT wt) := ⟨mono_wNotT h.mono, PT.imp (pt_not h.pt) fun σ H Q hh => by
  obtain ⟨ρ, M, Z, re, rm, xf, hh⟩ := hh
  exact tT_bind h.mono re rm xf hh fun k H1 M1 k1 r1 q => q H1 k1 r1⟩
def wAndT (wt wu : WT) : WT := fun ρ M Q Z => wt ρ M (fun k M1 => if k = true then wu ρ M1 Q Z else Q false M1) Z
def wOrT (wt wu : WT) : WT := fun ρ M Q Z => wt ρ M (fun k M1 => if k = true then Q true M1 else wu ρ M1 Q Z) Z
theorem mono_wAndT (h1 : Mono wt) (h2 : Mono wu) : Mono (wAndT wt wu) := fun ρ M Q Q' Z Z' hq hz => h1 ρ M _ _ Z Z' (fun k M1 h => by
  cases k with
  | true => exact h2 ρ M1 Q Q' Z Z' hq hz h
  | false => exact hq _ _ h) hz
theorem mono_wOrT (h1 : Mono wt) (h2 : Mono wu) : Mono (wOrT wt wu) := fun ρ M Q Q' Z Z' hq hz => h1 ρ M _ _ Z Z' (fun k M1 h => by
  cases k with
  | false => exact h2 ρ M1 Q Q' Z Z' hq hz h
  | true => exact hq _ _ h) hz
/-- a test of a BoolOp, whatever its whole is -/
structure WV (G : Gx) (W : WX) (X : Cx) (e : Expr) (w : WT) : Prop where
  mono : Mono w
  pw : PW X e (tT G W w)
theorem PW.imp {X : Cx} {e : Expr} {t t' : TT} (h : PW X e t) (i : ∀ σ H Q, t' σ H Q → t σ H Q) : PW X e t' := ⟨fun wh pins s σ H Q I hw => h.run wh pins s σ H Q I (i σ H Q hw)⟩
theorem WV.tv {e : Expr} {w : WT} (h : WV G W X e w) : TV G W X e w := ⟨h.mono, h.pw.pt⟩
theorem wv_and1 {pos : Pos} (h : TV G W X a wt) : WV G W X (.BoolOp .And [a] pos) wt := ⟨h.mono, pw_and1 h.pt⟩
theorem wv_or1 {pos : Pos} (h : TV G W X a wt) : WV G W X (.BoolOp .Or [a] pos) wt := ⟨h.mono, pw_or1 h.pt⟩
theorem wv_and {rest : List Expr} {pos : Pos} (h1 : TV G W X a wt) (h2 : WV G W X (.BoolOp .And (b :: rest) pos) wu) : WV G W X (.BoolOp .And (a :: b :: rest) pos) (wAndT wt wu) :=
  ⟨mono_wAndT h1.mono h2.mono, PW.imp (pw_and h1.pt h2.pw) fun σ H Q hh => by
    obtain ⟨ρ, M, Z, re, rm, xf, hh⟩ := hh
    refine tT_bind h1.mono re rm xf hh fun k H1 M1 k1 r1 q => ?_
    cases k with
    | true => exact tT_bind h2.mono (re.mono k1) r1 (xf.mono k1) q fun k2 H2 M2 k2' r2 q => q H2 (k1.trans k2') r2
    | false => exact q H1 k1 r1⟩
theorem wv_or {rest : List Expr} {pos : Pos} (h1 : TV G W X a wt) (h2 : WV G W X (.BoolOp .Or (b :: rest) pos) wu) : WV G W X (.BoolOp .Or (a :: b :: rest) pos) (wOrT wt wu) :=
  ⟨mono_wOrT h1.mono h2.mono, PW.imp (pw_or h1.pt h2.pw) fun σ H Q hh => by
    obtain ⟨ρ, M, Z, re, rm, xf, hh⟩ := hh
    refine tT_bind h1.mono re rm xf hh fun k H1 M1 k1 r1 q => ?_
    cases k with
    | false => exact tT_bind h2.mono (re.mono k1) r1 (xf.mono k1) q fun k2 H2 M2 k2' r2 q => q H2 (k1.trans k2') r2
    | true => exact q H1 k1 r1⟩
/-! as values -/
def wAnd (wa wb : WE) : WE := fun ρ M Q Z => wa ρ M (fun x M1 => truD x M1 fun k => if k = true then wb ρ M1 Q Z else Q x M1) Z
def wOr (wa wb : WE) : WE := fun ρ M Q Z => wa ρ M (fun x M1 => truD x M1 fun k => if k = true then Q x M1 else wb ρ M1 Q Z) Z
def wNot (wa : WE) : WE := fun ρ M Q Z => wa ρ M (fun x M1 => truD x M1 fun k => Q (.bl (!k)) M1) Z
theorem mono_wAnd (h1 : Mono wa) (h2 : Mono wb) : Mono (wAnd wa wb) := fun ρ M Q Q' Z Z' hq hz => h1 ρ M _ _ Z Z' (fun x M1 => truD_mono fun k h => by
  cases k with
  | true => exact h2 ρ M1 Q Q' Z Z' hq hz h
  | false => exact hq _ _ h) hz
theorem mono_wOr (h1 : Mono wa) (h2 : Mono wb) : Mono (wOr wa wb) := fun ρ M Q Q' Z Z' hq hz => h1 ρ M _ _ Z Z' (fun x M1 => truD_mono fun k h => by
  cases k with
  | false => exact h2 ρ M1 Q Q' Z Z' hq hz h
  | true => exact hq _ _ h) hz
theorem mono_wNot (h1 : Mono wa) : Mono (wNot wa) := fun ρ M Q Q' Z Z' hq hz => h1 ρ M _ _ Z Z' (fun x M1 => truD_mono fun k h => hq _ _ h) hz
theorem ev_one {op} {pos : Pos} (h : EV G W X a wa) : EV G W X (.BoolOp op [a] pos) wa := ⟨h.mono, pe_one h.pe⟩
theorem ev_and (hK : G.K = X.K) {rest : List Expr} {pos : Pos} (h1 : EV G W X a wa) (h2 : EV G W X (.BoolOp .And (b :: rest) pos) wb) : EV G W X (.BoolOp .And (a :: b :: rest) pos) (wAnd wa wb) :=
  ⟨mono_wAnd h1.mono h2.mono, PE.imp (pe_andT h1.pe h2.pe) fun σ H Q hh => by
    obtain ⟨ρ, M, Z, re, rm, xf, hh⟩ := hh
    refine tE_bind h1.mono re rm xf hh fun x dx H1 M1 k1 r1 d1 q => ?_
    rw [← hK]
    obtain ⟨k, t, q⟩ := truD_ok r1 d1 q
    refine ⟨k, t, ?_⟩
    cases k with
    | true => exact tE_bind h2.mono (re.mono k1) r1 (xf.mono k1) q fun y dy H2 M2 k2 r2 d2 q => q y H2 (k1.trans k2) r2 d2
    | false => exact q x H1 k1 r1 d1⟩
theorem ev_or (hK : G.K = X.K) {rest : List Expr} {pos : Pos} (h1 : EV G W X a wa) (h2 : EV G W X (.BoolOp .Or (b :: rest) pos) wb) : EV G W X (.BoolOp .Or (a :: b :: rest) pos) (wOr wa wb) :=
  ⟨mono_wOr h1.mono h2.mono, PE.imp (pe_orT h1.pe h2.pe) fun σ H Q hh => by
    obtain ⟨ρ, M, Z, re, rm, xf, hh⟩ := hh
    refine tE_bind h1.mono re rm xf hh fun x dx H1 M1 k1 r1 d1 q => ?_
    rw [← hK]
    obtain ⟨k, t, q⟩ := truD_ok r1 d1 q
    refine ⟨k, t, ?_⟩
    cases k with
    | false => exact tE_bind h2.mono (re.mono k1) r1 (xf.mono k1) q fun y dy H2 M2 k2 r2 d2 q => q y H2 (k1.trans k2) r2 d2
    | true => exact q x H1 k1 r1 d1⟩
theorem ev_not (hK : G.K = X.K) {pos : Pos} (h1 : EV G W X a wa) : EV G W X (.UnaryOp .Not a pos) (wNot wa) :=
  ⟨mono_wNot h1.mono, PE.imp (pe_notT h1.pe) fun σ H Q hh => by
    obtain ⟨ρ, M, Z, re, rm, xf, hh⟩ := hh
    refine tE_bind h1.mono re rm xf hh fun x dx H1 M1 k1 r1 d1 q => ?_
    rw [← hK]
    obtain ⟨k, t, q⟩ := truD_ok r1 d1 q
    exact ⟨k, t, q _ H1 k1 r1 (.bl _)⟩⟩
def wIfE (wt : WT) (wa wb : WE) : WE := fun ρ M Q Z => wt ρ M (fun k M1 => if k = true then wa ρ M1 Q Z else wb ρ M1 Q Z) Z
theorem mono_wIfE (h : Mono wt) (h1 : Mono wa) (h2 : Mono wb) : Mono (wIfE wt wa wb) := fun ρ M Q Q' Z Z' hq hz => h ρ M _ _ Z Z' (fun k M1 hh => by
  cases k with
  | true => exact h1 ρ M1 Q Q' Z Z' hq hz hh
  | false => exact h2 ρ M1 Q Q' Z Z' hq hz hh) hz
theorem ev_ife {pos : Pos} (h : TV G W X c wt) (h1 : EV G W X a wa) (h2 : EV G W X b wb) : EV G W X (.IfExp c a b pos) (wIfE wt wa wb) :=
  ⟨mono_wIfE h.mono h1.mono h2.mono, PE.imp (pe_ifExp h.pt h1.pe h2.pe) fun σ H Q hh => by
    obtain ⟨ρ, M, Z, re, rm, xf, hh⟩ := hh
    refine tT_bind h.mono re rm xf hh fun k H1 M1 k1 r1 q => ?_
    cases k with
    | true => exact tE_bind h1.mono (re.mono k1) r1 (xf.mono k1) q fun y dy H2 M2 k2 r2 d2 q => q y H2 (k1.trans k2) r2 d2
    | false => exact tE_bind h2.mono (re.mono k1) r1 (xf.mono k1) q fun y dy H2 M2 k2 r2 d2 q => q y H2 (k1.trans k2) r2 d2⟩
end
end Rf

set_option Elab.async false
set_option linter.all false
set_option maxRecDepth 100000
set_option maxHeartbeats 4000000
/-! Rf4: displays, comparisons, subscripts, built-in calls over plain data. -/
namespace Rf
open PySem PySem.Spec PyProof.Rows L2
section
variable {G : Gx}
/-! ### displays -/
def oTup : ON := fun xs M Q => xs.length ≤ 16777216 ∧ Q (.tup xs) M
def oLst : ON := fun xs M Q => xs.length ≤ 16777216 ∧ Q (.lst xs) M
/-- a list that is to change -/
def oLstM : ON := fun xs M Q => xs.length ≤ 16777216 ∧ ∀ p, M p = none → Q (.ref p) (mupd M p (.lst xs))
theorem mono_oTup : MonoN oTup := fun xs M Q Q' hq h => ⟨h.1, hq _ _ h.2⟩
theorem mono_oLst : MonoN oLst := fun xs M Q Q' hq h => ⟨h.1, hq _ _ h.2⟩
theorem mono_oLstM : MonoN oLstM := fun xs M Q Q' hq h => ⟨h.1, fun p hp => hq _ _ (h.2 p hp)⟩
section
variable {W : WX} {X : Cx} {es : List Expr} {ws : WA}
theorem ev_tup {k : Nat} {pos : Pos} (h : AV G W X es ws) : EV G W X (.Tuple es k pos) (wN oTup ws) := ⟨mono_wN mono_oTup h.mono, PE.imp (pe_tup h.pa) fun σ H Q hh => by
  obtain ⟨ρ, M, Z, re, rm, xf, hh⟩ := hh
  refine tA_bind h.mono re rm xf hh fun vs ds H1 M1 k1 r1 d1 q => ⟨len_line (by rw [d1.length]; exact q.1), ?_⟩
  exact (fit_id (G := G) k1).tup r1 d1 q.2⟩
theorem ev_lst {pos : Pos} (h : AV G W X es ws) : EV G W X (.List es pos) (wN oLst ws) := ⟨mono_wN mono_oLst h.mono, PE.imp (pe_lst h.pa) fun σ H Q hh => by
  obtain ⟨ρ, M, Z, re, rm, xf, hh⟩ := hh
  refine tA_bind h.mono re rm xf hh fun vs ds H1 M1 k1 r1 d1 q => ⟨len_line (by rw [d1.length]; exact q.1), ?_⟩
  exact (fit_id (G := G) k1).lst r1 d1 q.2⟩
theorem ev_lstM {pos : Pos} (h : AV G W X es ws) : EV G W X (.List es pos) (wN oLstM ws) := ⟨mono_wN mono_oLstM h.mono, PE.imp (pe_lst h.pa) fun σ H Q hh => by
  obtain ⟨ρ, M, Z, re, rm, xf, hh⟩ := hh
  refine tA_bind h.mono re rm xf hh fun vs ds H1 M1 k1 r1 d1 q => ⟨len_line (by rw [d1.length]; exact q.1), ?_⟩
  exact (fit_id (G := G) k1).lstM r1 d1 q.2⟩
end
/-! ### comparisons -/
def D.isNon : D → Bool
  | .non => true
  | _ => false
def oEq : O2 := fun x y M Q => match x, y with
  | .int a, .int b => Q (.bl (decide (a = b))) M
  | .str a, .str b => Q (.bl (decide (a = b))) M
  | x, y => x.ok = true ∧ y.ok = true ∧ Q (.bl (D.eqv x y)) M
def oNe : O2 := fun x y M Q => match x, y with
  | .int a, .int b => Q (.bl (!decide (a = b))) M
  | .str a, .str b => Q (.bl (!decide (a = b))) M
  | x, y => x.ok = true ∧ y.ok = true ∧ Q (.bl (!D.eqv x y)) M
def rEqG (K : PySem.W.Frag) : R2 := fun x y H Q => rEq x y H Q ∨ rEqD K x y H Q
def rNeG (K : PySem.W.Frag) : R2 := fun x y H Q => rNe x y H Q ∨ rNeD K x y H Q
theorem op_eqG {X : Cx} (hu : X.A.units + 64 < cLine) : OpR X (compareOp .Eq) (rEqG X.K) := op_eq.or (op_eqD hu)
theorem op_neG {X : Cx} (hu : X.A.units + 64 < cLine) : OpR X (compareOp .NotEq) (rNeG X.K) := op_ne.or (op_neD hu)
def oLt : O2 := fun x y M Q => match x, y with
  | .int a, .int b => Q (.bl (decide (a < b))) M
  | _, _ => False
def oLe : O2 := fun x y M Q => match x, y with
  | .int a, .int b => Q (.bl (decide (a ≤ b))) M
  | _, _ => False
def oGt : O2 := fun x y M Q => match x, y with
  | .int a, .int b => Q (.bl (decide (b < a))) M
  | _, _ => False
def oGe : O2 := fun x y M Q => match x, y with
  | .int a, .int b => Q (.bl (decide (b ≤ a))) M
  | _, _ => False
def oIs : O2 := fun x y M Q => match x, y with
  | _, .non => Q (.bl x.isNon) M
  | .bl a, .bl b => Q (.bl (decide (a = b))) M
  | _, _ => False
def oIsNot : O2 := fun x y M Q => match x, y with
  | _, .non => Q (.bl (!x.isNon)) M
  | .bl a, .bl b => Q (.bl (!decide (a = b))) M
  | _, _ => False
def oIn : O2 := fun x y M Q => match y with
  | .lst ds => x.ok = true ∧ y.ok = true ∧ Q (.bl (ds.any fun z => D.eqv z x)) M
  | _ => False
def oNotIn : O2 := fun x y M Q => match y with
  | .lst ds => x.ok = true ∧ y.ok = true ∧ Q (.bl (!ds.any fun z => D.eqv z x)) M
  | _ => False
theorem mono_oEq : Mono2 oEq := fun x y M Q Q' hq h => by unfold oEq at *; split at h <;> first | exact hq _ _ h | exact ⟨h.1, h.2.1, hq _ _ h.2.2⟩
theorem mono_oNe : Mono2 oNe := fun x y M Q Q' hq h => by unfold oNe at *; split at h <;> first | exact hq _ _ h | exact ⟨h.1, h.2.1, hq _ _ h.2.2⟩
theorem mono_oLt : Mono2 oLt := fun x y M Q Q' hq h => by unfold oLt at *; split at h <;> first | exact hq _ _ h | exact h.elim
theorem mono_oLe : Mono2 oLe := fun x y M Q Q' hq h => by unfold oLe at *; split at h <;> first | exact hq _ _ h | exact h.elim
theorem mono_oGt : Mono2 oGt := fun x y M Q Q' hq h => by unfold oGt at *; split at h <;> first | exact hq _ _ h | exact h.elim
theorem mono_oGe : Mono2 oGe := fun x y M Q Q' hq h => by unfold oGe at *; split at h <;> first | exact hq _ _ h | exact h.elim
theorem mono_oIs : Mono2 oIs := fun x y M Q Q' hq h => by unfold oIs at *; split at h <;> first | exact hq _ _ h | exact h.elim
theorem mono_oIsNot : Mono2 oIsNot := fun x y M Q Q' hq h => by unfold oIsNot at *; split at h <;> first | exact hq _ _ h | exact h.elim
theorem mono_oIn : Mono2 oIn := fun x y M Q Q' hq h => by unfold oIn at *; split at h <;> first | exact ⟨h.1, h.2.1, hq _ _ h.2.2⟩ | exact h.elim
theorem mono_oNotIn : Mono2 oNotIn := fun x y M Q Q' hq h => by unfold oNotIn at *; split at h <;> first | exact ⟨h.1, h.2.1, hq _ _ h.2.2⟩ | exact h.elim
theorem dec_V_int {a b : Int} : decide (V.int a = V.int b) = decide (a = b) := by rw [Bool.eq_iff_iff]; simp
theorem dec_V_str {a b : Str} : decide (V.str a = V.str b) = decide (a = b) := by rw [Bool.eq_iff_iff]; simp
theorem ri_eq : R2I G (rEqG G.K) oEq := fun x y dx dy H M Qd Q rm hx hy f h => by
  unfold oEq at h
  split at h
  · cases hx; cases hy
    exact .inl ⟨rfl, by rw [dec_V_int]; exact f.imm rm (.bl _) h⟩
  · cases hx; cases hy
    exact .inl ⟨rfl, by rw [dec_V_str]; exact f.imm rm (.bl _) h⟩
  · exact .inr ⟨_, _, hx.dp 60 _ x h.1, hy.dp 60 _ y h.2.1, D.ok_shaped h.1, D.ok_shaped h.2.1, f.imm rm (.bl _) h.2.2⟩
theorem ri_ne : R2I G (rNeG G.K) oNe := fun x y dx dy H M Qd Q rm hx hy f h => by
  unfold oNe at h
  split at h
  · cases hx; cases hy
    exact .inl ⟨rfl, by rw [dec_V_int]; exact f.imm rm (.bl _) h⟩
  · cases hx; cases hy
    exact .inl ⟨rfl, by rw [dec_V_str]; exact f.imm rm (.bl _) h⟩
  · exact .inr ⟨_, _, hx.dp 60 _ x h.1, hy.dp 60 _ y h.2.1, D.ok_shaped h.1, D.ok_shaped h.2.1, f.imm rm (.bl _) h.2.2⟩
theorem ri_B {g : Int → Int → Bool} {o : O2} (ho : ∀ x y M Q, o x y M Q → ∃ a b, x = .int a ∧ y = .int b ∧ Q (.bl (g a b)) M) : R2I G (rI0 fun i j => .bl (g i j)) o := by
  intro x y dx dy H M Qd Q rm hx hy f h
  obtain ⟨a, b, rfl, rfl, q⟩ := ho _ _ _ _ h
  cases hx; cases hy
  exact ⟨a, b, rfl, rfl, f.imm rm (.bl _) q⟩
theorem ri_lt : R2I G (rI0 fun i j => .bl (decide (i < j))) oLt := ri_B fun x y M Q h => by
  unfold oLt at h; split at h <;> first | exact ⟨_, _, rfl, rfl, h⟩ | exact h.elim
theorem ri_le : R2I G (rI0 fun i j => .bl (decide (i ≤ j))) oLe := ri_B fun x y M Q h => by
  unfold oLe at h; split at h <;> first | exact ⟨_, _, rfl, rfl, h⟩ | exact h.elim
theorem ri_gt : R2I G (rI0 fun i j => .bl (decide (j < i))) oGt := ri_B fun x y M Q h => by
  unfold oGt at h; split at h <;> first | exact ⟨_, _, rfl, rfl, h⟩ | exact h.elim
theorem ri_ge : R2I G (rI0 fun i j => .bl (decide (j ≤ i))) oGe := ri_B fun x y M Q h => by
  unfold oGe at h; split at h <;> first | exact ⟨_, _, rfl, rfl, h⟩ | exact h.elim
theorem den_non {H : Hp} {M : Mem} {v : V} {d : D} (h : Den G H M v d) : decide (v = .non) = d.isNon := by
  cases h <;> simp [D.isNon]
def rIsG : R2 := fun x y H Q => (y = .non ∧ Q (.bl (decide (x = .non))) H) ∨ ∃ a b, x = .bl a ∧ y = .bl b ∧ Q (.bl (decide (a = b))) H
def rIsNotG : R2 := fun x y H Q => (y = .non ∧ Q (.bl (!decide (x = .non))) H) ∨ ∃ a b, x = .bl a ∧ y = .bl b ∧ Q (.bl (!decide (a = b))) H
theorem op_isG {X : Cx} : OpR X (compareOp .Is) rIsG := op_isN.or op_is_bl
theorem op_isnotG {X : Cx} : OpR X (compareOp .IsNot) rIsNotG := op_notN.or op_isnot_bl
theorem ri_is : R2I G rIsG oIs := by
  intro x y dx dy H M Qd Q rm hx hy f h
  unfold oIs at h
  split at h
  · cases hy
    exact .inl ⟨rfl, by rw [den_non hx]; exact f.imm rm (.bl _) h⟩
  · cases hx; cases hy
    exact .inr ⟨_, _, rfl, rfl, f.imm rm (.bl _) h⟩
  · exact h.elim
theorem ri_isnot : R2I G rIsNotG oIsNot := by
  intro x y dx dy H M Qd Q rm hx hy f h
  unfold oIsNot at h
  split at h
  · cases hy
    exact .inl ⟨rfl, by rw [den_non hx]; exact f.imm rm (.bl _) h⟩
  · cases hx; cases hy
    exact .inr ⟨_, _, rfl, rfl, f.imm rm (.bl _) h⟩
  · exact h.elim
theorem any_pys {x : D} : ∀ ds : List D, ((D.pys ds).any fun z => PyData.eqv z x.py) = ds.any fun z => D.eqv z x
  | [] => rfl
  | d :: ds => by rw [D.pys, List.any_cons, List.any_cons, any_pys ds]; rfl
theorem ri_in : R2I G (rInD G.K) oIn := by
  intro x y dx dy H M Qd Q rm hx hy f h
  unfold oIn at h
  split at h
  · exact ⟨dx.py, _, hx.dp 60 dx x h.1, hy.dp 60 _ y h.2.1, D.ok_shaped h.1, D.ok_shaped h.2.1, by rw [any_pys]; exact f.imm rm (.bl _) h.2.2⟩
  · exact h.elim
theorem ri_notin : R2I G (rNotInD G.K) oNotIn := by
  intro x y dx dy H M Qd Q rm hx hy f h
  unfold oNotIn at h
  split at h
  · exact ⟨dx.py, _, hx.dp 60 dx x h.1, hy.dp 60 _ y h.2.1, D.ok_shaped h.1, D.ok_shaped h.2.1, by rw [any_pys]; exact f.imm rm (.bl _) h.2.2⟩
  · exact h.elim
/-- a two-place comparison, with its rule -/
structure CmpOk (G : Gx) (X : Cx) (op : CmpOp) (o : O2) : Prop where
  ex : ∃ r, OpR X (compareOp op) r ∧ R2I G r o
  mono : Mono2 o
section
variable {W : WX} {X : Cx} {a b c : Expr} {wa wb wc : WE}
theorem ev_cmp {op : CmpOp} {o : O2} {pos : Pos} (ok : CmpOk G X op o) (ha : EV G W X a wa) (hb : EV G W X b wb) (hm : behindInMarks op b = false) : EV G W X (.Compare a [op] [b] pos) (w2 o wa wb) := by
  obtain ⟨r, ho, ri⟩ := ok.ex
  exact ⟨mono_w2 ok.mono ha.mono hb.mono, PE.imp (pe_cmpR ho ha.pe hb.pe hm) fun _ _ _ => tE_w2 ri ha.mono hb.mono⟩
theorem tv_cmp {op : CmpOp} {o : O2} {pos : Pos} (ok : CmpOk G X op o) (ha : EV G W X a wa) (hb : EV G W X b wb) (hm : behindInMarks op b = false) : TV G W X (.Compare a [op] [b] pos) (wAsT (w2 o wa wb)) := by
  obtain ⟨r, ho, ri⟩ := ok.ex
  exact tv_asT (mono_w2 ok.mono ha.mono hb.mono) (pt_cmpR ho ha.pe hb.pe hm) fun σ H Q h => tE_w2 ri ha.mono hb.mono h
def wChain (o o' : O2) (wa wb wc : WE) : WE := fun ρ M Q Z => wa ρ M (fun x M1 => wb ρ M1 (fun y M2 => o x y M2 fun z M3 => match z with
  | .bl k => if k = true then wc ρ M3 (fun u M4 => o' y u M4 Q) Z else Q (.bl false) M3
  | _ => False) Z) Z
theorem mono_wChain {o o' : O2} (ho : Mono2 o) (ho' : Mono2 o') (ha : Mono wa) (hb : Mono wb) (hc : Mono wc) : Mono (wChain o o' wa wb wc) := fun ρ M Q Q' Z Z' hq hz =>
  ha ρ M _ _ Z Z' (fun x M1 => hb ρ M1 _ _ Z Z' (fun y M2 => ho x y M2 _ _ fun z M3 h => by
    split at h
    · rename_i k
      cases k with
      | true => exact hc ρ M3 _ _ Z Z' (fun u M4 => ho' y u M4 Q Q' hq) hz h
      | false => exact hq _ _ h
    · exact h.elim) hz) hz
end
end
end Rf

set_option Elab.async false
set_option linter.all false
set_option maxRecDepth 100000
set_option maxHeartbeats 4000000
/-! Rf5: chains, subscripts, slices, calls of what is built in. -/
namespace Rf
open PySem PySem.Spec PyProof.Rows L2
section
variable {G : Gx} {W : WX} {X : Cx} {a b c : Expr} {wa wb wc : WE}
theorem tE_chain {o o' : O2} {r r' : R2} (mo : Mono2 o) (ri : R2I G r o) (ri' : R2I G r' o') (ha : Mono wa) (hb : Mono wb) (hc : Mono wc) {σ : L2.St} {H : Hp} {Q : VK} (h : tE G W (wChain o o' wa wb wc) σ H Q) :
    tChain r r' (tE G W wa) (tE G W wb) (tE G W wc) σ H Q := by
  obtain ⟨ρ, M, Z, re, rm, xf, h⟩ := h
  refine tE_bind ha re rm xf h fun x dx H1 M1 k1 r1 d1 h1 => ?_
  refine tE_bind hb (re.mono k1) r1 (xf.mono k1) h1 fun y dy H2 M2 k2 r2 d2 h2 => ?_
  refine ri x y dx dy H2 M2 _ _ r2 (d1.mono k2) d2 (fun v d H3 M3 k3 r3 d3 q => ?_) h2
  dsimp only at q
  split at q
  · rename_i k
    cases d3
    refine ⟨k, rfl, ?_⟩
    cases k with
    | false => exact q (.bl false) H3 ((k1.trans k2).trans k3) r3 (.bl _)
    | true =>
      refine tE_bind hc ((re.mono k1).mono (k2.trans k3)) r3 ((xf.mono k1).mono (k2.trans k3)) q fun u du H4 M4 k4 r4 d4 q4 => ?_
      exact ri' y u dy du H4 M4 _ Q r4 (d2.mono (k3.trans k4)) d4 (fit_id (((k1.trans k2).trans k3).trans k4)) q4
  · exact q.elim
theorem ev_chain {op op' : CmpOp} {o o' : O2} {pos : Pos} (ok : CmpOk G X op o) (ok' : CmpOk G X op' o') (ha : EV G W X a wa) (hb : EV G W X b wb) (hc : EV G W X c wc) (hm : lastMarks [op, op'] [b, c] = false) :
    EV G W X (.Compare a [op, op'] [b, c] pos) (wChain o o' wa wb wc) := by
  obtain ⟨r, ho, ri⟩ := ok.ex
  obtain ⟨r', ho', ri'⟩ := ok'.ex
  exact ⟨mono_wChain ok.mono ok'.mono ha.mono hb.mono hc.mono, PE.imp (pe_chain ho ho' ha.pe hb.pe hc.pe hm) fun _ _ _ => tE_chain ok.mono ri ri' ha.mono hb.mono hc.mono⟩
theorem tv_chain {op op' : CmpOp} {o o' : O2} {pos : Pos} (ok : CmpOk G X op o) (ok' : CmpOk G X op' o') (ha : EV G W X a wa) (hb : EV G W X b wb) (hc : EV G W X c wc) (hm : lastMarks [op, op'] [b, c] = false) :
    TV G W X (.Compare a [op, op'] [b, c] pos) (wAsT (wChain o o' wa wb wc)) := by
  obtain ⟨r, ho, ri⟩ := ok.ex
  obtain ⟨r', ho', ri'⟩ := ok'.ex
  exact tv_asT (mono_wChain ok.mono ok'.mono ha.mono hb.mono hc.mono) (pt_chain ho ho' ha.pe hb.pe hc.pe hm) fun σ H Q h => tE_chain ok.mono ri ri' ha.mono hb.mono hc.mono h
/-! ### subscripts -/
def oIx : O2 := fun x y M Q => match x, y with
  | .tup xs, .int i => match atI xs i with
    | some d => Q d M
    | none => False
  | .lst xs, .int i => match atI xs i with
    | some d => Q d M
    | none => False
  | .ref a, .int i => match M a with
    | some (.lst xs) => match atI xs i with
      | some d => Q d M
      | none => False
    | _ => False
  | .str z, .int i => z.length ≤ 16777216 ∧ match atI z.cps.toList i with
    | some c => Q (.str ⟨#[c]⟩) M
    | none => False
  | _, _ => False
theorem mono_oIx : Mono2 oIx := fun x y M Q Q' hq h => by
  unfold oIx at *
  split at h
  · split at h <;> first | exact hq _ _ h | exact h.elim
  · split at h <;> first | exact hq _ _ h | exact h.elim
  · split at h
    · split at h <;> first | exact hq _ _ h | exact h.elim
    · exact h.elim
  · refine ⟨h.1, ?_⟩
    have h2 := h.2
    split at h2 <;> first | exact hq _ _ h2 | exact h2.elim
  · exact h.elim
theorem atI_get {α : Type} {xs : List α} {i : Int} {d : α} (h : atI xs i = some d) : ∃ j, ixN xs.length i = some j ∧ xs[j]? = some d := by
  unfold atI at h
  cases e : ixN xs.length i with
  | none => rw [e] at h; cases h
  | some j => rw [e] at h; exact ⟨j, rfl, h⟩
theorem Dens.at {H : Hp} {M : Mem} {vs : List V} {ds : List D} {i : Int} {d : D} (r : Dens G H M vs ds) (h : atI ds i = some d) : ∃ v, atI vs i = some v ∧ Den G H M v d := by
  obtain ⟨j, h1, h2⟩ := atI_get h
  obtain ⟨v, h3, h4⟩ := r.get h2
  exact ⟨v, by unfold atI; rw [r.length, h1]; exact h3, h4⟩
theorem ri_ix : R2I G (rIx G.K) oIx := by
  intro x y dx dy H M Qd Q rm hx hy f h
  unfold oIx at h
  split at h
  · cases hy
    split at h
    · rename_i d e
      obtain ⟨p, rfl⟩ : ∃ p, x = .ref p := by cases hx <;> exact ⟨_, rfl⟩
      obtain ⟨vs, s1, d1⟩ := sqT_of hx
      obtain ⟨v, h3, h4⟩ := d1.at e
      exact .inr (.inl ⟨p, vs, _, v, rfl, rfl, s1, h3, f.imm rm h4 h⟩)
    · exact h.elim
  · cases hy
    split at h
    · rename_i d e
      obtain ⟨p, rfl⟩ : ∃ p, x = .ref p := by cases hx <;> exact ⟨_, rfl⟩
      obtain ⟨vs, s1, d1⟩ := sqL_of hx
      obtain ⟨v, h3, h4⟩ := d1.at e
      exact .inl ⟨p, vs, _, v, rfl, rfl, s1, h3, f.imm rm h4 h⟩
    · exact h.elim
  · cases hx; cases hy
    split at h
    · rename_i xs e
      split at h
      · rename_i d e2
        obtain ⟨vs, e1, d1⟩ := rm _ _ e
        obtain ⟨v, h3, h4⟩ := d1.at e2
        exact .inl ⟨_, vs, _, v, rfl, rfl, SqL.of e1, h3, f.imm rm h4 h⟩
      · exact h.elim
    · exact h.elim
  · cases hx; cases hy
    obtain ⟨hl, h⟩ := h
    split at h
    · rename_i c e
      exact .inr (.inr ⟨_, _, c, rfl, rfl, len_line hl, e, f.imm rm (.str _) h⟩)
    · exact h.elim
  · exact h.elim
def plainIx : Expr → Bool
  | .Slice .. => false
  | _ => true
theorem plainIx_ok {e : Expr} (h : plainIx e = true) : L2.PlainIx e := fun o i => by
  cases e <;> first | rfl | exact absurd h (by intro q; cases q)
theorem ev_ix (hK : G.K = X.K) {pos : Pos} (ha : EV G W X a wa) (hb : EV G W X b wb) (hp : plainIx b = true) : EV G W X (.Subscript a b pos) (w2 oIx wa wb) :=
  ⟨mono_w2 mono_oIx ha.mono hb.mono, PE.imp (pe_ix ix_seq ha.pe hb.pe (plainIx_ok hp)) fun σ H Q h => by rw [← hK]; exact tE_w2 ri_ix ha.mono hb.mono h⟩
/-! ### slices -/
def cutD {α : Type} (xs : List α) (lo hi : Option Int) : List α := (xs.drop (HT.sIx xs.length 0 lo)).take (HT.sIx xs.length xs.length hi - HT.sIx xs.length 0 lo)
theorem Dens.cut {H : Hp} {M : Mem} {vs : List V} {ds : List D} (r : Dens G H M vs ds) (lo hi : Option Int) : Dens G H M (cutV vs lo hi) (cutD ds lo hi) := by
  unfold cutV cutD
  rw [r.length]
  exact (r.drop _).take _
abbrev O3 := D → Option Int → Option Int → Mem → QV → Prop
def oSl : O3 := fun x lo hi M Q => match x with
  | .tup xs => Q (.tup (cutD xs lo hi)) M
  | .lst xs => Q (.lst (cutD xs lo hi)) M
  | .scr xs => Q (.lst (cutD xs lo hi)) M
  | .ref a => match M a with
    | some (.lst xs) => Q (.lst (cutD xs lo hi)) M
    | _ => False
  | .str z => z.length ≤ 16777216 ∧ Q (.str (cutS z lo hi)) M
  | _ => False
def rSlG (K : PySem.W.Frag) : V → Option Int → Option Int → Hp → VK → Prop := fun x lo hi H Q => rSlA K x lo hi H Q ∨ rSlL K x lo hi H Q ∨ ∃ z, x = .str z ∧ z.length ≤ sizeLine ∧ Q (.str (cutS z lo hi)) H
theorem sl_G {X : Cx} : SlR X (rSlG X.K) := sl_tupA.or (sl_list.or sl_str)
theorem cutD_whole {α : Type} {xs : List α} {lo hi : Option Int} (h : HT.sIx xs.length 0 lo = 0 ∧ HT.sIx xs.length xs.length hi = xs.length) : cutD xs lo hi = xs := by
  unfold cutD
  rw [h.1, h.2, List.drop_zero, Nat.sub_zero, List.take_length]
theorem ri_sl {x : V} {d : D} {lo hi : Option Int} {H : Hp} {M : Mem} {Qd : QV} {Q : VK} (rm : RelM G H M) (hx : Den G H M x d) (f : Fit G H M Qd Q) (h : oSl d lo hi M Qd) : rSlG G.K x lo hi H Q := by
  unfold oSl at h
  split at h
  · obtain ⟨p, rfl⟩ : ∃ p, x = .ref p := by cases hx <;> exact ⟨_, rfl⟩
    obtain ⟨vs, s1, d1⟩ := sqT_of hx
    refine .inl ⟨p, vs, rfl, s1, fun e => ?_, fun _ => f.tup rm (d1.cut lo hi) h⟩
    rw [d1.length] at e
    rw [cutD_whole e] at h
    exact f.imm rm hx h
  · obtain ⟨p, rfl⟩ : ∃ p, x = .ref p := by cases hx <;> exact ⟨_, rfl⟩
    obtain ⟨vs, s1, d1⟩ := sqL_of hx
    exact .inr (.inl ⟨p, vs, rfl, s1, f.lst rm (d1.cut lo hi) h⟩)
  · obtain ⟨p, rfl⟩ : ∃ p, x = .ref p := by cases hx <;> exact ⟨_, rfl⟩
    obtain ⟨vs, s1, d1⟩ := sqS_of hx
    exact .inr (.inl ⟨p, vs, rfl, s1, f.lst rm (d1.cut lo hi) h⟩)
  · cases hx
    split at h
    · rename_i xs e
      obtain ⟨vs, e1, d1⟩ := rm _ _ e
      exact .inr (.inl ⟨_, vs, rfl, SqL.of e1, f.lst rm (d1.cut lo hi) h⟩)
    · exact h.elim
  · cases hx
    exact .inr (.inr ⟨_, rfl, len_line h.1, f.imm rm (.str _) h.2⟩)
  · exact h.elim
/-- a slice's part -/
abbrev WO := Env' → Mem → (Option Int → Mem → Prop) → QX → Prop
def tO (G : Gx) (W : WX) (w : WO) : TO := fun σ H Q => ∃ ρ M Z, RelE G H M σ ρ ∧ RelM G H M ∧ XFit G W σ H M Z ∧
  w ρ M (fun o M' => ∀ H', Keep H M H' M' → RelM G H' M' → Q o H') Z
structure OV (G : Gx) (W : WX) (X : Cx) (e : Option Expr) (w : WO) : Prop where
  mono : Mono w
  po : PO X e (tO G W w)
def wNoPart : WO := fun _ M Q _ => Q none M
def wPart (w : WE) : WO := fun ρ M Q Z => w ρ M (fun x M1 => match x with | .int i => Q (some i) M1 | _ => False) Z
theorem mono_wNoPart : Mono wNoPart := fun _ M _ _ _ _ hq _ h => hq _ _ h
theorem mono_wPart {w : WE} (hw : Mono w) : Mono (wPart w) := fun ρ M Q Q' Z Z' hq hz => hw ρ M _ _ Z Z' (fun x M1 h => by split at h <;> first | exact hq _ _ h | exact h.elim) hz
theorem ov_none : OV G W X none wNoPart := ⟨mono_wNoPart, ⟨fun pins s σ H Q I h => po_none.run pins s σ H Q I (by
  obtain ⟨ρ, M, Z, re, rm, xf, h⟩ := h
  exact h H Keep.refl rm)⟩⟩
theorem ov_some (ha : EV G W X a wa) : OV G W X (some a) (wPart wa) := ⟨mono_wPart ha.mono, ⟨fun pins s σ H Q I h => (po_some ha.pe).run pins s σ H Q I (by
  obtain ⟨ρ, M, Z, re, rm, xf, h⟩ := h
  refine tE_bind ha.mono re rm xf h fun x dx H1 M1 k1 r1 d1 h1 => ?_
  dsimp only at h1
  split at h1
  · cases d1; exact ⟨_, rfl, h1 H1 k1 r1⟩
  · exact h1.elim)⟩⟩
theorem tO_bind {w : WO} {k : Option Int → Mem → Prop} {R : Option Int → Hp → Prop} {σ : L2.St} {H : Hp} {M : Mem} {ρ : Env'} {Z : QX} (m : Mono w) (re : RelE G H M σ ρ) (rm : RelM G H M) (xf : XFit G W σ H M Z) (h : w ρ M k Z)
    (hk : ∀ b H1 M1, Keep H M H1 M1 → RelM G H1 M1 → k b M1 → R b H1) : tO G W w σ H R :=
  ⟨ρ, M, Z, re, rm, xf, m ρ M _ _ Z Z (fun b M1 q H1 k1 r1 => hk b H1 M1 k1 r1 q) (fun _ _ _ z => z) h⟩
def wSl (wa : WE) (wl wh : WO) : WE := fun ρ M Q Z => wa ρ M (fun x M1 => wl ρ M1 (fun l M2 => wh ρ M2 (fun u M3 => oSl x l u M3 Q) Z) Z) Z
theorem mono_oSl {x : D} {lo hi : Option Int} {M : Mem} {Q Q' : QV} (hq : ∀ d M', Q d M' → Q' d M') (h : oSl x lo hi M Q) : oSl x lo hi M Q' := by
  unfold oSl at *
  split at h <;> first | exact hq _ _ h | exact ⟨h.1, hq _ _ h.2⟩ | skip
  · split at h <;> first | exact hq _ _ h | exact h.elim
  · exact h.elim
theorem mono_wSl {wl wh : WO} (ha : Mono wa) (hl : Mono wl) (hh : Mono wh) : Mono (wSl wa wl wh) := fun ρ M Q Q' Z Z' hq hz =>
  ha ρ M _ _ Z Z' (fun x M1 => hl ρ M1 _ _ Z Z' (fun l M2 => hh ρ M2 _ _ Z Z' (fun u M3 => mono_oSl hq) hz) hz) hz
theorem ev_slice (hK : G.K = X.K) {lo hi : Option Expr} {wl wh : WO} {p2 pos : Pos} (ha : EV G W X a wa) (hl : OV G W X lo wl) (hh : OV G W X hi wh) : EV G W X (.Subscript a (.Slice lo hi none p2) pos) (wSl wa wl wh) :=
  ⟨mono_wSl ha.mono hl.mono hh.mono, PE.imp (pe_slice sl_G ha.pe hl.po hh.po) fun σ H Q h => by
    obtain ⟨ρ, M, Z, re, rm, xf, h⟩ := h
    refine tE_bind ha.mono re rm xf h fun x dx H1 M1 k1 r1 d1 h1 => ?_
    refine tO_bind hl.mono (re.mono k1) r1 (xf.mono k1) h1 fun l H2 M2 k2 r2 h2 => ?_
    refine tO_bind hh.mono ((re.mono k1).mono k2) r2 ((xf.mono k1).mono k2) h2 fun u H3 M3 k3 r3 h3 => ?_
    rw [← hK]
    exact ri_sl r3 (d1.mono (k2.trans k3)) (fit_id ((k1.trans k2).trans k3)) h3⟩
end
/-! ### what is built in, called with values -/
def intsOf : List D → Option (List Int)
  | [] => some []
  | .int i :: r => (intsOf r).map (i :: ·)
  | _ :: _ => none
def bolsOf : List D → Option (List Bool)
  | [] => some []
  | .bl i :: r => (bolsOf r).map (i :: ·)
  | _ :: _ => none
theorem intsOf_map : ∀ ns : List Int, intsOf (ns.map D.int) = some ns
  | [] => rfl
  | n :: ns => by rw [List.map_cons, intsOf, intsOf_map ns]; rfl
theorem bolsOf_map : ∀ ns : List Bool, bolsOf (ns.map D.bl) = some ns
  | [] => rfl
  | n :: ns => by rw [List.map_cons, bolsOf, bolsOf_map ns]; rfl
theorem intsOf_eq : ∀ {ds : List D} {ns : List Int}, intsOf ds = some ns → ds = ns.map D.int
  | [], _, h => by cases h; rfl
  | d :: r, ns, h => by
    cases d <;> first | (simp [intsOf] at h; done) | skip
    rename_i i
    rw [intsOf] at h
    cases e : intsOf r with
    | none => rw [e] at h; cases h
    | some m => rw [e] at h; cases h; rw [intsOf_eq e]; rfl
theorem bolsOf_eq : ∀ {ds : List D} {ns : List Bool}, bolsOf ds = some ns → ds = ns.map D.bl
  | [], _, h => by cases h; rfl
  | d :: r, ns, h => by
    cases d <;> first | (simp [bolsOf] at h; done) | skip
    rename_i i
    rw [bolsOf] at h
    cases e : bolsOf r with
    | none => rw [e] at h; cases h
    | some m => rw [e] at h; cases h; rw [bolsOf_eq e]; rfl
section
variable {G : Gx}
theorem Dens.ints {H : Hp} {M : Mem} : ∀ {vs : List V} {ns : List Int}, Dens G H M vs (ns.map D.int) → vs = ns.map V.int
  | [], [], _ => rfl
  | _, n :: ns, h => by
    rw [List.map_cons] at h
    cases h with
    | cons h1 h2 => cases h1; rw [List.map_cons, h2.ints]
theorem Dens.bls {H : Hp} {M : Mem} : ∀ {vs : List V} {ns : List Bool}, Dens G H M vs (ns.map D.bl) → vs = ns.map V.bl
  | [], [], _ => rfl
  | _, n :: ns, h => by
    rw [List.map_cons] at h
    cases h with
    | cons h1 h2 => cases h1; rw [List.map_cons, h2.bls]
/-- the items of a list of whichever kind -/
def lstOf (x : D) (M : Mem) : Option (List D) := match x with
  | .lst xs => some xs
  | .ref a => match M a with
    | some (.lst xs) => some xs
    | _ => none
  | _ => none
theorem lstOf_ok {x : V} {d : D} {H : Hp} {M : Mem} {xs : List D} (rm : RelM G H M) (hx : Den G H M x d) (h : lstOf d M = some xs) : ∃ p vs, x = .ref p ∧ SqL G.K H p vs ∧ Dens G H M vs xs := by
  unfold lstOf at h
  split at h
  · cases h
    obtain ⟨p, rfl⟩ : ∃ p, x = .ref p := by cases hx <;> exact ⟨_, rfl⟩
    obtain ⟨vs, s1, d1⟩ := sqL_of hx
    exact ⟨p, vs, rfl, s1, d1⟩
  · split at h
    · rename_i e
      cases h; cases hx
      obtain ⟨vs, e1, d1⟩ := rm _ _ e
      exact ⟨_, vs, rfl, SqL.of e1, d1⟩
    · cases h
  · cases h
def maxL : List Int → Int
  | [] => 0
  | a :: r => r.foldl (fun m x => if x > m then x else m) a
def minL : List Int → Int
  | [] => 0
  | a :: r => r.foldl (fun m x => if x < m then x else m) a
theorem foldl_max (r : List Int) : ∀ a, (r.foldl (fun m x => if x > m then x else m) a = a ∨ r.foldl (fun m x => if x > m then x else m) a ∈ r) ∧ a ≤ r.foldl (fun m x => if x > m then x else m) a ∧ ∀ y ∈ r, y ≤ r.foldl (fun m x => if x > m then x else m) a := by
  induction r with
  | nil => intro a; simp
  | cons x r ih =>
    intro a
    rw [List.foldl_cons]
    obtain ⟨h1, h2, h3⟩ := ih (if x > a then x else a)
    have h4 : a ≤ (if x > a then x else a) ∧ x ≤ (if x > a then x else a) := by split <;> omega
    refine ⟨?_, by omega, fun y hy => ?_⟩
    · rcases h1 with h1 | h1
      · rw [h1]
        split
        · exact .inr List.mem_cons_self
        · exact .inl rfl
      · exact .inr (List.mem_cons_of_mem _ h1)
    · rcases List.mem_cons.mp hy with rfl | hy
      · omega
      · exact h3 y hy
theorem foldl_min (r : List Int) : ∀ a, (r.foldl (fun m x => if x < m then x else m) a = a ∨ r.foldl (fun m x => if x < m then x else m) a ∈ r) ∧ r.foldl (fun m x => if x < m then x else m) a ≤ a ∧ ∀ y ∈ r, r.foldl (fun m x => if x < m then x else m) a ≤ y := by
  induction r with
  | nil => intro a; simp
  | cons x r ih =>
    intro a
    rw [List.foldl_cons]
    obtain ⟨h1, h2, h3⟩ := ih (if x < a then x else a)
    have h4 : (if x < a then x else a) ≤ a ∧ (if x < a then x else a) ≤ x := by split <;> omega
    refine ⟨?_, by omega, fun y hy => ?_⟩
    · rcases h1 with h1 | h1
      · rw [h1]
        split
        · exact .inr List.mem_cons_self
        · exact .inl rfl
      · exact .inr (List.mem_cons_of_mem _ h1)
    · rcases List.mem_cons.mp hy with rfl | hy
      · omega
      · exact h3 y hy
theorem maxL_spec {ns : List Int} (h : ns ≠ []) : maxL ns ∈ ns ∧ ∀ y ∈ ns, y ≤ maxL ns := by
  cases ns with
  | nil => exact absurd rfl h
  | cons a r =>
    obtain ⟨h1, h2, h3⟩ := foldl_max r a
    refine ⟨?_, fun y hy => ?_⟩
    · rcases h1 with h1 | h1
      · show r.foldl _ a ∈ _; rw [h1]; exact List.mem_cons_self
      · exact List.mem_cons_of_mem _ h1
    · rcases List.mem_cons.mp hy with rfl | hy
      · exact h2
      · exact h3 y hy
theorem minL_spec {ns : List Int} (h : ns ≠ []) : minL ns ∈ ns ∧ ∀ y ∈ ns, minL ns ≤ y := by
  cases ns with
  | nil => exact absurd rfl h
  | cons a r =>
    obtain ⟨h1, h2, h3⟩ := foldl_min r a
    refine ⟨?_, fun y hy => ?_⟩
    · rcases h1 with h1 | h1
      · show r.foldl _ a ∈ _; rw [h1]; exact List.mem_cons_self
      · exact List.mem_cons_of_mem _ h1
    · rcases List.mem_cons.mp hy with rfl | hy
      · exact h2
      · exact h3 y hy
end
end Rf

set_option Elab.async false
set_option linter.all false
set_option maxRecDepth 100000
set_option maxHeartbeats 4000000
/-! Rf6: the rules of what is built in; own defs called. -/
namespace Rf
open PySem PySem.Spec PyProof.Rows L2
/-- a built-in function or type by name, with its rule over plain data -/
structure BOk (G : Gx) (X : Cx) (x : Str) (o : ON) : Prop where
  ex : ∃ r : List V → Hp → VK → Prop, ((∃ id, CallR X (.builtin id) r ∧ bootBuiltins x = some (.builtin id)) ∨ ∃ T, CallR X (.type T) r ∧ bootBuiltins x = some (.type T)) ∧ RNI G r o
  mono : MonoN o
section
variable {G : Gx} {W : WX} {X : Cx} {e : Expr} {es : List Expr} {ws : WA} {x : Str} {p pos : Pos} {o : ON}
theorem ev_bi (B : BOk G X x o) (hg : Gl X x) (hm : X.mg x = none) (ha : AV G W X (e :: es) ws) (hs : starred e = false) (hss : noStars es = true) (hn : x ≠ "__name__") (hd : (x == ("__debug__" : Str)) = false) :
    EV G W X (.Call (.Name x p) (e :: es) [] pos) (wN o ws) := by
  obtain ⟨r, hr, ri⟩ := B.ex
  refine ⟨mono_wN B.mono ha.mono, ?_⟩
  rcases hr with ⟨id, hc, hv⟩ | ⟨T, hc, hv⟩
  · exact PE.imp (pe_callB hc hg hm hv ha.pa hn hd (star_cons hs) (stars_none hss)) fun _ _ _ => tE_wN ri ha.mono
  · exact PE.imp (pe_callTy hc hg hm hv ha.pa hn hd (star_cons hs) (stars_none hss)) fun _ _ _ => tE_wN ri ha.mono
end
section
variable {G : Gx} {X : Cx}
/-! len -/
def lenD (x : D) (M : Mem) : Option Nat := match x with
  | .str z => if z.length ≤ 16777216 then some z.length else none
  | .tup xs => some xs.length
  | .lst xs => some xs.length
  | .scr xs => some xs.length
  | .ref a => match M a with
    | some (.lst xs) => some xs.length
    | _ => none
  | _ => none
def oLen : ON := fun xs M Q => match xs with
  | [x] => match lenD x M with
    | some n => Q (.int (n : Int)) M
    | none => False
  | _ => False
theorem mono_oLen : MonoN oLen := fun xs M Q Q' hq h => by
  unfold oLen at *
  split at h
  · split at h <;> first | exact hq _ _ h | exact h.elim
  · exact h.elim
theorem dens1 {H : Hp} {M : Mem} {vs : List V} {d : D} (h : Dens G H M vs [d]) : ∃ v, vs = [v] ∧ Den G H M v d := by
  cases h with
  | cons h1 h2 => cases h2; exact ⟨_, rfl, h1⟩
theorem dens2 {H : Hp} {M : Mem} {vs : List V} {d e : D} (h : Dens G H M vs [d, e]) : ∃ v w, vs = [v, w] ∧ Den G H M v d ∧ Den G H M w e := by
  cases h with
  | cons h1 h2 =>
    obtain ⟨w, rfl, h3⟩ := dens1 h2
    exact ⟨_, _, rfl, h1, h3⟩
theorem lenD_ok {x : V} {d : D} {H : Hp} {M : Mem} {n : Nat} (rm : RelM G H M) (hx : Den G H M x d) (h : lenD d M = some n) : LenV G.K x H n := by
  unfold lenD at h
  split at h
  · cases hx
    split at h
    · rename_i hl; cases h; exact ⟨len_line hl, rfl⟩
    · cases h
  · cases h
    obtain ⟨p, rfl⟩ : ∃ p, x = .ref p := by cases hx <;> exact ⟨_, rfl⟩
    obtain ⟨vs, s1, d1⟩ := sqT_of hx
    exact .inr ⟨vs, s1, d1.length.symm⟩
  · cases h
    obtain ⟨p, rfl⟩ : ∃ p, x = .ref p := by cases hx <;> exact ⟨_, rfl⟩
    obtain ⟨vs, s1, d1⟩ := sqL_of hx
    exact .inl ⟨vs, s1, d1.length.symm⟩
  · cases h
    obtain ⟨p, rfl⟩ : ∃ p, x = .ref p := by cases hx <;> exact ⟨_, rfl⟩
    obtain ⟨vs, s1, d1⟩ := sqS_of hx
    exact .inl ⟨vs, s1, d1.length.symm⟩
  · cases hx
    split at h
    · rename_i e
      cases h
      obtain ⟨vs, e1, d1⟩ := rm _ _ e
      exact .inl ⟨vs, SqL.of e1, d1.length.symm⟩
    · cases h
  · cases h
theorem b_len (hK : G.K = X.K) : BOk G X "len" oLen := ⟨⟨_, .inl ⟨"len", call_len, boot_len⟩, fun xs ds H M Qd Q rm hx f h => by
  unfold oLen at h
  split at h
  · obtain ⟨v, rfl, hv⟩ := dens1 hx
    split at h
    · rename_i n e
      exact ⟨v, n, rfl, by rw [← hK]; exact lenD_ok rm hv e, f.imm rm (.int _) h⟩
    · exact h.elim
  · exact h.elim⟩, mono_oLen⟩
/-! abs, int -/
def oAbs : ON := fun xs M Q => match xs with
  | [.int i] => Q (.int (i.natAbs : Int)) M
  | _ => False
def oInt : ON := fun xs M Q => match xs with
  | [.int i] => Q (.int i) M
  | [.bl k] => Q (.int (if k then 1 else 0)) M
  | [.str x] => ∃ n, PySem.intText? x = some n ∧ x.length ≤ 640 ∧ Q (.int n) M
  | _ => False
theorem mono_oAbs : MonoN oAbs := fun xs M Q Q' hq h => by unfold oAbs at *; split at h <;> first | exact hq _ _ h | exact h.elim
theorem mono_oInt : MonoN oInt := fun xs M Q Q' hq h => by
  unfold oInt at *; split at h <;> first | exact hq _ _ h | (obtain ⟨n, h1, h2, h3⟩ := h; exact ⟨n, h1, h2, hq _ _ h3⟩) | exact h.elim
theorem b_abs : BOk G X "abs" oAbs := ⟨⟨_, .inl ⟨"abs", call_abs, boot_abs⟩, fun xs ds H M Qd Q rm hx f h => by
  unfold oAbs at h
  split at h
  · rename_i i
    obtain ⟨v, rfl, hv⟩ := dens1 hx
    cases hv
    refine ⟨_, rfl, f.imm rm (.int _) ?_⟩
    rw [show (if i < 0 then -i else i) = (i.natAbs : Int) by omega]
    exact h
  · exact h.elim⟩, mono_oAbs⟩
theorem b_int : BOk G X "int" oInt := ⟨⟨_, .inr ⟨"int", call_int1.or call_int_str, PyProof.Rows.boot_int⟩, fun xs ds H M Qd Q rm hx f h => by
  unfold oInt at h
  split at h
  · obtain ⟨v, rfl, hv⟩ := dens1 hx
    cases hv
    exact .inl (.inl ⟨_, rfl, f.imm rm (.int _) h⟩)
  · obtain ⟨v, rfl, hv⟩ := dens1 hx
    cases hv
    exact .inl (.inr ⟨_, rfl, f.imm rm (.int _) h⟩)
  · obtain ⟨v, rfl, hv⟩ := dens1 hx
    cases hv
    obtain ⟨n, h1, h2, h3⟩ := h
    exact .inr ⟨_, n, rfl, h1, h2, f.imm rm (.int _) h3⟩
  · exact h.elim⟩, mono_oInt⟩
/-! max, min, sum, all, any -/
def max2 (a b : Int) : Int := if b > a then b else a
def min2 (a b : Int) : Int := if b < a then b else a
def oMax : ON := fun xs M Q => match xs with
  | [.int a, .int b] => Q (.int (max2 a b)) M
  | [x] => match lstOf x M with
    | some ds => match intsOf ds with
      | some (n :: ns) => Q (.int (maxL (n :: ns))) M
      | _ => False
    | none => False
  | _ => False
def oMin : ON := fun xs M Q => match xs with
  | [.int a, .int b] => Q (.int (min2 a b)) M
  | [x] => match lstOf x M with
    | some ds => match intsOf ds with
      | some (n :: ns) => Q (.int (minL (n :: ns))) M
      | _ => False
    | none => False
  | _ => False
def oSum : ON := fun xs M Q => match xs with
  | [x] => match lstOf x M with
    | some ds => match intsOf ds with
      | some ns => Q (.int ns.sum) M
      | _ => False
    | none => False
  | _ => False
def oAll : ON := fun xs M Q => match xs with
  | [x] => match lstOf x M with
    | some ds => match bolsOf ds with
      | some ns => Q (.bl (ns.all id)) M
      | _ => False
    | none => False
  | _ => False
def oAny : ON := fun xs M Q => match xs with
  | [x] => match lstOf x M with
    | some ds => match bolsOf ds with
      | some ns => Q (.bl (ns.any id)) M
      | _ => False
    | none => False
  | _ => False
theorem mono_oMax : MonoN oMax := fun xs M Q Q' hq h => by
  unfold oMax at *; repeat' split at h
  all_goals first | exact hq _ _ h | exact h.elim
theorem mono_oMin : MonoN oMin := fun xs M Q Q' hq h => by
  unfold oMin at *; repeat' split at h
  all_goals first | exact hq _ _ h | exact h.elim
theorem mono_oSum : MonoN oSum := fun xs M Q Q' hq h => by
  unfold oSum at *; repeat' split at h
  all_goals first | exact hq _ _ h | exact h.elim
theorem mono_oAll : MonoN oAll := fun xs M Q Q' hq h => by
  unfold oAll at *; repeat' split at h
  all_goals first | exact hq _ _ h | exact h.elim
theorem mono_oAny : MonoN oAny := fun xs M Q Q' hq h => by
  unfold oAny at *; repeat' split at h
  all_goals first | exact hq _ _ h | exact h.elim
theorem lst_ints {x : V} {d : D} {H : Hp} {M : Mem} {xs : List D} {ns : List Int} (rm : RelM G H M) (hx : Den G H M x d) (h : lstOf d M = some xs) (e : intsOf xs = some ns) : ∃ p, x = .ref p ∧ SqL G.K H p (ns.map V.int) := by
  obtain ⟨p, vs, rfl, s1, d1⟩ := lstOf_ok rm hx h
  rw [intsOf_eq e] at d1
  rw [d1.ints] at s1
  exact ⟨p, rfl, s1⟩
theorem lst_bols {x : V} {d : D} {H : Hp} {M : Mem} {xs : List D} {ns : List Bool} (rm : RelM G H M) (hx : Den G H M x d) (h : lstOf d M = some xs) (e : bolsOf xs = some ns) : ∃ p, x = .ref p ∧ SqL G.K H p (ns.map V.bl) := by
  obtain ⟨p, vs, rfl, s1, d1⟩ := lstOf_ok rm hx h
  rw [bolsOf_eq e] at d1
  rw [d1.bls] at s1
  exact ⟨p, rfl, s1⟩
theorem b_max (hK : G.K = X.K) (hc : X.calm = true) : BOk G X "max" oMax := ⟨⟨_, .inl ⟨"max", (cr_max hc).or (call_max2 hc), PyProof.Rows.boot_max⟩, fun xs ds H M Qd Q rm hx f h => by
  unfold oMax at h
  split at h
  · obtain ⟨v, w, rfl, hv, hw⟩ := dens2 hx
    cases hv; cases hw
    exact .inr ⟨_, _, rfl, f.imm rm (.int _) h⟩
  · obtain ⟨v, rfl, hv⟩ := dens1 hx
    split at h
    · rename_i e
      split at h
      · rename_i n ns e2
        obtain ⟨p, rfl, s1⟩ := lst_ints rm hv e e2
        obtain ⟨g1, g2⟩ := maxL_spec (ns := n :: ns) (by simp)
        refine .inl ⟨p, n :: ns, rfl, by rw [← hK]; exact s1, by simp, fun m h1 h2 => ?_⟩
        have : m = maxL (n :: ns) := by have a := h2 _ g1; have b := g2 _ h1; omega
        rw [this]
        exact f.imm rm (.int _) h
      · exact h.elim
    · exact h.elim
  · exact h.elim⟩, mono_oMax⟩
theorem b_min (hK : G.K = X.K) (hc : X.calm = true) : BOk G X "min" oMin := ⟨⟨_, .inl ⟨"min", (cr_min hc).or (call_min2 hc), PyProof.Rows.boot_min⟩, fun xs ds H M Qd Q rm hx f h => by
  unfold oMin at h
  split at h
  · obtain ⟨v, w, rfl, hv, hw⟩ := dens2 hx
    cases hv; cases hw
    exact .inr ⟨_, _, rfl, f.imm rm (.int _) h⟩
  · obtain ⟨v, rfl, hv⟩ := dens1 hx
    split at h
    · rename_i e
      split at h
      · rename_i n ns e2
        obtain ⟨p, rfl, s1⟩ := lst_ints rm hv e e2
        obtain ⟨g1, g2⟩ := minL_spec (ns := n :: ns) (by simp)
        refine .inl ⟨p, n :: ns, rfl, by rw [← hK]; exact s1, by simp, fun m h1 h2 => ?_⟩
        have : m = minL (n :: ns) := by have a := h2 _ g1; have b := g2 _ h1; omega
        rw [this]
        exact f.imm rm (.int _) h
      · exact h.elim
    · exact h.elim
  · exact h.elim⟩, mono_oMin⟩
theorem b_sum (hK : G.K = X.K) (hc : X.calm = true) : BOk G X "sum" oSum := ⟨⟨_, .inl ⟨"sum", cr_sum hc, PyProof.Rows.boot_sum⟩, fun xs ds H M Qd Q rm hx f h => by
  unfold oSum at h
  split at h
  · obtain ⟨v, rfl, hv⟩ := dens1 hx
    split at h
    · rename_i e
      split at h
      · rename_i ns e2
        obtain ⟨p, rfl, s1⟩ := lst_ints rm hv e e2
        exact ⟨p, ns, rfl, by rw [← hK]; exact s1, f.imm rm (.int _) h⟩
      · exact h.elim
    · exact h.elim
  · exact h.elim⟩, mono_oSum⟩
theorem b_all (hK : G.K = X.K) (hc : X.calm = true) : BOk G X "all" oAll := ⟨⟨_, .inl ⟨"all", cr_all hc, PyProof.Rows.boot_all⟩, fun xs ds H M Qd Q rm hx f h => by
  unfold oAll at h
  split at h
  · obtain ⟨v, rfl, hv⟩ := dens1 hx
    split at h
    · rename_i e
      split at h
      · rename_i ns e2
        obtain ⟨p, rfl, s1⟩ := lst_bols rm hv e e2
        exact ⟨p, ns, rfl, by rw [← hK]; exact s1, f.imm rm (.bl _) h⟩
      · exact h.elim
    · exact h.elim
  · exact h.elim⟩, mono_oAll⟩
theorem b_any (hK : G.K = X.K) (hc : X.calm = true) : BOk G X "any" oAny := ⟨⟨_, .inl ⟨"any", cr_any hc, PyProof.Rows.boot_any⟩, fun xs ds H M Qd Q rm hx f h => by
  unfold oAny at h
  split at h
  · obtain ⟨v, rfl, hv⟩ := dens1 hx
    split at h
    · rename_i e
      split at h
      · rename_i ns e2
        obtain ⟨p, rfl, s1⟩ := lst_bols rm hv e e2
        exact ⟨p, ns, rfl, by rw [← hK]; exact s1, f.imm rm (.bl _) h⟩
      · exact h.elim
    · exact h.elim
  · exact h.elim⟩, mono_oAny⟩
/-! tuple, list -/
def oTuple : ON := fun xs M Q => match xs with
  | [.tup ds] => Q (.tup ds) M
  | [x] => match lstOf x M with
    | some ds => Q (.tup ds) M
    | none => False
  | _ => False
def oList : ON := fun xs M Q => match xs with
  | [.tup ds] => Q (.lst ds) M
  | [x] => match lstOf x M with
    | some ds => Q (.lst ds) M
    | none => False
  | _ => False
def oListM : ON := fun xs M Q => match xs with
  | [.tup ds] => ∀ p, M p = none → Q (.ref p) (mupd M p (.lst ds))
  | [x] => match lstOf x M with
    | some ds => ∀ p, M p = none → Q (.ref p) (mupd M p (.lst ds))
    | none => False
  | _ => False
theorem mono_oTuple : MonoN oTuple := fun xs M Q Q' hq h => by
  unfold oTuple at *; repeat' split at h
  all_goals first | exact hq _ _ h | exact h.elim
theorem mono_oList : MonoN oList := fun xs M Q Q' hq h => by
  unfold oList at *; repeat' split at h
  all_goals first | exact hq _ _ h | exact h.elim
theorem mono_oListM : MonoN oListM := fun xs M Q Q' hq h => by
  unfold oListM at *; repeat' split at h
  all_goals first | exact fun p hp => hq _ _ (h p hp) | exact h.elim
theorem b_tuple (hK : G.K = X.K) : BOk G X "tuple" oTuple := ⟨⟨_, .inr ⟨"tuple", call_tuple_of, PyProof.Rows.boot_tuple⟩, fun xs ds H M Qd Q rm hx f h => by
  unfold oTuple at h
  split at h
  · obtain ⟨v, rfl, hv⟩ := dens1 hx
    obtain ⟨p, rfl⟩ : ∃ p, v = .ref p := by cases hv <;> exact ⟨_, rfl⟩
    obtain ⟨vs, s1, d1⟩ := sqT_of hv
    exact ⟨p, vs, rfl, .inr ⟨by rw [← hK]; exact s1, f.imm rm hv h⟩⟩
  · obtain ⟨v, rfl, hv⟩ := dens1 hx
    split at h
    · rename_i e
      obtain ⟨p, vs, rfl, s1, d1⟩ := lstOf_ok rm hv e
      exact ⟨p, vs, rfl, .inl ⟨by rw [← hK]; exact s1, f.tup rm d1 h⟩⟩
    · exact h.elim
  · exact h.elim⟩, mono_oTuple⟩
theorem b_list (hK : G.K = X.K) : BOk G X "list" oList := ⟨⟨_, .inr ⟨"list", call_list_of, PyProof.Rows.boot_list⟩, fun xs ds H M Qd Q rm hx f h => by
  unfold oList at h
  split at h
  · obtain ⟨v, rfl, hv⟩ := dens1 hx
    obtain ⟨p, rfl⟩ : ∃ p, v = .ref p := by cases hv <;> exact ⟨_, rfl⟩
    obtain ⟨vs, s1, d1⟩ := sqT_of hv
    exact ⟨p, vs, rfl, .inr (by rw [← hK]; exact s1), f.lst rm d1 h⟩
  · obtain ⟨v, rfl, hv⟩ := dens1 hx
    split at h
    · rename_i e
      obtain ⟨p, vs, rfl, s1, d1⟩ := lstOf_ok rm hv e
      exact ⟨p, vs, rfl, .inl (by rw [← hK]; exact s1), f.lst rm d1 h⟩
    · exact h.elim
  · exact h.elim⟩, mono_oList⟩
theorem b_listM (hK : G.K = X.K) : BOk G X "list" oListM := ⟨⟨_, .inr ⟨"list", call_list_of, PyProof.Rows.boot_list⟩, fun xs ds H M Qd Q rm hx f h => by
  unfold oListM at h
  split at h
  · obtain ⟨v, rfl, hv⟩ := dens1 hx
    obtain ⟨p, rfl⟩ : ∃ p, v = .ref p := by cases hv <;> exact ⟨_, rfl⟩
    obtain ⟨vs, s1, d1⟩ := sqT_of hv
    exact ⟨p, vs, rfl, .inr (by rw [← hK]; exact s1), f.lstM rm d1 h⟩
  · obtain ⟨v, rfl, hv⟩ := dens1 hx
    split at h
    · rename_i e
      obtain ⟨p, vs, rfl, s1, d1⟩ := lstOf_ok rm hv e
      exact ⟨p, vs, rfl, .inl (by rw [← hK]; exact s1), f.lstM rm d1 h⟩
    · exact h.elim
  · exact h.elim⟩, mono_oListM⟩
/-! repr -/
def D.shw (d : D) : Prop := d.ok = true ∧ d.py.showable = true ∧ d.py.shown.length ≤ 16777216
def oRepr : ON := fun xs M Q => match xs with
  | [x] => x.shw ∧ Q (.str x.py.shown) M
  | _ => False
theorem mono_oRepr : MonoN oRepr := fun xs M Q Q' hq h => by
  unfold oRepr at *; split at h <;> first | exact ⟨h.1, hq _ _ h.2⟩ | exact h.elim
def rRepr (K : PySem.W.Frag) : List V → Hp → VK → Prop := fun xs H Q => ∃ x d, xs = [x] ∧ Dp K H x d ∧ SeqAt.shaped d = true ∧ d.showable = true ∧ d.shown.length ≤ sizeLine ∧ Q (.str d.shown) H
theorem call_repr (hg : X.A.guards = some []) (hu : X.A.units + 66 < cLine) : CallR X (.builtin "repr") (rRepr X.K) := by
  intro pins s σ H xs us Q I r h
  obtain ⟨x, d, rfl, hd, sd, hs, hz, q⟩ := h
  obtain ⟨u, rfl, rx⟩ := vals1 r
  have sd' : d.canLay0 = true ∧ d.depth ≤ 64 := by
    unfold SeqAt.shaped at sd
    rw [Bool.and_eq_true] at sd
    exact ⟨sd.1, of_decide_eq_true sd.2⟩
  cases hd with
  | non => cases rx; exact PySem.P.repr_of_none ⟨.str _, H, I.tok _, ⟨_, rfl⟩, q⟩
  | bl b => cases rx; exact PySem.P.repr_of_bool ⟨.str _, H, I.tok _, ⟨_, rfl⟩, q⟩
  | int i =>
    obtain ⟨t, rfl⟩ := rx
    exact PySem.P.repr_of_int (by simpa [PyData.showable] using hs) ⟨.str _, H, I.tok _, ⟨_, rfl⟩, q⟩
  | str y =>
    obtain ⟨t, rfl⟩ := rx
    exact PySem.P.repr_of_str ⟨.str _, H, I.tok _, ⟨_, rfl⟩, q⟩ hz
  | @lst a xs ds h1 h2 =>
    cases rx
    obtain ⟨as, rd⟩ := Dp.reads I _ _ _ (Dp.lst h1 h2) (show RelV (.ref a) (.ref a) from rfl)
    exact repr_of_reads' rd hs (PyData.noDict_hsm (PyData.hasDict_of_canLay _ sd'.1)) hg (by have := sd'.2; omega) (fun _ _ e => e)
      (fun h' u tk hk => ⟨.str _, H, I.kept hk, ⟨_, rfl⟩, q⟩) hz
  | @tup a xs ds h1 h2 =>
    cases rx
    obtain ⟨as, rd⟩ := Dp.reads I _ _ _ (Dp.tup h1 h2) (show RelV (.ref a) (.ref a) from rfl)
    exact repr_of_reads' rd hs (PyData.noDict_hsm (PyData.hasDict_of_canLay _ sd'.1)) hg (by have := sd'.2; omega) (fun _ _ e => e)
      (fun h' u tk hk => ⟨.str _, H, I.kept hk, ⟨_, rfl⟩, q⟩) hz
theorem b_repr (hK : G.K = X.K) (hg : X.A.guards = some []) (hu : X.A.units + 66 < cLine) : BOk G X "repr" oRepr := ⟨⟨_, .inl ⟨"repr", call_repr hg hu, PyProof.Rows.boot_repr⟩, fun xs ds H M Qd Q rm hx f h => by
  unfold oRepr at h
  split at h
  · rename_i d
    obtain ⟨v, rfl, hv⟩ := dens1 hx
    exact ⟨v, d.py, rfl, by rw [← hK]; exact hv.dp 60 d v h.1.1, D.ok_shaped h.1.1, h.1.2.1, len_line h.1.2.2, f.imm rm (.str _) h.2⟩
  · exact h.elim⟩, mono_oRepr⟩
end
/-! ### isinstance -/
inductive Ty5 where
  | int | bool | str | tuple | list
  deriving DecidableEq
def Ty5.nm : Ty5 → String
  | .int => "int" | .bool => "bool" | .str => "str" | .tuple => "tuple" | .list => "list"
/-- kinds of data -/
inductive Kd where
  | non | int | bl | str | tup | lst | oth
def Kd.nm : Kd → String
  | .non => "NoneType" | .int => "int" | .bl => "bool" | .str => "str" | .tup => "tuple" | .lst => "list" | .oth => ""
def D.kd : D → Kd
  | .non => .non | .int _ => .int | .bl _ => .bl | .str _ => .str | .tup _ => .tup | .lst _ => .lst | _ => .oth
def Ty5.isK : Ty5 → Kd → Option Bool
  | _, .oth => none
  | .int, .int => some true | .int, .bl => some true
  | .bool, .bl => some true | .str, .str => some true | .tuple, .tup => some true | .list, .lst => some true
  | _, _ => some false
def Ty5.is (t : Ty5) (d : D) : Option Bool := t.isK d.kd
def D.tyN (d : D) : String := d.kd.nm
def oIsi (t : Ty5) : O1 := fun x M Q => match t.is x with
  | some b => Q (.bl b) M
  | none => False
theorem mono_oIsi {t : Ty5} : Mono1 (oIsi t) := fun x M Q Q' hq h => by
  unfold oIsi at *; split at h <;> first | exact hq _ _ h | exact h.elim
theorem Ty5.kitK : ∀ (t : Ty5) (k : Kd) (b : Bool), t.isK k = some b → kitB k.nm t.nm = some b := by
  intro t k b h
  cases t <;> cases k <;> cases h <;> decide +kernel
theorem Ty5.kit {t : Ty5} {d : D} {b : Bool} (h : t.is d = some b) : kitB d.tyN t.nm = some b := Ty5.kitK t d.kd b h
theorem ty_of {G : Gx} {H : Hp} {M : Mem} {t : Ty5} {v : V} {d : D} {b : Bool} (h : t.is d = some b) (hv : Den G H M v d) : TyX G.K H v (.type d.tyN) := by
  cases hv with
  | non => exact .base .non
  | bl b => exact .base (.bl b)
  | int i => exact .base (.int i)
  | str x => exact .base (.str x)
  | tup r m hs =>
    rcases r with r | ⟨o, r⟩
    · exact .base (.tup r)
    · exact .fTuple r
  | tupK r hs => obtain ⟨o, its, n, e, c, _⟩ := r; exact .kTuple e c
  | lst r m hs =>
    rcases r with r | ⟨o, r⟩
    · exact .base (.lst r)
    · exact .base (.frz r)
  | _ => cases t <;> cases h
section
variable {G : Gx} {W : WX} {X : Cx} {a : Expr} {wa : WE}
theorem boot_t5 (t : Ty5) : bootBuiltins (Str.ofString t.nm) = some (.type t.nm) := by cases t <;> decide +kernel
theorem t5_name (t : Ty5) : (Str.ofString t.nm) ≠ "__name__" ∧ ((Str.ofString t.nm) == ("__debug__" : Str)) = false := by cases t <;> decide +kernel
theorem ev_isi {t : Ty5} {p q pos : Pos} (hK : G.K = X.K) (ha : EV G W X a wa) (hg : Gl X "isinstance") (hm : X.mg "isinstance" = none) (hg2 : Gl X (Str.ofString t.nm)) (hm2 : X.mg (Str.ofString t.nm) = none) (hs : starred a = false) :
    EV G W X (.Call (.Name "isinstance" p) [a, .Name (Str.ofString t.nm) q] [] pos) (w1 (oIsi t) wa) :=
  ⟨mono_w1 mono_oIsi ha.mono, PE.imp (pe_callB call_isi hg hm PyProof.Rows.boot_isinstance
      (pa_cons ha.pe (pa_cons (pe_bltn (v := .ty t.nm) hg2 hm2 (boot_t5 t) rfl (t5_name t).1 (t5_name t).2) pa_nil (star_cons rfl)) (star_cons hs)) (by decide) (by decide) (star_cons hs) (stars_none rfl)) fun σ H Q hh => by
    obtain ⟨ρ, M, Z, re, rm, xf, hh⟩ := hh
    refine tE_bind ha.mono re rm xf hh fun x dx H1 M1 k1 r1 d1 h1 => ?_
    unfold oIsi at h1
    split at h1
    · rename_i b e
      exact ⟨x, .ty t.nm, _, _, b, rfl, .ty _, by rw [← hK]; exact ty_of e d1, kit_ty (Ty5.kit e), h1 (.bl b) H1 k1 r1 (.bl b)⟩
    · exact h1.elim⟩
end
end Rf

set_option Elab.async false
set_option linter.all false
set_option maxRecDepth 100000
set_option maxHeartbeats 4000000
/-! Rf7: own defs: promises over plain data, bodies, calls. -/
namespace Rf
open PySem PySem.Spec PyProof.Rows L2
/-- a def keeps its promise wherever nothing is being shown (repr) -/
structure FnG (P : Program) (w : World) (K : PySem.W.Frag) (mg : Str → Option Value) (base : Heap) (k : Nat) (f : Addr) (fd : FuncData) (ps : List Str) (sp : Sp) : Prop where
  len : ∀ vs H Q E, sp vs H Q E → vs.length = ps.length
  run : ∀ (A : Around) (outer : List PySem.Env) (s : Shared) (H : Hp) (args : Args) (us : List Value) (vs : List V) (Q : VK) (E : XK),
    Room k A → A.guards = some [] → Env0 P w K mg base A outer s H → BindsTo s fd args (ps.zip us) → Vals vs us → sp vs H Q E →
      codeAny (model P w) A (.call (.ref f) args) (CR (L2.CX P w) outer P w H s Q E) s
section
variable {P : Program} {w : World} {K : PySem.W.Frag} {mg : Str → Option Value} {base : Heap}
theorem FnG.mono {j k : Nat} {f : Addr} {fd : FuncData} {ps : List Str} {sp : Sp} (F : FnG P w K mg base j f fd ps sp) (h : j ≤ k) : FnG P w K mg base k f fd ps sp :=
  ⟨F.len, fun A outer s H args us vs Q E hr => F.run A outer s H args us vs Q E (hr.mono h)⟩
theorem FnG.imp {k : Nat} {f : Addr} {fd : FuncData} {ps : List Str} {sp sp' : Sp} (F : FnG P w K mg base k f fd ps sp) (h : ∀ vs H Q E, sp' vs H Q E → sp vs H Q E) : FnG P w K mg base k f fd ps sp' :=
  ⟨fun vs H Q E q => F.len vs H Q E (h _ _ _ _ q), fun A outer s H args us vs Q E hr hg he hb hv hs => F.run A outer s H args us vs Q E hr hg he hb hv (h _ _ _ _ hs)⟩
theorem fnG_of {k : Nat} {f : Addr} {name qual : Str} {params : Arguments} {body : List Stmt} {scope : Scope} {dV kV doc pm cdv ct oc : Value} {an od : Option Addr} {osl : Array (Option Value)} {N ps : List Str} {sp : Sp}
    (lk : K.lookup f = some ⟨oc, od, .func (PySem.W.fnOf name qual params body scope dV kV doc pm an cdv ct), osl⟩) (hcd : PySem.W.codeIn K cdv qual = true) (S : FnScope N ps scope)
    (len : ∀ vs H Q E, sp vs H Q E → vs.length = ps.length)
    (hbody : ∀ (A : Around) (outer : List PySem.Env) (s : Shared) (H : Hp) (vs : List V) (Q : VK) (E : XK),
      Room k (A.deeper (envOfC qual scope s.heap.objs.size f cdv)) → (A.deeper (envOfC qual scope s.heap.objs.size f cdv)).guards = some [] → sp vs H Q E →
      ∃ t, PSs (cxOf (L2.CX P w) P w K mg base N qual scope f cdv A outer s H E) body t ∧ t { nx := fun _ H' => Q .non H', rt := Q } (start N vs) H) :
    FnG P w K mg base (k + 1) f (PySem.W.fnOf name qual params body scope dV kV doc pm an cdv ct) ps sp where
  len := len
  run := by
    intro A outer s H args us vs Q E room gs e0 bnd rel prm
    have hvs := len _ _ _ _ prm
    have stay : ∀ b o, base.get? b = some o → s.heap.get? b = some o := fun b o e => (e0.bs b o e).1
    have inK : K.In s.heap := e0.mod.kin.keeps stay
    have nolim : s.heap.NoLimit := e0.mod.nolimit.keeps stay
    have kinds : ∀ y ∈ ps.zip us, scope.names.lookup y.1 = some .local ∨ (scope.names.lookup y.1 = some .cell ∧ ((cellsFrom (s.heap.objs.size + 1) scope.names []).lookup y.1).isSome = true) := by
      rintro ⟨n, v⟩ hy
      have hn := (List.of_mem_zip hy).1
      cases S.par n hn with
      | inl q => exact Or.inl q
      | inr q => exact Or.inr ⟨q, PySem.W.cellsFrom_some _ _ _ (Or.inl q)⟩
    refine codeAny_call_function room.depth (inK _ _ lk) rfl S.co S.gen rfl (PySem.W.codeRec_of inK hcd) (bnd _ _ _ _ ?_)
    refine wpAny_newFunctionEnv_cells S.kind kinds fun env henv s1 made => ?_
    subst henv
    refine ⟨nolim.keeps made.toInCall.keep, codeAny_func ?_⟩
    obtain ⟨t, bodyOk, bodyDoes⟩ := hbody A outer s H vs Q E (room.deeper _) gs prm
    have I0 : Inv (cxOf (L2.CX P w) P w K mg base N qual scope f cdv A outer s H E) [] (start N vs) H s1 := inv_start S room.hd e0 hvs rel made
    refine wpAny_mono (bodyOk.run [] s1 (start N vs) H _ I0 bodyDoes) ?_ fun _ _ z => z
    intro fl s' hs
    match fl, hs with
    | .ret u, ⟨v, σ', H', J, rv, q⟩ => exact ⟨v, H', J.os, J.bare, J.base, J.hok, rv, q⟩
    | .next, ⟨σ', H', J, q⟩ => exact ⟨V.non, H', J.os, J.bare, J.base, J.hok, rfl, q⟩
    | .brk, ⟨_, _, _, q⟩ => exact q.elim
    | .cont, ⟨_, _, _, q⟩ => exact q.elim
end

/-! ### promises over plain data -/
abbrev FD := List D → Mem → QV → QX → Prop
def MonoF (F : FD) : Prop := ∀ ds M (Q Q' : QV) (Z Z' : QX), (∀ d M', Q d M' → Q' d M') → (∀ c r M', Z c r M' → Z' c r M') → F ds M Q Z → F ds M Q' Z'
def EFitX (G : Gx) (H : Hp) (M : Mem) (Z : QX) (E : XK) : Prop := ∀ c r M' H' cls d, Keep H M H' M' → RelM G H' M' → XDen G H' M' cls d c r → Z c r M' → E cls d H'
def spD (G : Gx) (n : Nat) (F : FD) : Sp := fun vs H Q E => vs.length = n ∧ ∃ ds M Qd Z, Dens G H M vs ds ∧ RelM G H M ∧ Fit G H M Qd Q ∧ EFitX G H M Z E ∧ F ds M Qd Z
/-- a def of the table, as it stands and is called: name, parameters, the values of the last parameters where they are left out -/
structure FnD (G : Gx) (X : Cx) (lev : Nat) (k : Nat) (x : Str) (ps : List Str) (dfl : List D) (F : FD) : Prop where
  ex : ∃ (fd : FuncData), FnG X.prog X.w X.K X.mg X.base lev (G.ad k) fd ps (spD G ps.length F) ∧ PySem.W.keepIn X.K (.ref (G.ad k)) = true ∧
    ∀ n, n ≤ dfl.length → ∃ ds, Binds X.K fd ps ds ∧ ∀ H M, ∃ dvs, Vals dvs ds ∧ Dens G H M dvs (dfl.drop (dfl.length - n))
  glob : X.mg x = some (.ref (G.ad k))
  mono : MonoF F
section
variable {G : Gx} {W : WX} {X : Cx}
theorem run_G {k : Nat} {f : Addr} {fd : FuncData} {ps : List Str} {sp : Sp} {dvs : List V} {ds : List Value} {E : XK} {pins : List (Addr × Obj)} {σ : L2.St} {H : Hp} {s : Shared} {Q : VK} {us : List Value} {vs : List V}
    (F : FnG X.prog X.w X.K X.mg X.base k f fd ps sp) (hr : Room k X.A) (hgu : X.A.guards = some []) (hb : Binds X.K fd ps ds) (hd : Vals dvs ds) (hx : PassesAt (L2.CX X.prog X.w) X σ E)
    (I : Inv X pins σ H s) (r : Vals vs us) (h : sp (vs ++ dvs) H Q E) : wpAny (model X.prog X.w) X.A (call (.ref f) us) (EP X pins σ Q) X.xe s := by
  have all : Vals (vs ++ dvs) (us ++ ds) := r.append hd
  have hl : (us ++ ds).length = ps.length := all.length ▸ F.len _ _ _ _ h
  refine wpAny_call (codeAny_mono (F.run X.A X.stack s H ⟨us, []⟩ (us ++ ds) (vs ++ dvs) Q E hr hgu I.env0 (hb s us I.kIn hl) all h) ?_)
  intro res s' hq
  match res, hq with
  | .error e, hq => exact hx pins H s e s' I hq
  | .ok (.ret u), hq => exact I.after hq
  | .ok .next, hq => exact False.elim hq
  | .ok .brk, hq => exact False.elim hq
  | .ok .cont, hq => exact False.elim hq
/-- the arguments, then those left out -/
def fill (n : Nat) (dfl ds : List D) : Option (List D) :=
  if ds.length = n then some ds else if ds.length < n ∧ n ≤ ds.length + dfl.length then some (ds ++ dfl.drop (dfl.length - (n - ds.length))) else none
theorem fill_ok {n : Nat} {dfl ds ds' : List D} (h : fill n dfl ds = some ds') : ∃ m, m ≤ dfl.length ∧ ds' = ds ++ dfl.drop (dfl.length - m) ∧ ds.length + m = n := by
  unfold fill at h
  split at h
  · rename_i e
    cases h
    exact ⟨0, Nat.zero_le _, by rw [Nat.sub_zero, List.drop_length, List.append_nil], by omega⟩
  · split at h
    · rename_i e
      cases h
      exact ⟨n - ds.length, by omega, rfl, by omega⟩
    · cases h
def wCallF (n : Nat) (dfl : List D) (F : FD) (ws : WA) : WE := fun ρ M Q Z => ws ρ M (fun ds M1 => match fill n dfl ds with
  | some ds' => F ds' M1 Q Z
  | none => False) Z
theorem mono_wCallF {n : Nat} {dfl : List D} {F : FD} {ws : WA} (hF : MonoF F) (h : Mono ws) : Mono (wCallF n dfl F ws) := fun ρ M Q Q' Z Z' hq hz =>
  h ρ M _ _ Z Z' (fun ds M1 h => by split at h <;> first | exact hF _ _ Q Q' Z Z' hq hz h | exact h.elim) hz
variable {lev k : Nat} {x : Str} {ps : List Str} {dfl : List D} {F : FD} {p pos : Pos} {e : Expr} {es : List Expr} {ws : WA}
theorem own_run (D' : FnD G X lev k x ps dfl F) (hr : Room lev X.A) (hgu : X.A.guards = some []) (tk : Takes X W) {pins : List (Addr × Obj)} {s : Shared} {σ : L2.St} {H : Hp} {Q : VK} {us : List Value} {vs : List V} {ds ds' : List D} {M : Mem} {Qd : QV} {Z : QX}
    (I : Inv X pins σ H s) (r : Vals vs us) (rm : RelM G H M) (dn : Dens G H M vs ds) (xf : XFit G W σ H M Z) (f : Fit G H M Qd Q) (hn : fill ps.length dfl ds = some ds') (h : F ds' M Qd Z) :
    wpAny (model X.prog X.w) X.A (call (.ref (G.ad k)) us) (EP X pins σ Q) X.xe s := by
  obtain ⟨fd, FG, hk, hb⟩ := D'.ex
  obtain ⟨m, hm, rfl, hl⟩ := fill_ok hn
  obtain ⟨dsv, hbn, hv⟩ := hb m hm
  obtain ⟨dvs, v1, v2⟩ := hv H M
  refine run_G FG hr hgu hbn v1 (passAt tk σ) I r ⟨?_, _, M, Qd, Z, dn.append v2, rm, f, fun c r M' H' cls d k rm xd z => xf c r M' H' cls d k rm xd z, h⟩
  have l1 := dn.length
  have l2 := v2.length
  rw [List.length_append, l1, l2, List.length_drop]
  omega
theorem FnD.keep (D' : FnD G X lev k x ps dfl F) : PySem.W.keepIn X.K (.ref (G.ad k)) = true := by obtain ⟨_, _, hk, _⟩ := D'.ex; exact hk
theorem ev_call (D' : FnD G X lev k x ps dfl F) (hr : Room lev X.A) (hgu : X.A.guards = some []) (tk : Takes X W) (hg : Gl X x) (ha : AV G W X (e :: es) ws) (hs : starred e = false) (hss : noStars es = true) (hd : (x == ("__debug__" : Str)) = false) :
    EV G W X (.Call (.Name x p) (e :: es) [] pos) (wCallF ps.length dfl F ws) := by
  refine ⟨mono_wCallF D'.mono ha.mono, ⟨fun pins s σ H Q I h => ?_⟩⟩
  obtain ⟨ρ, M, Z, re, rm, xf, h⟩ := h
  refine wpAny_Call_Name_kw (ld_glob I hg D'.glob ?_ hd)
  refine PySem.W.callWith_K (h₀ := X.base) I.ok.mod.kin D'.keep ?_ (star_cons hs) (stars_none hss)
  refine thn (ha.pa.run pos pins s σ H _ I (tA_bind ha.mono re rm xf h fun vs ds H1 M1 k1 r1 d1 h1 =>
    show ∃ ds M1, Keep H M H1 M1 ∧ RelM G H1 M1 ∧ Dens G H1 M1 vs ds ∧ _ from ⟨ds, M1, k1, r1, d1, h1⟩)) fun us s1 ⟨vs, H1, I1, r, ds, M1, k1, r1, d1, h1⟩ => ⟨I1.kIn, ?_⟩
  try dsimp only at h1
  split at h1
  · rename_i ds' e1
    exact own_run D' hr hgu tk I1 r r1 d1 (xf.mono k1) (fit_id k1) e1 h1
  · exact h1.elim
theorem ev_call0 (D' : FnD G X lev k x ps dfl F) (hr : Room lev X.A) (hgu : X.A.guards = some []) (tk : Takes X W) (hg : Gl X x) (hd : (x == ("__debug__" : Str)) = false) :
    EV G W X (.Call (.Name x p) [] [] pos) (wCallF ps.length dfl F wNil) := by
  refine ⟨mono_wCallF D'.mono mono_wNil, ⟨fun pins s σ H Q I h => ?_⟩⟩
  obtain ⟨ρ, M, Z, re, rm, xf, h⟩ := h
  refine wpAny_Call_Name_kw (ld_glob I hg D'.glob ?_ hd)
  refine PySem.W.callWith_K0 I.kIn D'.keep ?_
  unfold wCallF wNil at h
  dsimp only at h
  split at h
  · rename_i ds' e1
    exact own_run (us := []) (vs := []) D' hr hgu tk I .nil rm .nil xf (fit_id Keep.refl) e1 h
  · exact h.elim
/-- a local name that holds a def of the table -/
structure FnI where
  nm : Str
  ps : List Str
  dfl : List D
def wCallV (i : Nat) (T : List FnI) (Φ : Nat → FD) (ws : WA) : WE := fun ρ M Q Z => match ρ[i]? with
  | some (some (.fn k)) => match T[k]? with
    | some I => wCallF I.ps.length I.dfl (Φ k) ws ρ M Q Z
    | none => False
  | _ => False
theorem mono_wCallV {i : Nat} {T : List FnI} {Φ : Nat → FD} (hF : ∀ k, MonoF (Φ k)) (h : Mono ws) : Mono (wCallV i T Φ ws) := fun ρ M Q Q' Z Z' hq hz h2 => by
  unfold wCallV at *
  split at h2
  · split at h2
    · exact mono_wCallF (hF _) h ρ M Q Q' Z Z' hq hz h2
    · exact h2.elim
  · exact h2.elim
theorem ev_callv {i : Nat} {T : List FnI} {Φ : Nat → FD} (DT : ∀ (k : Nat) (I : FnI), T[k]? = some I → FnD G X lev k I.nm I.ps I.dfl (Φ k)) (hF : ∀ k, MonoF (Φ k)) (hr : Room lev X.A) (hgu : X.A.guards = some []) (tk : Takes X W)
    (hN : X.N[i]? = some x) (hv : Vis X.env.scope x) (ha : AV G W X (e :: es) ws) (hs : starred e = false) (hss : noStars es = true) (hd : (x == ("__debug__" : Str)) = false) (hcd : (x == ("__classdict__" : Str)) = false) :
    EV G W X (.Call (.Name x p) (e :: es) [] pos) (wCallV i T Φ ws) := by
  refine ⟨mono_wCallV hF ha.mono, ⟨fun pins s σ H Q I h => ?_⟩⟩
  obtain ⟨ρ, M, Z, re, rm, xf, h⟩ := h
  unfold wCallV at h
  split at h
  · rename_i k e0
    split at h
    · rename_i Ik e2
      have D' := DT k Ik e2
      obtain ⟨v0, hs0, hv0⟩ := re.get i _ e0
      cases hv0
      refine wpAny_Call_Name_kw (thn ((pe_var (pos := p) hN hv hd hcd).run pins s σ H (fun v H1 => v = .ref (G.ad k) ∧ H1 = H) I ⟨_, hs0, rfl, rfl⟩) fun u s1 ⟨v, H1, I1, rv, q1⟩ => ?_)
      obtain ⟨rfl, rfl⟩ := q1
      cases rv
      refine PySem.W.callWith_K (h₀ := X.base) I.ok.mod.kin D'.keep ?_ (star_cons hs) (stars_none hss)
      refine thn (ha.pa.run pos pins s1 σ _ _ I1 (tA_bind ha.mono re rm xf h fun vs ds H2 M1 k1 r1 d1 h1 =>
        show ∃ ds M1, Keep H1 M H2 M1 ∧ RelM G H2 M1 ∧ Dens G H2 M1 vs ds ∧ _ from ⟨ds, M1, k1, r1, d1, h1⟩)) fun us s2 ⟨vs, H2, I2, r, ds, M1, k1, r1, d1, h1⟩ => ⟨I2.kIn, ?_⟩
      try dsimp only at h1
      split at h1
      · rename_i ds' e1
        exact own_run D' hr hgu tk I2 r r1 d1 (xf.mono k1) (fit_id k1) e1 h1
      · exact h1.elim
    · exact h.elim
  · exact h.elim
end
end Rf

set_option Elab.async false
set_option linter.all false
set_option maxRecDepth 100000
set_option maxHeartbeats 4000000
/-! Rf8: statements over plain data. -/
namespace Rf
open PySem PySem.Spec PyProof.Rows L2
structure En where
  nx : Env' → Mem → Prop
  rt : QV
  bk : Env' → Mem → Prop
  ct : Env' → Mem → Prop
  ex : Env' → QX
abbrev WS := En → Env' → Mem → Prop
structure En.le (E E' : En) : Prop where
  nx : ∀ ρ M, E.nx ρ M → E'.nx ρ M
  rt : ∀ d M, E.rt d M → E'.rt d M
  bk : ∀ ρ M, E.bk ρ M → E'.bk ρ M
  ct : ∀ ρ M, E.ct ρ M → E'.ct ρ M
  ex : ∀ ρ c r M, E.ex ρ c r M → E'.ex ρ c r M
def MonoS (w : WS) : Prop := ∀ E E' ρ M, En.le E E' → w E ρ M → w E' ρ M
structure EFit (G : Gx) (W : WX) (D' : Ends) (H : Hp) (M : Mem) (E : En) : Prop where
  nx : ∀ ρ' M' σ' H', Keep H M H' M' → RelE G H' M' σ' ρ' → RelM G H' M' → E.nx ρ' M' → D'.nx σ' H'
  bk : ∀ ρ' M' σ' H', Keep H M H' M' → RelE G H' M' σ' ρ' → RelM G H' M' → E.bk ρ' M' → D'.bk σ' H'
  ct : ∀ ρ' M' σ' H', Keep H M H' M' → RelE G H' M' σ' ρ' → RelM G H' M' → E.ct ρ' M' → D'.ct σ' H'
  rt : Fit G H M E.rt D'.rt
  ex : ∀ ρ' c r M' σ' H' cls d, Keep H M H' M' → RelE G H' M' σ' ρ' → RelM G H' M' → XDen G H' M' cls d c r → E.ex ρ' c r M' → W cls d σ' H'
section
variable {G : Gx} {W : WX} {D' : Ends} {H H1 : Hp} {M M1 : Mem} {E : En} {σ : L2.St} {ρ : Env'}
theorem EFit.mono (k : Keep H M H1 M1) (f : EFit G W D' H M E) : EFit G W D' H1 M1 E :=
  ⟨fun ρ' M' σ' H' k' => f.nx ρ' M' σ' H' (k.trans k'), fun ρ' M' σ' H' k' => f.bk ρ' M' σ' H' (k.trans k'), fun ρ' M' σ' H' k' => f.ct ρ' M' σ' H' (k.trans k'),
    f.rt.mono k, fun ρ' c r M' σ' H' cls d k' => f.ex ρ' c r M' σ' H' cls d (k.trans k')⟩
theorem EFit.x (f : EFit G W D' H M E) (re : RelE G H M σ ρ) : XFit G W σ H M (E.ex ρ) := fun c r M' H' cls d k rm xd z => f.ex ρ c r M' σ H' cls d k (re.mono k) rm xd z
end
def tS (G : Gx) (W : WX) (w : WS) : TS := fun D' σ H => ∃ ρ M E, RelE G H M σ ρ ∧ RelM G H M ∧ EFit G W D' H M E ∧ w E ρ M
structure SV (G : Gx) (W : WX) (X : Cx) (st : Stmt) (w : WS) : Prop where
  mono : MonoS w
  ps : PS X st (tS G W w)
structure BV (G : Gx) (W : WX) (X : Cx) (sts : List Stmt) (w : WS) : Prop where
  mono : MonoS w
  pss : PSs X sts (tS G W w)
def sNext : WS := fun E ρ M => E.nx ρ M
def sSeq (w1 w2 : WS) : WS := fun E ρ M => w1 { E with nx := w2 E } ρ M
theorem mono_sNext : MonoS sNext := fun E E' ρ M le => le.nx ρ M
theorem mono_sSeq {w1 w2 : WS} (h1 : MonoS w1) (h2 : MonoS w2) : MonoS (sSeq w1 w2) := fun E E' ρ M le => h1 _ _ ρ M ⟨fun ρ M => h2 E E' ρ M le, le.rt, le.bk, le.ct, le.ex⟩
section
variable {G : Gx} {W : WX} {X : Cx} {st : Stmt} {sts : List Stmt} {w w1 w2 : WS}
theorem bv_nil : BV G W X [] sNext := ⟨mono_sNext, PSs.imp pss_nil fun D' σ H ⟨ρ, M, E, re, rm, ef, h⟩ => ef.nx ρ M σ H Keep.refl re rm h⟩
theorem bv_one (h : SV G W X st w) : BV G W X [st] w := ⟨h.mono, pss_one h.ps⟩
theorem tS_seq (w2 : WS) {t2 : TS} (h2 : ∀ D' σ H, tS G W w2 D' σ H → t2 D' σ H) {D' : Ends} {σ : L2.St} {H : Hp} (h : tS G W (sSeq w1 w2) D' σ H) : tS G W w1 { D' with nx := t2 D' } σ H := by
  obtain ⟨ρ, M, E, re, rm, ef, h⟩ := h
  exact ⟨ρ, M, { E with nx := w2 E }, re, rm, ⟨fun ρ' M' σ' H' k re' rm' q => h2 D' σ' H' ⟨ρ', M', E, re', rm', ef.mono k, q⟩, ef.bk, ef.ct, ef.rt, ef.ex⟩, h⟩
theorem bv_cons (h1 : SV G W X st w1) (h2 : BV G W X sts w2) : BV G W X (st :: sts) (sSeq w1 w2) :=
  ⟨mono_sSeq h1.mono h2.mono, PSs.imp (pss_cons h1.ps h2.pss) fun D' σ H h => tS_seq w2 (fun _ _ _ q => q) h⟩
/-- a tracked list of a slot that will not change any more -/
def sFrz (i : Nat) : WS := fun E ρ M => match ρ[i]? with
  | some (some (.ref a)) => match M a with
    | some (.lst ds) => E.nx (ρ.set i (some (.lst ds))) (mdel M a)
    | _ => False
  | _ => False
theorem mono_sFrz {i : Nat} : MonoS (sFrz i) := fun E E' ρ M le h => by
  unfold sFrz at *
  split at h
  · split at h
    · exact le.nx _ _ h
    · exact h.elim
  · exact h.elim
theorem set_same {α : Type} : ∀ {l : List α} {i : Nat} {x : α}, l[i]? = some x → l.set i x = l
  | _ :: _, 0, _, h => by simp at h; simp [h]
  | a :: l, i + 1, x, h => by simp at h; simp [set_same h]
  | [], _, _, h => by simp at h
theorem bv_frz {i : Nat} (h2 : BV G W X sts w) : BV G W X sts (sSeq (sFrz i) w) :=
  ⟨mono_sSeq mono_sFrz h2.mono, PSs.imp h2.pss fun D' σ H h => by
    obtain ⟨ρ, M, E, re, rm, ef, h⟩ := h
    unfold sSeq sFrz at h
    split at h
    · rename_i a e
      split at h
      · rename_i ds e2
        obtain ⟨vs, e3, d1⟩ := rm _ _ e2
        obtain ⟨v, s1, dv⟩ := re.get i _ e
        cases dv
        refine ⟨_, _, E, ?_, rm.del (p := a), ef.mono (Keep.del (p := a)), h⟩
        have r2 := (re.mono (Keep.del (p := a))).set (i := i) (v := .ref a) (d := .lst ds) (.lst (.inl e3) mdel_same (d1.mono Keep.del))
        rw [set_same s1] at r2
        exact r2
      · exact h.elim
    · exact h.elim⟩
/-! simple statements -/
theorem sv_pass {pos : Pos} : SV G W X (.Pass pos) sNext := ⟨mono_sNext, PS.imp ps_pass fun D' σ H ⟨ρ, M, E, re, rm, ef, h⟩ => ef.nx ρ M σ H Keep.refl re rm h⟩
theorem sv_doc {x j pos pos'} : SV G W X (.Expr (.Constant (.str x) j pos) pos') sNext := ⟨mono_sNext, PS.imp ps_doc fun D' σ H ⟨ρ, M, E, re, rm, ef, h⟩ => ef.nx ρ M σ H Keep.refl re rm h⟩
def sBrk : WS := fun E ρ M => E.bk ρ M
def sCnt : WS := fun E ρ M => E.ct ρ M
theorem sv_brk {pos : Pos} : SV G W X (.Break pos) sBrk := ⟨fun E E' ρ M le => le.bk ρ M, PS.imp ps_break fun D' σ H ⟨ρ, M, E, re, rm, ef, h⟩ => ef.bk ρ M σ H Keep.refl re rm h⟩
theorem sv_cnt {pos : Pos} : SV G W X (.Continue pos) sCnt := ⟨fun E E' ρ M le => le.ct ρ M, PS.imp ps_continue fun D' σ H ⟨ρ, M, E, re, rm, ef, h⟩ => ef.ct ρ M σ H Keep.refl re rm h⟩
variable {a b c : Expr} {wa wb : WE} {wt : WT} {pos : Pos}
def isComp : Expr → Bool
  | .ListComp .. => true | .SetComp .. => true | .DictComp .. => true | _ => false
theorem swap_no {e : Expr} {t : Option Expr} {n : Nat} {env : PySem.Env} (h : isComp e = false) : swapsWith e t n env = pure false := by
  cases e <;> first | rfl | exact absurd h (by intro q; cases q)
def sExpr (wa : WE) : WS := fun E ρ M => wa ρ M (fun _ M1 => E.nx ρ M1) (E.ex ρ)
theorem mono_sExpr (ha : Mono wa) : MonoS (sExpr wa) := fun E E' ρ M le => ha ρ M _ _ _ _ (fun _ M1 => le.nx ρ M1) (fun c r M' => le.ex ρ c r M')
theorem sv_expr (ha : EV G W X a wa) (hc : isComp a = false) : SV G W X (.Expr a pos) (sExpr wa) := ⟨mono_sExpr ha.mono, PS.imp (ps_expr ha.pe (swap_no hc)) fun D' σ H ⟨ρ, M, E, re, rm, ef, h⟩ =>
  tE_bind ha.mono re rm (ef.x re) h fun v d H1 M1 k r dn q => ef.nx ρ M1 σ H1 k (re.mono k) r q⟩
def sRet (wa : WE) : WS := fun E ρ M => wa ρ M E.rt (E.ex ρ)
theorem mono_sRet (ha : Mono wa) : MonoS (sRet wa) := fun E E' ρ M le => ha ρ M _ _ _ _ (fun d M1 => le.rt d M1) (fun c r M' => le.ex ρ c r M')
theorem sv_ret (ha : EV G W X a wa) : SV G W X (.Return (some a) pos) (sRet wa) := ⟨mono_sRet ha.mono, PS.imp (ps_ret ha.pe) fun D' σ H ⟨ρ, M, E, re, rm, ef, h⟩ =>
  tE_bind ha.mono re rm (ef.x re) h fun v d H1 M1 k r dn q => ef.rt v d H1 M1 k r dn q⟩
def sRetN : WS := fun E ρ M => E.rt .non M
theorem sv_retN : SV G W X (.Return none pos) sRetN := ⟨fun E E' ρ M le => le.rt _ M, PS.imp ps_retN fun D' σ H ⟨ρ, M, E, re, rm, ef, h⟩ => ef.rt .non .non H M Keep.refl rm .non h⟩
def sIf (wt : WT) (w1 w2 : WS) : WS := fun E ρ M => wt ρ M (fun k M1 => if k = true then w1 E ρ M1 else w2 E ρ M1) (E.ex ρ)
theorem mono_sIf (ht : Mono wt) (h1 : MonoS w1) (h2 : MonoS w2) : MonoS (sIf wt w1 w2) := fun E E' ρ M le => ht ρ M _ _ _ _ (fun k M1 h => by
  cases k with
  | true => exact h1 E E' ρ M1 le h
  | false => exact h2 E E' ρ M1 le h) (fun c r M' => le.ex ρ c r M')
theorem sv_if {s1 s2 : List Stmt} (ht : TV G W X c wt) (h1 : BV G W X s1 w1) (h2 : BV G W X s2 w2) : SV G W X (.If c s1 s2 pos) (sIf wt w1 w2) :=
  ⟨mono_sIf ht.mono h1.mono h2.mono, PS.imp (ps_if ht.pt h1.pss h2.pss) fun D' σ H ⟨ρ, M, E, re, rm, ef, h⟩ =>
    tT_bind ht.mono re rm (ef.x re) h fun k H1 M1 k1 r1 q => by
      cases k with
      | true => exact ⟨ρ, M1, E, re.mono k1, r1, ef.mono k1, q⟩
      | false => exact ⟨ρ, M1, E, re.mono k1, r1, ef.mono k1, q⟩⟩
/-! name = e -/
def sSet (i : Nat) (wa : WE) : WS := fun E ρ M => wa ρ M (fun d M1 => E.nx (ρ.set i (some d)) M1) (E.ex ρ)
theorem mono_sSet {i : Nat} (ha : Mono wa) : MonoS (sSet i wa) := fun E E' ρ M le => ha ρ M _ _ _ _ (fun d M1 => le.nx _ M1) (fun c r M' => le.ex ρ c r M')
theorem sv_set {i : Nat} {x : Str} {pos' : Pos} (hN : X.N.Nodup) (hi : X.N[i]? = some x) (hx : Loc X.env.scope x) (ha : EV G W X a wa) (hc : isComp a = false) (hf : X.fn x = true ∨ X.env.scope.names.lookup x = some .local) :
    SV G W X (.Assign [.Name x pos'] a pos) (sSet i wa) := ⟨mono_sSet ha.mono, PS.imp (ps_set hN hi hx ha.pe (swap_no hc) hf) fun D' σ H ⟨ρ, M, E, re, rm, ef, h⟩ =>
  tE_bind ha.mono re rm (ef.x re) h fun v d H1 M1 k r dn q => ef.nx _ M1 _ H1 k ((re.mono k).set dn) r q⟩
/-- what a loop's turn wants -/
def En.turn (E : En) (N : Env' → Mem → Prop) : En := { nx := N, rt := E.rt, bk := E.nx, ct := N, ex := E.ex }
theorem En.le_rfl (E : En) : En.le E E := ⟨fun _ _ h => h, fun _ _ h => h, fun _ _ h => h, fun _ _ h => h, fun _ _ _ _ h => h⟩
theorem En.turn_le {E E' : En} {N N' : Env' → Mem → Prop} (le : En.le E E') (h : ∀ ρ M, N ρ M → N' ρ M) : En.le (E.turn N) (E'.turn N') := ⟨h, le.rt, le.nx, h, le.ex⟩
/-! while -/
def sWhile (wt : WT) (wb : WS) : WS := fun E ρ M => ∃ I : Nat → Env' → Mem → Prop, (∃ m, I m ρ M) ∧ ∀ m ρ M, I m ρ M →
  wt ρ M (fun k M1 => if k = true then wb (E.turn fun ρ' M' => ∃ m', m' < m ∧ I m' ρ' M') ρ M1 else E.nx ρ M1) (E.ex ρ)
theorem mono_sWhile (ht : Mono wt) (hb : MonoS w) : MonoS (sWhile wt w) := fun E E' ρ M le ⟨I, h0, h⟩ => ⟨I, h0, fun m ρ M q => ht ρ M _ _ _ _ (fun k M1 z => by
  cases k with
  | true => exact hb (E.turn _) (E'.turn _) ρ M1 (En.turn_le le fun _ _ y => y) z
  | false => exact le.nx ρ M1 z) (fun c r M' => le.ex ρ c r M') (h m ρ M q)⟩
theorem sv_while {body : List Stmt} (hp : PassesOwn (model X.prog X.w) X.A X.env X.xe) (ht : TV G W X c wt) (hb : BV G W X body w) : SV G W X (.While c body [] pos) (sWhile wt w) :=
  ⟨mono_sWhile ht.mono hb.mono, PS.imp (ps_while hp ht.pt hb.pss) fun D' σ H ⟨ρ, M, E, re, rm, ef, I, ⟨m0, i0⟩, h⟩ => by
    refine ⟨fun m σ H1 => ∃ ρ1 M1, Keep H M H1 M1 ∧ RelE G H1 M1 σ ρ1 ∧ RelM G H1 M1 ∧ I m ρ1 M1, ⟨m0, ρ, M, Keep.refl, re, rm, i0⟩, ?_⟩
    rintro m σ1 H1 ⟨ρ1, M1, k1, re1, rm1, q⟩
    refine tT_bind ht.mono re1 rm1 ((ef.mono k1).x re1) (h m ρ1 M1 q) fun k H2 M2 k2 r2 z => ?_
    cases k with
    | false => exact ef.nx ρ1 M2 σ1 H2 (k1.trans k2) (re1.mono k2) r2 z
    | true =>
      refine ⟨fun σ' H' => ∃ m', m' < m ∧ ∃ ρ1 M1, Keep H M H' M1 ∧ RelE G H' M1 σ' ρ1 ∧ RelM G H' M1 ∧ I m' ρ1 M1, fun σ' H' q => q, ?_⟩
      refine ⟨ρ1, M2, _, re1.mono k2, r2, ?_, z⟩
      have kk := k1.trans k2
      refine ⟨fun ρ' M' σ' H' k' re' rm' ⟨m', lt, y⟩ => ⟨m', lt, ρ', M', kk.trans k', re', rm', y⟩, fun ρ' M' σ' H' k' => ef.nx ρ' M' σ' H' (kk.trans k'),
        fun ρ' M' σ' H' k' re' rm' ⟨m', lt, y⟩ => ⟨m', lt, ρ', M', kk.trans k', re', rm', y⟩, ef.rt.mono kk, fun ρ' c r M' σ' H' cls d k' => ef.ex ρ' c r M' σ' H' cls d (kk.trans k')⟩⟩
end
end Rf

set_option Elab.async false
set_option linter.all false
set_option maxRecDepth 100000
set_option maxHeartbeats 4000000
/-! Rf9: targets, what is walked, for, comprehensions. -/
namespace Rf
open PySem PySem.Spec PyProof.Rows L2
/-! ### targets that are names and tuples of such -/
mutual
inductive Tg where
  | nm (i : Nat)
  | tup (ts : Tgs)
inductive Tgs where
  | nil
  | cons (t : Tg) (ts : Tgs)
end
def Tgs.len : Tgs → Nat
  | .nil => 0
  | .cons _ ts => ts.len + 1
mutual
def Tg.rd (K : PySem.W.Frag) : Tg → TG
  | .nm i => gName i
  | .tup ts => gTup K ts.len (Tgs.rd K ts)
def Tgs.rd (K : PySem.W.Frag) : Tgs → TGs
  | .nil => gNil
  | .cons t ts => gCons (Tg.rd K t) (Tgs.rd K ts)
end
mutual
def Tg.put : Tg → D → Env' → Option Env'
  | .nm i, d, ρ => some (ρ.set i (some d))
  | .tup ts, .tup ds, ρ => Tgs.put ts ds ρ
  | .tup _, _, _ => none
def Tgs.put : Tgs → List D → Env' → Option Env'
  | .nil, [], ρ => some ρ
  | .cons t ts, d :: ds, ρ => match Tg.put t d ρ with
    | some ρ' => Tgs.put ts ds ρ'
    | none => none
  | _, _, _ => none
end
mutual
def Tg.slots : Tg → List Nat
  | .nm i => [i]
  | .tup ts => Tgs.slots ts
def Tgs.slots : Tgs → List Nat
  | .nil => []
  | .cons t ts => Tg.slots t ++ Tgs.slots ts
end
/-- alike but for some slots -/
def But (vs : List Nat) (σ σ' : L2.St) : Prop := σ'.length = σ.length ∧ ∀ j, j ∉ vs → σ'[j]? = σ[j]?
theorem But.refl {vs : List Nat} {σ : L2.St} : But vs σ σ := ⟨rfl, fun _ _ => rfl⟩
theorem But.trans {vs : List Nat} {σ σ1 σ2 : L2.St} (a : But vs σ σ1) (b : But vs σ1 σ2) : But vs σ σ2 := ⟨b.1.trans a.1, fun j h => (b.2 j h).trans (a.2 j h)⟩
theorem But.mono {vs ws : List Nat} {σ σ' : L2.St} (a : But vs σ σ') (h : ∀ j ∈ vs, j ∈ ws) : But ws σ σ' := ⟨a.1, fun j n => a.2 j fun m => n (h j m)⟩
theorem But.set {vs : List Nat} {σ : L2.St} {i : Nat} {x : Option V} (h : i ∈ vs) : But vs σ (σ.set i x) := ⟨by rw [List.length_set], fun j n => by
  rw [List.getElem?_set_ne (fun e : i = j => n (by rw [← e]; exact h))]⟩
theorem wipe_get {σ : L2.St} {j : Nat} : ∀ {vs : List Nat}, (wipe σ vs)[j]? = if j ∈ vs ∧ j < σ.length then some none else σ[j]?
  | [] => by simp [wipe]
  | v :: vs => by
    unfold wipe
    have ih := wipe_get (σ := σ) (j := j) (vs := vs)
    by_cases e : v = j
    · subst e
      by_cases hl : v < σ.length
      · rw [List.getElem?_set_self (by rw [wipe_length]; exact hl)]
        simp [hl]
      · rw [List.getElem?_eq_none (by rw [List.length_set, wipe_length]; omega)]
        simp [hl]
    · rw [List.getElem?_set_ne e, ih]
      have : (j ∈ v :: vs) ↔ (j ∈ vs) := by simp [Ne.symm e]
      simp [this]
theorem But.wipe {vs : List Nat} {σ σ' : L2.St} (b : But vs σ σ') : L2.wipe σ' vs = L2.wipe σ vs := by
  apply List.ext_getElem?
  intro j
  rw [wipe_get, wipe_get, b.1]
  by_cases h : j ∈ vs
  · by_cases hl : j < σ.length
    · simp [h, hl]
    · have h1 : σ[j]? = none := List.getElem?_eq_none (by omega)
      have h2 : σ'[j]? = none := List.getElem?_eq_none (by rw [b.1]; omega)
      simp [h, hl, h1, h2]
  · simp [h, b.2 j h]
mutual
theorem Tg.put_ok {G : Gx} {H : Hp} {M : Mem} : ∀ (t : Tg) (d : D) (v : V) (σ : L2.St) (ρ ρ' : Env') (Q : L2.St → Hp → Prop), Den G H M v d → RelE G H M σ ρ → t.put d ρ = some ρ' →
    (∀ σ', RelE G H M σ' ρ' → But t.slots σ σ' → Q σ' H) → t.rd G.K v σ H Q
  | .nm i, d, v, σ, ρ, ρ', Q, hv, re, e, q => by
    cases e
    exact q _ (re.set hv) (But.set (by simp [Tg.slots]))
  | .tup ts, d, v, σ, ρ, ρ', Q, hv, re, e, q => by
    cases d with
    | tup ds =>
      simp only [Tg.put] at e
      obtain ⟨p, rfl⟩ : ∃ p, v = .ref p := by cases hv <;> exact ⟨_, rfl⟩
      obtain ⟨vs, s1, d1⟩ := sqT_of hv
      have hl := Tgs.put_len ts ds ρ ρ' e
      exact ⟨p, vs, rfl, s1, by rw [d1.length, hl], Tgs.put_ok ts ds vs σ ρ ρ' Q d1 re e q⟩
    | _ => simp [Tg.put] at e
theorem Tgs.put_len : ∀ (ts : Tgs) (ds : List D) (ρ ρ' : Env'), ts.put ds ρ = some ρ' → ds.length = ts.len
  | .nil, [], _, _, _ => rfl
  | .nil, _ :: _, _, _, e => by simp [Tgs.put] at e
  | .cons _ _, [], _, _, e => by simp [Tgs.put] at e
  | .cons t ts, d :: ds, ρ, ρ', e => by
    simp only [Tgs.put] at e
    split at e
    · rw [List.length_cons, Tgs.len, Tgs.put_len ts ds _ ρ' e]
    · cases e
theorem Tgs.put_ok {G : Gx} {H : Hp} {M : Mem} : ∀ (ts : Tgs) (ds : List D) (vs : List V) (σ : L2.St) (ρ ρ' : Env') (Q : L2.St → Hp → Prop), Dens G H M vs ds → RelE G H M σ ρ → ts.put ds ρ = some ρ' →
    (∀ σ', RelE G H M σ' ρ' → But ts.slots σ σ' → Q σ' H) → ts.rd G.K vs σ H Q
  | .nil, [], vs, σ, ρ, ρ', Q, hv, re, e, q => by
    simp only [Tgs.put] at e
    cases e; cases hv
    exact ⟨rfl, q σ re But.refl⟩
  | .nil, _ :: _, _, _, _, _, _, _, _, e, _ => by simp [Tgs.put] at e
  | .cons _ _, [], _, _, _, _, _, _, _, e, _ => by simp [Tgs.put] at e
  | .cons t ts, d :: ds, vs, σ, ρ, ρ', Q, hv, re, e, q => by
    simp only [Tgs.put] at e
    cases hv with
    | cons h1 h2 =>
      rename_i v vs
      split at e
      · rename_i ρ1 e1
        refine ⟨v, vs, rfl, ?_⟩
        refine Tg.put_ok t d v σ ρ ρ1 _ h1 re e1 fun σ1 r1 b1 => ?_
        refine Tgs.put_ok ts ds vs σ1 ρ1 ρ' Q h2 r1 e fun σ2 r2 b2 => ?_
        exact q σ2 r2 ((b1.mono fun j h => by simp [Tgs.slots, h]).trans (b2.mono fun j h => by simp [Tgs.slots, h]))
      · cases e
end
/-! ### targets as statements store to them -/
abbrev WG := D → Env' → Mem → (Env' → Mem → Prop) → Prop
def MonoG (g : WG) : Prop := ∀ d ρ M (Q Q' : Env' → Mem → Prop), (∀ ρ M, Q ρ M → Q' ρ M) → g d ρ M Q → g d ρ M Q'
abbrev WGs := List D → Env' → Mem → (Env' → Mem → Prop) → Prop
def MonoGs (g : WGs) : Prop := ∀ d ρ M (Q Q' : Env' → Mem → Prop), (∀ ρ M, Q ρ M → Q' ρ M) → g d ρ M Q → g d ρ M Q'
def SFit (G : Gx) (H : Hp) (M : Mem) (Qd : Env' → Mem → Prop) (Q : L2.St → Hp → Prop) : Prop := ∀ ρ' M' σ' H', Keep H M H' M' → RelE G H' M' σ' ρ' → RelM G H' M' → Qd ρ' M' → Q σ' H'
theorem SFit.mono {G : Gx} {H H1 : Hp} {M M1 : Mem} {Qd : Env' → Mem → Prop} {Q : L2.St → Hp → Prop} (k : Keep H M H1 M1) (f : SFit G H M Qd Q) : SFit G H1 M1 Qd Q := fun ρ' M' σ' H' k' => f ρ' M' σ' H' (k.trans k')
def tG (G : Gx) (g : WG) : TG := fun v σ H Q => ∃ d ρ M Qd, Den G H M v d ∧ RelE G H M σ ρ ∧ RelM G H M ∧ SFit G H M Qd Q ∧ g d ρ M Qd
def tGs (G : Gx) (g : WGs) : TGs := fun vs σ H Q => ∃ ds ρ M Qd, Dens G H M vs ds ∧ RelE G H M σ ρ ∧ RelM G H M ∧ SFit G H M Qd Q ∧ g ds ρ M Qd
structure GV (G : Gx) (X : Cx) (t : Expr) (g : WG) : Prop where
  mono : MonoG g
  pg : PG X t (tG G g)
structure GsV (G : Gx) (X : Cx) (ts : List Expr) (g : WGs) : Prop where
  mono : MonoGs g
  pgs : PGs X ts (tGs G g)
theorem PG.imp {X : Cx} {e : Expr} {t t' : TG} (h : PG X e t) (i : ∀ v σ H Q, t' v σ H Q → t v σ H Q) : PG X e t' := ⟨fun pins s σ H v u Q I r hw => h.run pins s σ H v u Q I r (i v σ H Q hw)⟩
theorem PGs.imp {X : Cx} {e : List Expr} {t t' : TGs} (h : PGs X e t) (i : ∀ v σ H Q, t' v σ H Q → t v σ H Q) : PGs X e t' := ⟨fun pins s σ H v u Q I r hw => h.run pins s σ H v u Q I r (i v σ H Q hw)⟩
section
variable {G : Gx} {W : WX} {X : Cx} {a b : Expr} {es : List Expr} {wa wb : WE} {g : WG} {gs : WGs} {pos : Pos}
def gPut (t : Tg) : WG := fun d ρ M Q => match t.put d ρ with
  | some ρ' => Q ρ' M
  | none => False
theorem mono_gPut {t : Tg} : MonoG (gPut t) := fun d ρ M Q Q' hq h => by unfold gPut at *; split at h <;> first | exact hq _ _ h | exact h.elim
theorem gv_put {t : Tg} (h : PG X a (t.rd G.K)) : GV G X a (gPut t) := ⟨mono_gPut, PG.imp h fun v σ H Q ⟨d, ρ, M, Qd, dn, re, rm, f, q⟩ => by
  unfold gPut at q
  split at q
  · rename_i ρ' e
    exact t.put_ok d v σ ρ ρ' Q dn re e fun σ' re' _ => f ρ' M σ' H Keep.refl re' rm q
  · exact q.elim⟩
def gsNil : WGs := fun ds ρ M Q => ds = [] ∧ Q ρ M
def gsCons (g : WG) (gs : WGs) : WGs := fun ds ρ M Q => match ds with
  | d :: ds => g d ρ M fun ρ' M' => gs ds ρ' M' Q
  | [] => False
theorem gsv_nil : GsV G X [] gsNil := ⟨fun d ρ M Q Q' hq h => ⟨h.1, hq _ _ h.2⟩, PGs.imp pgs_nil fun vs σ H Q ⟨ds, ρ, M, Qd, dn, re, rm, f, e, q⟩ => by
  subst e; cases dn
  exact ⟨rfl, f ρ M σ H Keep.refl re rm q⟩⟩
theorem starA_cons {e : Expr} {es : List Expr} {env : PySem.Env} (h : starred e = false) : (assignEach (e :: es) env).map (·.2) = assign e env :: (assignEach es env).map (·.2) := by
  cases e <;> first | rfl | exact absurd h (by intro q; cases q)
theorem gsv_cons (h1 : GV G X a g) (h2 : GsV G X es gs) (hs : starred a = false) : GsV G X (a :: es) (gsCons g gs) :=
  ⟨fun ds ρ M Q Q' hq h => by
    unfold gsCons at *
    cases ds with
    | nil => exact h.elim
    | cons d ds => exact h1.mono d ρ M _ _ (fun ρ' M' => h2.mono ds ρ' M' Q Q' hq) h,
   PGs.imp (pgs_cons h1.pg h2.pgs (starA_cons hs)) fun vs σ H Q ⟨ds, ρ, M, Qd, dn, re, rm, f, q⟩ => by
    unfold gsCons at q
    cases dn with
    | nil => exact q.elim
    | @cons v vs d ds d1 d2 =>
      refine ⟨v, vs, rfl, d, ρ, M, _, d1, re, rm, fun ρ' M' σ' H' k re' rm' q' => ?_, q⟩
      exact ⟨ds, ρ', M', Qd, d2.mono k, re', rm', f.mono k, q'⟩⟩
def gTupG (n : Nat) (gs : WGs) : WG := fun d ρ M Q => match d with
  | .tup ds => ds.length = n ∧ gs ds ρ M Q
  | _ => False
theorem lenA : ∀ {es : List Expr} {env : PySem.Env}, (assignEach es env).length = es.length
  | [], _ => rfl
  | e :: es, env => by cases e <;> simp [assignEach, lenA]
theorem noStarA {env : PySem.Env} : ∀ {es : List Expr}, noStars es = true → (assignEach es env).findIdx? (·.1) = none
  | [], _ => rfl
  | e :: es, h => by
    have h' : starred e = false ∧ noStars es = true := by simpa [noStars] using h
    have e1 : assignEach (e :: es) env = (false, assign e env) :: assignEach es env := by cases e <;> first | rfl | exact absurd h'.1 (by intro q; cases q)
    rw [e1, List.findIdx?_cons, noStarA h'.2]
    rfl
theorem gv_tup {k : Nat} (hK : G.K = X.K) (hc : X.calm = true) (h : GsV G X es gs) (hs : noStars es = true) : GV G X (.Tuple es k pos) (gTupG es.length gs) :=
  ⟨fun d ρ M Q Q' hq h2 => by
    unfold gTupG at *
    cases d <;> first | exact ⟨h2.1, h.mono _ ρ M Q Q' hq h2.2⟩ | exact h2.elim,
   PG.imp (pg_tup hc h.pgs lenA (noStarA hs)) fun v σ H Q ⟨d, ρ, M, Qd, dn, re, rm, f, q⟩ => by
    unfold gTupG at q
    cases d with
    | tup ds =>
      obtain ⟨p, rfl⟩ : ∃ p, v = .ref p := by cases dn <;> exact ⟨_, rfl⟩
      obtain ⟨vs, s1, d1⟩ := sqT_of dn
      exact ⟨p, vs, rfl, by rw [← hK]; exact s1, by rw [d1.length, q.1], _, ρ, M, Qd, d1, re, rm, f, q.2⟩
    | _ => exact q.elim⟩
/-- o[i] = d -/
def oPut (o i d : D) (M : Mem) (Q : Mem → Prop) : Prop := match o, i with
  | .ref a, .int k => match M a with
    | some (.lst xs) => match ixN xs.length k with
      | some j => Q (mupd M a (.lst (xs.set j d)))
      | none => False
    | _ => False
  | _, _ => False
def gSubG (wo wi : WE) : WG := fun d ρ M Q => wo ρ M (fun o M1 => wi ρ M1 (fun i M2 => oPut o i d M2 fun M3 => Q ρ M3) fun _ _ _ => False) fun _ _ _ => False
theorem mono_oPut {o i d : D} {M : Mem} {Q Q' : Mem → Prop} (hq : ∀ M, Q M → Q' M) (h : oPut o i d M Q) : oPut o i d M Q' := by
  unfold oPut at *
  repeat' split at h
  all_goals first | exact hq _ h | exact h.elim
theorem xfit_never {σ : L2.St} {H : Hp} {M : Mem} : XFit G W σ H M (fun _ _ _ => False) := fun _ _ _ _ _ _ _ _ _ z => z.elim
theorem gv_sub (ho : EV G W X a wa) (hi : EV G W X b wb) (hp : plainIx b = true) : GV G X (.Subscript a b pos) (gSubG wa wb) :=
  ⟨fun d ρ M Q Q' hq => ho.mono ρ M _ _ _ _ (fun o M1 => hi.mono ρ M1 _ _ _ _ (fun i M2 => mono_oPut fun M3 => hq ρ M3) fun _ _ _ z => z) fun _ _ _ z => z,
   PG.imp (pg_sub ho.pe hi.pe set_list (fun v => by cases b <;> first | rfl | exact absurd hp (by intro q; cases q))) fun v σ H Q ⟨d, ρ, M, Qd, dn, re, rm, f, q⟩ => by
    refine tE_bind ho.mono re rm xfit_never q fun o od H1 M1 k1 r1 d1 q => ?_
    refine tE_bind hi.mono (re.mono k1) r1 xfit_never q fun i id H2 M2 k2 r2 d2 q => ?_
    unfold oPut at q
    cases od with
    | ref p =>
      cases id with
      | int k =>
        dsimp only at q
        split at q
        · rename_i xs e
          split at q
          · rename_i j e2
            obtain ⟨vs, e3, d3⟩ := r2 _ _ e
            cases d1; cases d2
            have kk : Keep H2 M2 (upd H2 p (.lst (vs.set j v))) (mupd M2 p (.lst (xs.set j d))) := Keep.mut e
            have dv := dn.mono (k1.trans k2)
            exact ⟨p, vs, k, j, rfl, rfl, e3, by rw [d3.length]; exact e2, f ρ _ σ _ ((k1.trans k2).trans kk) (re.mono ((k1.trans k2).trans kk)) (r2.put kk ⟨_, upd_same, (d3.set dv j).mono kk⟩) q⟩
          · exact q.elim
        · exact q.elim
      | _ => exact q.elim
    | _ => exact q.elim⟩
/-! target = e -/
def sAsg (wa : WE) (g : WG) : WS := fun E ρ M => wa ρ M (fun d M1 => g d ρ M1 E.nx) (E.ex ρ)
theorem mono_sAsg (ha : Mono wa) (hg : MonoG g) : MonoS (sAsg wa g) := fun E E' ρ M le => ha ρ M _ _ _ _ (fun d M1 => hg d ρ M1 _ _ le.nx) (fun c r M' => le.ex ρ c r M')
theorem sv_asg (ha : EV G W X a wa) (hg : GV G X b g) (hc : isComp a = false) (hw : swappedStores [b] a X.env = pure none) (hs : starred b = false) : SV G W X (.Assign [b] a pos) (sAsg wa g) :=
  ⟨mono_sAsg ha.mono hg.mono, PS.imp (ps_asg ha.pe hg.pg (swap_no hc) hw (by rw [starA_cons hs]; rfl)) fun D' σ H ⟨ρ, M, E, re, rm, ef, h⟩ =>
    tE_bind ha.mono re rm (ef.x re) h fun v d H1 M1 k r dn q => ⟨d, ρ, M1, E.nx, dn, re.mono k, r, fun ρ' M' σ' H' k' re' rm' q => ef.nx ρ' M' σ' H' (k.trans k') re' rm' q, q⟩⟩
/-! a, b = x, y with local names -/
def sPar (is : List Nat) (ws : WA) : WS := fun E ρ M => ws ρ M (fun ds M1 => ds.length = is.length ∧ E.nx ((is.zip ds).foldl (fun ρ p => ρ.set p.1 (some p.2)) ρ) M1) (E.ex ρ)
theorem mono_sPar {is : List Nat} {ws : WA} (ha : Mono ws) : MonoS (sPar is ws) := fun E E' ρ M le => ha ρ M _ _ _ _ (fun d M1 h => ⟨h.1, le.nx _ _ h.2⟩) (fun c r M' => le.ex ρ c r M')
theorem sv_par2 {i j : Nat} {x y : Str} {e1 e2 : Expr} {ws : WA} {px py pt : Pos} {kt k2 pt2} (hc : X.calm = true) (hN : X.N.Nodup) (hi : X.N[i]? = some x) (hj : X.N[j]? = some y) (hij : i ≠ j)
    (hx : X.env.scope.names.lookup x = some .local) (hy : X.env.scope.names.lookup y = some .local) (ha : AV G W X [e1, e2] ws)
    (hw : swappedStores [.Tuple [.Name x px, .Name y py] kt pt] (.Tuple [e1, e2] k2 pt2) X.env = pure (some [x, y])) :
    SV G W X (.Assign [.Tuple [.Name x px, .Name y py] kt pt] (.Tuple [e1, e2] k2 pt2) pos) (sPar [i, j] ws) :=
  ⟨mono_sPar ha.mono, PS.imp (ps_par hc hN hi hj hij hx hy ha.pa hw) fun D' σ H ⟨ρ, M, E, re, rm, ef, h⟩ =>
    tA_bind ha.mono re rm (ef.x re) h fun vs ds H1 M1 k r dn q => by
      obtain ⟨hl, q⟩ := q
      obtain ⟨d1, d2, rfl⟩ : ∃ d1 d2, ds = [d1, d2] := by
        match ds, hl with
        | [a, b], _ => exact ⟨a, b, rfl⟩
      obtain ⟨v, w, rfl, h1, h2⟩ := dens2 dn
      exact ⟨v, w, rfl, ef.nx _ M1 _ H1 k (((re.mono k).set h1).set h2) r q⟩⟩
theorem sv_par3 {i j l : Nat} {x y z : Str} {e1 e2 e3 : Expr} {ws : WA} {px py pz pt : Pos} {kt k2 pt2} (hc : X.calm = true) (hN : X.N.Nodup) (hi : X.N[i]? = some x) (hj : X.N[j]? = some y) (hl : X.N[l]? = some z) (hij : i ≠ j) (hil : i ≠ l) (hjl : j ≠ l)
    (hx : X.env.scope.names.lookup x = some .local) (hy : X.env.scope.names.lookup y = some .local) (hz : X.env.scope.names.lookup z = some .local) (ha : AV G W X [e1, e2, e3] ws)
    (hw : swappedStores [.Tuple [.Name x px, .Name y py, .Name z pz] kt pt] (.Tuple [e1, e2, e3] k2 pt2) X.env = pure (some [x, y, z])) :
    SV G W X (.Assign [.Tuple [.Name x px, .Name y py, .Name z pz] kt pt] (.Tuple [e1, e2, e3] k2 pt2) pos) (sPar [i, j, l] ws) :=
  ⟨mono_sPar ha.mono, PS.imp (ps_par3 hc hN hi hj hl hij hil hjl hx hy hz ha.pa hw) fun D' σ H ⟨ρ, M, E, re, rm, ef, h⟩ =>
    tA_bind ha.mono re rm (ef.x re) h fun vs ds H1 M1 k r dn q => by
      obtain ⟨hl, q⟩ := q
      obtain ⟨d1, d2, d3, rfl⟩ : ∃ d1 d2 d3, ds = [d1, d2, d3] := by
        match ds, hl with
        | [a, b, c], _ => exact ⟨a, b, c, rfl⟩
      cases dn with
      | cons h1 hr =>
        obtain ⟨v, w, rfl, h2, h3⟩ := dens2 hr
        exact ⟨_, v, w, rfl, ef.nx _ M1 _ H1 k ((((re.mono k).set h1).set h2).set h3) r q⟩⟩
end
end Rf

set_option Elab.async false
set_option linter.all false
set_option maxRecDepth 100000
set_option maxHeartbeats 4000000
/-! Rf10: what is walked; for; list comprehensions. -/
namespace Rf
open PySem PySem.Spec PyProof.Rows L2
abbrev WI := Env' → Mem → (List D → (Mem → Prop) → Mem → Prop) → QX → Prop
def MonoI (w : WI) : Prop := ∀ ρ M (Q Q' : List D → (Mem → Prop) → Mem → Prop) (Z Z' : QX), (∀ d S M', Q d S M' → Q' d S M') → (∀ c r M', Z c r M' → Z' c r M') → w ρ M Q Z → w ρ M Q' Z'
/-- the walk J gives these items in turn, wherever S stands -/
def Walks (G : Gx) (J : It) (H0 : Hp) (M0 : Mem) (items : List D) (S : Mem → Prop) : Prop := ∀ (i : Nat) (H : Hp) (M : Mem), Keep H0 M0 H M → RelM G H M → S M →
  (∀ d, items[i]? = some d → J.go i H ∧ ∀ x H', J.yld i H x H' → Keep H M H' M ∧ RelM G H' M ∧ Den G H' M x d) ∧ (items.length ≤ i → J.stop i H)
def tI (G : Gx) (W : WX) (w : WI) : TI := fun σ H R => ∃ ρ M Z, RelE G H M σ ρ ∧ RelM G H M ∧ XFit G W σ H M Z ∧
  w ρ M (fun items S M' => ∀ J H', Keep H M H' M' → RelM G H' M' → Walks G J H' M' items S → R J H') Z
structure IV (G : Gx) (W : WX) (X : Cx) (tg iter : Expr) (w : WI) : Prop where
  mono : MonoI w
  pi : PI X tg iter (tI G W w)
theorem PI.imp {X : Cx} {tg e : Expr} {t t' : TI} (h : PI X tg e t) (i : ∀ σ H Q, t' σ H Q → t σ H Q) : PI X tg e t' := ⟨fun pins s σ H Q I hw => h.run pins s σ H Q I (i σ H Q hw)⟩
section
variable {G : Gx} {W : WX} {X : Cx} {tg a b c : Expr} {wa wb wc : WE}
/-! a list or a tuple -/
def iSeq (K : PySem.W.Frag) (tl : TE) : TI := fun σ H R => tl σ H fun x H1 => ∃ p, x = .ref p ∧ (((∃ xs, SqL K H1 p xs) ∧ R (Itl K p) H1) ∨ ((∃ xs, SqT K H1 p xs) ∧ R (Itt K p) H1))
theorem pi_seq {tl : TE} (hl : PE X a tl) : PI X tg a (iSeq X.K tl) := by
  refine ⟨fun pins s σ H R I h => thn (hl.run pins s σ H _ I h) fun v s1 hv => ?_⟩
  obtain ⟨x, H1, I1, r1, p, rfl, hq⟩ := hv
  cases r1
  have fpok : ∀ b ∈ [s1.heap.objs.size], FpOk X pins H1 b := fun b hb => by
    obtain rfl : b = s1.heap.objs.size := by simpa using hb
    exact I1.fpOk (Nat.le_refl _) (I1.hok.fresh (Nat.le_refl _))
  rcases hq with ⟨⟨xs, hs⟩, q⟩ | ⟨⟨xs, hs⟩, q⟩
  · obtain ⟨its, rv, pl, hz⟩ := I1.list hs
    exact wpAny_pyIter_list pl.isList ⟨s1.heap.objs.size, [s1.heap.objs.size], _, _, H1, rfl, I1.kept (t' := s1.toks) (fun b o e => Heap.get?_push_of_some _ e), turn_list p _, ⟨_, Heap.get?_push_size _ rfl, rfl, rfl⟩, fpok, q⟩
  · obtain ⟨its, rv, pl, hz⟩ := I1.tuple hs
    exact wpAny_pyIter_tuple (show s1.heap.IsTuple p its.toArray from pl) ⟨s1.heap.objs.size, [s1.heap.objs.size], _, _, H1, rfl, I1.kept (t' := s1.toks) (fun b o e => Heap.get?_push_of_some _ e), turn_tuple p _, ⟨_, Heap.get?_push_size _ rfl, rfl, rfl⟩, fpok, q⟩
def itemsD (x : D) (M : Mem) (Q : List D → (Mem → Prop) → Prop) : Prop := match x with
  | .lst xs => Q xs fun _ => True
  | .tup xs => Q xs fun _ => True
  | .scr xs => Q xs fun _ => True
  | .ref a => match M a with
    | some (.lst xs) => Q xs fun M' => M' a = some (.lst xs)
    | _ => False
  | _ => False
def wItems (wa : WE) : WI := fun ρ M Q Z => wa ρ M (fun x M1 => itemsD x M1 fun xs S => Q xs S M1) Z
theorem itemsD_mono {x : D} {M : Mem} {Q Q' : List D → (Mem → Prop) → Prop} (hq : ∀ xs S, Q xs S → Q' xs S) (h : itemsD x M Q) : itemsD x M Q' := by
  unfold itemsD at *
  repeat' split at h
  all_goals first | exact hq _ _ h | exact h.elim
theorem mono_wItems (ha : Mono wa) : MonoI (wItems wa) := fun ρ M Q Q' Z Z' hq hz => ha ρ M _ _ Z Z' (fun x M1 => itemsD_mono fun xs S => hq xs S M1) hz
theorem walks_l {H : Hp} {M : Mem} {p : Addr} {vs : List V} {ds : List D} {S : Mem → Prop} (k : ∀ H' M', Keep H M H' M' → RelM G H' M' → S M' → ∃ vs', SqL G.K H' p vs' ∧ Dens G H' M' vs' ds) : Walks G (Itl G.K p) H M ds S := fun i H' M' k' r' s' => by
  obtain ⟨vs', q, dn⟩ := k H' M' k' r' s'
  refine ⟨fun d e => ?_, fun hl => ⟨vs', q, by rw [dn.length]; exact hl⟩⟩
  obtain ⟨v, e1, d1⟩ := dn.get e
  refine ⟨⟨vs', v, q, e1⟩, fun x H2 ⟨e2, y⟩ => ?_⟩
  subst e2
  have := y vs' q
  rw [e1] at this; cases this
  exact ⟨Keep.refl, r', d1⟩
theorem walks_t {H : Hp} {M : Mem} {p : Addr} {ds : List D} {S : Mem → Prop} (k : ∀ H' M', Keep H M H' M' → RelM G H' M' → S M' → ∃ vs', SqT G.K H' p vs' ∧ Dens G H' M' vs' ds) : Walks G (Itt G.K p) H M ds S := fun i H' M' k' r' s' => by
  obtain ⟨vs', q, dn⟩ := k H' M' k' r' s'
  refine ⟨fun d e => ?_, fun hl => ⟨vs', q, by rw [dn.length]; exact hl⟩⟩
  obtain ⟨v, e1, d1⟩ := dn.get e
  refine ⟨⟨vs', v, q, e1⟩, fun x H2 ⟨e2, y⟩ => ?_⟩
  subst e2
  have := y vs' q
  rw [e1] at this; cases this
  exact ⟨Keep.refl, r', d1⟩
theorem iv_seq (hK : G.K = X.K) (ha : EV G W X a wa) : IV G W X tg a (wItems wa) := ⟨mono_wItems ha.mono, PI.imp (pi_seq ha.pe) fun σ H R ⟨ρ, M, Z, re, rm, xf, h⟩ => by
  refine tE_bind ha.mono re rm xf h fun x dx H1 M1 k1 r1 d1 q => ?_
  rw [← hK]
  unfold itemsD at q
  split at q
  · obtain ⟨p, rfl⟩ : ∃ p, x = .ref p := by cases d1 <;> exact ⟨_, rfl⟩
    obtain ⟨vs, s1, dn⟩ := sqL_of d1
    exact ⟨p, rfl, .inl ⟨⟨vs, s1⟩, q _ H1 k1 r1 (walks_l (vs := vs) fun H' M' k' _ _ => sqL_of (d1.mono k'))⟩⟩
  · obtain ⟨p, rfl⟩ : ∃ p, x = .ref p := by cases d1 <;> exact ⟨_, rfl⟩
    obtain ⟨vs, s1, dn⟩ := sqT_of d1
    exact ⟨p, rfl, .inr ⟨⟨vs, s1⟩, q _ H1 k1 r1 (walks_t fun H' M' k' _ _ => sqT_of (d1.mono k'))⟩⟩
  · obtain ⟨p, rfl⟩ : ∃ p, x = .ref p := by cases d1 <;> exact ⟨_, rfl⟩
    obtain ⟨vs, s1, dn⟩ := sqS_of d1
    exact ⟨p, rfl, .inl ⟨⟨vs, s1⟩, q _ H1 k1 r1 (walks_l (vs := vs) fun H' M' k' _ _ => sqS_of (d1.mono k'))⟩⟩
  · rename_i p
    cases d1
    split at q
    · rename_i xs e
      obtain ⟨vs, e1, dn⟩ := r1 _ _ e
      exact ⟨_, rfl, .inl ⟨⟨vs, SqL.of e1⟩, q _ H1 k1 r1 (walks_l (vs := vs) fun H' M' k' r' s' => by
        obtain ⟨vs', e2, dn'⟩ := r' _ _ s'
        exact ⟨vs', SqL.of e2, dn'⟩)⟩⟩
    · exact q.elim
  · exact q.elim⟩
/-! range -/
def rangeD (lo hi : Int) : List D := (List.range (hi - lo).toNat).map fun k => .int (lo + (k : Nat))
theorem rangeD_get {lo hi : Int} {i : Nat} {d : D} (h : (rangeD lo hi)[i]? = some d) : i < (hi - lo).toNat ∧ d = .int (lo + i) := by
  unfold rangeD at h
  rw [List.getElem?_map] at h
  by_cases hi' : i < (hi - lo).toNat
  · rw [List.getElem?_range hi'] at h
    cases h
    exact ⟨hi', rfl⟩
  · rw [List.getElem?_eq_none (by simpa using Nat.le_of_not_lt hi')] at h
    cases h
theorem rangeD_len {lo hi : Int} : (rangeD lo hi).length = (hi - lo).toNat := by simp [rangeD]
theorem walks_r {H : Hp} {M : Mem} {lo hi : Int} : Walks G (Itr lo (hi - lo).toNat) H M (rangeD lo hi) fun _ => True := fun i H' M' k' r' _ =>
  ⟨fun d e => by
    obtain ⟨h1, rfl⟩ := rangeD_get e
    exact ⟨h1, fun x H2 ⟨e2, e3⟩ => by subst e2; subst e3; exact ⟨Keep.refl, r', .int _⟩⟩,
   fun hl => by rw [rangeD_len] at hl; exact hl⟩
def wRange1 (wa : WE) : WI := fun ρ M Q Z => wa ρ M (fun x M1 => match x with
  | .int j => (-(2 ^ 62) ≤ j ∧ j < 2 ^ 62) ∧ Q (rangeD 0 j) (fun _ => True) M1
  | _ => False) Z
def wRange2 (wa wb : WE) : WI := fun ρ M Q Z => wa ρ M (fun x M1 => wb ρ M1 (fun y M2 => match x, y with
  | .int i, .int j => (-(2 ^ 62) ≤ i ∧ i < 2 ^ 62 ∧ -(2 ^ 62) ≤ j ∧ j < 2 ^ 62) ∧ Q (rangeD i j) (fun _ => True) M2
  | _, _ => False) Z) Z
theorem mono_wRange1 (ha : Mono wa) : MonoI (wRange1 wa) := fun ρ M Q Q' Z Z' hq hz => ha ρ M _ _ Z Z' (fun x M1 h => by split at h <;> first | exact ⟨h.1, hq _ _ _ h.2⟩ | exact h.elim) hz
theorem mono_wRange2 (ha : Mono wa) (hb : Mono wb) : MonoI (wRange2 wa wb) := fun ρ M Q Q' Z Z' hq hz => ha ρ M _ _ Z Z' (fun x M1 => hb ρ M1 _ _ Z Z' (fun y M2 h => by split at h <;> first | exact ⟨h.1, hq _ _ _ h.2⟩ | exact h.elim) hz) hz
theorem iv_range1 {p pos : Pos} (hg : Gl X "range") (hm : X.mg "range" = none) (ha : EV G W X a wa) (hs : starred a = false) : IV G W X tg (.Call (.Name "range" p) [a] [] pos) (wRange1 wa) :=
  ⟨mono_wRange1 ha.mono, PI.imp (pi_range1 hg hm (pa_cons ha.pe pa_nil (star_cons hs)) (star_cons hs)) fun σ H R ⟨ρ, M, Z, re, rm, xf, h⟩ => by
    refine tE_bind ha.mono re rm xf h fun x dx H1 M1 k1 r1 d1 q => ?_
    dsimp only at q
    split at q
    · rename_i j
      cases d1
      have w := walks_r (G := G) (H := H1) (M := M1) (lo := 0) (hi := j)
      rw [Int.sub_zero] at w
      exact ⟨j, rfl, q.1.1, q.1.2, q.2 _ H1 k1 r1 w⟩
    · exact q.elim⟩
theorem iv_range2 {p pos : Pos} (hg : Gl X "range") (hm : X.mg "range" = none) (ha : EV G W X a wa) (hb : EV G W X b wb) (hs : starred a = false) (hs2 : starred b = false) : IV G W X tg (.Call (.Name "range" p) [a, b] [] pos) (wRange2 wa wb) :=
  ⟨mono_wRange2 ha.mono hb.mono, PI.imp (pi_range2 hg hm (pa_cons ha.pe (pa_cons hb.pe pa_nil (star_cons hs2)) (star_cons hs)) (by rw [star_cons hs, star_cons hs2]; rfl) (star_cons hs2)) fun σ H R ⟨ρ, M, Z, re, rm, xf, h⟩ => by
    refine tE_bind ha.mono re rm xf h fun x dx H1 M1 k1 r1 d1 q => ?_
    refine tE_bind hb.mono (re.mono k1) r1 (xf.mono k1) q fun y dy H2 M2 k2 r2 d2 q => ?_
    dsimp only at q
    split at q
    · cases d1; cases d2
      exact ⟨_, _, rfl, q.1, q.2 _ H2 (k1.trans k2) r2 walks_r⟩
    · exact q.elim⟩
end
/-! ### for -/
section
variable {G : Gx} {W : WX} {X : Cx} {tg it : Expr} {wi : WI} {g : WG} {w : WS}
def sForR (g : WG) (wb : WS) (S : Mem → Prop) : List D → WS
  | [] => fun E ρ M => S M ∧ E.nx ρ M
  | d :: ds => fun E ρ M => S M ∧ g d ρ M fun ρ2 M2 => wb (E.turn (sForR g wb S ds E)) ρ2 M2
def sFor (wi : WI) (g : WG) (wb : WS) : WS := fun E ρ M => wi ρ M (fun items S M1 => sForR g wb S items E ρ M1) (E.ex ρ)
theorem mono_sForR {S : Mem → Prop} (hg : MonoG g) (hb : MonoS w) : ∀ ds : List D, MonoS (sForR g w S ds)
  | [] => fun E E' ρ M le h => ⟨h.1, le.nx _ _ h.2⟩
  | d :: ds => fun E E' ρ M le h => ⟨h.1, hg d ρ M _ _ (fun ρ2 M2 z => hb (E.turn _) (E'.turn _) ρ2 M2 (En.turn_le le fun ρ M => mono_sForR hg hb ds E E' ρ M le) z) h.2⟩
theorem mono_sFor (hi : MonoI wi) (hg : MonoG g) (hb : MonoS w) : MonoS (sFor wi g w) := fun E E' ρ M le => hi ρ M _ _ _ _ (fun items S M1 => mono_sForR hg hb items E E' ρ M1 le) (fun c r M' => le.ex ρ c r M')
def notSet : Expr → Bool
  | .Set .. => false
  | _ => true
theorem fold_no {e : Expr} {env : PySem.Env} (h : notSet e = true) : ∀ x, foldedSetIterable e env x = pure x := fun x => by
  cases e <;> first | rfl | exact absurd h (by intro q; cases q)
theorem sv_for {body : List Stmt} {pos : Pos} (hp : PassesOwn (model X.prog X.w) X.A X.env X.xe) (hc : X.calm = true) (hi : IV G W X tg it wi) (hg : GV G X tg g) (hb : BV G W X body w) (hn : notSet it = true) : SV G W X (.For tg it body [] pos) (sFor wi g w) :=
  ⟨mono_sFor hi.mono hg.mono hb.mono, PS.imp (ps_for hp hc hi.pi hg.pg hb.pss (fold_no hn)) fun D' σ H ⟨ρ, M, E, re, rm, ef, h⟩ => by
    refine ⟨ρ, M, E.ex ρ, re, rm, ef.x re, hi.mono ρ M _ _ _ _ (fun items S M1 q J H1 k1 r1 wk => ?_) (fun _ _ _ z => z) h⟩
    refine ⟨fun i m σ' H' => ∃ ρ' M', Keep H1 M1 H' M' ∧ RelE G H' M' σ' ρ' ∧ RelM G H' M' ∧ m = items.length - i ∧ i ≤ items.length ∧ sForR g w S (items.drop i) E ρ' M',
      ⟨items.length, ρ, M1, Keep.refl, re.mono k1, r1, rfl, Nat.zero_le _, q⟩, ?_⟩
    rintro i m σ' H' ⟨ρ', M', k', re', rm', rfl, hi', q'⟩
    by_cases hlt : i < items.length
    · obtain ⟨d, hd⟩ : ∃ d, items[i]? = some d := ⟨items[i], List.getElem?_eq_getElem hlt⟩
      have e : items.drop i = d :: items.drop (i + 1) := by
        rw [List.drop_eq_getElem_cons hlt]
        rw [List.getElem?_eq_getElem hlt] at hd
        cases hd; rfl
      rw [e] at q'
      obtain ⟨hS, q'⟩ := q'
      obtain ⟨go, yl⟩ := (wk i H' M' k' rm' hS).1 d hd
      refine .inr ⟨go, fun σ2 H2 => ∃ ρ2 M2, Keep H1 M1 H2 M2 ∧ RelE G H2 M2 σ2 ρ2 ∧ RelM G H2 M2 ∧ sForR g w S (items.drop (i + 1)) E ρ2 M2,
        fun σ2 H2 ⟨ρ2, M2, a1, a2, a3, a4⟩ => ⟨items.length - (i + 1), by omega, ρ2, M2, a1, a2, a3, rfl, hlt, a4⟩, fun x H2 y => ?_⟩
      obtain ⟨k2, rm2, dx⟩ := yl x H2 y
      refine ⟨d, ρ', M', _, dx, re'.mono k2, rm2, fun ρ3 M3 σ3 H3 k3 re3 rm3 q3 => ?_, q'⟩
      have kk := ((k1.trans k').trans k2).trans k3
      refine ⟨ρ3, M3, E.turn (sForR g w S (items.drop (i + 1)) E), re3, rm3, ⟨fun ρ4 M4 σ4 H4 k4 re4 rm4 q4 => ⟨ρ4, M4, ((k'.trans k2).trans k3).trans k4, re4, rm4, q4⟩, (fun ρ4 M4 σ4 H4 k4 => ef.nx ρ4 M4 σ4 H4 (kk.trans k4)),
        fun ρ4 M4 σ4 H4 k4 re4 rm4 q4 => ⟨ρ4, M4, ((k'.trans k2).trans k3).trans k4, re4, rm4, q4⟩, ef.rt.mono kk, fun ρ4 c r M4 σ4 H4 cls d k4 => ef.ex ρ4 c r M4 σ4 H4 cls d (kk.trans k4)⟩, q3⟩
    · have e : i = items.length := by omega
      subst e
      rw [List.drop_length] at q'
      exact .inl ⟨(wk _ H' M' k' rm' q'.1).2 (Nat.le_refl _), ef.nx ρ' M' σ' H' (k1.trans k') re' rm' q'.2⟩⟩
end
/-! ### list comprehensions -/
section
variable {G : Gx} {W : WX} {X : Cx} {tg it elt : Expr} {ifs : List Expr} {wi : WI} {wt : WT} {we : WE}
def wipeE (ρ : Env') : List Nat → Env'
  | [] => ρ
  | v :: vs => (wipeE ρ vs).set v none
theorem RelE.wipe {H : Hp} {M : Mem} {σ : L2.St} {ρ : Env'} (r : RelE G H M σ ρ) : ∀ vs : List Nat, RelE G H M (L2.wipe σ vs) (wipeE ρ vs)
  | [] => r
  | v :: vs => (r.wipe vs).unset
/-- the items in turn; p holds the list so far -/
def wLcR (t : Tg) (wt : WT) (we : WE) (S : Mem → Prop) (p : Addr) (ρ0 : Env') : List D → Mem → (Mem → Prop) → Prop
  | [], M, Q => S M ∧ Q M
  | d :: ds, M, Q => S M ∧ match t.put d ρ0 with
    | some ρ2 => wt ρ2 M (fun k M1 => if k = true then we ρ2 M1 (fun y M2 => match M2 p with
        | some (.lst acc) => acc.length < 16777216 ∧ wLcR t wt we S p ρ0 ds (mupd M2 p (.lst (acc ++ [y]))) Q
        | _ => False) (fun _ _ _ => False) else wLcR t wt we S p ρ0 ds M1 Q) (fun _ _ _ => False)
    | none => False
def wLc (m : Bool) (wi : WI) (t : Tg) (wt : WT) (we : WE) (vs : List Nat) : WE := fun ρ M Q Z => wi ρ M (fun items S M1 => ∀ p, M1 p = none →
  wLcR t wt we S p (wipeE ρ vs) items (mupd M1 p (.lst [])) fun M2 => match M2 p with
    | some (.lst acc) => if m = true then Q (.ref p) M2 else Q (.lst acc) (mdel M2 p)
    | _ => False) Z
theorem mono_wLcR {t : Tg} {S : Mem → Prop} {p : Addr} {ρ0 : Env'} (ht : Mono wt) (he : Mono we) : ∀ (ds : List D) (M : Mem) (Q Q' : Mem → Prop), (∀ M, Q M → Q' M) → wLcR t wt we S p ρ0 ds M Q → wLcR t wt we S p ρ0 ds M Q'
  | [], M, Q, Q', hq, h => ⟨h.1, hq M h.2⟩
  | d :: ds, M, Q, Q', hq, h => by
    obtain ⟨hS, h⟩ := h
    refine ⟨hS, ?_⟩
    split at h
    · exact ht _ M _ _ _ _ (fun k M1 z => by
        cases k with
        | true => exact he _ M1 _ _ _ _ (fun y M2 z2 => by
            split at z2
            · exact ⟨z2.1, mono_wLcR ht he ds _ Q Q' hq z2.2⟩
            · exact z2.elim) (fun _ _ _ z => z) z
        | false => exact mono_wLcR ht he ds M1 Q Q' hq z) (fun _ _ _ z => z) h
    · exact h.elim
theorem mono_wLc {m : Bool} {t : Tg} {vs : List Nat} (hi : MonoI wi) (ht : Mono wt) (he : Mono we) : Mono (wLc m wi t wt we vs) := fun ρ M Q Q' Z Z' hq hz =>
  hi ρ M _ _ Z Z' (fun items S M1 h p hp => mono_wLcR ht he items _ _ _ (fun M2 z => by
    split at z
    · cases m with
      | true => exact hq _ _ z
      | false => exact hq _ _ z
    · exact z.elim) (h p hp)) hz
/-- tests of a clause -/
structure TsV (G : Gx) (W : WX) (X : Cx) (es : List Expr) (w : WT) : Prop where
  mono : Mono w
  pts : PTs X es (tT G W w)
def wYes : WT := fun _ M Q _ => Q true M
theorem mono_wYes : Mono wYes := fun _ M _ _ _ _ hq _ h => hq _ _ h
theorem PTs.imp {X : Cx} {es : List Expr} {t t' : TT} (h : PTs X es t) (i : ∀ σ H Q, t' σ H Q → t σ H Q) : PTs X es t' := ⟨fun pins s σ H Q I hw => h.run pins s σ H Q I (i σ H Q hw)⟩
theorem tsv_nil : TsV G W X [] wYes := ⟨mono_wYes, PTs.imp pts_nil fun σ H Q ⟨ρ, M, Z, re, rm, xf, h⟩ => h H Keep.refl rm⟩
theorem tsv_one {c : Expr} {w : WT} (h : TV G W X c w) : TsV G W X [c] w := ⟨h.mono, pts_one h.pt⟩
abbrev W0 : WX := fun _ _ _ _ => False
theorem tE_lc {m : Bool} {t : Tg} {vs : List Nat} (hi : MonoI wi) (ht : Mono wt) (he : Mono we) (hv : ∀ j ∈ t.slots, j ∈ vs) {σ : L2.St} {H : Hp} {Q : VK} (h : tE G W (wLc m wi t wt we vs) σ H Q) :
    tLc (tI G W wi) (t.rd G.K) (tT G W0 wt) (tE G W0 we) vs σ H Q := by
  obtain ⟨ρ, M, Z, re, rm, xf, h⟩ := h
  refine ⟨ρ, M, Z, re, rm, xf, hi ρ M _ _ _ _ (fun items S M1 q J H1 k1 r1 wk => ?_) (fun _ _ _ z => z) h⟩
  intro p hp
  have q := q p (r1.fresh hp)
  have re0 := (re.mono k1).wipe vs
  have kn : Keep H1 M1 (upd H1 p (.lst [])) (mupd M1 p (.lst [])) := Keep.newM hp
  refine ⟨fun i n H' => ∃ M', Keep H1 M1 H' M' ∧ RelM G H' M' ∧ n = items.length - i ∧ i ≤ items.length ∧ wLcR t wt we S p (wipeE ρ vs) (items.drop i) M' (fun M2 => match M2 p with
    | some (.lst acc) => if m = true then (∀ v H', Keep H M H' M2 → RelM G H' M2 → Den G H' M2 v (.ref p) → Q v H') else (∀ v H', Keep H M H' (mdel M2 p) → RelM G H' (mdel M2 p) → Den G H' (mdel M2 p) v (.lst acc) → Q v H')
    | _ => False), ⟨items.length, _, kn, r1.put (mo := .lst []) kn ⟨[], upd_same, .nil⟩, rfl, Nat.zero_le _, q⟩, ?_⟩
  rintro i n H' ⟨M', k', rm', rfl, hi', q'⟩
  by_cases hlt : i < items.length
  · obtain ⟨d, hd⟩ : ∃ d, items[i]? = some d := ⟨items[i], List.getElem?_eq_getElem hlt⟩
    have e : items.drop i = d :: items.drop (i + 1) := by
      rw [List.drop_eq_getElem_cons hlt]
      rw [List.getElem?_eq_getElem hlt] at hd
      cases hd; rfl
    rw [e] at q'
    obtain ⟨hS, q'⟩ := q'
    obtain ⟨go, yl⟩ := (wk i H' M' k' rm' hS).1 d hd
    refine .inr ⟨go, fun H2 => ∃ M2, Keep H1 M1 H2 M2 ∧ RelM G H2 M2 ∧ wLcR t wt we S p (wipeE ρ vs) (items.drop (i + 1)) M2 _,
      fun H2 ⟨M2, a1, a2, a3⟩ => ⟨items.length - (i + 1), by omega, M2, a1, a2, rfl, hlt, a3⟩, fun x H2 y => ?_⟩
    obtain ⟨k2, rm2, dx⟩ := yl x H2 y
    split at q'
    · rename_i ρ2 e2
      refine t.put_ok d x _ _ ρ2 _ dx ((re0.mono k').mono k2) e2 fun σ2 re2 but => ⟨?_, ?_⟩
      · rw [(but.mono hv).wipe]
        apply List.ext_getElem?
        intro j
        rw [wipe_get, wipe_get, wipe_length]
        by_cases hj : j ∈ vs ∧ j < σ.length
        · simp [hj]
        · simp [hj]
      · refine tT_bind ht re2 rm2 xfit_never q' fun k H3 M3 k3 r3 z => ?_
        cases k with
        | false => exact ⟨M3, (k'.trans k2).trans k3, r3, z⟩
        | true =>
          refine tE_bind he (re2.mono k3) r3 xfit_never z fun y dy H4 M4 k4 r4 d4 z4 => ?_
          split at z4
          · rename_i acc e4
            obtain ⟨vacc, e5, d5⟩ := r4 _ _ e4
            have kk : Keep H4 M4 (upd H4 p (.lst (vacc ++ [y]))) (mupd M4 p (.lst (acc ++ [dy]))) := Keep.mut e4
            refine ⟨vacc, e5, ?_, _, (((k'.trans k2).trans k3).trans k4).trans kk, r4.put kk ⟨_, upd_same, (d5.append (.cons d4 .nil)).mono kk⟩, z4.2⟩
            rw [d5.length, sizeLine_eq]; exact z4.1
          · exact z4.elim
    · exact q'.elim
  · have e : i = items.length := by omega
    subst e
    rw [List.drop_length] at q'
    refine .inl ⟨(wk _ H' M' k' rm' q'.1).2 (Nat.le_refl _), ?_⟩
    have q2 := q'.2
    cases e2 : M' p with
    | none => simp only [e2] at q2
    | some mo =>
      cases mo with
      | ins _ _ => simp only [e2] at q2
      | lst acc =>
        simp only [e2] at q2
        obtain ⟨vacc, e5, d5⟩ := rm' _ _ e2
        cases m with
        | true => exact q2 (.ref p) H' (k1.trans k') rm' (.ref p)
        | false => exact q2 (.ref p) H' ((k1.trans k').trans Keep.del) rm'.del (.lst (.inl e5) mdel_same (d5.mono Keep.del))
theorem ev_lc {m : Bool} {t : Tg} {scope : Scope} {own : List (Str × Nat)} {pos : Pos} (hK : G.K = X.K) (hc : X.calm = true) (hN : X.N.Nodup) (hi : IV G W X tg it wi) (ok : BlkOk X.N X.env.scope scope own)
    (hg : ∀ (s : Shared) (H : Hp) (C : Addr) (cl : List (Str × Addr)) (fp : List Addr), PG (X.blk s H scope (compEnvC scope cl C X.env) fp) tg (t.rd G.K))
    (ht : ∀ (s : Shared) (H : Hp) (C : Addr) (cl : List (Str × Addr)) (fp : List Addr), TsV G W0 (X.blk s H scope (compEnvC scope cl C X.env) fp) ifs wt)
    (he : ∀ (s : Shared) (H : Hp) (C : Addr) (cl : List (Str × Addr)) (fp : List Addr), EV G W0 (X.blk s H scope (compEnvC scope cl C X.env) fp) elt we)
    (mt : Mono wt) (me : Mono we) (hn : notSet it = true) (hv : ∀ j ∈ t.slots, j ∈ own.map (·.2)) : EV G W X (.ListComp elt [⟨tg, it, ifs, 0⟩] scope pos) (wLc m wi t wt we (own.map (·.2))) :=
  ⟨mono_wLc hi.mono mt me, PE.imp (pe_lc hc hN hi.pi ok hg (fun s H C cl fp => (ht s H C cl fp).pts) (fun s H C cl fp => (he s H C cl fp).pe) (fold_no hn)) fun σ H Q h => tE_lc hi.mono mt me hv h⟩
theorem sv_setLc {m : Bool} {t : Tg} {scope : Scope} {own : List (Str × Nat)} {pos spos py : Pos} {i : Nat} {y : Str} (hK : G.K = X.K) (hc : X.calm = true) (hN : X.N.Nodup) (hy : X.N[i]? = some y) (hyl : X.env.scope.names.lookup y = some .local)
    (hsw : swapsWith (.ListComp elt [⟨tg, it, ifs, 0⟩] scope pos) (some (.Name y py)) spos.line X.env = pure true) (hi : IV G W X tg it wi) (ok : BlkOk X.N X.env.scope scope own)
    (hg : ∀ (s : Shared) (H : Hp) (C : Addr) (cl : List (Str × Addr)) (fp : List Addr), PG (X.blk s H scope (compEnvC scope cl C X.env) fp) tg (t.rd G.K))
    (ht : ∀ (s : Shared) (H : Hp) (C : Addr) (cl : List (Str × Addr)) (fp : List Addr), TsV G W0 (X.blk s H scope (compEnvC scope cl C X.env) fp) ifs wt)
    (he : ∀ (s : Shared) (H : Hp) (C : Addr) (cl : List (Str × Addr)) (fp : List Addr), EV G W0 (X.blk s H scope (compEnvC scope cl C X.env) fp) elt we)
    (mt : Mono wt) (me : Mono we) (hn : notSet it = true) (hv : ∀ j ∈ t.slots, j ∈ own.map (·.2)) : SV G W X (.Assign [.Name y py] (.ListComp elt [⟨tg, it, ifs, 0⟩] scope pos) spos) (sSet i (wLc m wi t wt we (own.map (·.2)))) :=
  ⟨mono_sSet (mono_wLc hi.mono mt me), PS.imp (ps_setLc hc hN hy hyl hsw hi.pi ok hg (fun s H C cl fp => (ht s H C cl fp).pts) (fun s H C cl fp => (he s H C cl fp).pe) (fold_no hn)) fun D' σ H ⟨ρ, M, E, re, rm, ef, h⟩ =>
    tE_lc hi.mono mt me hv (tE_bind (mono_wLc hi.mono mt me) re rm (ef.x re) h fun v d H1 M1 k r dn q => ef.nx _ M1 _ H1 k ((re.mono k).set dn) r q)⟩
end
end Rf

set_option Elab.async false
set_option linter.all false
set_option maxRecDepth 100000
set_option maxHeartbeats 2000000
/-! Rf11: an own exception whose __init__ says super().__init__(p); self.p = p. -/
namespace PySem
namespace Oex
open PySem.W PySem.Calls PyProof.Rows PySem.HandSPX
/-! ### the text of __init__ -/
def iA (f : Str) (p1 p2 : Pos) : Arguments := { posonlyargs := [], args := [{ arg := "self", annotation := none, pos := p1 }, { arg := f, annotation := none, pos := p2 }], vararg := none, kwonlyargs := [], kw_defaults := [], kwarg := none, defaults := [] }
def iB (f : Str) (r1 r2 r3 r4 r5 r6 : Pos) (q1 q2 q3 q4 : Pos) : List Stmt :=
  [.Expr (.Call (.Attribute (.Call (.Name "super" r1) [] [] r2) "__init__" r3) [.Name f r4] [] r5) r6, .Assign [.Attribute (.Name "self" q1) f q2] (.Name f q3) q4]
def iS (f : Str) : Scope := { kind := .function, names := [(PySem.Str.ofString "self", .local), (f, .local), (PySem.Str.ofString "__class__", .free), (PySem.Str.ofString "super", .globalImplicit)], isGenerator := false, isCoroutine := false, more := [] }
structure IsF (f : Str) : Prop where
  fs : (f == ("self" : Str)) = false
  fd : (f == ("__debug__" : Str)) = false
  fc : (f == ("__class__" : Str)) = false
  fu : (f == ("super" : Str)) = false
  bd : ∀ (nmI qual : Str) (p1 p2 r1 r2 r3 r4 r5 r6 q1 q2 q3 q4 : Pos) (doc pm cdv ct : Value) (an : Option Addr) (cc : Addr) (x v : Value),
    bindArgs (ksFn nmI qual (iA f p1 p2) (iB f r1 r2 r3 r4 r5 r6 q1 q2 q3 q4) (iS f) .none .none doc pm an cdv ct cc) ⟨[x, v], []⟩ = pure ([("self", x), (f, v)] : List (Str × Value))
theorem ev_super {f : Str} (qual : Str) (L fI cc : Addr) (cdv : Value) (r1 r2 r3 r4 r5 : Pos) (h : (r3.endLine == r5.line) = true) :
    eval (.Call (.Attribute (.Call (.Name "super" r1) [] [] r2) "__init__" r3) [.Name f r4] [] r5) (ksEnv qual (iS f) L fI cdv cc) = (do
      let ov ← attributeBase (.Call (.Name "super" r1) [] [] r2) "__init__" (ksEnv qual (iS f) L fI cdv cc) (eval (.Call (.Name "super" r1) [] [] r2) (ksEnv qual (iS f) L fI cdv cc))
      standAt r3.atName
      let (f', first) ← holding [ov] (getMethod ov "__init__" (do return (← importBound (.Call (.Name "super" r1) [] [] r2) (ksEnv qual (iS f) L fI cdv cc)).getD true))
      callWith r5 f' first (backTo r5 (starEach [.Name f r4] (ksEnv qual (iS f) L fI cdv cc))) []) := by
  show (do
      let ov ← attributeBase (.Call (.Name "super" r1) [] [] r2) "__init__" (ksEnv qual (iS f) L fI cdv cc) (eval (.Call (.Name "super" r1) [] [] r2) (ksEnv qual (iS f) L fI cdv cc))
      standAt r3.atName
      methodCall (.Call (.Name "super" r1) [] [] r2) "__init__" r3 r5 (ksEnv qual (iS f) L fI cdv cc) ov 1 (backTo r5 (starEach [.Name f r4] (ksEnv qual (iS f) L fI cdv cc))) []) = _
  unfold methodCall methodCallPos
  rw [h, Bool.or_true]
  rfl
theorem isF_reason : IsF "reason" := ⟨by decide, by decide, by decide, by decide, fun _ _ _ _ _ _ _ _ _ _ _ _ _ _ _ _ _ _ _ _ _ _ => by first | rfl | with_unfolding_all rfl⟩
theorem isF_at : IsF "at" := ⟨by decide, by decide, by decide, by decide, fun _ _ _ _ _ _ _ _ _ _ _ _ _ _ _ _ _ _ _ _ _ _ => by first | rfl | with_unfolding_all rfl⟩
/-- what the written part says of the class at C, of its __init__, at fI -/
structure Txt (prog : Program) (K : Frag) (f : Str) (C fI : Addr) : Prop where
  cls : ∃ nm q N bs bm sn sub ab col dd k0 k1 k2 k3 k5, K.lookup C = some (excClassObj nm q C N bs bm true sn sub ab col dd k0 k1 k2 k3 k5 "ValueError.__new__") ∧ refsVE bm = true
  sa : findIn K (.ref C) "__setattr__" = some (some (.builtin "object.__setattr__"))
  ga : findIn K (.ref C) "__getattribute__" = some (some (.builtin "BaseException.__getattribute__"))
  gg : findIn K (.ref C) "__getattr__" = some none
  noN : findIn K (.ref C) f = some none
  iC : findIn K (.ref C) "__init__" = some (some (.ref fI))
  tC : typeIn K (.ref fI) = some (.type "function")
  kC : keepIn K (.ref C) = true
  exC : subIn K (.ref C) (.type "BaseException") = some true
  vEC : subIn K (.ref C) (.type "ValueError") = some true
  tyC : typeIn K (.ref C) = some (.type "type")
  hdC : hasDictIn K C = true
  su : ks_superIn K C C "__init__" = some (some (.builtin "ValueError.__init__"))
  slf : mroIn K C (.ref C) = some true
  op : nsIn K cStatics "thirdparty.any" = some none
  fn : ∃ (nm qual : Str) (oc : Value) (od : Option Addr) (doc pm : Value) (an : Option Addr) (cda : Addr) (ct : Value) (cc : Addr) (osl : Array (Option Value)) (p1 p2 r1 r2 r3 r4 r5 r6 q1 q2 q3 q4 : Pos),
    K.lookup fI = some ⟨oc, od, .func (ksFn nm qual (iA f p1 p2) (iB f r1 r2 r3 r4 r5 r6 q1 q2 q3 q4) (iS f) .none .none doc pm an (.ref cda) ct cc), osl⟩ ∧ codeIn K (.ref cda) qual = true ∧ (r3.endLine == r5.line) = true ∧
    (∃ ccl cdd vs ccs file tf, K.lookup cda = some ⟨ccl, cdd, .fields vs, ccs⟩ ∧ vs[2]? = some (.str file tf) ∧ ((prog.main.file : Str) == file) = true) ∧
    (∃ cl cld csl, K.lookup cc = some ⟨cl, cld, .cell (some (.ref C)), csl⟩)
  top : (prog.main.scope.names.lookup ("super" : Str)).isSome = false
/-- what __init__ leaves of a fresh exception at x -/
structure InitEnd (h h' : Heap) (f : Str) (x C dx t1 : Addr) (v : Value) : Prop where
  keep : ∀ b o, b ≠ x → h.get? b = some o → h'.get? b = some o
  obj : h'.get? x = some { cls := .ref C, dict := some dx, data := .fields #[.ref t1, .none, .none, .none, .bool false, .none] }
  dbig : h.objs.size ≤ dx
  dne : dx ≠ x
  ns : h'.Ns1 dx (fun y => if y = f then some v else none)
/-- a made one -/
structure OwnMade (h h' : Heap) (f : Str) (e C d : Addr) (v : Value) : Prop where
  keep : ∀ b o, h.get? b = some o → h'.get? b = some o
  new : h.objs.size ≤ e
  obj : ∃ oe vs, h'.get? e = some oe ∧ oe.cls = .ref C ∧ oe.dict = some d ∧ oe.data = .fields vs ∧ vs[1]? = some .none
  dbig : h.objs.size ≤ d
  dne : d ≠ e
  ns : h'.Ns1 d (fun y => if y = f then some v else none)
theorem ldL {M : Model} {A : Around} {E : Value → Shared → Prop} {s : Shared} {env : Env} {m : Str → Option Value} {x : Str} {pos : Pos} {v : Value} {Q : Value → Shared → Prop} (hn : s.heap.Ns env.locals m) (hv : m x = some v) (h : Q v s)
    (hk : env.scope.kind = .function := by rfl) (hl : env.kindOf x = some .local := by rfl) (hd : (x == ("__debug__" : Str)) = false := by decide) : wpAny M A (eval (.Name x pos) env) Q E s := wpAny_Name (wpAny_loadName_local hk hl hn hv h) hd
theorem kept_but {K : Frag} {h h' : Heap} {x : Addr} (X : K.In h) (hx : K.lookup x = none) (k : ∀ b o, b ≠ x → h.get? b = some o → h'.get? b = some o) : K.In h' := fun a o e =>
  k a o (fun z => by rw [z, hx] at e; cases e) (X a o e)
section
variable {prog : Program} {w : World} {A : Around} {E : Value → Shared → Prop} {R : Result → Shared → Prop} {s : Shared} {K : Frag} {C fI : Addr} {f : Str} {mg mb : Str → Option Value}

theorem call_mw {u x t0 : Addr} {nm q : Str} {N : Addr} {bs bm : List Value} {hdct : Bool} {sn : List Str} {sub : List Value} {ab : Bool} {col : Option Bool} {dd : Option Addr} {k0 k1 k2 k3 k5 : Option Value} {h : Heap} {g : Array GenState} {d : Drawn} {t : Nat} {os : OsState} {rest : List Value} {Q : Value → Shared → Prop}
    (hC : h.get? C = some (excClassObj nm q C N bs bm hdct sn sub ab col dd k0 k1 k2 k3 k5 "ValueError.__new__")) (he : h.get? x = some (excO C t0)) (hu : h.get? u = some (kxs_mw "ValueError.__init__" x)) (hz : rest.length ≤ sizeLine)
    (hq : ∀ h' t1, (∀ b o, b ≠ x → h.get? b = some o → h'.get? b = some o) → h'.get? x = some (excO C t1) → Q .none ⟨h', g, d, t, os⟩) :
    wpAny (model prog w) A (call (.ref u) rest) Q E ⟨h, g, d, t, os⟩ := by
  refine wpAny_call (codeAny_of_tree ?_)
  show wpAny _ A.in1 (callAny (.ref u) ⟨rest, []⟩) _ _ _
  simp only [callAny]
  refine wpAny_bind (wpAny_load hu ?_)
  simp only [kxs_mw, show (Value.type "method-wrapper" == Value.type "method" || Value.type "method-wrapper" == Value.type "builtin_function_or_method" || Value.type "method-wrapper" == Value.type "method-wrapper") = true by decide, if_true]
  refine KFB.if_so (by decide) ?_
  refine wpAny_bind (check_bound_init F.excBase_ValueError.toExcCallFacts hC he rfl ?_)
  refine wpAny_bind (wpAny_pure (wpAny_pure ?_))
  refine ⟨plainId_quiet F.excBase_ValueError.init.plain _, codeAny_builtin F.excBase_ValueError.initEntry ?_⟩
  exact exc_init_tree (cls := .ref C) (t0 := t0) (dv := none) (c2 := .none) (c3 := .none) (b4 := .bool false) he hz fun h' k e' _ => hq h' _ k e'

theorem kind_self : (iS f).names.lookup ("self" : Str) = some .local := by rfl
theorem init (T : Txt prog K f C fI) {x t0 : Addr} {v : Value} (X : K.In s.heap) (hlim : s.heap.NoLimit) (hx : s.heap.get? x = some (excO C t0)) (hnx : K.lookup x = none) (hroom : A.depth < recursionLimit)
    (hg : s.heap.Ns mainGlobals mg) (hgs : mg "super" = none) (hb : s.heap.Ns builtinsNs mb) (hbs : mb "super" = some (.type "super")) (hf : IsF f)
    (hq : ∀ h' tk dx t1, InitEnd s.heap h' f x C dx t1 v → R (.ok (.ret .none)) { s with heap := h', toks := tk }) :
    codeAny (model prog w) A (.call (.ref fI) ⟨[.ref x, v], []⟩) R s := by
  obtain ⟨hfs, hfd, hfc, hfu, hbd⟩ := hf
  obtain ⟨nmI, qual, oc, od, doc, pm, an, cda, ct, cc, osl, p1, p2, r1, r2, r3, r4, r5, r6, q1, q2, q3, q4, ho, hcd, hln, ⟨ccl, cdd, vs, ccs, file, tf, hcode, hvs, hfile⟩, ⟨cl, cld, csl, hcell⟩⟩ := T.fn
  obtain ⟨nm, q, N, bs, bm, sn, sub, ab, col, dd, k0, k1, k2, k3, k5, hC, hbm⟩ := T.cls
  have hcl : clsIn K C = some { name := nm, bases := bs, mro := .ref C :: bm, ns := N, qualname := q, hasDict := true, slotNames := sn, subclasses := sub, abstract := ab, collection := col, hasDel := false } := by unfold clsIn; rw [hC] <;> rfl
  obtain ⟨hp, g, dr, tk, os⟩ := s
  have lf : ∀ y, (iS f).names.lookup y = if y == "self" then some .local else if y == f then some .local else if y == "__class__" then some .free else if y == "super" then some .globalImplicit else none := by
    intro y
    show List.lookup y [_, _, _, _] = _
    simp only [List.lookup]
    repeat' split
    all_goals first | rfl | simp_all
  have kS : (iS f).names.lookup ("self" : Str) = some .local := by rw [lf]; rfl
  have kF : (iS f).names.lookup f = some .local := by rw [lf, hfs]; simp
  have kc : (iS f).names.lookup ("__class__" : Str) = some .free := by
    rw [lf, show (("__class__" : Str) == f) = false from by rw [← hfc]; exact Bool.eq_iff_iff.mpr ⟨fun h => by rw [beq_iff_eq] at h ⊢; exact h.symm, fun h => by rw [beq_iff_eq] at h ⊢; exact h.symm⟩]
    rfl
  have ks : (iS f).names.lookup ("super" : Str) = some .globalImplicit := by
    rw [lf, show (("super" : Str) == f) = false from by rw [← hfu]; exact Bool.eq_iff_iff.mpr ⟨fun h => by rw [beq_iff_eq] at h ⊢; exact h.symm, fun h => by rw [beq_iff_eq] at h ⊢; exact h.symm⟩]
    rfl
  refine ks_codeAny_call_defAt (fd := ksFn nmI qual (iA f p1 p2) (iB f r1 r2 r3 r4 r5 r6 q1 q2 q3 q4) (iS f) .none .none doc pm an (.ref cda) ct cc) (body := iB f r1 r2 r3 r4 r5 r6 q1 q2 q3 q4) (binds := [("self", .ref x), (f, v)]) hroom (X _ _ ho) rfl hlim (codeRec_of X hcd) rfl ?_ ?_ ?_ (fun h₁ hns hk₁ => ?_)
  · exact BindsTo.of_eq (hbd ..)
  · intro y hy
    simp only [iS, List.mem_cons, List.not_mem_nil, or_false] at hy
    rcases hy with rfl | rfl | rfl | rfl <;> (intro h; cases h)
  · intro y hy
    simp only [List.mem_cons, List.not_mem_nil, or_false] at hy
    rcases hy with rfl | rfl
    · exact kS
    · exact kF
  have hx₁ : h₁.get? x = some (excO C t0) := hk₁ _ _ hx
  have X₁ : K.In h₁ := X.keeps hk₁
  -- the frame's names
  have vs' : ([("self", Value.ref x), (f, v)] : List (Str × Value)).reverse.lookup ("self" : Str) = some (.ref x) := by
    show List.lookup ("self" : Str) [(f, v), ("self", Value.ref x)] = _
    have z : (("self" : Str) == f) = false := by rw [← hfs]; exact Bool.eq_iff_iff.mpr ⟨fun h => by rw [beq_iff_eq] at h ⊢; exact h.symm, fun h => by rw [beq_iff_eq] at h ⊢; exact h.symm⟩
    simp only [List.lookup, z]
    rfl
  have vf' : ([("self", Value.ref x), (f, v)] : List (Str × Value)).reverse.lookup f = some v := by
    show List.lookup f [(f, v), ("self", Value.ref x)] = _
    simp [List.lookup]
  obtain ⟨cfd, hcfd⟩ : ∃ e : Env, e = ksEnv qual (iS f) hp.objs.size fI (.ref cda) cc := ⟨_, rfl⟩
  have hxL : hp.objs.size ≠ x := Nat.ne_of_gt (Heap.lt_size hx)
  have nsk : ∀ h' : Heap, (∀ b o, h₁.get? b = some o → h'.get? b = some o) → h'.Ns hp.objs.size (fun y => ([("self", Value.ref x), (f, v)] : List (Str × Value)).reverse.lookup y) := fun h' k => hns.keeps k
  show _root_.PySem.wpAt _ _ _ (execs (iB f r1 r2 r3 r4 r5 r6 q1 q2 q3 q4) (ksEnv qual (iS f) hp.objs.size fI (.ref cda) cc)) _ _ _
  refine ks_wpAt_execs_cons (ks_wpAt_Expr_any (ks_wpAt_MethodCall ?_ (ev_super qual hp.objs.size fI cc (.ref cda) r1 r2 r3 r4 r5 hln)))
  have kind1 : (ksEnv qual (iS f) hp.objs.size fI (.ref cda) cc).kindOf "super" = some .globalImplicit := ks
  have kind2 : (ksEnv qual (iS f) hp.objs.size fI (.ref cda) cc).kindOf "__class__" = some .free := kc
  have kind3 : (ksEnv qual (iS f) hp.objs.size fI (.ref cda) cc).kindOf "self" = some .local := kS
  have kind4 : (ksEnv qual (iS f) hp.objs.size fI (.ref cda) cc).kindOf f = some .local := kF
  refine ks_wpAt_super_base (ar := { arg := "self", annotation := none, pos := p1 }) kind1 kind2 (by decide) rfl (X₁ _ _ ho) rfl rfl rfl (X₁ _ _ hcode) rfl hvs hfile T.top ?_
  refine ks_loadName_global rfl kind1 (Calls.loadGlobal_builtin (hg.keeps hk₁) hgs (hb.keeps hk₁) hbs ⟨rfl, ?_⟩)
  refine wpAny_loadName_free rfl kind2 (by rfl) ⟨_, X₁ _ _ hcell, rfl⟩ ?_
  refine wpAny_loadName_local rfl kind3 hns vs' ?_
  refine ks_wpAny_isType_cls (X₁ _ _ hC) rfl ⟨rfl, ?_⟩
  refine ks_wpAny_call_super (X₁ _ _ hC) rfl hx₁ rfl (fun c e => by cases e) (looks_mroIn X₁ T.slf) (fun h₂ e₂ k₂ => ?_)
  have X₂ : K.In h₂ := X₁.keeps k₂
  have I₂ : InstAt h₂ x (excO C t0) C none := ⟨k₂ _ _ hx₁, rfl, rfl, trivial⟩
  have hsu := T.su
  unfold ks_superIn at hsu
  rw [hcl, Option.bind_some] at hsu
  refine kxs_getMethod kxs_ValueError e₂ (looks_opaque X₂ T.op) (l₀ := .ref C :: bm) ?_ rfl X₂ hsu (I₂.type.andThen (looks_subIn X₂ T.vEC)) ?_ (by decide) ?_
  · exact fun A Q E s k q => wpAny_bind ((looks_clsIn X₂ hcl) A _ E s k (wpAny_pure q))
  · intro z
    rw [z] at hnx
    rw [hnx] at hC
    cases hC
  have hu₃ : (h₂.push (kxs_mw "ValueError.__init__" x)).get? h₂.objs.size = some (kxs_mw "ValueError.__init__" x) := Heap.get?_push_at rfl rfl
  have k₃ : ∀ b o, h₂.get? b = some o → (h₂.push (kxs_mw "ValueError.__init__" x)).get? b = some o := fun b o e => Heap.get?_push_of_some _ e
  refine kxs_callWith (i := "ValueError.__init__") (x := x) (by rfl) ?_
  refine evalArgs_plain (Calls.spliced_cons ?_)
  have k₁₃ : ∀ b o, h₁.get? b = some o → (h₂.push (kxs_mw "ValueError.__init__" x)).get? b = some o := fun b o e => k₃ b o (k₂ b o e)
  refine ldL (nsk _ k₁₃) vf' ?_ rfl kind4 hfd
  refine Calls.spliced_nil ⟨hu₃, ?_⟩
  have hx₃ := k₁₃ _ _ hx₁
  refine call_mw (k₁₃ _ _ (X₁ _ _ hC)) hx₃ hu₃ (by rw [sizeLine_eq]; exact (by decide : 1 ≤ 16777216)) fun h₄ t1 k₄ hx₄ => ?_
  -- self.f = f
  have k₁₄ : ∀ b o, b ≠ x → h₁.get? b = some o → h₄.get? b = some o := fun b o hb e => k₄ b o hb (k₁₃ b o e)
  have hn₄ : h₄.Ns hp.objs.size (fun y => ([("self", Value.ref x), (f, v)] : List (Str × Value)).reverse.lookup y) := by
    obtain ⟨oL, es, ep, hL, r⟩ := hns
    exact ⟨oL, es, ep, k₁₄ _ _ hxL hL, r⟩
  have X₄ : K.In h₄ := kept_but X₁ hnx k₁₄
  refine ks_wpAt_execs_cons (wpAt_of_wpAny (plainObj_wpAny_Assign_Attribute ?_))
  refine ldL hn₄ vf' ?_ rfl kind4 hfd
  refine ldL hn₄ vs' ?_ rfl kind3
  refine set_plain X₄ (ox := excO C t1) (od := none) ⟨hx₄, rfl, rfl, trivial⟩ T.sa ?_
  refine exc_osa X₄ hx₄ hcl (show refsVE (.ref C :: bm) = true from hbm) rfl T.noN (fun h₅ tk₅ dx k₅ dn dne hx₅ hn₅ => ?_)
  refine wpAt_of_wpAny (wpAny_execs_nil (hq h₅ tk₅ dx t1 ⟨fun b o hb e => k₅ b o hb (k₁₄ b o hb (hk₁ b o e)), hx₅, ?_, dne, hn₅⟩))
  have z1 : hp.objs.size < h₄.objs.size := hn₄.lt
  exact Nat.le_of_lt (Nat.lt_of_lt_of_le z1 dn)
theorem made (T : Txt prog K f C fI) {v : Value} (X : K.In s.heap) (hlim : s.heap.NoLimit) (hroom : A.depth + 1 < recursionLimit)
    (hg : s.heap.Ns mainGlobals mg) (hgs : mg "super" = none) (hb : s.heap.Ns builtinsNs mb) (hbs : mb "super" = some (.type "super")) (hf : IsF f)
    (hq : ∀ h' tk e d, OwnMade s.heap h' f e C d v → R (.ok (.ret (.ref e))) { s with heap := h', toks := tk }) :
    codeAny (model prog w) A (.call (.ref C) ⟨[v], []⟩) R s := by
  obtain ⟨nm, q, N, bs, bm, sn, sub, ab, col, dd, k0, k1, k2, k3, k5, hC, hbm⟩ := T.cls
  obtain ⟨hp, g, dr, tk, os⟩ := s
  have k : ∀ b o, hp.get? b = some o → ((hp.push (kdv_tup [v])).push (excO C hp.objs.size)).get? b = some o := fun b o e => Heap.get?_push_of_some _ (Heap.get?_push_of_some _ e)
  have hget : ((hp.push (kdv_tup [v])).push (excO C hp.objs.size)).get? (hp.objs.size + 1) = some (excO C hp.objs.size) := by heap_get
  have hnx : K.lookup (hp.objs.size + 1) = none := by
    cases e : K.lookup (hp.objs.size + 1) with
    | none => rfl
    | some o =>
      have z : hp.get? (hp.objs.size + 1) = some o := X _ _ e
      exact absurd (Nat.lt_of_succ_lt (Heap.lt_size z)) (Nat.lt_irrefl _)
  refine call_own F.excBase_ValueError (fun X => refsVE_contains X bm hbm) (X _ _ hC) (looks_findIn X T.iC) (fun self => bind_fn X self T.tC) (by rw [sizeLine_eq]; exact (by decide : 1 ≤ 16777216)) ?_
  refine init (s := ⟨(hp.push (kdv_tup [v])).push (excO C hp.objs.size), g, dr, tk, os⟩) T (X.keeps k) (hlim.keeps k) hget hnx ?_ (hg.keeps k) hgs (hb.keeps k) hbs hf fun h' tk' dx t1 ⟨k', hx, dn, dne, hns⟩ => ?_
  · show A.depth + 1 < recursionLimit
    exact hroom
  · have old : ∀ b o, hp.get? b = some o → h'.get? b = some o := fun b o e => k' b o (Nat.ne_of_lt (Nat.lt_succ_of_lt (Heap.lt_size e))) (k b o e)
    have z : hp.objs.size + 1 + 1 ≤ dx := by
      first
        | (simpa only [Heap.size_push] using dn)
        | exact dn
        | (have q := dn; rw [Heap.size_push, Heap.size_push] at q; exact q)
    exact ⟨rfl, hq h' tk' (hp.objs.size + 1) dx ⟨old, Nat.le_succ _, ⟨_, _, hx, rfl, rfl, rfl, rfl⟩, Nat.le_trans (Nat.le_trans (Nat.le_succ _) (Nat.le_succ _)) z, dne, hns⟩⟩
end
end Oex
end PySem
namespace Rf
open PySem PySem.Spec PyProof.Rows L2
theorem relO_own {v : V} {v' : Value} {f0 : Str} (r : RelV v v') (f : Str) : RelO (List.lookup f [(f0, v)]) (if f = f0 then some v' else none) := by
  by_cases hw : f = f0
  · subst hw
    rw [if_pos rfl]
    have q : List.lookup f [(f, v)] = some v := by simp [List.lookup]
    rw [q]
    exact r
  · rw [if_neg hw]
    have qw : (f == f0) = false := by simpa using hw
    have q2 : List.lookup f [(f0, v)] = none := by simp [List.lookup, qw]
    rw [q2]
    trivial
/-- the exception class c, by the name x -/
structure XcOk (G : Gx) (X : Cx) (x : Str) (c : Nat) : Prop where
  ex : ∃ fI, Oex.Txt X.prog X.K (G.fld c) (G.cd c) fI
  isf : Oex.IsF (G.fld c)
  gl : Gl X x
  mg : X.mg x = some (.ref (G.cd c))
  nd : (x == ("__debug__" : Str)) = false
  sup : X.mg "super" = none
section
variable {G : Gx} {W : WX} {X : Cx}
def tMk (C : Addr) (f : Str) (ta : TA) : L2.St → Hp → XK → Prop := fun σ H Q => ta σ H fun vs H1 => ∃ v, vs = [v] ∧ ∀ d, H1 d = none → Q (.ref C) (some d) (upd H1 d (.xd [(f, v)]))
theorem pmk_own {x : Str} {c : Nat} {a : Expr} {te : TA} {p pos : Pos} {k : Nat} (T : XcOk G X x c) (hr : Room (k + 1) X.A) (ha : PA X [a] te)
    (he : starEach (a :: []) X.env = (false, eval a X.env) :: starEach [] X.env) :
    PMk X (.Call (.Name x p) [a] [] pos) (tMk (G.cd c) (G.fld c) te) := by
  intro pins s σ H Q I h
  obtain ⟨fI, Ttxt⟩ := T.ex
  refine wpAny_Call_Name_kw (ld_glob I T.gl T.mg ?_ T.nd)
  refine PySem.W.callWith_K (h₀ := X.base) I.ok.mod.kin Ttxt.kC (thn (ha.run pos pins s σ H _ I h) fun us s1 hh => ?_) he (by rfl)
  obtain ⟨vs, H1, I1, r1, v, ev, q1⟩ := hh
  subst ev
  refine ⟨I1.kIn, ?_⟩
  cases r1 with
  | cons rv rn =>
    rename_i v' us'
    cases rn
    show wpAny _ _ (call (.ref (G.cd c)) [v']) _ _ _
    have hlim := I1.nolimit
    obtain ⟨mb, hb1, hb2⟩ := I1.mod.blt
    have hgl := I1.mod.glob.keeps I1.bk
    have hbl := hb1.keeps I1.bk
    have hbs : mb "super" = some (.type "super") := (hb2 _ (by decide)).trans (by first | rfl | kernel_rfl)
    obtain ⟨hp, g, dr, tk, os⟩ := s1
    refine wpAny_call (Oex.made Ttxt I1.kIn hlim (by have := hr.dp; omega) hgl T.sup hbl hbs T.isf fun h' tk' e d M => ?_)
    show MkP X pins σ Q (.ref e) ⟨h', g, dr, tk', os⟩
    obtain ⟨oe, fv, hoe, hc, hd, hdat, h1⟩ := M.obj
    have hns := M.ns
    obtain ⟨G', g1, g2⟩ := restrict h' fun b => decide (b ≠ e)
    have gk : ∀ b, b ≠ e → G'.get? b = h'.get? b := fun b hb => g1 b (decide_eq_true hb)
    have ge : G'.get? e = none := g2 e (by simp)
    have old : ∀ b o, hp.get? b = some o → G'.get? b = some o := fun b o q => (gk b (Nat.ne_of_lt (Nat.lt_of_lt_of_le (Heap.lt_size q) M.new))).trans (M.keep b o q)
    have ob : ObjOk X.prog X.w (upd H1 d (.xd [(G.fld c, v)])) G' d (.xd [(G.fld c, v)]) :=
      ⟨_, hns.at (fun o q => (gk d M.dne).trans q), fun f => relO_own rv f⟩
    have J : Inv X pins σ (upd H1 d (.xd [(G.fld c, v)])) ⟨G', g, dr, tk', os⟩ := I1.laid (t' := tk') old M.dbig ob
    refine ⟨e, oe, fv, ⟨G', g, dr, tk', os⟩, _, .ref (G.cd c), some d, rfl, J, fun b o q => ?_, ge, hoe, ⟨hc, hd⟩, hdat, h1, ?_, rfl, I1.bare, raises_own Ttxt.exC Ttxt.tyC, q1 d (I1.hok.fresh M.dbig)⟩
    · by_cases hb : b = e
      · have q' : G'.get? b = some o := q
        rw [hb, ge] at q'; cases q'
      · exact (gk b hb).symm.trans q
    · rw [upd_ne (Ne.symm M.dne)]
      exact I1.hok.fresh M.new
def sRaise (c : Nat) (wa : WE) : WS := fun E ρ M => wa ρ M (fun d M1 => E.ex ρ c d M1) (E.ex ρ)
theorem mono_sRaise {c : Nat} {wa : WE} (ha : Mono wa) : MonoS (sRaise c wa) := fun E E' ρ M le => ha ρ M _ _ _ _ (fun d M1 => le.ex ρ c d M1) (fun c' r M' => le.ex ρ c' r M')
theorem sv_raise {x : Str} {c : Nat} {a : Expr} {wa : WE} {p pos pos2 : Pos} {k : Nat} (hc : X.calm = true) (T : XcOk G X x c) (hr : Room (k + 1) X.A) (tk : Takes X W) (ha : EV G W X a wa) (he : starred a = false) :
    SV G W X (.Raise (some (.Call (.Name x p) [a] [] pos)) none pos2) (sRaise c wa) :=
  ⟨mono_sRaise ha.mono, PS.imp (ps_raise hc tk (pmk_own T hr (av_cons ha av_nil he).pa (star_cons he))) fun D' σ H h => by
    obtain ⟨ρ, M, E, re, rm, ef, h⟩ := h
    refine tA_bind (av_cons ha av_nil he).mono re rm (ef.x re) (k := fun ds M1 => ∃ d, ds = [d] ∧ E.ex ρ c d M1) ?_ fun vs ds H1 M1 k1 r1 dn q => ?_
    · exact ha.mono ρ M _ _ _ _ (fun d M1 q => ⟨d, rfl, q⟩) (fun _ _ _ z => z) h
    · obtain ⟨d, rfl, q⟩ := q
      cases dn with
      | cons d1 dn2 =>
        rename_i v vs'
        cases dn2
        refine ⟨v, rfl, fun dd hdd => ?_⟩
        have md : M1 dd = none := r1.fresh hdd
        have kk : Keep H1 M1 (upd H1 dd (.xd [(G.fld c, v)])) M1 := Keep.new hdd
        have rr : RelM G (upd H1 dd (.xd [(G.fld c, v)])) M1 := r1.new hdd
        exact ef.ex ρ c d M1 σ _ _ _ (k1.trans kk) ((re.mono k1).mono kk) rr ⟨rfl, dd, v, rfl, upd_same, md, d1.mono kk⟩ q⟩
end
end Rf

set_option Elab.async false
set_option linter.all false
set_option maxRecDepth 100000
set_option maxHeartbeats 2000000
/-! Rf12: try with several clauses 'except C as n: return ..'. -/
namespace Rf
open PySem PySem.Spec PyProof.Rows L2
/-- what the clauses wish: each with its class, its name's slot (if any), what its suite wants -/
structure Cl where
  cls : Value
  ix : Option Nat
  ts : Addr → Value → Option Addr → TS
def Cl.st (c : Cl) (a : Addr) (σ : L2.St) : L2.St := match c.ix with
  | some i => σ.set i (some (.ref a))
  | none => σ
def Cl.off (c : Cl) (D : Ends) : Ends := match c.ix with
  | some i => { nx := fun σ' H' => D.nx (σ'.set i none) H', rt := D.rt, bk := fun σ' H' => D.bk (σ'.set i none) H', ct := fun σ' H' => D.ct (σ'.set i none) H' }
  | none => D
def wCl (K : PySem.W.Frag) (Wout : WX) (D : Ends) : List Cl → WX
  | [] => Wout
  | c :: r => fun cls d σ H => ∃ b, PySem.W.exmOne K cls c.cls = some b ∧ (b = true → ∀ a, H a = none → c.ts a cls d (c.off D) (c.st a σ) H) ∧ (b = false → wCl K Wout D r cls d σ H)
inductive ClsOk (X : Cx) : List ExceptHandler → List Cl → Prop
  | nil : ClsOk X [] []
  | as {x n : Str} {c : Value} {i : Nat} {ts : Addr → Value → Option Addr → TS} {b₀ : Stmt} {suite : List Stmt} {np pos' : Pos} {hds : List ExceptHandler} {l : List Cl} (hc : Names X x c)
      (hN : X.N.Nodup) (hi : X.N[i]? = some n) (hln : X.env.kindOf n = some .local)
      (hsu : ∀ (a : Addr) (oe : Obj) (cls : Value) (d : Option Addr) (pn : List (Addr × Obj)), Zc cls d oe → (∃ vs, oe.data = .fields vs) → PSs (X.suite a ((a, oe) :: pn)) (b₀ :: suite) (ts a cls d)) (r : ClsOk X hds l) :
      ClsOk X (.ExceptHandler (some (.Name x np)) (some n) (b₀ :: suite) pos' :: hds) (⟨c, some i, ts⟩ :: l)
  | no {x : Str} {c : Value} {ts : Addr → Value → Option Addr → TS} {b₀ : Stmt} {suite : List Stmt} {np pos' : Pos} {hds : List ExceptHandler} {l : List Cl} (hc : Names X x c)
      (hsu : ∀ (a : Addr) (oe : Obj) (cls : Value) (d : Option Addr) (pn : List (Addr × Obj)), Zc cls d oe → (∃ vs, oe.data = .fields vs) → PSs (X.suite a ((a, oe) :: pn)) (b₀ :: suite) (ts a cls d)) (r : ClsOk X hds l) :
      ClsOk X (.ExceptHandler (some (.Name x np)) none (b₀ :: suite) pos' :: hds) (⟨c, none, ts⟩ :: l)
section
variable {X : Cx} {body : List Stmt} {h₀ : ExceptHandler} {hds : List ExceptHandler} {l : List Cl} {pos : Pos} {tb : WX → TS} {Wout : WX}
theorem ps_try_cl (hs : X.stack = X.env :: X.outer) (hf : X.env.frame = some X.env.locals) (tk : Takes X Wout)
    (hb : ∀ (W : WX) (pn : List (Addr × Obj)) (xe : Value → Shared → Prop), Takes (X.tr pn xe) W → PassesOwn (model X.prog X.w) X.A X.env xe → PSs (X.tr pn xe) body (tb W))
    (hh : ClsOk X (h₀ :: hds) l) : PS X (.Try body (h₀ :: hds) [] [] pos) (fun D σ H => tb (wCl X.K Wout D l) D σ H) := by
  refine ⟨fun pins s σ H D I h => ?_⟩
  have ok := I.ok
  have hfr : X.A.frames = some (X.env :: X.outer) := by rw [ok.frames, hs]
  refine wpAny_Try_except ?_
  let xe' : Value → Shared → Prop := fun e s₁ => wpAny (model X.prog X.w) X.A (noteFrame e X.env) (fun _ s₂ => wpAny (model X.prog X.w) X.A (setFlight e none) (fun _ s₃ =>
    wpAny (model X.prog X.w) X.A (handleBy e X.env (h₀ :: hds)) (SP X pins D) X.xe s₃) X.xe s₂) X.xe s₁
  refine wpAny_mono ((hb (wCl X.K Wout D l) (X.pn ++ pins) xe' (fun u s' xx => ?_) PassesOwn.looking).run [] s σ H D (I.toTry _) h) (fun f s1 hsp => ?_) (fun e s1 he => he)
  · obtain ⟨a, B, sI, pins', σ', H', cls, d, rfl, J', nb, up, sky, na, os, ag, w⟩ := xx
    have J : Inv X pins σ' H' sI := J'.ofTry ok
    have sky' : Sky B (X.env :: X.outer) a (Zc cls d) X.env.locals s'.heap := by rw [← hs]; exact sky
    show wpAny (model X.prog X.w) X.A (noteFrame (.ref a) X.env) _ _ _
    refine Sky.land Zc.steady hfr hf sky' fun h3 fl3 up3 => ?_
    have J3 : Inv X pins σ' H' { s' with heap := h3 } := J.landed nb fl3.1 (up.trans up3) os ag
    obtain ⟨oe3, vs3, he3, hz3, hd3⟩ := fl3.there
    have nfr : a ∉ frs (X.env :: X.outer) := fun hm => by
      obtain ⟨_, o', e', hnf⟩ := fl3.2.2.1.mem hm
      rw [he3] at e'; cases e'
      exact hnf _ hd3
    have nL : a ≠ X.env.locals := fun z => nfr (List.mem_filterMap.mpr ⟨X.env, List.mem_cons_self, by rw [hf, z]⟩)
    have nF : a ∉ X.fs := fun hm => by
      obtain ⟨e, he, q⟩ := List.mem_filterMap.mp hm
      exact nfr (List.mem_filterMap.mpr ⟨e, List.mem_cons_of_mem _ he, q⟩)
    have S3 := J3.suite he3 hd3 na nL nF
    have test : ∀ {x : Str} {c : Value} {np : Pos} {Q : Value → Shared → Prop} {E : Value → Shared → Prop}, Names X x c → Q c { s' with heap := h3 } →
        wpAny (model X.prog X.w) (X.A.mark (some (.ref a))) (eval (.Name x np) X.env) Q E { s' with heap := h3 } := fun {x c np Q E} hc q => by
      obtain ⟨hg, hdbg, hm | ⟨hm, hv, hnn⟩⟩ := hc
      · exact ld_glob (X := X.suite a ((a, oe3) :: (X.pn ++ pins))) S3 hg hm q hdbg
      · exact ld_blt (X := X.suite a ((a, oe3) :: (X.pn ++ pins))) S3 hg hm hv q hnn hdbg
    have LT : PySem.W.Looks (model X.prog X.w) h3 (typeOf (.ref a)) cls := fun A Q E s k q => wpAny_typeOf_ref (k _ _ he3) (by rw [hz3.1]; exact q)
    have go : ∀ {hds' : List ExceptHandler} {l' : List Cl}, ClsOk X hds' l' → wCl X.K Wout D l' cls d σ' H' →
        wpAny (model X.prog X.w) X.A (handleBy (.ref a) X.env hds') (SP X pins D) X.xe { s' with heap := h3 } := by
      intro hds' l' hk
      induction hk with
      | nil =>
        intro w
        refine wpAny_handleBy_nil ?_
        obtain ⟨k1, k2, k3, oe, vs, T, oT, ts', he, hz, hd, h1, hr⟩ := id fl3
        unfold PySem.passOn
        refine wpAny_bind (wpAny_field he hd h1 ?_)
        rw [if_neg (by simp : ¬ ((Value.ref T == Value.none) = true))]
        have fin : wpAny (model X.prog X.w) X.A (setFlight (.ref a) X.env.frame) (fun _ s4 => wpAny (model X.prog X.w) X.A (throw (.ref a) : Sem Flow) (SP X pins D) X.xe s4) X.xe { s' with heap := h3 } := by
          rw [hf]
          refine HandSPX.setFlight_upZ fl3 fun h4 hh4 up4 => wpAny_throw (tk _ _ ?_)
          exact ⟨a, B, sI, pins, σ', H', cls, d, rfl, J, nb, (up.trans up3).trans up4, .inr (.inr (by rw [hs]; exact hh4)), na, os, ag, w⟩
        first
          | exact wpAny_bind (wpAny_pure (wpAny_bind fin))
          | exact wpAny_bind fin
      | @no x c ts b₀ suite np pos' hds2 l2 hc hsu r ih =>
        intro w
        obtain ⟨b, hb1, hyes, hno⟩ := w
        refine wpAny_handleBy_cons (codeAny_handlers_test ?_) (by intro q; cases q)
        have LM := PySem.W.exm_one (M := model X.prog X.w) (J3.kIn) LT hb1
        refine test hc (LM.here ?_)
        cases b with
        | true =>
          refine codeAny_handlers_suite ?_
          refine HandSPX.lands_againZ fl3 fun h4 fl4 up4 => ?_
          have J4 : Inv X pins σ' H' { s' with heap := h4 } := J.landed nb fl4.1 ((up.trans up3).trans up4) os ag
          obtain ⟨oe4, vs4, he4, hz4, hd4⟩ := fl4.there
          have S4 := J4.suite he4 hd4 na nL nF
          refine wpAny_mono ((hsu a oe4 cls d (X.pn ++ pins) hz4 ⟨_, hd4⟩).run [] _ _ H' _ S4 (hyes rfl a na)) (fun f s6 hsp => ?_) (fun _ _ z => False.elim z)
          cases f with
          | ret u =>
            obtain ⟨v6, σ6, H6, S6, r6, q6⟩ := hsp
            exact ⟨_, _, _, S6.unsuite ok, r6, q6⟩
          | _ =>
            obtain ⟨σ6, H6, S6, q6⟩ := hsp
            exact ⟨_, _, S6.unsuite ok, q6⟩
        | false =>
          show wpAny _ X.A (handleBy (.ref a) X.env hds2) _ _ _
          exact ih (hno rfl)
      | @as x n c i ts b₀ suite np pos' hds2 l2 hc hN hi hln hsu r ih =>
        intro w
        obtain ⟨b, hb1, hyes, hno⟩ := w
        refine wpAny_handleBy_cons (codeAny_handlers_test ?_) (by intro q; cases q)
        have LM := PySem.W.exm_one (M := model X.prog X.w) (J3.kIn) LT hb1
        refine test hc (LM.here ?_)
        cases b with
        | true =>
          refine codeAny_handlers_suite_as ?_
          refine HandSPX.lands_againZ fl3 fun h4 fl4 up4 => ?_
          have J4 : Inv X pins σ' H' { s' with heap := h4 } := J.landed nb fl4.1 ((up.trans up3).trans up4) os ag
          obtain ⟨oe4, vs4, he4, hz4, hd4⟩ := fl4.there
          have S4 := J4.suite he4 hd4 na nL nF
          refine store_ok (X := X.suite a ((a, oe4) :: (X.pn ++ pins))) (v := .ref a) S4 hN hi (.inl hln) rfl (fun s5 S5 => ?_) (.inr hln)
          refine wpAny_mono ((hsu a oe4 cls d (X.pn ++ pins) hz4 ⟨_, hd4⟩).run [] s5 _ H' _ S5 (hyes rfl a na)) (fun f s6 hsp => ?_) (fun _ _ z => False.elim z)
          have end_ : ∀ {σ6 : L2.St} {H6 : Hp} {Q : Shared → Prop}, Inv (X.suite a ((a, oe4) :: (X.pn ++ pins))) [] σ6 H6 s6 → (∀ s7, Inv X pins (σ6.set i none) H6 s7 → Q s7) →
              wpAny (model X.prog X.w) X.A (do bindName X.env n .none; unbindBehindTheSuite X.env n pos') (fun _ s7 => Q s7) X.xe s6 := fun {σ6 H6 Q} S6 hq => gone_ok (S6.unsuite ok) hN hi hln hq
          cases f with
          | ret u =>
            obtain ⟨v6, σ6, H6, S6, r6, q6⟩ := hsp
            exact end_ S6 fun s7 J7 => ⟨_, _, _, J7, r6, q6⟩
          | _ =>
            obtain ⟨σ6, H6, S6, q6⟩ := hsp
            exact end_ S6 fun s7 J7 => ⟨_, _, J7, q6⟩
        | false =>
          show wpAny _ X.A (handleBy (.ref a) X.env hds2) _ _ _
          exact ih (hno rfl)
    exact go hh w
  · cases f with
    | next =>
      obtain ⟨σ', H', J', q⟩ := hsp
      exact wpAny_execs_nil ⟨σ', H', J'.ofTry ok, q⟩
    | ret u =>
      obtain ⟨v, σ', H', J', r, q⟩ := hsp
      exact ⟨v, σ', H', J'.ofTry ok, r, q⟩
    | _ =>
      obtain ⟨σ', H', J', q⟩ := hsp
      exact ⟨σ', H', J'.ofTry ok, q⟩
end
end Rf
namespace Rf
open PySem PySem.Spec PyProof.Rows L2
/-! the value that a clause returns, from the exception's own field -/
def tHX (G : Gx) (n i : Nat) (hv : D → D) (a : Addr) (cls : Value) (d : Option Addr) : TE := fun σ H Q => ∃ M c r, c < n ∧ RelM G H M ∧ σ[i]? = some (some (.ref a)) ∧ XDen G H M cls d c r ∧
  ∀ v H', Keep H M H' M → RelM G H' M → Den G H' M v (hv r) → Q v H'
def tHA (G : Gx) (n i : Nat) (hv : D → List D) (a : Addr) (cls : Value) (d : Option Addr) : TA := fun σ H Q => ∃ M c r, c < n ∧ RelM G H M ∧ σ[i]? = some (some (.ref a)) ∧ XDen G H M cls d c r ∧
  ∀ vs H', Keep H M H' M → RelM G H' M → Dens G H' M vs (hv r) → Q vs H'
section
variable {G : Gx} {W : WX} {X : Cx} {n i : Nat}
theorem hx_con {X' : Cx} {a : Addr} {cls : Value} {d : Option Addr} {e : Expr} {v : V} {q : D} (he : PE X' e (tC v)) (hd : ∀ H M, Den G H M v q) : PE X' e (tHX G n i (fun _ => q) a cls d) :=
  PE.imp he fun σ H Q ⟨M, c, r, hc, rm, hs, xd, k⟩ => k v H Keep.refl rm (hd H M)
theorem hx_fld {a : Addr} {oe : Obj} {cls : Value} {d : Option Addr} {pn : List (Addr × Obj)} {e : Expr} {f : Str} {pos : Pos} (hK : G.K = X.K) (T : ∀ c, c < n → (∃ fI, Oex.Txt X.prog X.K (G.fld c) (G.cd c) fI) ∧ G.fld c = f) (hz : Zc cls d oe) (hf : ∃ vs, oe.data = .fields vs)
    (he : PE (X.suite a ((a, oe) :: pn)) e (tVar i)) (hb : attributeBase e f X.env (eval e X.env) = eval e X.env) :
    PE (X.suite a ((a, oe) :: pn)) (.Attribute e f pos) (tHX G n i (fun r => r) a cls d) := by
  refine ⟨fun pins s σ H Q I h => ?_⟩
  obtain ⟨M, c, r, hc, rm, hs, xd, k⟩ := h
  obtain ⟨⟨fI, TX⟩, hfc⟩ := T c hc
  refine attr_of hb (thn (he.run pins s σ H (fun v H1 => v = .ref a ∧ H1 = H) I ⟨_, hs, rfl, rfl⟩) fun u s1 hh => ?_)
  obtain ⟨x, H1, I1, rx, ex, eh⟩ := hh
  subst ex
  subst eh
  obtain rfl : u = Value.ref a := rx
  obtain ⟨ec, dd, v, ed, ea, em, dv⟩ := xd
  subst ec
  subst ed
  subst hfc
  obtain ⟨ha, _⟩ := I1.pin (a, oe) (List.mem_append_left _ List.mem_cons_self)
  obtain ⟨vs, hd⟩ := hf
  have hx : ObjOk X.prog X.w H1 s1.heap dd (.xd [(G.fld c, v)]) := I1.hok dd _ ea
  obtain ⟨mA, hns, hr⟩ := hx
  obtain ⟨od, ho, hl⟩ := lookIn_ns hns
  have l : List.lookup (G.fld c) [(G.fld c, v)] = some v := by simp [List.lookup]
  obtain ⟨u, hu, ru⟩ := RelO.some_of (v := v) (o := mA (G.fld c)) (by rw [← l]; exact hr (G.fld c))
  have J : PySem.W.InstAt s1.heap a oe (G.cd c) (some od) := ⟨ha, hz.1, by unfold PySem.W.notCls; rw [hd] <;> rfl, by rw [hz.2]; exact ho⟩
  exact HandSPX.exc_get I1.kIn J TX.ga TX.gg TX.exC (PySem.W.findObj_own TX.hdC TX.noN rfl (by rw [hl, hu])) (handed_of ru) ⟨v, H1, I1.tok _, ru, k v H1 Keep.refl rm dv⟩
theorem ha_nil {X' : Cx} {a : Addr} {cls : Value} {d : Option Addr} : PA X' [] (tHA G n i (fun _ => []) a cls d) := PA.imp pa_nil fun σ H Q ⟨M, c, r, hc, rm, hs, xd, k⟩ => k [] H Keep.refl rm .nil
theorem ha_cons {X' : Cx} {a : Addr} {cls : Value} {d : Option Addr} {e : Expr} {es : List Expr} {hv : D → D} {hvs : D → List D} (h1 : PE X' e (tHX G n i hv a cls d)) (h2 : PA X' es (tHA G n i hvs a cls d)) (hs : starred e = false) :
    PA X' (e :: es) (tHA G n i (fun r => hv r :: hvs r) a cls d) := PA.imp (pa_cons h1 h2 (star_cons hs)) fun σ H Q ⟨M, c, r, hc, rm, hs, xd, k⟩ =>
  ⟨M, c, r, hc, rm, hs, xd, fun v H1 k1 r1 d1 => ⟨M, c, r, hc, r1, hs, xd.mono k1, fun vs H2 k2 r2 d2 => k _ H2 (k1.trans k2) r2 (.cons (d1.mono k2) d2)⟩⟩
theorem hx_tup {X' : Cx} {a : Addr} {cls : Value} {d : Option Addr} {es : List Expr} {hvs : D → List D} {kk : Nat} {pos : Pos} (h : PA X' es (tHA G n i hvs a cls d)) (hl : ∀ r, (hvs r).length ≤ 16777216) :
    PE X' (.Tuple es kk pos) (tHX G n i (fun r => .tup (hvs r)) a cls d) := PE.imp (pe_tup h) fun σ H Q ⟨M, c, r, hc, rm, hs, xd, k⟩ =>
  ⟨M, c, r, hc, rm, hs, xd, fun vs H1 k1 r1 d1 => ⟨len_line (by rw [d1.length]; exact hl r), by
    have f : Fit G H1 M (fun d M' => d = .tup (hvs r) ∧ M' = M) Q := fun v d H' M' k' r' dn q => by
      obtain ⟨rfl, rfl⟩ := q
      exact k v H' (k1.trans k') r' dn
    exact f.tup r1 d1 ⟨rfl, rfl⟩⟩⟩
/-! the clauses -/
structure Hd where
  c : Nat
  ix : Option Nat
  hv : D → D
def Hd.fits (h : Hd) (ρ : Env') : Prop := match h.ix with
  | some i => i < ρ.length
  | none => True
def En.tr (n : Nat) (sub : Nat → Nat → Bool) (hs : List Hd) (E : En) : En := { E with ex := fun ρ' c r M' => c < n ∧ match hs.find? (fun h => sub c h.c) with
  | some h => h.fits ρ' ∧ E.rt (h.hv r) M'
  | none => E.ex ρ' c r M' }
def sTry (n : Nat) (sub : Nat → Nat → Bool) (wb : WS) (hs : List Hd) : WS := fun E ρ M => wb (E.tr n sub hs) ρ M
theorem mono_sTry {sub : Nat → Nat → Bool} {wb : WS} {hs : List Hd} (hb : MonoS wb) : MonoS (sTry n sub wb hs) := fun E E' ρ M le => hb _ _ ρ M ⟨le.nx, le.rt, le.bk, le.ct, fun ρ' c r M' h => ⟨h.1, by
  have h2 := h.2
  cases e : hs.find? (fun h => sub c h.c) with
  | some h' =>
    rw [e] at h2
    exact ⟨h2.1, le.rt _ _ h2.2⟩
  | none =>
    rw [e] at h2
    exact le.ex _ _ _ _ h2⟩⟩
def tHS (G : Gx) (n : Nat) (h : Hd) (a : Addr) (cls : Value) (d : Option Addr) : TS := match h.ix with
  | some i => fun D σ H => tHX G n i h.hv a cls d σ H D.rt
  | none => fun D _ H => ∃ M c r, c < n ∧ RelM G H M ∧ XDen G H M cls d c r ∧ ∀ v H', Keep H M H' M → RelM G H' M → Den G H' M v (h.hv r) → D.rt v H'
def Hd.cl (G : Gx) (n : Nat) (h : Hd) : Cl := ⟨.ref (G.cd h.c), h.ix, tHS G n h⟩
theorem wCl_of {sub : Nat → Nat → Bool} {D' : Ends} {E : En} {H : Hp} {M : Mem} (hx : ∀ c c', c < n → c' < n → PySem.W.exmOne X.K (.ref (G.cd c)) (.ref (G.cd c')) = some (sub c c')) (ef : EFit G W D' H M E) :
    ∀ (hs : List Hd), (∀ h ∈ hs, h.c < n) → ∀ (ρ' : Env') (c : Nat) (r : D) (M' : Mem) (σ' : L2.St) (H' : Hp) (cls : Value) (d : Option Addr), Keep H M H' M' → RelE G H' M' σ' ρ' → RelM G H' M' → XDen G H' M' cls d c r → c < n →
      (match hs.find? (fun h => sub c h.c) with
        | some h => h.fits ρ' ∧ E.rt (h.hv r) M'
        | none => E.ex ρ' c r M') → wCl X.K W D' (hs.map (Hd.cl G n)) cls d σ' H'
  | [], _, ρ', c, r, M', σ', H', cls, d, k, re, rm, xd, hc, q => ef.ex ρ' c r M' σ' H' cls d k re rm xd q
  | h :: hs, hl, ρ', c, r, M', σ', H', cls, d, k, re, rm, xd, hc, q => by
    refine ⟨sub c h.c, by rw [xd.1]; exact hx c h.c hc (hl h List.mem_cons_self), fun hb a na => ?_, fun hb => ?_⟩
    · rw [show List.find? (fun h : Hd => sub c h.c) (h :: hs) = some h from List.find?_cons_of_pos hb] at q
      obtain ⟨q1, q2⟩ := q
      obtain ⟨hc', hix, hhv⟩ := h
      cases hix with
      | none =>
        exact ⟨M', c, r, hc, rm, xd, fun v H2 k2 r2 d2 => ef.rt v _ H2 M' (k.trans k2) r2 d2 q2⟩
      | some i =>
        refine ⟨M', c, r, hc, rm, ?_, xd, fun v H2 k2 r2 d2 => ef.rt v _ H2 M' (k.trans k2) r2 d2 q2⟩
        exact List.getElem?_set_self (by rw [re.len]; exact q1)
    · have hb' : ¬ (sub c h.c = true) := by rw [hb]; exact Bool.false_ne_true
      rw [show List.find? (fun h : Hd => sub c h.c) (h :: hs) = List.find? (fun h : Hd => sub c h.c) hs from List.find?_cons_of_neg hb'] at q
      exact wCl_of hx ef hs (fun h' m => hl h' (List.mem_cons_of_mem _ m)) ρ' c r M' σ' H' cls d k re rm xd hc q
theorem sv_try {sub : Nat → Nat → Bool} {wb : WS} {hs : List Hd} {body : List Stmt} {h₀ : ExceptHandler} {hds : List ExceptHandler} {pos : Pos} (hst : X.stack = X.env :: X.outer) (hf : X.env.frame = some X.env.locals) (tk : Takes X W)
    (hx : ∀ c c', c < n → c' < n → PySem.W.exmOne X.K (.ref (G.cd c)) (.ref (G.cd c')) = some (sub c c')) (hl : ∀ h ∈ hs, h.c < n)
    (hb : ∀ (W : WX) (pn : List (Addr × Obj)) (xe : Value → Shared → Prop), Takes (X.tr pn xe) W → PassesOwn (model X.prog X.w) X.A X.env xe → BV G W (X.tr pn xe) body wb) (mb : MonoS wb)
    (hh : ClsOk X (h₀ :: hds) (hs.map (Hd.cl G n))) : SV G W X (.Try body (h₀ :: hds) [] [] pos) (sTry n sub wb hs) :=
  ⟨mono_sTry mb, PS.imp (ps_try_cl (tb := fun W' => tS G W' wb) hst hf tk (fun W' pn xe t p => (hb W' pn xe t p).pss) hh) fun D' σ H h => by
    obtain ⟨ρ, M, E, re, rm, ef, h⟩ := h
    exact ⟨ρ, M, E.tr n sub hs, re, rm, ⟨ef.nx, ef.bk, ef.ct, ef.rt, fun ρ' c r M' σ' H' cls d k re' rm' xd q => wCl_of hx ef hs hl ρ' c r M' σ' H' cls d k re' rm' xd q.1 q.2⟩, h⟩⟩
end
end Rf

set_option Elab.async false
set_option linter.all false
set_option maxRecDepth 100000
set_option maxHeartbeats 2000000
/-! Rf13: the context's facts in one; rules by them; defs of a table. -/
namespace Rf
open PySem PySem.Spec PyProof.Rows L2
structure Wd where
  P : Program
  w : World
  mg : Str → Option Value
  base : Heap
/-- a context: names N, scope sc, room for lev calls -/
structure Cok (G : Gx) (W : WX) (X : Cx) (D0 : Wd) (N : List Str) (sc : Scope) (fo : Str → Bool) (lev : Nat) : Prop where
  eP : X.prog = D0.P
  ew : X.w = D0.w
  eM : X.mg = D0.mg
  eB : X.base = D0.base
  eN : X.N = N
  eS : X.env.scope = sc
  nd : N.Nodup
  hK : G.K = X.K
  calm : X.calm = true
  room : Room lev X.A
  gu : X.A.guards = some []
  tk : Takes X W
  fn : ∀ x, fo x = true → X.fn x = true
/-- a def's own context -/
structure Dok (G : Gx) (W : WX) (X : Cx) (D0 : Wd) (N : List Str) (sc : Scope) (lev : Nat) : Prop extends Cok G W X D0 N sc (fun _ => true) lev where
  po : PassesOwn (model X.prog X.w) X.A X.env X.xe
  st : X.stack = X.env :: X.outer
  fr : X.env.frame = some X.env.locals
def visB (sc : Scope) (x : Str) : Bool := match sc.names.lookup x with
  | some .local => true | some .cell => true | some .free => true | _ => false
def locB (fo : Str → Bool) (sc : Scope) (x : Str) : Bool := match sc.names.lookup x with
  | some .local => true | some .cell => fo x | _ => false
def glB (sc : Scope) (x : Str) : Bool := match sc.names.lookup x with
  | some .globalImplicit => true | _ => false
def nmB (x : Str) : Bool := !(x == ("__debug__" : Str)) && !(x == ("__classdict__" : Str)) && !(x == ("__name__" : Str))
theorem nm1 {x : Str} (h : nmB x = true) : (x == ("__debug__" : Str)) = false ∧ (x == ("__classdict__" : Str)) = false ∧ x ≠ "__name__" := by
  unfold nmB at h
  simp only [Bool.and_eq_true, Bool.not_eq_true'] at h
  exact ⟨h.1.1, h.1.2, fun e => by rw [e] at h; exact absurd h.2 (by decide)⟩
theorem visB_ok {sc : Scope} {x : Str} (h : visB sc x = true) : Vis sc x := by
  unfold visB at h
  split at h
  · rename_i e; exact .inl e
  · rename_i e; exact .inr (.inl e)
  · rename_i e; exact .inr (.inr e)
  · cases h
theorem locB_ok {fo : Str → Bool} {sc : Scope} {x : Str} (h : locB fo sc x = true) : sc.names.lookup x = some .local ∨ (sc.names.lookup x = some .cell ∧ fo x = true) := by
  unfold locB at h
  split at h
  · rename_i e; exact .inl e
  · rename_i e; exact .inr ⟨e, h⟩
  · cases h
theorem glB_ok {sc : Scope} {x : Str} (h : glB sc x = true) : sc.names.lookup x = some .globalImplicit := by
  unfold glB at h
  split at h
  · assumption
  · cases h
section
variable {G : Gx} {W : WX} {X : Cx} {D0 : Wd} {N : List Str} {sc : Scope} {fo : Str → Bool} {lev : Nat} {x : Str} {p pos : Pos}
variable {a b : Expr} {es : List Expr} {wa wb : WE} {ws : WA}
theorem Cok.gl (c : Cok G W X D0 N sc fo lev) (h : glB sc x = true) : Gl X x := by
  show X.env.scope.names.lookup x = _
  rw [c.eS]; exact glB_ok h
theorem Cok.xN (c : Cok G W X D0 N sc fo lev) {i : Nat} (h : N[i]? = some x) : X.N[i]? = some x := by rw [c.eN]; exact h
theorem Cok.nN (c : Cok G W X D0 N sc fo lev) : X.N.Nodup := by rw [c.eN]; exact c.nd
theorem Cok.vis (c : Cok G W X D0 N sc fo lev) (h : visB sc x = true) : Vis X.env.scope x := by rw [c.eS]; exact visB_ok h
theorem Cok.loc (c : Cok G W X D0 N sc fo lev) (h : locB fo sc x = true) : Loc X.env.scope x := by
  rw [c.eS]
  rcases locB_ok h with e | e
  · exact .inl e
  · exact .inr e.1
theorem Cok.lcl (c : Cok G W X D0 N sc fo lev) (h : sc.names.lookup x = some .local) : X.env.scope.names.lookup x = some .local := by rw [c.eS]; exact h
theorem Cok.fx (c : Cok G W X D0 N sc fo lev) (h : locB fo sc x = true) : X.fn x = true ∨ X.env.scope.names.lookup x = some .local := by
  rcases locB_ok h with e | e
  · exact .inr (c.lcl e)
  · exact .inl (c.fn x e.2)
theorem Cok.mgn (c : Cok G W X D0 N sc fo lev) (h : D0.mg x = none) : X.mg x = none := by rw [c.eM]; exact h
theorem Cok.mgs (c : Cok G W X D0 N sc fo lev) {u : Value} (h : D0.mg x = some u) : X.mg x = some u := by rw [c.eM]; exact h
def fob (scope : Scope) : Str → Bool := fun x => scope.names.lookup x == some .cell
theorem Cok.blk (c : Cok G W X D0 N sc fo lev) (s : Shared) (H : Hp) (scope : Scope) (C : Addr) (cl : List (Str × Addr)) (fp : List Addr) : Cok G W0 (X.blk s H scope (compEnvC scope cl C X.env) fp) D0 N (relS scope sc) (fob scope) lev :=
  ⟨c.eP, c.ew, c.eM, c.eB, c.eN, by show relS scope X.env.scope = _; rw [c.eS], c.nd, c.hK, c.calm, c.room, c.gu, takes_none5, fun x h => h⟩
theorem Dok.tr (c : Dok G W X D0 N sc lev) {W' : WX} {pn : List (Addr × Obj)} {xe : Value → Shared → Prop} (t : Takes (X.tr pn xe) W') (po : PassesOwn (model X.prog X.w) X.A X.env xe) : Dok G W' (X.tr pn xe) D0 N sc lev :=
  ⟨⟨c.eP, c.ew, c.eM, c.eB, c.eN, c.eS, c.nd, c.hK, c.calm, c.room, c.gu, t, c.fn⟩, po, c.st, c.fr⟩
/-! names and constants -/
theorem Cok.var (c : Cok G W X D0 N sc fo lev) (i : Nat) (h1 : N[i]? = some x) (h2 : visB sc x = true) (h3 : nmB x = true) : EV G W X (.Name x pos) (wVar i) := ev_var (c.xN h1) (c.vis h2) (nm1 h3).1 (nm1 h3).2.1
theorem ev_int {i : Int} {j} : EV G W X (.Constant (.int i) j pos) (wLit (.int i)) := ev_const pe_int fun _ _ => .int _
theorem ev_str {i : Str} {j} : EV G W X (.Constant (.str i) j pos) (wLit (.str i)) := ev_const pe_str fun _ _ => .str _
theorem ev_bl {i : Bool} {j} : EV G W X (.Constant (.bool i) j pos) (wLit (.bl i)) := ev_const pe_bl fun _ _ => .bl _
theorem ev_non {j} : EV G W X (.Constant .none j pos) (wLit .non) := ev_const pe_non fun _ _ => .non
theorem Cok.gfn (c : Cok G W X D0 N sc fo lev) {k : Nat} (h : glB sc x = true) (hm : D0.mg x = some (.ref (G.ad k))) (h3 : nmB x = true) : EV G W X (.Name x pos) (wLit (.fn k)) :=
  ev_const (pe_glob (c.gl h) (c.mgs hm) (v := .ref (G.ad k)) rfl (nm1 h3).1) fun _ _ => .fn _
theorem Cok.gint (c : Cok G W X D0 N sc fo lev) {i : Int} (h : glB sc x = true) (hm : ∃ t, D0.mg x = some (.int i t)) (h3 : nmB x = true) : EV G W X (.Name x pos) (wLit (.int i)) := by
  obtain ⟨t, hm⟩ := hm
  exact ev_const (pe_glob (c.gl h) (c.mgs hm) (v := .int i) ⟨t, rfl⟩ (nm1 h3).1) fun _ _ => .int _
theorem Cok.gstr (c : Cok G W X D0 N sc fo lev) {i : Str} (h : glB sc x = true) (hm : ∃ t, D0.mg x = some (.str i t)) (h3 : nmB x = true) : EV G W X (.Name x pos) (wLit (.str i)) := by
  obtain ⟨t, hm⟩ := hm
  exact ev_const (pe_glob (c.gl h) (c.mgs hm) (v := .str i) ⟨t, rfl⟩ (nm1 h3).1) fun _ _ => .str _
/-! targets -/
theorem Cok.pgn (c : Cok G W X D0 N sc fo lev) (i : Nat) (h1 : N[i]? = some x) (h2 : locB fo sc x = true) : PG X (.Name x pos) ((Tg.nm i).rd G.K) := pg_name c.nN (c.xN h1) (c.loc h2) (c.fx h2)
theorem Cok.gn (c : Cok G W X D0 N sc fo lev) (i : Nat) (h1 : N[i]? = some x) (h2 : locB fo sc x = true) : GV G X (.Name x pos) (gPut (.nm i)) := gv_put (c.pgn i h1 h2)
theorem starA {e : Expr} {env : PySem.Env} (h : starred e = false) (es : List Expr) : assignEach (e :: es) env = (false, assign e env) :: assignEach es env := by
  cases e <;> first | rfl | exact absurd h (by intro q; cases q)
theorem pgs_more {e : Expr} {t : Tg} {ts : Tgs} (h1 : PG X e (t.rd G.K)) (h2 : PGs X es (ts.rd G.K)) (hs : starred e = false) : PGs X (e :: es) ((Tgs.cons t ts).rd G.K) :=
  pgs_cons h1 h2 (starA_cons hs)
theorem pgs_none : PGs X [] (Tgs.nil.rd G.K) := pgs_nil
theorem aLen {env : PySem.Env} : ∀ {es : List Expr}, noStars es = true → (assignEach es env).length = es.length ∧ (assignEach es env).findIdx? (·.1) = none
  | [], _ => ⟨rfl, rfl⟩
  | e :: es, h => by
    have h' : starred e = false ∧ noStars es = true := by simpa [noStars] using h
    obtain ⟨a, b⟩ := aLen (env := env) h'.2
    rw [starA h'.1]
    exact ⟨by simp [a], by rw [List.findIdx?_cons]; simp [b]⟩
theorem Cok.pgt (c : Cok G W X D0 N sc fo lev) {k : Nat} {ts : Tgs} (h : PGs X es (ts.rd G.K)) (hs : noStars es = true) (hl : es.length = ts.len) : PG X (.Tuple es k pos) ((Tg.tup ts).rd G.K) := by
  show PG X _ (gTup G.K ts.len (ts.rd G.K))
  rw [c.hK] at h ⊢
  exact pg_tup c.calm h ((aLen hs).1.trans hl) (aLen hs).2
/-! calls -/
theorem Cok.bi {o : ON} {e : Expr} (c : Cok G W X D0 N sc fo lev) (B : BOk G X x o) (hg : glB sc x = true) (hm : D0.mg x = none) (ha : AV G W X (e :: es) ws) (hs : noStars (e :: es) = true) (hn : nmB x = true) : EV G W X (.Call (.Name x p) (e :: es) [] pos) (wN o ws) := by
  have h' : starred e = false ∧ noStars es = true := by simpa [noStars] using hs
  exact ev_bi B (c.gl hg) (c.mgn hm) ha h'.1 h'.2 (nm1 hn).2.2 (nm1 hn).1
theorem Cok.isi (c : Cok G W X D0 N sc fo lev) {t : Ty5} {q : Pos} (ha : EV G W X a wa) (hg : glB sc "isinstance" = true) (hm : D0.mg "isinstance" = none) (hg2 : glB sc (Str.ofString t.nm) = true) (hm2 : D0.mg (Str.ofString t.nm) = none) (hs : starred a = false) :
    EV G W X (.Call (.Name "isinstance" p) [a, .Name (Str.ofString t.nm) q] [] pos) (w1 (oIsi t) wa) :=
  ev_isi (p := p) (q := q) (pos := pos) (t := t) c.hK ha (c.gl hg) (c.mgn hm) (c.gl hg2) (c.mgn hm2) hs
theorem Cok.un (c : Cok G W X D0 N sc fo lev) : X.A.units + 66 < cLine := by have := c.room.un; omega
/-! comparisons -/
theorem Cok.eq (c : Cok G W X D0 N sc fo lev) : CmpOk G X .Eq oEq := ⟨⟨_, op_eqG (by have := c.room.un; omega), by rw [← c.hK]; exact ri_eq⟩, mono_oEq⟩
theorem Cok.ne (c : Cok G W X D0 N sc fo lev) : CmpOk G X .NotEq oNe := ⟨⟨_, op_neG (by have := c.room.un; omega), by rw [← c.hK]; exact ri_ne⟩, mono_oNe⟩
theorem Cok.in_ (c : Cok G W X D0 N sc fo lev) : CmpOk G X .In oIn := ⟨⟨_, op_inD (by have := c.room.un; omega), by rw [← c.hK]; exact ri_in⟩, mono_oIn⟩
theorem Cok.nin (c : Cok G W X D0 N sc fo lev) : CmpOk G X .NotIn oNotIn := ⟨⟨_, op_notInD (by have := c.room.un; omega), by rw [← c.hK]; exact ri_notin⟩, mono_oNotIn⟩
theorem c_lt : CmpOk G X .Lt oLt := ⟨⟨_, op_lt, ri_lt⟩, mono_oLt⟩
theorem c_le : CmpOk G X .LtE oLe := ⟨⟨_, op_le, ri_le⟩, mono_oLe⟩
theorem c_gt : CmpOk G X .Gt oGt := ⟨⟨_, op_gt, ri_gt⟩, mono_oGt⟩
theorem c_ge : CmpOk G X .GtE oGe := ⟨⟨_, op_ge, ri_ge⟩, mono_oGe⟩
theorem c_is : CmpOk G X .Is oIs := ⟨⟨_, op_isG, ri_is⟩, mono_oIs⟩
theorem c_isn : CmpOk G X .IsNot oIsNot := ⟨⟨_, op_isnotG, ri_isnot⟩, mono_oIsNot⟩
/-! operators -/
theorem Cok.add (c : Cok G W X D0 N sc fo lev) (ha : EV G W X a wa) (hb : EV G W X b wb) : EV G W X (.BinOp a .Add b pos) (w2 oAdd wa wb) := ev_op op_addG (by rw [← c.hK]; exact ri_add) mono_oAdd ha hb
theorem e_sub (ha : EV G W X a wa) (hb : EV G W X b wb) : EV G W X (.BinOp a .Sub b pos) (w2 oSub wa wb) := ev_op op_sub ri_sub mono_oSub ha hb
theorem e_mul (ha : EV G W X a wa) (hb : EV G W X b wb) : EV G W X (.BinOp a .Mult b pos) (w2 oMul wa wb) := ev_op op_mulG ri_mul mono_oMul ha hb
theorem e_div (ha : EV G W X a wa) (hb : EV G W X b wb) : EV G W X (.BinOp a .FloorDiv b pos) (w2 oDiv wa wb) := ev_op op_divG ri_div mono_oDiv ha hb
theorem e_mod (ha : EV G W X a wa) (hb : EV G W X b wb) : EV G W X (.BinOp a .Mod b pos) (w2 oMod wa wb) := ev_op op_modN ri_mod mono_oMod ha hb
theorem e_pow (ha : EV G W X a wa) (hb : EV G W X b wb) : EV G W X (.BinOp a .Pow b pos) (w2 oPow wa wb) := ev_op op_pow ri_pow mono_oPow ha hb
theorem e_neg (ha : EV G W X a wa) : EV G W X (.UnaryOp .USub a pos) (w1 oNeg wa) := ev_un un_neg ri_neg mono_oNeg ha
end
/-! ### a def of the table -/
structure FnE (G : Gx) (D0 : Wd) (lev k : Nat) (x : Str) (ps : List Str) (dfl : List D) (F : FD) : Prop where
  ex : ∃ (fd : FuncData), FnG D0.P D0.w G.K D0.mg D0.base lev (G.ad k) fd ps (spD G ps.length F) ∧ PySem.W.keepIn G.K (.ref (G.ad k)) = true ∧
    ∀ n, n ≤ dfl.length → ∃ ds, Binds G.K fd ps ds ∧ ∀ H M, ∃ dvs, Vals dvs ds ∧ Dens G H M dvs (dfl.drop (dfl.length - n))
  glob : D0.mg x = some (.ref (G.ad k))
  mono : MonoF F
def startD (N : List Str) (ds : List D) : Env' := ds.map some ++ List.replicate (N.length - ds.length) none
def endF (Q : QV) (Z : QX) : En := { nx := fun _ M => Q .non M, rt := Q, bk := fun _ _ => False, ct := fun _ _ => False, ex := fun _ => Z }
section
variable {G : Gx} {W : WX} {X : Cx} {D0 : Wd} {N : List Str} {sc : Scope} {fo : Str → Bool} {lev lev' : Nat}
theorem FnE.mono_lev {j k n : Nat} {x : Str} {ps : List Str} {dfl : List D} {F : FD} (f : FnE G D0 j n x ps dfl F) (h : j ≤ k) : FnE G D0 k n x ps dfl F := by
  obtain ⟨⟨fd, h1, h2⟩, h3, h4⟩ := f
  exact ⟨⟨fd, h1.mono h, h2⟩, h3, h4⟩
theorem Cok.fnD (c : Cok G W X D0 N sc fo lev) {k : Nat} {x : Str} {ps : List Str} {dfl : List D} {F : FD} (f : FnE G D0 lev' k x ps dfl F) (h : lev' ≤ lev) : FnD G X lev k x ps dfl F := by
  obtain ⟨⟨fd, h1, h2, h3⟩, h4, h5⟩ := f.mono_lev h
  refine ⟨⟨fd, ?_, ?_, ?_⟩, ?_, h5⟩
  · rw [c.eP, c.ew, c.eM, c.eB, ← c.hK]; exact h1
  · rw [← c.hK]; exact h2
  · rw [← c.hK]; exact h3
  · rw [c.eM]; exact h4
theorem Cok.call (c : Cok G W X D0 N sc fo lev) {k : Nat} {x : Str} {ps : List Str} {dfl : List D} {F : FD} {e : Expr} {es : List Expr} {ws : WA} {p pos : Pos} (f : FnE G D0 lev' k x ps dfl F) (h : lev' ≤ lev)
    (hg : glB sc x = true) (hn : nmB x = true) (ha : AV G W X (e :: es) ws) (hs : noStars (e :: es) = true) : EV G W X (.Call (.Name x p) (e :: es) [] pos) (wCallF ps.length dfl F ws) := by
  have h' : starred e = false ∧ noStars es = true := by simpa [noStars] using hs
  exact ev_call (c.fnD f h) c.room c.gu c.tk (c.gl hg) ha h'.1 h'.2 (nm1 hn).1
theorem Cok.call0 (c : Cok G W X D0 N sc fo lev) {k : Nat} {x : Str} {ps : List Str} {dfl : List D} {F : FD} {p pos : Pos} (f : FnE G D0 lev' k x ps dfl F) (h : lev' ≤ lev)
    (hg : glB sc x = true) (hn : nmB x = true) : EV G W X (.Call (.Name x p) [] [] pos) (wCallF ps.length dfl F wNil) := ev_call0 (c.fnD f h) c.room c.gu c.tk (c.gl hg) (nm1 hn).1
/-- a name of the frame that holds a def -/
theorem Cok.callv (c : Cok G W X D0 N sc fo lev) (i : Nat) {T : List FnI} {Φ : Nat → FD} {x : Str} {e : Expr} {es : List Expr} {ws : WA} {p pos : Pos} (DT : ∀ (k : Nat) (I : FnI), T[k]? = some I → FnE G D0 lev' k I.nm I.ps I.dfl (Φ k)) (h : lev' ≤ lev) (hF : ∀ k, MonoF (Φ k))
    (h1 : N[i]? = some x) (h2 : visB sc x = true) (hn : nmB x = true) (ha : AV G W X (e :: es) ws) (hs : noStars (e :: es) = true) : EV G W X (.Call (.Name x p) (e :: es) [] pos) (wCallV i T Φ ws) := by
  have h' : starred e = false ∧ noStars es = true := by simpa [noStars] using hs
  exact ev_callv (fun k I e => c.fnD (DT k I e) h) hF c.room c.gu c.tk (c.xN h1) (c.vis h2) ha h'.1 h'.2 (nm1 hn).1 (nm1 hn).2.1
theorem dens_get {H : Hp} {M : Mem} : ∀ {ds : List D} {vs : List V}, Dens G H M vs ds → ∀ (i : Nat) (q : D), ds[i]? = some q → ∃ v, vs[i]? = some v ∧ Den G H M v q
  | [], _, d, i, q, e => by simp at e
  | d0 :: ds, _, d, i, q, e => by
    cases d with
    | cons h1 h2 =>
      cases i with
      | zero =>
        simp at e
        subst e
        exact ⟨_, by simp, h1⟩
      | succ i =>
        obtain ⟨v, a1, a2⟩ := dens_get h2 i q (by simpa using e)
        exact ⟨v, by simpa using a1, a2⟩
theorem relE_start {H : Hp} {M : Mem} {vs : List V} {ds : List D} (d : Dens G H M vs ds) (n : Nat) : RelE G H M (vs.map some ++ List.replicate n none) (ds.map some ++ List.replicate n none) := by
  refine ⟨by simp [d.length], fun i q e => ?_⟩
  by_cases hi : i < ds.length
  · rw [List.getElem?_append_left (by simpa using hi), List.getElem?_map] at e
    cases e2 : ds[i]? with
    | none => rw [e2] at e; cases e
    | some q' =>
      rw [e2] at e
      have e3 : q' = q := by simpa using e
      subst e3
      obtain ⟨v, a1, a2⟩ := dens_get d i _ e2
      refine ⟨v, ?_, a2⟩
      rw [List.getElem?_append_left (by simpa [d.length] using hi), List.getElem?_map, a1]
      rfl
  · rw [List.getElem?_append_right (by simpa using hi), List.getElem?_replicate] at e
    split at e <;> cases e
/-- THE RULE for a def: its body's meaning, and what that does -/
theorem fnG_body {k : Nat} {x qual : Str} {params : Arguments} {body : List Stmt} {scope : Scope} {dvs : List V} {kws : List (Str × V)} {fd : FuncData} {ps : List Str} {F : FD} {m : WS}
    (f : FunD G.K x qual params body scope dvs kws (G.ad k) fd) (S : FnScope N ps scope)
    (hb : ∀ (X : Cx) (W : WX), Dok G W X D0 N scope lev → BV G W X body m)
    (hm : ∀ ds M Q Z, F ds M Q Z → ds.length = ps.length → m (endF Q Z) (startD N ds) M) : FnG D0.P D0.w G.K D0.mg D0.base (lev + 1) (G.ad k) fd ps (spD G ps.length F) := by
  obtain ⟨oc, od, dV, kV, doc, pm, an, cdv, ct, osl, rfl, lk, hcd, _, _⟩ := f.ex
  refine fnG_of lk hcd S (fun vs H Q E h => h.1) fun A outer s H vs Q E hr hg hsp => ?_
  obtain ⟨hl, ds, M, Qd, Z, dn, rm, ft, xf, hF⟩ := hsp
  let X := cxOf (L2.CX D0.P D0.w) D0.P D0.w G.K D0.mg D0.base N qual scope (G.ad k) cdv A outer s H E
  let W : WX := fun cls d _ H => E cls d H
  have ck : Dok G W X D0 N scope lev := ⟨⟨rfl, rfl, rfl, rfl, rfl, rfl, S.nd, rfl, rfl, hr, hg, takes_of rfl rfl rfl rfl, fun _ _ => rfl⟩, passes_of rfl, rfl, rfl⟩
  have bv := hb X W ck
  refine ⟨tS G W m, bv.pss, startD N ds, M, endF Qd Z, ?_, rm, ⟨fun ρ' M' σ' H' k re' rm' q => ft .non .non H' M' k rm' .non q, fun _ _ _ _ _ _ _ q => q.elim, fun _ _ _ _ _ _ _ q => q.elim, ft, fun ρ' c r M' σ' H' cls d k re' rm' xd q => xf c r M' H' cls d k rm' xd q⟩, ?_⟩
  · have e : N.length - vs.length = N.length - ds.length := by rw [dn.length]
    show RelE G H M (L2.start N vs) (startD N ds)
    unfold L2.start startD
    rw [e]
    exact relE_start dn _
  · exact hm ds M Qd Z hF (by rw [← dn.length]; exact hl)
theorem fnE_of {k : Nat} {x qual : Str} {params : Arguments} {body : List Stmt} {scope : Scope} {dvs : List V} {kws : List (Str × V)} {fd : FuncData} {ps : List Str} {dfl : List D} {F : FD} {m : WS}
    (f : FunD G.K x qual params body scope dvs kws (G.ad k) fd) (S : FnScope N ps scope)
    (hbind : ∀ n, n ≤ dfl.length → ∃ ds, Binds G.K fd ps ds ∧ ∀ H M, ∃ dvs, Vals dvs ds ∧ Dens G H M dvs (dfl.drop (dfl.length - n)))
    (glob : D0.mg x = some (.ref (G.ad k))) (mono : MonoF F)
    (hb : ∀ (X : Cx) (W : WX), Dok G W X D0 N scope lev → BV G W X body m)
    (hm : ∀ ds M Q Z, F ds M Q Z → ds.length = ps.length → m (endF Q Z) (startD N ds) M) : FnE G D0 (lev + 1) k x ps dfl F :=
  ⟨⟨fd, fnG_body f S hb hm, f.kp, hbind⟩, glob, mono⟩
theorem bind0 {fd : FuncData} {ps : List Str} (b : Binds G.K fd ps []) : ∀ n, n ≤ ([] : List D).length → ∃ ds, Binds G.K fd ps ds ∧ ∀ H M, ∃ dvs, Vals dvs ds ∧ Dens G H M dvs (([] : List D).drop (([] : List D).length - n)) :=
  fun n hn => ⟨[], b, fun H M => ⟨[], .nil, by rw [List.drop_nil]; exact .nil⟩⟩
end
/-! ### promises by outcomes -/
inductive Out where
  | ret (d : D) (M : Mem)
  | exc (c : Nat) (r : D) (M : Mem)
def outF (f : List D → Mem → Option Out) : FD := fun ds M Q Z => match f ds M with
  | some (.ret d M') => Q d M'
  | some (.exc c r M') => Z c r M'
  | none => False
theorem mono_outF {f : List D → Mem → Option Out} : MonoF (outF f) := fun ds M Q Q' Z Z' hq hz h => by
  unfold outF at *
  split at h
  · exact hq _ _ h
  · exact hz _ _ _ h
  · exact h.elim
end Rf

set_option Elab.async false
set_option linter.all false
set_option maxRecDepth 100000
set_option maxHeartbeats 2000000
/-! Rf14: what the head tells, with own exceptions; the law's end. -/
namespace Rf
open PySem PySem.Spec PyProof.Rows L2
open PySem.W (Frag)
/-- an own exception class: its name, its field, its __init__'s text -/
structure XcD where
  x : Str
  f : Str
  qual : Str
  params : Arguments
  body : List Stmt
  scope : Scope
def iniA (K : Frag) (x : Str) : Addr := He.ma K (He.ga K x) "__init__"
abbrev IniV := Option (Str × Arguments × FuncBody × Scope × Addr × List Str × Addr)
def iniV (K : Frag) (x : Str) : IniV := match K.lookup (iniA K x) with
  | some ⟨_, _, .func fd, _⟩ => some (fd.qualname, fd.params, fd.body, fd.scope, fd.globals, fd.closure.map (·.1), fd.builtins)
  | _ => none
def XcD.val (d : XcD) : IniV := some (d.qual, d.params, .stmts d.body, d.scope, mainGlobals, ["__class__"], builtinsNs)
def clsB (K : Frag) (C : Addr) : Bool := match K.lookup C with
  | some ⟨.type "type", _, .cls cd, sl⟩ => (match cd.mro, sl.toList with
    | .ref C' :: bm, [_, _, _, _, some (.builtin n), _] => C' == C && n == "ValueError.__new__" && !cd.hasDel && cd.hasDict && PySem.HandSPX.refsVE bm
    | _, _ => false)
  | _ => false
def noneV : Value → Bool
  | .none => true
  | _ => false
def fileB (file : Str) (K : Frag) (cd : Value) : Bool := match cd with
  | .ref cda => (match K.lookup cda with
    | some ⟨_, _, .fields vs, _⟩ => (match (vs[2]? : Option Value) with
      | some (.str fl _) => file == fl
      | _ => false)
    | _ => false)
  | _ => false
def cellB (K : Frag) (C : Addr) (cl : List (Str × Addr)) : Bool := match cl with
  | [(_, cc)] => (match K.lookup cc with
    | some ⟨_, _, .cell (some (.ref D)), _⟩ => D == C
    | _ => false)
  | _ => false
def iniB (file : Str) (K : Frag) (C fI : Addr) (q : Str) : Bool := match K.lookup fI with
  | some ⟨_, _, .func fd, _⟩ => PySem.W.codeIn K fd.code q && (noneV fd.defaults && (noneV fd.kwdefaults && (fileB file K fd.code && cellB K C fd.closure)))
  | _ => false
def oB (a : Option Bool) : Bool := match a with
  | some true => true
  | _ => false
theorem oB_ok {a : Option Bool} (h : oB a = true) : a = some true := by
  unfold oB at h
  split at h
  · rfl
  · cases h
def XcD.ok (file : Str) (K : Frag) (d : XcD) : Bool :=
  clsB K (He.ga K d.x) && (He.eqO (PySem.W.findIn K (.ref (He.ga K d.x)) "__setattr__") (some (some (.builtin "object.__setattr__"))) &&
  (He.eqO (PySem.W.findIn K (.ref (He.ga K d.x)) "__getattribute__") (some (some (.builtin "BaseException.__getattribute__"))) && (He.eqO (PySem.W.findIn K (.ref (He.ga K d.x)) "__getattr__") (some none) &&
  (He.eqO (PySem.W.findIn K (.ref (He.ga K d.x)) d.f) (some none) && (He.eqO (PySem.W.findIn K (.ref (He.ga K d.x)) "__init__") (some (some (.ref (iniA K d.x)))) &&
  (decide (PySem.W.typeIn K (.ref (iniA K d.x)) = some (.type "function")) && (PySem.W.keepIn K (.ref (He.ga K d.x)) && (oB (PySem.W.subIn K (.ref (He.ga K d.x)) (.type "BaseException")) &&
  (oB (PySem.W.subIn K (.ref (He.ga K d.x)) (.type "ValueError")) && (decide (PySem.W.typeIn K (.ref (He.ga K d.x)) = some (.type "type")) && (PySem.W.hasDictIn K (He.ga K d.x) &&
  (He.eqO (PySem.W.ks_superIn K (He.ga K d.x) (He.ga K d.x) "__init__") (some (some (.builtin "ValueError.__init__"))) && (oB (PySem.W.mroIn K (He.ga K d.x) (.ref (He.ga K d.x))) &&
  (He.eqO (PySem.W.nsIn K cStatics "thirdparty.any") (some none) && iniB file K (He.ga K d.x) (iniA K d.x) d.qual))))))))))))))
/-- its text has the form -/
def XcD.Form (d : XcD) : Prop := ∃ p1 p2 r1 r2 r3 r4 r5 r6 q1 q2 q3 q4 : Pos, d.params = Oex.iA d.f p1 p2 ∧ d.body = Oex.iB d.f r1 r2 r3 r4 r5 r6 q1 q2 q3 q4 ∧ d.scope = Oex.iS d.f ∧ (r3.endLine == r5.line) = true
theorem clsB_ok {K : Frag} {C : Addr} (h : clsB K C = true) : ∃ nm q N bs bm sn sub ab col dd k0 k1 k2 k3 k5, K.lookup C = some (excClassObj nm q C N bs bm true sn sub ab col dd k0 k1 k2 k3 k5 "ValueError.__new__") ∧ PySem.HandSPX.refsVE bm = true := by
  unfold clsB at h
  split at h
  · rename_i dd cd sl ho
    split at h
    · rename_i C' bm k0 k1 k2 k3 n k5 hm hs
      simp only [Bool.and_eq_true, beq_iff_eq, Bool.not_eq_true'] at h
      obtain ⟨⟨⟨⟨rfl, rfl⟩, hdel⟩, hdct⟩, hv⟩ := h
      obtain ⟨nm, bs, mro, ns, qn, hd, sn, sub, ab, col, del⟩ := cd
      dsimp only at hm hdel hdct
      subst hm hdel hdct
      have hsl : sl = #[k0, k1, k2, k3, some (.builtin "ValueError.__new__"), k5] := by
        obtain ⟨l⟩ := sl
        simp only at hs
        rw [hs]
      subst hsl
      exact ⟨nm, qn, ns, bs, bm, sn, sub, ab, col, dd, k0, k1, k2, k3, k5, ho, hv⟩
    · cases h
  · cases h
theorem noneV_ok {v : Value} (h : noneV v = true) : v = .none := by
  cases v <;> first | rfl | cases h
theorem xc_ok {P : Program} {K : Frag} {d : XcD} (hf : d.Form) (hv : iniV K d.x = d.val) (h : d.ok P.main.file K = true) (top : (P.main.scope.names.lookup ("super" : Str)).isSome = false) : Oex.Txt P K d.f (He.ga K d.x) (iniA K d.x) := by
  unfold XcD.ok at h
  simp only [Bool.and_eq_true] at h
  obtain ⟨h1, h2, h3, h4, h5, h6, h7, h8, h9, h10, h11, h12, h13, h14, h15, h16⟩ := h
  refine ⟨clsB_ok h1, He.eqO_ok h2, He.eqO_ok h3, He.eqO_ok h4, He.eqO_ok h5, He.eqO_ok h6, of_decide_eq_true h7, h8, oB_ok h9, oB_ok h10, of_decide_eq_true h11, h12, He.eqO_ok h13, oB_ok h14, He.eqO_ok h15, ?_, top⟩
  obtain ⟨p1, p2, r1, r2, r3, r4, r5, r6, q1, q2, q3, q4, e1, e2, e3, e4⟩ := hf
  unfold iniV at hv
  unfold iniB at h16
  split at h16
  · rename_i oc od fd osl lk
    rw [lk] at hv
    obtain ⟨n1, n2, n3, n4, n5, n6, n7, n8, n9, n10, n11, n12, n13, n14, n15⟩ := fd
    have hv2 : (some (n2, n3, n4, n5, n6, n7.map (·.1), n15) : IniV) = some (d.qual, d.params, FuncBody.stmts d.body, d.scope, mainGlobals, [("__class__" : Str)], builtinsNs) := hv
    simp only [Option.some.injEq, Prod.mk.injEq] at hv2
    obtain ⟨z1, z2, z3, z4, z5, z6, z7⟩ := hv2
    subst z1 z2 z3 z4 z5 z7
    simp only [Bool.and_eq_true] at h16
    obtain ⟨a1, a2, a3, a4, a5⟩ := h16
    have b2 := noneV_ok a2
    have b3 := noneV_ok a3
    try dsimp only at b2 b3 a1 a4 a5
    subst b2 b3
    unfold fileB at a4
    split at a4
    · rename_i cda
      split at a4
      · rename_i ccl cdd vs ccs lk2
        split at a4
        · rename_i fl tf hvs
          unfold cellB at a5
          split at a5
          · rename_i y cc
            split at a5
            · rename_i cl cld D csl lk3
              have eD : D = He.ga K d.x := beq_iff_eq.mp a5
              subst eD
              have ey : y = "__class__" := by simpa using z6
              subst ey
              refine ⟨n1, d.qual, oc, od, n10, n11, n12, cda, n14, cc, osl, p1, p2, r1, r2, r3, r4, r5, r6, q1, q2, q3, q4, ?_, a1, e4, ⟨ccl, cdd, vs, ccs, fl, tf, lk2, hvs, a4⟩, ⟨cl, cld, csl, lk3⟩⟩
              rw [lk, e1, e2, e3]
            · cases a5
          · cases a5
        · cases a4
      · cases a4
    · cases a4
  · cases h16
/-! ### the Hook -/
abbrev AlR : Type := Bool × List He.FnW × List IniV
def obsR (file : Str) (fa : List He.Fa) (fn : List He.DefD) (xc : List XcD) (K : Frag) : AlR := ((fa.all fun f => f.ok K) && ((fn.all fun d => d.ok K) && (xc.all fun d => d.ok file K)), fn.map (fun d => He.fnW K d.at_), xc.map fun d => iniV K d.x)
def valR (fn : List He.DefD) (xc : List XcD) : AlR := (true, fn.map He.DefD.val, xc.map XcD.val)
def obsRG (file : Str) (n : Nat) (fa : List He.Fa) (fn : List He.DefD) (xc : List XcD) (g : Addr → Option Obj) : AlR := obsR file fa fn xc (He.frG g (cStatics :: He.asD g n))
def hookR (file : Str) (n : Nat) (fa : List He.Fa) (fn : List He.DefD) (xc : List XcD) : PySem.W.Hook where
  α := AlR
  obs := fun s => obsRG file n fa fn xc s.heap.get?
  val := fun _ => valR fn xc
  says := fun _ h => ∃ K : Frag, K.In h ∧ obsR file fa fn xc K = valR fn xc
  of := fun _ _ e => ⟨_, He.frG_in, e⟩
  keeps := fun _ _ _ ⟨K, hK, c⟩ k => ⟨K, PySem.W.Frag.In.keeps hK k, c⟩
theorem obsRG_eq {file : Str} {n : Nat} {fa : List He.Fa} {fn : List He.DefD} {xc : List XcD} {g : Addr → Option Obj} {s : Shared} (h : ∀ a, g a = s.heap.get? a) : obsRG file n fa fn xc g = (hookR file n fa fn xc).obs s := by
  have e : g = s.heap.get? := funext h
  rw [e] <;> rfl
section
variable {file : Str} {fa : List He.Fa} {fn : List He.DefD} {xc : List XcD} {K : Frag}
theorem says_fact (c : obsR file fa fn xc K = valR fn xc) (i : Nat) {f : He.Fa} (h : fa[i]? = some f) : f.ok K = true := by
  have c1 := (He.ba (congrArg (fun z : AlR => z.1) c : ((fa.all fun f => f.ok K) && ((fn.all fun d => d.ok K) && (xc.all fun d => d.ok file K))) = true)).1
  exact List.all_eq_true.mp c1 f (List.mem_of_getElem? h)
theorem says_def (c : obsR file fa fn xc K = valR fn xc) (i : Nat) {d : He.DefD} (h : fn[i]? = some d) : ∃ fd, FunD K d.name d.qual d.params d.body d.scope (d.dvs K) (d.kws K) (He.fAd K d.at_) fd := by
  have c2 := (He.ba (He.ba (congrArg (fun z : AlR => z.1) c : ((fa.all fun f => f.ok K) && ((fn.all fun d => d.ok K) && (xc.all fun d => d.ok file K))) = true)).2).1
  have e : fn.map (fun d => He.fnW K d.at_) = fn.map He.DefD.val := congrArg (fun z : AlR => z.2.1) c
  have e2 : (fn.map fun d => He.fnW K d.at_)[i]? = (fn.map He.DefD.val)[i]? := by rw [e]
  rw [List.getElem?_map, List.getElem?_map, h] at e2
  exact He.DefD.funD (Option.some.inj e2) (List.all_eq_true.mp c2 d (List.mem_of_getElem? h))
theorem says_xc {P : Program} (c : obsR P.main.file fa fn xc K = valR fn xc) (i : Nat) {d : XcD} (h : xc[i]? = some d) (hf : d.Form) (top : (P.main.scope.names.lookup ("super" : Str)).isSome = false) : Oex.Txt P K d.f (He.ga K d.x) (iniA K d.x) := by
  have c2 := (He.ba (He.ba (congrArg (fun z : AlR => z.1) c : ((fa.all fun f => f.ok K) && ((fn.all fun d => d.ok K) && (xc.all fun d => d.ok P.main.file K))) = true)).2).2
  have e : xc.map (fun d => iniV K d.x) = xc.map XcD.val := congrArg (fun z : AlR => z.2.2) c
  have e2 : (xc.map fun d => iniV K d.x)[i]? = (xc.map XcD.val)[i]? := by rw [e]
  rw [List.getElem?_map, List.getElem?_map, h] at e2
  exact xc_ok hf (Option.some.inj e2) (List.all_eq_true.mp c2 d (List.mem_of_getElem? h)) top
end
/-! ### the law's call -/
theorem dens_ints {G : Gx} {H : Hp} {M : Mem} : ∀ ns : List Int, Dens G H M (ns.map V.int) (ns.map D.int)
  | [] => .nil
  | n :: ns => .cons (.int n) (dens_ints ns)
theorem den_scr {G : Gx} {H : Hp} {a : Addr} {ns : List Int} (h : SqL G.K H a (ns.map V.int)) : Den G H (fun _ => none) (.ref a) (.scr (ns.map D.int)) := by
  rcases h with h | h
  · exact .scr h rfl (dens_ints ns)
  · exact .scrK h (dens_ints ns)
section
variable {P : Program} {w : World} {K : Frag} {mg mb : Str → Option Value} {k : Nat} {fa a : Addr} {fd : FuncData} {x : Str} {sp : Sp} {s₁ : Shared} {vs : List Value} {ns : List Int}
theorem call_law (KX : K.In s₁.heap) (hns : s₁.heap.Ns mainGlobals mg) (hb : s₁.heap.Ns builtinsNs mb) (hbb : ∀ x : Str, x ≠ "__name__" → mb x = bootBuiltins x) (hlim : s₁.heap.NoLimit) (hg : s₁.gens = #[])
    (ha : s₁.heap.get? a = some { cls := .type "list", data := .seq vs.toArray }) (hi : IntsAre vs ns) (hl : ns.length ≤ sizeLine) (hr : Room k callerA)
    (F : ∀ base : Heap, K.In base → base.Ns mainGlobals mg → FnG P w K mg base k fa fd [x] sp) (hbind : ∀ (s : Shared) (u : Value), BindsTo s fd ⟨[u], []⟩ [(x, u)])
    (hsp : ∀ H : Hp, SqL K H a (ns.map V.int) → sp [.ref a] H (fun v _ => v = .bl true) fun _ _ _ => False) :
    codeAny (model P w) callerA (.call (.ref fa) ⟨[.ref a], []⟩) (fun r s' => r = .ok (.ret (.bool true)) ∧ OldK s₁.heap s'.heap ∧ s'.os = s₁.os ∧ AllBare s'.gens) s₁ := by
  have rv := vals_ints hi
  have lenV := hi.length
  have core : ∀ H : Hp, Only H → SqL K H a (ns.map V.int) → HOk P w H s₁.heap → (∀ b, H b ≠ none → b = a) → (H a ≠ none → K.lookup a = none) →
      codeAny (model P w) callerA (.call (.ref fa) ⟨[.ref a], []⟩) (fun r s' => r = .ok (.ret (.bool true)) ∧ OldK s₁.heap s'.heap ∧ s'.os = s₁.os ∧ AllBare s'.gens) s₁ := by
    intro H hO hS hok hA hK
    have stays : ∀ {b : Addr} {o : Obj}, s₁.heap.get? b = some o → H b = none → (hidT s₁.heap H).get? b = some o := fun e n => hidT_get e n
    have untracked : ∀ {b : Addr}, (b = a → False) → H b = none := fun {b} n => by
      cases q : H b with
      | none => rfl
      | some u => exact (n (hA b (by rw [q]; simp))).elim
    have dicts : ∀ {b : Addr} {m : Str → Option Value}, s₁.heap.Ns b m → (hidT s₁.heap H).Ns b m := fun {b m} ⟨o, es, ep, e, d, r⟩ => ⟨o, es, ep, stays e (untracked fun z => by
      subst z
      rw [ha] at e; cases e
      cases (d : Data.seq vs.toArray _ = Data.dict es ep)), d, r⟩
    have inK : K.In (hidT s₁.heap H) := fun b o e => stays (KX b o e) (by
      cases q : H b with
      | none => rfl
      | some u =>
        have z : b = a := hA b (by rw [q]; simp)
        subst z
        rw [hK (by rw [q]; simp)] at e; cases e)
    have hM : L2.Mod K mg (hidT s₁.heap H) := ⟨inK, dicts hns, ⟨mb, dicts hb, hbb⟩, let ⟨mc, h1, h2⟩ := hlim; ⟨mc, dicts h1, h2⟩⟩
    have e0 : Env0 P w K mg (hidT s₁.heap H) callerA [] s₁ H := ⟨rfl, hM, fun b o e => of_hidT e, Nat.le_of_eq (hidT_size _ _), trivial, fun b hb => absurd (show b ∈ ([] : List Addr) from hb) (by simp), hok, .of_eq hg⟩
    refine codeAny_mono ((F _ inK (dicts hns)).run callerA [] s₁ H ⟨[.ref a], []⟩ [.ref a] [.ref a] _ _ hr rfl e0 (hbind s₁ (.ref a)) (.cons rfl .nil) (hsp H hS)) fun r s' h => ?_
    match r, h with
    | .error e, h =>
      obtain ⟨_, _, _, _, _, _, _, _, _, _, _, _, h⟩ := h
      exact h.elim
    | .ok .next, h => exact False.elim h
    | .ok .brk, h => exact False.elim h
    | .ok .cont, h => exact False.elim h
    | .ok (.ret u), h =>
      obtain ⟨v, H', os, bare, un, hok', r', q⟩ := h
      have q' : v = .bl true := q
      subst q'
      obtain rfl : u = Value.bool true := r'
      refine ⟨rfl, OldK.of_keep fun b o e => ?_, os, bare⟩
      rcases hO b with z | ⟨ob, xs, z⟩
      · exact un.keep b o e z (by intro y; exact absurd (show b ∈ ([] : List Addr) from y) (by simp)) (by simp)
      · obtain ⟨e1, _⟩ := hok b _ z
        obtain ⟨e2, _⟩ := hok' b _ (un.frzs b ob _ z)
        rw [e] at e1; cases e1
        exact e2
  cases hk : K.lookup a with
  | some o =>
    have e := KX a o hk
    rw [ha] at e
    cases e
    exact core (fun _ => none) (fun _ => .inl rfl) (.inr ⟨_, vs.toArray, _, hk, rfl, rfl, rfl, by rw [List.size_toArray, lenV]; exact hl, by simpa using rv⟩) (fun b u z => by cases (z : (none : Option HO) = some u)) (fun b z => absurd rfl z) fun z => absurd rfl z
  | none =>
    refine core (fun b => if b = a then some (.frz { cls := .type "list", data := .seq vs.toArray } (.lst (ns.map V.int))) else none) (fun b => ?_) (.inl (.inr ⟨{ cls := .type "list", data := .seq vs.toArray }, if_pos rfl⟩)) (fun b u z => ?_) (fun b z => ?_) fun _ => hk
    · by_cases hb : b = a
      · exact .inr ⟨_, _, if_pos hb⟩
      · exact .inl (if_neg hb)
    · by_cases hb : b = a
      · have z' := (if_pos hb).symm.trans z
        cases z'
        subst hb
        exact ⟨ha, by rw [List.length_map]; exact hl, vs, _, rv, ha⟩
      · have z' := (if_neg hb).symm.trans z
        cases z'
    · by_cases hb : b = a
      · exact hb
      · exact absurd (if_neg hb) z
end
/-- a law by what its def does with the script -/
theorem law_walk {l : PySem.W.OpenLaw} {n k : Nat} {q : Program} {loose : List Str} {XP : (Str → Option Value) → Heap → Prop} {YP : World → Heap → Prop} {d : DefRec} {x : Str} {F : FD}
    (hn : l.most = some n) (hn2 : n ≤ sizeLine) (hdf : d.params.defaults = []) (hr : Room k callerA)
    (hF : ∀ (w : World) (mg : Str → Option Value) (fa : Addr) (h : Heap), YP w h → h.Ns mainGlobals mg → mg d.name = some (.ref fa) → ∃ (G : Gx) (fd : FuncData), G.K.In h ∧ (∀ (s : Shared) (u : Value), BindsTo s fd ⟨[u], []⟩ [(x, u)]) ∧
      ∀ base : Heap, G.K.In base → base.Ns mainGlobals mg → FnG l.prog w G.K mg base k fa fd [x] (spD G 1 F))
    (hsp : ∀ ns : List Int, ns.length ≤ n → (∀ z ∈ ns, Builtin.Int.intBits z ≤ 1048576) → F [.scr (ns.map D.int)] (fun _ => none) (fun d _ => d = .bl true) fun _ _ _ => False) :
    PySem.W.WalkO q loose XP YP l.row.toRowW d [] (fun f vs => PySem.call f vs) := by
  refine Att.attach_callB hn hdf fun w s₀ s₁ mg mb fa o pm cd doc a vs ns Gr Y ho hd hcd hmg hobj hints hlen hbits hg => ?_
  obtain ⟨G, fd, KX, hb, hG⟩ := hF w mg fa _ Y Gr.T.g hmg
  refine call_law KX Gr.T.g Gr.T.b Gr.T.builtins Gr.T.nolimit hg hobj hints (Nat.le_trans hlen hn2) hr hG hb fun H hS => ?_
  have rm : RelM G H (fun _ => none) := fun a o e => by cases (e : (none : Option MO) = some o)
  refine ⟨rfl, [.scr (ns.map D.int)], fun _ => none, fun d _ => d = .bl true, fun _ _ _ => False, .cons (den_scr hS) .nil, rm, fun v q H' M' _ _ dn e => ?_, fun c r M' H' cls d _ _ _ z => False.elim z, hsp ns hlen hbits⟩
  subst e
  cases dn
  rfl
end Rf

set_option Elab.async false
set_option linter.all false
set_option maxRecDepth 100000
set_option maxHeartbeats 2000000
/-! Rf15: statements by the context; tables; exceptions of a table. -/
namespace Rf
open PySem PySem.Spec PyProof.Rows L2
/-- the defs ahead of the i-th keep their promises -/
def TabOk (G : Gx) (D0 : Wd) (tab : List FnI) (T : Nat → FD) (i : Nat) : Prop := ∀ (j : Nat) (I : FnI), j < i → tab[j]? = some I → FnE G D0 (j + 1) j I.nm I.ps I.dfl (T j)
theorem TabOk.zero {G : Gx} {D0 : Wd} {tab : List FnI} {T : Nat → FD} : TabOk G D0 tab T 0 := fun j I h => absurd h (Nat.not_lt_zero j)
theorem TabOk.more {G : Gx} {D0 : Wd} {tab : List FnI} {T : Nat → FD} {i : Nat} {I : FnI} (h : TabOk G D0 tab T i) (e : tab[i]? = some I) (f : FnE G D0 (i + 1) i I.nm I.ps I.dfl (T i)) : TabOk G D0 tab T (i + 1) := fun j J hj ej => by
  rcases Nat.lt_succ_iff_lt_or_eq.mp hj with h1 | h1
  · exact h j J h1 ej
  · subst h1
    rw [e] at ej
    cases ej
    exact f
/-- the own exceptions: n classes, their names, all with the field of fld -/
structure XcT (G : Gx) (D0 : Wd) (nms : List Str) (sub : Nat → Nat → Bool) : Prop where
  txt : ∀ c, c < nms.length → ∃ fI, Oex.Txt D0.P G.K (G.fld c) (G.cd c) fI
  isf : ∀ c, c < nms.length → Oex.IsF (G.fld c)
  mg : ∀ c x, nms[c]? = some x → D0.mg x = some (.ref (G.cd c))
  sup : D0.mg "super" = none
  sub : ∀ c c', c < nms.length → c' < nms.length → PySem.W.exmOne G.K (.ref (G.cd c)) (.ref (G.cd c')) = some (sub c c')
section
variable {G : Gx} {W : WX} {X : Cx} {D0 : Wd} {N : List Str} {sc : Scope} {fo : Str → Bool} {lev : Nat} {x : Str} {p pos pos2 : Pos} {nms : List Str} {sub : Nat → Nat → Bool}
variable {a b : Expr} {es : List Expr} {wa wb : WE} {ws : WA}
theorem Cok.tcall {tab : List FnI} {T : Nat → FD} {i : Nat} (c : Cok G W X D0 N sc fo i) (ht : TabOk G D0 tab T i) (j : Nat) (I : FnI) (hj : j < i) (ej : tab[j]? = some I) {e : Expr}
    (hg : glB sc I.nm = true) (hn : nmB I.nm = true) (ha : AV G W X (e :: es) ws) (hs : noStars (e :: es) = true) : EV G W X (.Call (.Name I.nm p) (e :: es) [] pos) (wCallF I.ps.length I.dfl (T j) ws) :=
  c.call (ht j I hj ej) hj hg hn ha hs
theorem Cok.tcall0 {tab : List FnI} {T : Nat → FD} {i : Nat} (c : Cok G W X D0 N sc fo i) (ht : TabOk G D0 tab T i) (j : Nat) (I : FnI) (hj : j < i) (ej : tab[j]? = some I)
    (hg : glB sc I.nm = true) (hn : nmB I.nm = true) : EV G W X (.Call (.Name I.nm p) [] [] pos) (wCallF I.ps.length I.dfl (T j) wNil) := c.call0 (ht j I hj ej) hj hg hn
/-- a name that holds a def ahead of the i-th -/
def cut (i : Nat) (T : Nat → FD) : Nat → FD := fun k => if k < i then T k else fun _ _ _ _ => False
theorem mono_cut {i : Nat} {T : Nat → FD} (h : ∀ k, MonoF (T k)) : ∀ k, MonoF (cut i T k) := fun k => by
  unfold cut
  split
  · exact h k
  · exact fun _ _ _ _ _ _ _ _ z => z
theorem Cok.tcallv {tab : List FnI} {T : Nat → FD} {i : Nat} (c : Cok G W X D0 N sc fo i) (ht : TabOk G D0 tab T i) (mt : ∀ k, MonoF (T k)) (j : Nat) {e : Expr} (h1 : N[j]? = some x) (h2 : visB sc x = true) (hn : nmB x = true) (ha : AV G W X (e :: es) ws) (hs : noStars (e :: es) = true) :
    EV G W X (.Call (.Name x p) (e :: es) [] pos) (wCallV j (tab.take i) (cut i T) ws) :=
  c.callv (lev' := i) j (fun k I ek => by
    have hk : k < i := by
      by_cases q : k < i
      · exact q
      · rw [List.getElem?_eq_none (by rw [List.length_take]; omega)] at ek
        cases ek
    rw [List.getElem?_take_of_lt hk] at ek
    have f := ht k I hk ek
    unfold cut
    rw [if_pos hk]
    exact f.mono_lev hk) (Nat.le_refl _) (mono_cut mt) h1 h2 hn ha hs
/-! statements -/
theorem Cok.set (c : Cok G W X D0 N sc fo lev) (i : Nat) {p' : Pos} (h1 : N[i]? = some x) (h2 : locB fo sc x = true) (ha : EV G W X a wa) (hc : isComp a = false) : SV G W X (.Assign [.Name x p'] a pos) (sSet i wa) :=
  sv_set c.nN (c.xN h1) (c.loc h2) ha hc (c.fx h2)
theorem Cok.par2 (c : Cok G W X D0 N sc fo lev) (i j : Nat) {x y : Str} {e1 e2 : Expr} {px py pt : Pos} {kt k2 pt2} (hi : N[i]? = some x) (hj : N[j]? = some y) (hij : i ≠ j) (hx : sc.names.lookup x = some .local) (hy : sc.names.lookup y = some .local) (ha : AV G W X [e1, e2] ws)
    (hw : ∀ env : PySem.Env, env.scope = sc → swappedStores [.Tuple [.Name x px, .Name y py] kt pt] (.Tuple [e1, e2] k2 pt2) env = pure (some [x, y])) :
    SV G W X (.Assign [.Tuple [.Name x px, .Name y py] kt pt] (.Tuple [e1, e2] k2 pt2) pos) (sPar [i, j] ws) := sv_par2 c.calm c.nN (c.xN hi) (c.xN hj) hij (c.lcl hx) (c.lcl hy) ha (hw _ c.eS)
theorem Cok.par3 (c : Cok G W X D0 N sc fo lev) (i j l : Nat) {x y z : Str} {e1 e2 e3 : Expr} {px py pz pt : Pos} {kt k2 pt2} (hi : N[i]? = some x) (hj : N[j]? = some y) (hl : N[l]? = some z) (hij : i ≠ j) (hil : i ≠ l) (hjl : j ≠ l)
    (hx : sc.names.lookup x = some .local) (hy : sc.names.lookup y = some .local) (hz : sc.names.lookup z = some .local) (ha : AV G W X [e1, e2, e3] ws)
    (hw : ∀ env : PySem.Env, env.scope = sc → swappedStores [.Tuple [.Name x px, .Name y py, .Name z pz] kt pt] (.Tuple [e1, e2, e3] k2 pt2) env = pure (some [x, y, z])) :
    SV G W X (.Assign [.Tuple [.Name x px, .Name y py, .Name z pz] kt pt] (.Tuple [e1, e2, e3] k2 pt2) pos) (sPar [i, j, l] ws) := sv_par3 c.calm c.nN (c.xN hi) (c.xN hj) (c.xN hl) hij hil hjl (c.lcl hx) (c.lcl hy) (c.lcl hz) ha (hw _ c.eS)
/-- no stores in another order -/
theorem Cok.asg (c : Cok G W X D0 N sc fo lev) {g : WG} (ha : EV G W X a wa) (hg : GV G X b g) (hc : isComp a = false) (hw : ∀ env : PySem.Env, env.scope = sc → swappedStores [b] a env = pure none) (hs : starred b = false) : SV G W X (.Assign [b] a pos) (sAsg wa g) :=
  sv_asg ha hg hc (hw _ c.eS) hs
theorem Cok.raise_ (c : Cok G W X D0 N sc fo (lev + 1)) (xt : XcT G D0 nms sub) (k : Nat) (hk : nms[k]? = some x) (hg : glB sc x = true) (hn : nmB x = true) (ha : EV G W X a wa) (hs : starred a = false) : SV G W X (.Raise (some (.Call (.Name x p) [a] [] pos)) none pos2) (sRaise k wa) := by
  have lt : k < nms.length := by
    by_cases q : k < nms.length
    · exact q
    · rw [List.getElem?_eq_none (by omega)] at hk; cases hk
  refine sv_raise (k := lev) c.calm ⟨?_, xt.isf k lt, c.gl hg, c.mgs (xt.mg k x hk), (nm1 hn).1, c.mgn xt.sup⟩ c.room c.tk ha hs
  rw [c.eP, ← c.hK]
  exact xt.txt k lt
theorem Dok.hfld (c : Dok G W X D0 N sc lev) (xt : XcT G D0 nms sub) (i : Nat) {f : Str} {a : Addr} {oe : Obj} {cls : Value} {d : Option Addr} {pn : List (Addr × Obj)} (hz : Zc cls d oe) (hf : ∃ vs, oe.data = .fields vs) (h1 : N[i]? = some x) (h2 : visB sc x = true) (hn : nmB x = true)
    (ff : ∀ k, k < nms.length → G.fld k = f) (hb : ∀ env : PySem.Env, attributeBase (.Name x p) f env (eval (.Name x p) env) = eval (.Name x p) env) :
    PE (X.suite a ((a, oe) :: pn)) (.Attribute (.Name x p) f pos) (tHX G nms.length i (fun r => r) a cls d) := by
  refine hx_fld c.hK (fun k hk => ⟨?_, ff k hk⟩) hz hf ?_ (hb _)
  · rw [c.eP, ← c.hK]
    exact xt.txt k hk
  · exact pe_var (X := X.suite a ((a, oe) :: pn)) (c.xN h1) (c.vis h2) (nm1 hn).1 (nm1 hn).2.1
theorem Dok.clAs (c : Dok G W X D0 N sc lev) (xt : XcT G D0 nms sub) (k i : Nat) {y : Str} {hv : D → D} {e : Expr} {np pos' : Pos} {hds : List ExceptHandler} {hs : List Hd} (hk : nms[k]? = some x) (hg : glB sc x = true) (hn : nmB x = true) (h1 : N[i]? = some y) (h2 : sc.names.lookup y = some .local)
    (he : ∀ (a : Addr) (oe : Obj) (cls : Value) (d : Option Addr) (pn : List (Addr × Obj)), Zc cls d oe → (∃ vs, oe.data = .fields vs) → PE (X.suite a ((a, oe) :: pn)) e (tHX G nms.length i hv a cls d))
    (r : ClsOk X hds (hs.map (Hd.cl G nms.length))) : ClsOk X (.ExceptHandler (some (.Name x np)) (some y) [.Return (some e) pos] pos' :: hds) ((⟨k, some i, hv⟩ :: hs).map (Hd.cl G nms.length)) :=
  .as ⟨c.gl hg, (nm1 hn).1, .inl (c.mgs (xt.mg k x hk))⟩ c.nN (c.xN h1) (c.lcl h2) (fun a oe cls d pn hz hf => pss_one (ps_ret (he a oe cls d pn hz hf))) r
theorem Dok.try_ (c : Dok G W X D0 N sc lev) (xt : XcT G D0 nms sub) {wb : WS} {hs : List Hd} {body : List Stmt} {h₀ : ExceptHandler} {hds : List ExceptHandler} (hl : ∀ h ∈ hs, h.c < nms.length)
    (hb : ∀ (W' : WX) (X' : Cx), Dok G W' X' D0 N sc lev → BV G W' X' body wb) (hh : ClsOk X (h₀ :: hds) (hs.map (Hd.cl G nms.length))) : SV G W X (.Try body (h₀ :: hds) [] [] pos) (sTry nms.length sub wb hs) :=
  sv_try c.st c.fr c.tk (fun k k' h1 h2 => by rw [← c.hK]; exact xt.sub k k' h1 h2) hl (fun W' pn xe t po => hb W' _ (c.tr t po)) (hb W X c).mono hh
/-! comprehensions -/
theorem Cok.lc (c : Cok G W X D0 N sc fo lev) {tg it elt : Expr} {ifs : List Expr} {wi : WI} {wt : WT} {we : WE} (m : Bool) (t : Tg) {scope : Scope} (own : List (Str × Nat)) (hi : IV G W X tg it wi) (ok : blkC N sc scope own = true)
    (hb : ∀ X' : Cx, Cok G W0 X' D0 N (relS scope sc) (fob scope) lev → PG X' tg (t.rd G.K) ∧ TsV G W0 X' ifs wt ∧ EV G W0 X' elt we) (hn : notSet it = true) (hv : ∀ j ∈ t.slots, j ∈ own.map (·.2)) :
    EV G W X (.ListComp elt [⟨tg, it, ifs, 0⟩] scope pos) (wLc m wi t wt we (own.map (·.2))) := by
  have b := fun (s : Shared) (H : Hp) (C : Addr) (cl : List (Str × Addr)) (fp : List Addr) => hb _ (c.blk s H scope C cl fp)
  have okk := blkOk_by ok
  rw [← c.eN, ← c.eS] at okk
  have b0 := b X.s_0 X.H_0 0 [] []
  exact ev_lc c.hK c.calm c.nN hi okk (fun s H C cl fp => (b s H C cl fp).1) (fun s H C cl fp => (b s H C cl fp).2.1) (fun s H C cl fp => (b s H C cl fp).2.2) b0.2.1.mono b0.2.2.mono hn hv
theorem Cok.setlc (c : Cok G W X D0 N sc fo lev) {tg it elt : Expr} {ifs : List Expr} {wi : WI} {wt : WT} {we : WE} {y : Str} {py spos : Pos} (i : Nat) (m : Bool) (t : Tg) {scope : Scope} (own : List (Str × Nat)) (h1 : N[i]? = some y) (h2 : sc.names.lookup y = some .local) (hi : IV G W X tg it wi) (ok : blkC N sc scope own = true)
    (hb : ∀ X' : Cx, Cok G W0 X' D0 N (relS scope sc) (fob scope) lev → PG X' tg (t.rd G.K) ∧ TsV G W0 X' ifs wt ∧ EV G W0 X' elt we) (hn : notSet it = true) (hv : ∀ j ∈ t.slots, j ∈ own.map (·.2))
    (hw : ∀ env : PySem.Env, env.scope = sc → swapsWith (.ListComp elt [⟨tg, it, ifs, 0⟩] scope pos) (some (.Name y py)) spos.line env = pure true) :
    SV G W X (.Assign [.Name y py] (.ListComp elt [⟨tg, it, ifs, 0⟩] scope pos) spos) (sSet i (wLc m wi t wt we (own.map (·.2)))) := by
  have b := fun (s : Shared) (H : Hp) (C : Addr) (cl : List (Str × Addr)) (fp : List Addr) => hb _ (c.blk s H scope C cl fp)
  have okk := blkOk_by ok
  rw [← c.eN, ← c.eS] at okk
  have b0 := b X.s_0 X.H_0 0 [] []
  exact sv_setLc c.hK c.calm c.nN (c.xN h1) (c.lcl h2) (hw _ c.eS) hi okk (fun s H C cl fp => (b s H C cl fp).1) (fun s H C cl fp => (b s H C cl fp).2.1) (fun s H C cl fp => (b s H C cl fp).2.2) b0.2.1.mono b0.2.2.mono hn hv
end
/-! for the table's parts -/
def clsInit : Stmt → Stmt
  | .ClassDef _ _ _ (s :: _) _ _ _ _ _ _ _ => s
  | s => s
def gxOf (K : PySem.W.Frag) (nms xns : List Str) (fld : Nat → Str) : Gx := ⟨K, fun k => He.ga K (nms.getD k Str.empty), fld, fun c => He.ga K (xns.getD c Str.empty)⟩
def F_no : FD := fun _ _ _ _ => False
theorem mono_no : MonoF F_no := fun _ _ _ _ _ _ _ _ z => z
theorem gv_ok {x : Str} {K : PySem.W.Frag} {h base : Heap} {mg : Str → Option Value} (X : K.In base) (G : base.Ns mainGlobals mg) (c : (He.Fa.glo x).ok K = true) : mg x = some (.ref (He.ga K x)) := He.glo_ok X G c
end Rf

set_option Elab.async false
set_option linter.all false
set_option maxRecDepth 100000
set_option maxHeartbeats 1000000
/-! Rf16: for the plain side: sizes, what is shown, comprehensions as maps, loops. -/
namespace Rf
open PySem
/-! ### sizes -/
def Bd (k : Nat) (i : Int) : Prop := i.natAbs < 2 ^ k
theorem Bd.mono {k l : Nat} {i : Int} (h : Bd k i) (hl : k ≤ l) : Bd l i := Nat.lt_of_lt_of_le h (Nat.pow_le_pow_right (by decide) hl)
theorem Bd.log {k : Nat} {i : Int} (h : Bd k i) (hk : 0 < k) : i.natAbs.log2 < k := by
  by_cases z : i.natAbs = 0
  · rw [z]; simpa using hk
  · exact (Nat.log2_lt z).mpr h
theorem Bd.mul {k l : Nat} {i j : Int} (h1 : Bd k i) (h2 : Bd l j) : Bd (k + l) (i * j) := by
  unfold Bd at *
  rw [Int.natAbs_mul, Nat.pow_add]
  exact Nat.mul_lt_mul'' h1 h2
theorem Bd.add {k l : Nat} {i j : Int} (h1 : Bd k i) (h2 : Bd l j) : Bd (max k l + 1) (i + j) := by
  have a := h1.mono (Nat.le_max_left k l)
  have b := h2.mono (Nat.le_max_right k l)
  unfold Bd at *
  have c := Int.natAbs_add_le i j
  rw [Nat.pow_succ]
  omega
theorem Bd.neg {k : Nat} {i : Int} (h : Bd k i) : Bd k (-i) := by unfold Bd at *; rw [Int.natAbs_neg]; exact h
theorem Bd.sub {k l : Nat} {i j : Int} (h1 : Bd k i) (h2 : Bd l j) : Bd (max k l + 1) (i - j) := by rw [Int.sub_eq_add_neg]; exact h1.add h2.neg
theorem Bd.ediv {k : Nat} {i j : Int} (h : Bd k i) : Bd k (i / j) := by
  by_cases hi : 0 ≤ i
  · unfold Bd at *
    refine Nat.lt_of_le_of_lt ?_ h
    have := Int.natAbs_ediv_le_natAbs i j
    exact this
  · unfold Bd at *
    refine Nat.lt_of_le_of_lt ?_ h
    exact Int.natAbs_ediv_le_natAbs i j
theorem Bd.fdiv {k : Nat} {i j : Int} (h : Bd k i) : Bd (k + 1) (i.fdiv j) := by
  rw [Int.fdiv_eq_ediv]
  have a := h.ediv (j := j)
  split
  · rw [Int.sub_zero]; exact a.mono (Nat.le_succ k)
  · have b : Bd 1 1 := by unfold Bd; decide
    by_cases hk : k = 0
    · subst hk
      unfold Bd at *
      simp at *
      omega
    · exact (a.sub b).mono (by omega)
theorem Bd.of_le {k : Nat} {i j : Int} (h : Bd k j) (hi : i.natAbs ≤ j.natAbs) : Bd k i := Nat.lt_of_le_of_lt hi h
theorem Bd.nat {k : Nat} {i : Int} (h1 : 0 ≤ i) (h2 : i < 2 ^ k) : Bd k i := by
  unfold Bd
  have : ((2 ^ k : Nat) : Int) = 2 ^ k := by simp
  omega
theorem Bd.rng {k : Nat} {i : Int} (h1 : -(2 ^ k) < i) (h2 : i < 2 ^ k) : Bd k i := by
  unfold Bd
  have : ((2 ^ k : Nat) : Int) = 2 ^ k := by simp
  omega
theorem cDiv_of {k : Nat} {i j : Int} (h : Bd k j) (hj : j ≠ 0) (hk : k ≤ 9000) : cDiv i j := ⟨hj, (h.mono hk).log (by decide)⟩
theorem cMul_of {k l : Nat} {i j : Int} (h1 : Bd k i) (h2 : Bd l j) (hk : k + l ≤ 999990) : cMul i j := by
  have a := (h1.mono (Nat.le_succ k)).log (Nat.succ_pos k)
  have b := (h2.mono (Nat.le_succ l)).log (Nat.succ_pos l)
  unfold cMul
  omega
/-! ### what is shown -/
mutual
/-- data whose ints can be shown -/
def D.fine : D → Bool
  | .non => true | .bl _ => true | .int i => decide (i.natAbs.log2 < 1920) | .tup xs => D.fines xs | .lst xs => D.fines xs | _ => false
def D.fines : List D → Bool
  | [] => true
  | x :: xs => D.fine x && D.fines xs
end
mutual
def D.shL : D → Nat
  | .non => 4 | .bl _ => 5 | .int _ => 1921 | .tup xs => D.shLs xs + 3 | .lst xs => D.shLs xs + 3 | _ => 0
def D.shLs : List D → Nat
  | [] => 0
  | x :: xs => D.shL x + 2 + D.shLs xs
end
mutual
theorem D.shown_fine : ∀ d : D, d.fine = true → d.py.showable = true ∧ d.py.shown.length ≤ d.shL
  | .non, _ => ⟨rfl, by decide⟩
  | .bl b, _ => ⟨rfl, by cases b <;> decide⟩
  | .int i, h => by
    have h' : i.natAbs.log2 < 1920 := of_decide_eq_true h
    refine ⟨decide_eq_true h', ?_⟩
    show (Str.ofString (toString i)).length ≤ 1921
    rw [ofString_length]
    exact int_text_length_le (k := 1920) (by decide) h'
  | .tup xs, h => by
    obtain ⟨a, b, c⟩ := D.shown_fines xs h
    refine ⟨a, ?_⟩
    show (tupleText (PyData.shownAll (D.pys xs))).length ≤ D.shLs xs + 3
    have := tupleText_len_le (PyData.shownAll (D.pys xs))
    omega
  | .lst xs, h => by
    obtain ⟨a, b, c⟩ := D.shown_fines xs h
    refine ⟨a, ?_⟩
    show (listText (PyData.shownAll (D.pys xs))).length ≤ D.shLs xs + 3
    have := listText_len_le (PyData.shownAll (D.pys xs))
    omega
  | .str _, h => by cases h
  | .ref _, h => by cases h
  | .fn _, h => by cases h
  | .ty _, h => by cases h
  | .scr _, h => by cases h
theorem D.shown_fines : ∀ xs : List D, D.fines xs = true → PyData.showableAll (D.pys xs) = true ∧ ((PyData.shownAll (D.pys xs)).map (·.length)).sum + 2 * (PyData.shownAll (D.pys xs)).length ≤ D.shLs xs ∧ True
  | [], _ => ⟨rfl, by simp [D.pys, PyData.shownAll, D.shLs], trivial⟩
  | x :: xs, h => by
    have h' : x.fine = true ∧ D.fines xs = true := by simpa [D.fines] using h
    obtain ⟨a1, a2⟩ := D.shown_fine x h'.1
    obtain ⟨b1, b2, _⟩ := D.shown_fines xs h'.2
    refine ⟨by simp [D.pys, PyData.showableAll, a1, b1], ?_, trivial⟩
    simp only [D.pys, PyData.shownAll, List.map_cons, List.sum_cons, List.length_cons, D.shLs]
    omega
end
theorem shw_of {d : D} (h1 : d.ok = true) (h2 : d.fine = true) (h3 : d.shL ≤ 16777216) : d.shw := ⟨h1, (D.shown_fine d h2).1, Nat.le_trans (D.shown_fine d h2).2 h3⟩
/-! ### comprehensions of pure elements -/
def Agr (M M' : Mem) : Prop := ∀ a, M a ≠ none → M' a = M a
theorem mdel_put {M : Mem} {p : Addr} {o : MO} (h : M p = none) : mdel (mupd M p o) p = M := by
  funext a
  by_cases e : a = p
  · subst e; rw [mdel_same]; exact h.symm
  · rw [mdel_ne e, mupd_ne e]
theorem mupd_twice {M : Mem} {p : Addr} {o o' : MO} : mupd (mupd M p o) p o' = mupd M p o' := by
  funext a
  by_cases e : a = p
  · subst e; rw [mupd_same, mupd_same]
  · rw [mupd_ne e, mupd_ne e, mupd_ne e]
theorem agr_put {M : Mem} {p : Addr} {o : MO} (h : M p = none) : Agr M (mupd M p o) := fun a n => mupd_ne fun e => by subst e; exact n h
theorem wLcR_map {t : Tg} {wt : WT} {we : WE} {S : Mem → Prop} {p : Addr} {ρ0 : Env'} {M : Mem} (hp : M p = none) (c : D → Bool) (f : D → D) (hS : ∀ M', Agr M M' → S M') :
    ∀ (ds : List D) (acc : List D) (Q : Mem → Prop), acc.length + ds.length ≤ 16777216 → (∀ d ∈ ds, ∃ ρ2, t.put d ρ0 = some ρ2 ∧ ∀ M', Agr M M' → (∀ R : Bool → Mem → Prop, R (c d) M' → wt ρ2 M' R fun _ _ _ => False) ∧ (c d = true → ∀ R : QV, R (f d) M' → we ρ2 M' R fun _ _ _ => False)) →
      Q (mupd M p (.lst (acc ++ (ds.filter c).map f))) → wLcR t wt we S p ρ0 ds (mupd M p (.lst acc)) Q
  | [], acc, Q, _, _, hq => ⟨hS _ (agr_put hp), by simpa using hq⟩
  | d :: ds, acc, Q, hl, h, hq => by
    obtain ⟨ρ2, e, h2⟩ := h d List.mem_cons_self
    refine ⟨hS _ (agr_put hp), ?_⟩
    rw [e]
    refine (h2 _ (agr_put hp)).1 _ ?_
    have hl' : acc.length + (ds.length + 1) ≤ 16777216 := hl
    cases hc : c d with
    | false =>
      rw [if_neg Bool.false_ne_true]
      refine wLcR_map hp c f hS ds acc Q (by omega) (fun d' m => h d' (List.mem_cons_of_mem _ m)) ?_
      rw [List.filter_cons_of_neg (by rw [hc]; exact Bool.false_ne_true)] at hq
      exact hq
    | true =>
      rw [if_pos rfl]
      refine (h2 _ (agr_put hp)).2 hc _ ?_
      rw [mupd_same]
      refine ⟨by omega, ?_⟩
      rw [mupd_twice]
      refine wLcR_map hp c f hS ds (acc ++ [f d]) Q (by rw [List.length_append]; show acc.length + 1 + ds.length ≤ _; omega) (fun d' m => h d' (List.mem_cons_of_mem _ m)) ?_
      rw [List.filter_cons_of_pos hc] at hq
      simpa using hq
/-- a comprehension that is walked: its test, its element -/
theorem lc_if {t : Tg} {wt : WT} {we : WE} {S : Mem → Prop} {ρ0 : Env'} {M : Mem} {items : List D} {K : Addr → List D → Mem → Prop} (c : D → Bool) (f : D → D) (hl : items.length ≤ 16777216) (hS : ∀ M', Agr M M' → S M')
    (h : ∀ d ∈ items, ∃ ρ2, t.put d ρ0 = some ρ2 ∧ ∀ M', Agr M M' → (∀ R : Bool → Mem → Prop, R (c d) M' → wt ρ2 M' R fun _ _ _ => False) ∧ (c d = true → ∀ R : QV, R (f d) M' → we ρ2 M' R fun _ _ _ => False))
    (hq : ∀ p, M p = none → K p ((items.filter c).map f) (mupd M p (.lst ((items.filter c).map f)))) : ∀ p, M p = none → wLcR t wt we S p ρ0 items (mupd M p (.lst [])) (fun M2 => match M2 p with
      | some (.lst acc) => K p acc M2
      | _ => False) := fun p hp => by
  refine wLcR_map hp c f hS items [] _ (by simpa using hl) h ?_
  rw [mupd_same]
  exact hq p hp
/-- without a test -/
theorem lc_all {t : Tg} {we : WE} {S : Mem → Prop} {ρ0 : Env'} {M : Mem} {items : List D} {K : Addr → List D → Mem → Prop} (f : D → D) (hl : items.length ≤ 16777216) (hS : ∀ M', Agr M M' → S M')
    (h : ∀ d ∈ items, ∃ ρ2, t.put d ρ0 = some ρ2 ∧ ∀ M', Agr M M' → ∀ R : QV, R (f d) M' → we ρ2 M' R fun _ _ _ => False)
    (hq : ∀ p, M p = none → K p (items.map f) (mupd M p (.lst (items.map f)))) : ∀ p, M p = none → wLcR t wYes we S p ρ0 items (mupd M p (.lst [])) (fun M2 => match M2 p with
      | some (.lst acc) => K p acc M2
      | _ => False) := lc_if (fun _ => true) f hl hS (fun d hd => by
  obtain ⟨ρ2, e, k⟩ := h d hd
  exact ⟨ρ2, e, fun M' hA => ⟨fun R r => r, fun _ => k M' hA⟩⟩) (fun p hp => by rw [List.filter_eq_self.mpr (fun _ _ => rfl)]; exact hq p hp)
/-! ### for, by what holds ahead of each turn -/
theorem for_inv {g : WG} {wb : WS} {S : Mem → Prop} {E : En} (I : List D → Env' → Mem → Prop) (hS : ∀ ds ρ M, I ds ρ M → S M)
    (h0 : ∀ ρ M, I [] ρ M → E.nx ρ M) (h1 : ∀ d ds ρ M, I (d :: ds) ρ M → ∀ N : Env' → Mem → Prop, (∀ ρ' M', I ds ρ' M' → N ρ' M') → g d ρ M fun ρ2 M2 => wb (E.turn N) ρ2 M2) : ∀ ds ρ M, I ds ρ M → sForR g wb S ds E ρ M
  | [], ρ, M, i => ⟨hS _ _ _ i, h0 ρ M i⟩
  | d :: ds, ρ, M, i => ⟨hS _ _ _ i, h1 d ds ρ M i _ fun ρ' M' y => for_inv I hS h0 h1 ds ρ' M' y⟩
/-! places of short lists -/
section
variable {α : Type} {a b c d e f : α} {xs : List α}
theorem at_nat {k : Nat} {l : List α} {x : α} (h : l[k]? = some x) : L2.atI l (k : Int) = some x := by
  have hl : k < l.length := by
    by_cases z : k < l.length
    · exact z
    · rw [List.getElem?_eq_none (by omega)] at h; cases h
  unfold L2.atI L2.ixN
  rw [if_pos (by omega), if_pos (by omega)]
  simpa using h
theorem at0 : L2.atI (a :: xs) 0 = some a := at_nat (k := 0) rfl
theorem at1 : L2.atI (a :: b :: xs) 1 = some b := at_nat (k := 1) rfl
theorem at2 : L2.atI (a :: b :: c :: xs) 2 = some c := at_nat (k := 2) rfl
theorem at3 : L2.atI (a :: b :: c :: d :: xs) 3 = some d := at_nat (k := 3) rfl
theorem at4 : L2.atI (a :: b :: c :: d :: e :: xs) 4 = some e := at_nat (k := 4) rfl
theorem at5 : L2.atI (a :: b :: c :: d :: e :: f :: xs) 5 = some f := at_nat (k := 5) rfl
theorem ix60 : L2.ixN 6 0 = some 0 := rfl
theorem ix61 : L2.ixN 6 1 = some 1 := rfl
theorem ix62 : L2.ixN 6 2 = some 2 := rfl
theorem ix63 : L2.ixN 6 3 = some 3 := rfl
theorem ix64 : L2.ixN 6 4 = some 4 := rfl
theorem ix65 : L2.ixN 6 5 = some 5 := rfl
theorem atm1 : L2.atI [a] (-1) = some a := rfl
end
theorem eqv_int (a b : Int) : D.eqv (.int a) (.int b) = decide (a = b) := by
  unfold D.eqv D.py
  first
    | rfl
    | (simp [PyData.eqv]; done)
theorem ok_int (a : Int) : D.ok (.int a) = true := rfl
open PySem PySem.Spec PyProof.Rows L2 in
theorem cut_most {α : Type} {xs : List α} {n : Nat} (h : xs.length ≤ n) : cutD xs none (some (n : Int)) = xs := cutD_whole ⟨rfl, by
  rw [HT.sIx_nat]
  exact Nat.min_eq_right h⟩
end Rf

set_option Elab.async false
set_option linter.all false
set_option maxRecDepth 100000
set_option maxHeartbeats 1000000
/-! Rf17: the laws' own helpers: the drawn numbers. -/
namespace Rf
open PySem
/-- the state: cells, the next one's place, what is left of one, how often, the seed, the count -/
def stL (cs : List Int) (i cur left seed cnt : Int) : List D := [.lst (cs.map D.int), .int i, .int cur, .int left, .int seed, .int cnt]
def StOk (M : Mem) (p : Addr) (n : Nat) : Prop := ∃ (cs : List Int) (i cur left seed cnt : Int), M p = some (.lst (stL cs i cur left seed cnt)) ∧ 0 ≤ i ∧ Bd 40 seed ∧ 0 ≤ cnt ∧ cnt ≤ n
theorem StOk.mono {M : Mem} {p : Addr} {n m : Nat} (h : StOk M p n) (hm : n ≤ m) : StOk M p m := by
  obtain ⟨cs, i, cur, left, seed, cnt, h1, h2, h3, h4, h5⟩ := h
  exact ⟨cs, i, cur, left, seed, cnt, h1, h2, h3, h4, by omega⟩
def F_draw : FD := fun ds M Q Z => match ds with
  | [.ref p, .int many] => ∃ n, StOk M p n ∧ n < 2 ^ 64 ∧ 0 < many ∧ Bd 8000 many ∧ ∀ (r : Int) o, 0 ≤ r → r < many → StOk (mupd M p o) p (n + 1) → Q (.int r) (mupd M p o)
  | _ => False
def F_pick : FD := fun ds M Q Z => match ds with
  | [.ref p, .lst xs] => ∃ n, StOk M p n ∧ n < 2 ^ 64 ∧ xs ≠ [] ∧ xs.length ≤ 1000000 ∧ ∀ x o, x ∈ xs → StOk (mupd M p o) p (n + 1) → Q x (mupd M p o)
  | [.ref p, .tup xs] => ∃ n, StOk M p n ∧ n < 2 ^ 64 ∧ xs ≠ [] ∧ xs.length ≤ 1000000 ∧ ∀ x o, x ∈ xs → StOk (mupd M p o) p (n + 1) → Q x (mupd M p o)
  | _ => False
def F_start : FD := fun ds M Q Z => match ds with
  | [.scr cs] => ∃ ns : List Int, cs = ns.map D.int ∧ ns.length ≤ 63 ∧ ∀ p o, M p = none → StOk (mupd M p o) p 0 → Q (.ref p) (mupd M p o)
  | _ => False
def ws_draw : WS := sSeq (sIf (wAndT (wAsT (w2 oEq (w2 oIx (wVar 0) (wLit (.int 3))) (wLit (.int 0)))) (wAsT (w2 oLt (w2 oIx (wVar 0) (wLit (.int 1))) (wN oLen (wCons (w2 oIx (wVar 0) (wLit (.int 0))) (wNil)))))) (sAsg (wN oTup (wCons (w2 oIx (w2 oIx (wVar 0) (wLit (.int 0))) (w2 oIx (wVar 0) (wLit (.int 1)))) (wCons (wLit (.int 60)) (wCons (w2 oAdd (w2 oIx (wVar 0) (wLit (.int 1))) (wLit (.int 1))) (wNil))))) (gTupG 3 (gsCons (gSubG (wVar 0) (wLit (.int 2))) (gsCons (gSubG (wVar 0) (wLit (.int 3))) (gsCons (gSubG (wVar 0) (wLit (.int 1))) (gsNil)))))) (sNext)) (sSeq (sIf (wAsT (w2 oGt (w2 oIx (wVar 0) (wLit (.int 3))) (wLit (.int 0)))) (sSeq (sSet 2 (w2 oMod (wN oInt (wCons (w2 oIx (wVar 0) (wLit (.int 2))) (wNil))) (wVar 1))) (sSeq (sAsg (w2 oDiv (w2 oIx (wVar 0) (wLit (.int 2))) (wVar 1)) (gSubG (wVar 0) (wLit (.int 2)))) (sSeq (sAsg (wIfE (wAsT (w2 oGt (w2 oIx (wVar 0) (wLit (.int 2))) (wLit (.int 0)))) (w2 oSub (w2 oIx (wVar 0) (wLit (.int 3))) (wLit (.int 1))) (wLit (.int 0))) (gSubG (wVar 0) (wLit (.int 3)))) (sRet (wVar 2))))) (sNext)) (sSeq (sAsg (w2 oAdd (w2 oIx (wVar 0) (wLit (.int 5))) (wLit (.int 1))) (gSubG (wVar 0) (wLit (.int 5)))) (sSeq (sAsg (w2 oMod (wN oInt (wCons (w2 oAdd (w2 oAdd (w2 oMul (w2 oIx (wVar 0) (wLit (.int 4))) (wLit (.int 48271))) (w2 oMul (w2 oMul (w2 oIx (wVar 0) (wLit (.int 5))) (w2 oIx (wVar 0) (wLit (.int 5)))) (wLit (.int 69621)))) (wLit (.int 11))) (wNil))) (wLit (.int 2147483647))) (gSubG (wVar 0) (wLit (.int 4)))) (sRet (w2 oMod (wN oInt (wCons (w2 oDiv (w2 oIx (wVar 0) (wLit (.int 4))) (wLit (.int 13))) (wNil))) (wVar 1))))))
def ws_pick (F : FD) : WS := sRet (w2 oIx (wVar 1) (wCallF 2 [] F (wCons (wVar 0) (wCons (wN oLen (wCons (wVar 1) (wNil))) (wNil)))))
def ws_start : WS := sSeq (sSet 1 (wLit (.int 7))) (sSeq (sFor (wItems (wSl (wVar 0) (wNoPart) (wPart (wLit (.int 63))))) (gPut (.nm 2)) (sSet 1 (w2 oAdd (w2 oMod (wN oInt (wCons (w2 oAdd (w2 oMul (wVar 1) (wLit (.int 48271))) (wVar 2)) (wNil))) (wLit (.int 2147483629))) (wLit (.int 1))))) (sRet (wN oLstM (wCons (wLc false (wItems (wSl (wVar 0) (wNoPart) (wPart (wLit (.int 63))))) (.nm 2) (wYes) (wN oAbs (wCons (wN oInt (wCons (wVar 2) (wNil))) (wNil))) [2]) (wCons (wLit (.int 0)) (wCons (wLit (.int 0)) (wCons (wLit (.int 0)) (wCons (wVar 1) (wCons (wLit (.int 0)) (wNil))))))))))
theorem mono_draw : MonoF F_draw := fun ds M Q Q' Z Z' hq hz q => by
  unfold F_draw at *
  split at q
  · obtain ⟨n, h1, h2, h3, h4, h5⟩ := q
    exact ⟨n, h1, h2, h3, h4, fun r o a b c => hq _ _ (h5 r o a b c)⟩
  · exact q.elim
theorem mono_pick : MonoF F_pick := fun ds M Q Q' Z Z' hq hz q => by
  unfold F_pick at *
  split at q
  · obtain ⟨n, h1, h2, h3, h4, h5⟩ := q
    exact ⟨n, h1, h2, h3, h4, fun r o a b => hq _ _ (h5 r o a b)⟩
  · obtain ⟨n, h1, h2, h3, h4, h5⟩ := q
    exact ⟨n, h1, h2, h3, h4, fun r o a b => hq _ _ (h5 r o a b)⟩
  · exact q.elim
theorem mono_start : MonoF F_start := fun ds M Q Q' Z Z' hq hz q => by
  unfold F_start at *
  split at q
  · obtain ⟨n, h1, h2, h3⟩ := q
    exact ⟨n, h1, h2, fun p o a b => hq _ _ (h3 p o a b)⟩
  · exact q.elim
theorem draw_end {p : Addr} {many : Int} {M : Mem} {Q : QV} {n : Nat} (h3 : 0 < many) (hq : ∀ (r : Int) o, 0 ≤ r → r < many → StOk (mupd M p o) p (n + 1) → Q (.int r) (mupd M p o)) (x : Int) {cs : List Int} {i cur left seed cnt : Int} (hi : 0 ≤ i) (hs : Bd 40 seed) (h0 : 0 ≤ cnt) (hc : cnt ≤ (n : Int) + 1) :
    Q (.int (x.fmod many)) (mupd M p (.lst [.lst (cs.map D.int), .int i, .int cur, .int left, .int seed, .int cnt])) := by
  refine hq _ _ ?_ ?_ ⟨cs, i, cur, left, seed, cnt, mupd_same, hi, hs, h0, by omega⟩
  · exact Int.fmod_nonneg_of_pos x h3
  · exact Int.fmod_lt_of_pos x h3
theorem at_ints {cs : List Int} {i : Int} (h0 : 0 ≤ i) (h : i < (cs.map D.int).length) : ∃ c : Int, L2.atI (cs.map D.int) i = some (.int c) := by
  obtain ⟨k, rfl⟩ := Int.eq_ofNat_of_zero_le h0
  have hl : k < cs.length := by
    rw [List.length_map] at h
    omega
  exact ⟨cs[k], at_nat (by rw [List.getElem?_map, List.getElem?_eq_getElem hl]; rfl)⟩
theorem do_draw : ∀ ds M Q Z, F_draw ds M Q Z → ds.length = 2 → ws_draw (endF Q Z) (startD ["state", "many", "found"] ds) M := by
  intro ds M Q Z h hl
  unfold F_draw at h
  split at h
  · rename_i p many
    obtain ⟨n, ⟨cs, i, cur, left, seed, cnt, hM, hi, hs, h0, hc⟩, hn, h3, h4, hq⟩ := h
    have hm0 : many ≠ 0 := Int.ne_of_gt h3
    have hcc : cnt ≤ (n : Int) + 1 := by omega
    have fin := @draw_end p many M Q n h3 hq
    have dv : ∀ x, cDiv x many := fun x => cDiv_of h4 hm0 (by decide)
    have bc : Bd 65 (cnt + 1) := Bd.nat (by omega) (by
      have : (n : Int) < 2 ^ 64 := by
        have e : ((2 ^ 64 : Nat) : Int) = 2 ^ 64 := by simp
        omega
      have e2 : (2 : Int) ^ 65 = 2 ^ 64 + 2 ^ 64 := by decide
      have e3 : (2 : Int) ^ 64 = 18446744073709551616 := by decide
      omega)
    have last : cMul seed 48271 ∧ cMul (cnt + 1) (cnt + 1) ∧ cMul ((cnt + 1) * (cnt + 1)) 69621 := by
      have k1 : Bd 20 48271 := by unfold Bd; decide
      have k2 : Bd 20 69621 := by unfold Bd; decide
      exact ⟨cMul_of hs k1 (by decide), cMul_of bc bc (by decide), cMul_of (bc.mul bc) k2 (by decide)⟩
    have bs : ∀ x : Int, Bd 40 (x.fmod 2147483647) := fun x => Bd.nat (Int.fmod_nonneg_of_pos x (by decide)) (by
      have := Int.fmod_lt_of_pos x (show (0 : Int) < 2147483647 by decide)
      have e : (2 : Int) ^ 40 = 1099511627776 := by decide
      omega)
    have d13 : ∀ x, cDiv x 13 := fun x => cDiv_of (k := 4) (by unfold Bd; decide) (by decide) (by decide)
    simp only [sSeq, sNext, sRet, sRetN, sIf, sSet, sPar, sExpr, sRaise, sAsg, sBrk, sCnt, gPut, Tg.put, Tgs.put, gSubG, gTupG, gsCons, gsNil, oPut, wVar, wLit, w1, w2, wN, wNil, wCons, wTru, wAsT, wNotT, wAndT, wOrT, wAnd, wOr, wNot, wIfE, wCallF, fill, truD, oAdd, oSub, oMul, oDiv, oMod, oPow, oNeg, oEq, oNe, oLt, oLe, oGt, oGe, oIs, oIsNot, D.isNon, oTup, oLst, oLstM, oLen, lenD, oAbs, oInt, oMax, oMin, oSum, oAll, oAny, lstOf, intsOf, bolsOf, oIx, ix60, ix61, ix62, ix63, ix64, ix65, mupd_same, mupd_twice, eqv_int, ok_int, at0, at1, at2, at3, at4, at5, atm1, wSl, wPart, wNoPart, oSl, oIsi, oTuple, oList, oListM, wLc, wipeE, wItems, itemsD, wRange1, wRange2, sFor, startD, endF, En.turn, List.map_cons, List.map_nil, List.cons_append, List.nil_append, List.append_nil, List.getElem?_cons_zero, List.getElem?_cons_succ, List.getElem?_nil, List.length_cons, List.length_nil, List.set_cons_zero, List.set_cons_succ, List.replicate, List.zip_cons_cons, List.zip_nil_right, List.foldl_cons, List.foldl_nil, Option.map_some, Option.bind_some, Nat.reduceAdd, Nat.reduceSub, Nat.zero_add, Nat.sub_self, Nat.add_one_sub_one, Nat.reduceEqDiff, Nat.reduceLT, Nat.reduceLeDiff, Int.reduceLT, Int.reduceLE, Int.reduceNeg, Int.reduceToNat, Int.toNat_zero, Int.toNat_one, Int.reduceEq, reduceIte, if_true, if_false, ite_true, ite_false, true_and, and_true, Bool.not_true, Bool.not_false, Bool.true_eq_false, Bool.false_eq_true, eq_self, List.isEmpty_cons, List.isEmpty_nil, Nat.reduceMul, decide_true, decide_false, ws_draw, hM, stL]
    have tail : ∀ (i cur left : Int), 0 ≤ i → (if decide (0 < left) = true then True else True) := fun _ _ _ _ => by split <;> trivial
    by_cases hleft : left = 0
    · by_cases hlt : i < ((cs.map D.int).length : Int)
      · obtain ⟨c, hc'⟩ := at_ints hi hlt
        simp only [hleft, hlt, hc', sSeq, sNext, sRet, sRetN, sIf, sSet, sPar, sExpr, sRaise, sAsg, sBrk, sCnt, gPut, Tg.put, Tgs.put, gSubG, gTupG, gsCons, gsNil, oPut, wVar, wLit, w1, w2, wN, wNil, wCons, wTru, wAsT, wNotT, wAndT, wOrT, wAnd, wOr, wNot, wIfE, wCallF, fill, truD, oAdd, oSub, oMul, oDiv, oMod, oPow, oNeg, oEq, oNe, oLt, oLe, oGt, oGe, oIs, oIsNot, D.isNon, oTup, oLst, oLstM, oLen, lenD, oAbs, oInt, oMax, oMin, oSum, oAll, oAny, lstOf, intsOf, bolsOf, oIx, ix60, ix61, ix62, ix63, ix64, ix65, mupd_same, mupd_twice, eqv_int, ok_int, at0, at1, at2, at3, at4, at5, atm1, wSl, wPart, wNoPart, oSl, oIsi, oTuple, oList, oListM, wLc, wipeE, wItems, itemsD, wRange1, wRange2, sFor, startD, endF, En.turn, List.map_cons, List.map_nil, List.cons_append, List.nil_append, List.append_nil, List.getElem?_cons_zero, List.getElem?_cons_succ, List.getElem?_nil, List.length_cons, List.length_nil, List.set_cons_zero, List.set_cons_succ, List.replicate, List.zip_cons_cons, List.zip_nil_right, List.foldl_cons, List.foldl_nil, Option.map_some, Option.bind_some, Nat.reduceAdd, Nat.reduceSub, Nat.zero_add, Nat.sub_self, Nat.add_one_sub_one, Nat.reduceEqDiff, Nat.reduceLT, Nat.reduceLeDiff, Int.reduceLT, Int.reduceLE, Int.reduceNeg, Int.reduceToNat, Int.toNat_zero, Int.toNat_one, Int.reduceEq, reduceIte, if_true, if_false, ite_true, ite_false, true_and, and_true, Bool.not_true, Bool.not_false, Bool.true_eq_false, Bool.false_eq_true, eq_self, List.isEmpty_cons, List.isEmpty_nil, Nat.reduceMul, decide_true, decide_false]
        refine ⟨hm0, dv _, ?_⟩
        split
        · exact fin c (by omega) hs h0 hcc
        · exact fin c (by omega) hs h0 hcc
      · simp only [hleft, hlt, sSeq, sNext, sRet, sRetN, sIf, sSet, sPar, sExpr, sRaise, sAsg, sBrk, sCnt, gPut, Tg.put, Tgs.put, gSubG, gTupG, gsCons, gsNil, oPut, wVar, wLit, w1, w2, wN, wNil, wCons, wTru, wAsT, wNotT, wAndT, wOrT, wAnd, wOr, wNot, wIfE, wCallF, fill, truD, oAdd, oSub, oMul, oDiv, oMod, oPow, oNeg, oEq, oNe, oLt, oLe, oGt, oGe, oIs, oIsNot, D.isNon, oTup, oLst, oLstM, oLen, lenD, oAbs, oInt, oMax, oMin, oSum, oAll, oAny, lstOf, intsOf, bolsOf, oIx, ix60, ix61, ix62, ix63, ix64, ix65, mupd_same, mupd_twice, eqv_int, ok_int, at0, at1, at2, at3, at4, at5, atm1, wSl, wPart, wNoPart, oSl, oIsi, oTuple, oList, oListM, wLc, wipeE, wItems, itemsD, wRange1, wRange2, sFor, startD, endF, En.turn, List.map_cons, List.map_nil, List.cons_append, List.nil_append, List.append_nil, List.getElem?_cons_zero, List.getElem?_cons_succ, List.getElem?_nil, List.length_cons, List.length_nil, List.set_cons_zero, List.set_cons_succ, List.replicate, List.zip_cons_cons, List.zip_nil_right, List.foldl_cons, List.foldl_nil, Option.map_some, Option.bind_some, Nat.reduceAdd, Nat.reduceSub, Nat.zero_add, Nat.sub_self, Nat.add_one_sub_one, Nat.reduceEqDiff, Nat.reduceLT, Nat.reduceLeDiff, Int.reduceLT, Int.reduceLE, Int.reduceNeg, Int.reduceToNat, Int.toNat_zero, Int.toNat_one, Int.reduceEq, reduceIte, if_true, if_false, ite_true, ite_false, true_and, and_true, Bool.not_true, Bool.not_false, Bool.true_eq_false, Bool.false_eq_true, eq_self, List.isEmpty_cons, List.isEmpty_nil, Nat.reduceMul, decide_true, decide_false]
        exact ⟨last.1, last.2.1, last.2.2, by decide, d13 _, hm0, fin _ hi (bs _) (by omega) (by omega)⟩
    · simp only [hleft, sSeq, sNext, sRet, sRetN, sIf, sSet, sPar, sExpr, sRaise, sAsg, sBrk, sCnt, gPut, Tg.put, Tgs.put, gSubG, gTupG, gsCons, gsNil, oPut, wVar, wLit, w1, w2, wN, wNil, wCons, wTru, wAsT, wNotT, wAndT, wOrT, wAnd, wOr, wNot, wIfE, wCallF, fill, truD, oAdd, oSub, oMul, oDiv, oMod, oPow, oNeg, oEq, oNe, oLt, oLe, oGt, oGe, oIs, oIsNot, D.isNon, oTup, oLst, oLstM, oLen, lenD, oAbs, oInt, oMax, oMin, oSum, oAll, oAny, lstOf, intsOf, bolsOf, oIx, ix60, ix61, ix62, ix63, ix64, ix65, mupd_same, mupd_twice, eqv_int, ok_int, at0, at1, at2, at3, at4, at5, atm1, wSl, wPart, wNoPart, oSl, oIsi, oTuple, oList, oListM, wLc, wipeE, wItems, itemsD, wRange1, wRange2, sFor, startD, endF, En.turn, List.map_cons, List.map_nil, List.cons_append, List.nil_append, List.append_nil, List.getElem?_cons_zero, List.getElem?_cons_succ, List.getElem?_nil, List.length_cons, List.length_nil, List.set_cons_zero, List.set_cons_succ, List.replicate, List.zip_cons_cons, List.zip_nil_right, List.foldl_cons, List.foldl_nil, Option.map_some, Option.bind_some, Nat.reduceAdd, Nat.reduceSub, Nat.zero_add, Nat.sub_self, Nat.add_one_sub_one, Nat.reduceEqDiff, Nat.reduceLT, Nat.reduceLeDiff, Int.reduceLT, Int.reduceLE, Int.reduceNeg, Int.reduceToNat, Int.toNat_zero, Int.toNat_one, Int.reduceEq, reduceIte, if_true, if_false, ite_true, ite_false, true_and, and_true, Bool.not_true, Bool.not_false, Bool.true_eq_false, Bool.false_eq_true, eq_self, List.isEmpty_cons, List.isEmpty_nil, Nat.reduceMul, decide_true, decide_false]
      by_cases hp : 0 < left
      · simp only [hp, sSeq, sNext, sRet, sRetN, sIf, sSet, sPar, sExpr, sRaise, sAsg, sBrk, sCnt, gPut, Tg.put, Tgs.put, gSubG, gTupG, gsCons, gsNil, oPut, wVar, wLit, w1, w2, wN, wNil, wCons, wTru, wAsT, wNotT, wAndT, wOrT, wAnd, wOr, wNot, wIfE, wCallF, fill, truD, oAdd, oSub, oMul, oDiv, oMod, oPow, oNeg, oEq, oNe, oLt, oLe, oGt, oGe, oIs, oIsNot, D.isNon, oTup, oLst, oLstM, oLen, lenD, oAbs, oInt, oMax, oMin, oSum, oAll, oAny, lstOf, intsOf, bolsOf, oIx, ix60, ix61, ix62, ix63, ix64, ix65, mupd_same, mupd_twice, eqv_int, ok_int, at0, at1, at2, at3, at4, at5, atm1, wSl, wPart, wNoPart, oSl, oIsi, oTuple, oList, oListM, wLc, wipeE, wItems, itemsD, wRange1, wRange2, sFor, startD, endF, En.turn, List.map_cons, List.map_nil, List.cons_append, List.nil_append, List.append_nil, List.getElem?_cons_zero, List.getElem?_cons_succ, List.getElem?_nil, List.length_cons, List.length_nil, List.set_cons_zero, List.set_cons_succ, List.replicate, List.zip_cons_cons, List.zip_nil_right, List.foldl_cons, List.foldl_nil, Option.map_some, Option.bind_some, Nat.reduceAdd, Nat.reduceSub, Nat.zero_add, Nat.sub_self, Nat.add_one_sub_one, Nat.reduceEqDiff, Nat.reduceLT, Nat.reduceLeDiff, Int.reduceLT, Int.reduceLE, Int.reduceNeg, Int.reduceToNat, Int.toNat_zero, Int.toNat_one, Int.reduceEq, reduceIte, if_true, if_false, ite_true, ite_false, true_and, and_true, Bool.not_true, Bool.not_false, Bool.true_eq_false, Bool.false_eq_true, eq_self, List.isEmpty_cons, List.isEmpty_nil, Nat.reduceMul, decide_true, decide_false]
        refine ⟨hm0, dv _, ?_⟩
        split
        · exact fin _ hi hs h0 hcc
        · exact fin _ hi hs h0 hcc
      · simp only [hp, sSeq, sNext, sRet, sRetN, sIf, sSet, sPar, sExpr, sRaise, sAsg, sBrk, sCnt, gPut, Tg.put, Tgs.put, gSubG, gTupG, gsCons, gsNil, oPut, wVar, wLit, w1, w2, wN, wNil, wCons, wTru, wAsT, wNotT, wAndT, wOrT, wAnd, wOr, wNot, wIfE, wCallF, fill, truD, oAdd, oSub, oMul, oDiv, oMod, oPow, oNeg, oEq, oNe, oLt, oLe, oGt, oGe, oIs, oIsNot, D.isNon, oTup, oLst, oLstM, oLen, lenD, oAbs, oInt, oMax, oMin, oSum, oAll, oAny, lstOf, intsOf, bolsOf, oIx, ix60, ix61, ix62, ix63, ix64, ix65, mupd_same, mupd_twice, eqv_int, ok_int, at0, at1, at2, at3, at4, at5, atm1, wSl, wPart, wNoPart, oSl, oIsi, oTuple, oList, oListM, wLc, wipeE, wItems, itemsD, wRange1, wRange2, sFor, startD, endF, En.turn, List.map_cons, List.map_nil, List.cons_append, List.nil_append, List.append_nil, List.getElem?_cons_zero, List.getElem?_cons_succ, List.getElem?_nil, List.length_cons, List.length_nil, List.set_cons_zero, List.set_cons_succ, List.replicate, List.zip_cons_cons, List.zip_nil_right, List.foldl_cons, List.foldl_nil, Option.map_some, Option.bind_some, Nat.reduceAdd, Nat.reduceSub, Nat.zero_add, Nat.sub_self, Nat.add_one_sub_one, Nat.reduceEqDiff, Nat.reduceLT, Nat.reduceLeDiff, Int.reduceLT, Int.reduceLE, Int.reduceNeg, Int.reduceToNat, Int.toNat_zero, Int.toNat_one, Int.reduceEq, reduceIte, if_true, if_false, ite_true, ite_false, true_and, and_true, Bool.not_true, Bool.not_false, Bool.true_eq_false, Bool.false_eq_true, eq_self, List.isEmpty_cons, List.isEmpty_nil, Nat.reduceMul, decide_true, decide_false]
        exact ⟨last.1, last.2.1, last.2.2, by decide, d13 _, hm0, fin _ hi (bs _) (by omega) (by omega)⟩
  · exact h.elim
theorem do_pick : ∀ ds M Q Z, F_pick ds M Q Z → ds.length = 2 → ws_pick F_draw (endF Q Z) (startD ["state", "some"] ds) M := by
  have key : ∀ (p : Addr) (xs : List D) (n : Nat) (M : Mem) (Q : QV) (Z : QX), StOk M p n → n < 2 ^ 64 → xs ≠ [] → xs.length ≤ 1000000 → (∀ x o, x ∈ xs → StOk (mupd M p o) p (n + 1) → Q x (mupd M p o)) →
      F_draw [.ref p, .int xs.length] M (fun y M2 => match y with
        | .int i => (match L2.atI xs i with
          | some d => Q d M2
          | none => False)
        | _ => False) Z := by
    intro p xs n M Q Z hs hn hx hl hq
    have h0 : 0 < xs.length := List.length_pos_iff.mpr hx
    refine ⟨n, hs, hn, by omega, Bd.nat (by omega) (by
      have e : (2 : Int) ^ 8000 = 2 ^ 20 * 2 ^ 7980 := by rw [← Int.pow_add]
      have e2 : (2 : Int) ^ 20 = 1048576 := by decide
      have e3 : (1 : Int) ≤ 2 ^ 7980 := Int.le_of_lt_add_one (by have := Int.pow_pos (n := 2) (m := 7980) (by decide); omega)
      rw [e, e2]
      omega), fun r o r0 r1 hs' => ?_⟩
    obtain ⟨k, rfl⟩ := Int.eq_ofNat_of_zero_le r0
    have hr : k < xs.length := by omega
    have e : L2.atI xs (k : Int) = some xs[k] := at_nat (List.getElem?_eq_getElem hr)
    dsimp only
    rw [e]
    exact hq _ _ (List.getElem_mem hr) hs'
  intro ds M Q Z h hl
  unfold F_pick at h
  split at h
  · obtain ⟨n, h1, h2, h3, h4, h5⟩ := h
    simp only [sSeq, sNext, sRet, sRetN, sIf, sSet, sPar, sExpr, sRaise, sAsg, sBrk, sCnt, gPut, Tg.put, Tgs.put, gSubG, gTupG, gsCons, gsNil, oPut, wVar, wLit, w1, w2, wN, wNil, wCons, wTru, wAsT, wNotT, wAndT, wOrT, wAnd, wOr, wNot, wIfE, wCallF, fill, truD, oAdd, oSub, oMul, oDiv, oMod, oPow, oNeg, oEq, oNe, oLt, oLe, oGt, oGe, oIs, oIsNot, D.isNon, oTup, oLst, oLstM, oLen, lenD, oAbs, oInt, oMax, oMin, oSum, oAll, oAny, lstOf, intsOf, bolsOf, oIx, ix60, ix61, ix62, ix63, ix64, ix65, mupd_same, mupd_twice, eqv_int, ok_int, at0, at1, at2, at3, at4, at5, atm1, wSl, wPart, wNoPart, oSl, oIsi, oTuple, oList, oListM, wLc, wipeE, wItems, itemsD, wRange1, wRange2, sFor, startD, endF, En.turn, List.map_cons, List.map_nil, List.cons_append, List.nil_append, List.append_nil, List.getElem?_cons_zero, List.getElem?_cons_succ, List.getElem?_nil, List.length_cons, List.length_nil, List.set_cons_zero, List.set_cons_succ, List.replicate, List.zip_cons_cons, List.zip_nil_right, List.foldl_cons, List.foldl_nil, Option.map_some, Option.bind_some, Nat.reduceAdd, Nat.reduceSub, Nat.zero_add, Nat.sub_self, Nat.add_one_sub_one, Nat.reduceEqDiff, Nat.reduceLT, Nat.reduceLeDiff, Int.reduceLT, Int.reduceLE, Int.reduceNeg, Int.reduceToNat, Int.toNat_zero, Int.toNat_one, Int.reduceEq, reduceIte, if_true, if_false, ite_true, ite_false, true_and, and_true, Bool.not_true, Bool.not_false, Bool.true_eq_false, Bool.false_eq_true, eq_self, List.isEmpty_cons, List.isEmpty_nil, Nat.reduceMul, decide_true, decide_false, ws_pick]
    exact key _ _ n M Q Z h1 h2 h3 h4 h5
  · obtain ⟨n, h1, h2, h3, h4, h5⟩ := h
    simp only [sSeq, sNext, sRet, sRetN, sIf, sSet, sPar, sExpr, sRaise, sAsg, sBrk, sCnt, gPut, Tg.put, Tgs.put, gSubG, gTupG, gsCons, gsNil, oPut, wVar, wLit, w1, w2, wN, wNil, wCons, wTru, wAsT, wNotT, wAndT, wOrT, wAnd, wOr, wNot, wIfE, wCallF, fill, truD, oAdd, oSub, oMul, oDiv, oMod, oPow, oNeg, oEq, oNe, oLt, oLe, oGt, oGe, oIs, oIsNot, D.isNon, oTup, oLst, oLstM, oLen, lenD, oAbs, oInt, oMax, oMin, oSum, oAll, oAny, lstOf, intsOf, bolsOf, oIx, ix60, ix61, ix62, ix63, ix64, ix65, mupd_same, mupd_twice, eqv_int, ok_int, at0, at1, at2, at3, at4, at5, atm1, wSl, wPart, wNoPart, oSl, oIsi, oTuple, oList, oListM, wLc, wipeE, wItems, itemsD, wRange1, wRange2, sFor, startD, endF, En.turn, List.map_cons, List.map_nil, List.cons_append, List.nil_append, List.append_nil, List.getElem?_cons_zero, List.getElem?_cons_succ, List.getElem?_nil, List.length_cons, List.length_nil, List.set_cons_zero, List.set_cons_succ, List.replicate, List.zip_cons_cons, List.zip_nil_right, List.foldl_cons, List.foldl_nil, Option.map_some, Option.bind_some, Nat.reduceAdd, Nat.reduceSub, Nat.zero_add, Nat.sub_self, Nat.add_one_sub_one, Nat.reduceEqDiff, Nat.reduceLT, Nat.reduceLeDiff, Int.reduceLT, Int.reduceLE, Int.reduceNeg, Int.reduceToNat, Int.toNat_zero, Int.toNat_one, Int.reduceEq, reduceIte, if_true, if_false, ite_true, ite_false, true_and, and_true, Bool.not_true, Bool.not_false, Bool.true_eq_false, Bool.false_eq_true, eq_self, List.isEmpty_cons, List.isEmpty_nil, Nat.reduceMul, decide_true, decide_false, ws_pick]
    exact key _ _ n M Q Z h1 h2 h3 h4 h5
  · exact h.elim
theorem do_start : ∀ ds M Q Z, F_start ds M Q Z → ds.length = 1 → ws_start (endF Q Z) (startD ["script", "seed", "cell"] ds) M := by
  intro ds M Q Z h hl
  unfold F_start at h
  split at h
  · obtain ⟨ns, rfl, hn, hq⟩ := h
    have ew : cutD (ns.map D.int) none (some 63) = ns.map D.int := cut_most (n := 63) (by rw [List.length_map]; exact hn)
    simp only [sSeq, sNext, sRet, sRetN, sIf, sSet, sPar, sExpr, sRaise, sAsg, sBrk, sCnt, gPut, Tg.put, Tgs.put, gSubG, gTupG, gsCons, gsNil, oPut, wVar, wLit, w1, w2, wN, wNil, wCons, wTru, wAsT, wNotT, wAndT, wOrT, wAnd, wOr, wNot, wIfE, wCallF, fill, truD, oAdd, oSub, oMul, oDiv, oMod, oPow, oNeg, oEq, oNe, oLt, oLe, oGt, oGe, oIs, oIsNot, D.isNon, oTup, oLst, oLstM, oLen, lenD, oAbs, oInt, oMax, oMin, oSum, oAll, oAny, lstOf, intsOf, bolsOf, oIx, ix60, ix61, ix62, ix63, ix64, ix65, mupd_same, mupd_twice, eqv_int, ok_int, at0, at1, at2, at3, at4, at5, atm1, wSl, wPart, wNoPart, oSl, oIsi, oTuple, oList, oListM, wLc, wipeE, wItems, itemsD, wRange1, wRange2, sFor, startD, endF, En.turn, List.map_cons, List.map_nil, List.cons_append, List.nil_append, List.append_nil, List.getElem?_cons_zero, List.getElem?_cons_succ, List.getElem?_nil, List.length_cons, List.length_nil, List.set_cons_zero, List.set_cons_succ, List.replicate, List.zip_cons_cons, List.zip_nil_right, List.foldl_cons, List.foldl_nil, Option.map_some, Option.bind_some, Nat.reduceAdd, Nat.reduceSub, Nat.zero_add, Nat.sub_self, Nat.add_one_sub_one, Nat.reduceEqDiff, Nat.reduceLT, Nat.reduceLeDiff, Int.reduceLT, Int.reduceLE, Int.reduceNeg, Int.reduceToNat, Int.toNat_zero, Int.toNat_one, Int.reduceEq, reduceIte, if_true, if_false, ite_true, ite_false, true_and, and_true, Bool.not_true, Bool.not_false, Bool.true_eq_false, Bool.false_eq_true, eq_self, List.isEmpty_cons, List.isEmpty_nil, Nat.reduceMul, decide_true, decide_false, ws_start, ew]
    refine for_inv (fun ds ρ M' => (∃ k : List Int, ds = k.map D.int) ∧ M' = M ∧ ∃ (seed : Int) (x : Option D), ρ = [some (.scr (ns.map D.int)), some (.int seed), x] ∧ Bd 40 seed) (fun _ _ _ _ => trivial) ?_ ?_ (ns.map D.int) _ _ ⟨⟨ns, rfl⟩, rfl, 7, none, rfl, by unfold Bd; decide⟩
    · rintro ρ M' ⟨_, rfl, seed, x, rfl, hs⟩
      simp only [sSeq, sNext, sRet, sRetN, sIf, sSet, sPar, sExpr, sRaise, sAsg, sBrk, sCnt, gPut, Tg.put, Tgs.put, gSubG, gTupG, gsCons, gsNil, oPut, wVar, wLit, w1, w2, wN, wNil, wCons, wTru, wAsT, wNotT, wAndT, wOrT, wAnd, wOr, wNot, wIfE, wCallF, fill, truD, oAdd, oSub, oMul, oDiv, oMod, oPow, oNeg, oEq, oNe, oLt, oLe, oGt, oGe, oIs, oIsNot, D.isNon, oTup, oLst, oLstM, oLen, lenD, oAbs, oInt, oMax, oMin, oSum, oAll, oAny, lstOf, intsOf, bolsOf, oIx, ix60, ix61, ix62, ix63, ix64, ix65, mupd_same, mupd_twice, eqv_int, ok_int, at0, at1, at2, at3, at4, at5, atm1, wSl, wPart, wNoPart, oSl, oIsi, oTuple, oList, oListM, wLc, wipeE, wItems, itemsD, wRange1, wRange2, sFor, startD, endF, En.turn, List.map_cons, List.map_nil, List.cons_append, List.nil_append, List.append_nil, List.getElem?_cons_zero, List.getElem?_cons_succ, List.getElem?_nil, List.length_cons, List.length_nil, List.set_cons_zero, List.set_cons_succ, List.replicate, List.zip_cons_cons, List.zip_nil_right, List.foldl_cons, List.foldl_nil, Option.map_some, Option.bind_some, Nat.reduceAdd, Nat.reduceSub, Nat.zero_add, Nat.sub_self, Nat.add_one_sub_one, Nat.reduceEqDiff, Nat.reduceLT, Nat.reduceLeDiff, Int.reduceLT, Int.reduceLE, Int.reduceNeg, Int.reduceToNat, Int.toNat_zero, Int.toNat_one, Int.reduceEq, reduceIte, if_true, if_false, ite_true, ite_false, true_and, and_true, Bool.not_true, Bool.not_false, Bool.true_eq_false, Bool.false_eq_true, eq_self, List.isEmpty_cons, List.isEmpty_nil, Nat.reduceMul, decide_true, decide_false, ew]
      refine lc_all (fun d => match d with | .int i => .int (i.natAbs : Int) | d => d) ?_ ?_ ?_ ?_
      · rw [List.length_map]; omega
      · exact fun _ _ => trivial
      · intro d hd
        obtain ⟨i, _, rfl⟩ := List.mem_map.mp hd
        exact ⟨_, rfl, fun M' _ R r => by simp only [sSeq, sNext, sRet, sRetN, sIf, sSet, sPar, sExpr, sRaise, sAsg, sBrk, sCnt, gPut, Tg.put, Tgs.put, gSubG, gTupG, gsCons, gsNil, oPut, wVar, wLit, w1, w2, wN, wNil, wCons, wTru, wAsT, wNotT, wAndT, wOrT, wAnd, wOr, wNot, wIfE, wCallF, fill, truD, oAdd, oSub, oMul, oDiv, oMod, oPow, oNeg, oEq, oNe, oLt, oLe, oGt, oGe, oIs, oIsNot, D.isNon, oTup, oLst, oLstM, oLen, lenD, oAbs, oInt, oMax, oMin, oSum, oAll, oAny, lstOf, intsOf, bolsOf, oIx, ix60, ix61, ix62, ix63, ix64, ix65, mupd_same, mupd_twice, eqv_int, ok_int, at0, at1, at2, at3, at4, at5, atm1, wSl, wPart, wNoPart, oSl, oIsi, oTuple, oList, oListM, wLc, wipeE, wItems, itemsD, wRange1, wRange2, sFor, startD, endF, En.turn, List.map_cons, List.map_nil, List.cons_append, List.nil_append, List.append_nil, List.getElem?_cons_zero, List.getElem?_cons_succ, List.getElem?_nil, List.length_cons, List.length_nil, List.set_cons_zero, List.set_cons_succ, List.replicate, List.zip_cons_cons, List.zip_nil_right, List.foldl_cons, List.foldl_nil, Option.map_some, Option.bind_some, Nat.reduceAdd, Nat.reduceSub, Nat.zero_add, Nat.sub_self, Nat.add_one_sub_one, Nat.reduceEqDiff, Nat.reduceLT, Nat.reduceLeDiff, Int.reduceLT, Int.reduceLE, Int.reduceNeg, Int.reduceToNat, Int.toNat_zero, Int.toNat_one, Int.reduceEq, reduceIte, if_true, if_false, ite_true, ite_false, true_and, and_true, Bool.not_true, Bool.not_false, Bool.true_eq_false, Bool.false_eq_true, eq_self, List.isEmpty_cons, List.isEmpty_nil, Nat.reduceMul, decide_true, decide_false]; exact r⟩
      · have e : (ns.map D.int).map (fun d => match d with | .int i => D.int (i.natAbs : Int) | d => d) = (ns.map fun i => (i.natAbs : Int)).map D.int := by
          rw [List.map_map, List.map_map]
          rfl
        intro p0 hp0
        rw [e]
        simp only [sSeq, sNext, sRet, sRetN, sIf, sSet, sPar, sExpr, sRaise, sAsg, sBrk, sCnt, gPut, Tg.put, Tgs.put, gSubG, gTupG, gsCons, gsNil, oPut, wVar, wLit, w1, w2, wN, wNil, wCons, wTru, wAsT, wNotT, wAndT, wOrT, wAnd, wOr, wNot, wIfE, wCallF, fill, truD, oAdd, oSub, oMul, oDiv, oMod, oPow, oNeg, oEq, oNe, oLt, oLe, oGt, oGe, oIs, oIsNot, D.isNon, oTup, oLst, oLstM, oLen, lenD, oAbs, oInt, oMax, oMin, oSum, oAll, oAny, lstOf, intsOf, bolsOf, oIx, ix60, ix61, ix62, ix63, ix64, ix65, mupd_same, mupd_twice, eqv_int, ok_int, at0, at1, at2, at3, at4, at5, atm1, wSl, wPart, wNoPart, oSl, oIsi, oTuple, oList, oListM, wLc, wipeE, wItems, itemsD, wRange1, wRange2, sFor, startD, endF, En.turn, List.map_cons, List.map_nil, List.cons_append, List.nil_append, List.append_nil, List.getElem?_cons_zero, List.getElem?_cons_succ, List.getElem?_nil, List.length_cons, List.length_nil, List.set_cons_zero, List.set_cons_succ, List.replicate, List.zip_cons_cons, List.zip_nil_right, List.foldl_cons, List.foldl_nil, Option.map_some, Option.bind_some, Nat.reduceAdd, Nat.reduceSub, Nat.zero_add, Nat.sub_self, Nat.add_one_sub_one, Nat.reduceEqDiff, Nat.reduceLT, Nat.reduceLeDiff, Int.reduceLT, Int.reduceLE, Int.reduceNeg, Int.reduceToNat, Int.toNat_zero, Int.toNat_one, Int.reduceEq, reduceIte, if_true, if_false, ite_true, ite_false, true_and, and_true, Bool.not_true, Bool.not_false, Bool.true_eq_false, Bool.false_eq_true, eq_self, List.isEmpty_cons, List.isEmpty_nil, Nat.reduceMul, decide_true, decide_false, mdel_put hp0]
        intro p hp
        exact hq p _ hp ⟨_, 0, 0, 0, seed, 0, mupd_same, by decide, hs, by decide, by decide⟩
    · rintro d ds ρ M' ⟨⟨k, hk⟩, rfl, seed, x, rfl, hs⟩
      obtain ⟨c, k', rfl⟩ : ∃ c k', k = c :: k' := by
        cases k with
        | nil => cases hk
        | cons c k' => exact ⟨c, k', rfl⟩
      cases hk
      intro N hN
      simp only [sSeq, sNext, sRet, sRetN, sIf, sSet, sPar, sExpr, sRaise, sAsg, sBrk, sCnt, gPut, Tg.put, Tgs.put, gSubG, gTupG, gsCons, gsNil, oPut, wVar, wLit, w1, w2, wN, wNil, wCons, wTru, wAsT, wNotT, wAndT, wOrT, wAnd, wOr, wNot, wIfE, wCallF, fill, truD, oAdd, oSub, oMul, oDiv, oMod, oPow, oNeg, oEq, oNe, oLt, oLe, oGt, oGe, oIs, oIsNot, D.isNon, oTup, oLst, oLstM, oLen, lenD, oAbs, oInt, oMax, oMin, oSum, oAll, oAny, lstOf, intsOf, bolsOf, oIx, ix60, ix61, ix62, ix63, ix64, ix65, mupd_same, mupd_twice, eqv_int, ok_int, at0, at1, at2, at3, at4, at5, atm1, wSl, wPart, wNoPart, oSl, oIsi, oTuple, oList, oListM, wLc, wipeE, wItems, itemsD, wRange1, wRange2, sFor, startD, endF, En.turn, List.map_cons, List.map_nil, List.cons_append, List.nil_append, List.append_nil, List.getElem?_cons_zero, List.getElem?_cons_succ, List.getElem?_nil, List.length_cons, List.length_nil, List.set_cons_zero, List.set_cons_succ, List.replicate, List.zip_cons_cons, List.zip_nil_right, List.foldl_cons, List.foldl_nil, Option.map_some, Option.bind_some, Nat.reduceAdd, Nat.reduceSub, Nat.zero_add, Nat.sub_self, Nat.add_one_sub_one, Nat.reduceEqDiff, Nat.reduceLT, Nat.reduceLeDiff, Int.reduceLT, Int.reduceLE, Int.reduceNeg, Int.reduceToNat, Int.toNat_zero, Int.toNat_one, Int.reduceEq, reduceIte, if_true, if_false, ite_true, ite_false, true_and, and_true, Bool.not_true, Bool.not_false, Bool.true_eq_false, Bool.false_eq_true, eq_self, List.isEmpty_cons, List.isEmpty_nil, Nat.reduceMul, decide_true, decide_false]
      refine ⟨cMul_of hs (l := 20) (by unfold Bd; decide) (by decide), by decide, hN _ _ ⟨⟨k', rfl⟩, rfl, _, _, rfl, ?_⟩⟩
      refine Bd.nat ?_ ?_
      · have := Int.fmod_nonneg_of_pos (seed * 48271 + c) (show (0 : Int) < 2147483629 by decide)
        omega
      · have := Int.fmod_lt_of_pos (seed * 48271 + c) (show (0 : Int) < 2147483629 by decide)
        have e : (2 : Int) ^ 40 = 1099511627776 := by decide
        omega
  · exact h.elim
end Rf

set_option Elab.async false
set_option linter.all false
set_option maxRecDepth 100000
set_option maxHeartbeats 1000000
/-! Rf18: readings by constructors; steps. -/
namespace Rf
open PySem
section
variable {M : Mem} {Q : QV} {R : Bool → Prop} {a b i j : Int} {x y z : Str} {xs ys : List D} {p : Addr} {k l : Bool} {d : D} {ns : List Int}
theorem tr_non : truD .non M R = R false := rfl
theorem tr_bl : truD (.bl k) M R = R k := rfl
theorem tr_int : truD (.int i) M R = R (i != 0) := rfl
theorem tr_str : truD (.str x) M R = (x.length ≤ 16777216 ∧ R ((x.length : Int) != 0)) := rfl
theorem tr_tup : truD (.tup xs) M R = R (!xs.isEmpty) := rfl
theorem tr_lst : truD (.lst xs) M R = R (!xs.isEmpty) := rfl
theorem tr_ref : truD (.ref p) M R = (match M p with | some (.lst ds) => R (!ds.isEmpty) | _ => False) := rfl
theorem add_int : oAdd (.int a) (.int b) M Q = Q (.int (a + b)) M := rfl
theorem add_str : oAdd (.str x) (.str y) M Q = (x.length + y.length ≤ 16777216 ∧ Q (.str (x ++ y)) M) := rfl
theorem add_tup : oAdd (.tup xs) (.tup ys) M Q = (xs.length + ys.length ≤ 16777216 ∧ Q (.tup (xs ++ ys)) M) := rfl
theorem add_lst : oAdd (.lst xs) (.lst ys) M Q = (xs.length + ys.length ≤ 16777216 ∧ Q (.lst (xs ++ ys)) M) := rfl
theorem sub_int : oSub (.int a) (.int b) M Q = Q (.int (a - b)) M := rfl
theorem mul_int : oMul (.int a) (.int b) M Q = (cMul a b ∧ Q (.int (a * b)) M) := rfl
theorem div_int : oDiv (.int a) (.int b) M Q = (cDiv a b ∧ Q (.int (a.fdiv b)) M) := rfl
theorem mod_int : oMod (.int a) (.int b) M Q = (b ≠ 0 ∧ Q (.int (a.fmod b)) M) := rfl
theorem pow_int : oPow (.int a) (.int b) M Q = (L2.CPow a b ∧ Q (.int (a ^ b.toNat)) M) := rfl
theorem neg_int : oNeg (.int a) M Q = Q (.int (-a)) M := rfl
theorem eq_int : oEq (.int a) (.int b) M Q = Q (.bl (decide (a = b))) M := rfl
theorem eq_str : oEq (.str x) (.str y) M Q = Q (.bl (decide (x = y))) M := rfl
theorem eq_tup : oEq (.tup xs) d M Q = (D.ok (.tup xs) = true ∧ d.ok = true ∧ Q (.bl (D.eqv (.tup xs) d)) M) := by cases d <;> rfl
theorem eq_lst : oEq (.lst xs) d M Q = (D.ok (.lst xs) = true ∧ d.ok = true ∧ Q (.bl (D.eqv (.lst xs) d)) M) := by cases d <;> rfl
theorem eq_non : oEq .non d M Q = (D.ok .non = true ∧ d.ok = true ∧ Q (.bl (D.eqv .non d)) M) := by cases d <;> rfl
theorem eq_bl : oEq (.bl k) d M Q = (D.ok (.bl k) = true ∧ d.ok = true ∧ Q (.bl (D.eqv (.bl k) d)) M) := by cases d <;> rfl
theorem ne_int : oNe (.int a) (.int b) M Q = Q (.bl (!decide (a = b))) M := rfl
theorem ne_str : oNe (.str x) (.str y) M Q = Q (.bl (!decide (x = y))) M := rfl
theorem ne_tup : oNe (.tup xs) d M Q = (D.ok (.tup xs) = true ∧ d.ok = true ∧ Q (.bl (!D.eqv (.tup xs) d)) M) := by cases d <;> rfl
theorem ne_lst : oNe (.lst xs) d M Q = (D.ok (.lst xs) = true ∧ d.ok = true ∧ Q (.bl (!D.eqv (.lst xs) d)) M) := by cases d <;> rfl
theorem ne_non : oNe .non d M Q = (D.ok .non = true ∧ d.ok = true ∧ Q (.bl (!D.eqv .non d)) M) := by cases d <;> rfl
theorem ne_bl : oNe (.bl k) d M Q = (D.ok (.bl k) = true ∧ d.ok = true ∧ Q (.bl (!D.eqv (.bl k) d)) M) := by cases d <;> rfl
theorem lt_int : oLt (.int a) (.int b) M Q = Q (.bl (decide (a < b))) M := rfl
theorem le_int : oLe (.int a) (.int b) M Q = Q (.bl (decide (a ≤ b))) M := rfl
theorem gt_int : oGt (.int a) (.int b) M Q = Q (.bl (decide (b < a))) M := rfl
theorem ge_int : oGe (.int a) (.int b) M Q = Q (.bl (decide (b ≤ a))) M := rfl
theorem len_tup : oLen [.tup xs] M Q = Q (.int xs.length) M := rfl
theorem len_lst : oLen [.lst xs] M Q = Q (.int xs.length) M := rfl
theorem len_scr : oLen [.scr xs] M Q = Q (.int xs.length) M := rfl
theorem len_ref : oLen [.ref p] M Q = (match lenD (.ref p) M with | some n => Q (.int (n : Int)) M | none => False) := rfl
theorem abs_int : oAbs [.int a] M Q = Q (.int (a.natAbs : Int)) M := rfl
theorem int_int : oInt [.int a] M Q = Q (.int a) M := rfl
theorem int_bl : oInt [.bl k] M Q = Q (.int (if k then 1 else 0)) M := rfl
theorem max_ii : oMax [.int a, .int b] M Q = Q (.int (max2 a b)) M := rfl
theorem min_ii : oMin [.int a, .int b] M Q = Q (.int (min2 a b)) M := rfl
theorem max_l : oMax [.lst xs] M Q = (match intsOf xs with | some (n :: ns) => Q (.int (maxL (n :: ns))) M | _ => False) := rfl
theorem min_l : oMin [.lst xs] M Q = (match intsOf xs with | some (n :: ns) => Q (.int (minL (n :: ns))) M | _ => False) := rfl
theorem sum_l : oSum [.lst xs] M Q = (match intsOf xs with | some ns => Q (.int ns.sum) M | _ => False) := rfl
theorem all_l : oAll [.lst xs] M Q = (match bolsOf xs with | some ns => Q (.bl (ns.all id)) M | _ => False) := rfl
theorem any_l : oAny [.lst xs] M Q = (match bolsOf xs with | some ns => Q (.bl (ns.any id)) M | _ => False) := rfl
theorem tup_t : oTuple [.tup xs] M Q = Q (.tup xs) M := rfl
theorem tup_l : oTuple [.lst xs] M Q = Q (.tup xs) M := rfl
theorem lst_t : oList [.tup xs] M Q = Q (.lst xs) M := rfl
theorem lst_l : oList [.lst xs] M Q = Q (.lst xs) M := rfl
theorem ix_tup : oIx (.tup xs) (.int i) M Q = (match L2.atI xs i with | some d => Q d M | none => False) := rfl
theorem ix_lst : oIx (.lst xs) (.int i) M Q = (match L2.atI xs i with | some d => Q d M | none => False) := rfl
theorem ix_ref : oIx (.ref p) (.int i) M Q = (match M p with | some (.lst xs) => (match L2.atI xs i with | some d => Q d M | none => False) | _ => False) := rfl
theorem sl_tup {lo hi : Option Int} : oSl (.tup xs) lo hi M Q = Q (.tup (cutD xs lo hi)) M := rfl
theorem sl_lst {lo hi : Option Int} : oSl (.lst xs) lo hi M Q = Q (.lst (cutD xs lo hi)) M := rfl
theorem sl_scr {lo hi : Option Int} : oSl (.scr xs) lo hi M Q = Q (.lst (cutD xs lo hi)) M := rfl
theorem it_lst {P : List D → (Mem → Prop) → Prop} : itemsD (.lst xs) M P = P xs fun _ => True := rfl
theorem it_tup {P : List D → (Mem → Prop) → Prop} : itemsD (.tup xs) M P = P xs fun _ => True := rfl
theorem it_scr {P : List D → (Mem → Prop) → Prop} : itemsD (.scr xs) M P = P xs fun _ => True := rfl
theorem ints_nil : intsOf [] = some [] := rfl
theorem ints_cons {r : List D} : intsOf (.int i :: r) = (intsOf r).map (i :: ·) := rfl
theorem bols_nil : bolsOf [] = some [] := rfl
theorem bols_cons {r : List D} : bolsOf (.bl k :: r) = (bolsOf r).map (k :: ·) := rfl
theorem is_t {t : Ty5} : oIsi t d M Q = (match t.is d with | some b => Q (.bl b) M | none => False) := rfl
end
theorem gput_go {i : Nat} {d : D} {ρ : Env'} {M : Mem} {P : Env' → Mem → Prop} (h : P (ρ.set i (some d)) M) : gPut (.nm i) d ρ M P := h
/-- a for whose body is left alone -/
theorem for_go {wi : WI} {g : WG} {wb : WS} {E : En} {ρ : Env'} {M : Mem} (h : ∀ B, B = wb → ∀ g', g' = g → wi ρ M (fun items S M1 => sForR g' B S items E ρ M1) (E.ex ρ)) : sFor wi g wb E ρ M := h _ rfl _ rfl
/-- one statement, what follows left alone -/
theorem seq_go {w1 w2 : WS} {E : En} {ρ : Env'} {M : Mem} (h : ∀ K, K = w2 E → w1 { E with nx := K } ρ M) : sSeq w1 w2 E ρ M := h _ rfl
end Rf

set_option Elab.async false
set_option linter.all false
set_option maxRecDepth 100000
set_option maxHeartbeats 2000000
/-! Rf19: more statements. -/
namespace Rf
open PySem PySem.Spec PyProof.Rows L2
/-! name op= e, ints -/
def oIAdd : O2 := fun x y M Q => match x, y with
  | .int a, .int b => Q (.int (a + b)) M
  | _, _ => False
def oISub : O2 := fun x y M Q => match x, y with
  | .int a, .int b => Q (.int (a - b)) M
  | _, _ => False
theorem mono_oIAdd : Mono2 oIAdd := fun x y M Q Q' hq h => by unfold oIAdd at *; split at h <;> first | exact hq _ _ h | exact h.elim
theorem mono_oISub : Mono2 oISub := fun x y M Q Q' hq h => by unfold oISub at *; split at h <;> first | exact hq _ _ h | exact h.elim
section
variable {G : Gx} {W : WX} {X : Cx} {D0 : Wd} {N : List Str} {sc : Scope} {fo : Str → Bool} {lev : Nat} {x : Str} {p pos : Pos} {a : Expr} {wa : WE}
theorem ri_iadd : R2I G (ipI fun i j => i + j) oIAdd := by
  intro x y dx dy H M Qd Q rm hx hy f h
  unfold oIAdd at h
  split at h
  · cases hx; cases hy
    exact ⟨_, _, rfl, rfl, f.imm rm (.int _) h⟩
  · exact h.elim
theorem ri_isub : R2I G (ipI fun i j => i - j) oISub := by
  intro x y dx dy H M Qd Q rm hx hy f h
  unfold oISub at h
  split at h
  · cases hx; cases hy
    exact ⟨_, _, rfl, rfl, f.imm rm (.int _) h⟩
  · exact h.elim
def sAug (i : Nat) (o : O2) (wa : WE) : WS := fun E ρ M => match ρ[i]? with
  | some (some x) => wa ρ M (fun y M1 => o x y M1 fun d M2 => E.nx (ρ.set i (some d)) M2) (E.ex ρ)
  | _ => False
theorem mono_sAug {i : Nat} {o : O2} (ho : Mono2 o) (ha : Mono wa) : MonoS (sAug i o wa) := fun E E' ρ M le h => by
  unfold sAug at *
  split at h
  · exact ha ρ M _ _ _ _ (fun y M1 => ho _ _ _ _ _ fun d M2 => le.nx _ M2) (fun c r M' => le.ex ρ c r M') h
  · exact h.elim
theorem Cok.aug (c : Cok G W X D0 N sc fo lev) (i : Nat) {o : O2} {ti : TIp} {op : Operator} (h1 : N[i]? = some x) (h2 : locB fo sc x = true) (ip : PIp X op ti) (ri : R2I G ti o) (mo : Mono2 o) (ha : EV G W X a wa) : SV G W X (.AugAssign (.Name x p) op a pos) (sAug i o wa) :=
  ⟨mono_sAug mo ha.mono, PS.imp (ps_aug c.nN (c.xN h1) (c.loc h2) ha.pe ip (c.fx h2)) fun D' σ H h => by
    obtain ⟨ρ, M, E, re, rm, ef, h⟩ := h
    unfold sAug at h
    split at h
    · rename_i dx e
      obtain ⟨v, s1, dv⟩ := re.get i _ e
      refine ⟨v, s1, tE_bind ha.mono re rm (ef.x re) h fun y dy H1 M1 k r dn q => ?_⟩
      refine ri v y dx dy H1 M1 _ _ r (dv.mono k) dn (fun z d H2 M2 k2 r2 d2 q2 => ?_) q
      exact ef.nx _ M2 _ H2 (k.trans k2) ((re.mono (k.trans k2)).set d2) r2 q2
    · exact h.elim⟩
theorem Cok.augAdd (c : Cok G W X D0 N sc fo lev) (i : Nat) (h1 : N[i]? = some x) (h2 : locB fo sc x = true) (ha : EV G W X a wa) : SV G W X (.AugAssign (.Name x p) .Add a pos) (sAug i oIAdd wa) := c.aug i h1 h2 ip_add ri_iadd mono_oIAdd ha
theorem Cok.augSub (c : Cok G W X D0 N sc fo lev) (i : Nat) (h1 : N[i]? = some x) (h2 : locB fo sc x = true) (ha : EV G W X a wa) : SV G W X (.AugAssign (.Name x p) .Sub a pos) (sAug i oISub wa) := c.aug i h1 h2 ip_sub ri_isub mono_oISub ha
end
theorem iadd_int {a b : Int} {M : Mem} {Q : QV} : oIAdd (.int a) (.int b) M Q = Q (.int (a + b)) M := rfl
theorem isub_int {a b : Int} {M : Mem} {Q : QV} : oISub (.int a) (.int b) M Q = Q (.int (a - b)) M := rfl
end Rf

set_option Elab.async false
set_option linter.all false
set_option maxRecDepth 100000
set_option maxHeartbeats 1000000
/-! Rf20: the laws' own helpers: what is the same, what is raised. -/
namespace Rf
open PySem
theorem shw_q {x y : Int} (bx : Bd 1900 x) (bY : Bd 1900 y) : D.shw (.tup [.int x, .int y]) := shw_of rfl (by
  have a := (bx.mono (show 1900 ≤ 1919 by decide)).log (by decide)
  have b := (bY.mono (show 1900 ≤ 1919 by decide)).log (by decide)
  simp only [D.fine, D.fines, Bool.and_true, Bool.and_eq_true, decide_eq_true_eq]
  omega) (Nat.le_of_ble_eq_true rfl)
theorem shw_int {x : Int} (bx : Bd 1900 x) : D.shw (.int x) := shw_of rfl (by
  have a := (bx.mono (show 1900 ≤ 1919 by decide)).log (by decide)
  simp only [D.fine, decide_eq_true_eq]
  omega) (Nat.le_of_ble_eq_true rfl)
theorem shw_bl {b : Bool} : D.shw (.bl b) := shw_of rfl rfl (Nat.le_of_ble_eq_true rfl)
theorem oEq_same {x : D} {M : Mem} {Q : QV} (h : x.ok = true) (hq : Q (.bl true) M) : oEq x x M Q := by
  cases x with
  | int a =>
    show Q (.bl (decide (a = a))) M
    rw [decide_eq_true rfl]; exact hq
  | str a =>
    show Q (.bl (decide (a = a))) M
    rw [decide_eq_true rfl]; exact hq
  | _ => exact ⟨h, h, by rw [D.eqv_refl h]; exact hq⟩
theorem ne_same {x : D} {M : Mem} {Q : QV} (h : x.ok = true) (hq : Q (.bl false) M) : oNe x x M Q := by
  cases x with
  | int a =>
    show Q (.bl (!decide (a = a))) M
    rw [decide_eq_true rfl]; exact hq
  | str a =>
    show Q (.bl (!decide (a = a))) M
    rw [decide_eq_true rfl]; exact hq
  | _ => exact ⟨h, h, by rw [D.eqv_refl h]; exact hq⟩
def F_same : FD := fun ds M Q Z => match ds with
  | [x, y] => x = y ∧ x.shw ∧ Q (.bl true) M
  | _ => False
theorem mono_same : MonoF F_same := fun ds M Q Q' Z Z' hq hz q => by
  unfold F_same at *
  split at q
  · exact ⟨q.1, q.2.1, hq _ _ q.2.2⟩
  · exact q.elim
def ws_same : WS := sRet (wAnd (w2 oEq (wVar 0) (wVar 1)) (w2 oEq (wN oRepr (wCons (wVar 0) (wNil))) (wN oRepr (wCons (wVar 1) (wNil)))))
theorem do_same : ∀ ds M Q Z, F_same ds M Q Z → ds.length = 2 → ws_same (endF Q Z) (startD ["actual", "due"] ds) M := by
  intro ds M Q Z h hl
  unfold F_same at h
  split at h
  · rename_i x y
    obtain ⟨rfl, hs, hq⟩ := h
    show oEq x x M fun x1 M1 => truD x1 M1 fun k => if k = true then x.shw ∧ x.shw ∧ Q (.bl (decide (x.py.shown = x.py.shown))) M1 else Q x1 M1
    exact oEq_same hs.1 ⟨hs, hs, by rw [decide_eq_true rfl]; exact hq⟩
  · exact h.elim
theorem same_in {d : D} {M : Mem} {Q : QV} {Z : QX} (hs : d.shw) (hq : Q (.bl true) M) : F_same [d, d] M Q Z := ⟨rfl, hs, hq⟩
def tag (c : Nat) : Str := match c with
  | 0 => "argument" | 1 => "paper" | _ => "many"
def F_raised (tab : List FnI) (m : Nat) (T0 : Nat → FD) : FD := fun ds M Q Z => match ds with
  | [.fn k, .lst args] => k < m ∧ 1 ≤ args.length ∧ args.length ≤ 6 ∧ (∃ I, tab[k]? = some I ∧ I.ps.length = args.length ∧ I.dfl = []) ∧ T0 k args M (fun _ M' => Q .non M') (fun c r M' => c < 3 ∧ Q (.tup [.str (tag c), r]) M')
  | _ => False
theorem mono_raised {tab : List FnI} {m : Nat} {T0 : Nat → FD} (h : ∀ k, MonoF (T0 k)) : MonoF (F_raised tab m T0) := fun ds M Q Q' Z Z' hq hz q => by
  unfold F_raised at *
  split at q
  · exact ⟨q.1, q.2.1, q.2.2.1, q.2.2.2.1, h _ _ _ _ _ _ _ (fun _ M' => hq _ M') (fun c r M' h => ⟨h.1, hq _ _ h.2⟩) q.2.2.2.2⟩
  · exact q.elim
def ws_raised (tab : List FnI) (m : Nat) (T : Nat → FD) (sub : Nat → Nat → Bool) : WS := sSeq (sTry 3 sub (sIf (wAsT (w2 oEq (wN oLen (wCons (wVar 1) (wNil))) (wLit (.int 1)))) (sExpr (wCallV 0 (tab.take m) (cut m T) (wCons (w2 oIx (wVar 1) (wLit (.int 0))) (wNil)))) (sIf (wAsT (w2 oEq (wN oLen (wCons (wVar 1) (wNil))) (wLit (.int 2)))) (sExpr (wCallV 0 (tab.take m) (cut m T) (wCons (w2 oIx (wVar 1) (wLit (.int 0))) (wCons (w2 oIx (wVar 1) (wLit (.int 1))) (wNil))))) (sIf (wAsT (w2 oEq (wN oLen (wCons (wVar 1) (wNil))) (wLit (.int 3)))) (sExpr (wCallV 0 (tab.take m) (cut m T) (wCons (w2 oIx (wVar 1) (wLit (.int 0))) (wCons (w2 oIx (wVar 1) (wLit (.int 1))) (wCons (w2 oIx (wVar 1) (wLit (.int 2))) (wNil)))))) (sIf (wAsT (w2 oEq (wN oLen (wCons (wVar 1) (wNil))) (wLit (.int 4)))) (sExpr (wCallV 0 (tab.take m) (cut m T) (wCons (w2 oIx (wVar 1) (wLit (.int 0))) (wCons (w2 oIx (wVar 1) (wLit (.int 1))) (wCons (w2 oIx (wVar 1) (wLit (.int 2))) (wCons (w2 oIx (wVar 1) (wLit (.int 3))) (wNil))))))) (sIf (wAsT (w2 oEq (wN oLen (wCons (wVar 1) (wNil))) (wLit (.int 5)))) (sExpr (wCallV 0 (tab.take m) (cut m T) (wCons (w2 oIx (wVar 1) (wLit (.int 0))) (wCons (w2 oIx (wVar 1) (wLit (.int 1))) (wCons (w2 oIx (wVar 1) (wLit (.int 2))) (wCons (w2 oIx (wVar 1) (wLit (.int 3))) (wCons (w2 oIx (wVar 1) (wLit (.int 4))) (wNil)))))))) (sExpr (wCallV 0 (tab.take m) (cut m T) (wCons (w2 oIx (wVar 1) (wLit (.int 0))) (wCons (w2 oIx (wVar 1) (wLit (.int 1))) (wCons (w2 oIx (wVar 1) (wLit (.int 2))) (wCons (w2 oIx (wVar 1) (wLit (.int 3))) (wCons (w2 oIx (wVar 1) (wLit (.int 4))) (wCons (w2 oIx (wVar 1) (wLit (.int 5))) (wNil)))))))))))))) [⟨0, some 2, fun r => (.tup [(.str "argument"), r])⟩, ⟨1, some 2, fun r => (.tup [(.str "paper"), r])⟩, ⟨2, some 2, fun r => (.tup [(.str "many"), r])⟩]) (sRet (wLit .non))
theorem do_raised {tab : List FnI} {m : Nat} {T0 T : Nat → FD} {sub : Nat → Nat → Bool} (hs : sub = fun c d => decide (c = d)) (mT : ∀ k, MonoF (T0 k)) (hTT : ∀ k, k < m → T k = T0 k) : ∀ ds M Q Z, F_raised tab m T0 ds M Q Z → ds.length = 2 → ws_raised tab m T sub (endF Q Z) (startD ["call", "some", "error"] ds) M := by
  intro ds M Q Z h hl
  subst hs
  unfold F_raised at h
  split at h
  · rename_i k args
    obtain ⟨hk, h1, h6, ⟨I, hI, hps, hdf⟩, hT⟩ := h
    have eI : (tab.take m)[k]? = some I := by rw [List.getElem?_take_of_lt hk]; exact hI
    have ec : cut m T k = T0 k := by unfold cut; rw [if_pos hk, hTT k hk]
    have key : T0 k args M (fun _ M' => Q .non M') (fun c r M' => c < 3 ∧ match [(⟨0, some 2, fun r => (.tup [(.str "argument"), r])⟩ : Hd), ⟨1, some 2, fun r => (.tup [(.str "paper"), r])⟩, ⟨2, some 2, fun r => (.tup [(.str "many"), r])⟩].find? (fun h => decide (c = h.c)) with
        | some h => h.fits [some (.fn k), some (.lst args), none] ∧ Q (h.hv r) M'
        | none => Z c r M') := by
      refine mT k args M _ _ _ _ (fun _ _ z => z) (fun c r M' z => ?_) hT
      obtain ⟨z1, z2⟩ := z
      refine ⟨z1, ?_⟩
      match c, z1 with
      | 0, _ => exact ⟨(by decide : 2 < 3), z2⟩
      | 1, _ => exact ⟨(by decide : 2 < 3), z2⟩
      | 2, _ => exact ⟨(by decide : 2 < 3), z2⟩
    match args, h1, h6, hps, hT, key with
    | [a], _, _, hps, _, key => simp only [sAug, iadd_int, isub_int, sSeq, sNext, sRet, sRetN, sIf, sSet, sPar, sExpr, sRaise, sAsg, sBrk, sCnt, gPut, Tg.put, Tgs.put, gSubG, gTupG, gsCons, gsNil, oPut, wVar, wLit, w1, w2, wN, wNil, wCons, wTru, wAsT, wNotT, wAndT, wOrT, wAnd, wOr, wNot, wIfE, wCallF, fill, wLc, wipeE, wItems, wSl, wPart, wNoPart, wRange1, wRange2, sFor, startD, endF, En.turn, tr_non, tr_bl, tr_int, tr_str, tr_tup, tr_lst, tr_ref, add_int, add_str, add_tup, add_lst, sub_int, mul_int, div_int, mod_int, pow_int, neg_int, eq_int, eq_str, eq_tup, eq_lst, eq_non, eq_bl, ne_int, ne_str, ne_tup, ne_lst, ne_non, ne_bl, lt_int, le_int, gt_int, ge_int, oIs, oIsNot, D.isNon, oTup, oLst, oLstM, len_tup, len_lst, len_scr, len_ref, lenD, abs_int, int_int, int_bl, max_ii, min_ii, max_l, min_l, sum_l, all_l, any_l, tup_t, tup_l, lst_t, lst_l, ix_tup, ix_lst, ix_ref, sl_tup, sl_lst, sl_scr, it_lst, it_tup, it_scr, ints_nil, ints_cons, bols_nil, bols_cons, is_t, oListM, mupd_same, mupd_twice, ix60, ix61, ix62, ix63, ix64, ix65, at0, at1, at2, at3, at4, at5, atm1, List.map_cons, List.map_nil, List.cons_append, List.nil_append, List.append_nil, List.getElem?_cons_zero, List.getElem?_cons_succ, List.getElem?_nil, List.length_cons, List.length_nil, List.set_cons_zero, List.set_cons_succ, List.replicate, List.zip_cons_cons, List.zip_nil_right, List.foldl_cons, List.foldl_nil, Option.map_some, Option.bind_some, Nat.reduceAdd, Nat.reduceSub, Nat.zero_add, Nat.sub_self, Nat.add_one_sub_one, Nat.reduceEqDiff, Nat.reduceLT, Nat.reduceLeDiff, Int.reduceLT, Int.reduceLE, Int.reduceNeg, Int.reduceToNat, Int.toNat_zero, Int.toNat_one, Int.reduceEq, reduceIte, if_true, if_false, ite_true, ite_false, true_and, and_true, Bool.not_true, Bool.not_false, Bool.true_eq_false, Bool.false_eq_true, eq_self, List.isEmpty_cons, List.isEmpty_nil, Nat.reduceMul, decide_true, decide_false, ws_raised, sTry, En.tr, wCallV, eI, ec, hps, hdf]; exact key
    | [a, b], _, _, hps, _, key => simp only [sAug, iadd_int, isub_int, sSeq, sNext, sRet, sRetN, sIf, sSet, sPar, sExpr, sRaise, sAsg, sBrk, sCnt, gPut, Tg.put, Tgs.put, gSubG, gTupG, gsCons, gsNil, oPut, wVar, wLit, w1, w2, wN, wNil, wCons, wTru, wAsT, wNotT, wAndT, wOrT, wAnd, wOr, wNot, wIfE, wCallF, fill, wLc, wipeE, wItems, wSl, wPart, wNoPart, wRange1, wRange2, sFor, startD, endF, En.turn, tr_non, tr_bl, tr_int, tr_str, tr_tup, tr_lst, tr_ref, add_int, add_str, add_tup, add_lst, sub_int, mul_int, div_int, mod_int, pow_int, neg_int, eq_int, eq_str, eq_tup, eq_lst, eq_non, eq_bl, ne_int, ne_str, ne_tup, ne_lst, ne_non, ne_bl, lt_int, le_int, gt_int, ge_int, oIs, oIsNot, D.isNon, oTup, oLst, oLstM, len_tup, len_lst, len_scr, len_ref, lenD, abs_int, int_int, int_bl, max_ii, min_ii, max_l, min_l, sum_l, all_l, any_l, tup_t, tup_l, lst_t, lst_l, ix_tup, ix_lst, ix_ref, sl_tup, sl_lst, sl_scr, it_lst, it_tup, it_scr, ints_nil, ints_cons, bols_nil, bols_cons, is_t, oListM, mupd_same, mupd_twice, ix60, ix61, ix62, ix63, ix64, ix65, at0, at1, at2, at3, at4, at5, atm1, List.map_cons, List.map_nil, List.cons_append, List.nil_append, List.append_nil, List.getElem?_cons_zero, List.getElem?_cons_succ, List.getElem?_nil, List.length_cons, List.length_nil, List.set_cons_zero, List.set_cons_succ, List.replicate, List.zip_cons_cons, List.zip_nil_right, List.foldl_cons, List.foldl_nil, Option.map_some, Option.bind_some, Nat.reduceAdd, Nat.reduceSub, Nat.zero_add, Nat.sub_self, Nat.add_one_sub_one, Nat.reduceEqDiff, Nat.reduceLT, Nat.reduceLeDiff, Int.reduceLT, Int.reduceLE, Int.reduceNeg, Int.reduceToNat, Int.toNat_zero, Int.toNat_one, Int.reduceEq, reduceIte, if_true, if_false, ite_true, ite_false, true_and, and_true, Bool.not_true, Bool.not_false, Bool.true_eq_false, Bool.false_eq_true, eq_self, List.isEmpty_cons, List.isEmpty_nil, Nat.reduceMul, decide_true, decide_false, ws_raised, sTry, En.tr, wCallV, eI, ec, hps, hdf]; exact key
    | [a, b, c], _, _, hps, _, key => simp only [sAug, iadd_int, isub_int, sSeq, sNext, sRet, sRetN, sIf, sSet, sPar, sExpr, sRaise, sAsg, sBrk, sCnt, gPut, Tg.put, Tgs.put, gSubG, gTupG, gsCons, gsNil, oPut, wVar, wLit, w1, w2, wN, wNil, wCons, wTru, wAsT, wNotT, wAndT, wOrT, wAnd, wOr, wNot, wIfE, wCallF, fill, wLc, wipeE, wItems, wSl, wPart, wNoPart, wRange1, wRange2, sFor, startD, endF, En.turn, tr_non, tr_bl, tr_int, tr_str, tr_tup, tr_lst, tr_ref, add_int, add_str, add_tup, add_lst, sub_int, mul_int, div_int, mod_int, pow_int, neg_int, eq_int, eq_str, eq_tup, eq_lst, eq_non, eq_bl, ne_int, ne_str, ne_tup, ne_lst, ne_non, ne_bl, lt_int, le_int, gt_int, ge_int, oIs, oIsNot, D.isNon, oTup, oLst, oLstM, len_tup, len_lst, len_scr, len_ref, lenD, abs_int, int_int, int_bl, max_ii, min_ii, max_l, min_l, sum_l, all_l, any_l, tup_t, tup_l, lst_t, lst_l, ix_tup, ix_lst, ix_ref, sl_tup, sl_lst, sl_scr, it_lst, it_tup, it_scr, ints_nil, ints_cons, bols_nil, bols_cons, is_t, oListM, mupd_same, mupd_twice, ix60, ix61, ix62, ix63, ix64, ix65, at0, at1, at2, at3, at4, at5, atm1, List.map_cons, List.map_nil, List.cons_append, List.nil_append, List.append_nil, List.getElem?_cons_zero, List.getElem?_cons_succ, List.getElem?_nil, List.length_cons, List.length_nil, List.set_cons_zero, List.set_cons_succ, List.replicate, List.zip_cons_cons, List.zip_nil_right, List.foldl_cons, List.foldl_nil, Option.map_some, Option.bind_some, Nat.reduceAdd, Nat.reduceSub, Nat.zero_add, Nat.sub_self, Nat.add_one_sub_one, Nat.reduceEqDiff, Nat.reduceLT, Nat.reduceLeDiff, Int.reduceLT, Int.reduceLE, Int.reduceNeg, Int.reduceToNat, Int.toNat_zero, Int.toNat_one, Int.reduceEq, reduceIte, if_true, if_false, ite_true, ite_false, true_and, and_true, Bool.not_true, Bool.not_false, Bool.true_eq_false, Bool.false_eq_true, eq_self, List.isEmpty_cons, List.isEmpty_nil, Nat.reduceMul, decide_true, decide_false, ws_raised, sTry, En.tr, wCallV, eI, ec, hps, hdf]; exact key
    | [a, b, c, d], _, _, hps, _, key => simp only [sAug, iadd_int, isub_int, sSeq, sNext, sRet, sRetN, sIf, sSet, sPar, sExpr, sRaise, sAsg, sBrk, sCnt, gPut, Tg.put, Tgs.put, gSubG, gTupG, gsCons, gsNil, oPut, wVar, wLit, w1, w2, wN, wNil, wCons, wTru, wAsT, wNotT, wAndT, wOrT, wAnd, wOr, wNot, wIfE, wCallF, fill, wLc, wipeE, wItems, wSl, wPart, wNoPart, wRange1, wRange2, sFor, startD, endF, En.turn, tr_non, tr_bl, tr_int, tr_str, tr_tup, tr_lst, tr_ref, add_int, add_str, add_tup, add_lst, sub_int, mul_int, div_int, mod_int, pow_int, neg_int, eq_int, eq_str, eq_tup, eq_lst, eq_non, eq_bl, ne_int, ne_str, ne_tup, ne_lst, ne_non, ne_bl, lt_int, le_int, gt_int, ge_int, oIs, oIsNot, D.isNon, oTup, oLst, oLstM, len_tup, len_lst, len_scr, len_ref, lenD, abs_int, int_int, int_bl, max_ii, min_ii, max_l, min_l, sum_l, all_l, any_l, tup_t, tup_l, lst_t, lst_l, ix_tup, ix_lst, ix_ref, sl_tup, sl_lst, sl_scr, it_lst, it_tup, it_scr, ints_nil, ints_cons, bols_nil, bols_cons, is_t, oListM, mupd_same, mupd_twice, ix60, ix61, ix62, ix63, ix64, ix65, at0, at1, at2, at3, at4, at5, atm1, List.map_cons, List.map_nil, List.cons_append, List.nil_append, List.append_nil, List.getElem?_cons_zero, List.getElem?_cons_succ, List.getElem?_nil, List.length_cons, List.length_nil, List.set_cons_zero, List.set_cons_succ, List.replicate, List.zip_cons_cons, List.zip_nil_right, List.foldl_cons, List.foldl_nil, Option.map_some, Option.bind_some, Nat.reduceAdd, Nat.reduceSub, Nat.zero_add, Nat.sub_self, Nat.add_one_sub_one, Nat.reduceEqDiff, Nat.reduceLT, Nat.reduceLeDiff, Int.reduceLT, Int.reduceLE, Int.reduceNeg, Int.reduceToNat, Int.toNat_zero, Int.toNat_one, Int.reduceEq, reduceIte, if_true, if_false, ite_true, ite_false, true_and, and_true, Bool.not_true, Bool.not_false, Bool.true_eq_false, Bool.false_eq_true, eq_self, List.isEmpty_cons, List.isEmpty_nil, Nat.reduceMul, decide_true, decide_false, ws_raised, sTry, En.tr, wCallV, eI, ec, hps, hdf]; exact key
    | [a, b, c, d, e], _, _, hps, _, key => simp only [sAug, iadd_int, isub_int, sSeq, sNext, sRet, sRetN, sIf, sSet, sPar, sExpr, sRaise, sAsg, sBrk, sCnt, gPut, Tg.put, Tgs.put, gSubG, gTupG, gsCons, gsNil, oPut, wVar, wLit, w1, w2, wN, wNil, wCons, wTru, wAsT, wNotT, wAndT, wOrT, wAnd, wOr, wNot, wIfE, wCallF, fill, wLc, wipeE, wItems, wSl, wPart, wNoPart, wRange1, wRange2, sFor, startD, endF, En.turn, tr_non, tr_bl, tr_int, tr_str, tr_tup, tr_lst, tr_ref, add_int, add_str, add_tup, add_lst, sub_int, mul_int, div_int, mod_int, pow_int, neg_int, eq_int, eq_str, eq_tup, eq_lst, eq_non, eq_bl, ne_int, ne_str, ne_tup, ne_lst, ne_non, ne_bl, lt_int, le_int, gt_int, ge_int, oIs, oIsNot, D.isNon, oTup, oLst, oLstM, len_tup, len_lst, len_scr, len_ref, lenD, abs_int, int_int, int_bl, max_ii, min_ii, max_l, min_l, sum_l, all_l, any_l, tup_t, tup_l, lst_t, lst_l, ix_tup, ix_lst, ix_ref, sl_tup, sl_lst, sl_scr, it_lst, it_tup, it_scr, ints_nil, ints_cons, bols_nil, bols_cons, is_t, oListM, mupd_same, mupd_twice, ix60, ix61, ix62, ix63, ix64, ix65, at0, at1, at2, at3, at4, at5, atm1, List.map_cons, List.map_nil, List.cons_append, List.nil_append, List.append_nil, List.getElem?_cons_zero, List.getElem?_cons_succ, List.getElem?_nil, List.length_cons, List.length_nil, List.set_cons_zero, List.set_cons_succ, List.replicate, List.zip_cons_cons, List.zip_nil_right, List.foldl_cons, List.foldl_nil, Option.map_some, Option.bind_some, Nat.reduceAdd, Nat.reduceSub, Nat.zero_add, Nat.sub_self, Nat.add_one_sub_one, Nat.reduceEqDiff, Nat.reduceLT, Nat.reduceLeDiff, Int.reduceLT, Int.reduceLE, Int.reduceNeg, Int.reduceToNat, Int.toNat_zero, Int.toNat_one, Int.reduceEq, reduceIte, if_true, if_false, ite_true, ite_false, true_and, and_true, Bool.not_true, Bool.not_false, Bool.true_eq_false, Bool.false_eq_true, eq_self, List.isEmpty_cons, List.isEmpty_nil, Nat.reduceMul, decide_true, decide_false, ws_raised, sTry, En.tr, wCallV, eI, ec, hps, hdf]; exact key
    | [a, b, c, d, e, f], _, _, hps, _, key => simp only [sAug, iadd_int, isub_int, sSeq, sNext, sRet, sRetN, sIf, sSet, sPar, sExpr, sRaise, sAsg, sBrk, sCnt, gPut, Tg.put, Tgs.put, gSubG, gTupG, gsCons, gsNil, oPut, wVar, wLit, w1, w2, wN, wNil, wCons, wTru, wAsT, wNotT, wAndT, wOrT, wAnd, wOr, wNot, wIfE, wCallF, fill, wLc, wipeE, wItems, wSl, wPart, wNoPart, wRange1, wRange2, sFor, startD, endF, En.turn, tr_non, tr_bl, tr_int, tr_str, tr_tup, tr_lst, tr_ref, add_int, add_str, add_tup, add_lst, sub_int, mul_int, div_int, mod_int, pow_int, neg_int, eq_int, eq_str, eq_tup, eq_lst, eq_non, eq_bl, ne_int, ne_str, ne_tup, ne_lst, ne_non, ne_bl, lt_int, le_int, gt_int, ge_int, oIs, oIsNot, D.isNon, oTup, oLst, oLstM, len_tup, len_lst, len_scr, len_ref, lenD, abs_int, int_int, int_bl, max_ii, min_ii, max_l, min_l, sum_l, all_l, any_l, tup_t, tup_l, lst_t, lst_l, ix_tup, ix_lst, ix_ref, sl_tup, sl_lst, sl_scr, it_lst, it_tup, it_scr, ints_nil, ints_cons, bols_nil, bols_cons, is_t, oListM, mupd_same, mupd_twice, ix60, ix61, ix62, ix63, ix64, ix65, at0, at1, at2, at3, at4, at5, atm1, List.map_cons, List.map_nil, List.cons_append, List.nil_append, List.append_nil, List.getElem?_cons_zero, List.getElem?_cons_succ, List.getElem?_nil, List.length_cons, List.length_nil, List.set_cons_zero, List.set_cons_succ, List.replicate, List.zip_cons_cons, List.zip_nil_right, List.foldl_cons, List.foldl_nil, Option.map_some, Option.bind_some, Nat.reduceAdd, Nat.reduceSub, Nat.zero_add, Nat.sub_self, Nat.add_one_sub_one, Nat.reduceEqDiff, Nat.reduceLT, Nat.reduceLeDiff, Int.reduceLT, Int.reduceLE, Int.reduceNeg, Int.reduceToNat, Int.toNat_zero, Int.toNat_one, Int.reduceEq, reduceIte, if_true, if_false, ite_true, ite_false, true_and, and_true, Bool.not_true, Bool.not_false, Bool.true_eq_false, Bool.false_eq_true, eq_self, List.isEmpty_cons, List.isEmpty_nil, Nat.reduceMul, decide_true, decide_false, ws_raised, sTry, En.tr, wCallV, eI, ec, hps, hdf]; exact key
    | a :: b :: c :: d :: e :: f :: g :: r, _, h6, _, _, _ => exact absurd h6 (by simp)
  · exact h.elim
theorem raised_in {tab : List FnI} {m : Nat} {T0 : Nat → FD} {k : Nat} {args : List D} {M : Mem} {Q : QV} {Z : QX} (I : FnI) (hk : k < m) (h1 : 1 ≤ args.length) (h6 : args.length ≤ 6) (e : tab[k]? = some I) (e2 : I.ps.length = args.length) (e3 : I.dfl = [])
    (h : T0 k args M (fun _ M' => Q .non M') (fun c r M' => c < 3 ∧ Q (.tup [.str (tag c), r]) M')) : F_raised tab m T0 [.fn k, .lst args] M Q Z := ⟨hk, h1, h6, ⟨I, e, e2, e3⟩, h⟩
theorem arg_same {r : Str} {M : Mem} {Q : QV} (h : D.ok (.tup [.str "argument", .str r]) = true) (hq : Q (.bl false) M) : oNe (.tup [.str (tag 0), .str r]) (.tup [.str "argument", .str r]) M Q := ne_same h hq
/-! kinds -/
def okT (d : D) : Bool := match d with
  | .non => true | .bl _ => true | .int _ => true | .str _ => true | .tup _ => true | .lst _ => true | _ => false
def isInt (d : D) : Bool := match d with
  | .int _ => true | _ => false
def F_isInt : FD := fun ds M Q Z => match ds with
  | [d] => okT d = true ∧ Q (.bl (isInt d)) M
  | _ => False
theorem mono_isInt : MonoF F_isInt := fun ds M Q Q' Z Z' hq hz q => by
  unfold F_isInt at *
  split at q
  · exact ⟨q.1, hq _ _ q.2⟩
  · exact q.elim
def ws_isInt : WS := sRet (wAnd (w1 (oIsi .int) (wVar 0)) (wNot (w1 (oIsi .bool) (wVar 0))))
theorem do_isInt : ∀ ds M Q Z, F_isInt ds M Q Z → ds.length = 1 → ws_isInt (endF Q Z) (startD ["value"] ds) M := by
  intro ds M Q Z h hl
  unfold F_isInt at h
  split at h
  · rename_i d
    obtain ⟨h1, h2⟩ := h
    cases d <;> first | (cases h1; done) | (simp only [sAug, iadd_int, isub_int, sSeq, sNext, sRet, sRetN, sIf, sSet, sPar, sExpr, sRaise, sAsg, sBrk, sCnt, gPut, Tg.put, Tgs.put, gSubG, gTupG, gsCons, gsNil, oPut, wVar, wLit, w1, w2, wN, wNil, wCons, wTru, wAsT, wNotT, wAndT, wOrT, wAnd, wOr, wNot, wIfE, wCallF, fill, wLc, wipeE, wItems, wSl, wPart, wNoPart, wRange1, wRange2, sFor, startD, endF, En.turn, tr_non, tr_bl, tr_int, tr_str, tr_tup, tr_lst, tr_ref, add_int, add_str, add_tup, add_lst, sub_int, mul_int, div_int, mod_int, pow_int, neg_int, eq_int, eq_str, eq_tup, eq_lst, eq_non, eq_bl, ne_int, ne_str, ne_tup, ne_lst, ne_non, ne_bl, lt_int, le_int, gt_int, ge_int, oIs, oIsNot, D.isNon, oTup, oLst, oLstM, len_tup, len_lst, len_scr, len_ref, lenD, abs_int, int_int, int_bl, max_ii, min_ii, max_l, min_l, sum_l, all_l, any_l, tup_t, tup_l, lst_t, lst_l, ix_tup, ix_lst, ix_ref, sl_tup, sl_lst, sl_scr, it_lst, it_tup, it_scr, ints_nil, ints_cons, bols_nil, bols_cons, is_t, oListM, mupd_same, mupd_twice, ix60, ix61, ix62, ix63, ix64, ix65, at0, at1, at2, at3, at4, at5, atm1, List.map_cons, List.map_nil, List.cons_append, List.nil_append, List.append_nil, List.getElem?_cons_zero, List.getElem?_cons_succ, List.getElem?_nil, List.length_cons, List.length_nil, List.set_cons_zero, List.set_cons_succ, List.replicate, List.zip_cons_cons, List.zip_nil_right, List.foldl_cons, List.foldl_nil, Option.map_some, Option.bind_some, Nat.reduceAdd, Nat.reduceSub, Nat.zero_add, Nat.sub_self, Nat.add_one_sub_one, Nat.reduceEqDiff, Nat.reduceLT, Nat.reduceLeDiff, Int.reduceLT, Int.reduceLE, Int.reduceNeg, Int.reduceToNat, Int.toNat_zero, Int.toNat_one, Int.reduceEq, reduceIte, if_true, if_false, ite_true, ite_false, true_and, and_true, Bool.not_true, Bool.not_false, Bool.true_eq_false, Bool.false_eq_true, eq_self, List.isEmpty_cons, List.isEmpty_nil, Nat.reduceMul, decide_true, decide_false, ws_isInt, Ty5.is, Ty5.isK, D.kd]; exact h2)
  · exact h.elim
/-- is_within -/
def isIn (d : D) (lo hi : Int) : Bool := match d with
  | .int i => decide (lo ≤ i) && decide (i ≤ hi) | _ => false
def F_within : FD := fun ds M Q Z => match ds with
  | [d, .int lo, .int hi] => okT d = true ∧ Q (.bl (isIn d lo hi)) M
  | _ => False
theorem mono_within : MonoF F_within := fun ds M Q Q' Z Z' hq hz q => by
  unfold F_within at *
  split at q
  · exact ⟨q.1, hq _ _ q.2⟩
  · exact q.elim
end Rf

set_option Elab.async false
set_option linter.all false
set_option maxRecDepth 100000
set_option maxHeartbeats 2000000
namespace K02
open PySem PySem.Spec PyProof.Rows L2 Rf
/-! tables, printed by gen.py -/
def top (i : Nat) : Stmt := PySem.Challenge.pw_fourtreestell_k02_sums_of_floors.main.body.getD i (.Pass ⟨0, 0, 0, 0⟩)
def i_is_integer : FnI := ⟨"is_integer", ["value"], []⟩
def i_is_within : FnI := ⟨"is_within", ["value", "low", "high"], []⟩
def i_floors : FnI := ⟨"floors", ["n", "p", "q", "r"], []⟩
def i_divisors_sum : FnI := ⟨"divisors_sum", ["n", "p", "q", "r"], []⟩
def i__law_start : FnI := ⟨"_law_start", ["script"], []⟩
def i__law_draw : FnI := ⟨"_law_draw", ["state", "many"], []⟩
def i__law_pick : FnI := ⟨"_law_pick", ["state", "some"], []⟩
def i__law_same : FnI := ⟨"_law_same", ["actual", "due"], []⟩
def i__law_raised : FnI := ⟨"_law_raised", ["call", "some"], []⟩
def i__law_floor_sum : FnI := ⟨"_law_floor_sum", ["n", "p", "q", "r"], []⟩
def i_law : FnI := ⟨"law", ["script"], []⟩
def tab : List FnI := [i_is_integer, i_is_within, i_floors, i_divisors_sum, i__law_start, i__law_draw, i__law_pick, i__law_same, i__law_raised, i__law_floor_sum, i_law]
def xns : List Str := ["ArgumentError", "PaperError", "TooMany"]
def frees : List Str := ["abs", "all", "any", "bool", "dict", "divmod", "enumerate", "int", "isinstance", "len", "list", "max", "min", "pow", "range", "repr", "reversed", "set", "sorted", "str", "sum", "super", "tuple", "zip"]
def sub (c d : Nat) : Bool := decide (c = d)
def kints : List (Str × Int) := [("MAX_SIDE", 1000000000000000000000000000000)]
def kstrs : List (Str × Str) := []
--SPLIT
section
variable {G : Gx} {W : WX} {X : Cx} {D0 : Wd} {T : Nat → FD}
abbrev st_is_integer : Stmt := top 7
def N_is_integer : List Str := ["value"]
def m_is_integer (T : Nat → FD) : WS := sRet (wAnd (w1 (oIsi .int) (wVar 0)) (wNot (w1 (oIsi .bool) (wVar 0))))
theorem b_is_integer (ht : TabOk G D0 tab T 0) (mt : ∀ k, MonoF (T k)) (hf : ∀ (i : Nat) (x : Str), frees[i]? = some x → D0.mg x = none) (xt : XcT G D0 xns sub) (ff : ∀ k, k < xns.length → G.fld k = "reason") (hk : ∀ (i : Nat) (c : Str × Int), kints[i]? = some c → ∃ t, D0.mg c.1 = some (.int c.2 t)) (hz : ∀ (i : Nat) (c : Str × Str), kstrs[i]? = some c → ∃ t, D0.mg c.1 = some (.str c.2 t)) (c : Dok G W X D0 N_is_integer (defScope st_is_integer) 0) : BV G W X (defBody st_is_integer) (m_is_integer T) :=
  bv_one (sv_ret (ev_and c.hK (c.isi (t := .int) (c.var 0 rfl rfl rfl) rfl (hf 8 _ rfl) rfl (hf 7 _ rfl) rfl) (ev_one (ev_not c.hK (c.isi (t := .bool) (c.var 0 rfl rfl rfl) rfl (hf 8 _ rfl) rfl (hf 3 _ rfl) rfl)))))
theorem sc_is_integer : FnScope N_is_integer ["value"] (defScope st_is_integer) := ⟨rfl, rfl, rfl, by decide +kernel, rfl, by decide +kernel, by decide +kernel⟩
abbrev st_is_within : Stmt := top 8
def N_is_within : List Str := ["value", "low", "high"]
def m_is_within (T : Nat → FD) : WS := sRet (wAnd (wCallF i_is_integer.ps.length i_is_integer.dfl (T 0) (wCons (wVar 0) (wNil))) (wChain oLe oLe (wVar 1) (wVar 0) (wVar 2)))
theorem b_is_within (ht : TabOk G D0 tab T 1) (mt : ∀ k, MonoF (T k)) (hf : ∀ (i : Nat) (x : Str), frees[i]? = some x → D0.mg x = none) (xt : XcT G D0 xns sub) (ff : ∀ k, k < xns.length → G.fld k = "reason") (hk : ∀ (i : Nat) (c : Str × Int), kints[i]? = some c → ∃ t, D0.mg c.1 = some (.int c.2 t)) (hz : ∀ (i : Nat) (c : Str × Str), kstrs[i]? = some c → ∃ t, D0.mg c.1 = some (.str c.2 t)) (c : Dok G W X D0 N_is_within (defScope st_is_within) 1) : BV G W X (defBody st_is_within) (m_is_within T) :=
  bv_one (sv_ret (ev_and c.hK (c.tcall ht 0 i_is_integer (by decide) rfl rfl rfl (av_cons (c.var 0 rfl rfl rfl) (av_nil) rfl) rfl) (ev_one (ev_chain c_le c_le (c.var 1 rfl rfl rfl) (c.var 0 rfl rfl rfl) (c.var 2 rfl rfl rfl) rfl))))
theorem sc_is_within : FnScope N_is_within ["value", "low", "high"] (defScope st_is_within) := ⟨rfl, rfl, rfl, by decide +kernel, rfl, by decide +kernel, by decide +kernel⟩
abbrev st_floors : Stmt := top 10
def N_floors : List Str := ["n", "p", "q", "r", "found", "last"]
def m_floors (T : Nat → FD) : WS := sSeq (sSet 4 (wLit (.int 0))) (sSeq (sWhile (wAsT (w2 oGt (wVar 0) (wLit (.int 0)))) (sSeq (sAug 4 oIAdd (w2 oAdd (w2 oMul (w2 oDiv (w2 oMul (wVar 0) (w2 oSub (wVar 0) (wLit (.int 1)))) (wLit (.int 2))) (w2 oDiv (wVar 1) (wVar 2))) (w2 oMul (wVar 0) (w2 oDiv (wVar 3) (wVar 2))))) (sSeq (sPar [1, 3] (wCons (w2 oMod (wVar 1) (wVar 2)) (wCons (w2 oMod (wVar 3) (wVar 2)) (wNil)))) (sSeq (sSet 5 (w2 oAdd (w2 oMul (wVar 1) (wVar 0)) (wVar 3))) (sSeq (sIf (wAsT (w2 oLt (wVar 5) (wVar 2))) (sRet (wVar 4)) (sNext)) (sSeq (sPar [0, 3] (wCons (w2 oDiv (wVar 5) (wVar 2)) (wCons (w2 oMod (wVar 5) (wVar 2)) (wNil)))) (sPar [1, 2] (wCons (wVar 2) (wCons (wVar 1) (wNil)))))))))) (sRet (wVar 4)))
theorem b_floors (ht : TabOk G D0 tab T 2) (mt : ∀ k, MonoF (T k)) (hf : ∀ (i : Nat) (x : Str), frees[i]? = some x → D0.mg x = none) (xt : XcT G D0 xns sub) (ff : ∀ k, k < xns.length → G.fld k = "reason") (hk : ∀ (i : Nat) (c : Str × Int), kints[i]? = some c → ∃ t, D0.mg c.1 = some (.int c.2 t)) (hz : ∀ (i : Nat) (c : Str × Str), kstrs[i]? = some c → ∃ t, D0.mg c.1 = some (.str c.2 t)) (c : Dok G W X D0 N_floors (defScope st_floors) 2) : BV G W X (defBody st_floors) (m_floors T) :=
  bv_cons (c.set 4 rfl rfl (ev_int) rfl) (bv_cons (sv_while c.po (tv_cmp c_gt (c.var 0 rfl rfl rfl) (ev_int) rfl) (bv_cons (c.augAdd 4 rfl rfl (c.add (e_mul (e_div (e_mul (c.var 0 rfl rfl rfl) (e_sub (c.var 0 rfl rfl rfl) (ev_int))) (ev_int)) (e_div (c.var 1 rfl rfl rfl) (c.var 2 rfl rfl rfl))) (e_mul (c.var 0 rfl rfl rfl) (e_div (c.var 3 rfl rfl rfl) (c.var 2 rfl rfl rfl))))) (bv_cons (c.par2 1 3 rfl rfl (by decide) rfl rfl (av_cons (e_mod (c.var 1 rfl rfl rfl) (c.var 2 rfl rfl rfl)) (av_cons (e_mod (c.var 3 rfl rfl rfl) (c.var 2 rfl rfl rfl)) (av_nil) rfl) rfl) (fun env h => by cases env; cases h; rfl)) (bv_cons (c.set 5 rfl rfl (c.add (e_mul (c.var 1 rfl rfl rfl) (c.var 0 rfl rfl rfl)) (c.var 3 rfl rfl rfl)) rfl) (bv_cons (sv_if (tv_cmp c_lt (c.var 5 rfl rfl rfl) (c.var 2 rfl rfl rfl) rfl) (bv_one (sv_ret (c.var 4 rfl rfl rfl))) (bv_nil)) (bv_cons (c.par2 0 3 rfl rfl (by decide) rfl rfl (av_cons (e_div (c.var 5 rfl rfl rfl) (c.var 2 rfl rfl rfl)) (av_cons (e_mod (c.var 5 rfl rfl rfl) (c.var 2 rfl rfl rfl)) (av_nil) rfl) rfl) (fun env h => by cases env; cases h; rfl)) (bv_one (c.par2 1 2 rfl rfl (by decide) rfl rfl (av_cons (c.var 2 rfl rfl rfl) (av_cons (c.var 1 rfl rfl rfl) (av_nil) rfl) rfl) (fun env h => by cases env; cases h; rfl))))))))) (bv_one (sv_ret (c.var 4 rfl rfl rfl))))
theorem sc_floors : FnScope N_floors ["n", "p", "q", "r"] (defScope st_floors) := ⟨rfl, rfl, rfl, by decide +kernel, rfl, by decide +kernel, by decide +kernel⟩
abbrev st_divisors_sum : Stmt := top 11
def N_divisors_sum : List Str := ["n", "p", "q", "r"]
def m_divisors_sum (T : Nat → FD) : WS := sSeq (sIf (wNotT (wTru (wCallF i_is_within.ps.length i_is_within.dfl (T 1) (wCons (wVar 0) (wCons (wLit (.int 0)) (wCons (wLit (.int 1000000000000000000000000000000)) (wNil))))))) (sRaise 0 (wLit (.str "n"))) (sNext)) (sSeq (sIf (wNotT (wTru (wCallF i_is_integer.ps.length i_is_integer.dfl (T 0) (wCons (wVar 1) (wNil))))) (sRaise 0 (wLit (.str "p"))) (sNext)) (sSeq (sIf (wOrT (wNotT (wTru (wCallF i_is_integer.ps.length i_is_integer.dfl (T 0) (wCons (wVar 2) (wNil))))) (wAsT (w2 oLe (wVar 2) (wLit (.int 0))))) (sRaise 0 (wLit (.str "q"))) (sNext)) (sSeq (sIf (wNotT (wTru (wCallF i_is_integer.ps.length i_is_integer.dfl (T 0) (wCons (wVar 3) (wNil))))) (sRaise 0 (wLit (.str "r"))) (sNext)) (sRet (wCallF i_floors.ps.length i_floors.dfl (T 2) (wCons (wVar 0) (wCons (wVar 1) (wCons (wVar 2) (wCons (wVar 3) (wNil))))))))))
theorem b_divisors_sum (ht : TabOk G D0 tab T 3) (mt : ∀ k, MonoF (T k)) (hf : ∀ (i : Nat) (x : Str), frees[i]? = some x → D0.mg x = none) (xt : XcT G D0 xns sub) (ff : ∀ k, k < xns.length → G.fld k = "reason") (hk : ∀ (i : Nat) (c : Str × Int), kints[i]? = some c → ∃ t, D0.mg c.1 = some (.int c.2 t)) (hz : ∀ (i : Nat) (c : Str × Str), kstrs[i]? = some c → ∃ t, D0.mg c.1 = some (.str c.2 t)) (c : Dok G W X D0 N_divisors_sum (defScope st_divisors_sum) 3) : BV G W X (defBody st_divisors_sum) (m_divisors_sum T) :=
  bv_cons (sv_if (tv_not (tv_tru c.hK (c.tcall ht 1 i_is_within (by decide) rfl rfl rfl (av_cons (c.var 0 rfl rfl rfl) (av_cons (ev_int) (av_cons (c.gint rfl (hk 0 _ rfl) rfl) (av_nil) rfl) rfl) rfl) rfl) rfl)) (bv_one (c.raise_ (lev := 2) xt 0 rfl rfl rfl (ev_str) rfl)) (bv_nil)) (bv_cons (sv_if (tv_not (tv_tru c.hK (c.tcall ht 0 i_is_integer (by decide) rfl rfl rfl (av_cons (c.var 1 rfl rfl rfl) (av_nil) rfl) rfl) rfl)) (bv_one (c.raise_ (lev := 2) xt 0 rfl rfl rfl (ev_str) rfl)) (bv_nil)) (bv_cons (sv_if ((wv_or (tv_not (tv_tru c.hK (c.tcall ht 0 i_is_integer (by decide) rfl rfl rfl (av_cons (c.var 2 rfl rfl rfl) (av_nil) rfl) rfl) rfl)) (wv_or1 (tv_cmp c_le (c.var 2 rfl rfl rfl) (ev_int) rfl))).tv) (bv_one (c.raise_ (lev := 2) xt 0 rfl rfl rfl (ev_str) rfl)) (bv_nil)) (bv_cons (sv_if (tv_not (tv_tru c.hK (c.tcall ht 0 i_is_integer (by decide) rfl rfl rfl (av_cons (c.var 3 rfl rfl rfl) (av_nil) rfl) rfl) rfl)) (bv_one (c.raise_ (lev := 2) xt 0 rfl rfl rfl (ev_str) rfl)) (bv_nil)) (bv_one (sv_ret (c.tcall ht 2 i_floors (by decide) rfl rfl rfl (av_cons (c.var 0 rfl rfl rfl) (av_cons (c.var 1 rfl rfl rfl) (av_cons (c.var 2 rfl rfl rfl) (av_cons (c.var 3 rfl rfl rfl) (av_nil) rfl) rfl) rfl) rfl) rfl))))))
theorem sc_divisors_sum : FnScope N_divisors_sum ["n", "p", "q", "r"] (defScope st_divisors_sum) := ⟨rfl, rfl, rfl, by decide +kernel, rfl, by decide +kernel, by decide +kernel⟩
abbrev st__law_start : Stmt := top 13
def N__law_start : List Str := ["script", "seed", "cell"]
def m__law_start (T : Nat → FD) : WS := sSeq (sSet 1 (wLit (.int 7))) (sSeq (sFor (wItems (wSl (wVar 0) (wNoPart) (wPart (wLit (.int 63))))) (gPut (.nm 2)) (sSet 1 (w2 oAdd (w2 oMod (wN oInt (wCons (w2 oAdd (w2 oMul (wVar 1) (wLit (.int 48271))) (wVar 2)) (wNil))) (wLit (.int 2147483629))) (wLit (.int 1))))) (sRet (wN oLstM (wCons (wLc false (wItems (wSl (wVar 0) (wNoPart) (wPart (wLit (.int 63))))) (.nm 2) (wYes) (wN oAbs (wCons (wN oInt (wCons (wVar 2) (wNil))) (wNil))) [2]) (wCons (wLit (.int 0)) (wCons (wLit (.int 0)) (wCons (wLit (.int 0)) (wCons (wVar 1) (wCons (wLit (.int 0)) (wNil))))))))))
theorem b__law_start (ht : TabOk G D0 tab T 4) (mt : ∀ k, MonoF (T k)) (hf : ∀ (i : Nat) (x : Str), frees[i]? = some x → D0.mg x = none) (xt : XcT G D0 xns sub) (ff : ∀ k, k < xns.length → G.fld k = "reason") (hk : ∀ (i : Nat) (c : Str × Int), kints[i]? = some c → ∃ t, D0.mg c.1 = some (.int c.2 t)) (hz : ∀ (i : Nat) (c : Str × Str), kstrs[i]? = some c → ∃ t, D0.mg c.1 = some (.str c.2 t)) (c : Dok G W X D0 N__law_start (defScope st__law_start) 4) : BV G W X (defBody st__law_start) (m__law_start T) :=
  bv_cons (c.set 1 rfl rfl (ev_int) rfl) (bv_cons (sv_for c.po c.calm (iv_seq c.hK (ev_slice c.hK (c.var 0 rfl rfl rfl) (ov_none) (ov_some (ev_int)))) (c.gn 2 rfl rfl) (bv_one (c.set 1 rfl rfl (c.add (e_mod (c.bi (b_int) rfl (hf 7 _ rfl) (av_cons (c.add (e_mul (c.var 1 rfl rfl rfl) (ev_int)) (c.var 2 rfl rfl rfl)) (av_nil) rfl) rfl rfl) (ev_int)) (ev_int)) rfl)) rfl) (bv_one (sv_ret (ev_lstM (av_cons (c.lc false (.nm 2) [("cell", 2)] (iv_seq c.hK (ev_slice c.hK (c.var 0 rfl rfl rfl) (ov_none) (ov_some (ev_int)))) rfl (fun _ c => ⟨c.pgn 2 rfl rfl, tsv_nil, c.bi (b_abs) rfl (hf 0 _ rfl) (av_cons (c.bi (b_int) rfl (hf 7 _ rfl) (av_cons (c.var 2 rfl rfl rfl) (av_nil) rfl) rfl rfl) (av_nil) rfl) rfl rfl⟩) rfl (by decide)) (av_cons (ev_int) (av_cons (ev_int) (av_cons (ev_int) (av_cons (c.var 1 rfl rfl rfl) (av_cons (ev_int) (av_nil) rfl) rfl) rfl) rfl) rfl) rfl)))))
theorem sc__law_start : FnScope N__law_start ["script"] (defScope st__law_start) := ⟨rfl, rfl, rfl, by decide +kernel, rfl, by decide +kernel, by decide +kernel⟩
abbrev st__law_draw : Stmt := top 14
def N__law_draw : List Str := ["state", "many", "found"]
def m__law_draw (T : Nat → FD) : WS := sSeq (sIf (wAndT (wAsT (w2 oEq (w2 oIx (wVar 0) (wLit (.int 3))) (wLit (.int 0)))) (wAsT (w2 oLt (w2 oIx (wVar 0) (wLit (.int 1))) (wN oLen (wCons (w2 oIx (wVar 0) (wLit (.int 0))) (wNil)))))) (sAsg (wN oTup (wCons (w2 oIx (w2 oIx (wVar 0) (wLit (.int 0))) (w2 oIx (wVar 0) (wLit (.int 1)))) (wCons (wLit (.int 60)) (wCons (w2 oAdd (w2 oIx (wVar 0) (wLit (.int 1))) (wLit (.int 1))) (wNil))))) (gTupG 3 (gsCons (gSubG (wVar 0) (wLit (.int 2))) (gsCons (gSubG (wVar 0) (wLit (.int 3))) (gsCons (gSubG (wVar 0) (wLit (.int 1))) (gsNil)))))) (sNext)) (sSeq (sIf (wAsT (w2 oGt (w2 oIx (wVar 0) (wLit (.int 3))) (wLit (.int 0)))) (sSeq (sSet 2 (w2 oMod (wN oInt (wCons (w2 oIx (wVar 0) (wLit (.int 2))) (wNil))) (wVar 1))) (sSeq (sAsg (w2 oDiv (w2 oIx (wVar 0) (wLit (.int 2))) (wVar 1)) (gSubG (wVar 0) (wLit (.int 2)))) (sSeq (sAsg (wIfE (wAsT (w2 oGt (w2 oIx (wVar 0) (wLit (.int 2))) (wLit (.int 0)))) (w2 oSub (w2 oIx (wVar 0) (wLit (.int 3))) (wLit (.int 1))) (wLit (.int 0))) (gSubG (wVar 0) (wLit (.int 3)))) (sRet (wVar 2))))) (sNext)) (sSeq (sAsg (w2 oAdd (w2 oIx (wVar 0) (wLit (.int 5))) (wLit (.int 1))) (gSubG (wVar 0) (wLit (.int 5)))) (sSeq (sAsg (w2 oMod (wN oInt (wCons (w2 oAdd (w2 oAdd (w2 oMul (w2 oIx (wVar 0) (wLit (.int 4))) (wLit (.int 48271))) (w2 oMul (w2 oMul (w2 oIx (wVar 0) (wLit (.int 5))) (w2 oIx (wVar 0) (wLit (.int 5)))) (wLit (.int 69621)))) (wLit (.int 11))) (wNil))) (wLit (.int 2147483647))) (gSubG (wVar 0) (wLit (.int 4)))) (sRet (w2 oMod (wN oInt (wCons (w2 oDiv (w2 oIx (wVar 0) (wLit (.int 4))) (wLit (.int 13))) (wNil))) (wVar 1))))))
theorem b__law_draw (ht : TabOk G D0 tab T 5) (mt : ∀ k, MonoF (T k)) (hf : ∀ (i : Nat) (x : Str), frees[i]? = some x → D0.mg x = none) (xt : XcT G D0 xns sub) (ff : ∀ k, k < xns.length → G.fld k = "reason") (hk : ∀ (i : Nat) (c : Str × Int), kints[i]? = some c → ∃ t, D0.mg c.1 = some (.int c.2 t)) (hz : ∀ (i : Nat) (c : Str × Str), kstrs[i]? = some c → ∃ t, D0.mg c.1 = some (.str c.2 t)) (c : Dok G W X D0 N__law_draw (defScope st__law_draw) 5) : BV G W X (defBody st__law_draw) (m__law_draw T) :=
  bv_cons (sv_if ((wv_and (tv_cmp c.eq (ev_ix c.hK (c.var 0 rfl rfl rfl) (ev_int) rfl) (ev_int) rfl) (wv_and1 (tv_cmp c_lt (ev_ix c.hK (c.var 0 rfl rfl rfl) (ev_int) rfl) (c.bi (b_len c.hK) rfl (hf 9 _ rfl) (av_cons (ev_ix c.hK (c.var 0 rfl rfl rfl) (ev_int) rfl) (av_nil) rfl) rfl rfl) rfl))).tv) (bv_one (c.asg (ev_tup (av_cons (ev_ix c.hK (ev_ix c.hK (c.var 0 rfl rfl rfl) (ev_int) rfl) (ev_ix c.hK (c.var 0 rfl rfl rfl) (ev_int) rfl) rfl) (av_cons (ev_int) (av_cons (c.add (ev_ix c.hK (c.var 0 rfl rfl rfl) (ev_int) rfl) (ev_int)) (av_nil) rfl) rfl) rfl)) (gv_tup c.hK c.calm (gsv_cons (gv_sub (c.var 0 rfl rfl rfl) (ev_int) rfl) (gsv_cons (gv_sub (c.var 0 rfl rfl rfl) (ev_int) rfl) (gsv_cons (gv_sub (c.var 0 rfl rfl rfl) (ev_int) rfl) (gsv_nil) rfl) rfl) rfl) rfl) rfl (fun env h => by cases env; cases h; rfl) rfl)) (bv_nil)) (bv_cons (sv_if (tv_cmp c_gt (ev_ix c.hK (c.var 0 rfl rfl rfl) (ev_int) rfl) (ev_int) rfl) (bv_cons (c.set 2 rfl rfl (e_mod (c.bi (b_int) rfl (hf 7 _ rfl) (av_cons (ev_ix c.hK (c.var 0 rfl rfl rfl) (ev_int) rfl) (av_nil) rfl) rfl rfl) (c.var 1 rfl rfl rfl)) rfl) (bv_cons (c.asg (e_div (ev_ix c.hK (c.var 0 rfl rfl rfl) (ev_int) rfl) (c.var 1 rfl rfl rfl)) (gv_sub (c.var 0 rfl rfl rfl) (ev_int) rfl) rfl (fun env h => by cases env; cases h; rfl) rfl) (bv_cons (c.asg (ev_ife (tv_cmp c_gt (ev_ix c.hK (c.var 0 rfl rfl rfl) (ev_int) rfl) (ev_int) rfl) (e_sub (ev_ix c.hK (c.var 0 rfl rfl rfl) (ev_int) rfl) (ev_int)) (ev_int)) (gv_sub (c.var 0 rfl rfl rfl) (ev_int) rfl) rfl (fun env h => by cases env; cases h; rfl) rfl) (bv_one (sv_ret (c.var 2 rfl rfl rfl)))))) (bv_nil)) (bv_cons (c.asg (c.add (ev_ix c.hK (c.var 0 rfl rfl rfl) (ev_int) rfl) (ev_int)) (gv_sub (c.var 0 rfl rfl rfl) (ev_int) rfl) rfl (fun env h => by cases env; cases h; rfl) rfl) (bv_cons (c.asg (e_mod (c.bi (b_int) rfl (hf 7 _ rfl) (av_cons (c.add (c.add (e_mul (ev_ix c.hK (c.var 0 rfl rfl rfl) (ev_int) rfl) (ev_int)) (e_mul (e_mul (ev_ix c.hK (c.var 0 rfl rfl rfl) (ev_int) rfl) (ev_ix c.hK (c.var 0 rfl rfl rfl) (ev_int) rfl)) (ev_int))) (ev_int)) (av_nil) rfl) rfl rfl) (ev_int)) (gv_sub (c.var 0 rfl rfl rfl) (ev_int) rfl) rfl (fun env h => by cases env; cases h; rfl) rfl) (bv_one (sv_ret (e_mod (c.bi (b_int) rfl (hf 7 _ rfl) (av_cons (e_div (ev_ix c.hK (c.var 0 rfl rfl rfl) (ev_int) rfl) (ev_int)) (av_nil) rfl) rfl rfl) (c.var 1 rfl rfl rfl)))))))
theorem sc__law_draw : FnScope N__law_draw ["state", "many"] (defScope st__law_draw) := ⟨rfl, rfl, rfl, by decide +kernel, rfl, by decide +kernel, by decide +kernel⟩
abbrev st__law_pick : Stmt := top 15
def N__law_pick : List Str := ["state", "some"]
def m__law_pick (T : Nat → FD) : WS := sRet (w2 oIx (wVar 1) (wCallF i__law_draw.ps.length i__law_draw.dfl (T 5) (wCons (wVar 0) (wCons (wN oLen (wCons (wVar 1) (wNil))) (wNil)))))
theorem b__law_pick (ht : TabOk G D0 tab T 6) (mt : ∀ k, MonoF (T k)) (hf : ∀ (i : Nat) (x : Str), frees[i]? = some x → D0.mg x = none) (xt : XcT G D0 xns sub) (ff : ∀ k, k < xns.length → G.fld k = "reason") (hk : ∀ (i : Nat) (c : Str × Int), kints[i]? = some c → ∃ t, D0.mg c.1 = some (.int c.2 t)) (hz : ∀ (i : Nat) (c : Str × Str), kstrs[i]? = some c → ∃ t, D0.mg c.1 = some (.str c.2 t)) (c : Dok G W X D0 N__law_pick (defScope st__law_pick) 6) : BV G W X (defBody st__law_pick) (m__law_pick T) :=
  bv_one (sv_ret (ev_ix c.hK (c.var 1 rfl rfl rfl) (c.tcall ht 5 i__law_draw (by decide) rfl rfl rfl (av_cons (c.var 0 rfl rfl rfl) (av_cons (c.bi (b_len c.hK) rfl (hf 9 _ rfl) (av_cons (c.var 1 rfl rfl rfl) (av_nil) rfl) rfl rfl) (av_nil) rfl) rfl) rfl) rfl))
theorem sc__law_pick : FnScope N__law_pick ["state", "some"] (defScope st__law_pick) := ⟨rfl, rfl, rfl, by decide +kernel, rfl, by decide +kernel, by decide +kernel⟩
abbrev st__law_same : Stmt := top 16
def N__law_same : List Str := ["actual", "due"]
def m__law_same (T : Nat → FD) : WS := sRet (wAnd (w2 oEq (wVar 0) (wVar 1)) (w2 oEq (wN oRepr (wCons (wVar 0) (wNil))) (wN oRepr (wCons (wVar 1) (wNil)))))
theorem b__law_same (ht : TabOk G D0 tab T 7) (mt : ∀ k, MonoF (T k)) (hf : ∀ (i : Nat) (x : Str), frees[i]? = some x → D0.mg x = none) (xt : XcT G D0 xns sub) (ff : ∀ k, k < xns.length → G.fld k = "reason") (hk : ∀ (i : Nat) (c : Str × Int), kints[i]? = some c → ∃ t, D0.mg c.1 = some (.int c.2 t)) (hz : ∀ (i : Nat) (c : Str × Str), kstrs[i]? = some c → ∃ t, D0.mg c.1 = some (.str c.2 t)) (c : Dok G W X D0 N__law_same (defScope st__law_same) 7) : BV G W X (defBody st__law_same) (m__law_same T) :=
  bv_one (sv_ret (ev_and c.hK (ev_cmp c.eq (c.var 0 rfl rfl rfl) (c.var 1 rfl rfl rfl) rfl) (ev_one (ev_cmp c.eq (c.bi (b_repr c.hK c.gu c.un) rfl (hf 15 _ rfl) (av_cons (c.var 0 rfl rfl rfl) (av_nil) rfl) rfl rfl) (c.bi (b_repr c.hK c.gu c.un) rfl (hf 15 _ rfl) (av_cons (c.var 1 rfl rfl rfl) (av_nil) rfl) rfl rfl) rfl))))
theorem sc__law_same : FnScope N__law_same ["actual", "due"] (defScope st__law_same) := ⟨rfl, rfl, rfl, by decide +kernel, rfl, by decide +kernel, by decide +kernel⟩
abbrev st__law_raised : Stmt := top 17
def N__law_raised : List Str := ["call", "some", "error"]
def m__law_raised (T : Nat → FD) : WS := sSeq (sTry xns.length sub (sIf (wAsT (w2 oEq (wN oLen (wCons (wVar 1) (wNil))) (wLit (.int 1)))) (sExpr (wCallV 0 (tab.take 8) (cut 8 T) (wCons (w2 oIx (wVar 1) (wLit (.int 0))) (wNil)))) (sIf (wAsT (w2 oEq (wN oLen (wCons (wVar 1) (wNil))) (wLit (.int 2)))) (sExpr (wCallV 0 (tab.take 8) (cut 8 T) (wCons (w2 oIx (wVar 1) (wLit (.int 0))) (wCons (w2 oIx (wVar 1) (wLit (.int 1))) (wNil))))) (sIf (wAsT (w2 oEq (wN oLen (wCons (wVar 1) (wNil))) (wLit (.int 3)))) (sExpr (wCallV 0 (tab.take 8) (cut 8 T) (wCons (w2 oIx (wVar 1) (wLit (.int 0))) (wCons (w2 oIx (wVar 1) (wLit (.int 1))) (wCons (w2 oIx (wVar 1) (wLit (.int 2))) (wNil)))))) (sIf (wAsT (w2 oEq (wN oLen (wCons (wVar 1) (wNil))) (wLit (.int 4)))) (sExpr (wCallV 0 (tab.take 8) (cut 8 T) (wCons (w2 oIx (wVar 1) (wLit (.int 0))) (wCons (w2 oIx (wVar 1) (wLit (.int 1))) (wCons (w2 oIx (wVar 1) (wLit (.int 2))) (wCons (w2 oIx (wVar 1) (wLit (.int 3))) (wNil))))))) (sIf (wAsT (w2 oEq (wN oLen (wCons (wVar 1) (wNil))) (wLit (.int 5)))) (sExpr (wCallV 0 (tab.take 8) (cut 8 T) (wCons (w2 oIx (wVar 1) (wLit (.int 0))) (wCons (w2 oIx (wVar 1) (wLit (.int 1))) (wCons (w2 oIx (wVar 1) (wLit (.int 2))) (wCons (w2 oIx (wVar 1) (wLit (.int 3))) (wCons (w2 oIx (wVar 1) (wLit (.int 4))) (wNil)))))))) (sExpr (wCallV 0 (tab.take 8) (cut 8 T) (wCons (w2 oIx (wVar 1) (wLit (.int 0))) (wCons (w2 oIx (wVar 1) (wLit (.int 1))) (wCons (w2 oIx (wVar 1) (wLit (.int 2))) (wCons (w2 oIx (wVar 1) (wLit (.int 3))) (wCons (w2 oIx (wVar 1) (wLit (.int 4))) (wCons (w2 oIx (wVar 1) (wLit (.int 5))) (wNil)))))))))))))) [⟨0, some 2, fun r => (.tup [(.str "argument"), r])⟩, ⟨1, some 2, fun r => (.tup [(.str "paper"), r])⟩, ⟨2, some 2, fun r => (.tup [(.str "many"), r])⟩]) (sRet (wLit .non))
theorem b__law_raised (ht : TabOk G D0 tab T 8) (mt : ∀ k, MonoF (T k)) (hf : ∀ (i : Nat) (x : Str), frees[i]? = some x → D0.mg x = none) (xt : XcT G D0 xns sub) (ff : ∀ k, k < xns.length → G.fld k = "reason") (hk : ∀ (i : Nat) (c : Str × Int), kints[i]? = some c → ∃ t, D0.mg c.1 = some (.int c.2 t)) (hz : ∀ (i : Nat) (c : Str × Str), kstrs[i]? = some c → ∃ t, D0.mg c.1 = some (.str c.2 t)) (c : Dok G W X D0 N__law_raised (defScope st__law_raised) 8) : BV G W X (defBody st__law_raised) (m__law_raised T) :=
  bv_cons (c.try_ xt (hs := [⟨0, some 2, fun r => (.tup [(.str "argument"), r])⟩, ⟨1, some 2, fun r => (.tup [(.str "paper"), r])⟩, ⟨2, some 2, fun r => (.tup [(.str "many"), r])⟩]) (by decide) (fun _ _ c => bv_one (sv_if (tv_cmp c.eq (c.bi (b_len c.hK) rfl (hf 9 _ rfl) (av_cons (c.var 1 rfl rfl rfl) (av_nil) rfl) rfl rfl) (ev_int) rfl) (bv_one (sv_expr (c.tcallv ht mt 0 rfl rfl rfl (av_cons (ev_ix c.hK (c.var 1 rfl rfl rfl) (ev_int) rfl) (av_nil) rfl) rfl) rfl)) (bv_one (sv_if (tv_cmp c.eq (c.bi (b_len c.hK) rfl (hf 9 _ rfl) (av_cons (c.var 1 rfl rfl rfl) (av_nil) rfl) rfl rfl) (ev_int) rfl) (bv_one (sv_expr (c.tcallv ht mt 0 rfl rfl rfl (av_cons (ev_ix c.hK (c.var 1 rfl rfl rfl) (ev_int) rfl) (av_cons (ev_ix c.hK (c.var 1 rfl rfl rfl) (ev_int) rfl) (av_nil) rfl) rfl) rfl) rfl)) (bv_one (sv_if (tv_cmp c.eq (c.bi (b_len c.hK) rfl (hf 9 _ rfl) (av_cons (c.var 1 rfl rfl rfl) (av_nil) rfl) rfl rfl) (ev_int) rfl) (bv_one (sv_expr (c.tcallv ht mt 0 rfl rfl rfl (av_cons (ev_ix c.hK (c.var 1 rfl rfl rfl) (ev_int) rfl) (av_cons (ev_ix c.hK (c.var 1 rfl rfl rfl) (ev_int) rfl) (av_cons (ev_ix c.hK (c.var 1 rfl rfl rfl) (ev_int) rfl) (av_nil) rfl) rfl) rfl) rfl) rfl)) (bv_one (sv_if (tv_cmp c.eq (c.bi (b_len c.hK) rfl (hf 9 _ rfl) (av_cons (c.var 1 rfl rfl rfl) (av_nil) rfl) rfl rfl) (ev_int) rfl) (bv_one (sv_expr (c.tcallv ht mt 0 rfl rfl rfl (av_cons (ev_ix c.hK (c.var 1 rfl rfl rfl) (ev_int) rfl) (av_cons (ev_ix c.hK (c.var 1 rfl rfl rfl) (ev_int) rfl) (av_cons (ev_ix c.hK (c.var 1 rfl rfl rfl) (ev_int) rfl) (av_cons (ev_ix c.hK (c.var 1 rfl rfl rfl) (ev_int) rfl) (av_nil) rfl) rfl) rfl) rfl) rfl) rfl)) (bv_one (sv_if (tv_cmp c.eq (c.bi (b_len c.hK) rfl (hf 9 _ rfl) (av_cons (c.var 1 rfl rfl rfl) (av_nil) rfl) rfl rfl) (ev_int) rfl) (bv_one (sv_expr (c.tcallv ht mt 0 rfl rfl rfl (av_cons (ev_ix c.hK (c.var 1 rfl rfl rfl) (ev_int) rfl) (av_cons (ev_ix c.hK (c.var 1 rfl rfl rfl) (ev_int) rfl) (av_cons (ev_ix c.hK (c.var 1 rfl rfl rfl) (ev_int) rfl) (av_cons (ev_ix c.hK (c.var 1 rfl rfl rfl) (ev_int) rfl) (av_cons (ev_ix c.hK (c.var 1 rfl rfl rfl) (ev_int) rfl) (av_nil) rfl) rfl) rfl) rfl) rfl) rfl) rfl)) (bv_one (sv_expr (c.tcallv ht mt 0 rfl rfl rfl (av_cons (ev_ix c.hK (c.var 1 rfl rfl rfl) (ev_int) rfl) (av_cons (ev_ix c.hK (c.var 1 rfl rfl rfl) (ev_int) rfl) (av_cons (ev_ix c.hK (c.var 1 rfl rfl rfl) (ev_int) rfl) (av_cons (ev_ix c.hK (c.var 1 rfl rfl rfl) (ev_int) rfl) (av_cons (ev_ix c.hK (c.var 1 rfl rfl rfl) (ev_int) rfl) (av_cons (ev_ix c.hK (c.var 1 rfl rfl rfl) (ev_int) rfl) (av_nil) rfl) rfl) rfl) rfl) rfl) rfl) rfl) rfl)))))))))))) (c.clAs xt 0 2 rfl rfl rfl rfl rfl (fun a oe cls d pn hz hf => hx_tup (ha_cons (hx_con pe_str (fun _ _ => .str _)) (ha_cons (c.hfld xt 2 hz hf rfl rfl rfl ff (fun _ => rfl)) (ha_nil) rfl) rfl) (fun _ => (by decide : 2 ≤ 16777216))) (c.clAs xt 1 2 rfl rfl rfl rfl rfl (fun a oe cls d pn hz hf => hx_tup (ha_cons (hx_con pe_str (fun _ _ => .str _)) (ha_cons (c.hfld xt 2 hz hf rfl rfl rfl ff (fun _ => rfl)) (ha_nil) rfl) rfl) (fun _ => (by decide : 2 ≤ 16777216))) (c.clAs xt 2 2 rfl rfl rfl rfl rfl (fun a oe cls d pn hz hf => hx_tup (ha_cons (hx_con pe_str (fun _ _ => .str _)) (ha_cons (c.hfld xt 2 hz hf rfl rfl rfl ff (fun _ => rfl)) (ha_nil) rfl) rfl) (fun _ => (by decide : 2 ≤ 16777216))) (.nil))))) (bv_one (sv_ret (ev_non)))
theorem sc__law_raised : FnScope N__law_raised ["call", "some"] (defScope st__law_raised) := ⟨rfl, rfl, rfl, by decide +kernel, rfl, by decide +kernel, by decide +kernel⟩
abbrev st__law_floor_sum : Stmt := top 18
def N__law_floor_sum : List Str := ["n", "p", "q", "r", "found", "turn", "last"]
def m__law_floor_sum (T : Nat → FD) : WS := sSeq (sSet 4 (wLit (.int 0))) (sSeq (sFor (wRange1 (wLit (.int 4000))) (gPut (.nm 5)) (sSeq (sIf (wAsT (w2 oLe (wVar 0) (wLit (.int 0)))) (sRet (wVar 4)) (sNext)) (sSeq (sSet 4 (w2 oAdd (w2 oAdd (wVar 4) (w2 oMul (w2 oDiv (w2 oMul (wVar 0) (w2 oSub (wVar 0) (wLit (.int 1)))) (wLit (.int 2))) (w2 oDiv (wVar 1) (wVar 2)))) (w2 oMul (wVar 0) (w2 oDiv (wVar 3) (wVar 2))))) (sSeq (sPar [1, 3] (wCons (w2 oSub (wVar 1) (w2 oMul (w2 oDiv (wVar 1) (wVar 2)) (wVar 2))) (wCons (w2 oSub (wVar 3) (w2 oMul (w2 oDiv (wVar 3) (wVar 2)) (wVar 2))) (wNil)))) (sSeq (sSet 6 (w2 oAdd (w2 oMul (wVar 1) (wVar 0)) (wVar 3))) (sSeq (sIf (wAsT (w2 oLt (wVar 6) (wVar 2))) (sRet (wVar 4)) (sNext)) (sAsg (wN oTup (wCons (w2 oDiv (wVar 6) (wVar 2)) (wCons (w2 oSub (wVar 6) (w2 oMul (w2 oDiv (wVar 6) (wVar 2)) (wVar 2))) (wCons (wVar 2) (wCons (wVar 1) (wNil)))))) (gPut (.tup (.cons (.nm 0) (.cons (.nm 3) (.cons (.nm 1) (.cons (.nm 2) (.nil)))))))))))))) (sRet (wVar 4)))
theorem b__law_floor_sum (ht : TabOk G D0 tab T 9) (mt : ∀ k, MonoF (T k)) (hf : ∀ (i : Nat) (x : Str), frees[i]? = some x → D0.mg x = none) (xt : XcT G D0 xns sub) (ff : ∀ k, k < xns.length → G.fld k = "reason") (hk : ∀ (i : Nat) (c : Str × Int), kints[i]? = some c → ∃ t, D0.mg c.1 = some (.int c.2 t)) (hz : ∀ (i : Nat) (c : Str × Str), kstrs[i]? = some c → ∃ t, D0.mg c.1 = some (.str c.2 t)) (c : Dok G W X D0 N__law_floor_sum (defScope st__law_floor_sum) 9) : BV G W X (defBody st__law_floor_sum) (m__law_floor_sum T) :=
  bv_cons (c.set 4 rfl rfl (ev_int) rfl) (bv_cons (sv_for c.po c.calm (iv_range1 (c.gl rfl) (c.mgn (hf 14 _ rfl)) (ev_int) rfl) (c.gn 5 rfl rfl) (bv_cons (sv_if (tv_cmp c_le (c.var 0 rfl rfl rfl) (ev_int) rfl) (bv_one (sv_ret (c.var 4 rfl rfl rfl))) (bv_nil)) (bv_cons (c.set 4 rfl rfl (c.add (c.add (c.var 4 rfl rfl rfl) (e_mul (e_div (e_mul (c.var 0 rfl rfl rfl) (e_sub (c.var 0 rfl rfl rfl) (ev_int))) (ev_int)) (e_div (c.var 1 rfl rfl rfl) (c.var 2 rfl rfl rfl)))) (e_mul (c.var 0 rfl rfl rfl) (e_div (c.var 3 rfl rfl rfl) (c.var 2 rfl rfl rfl)))) rfl) (bv_cons (c.par2 1 3 rfl rfl (by decide) rfl rfl (av_cons (e_sub (c.var 1 rfl rfl rfl) (e_mul (e_div (c.var 1 rfl rfl rfl) (c.var 2 rfl rfl rfl)) (c.var 2 rfl rfl rfl))) (av_cons (e_sub (c.var 3 rfl rfl rfl) (e_mul (e_div (c.var 3 rfl rfl rfl) (c.var 2 rfl rfl rfl)) (c.var 2 rfl rfl rfl))) (av_nil) rfl) rfl) (fun env h => by cases env; cases h; rfl)) (bv_cons (c.set 6 rfl rfl (c.add (e_mul (c.var 1 rfl rfl rfl) (c.var 0 rfl rfl rfl)) (c.var 3 rfl rfl rfl)) rfl) (bv_cons (sv_if (tv_cmp c_lt (c.var 6 rfl rfl rfl) (c.var 2 rfl rfl rfl) rfl) (bv_one (sv_ret (c.var 4 rfl rfl rfl))) (bv_nil)) (bv_one (c.asg (ev_tup (av_cons (e_div (c.var 6 rfl rfl rfl) (c.var 2 rfl rfl rfl)) (av_cons (e_sub (c.var 6 rfl rfl rfl) (e_mul (e_div (c.var 6 rfl rfl rfl) (c.var 2 rfl rfl rfl)) (c.var 2 rfl rfl rfl))) (av_cons (c.var 2 rfl rfl rfl) (av_cons (c.var 1 rfl rfl rfl) (av_nil) rfl) rfl) rfl) rfl)) (gv_put (c.pgt (pgs_more (c.pgn 0 rfl rfl) (pgs_more (c.pgn 3 rfl rfl) (pgs_more (c.pgn 1 rfl rfl) (pgs_more (c.pgn 2 rfl rfl) (pgs_none) rfl) rfl) rfl) rfl) rfl rfl)) rfl (fun env h => by cases env; cases h; rfl) rfl))))))) rfl) (bv_one (sv_ret (c.var 4 rfl rfl rfl))))
theorem sc__law_floor_sum : FnScope N__law_floor_sum ["n", "p", "q", "r"] (defScope st__law_floor_sum) := ⟨rfl, rfl, rfl, by decide +kernel, rfl, by decide +kernel, by decide +kernel⟩
abbrev st_law : Stmt := top 19
def N_law : List Str := ["script", "state", "turn", "n", "p", "q", "r", "great", "whole", "k", "own", "some", "x"]
def m_law (T : Nat → FD) : WS := sSeq (sSet 1 (wCallF i__law_start.ps.length i__law_start.dfl (T 4) (wCons (wVar 0) (wNil)))) (sSeq (sFor (wRange1 (wLit (.int 15))) (gPut (.nm 2)) (sSeq (sAsg (wN oTup (wCons (wCallF i__law_draw.ps.length i__law_draw.dfl (T 5) (wCons (wVar 1) (wCons (wLit (.int 40)) (wNil)))) (wCons (w2 oSub (wCallF i__law_draw.ps.length i__law_draw.dfl (T 5) (wCons (wVar 1) (wCons (wLit (.int 201)) (wNil)))) (wLit (.int 100))) (wCons (w2 oAdd (wLit (.int 1)) (wCallF i__law_draw.ps.length i__law_draw.dfl (T 5) (wCons (wVar 1) (wCons (wLit (.int 50)) (wNil))))) (wCons (w2 oSub (wCallF i__law_draw.ps.length i__law_draw.dfl (T 5) (wCons (wVar 1) (wCons (wLit (.int 401)) (wNil)))) (wLit (.int 200))) (wNil)))))) (gPut (.tup (.cons (.nm 3) (.cons (.nm 4) (.cons (.nm 5) (.cons (.nm 6) (.nil)))))))) (sSeq (sIf (wNotT (wTru (wCallF i__law_same.ps.length i__law_same.dfl (T 7) (wCons (wCallF i_divisors_sum.ps.length i_divisors_sum.dfl (T 3) (wCons (wVar 3) (wCons (wVar 4) (wCons (wVar 5) (wCons (wVar 6) (wNil)))))) (wCons (wN oSum (wCons (wLc false (wRange1 (wVar 3)) (.nm 12) (wYes) (w2 oDiv (w2 oAdd (w2 oMul (wVar 4) (wVar 12)) (wVar 6)) (wVar 5)) [12]) (wNil))) (wNil)))))) (sRet (wLit (.bl false))) (sNext)) (sSeq (sSet 7 (wCallF i__law_pick.ps.length i__law_pick.dfl (T 6) (wCons (wVar 1) (wCons (wN oLst (wCons (w2 oPow (wLit (.int 10)) (wLit (.int 6))) (wCons (w2 oPow (wLit (.int 10)) (wLit (.int 18))) (wCons (w2 oSub (w2 oPow (wLit (.int 10)) (wLit (.int 30))) (wLit (.int 1))) (wNil))))) (wNil))))) (sSeq (sAsg (wN oTup (wCons (wCallF i__law_draw.ps.length i__law_draw.dfl (T 5) (wCons (wVar 1) (wCons (wVar 7) (wNil)))) (wCons (w2 oSub (wCallF i__law_draw.ps.length i__law_draw.dfl (T 5) (wCons (wVar 1) (wCons (w2 oAdd (w2 oMul (wLit (.int 2)) (wVar 7)) (wLit (.int 1))) (wNil)))) (wVar 7)) (wCons (w2 oAdd (wLit (.int 1)) (wCallF i__law_draw.ps.length i__law_draw.dfl (T 5) (wCons (wVar 1) (wCons (wVar 7) (wNil))))) (wCons (w2 oSub (wCallF i__law_draw.ps.length i__law_draw.dfl (T 5) (wCons (wVar 1) (wCons (w2 oAdd (w2 oMul (wLit (.int 2)) (wVar 7)) (wLit (.int 1))) (wNil)))) (wVar 7)) (wNil)))))) (gPut (.tup (.cons (.nm 3) (.cons (.nm 4) (.cons (.nm 5) (.cons (.nm 6) (.nil)))))))) (sSeq (sPar [8, 9] (wCons (wCallF i_divisors_sum.ps.length i_divisors_sum.dfl (T 3) (wCons (wVar 3) (wCons (wVar 4) (wCons (wVar 5) (wCons (wVar 6) (wNil)))))) (wCons (wCallF i__law_draw.ps.length i__law_draw.dfl (T 5) (wCons (wVar 1) (wCons (w2 oAdd (wVar 3) (wLit (.int 1))) (wNil)))) (wNil)))) (sSeq (sIf (wAsT (w2 oNe (wVar 8) (w2 oAdd (wCallF i_divisors_sum.ps.length i_divisors_sum.dfl (T 3) (wCons (wVar 9) (wCons (wVar 4) (wCons (wVar 5) (wCons (wVar 6) (wNil)))))) (wCallF i_divisors_sum.ps.length i_divisors_sum.dfl (T 3) (wCons (w2 oSub (wVar 3) (wVar 9)) (wCons (wVar 4) (wCons (wVar 5) (wCons (w2 oAdd (wVar 6) (w2 oMul (wVar 4) (wVar 9))) (wNil))))))))) (sRet (wLit (.bl false))) (sNext)) (sSeq (sIf (wOrT (wAsT (w2 oNe (wVar 8) (wCallF i_divisors_sum.ps.length i_divisors_sum.dfl (T 3) (wCons (wVar 3) (wCons (w2 oSub (wLit (.int 0)) (wVar 4)) (wCons (wVar 5) (wCons (w2 oAdd (wVar 6) (w2 oMul (wVar 4) (w2 oSub (wVar 3) (wLit (.int 1))))) (wNil)))))))) (wOrT (wAsT (w2 oNe (wCallF i_divisors_sum.ps.length i_divisors_sum.dfl (T 3) (wCons (wVar 3) (wCons (w2 oAdd (wVar 4) (wVar 5)) (wCons (wVar 5) (wCons (wVar 6) (wNil)))))) (w2 oAdd (wVar 8) (w2 oDiv (w2 oMul (wVar 3) (w2 oSub (wVar 3) (wLit (.int 1)))) (wLit (.int 2)))))) (wAsT (w2 oNe (wCallF i_divisors_sum.ps.length i_divisors_sum.dfl (T 3) (wCons (wVar 3) (wCons (wVar 4) (wCons (wVar 5) (wCons (w2 oAdd (wVar 6) (wVar 5)) (wNil)))))) (w2 oAdd (wVar 8) (wVar 3)))))) (sRet (wLit (.bl false))) (sNext)) (sSeq (sIf (wOrT (wAndT (wAsT (w2 oGe (wVar 4) (wLit (.int 0)))) (wAndT (wAsT (w2 oGe (wVar 6) (wLit (.int 0)))) (wAsT (w2 oNe (wVar 8) (wCallF i__law_floor_sum.ps.length i__law_floor_sum.dfl (T 9) (wCons (wVar 3) (wCons (wVar 4) (wCons (wVar 5) (wCons (wVar 6) (wNil)))))))))) (wOrT (wAsT (w2 oNe (wCallF i_divisors_sum.ps.length i_divisors_sum.dfl (T 3) (wCons (wLit (.int 0)) (wCons (wVar 4) (wCons (wVar 5) (wCons (wVar 6) (wNil)))))) (wLit (.int 0)))) (wAsT (w2 oNe (wCallF i_divisors_sum.ps.length i_divisors_sum.dfl (T 3) (wCons (wLit (.int 1)) (wCons (wVar 4) (wCons (wVar 5) (wCons (wVar 6) (wNil)))))) (w2 oDiv (wVar 6) (wVar 5)))))) (sRet (wLit (.bl false))) (sNext)) (sIf (wAsT (w2 oNe (wCallF i_divisors_sum.ps.length i_divisors_sum.dfl (T 3) (wCons (wVar 3) (wCons (w2 oSub (wLit (.int 0)) (wVar 4)) (wCons (wVar 5) (wCons (w2 oSub (w2 oSub (wLit (.int 0)) (wVar 6)) (wLit (.int 1))) (wNil)))))) (w2 oSub (w2 oSub (wLit (.int 0)) (wVar 8)) (wVar 3)))) (sRet (wLit (.bl false))) (sNext))))))))))) (sSeq (sFor (wRange1 (wLit (.int 4))) (gPut (.nm 9)) (sFor (wItems (w2 oAdd (wN oLst (wCons (wLit .non) (wCons (wLit (.bl true)) (wCons (wLit (.str "1")) (wNil))))) (w2 oIx (wN oLst (wCons (wN oLst (wCons (w2 oSub (wLit (.int 0)) (wLit (.int 1))) (wCons (w2 oAdd (w2 oPow (wLit (.int 10)) (wLit (.int 30))) (wLit (.int 1))) (wNil)))) (wCons (wN oLst (wNil)) (wCons (wN oLst (wCons (wLit (.int 0)) (wCons (w2 oSub (wLit (.int 0)) (wLit (.int 1))) (wNil)))) (wCons (wN oLst (wNil)) (wNil)))))) (wVar 9)))) (gPut (.nm 10)) (sSeq (sSet 11 (wN oLstM (wCons (wLit (.int 3)) (wCons (wLit (.int 2)) (wCons (wLit (.int 5)) (wCons (wLit (.int 1)) (wNil))))))) (sSeq (sAsg (wVar 10) (gSubG (wVar 11) (wVar 9))) (sSeq (sFrz 11) (sIf (wAsT (w2 oNe (wCallF i__law_raised.ps.length i__law_raised.dfl (T 8) (wCons (wLit (.fn 3)) (wCons (wVar 11) (wNil)))) (wN oTup (wCons (wLit (.str "argument")) (wCons (w2 oIx (wN oLst (wCons (wLit (.str "n")) (wCons (wLit (.str "p")) (wCons (wLit (.str "q")) (wCons (wLit (.str "r")) (wNil)))))) (wVar 9)) (wNil)))))) (sRet (wLit (.bl false))) (sNext))))))) (sRet (wLit (.bl true)))))
theorem b_law (ht : TabOk G D0 tab T 10) (mt : ∀ k, MonoF (T k)) (hf : ∀ (i : Nat) (x : Str), frees[i]? = some x → D0.mg x = none) (xt : XcT G D0 xns sub) (ff : ∀ k, k < xns.length → G.fld k = "reason") (hk : ∀ (i : Nat) (c : Str × Int), kints[i]? = some c → ∃ t, D0.mg c.1 = some (.int c.2 t)) (hz : ∀ (i : Nat) (c : Str × Str), kstrs[i]? = some c → ∃ t, D0.mg c.1 = some (.str c.2 t)) (c : Dok G W X D0 N_law (defScope st_law) 10) : BV G W X (defBody st_law) (m_law T) :=
  bv_cons (c.set 1 rfl rfl (c.tcall ht 4 i__law_start (by decide) rfl rfl rfl (av_cons (c.var 0 rfl rfl rfl) (av_nil) rfl) rfl) rfl) (bv_cons (sv_for c.po c.calm (iv_range1 (c.gl rfl) (c.mgn (hf 14 _ rfl)) (ev_int) rfl) (c.gn 2 rfl rfl) (bv_cons (c.asg (ev_tup (av_cons (c.tcall ht 5 i__law_draw (by decide) rfl rfl rfl (av_cons (c.var 1 rfl rfl rfl) (av_cons (ev_int) (av_nil) rfl) rfl) rfl) (av_cons (e_sub (c.tcall ht 5 i__law_draw (by decide) rfl rfl rfl (av_cons (c.var 1 rfl rfl rfl) (av_cons (ev_int) (av_nil) rfl) rfl) rfl) (ev_int)) (av_cons (c.add (ev_int) (c.tcall ht 5 i__law_draw (by decide) rfl rfl rfl (av_cons (c.var 1 rfl rfl rfl) (av_cons (ev_int) (av_nil) rfl) rfl) rfl)) (av_cons (e_sub (c.tcall ht 5 i__law_draw (by decide) rfl rfl rfl (av_cons (c.var 1 rfl rfl rfl) (av_cons (ev_int) (av_nil) rfl) rfl) rfl) (ev_int)) (av_nil) rfl) rfl) rfl) rfl)) (gv_put (c.pgt (pgs_more (c.pgn 3 rfl rfl) (pgs_more (c.pgn 4 rfl rfl) (pgs_more (c.pgn 5 rfl rfl) (pgs_more (c.pgn 6 rfl rfl) (pgs_none) rfl) rfl) rfl) rfl) rfl rfl)) rfl (fun env h => by cases env; cases h; rfl) rfl) (bv_cons (sv_if (tv_not (tv_tru c.hK (c.tcall ht 7 i__law_same (by decide) rfl rfl rfl (av_cons (c.tcall ht 3 i_divisors_sum (by decide) rfl rfl rfl (av_cons (c.var 3 rfl rfl rfl) (av_cons (c.var 4 rfl rfl rfl) (av_cons (c.var 5 rfl rfl rfl) (av_cons (c.var 6 rfl rfl rfl) (av_nil) rfl) rfl) rfl) rfl) rfl) (av_cons (c.bi (b_sum c.hK c.calm) rfl (hf 20 _ rfl) (av_cons (c.lc false (.nm 12) [("x", 12)] (iv_range1 (c.gl rfl) (c.mgn (hf 14 _ rfl)) (c.var 3 rfl rfl rfl) rfl) rfl (fun _ c => ⟨c.pgn 12 rfl rfl, tsv_nil, e_div (c.add (e_mul (c.var 4 rfl rfl rfl) (c.var 12 rfl rfl rfl)) (c.var 6 rfl rfl rfl)) (c.var 5 rfl rfl rfl)⟩) rfl (by decide)) (av_nil) rfl) rfl rfl) (av_nil) rfl) rfl) rfl) rfl)) (bv_one (sv_ret (ev_bl))) (bv_nil)) (bv_cons (c.set 7 rfl rfl (c.tcall ht 6 i__law_pick (by decide) rfl rfl rfl (av_cons (c.var 1 rfl rfl rfl) (av_cons (ev_lst (av_cons (e_pow (ev_int) (ev_int)) (av_cons (e_pow (ev_int) (ev_int)) (av_cons (e_sub (e_pow (ev_int) (ev_int)) (ev_int)) (av_nil) rfl) rfl) rfl)) (av_nil) rfl) rfl) rfl) rfl) (bv_cons (c.asg (ev_tup (av_cons (c.tcall ht 5 i__law_draw (by decide) rfl rfl rfl (av_cons (c.var 1 rfl rfl rfl) (av_cons (c.var 7 rfl rfl rfl) (av_nil) rfl) rfl) rfl) (av_cons (e_sub (c.tcall ht 5 i__law_draw (by decide) rfl rfl rfl (av_cons (c.var 1 rfl rfl rfl) (av_cons (c.add (e_mul (ev_int) (c.var 7 rfl rfl rfl)) (ev_int)) (av_nil) rfl) rfl) rfl) (c.var 7 rfl rfl rfl)) (av_cons (c.add (ev_int) (c.tcall ht 5 i__law_draw (by decide) rfl rfl rfl (av_cons (c.var 1 rfl rfl rfl) (av_cons (c.var 7 rfl rfl rfl) (av_nil) rfl) rfl) rfl)) (av_cons (e_sub (c.tcall ht 5 i__law_draw (by decide) rfl rfl rfl (av_cons (c.var 1 rfl rfl rfl) (av_cons (c.add (e_mul (ev_int) (c.var 7 rfl rfl rfl)) (ev_int)) (av_nil) rfl) rfl) rfl) (c.var 7 rfl rfl rfl)) (av_nil) rfl) rfl) rfl) rfl)) (gv_put (c.pgt (pgs_more (c.pgn 3 rfl rfl) (pgs_more (c.pgn 4 rfl rfl) (pgs_more (c.pgn 5 rfl rfl) (pgs_more (c.pgn 6 rfl rfl) (pgs_none) rfl) rfl) rfl) rfl) rfl rfl)) rfl (fun env h => by cases env; cases h; rfl) rfl) (bv_cons (c.par2 8 9 rfl rfl (by decide) rfl rfl (av_cons (c.tcall ht 3 i_divisors_sum (by decide) rfl rfl rfl (av_cons (c.var 3 rfl rfl rfl) (av_cons (c.var 4 rfl rfl rfl) (av_cons (c.var 5 rfl rfl rfl) (av_cons (c.var 6 rfl rfl rfl) (av_nil) rfl) rfl) rfl) rfl) rfl) (av_cons (c.tcall ht 5 i__law_draw (by decide) rfl rfl rfl (av_cons (c.var 1 rfl rfl rfl) (av_cons (c.add (c.var 3 rfl rfl rfl) (ev_int)) (av_nil) rfl) rfl) rfl) (av_nil) rfl) rfl) (fun env h => by cases env; cases h; rfl)) (bv_cons (sv_if (tv_cmp c.ne (c.var 8 rfl rfl rfl) (c.add (c.tcall ht 3 i_divisors_sum (by decide) rfl rfl rfl (av_cons (c.var 9 rfl rfl rfl) (av_cons (c.var 4 rfl rfl rfl) (av_cons (c.var 5 rfl rfl rfl) (av_cons (c.var 6 rfl rfl rfl) (av_nil) rfl) rfl) rfl) rfl) rfl) (c.tcall ht 3 i_divisors_sum (by decide) rfl rfl rfl (av_cons (e_sub (c.var 3 rfl rfl rfl) (c.var 9 rfl rfl rfl)) (av_cons (c.var 4 rfl rfl rfl) (av_cons (c.var 5 rfl rfl rfl) (av_cons (c.add (c.var 6 rfl rfl rfl) (e_mul (c.var 4 rfl rfl rfl) (c.var 9 rfl rfl rfl))) (av_nil) rfl) rfl) rfl) rfl) rfl)) rfl) (bv_one (sv_ret (ev_bl))) (bv_nil)) (bv_cons (sv_if ((wv_or (tv_cmp c.ne (c.var 8 rfl rfl rfl) (c.tcall ht 3 i_divisors_sum (by decide) rfl rfl rfl (av_cons (c.var 3 rfl rfl rfl) (av_cons (e_sub (ev_int) (c.var 4 rfl rfl rfl)) (av_cons (c.var 5 rfl rfl rfl) (av_cons (c.add (c.var 6 rfl rfl rfl) (e_mul (c.var 4 rfl rfl rfl) (e_sub (c.var 3 rfl rfl rfl) (ev_int)))) (av_nil) rfl) rfl) rfl) rfl) rfl) rfl) (wv_or (tv_cmp c.ne (c.tcall ht 3 i_divisors_sum (by decide) rfl rfl rfl (av_cons (c.var 3 rfl rfl rfl) (av_cons (c.add (c.var 4 rfl rfl rfl) (c.var 5 rfl rfl rfl)) (av_cons (c.var 5 rfl rfl rfl) (av_cons (c.var 6 rfl rfl rfl) (av_nil) rfl) rfl) rfl) rfl) rfl) (c.add (c.var 8 rfl rfl rfl) (e_div (e_mul (c.var 3 rfl rfl rfl) (e_sub (c.var 3 rfl rfl rfl) (ev_int))) (ev_int))) rfl) (wv_or1 (tv_cmp c.ne (c.tcall ht 3 i_divisors_sum (by decide) rfl rfl rfl (av_cons (c.var 3 rfl rfl rfl) (av_cons (c.var 4 rfl rfl rfl) (av_cons (c.var 5 rfl rfl rfl) (av_cons (c.add (c.var 6 rfl rfl rfl) (c.var 5 rfl rfl rfl)) (av_nil) rfl) rfl) rfl) rfl) rfl) (c.add (c.var 8 rfl rfl rfl) (c.var 3 rfl rfl rfl)) rfl)))).tv) (bv_one (sv_ret (ev_bl))) (bv_nil)) (bv_cons (sv_if ((wv_or ((wv_and (tv_cmp c_ge (c.var 4 rfl rfl rfl) (ev_int) rfl) (wv_and (tv_cmp c_ge (c.var 6 rfl rfl rfl) (ev_int) rfl) (wv_and1 (tv_cmp c.ne (c.var 8 rfl rfl rfl) (c.tcall ht 9 i__law_floor_sum (by decide) rfl rfl rfl (av_cons (c.var 3 rfl rfl rfl) (av_cons (c.var 4 rfl rfl rfl) (av_cons (c.var 5 rfl rfl rfl) (av_cons (c.var 6 rfl rfl rfl) (av_nil) rfl) rfl) rfl) rfl) rfl) rfl)))).tv) (wv_or (tv_cmp c.ne (c.tcall ht 3 i_divisors_sum (by decide) rfl rfl rfl (av_cons (ev_int) (av_cons (c.var 4 rfl rfl rfl) (av_cons (c.var 5 rfl rfl rfl) (av_cons (c.var 6 rfl rfl rfl) (av_nil) rfl) rfl) rfl) rfl) rfl) (ev_int) rfl) (wv_or1 (tv_cmp c.ne (c.tcall ht 3 i_divisors_sum (by decide) rfl rfl rfl (av_cons (ev_int) (av_cons (c.var 4 rfl rfl rfl) (av_cons (c.var 5 rfl rfl rfl) (av_cons (c.var 6 rfl rfl rfl) (av_nil) rfl) rfl) rfl) rfl) rfl) (e_div (c.var 6 rfl rfl rfl) (c.var 5 rfl rfl rfl)) rfl)))).tv) (bv_one (sv_ret (ev_bl))) (bv_nil)) (bv_one (sv_if (tv_cmp c.ne (c.tcall ht 3 i_divisors_sum (by decide) rfl rfl rfl (av_cons (c.var 3 rfl rfl rfl) (av_cons (e_sub (ev_int) (c.var 4 rfl rfl rfl)) (av_cons (c.var 5 rfl rfl rfl) (av_cons (e_sub (e_sub (ev_int) (c.var 6 rfl rfl rfl)) (ev_int)) (av_nil) rfl) rfl) rfl) rfl) rfl) (e_sub (e_sub (ev_int) (c.var 8 rfl rfl rfl)) (c.var 3 rfl rfl rfl)) rfl) (bv_one (sv_ret (ev_bl))) (bv_nil))))))))))) rfl) (bv_cons (sv_for c.po c.calm (iv_range1 (c.gl rfl) (c.mgn (hf 14 _ rfl)) (ev_int) rfl) (c.gn 9 rfl rfl) (bv_one (sv_for c.po c.calm (iv_seq c.hK (c.add (ev_lst (av_cons (ev_non) (av_cons (ev_bl) (av_cons (ev_str) (av_nil) rfl) rfl) rfl)) (ev_ix c.hK (ev_lst (av_cons (ev_lst (av_cons (e_sub (ev_int) (ev_int)) (av_cons (c.add (e_pow (ev_int) (ev_int)) (ev_int)) (av_nil) rfl) rfl)) (av_cons (ev_lst (av_nil)) (av_cons (ev_lst (av_cons (ev_int) (av_cons (e_sub (ev_int) (ev_int)) (av_nil) rfl) rfl)) (av_cons (ev_lst (av_nil)) (av_nil) rfl) rfl) rfl) rfl)) (c.var 9 rfl rfl rfl) rfl))) (c.gn 10 rfl rfl) (bv_cons (c.set 11 rfl rfl (ev_lstM (av_cons (ev_int) (av_cons (ev_int) (av_cons (ev_int) (av_cons (ev_int) (av_nil) rfl) rfl) rfl) rfl)) rfl) (bv_cons (c.asg (c.var 10 rfl rfl rfl) (gv_sub (c.var 11 rfl rfl rfl) (c.var 9 rfl rfl rfl) rfl) rfl (fun env h => by cases env; cases h; rfl) rfl) (bv_frz (bv_one (sv_if (tv_cmp c.ne (c.tcall ht 8 i__law_raised (by decide) rfl rfl rfl (av_cons (c.gfn rfl (ht 3 i_divisors_sum (by decide) rfl).glob rfl) (av_cons (c.var 11 rfl rfl rfl) (av_nil) rfl) rfl) rfl) (ev_tup (av_cons (ev_str) (av_cons (ev_ix c.hK (ev_lst (av_cons (ev_str) (av_cons (ev_str) (av_cons (ev_str) (av_cons (ev_str) (av_nil) rfl) rfl) rfl) rfl)) (c.var 9 rfl rfl rfl) rfl) (av_nil) rfl) rfl)) rfl) (bv_one (sv_ret (ev_bl))) (bv_nil)))))) rfl)) rfl) (bv_one (sv_ret (ev_bl)))))
theorem sc_law : FnScope N_law ["script"] (defScope st_law) := ⟨rfl, rfl, rfl, by decide +kernel, rfl, by decide +kernel, by decide +kernel⟩
end
end K02

set_option Elab.async false
set_option linter.all false
set_option maxRecDepth 100000
set_option maxHeartbeats 1000000
/-! K02m: sums of floors, plainly. -/
namespace K02
open PySem Rf
def FS : Nat → Int → Int → Int → Int
  | 0, _, _, _ => 0
  | n + 1, p, q, r => FS n p q r + (p * n + r) / q
def RS : Nat → Int → Int → Int → Int
  | 0, _, _, _ => 0
  | m + 1, q, p, l => RS m q p l + (l - q * (m + 1)) / p
def tri (n : Int) : Int := n * (n - 1) / 2
theorem tri_succ (n : Int) : tri (n + 1) = tri n + n := by
  unfold tri
  have e : (n + 1) * (n + 1 - 1) = n * (n - 1) + n * 2 := by
    rw [Int.add_sub_cancel, Int.mul_sub, Int.add_mul]
    omega
  rw [e, Int.add_mul_ediv_right _ _ (by decide)]
theorem FS_mod {q : Int} (hq : 0 < q) (p r : Int) : ∀ n : Nat, FS n p q r = tri n * (p / q) + n * (r / q) + FS n (p % q) q (r % q)
  | 0 => by simp [FS, tri]
  | n + 1 => by
    have ih := FS_mod hq p r n
    have e : p * n + r = (p % q * n + r % q) + q * (p / q * n + r / q) := by
      have h1 := Int.mul_ediv_add_emod p q
      have h2 := Int.mul_ediv_add_emod r q
      have h3 : p * n = (q * (p / q) + p % q) * n := by rw [h1]
      rw [h3, Int.mul_add, Int.add_mul, Int.mul_assoc]
      omega
    have e2 : (p * n + r) / q = (p % q * n + r % q) / q + (p / q * n + r / q) := by
      rw [e, Int.add_mul_ediv_left _ _ (Int.ne_of_gt hq)]
    have e3 : ((n + 1 : Nat) : Int) = (n : Int) + 1 := by omega
    simp only [FS]
    rw [ih, e2, e3, tri_succ, Int.add_mul, Int.add_mul, Int.mul_comm (n : Int) (p / q)]
    omega
theorem FS_first (p q : Int) : ∀ (n : Nat) (r : Int), FS (n + 1) p q r = r / q + FS n p q (r + p)
  | 0, r => by simp [FS]
  | n + 1, r => by
    have ih := FS_first p q n r
    have e : FS (n + 1 + 1) p q r = FS (n + 1) p q r + (p * ((n + 1 : Nat) : Int) + r) / q := rfl
    have e2 : FS (n + 1) p q (r + p) = FS n p q (r + p) + (p * n + (r + p)) / q := rfl
    rw [e, ih, e2]
    have e3 : p * ((n + 1 : Nat) : Int) + r = p * n + (r + p) := by
      rw [show ((n + 1 : Nat) : Int) = (n : Int) + 1 by omega, Int.mul_add]
      omega
    rw [e3]
    omega
theorem FS_RS (q p : Int) : ∀ (m : Nat) (c : Int), FS m q p c = RS m q p (c + q * m)
  | 0, c => rfl
  | m + 1, c => by
    have ih := FS_RS q p m (c + q)
    rw [FS_first, ih]
    have e3 : q * ((m + 1 : Nat) : Int) = q * m + q := by rw [show ((m + 1 : Nat) : Int) = (m : Int) + 1 by omega, Int.mul_add]; omega
    have e4 : q * ((m : Int) + 1) = q * m + q := by rw [Int.mul_add]; omega
    simp only [RS]
    rw [e3, e4, show c + (q * (m : Int) + q) - (q * m + q) = c by omega, show c + q + q * (m : Int) = c + (q * m + q) by omega]
    omega
theorem RS_add (q : Int) {p : Int} (hp : 0 < p) (l : Int) : ∀ m : Nat, RS m q p (l + p) = RS m q p l + m
  | 0 => by simp [RS]
  | m + 1 => by
    have ih := RS_add q hp l m
    simp only [RS]
    rw [ih]
    have e : l + p - q * ((m : Int) + 1) = (l - q * ((m : Int) + 1)) + p * 1 := by omega
    rw [e, Int.add_mul_ediv_left _ _ (Int.ne_of_gt hp)]
    omega
theorem ediv_eq {x q m : Int} (hq : 0 < q) (h1 : q * m ≤ x) (h2 : x < q * m + q) : x / q = m := by
  have : x = (x - q * m) + q * m := by omega
  rw [this, Int.add_mul_ediv_left _ _ (Int.ne_of_gt hq), Int.ediv_eq_zero_of_lt (by omega) (by omega)]
  omega
theorem FS_swap {p q r : Int} (hp : 0 < p) (hpq : p < q) (hr : 0 ≤ r) (hrq : r < q) : ∀ n : Nat, FS n p q r = FS ((p * n + r) / q).toNat q p ((p * n + r) % q) := by
  have hq : 0 < q := by omega
  have g : ∀ n : Nat, FS ((p * n + r) / q).toNat q p ((p * n + r) % q) = RS ((p * n + r) / q).toNat q p (p * n + r) := fun n => by
    rw [FS_RS]
    have h0 : 0 ≤ (p * (n : Int) + r) / q := Int.ediv_nonneg (by have := Int.mul_nonneg (Int.le_of_lt hp) (Int.natCast_nonneg n); omega) (Int.le_of_lt hq)
    have e : ((((p * (n : Int) + r) / q).toNat : Nat) : Int) = (p * (n : Int) + r) / q := Int.toNat_of_nonneg h0
    rw [e]
    have := Int.mul_ediv_add_emod (p * n + r) q
    rw [show (p * (n : Int) + r) % q + q * ((p * n + r) / q) = p * n + r by omega]
  intro n
  rw [g n]
  induction n with
  | zero =>
    have e : (p * ((0 : Nat) : Int) + r) / q = 0 := by
      rw [show p * ((0 : Nat) : Int) + r = r by simp]
      exact Int.ediv_eq_zero_of_lt hr hrq
    rw [e]
    rfl
  | succ n ih =>
    have e3 : p * ((n + 1 : Nat) : Int) + r = (p * n + r) + p := by
      rw [show ((n + 1 : Nat) : Int) = (n : Int) + 1 by omega, Int.mul_add]
      omega
    have l0 : 0 ≤ p * (n : Int) + r := by have := Int.mul_nonneg (Int.le_of_lt hp) (Int.natCast_nonneg n); omega
    have st : FS (n + 1) p q r = FS n p q r + (p * n + r) / q := rfl
    rw [st, ih, e3]
    generalize hl : p * (n : Int) + r = l at *
    have m0 : 0 ≤ l / q := Int.ediv_nonneg l0 (Int.le_of_lt hq)
    have hm := Int.mul_ediv_add_emod l q
    have c0 := Int.emod_nonneg l (Int.ne_of_gt hq)
    have c1 := Int.emod_lt_of_pos l hq
    generalize hmm : l / q = m at *
    have em : ((m.toNat : Nat) : Int) = m := Int.toNat_of_nonneg m0
    have qm1 : q * (m + 1) = q * m + q := by rw [Int.mul_add]; omega
    by_cases h : l + p < q * m + q
    · have e : (l + p) / q = m := ediv_eq hq (by omega) h
      rw [e, RS_add q hp, em]
    · have e : (l + p) / q = m + 1 := ediv_eq hq (by omega) (by omega)
      rw [e, show (m + 1).toNat = m.toNat + 1 by omega]
      simp only [RS]
      rw [RS_add q hp, em]
      have z : (l + p - q * (m + 1)) / p = 0 := Int.ediv_eq_zero_of_lt (by omega) (by omega)
      rw [z]
      omega
theorem FS_zero {p q r : Int} (hp : 0 ≤ p) (hr : 0 ≤ r) : ∀ n : Nat, p * n + r < q → FS n p q r = 0
  | 0, _ => rfl
  | n + 1, h => by
    have e3 : p * ((n + 1 : Nat) : Int) + r = (p * n + r) + p := by
      rw [show ((n + 1 : Nat) : Int) = (n : Int) + 1 by omega, Int.mul_add]
      omega
    have l0 : 0 ≤ p * (n : Int) + r := by have := Int.mul_nonneg hp (Int.natCast_nonneg n); omega
    have ih := FS_zero (q := q) hp hr n (by omega)
    simp only [FS]
    rw [ih, Int.ediv_eq_zero_of_lt l0 (by omega)]
    rfl
/-! ### what the law asks -/
theorem FS_split (p q r : Int) (k : Nat) : ∀ m : Nat, FS (k + m) p q r = FS k p q r + FS m p q (r + p * k)
  | 0 => by simp [FS]
  | m + 1 => by
    have ih := FS_split p q r k m
    have e : FS (k + (m + 1)) p q r = FS (k + m) p q r + (p * ((k + m : Nat) : Int) + r) / q := rfl
    have e2 : FS (m + 1) p q (r + p * k) = FS m p q (r + p * k) + (p * m + (r + p * k)) / q := rfl
    have e3 : p * ((k + m : Nat) : Int) + r = p * m + (r + p * k) := by
      rw [show ((k + m : Nat) : Int) = (k : Int) + m by omega, Int.mul_add]
      omega
    rw [e, ih, e2, e3]
    omega
theorem FS_rev (p q : Int) : ∀ (n : Nat) (r : Int), FS n p q r = FS n (-p) q (r + p * ((n : Int) - 1))
  | 0, r => rfl
  | n + 1, r => by
    have ih := FS_rev p q n r
    rw [FS_first (-p)]
    have e3 : ((n + 1 : Nat) : Int) - 1 = n := by omega
    rw [e3]
    have e4 : r + p * (n : Int) + -p = r + p * ((n : Int) - 1) := by rw [Int.mul_sub]; omega
    rw [e4, ← ih]
    simp only [FS]
    rw [show r + p * (n : Int) = p * n + r by omega]
    omega
theorem FS_addq {q : Int} (hq : 0 < q) (p r : Int) : ∀ n : Nat, FS n (p + q) q r = FS n p q r + tri n
  | 0 => by simp [FS, tri]
  | n + 1 => by
    have ih := FS_addq hq p r n
    have e3 : ((n + 1 : Nat) : Int) = (n : Int) + 1 := by omega
    simp only [FS]
    rw [ih, e3, tri_succ]
    have e : (p + q) * (n : Int) + r = (p * n + r) + q * n := by rw [Int.add_mul]; omega
    rw [e, Int.add_mul_ediv_left _ _ (Int.ne_of_gt hq)]
    omega
theorem FS_addr {q : Int} (hq : 0 < q) (p r : Int) : ∀ n : Nat, FS n p q (r + q) = FS n p q r + n
  | 0 => by simp [FS]
  | n + 1 => by
    have ih := FS_addr hq p r n
    simp only [FS]
    rw [ih]
    have e : p * (n : Int) + (r + q) = (p * n + r) + q * 1 := by omega
    rw [e, Int.add_mul_ediv_left _ _ (Int.ne_of_gt hq)]
    omega
theorem FS_neg {q : Int} (hq : 0 < q) (p r : Int) : ∀ n : Nat, FS n (-p) q (-r - 1) = -FS n p q r - n
  | 0 => by simp [FS]
  | n + 1 => by
    have ih := FS_neg hq p r n
    simp only [FS]
    rw [ih]
    have hm := Int.mul_ediv_add_emod (p * n + r) q
    have c0 := Int.emod_nonneg (p * n + r) (Int.ne_of_gt hq)
    have c1 := Int.emod_lt_of_pos (p * n + r) hq
    have e : -p * (n : Int) + (-r - 1) = -(p * n + r) - 1 := by rw [Int.neg_mul]; omega
    have z : (-p * (n : Int) + (-r - 1)) / q = -((p * n + r) / q) - 1 := by
      rw [e]
      have q1 : q * (-((p * (n : Int) + r) / q) - 1) = -(q * ((p * n + r) / q)) - q := by rw [Int.mul_sub, Int.mul_neg]; omega
      exact ediv_eq hq (by omega) (by omega)
    rw [z]
    omega
theorem FS_one (p q r : Int) : FS 1 p q r = r / q := by simp [FS]
/-- one turn of the sum's loop -/
theorem FS_turn {q : Int} (hq : 0 < q) (n : Nat) (p r : Int) (h : q ≤ p % q * n + r % q) : 0 < p % q ∧ FS n p q r = tri n * (p / q) + n * (r / q) + FS ((p % q * n + r % q) / q).toNat q (p % q) ((p % q * n + r % q) % q) := by
  have p0 := Int.emod_nonneg p (Int.ne_of_gt hq)
  have p1 := Int.emod_lt_of_pos p hq
  have r0 := Int.emod_nonneg r (Int.ne_of_gt hq)
  have r1 := Int.emod_lt_of_pos r hq
  have hp : 0 < p % q := by
    by_cases z : p % q = 0
    · rw [z] at h; simp at h; omega
    · omega
  exact ⟨hp, by rw [FS_mod hq, ← FS_swap hp p1 r0 r1 n]⟩
theorem FS_stop {q : Int} (hq : 0 < q) (n : Nat) (p r : Int) (h : p % q * n + r % q < q) : FS n p q r = tri n * (p / q) + n * (r / q) := by
  rw [FS_mod hq, FS_zero (Int.emod_nonneg p (Int.ne_of_gt hq)) (Int.emod_nonneg r (Int.ne_of_gt hq)) n h]
  omega
end K02

set_option Elab.async false
set_option linter.all false
set_option maxRecDepth 100000
set_option maxHeartbeats 1000000
namespace K02
open PySem Rf
abbrev B4 (a b c d : Int) : Prop := Bd 1000 a ∧ Bd 1000 b ∧ Bd 1000 c ∧ Bd 1000 d
def F_is_integer : FD := F_isInt
def F_is_within : FD := F_within
def F_floors : FD := fun ds M Q Z => match ds with
  | [.int n, .int p, .int q, .int r] => 0 ≤ n ∧ 0 < q ∧ B4 n p q r ∧ Q (.int (FS n.toNat p q r)) M
  | _ => False
def dsum (x1 x2 x3 x4 : D) (M : Mem) (Q : QV) (Z : QX) : Prop := match x1 with
  | .int n => if 0 ≤ n ∧ n ≤ 10 ^ 30 then (match x2 with
    | .int p => (match x3 with
      | .int q => if 0 < q then (match x4 with
        | .int r => B4 n p q r ∧ Q (.int (FS n.toNat p q r)) M
        | _ => Z 0 (.str "r") M) else Z 0 (.str "q") M
      | _ => Z 0 (.str "q") M)
    | _ => Z 0 (.str "p") M) else Z 0 (.str "n") M
  | _ => Z 0 (.str "n") M
def F_divisors_sum : FD := fun ds M Q Z => match ds with
  | [x1, x2, x3, x4] => okT x1 = true ∧ okT x2 = true ∧ okT x3 = true ∧ okT x4 = true ∧ dsum x1 x2 x3 x4 M Q Z
  | _ => False
def F__law_floor_sum : FD := F_floors
def F__law_start : FD := F_start
def F__law_draw : FD := F_draw
def F__law_pick : FD := F_pick
def F__law_same : FD := F_same
def T0 : Nat → FD
  | 0 => F_is_integer | 1 => F_is_within | 2 => F_floors | 3 => F_divisors_sum | 4 => F__law_start | 5 => F__law_draw | 6 => F__law_pick | 7 => F__law_same | _ => F_no
def F__law_raised : FD := F_raised tab 8 T0
def F_law : FD := fun ds M Q Z => match ds with
  | [.scr cs] => ∃ ns : List Int, cs = ns.map D.int ∧ ns.length ≤ 63 ∧ M = (fun _ => none) ∧ ∀ M', Q (.bl true) M'
  | _ => False
def T : Nat → FD
  | 8 => F__law_raised | 9 => F__law_floor_sum | 10 => F_law | k => T0 k
theorem t_is_integer : T 0 = F_isInt := rfl
theorem t_is_within : T 1 = F_within := rfl
theorem t_floors : T 2 = F_floors := rfl
theorem t_divisors_sum : T 3 = F_divisors_sum := rfl
theorem t__law_start : T 4 = F_start := rfl
theorem t__law_draw : T 5 = F_draw := rfl
theorem t__law_pick : T 6 = F_pick := rfl
theorem t__law_same : T 7 = F_same := rfl
theorem t__law_raised : T 8 = F_raised tab 8 T0 := rfl
theorem t__law_floor_sum : T 9 = F_floors := rfl
theorem ite2 {c : Prop} [Decidable c] {A B A' B' : Prop} (h1 : A → A') (h2 : B → B') (h : if c then A else B) : if c then A' else B' := by
  by_cases hc : c
  · rw [if_pos hc] at h ⊢; exact h1 h
  · rw [if_neg hc] at h ⊢; exact h2 h
theorem mono_floors : MonoF F_floors := fun ds M Q Q' Z Z' hq hz q => by
  unfold F_floors at *
  split at q
  · exact ⟨q.1, q.2.1, q.2.2.1, hq _ _ q.2.2.2⟩
  · exact q.elim
theorem mono_dsum : MonoF F_divisors_sum := fun ds M Q Q' Z Z' hq hz q => by
  unfold F_divisors_sum at *
  split at q
  · refine ⟨q.1, q.2.1, q.2.2.1, q.2.2.2.1, ?_⟩
    have q5 := q.2.2.2.2
    unfold dsum at *
    split at q5
    · refine ite2 (fun q6 => ?_) (hz _ _ _) q5
      split at q6
      · split at q6
        · refine ite2 (fun q7 => ?_) (hz _ _ _) q6
          split at q7
          · exact ⟨q7.1, hq _ _ q7.2⟩
          · exact hz _ _ _ q7
        · exact hz _ _ _ q6
      · exact hz _ _ _ q6
    · exact hz _ _ _ q5
  · exact q.elim
theorem mono_T0 : ∀ k, MonoF (T0 k)
  | 0 => mono_isInt | 1 => mono_within | 2 => mono_floors | 3 => mono_dsum | 4 => mono_start | 5 => mono_draw | 6 => mono_pick | 7 => mono_same | k + 8 => mono_no
theorem mono_law : MonoF F_law := fun ds M Q Q' Z Z' hq hz q => by
  unfold F_law at *
  split at q
  · obtain ⟨ns, h1, h2, h3, h4⟩ := q
    exact ⟨ns, h1, h2, h3, fun M' => hq _ _ (h4 M')⟩
  · exact q.elim
theorem mt : ∀ k, MonoF (T k) := fun k => by
  unfold T
  split
  · exact mono_raised mono_T0
  · exact mono_floors
  · exact mono_law
  · exact mono_T0 k
theorem T_T0 {k : Nat} (h : k < 8) : T k = T0 k := by
  unfold T
  split
  · omega
  · omega
  · omega
  · rfl
/-! ### the defs -/
theorem do_is_integer : ∀ ds M Q Z, F_is_integer ds M Q Z → ds.length = 1 → m_is_integer T (endF Q Z) (startD N_is_integer ds) M := do_isInt
theorem do__law_start : ∀ ds M Q Z, F__law_start ds M Q Z → ds.length = 1 → m__law_start T (endF Q Z) (startD N__law_start ds) M := do_start
theorem do__law_draw : ∀ ds M Q Z, F__law_draw ds M Q Z → ds.length = 2 → m__law_draw T (endF Q Z) (startD N__law_draw ds) M := do_draw
theorem do__law_pick : ∀ ds M Q Z, F__law_pick ds M Q Z → ds.length = 2 → m__law_pick T (endF Q Z) (startD N__law_pick ds) M := do_pick
theorem do__law_same : ∀ ds M Q Z, F__law_same ds M Q Z → ds.length = 2 → m__law_same T (endF Q Z) (startD N__law_same ds) M := do_same
theorem do__law_raised : ∀ ds M Q Z, F__law_raised ds M Q Z → ds.length = 2 → m__law_raised T (endF Q Z) (startD N__law_raised ds) M := do_raised rfl mono_T0 fun k h => T_T0 h
theorem do_is_within : ∀ ds M Q Z, F_is_within ds M Q Z → ds.length = 3 → m_is_within T (endF Q Z) (startD N_is_within ds) M := by
  intro ds M Q Z h hl
  unfold F_is_within F_within at h
  split at h
  · rename_i d lo hi
    obtain ⟨h1, h2⟩ := h
    simp only [sAug, wChain, iadd_int, isub_int, sSeq, sNext, sRet, sRetN, sIf, sSet, sPar, sExpr, sRaise, sAsg, sBrk, sCnt, gPut, Tg.put, Tgs.put, gSubG, gTupG, gsCons, gsNil, oPut, wVar, wLit, w1, w2, wN, wNil, wCons, wTru, wAsT, wNotT, wAndT, wOrT, wAnd, wOr, wNot, wIfE, wCallF, fill, wLc, wipeE, wItems, wSl, wPart, wNoPart, wRange1, wRange2, sFor, startD, endF, En.turn, tr_non, tr_bl, tr_int, tr_str, tr_tup, tr_lst, tr_ref, add_int, add_str, add_tup, add_lst, sub_int, mul_int, div_int, mod_int, pow_int, neg_int, eq_int, eq_str, eq_tup, eq_lst, eq_non, eq_bl, ne_int, ne_str, ne_tup, ne_lst, ne_non, ne_bl, lt_int, le_int, gt_int, ge_int, oIs, oIsNot, D.isNon, oTup, oLst, oLstM, len_tup, len_lst, len_scr, len_ref, lenD, abs_int, int_int, int_bl, max_ii, min_ii, max_l, min_l, sum_l, all_l, any_l, tup_t, tup_l, lst_t, lst_l, ix_tup, ix_lst, ix_ref, sl_tup, sl_lst, sl_scr, it_lst, it_tup, it_scr, ints_nil, ints_cons, bols_nil, bols_cons, is_t, oListM, mupd_same, mupd_twice, sFrz, ix60, ix61, ix62, ix63, ix64, ix65, at0, at1, at2, at3, at4, at5, atm1, List.map_cons, List.map_nil, List.cons_append, List.nil_append, List.append_nil, List.getElem?_cons_zero, List.getElem?_cons_succ, List.getElem?_nil, List.length_cons, List.length_nil, List.set_cons_zero, List.set_cons_succ, List.replicate, List.zip_cons_cons, List.zip_nil_right, List.foldl_cons, List.foldl_nil, Option.map_some, Option.bind_some, Nat.reduceAdd, Nat.reduceSub, Nat.zero_add, Nat.sub_self, Nat.add_one_sub_one, Nat.reduceEqDiff, Nat.reduceLT, Nat.reduceLeDiff, Int.reduceLT, Int.reduceLE, Int.reduceNeg, Int.reduceToNat, Int.toNat_zero, Int.toNat_one, Int.reduceEq, reduceIte, if_true, if_false, ite_true, ite_false, true_and, and_true, Bool.not_true, Bool.not_false, Bool.true_eq_false, Bool.false_eq_true, eq_self, List.isEmpty_cons, List.isEmpty_nil, Nat.reduceMul, decide_true, decide_false, i_is_integer, t_is_integer, i_is_within, t_is_within, i_floors, t_floors, i_divisors_sum, t_divisors_sum, i__law_start, t__law_start, i__law_draw, t__law_draw, i__law_pick, t__law_pick, i__law_same, t__law_same, i__law_raised, t__law_raised, i__law_floor_sum, t__law_floor_sum, m_is_within, N_is_within]
    refine ⟨h1, ?_⟩
    cases d with
    | int i =>
      simp only [isInt, sAug, wChain, iadd_int, isub_int, sSeq, sNext, sRet, sRetN, sIf, sSet, sPar, sExpr, sRaise, sAsg, sBrk, sCnt, gPut, Tg.put, Tgs.put, gSubG, gTupG, gsCons, gsNil, oPut, wVar, wLit, w1, w2, wN, wNil, wCons, wTru, wAsT, wNotT, wAndT, wOrT, wAnd, wOr, wNot, wIfE, wCallF, fill, wLc, wipeE, wItems, wSl, wPart, wNoPart, wRange1, wRange2, sFor, startD, endF, En.turn, tr_non, tr_bl, tr_int, tr_str, tr_tup, tr_lst, tr_ref, add_int, add_str, add_tup, add_lst, sub_int, mul_int, div_int, mod_int, pow_int, neg_int, eq_int, eq_str, eq_tup, eq_lst, eq_non, eq_bl, ne_int, ne_str, ne_tup, ne_lst, ne_non, ne_bl, lt_int, le_int, gt_int, ge_int, oIs, oIsNot, D.isNon, oTup, oLst, oLstM, len_tup, len_lst, len_scr, len_ref, lenD, abs_int, int_int, int_bl, max_ii, min_ii, max_l, min_l, sum_l, all_l, any_l, tup_t, tup_l, lst_t, lst_l, ix_tup, ix_lst, ix_ref, sl_tup, sl_lst, sl_scr, it_lst, it_tup, it_scr, ints_nil, ints_cons, bols_nil, bols_cons, is_t, oListM, mupd_same, mupd_twice, sFrz, ix60, ix61, ix62, ix63, ix64, ix65, at0, at1, at2, at3, at4, at5, atm1, List.map_cons, List.map_nil, List.cons_append, List.nil_append, List.append_nil, List.getElem?_cons_zero, List.getElem?_cons_succ, List.getElem?_nil, List.length_cons, List.length_nil, List.set_cons_zero, List.set_cons_succ, List.replicate, List.zip_cons_cons, List.zip_nil_right, List.foldl_cons, List.foldl_nil, Option.map_some, Option.bind_some, Nat.reduceAdd, Nat.reduceSub, Nat.zero_add, Nat.sub_self, Nat.add_one_sub_one, Nat.reduceEqDiff, Nat.reduceLT, Nat.reduceLeDiff, Int.reduceLT, Int.reduceLE, Int.reduceNeg, Int.reduceToNat, Int.toNat_zero, Int.toNat_one, Int.reduceEq, reduceIte, if_true, if_false, ite_true, ite_false, true_and, and_true, Bool.not_true, Bool.not_false, Bool.true_eq_false, Bool.false_eq_true, eq_self, List.isEmpty_cons, List.isEmpty_nil, Nat.reduceMul, decide_true, decide_false]
      by_cases h3 : lo ≤ i
      · have e : decide (lo ≤ i) = true := decide_eq_true h3
        simp only [isIn, e, sAug, wChain, iadd_int, isub_int, sSeq, sNext, sRet, sRetN, sIf, sSet, sPar, sExpr, sRaise, sAsg, sBrk, sCnt, gPut, Tg.put, Tgs.put, gSubG, gTupG, gsCons, gsNil, oPut, wVar, wLit, w1, w2, wN, wNil, wCons, wTru, wAsT, wNotT, wAndT, wOrT, wAnd, wOr, wNot, wIfE, wCallF, fill, wLc, wipeE, wItems, wSl, wPart, wNoPart, wRange1, wRange2, sFor, startD, endF, En.turn, tr_non, tr_bl, tr_int, tr_str, tr_tup, tr_lst, tr_ref, add_int, add_str, add_tup, add_lst, sub_int, mul_int, div_int, mod_int, pow_int, neg_int, eq_int, eq_str, eq_tup, eq_lst, eq_non, eq_bl, ne_int, ne_str, ne_tup, ne_lst, ne_non, ne_bl, lt_int, le_int, gt_int, ge_int, oIs, oIsNot, D.isNon, oTup, oLst, oLstM, len_tup, len_lst, len_scr, len_ref, lenD, abs_int, int_int, int_bl, max_ii, min_ii, max_l, min_l, sum_l, all_l, any_l, tup_t, tup_l, lst_t, lst_l, ix_tup, ix_lst, ix_ref, sl_tup, sl_lst, sl_scr, it_lst, it_tup, it_scr, ints_nil, ints_cons, bols_nil, bols_cons, is_t, oListM, mupd_same, mupd_twice, sFrz, ix60, ix61, ix62, ix63, ix64, ix65, at0, at1, at2, at3, at4, at5, atm1, List.map_cons, List.map_nil, List.cons_append, List.nil_append, List.append_nil, List.getElem?_cons_zero, List.getElem?_cons_succ, List.getElem?_nil, List.length_cons, List.length_nil, List.set_cons_zero, List.set_cons_succ, List.replicate, List.zip_cons_cons, List.zip_nil_right, List.foldl_cons, List.foldl_nil, Option.map_some, Option.bind_some, Nat.reduceAdd, Nat.reduceSub, Nat.zero_add, Nat.sub_self, Nat.add_one_sub_one, Nat.reduceEqDiff, Nat.reduceLT, Nat.reduceLeDiff, Int.reduceLT, Int.reduceLE, Int.reduceNeg, Int.reduceToNat, Int.toNat_zero, Int.toNat_one, Int.reduceEq, reduceIte, if_true, if_false, ite_true, ite_false, true_and, and_true, Bool.not_true, Bool.not_false, Bool.true_eq_false, Bool.false_eq_true, eq_self, List.isEmpty_cons, List.isEmpty_nil, Nat.reduceMul, decide_true, decide_false, Bool.true_and] at h2 ⊢
        exact h2
      · have e : decide (lo ≤ i) = false := decide_eq_false h3
        simp only [isIn, e, sAug, wChain, iadd_int, isub_int, sSeq, sNext, sRet, sRetN, sIf, sSet, sPar, sExpr, sRaise, sAsg, sBrk, sCnt, gPut, Tg.put, Tgs.put, gSubG, gTupG, gsCons, gsNil, oPut, wVar, wLit, w1, w2, wN, wNil, wCons, wTru, wAsT, wNotT, wAndT, wOrT, wAnd, wOr, wNot, wIfE, wCallF, fill, wLc, wipeE, wItems, wSl, wPart, wNoPart, wRange1, wRange2, sFor, startD, endF, En.turn, tr_non, tr_bl, tr_int, tr_str, tr_tup, tr_lst, tr_ref, add_int, add_str, add_tup, add_lst, sub_int, mul_int, div_int, mod_int, pow_int, neg_int, eq_int, eq_str, eq_tup, eq_lst, eq_non, eq_bl, ne_int, ne_str, ne_tup, ne_lst, ne_non, ne_bl, lt_int, le_int, gt_int, ge_int, oIs, oIsNot, D.isNon, oTup, oLst, oLstM, len_tup, len_lst, len_scr, len_ref, lenD, abs_int, int_int, int_bl, max_ii, min_ii, max_l, min_l, sum_l, all_l, any_l, tup_t, tup_l, lst_t, lst_l, ix_tup, ix_lst, ix_ref, sl_tup, sl_lst, sl_scr, it_lst, it_tup, it_scr, ints_nil, ints_cons, bols_nil, bols_cons, is_t, oListM, mupd_same, mupd_twice, sFrz, ix60, ix61, ix62, ix63, ix64, ix65, at0, at1, at2, at3, at4, at5, atm1, List.map_cons, List.map_nil, List.cons_append, List.nil_append, List.append_nil, List.getElem?_cons_zero, List.getElem?_cons_succ, List.getElem?_nil, List.length_cons, List.length_nil, List.set_cons_zero, List.set_cons_succ, List.replicate, List.zip_cons_cons, List.zip_nil_right, List.foldl_cons, List.foldl_nil, Option.map_some, Option.bind_some, Nat.reduceAdd, Nat.reduceSub, Nat.zero_add, Nat.sub_self, Nat.add_one_sub_one, Nat.reduceEqDiff, Nat.reduceLT, Nat.reduceLeDiff, Int.reduceLT, Int.reduceLE, Int.reduceNeg, Int.reduceToNat, Int.toNat_zero, Int.toNat_one, Int.reduceEq, reduceIte, if_true, if_false, ite_true, ite_false, true_and, and_true, Bool.not_true, Bool.not_false, Bool.true_eq_false, Bool.false_eq_true, eq_self, List.isEmpty_cons, List.isEmpty_nil, Nat.reduceMul, decide_true, decide_false, Bool.false_and] at h2 ⊢
        exact h2
    | _ => exact h2
  · exact h.elim
theorem bd_lt {k : Nat} {a b : Int} (h : Bd k b) (h0 : 0 ≤ a) (h1 : a ≤ b) : Bd k a := h.of_le (by omega)
/-- the loop's numbers behind a turn -/
theorem turn_ok {n p q r : Int} (hn : 0 ≤ n) (hq : 0 < q) (hB : B4 n p q r) (h : q ≤ p % q * n + r % q) :
    0 ≤ (p % q * n + r % q) / q ∧ 0 < p % q ∧ p % q < q ∧ B4 ((p % q * n + r % q) / q) q (p % q) ((p % q * n + r % q) % q) := by
  have p0 := Int.emod_nonneg p (Int.ne_of_gt hq)
  have p1 := Int.emod_lt_of_pos p hq
  have r0 := Int.emod_nonneg r (Int.ne_of_gt hq)
  have r1 := Int.emod_lt_of_pos r hq
  have hp := (FS_turn hq n.toNat p r (by rw [Int.toNat_of_nonneg hn]; exact h)).1
  have l0 : 0 ≤ (p % q * n + r % q) / q := Int.ediv_nonneg (by omega) (Int.le_of_lt hq)
  have l1 : (p % q * n + r % q) / q ≤ n := by
    refine Int.le_of_lt_add_one (Int.ediv_lt_of_lt_mul hq ?_)
    have e : p % q * n ≤ (q - 1) * n := Int.mul_le_mul_of_nonneg_right (by omega) hn
    rw [Int.add_mul, Int.mul_comm n q]
    rw [Int.sub_mul] at e
    omega
  have s1 := Int.emod_lt_of_pos (p % q * n + r % q) hq
  have s0 := Int.emod_nonneg (p % q * n + r % q) (Int.ne_of_gt hq)
  exact ⟨l0, hp, p1, bd_lt hB.1 l0 l1, hB.2.2.1, bd_lt hB.2.2.1 p0 (Int.le_of_lt p1), bd_lt hB.2.2.1 s0 (Int.le_of_lt s1)⟩
theorem sizes {n p q r : Int} (hB : B4 n p q r) (hq : 0 < q) : cMul n (n - 1) ∧ cMul (n * (n - 1) / 2) (p / q) ∧ cMul n (r / q) ∧ cMul (p % q) n ∧ (∀ z, cDiv z q) ∧ (∀ z, cDiv z 2) ∧ cMul (p / q) q ∧ cMul (r / q) q ∧ ∀ z : Int, cMul ((p % q * n + z % q) / q) q := by
  have bn1 : Bd 1001 (n - 1) := (hB.1.sub (l := 1) (by unfold Bd; decide)).mono (by decide)
  have p1 := Int.emod_lt_of_pos p hq
  have p0 := Int.emod_nonneg p (Int.ne_of_gt hq)
  have bp : Bd 1000 (p % q) := bd_lt hB.2.2.1 p0 (Int.le_of_lt p1)
  refine ⟨cMul_of hB.1 bn1 (by decide), cMul_of ((hB.1.mul bn1).ediv) hB.2.1.ediv (by decide), cMul_of hB.1 hB.2.2.2.ediv (by decide), cMul_of bp hB.1 (by decide), fun z => cDiv_of hB.2.2.1 (Int.ne_of_gt hq) (by decide),
    fun z => cDiv_of (k := 2) (by unfold Bd; decide) (by decide) (by decide), cMul_of hB.2.1.ediv hB.2.2.1 (by decide), cMul_of hB.2.2.2.ediv hB.2.2.1 (by decide), fun z => ?_⟩
  have bz : Bd 1000 (z % q) := bd_lt hB.2.2.1 (Int.emod_nonneg z (Int.ne_of_gt hq)) (Int.le_of_lt (Int.emod_lt_of_pos z hq))
  exact cMul_of (((bp.mul hB.1).add bz).ediv) hB.2.2.1 (by decide)
theorem do_floors : ∀ ds M Q Z, F_floors ds M Q Z → ds.length = 4 → m_floors T (endF Q Z) (startD N_floors ds) M := by
  intro ds M Q Z h hl
  unfold F_floors at h
  split at h
  · rename_i n p q r
    obtain ⟨hn, hq, hB, hQ⟩ := h
    generalize htot : FS n.toNat p q r = tot at hQ
    refine seq_go fun K hK => ?_
    simp only [sAug, wChain, iadd_int, isub_int, sSeq, sNext, sRet, sRetN, sIf, sSet, sPar, sExpr, sRaise, sAsg, sBrk, sCnt, gPut, Tg.put, Tgs.put, gSubG, gTupG, gsCons, gsNil, oPut, wVar, wLit, w1, w2, wN, wNil, wCons, wTru, wAsT, wNotT, wAndT, wOrT, wAnd, wOr, wNot, wIfE, wCallF, fill, wLc, wipeE, wItems, wSl, wPart, wNoPart, wRange1, wRange2, sFor, startD, endF, En.turn, tr_non, tr_bl, tr_int, tr_str, tr_tup, tr_lst, tr_ref, add_int, add_str, add_tup, add_lst, sub_int, mul_int, div_int, mod_int, pow_int, neg_int, eq_int, eq_str, eq_tup, eq_lst, eq_non, eq_bl, ne_int, ne_str, ne_tup, ne_lst, ne_non, ne_bl, lt_int, le_int, gt_int, ge_int, oIs, oIsNot, D.isNon, oTup, oLst, oLstM, len_tup, len_lst, len_scr, len_ref, lenD, abs_int, int_int, int_bl, max_ii, min_ii, max_l, min_l, sum_l, all_l, any_l, tup_t, tup_l, lst_t, lst_l, ix_tup, ix_lst, ix_ref, sl_tup, sl_lst, sl_scr, it_lst, it_tup, it_scr, ints_nil, ints_cons, bols_nil, bols_cons, is_t, oListM, mupd_same, mupd_twice, sFrz, ix60, ix61, ix62, ix63, ix64, ix65, at0, at1, at2, at3, at4, at5, atm1, List.map_cons, List.map_nil, List.cons_append, List.nil_append, List.append_nil, List.getElem?_cons_zero, List.getElem?_cons_succ, List.getElem?_nil, List.length_cons, List.length_nil, List.set_cons_zero, List.set_cons_succ, List.replicate, List.zip_cons_cons, List.zip_nil_right, List.foldl_cons, List.foldl_nil, Option.map_some, Option.bind_some, Nat.reduceAdd, Nat.reduceSub, Nat.zero_add, Nat.sub_self, Nat.add_one_sub_one, Nat.reduceEqDiff, Nat.reduceLT, Nat.reduceLeDiff, Int.reduceLT, Int.reduceLE, Int.reduceNeg, Int.reduceToNat, Int.toNat_zero, Int.toNat_one, Int.reduceEq, reduceIte, if_true, if_false, ite_true, ite_false, true_and, and_true, Bool.not_true, Bool.not_false, Bool.true_eq_false, Bool.false_eq_true, eq_self, List.isEmpty_cons, List.isEmpty_nil, Nat.reduceMul, decide_true, decide_false, N_floors]
    subst hK
    refine seq_go fun K hK => ?_
    refine ⟨fun m ρ M' => ∃ (n p q r f : Int) (l : Option D), q.toNat = m ∧ 0 ≤ n ∧ 0 < q ∧ B4 n p q r ∧ f + FS n.toNat p q r = tot ∧ ρ = [some (.int n), some (.int p), some (.int q), some (.int r), some (.int f), l] ∧ M' = M,
      ⟨_, n, p, q, r, 0, none, rfl, hn, hq, hB, by omega, rfl, rfl⟩, ?_⟩
    rintro m ρ M' ⟨n, p, q, r, f, l, rfl, hn, hq, hB, hf, rfl, rfl⟩
    have fd : ∀ z : Int, z.fdiv q = z / q := fun z => Int.fdiv_eq_ediv_of_nonneg _ (Int.le_of_lt hq)
    have fm : ∀ z : Int, z.fmod q = z % q := fun z => Int.fmod_eq_emod_of_nonneg _ (Int.le_of_lt hq)
    have f2 : ∀ z : Int, z.fdiv 2 = z / 2 := fun z => Int.fdiv_eq_ediv_of_nonneg _ (by decide)
    obtain ⟨s1, s2, s3, s4, s5, s6, s7, s8, s9⟩ := sizes hB hq
    have q0 : q ≠ 0 := Int.ne_of_gt hq
    have en : ((n.toNat : Nat) : Int) = n := Int.toNat_of_nonneg hn
    by_cases h0 : 0 < n
    · have e : decide (0 < n) = true := decide_eq_true h0
      simp only [sAug, wChain, iadd_int, isub_int, sSeq, sNext, sRet, sRetN, sIf, sSet, sPar, sExpr, sRaise, sAsg, sBrk, sCnt, gPut, Tg.put, Tgs.put, gSubG, gTupG, gsCons, gsNil, oPut, wVar, wLit, w1, w2, wN, wNil, wCons, wTru, wAsT, wNotT, wAndT, wOrT, wAnd, wOr, wNot, wIfE, wCallF, fill, wLc, wipeE, wItems, wSl, wPart, wNoPart, wRange1, wRange2, sFor, startD, endF, En.turn, tr_non, tr_bl, tr_int, tr_str, tr_tup, tr_lst, tr_ref, add_int, add_str, add_tup, add_lst, sub_int, mul_int, div_int, mod_int, pow_int, neg_int, eq_int, eq_str, eq_tup, eq_lst, eq_non, eq_bl, ne_int, ne_str, ne_tup, ne_lst, ne_non, ne_bl, lt_int, le_int, gt_int, ge_int, oIs, oIsNot, D.isNon, oTup, oLst, oLstM, len_tup, len_lst, len_scr, len_ref, lenD, abs_int, int_int, int_bl, max_ii, min_ii, max_l, min_l, sum_l, all_l, any_l, tup_t, tup_l, lst_t, lst_l, ix_tup, ix_lst, ix_ref, sl_tup, sl_lst, sl_scr, it_lst, it_tup, it_scr, ints_nil, ints_cons, bols_nil, bols_cons, is_t, oListM, mupd_same, mupd_twice, sFrz, ix60, ix61, ix62, ix63, ix64, ix65, at0, at1, at2, at3, at4, at5, atm1, List.map_cons, List.map_nil, List.cons_append, List.nil_append, List.append_nil, List.getElem?_cons_zero, List.getElem?_cons_succ, List.getElem?_nil, List.length_cons, List.length_nil, List.set_cons_zero, List.set_cons_succ, List.replicate, List.zip_cons_cons, List.zip_nil_right, List.foldl_cons, List.foldl_nil, Option.map_some, Option.bind_some, Nat.reduceAdd, Nat.reduceSub, Nat.zero_add, Nat.sub_self, Nat.add_one_sub_one, Nat.reduceEqDiff, Nat.reduceLT, Nat.reduceLeDiff, Int.reduceLT, Int.reduceLE, Int.reduceNeg, Int.reduceToNat, Int.toNat_zero, Int.toNat_one, Int.reduceEq, reduceIte, if_true, if_false, ite_true, ite_false, true_and, and_true, Bool.not_true, Bool.not_false, Bool.true_eq_false, Bool.false_eq_true, eq_self, List.isEmpty_cons, List.isEmpty_nil, Nat.reduceMul, decide_true, decide_false, e, fd, fm, f2]
      refine ⟨s1, s6 _, s5 _, s2, s5 _, s3, q0, q0, s4, ?_⟩
      by_cases hl : p % q * n + r % q < q
      · have e : decide (p % q * n + r % q < q) = true := decide_eq_true hl
        simp only [sAug, wChain, iadd_int, isub_int, sSeq, sNext, sRet, sRetN, sIf, sSet, sPar, sExpr, sRaise, sAsg, sBrk, sCnt, gPut, Tg.put, Tgs.put, gSubG, gTupG, gsCons, gsNil, oPut, wVar, wLit, w1, w2, wN, wNil, wCons, wTru, wAsT, wNotT, wAndT, wOrT, wAnd, wOr, wNot, wIfE, wCallF, fill, wLc, wipeE, wItems, wSl, wPart, wNoPart, wRange1, wRange2, sFor, startD, endF, En.turn, tr_non, tr_bl, tr_int, tr_str, tr_tup, tr_lst, tr_ref, add_int, add_str, add_tup, add_lst, sub_int, mul_int, div_int, mod_int, pow_int, neg_int, eq_int, eq_str, eq_tup, eq_lst, eq_non, eq_bl, ne_int, ne_str, ne_tup, ne_lst, ne_non, ne_bl, lt_int, le_int, gt_int, ge_int, oIs, oIsNot, D.isNon, oTup, oLst, oLstM, len_tup, len_lst, len_scr, len_ref, lenD, abs_int, int_int, int_bl, max_ii, min_ii, max_l, min_l, sum_l, all_l, any_l, tup_t, tup_l, lst_t, lst_l, ix_tup, ix_lst, ix_ref, sl_tup, sl_lst, sl_scr, it_lst, it_tup, it_scr, ints_nil, ints_cons, bols_nil, bols_cons, is_t, oListM, mupd_same, mupd_twice, sFrz, ix60, ix61, ix62, ix63, ix64, ix65, at0, at1, at2, at3, at4, at5, atm1, List.map_cons, List.map_nil, List.cons_append, List.nil_append, List.append_nil, List.getElem?_cons_zero, List.getElem?_cons_succ, List.getElem?_nil, List.length_cons, List.length_nil, List.set_cons_zero, List.set_cons_succ, List.replicate, List.zip_cons_cons, List.zip_nil_right, List.foldl_cons, List.foldl_nil, Option.map_some, Option.bind_some, Nat.reduceAdd, Nat.reduceSub, Nat.zero_add, Nat.sub_self, Nat.add_one_sub_one, Nat.reduceEqDiff, Nat.reduceLT, Nat.reduceLeDiff, Int.reduceLT, Int.reduceLE, Int.reduceNeg, Int.reduceToNat, Int.toNat_zero, Int.toNat_one, Int.reduceEq, reduceIte, if_true, if_false, ite_true, ite_false, true_and, and_true, Bool.not_true, Bool.not_false, Bool.true_eq_false, Bool.false_eq_true, eq_self, List.isEmpty_cons, List.isEmpty_nil, Nat.reduceMul, decide_true, decide_false, e]
        have st := FS_stop hq n.toNat p r (by rw [en]; exact hl)
        rw [en] at st
        have : f + (n * (n - 1) / 2 * (p / q) + n * (r / q)) = tot := by
          rw [← hf, st]
          rfl
        rw [this]
        exact hQ
      · have e : decide (p % q * n + r % q < q) = false := decide_eq_false hl
        simp only [sAug, wChain, iadd_int, isub_int, sSeq, sNext, sRet, sRetN, sIf, sSet, sPar, sExpr, sRaise, sAsg, sBrk, sCnt, gPut, Tg.put, Tgs.put, gSubG, gTupG, gsCons, gsNil, oPut, wVar, wLit, w1, w2, wN, wNil, wCons, wTru, wAsT, wNotT, wAndT, wOrT, wAnd, wOr, wNot, wIfE, wCallF, fill, wLc, wipeE, wItems, wSl, wPart, wNoPart, wRange1, wRange2, sFor, startD, endF, En.turn, tr_non, tr_bl, tr_int, tr_str, tr_tup, tr_lst, tr_ref, add_int, add_str, add_tup, add_lst, sub_int, mul_int, div_int, mod_int, pow_int, neg_int, eq_int, eq_str, eq_tup, eq_lst, eq_non, eq_bl, ne_int, ne_str, ne_tup, ne_lst, ne_non, ne_bl, lt_int, le_int, gt_int, ge_int, oIs, oIsNot, D.isNon, oTup, oLst, oLstM, len_tup, len_lst, len_scr, len_ref, lenD, abs_int, int_int, int_bl, max_ii, min_ii, max_l, min_l, sum_l, all_l, any_l, tup_t, tup_l, lst_t, lst_l, ix_tup, ix_lst, ix_ref, sl_tup, sl_lst, sl_scr, it_lst, it_tup, it_scr, ints_nil, ints_cons, bols_nil, bols_cons, is_t, oListM, mupd_same, mupd_twice, sFrz, ix60, ix61, ix62, ix63, ix64, ix65, at0, at1, at2, at3, at4, at5, atm1, List.map_cons, List.map_nil, List.cons_append, List.nil_append, List.append_nil, List.getElem?_cons_zero, List.getElem?_cons_succ, List.getElem?_nil, List.length_cons, List.length_nil, List.set_cons_zero, List.set_cons_succ, List.replicate, List.zip_cons_cons, List.zip_nil_right, List.foldl_cons, List.foldl_nil, Option.map_some, Option.bind_some, Nat.reduceAdd, Nat.reduceSub, Nat.zero_add, Nat.sub_self, Nat.add_one_sub_one, Nat.reduceEqDiff, Nat.reduceLT, Nat.reduceLeDiff, Int.reduceLT, Int.reduceLE, Int.reduceNeg, Int.reduceToNat, Int.toNat_zero, Int.toNat_one, Int.reduceEq, reduceIte, if_true, if_false, ite_true, ite_false, true_and, and_true, Bool.not_true, Bool.not_false, Bool.true_eq_false, Bool.false_eq_true, eq_self, List.isEmpty_cons, List.isEmpty_nil, Nat.reduceMul, decide_true, decide_false, e]
        have ht := turn_ok hn hq hB (by omega)
        have st := FS_turn hq n.toNat p r (by rw [en]; omega)
        rw [en] at st
        refine ⟨s5 _, q0, (p % q).toNat, by omega, _, _, _, _, _, _, rfl, ht.1, ht.2.1, ht.2.2.2, ?_, rfl⟩
        rw [← hf, st.2]
        show f + (tri n * (p / q) + n * (r / q)) + _ = _
        omega
    · have e : decide (0 < n) = false := decide_eq_false h0
      simp only [sAug, wChain, iadd_int, isub_int, sSeq, sNext, sRet, sRetN, sIf, sSet, sPar, sExpr, sRaise, sAsg, sBrk, sCnt, gPut, Tg.put, Tgs.put, gSubG, gTupG, gsCons, gsNil, oPut, wVar, wLit, w1, w2, wN, wNil, wCons, wTru, wAsT, wNotT, wAndT, wOrT, wAnd, wOr, wNot, wIfE, wCallF, fill, wLc, wipeE, wItems, wSl, wPart, wNoPart, wRange1, wRange2, sFor, startD, endF, En.turn, tr_non, tr_bl, tr_int, tr_str, tr_tup, tr_lst, tr_ref, add_int, add_str, add_tup, add_lst, sub_int, mul_int, div_int, mod_int, pow_int, neg_int, eq_int, eq_str, eq_tup, eq_lst, eq_non, eq_bl, ne_int, ne_str, ne_tup, ne_lst, ne_non, ne_bl, lt_int, le_int, gt_int, ge_int, oIs, oIsNot, D.isNon, oTup, oLst, oLstM, len_tup, len_lst, len_scr, len_ref, lenD, abs_int, int_int, int_bl, max_ii, min_ii, max_l, min_l, sum_l, all_l, any_l, tup_t, tup_l, lst_t, lst_l, ix_tup, ix_lst, ix_ref, sl_tup, sl_lst, sl_scr, it_lst, it_tup, it_scr, ints_nil, ints_cons, bols_nil, bols_cons, is_t, oListM, mupd_same, mupd_twice, sFrz, ix60, ix61, ix62, ix63, ix64, ix65, at0, at1, at2, at3, at4, at5, atm1, List.map_cons, List.map_nil, List.cons_append, List.nil_append, List.append_nil, List.getElem?_cons_zero, List.getElem?_cons_succ, List.getElem?_nil, List.length_cons, List.length_nil, List.set_cons_zero, List.set_cons_succ, List.replicate, List.zip_cons_cons, List.zip_nil_right, List.foldl_cons, List.foldl_nil, Option.map_some, Option.bind_some, Nat.reduceAdd, Nat.reduceSub, Nat.zero_add, Nat.sub_self, Nat.add_one_sub_one, Nat.reduceEqDiff, Nat.reduceLT, Nat.reduceLeDiff, Int.reduceLT, Int.reduceLE, Int.reduceNeg, Int.reduceToNat, Int.toNat_zero, Int.toNat_one, Int.reduceEq, reduceIte, if_true, if_false, ite_true, ite_false, true_and, and_true, Bool.not_true, Bool.not_false, Bool.true_eq_false, Bool.false_eq_true, eq_self, List.isEmpty_cons, List.isEmpty_nil, Nat.reduceMul, decide_true, decide_false, e]
      subst hK
      simp only [sAug, wChain, iadd_int, isub_int, sSeq, sNext, sRet, sRetN, sIf, sSet, sPar, sExpr, sRaise, sAsg, sBrk, sCnt, gPut, Tg.put, Tgs.put, gSubG, gTupG, gsCons, gsNil, oPut, wVar, wLit, w1, w2, wN, wNil, wCons, wTru, wAsT, wNotT, wAndT, wOrT, wAnd, wOr, wNot, wIfE, wCallF, fill, wLc, wipeE, wItems, wSl, wPart, wNoPart, wRange1, wRange2, sFor, startD, endF, En.turn, tr_non, tr_bl, tr_int, tr_str, tr_tup, tr_lst, tr_ref, add_int, add_str, add_tup, add_lst, sub_int, mul_int, div_int, mod_int, pow_int, neg_int, eq_int, eq_str, eq_tup, eq_lst, eq_non, eq_bl, ne_int, ne_str, ne_tup, ne_lst, ne_non, ne_bl, lt_int, le_int, gt_int, ge_int, oIs, oIsNot, D.isNon, oTup, oLst, oLstM, len_tup, len_lst, len_scr, len_ref, lenD, abs_int, int_int, int_bl, max_ii, min_ii, max_l, min_l, sum_l, all_l, any_l, tup_t, tup_l, lst_t, lst_l, ix_tup, ix_lst, ix_ref, sl_tup, sl_lst, sl_scr, it_lst, it_tup, it_scr, ints_nil, ints_cons, bols_nil, bols_cons, is_t, oListM, mupd_same, mupd_twice, sFrz, ix60, ix61, ix62, ix63, ix64, ix65, at0, at1, at2, at3, at4, at5, atm1, List.map_cons, List.map_nil, List.cons_append, List.nil_append, List.append_nil, List.getElem?_cons_zero, List.getElem?_cons_succ, List.getElem?_nil, List.length_cons, List.length_nil, List.set_cons_zero, List.set_cons_succ, List.replicate, List.zip_cons_cons, List.zip_nil_right, List.foldl_cons, List.foldl_nil, Option.map_some, Option.bind_some, Nat.reduceAdd, Nat.reduceSub, Nat.zero_add, Nat.sub_self, Nat.add_one_sub_one, Nat.reduceEqDiff, Nat.reduceLT, Nat.reduceLeDiff, Int.reduceLT, Int.reduceLE, Int.reduceNeg, Int.reduceToNat, Int.toNat_zero, Int.toNat_one, Int.reduceEq, reduceIte, if_true, if_false, ite_true, ite_false, true_and, and_true, Bool.not_true, Bool.not_false, Bool.true_eq_false, Bool.false_eq_true, eq_self, List.isEmpty_cons, List.isEmpty_nil, Nat.reduceMul, decide_true, decide_false]
      have z : n.toNat = 0 := by omega
      rw [z] at hf
      have : f = tot := by simpa [FS] using hf
      rw [this]
      exact hQ
  · exact h.elim

theorem do_divisors_sum : ∀ ds M Q Z, F_divisors_sum ds M Q Z → ds.length = 4 → m_divisors_sum T (endF Q Z) (startD N_divisors_sum ds) M := by
  intro ds M Q Z h hl
  unfold F_divisors_sum at h
  split at h
  · rename_i x1 x2 x3 x4
    obtain ⟨o1, o2, o3, o4, h⟩ := h
    have c30 : (10 : Int) ^ 30 = 1000000000000000000000000000000 := by decide
    have no : ∀ (x : D), okT x = true → (∀ i, x ≠ .int i) → isInt x = false := fun x ho hx => by cases x <;> first | rfl | exact (hx _ rfl).elim
    simp only [sAug, wChain, iadd_int, isub_int, sSeq, sNext, sRet, sRetN, sIf, sSet, sPar, sExpr, sRaise, sAsg, sBrk, sCnt, gPut, Tg.put, Tgs.put, gSubG, gTupG, gsCons, gsNil, oPut, wVar, wLit, w1, w2, wN, wNil, wCons, wTru, wAsT, wNotT, wAndT, wOrT, wAnd, wOr, wNot, wIfE, wCallF, fill, wLc, wipeE, wItems, wSl, wPart, wNoPart, wRange1, wRange2, sFor, startD, endF, En.turn, tr_non, tr_bl, tr_int, tr_str, tr_tup, tr_lst, tr_ref, add_int, add_str, add_tup, add_lst, sub_int, mul_int, div_int, mod_int, pow_int, neg_int, eq_int, eq_str, eq_tup, eq_lst, eq_non, eq_bl, ne_int, ne_str, ne_tup, ne_lst, ne_non, ne_bl, lt_int, le_int, gt_int, ge_int, oIs, oIsNot, D.isNon, oTup, oLst, oLstM, len_tup, len_lst, len_scr, len_ref, lenD, abs_int, int_int, int_bl, max_ii, min_ii, max_l, min_l, sum_l, all_l, any_l, tup_t, tup_l, lst_t, lst_l, ix_tup, ix_lst, ix_ref, sl_tup, sl_lst, sl_scr, it_lst, it_tup, it_scr, ints_nil, ints_cons, bols_nil, bols_cons, is_t, oListM, mupd_same, mupd_twice, sFrz, ix60, ix61, ix62, ix63, ix64, ix65, at0, at1, at2, at3, at4, at5, atm1, List.map_cons, List.map_nil, List.cons_append, List.nil_append, List.append_nil, List.getElem?_cons_zero, List.getElem?_cons_succ, List.getElem?_nil, List.length_cons, List.length_nil, List.set_cons_zero, List.set_cons_succ, List.replicate, List.zip_cons_cons, List.zip_nil_right, List.foldl_cons, List.foldl_nil, Option.map_some, Option.bind_some, Nat.reduceAdd, Nat.reduceSub, Nat.zero_add, Nat.sub_self, Nat.add_one_sub_one, Nat.reduceEqDiff, Nat.reduceLT, Nat.reduceLeDiff, Int.reduceLT, Int.reduceLE, Int.reduceNeg, Int.reduceToNat, Int.toNat_zero, Int.toNat_one, Int.reduceEq, reduceIte, if_true, if_false, ite_true, ite_false, true_and, and_true, Bool.not_true, Bool.not_false, Bool.true_eq_false, Bool.false_eq_true, eq_self, List.isEmpty_cons, List.isEmpty_nil, Nat.reduceMul, decide_true, decide_false, i_is_integer, t_is_integer, i_is_within, t_is_within, i_floors, t_floors, i_divisors_sum, t_divisors_sum, i__law_start, t__law_start, i__law_draw, t__law_draw, i__law_pick, t__law_pick, i__law_same, t__law_same, i__law_raised, t__law_raised, i__law_floor_sum, t__law_floor_sum, m_divisors_sum, N_divisors_sum]
    refine ⟨o1, ?_⟩
    unfold dsum at h
    split at h
    · rename_i n
      by_cases hn : 0 ≤ n ∧ n ≤ 10 ^ 30
      · rw [if_pos hn] at h
        have e : isIn (.int n) 0 1000000000000000000000000000000 = true := by
          rw [c30] at hn
          simp [isIn, hn.1, hn.2]
        simp only [e, sAug, wChain, iadd_int, isub_int, sSeq, sNext, sRet, sRetN, sIf, sSet, sPar, sExpr, sRaise, sAsg, sBrk, sCnt, gPut, Tg.put, Tgs.put, gSubG, gTupG, gsCons, gsNil, oPut, wVar, wLit, w1, w2, wN, wNil, wCons, wTru, wAsT, wNotT, wAndT, wOrT, wAnd, wOr, wNot, wIfE, wCallF, fill, wLc, wipeE, wItems, wSl, wPart, wNoPart, wRange1, wRange2, sFor, startD, endF, En.turn, tr_non, tr_bl, tr_int, tr_str, tr_tup, tr_lst, tr_ref, add_int, add_str, add_tup, add_lst, sub_int, mul_int, div_int, mod_int, pow_int, neg_int, eq_int, eq_str, eq_tup, eq_lst, eq_non, eq_bl, ne_int, ne_str, ne_tup, ne_lst, ne_non, ne_bl, lt_int, le_int, gt_int, ge_int, oIs, oIsNot, D.isNon, oTup, oLst, oLstM, len_tup, len_lst, len_scr, len_ref, lenD, abs_int, int_int, int_bl, max_ii, min_ii, max_l, min_l, sum_l, all_l, any_l, tup_t, tup_l, lst_t, lst_l, ix_tup, ix_lst, ix_ref, sl_tup, sl_lst, sl_scr, it_lst, it_tup, it_scr, ints_nil, ints_cons, bols_nil, bols_cons, is_t, oListM, mupd_same, mupd_twice, sFrz, ix60, ix61, ix62, ix63, ix64, ix65, at0, at1, at2, at3, at4, at5, atm1, List.map_cons, List.map_nil, List.cons_append, List.nil_append, List.append_nil, List.getElem?_cons_zero, List.getElem?_cons_succ, List.getElem?_nil, List.length_cons, List.length_nil, List.set_cons_zero, List.set_cons_succ, List.replicate, List.zip_cons_cons, List.zip_nil_right, List.foldl_cons, List.foldl_nil, Option.map_some, Option.bind_some, Nat.reduceAdd, Nat.reduceSub, Nat.zero_add, Nat.sub_self, Nat.add_one_sub_one, Nat.reduceEqDiff, Nat.reduceLT, Nat.reduceLeDiff, Int.reduceLT, Int.reduceLE, Int.reduceNeg, Int.reduceToNat, Int.toNat_zero, Int.toNat_one, Int.reduceEq, reduceIte, if_true, if_false, ite_true, ite_false, true_and, and_true, Bool.not_true, Bool.not_false, Bool.true_eq_false, Bool.false_eq_true, eq_self, List.isEmpty_cons, List.isEmpty_nil, Nat.reduceMul, decide_true, decide_false]
        refine ⟨o2, ?_⟩
        split at h
        · rename_i p
          simp only [isInt, sAug, wChain, iadd_int, isub_int, sSeq, sNext, sRet, sRetN, sIf, sSet, sPar, sExpr, sRaise, sAsg, sBrk, sCnt, gPut, Tg.put, Tgs.put, gSubG, gTupG, gsCons, gsNil, oPut, wVar, wLit, w1, w2, wN, wNil, wCons, wTru, wAsT, wNotT, wAndT, wOrT, wAnd, wOr, wNot, wIfE, wCallF, fill, wLc, wipeE, wItems, wSl, wPart, wNoPart, wRange1, wRange2, sFor, startD, endF, En.turn, tr_non, tr_bl, tr_int, tr_str, tr_tup, tr_lst, tr_ref, add_int, add_str, add_tup, add_lst, sub_int, mul_int, div_int, mod_int, pow_int, neg_int, eq_int, eq_str, eq_tup, eq_lst, eq_non, eq_bl, ne_int, ne_str, ne_tup, ne_lst, ne_non, ne_bl, lt_int, le_int, gt_int, ge_int, oIs, oIsNot, D.isNon, oTup, oLst, oLstM, len_tup, len_lst, len_scr, len_ref, lenD, abs_int, int_int, int_bl, max_ii, min_ii, max_l, min_l, sum_l, all_l, any_l, tup_t, tup_l, lst_t, lst_l, ix_tup, ix_lst, ix_ref, sl_tup, sl_lst, sl_scr, it_lst, it_tup, it_scr, ints_nil, ints_cons, bols_nil, bols_cons, is_t, oListM, mupd_same, mupd_twice, sFrz, ix60, ix61, ix62, ix63, ix64, ix65, at0, at1, at2, at3, at4, at5, atm1, List.map_cons, List.map_nil, List.cons_append, List.nil_append, List.append_nil, List.getElem?_cons_zero, List.getElem?_cons_succ, List.getElem?_nil, List.length_cons, List.length_nil, List.set_cons_zero, List.set_cons_succ, List.replicate, List.zip_cons_cons, List.zip_nil_right, List.foldl_cons, List.foldl_nil, Option.map_some, Option.bind_some, Nat.reduceAdd, Nat.reduceSub, Nat.zero_add, Nat.sub_self, Nat.add_one_sub_one, Nat.reduceEqDiff, Nat.reduceLT, Nat.reduceLeDiff, Int.reduceLT, Int.reduceLE, Int.reduceNeg, Int.reduceToNat, Int.toNat_zero, Int.toNat_one, Int.reduceEq, reduceIte, if_true, if_false, ite_true, ite_false, true_and, and_true, Bool.not_true, Bool.not_false, Bool.true_eq_false, Bool.false_eq_true, eq_self, List.isEmpty_cons, List.isEmpty_nil, Nat.reduceMul, decide_true, decide_false]
          refine ⟨o3, ?_⟩
          split at h
          · rename_i q
            simp only [isInt, sAug, wChain, iadd_int, isub_int, sSeq, sNext, sRet, sRetN, sIf, sSet, sPar, sExpr, sRaise, sAsg, sBrk, sCnt, gPut, Tg.put, Tgs.put, gSubG, gTupG, gsCons, gsNil, oPut, wVar, wLit, w1, w2, wN, wNil, wCons, wTru, wAsT, wNotT, wAndT, wOrT, wAnd, wOr, wNot, wIfE, wCallF, fill, wLc, wipeE, wItems, wSl, wPart, wNoPart, wRange1, wRange2, sFor, startD, endF, En.turn, tr_non, tr_bl, tr_int, tr_str, tr_tup, tr_lst, tr_ref, add_int, add_str, add_tup, add_lst, sub_int, mul_int, div_int, mod_int, pow_int, neg_int, eq_int, eq_str, eq_tup, eq_lst, eq_non, eq_bl, ne_int, ne_str, ne_tup, ne_lst, ne_non, ne_bl, lt_int, le_int, gt_int, ge_int, oIs, oIsNot, D.isNon, oTup, oLst, oLstM, len_tup, len_lst, len_scr, len_ref, lenD, abs_int, int_int, int_bl, max_ii, min_ii, max_l, min_l, sum_l, all_l, any_l, tup_t, tup_l, lst_t, lst_l, ix_tup, ix_lst, ix_ref, sl_tup, sl_lst, sl_scr, it_lst, it_tup, it_scr, ints_nil, ints_cons, bols_nil, bols_cons, is_t, oListM, mupd_same, mupd_twice, sFrz, ix60, ix61, ix62, ix63, ix64, ix65, at0, at1, at2, at3, at4, at5, atm1, List.map_cons, List.map_nil, List.cons_append, List.nil_append, List.append_nil, List.getElem?_cons_zero, List.getElem?_cons_succ, List.getElem?_nil, List.length_cons, List.length_nil, List.set_cons_zero, List.set_cons_succ, List.replicate, List.zip_cons_cons, List.zip_nil_right, List.foldl_cons, List.foldl_nil, Option.map_some, Option.bind_some, Nat.reduceAdd, Nat.reduceSub, Nat.zero_add, Nat.sub_self, Nat.add_one_sub_one, Nat.reduceEqDiff, Nat.reduceLT, Nat.reduceLeDiff, Int.reduceLT, Int.reduceLE, Int.reduceNeg, Int.reduceToNat, Int.toNat_zero, Int.toNat_one, Int.reduceEq, reduceIte, if_true, if_false, ite_true, ite_false, true_and, and_true, Bool.not_true, Bool.not_false, Bool.true_eq_false, Bool.false_eq_true, eq_self, List.isEmpty_cons, List.isEmpty_nil, Nat.reduceMul, decide_true, decide_false]
            by_cases hq : 0 < q
            · rw [if_pos hq] at h
              have e : decide (q ≤ 0) = false := decide_eq_false (by omega)
              simp only [e, sAug, wChain, iadd_int, isub_int, sSeq, sNext, sRet, sRetN, sIf, sSet, sPar, sExpr, sRaise, sAsg, sBrk, sCnt, gPut, Tg.put, Tgs.put, gSubG, gTupG, gsCons, gsNil, oPut, wVar, wLit, w1, w2, wN, wNil, wCons, wTru, wAsT, wNotT, wAndT, wOrT, wAnd, wOr, wNot, wIfE, wCallF, fill, wLc, wipeE, wItems, wSl, wPart, wNoPart, wRange1, wRange2, sFor, startD, endF, En.turn, tr_non, tr_bl, tr_int, tr_str, tr_tup, tr_lst, tr_ref, add_int, add_str, add_tup, add_lst, sub_int, mul_int, div_int, mod_int, pow_int, neg_int, eq_int, eq_str, eq_tup, eq_lst, eq_non, eq_bl, ne_int, ne_str, ne_tup, ne_lst, ne_non, ne_bl, lt_int, le_int, gt_int, ge_int, oIs, oIsNot, D.isNon, oTup, oLst, oLstM, len_tup, len_lst, len_scr, len_ref, lenD, abs_int, int_int, int_bl, max_ii, min_ii, max_l, min_l, sum_l, all_l, any_l, tup_t, tup_l, lst_t, lst_l, ix_tup, ix_lst, ix_ref, sl_tup, sl_lst, sl_scr, it_lst, it_tup, it_scr, ints_nil, ints_cons, bols_nil, bols_cons, is_t, oListM, mupd_same, mupd_twice, sFrz, ix60, ix61, ix62, ix63, ix64, ix65, at0, at1, at2, at3, at4, at5, atm1, List.map_cons, List.map_nil, List.cons_append, List.nil_append, List.append_nil, List.getElem?_cons_zero, List.getElem?_cons_succ, List.getElem?_nil, List.length_cons, List.length_nil, List.set_cons_zero, List.set_cons_succ, List.replicate, List.zip_cons_cons, List.zip_nil_right, List.foldl_cons, List.foldl_nil, Option.map_some, Option.bind_some, Nat.reduceAdd, Nat.reduceSub, Nat.zero_add, Nat.sub_self, Nat.add_one_sub_one, Nat.reduceEqDiff, Nat.reduceLT, Nat.reduceLeDiff, Int.reduceLT, Int.reduceLE, Int.reduceNeg, Int.reduceToNat, Int.toNat_zero, Int.toNat_one, Int.reduceEq, reduceIte, if_true, if_false, ite_true, ite_false, true_and, and_true, Bool.not_true, Bool.not_false, Bool.true_eq_false, Bool.false_eq_true, eq_self, List.isEmpty_cons, List.isEmpty_nil, Nat.reduceMul, decide_true, decide_false]
              refine ⟨o4, ?_⟩
              split at h
              · rename_i r
                simp only [isInt, sAug, wChain, iadd_int, isub_int, sSeq, sNext, sRet, sRetN, sIf, sSet, sPar, sExpr, sRaise, sAsg, sBrk, sCnt, gPut, Tg.put, Tgs.put, gSubG, gTupG, gsCons, gsNil, oPut, wVar, wLit, w1, w2, wN, wNil, wCons, wTru, wAsT, wNotT, wAndT, wOrT, wAnd, wOr, wNot, wIfE, wCallF, fill, wLc, wipeE, wItems, wSl, wPart, wNoPart, wRange1, wRange2, sFor, startD, endF, En.turn, tr_non, tr_bl, tr_int, tr_str, tr_tup, tr_lst, tr_ref, add_int, add_str, add_tup, add_lst, sub_int, mul_int, div_int, mod_int, pow_int, neg_int, eq_int, eq_str, eq_tup, eq_lst, eq_non, eq_bl, ne_int, ne_str, ne_tup, ne_lst, ne_non, ne_bl, lt_int, le_int, gt_int, ge_int, oIs, oIsNot, D.isNon, oTup, oLst, oLstM, len_tup, len_lst, len_scr, len_ref, lenD, abs_int, int_int, int_bl, max_ii, min_ii, max_l, min_l, sum_l, all_l, any_l, tup_t, tup_l, lst_t, lst_l, ix_tup, ix_lst, ix_ref, sl_tup, sl_lst, sl_scr, it_lst, it_tup, it_scr, ints_nil, ints_cons, bols_nil, bols_cons, is_t, oListM, mupd_same, mupd_twice, sFrz, ix60, ix61, ix62, ix63, ix64, ix65, at0, at1, at2, at3, at4, at5, atm1, List.map_cons, List.map_nil, List.cons_append, List.nil_append, List.append_nil, List.getElem?_cons_zero, List.getElem?_cons_succ, List.getElem?_nil, List.length_cons, List.length_nil, List.set_cons_zero, List.set_cons_succ, List.replicate, List.zip_cons_cons, List.zip_nil_right, List.foldl_cons, List.foldl_nil, Option.map_some, Option.bind_some, Nat.reduceAdd, Nat.reduceSub, Nat.zero_add, Nat.sub_self, Nat.add_one_sub_one, Nat.reduceEqDiff, Nat.reduceLT, Nat.reduceLeDiff, Int.reduceLT, Int.reduceLE, Int.reduceNeg, Int.reduceToNat, Int.toNat_zero, Int.toNat_one, Int.reduceEq, reduceIte, if_true, if_false, ite_true, ite_false, true_and, and_true, Bool.not_true, Bool.not_false, Bool.true_eq_false, Bool.false_eq_true, eq_self, List.isEmpty_cons, List.isEmpty_nil, Nat.reduceMul, decide_true, decide_false]
                exact ⟨hn.1, hq, h.1, h.2⟩
              · rename_i hx
                rw [no _ o4 hx]
                exact h
            · rw [if_neg hq] at h
              have e : decide (q ≤ 0) = true := decide_eq_true (by omega)
              simp only [e, sAug, wChain, iadd_int, isub_int, sSeq, sNext, sRet, sRetN, sIf, sSet, sPar, sExpr, sRaise, sAsg, sBrk, sCnt, gPut, Tg.put, Tgs.put, gSubG, gTupG, gsCons, gsNil, oPut, wVar, wLit, w1, w2, wN, wNil, wCons, wTru, wAsT, wNotT, wAndT, wOrT, wAnd, wOr, wNot, wIfE, wCallF, fill, wLc, wipeE, wItems, wSl, wPart, wNoPart, wRange1, wRange2, sFor, startD, endF, En.turn, tr_non, tr_bl, tr_int, tr_str, tr_tup, tr_lst, tr_ref, add_int, add_str, add_tup, add_lst, sub_int, mul_int, div_int, mod_int, pow_int, neg_int, eq_int, eq_str, eq_tup, eq_lst, eq_non, eq_bl, ne_int, ne_str, ne_tup, ne_lst, ne_non, ne_bl, lt_int, le_int, gt_int, ge_int, oIs, oIsNot, D.isNon, oTup, oLst, oLstM, len_tup, len_lst, len_scr, len_ref, lenD, abs_int, int_int, int_bl, max_ii, min_ii, max_l, min_l, sum_l, all_l, any_l, tup_t, tup_l, lst_t, lst_l, ix_tup, ix_lst, ix_ref, sl_tup, sl_lst, sl_scr, it_lst, it_tup, it_scr, ints_nil, ints_cons, bols_nil, bols_cons, is_t, oListM, mupd_same, mupd_twice, sFrz, ix60, ix61, ix62, ix63, ix64, ix65, at0, at1, at2, at3, at4, at5, atm1, List.map_cons, List.map_nil, List.cons_append, List.nil_append, List.append_nil, List.getElem?_cons_zero, List.getElem?_cons_succ, List.getElem?_nil, List.length_cons, List.length_nil, List.set_cons_zero, List.set_cons_succ, List.replicate, List.zip_cons_cons, List.zip_nil_right, List.foldl_cons, List.foldl_nil, Option.map_some, Option.bind_some, Nat.reduceAdd, Nat.reduceSub, Nat.zero_add, Nat.sub_self, Nat.add_one_sub_one, Nat.reduceEqDiff, Nat.reduceLT, Nat.reduceLeDiff, Int.reduceLT, Int.reduceLE, Int.reduceNeg, Int.reduceToNat, Int.toNat_zero, Int.toNat_one, Int.reduceEq, reduceIte, if_true, if_false, ite_true, ite_false, true_and, and_true, Bool.not_true, Bool.not_false, Bool.true_eq_false, Bool.false_eq_true, eq_self, List.isEmpty_cons, List.isEmpty_nil, Nat.reduceMul, decide_true, decide_false]
              exact h
          · rename_i hx
            rw [no _ o3 hx]
            exact h
        · rename_i hx
          rw [no _ o2 hx]
          exact h
      · rw [if_neg hn] at h
        have e : isIn (.int n) 0 1000000000000000000000000000000 = false := by
          rw [c30] at hn
          unfold isIn
          rw [Bool.and_eq_false_iff, decide_eq_false_iff_not, decide_eq_false_iff_not]
          omega
        rw [e]
        exact h
    · rename_i hx
      have e : isIn x1 0 1000000000000000000000000000000 = false := by cases x1 <;> first | rfl | exact (hx _ rfl).elim
      rw [e]
      exact h
  · exact h.elim
/-- how many turns the other loop may need -/
def Few (m : Nat) (p q : Int) : Prop := ∃ k : Nat, (2 * k + 2 ≤ m ∧ q < 2 ^ k) ∨ (2 * k + 1 ≤ m ∧ p < 2 ^ k ∧ q < p)
theorem few_turn {m : Nat} {p q : Int} (hq : 0 < q) (hp : 0 < p % q) (h : Few (m + 1) p q) : Few m q (p % q) := by
  have p1 := Int.emod_lt_of_pos p hq
  obtain ⟨k, ⟨h1, h2⟩ | ⟨h1, h2, h3⟩⟩ := h
  · exact ⟨k, .inr ⟨by omega, h2, p1⟩⟩
  · have hk : 0 < k := by
      by_cases z : k = 0
      · subst z
        have : (2 : Int) ^ 0 = 1 := rfl
        omega
      · omega
    obtain ⟨j, rfl⟩ : ∃ j, k = j + 1 := ⟨k - 1, by omega⟩
    refine ⟨j, .inl ⟨by omega, ?_⟩⟩
    have e : (2 : Int) ^ (j + 1) = 2 ^ j * 2 := Int.pow_succ 2 j
    have d := Int.mul_ediv_add_emod p q
    have d1 : 1 ≤ p / q := by
      have := Int.ediv_nonneg (show 0 ≤ p by omega) (Int.le_of_lt hq)
      by_cases z : p / q = 0
      · rw [z] at d; simp at d; omega
      · omega
    have d2 : q * 1 ≤ q * (p / q) := Int.mul_le_mul_of_nonneg_left d1 (Int.le_of_lt hq)
    omega
theorem few_some {m : Nat} {p q : Int} (hq : 0 < q) (h : Few m p q) : m ≠ 0 := by
  obtain ⟨k, ⟨h1, h2⟩ | ⟨h1, h2, h3⟩⟩ := h <;> omega
theorem do__law_floor_sum : ∀ ds M Q Z, F__law_floor_sum ds M Q Z → ds.length = 4 → m__law_floor_sum T (endF Q Z) (startD N__law_floor_sum ds) M := by
  intro ds M Q Z h hl
  unfold F__law_floor_sum F_floors at h
  split at h
  · rename_i n p q r
    obtain ⟨hn, hq, hB, hQ⟩ := h
    generalize htot : FS n.toNat p q r = tot at hQ
    refine seq_go fun K hK => ?_
    simp only [sAug, wChain, iadd_int, isub_int, sSeq, sNext, sRet, sRetN, sIf, sSet, sPar, sExpr, sRaise, sAsg, sBrk, sCnt, gPut, Tg.put, Tgs.put, gSubG, gTupG, gsCons, gsNil, oPut, wVar, wLit, w1, w2, wN, wNil, wCons, wTru, wAsT, wNotT, wAndT, wOrT, wAnd, wOr, wNot, wIfE, wCallF, fill, wLc, wipeE, wItems, wSl, wPart, wNoPart, wRange1, wRange2, sFor, startD, endF, En.turn, tr_non, tr_bl, tr_int, tr_str, tr_tup, tr_lst, tr_ref, add_int, add_str, add_tup, add_lst, sub_int, mul_int, div_int, mod_int, pow_int, neg_int, eq_int, eq_str, eq_tup, eq_lst, eq_non, eq_bl, ne_int, ne_str, ne_tup, ne_lst, ne_non, ne_bl, lt_int, le_int, gt_int, ge_int, oIs, oIsNot, D.isNon, oTup, oLst, oLstM, len_tup, len_lst, len_scr, len_ref, lenD, abs_int, int_int, int_bl, max_ii, min_ii, max_l, min_l, sum_l, all_l, any_l, tup_t, tup_l, lst_t, lst_l, ix_tup, ix_lst, ix_ref, sl_tup, sl_lst, sl_scr, it_lst, it_tup, it_scr, ints_nil, ints_cons, bols_nil, bols_cons, is_t, oListM, mupd_same, mupd_twice, sFrz, ix60, ix61, ix62, ix63, ix64, ix65, at0, at1, at2, at3, at4, at5, atm1, List.map_cons, List.map_nil, List.cons_append, List.nil_append, List.append_nil, List.getElem?_cons_zero, List.getElem?_cons_succ, List.getElem?_nil, List.length_cons, List.length_nil, List.set_cons_zero, List.set_cons_succ, List.replicate, List.zip_cons_cons, List.zip_nil_right, List.foldl_cons, List.foldl_nil, Option.map_some, Option.bind_some, Nat.reduceAdd, Nat.reduceSub, Nat.zero_add, Nat.sub_self, Nat.add_one_sub_one, Nat.reduceEqDiff, Nat.reduceLT, Nat.reduceLeDiff, Int.reduceLT, Int.reduceLE, Int.reduceNeg, Int.reduceToNat, Int.toNat_zero, Int.toNat_one, Int.reduceEq, reduceIte, if_true, if_false, ite_true, ite_false, true_and, and_true, Bool.not_true, Bool.not_false, Bool.true_eq_false, Bool.false_eq_true, eq_self, List.isEmpty_cons, List.isEmpty_nil, Nat.reduceMul, decide_true, decide_false, N__law_floor_sum]
    subst hK
    refine seq_go fun K hK => ?_
    refine (show _ ∧ sForR (gPut (.nm 5)) _ _ (rangeD 0 4000) _ _ _ from ⟨by decide, ?_⟩)
    have few0 : Few 4000 p q := ⟨1000, .inl ⟨by decide, by
      have b := hB.2.2.1
      unfold Bd at b
      have e : ((2 ^ 1000 : Nat) : Int) = 2 ^ 1000 := by simp
      omega⟩⟩
    refine for_inv (fun ds ρ M' => ∃ (n p q r f : Int) (x l : Option D), Few ds.length p q ∧ 0 ≤ n ∧ 0 < q ∧ B4 n p q r ∧ f + FS n.toNat p q r = tot ∧ ρ = [some (.int n), some (.int p), some (.int q), some (.int r), some (.int f), x, l] ∧ M' = M)
      (fun _ _ _ _ => trivial) ?_ ?_ _ _ _ ⟨n, p, q, r, 0, none, none, few0, hn, hq, hB, by omega, rfl, rfl⟩
    · rintro ρ M' ⟨n, p, q, r, f, x, l, hF, hn, hq, hB, hf, rfl, rfl⟩
      exact (few_some hq hF rfl).elim
    · rintro d ds ρ M' ⟨n, p, q, r, f, x, l, hF, hn, hq, hB, hf, rfl, rfl⟩ N hN
      have fd : ∀ z : Int, z.fdiv q = z / q := fun z => Int.fdiv_eq_ediv_of_nonneg _ (Int.le_of_lt hq)
      have f2 : ∀ z : Int, z.fdiv 2 = z / 2 := fun z => Int.fdiv_eq_ediv_of_nonneg _ (by decide)
      have md : ∀ z : Int, z - z / q * q = z % q := fun z => by
        have := Int.mul_ediv_add_emod z q
        rw [Int.mul_comm] at this
        omega
      obtain ⟨s1, s2, s3, s4, s5, s6, s7, s8, s9⟩ := sizes hB hq
      have en : ((n.toNat : Nat) : Int) = n := Int.toNat_of_nonneg hn
      refine gput_go ?_
      by_cases h0 : n ≤ 0
      · have e : decide (n ≤ 0) = true := decide_eq_true h0
        simp only [sAug, wChain, iadd_int, isub_int, sSeq, sNext, sRet, sRetN, sIf, sSet, sPar, sExpr, sRaise, sAsg, sBrk, sCnt, gPut, Tg.put, Tgs.put, gSubG, gTupG, gsCons, gsNil, oPut, wVar, wLit, w1, w2, wN, wNil, wCons, wTru, wAsT, wNotT, wAndT, wOrT, wAnd, wOr, wNot, wIfE, wCallF, fill, wLc, wipeE, wItems, wSl, wPart, wNoPart, wRange1, wRange2, sFor, startD, endF, En.turn, tr_non, tr_bl, tr_int, tr_str, tr_tup, tr_lst, tr_ref, add_int, add_str, add_tup, add_lst, sub_int, mul_int, div_int, mod_int, pow_int, neg_int, eq_int, eq_str, eq_tup, eq_lst, eq_non, eq_bl, ne_int, ne_str, ne_tup, ne_lst, ne_non, ne_bl, lt_int, le_int, gt_int, ge_int, oIs, oIsNot, D.isNon, oTup, oLst, oLstM, len_tup, len_lst, len_scr, len_ref, lenD, abs_int, int_int, int_bl, max_ii, min_ii, max_l, min_l, sum_l, all_l, any_l, tup_t, tup_l, lst_t, lst_l, ix_tup, ix_lst, ix_ref, sl_tup, sl_lst, sl_scr, it_lst, it_tup, it_scr, ints_nil, ints_cons, bols_nil, bols_cons, is_t, oListM, mupd_same, mupd_twice, sFrz, ix60, ix61, ix62, ix63, ix64, ix65, at0, at1, at2, at3, at4, at5, atm1, List.map_cons, List.map_nil, List.cons_append, List.nil_append, List.append_nil, List.getElem?_cons_zero, List.getElem?_cons_succ, List.getElem?_nil, List.length_cons, List.length_nil, List.set_cons_zero, List.set_cons_succ, List.replicate, List.zip_cons_cons, List.zip_nil_right, List.foldl_cons, List.foldl_nil, Option.map_some, Option.bind_some, Nat.reduceAdd, Nat.reduceSub, Nat.zero_add, Nat.sub_self, Nat.add_one_sub_one, Nat.reduceEqDiff, Nat.reduceLT, Nat.reduceLeDiff, Int.reduceLT, Int.reduceLE, Int.reduceNeg, Int.reduceToNat, Int.toNat_zero, Int.toNat_one, Int.reduceEq, reduceIte, if_true, if_false, ite_true, ite_false, true_and, and_true, Bool.not_true, Bool.not_false, Bool.true_eq_false, Bool.false_eq_true, eq_self, List.isEmpty_cons, List.isEmpty_nil, Nat.reduceMul, decide_true, decide_false, e]
        have z : n.toNat = 0 := by omega
        rw [z] at hf
        have : f = tot := by simpa [FS] using hf
        rw [this]
        exact hQ
      · have e : decide (n ≤ 0) = false := decide_eq_false h0
        simp only [sAug, wChain, iadd_int, isub_int, sSeq, sNext, sRet, sRetN, sIf, sSet, sPar, sExpr, sRaise, sAsg, sBrk, sCnt, gPut, Tg.put, Tgs.put, gSubG, gTupG, gsCons, gsNil, oPut, wVar, wLit, w1, w2, wN, wNil, wCons, wTru, wAsT, wNotT, wAndT, wOrT, wAnd, wOr, wNot, wIfE, wCallF, fill, wLc, wipeE, wItems, wSl, wPart, wNoPart, wRange1, wRange2, sFor, startD, endF, En.turn, tr_non, tr_bl, tr_int, tr_str, tr_tup, tr_lst, tr_ref, add_int, add_str, add_tup, add_lst, sub_int, mul_int, div_int, mod_int, pow_int, neg_int, eq_int, eq_str, eq_tup, eq_lst, eq_non, eq_bl, ne_int, ne_str, ne_tup, ne_lst, ne_non, ne_bl, lt_int, le_int, gt_int, ge_int, oIs, oIsNot, D.isNon, oTup, oLst, oLstM, len_tup, len_lst, len_scr, len_ref, lenD, abs_int, int_int, int_bl, max_ii, min_ii, max_l, min_l, sum_l, all_l, any_l, tup_t, tup_l, lst_t, lst_l, ix_tup, ix_lst, ix_ref, sl_tup, sl_lst, sl_scr, it_lst, it_tup, it_scr, ints_nil, ints_cons, bols_nil, bols_cons, is_t, oListM, mupd_same, mupd_twice, sFrz, ix60, ix61, ix62, ix63, ix64, ix65, at0, at1, at2, at3, at4, at5, atm1, List.map_cons, List.map_nil, List.cons_append, List.nil_append, List.append_nil, List.getElem?_cons_zero, List.getElem?_cons_succ, List.getElem?_nil, List.length_cons, List.length_nil, List.set_cons_zero, List.set_cons_succ, List.replicate, List.zip_cons_cons, List.zip_nil_right, List.foldl_cons, List.foldl_nil, Option.map_some, Option.bind_some, Nat.reduceAdd, Nat.reduceSub, Nat.zero_add, Nat.sub_self, Nat.add_one_sub_one, Nat.reduceEqDiff, Nat.reduceLT, Nat.reduceLeDiff, Int.reduceLT, Int.reduceLE, Int.reduceNeg, Int.reduceToNat, Int.toNat_zero, Int.toNat_one, Int.reduceEq, reduceIte, if_true, if_false, ite_true, ite_false, true_and, and_true, Bool.not_true, Bool.not_false, Bool.true_eq_false, Bool.false_eq_true, eq_self, List.isEmpty_cons, List.isEmpty_nil, Nat.reduceMul, decide_true, decide_false, e, fd, f2, md]
        refine ⟨s1, s6 _, s5 _, s2, s5 _, s3, s5 _, s7, s5 _, s8, s4, ?_⟩
        by_cases hl : p % q * n + r % q < q
        · have e : decide (p % q * n + r % q < q) = true := decide_eq_true hl
          simp only [sAug, wChain, iadd_int, isub_int, sSeq, sNext, sRet, sRetN, sIf, sSet, sPar, sExpr, sRaise, sAsg, sBrk, sCnt, gPut, Tg.put, Tgs.put, gSubG, gTupG, gsCons, gsNil, oPut, wVar, wLit, w1, w2, wN, wNil, wCons, wTru, wAsT, wNotT, wAndT, wOrT, wAnd, wOr, wNot, wIfE, wCallF, fill, wLc, wipeE, wItems, wSl, wPart, wNoPart, wRange1, wRange2, sFor, startD, endF, En.turn, tr_non, tr_bl, tr_int, tr_str, tr_tup, tr_lst, tr_ref, add_int, add_str, add_tup, add_lst, sub_int, mul_int, div_int, mod_int, pow_int, neg_int, eq_int, eq_str, eq_tup, eq_lst, eq_non, eq_bl, ne_int, ne_str, ne_tup, ne_lst, ne_non, ne_bl, lt_int, le_int, gt_int, ge_int, oIs, oIsNot, D.isNon, oTup, oLst, oLstM, len_tup, len_lst, len_scr, len_ref, lenD, abs_int, int_int, int_bl, max_ii, min_ii, max_l, min_l, sum_l, all_l, any_l, tup_t, tup_l, lst_t, lst_l, ix_tup, ix_lst, ix_ref, sl_tup, sl_lst, sl_scr, it_lst, it_tup, it_scr, ints_nil, ints_cons, bols_nil, bols_cons, is_t, oListM, mupd_same, mupd_twice, sFrz, ix60, ix61, ix62, ix63, ix64, ix65, at0, at1, at2, at3, at4, at5, atm1, List.map_cons, List.map_nil, List.cons_append, List.nil_append, List.append_nil, List.getElem?_cons_zero, List.getElem?_cons_succ, List.getElem?_nil, List.length_cons, List.length_nil, List.set_cons_zero, List.set_cons_succ, List.replicate, List.zip_cons_cons, List.zip_nil_right, List.foldl_cons, List.foldl_nil, Option.map_some, Option.bind_some, Nat.reduceAdd, Nat.reduceSub, Nat.zero_add, Nat.sub_self, Nat.add_one_sub_one, Nat.reduceEqDiff, Nat.reduceLT, Nat.reduceLeDiff, Int.reduceLT, Int.reduceLE, Int.reduceNeg, Int.reduceToNat, Int.toNat_zero, Int.toNat_one, Int.reduceEq, reduceIte, if_true, if_false, ite_true, ite_false, true_and, and_true, Bool.not_true, Bool.not_false, Bool.true_eq_false, Bool.false_eq_true, eq_self, List.isEmpty_cons, List.isEmpty_nil, Nat.reduceMul, decide_true, decide_false, e]
          have st := FS_stop hq n.toNat p r (by rw [en]; exact hl)
          rw [en] at st
          have : f + n * (n - 1) / 2 * (p / q) + n * (r / q) = tot := by
            rw [← hf, st]
            show _ = f + (tri n * (p / q) + n * (r / q))
            unfold tri
            omega
          rw [this]
          exact hQ
        · have e : decide (p % q * n + r % q < q) = false := decide_eq_false hl
          simp only [sAug, wChain, iadd_int, isub_int, sSeq, sNext, sRet, sRetN, sIf, sSet, sPar, sExpr, sRaise, sAsg, sBrk, sCnt, gPut, Tg.put, Tgs.put, gSubG, gTupG, gsCons, gsNil, oPut, wVar, wLit, w1, w2, wN, wNil, wCons, wTru, wAsT, wNotT, wAndT, wOrT, wAnd, wOr, wNot, wIfE, wCallF, fill, wLc, wipeE, wItems, wSl, wPart, wNoPart, wRange1, wRange2, sFor, startD, endF, En.turn, tr_non, tr_bl, tr_int, tr_str, tr_tup, tr_lst, tr_ref, add_int, add_str, add_tup, add_lst, sub_int, mul_int, div_int, mod_int, pow_int, neg_int, eq_int, eq_str, eq_tup, eq_lst, eq_non, eq_bl, ne_int, ne_str, ne_tup, ne_lst, ne_non, ne_bl, lt_int, le_int, gt_int, ge_int, oIs, oIsNot, D.isNon, oTup, oLst, oLstM, len_tup, len_lst, len_scr, len_ref, lenD, abs_int, int_int, int_bl, max_ii, min_ii, max_l, min_l, sum_l, all_l, any_l, tup_t, tup_l, lst_t, lst_l, ix_tup, ix_lst, ix_ref, sl_tup, sl_lst, sl_scr, it_lst, it_tup, it_scr, ints_nil, ints_cons, bols_nil, bols_cons, is_t, oListM, mupd_same, mupd_twice, sFrz, ix60, ix61, ix62, ix63, ix64, ix65, at0, at1, at2, at3, at4, at5, atm1, List.map_cons, List.map_nil, List.cons_append, List.nil_append, List.append_nil, List.getElem?_cons_zero, List.getElem?_cons_succ, List.getElem?_nil, List.length_cons, List.length_nil, List.set_cons_zero, List.set_cons_succ, List.replicate, List.zip_cons_cons, List.zip_nil_right, List.foldl_cons, List.foldl_nil, Option.map_some, Option.bind_some, Nat.reduceAdd, Nat.reduceSub, Nat.zero_add, Nat.sub_self, Nat.add_one_sub_one, Nat.reduceEqDiff, Nat.reduceLT, Nat.reduceLeDiff, Int.reduceLT, Int.reduceLE, Int.reduceNeg, Int.reduceToNat, Int.toNat_zero, Int.toNat_one, Int.reduceEq, reduceIte, if_true, if_false, ite_true, ite_false, true_and, and_true, Bool.not_true, Bool.not_false, Bool.true_eq_false, Bool.false_eq_true, eq_self, List.isEmpty_cons, List.isEmpty_nil, Nat.reduceMul, decide_true, decide_false, e]
          have ht := turn_ok hn hq hB (by omega)
          have st := FS_turn hq n.toNat p r (by rw [en]; omega)
          rw [en] at st
          refine ⟨s5 _, s5 _, s9 _, hN _ _ ⟨_, _, _, _, _, _, _, few_turn hq ht.2.1 hF, ht.1, ht.2.1, ht.2.2.2, ?_, rfl, rfl⟩⟩
          rw [← hf, st.2]
          show f + n * (n - 1) / 2 * (p / q) + n * (r / q) + _ = f + (tri n * (p / q) + n * (r / q) + _)
          unfold tri
          omega
  · exact h.elim
end K02

set_option Elab.async false
set_option linter.all false
set_option maxRecDepth 100000
set_option maxHeartbeats 1000000
namespace K02
open PySem Rf
theorem dsum_in {n p q r : Int} {M : Mem} {Q : QV} {Z : QX} (h0 : 0 ≤ n) (h1 : n ≤ 10 ^ 30) (hq : 0 < q) (hB : B4 n p q r) (h : Q (.int (FS n.toNat p q r)) M) : F_divisors_sum [.int n, .int p, .int q, .int r] M Q Z :=
  ⟨rfl, rfl, rfl, rfl, by
    unfold dsum
    dsimp only
    rw [if_pos ⟨h0, h1⟩, if_pos hq]
    exact ⟨hB, h⟩⟩
theorem sum_FS (p q r : Int) (hq : 0 < q) : ∀ n : Nat, ((rangeD 0 n).map fun d => match d with | .int x => D.int ((p * x + r).fdiv q) | d => d) = ((List.range n).map fun x : Nat => (p * x + r) / q).map D.int := by
  intro n
  unfold rangeD
  rw [List.map_map, List.map_map]
  have e : (((n : Nat) : Int) - 0).toNat = n := by omega
  rw [e]
  refine List.map_congr_left fun x _ => ?_
  show D.int ((p * (0 + (x : Int)) + r).fdiv q) = D.int ((p * x + r) / q)
  rw [Int.zero_add, Int.fdiv_eq_ediv_of_nonneg _ (Int.le_of_lt hq)]
theorem range_sum (p q r : Int) : ∀ n : Nat, ((List.range n).map fun x : Nat => (p * x + r) / q).sum = FS n p q r
  | 0 => rfl
  | n + 1 => by
    rw [List.range_succ, List.map_append, List.sum_append, range_sum p q r n]
    simp [FS]
theorem ix40 : L2.ixN 4 0 = some 0 := rfl
theorem ix41 : L2.ixN 4 1 = some 1 := rfl
theorem ix42 : L2.ixN 4 2 = some 2 := rfl
theorem ix43 : L2.ixN 4 3 = some 3 := rfl
theorem FS_bd {q : Int} (hq : 0 < q) {p r : Int} (bp : Bd 10 p) (br : Bd 10 r) : ∀ n : Nat, n ≤ 64 → (FS n p q r).natAbs ≤ n * 2 ^ 20
  | 0, _ => by simp [FS]
  | n + 1, h => by
    have ih := FS_bd hq bp br n (by omega)
    have e : (FS (n + 1) p q r).natAbs ≤ (FS n p q r).natAbs + ((p * n + r) / q).natAbs := Int.natAbs_add_le _ _
    have e1 : ((p * (n : Int) + r) / q).natAbs ≤ (p * n + r).natAbs := Int.natAbs_ediv_le_natAbs _ _
    have e2 : (p * (n : Int) + r).natAbs ≤ (p * n).natAbs + r.natAbs := Int.natAbs_add_le _ _
    have e3 : (p * (n : Int)).natAbs = p.natAbs * n := by rw [Int.natAbs_mul]; rfl
    have e4 : p.natAbs * n ≤ 1024 * 64 := Nat.mul_le_mul (by unfold Bd at bp; omega) (by omega)
    unfold Bd at br
    rw [Nat.add_mul]
    omega
theorem do_law : ∀ ds M Q Z, F_law ds M Q Z → ds.length = 1 → m_law T (endF Q Z) (startD N_law ds) M := by
  intro ds M Q Z h hl
  unfold F_law at h
  split at h
  · obtain ⟨ns, rfl, hn, rfl, hq⟩ := h
    unfold m_law
    refine seq_go fun K hK => ?_
    simp only [sAug, wChain, iadd_int, isub_int, sSeq, sNext, sRet, sRetN, sIf, sSet, sPar, sExpr, sRaise, sAsg, sBrk, sCnt, gPut, Tg.put, Tgs.put, gSubG, gTupG, gsCons, gsNil, oPut, wVar, wLit, w1, w2, wN, wNil, wCons, wTru, wAsT, wNotT, wAndT, wOrT, wAnd, wOr, wNot, wIfE, wCallF, fill, wLc, wipeE, wItems, wSl, wPart, wNoPart, wRange1, wRange2, sFor, startD, endF, En.turn, tr_non, tr_bl, tr_int, tr_str, tr_tup, tr_lst, tr_ref, add_int, add_str, add_tup, add_lst, sub_int, mul_int, div_int, mod_int, pow_int, neg_int, eq_int, eq_str, eq_tup, eq_lst, eq_non, eq_bl, ne_int, ne_str, ne_tup, ne_lst, ne_non, ne_bl, lt_int, le_int, gt_int, ge_int, oIs, oIsNot, D.isNon, oTup, oLst, oLstM, len_tup, len_lst, len_scr, len_ref, lenD, abs_int, int_int, int_bl, max_ii, min_ii, max_l, min_l, sum_l, all_l, any_l, tup_t, tup_l, lst_t, lst_l, ix_tup, ix_lst, ix_ref, sl_tup, sl_lst, sl_scr, it_lst, it_tup, it_scr, ints_nil, ints_cons, bols_nil, bols_cons, is_t, oListM, mupd_same, mupd_twice, sFrz, ix60, ix61, ix62, ix63, ix64, ix65, at0, at1, at2, at3, at4, at5, atm1, List.map_cons, List.map_nil, List.cons_append, List.nil_append, List.append_nil, List.getElem?_cons_zero, List.getElem?_cons_succ, List.getElem?_nil, List.length_cons, List.length_nil, List.set_cons_zero, List.set_cons_succ, List.replicate, List.zip_cons_cons, List.zip_nil_right, List.foldl_cons, List.foldl_nil, Option.map_some, Option.bind_some, Nat.reduceAdd, Nat.reduceSub, Nat.zero_add, Nat.sub_self, Nat.add_one_sub_one, Nat.reduceEqDiff, Nat.reduceLT, Nat.reduceLeDiff, Int.reduceLT, Int.reduceLE, Int.reduceNeg, Int.reduceToNat, Int.toNat_zero, Int.toNat_one, Int.reduceEq, reduceIte, if_true, if_false, ite_true, ite_false, true_and, and_true, Bool.not_true, Bool.not_false, Bool.true_eq_false, Bool.false_eq_true, eq_self, List.isEmpty_cons, List.isEmpty_nil, Nat.reduceMul, decide_true, decide_false, N_law, i_is_integer, t_is_integer, i_is_within, t_is_within, i_floors, t_floors, i_divisors_sum, t_divisors_sum, i__law_start, t__law_start, i__law_draw, t__law_draw, i__law_pick, t__law_pick, i__law_same, t__law_same, i__law_raised, t__law_raised, i__law_floor_sum, t__law_floor_sum]
    refine ⟨ns, rfl, hn, fun p o hp hs => ?_⟩
    subst hK
    refine seq_go fun K hK => ?_
    refine (show _ ∧ sForR (gPut (.nm 2)) _ _ (rangeD 0 15) _ _ _ from ⟨by decide, ?_⟩)
    refine for_inv (fun ds ρ M' => ∃ (n : Nat) (x2 x3 x4 x5 x6 x7 x8 x9 xa xb xc : Option D), StOk M' p n ∧ n + 20 * ds.length ≤ 1000 ∧ ρ = [some (.scr (ns.map D.int)), some (.ref p), x2, x3, x4, x5, x6, x7, x8, x9, xa, xb, xc]) (fun _ _ _ _ => trivial) ?_ ?_ _ _ _ ⟨0, _, _, _, _, _, _, _, _, _, _, _, hs, by decide, rfl⟩
    · rintro ρ M' ⟨n, x2, x3, x4, x5, x6, x7, x8, x9, xa, xb, xc, _, _, rfl⟩
      subst hK
      dsimp only
      refine seq_go fun K hK => ?_
      refine (show _ ∧ sForR (gPut (.nm 9)) _ _ (rangeD 0 4) _ _ _ from ⟨by decide, ?_⟩)
      refine for_inv (fun ds ρ M' => (∀ q ∈ ds, q ∈ rangeD 0 4) ∧ ∃ (x2 x3 x4 x5 x6 x7 x8 x9 xa xb xc : Option D), ρ = [some (.scr (ns.map D.int)), some (.ref p), x2, x3, x4, x5, x6, x7, x8, x9, xa, xb, xc]) (fun _ _ _ _ => trivial) ?_ ?_ _ _ _ ⟨fun _ h => h, _, _, _, _, _, _, _, _, _, _, _, rfl⟩
      · rintro ρ M' ⟨_, x2, x3, x4, x5, x6, x7, x8, x9, xa, xb, xc, rfl⟩
        subst hK
        exact hq _
      rintro d ds ρ M' ⟨hds, x2, x3, x4, x5, x6, x7, x8, x9, xa, xb, xc, rfl⟩ N hN
      have hd : d ∈ [D.int 0, D.int 1, D.int 2, D.int 3] := hds d List.mem_cons_self
      simp only [List.mem_cons, List.not_mem_nil, or_false] at hd
      rcases hd with rfl | rfl | rfl | rfl
      · refine gput_go ?_
        refine for_go fun B hB g' hg' => ?_
        simp only [sAug, wChain, iadd_int, isub_int, sSeq, sNext, sRet, sRetN, sIf, sSet, sPar, sExpr, sRaise, sAsg, sBrk, sCnt, gPut, Tg.put, Tgs.put, gSubG, gTupG, gsCons, gsNil, oPut, wVar, wLit, w1, w2, wN, wNil, wCons, wTru, wAsT, wNotT, wAndT, wOrT, wAnd, wOr, wNot, wIfE, wCallF, fill, wLc, wipeE, wItems, wSl, wPart, wNoPart, wRange1, wRange2, sFor, startD, endF, En.turn, tr_non, tr_bl, tr_int, tr_str, tr_tup, tr_lst, tr_ref, add_int, add_str, add_tup, add_lst, sub_int, mul_int, div_int, mod_int, pow_int, neg_int, eq_int, eq_str, eq_tup, eq_lst, eq_non, eq_bl, ne_int, ne_str, ne_tup, ne_lst, ne_non, ne_bl, lt_int, le_int, gt_int, ge_int, oIs, oIsNot, D.isNon, oTup, oLst, oLstM, len_tup, len_lst, len_scr, len_ref, lenD, abs_int, int_int, int_bl, max_ii, min_ii, max_l, min_l, sum_l, all_l, any_l, tup_t, tup_l, lst_t, lst_l, ix_tup, ix_lst, ix_ref, sl_tup, sl_lst, sl_scr, it_lst, it_tup, it_scr, ints_nil, ints_cons, bols_nil, bols_cons, is_t, oListM, mupd_same, mupd_twice, sFrz, ix60, ix61, ix62, ix63, ix64, ix65, at0, at1, at2, at3, at4, at5, atm1, List.map_cons, List.map_nil, List.cons_append, List.nil_append, List.append_nil, List.getElem?_cons_zero, List.getElem?_cons_succ, List.getElem?_nil, List.length_cons, List.length_nil, List.set_cons_zero, List.set_cons_succ, List.replicate, List.zip_cons_cons, List.zip_nil_right, List.foldl_cons, List.foldl_nil, Option.map_some, Option.bind_some, Nat.reduceAdd, Nat.reduceSub, Nat.zero_add, Nat.sub_self, Nat.add_one_sub_one, Nat.reduceEqDiff, Nat.reduceLT, Nat.reduceLeDiff, Int.reduceLT, Int.reduceLE, Int.reduceNeg, Int.reduceToNat, Int.toNat_zero, Int.toNat_one, Int.reduceEq, reduceIte, if_true, if_false, ite_true, ite_false, true_and, and_true, Bool.not_true, Bool.not_false, Bool.true_eq_false, Bool.false_eq_true, eq_self, List.isEmpty_cons, List.isEmpty_nil, Nat.reduceMul, decide_true, decide_false, i_is_integer, t_is_integer, i_is_within, t_is_within, i_floors, t_floors, i_divisors_sum, t_divisors_sum, i__law_start, t__law_start, i__law_draw, t__law_draw, i__law_pick, t__law_pick, i__law_same, t__law_same, i__law_raised, t__law_raised, i__law_floor_sum, t__law_floor_sum]
        refine ⟨⟨by decide, by decide, by decide⟩, ?_⟩
        try simp only [sAug, wChain, iadd_int, isub_int, sSeq, sNext, sRet, sRetN, sIf, sSet, sPar, sExpr, sRaise, sAsg, sBrk, sCnt, gPut, Tg.put, Tgs.put, gSubG, gTupG, gsCons, gsNil, oPut, wVar, wLit, w1, w2, wN, wNil, wCons, wTru, wAsT, wNotT, wAndT, wOrT, wAnd, wOr, wNot, wIfE, wCallF, fill, wLc, wipeE, wItems, wSl, wPart, wNoPart, wRange1, wRange2, sFor, startD, endF, En.turn, tr_non, tr_bl, tr_int, tr_str, tr_tup, tr_lst, tr_ref, add_int, add_str, add_tup, add_lst, sub_int, mul_int, div_int, mod_int, pow_int, neg_int, eq_int, eq_str, eq_tup, eq_lst, eq_non, eq_bl, ne_int, ne_str, ne_tup, ne_lst, ne_non, ne_bl, lt_int, le_int, gt_int, ge_int, oIs, oIsNot, D.isNon, oTup, oLst, oLstM, len_tup, len_lst, len_scr, len_ref, lenD, abs_int, int_int, int_bl, max_ii, min_ii, max_l, min_l, sum_l, all_l, any_l, tup_t, tup_l, lst_t, lst_l, ix_tup, ix_lst, ix_ref, sl_tup, sl_lst, sl_scr, it_lst, it_tup, it_scr, ints_nil, ints_cons, bols_nil, bols_cons, is_t, oListM, mupd_same, mupd_twice, sFrz, ix60, ix61, ix62, ix63, ix64, ix65, at0, at1, at2, at3, at4, at5, atm1, List.map_cons, List.map_nil, List.cons_append, List.nil_append, List.append_nil, List.getElem?_cons_zero, List.getElem?_cons_succ, List.getElem?_nil, List.length_cons, List.length_nil, List.set_cons_zero, List.set_cons_succ, List.replicate, List.zip_cons_cons, List.zip_nil_right, List.foldl_cons, List.foldl_nil, Option.map_some, Option.bind_some, Nat.reduceAdd, Nat.reduceSub, Nat.zero_add, Nat.sub_self, Nat.add_one_sub_one, Nat.reduceEqDiff, Nat.reduceLT, Nat.reduceLeDiff, Int.reduceLT, Int.reduceLE, Int.reduceNeg, Int.reduceToNat, Int.toNat_zero, Int.toNat_one, Int.reduceEq, reduceIte, if_true, if_false, ite_true, ite_false, true_and, and_true, Bool.not_true, Bool.not_false, Bool.true_eq_false, Bool.false_eq_true, eq_self, List.isEmpty_cons, List.isEmpty_nil, Nat.reduceMul, decide_true, decide_false]
        refine for_inv (fun ds ρ M' => (∀ q ∈ ds, ∀ (M : Mem) (Q : QV) (Z : QX), Z 0 (.str "n") M → okT q = true ∧ F_divisors_sum [q, .int 2, .int 5, .int 1] M Q Z) ∧ ∃ (x2 x3 x4 x5 x6 x7 x8 xa xb xc : Option D), ρ = [some (.scr (ns.map D.int)), some (.ref p), x2, x3, x4, x5, x6, x7, x8, some (.int 0), xa, xb, xc]) (fun _ _ _ _ => trivial) ?_ ?_ _ _ _ ⟨?_, _, _, _, _, _, _, _, _, _, _, rfl⟩
        · rintro ρ M5 ⟨_, x2, x3, x4, x5, x6, x7, x8, xa, xb, xc, rfl⟩
          exact hN _ _ ⟨fun z hz => hds z (List.mem_cons_of_mem _ hz), _, _, _, _, _, _, _, _, _, _, _, rfl⟩
        · rintro q qs ρ M5 ⟨hqs, x2, x3, x4, x5, x6, x7, x8, xa, xb, xc, rfl⟩ N' hN'
          subst hg'
          refine gput_go ?_
          subst hB
          simp only [sAug, wChain, iadd_int, isub_int, sSeq, sNext, sRet, sRetN, sIf, sSet, sPar, sExpr, sRaise, sAsg, sBrk, sCnt, gPut, Tg.put, Tgs.put, gSubG, gTupG, gsCons, gsNil, oPut, wVar, wLit, w1, w2, wN, wNil, wCons, wTru, wAsT, wNotT, wAndT, wOrT, wAnd, wOr, wNot, wIfE, wCallF, fill, wLc, wipeE, wItems, wSl, wPart, wNoPart, wRange1, wRange2, sFor, startD, endF, En.turn, tr_non, tr_bl, tr_int, tr_str, tr_tup, tr_lst, tr_ref, add_int, add_str, add_tup, add_lst, sub_int, mul_int, div_int, mod_int, pow_int, neg_int, eq_int, eq_str, eq_tup, eq_lst, eq_non, eq_bl, ne_int, ne_str, ne_tup, ne_lst, ne_non, ne_bl, lt_int, le_int, gt_int, ge_int, oIs, oIsNot, D.isNon, oTup, oLst, oLstM, len_tup, len_lst, len_scr, len_ref, lenD, abs_int, int_int, int_bl, max_ii, min_ii, max_l, min_l, sum_l, all_l, any_l, tup_t, tup_l, lst_t, lst_l, ix_tup, ix_lst, ix_ref, sl_tup, sl_lst, sl_scr, it_lst, it_tup, it_scr, ints_nil, ints_cons, bols_nil, bols_cons, is_t, oListM, mupd_same, mupd_twice, sFrz, ix60, ix61, ix62, ix63, ix64, ix65, at0, at1, at2, at3, at4, at5, atm1, List.map_cons, List.map_nil, List.cons_append, List.nil_append, List.append_nil, List.getElem?_cons_zero, List.getElem?_cons_succ, List.getElem?_nil, List.length_cons, List.length_nil, List.set_cons_zero, List.set_cons_succ, List.replicate, List.zip_cons_cons, List.zip_nil_right, List.foldl_cons, List.foldl_nil, Option.map_some, Option.bind_some, Nat.reduceAdd, Nat.reduceSub, Nat.zero_add, Nat.sub_self, Nat.add_one_sub_one, Nat.reduceEqDiff, Nat.reduceLT, Nat.reduceLeDiff, Int.reduceLT, Int.reduceLE, Int.reduceNeg, Int.reduceToNat, Int.toNat_zero, Int.toNat_one, Int.reduceEq, reduceIte, if_true, if_false, ite_true, ite_false, true_and, and_true, Bool.not_true, Bool.not_false, Bool.true_eq_false, Bool.false_eq_true, eq_self, List.isEmpty_cons, List.isEmpty_nil, Nat.reduceMul, decide_true, decide_false, i_is_integer, t_is_integer, i_is_within, t_is_within, i_floors, t_floors, i_divisors_sum, t_divisors_sum, i__law_start, t__law_start, i__law_draw, t__law_draw, i__law_pick, t__law_pick, i__law_same, t__law_same, i__law_raised, t__law_raised, i__law_floor_sum, t__law_floor_sum]
          intro p5 hp5
          simp only [sAug, wChain, iadd_int, isub_int, sSeq, sNext, sRet, sRetN, sIf, sSet, sPar, sExpr, sRaise, sAsg, sBrk, sCnt, gPut, Tg.put, Tgs.put, gSubG, gTupG, gsCons, gsNil, oPut, wVar, wLit, w1, w2, wN, wNil, wCons, wTru, wAsT, wNotT, wAndT, wOrT, wAnd, wOr, wNot, wIfE, wCallF, fill, wLc, wipeE, wItems, wSl, wPart, wNoPart, wRange1, wRange2, sFor, startD, endF, En.turn, tr_non, tr_bl, tr_int, tr_str, tr_tup, tr_lst, tr_ref, add_int, add_str, add_tup, add_lst, sub_int, mul_int, div_int, mod_int, pow_int, neg_int, eq_int, eq_str, eq_tup, eq_lst, eq_non, eq_bl, ne_int, ne_str, ne_tup, ne_lst, ne_non, ne_bl, lt_int, le_int, gt_int, ge_int, oIs, oIsNot, D.isNon, oTup, oLst, oLstM, len_tup, len_lst, len_scr, len_ref, lenD, abs_int, int_int, int_bl, max_ii, min_ii, max_l, min_l, sum_l, all_l, any_l, tup_t, tup_l, lst_t, lst_l, ix_tup, ix_lst, ix_ref, sl_tup, sl_lst, sl_scr, it_lst, it_tup, it_scr, ints_nil, ints_cons, bols_nil, bols_cons, is_t, oListM, mupd_same, mupd_twice, sFrz, ix60, ix61, ix62, ix63, ix64, ix65, at0, at1, at2, at3, at4, at5, atm1, List.map_cons, List.map_nil, List.cons_append, List.nil_append, List.append_nil, List.getElem?_cons_zero, List.getElem?_cons_succ, List.getElem?_nil, List.length_cons, List.length_nil, List.set_cons_zero, List.set_cons_succ, List.replicate, List.zip_cons_cons, List.zip_nil_right, List.foldl_cons, List.foldl_nil, Option.map_some, Option.bind_some, Nat.reduceAdd, Nat.reduceSub, Nat.zero_add, Nat.sub_self, Nat.add_one_sub_one, Nat.reduceEqDiff, Nat.reduceLT, Nat.reduceLeDiff, Int.reduceLT, Int.reduceLE, Int.reduceNeg, Int.reduceToNat, Int.toNat_zero, Int.toNat_one, Int.reduceEq, reduceIte, if_true, if_false, ite_true, ite_false, true_and, and_true, Bool.not_true, Bool.not_false, Bool.true_eq_false, Bool.false_eq_true, eq_self, List.isEmpty_cons, List.isEmpty_nil, Nat.reduceMul, decide_true, decide_false, ix40, mdel_put hp5]
          refine raised_in i_divisors_sum (by decide) (by show 1 ≤ 4; decide) (by show 4 ≤ 6; decide) rfl rfl rfl ?_
          refine (hqs q List.mem_cons_self _ _ _ ⟨by decide, ?_⟩).2
          refine arg_same (by decide +kernel) ?_
          simp only [sAug, wChain, iadd_int, isub_int, sSeq, sNext, sRet, sRetN, sIf, sSet, sPar, sExpr, sRaise, sAsg, sBrk, sCnt, gPut, Tg.put, Tgs.put, gSubG, gTupG, gsCons, gsNil, oPut, wVar, wLit, w1, w2, wN, wNil, wCons, wTru, wAsT, wNotT, wAndT, wOrT, wAnd, wOr, wNot, wIfE, wCallF, fill, wLc, wipeE, wItems, wSl, wPart, wNoPart, wRange1, wRange2, sFor, startD, endF, En.turn, tr_non, tr_bl, tr_int, tr_str, tr_tup, tr_lst, tr_ref, add_int, add_str, add_tup, add_lst, sub_int, mul_int, div_int, mod_int, pow_int, neg_int, eq_int, eq_str, eq_tup, eq_lst, eq_non, eq_bl, ne_int, ne_str, ne_tup, ne_lst, ne_non, ne_bl, lt_int, le_int, gt_int, ge_int, oIs, oIsNot, D.isNon, oTup, oLst, oLstM, len_tup, len_lst, len_scr, len_ref, lenD, abs_int, int_int, int_bl, max_ii, min_ii, max_l, min_l, sum_l, all_l, any_l, tup_t, tup_l, lst_t, lst_l, ix_tup, ix_lst, ix_ref, sl_tup, sl_lst, sl_scr, it_lst, it_tup, it_scr, ints_nil, ints_cons, bols_nil, bols_cons, is_t, oListM, mupd_same, mupd_twice, sFrz, ix60, ix61, ix62, ix63, ix64, ix65, at0, at1, at2, at3, at4, at5, atm1, List.map_cons, List.map_nil, List.cons_append, List.nil_append, List.append_nil, List.getElem?_cons_zero, List.getElem?_cons_succ, List.getElem?_nil, List.length_cons, List.length_nil, List.set_cons_zero, List.set_cons_succ, List.replicate, List.zip_cons_cons, List.zip_nil_right, List.foldl_cons, List.foldl_nil, Option.map_some, Option.bind_some, Nat.reduceAdd, Nat.reduceSub, Nat.zero_add, Nat.sub_self, Nat.add_one_sub_one, Nat.reduceEqDiff, Nat.reduceLT, Nat.reduceLeDiff, Int.reduceLT, Int.reduceLE, Int.reduceNeg, Int.reduceToNat, Int.toNat_zero, Int.toNat_one, Int.reduceEq, reduceIte, if_true, if_false, ite_true, ite_false, true_and, and_true, Bool.not_true, Bool.not_false, Bool.true_eq_false, Bool.false_eq_true, eq_self, List.isEmpty_cons, List.isEmpty_nil, Nat.reduceMul, decide_true, decide_false]
          exact hN' _ _ ⟨fun z hz => hqs z (List.mem_cons_of_mem _ hz), _, _, _, _, _, _, _, _, _, _, rfl⟩
        · intro q hq M Q Z hz
          simp only [List.mem_cons, List.not_mem_nil, or_false] at hq
          rcases hq with rfl | rfl | rfl | rfl | rfl <;> exact ⟨rfl, rfl, rfl, rfl, rfl, by first | exact hz | (unfold dsum; dsimp only; rw [if_neg (by decide)]; exact hz)⟩
      · refine gput_go ?_
        refine for_go fun B hB g' hg' => ?_
        simp only [sAug, wChain, iadd_int, isub_int, sSeq, sNext, sRet, sRetN, sIf, sSet, sPar, sExpr, sRaise, sAsg, sBrk, sCnt, gPut, Tg.put, Tgs.put, gSubG, gTupG, gsCons, gsNil, oPut, wVar, wLit, w1, w2, wN, wNil, wCons, wTru, wAsT, wNotT, wAndT, wOrT, wAnd, wOr, wNot, wIfE, wCallF, fill, wLc, wipeE, wItems, wSl, wPart, wNoPart, wRange1, wRange2, sFor, startD, endF, En.turn, tr_non, tr_bl, tr_int, tr_str, tr_tup, tr_lst, tr_ref, add_int, add_str, add_tup, add_lst, sub_int, mul_int, div_int, mod_int, pow_int, neg_int, eq_int, eq_str, eq_tup, eq_lst, eq_non, eq_bl, ne_int, ne_str, ne_tup, ne_lst, ne_non, ne_bl, lt_int, le_int, gt_int, ge_int, oIs, oIsNot, D.isNon, oTup, oLst, oLstM, len_tup, len_lst, len_scr, len_ref, lenD, abs_int, int_int, int_bl, max_ii, min_ii, max_l, min_l, sum_l, all_l, any_l, tup_t, tup_l, lst_t, lst_l, ix_tup, ix_lst, ix_ref, sl_tup, sl_lst, sl_scr, it_lst, it_tup, it_scr, ints_nil, ints_cons, bols_nil, bols_cons, is_t, oListM, mupd_same, mupd_twice, sFrz, ix60, ix61, ix62, ix63, ix64, ix65, at0, at1, at2, at3, at4, at5, atm1, List.map_cons, List.map_nil, List.cons_append, List.nil_append, List.append_nil, List.getElem?_cons_zero, List.getElem?_cons_succ, List.getElem?_nil, List.length_cons, List.length_nil, List.set_cons_zero, List.set_cons_succ, List.replicate, List.zip_cons_cons, List.zip_nil_right, List.foldl_cons, List.foldl_nil, Option.map_some, Option.bind_some, Nat.reduceAdd, Nat.reduceSub, Nat.zero_add, Nat.sub_self, Nat.add_one_sub_one, Nat.reduceEqDiff, Nat.reduceLT, Nat.reduceLeDiff, Int.reduceLT, Int.reduceLE, Int.reduceNeg, Int.reduceToNat, Int.toNat_zero, Int.toNat_one, Int.reduceEq, reduceIte, if_true, if_false, ite_true, ite_false, true_and, and_true, Bool.not_true, Bool.not_false, Bool.true_eq_false, Bool.false_eq_true, eq_self, List.isEmpty_cons, List.isEmpty_nil, Nat.reduceMul, decide_true, decide_false, i_is_integer, t_is_integer, i_is_within, t_is_within, i_floors, t_floors, i_divisors_sum, t_divisors_sum, i__law_start, t__law_start, i__law_draw, t__law_draw, i__law_pick, t__law_pick, i__law_same, t__law_same, i__law_raised, t__law_raised, i__law_floor_sum, t__law_floor_sum]
        refine ⟨⟨by decide, by decide, by decide⟩, ?_⟩
        try simp only [sAug, wChain, iadd_int, isub_int, sSeq, sNext, sRet, sRetN, sIf, sSet, sPar, sExpr, sRaise, sAsg, sBrk, sCnt, gPut, Tg.put, Tgs.put, gSubG, gTupG, gsCons, gsNil, oPut, wVar, wLit, w1, w2, wN, wNil, wCons, wTru, wAsT, wNotT, wAndT, wOrT, wAnd, wOr, wNot, wIfE, wCallF, fill, wLc, wipeE, wItems, wSl, wPart, wNoPart, wRange1, wRange2, sFor, startD, endF, En.turn, tr_non, tr_bl, tr_int, tr_str, tr_tup, tr_lst, tr_ref, add_int, add_str, add_tup, add_lst, sub_int, mul_int, div_int, mod_int, pow_int, neg_int, eq_int, eq_str, eq_tup, eq_lst, eq_non, eq_bl, ne_int, ne_str, ne_tup, ne_lst, ne_non, ne_bl, lt_int, le_int, gt_int, ge_int, oIs, oIsNot, D.isNon, oTup, oLst, oLstM, len_tup, len_lst, len_scr, len_ref, lenD, abs_int, int_int, int_bl, max_ii, min_ii, max_l, min_l, sum_l, all_l, any_l, tup_t, tup_l, lst_t, lst_l, ix_tup, ix_lst, ix_ref, sl_tup, sl_lst, sl_scr, it_lst, it_tup, it_scr, ints_nil, ints_cons, bols_nil, bols_cons, is_t, oListM, mupd_same, mupd_twice, sFrz, ix60, ix61, ix62, ix63, ix64, ix65, at0, at1, at2, at3, at4, at5, atm1, List.map_cons, List.map_nil, List.cons_append, List.nil_append, List.append_nil, List.getElem?_cons_zero, List.getElem?_cons_succ, List.getElem?_nil, List.length_cons, List.length_nil, List.set_cons_zero, List.set_cons_succ, List.replicate, List.zip_cons_cons, List.zip_nil_right, List.foldl_cons, List.foldl_nil, Option.map_some, Option.bind_some, Nat.reduceAdd, Nat.reduceSub, Nat.zero_add, Nat.sub_self, Nat.add_one_sub_one, Nat.reduceEqDiff, Nat.reduceLT, Nat.reduceLeDiff, Int.reduceLT, Int.reduceLE, Int.reduceNeg, Int.reduceToNat, Int.toNat_zero, Int.toNat_one, Int.reduceEq, reduceIte, if_true, if_false, ite_true, ite_false, true_and, and_true, Bool.not_true, Bool.not_false, Bool.true_eq_false, Bool.false_eq_true, eq_self, List.isEmpty_cons, List.isEmpty_nil, Nat.reduceMul, decide_true, decide_false]
        refine for_inv (fun ds ρ M' => (∀ q ∈ ds, ∀ (M : Mem) (Q : QV) (Z : QX), Z 0 (.str "p") M → okT q = true ∧ F_divisors_sum [.int 3, q, .int 5, .int 1] M Q Z) ∧ ∃ (x2 x3 x4 x5 x6 x7 x8 xa xb xc : Option D), ρ = [some (.scr (ns.map D.int)), some (.ref p), x2, x3, x4, x5, x6, x7, x8, some (.int 1), xa, xb, xc]) (fun _ _ _ _ => trivial) ?_ ?_ _ _ _ ⟨?_, _, _, _, _, _, _, _, _, _, _, rfl⟩
        · rintro ρ M5 ⟨_, x2, x3, x4, x5, x6, x7, x8, xa, xb, xc, rfl⟩
          exact hN _ _ ⟨fun z hz => hds z (List.mem_cons_of_mem _ hz), _, _, _, _, _, _, _, _, _, _, _, rfl⟩
        · rintro q qs ρ M5 ⟨hqs, x2, x3, x4, x5, x6, x7, x8, xa, xb, xc, rfl⟩ N' hN'
          subst hg'
          refine gput_go ?_
          subst hB
          simp only [sAug, wChain, iadd_int, isub_int, sSeq, sNext, sRet, sRetN, sIf, sSet, sPar, sExpr, sRaise, sAsg, sBrk, sCnt, gPut, Tg.put, Tgs.put, gSubG, gTupG, gsCons, gsNil, oPut, wVar, wLit, w1, w2, wN, wNil, wCons, wTru, wAsT, wNotT, wAndT, wOrT, wAnd, wOr, wNot, wIfE, wCallF, fill, wLc, wipeE, wItems, wSl, wPart, wNoPart, wRange1, wRange2, sFor, startD, endF, En.turn, tr_non, tr_bl, tr_int, tr_str, tr_tup, tr_lst, tr_ref, add_int, add_str, add_tup, add_lst, sub_int, mul_int, div_int, mod_int, pow_int, neg_int, eq_int, eq_str, eq_tup, eq_lst, eq_non, eq_bl, ne_int, ne_str, ne_tup, ne_lst, ne_non, ne_bl, lt_int, le_int, gt_int, ge_int, oIs, oIsNot, D.isNon, oTup, oLst, oLstM, len_tup, len_lst, len_scr, len_ref, lenD, abs_int, int_int, int_bl, max_ii, min_ii, max_l, min_l, sum_l, all_l, any_l, tup_t, tup_l, lst_t, lst_l, ix_tup, ix_lst, ix_ref, sl_tup, sl_lst, sl_scr, it_lst, it_tup, it_scr, ints_nil, ints_cons, bols_nil, bols_cons, is_t, oListM, mupd_same, mupd_twice, sFrz, ix60, ix61, ix62, ix63, ix64, ix65, at0, at1, at2, at3, at4, at5, atm1, List.map_cons, List.map_nil, List.cons_append, List.nil_append, List.append_nil, List.getElem?_cons_zero, List.getElem?_cons_succ, List.getElem?_nil, List.length_cons, List.length_nil, List.set_cons_zero, List.set_cons_succ, List.replicate, List.zip_cons_cons, List.zip_nil_right, List.foldl_cons, List.foldl_nil, Option.map_some, Option.bind_some, Nat.reduceAdd, Nat.reduceSub, Nat.zero_add, Nat.sub_self, Nat.add_one_sub_one, Nat.reduceEqDiff, Nat.reduceLT, Nat.reduceLeDiff, Int.reduceLT, Int.reduceLE, Int.reduceNeg, Int.reduceToNat, Int.toNat_zero, Int.toNat_one, Int.reduceEq, reduceIte, if_true, if_false, ite_true, ite_false, true_and, and_true, Bool.not_true, Bool.not_false, Bool.true_eq_false, Bool.false_eq_true, eq_self, List.isEmpty_cons, List.isEmpty_nil, Nat.reduceMul, decide_true, decide_false, i_is_integer, t_is_integer, i_is_within, t_is_within, i_floors, t_floors, i_divisors_sum, t_divisors_sum, i__law_start, t__law_start, i__law_draw, t__law_draw, i__law_pick, t__law_pick, i__law_same, t__law_same, i__law_raised, t__law_raised, i__law_floor_sum, t__law_floor_sum]
          intro p5 hp5
          simp only [sAug, wChain, iadd_int, isub_int, sSeq, sNext, sRet, sRetN, sIf, sSet, sPar, sExpr, sRaise, sAsg, sBrk, sCnt, gPut, Tg.put, Tgs.put, gSubG, gTupG, gsCons, gsNil, oPut, wVar, wLit, w1, w2, wN, wNil, wCons, wTru, wAsT, wNotT, wAndT, wOrT, wAnd, wOr, wNot, wIfE, wCallF, fill, wLc, wipeE, wItems, wSl, wPart, wNoPart, wRange1, wRange2, sFor, startD, endF, En.turn, tr_non, tr_bl, tr_int, tr_str, tr_tup, tr_lst, tr_ref, add_int, add_str, add_tup, add_lst, sub_int, mul_int, div_int, mod_int, pow_int, neg_int, eq_int, eq_str, eq_tup, eq_lst, eq_non, eq_bl, ne_int, ne_str, ne_tup, ne_lst, ne_non, ne_bl, lt_int, le_int, gt_int, ge_int, oIs, oIsNot, D.isNon, oTup, oLst, oLstM, len_tup, len_lst, len_scr, len_ref, lenD, abs_int, int_int, int_bl, max_ii, min_ii, max_l, min_l, sum_l, all_l, any_l, tup_t, tup_l, lst_t, lst_l, ix_tup, ix_lst, ix_ref, sl_tup, sl_lst, sl_scr, it_lst, it_tup, it_scr, ints_nil, ints_cons, bols_nil, bols_cons, is_t, oListM, mupd_same, mupd_twice, sFrz, ix60, ix61, ix62, ix63, ix64, ix65, at0, at1, at2, at3, at4, at5, atm1, List.map_cons, List.map_nil, List.cons_append, List.nil_append, List.append_nil, List.getElem?_cons_zero, List.getElem?_cons_succ, List.getElem?_nil, List.length_cons, List.length_nil, List.set_cons_zero, List.set_cons_succ, List.replicate, List.zip_cons_cons, List.zip_nil_right, List.foldl_cons, List.foldl_nil, Option.map_some, Option.bind_some, Nat.reduceAdd, Nat.reduceSub, Nat.zero_add, Nat.sub_self, Nat.add_one_sub_one, Nat.reduceEqDiff, Nat.reduceLT, Nat.reduceLeDiff, Int.reduceLT, Int.reduceLE, Int.reduceNeg, Int.reduceToNat, Int.toNat_zero, Int.toNat_one, Int.reduceEq, reduceIte, if_true, if_false, ite_true, ite_false, true_and, and_true, Bool.not_true, Bool.not_false, Bool.true_eq_false, Bool.false_eq_true, eq_self, List.isEmpty_cons, List.isEmpty_nil, Nat.reduceMul, decide_true, decide_false, ix41, mdel_put hp5]
          refine raised_in i_divisors_sum (by decide) (by show 1 ≤ 4; decide) (by show 4 ≤ 6; decide) rfl rfl rfl ?_
          refine (hqs q List.mem_cons_self _ _ _ ⟨by decide, ?_⟩).2
          refine arg_same (by decide +kernel) ?_
          simp only [sAug, wChain, iadd_int, isub_int, sSeq, sNext, sRet, sRetN, sIf, sSet, sPar, sExpr, sRaise, sAsg, sBrk, sCnt, gPut, Tg.put, Tgs.put, gSubG, gTupG, gsCons, gsNil, oPut, wVar, wLit, w1, w2, wN, wNil, wCons, wTru, wAsT, wNotT, wAndT, wOrT, wAnd, wOr, wNot, wIfE, wCallF, fill, wLc, wipeE, wItems, wSl, wPart, wNoPart, wRange1, wRange2, sFor, startD, endF, En.turn, tr_non, tr_bl, tr_int, tr_str, tr_tup, tr_lst, tr_ref, add_int, add_str, add_tup, add_lst, sub_int, mul_int, div_int, mod_int, pow_int, neg_int, eq_int, eq_str, eq_tup, eq_lst, eq_non, eq_bl, ne_int, ne_str, ne_tup, ne_lst, ne_non, ne_bl, lt_int, le_int, gt_int, ge_int, oIs, oIsNot, D.isNon, oTup, oLst, oLstM, len_tup, len_lst, len_scr, len_ref, lenD, abs_int, int_int, int_bl, max_ii, min_ii, max_l, min_l, sum_l, all_l, any_l, tup_t, tup_l, lst_t, lst_l, ix_tup, ix_lst, ix_ref, sl_tup, sl_lst, sl_scr, it_lst, it_tup, it_scr, ints_nil, ints_cons, bols_nil, bols_cons, is_t, oListM, mupd_same, mupd_twice, sFrz, ix60, ix61, ix62, ix63, ix64, ix65, at0, at1, at2, at3, at4, at5, atm1, List.map_cons, List.map_nil, List.cons_append, List.nil_append, List.append_nil, List.getElem?_cons_zero, List.getElem?_cons_succ, List.getElem?_nil, List.length_cons, List.length_nil, List.set_cons_zero, List.set_cons_succ, List.replicate, List.zip_cons_cons, List.zip_nil_right, List.foldl_cons, List.foldl_nil, Option.map_some, Option.bind_some, Nat.reduceAdd, Nat.reduceSub, Nat.zero_add, Nat.sub_self, Nat.add_one_sub_one, Nat.reduceEqDiff, Nat.reduceLT, Nat.reduceLeDiff, Int.reduceLT, Int.reduceLE, Int.reduceNeg, Int.reduceToNat, Int.toNat_zero, Int.toNat_one, Int.reduceEq, reduceIte, if_true, if_false, ite_true, ite_false, true_and, and_true, Bool.not_true, Bool.not_false, Bool.true_eq_false, Bool.false_eq_true, eq_self, List.isEmpty_cons, List.isEmpty_nil, Nat.reduceMul, decide_true, decide_false]
          exact hN' _ _ ⟨fun z hz => hqs z (List.mem_cons_of_mem _ hz), _, _, _, _, _, _, _, _, _, _, rfl⟩
        · intro q hq M Q Z hz
          simp only [List.mem_cons, List.not_mem_nil, or_false] at hq
          rcases hq with rfl | rfl | rfl <;> exact ⟨rfl, rfl, rfl, rfl, rfl, by first | exact hz | (unfold dsum; dsimp only; rw [if_pos (by decide)]; exact hz)⟩
      · refine gput_go ?_
        refine for_go fun B hB g' hg' => ?_
        simp only [sAug, wChain, iadd_int, isub_int, sSeq, sNext, sRet, sRetN, sIf, sSet, sPar, sExpr, sRaise, sAsg, sBrk, sCnt, gPut, Tg.put, Tgs.put, gSubG, gTupG, gsCons, gsNil, oPut, wVar, wLit, w1, w2, wN, wNil, wCons, wTru, wAsT, wNotT, wAndT, wOrT, wAnd, wOr, wNot, wIfE, wCallF, fill, wLc, wipeE, wItems, wSl, wPart, wNoPart, wRange1, wRange2, sFor, startD, endF, En.turn, tr_non, tr_bl, tr_int, tr_str, tr_tup, tr_lst, tr_ref, add_int, add_str, add_tup, add_lst, sub_int, mul_int, div_int, mod_int, pow_int, neg_int, eq_int, eq_str, eq_tup, eq_lst, eq_non, eq_bl, ne_int, ne_str, ne_tup, ne_lst, ne_non, ne_bl, lt_int, le_int, gt_int, ge_int, oIs, oIsNot, D.isNon, oTup, oLst, oLstM, len_tup, len_lst, len_scr, len_ref, lenD, abs_int, int_int, int_bl, max_ii, min_ii, max_l, min_l, sum_l, all_l, any_l, tup_t, tup_l, lst_t, lst_l, ix_tup, ix_lst, ix_ref, sl_tup, sl_lst, sl_scr, it_lst, it_tup, it_scr, ints_nil, ints_cons, bols_nil, bols_cons, is_t, oListM, mupd_same, mupd_twice, sFrz, ix60, ix61, ix62, ix63, ix64, ix65, at0, at1, at2, at3, at4, at5, atm1, List.map_cons, List.map_nil, List.cons_append, List.nil_append, List.append_nil, List.getElem?_cons_zero, List.getElem?_cons_succ, List.getElem?_nil, List.length_cons, List.length_nil, List.set_cons_zero, List.set_cons_succ, List.replicate, List.zip_cons_cons, List.zip_nil_right, List.foldl_cons, List.foldl_nil, Option.map_some, Option.bind_some, Nat.reduceAdd, Nat.reduceSub, Nat.zero_add, Nat.sub_self, Nat.add_one_sub_one, Nat.reduceEqDiff, Nat.reduceLT, Nat.reduceLeDiff, Int.reduceLT, Int.reduceLE, Int.reduceNeg, Int.reduceToNat, Int.toNat_zero, Int.toNat_one, Int.reduceEq, reduceIte, if_true, if_false, ite_true, ite_false, true_and, and_true, Bool.not_true, Bool.not_false, Bool.true_eq_false, Bool.false_eq_true, eq_self, List.isEmpty_cons, List.isEmpty_nil, Nat.reduceMul, decide_true, decide_false, i_is_integer, t_is_integer, i_is_within, t_is_within, i_floors, t_floors, i_divisors_sum, t_divisors_sum, i__law_start, t__law_start, i__law_draw, t__law_draw, i__law_pick, t__law_pick, i__law_same, t__law_same, i__law_raised, t__law_raised, i__law_floor_sum, t__law_floor_sum]
        refine ⟨⟨by decide, by decide, by decide⟩, ?_⟩
        try simp only [sAug, wChain, iadd_int, isub_int, sSeq, sNext, sRet, sRetN, sIf, sSet, sPar, sExpr, sRaise, sAsg, sBrk, sCnt, gPut, Tg.put, Tgs.put, gSubG, gTupG, gsCons, gsNil, oPut, wVar, wLit, w1, w2, wN, wNil, wCons, wTru, wAsT, wNotT, wAndT, wOrT, wAnd, wOr, wNot, wIfE, wCallF, fill, wLc, wipeE, wItems, wSl, wPart, wNoPart, wRange1, wRange2, sFor, startD, endF, En.turn, tr_non, tr_bl, tr_int, tr_str, tr_tup, tr_lst, tr_ref, add_int, add_str, add_tup, add_lst, sub_int, mul_int, div_int, mod_int, pow_int, neg_int, eq_int, eq_str, eq_tup, eq_lst, eq_non, eq_bl, ne_int, ne_str, ne_tup, ne_lst, ne_non, ne_bl, lt_int, le_int, gt_int, ge_int, oIs, oIsNot, D.isNon, oTup, oLst, oLstM, len_tup, len_lst, len_scr, len_ref, lenD, abs_int, int_int, int_bl, max_ii, min_ii, max_l, min_l, sum_l, all_l, any_l, tup_t, tup_l, lst_t, lst_l, ix_tup, ix_lst, ix_ref, sl_tup, sl_lst, sl_scr, it_lst, it_tup, it_scr, ints_nil, ints_cons, bols_nil, bols_cons, is_t, oListM, mupd_same, mupd_twice, sFrz, ix60, ix61, ix62, ix63, ix64, ix65, at0, at1, at2, at3, at4, at5, atm1, List.map_cons, List.map_nil, List.cons_append, List.nil_append, List.append_nil, List.getElem?_cons_zero, List.getElem?_cons_succ, List.getElem?_nil, List.length_cons, List.length_nil, List.set_cons_zero, List.set_cons_succ, List.replicate, List.zip_cons_cons, List.zip_nil_right, List.foldl_cons, List.foldl_nil, Option.map_some, Option.bind_some, Nat.reduceAdd, Nat.reduceSub, Nat.zero_add, Nat.sub_self, Nat.add_one_sub_one, Nat.reduceEqDiff, Nat.reduceLT, Nat.reduceLeDiff, Int.reduceLT, Int.reduceLE, Int.reduceNeg, Int.reduceToNat, Int.toNat_zero, Int.toNat_one, Int.reduceEq, reduceIte, if_true, if_false, ite_true, ite_false, true_and, and_true, Bool.not_true, Bool.not_false, Bool.true_eq_false, Bool.false_eq_true, eq_self, List.isEmpty_cons, List.isEmpty_nil, Nat.reduceMul, decide_true, decide_false]
        refine for_inv (fun ds ρ M' => (∀ q ∈ ds, ∀ (M : Mem) (Q : QV) (Z : QX), Z 0 (.str "q") M → okT q = true ∧ F_divisors_sum [.int 3, .int 2, q, .int 1] M Q Z) ∧ ∃ (x2 x3 x4 x5 x6 x7 x8 xa xb xc : Option D), ρ = [some (.scr (ns.map D.int)), some (.ref p), x2, x3, x4, x5, x6, x7, x8, some (.int 2), xa, xb, xc]) (fun _ _ _ _ => trivial) ?_ ?_ _ _ _ ⟨?_, _, _, _, _, _, _, _, _, _, _, rfl⟩
        · rintro ρ M5 ⟨_, x2, x3, x4, x5, x6, x7, x8, xa, xb, xc, rfl⟩
          exact hN _ _ ⟨fun z hz => hds z (List.mem_cons_of_mem _ hz), _, _, _, _, _, _, _, _, _, _, _, rfl⟩
        · rintro q qs ρ M5 ⟨hqs, x2, x3, x4, x5, x6, x7, x8, xa, xb, xc, rfl⟩ N' hN'
          subst hg'
          refine gput_go ?_
          subst hB
          simp only [sAug, wChain, iadd_int, isub_int, sSeq, sNext, sRet, sRetN, sIf, sSet, sPar, sExpr, sRaise, sAsg, sBrk, sCnt, gPut, Tg.put, Tgs.put, gSubG, gTupG, gsCons, gsNil, oPut, wVar, wLit, w1, w2, wN, wNil, wCons, wTru, wAsT, wNotT, wAndT, wOrT, wAnd, wOr, wNot, wIfE, wCallF, fill, wLc, wipeE, wItems, wSl, wPart, wNoPart, wRange1, wRange2, sFor, startD, endF, En.turn, tr_non, tr_bl, tr_int, tr_str, tr_tup, tr_lst, tr_ref, add_int, add_str, add_tup, add_lst, sub_int, mul_int, div_int, mod_int, pow_int, neg_int, eq_int, eq_str, eq_tup, eq_lst, eq_non, eq_bl, ne_int, ne_str, ne_tup, ne_lst, ne_non, ne_bl, lt_int, le_int, gt_int, ge_int, oIs, oIsNot, D.isNon, oTup, oLst, oLstM, len_tup, len_lst, len_scr, len_ref, lenD, abs_int, int_int, int_bl, max_ii, min_ii, max_l, min_l, sum_l, all_l, any_l, tup_t, tup_l, lst_t, lst_l, ix_tup, ix_lst, ix_ref, sl_tup, sl_lst, sl_scr, it_lst, it_tup, it_scr, ints_nil, ints_cons, bols_nil, bols_cons, is_t, oListM, mupd_same, mupd_twice, sFrz, ix60, ix61, ix62, ix63, ix64, ix65, at0, at1, at2, at3, at4, at5, atm1, List.map_cons, List.map_nil, List.cons_append, List.nil_append, List.append_nil, List.getElem?_cons_zero, List.getElem?_cons_succ, List.getElem?_nil, List.length_cons, List.length_nil, List.set_cons_zero, List.set_cons_succ, List.replicate, List.zip_cons_cons, List.zip_nil_right, List.foldl_cons, List.foldl_nil, Option.map_some, Option.bind_some, Nat.reduceAdd, Nat.reduceSub, Nat.zero_add, Nat.sub_self, Nat.add_one_sub_one, Nat.reduceEqDiff, Nat.reduceLT, Nat.reduceLeDiff, Int.reduceLT, Int.reduceLE, Int.reduceNeg, Int.reduceToNat, Int.toNat_zero, Int.toNat_one, Int.reduceEq, reduceIte, if_true, if_false, ite_true, ite_false, true_and, and_true, Bool.not_true, Bool.not_false, Bool.true_eq_false, Bool.false_eq_true, eq_self, List.isEmpty_cons, List.isEmpty_nil, Nat.reduceMul, decide_true, decide_false, i_is_integer, t_is_integer, i_is_within, t_is_within, i_floors, t_floors, i_divisors_sum, t_divisors_sum, i__law_start, t__law_start, i__law_draw, t__law_draw, i__law_pick, t__law_pick, i__law_same, t__law_same, i__law_raised, t__law_raised, i__law_floor_sum, t__law_floor_sum]
          intro p5 hp5
          simp only [sAug, wChain, iadd_int, isub_int, sSeq, sNext, sRet, sRetN, sIf, sSet, sPar, sExpr, sRaise, sAsg, sBrk, sCnt, gPut, Tg.put, Tgs.put, gSubG, gTupG, gsCons, gsNil, oPut, wVar, wLit, w1, w2, wN, wNil, wCons, wTru, wAsT, wNotT, wAndT, wOrT, wAnd, wOr, wNot, wIfE, wCallF, fill, wLc, wipeE, wItems, wSl, wPart, wNoPart, wRange1, wRange2, sFor, startD, endF, En.turn, tr_non, tr_bl, tr_int, tr_str, tr_tup, tr_lst, tr_ref, add_int, add_str, add_tup, add_lst, sub_int, mul_int, div_int, mod_int, pow_int, neg_int, eq_int, eq_str, eq_tup, eq_lst, eq_non, eq_bl, ne_int, ne_str, ne_tup, ne_lst, ne_non, ne_bl, lt_int, le_int, gt_int, ge_int, oIs, oIsNot, D.isNon, oTup, oLst, oLstM, len_tup, len_lst, len_scr, len_ref, lenD, abs_int, int_int, int_bl, max_ii, min_ii, max_l, min_l, sum_l, all_l, any_l, tup_t, tup_l, lst_t, lst_l, ix_tup, ix_lst, ix_ref, sl_tup, sl_lst, sl_scr, it_lst, it_tup, it_scr, ints_nil, ints_cons, bols_nil, bols_cons, is_t, oListM, mupd_same, mupd_twice, sFrz, ix60, ix61, ix62, ix63, ix64, ix65, at0, at1, at2, at3, at4, at5, atm1, List.map_cons, List.map_nil, List.cons_append, List.nil_append, List.append_nil, List.getElem?_cons_zero, List.getElem?_cons_succ, List.getElem?_nil, List.length_cons, List.length_nil, List.set_cons_zero, List.set_cons_succ, List.replicate, List.zip_cons_cons, List.zip_nil_right, List.foldl_cons, List.foldl_nil, Option.map_some, Option.bind_some, Nat.reduceAdd, Nat.reduceSub, Nat.zero_add, Nat.sub_self, Nat.add_one_sub_one, Nat.reduceEqDiff, Nat.reduceLT, Nat.reduceLeDiff, Int.reduceLT, Int.reduceLE, Int.reduceNeg, Int.reduceToNat, Int.toNat_zero, Int.toNat_one, Int.reduceEq, reduceIte, if_true, if_false, ite_true, ite_false, true_and, and_true, Bool.not_true, Bool.not_false, Bool.true_eq_false, Bool.false_eq_true, eq_self, List.isEmpty_cons, List.isEmpty_nil, Nat.reduceMul, decide_true, decide_false, ix42, mdel_put hp5]
          refine raised_in i_divisors_sum (by decide) (by show 1 ≤ 4; decide) (by show 4 ≤ 6; decide) rfl rfl rfl ?_
          refine (hqs q List.mem_cons_self _ _ _ ⟨by decide, ?_⟩).2
          refine arg_same (by decide +kernel) ?_
          simp only [sAug, wChain, iadd_int, isub_int, sSeq, sNext, sRet, sRetN, sIf, sSet, sPar, sExpr, sRaise, sAsg, sBrk, sCnt, gPut, Tg.put, Tgs.put, gSubG, gTupG, gsCons, gsNil, oPut, wVar, wLit, w1, w2, wN, wNil, wCons, wTru, wAsT, wNotT, wAndT, wOrT, wAnd, wOr, wNot, wIfE, wCallF, fill, wLc, wipeE, wItems, wSl, wPart, wNoPart, wRange1, wRange2, sFor, startD, endF, En.turn, tr_non, tr_bl, tr_int, tr_str, tr_tup, tr_lst, tr_ref, add_int, add_str, add_tup, add_lst, sub_int, mul_int, div_int, mod_int, pow_int, neg_int, eq_int, eq_str, eq_tup, eq_lst, eq_non, eq_bl, ne_int, ne_str, ne_tup, ne_lst, ne_non, ne_bl, lt_int, le_int, gt_int, ge_int, oIs, oIsNot, D.isNon, oTup, oLst, oLstM, len_tup, len_lst, len_scr, len_ref, lenD, abs_int, int_int, int_bl, max_ii, min_ii, max_l, min_l, sum_l, all_l, any_l, tup_t, tup_l, lst_t, lst_l, ix_tup, ix_lst, ix_ref, sl_tup, sl_lst, sl_scr, it_lst, it_tup, it_scr, ints_nil, ints_cons, bols_nil, bols_cons, is_t, oListM, mupd_same, mupd_twice, sFrz, ix60, ix61, ix62, ix63, ix64, ix65, at0, at1, at2, at3, at4, at5, atm1, List.map_cons, List.map_nil, List.cons_append, List.nil_append, List.append_nil, List.getElem?_cons_zero, List.getElem?_cons_succ, List.getElem?_nil, List.length_cons, List.length_nil, List.set_cons_zero, List.set_cons_succ, List.replicate, List.zip_cons_cons, List.zip_nil_right, List.foldl_cons, List.foldl_nil, Option.map_some, Option.bind_some, Nat.reduceAdd, Nat.reduceSub, Nat.zero_add, Nat.sub_self, Nat.add_one_sub_one, Nat.reduceEqDiff, Nat.reduceLT, Nat.reduceLeDiff, Int.reduceLT, Int.reduceLE, Int.reduceNeg, Int.reduceToNat, Int.toNat_zero, Int.toNat_one, Int.reduceEq, reduceIte, if_true, if_false, ite_true, ite_false, true_and, and_true, Bool.not_true, Bool.not_false, Bool.true_eq_false, Bool.false_eq_true, eq_self, List.isEmpty_cons, List.isEmpty_nil, Nat.reduceMul, decide_true, decide_false]
          exact hN' _ _ ⟨fun z hz => hqs z (List.mem_cons_of_mem _ hz), _, _, _, _, _, _, _, _, _, _, rfl⟩
        · intro q hq M Q Z hz
          simp only [List.mem_cons, List.not_mem_nil, or_false] at hq
          rcases hq with rfl | rfl | rfl | rfl | rfl <;> exact ⟨rfl, rfl, rfl, rfl, rfl, by first | exact hz | (unfold dsum; dsimp only; rw [if_pos (by decide)]; first | exact hz | (rw [if_neg (by decide)]; exact hz))⟩
      · refine gput_go ?_
        refine for_go fun B hB g' hg' => ?_
        simp only [sAug, wChain, iadd_int, isub_int, sSeq, sNext, sRet, sRetN, sIf, sSet, sPar, sExpr, sRaise, sAsg, sBrk, sCnt, gPut, Tg.put, Tgs.put, gSubG, gTupG, gsCons, gsNil, oPut, wVar, wLit, w1, w2, wN, wNil, wCons, wTru, wAsT, wNotT, wAndT, wOrT, wAnd, wOr, wNot, wIfE, wCallF, fill, wLc, wipeE, wItems, wSl, wPart, wNoPart, wRange1, wRange2, sFor, startD, endF, En.turn, tr_non, tr_bl, tr_int, tr_str, tr_tup, tr_lst, tr_ref, add_int, add_str, add_tup, add_lst, sub_int, mul_int, div_int, mod_int, pow_int, neg_int, eq_int, eq_str, eq_tup, eq_lst, eq_non, eq_bl, ne_int, ne_str, ne_tup, ne_lst, ne_non, ne_bl, lt_int, le_int, gt_int, ge_int, oIs, oIsNot, D.isNon, oTup, oLst, oLstM, len_tup, len_lst, len_scr, len_ref, lenD, abs_int, int_int, int_bl, max_ii, min_ii, max_l, min_l, sum_l, all_l, any_l, tup_t, tup_l, lst_t, lst_l, ix_tup, ix_lst, ix_ref, sl_tup, sl_lst, sl_scr, it_lst, it_tup, it_scr, ints_nil, ints_cons, bols_nil, bols_cons, is_t, oListM, mupd_same, mupd_twice, sFrz, ix60, ix61, ix62, ix63, ix64, ix65, at0, at1, at2, at3, at4, at5, atm1, List.map_cons, List.map_nil, List.cons_append, List.nil_append, List.append_nil, List.getElem?_cons_zero, List.getElem?_cons_succ, List.getElem?_nil, List.length_cons, List.length_nil, List.set_cons_zero, List.set_cons_succ, List.replicate, List.zip_cons_cons, List.zip_nil_right, List.foldl_cons, List.foldl_nil, Option.map_some, Option.bind_some, Nat.reduceAdd, Nat.reduceSub, Nat.zero_add, Nat.sub_self, Nat.add_one_sub_one, Nat.reduceEqDiff, Nat.reduceLT, Nat.reduceLeDiff, Int.reduceLT, Int.reduceLE, Int.reduceNeg, Int.reduceToNat, Int.toNat_zero, Int.toNat_one, Int.reduceEq, reduceIte, if_true, if_false, ite_true, ite_false, true_and, and_true, Bool.not_true, Bool.not_false, Bool.true_eq_false, Bool.false_eq_true, eq_self, List.isEmpty_cons, List.isEmpty_nil, Nat.reduceMul, decide_true, decide_false, i_is_integer, t_is_integer, i_is_within, t_is_within, i_floors, t_floors, i_divisors_sum, t_divisors_sum, i__law_start, t__law_start, i__law_draw, t__law_draw, i__law_pick, t__law_pick, i__law_same, t__law_same, i__law_raised, t__law_raised, i__law_floor_sum, t__law_floor_sum]
        refine ⟨⟨by decide, by decide, by decide⟩, ?_⟩
        try simp only [sAug, wChain, iadd_int, isub_int, sSeq, sNext, sRet, sRetN, sIf, sSet, sPar, sExpr, sRaise, sAsg, sBrk, sCnt, gPut, Tg.put, Tgs.put, gSubG, gTupG, gsCons, gsNil, oPut, wVar, wLit, w1, w2, wN, wNil, wCons, wTru, wAsT, wNotT, wAndT, wOrT, wAnd, wOr, wNot, wIfE, wCallF, fill, wLc, wipeE, wItems, wSl, wPart, wNoPart, wRange1, wRange2, sFor, startD, endF, En.turn, tr_non, tr_bl, tr_int, tr_str, tr_tup, tr_lst, tr_ref, add_int, add_str, add_tup, add_lst, sub_int, mul_int, div_int, mod_int, pow_int, neg_int, eq_int, eq_str, eq_tup, eq_lst, eq_non, eq_bl, ne_int, ne_str, ne_tup, ne_lst, ne_non, ne_bl, lt_int, le_int, gt_int, ge_int, oIs, oIsNot, D.isNon, oTup, oLst, oLstM, len_tup, len_lst, len_scr, len_ref, lenD, abs_int, int_int, int_bl, max_ii, min_ii, max_l, min_l, sum_l, all_l, any_l, tup_t, tup_l, lst_t, lst_l, ix_tup, ix_lst, ix_ref, sl_tup, sl_lst, sl_scr, it_lst, it_tup, it_scr, ints_nil, ints_cons, bols_nil, bols_cons, is_t, oListM, mupd_same, mupd_twice, sFrz, ix60, ix61, ix62, ix63, ix64, ix65, at0, at1, at2, at3, at4, at5, atm1, List.map_cons, List.map_nil, List.cons_append, List.nil_append, List.append_nil, List.getElem?_cons_zero, List.getElem?_cons_succ, List.getElem?_nil, List.length_cons, List.length_nil, List.set_cons_zero, List.set_cons_succ, List.replicate, List.zip_cons_cons, List.zip_nil_right, List.foldl_cons, List.foldl_nil, Option.map_some, Option.bind_some, Nat.reduceAdd, Nat.reduceSub, Nat.zero_add, Nat.sub_self, Nat.add_one_sub_one, Nat.reduceEqDiff, Nat.reduceLT, Nat.reduceLeDiff, Int.reduceLT, Int.reduceLE, Int.reduceNeg, Int.reduceToNat, Int.toNat_zero, Int.toNat_one, Int.reduceEq, reduceIte, if_true, if_false, ite_true, ite_false, true_and, and_true, Bool.not_true, Bool.not_false, Bool.true_eq_false, Bool.false_eq_true, eq_self, List.isEmpty_cons, List.isEmpty_nil, Nat.reduceMul, decide_true, decide_false]
        refine for_inv (fun ds ρ M' => (∀ q ∈ ds, ∀ (M : Mem) (Q : QV) (Z : QX), Z 0 (.str "r") M → okT q = true ∧ F_divisors_sum [.int 3, .int 2, .int 5, q] M Q Z) ∧ ∃ (x2 x3 x4 x5 x6 x7 x8 xa xb xc : Option D), ρ = [some (.scr (ns.map D.int)), some (.ref p), x2, x3, x4, x5, x6, x7, x8, some (.int 3), xa, xb, xc]) (fun _ _ _ _ => trivial) ?_ ?_ _ _ _ ⟨?_, _, _, _, _, _, _, _, _, _, _, rfl⟩
        · rintro ρ M5 ⟨_, x2, x3, x4, x5, x6, x7, x8, xa, xb, xc, rfl⟩
          exact hN _ _ ⟨fun z hz => hds z (List.mem_cons_of_mem _ hz), _, _, _, _, _, _, _, _, _, _, _, rfl⟩
        · rintro q qs ρ M5 ⟨hqs, x2, x3, x4, x5, x6, x7, x8, xa, xb, xc, rfl⟩ N' hN'
          subst hg'
          refine gput_go ?_
          subst hB
          simp only [sAug, wChain, iadd_int, isub_int, sSeq, sNext, sRet, sRetN, sIf, sSet, sPar, sExpr, sRaise, sAsg, sBrk, sCnt, gPut, Tg.put, Tgs.put, gSubG, gTupG, gsCons, gsNil, oPut, wVar, wLit, w1, w2, wN, wNil, wCons, wTru, wAsT, wNotT, wAndT, wOrT, wAnd, wOr, wNot, wIfE, wCallF, fill, wLc, wipeE, wItems, wSl, wPart, wNoPart, wRange1, wRange2, sFor, startD, endF, En.turn, tr_non, tr_bl, tr_int, tr_str, tr_tup, tr_lst, tr_ref, add_int, add_str, add_tup, add_lst, sub_int, mul_int, div_int, mod_int, pow_int, neg_int, eq_int, eq_str, eq_tup, eq_lst, eq_non, eq_bl, ne_int, ne_str, ne_tup, ne_lst, ne_non, ne_bl, lt_int, le_int, gt_int, ge_int, oIs, oIsNot, D.isNon, oTup, oLst, oLstM, len_tup, len_lst, len_scr, len_ref, lenD, abs_int, int_int, int_bl, max_ii, min_ii, max_l, min_l, sum_l, all_l, any_l, tup_t, tup_l, lst_t, lst_l, ix_tup, ix_lst, ix_ref, sl_tup, sl_lst, sl_scr, it_lst, it_tup, it_scr, ints_nil, ints_cons, bols_nil, bols_cons, is_t, oListM, mupd_same, mupd_twice, sFrz, ix60, ix61, ix62, ix63, ix64, ix65, at0, at1, at2, at3, at4, at5, atm1, List.map_cons, List.map_nil, List.cons_append, List.nil_append, List.append_nil, List.getElem?_cons_zero, List.getElem?_cons_succ, List.getElem?_nil, List.length_cons, List.length_nil, List.set_cons_zero, List.set_cons_succ, List.replicate, List.zip_cons_cons, List.zip_nil_right, List.foldl_cons, List.foldl_nil, Option.map_some, Option.bind_some, Nat.reduceAdd, Nat.reduceSub, Nat.zero_add, Nat.sub_self, Nat.add_one_sub_one, Nat.reduceEqDiff, Nat.reduceLT, Nat.reduceLeDiff, Int.reduceLT, Int.reduceLE, Int.reduceNeg, Int.reduceToNat, Int.toNat_zero, Int.toNat_one, Int.reduceEq, reduceIte, if_true, if_false, ite_true, ite_false, true_and, and_true, Bool.not_true, Bool.not_false, Bool.true_eq_false, Bool.false_eq_true, eq_self, List.isEmpty_cons, List.isEmpty_nil, Nat.reduceMul, decide_true, decide_false, i_is_integer, t_is_integer, i_is_within, t_is_within, i_floors, t_floors, i_divisors_sum, t_divisors_sum, i__law_start, t__law_start, i__law_draw, t__law_draw, i__law_pick, t__law_pick, i__law_same, t__law_same, i__law_raised, t__law_raised, i__law_floor_sum, t__law_floor_sum]
          intro p5 hp5
          simp only [sAug, wChain, iadd_int, isub_int, sSeq, sNext, sRet, sRetN, sIf, sSet, sPar, sExpr, sRaise, sAsg, sBrk, sCnt, gPut, Tg.put, Tgs.put, gSubG, gTupG, gsCons, gsNil, oPut, wVar, wLit, w1, w2, wN, wNil, wCons, wTru, wAsT, wNotT, wAndT, wOrT, wAnd, wOr, wNot, wIfE, wCallF, fill, wLc, wipeE, wItems, wSl, wPart, wNoPart, wRange1, wRange2, sFor, startD, endF, En.turn, tr_non, tr_bl, tr_int, tr_str, tr_tup, tr_lst, tr_ref, add_int, add_str, add_tup, add_lst, sub_int, mul_int, div_int, mod_int, pow_int, neg_int, eq_int, eq_str, eq_tup, eq_lst, eq_non, eq_bl, ne_int, ne_str, ne_tup, ne_lst, ne_non, ne_bl, lt_int, le_int, gt_int, ge_int, oIs, oIsNot, D.isNon, oTup, oLst, oLstM, len_tup, len_lst, len_scr, len_ref, lenD, abs_int, int_int, int_bl, max_ii, min_ii, max_l, min_l, sum_l, all_l, any_l, tup_t, tup_l, lst_t, lst_l, ix_tup, ix_lst, ix_ref, sl_tup, sl_lst, sl_scr, it_lst, it_tup, it_scr, ints_nil, ints_cons, bols_nil, bols_cons, is_t, oListM, mupd_same, mupd_twice, sFrz, ix60, ix61, ix62, ix63, ix64, ix65, at0, at1, at2, at3, at4, at5, atm1, List.map_cons, List.map_nil, List.cons_append, List.nil_append, List.append_nil, List.getElem?_cons_zero, List.getElem?_cons_succ, List.getElem?_nil, List.length_cons, List.length_nil, List.set_cons_zero, List.set_cons_succ, List.replicate, List.zip_cons_cons, List.zip_nil_right, List.foldl_cons, List.foldl_nil, Option.map_some, Option.bind_some, Nat.reduceAdd, Nat.reduceSub, Nat.zero_add, Nat.sub_self, Nat.add_one_sub_one, Nat.reduceEqDiff, Nat.reduceLT, Nat.reduceLeDiff, Int.reduceLT, Int.reduceLE, Int.reduceNeg, Int.reduceToNat, Int.toNat_zero, Int.toNat_one, Int.reduceEq, reduceIte, if_true, if_false, ite_true, ite_false, true_and, and_true, Bool.not_true, Bool.not_false, Bool.true_eq_false, Bool.false_eq_true, eq_self, List.isEmpty_cons, List.isEmpty_nil, Nat.reduceMul, decide_true, decide_false, ix43, mdel_put hp5]
          refine raised_in i_divisors_sum (by decide) (by show 1 ≤ 4; decide) (by show 4 ≤ 6; decide) rfl rfl rfl ?_
          refine (hqs q List.mem_cons_self _ _ _ ⟨by decide, ?_⟩).2
          refine arg_same (by decide +kernel) ?_
          simp only [sAug, wChain, iadd_int, isub_int, sSeq, sNext, sRet, sRetN, sIf, sSet, sPar, sExpr, sRaise, sAsg, sBrk, sCnt, gPut, Tg.put, Tgs.put, gSubG, gTupG, gsCons, gsNil, oPut, wVar, wLit, w1, w2, wN, wNil, wCons, wTru, wAsT, wNotT, wAndT, wOrT, wAnd, wOr, wNot, wIfE, wCallF, fill, wLc, wipeE, wItems, wSl, wPart, wNoPart, wRange1, wRange2, sFor, startD, endF, En.turn, tr_non, tr_bl, tr_int, tr_str, tr_tup, tr_lst, tr_ref, add_int, add_str, add_tup, add_lst, sub_int, mul_int, div_int, mod_int, pow_int, neg_int, eq_int, eq_str, eq_tup, eq_lst, eq_non, eq_bl, ne_int, ne_str, ne_tup, ne_lst, ne_non, ne_bl, lt_int, le_int, gt_int, ge_int, oIs, oIsNot, D.isNon, oTup, oLst, oLstM, len_tup, len_lst, len_scr, len_ref, lenD, abs_int, int_int, int_bl, max_ii, min_ii, max_l, min_l, sum_l, all_l, any_l, tup_t, tup_l, lst_t, lst_l, ix_tup, ix_lst, ix_ref, sl_tup, sl_lst, sl_scr, it_lst, it_tup, it_scr, ints_nil, ints_cons, bols_nil, bols_cons, is_t, oListM, mupd_same, mupd_twice, sFrz, ix60, ix61, ix62, ix63, ix64, ix65, at0, at1, at2, at3, at4, at5, atm1, List.map_cons, List.map_nil, List.cons_append, List.nil_append, List.append_nil, List.getElem?_cons_zero, List.getElem?_cons_succ, List.getElem?_nil, List.length_cons, List.length_nil, List.set_cons_zero, List.set_cons_succ, List.replicate, List.zip_cons_cons, List.zip_nil_right, List.foldl_cons, List.foldl_nil, Option.map_some, Option.bind_some, Nat.reduceAdd, Nat.reduceSub, Nat.zero_add, Nat.sub_self, Nat.add_one_sub_one, Nat.reduceEqDiff, Nat.reduceLT, Nat.reduceLeDiff, Int.reduceLT, Int.reduceLE, Int.reduceNeg, Int.reduceToNat, Int.toNat_zero, Int.toNat_one, Int.reduceEq, reduceIte, if_true, if_false, ite_true, ite_false, true_and, and_true, Bool.not_true, Bool.not_false, Bool.true_eq_false, Bool.false_eq_true, eq_self, List.isEmpty_cons, List.isEmpty_nil, Nat.reduceMul, decide_true, decide_false]
          exact hN' _ _ ⟨fun z hz => hqs z (List.mem_cons_of_mem _ hz), _, _, _, _, _, _, _, _, _, _, rfl⟩
        · intro q hq M Q Z hz
          simp only [List.mem_cons, List.not_mem_nil, or_false] at hq
          rcases hq with rfl | rfl | rfl <;> exact ⟨rfl, rfl, rfl, rfl, rfl, by first | exact hz | (unfold dsum; dsimp only; rw [if_pos (by decide), if_pos (by decide)]; exact hz)⟩
    · rintro d ds ρ M' ⟨n, x2, x3, x4, x5, x6, x7, x8, x9, xa, xb, xc, hs, hc, rfl⟩ N hN
      refine gput_go ?_
      have hc2 : n + 20 * ds.length + 20 ≤ 1000 := by simp only [List.length_cons] at hc; omega
      refine seq_go fun K1 hK1 => ?_
      try simp only [sAug, wChain, iadd_int, isub_int, sSeq, sNext, sRet, sRetN, sIf, sSet, sPar, sExpr, sRaise, sAsg, sBrk, sCnt, gPut, Tg.put, Tgs.put, gSubG, gTupG, gsCons, gsNil, oPut, wVar, wLit, w1, w2, wN, wNil, wCons, wTru, wAsT, wNotT, wAndT, wOrT, wAnd, wOr, wNot, wIfE, wCallF, fill, wLc, wipeE, wItems, wSl, wPart, wNoPart, wRange1, wRange2, sFor, startD, endF, En.turn, tr_non, tr_bl, tr_int, tr_str, tr_tup, tr_lst, tr_ref, add_int, add_str, add_tup, add_lst, sub_int, mul_int, div_int, mod_int, pow_int, neg_int, eq_int, eq_str, eq_tup, eq_lst, eq_non, eq_bl, ne_int, ne_str, ne_tup, ne_lst, ne_non, ne_bl, lt_int, le_int, gt_int, ge_int, oIs, oIsNot, D.isNon, oTup, oLst, oLstM, len_tup, len_lst, len_scr, len_ref, lenD, abs_int, int_int, int_bl, max_ii, min_ii, max_l, min_l, sum_l, all_l, any_l, tup_t, tup_l, lst_t, lst_l, ix_tup, ix_lst, ix_ref, sl_tup, sl_lst, sl_scr, it_lst, it_tup, it_scr, ints_nil, ints_cons, bols_nil, bols_cons, is_t, oListM, mupd_same, mupd_twice, sFrz, ix60, ix61, ix62, ix63, ix64, ix65, at0, at1, at2, at3, at4, at5, atm1, List.map_cons, List.map_nil, List.cons_append, List.nil_append, List.append_nil, List.getElem?_cons_zero, List.getElem?_cons_succ, List.getElem?_nil, List.length_cons, List.length_nil, List.set_cons_zero, List.set_cons_succ, List.replicate, List.zip_cons_cons, List.zip_nil_right, List.foldl_cons, List.foldl_nil, Option.map_some, Option.bind_some, Nat.reduceAdd, Nat.reduceSub, Nat.zero_add, Nat.sub_self, Nat.add_one_sub_one, Nat.reduceEqDiff, Nat.reduceLT, Nat.reduceLeDiff, Int.reduceLT, Int.reduceLE, Int.reduceNeg, Int.reduceToNat, Int.toNat_zero, Int.toNat_one, Int.reduceEq, reduceIte, if_true, if_false, ite_true, ite_false, true_and, and_true, Bool.not_true, Bool.not_false, Bool.true_eq_false, Bool.false_eq_true, eq_self, List.isEmpty_cons, List.isEmpty_nil, Nat.reduceMul, decide_true, decide_false, i_is_integer, t_is_integer, i_is_within, t_is_within, i_floors, t_floors, i_divisors_sum, t_divisors_sum, i__law_start, t__law_start, i__law_draw, t__law_draw, i__law_pick, t__law_pick, i__law_same, t__law_same, i__law_raised, t__law_raised, i__law_floor_sum, t__law_floor_sum]
      refine ⟨n, hs, by omega, by omega, Bd.mono (k := 10) (by unfold Bd; decide) (by decide), fun n0 o1 n00 n01 hs => ?_⟩
      generalize mupd M' p o1 = M1 at *
      try simp only [sAug, wChain, iadd_int, isub_int, sSeq, sNext, sRet, sRetN, sIf, sSet, sPar, sExpr, sRaise, sAsg, sBrk, sCnt, gPut, Tg.put, Tgs.put, gSubG, gTupG, gsCons, gsNil, oPut, wVar, wLit, w1, w2, wN, wNil, wCons, wTru, wAsT, wNotT, wAndT, wOrT, wAnd, wOr, wNot, wIfE, wCallF, fill, wLc, wipeE, wItems, wSl, wPart, wNoPart, wRange1, wRange2, sFor, startD, endF, En.turn, tr_non, tr_bl, tr_int, tr_str, tr_tup, tr_lst, tr_ref, add_int, add_str, add_tup, add_lst, sub_int, mul_int, div_int, mod_int, pow_int, neg_int, eq_int, eq_str, eq_tup, eq_lst, eq_non, eq_bl, ne_int, ne_str, ne_tup, ne_lst, ne_non, ne_bl, lt_int, le_int, gt_int, ge_int, oIs, oIsNot, D.isNon, oTup, oLst, oLstM, len_tup, len_lst, len_scr, len_ref, lenD, abs_int, int_int, int_bl, max_ii, min_ii, max_l, min_l, sum_l, all_l, any_l, tup_t, tup_l, lst_t, lst_l, ix_tup, ix_lst, ix_ref, sl_tup, sl_lst, sl_scr, it_lst, it_tup, it_scr, ints_nil, ints_cons, bols_nil, bols_cons, is_t, oListM, mupd_same, mupd_twice, sFrz, ix60, ix61, ix62, ix63, ix64, ix65, at0, at1, at2, at3, at4, at5, atm1, List.map_cons, List.map_nil, List.cons_append, List.nil_append, List.append_nil, List.getElem?_cons_zero, List.getElem?_cons_succ, List.getElem?_nil, List.length_cons, List.length_nil, List.set_cons_zero, List.set_cons_succ, List.replicate, List.zip_cons_cons, List.zip_nil_right, List.foldl_cons, List.foldl_nil, Option.map_some, Option.bind_some, Nat.reduceAdd, Nat.reduceSub, Nat.zero_add, Nat.sub_self, Nat.add_one_sub_one, Nat.reduceEqDiff, Nat.reduceLT, Nat.reduceLeDiff, Int.reduceLT, Int.reduceLE, Int.reduceNeg, Int.reduceToNat, Int.toNat_zero, Int.toNat_one, Int.reduceEq, reduceIte, if_true, if_false, ite_true, ite_false, true_and, and_true, Bool.not_true, Bool.not_false, Bool.true_eq_false, Bool.false_eq_true, eq_self, List.isEmpty_cons, List.isEmpty_nil, Nat.reduceMul, decide_true, decide_false, i_is_integer, t_is_integer, i_is_within, t_is_within, i_floors, t_floors, i_divisors_sum, t_divisors_sum, i__law_start, t__law_start, i__law_draw, t__law_draw, i__law_pick, t__law_pick, i__law_same, t__law_same, i__law_raised, t__law_raised, i__law_floor_sum, t__law_floor_sum]
      refine ⟨n + 1, hs, by omega, by omega, Bd.mono (k := 10) (by unfold Bd; decide) (by decide), fun p0 o1 p00 p01 hs => ?_⟩
      generalize mupd M1 p o1 = M2 at *
      try simp only [sAug, wChain, iadd_int, isub_int, sSeq, sNext, sRet, sRetN, sIf, sSet, sPar, sExpr, sRaise, sAsg, sBrk, sCnt, gPut, Tg.put, Tgs.put, gSubG, gTupG, gsCons, gsNil, oPut, wVar, wLit, w1, w2, wN, wNil, wCons, wTru, wAsT, wNotT, wAndT, wOrT, wAnd, wOr, wNot, wIfE, wCallF, fill, wLc, wipeE, wItems, wSl, wPart, wNoPart, wRange1, wRange2, sFor, startD, endF, En.turn, tr_non, tr_bl, tr_int, tr_str, tr_tup, tr_lst, tr_ref, add_int, add_str, add_tup, add_lst, sub_int, mul_int, div_int, mod_int, pow_int, neg_int, eq_int, eq_str, eq_tup, eq_lst, eq_non, eq_bl, ne_int, ne_str, ne_tup, ne_lst, ne_non, ne_bl, lt_int, le_int, gt_int, ge_int, oIs, oIsNot, D.isNon, oTup, oLst, oLstM, len_tup, len_lst, len_scr, len_ref, lenD, abs_int, int_int, int_bl, max_ii, min_ii, max_l, min_l, sum_l, all_l, any_l, tup_t, tup_l, lst_t, lst_l, ix_tup, ix_lst, ix_ref, sl_tup, sl_lst, sl_scr, it_lst, it_tup, it_scr, ints_nil, ints_cons, bols_nil, bols_cons, is_t, oListM, mupd_same, mupd_twice, sFrz, ix60, ix61, ix62, ix63, ix64, ix65, at0, at1, at2, at3, at4, at5, atm1, List.map_cons, List.map_nil, List.cons_append, List.nil_append, List.append_nil, List.getElem?_cons_zero, List.getElem?_cons_succ, List.getElem?_nil, List.length_cons, List.length_nil, List.set_cons_zero, List.set_cons_succ, List.replicate, List.zip_cons_cons, List.zip_nil_right, List.foldl_cons, List.foldl_nil, Option.map_some, Option.bind_some, Nat.reduceAdd, Nat.reduceSub, Nat.zero_add, Nat.sub_self, Nat.add_one_sub_one, Nat.reduceEqDiff, Nat.reduceLT, Nat.reduceLeDiff, Int.reduceLT, Int.reduceLE, Int.reduceNeg, Int.reduceToNat, Int.toNat_zero, Int.toNat_one, Int.reduceEq, reduceIte, if_true, if_false, ite_true, ite_false, true_and, and_true, Bool.not_true, Bool.not_false, Bool.true_eq_false, Bool.false_eq_true, eq_self, List.isEmpty_cons, List.isEmpty_nil, Nat.reduceMul, decide_true, decide_false, i_is_integer, t_is_integer, i_is_within, t_is_within, i_floors, t_floors, i_divisors_sum, t_divisors_sum, i__law_start, t__law_start, i__law_draw, t__law_draw, i__law_pick, t__law_pick, i__law_same, t__law_same, i__law_raised, t__law_raised, i__law_floor_sum, t__law_floor_sum]
      refine ⟨n + 2, hs, by omega, by omega, Bd.mono (k := 10) (by unfold Bd; decide) (by decide), fun q0 o1 q00 q01 hs => ?_⟩
      generalize mupd M2 p o1 = M3 at *
      try simp only [sAug, wChain, iadd_int, isub_int, sSeq, sNext, sRet, sRetN, sIf, sSet, sPar, sExpr, sRaise, sAsg, sBrk, sCnt, gPut, Tg.put, Tgs.put, gSubG, gTupG, gsCons, gsNil, oPut, wVar, wLit, w1, w2, wN, wNil, wCons, wTru, wAsT, wNotT, wAndT, wOrT, wAnd, wOr, wNot, wIfE, wCallF, fill, wLc, wipeE, wItems, wSl, wPart, wNoPart, wRange1, wRange2, sFor, startD, endF, En.turn, tr_non, tr_bl, tr_int, tr_str, tr_tup, tr_lst, tr_ref, add_int, add_str, add_tup, add_lst, sub_int, mul_int, div_int, mod_int, pow_int, neg_int, eq_int, eq_str, eq_tup, eq_lst, eq_non, eq_bl, ne_int, ne_str, ne_tup, ne_lst, ne_non, ne_bl, lt_int, le_int, gt_int, ge_int, oIs, oIsNot, D.isNon, oTup, oLst, oLstM, len_tup, len_lst, len_scr, len_ref, lenD, abs_int, int_int, int_bl, max_ii, min_ii, max_l, min_l, sum_l, all_l, any_l, tup_t, tup_l, lst_t, lst_l, ix_tup, ix_lst, ix_ref, sl_tup, sl_lst, sl_scr, it_lst, it_tup, it_scr, ints_nil, ints_cons, bols_nil, bols_cons, is_t, oListM, mupd_same, mupd_twice, sFrz, ix60, ix61, ix62, ix63, ix64, ix65, at0, at1, at2, at3, at4, at5, atm1, List.map_cons, List.map_nil, List.cons_append, List.nil_append, List.append_nil, List.getElem?_cons_zero, List.getElem?_cons_succ, List.getElem?_nil, List.length_cons, List.length_nil, List.set_cons_zero, List.set_cons_succ, List.replicate, List.zip_cons_cons, List.zip_nil_right, List.foldl_cons, List.foldl_nil, Option.map_some, Option.bind_some, Nat.reduceAdd, Nat.reduceSub, Nat.zero_add, Nat.sub_self, Nat.add_one_sub_one, Nat.reduceEqDiff, Nat.reduceLT, Nat.reduceLeDiff, Int.reduceLT, Int.reduceLE, Int.reduceNeg, Int.reduceToNat, Int.toNat_zero, Int.toNat_one, Int.reduceEq, reduceIte, if_true, if_false, ite_true, ite_false, true_and, and_true, Bool.not_true, Bool.not_false, Bool.true_eq_false, Bool.false_eq_true, eq_self, List.isEmpty_cons, List.isEmpty_nil, Nat.reduceMul, decide_true, decide_false, i_is_integer, t_is_integer, i_is_within, t_is_within, i_floors, t_floors, i_divisors_sum, t_divisors_sum, i__law_start, t__law_start, i__law_draw, t__law_draw, i__law_pick, t__law_pick, i__law_same, t__law_same, i__law_raised, t__law_raised, i__law_floor_sum, t__law_floor_sum]
      refine ⟨n + 3, hs, by omega, by omega, Bd.mono (k := 10) (by unfold Bd; decide) (by decide), fun r0 o1 r00 r01 hs => ?_⟩
      generalize mupd M3 p o1 = M4 at *
      try simp only [sAug, wChain, iadd_int, isub_int, sSeq, sNext, sRet, sRetN, sIf, sSet, sPar, sExpr, sRaise, sAsg, sBrk, sCnt, gPut, Tg.put, Tgs.put, gSubG, gTupG, gsCons, gsNil, oPut, wVar, wLit, w1, w2, wN, wNil, wCons, wTru, wAsT, wNotT, wAndT, wOrT, wAnd, wOr, wNot, wIfE, wCallF, fill, wLc, wipeE, wItems, wSl, wPart, wNoPart, wRange1, wRange2, sFor, startD, endF, En.turn, tr_non, tr_bl, tr_int, tr_str, tr_tup, tr_lst, tr_ref, add_int, add_str, add_tup, add_lst, sub_int, mul_int, div_int, mod_int, pow_int, neg_int, eq_int, eq_str, eq_tup, eq_lst, eq_non, eq_bl, ne_int, ne_str, ne_tup, ne_lst, ne_non, ne_bl, lt_int, le_int, gt_int, ge_int, oIs, oIsNot, D.isNon, oTup, oLst, oLstM, len_tup, len_lst, len_scr, len_ref, lenD, abs_int, int_int, int_bl, max_ii, min_ii, max_l, min_l, sum_l, all_l, any_l, tup_t, tup_l, lst_t, lst_l, ix_tup, ix_lst, ix_ref, sl_tup, sl_lst, sl_scr, it_lst, it_tup, it_scr, ints_nil, ints_cons, bols_nil, bols_cons, is_t, oListM, mupd_same, mupd_twice, sFrz, ix60, ix61, ix62, ix63, ix64, ix65, at0, at1, at2, at3, at4, at5, atm1, List.map_cons, List.map_nil, List.cons_append, List.nil_append, List.append_nil, List.getElem?_cons_zero, List.getElem?_cons_succ, List.getElem?_nil, List.length_cons, List.length_nil, List.set_cons_zero, List.set_cons_succ, List.replicate, List.zip_cons_cons, List.zip_nil_right, List.foldl_cons, List.foldl_nil, Option.map_some, Option.bind_some, Nat.reduceAdd, Nat.reduceSub, Nat.zero_add, Nat.sub_self, Nat.add_one_sub_one, Nat.reduceEqDiff, Nat.reduceLT, Nat.reduceLeDiff, Int.reduceLT, Int.reduceLE, Int.reduceNeg, Int.reduceToNat, Int.toNat_zero, Int.toNat_one, Int.reduceEq, reduceIte, if_true, if_false, ite_true, ite_false, true_and, and_true, Bool.not_true, Bool.not_false, Bool.true_eq_false, Bool.false_eq_true, eq_self, List.isEmpty_cons, List.isEmpty_nil, Nat.reduceMul, decide_true, decide_false, i_is_integer, t_is_integer, i_is_within, t_is_within, i_floors, t_floors, i_divisors_sum, t_divisors_sum, i__law_start, t__law_start, i__law_draw, t__law_draw, i__law_pick, t__law_pick, i__law_same, t__law_same, i__law_raised, t__law_raised, i__law_floor_sum, t__law_floor_sum]
      have bn : Bd 10 n0 := Bd.rng (by have : (2 : Int) ^ 10 = 1024 := by decide
                                       omega) (by have : (2 : Int) ^ 10 = 1024 := by decide
                                                  omega)
      have bp : Bd 10 (p0 - 100) := Bd.rng (by have : (2 : Int) ^ 10 = 1024 := by decide
                                               omega) (by have : (2 : Int) ^ 10 = 1024 := by decide
                                                          omega)
      have bq : Bd 10 (1 + q0) := Bd.rng (by have : (2 : Int) ^ 10 = 1024 := by decide
                                             omega) (by have : (2 : Int) ^ 10 = 1024 := by decide
                                                        omega)
      have br : Bd 10 (r0 - 200) := Bd.rng (by have : (2 : Int) ^ 10 = 1024 := by decide
                                               omega) (by have : (2 : Int) ^ 10 = 1024 := by decide
                                                          omega)
      have hq0 : 0 < 1 + q0 := by omega
      generalize p0 - 100 = p1 at *
      generalize 1 + q0 = q1 at *
      generalize r0 - 200 = r1 at *
      subst hK1
      refine seq_go fun K2 hK2 => ?_
      try simp only [sAug, wChain, iadd_int, isub_int, sSeq, sNext, sRet, sRetN, sIf, sSet, sPar, sExpr, sRaise, sAsg, sBrk, sCnt, gPut, Tg.put, Tgs.put, gSubG, gTupG, gsCons, gsNil, oPut, wVar, wLit, w1, w2, wN, wNil, wCons, wTru, wAsT, wNotT, wAndT, wOrT, wAnd, wOr, wNot, wIfE, wCallF, fill, wLc, wipeE, wItems, wSl, wPart, wNoPart, wRange1, wRange2, sFor, startD, endF, En.turn, tr_non, tr_bl, tr_int, tr_str, tr_tup, tr_lst, tr_ref, add_int, add_str, add_tup, add_lst, sub_int, mul_int, div_int, mod_int, pow_int, neg_int, eq_int, eq_str, eq_tup, eq_lst, eq_non, eq_bl, ne_int, ne_str, ne_tup, ne_lst, ne_non, ne_bl, lt_int, le_int, gt_int, ge_int, oIs, oIsNot, D.isNon, oTup, oLst, oLstM, len_tup, len_lst, len_scr, len_ref, lenD, abs_int, int_int, int_bl, max_ii, min_ii, max_l, min_l, sum_l, all_l, any_l, tup_t, tup_l, lst_t, lst_l, ix_tup, ix_lst, ix_ref, sl_tup, sl_lst, sl_scr, it_lst, it_tup, it_scr, ints_nil, ints_cons, bols_nil, bols_cons, is_t, oListM, mupd_same, mupd_twice, sFrz, ix60, ix61, ix62, ix63, ix64, ix65, at0, at1, at2, at3, at4, at5, atm1, List.map_cons, List.map_nil, List.cons_append, List.nil_append, List.append_nil, List.getElem?_cons_zero, List.getElem?_cons_succ, List.getElem?_nil, List.length_cons, List.length_nil, List.set_cons_zero, List.set_cons_succ, List.replicate, List.zip_cons_cons, List.zip_nil_right, List.foldl_cons, List.foldl_nil, Option.map_some, Option.bind_some, Nat.reduceAdd, Nat.reduceSub, Nat.zero_add, Nat.sub_self, Nat.add_one_sub_one, Nat.reduceEqDiff, Nat.reduceLT, Nat.reduceLeDiff, Int.reduceLT, Int.reduceLE, Int.reduceNeg, Int.reduceToNat, Int.toNat_zero, Int.toNat_one, Int.reduceEq, reduceIte, if_true, if_false, ite_true, ite_false, true_and, and_true, Bool.not_true, Bool.not_false, Bool.true_eq_false, Bool.false_eq_true, eq_self, List.isEmpty_cons, List.isEmpty_nil, Nat.reduceMul, decide_true, decide_false, i_is_integer, t_is_integer, i_is_within, t_is_within, i_floors, t_floors, i_divisors_sum, t_divisors_sum, i__law_start, t__law_start, i__law_draw, t__law_draw, i__law_pick, t__law_pick, i__law_same, t__law_same, i__law_raised, t__law_raised, i__law_floor_sum, t__law_floor_sum]
      have c30 : (10 : Int) ^ 30 = 1000000000000000000000000000000 := by decide
      have t62 : (2 : Int) ^ 62 = 4611686018427387904 := by decide
      obtain ⟨m0, rfl⟩ := Int.eq_ofNat_of_zero_le n00
      refine dsum_in n00 (by omega) hq0 ⟨bn.mono (by decide), bp.mono (by decide), bq.mono (by decide), br.mono (by decide)⟩ ?_
      try simp only [sAug, wChain, iadd_int, isub_int, sSeq, sNext, sRet, sRetN, sIf, sSet, sPar, sExpr, sRaise, sAsg, sBrk, sCnt, gPut, Tg.put, Tgs.put, gSubG, gTupG, gsCons, gsNil, oPut, wVar, wLit, w1, w2, wN, wNil, wCons, wTru, wAsT, wNotT, wAndT, wOrT, wAnd, wOr, wNot, wIfE, wCallF, fill, wLc, wipeE, wItems, wSl, wPart, wNoPart, wRange1, wRange2, sFor, startD, endF, En.turn, tr_non, tr_bl, tr_int, tr_str, tr_tup, tr_lst, tr_ref, add_int, add_str, add_tup, add_lst, sub_int, mul_int, div_int, mod_int, pow_int, neg_int, eq_int, eq_str, eq_tup, eq_lst, eq_non, eq_bl, ne_int, ne_str, ne_tup, ne_lst, ne_non, ne_bl, lt_int, le_int, gt_int, ge_int, oIs, oIsNot, D.isNon, oTup, oLst, oLstM, len_tup, len_lst, len_scr, len_ref, lenD, abs_int, int_int, int_bl, max_ii, min_ii, max_l, min_l, sum_l, all_l, any_l, tup_t, tup_l, lst_t, lst_l, ix_tup, ix_lst, ix_ref, sl_tup, sl_lst, sl_scr, it_lst, it_tup, it_scr, ints_nil, ints_cons, bols_nil, bols_cons, is_t, oListM, mupd_same, mupd_twice, sFrz, ix60, ix61, ix62, ix63, ix64, ix65, at0, at1, at2, at3, at4, at5, atm1, List.map_cons, List.map_nil, List.cons_append, List.nil_append, List.append_nil, List.getElem?_cons_zero, List.getElem?_cons_succ, List.getElem?_nil, List.length_cons, List.length_nil, List.set_cons_zero, List.set_cons_succ, List.replicate, List.zip_cons_cons, List.zip_nil_right, List.foldl_cons, List.foldl_nil, Option.map_some, Option.bind_some, Nat.reduceAdd, Nat.reduceSub, Nat.zero_add, Nat.sub_self, Nat.add_one_sub_one, Nat.reduceEqDiff, Nat.reduceLT, Nat.reduceLeDiff, Int.reduceLT, Int.reduceLE, Int.reduceNeg, Int.reduceToNat, Int.toNat_zero, Int.toNat_one, Int.reduceEq, reduceIte, if_true, if_false, ite_true, ite_false, true_and, and_true, Bool.not_true, Bool.not_false, Bool.true_eq_false, Bool.false_eq_true, eq_self, List.isEmpty_cons, List.isEmpty_nil, Nat.reduceMul, decide_true, decide_false, i_is_integer, t_is_integer, i_is_within, t_is_within, i_floors, t_floors, i_divisors_sum, t_divisors_sum, i__law_start, t__law_start, i__law_draw, t__law_draw, i__law_pick, t__law_pick, i__law_same, t__law_same, i__law_raised, t__law_raised, i__law_floor_sum, t__law_floor_sum]
      refine ⟨⟨by omega, by omega⟩, ?_⟩
      refine lc_all (fun d => match d with | .int x => D.int ((p1 * x + r1).fdiv q1) | d => d) ?_ ?_ ?_ ?_
      · rw [rangeD_len]; omega
      · exact fun _ _ => trivial
      · intro d hd
        unfold rangeD at hd
        obtain ⟨k, hk, rfl⟩ := List.mem_map.mp hd
        have hk' := List.mem_range.mp hk
        have bk : Bd 10 (0 + (k : Int)) := Bd.rng (by have : (2 : Int) ^ 10 = 1024 := by decide
                                                      omega) (by have : (2 : Int) ^ 10 = 1024 := by decide
                                                                 omega)
        refine ⟨_, rfl, fun M' _ R r => ?_⟩
        try simp only [sAug, wChain, iadd_int, isub_int, sSeq, sNext, sRet, sRetN, sIf, sSet, sPar, sExpr, sRaise, sAsg, sBrk, sCnt, gPut, Tg.put, Tgs.put, gSubG, gTupG, gsCons, gsNil, oPut, wVar, wLit, w1, w2, wN, wNil, wCons, wTru, wAsT, wNotT, wAndT, wOrT, wAnd, wOr, wNot, wIfE, wCallF, fill, wLc, wipeE, wItems, wSl, wPart, wNoPart, wRange1, wRange2, sFor, startD, endF, En.turn, tr_non, tr_bl, tr_int, tr_str, tr_tup, tr_lst, tr_ref, add_int, add_str, add_tup, add_lst, sub_int, mul_int, div_int, mod_int, pow_int, neg_int, eq_int, eq_str, eq_tup, eq_lst, eq_non, eq_bl, ne_int, ne_str, ne_tup, ne_lst, ne_non, ne_bl, lt_int, le_int, gt_int, ge_int, oIs, oIsNot, D.isNon, oTup, oLst, oLstM, len_tup, len_lst, len_scr, len_ref, lenD, abs_int, int_int, int_bl, max_ii, min_ii, max_l, min_l, sum_l, all_l, any_l, tup_t, tup_l, lst_t, lst_l, ix_tup, ix_lst, ix_ref, sl_tup, sl_lst, sl_scr, it_lst, it_tup, it_scr, ints_nil, ints_cons, bols_nil, bols_cons, is_t, oListM, mupd_same, mupd_twice, sFrz, ix60, ix61, ix62, ix63, ix64, ix65, at0, at1, at2, at3, at4, at5, atm1, List.map_cons, List.map_nil, List.cons_append, List.nil_append, List.append_nil, List.getElem?_cons_zero, List.getElem?_cons_succ, List.getElem?_nil, List.length_cons, List.length_nil, List.set_cons_zero, List.set_cons_succ, List.replicate, List.zip_cons_cons, List.zip_nil_right, List.foldl_cons, List.foldl_nil, Option.map_some, Option.bind_some, Nat.reduceAdd, Nat.reduceSub, Nat.zero_add, Nat.sub_self, Nat.add_one_sub_one, Nat.reduceEqDiff, Nat.reduceLT, Nat.reduceLeDiff, Int.reduceLT, Int.reduceLE, Int.reduceNeg, Int.reduceToNat, Int.toNat_zero, Int.toNat_one, Int.reduceEq, reduceIte, if_true, if_false, ite_true, ite_false, true_and, and_true, Bool.not_true, Bool.not_false, Bool.true_eq_false, Bool.false_eq_true, eq_self, List.isEmpty_cons, List.isEmpty_nil, Nat.reduceMul, decide_true, decide_false]
        exact ⟨cMul_of bp bk (by decide), cDiv_of bq (Int.ne_of_gt hq0) (by decide), r⟩
      intro p2 hp2
      rw [sum_FS p1 q1 r1 hq0 m0]
      simp only [intsOf_map, sAug, wChain, iadd_int, isub_int, sSeq, sNext, sRet, sRetN, sIf, sSet, sPar, sExpr, sRaise, sAsg, sBrk, sCnt, gPut, Tg.put, Tgs.put, gSubG, gTupG, gsCons, gsNil, oPut, wVar, wLit, w1, w2, wN, wNil, wCons, wTru, wAsT, wNotT, wAndT, wOrT, wAnd, wOr, wNot, wIfE, wCallF, fill, wLc, wipeE, wItems, wSl, wPart, wNoPart, wRange1, wRange2, sFor, startD, endF, En.turn, tr_non, tr_bl, tr_int, tr_str, tr_tup, tr_lst, tr_ref, add_int, add_str, add_tup, add_lst, sub_int, mul_int, div_int, mod_int, pow_int, neg_int, eq_int, eq_str, eq_tup, eq_lst, eq_non, eq_bl, ne_int, ne_str, ne_tup, ne_lst, ne_non, ne_bl, lt_int, le_int, gt_int, ge_int, oIs, oIsNot, D.isNon, oTup, oLst, oLstM, len_tup, len_lst, len_scr, len_ref, lenD, abs_int, int_int, int_bl, max_ii, min_ii, max_l, min_l, sum_l, all_l, any_l, tup_t, tup_l, lst_t, lst_l, ix_tup, ix_lst, ix_ref, sl_tup, sl_lst, sl_scr, it_lst, it_tup, it_scr, ints_nil, ints_cons, bols_nil, bols_cons, is_t, oListM, mupd_same, mupd_twice, sFrz, ix60, ix61, ix62, ix63, ix64, ix65, at0, at1, at2, at3, at4, at5, atm1, List.map_cons, List.map_nil, List.cons_append, List.nil_append, List.append_nil, List.getElem?_cons_zero, List.getElem?_cons_succ, List.getElem?_nil, List.length_cons, List.length_nil, List.set_cons_zero, List.set_cons_succ, List.replicate, List.zip_cons_cons, List.zip_nil_right, List.foldl_cons, List.foldl_nil, Option.map_some, Option.bind_some, Nat.reduceAdd, Nat.reduceSub, Nat.zero_add, Nat.sub_self, Nat.add_one_sub_one, Nat.reduceEqDiff, Nat.reduceLT, Nat.reduceLeDiff, Int.reduceLT, Int.reduceLE, Int.reduceNeg, Int.reduceToNat, Int.toNat_zero, Int.toNat_one, Int.reduceEq, reduceIte, if_true, if_false, ite_true, ite_false, true_and, and_true, Bool.not_true, Bool.not_false, Bool.true_eq_false, Bool.false_eq_true, eq_self, List.isEmpty_cons, List.isEmpty_nil, Nat.reduceMul, decide_true, decide_false, mdel_put hp2, range_sum, Int.toNat_natCast]
      have bF : Bd 1900 (FS m0 p1 q1 r1) := Bd.mono (k := 30) (by
        have := FS_bd hq0 bp br m0 (by omega)
        unfold Bd
        have e : m0 * 2 ^ 20 ≤ 64 * 2 ^ 20 := Nat.mul_le_mul_right _ (by omega)
        omega) (by decide)
      refine same_in (shw_int bF) ?_
      try simp only [sAug, wChain, iadd_int, isub_int, sSeq, sNext, sRet, sRetN, sIf, sSet, sPar, sExpr, sRaise, sAsg, sBrk, sCnt, gPut, Tg.put, Tgs.put, gSubG, gTupG, gsCons, gsNil, oPut, wVar, wLit, w1, w2, wN, wNil, wCons, wTru, wAsT, wNotT, wAndT, wOrT, wAnd, wOr, wNot, wIfE, wCallF, fill, wLc, wipeE, wItems, wSl, wPart, wNoPart, wRange1, wRange2, sFor, startD, endF, En.turn, tr_non, tr_bl, tr_int, tr_str, tr_tup, tr_lst, tr_ref, add_int, add_str, add_tup, add_lst, sub_int, mul_int, div_int, mod_int, pow_int, neg_int, eq_int, eq_str, eq_tup, eq_lst, eq_non, eq_bl, ne_int, ne_str, ne_tup, ne_lst, ne_non, ne_bl, lt_int, le_int, gt_int, ge_int, oIs, oIsNot, D.isNon, oTup, oLst, oLstM, len_tup, len_lst, len_scr, len_ref, lenD, abs_int, int_int, int_bl, max_ii, min_ii, max_l, min_l, sum_l, all_l, any_l, tup_t, tup_l, lst_t, lst_l, ix_tup, ix_lst, ix_ref, sl_tup, sl_lst, sl_scr, it_lst, it_tup, it_scr, ints_nil, ints_cons, bols_nil, bols_cons, is_t, oListM, mupd_same, mupd_twice, sFrz, ix60, ix61, ix62, ix63, ix64, ix65, at0, at1, at2, at3, at4, at5, atm1, List.map_cons, List.map_nil, List.cons_append, List.nil_append, List.append_nil, List.getElem?_cons_zero, List.getElem?_cons_succ, List.getElem?_nil, List.length_cons, List.length_nil, List.set_cons_zero, List.set_cons_succ, List.replicate, List.zip_cons_cons, List.zip_nil_right, List.foldl_cons, List.foldl_nil, Option.map_some, Option.bind_some, Nat.reduceAdd, Nat.reduceSub, Nat.zero_add, Nat.sub_self, Nat.add_one_sub_one, Nat.reduceEqDiff, Nat.reduceLT, Nat.reduceLeDiff, Int.reduceLT, Int.reduceLE, Int.reduceNeg, Int.reduceToNat, Int.toNat_zero, Int.toNat_one, Int.reduceEq, reduceIte, if_true, if_false, ite_true, ite_false, true_and, and_true, Bool.not_true, Bool.not_false, Bool.true_eq_false, Bool.false_eq_true, eq_self, List.isEmpty_cons, List.isEmpty_nil, Nat.reduceMul, decide_true, decide_false, i_is_integer, t_is_integer, i_is_within, t_is_within, i_floors, t_floors, i_divisors_sum, t_divisors_sum, i__law_start, t__law_start, i__law_draw, t__law_draw, i__law_pick, t__law_pick, i__law_same, t__law_same, i__law_raised, t__law_raised, i__law_floor_sum, t__law_floor_sum]
      clear bF bn bp bq br hq0 n00 n01 r00 r01
      subst hK2
      refine seq_go fun K3 hK3 => ?_
      try simp only [sAug, wChain, iadd_int, isub_int, sSeq, sNext, sRet, sRetN, sIf, sSet, sPar, sExpr, sRaise, sAsg, sBrk, sCnt, gPut, Tg.put, Tgs.put, gSubG, gTupG, gsCons, gsNil, oPut, wVar, wLit, w1, w2, wN, wNil, wCons, wTru, wAsT, wNotT, wAndT, wOrT, wAnd, wOr, wNot, wIfE, wCallF, fill, wLc, wipeE, wItems, wSl, wPart, wNoPart, wRange1, wRange2, sFor, startD, endF, En.turn, tr_non, tr_bl, tr_int, tr_str, tr_tup, tr_lst, tr_ref, add_int, add_str, add_tup, add_lst, sub_int, mul_int, div_int, mod_int, pow_int, neg_int, eq_int, eq_str, eq_tup, eq_lst, eq_non, eq_bl, ne_int, ne_str, ne_tup, ne_lst, ne_non, ne_bl, lt_int, le_int, gt_int, ge_int, oIs, oIsNot, D.isNon, oTup, oLst, oLstM, len_tup, len_lst, len_scr, len_ref, lenD, abs_int, int_int, int_bl, max_ii, min_ii, max_l, min_l, sum_l, all_l, any_l, tup_t, tup_l, lst_t, lst_l, ix_tup, ix_lst, ix_ref, sl_tup, sl_lst, sl_scr, it_lst, it_tup, it_scr, ints_nil, ints_cons, bols_nil, bols_cons, is_t, oListM, mupd_same, mupd_twice, sFrz, ix60, ix61, ix62, ix63, ix64, ix65, at0, at1, at2, at3, at4, at5, atm1, List.map_cons, List.map_nil, List.cons_append, List.nil_append, List.append_nil, List.getElem?_cons_zero, List.getElem?_cons_succ, List.getElem?_nil, List.length_cons, List.length_nil, List.set_cons_zero, List.set_cons_succ, List.replicate, List.zip_cons_cons, List.zip_nil_right, List.foldl_cons, List.foldl_nil, Option.map_some, Option.bind_some, Nat.reduceAdd, Nat.reduceSub, Nat.zero_add, Nat.sub_self, Nat.add_one_sub_one, Nat.reduceEqDiff, Nat.reduceLT, Nat.reduceLeDiff, Int.reduceLT, Int.reduceLE, Int.reduceNeg, Int.reduceToNat, Int.toNat_zero, Int.toNat_one, Int.reduceEq, reduceIte, if_true, if_false, ite_true, ite_false, true_and, and_true, Bool.not_true, Bool.not_false, Bool.true_eq_false, Bool.false_eq_true, eq_self, List.isEmpty_cons, List.isEmpty_nil, Nat.reduceMul, decide_true, decide_false, i_is_integer, t_is_integer, i_is_within, t_is_within, i_floors, t_floors, i_divisors_sum, t_divisors_sum, i__law_start, t__law_start, i__law_draw, t__law_draw, i__law_pick, t__law_pick, i__law_same, t__law_same, i__law_raised, t__law_raised, i__law_floor_sum, t__law_floor_sum]
      have cp : L2.CPow 10 6 ∧ L2.CPow 10 18 ∧ L2.CPow 10 30 := ⟨⟨by decide, by decide, by decide⟩, ⟨by decide, by decide, by decide⟩, ⟨by decide, by decide, by decide⟩⟩
      refine ⟨cp.1, cp.2.1, cp.2.2, n + 4, hs, by omega, by simp, by simp, fun x o1 hx hs => ?_⟩
      obtain ⟨g, rfl, g0, g1⟩ : ∃ g : Int, x = .int g ∧ 0 < g ∧ g < 10 ^ 30 := by
        simp only [List.mem_cons, List.not_mem_nil, or_false] at hx
        rcases hx with rfl | rfl | rfl
        · exact ⟨_, rfl, by decide, by decide⟩
        · exact ⟨_, rfl, by decide, by decide⟩
        · exact ⟨_, rfl, by decide, by decide⟩
      clear hx
      generalize mupd M4 p o1 = M5 at *
      subst hK3
      refine seq_go fun K4 hK4 => ?_
      try simp only [sAug, wChain, iadd_int, isub_int, sSeq, sNext, sRet, sRetN, sIf, sSet, sPar, sExpr, sRaise, sAsg, sBrk, sCnt, gPut, Tg.put, Tgs.put, gSubG, gTupG, gsCons, gsNil, oPut, wVar, wLit, w1, w2, wN, wNil, wCons, wTru, wAsT, wNotT, wAndT, wOrT, wAnd, wOr, wNot, wIfE, wCallF, fill, wLc, wipeE, wItems, wSl, wPart, wNoPart, wRange1, wRange2, sFor, startD, endF, En.turn, tr_non, tr_bl, tr_int, tr_str, tr_tup, tr_lst, tr_ref, add_int, add_str, add_tup, add_lst, sub_int, mul_int, div_int, mod_int, pow_int, neg_int, eq_int, eq_str, eq_tup, eq_lst, eq_non, eq_bl, ne_int, ne_str, ne_tup, ne_lst, ne_non, ne_bl, lt_int, le_int, gt_int, ge_int, oIs, oIsNot, D.isNon, oTup, oLst, oLstM, len_tup, len_lst, len_scr, len_ref, lenD, abs_int, int_int, int_bl, max_ii, min_ii, max_l, min_l, sum_l, all_l, any_l, tup_t, tup_l, lst_t, lst_l, ix_tup, ix_lst, ix_ref, sl_tup, sl_lst, sl_scr, it_lst, it_tup, it_scr, ints_nil, ints_cons, bols_nil, bols_cons, is_t, oListM, mupd_same, mupd_twice, sFrz, ix60, ix61, ix62, ix63, ix64, ix65, at0, at1, at2, at3, at4, at5, atm1, List.map_cons, List.map_nil, List.cons_append, List.nil_append, List.append_nil, List.getElem?_cons_zero, List.getElem?_cons_succ, List.getElem?_nil, List.length_cons, List.length_nil, List.set_cons_zero, List.set_cons_succ, List.replicate, List.zip_cons_cons, List.zip_nil_right, List.foldl_cons, List.foldl_nil, Option.map_some, Option.bind_some, Nat.reduceAdd, Nat.reduceSub, Nat.zero_add, Nat.sub_self, Nat.add_one_sub_one, Nat.reduceEqDiff, Nat.reduceLT, Nat.reduceLeDiff, Int.reduceLT, Int.reduceLE, Int.reduceNeg, Int.reduceToNat, Int.toNat_zero, Int.toNat_one, Int.reduceEq, reduceIte, if_true, if_false, ite_true, ite_false, true_and, and_true, Bool.not_true, Bool.not_false, Bool.true_eq_false, Bool.false_eq_true, eq_self, List.isEmpty_cons, List.isEmpty_nil, Nat.reduceMul, decide_true, decide_false, i_is_integer, t_is_integer, i_is_within, t_is_within, i_floors, t_floors, i_divisors_sum, t_divisors_sum, i__law_start, t__law_start, i__law_draw, t__law_draw, i__law_pick, t__law_pick, i__law_same, t__law_same, i__law_raised, t__law_raised, i__law_floor_sum, t__law_floor_sum]
      have t100 : (10 : Int) ^ 30 < 2 ^ 100 := by decide
      have bg : Bd 100 g := Bd.nat (by omega) (by omega)
      have bg2 : Bd 103 (2 * g + 1) := ((Bd.mul (k := 2) (by unfold Bd; decide) bg).add (l := 1) (by unfold Bd; decide)).mono (by decide)
      have cg : cMul 2 g := cMul_of (k := 2) (by unfold Bd; decide) bg (by decide)
      refine ⟨n + 5, hs, by omega, g0, bg.mono (by decide), fun n1 o1 n10 n11 hs => ?_⟩
      generalize mupd M5 p o1 = M6 at *
      try simp only [sAug, wChain, iadd_int, isub_int, sSeq, sNext, sRet, sRetN, sIf, sSet, sPar, sExpr, sRaise, sAsg, sBrk, sCnt, gPut, Tg.put, Tgs.put, gSubG, gTupG, gsCons, gsNil, oPut, wVar, wLit, w1, w2, wN, wNil, wCons, wTru, wAsT, wNotT, wAndT, wOrT, wAnd, wOr, wNot, wIfE, wCallF, fill, wLc, wipeE, wItems, wSl, wPart, wNoPart, wRange1, wRange2, sFor, startD, endF, En.turn, tr_non, tr_bl, tr_int, tr_str, tr_tup, tr_lst, tr_ref, add_int, add_str, add_tup, add_lst, sub_int, mul_int, div_int, mod_int, pow_int, neg_int, eq_int, eq_str, eq_tup, eq_lst, eq_non, eq_bl, ne_int, ne_str, ne_tup, ne_lst, ne_non, ne_bl, lt_int, le_int, gt_int, ge_int, oIs, oIsNot, D.isNon, oTup, oLst, oLstM, len_tup, len_lst, len_scr, len_ref, lenD, abs_int, int_int, int_bl, max_ii, min_ii, max_l, min_l, sum_l, all_l, any_l, tup_t, tup_l, lst_t, lst_l, ix_tup, ix_lst, ix_ref, sl_tup, sl_lst, sl_scr, it_lst, it_tup, it_scr, ints_nil, ints_cons, bols_nil, bols_cons, is_t, oListM, mupd_same, mupd_twice, sFrz, ix60, ix61, ix62, ix63, ix64, ix65, at0, at1, at2, at3, at4, at5, atm1, List.map_cons, List.map_nil, List.cons_append, List.nil_append, List.append_nil, List.getElem?_cons_zero, List.getElem?_cons_succ, List.getElem?_nil, List.length_cons, List.length_nil, List.set_cons_zero, List.set_cons_succ, List.replicate, List.zip_cons_cons, List.zip_nil_right, List.foldl_cons, List.foldl_nil, Option.map_some, Option.bind_some, Nat.reduceAdd, Nat.reduceSub, Nat.zero_add, Nat.sub_self, Nat.add_one_sub_one, Nat.reduceEqDiff, Nat.reduceLT, Nat.reduceLeDiff, Int.reduceLT, Int.reduceLE, Int.reduceNeg, Int.reduceToNat, Int.toNat_zero, Int.toNat_one, Int.reduceEq, reduceIte, if_true, if_false, ite_true, ite_false, true_and, and_true, Bool.not_true, Bool.not_false, Bool.true_eq_false, Bool.false_eq_true, eq_self, List.isEmpty_cons, List.isEmpty_nil, Nat.reduceMul, decide_true, decide_false, i_is_integer, t_is_integer, i_is_within, t_is_within, i_floors, t_floors, i_divisors_sum, t_divisors_sum, i__law_start, t__law_start, i__law_draw, t__law_draw, i__law_pick, t__law_pick, i__law_same, t__law_same, i__law_raised, t__law_raised, i__law_floor_sum, t__law_floor_sum]
      refine ⟨cg, n + 6, hs, by omega, by omega, bg2.mono (by decide), fun p3 o1 p30 p31 hs => ?_⟩
      generalize mupd M6 p o1 = M7 at *
      try simp only [sAug, wChain, iadd_int, isub_int, sSeq, sNext, sRet, sRetN, sIf, sSet, sPar, sExpr, sRaise, sAsg, sBrk, sCnt, gPut, Tg.put, Tgs.put, gSubG, gTupG, gsCons, gsNil, oPut, wVar, wLit, w1, w2, wN, wNil, wCons, wTru, wAsT, wNotT, wAndT, wOrT, wAnd, wOr, wNot, wIfE, wCallF, fill, wLc, wipeE, wItems, wSl, wPart, wNoPart, wRange1, wRange2, sFor, startD, endF, En.turn, tr_non, tr_bl, tr_int, tr_str, tr_tup, tr_lst, tr_ref, add_int, add_str, add_tup, add_lst, sub_int, mul_int, div_int, mod_int, pow_int, neg_int, eq_int, eq_str, eq_tup, eq_lst, eq_non, eq_bl, ne_int, ne_str, ne_tup, ne_lst, ne_non, ne_bl, lt_int, le_int, gt_int, ge_int, oIs, oIsNot, D.isNon, oTup, oLst, oLstM, len_tup, len_lst, len_scr, len_ref, lenD, abs_int, int_int, int_bl, max_ii, min_ii, max_l, min_l, sum_l, all_l, any_l, tup_t, tup_l, lst_t, lst_l, ix_tup, ix_lst, ix_ref, sl_tup, sl_lst, sl_scr, it_lst, it_tup, it_scr, ints_nil, ints_cons, bols_nil, bols_cons, is_t, oListM, mupd_same, mupd_twice, sFrz, ix60, ix61, ix62, ix63, ix64, ix65, at0, at1, at2, at3, at4, at5, atm1, List.map_cons, List.map_nil, List.cons_append, List.nil_append, List.append_nil, List.getElem?_cons_zero, List.getElem?_cons_succ, List.getElem?_nil, List.length_cons, List.length_nil, List.set_cons_zero, List.set_cons_succ, List.replicate, List.zip_cons_cons, List.zip_nil_right, List.foldl_cons, List.foldl_nil, Option.map_some, Option.bind_some, Nat.reduceAdd, Nat.reduceSub, Nat.zero_add, Nat.sub_self, Nat.add_one_sub_one, Nat.reduceEqDiff, Nat.reduceLT, Nat.reduceLeDiff, Int.reduceLT, Int.reduceLE, Int.reduceNeg, Int.reduceToNat, Int.toNat_zero, Int.toNat_one, Int.reduceEq, reduceIte, if_true, if_false, ite_true, ite_false, true_and, and_true, Bool.not_true, Bool.not_false, Bool.true_eq_false, Bool.false_eq_true, eq_self, List.isEmpty_cons, List.isEmpty_nil, Nat.reduceMul, decide_true, decide_false, i_is_integer, t_is_integer, i_is_within, t_is_within, i_floors, t_floors, i_divisors_sum, t_divisors_sum, i__law_start, t__law_start, i__law_draw, t__law_draw, i__law_pick, t__law_pick, i__law_same, t__law_same, i__law_raised, t__law_raised, i__law_floor_sum, t__law_floor_sum]
      refine ⟨n + 7, hs, by omega, g0, bg.mono (by decide), fun q3 o1 q30 q31 hs => ?_⟩
      generalize mupd M7 p o1 = M8 at *
      try simp only [sAug, wChain, iadd_int, isub_int, sSeq, sNext, sRet, sRetN, sIf, sSet, sPar, sExpr, sRaise, sAsg, sBrk, sCnt, gPut, Tg.put, Tgs.put, gSubG, gTupG, gsCons, gsNil, oPut, wVar, wLit, w1, w2, wN, wNil, wCons, wTru, wAsT, wNotT, wAndT, wOrT, wAnd, wOr, wNot, wIfE, wCallF, fill, wLc, wipeE, wItems, wSl, wPart, wNoPart, wRange1, wRange2, sFor, startD, endF, En.turn, tr_non, tr_bl, tr_int, tr_str, tr_tup, tr_lst, tr_ref, add_int, add_str, add_tup, add_lst, sub_int, mul_int, div_int, mod_int, pow_int, neg_int, eq_int, eq_str, eq_tup, eq_lst, eq_non, eq_bl, ne_int, ne_str, ne_tup, ne_lst, ne_non, ne_bl, lt_int, le_int, gt_int, ge_int, oIs, oIsNot, D.isNon, oTup, oLst, oLstM, len_tup, len_lst, len_scr, len_ref, lenD, abs_int, int_int, int_bl, max_ii, min_ii, max_l, min_l, sum_l, all_l, any_l, tup_t, tup_l, lst_t, lst_l, ix_tup, ix_lst, ix_ref, sl_tup, sl_lst, sl_scr, it_lst, it_tup, it_scr, ints_nil, ints_cons, bols_nil, bols_cons, is_t, oListM, mupd_same, mupd_twice, sFrz, ix60, ix61, ix62, ix63, ix64, ix65, at0, at1, at2, at3, at4, at5, atm1, List.map_cons, List.map_nil, List.cons_append, List.nil_append, List.append_nil, List.getElem?_cons_zero, List.getElem?_cons_succ, List.getElem?_nil, List.length_cons, List.length_nil, List.set_cons_zero, List.set_cons_succ, List.replicate, List.zip_cons_cons, List.zip_nil_right, List.foldl_cons, List.foldl_nil, Option.map_some, Option.bind_some, Nat.reduceAdd, Nat.reduceSub, Nat.zero_add, Nat.sub_self, Nat.add_one_sub_one, Nat.reduceEqDiff, Nat.reduceLT, Nat.reduceLeDiff, Int.reduceLT, Int.reduceLE, Int.reduceNeg, Int.reduceToNat, Int.toNat_zero, Int.toNat_one, Int.reduceEq, reduceIte, if_true, if_false, ite_true, ite_false, true_and, and_true, Bool.not_true, Bool.not_false, Bool.true_eq_false, Bool.false_eq_true, eq_self, List.isEmpty_cons, List.isEmpty_nil, Nat.reduceMul, decide_true, decide_false, i_is_integer, t_is_integer, i_is_within, t_is_within, i_floors, t_floors, i_divisors_sum, t_divisors_sum, i__law_start, t__law_start, i__law_draw, t__law_draw, i__law_pick, t__law_pick, i__law_same, t__law_same, i__law_raised, t__law_raised, i__law_floor_sum, t__law_floor_sum]
      refine ⟨cg, n + 8, hs, by omega, by omega, bg2.mono (by decide), fun r3 o1 r30 r31 hs => ?_⟩
      generalize mupd M8 p o1 = M9 at *
      try simp only [sAug, wChain, iadd_int, isub_int, sSeq, sNext, sRet, sRetN, sIf, sSet, sPar, sExpr, sRaise, sAsg, sBrk, sCnt, gPut, Tg.put, Tgs.put, gSubG, gTupG, gsCons, gsNil, oPut, wVar, wLit, w1, w2, wN, wNil, wCons, wTru, wAsT, wNotT, wAndT, wOrT, wAnd, wOr, wNot, wIfE, wCallF, fill, wLc, wipeE, wItems, wSl, wPart, wNoPart, wRange1, wRange2, sFor, startD, endF, En.turn, tr_non, tr_bl, tr_int, tr_str, tr_tup, tr_lst, tr_ref, add_int, add_str, add_tup, add_lst, sub_int, mul_int, div_int, mod_int, pow_int, neg_int, eq_int, eq_str, eq_tup, eq_lst, eq_non, eq_bl, ne_int, ne_str, ne_tup, ne_lst, ne_non, ne_bl, lt_int, le_int, gt_int, ge_int, oIs, oIsNot, D.isNon, oTup, oLst, oLstM, len_tup, len_lst, len_scr, len_ref, lenD, abs_int, int_int, int_bl, max_ii, min_ii, max_l, min_l, sum_l, all_l, any_l, tup_t, tup_l, lst_t, lst_l, ix_tup, ix_lst, ix_ref, sl_tup, sl_lst, sl_scr, it_lst, it_tup, it_scr, ints_nil, ints_cons, bols_nil, bols_cons, is_t, oListM, mupd_same, mupd_twice, sFrz, ix60, ix61, ix62, ix63, ix64, ix65, at0, at1, at2, at3, at4, at5, atm1, List.map_cons, List.map_nil, List.cons_append, List.nil_append, List.append_nil, List.getElem?_cons_zero, List.getElem?_cons_succ, List.getElem?_nil, List.length_cons, List.length_nil, List.set_cons_zero, List.set_cons_succ, List.replicate, List.zip_cons_cons, List.zip_nil_right, List.foldl_cons, List.foldl_nil, Option.map_some, Option.bind_some, Nat.reduceAdd, Nat.reduceSub, Nat.zero_add, Nat.sub_self, Nat.add_one_sub_one, Nat.reduceEqDiff, Nat.reduceLT, Nat.reduceLeDiff, Int.reduceLT, Int.reduceLE, Int.reduceNeg, Int.reduceToNat, Int.toNat_zero, Int.toNat_one, Int.reduceEq, reduceIte, if_true, if_false, ite_true, ite_false, true_and, and_true, Bool.not_true, Bool.not_false, Bool.true_eq_false, Bool.false_eq_true, eq_self, List.isEmpty_cons, List.isEmpty_nil, Nat.reduceMul, decide_true, decide_false, i_is_integer, t_is_integer, i_is_within, t_is_within, i_floors, t_floors, i_divisors_sum, t_divisors_sum, i__law_start, t__law_start, i__law_draw, t__law_draw, i__law_pick, t__law_pick, i__law_same, t__law_same, i__law_raised, t__law_raised, i__law_floor_sum, t__law_floor_sum]
      have t101 : (2 : Int) ^ 101 = 2 ^ 100 * 2 := by decide
      have bn : Bd 101 n1 := Bd.rng (by omega) (by omega)
      have bp : Bd 101 (p3 - g) := Bd.rng (by omega) (by omega)
      have bq : Bd 101 (1 + q3) := Bd.rng (by omega) (by omega)
      have br : Bd 101 (r3 - g) := Bd.rng (by omega) (by omega)
      have hq1 : 0 < 1 + q3 := by omega
      have hn1 : n1 ≤ 10 ^ 30 := by omega
      generalize p3 - g = P at *
      generalize 1 + q3 = q at *
      generalize r3 - g = r at *
      clear g0 g1 bg bg2 cg n11 t100 t101
      obtain ⟨m, rfl⟩ := Int.eq_ofNat_of_zero_le n10
      have hB : B4 (m : Int) P q r := ⟨bn.mono (by decide), bp.mono (by decide), bq.mono (by decide), br.mono (by decide)⟩
      subst hK4
      refine seq_go fun K5 hK5 => ?_
      try simp only [sAug, wChain, iadd_int, isub_int, sSeq, sNext, sRet, sRetN, sIf, sSet, sPar, sExpr, sRaise, sAsg, sBrk, sCnt, gPut, Tg.put, Tgs.put, gSubG, gTupG, gsCons, gsNil, oPut, wVar, wLit, w1, w2, wN, wNil, wCons, wTru, wAsT, wNotT, wAndT, wOrT, wAnd, wOr, wNot, wIfE, wCallF, fill, wLc, wipeE, wItems, wSl, wPart, wNoPart, wRange1, wRange2, sFor, startD, endF, En.turn, tr_non, tr_bl, tr_int, tr_str, tr_tup, tr_lst, tr_ref, add_int, add_str, add_tup, add_lst, sub_int, mul_int, div_int, mod_int, pow_int, neg_int, eq_int, eq_str, eq_tup, eq_lst, eq_non, eq_bl, ne_int, ne_str, ne_tup, ne_lst, ne_non, ne_bl, lt_int, le_int, gt_int, ge_int, oIs, oIsNot, D.isNon, oTup, oLst, oLstM, len_tup, len_lst, len_scr, len_ref, lenD, abs_int, int_int, int_bl, max_ii, min_ii, max_l, min_l, sum_l, all_l, any_l, tup_t, tup_l, lst_t, lst_l, ix_tup, ix_lst, ix_ref, sl_tup, sl_lst, sl_scr, it_lst, it_tup, it_scr, ints_nil, ints_cons, bols_nil, bols_cons, is_t, oListM, mupd_same, mupd_twice, sFrz, ix60, ix61, ix62, ix63, ix64, ix65, at0, at1, at2, at3, at4, at5, atm1, List.map_cons, List.map_nil, List.cons_append, List.nil_append, List.append_nil, List.getElem?_cons_zero, List.getElem?_cons_succ, List.getElem?_nil, List.length_cons, List.length_nil, List.set_cons_zero, List.set_cons_succ, List.replicate, List.zip_cons_cons, List.zip_nil_right, List.foldl_cons, List.foldl_nil, Option.map_some, Option.bind_some, Nat.reduceAdd, Nat.reduceSub, Nat.zero_add, Nat.sub_self, Nat.add_one_sub_one, Nat.reduceEqDiff, Nat.reduceLT, Nat.reduceLeDiff, Int.reduceLT, Int.reduceLE, Int.reduceNeg, Int.reduceToNat, Int.toNat_zero, Int.toNat_one, Int.reduceEq, reduceIte, if_true, if_false, ite_true, ite_false, true_and, and_true, Bool.not_true, Bool.not_false, Bool.true_eq_false, Bool.false_eq_true, eq_self, List.isEmpty_cons, List.isEmpty_nil, Nat.reduceMul, decide_true, decide_false, i_is_integer, t_is_integer, i_is_within, t_is_within, i_floors, t_floors, i_divisors_sum, t_divisors_sum, i__law_start, t__law_start, i__law_draw, t__law_draw, i__law_pick, t__law_pick, i__law_same, t__law_same, i__law_raised, t__law_raised, i__law_floor_sum, t__law_floor_sum]
      refine dsum_in n10 hn1 hq1 hB ?_
      try simp only [sAug, wChain, iadd_int, isub_int, sSeq, sNext, sRet, sRetN, sIf, sSet, sPar, sExpr, sRaise, sAsg, sBrk, sCnt, gPut, Tg.put, Tgs.put, gSubG, gTupG, gsCons, gsNil, oPut, wVar, wLit, w1, w2, wN, wNil, wCons, wTru, wAsT, wNotT, wAndT, wOrT, wAnd, wOr, wNot, wIfE, wCallF, fill, wLc, wipeE, wItems, wSl, wPart, wNoPart, wRange1, wRange2, sFor, startD, endF, En.turn, tr_non, tr_bl, tr_int, tr_str, tr_tup, tr_lst, tr_ref, add_int, add_str, add_tup, add_lst, sub_int, mul_int, div_int, mod_int, pow_int, neg_int, eq_int, eq_str, eq_tup, eq_lst, eq_non, eq_bl, ne_int, ne_str, ne_tup, ne_lst, ne_non, ne_bl, lt_int, le_int, gt_int, ge_int, oIs, oIsNot, D.isNon, oTup, oLst, oLstM, len_tup, len_lst, len_scr, len_ref, lenD, abs_int, int_int, int_bl, max_ii, min_ii, max_l, min_l, sum_l, all_l, any_l, tup_t, tup_l, lst_t, lst_l, ix_tup, ix_lst, ix_ref, sl_tup, sl_lst, sl_scr, it_lst, it_tup, it_scr, ints_nil, ints_cons, bols_nil, bols_cons, is_t, oListM, mupd_same, mupd_twice, sFrz, ix60, ix61, ix62, ix63, ix64, ix65, at0, at1, at2, at3, at4, at5, atm1, List.map_cons, List.map_nil, List.cons_append, List.nil_append, List.append_nil, List.getElem?_cons_zero, List.getElem?_cons_succ, List.getElem?_nil, List.length_cons, List.length_nil, List.set_cons_zero, List.set_cons_succ, List.replicate, List.zip_cons_cons, List.zip_nil_right, List.foldl_cons, List.foldl_nil, Option.map_some, Option.bind_some, Nat.reduceAdd, Nat.reduceSub, Nat.zero_add, Nat.sub_self, Nat.add_one_sub_one, Nat.reduceEqDiff, Nat.reduceLT, Nat.reduceLeDiff, Int.reduceLT, Int.reduceLE, Int.reduceNeg, Int.reduceToNat, Int.toNat_zero, Int.toNat_one, Int.reduceEq, reduceIte, if_true, if_false, ite_true, ite_false, true_and, and_true, Bool.not_true, Bool.not_false, Bool.true_eq_false, Bool.false_eq_true, eq_self, List.isEmpty_cons, List.isEmpty_nil, Nat.reduceMul, decide_true, decide_false, i_is_integer, t_is_integer, i_is_within, t_is_within, i_floors, t_floors, i_divisors_sum, t_divisors_sum, i__law_start, t__law_start, i__law_draw, t__law_draw, i__law_pick, t__law_pick, i__law_same, t__law_same, i__law_raised, t__law_raised, i__law_floor_sum, t__law_floor_sum]
      refine ⟨n + 9, hs, by omega, by omega, Bd.mono (k := 103) ((bn.add (l := 1) (by unfold Bd; decide)).mono (by decide)) (by decide), fun k o1 k0 k1 hs => ?_⟩
      generalize mupd M9 p o1 = M10 at *
      try simp only [sAug, wChain, iadd_int, isub_int, sSeq, sNext, sRet, sRetN, sIf, sSet, sPar, sExpr, sRaise, sAsg, sBrk, sCnt, gPut, Tg.put, Tgs.put, gSubG, gTupG, gsCons, gsNil, oPut, wVar, wLit, w1, w2, wN, wNil, wCons, wTru, wAsT, wNotT, wAndT, wOrT, wAnd, wOr, wNot, wIfE, wCallF, fill, wLc, wipeE, wItems, wSl, wPart, wNoPart, wRange1, wRange2, sFor, startD, endF, En.turn, tr_non, tr_bl, tr_int, tr_str, tr_tup, tr_lst, tr_ref, add_int, add_str, add_tup, add_lst, sub_int, mul_int, div_int, mod_int, pow_int, neg_int, eq_int, eq_str, eq_tup, eq_lst, eq_non, eq_bl, ne_int, ne_str, ne_tup, ne_lst, ne_non, ne_bl, lt_int, le_int, gt_int, ge_int, oIs, oIsNot, D.isNon, oTup, oLst, oLstM, len_tup, len_lst, len_scr, len_ref, lenD, abs_int, int_int, int_bl, max_ii, min_ii, max_l, min_l, sum_l, all_l, any_l, tup_t, tup_l, lst_t, lst_l, ix_tup, ix_lst, ix_ref, sl_tup, sl_lst, sl_scr, it_lst, it_tup, it_scr, ints_nil, ints_cons, bols_nil, bols_cons, is_t, oListM, mupd_same, mupd_twice, sFrz, ix60, ix61, ix62, ix63, ix64, ix65, at0, at1, at2, at3, at4, at5, atm1, List.map_cons, List.map_nil, List.cons_append, List.nil_append, List.append_nil, List.getElem?_cons_zero, List.getElem?_cons_succ, List.getElem?_nil, List.length_cons, List.length_nil, List.set_cons_zero, List.set_cons_succ, List.replicate, List.zip_cons_cons, List.zip_nil_right, List.foldl_cons, List.foldl_nil, Option.map_some, Option.bind_some, Nat.reduceAdd, Nat.reduceSub, Nat.zero_add, Nat.sub_self, Nat.add_one_sub_one, Nat.reduceEqDiff, Nat.reduceLT, Nat.reduceLeDiff, Int.reduceLT, Int.reduceLE, Int.reduceNeg, Int.reduceToNat, Int.toNat_zero, Int.toNat_one, Int.reduceEq, reduceIte, if_true, if_false, ite_true, ite_false, true_and, and_true, Bool.not_true, Bool.not_false, Bool.true_eq_false, Bool.false_eq_true, eq_self, List.isEmpty_cons, List.isEmpty_nil, Nat.reduceMul, decide_true, decide_false, i_is_integer, t_is_integer, i_is_within, t_is_within, i_floors, t_floors, i_divisors_sum, t_divisors_sum, i__law_start, t__law_start, i__law_draw, t__law_draw, i__law_pick, t__law_pick, i__law_same, t__law_same, i__law_raised, t__law_raised, i__law_floor_sum, t__law_floor_sum]
      obtain ⟨k, rfl⟩ := Int.eq_ofNat_of_zero_le k0
      have bk : Bd 101 (k : Int) := bn.of_le (by omega)
      have bPk : Bd 202 (P * k) := (bp.mul bk).mono (by decide)
      subst hK5
      refine seq_go fun K6 hK6 => ?_
      try simp only [sAug, wChain, iadd_int, isub_int, sSeq, sNext, sRet, sRetN, sIf, sSet, sPar, sExpr, sRaise, sAsg, sBrk, sCnt, gPut, Tg.put, Tgs.put, gSubG, gTupG, gsCons, gsNil, oPut, wVar, wLit, w1, w2, wN, wNil, wCons, wTru, wAsT, wNotT, wAndT, wOrT, wAnd, wOr, wNot, wIfE, wCallF, fill, wLc, wipeE, wItems, wSl, wPart, wNoPart, wRange1, wRange2, sFor, startD, endF, En.turn, tr_non, tr_bl, tr_int, tr_str, tr_tup, tr_lst, tr_ref, add_int, add_str, add_tup, add_lst, sub_int, mul_int, div_int, mod_int, pow_int, neg_int, eq_int, eq_str, eq_tup, eq_lst, eq_non, eq_bl, ne_int, ne_str, ne_tup, ne_lst, ne_non, ne_bl, lt_int, le_int, gt_int, ge_int, oIs, oIsNot, D.isNon, oTup, oLst, oLstM, len_tup, len_lst, len_scr, len_ref, lenD, abs_int, int_int, int_bl, max_ii, min_ii, max_l, min_l, sum_l, all_l, any_l, tup_t, tup_l, lst_t, lst_l, ix_tup, ix_lst, ix_ref, sl_tup, sl_lst, sl_scr, it_lst, it_tup, it_scr, ints_nil, ints_cons, bols_nil, bols_cons, is_t, oListM, mupd_same, mupd_twice, sFrz, ix60, ix61, ix62, ix63, ix64, ix65, at0, at1, at2, at3, at4, at5, atm1, List.map_cons, List.map_nil, List.cons_append, List.nil_append, List.append_nil, List.getElem?_cons_zero, List.getElem?_cons_succ, List.getElem?_nil, List.length_cons, List.length_nil, List.set_cons_zero, List.set_cons_succ, List.replicate, List.zip_cons_cons, List.zip_nil_right, List.foldl_cons, List.foldl_nil, Option.map_some, Option.bind_some, Nat.reduceAdd, Nat.reduceSub, Nat.zero_add, Nat.sub_self, Nat.add_one_sub_one, Nat.reduceEqDiff, Nat.reduceLT, Nat.reduceLeDiff, Int.reduceLT, Int.reduceLE, Int.reduceNeg, Int.reduceToNat, Int.toNat_zero, Int.toNat_one, Int.reduceEq, reduceIte, if_true, if_false, ite_true, ite_false, true_and, and_true, Bool.not_true, Bool.not_false, Bool.true_eq_false, Bool.false_eq_true, eq_self, List.isEmpty_cons, List.isEmpty_nil, Nat.reduceMul, decide_true, decide_false, i_is_integer, t_is_integer, i_is_within, t_is_within, i_floors, t_floors, i_divisors_sum, t_divisors_sum, i__law_start, t__law_start, i__law_draw, t__law_draw, i__law_pick, t__law_pick, i__law_same, t__law_same, i__law_raised, t__law_raised, i__law_floor_sum, t__law_floor_sum]
      refine dsum_in k0 (by omega) hq1 ⟨bk.mono (by decide), hB.2⟩ ?_
      try simp only [sAug, wChain, iadd_int, isub_int, sSeq, sNext, sRet, sRetN, sIf, sSet, sPar, sExpr, sRaise, sAsg, sBrk, sCnt, gPut, Tg.put, Tgs.put, gSubG, gTupG, gsCons, gsNil, oPut, wVar, wLit, w1, w2, wN, wNil, wCons, wTru, wAsT, wNotT, wAndT, wOrT, wAnd, wOr, wNot, wIfE, wCallF, fill, wLc, wipeE, wItems, wSl, wPart, wNoPart, wRange1, wRange2, sFor, startD, endF, En.turn, tr_non, tr_bl, tr_int, tr_str, tr_tup, tr_lst, tr_ref, add_int, add_str, add_tup, add_lst, sub_int, mul_int, div_int, mod_int, pow_int, neg_int, eq_int, eq_str, eq_tup, eq_lst, eq_non, eq_bl, ne_int, ne_str, ne_tup, ne_lst, ne_non, ne_bl, lt_int, le_int, gt_int, ge_int, oIs, oIsNot, D.isNon, oTup, oLst, oLstM, len_tup, len_lst, len_scr, len_ref, lenD, abs_int, int_int, int_bl, max_ii, min_ii, max_l, min_l, sum_l, all_l, any_l, tup_t, tup_l, lst_t, lst_l, ix_tup, ix_lst, ix_ref, sl_tup, sl_lst, sl_scr, it_lst, it_tup, it_scr, ints_nil, ints_cons, bols_nil, bols_cons, is_t, oListM, mupd_same, mupd_twice, sFrz, ix60, ix61, ix62, ix63, ix64, ix65, at0, at1, at2, at3, at4, at5, atm1, List.map_cons, List.map_nil, List.cons_append, List.nil_append, List.append_nil, List.getElem?_cons_zero, List.getElem?_cons_succ, List.getElem?_nil, List.length_cons, List.length_nil, List.set_cons_zero, List.set_cons_succ, List.replicate, List.zip_cons_cons, List.zip_nil_right, List.foldl_cons, List.foldl_nil, Option.map_some, Option.bind_some, Nat.reduceAdd, Nat.reduceSub, Nat.zero_add, Nat.sub_self, Nat.add_one_sub_one, Nat.reduceEqDiff, Nat.reduceLT, Nat.reduceLeDiff, Int.reduceLT, Int.reduceLE, Int.reduceNeg, Int.reduceToNat, Int.toNat_zero, Int.toNat_one, Int.reduceEq, reduceIte, if_true, if_false, ite_true, ite_false, true_and, and_true, Bool.not_true, Bool.not_false, Bool.true_eq_false, Bool.false_eq_true, eq_self, List.isEmpty_cons, List.isEmpty_nil, Nat.reduceMul, decide_true, decide_false, i_is_integer, t_is_integer, i_is_within, t_is_within, i_floors, t_floors, i_divisors_sum, t_divisors_sum, i__law_start, t__law_start, i__law_draw, t__law_draw, i__law_pick, t__law_pick, i__law_same, t__law_same, i__law_raised, t__law_raised, i__law_floor_sum, t__law_floor_sum]
      refine ⟨cMul_of bp bk (by decide), ?_⟩
      refine dsum_in (by omega) (by omega) hq1 ⟨(bn.sub bk).mono (by decide), hB.2.1, hB.2.2.1, (br.add bPk).mono (by decide)⟩ ?_
      have e1 : FS k P q r + FS ((m : Int) - k).toNat P q (r + P * k) = FS (m : Int).toNat P q r := by
        have := FS_split P q r k (m - k)
        rw [show k + (m - k) = m by omega] at this
        rw [Int.toNat_natCast, this, show ((m : Int) - k).toNat = m - k by omega]
      simp only [sAug, wChain, iadd_int, isub_int, sSeq, sNext, sRet, sRetN, sIf, sSet, sPar, sExpr, sRaise, sAsg, sBrk, sCnt, gPut, Tg.put, Tgs.put, gSubG, gTupG, gsCons, gsNil, oPut, wVar, wLit, w1, w2, wN, wNil, wCons, wTru, wAsT, wNotT, wAndT, wOrT, wAnd, wOr, wNot, wIfE, wCallF, fill, wLc, wipeE, wItems, wSl, wPart, wNoPart, wRange1, wRange2, sFor, startD, endF, En.turn, tr_non, tr_bl, tr_int, tr_str, tr_tup, tr_lst, tr_ref, add_int, add_str, add_tup, add_lst, sub_int, mul_int, div_int, mod_int, pow_int, neg_int, eq_int, eq_str, eq_tup, eq_lst, eq_non, eq_bl, ne_int, ne_str, ne_tup, ne_lst, ne_non, ne_bl, lt_int, le_int, gt_int, ge_int, oIs, oIsNot, D.isNon, oTup, oLst, oLstM, len_tup, len_lst, len_scr, len_ref, lenD, abs_int, int_int, int_bl, max_ii, min_ii, max_l, min_l, sum_l, all_l, any_l, tup_t, tup_l, lst_t, lst_l, ix_tup, ix_lst, ix_ref, sl_tup, sl_lst, sl_scr, it_lst, it_tup, it_scr, ints_nil, ints_cons, bols_nil, bols_cons, is_t, oListM, mupd_same, mupd_twice, sFrz, ix60, ix61, ix62, ix63, ix64, ix65, at0, at1, at2, at3, at4, at5, atm1, List.map_cons, List.map_nil, List.cons_append, List.nil_append, List.append_nil, List.getElem?_cons_zero, List.getElem?_cons_succ, List.getElem?_nil, List.length_cons, List.length_nil, List.set_cons_zero, List.set_cons_succ, List.replicate, List.zip_cons_cons, List.zip_nil_right, List.foldl_cons, List.foldl_nil, Option.map_some, Option.bind_some, Nat.reduceAdd, Nat.reduceSub, Nat.zero_add, Nat.sub_self, Nat.add_one_sub_one, Nat.reduceEqDiff, Nat.reduceLT, Nat.reduceLeDiff, Int.reduceLT, Int.reduceLE, Int.reduceNeg, Int.reduceToNat, Int.toNat_zero, Int.toNat_one, Int.reduceEq, reduceIte, if_true, if_false, ite_true, ite_false, true_and, and_true, Bool.not_true, Bool.not_false, Bool.true_eq_false, Bool.false_eq_true, eq_self, List.isEmpty_cons, List.isEmpty_nil, Nat.reduceMul, decide_true, decide_false, Int.toNat_natCast] at e1 ⊢
      rw [e1]
      simp only [sAug, wChain, iadd_int, isub_int, sSeq, sNext, sRet, sRetN, sIf, sSet, sPar, sExpr, sRaise, sAsg, sBrk, sCnt, gPut, Tg.put, Tgs.put, gSubG, gTupG, gsCons, gsNil, oPut, wVar, wLit, w1, w2, wN, wNil, wCons, wTru, wAsT, wNotT, wAndT, wOrT, wAnd, wOr, wNot, wIfE, wCallF, fill, wLc, wipeE, wItems, wSl, wPart, wNoPart, wRange1, wRange2, sFor, startD, endF, En.turn, tr_non, tr_bl, tr_int, tr_str, tr_tup, tr_lst, tr_ref, add_int, add_str, add_tup, add_lst, sub_int, mul_int, div_int, mod_int, pow_int, neg_int, eq_int, eq_str, eq_tup, eq_lst, eq_non, eq_bl, ne_int, ne_str, ne_tup, ne_lst, ne_non, ne_bl, lt_int, le_int, gt_int, ge_int, oIs, oIsNot, D.isNon, oTup, oLst, oLstM, len_tup, len_lst, len_scr, len_ref, lenD, abs_int, int_int, int_bl, max_ii, min_ii, max_l, min_l, sum_l, all_l, any_l, tup_t, tup_l, lst_t, lst_l, ix_tup, ix_lst, ix_ref, sl_tup, sl_lst, sl_scr, it_lst, it_tup, it_scr, ints_nil, ints_cons, bols_nil, bols_cons, is_t, oListM, mupd_same, mupd_twice, sFrz, ix60, ix61, ix62, ix63, ix64, ix65, at0, at1, at2, at3, at4, at5, atm1, List.map_cons, List.map_nil, List.cons_append, List.nil_append, List.append_nil, List.getElem?_cons_zero, List.getElem?_cons_succ, List.getElem?_nil, List.length_cons, List.length_nil, List.set_cons_zero, List.set_cons_succ, List.replicate, List.zip_cons_cons, List.zip_nil_right, List.foldl_cons, List.foldl_nil, Option.map_some, Option.bind_some, Nat.reduceAdd, Nat.reduceSub, Nat.zero_add, Nat.sub_self, Nat.add_one_sub_one, Nat.reduceEqDiff, Nat.reduceLT, Nat.reduceLeDiff, Int.reduceLT, Int.reduceLE, Int.reduceNeg, Int.reduceToNat, Int.toNat_zero, Int.toNat_one, Int.reduceEq, reduceIte, if_true, if_false, ite_true, ite_false, true_and, and_true, Bool.not_true, Bool.not_false, Bool.true_eq_false, Bool.false_eq_true, eq_self, List.isEmpty_cons, List.isEmpty_nil, Nat.reduceMul, decide_true, decide_false]
      have bn1 : Bd 102 ((m : Int) - 1) := (bn.sub (l := 1) (by unfold Bd; decide)).mono (by decide)
      have bpn : Bd 203 (P * ((m : Int) - 1)) := (bp.mul bn1).mono (by decide)
      have s2 : ∀ z : Int, z.fdiv 2 = z / 2 := fun z => Int.fdiv_eq_ediv_of_nonneg _ (by decide)
      have c2 : ∀ z, cDiv z 2 := fun z => cDiv_of (k := 2) (by unfold Bd; decide) (by decide) (by decide)
      have cq : ∀ z, cDiv z q := fun z => cDiv_of bq (Int.ne_of_gt hq1) (by decide)
      have fq : ∀ z : Int, z.fdiv q = z / q := fun z => Int.fdiv_eq_ediv_of_nonneg _ (Int.le_of_lt hq1)
      have r1' := FS_rev P q m r
      have r2' := FS_addq hq1 P r m
      have r3' := FS_addr hq1 P r m
      have r4' := FS_neg hq1 P r m
      generalize hW : FS m P q r = W at *
      subst hK6
      refine seq_go fun K7 hK7 => ?_
      try simp only [sAug, wChain, iadd_int, isub_int, sSeq, sNext, sRet, sRetN, sIf, sSet, sPar, sExpr, sRaise, sAsg, sBrk, sCnt, gPut, Tg.put, Tgs.put, gSubG, gTupG, gsCons, gsNil, oPut, wVar, wLit, w1, w2, wN, wNil, wCons, wTru, wAsT, wNotT, wAndT, wOrT, wAnd, wOr, wNot, wIfE, wCallF, fill, wLc, wipeE, wItems, wSl, wPart, wNoPart, wRange1, wRange2, sFor, startD, endF, En.turn, tr_non, tr_bl, tr_int, tr_str, tr_tup, tr_lst, tr_ref, add_int, add_str, add_tup, add_lst, sub_int, mul_int, div_int, mod_int, pow_int, neg_int, eq_int, eq_str, eq_tup, eq_lst, eq_non, eq_bl, ne_int, ne_str, ne_tup, ne_lst, ne_non, ne_bl, lt_int, le_int, gt_int, ge_int, oIs, oIsNot, D.isNon, oTup, oLst, oLstM, len_tup, len_lst, len_scr, len_ref, lenD, abs_int, int_int, int_bl, max_ii, min_ii, max_l, min_l, sum_l, all_l, any_l, tup_t, tup_l, lst_t, lst_l, ix_tup, ix_lst, ix_ref, sl_tup, sl_lst, sl_scr, it_lst, it_tup, it_scr, ints_nil, ints_cons, bols_nil, bols_cons, is_t, oListM, mupd_same, mupd_twice, sFrz, ix60, ix61, ix62, ix63, ix64, ix65, at0, at1, at2, at3, at4, at5, atm1, List.map_cons, List.map_nil, List.cons_append, List.nil_append, List.append_nil, List.getElem?_cons_zero, List.getElem?_cons_succ, List.getElem?_nil, List.length_cons, List.length_nil, List.set_cons_zero, List.set_cons_succ, List.replicate, List.zip_cons_cons, List.zip_nil_right, List.foldl_cons, List.foldl_nil, Option.map_some, Option.bind_some, Nat.reduceAdd, Nat.reduceSub, Nat.zero_add, Nat.sub_self, Nat.add_one_sub_one, Nat.reduceEqDiff, Nat.reduceLT, Nat.reduceLeDiff, Int.reduceLT, Int.reduceLE, Int.reduceNeg, Int.reduceToNat, Int.toNat_zero, Int.toNat_one, Int.reduceEq, reduceIte, if_true, if_false, ite_true, ite_false, true_and, and_true, Bool.not_true, Bool.not_false, Bool.true_eq_false, Bool.false_eq_true, eq_self, List.isEmpty_cons, List.isEmpty_nil, Nat.reduceMul, decide_true, decide_false, i_is_integer, t_is_integer, i_is_within, t_is_within, i_floors, t_floors, i_divisors_sum, t_divisors_sum, i__law_start, t__law_start, i__law_draw, t__law_draw, i__law_pick, t__law_pick, i__law_same, t__law_same, i__law_raised, t__law_raised, i__law_floor_sum, t__law_floor_sum]
      refine ⟨cMul_of bp bn1 (by decide), ?_⟩
      refine dsum_in n10 hn1 hq1 ⟨hB.1, by rw [Int.zero_sub]; exact hB.2.1.neg, hB.2.2.1, (br.add bpn).mono (by decide)⟩ ?_
      rw [Int.zero_sub, Int.toNat_natCast, ← r1']
      simp only [sAug, wChain, iadd_int, isub_int, sSeq, sNext, sRet, sRetN, sIf, sSet, sPar, sExpr, sRaise, sAsg, sBrk, sCnt, gPut, Tg.put, Tgs.put, gSubG, gTupG, gsCons, gsNil, oPut, wVar, wLit, w1, w2, wN, wNil, wCons, wTru, wAsT, wNotT, wAndT, wOrT, wAnd, wOr, wNot, wIfE, wCallF, fill, wLc, wipeE, wItems, wSl, wPart, wNoPart, wRange1, wRange2, sFor, startD, endF, En.turn, tr_non, tr_bl, tr_int, tr_str, tr_tup, tr_lst, tr_ref, add_int, add_str, add_tup, add_lst, sub_int, mul_int, div_int, mod_int, pow_int, neg_int, eq_int, eq_str, eq_tup, eq_lst, eq_non, eq_bl, ne_int, ne_str, ne_tup, ne_lst, ne_non, ne_bl, lt_int, le_int, gt_int, ge_int, oIs, oIsNot, D.isNon, oTup, oLst, oLstM, len_tup, len_lst, len_scr, len_ref, lenD, abs_int, int_int, int_bl, max_ii, min_ii, max_l, min_l, sum_l, all_l, any_l, tup_t, tup_l, lst_t, lst_l, ix_tup, ix_lst, ix_ref, sl_tup, sl_lst, sl_scr, it_lst, it_tup, it_scr, ints_nil, ints_cons, bols_nil, bols_cons, is_t, oListM, mupd_same, mupd_twice, sFrz, ix60, ix61, ix62, ix63, ix64, ix65, at0, at1, at2, at3, at4, at5, atm1, List.map_cons, List.map_nil, List.cons_append, List.nil_append, List.append_nil, List.getElem?_cons_zero, List.getElem?_cons_succ, List.getElem?_nil, List.length_cons, List.length_nil, List.set_cons_zero, List.set_cons_succ, List.replicate, List.zip_cons_cons, List.zip_nil_right, List.foldl_cons, List.foldl_nil, Option.map_some, Option.bind_some, Nat.reduceAdd, Nat.reduceSub, Nat.zero_add, Nat.sub_self, Nat.add_one_sub_one, Nat.reduceEqDiff, Nat.reduceLT, Nat.reduceLeDiff, Int.reduceLT, Int.reduceLE, Int.reduceNeg, Int.reduceToNat, Int.toNat_zero, Int.toNat_one, Int.reduceEq, reduceIte, if_true, if_false, ite_true, ite_false, true_and, and_true, Bool.not_true, Bool.not_false, Bool.true_eq_false, Bool.false_eq_true, eq_self, List.isEmpty_cons, List.isEmpty_nil, Nat.reduceMul, decide_true, decide_false]
      refine dsum_in n10 hn1 hq1 ⟨hB.1, (bp.add bq).mono (by decide), hB.2.2.1, hB.2.2.2⟩ ?_
      rw [Int.toNat_natCast, r2']
      simp only [sAug, wChain, iadd_int, isub_int, sSeq, sNext, sRet, sRetN, sIf, sSet, sPar, sExpr, sRaise, sAsg, sBrk, sCnt, gPut, Tg.put, Tgs.put, gSubG, gTupG, gsCons, gsNil, oPut, wVar, wLit, w1, w2, wN, wNil, wCons, wTru, wAsT, wNotT, wAndT, wOrT, wAnd, wOr, wNot, wIfE, wCallF, fill, wLc, wipeE, wItems, wSl, wPart, wNoPart, wRange1, wRange2, sFor, startD, endF, En.turn, tr_non, tr_bl, tr_int, tr_str, tr_tup, tr_lst, tr_ref, add_int, add_str, add_tup, add_lst, sub_int, mul_int, div_int, mod_int, pow_int, neg_int, eq_int, eq_str, eq_tup, eq_lst, eq_non, eq_bl, ne_int, ne_str, ne_tup, ne_lst, ne_non, ne_bl, lt_int, le_int, gt_int, ge_int, oIs, oIsNot, D.isNon, oTup, oLst, oLstM, len_tup, len_lst, len_scr, len_ref, lenD, abs_int, int_int, int_bl, max_ii, min_ii, max_l, min_l, sum_l, all_l, any_l, tup_t, tup_l, lst_t, lst_l, ix_tup, ix_lst, ix_ref, sl_tup, sl_lst, sl_scr, it_lst, it_tup, it_scr, ints_nil, ints_cons, bols_nil, bols_cons, is_t, oListM, mupd_same, mupd_twice, sFrz, ix60, ix61, ix62, ix63, ix64, ix65, at0, at1, at2, at3, at4, at5, atm1, List.map_cons, List.map_nil, List.cons_append, List.nil_append, List.append_nil, List.getElem?_cons_zero, List.getElem?_cons_succ, List.getElem?_nil, List.length_cons, List.length_nil, List.set_cons_zero, List.set_cons_succ, List.replicate, List.zip_cons_cons, List.zip_nil_right, List.foldl_cons, List.foldl_nil, Option.map_some, Option.bind_some, Nat.reduceAdd, Nat.reduceSub, Nat.zero_add, Nat.sub_self, Nat.add_one_sub_one, Nat.reduceEqDiff, Nat.reduceLT, Nat.reduceLeDiff, Int.reduceLT, Int.reduceLE, Int.reduceNeg, Int.reduceToNat, Int.toNat_zero, Int.toNat_one, Int.reduceEq, reduceIte, if_true, if_false, ite_true, ite_false, true_and, and_true, Bool.not_true, Bool.not_false, Bool.true_eq_false, Bool.false_eq_true, eq_self, List.isEmpty_cons, List.isEmpty_nil, Nat.reduceMul, decide_true, decide_false, s2]
      refine ⟨cMul_of bn bn1 (by decide), c2 _, ?_⟩
      simp only [tri, sAug, wChain, iadd_int, isub_int, sSeq, sNext, sRet, sRetN, sIf, sSet, sPar, sExpr, sRaise, sAsg, sBrk, sCnt, gPut, Tg.put, Tgs.put, gSubG, gTupG, gsCons, gsNil, oPut, wVar, wLit, w1, w2, wN, wNil, wCons, wTru, wAsT, wNotT, wAndT, wOrT, wAnd, wOr, wNot, wIfE, wCallF, fill, wLc, wipeE, wItems, wSl, wPart, wNoPart, wRange1, wRange2, sFor, startD, endF, En.turn, tr_non, tr_bl, tr_int, tr_str, tr_tup, tr_lst, tr_ref, add_int, add_str, add_tup, add_lst, sub_int, mul_int, div_int, mod_int, pow_int, neg_int, eq_int, eq_str, eq_tup, eq_lst, eq_non, eq_bl, ne_int, ne_str, ne_tup, ne_lst, ne_non, ne_bl, lt_int, le_int, gt_int, ge_int, oIs, oIsNot, D.isNon, oTup, oLst, oLstM, len_tup, len_lst, len_scr, len_ref, lenD, abs_int, int_int, int_bl, max_ii, min_ii, max_l, min_l, sum_l, all_l, any_l, tup_t, tup_l, lst_t, lst_l, ix_tup, ix_lst, ix_ref, sl_tup, sl_lst, sl_scr, it_lst, it_tup, it_scr, ints_nil, ints_cons, bols_nil, bols_cons, is_t, oListM, mupd_same, mupd_twice, sFrz, ix60, ix61, ix62, ix63, ix64, ix65, at0, at1, at2, at3, at4, at5, atm1, List.map_cons, List.map_nil, List.cons_append, List.nil_append, List.append_nil, List.getElem?_cons_zero, List.getElem?_cons_succ, List.getElem?_nil, List.length_cons, List.length_nil, List.set_cons_zero, List.set_cons_succ, List.replicate, List.zip_cons_cons, List.zip_nil_right, List.foldl_cons, List.foldl_nil, Option.map_some, Option.bind_some, Nat.reduceAdd, Nat.reduceSub, Nat.zero_add, Nat.sub_self, Nat.add_one_sub_one, Nat.reduceEqDiff, Nat.reduceLT, Nat.reduceLeDiff, Int.reduceLT, Int.reduceLE, Int.reduceNeg, Int.reduceToNat, Int.toNat_zero, Int.toNat_one, Int.reduceEq, reduceIte, if_true, if_false, ite_true, ite_false, true_and, and_true, Bool.not_true, Bool.not_false, Bool.true_eq_false, Bool.false_eq_true, eq_self, List.isEmpty_cons, List.isEmpty_nil, Nat.reduceMul, decide_true, decide_false]
      refine dsum_in n10 hn1 hq1 ⟨hB.1, hB.2.1, hB.2.2.1, (br.add bq).mono (by decide)⟩ ?_
      rw [Int.toNat_natCast, r3']
      simp only [sAug, wChain, iadd_int, isub_int, sSeq, sNext, sRet, sRetN, sIf, sSet, sPar, sExpr, sRaise, sAsg, sBrk, sCnt, gPut, Tg.put, Tgs.put, gSubG, gTupG, gsCons, gsNil, oPut, wVar, wLit, w1, w2, wN, wNil, wCons, wTru, wAsT, wNotT, wAndT, wOrT, wAnd, wOr, wNot, wIfE, wCallF, fill, wLc, wipeE, wItems, wSl, wPart, wNoPart, wRange1, wRange2, sFor, startD, endF, En.turn, tr_non, tr_bl, tr_int, tr_str, tr_tup, tr_lst, tr_ref, add_int, add_str, add_tup, add_lst, sub_int, mul_int, div_int, mod_int, pow_int, neg_int, eq_int, eq_str, eq_tup, eq_lst, eq_non, eq_bl, ne_int, ne_str, ne_tup, ne_lst, ne_non, ne_bl, lt_int, le_int, gt_int, ge_int, oIs, oIsNot, D.isNon, oTup, oLst, oLstM, len_tup, len_lst, len_scr, len_ref, lenD, abs_int, int_int, int_bl, max_ii, min_ii, max_l, min_l, sum_l, all_l, any_l, tup_t, tup_l, lst_t, lst_l, ix_tup, ix_lst, ix_ref, sl_tup, sl_lst, sl_scr, it_lst, it_tup, it_scr, ints_nil, ints_cons, bols_nil, bols_cons, is_t, oListM, mupd_same, mupd_twice, sFrz, ix60, ix61, ix62, ix63, ix64, ix65, at0, at1, at2, at3, at4, at5, atm1, List.map_cons, List.map_nil, List.cons_append, List.nil_append, List.append_nil, List.getElem?_cons_zero, List.getElem?_cons_succ, List.getElem?_nil, List.length_cons, List.length_nil, List.set_cons_zero, List.set_cons_succ, List.replicate, List.zip_cons_cons, List.zip_nil_right, List.foldl_cons, List.foldl_nil, Option.map_some, Option.bind_some, Nat.reduceAdd, Nat.reduceSub, Nat.zero_add, Nat.sub_self, Nat.add_one_sub_one, Nat.reduceEqDiff, Nat.reduceLT, Nat.reduceLeDiff, Int.reduceLT, Int.reduceLE, Int.reduceNeg, Int.reduceToNat, Int.toNat_zero, Int.toNat_one, Int.reduceEq, reduceIte, if_true, if_false, ite_true, ite_false, true_and, and_true, Bool.not_true, Bool.not_false, Bool.true_eq_false, Bool.false_eq_true, eq_self, List.isEmpty_cons, List.isEmpty_nil, Nat.reduceMul, decide_true, decide_false]
      subst hK7
      refine seq_go fun K8 hK8 => ?_
      have rest : ∀ (k : Bool → Mem → Prop), k false M10 → F_divisors_sum [.int 0, .int P, .int q, .int r] M10 (fun x M1 => oNe x (.int 0) M1 fun x M1 => match x with
          | .bl k' => if k' = true then k true M1 else F_divisors_sum [.int 1, .int P, .int q, .int r] M1 (fun x M2 => cDiv r q ∧ oNe x (.int (r.fdiv q)) M2 fun x M1 => match x with
            | .bl k' => k k' M1
            | _ => False) Z
          | _ => False) Z := by
        intro k hk
        refine dsum_in (by decide) (by decide) hq1 ⟨by unfold Bd; decide, hB.2⟩ ?_
        simp only [sAug, wChain, iadd_int, isub_int, sSeq, sNext, sRet, sRetN, sIf, sSet, sPar, sExpr, sRaise, sAsg, sBrk, sCnt, gPut, Tg.put, Tgs.put, gSubG, gTupG, gsCons, gsNil, oPut, wVar, wLit, w1, w2, wN, wNil, wCons, wTru, wAsT, wNotT, wAndT, wOrT, wAnd, wOr, wNot, wIfE, wCallF, fill, wLc, wipeE, wItems, wSl, wPart, wNoPart, wRange1, wRange2, sFor, startD, endF, En.turn, tr_non, tr_bl, tr_int, tr_str, tr_tup, tr_lst, tr_ref, add_int, add_str, add_tup, add_lst, sub_int, mul_int, div_int, mod_int, pow_int, neg_int, eq_int, eq_str, eq_tup, eq_lst, eq_non, eq_bl, ne_int, ne_str, ne_tup, ne_lst, ne_non, ne_bl, lt_int, le_int, gt_int, ge_int, oIs, oIsNot, D.isNon, oTup, oLst, oLstM, len_tup, len_lst, len_scr, len_ref, lenD, abs_int, int_int, int_bl, max_ii, min_ii, max_l, min_l, sum_l, all_l, any_l, tup_t, tup_l, lst_t, lst_l, ix_tup, ix_lst, ix_ref, sl_tup, sl_lst, sl_scr, it_lst, it_tup, it_scr, ints_nil, ints_cons, bols_nil, bols_cons, is_t, oListM, mupd_same, mupd_twice, sFrz, ix60, ix61, ix62, ix63, ix64, ix65, at0, at1, at2, at3, at4, at5, atm1, List.map_cons, List.map_nil, List.cons_append, List.nil_append, List.append_nil, List.getElem?_cons_zero, List.getElem?_cons_succ, List.getElem?_nil, List.length_cons, List.length_nil, List.set_cons_zero, List.set_cons_succ, List.replicate, List.zip_cons_cons, List.zip_nil_right, List.foldl_cons, List.foldl_nil, Option.map_some, Option.bind_some, Nat.reduceAdd, Nat.reduceSub, Nat.zero_add, Nat.sub_self, Nat.add_one_sub_one, Nat.reduceEqDiff, Nat.reduceLT, Nat.reduceLeDiff, Int.reduceLT, Int.reduceLE, Int.reduceNeg, Int.reduceToNat, Int.toNat_zero, Int.toNat_one, Int.reduceEq, reduceIte, if_true, if_false, ite_true, ite_false, true_and, and_true, Bool.not_true, Bool.not_false, Bool.true_eq_false, Bool.false_eq_true, eq_self, List.isEmpty_cons, List.isEmpty_nil, Nat.reduceMul, decide_true, decide_false, FS]
        refine dsum_in (by decide) (by decide) hq1 ⟨by unfold Bd; decide, hB.2⟩ ?_
        rw [show (1 : Int).toNat = 1 from rfl, FS_one, fq]
        try simp only [sAug, wChain, iadd_int, isub_int, sSeq, sNext, sRet, sRetN, sIf, sSet, sPar, sExpr, sRaise, sAsg, sBrk, sCnt, gPut, Tg.put, Tgs.put, gSubG, gTupG, gsCons, gsNil, oPut, wVar, wLit, w1, w2, wN, wNil, wCons, wTru, wAsT, wNotT, wAndT, wOrT, wAnd, wOr, wNot, wIfE, wCallF, fill, wLc, wipeE, wItems, wSl, wPart, wNoPart, wRange1, wRange2, sFor, startD, endF, En.turn, tr_non, tr_bl, tr_int, tr_str, tr_tup, tr_lst, tr_ref, add_int, add_str, add_tup, add_lst, sub_int, mul_int, div_int, mod_int, pow_int, neg_int, eq_int, eq_str, eq_tup, eq_lst, eq_non, eq_bl, ne_int, ne_str, ne_tup, ne_lst, ne_non, ne_bl, lt_int, le_int, gt_int, ge_int, oIs, oIsNot, D.isNon, oTup, oLst, oLstM, len_tup, len_lst, len_scr, len_ref, lenD, abs_int, int_int, int_bl, max_ii, min_ii, max_l, min_l, sum_l, all_l, any_l, tup_t, tup_l, lst_t, lst_l, ix_tup, ix_lst, ix_ref, sl_tup, sl_lst, sl_scr, it_lst, it_tup, it_scr, ints_nil, ints_cons, bols_nil, bols_cons, is_t, oListM, mupd_same, mupd_twice, sFrz, ix60, ix61, ix62, ix63, ix64, ix65, at0, at1, at2, at3, at4, at5, atm1, List.map_cons, List.map_nil, List.cons_append, List.nil_append, List.append_nil, List.getElem?_cons_zero, List.getElem?_cons_succ, List.getElem?_nil, List.length_cons, List.length_nil, List.set_cons_zero, List.set_cons_succ, List.replicate, List.zip_cons_cons, List.zip_nil_right, List.foldl_cons, List.foldl_nil, Option.map_some, Option.bind_some, Nat.reduceAdd, Nat.reduceSub, Nat.zero_add, Nat.sub_self, Nat.add_one_sub_one, Nat.reduceEqDiff, Nat.reduceLT, Nat.reduceLeDiff, Int.reduceLT, Int.reduceLE, Int.reduceNeg, Int.reduceToNat, Int.toNat_zero, Int.toNat_one, Int.reduceEq, reduceIte, if_true, if_false, ite_true, ite_false, true_and, and_true, Bool.not_true, Bool.not_false, Bool.true_eq_false, Bool.false_eq_true, eq_self, List.isEmpty_cons, List.isEmpty_nil, Nat.reduceMul, decide_true, decide_false]
        exact ⟨cq _, hk⟩
      have last : K8 [some (D.scr (List.map D.int ns)), some (D.ref p), some d, some (D.int (m : Int)), some (D.int P), some (D.int q), some (D.int r), some (D.int g), some (D.int W), some (D.int (k : Int)), xa, xb, xc] M10 := by
        subst hK8
        simp only [sAug, wChain, iadd_int, isub_int, sSeq, sNext, sRet, sRetN, sIf, sSet, sPar, sExpr, sRaise, sAsg, sBrk, sCnt, gPut, Tg.put, Tgs.put, gSubG, gTupG, gsCons, gsNil, oPut, wVar, wLit, w1, w2, wN, wNil, wCons, wTru, wAsT, wNotT, wAndT, wOrT, wAnd, wOr, wNot, wIfE, wCallF, fill, wLc, wipeE, wItems, wSl, wPart, wNoPart, wRange1, wRange2, sFor, startD, endF, En.turn, tr_non, tr_bl, tr_int, tr_str, tr_tup, tr_lst, tr_ref, add_int, add_str, add_tup, add_lst, sub_int, mul_int, div_int, mod_int, pow_int, neg_int, eq_int, eq_str, eq_tup, eq_lst, eq_non, eq_bl, ne_int, ne_str, ne_tup, ne_lst, ne_non, ne_bl, lt_int, le_int, gt_int, ge_int, oIs, oIsNot, D.isNon, oTup, oLst, oLstM, len_tup, len_lst, len_scr, len_ref, lenD, abs_int, int_int, int_bl, max_ii, min_ii, max_l, min_l, sum_l, all_l, any_l, tup_t, tup_l, lst_t, lst_l, ix_tup, ix_lst, ix_ref, sl_tup, sl_lst, sl_scr, it_lst, it_tup, it_scr, ints_nil, ints_cons, bols_nil, bols_cons, is_t, oListM, mupd_same, mupd_twice, sFrz, ix60, ix61, ix62, ix63, ix64, ix65, at0, at1, at2, at3, at4, at5, atm1, List.map_cons, List.map_nil, List.cons_append, List.nil_append, List.append_nil, List.getElem?_cons_zero, List.getElem?_cons_succ, List.getElem?_nil, List.length_cons, List.length_nil, List.set_cons_zero, List.set_cons_succ, List.replicate, List.zip_cons_cons, List.zip_nil_right, List.foldl_cons, List.foldl_nil, Option.map_some, Option.bind_some, Nat.reduceAdd, Nat.reduceSub, Nat.zero_add, Nat.sub_self, Nat.add_one_sub_one, Nat.reduceEqDiff, Nat.reduceLT, Nat.reduceLeDiff, Int.reduceLT, Int.reduceLE, Int.reduceNeg, Int.reduceToNat, Int.toNat_zero, Int.toNat_one, Int.reduceEq, reduceIte, if_true, if_false, ite_true, ite_false, true_and, and_true, Bool.not_true, Bool.not_false, Bool.true_eq_false, Bool.false_eq_true, eq_self, List.isEmpty_cons, List.isEmpty_nil, Nat.reduceMul, decide_true, decide_false, i_is_integer, t_is_integer, i_is_within, t_is_within, i_floors, t_floors, i_divisors_sum, t_divisors_sum, i__law_start, t__law_start, i__law_draw, t__law_draw, i__law_pick, t__law_pick, i__law_same, t__law_same, i__law_raised, t__law_raised, i__law_floor_sum, t__law_floor_sum]
        refine dsum_in n10 hn1 hq1 ⟨hB.1, by rw [Int.zero_sub]; exact hB.2.1.neg, hB.2.2.1, by rw [Int.zero_sub]; exact (br.neg.sub (l := 1) (by unfold Bd; decide)).mono (by decide)⟩ ?_
        rw [Int.zero_sub, Int.zero_sub, Int.toNat_natCast, r4']
        simp only [sAug, wChain, iadd_int, isub_int, sSeq, sNext, sRet, sRetN, sIf, sSet, sPar, sExpr, sRaise, sAsg, sBrk, sCnt, gPut, Tg.put, Tgs.put, gSubG, gTupG, gsCons, gsNil, oPut, wVar, wLit, w1, w2, wN, wNil, wCons, wTru, wAsT, wNotT, wAndT, wOrT, wAnd, wOr, wNot, wIfE, wCallF, fill, wLc, wipeE, wItems, wSl, wPart, wNoPart, wRange1, wRange2, sFor, startD, endF, En.turn, tr_non, tr_bl, tr_int, tr_str, tr_tup, tr_lst, tr_ref, add_int, add_str, add_tup, add_lst, sub_int, mul_int, div_int, mod_int, pow_int, neg_int, eq_int, eq_str, eq_tup, eq_lst, eq_non, eq_bl, ne_int, ne_str, ne_tup, ne_lst, ne_non, ne_bl, lt_int, le_int, gt_int, ge_int, oIs, oIsNot, D.isNon, oTup, oLst, oLstM, len_tup, len_lst, len_scr, len_ref, lenD, abs_int, int_int, int_bl, max_ii, min_ii, max_l, min_l, sum_l, all_l, any_l, tup_t, tup_l, lst_t, lst_l, ix_tup, ix_lst, ix_ref, sl_tup, sl_lst, sl_scr, it_lst, it_tup, it_scr, ints_nil, ints_cons, bols_nil, bols_cons, is_t, oListM, mupd_same, mupd_twice, sFrz, ix60, ix61, ix62, ix63, ix64, ix65, at0, at1, at2, at3, at4, at5, atm1, List.map_cons, List.map_nil, List.cons_append, List.nil_append, List.append_nil, List.getElem?_cons_zero, List.getElem?_cons_succ, List.getElem?_nil, List.length_cons, List.length_nil, List.set_cons_zero, List.set_cons_succ, List.replicate, List.zip_cons_cons, List.zip_nil_right, List.foldl_cons, List.foldl_nil, Option.map_some, Option.bind_some, Nat.reduceAdd, Nat.reduceSub, Nat.zero_add, Nat.sub_self, Nat.add_one_sub_one, Nat.reduceEqDiff, Nat.reduceLT, Nat.reduceLeDiff, Int.reduceLT, Int.reduceLE, Int.reduceNeg, Int.reduceToNat, Int.toNat_zero, Int.toNat_one, Int.reduceEq, reduceIte, if_true, if_false, ite_true, ite_false, true_and, and_true, Bool.not_true, Bool.not_false, Bool.true_eq_false, Bool.false_eq_true, eq_self, List.isEmpty_cons, List.isEmpty_nil, Nat.reduceMul, decide_true, decide_false, Int.zero_sub]
        exact hN _ _ ⟨n + 10, _, _, _, _, _, _, _, _, _, _, _, hs, by omega, rfl⟩
      try simp only [sAug, wChain, iadd_int, isub_int, sSeq, sNext, sRet, sRetN, sIf, sSet, sPar, sExpr, sRaise, sAsg, sBrk, sCnt, gPut, Tg.put, Tgs.put, gSubG, gTupG, gsCons, gsNil, oPut, wVar, wLit, w1, w2, wN, wNil, wCons, wTru, wAsT, wNotT, wAndT, wOrT, wAnd, wOr, wNot, wIfE, wCallF, fill, wLc, wipeE, wItems, wSl, wPart, wNoPart, wRange1, wRange2, sFor, startD, endF, En.turn, tr_non, tr_bl, tr_int, tr_str, tr_tup, tr_lst, tr_ref, add_int, add_str, add_tup, add_lst, sub_int, mul_int, div_int, mod_int, pow_int, neg_int, eq_int, eq_str, eq_tup, eq_lst, eq_non, eq_bl, ne_int, ne_str, ne_tup, ne_lst, ne_non, ne_bl, lt_int, le_int, gt_int, ge_int, oIs, oIsNot, D.isNon, oTup, oLst, oLstM, len_tup, len_lst, len_scr, len_ref, lenD, abs_int, int_int, int_bl, max_ii, min_ii, max_l, min_l, sum_l, all_l, any_l, tup_t, tup_l, lst_t, lst_l, ix_tup, ix_lst, ix_ref, sl_tup, sl_lst, sl_scr, it_lst, it_tup, it_scr, ints_nil, ints_cons, bols_nil, bols_cons, is_t, oListM, mupd_same, mupd_twice, sFrz, ix60, ix61, ix62, ix63, ix64, ix65, at0, at1, at2, at3, at4, at5, atm1, List.map_cons, List.map_nil, List.cons_append, List.nil_append, List.append_nil, List.getElem?_cons_zero, List.getElem?_cons_succ, List.getElem?_nil, List.length_cons, List.length_nil, List.set_cons_zero, List.set_cons_succ, List.replicate, List.zip_cons_cons, List.zip_nil_right, List.foldl_cons, List.foldl_nil, Option.map_some, Option.bind_some, Nat.reduceAdd, Nat.reduceSub, Nat.zero_add, Nat.sub_self, Nat.add_one_sub_one, Nat.reduceEqDiff, Nat.reduceLT, Nat.reduceLeDiff, Int.reduceLT, Int.reduceLE, Int.reduceNeg, Int.reduceToNat, Int.toNat_zero, Int.toNat_one, Int.reduceEq, reduceIte, if_true, if_false, ite_true, ite_false, true_and, and_true, Bool.not_true, Bool.not_false, Bool.true_eq_false, Bool.false_eq_true, eq_self, List.isEmpty_cons, List.isEmpty_nil, Nat.reduceMul, decide_true, decide_false, i_is_integer, t_is_integer, i_is_within, t_is_within, i_floors, t_floors, i_divisors_sum, t_divisors_sum, i__law_start, t__law_start, i__law_draw, t__law_draw, i__law_pick, t__law_pick, i__law_same, t__law_same, i__law_raised, t__law_raised, i__law_floor_sum, t__law_floor_sum]
      by_cases hP : 0 ≤ P
      · have e : decide (0 ≤ P) = true := decide_eq_true hP
        simp only [e, sAug, wChain, iadd_int, isub_int, sSeq, sNext, sRet, sRetN, sIf, sSet, sPar, sExpr, sRaise, sAsg, sBrk, sCnt, gPut, Tg.put, Tgs.put, gSubG, gTupG, gsCons, gsNil, oPut, wVar, wLit, w1, w2, wN, wNil, wCons, wTru, wAsT, wNotT, wAndT, wOrT, wAnd, wOr, wNot, wIfE, wCallF, fill, wLc, wipeE, wItems, wSl, wPart, wNoPart, wRange1, wRange2, sFor, startD, endF, En.turn, tr_non, tr_bl, tr_int, tr_str, tr_tup, tr_lst, tr_ref, add_int, add_str, add_tup, add_lst, sub_int, mul_int, div_int, mod_int, pow_int, neg_int, eq_int, eq_str, eq_tup, eq_lst, eq_non, eq_bl, ne_int, ne_str, ne_tup, ne_lst, ne_non, ne_bl, lt_int, le_int, gt_int, ge_int, oIs, oIsNot, D.isNon, oTup, oLst, oLstM, len_tup, len_lst, len_scr, len_ref, lenD, abs_int, int_int, int_bl, max_ii, min_ii, max_l, min_l, sum_l, all_l, any_l, tup_t, tup_l, lst_t, lst_l, ix_tup, ix_lst, ix_ref, sl_tup, sl_lst, sl_scr, it_lst, it_tup, it_scr, ints_nil, ints_cons, bols_nil, bols_cons, is_t, oListM, mupd_same, mupd_twice, sFrz, ix60, ix61, ix62, ix63, ix64, ix65, at0, at1, at2, at3, at4, at5, atm1, List.map_cons, List.map_nil, List.cons_append, List.nil_append, List.append_nil, List.getElem?_cons_zero, List.getElem?_cons_succ, List.getElem?_nil, List.length_cons, List.length_nil, List.set_cons_zero, List.set_cons_succ, List.replicate, List.zip_cons_cons, List.zip_nil_right, List.foldl_cons, List.foldl_nil, Option.map_some, Option.bind_some, Nat.reduceAdd, Nat.reduceSub, Nat.zero_add, Nat.sub_self, Nat.add_one_sub_one, Nat.reduceEqDiff, Nat.reduceLT, Nat.reduceLeDiff, Int.reduceLT, Int.reduceLE, Int.reduceNeg, Int.reduceToNat, Int.toNat_zero, Int.toNat_one, Int.reduceEq, reduceIte, if_true, if_false, ite_true, ite_false, true_and, and_true, Bool.not_true, Bool.not_false, Bool.true_eq_false, Bool.false_eq_true, eq_self, List.isEmpty_cons, List.isEmpty_nil, Nat.reduceMul, decide_true, decide_false]
        by_cases hr : 0 ≤ r
        · have e : decide (0 ≤ r) = true := decide_eq_true hr
          simp only [e, sAug, wChain, iadd_int, isub_int, sSeq, sNext, sRet, sRetN, sIf, sSet, sPar, sExpr, sRaise, sAsg, sBrk, sCnt, gPut, Tg.put, Tgs.put, gSubG, gTupG, gsCons, gsNil, oPut, wVar, wLit, w1, w2, wN, wNil, wCons, wTru, wAsT, wNotT, wAndT, wOrT, wAnd, wOr, wNot, wIfE, wCallF, fill, wLc, wipeE, wItems, wSl, wPart, wNoPart, wRange1, wRange2, sFor, startD, endF, En.turn, tr_non, tr_bl, tr_int, tr_str, tr_tup, tr_lst, tr_ref, add_int, add_str, add_tup, add_lst, sub_int, mul_int, div_int, mod_int, pow_int, neg_int, eq_int, eq_str, eq_tup, eq_lst, eq_non, eq_bl, ne_int, ne_str, ne_tup, ne_lst, ne_non, ne_bl, lt_int, le_int, gt_int, ge_int, oIs, oIsNot, D.isNon, oTup, oLst, oLstM, len_tup, len_lst, len_scr, len_ref, lenD, abs_int, int_int, int_bl, max_ii, min_ii, max_l, min_l, sum_l, all_l, any_l, tup_t, tup_l, lst_t, lst_l, ix_tup, ix_lst, ix_ref, sl_tup, sl_lst, sl_scr, it_lst, it_tup, it_scr, ints_nil, ints_cons, bols_nil, bols_cons, is_t, oListM, mupd_same, mupd_twice, sFrz, ix60, ix61, ix62, ix63, ix64, ix65, at0, at1, at2, at3, at4, at5, atm1, List.map_cons, List.map_nil, List.cons_append, List.nil_append, List.append_nil, List.getElem?_cons_zero, List.getElem?_cons_succ, List.getElem?_nil, List.length_cons, List.length_nil, List.set_cons_zero, List.set_cons_succ, List.replicate, List.zip_cons_cons, List.zip_nil_right, List.foldl_cons, List.foldl_nil, Option.map_some, Option.bind_some, Nat.reduceAdd, Nat.reduceSub, Nat.zero_add, Nat.sub_self, Nat.add_one_sub_one, Nat.reduceEqDiff, Nat.reduceLT, Nat.reduceLeDiff, Int.reduceLT, Int.reduceLE, Int.reduceNeg, Int.reduceToNat, Int.toNat_zero, Int.toNat_one, Int.reduceEq, reduceIte, if_true, if_false, ite_true, ite_false, true_and, and_true, Bool.not_true, Bool.not_false, Bool.true_eq_false, Bool.false_eq_true, eq_self, List.isEmpty_cons, List.isEmpty_nil, Nat.reduceMul, decide_true, decide_false]
          refine ⟨n10, hq1, hB, ?_⟩
          rw [Int.toNat_natCast, hW]
          simp only [sAug, wChain, iadd_int, isub_int, sSeq, sNext, sRet, sRetN, sIf, sSet, sPar, sExpr, sRaise, sAsg, sBrk, sCnt, gPut, Tg.put, Tgs.put, gSubG, gTupG, gsCons, gsNil, oPut, wVar, wLit, w1, w2, wN, wNil, wCons, wTru, wAsT, wNotT, wAndT, wOrT, wAnd, wOr, wNot, wIfE, wCallF, fill, wLc, wipeE, wItems, wSl, wPart, wNoPart, wRange1, wRange2, sFor, startD, endF, En.turn, tr_non, tr_bl, tr_int, tr_str, tr_tup, tr_lst, tr_ref, add_int, add_str, add_tup, add_lst, sub_int, mul_int, div_int, mod_int, pow_int, neg_int, eq_int, eq_str, eq_tup, eq_lst, eq_non, eq_bl, ne_int, ne_str, ne_tup, ne_lst, ne_non, ne_bl, lt_int, le_int, gt_int, ge_int, oIs, oIsNot, D.isNon, oTup, oLst, oLstM, len_tup, len_lst, len_scr, len_ref, lenD, abs_int, int_int, int_bl, max_ii, min_ii, max_l, min_l, sum_l, all_l, any_l, tup_t, tup_l, lst_t, lst_l, ix_tup, ix_lst, ix_ref, sl_tup, sl_lst, sl_scr, it_lst, it_tup, it_scr, ints_nil, ints_cons, bols_nil, bols_cons, is_t, oListM, mupd_same, mupd_twice, sFrz, ix60, ix61, ix62, ix63, ix64, ix65, at0, at1, at2, at3, at4, at5, atm1, List.map_cons, List.map_nil, List.cons_append, List.nil_append, List.append_nil, List.getElem?_cons_zero, List.getElem?_cons_succ, List.getElem?_nil, List.length_cons, List.length_nil, List.set_cons_zero, List.set_cons_succ, List.replicate, List.zip_cons_cons, List.zip_nil_right, List.foldl_cons, List.foldl_nil, Option.map_some, Option.bind_some, Nat.reduceAdd, Nat.reduceSub, Nat.zero_add, Nat.sub_self, Nat.add_one_sub_one, Nat.reduceEqDiff, Nat.reduceLT, Nat.reduceLeDiff, Int.reduceLT, Int.reduceLE, Int.reduceNeg, Int.reduceToNat, Int.toNat_zero, Int.toNat_one, Int.reduceEq, reduceIte, if_true, if_false, ite_true, ite_false, true_and, and_true, Bool.not_true, Bool.not_false, Bool.true_eq_false, Bool.false_eq_true, eq_self, List.isEmpty_cons, List.isEmpty_nil, Nat.reduceMul, decide_true, decide_false]
          exact rest _ last
        · have e : decide (0 ≤ r) = false := decide_eq_false hr
          simp only [e, sAug, wChain, iadd_int, isub_int, sSeq, sNext, sRet, sRetN, sIf, sSet, sPar, sExpr, sRaise, sAsg, sBrk, sCnt, gPut, Tg.put, Tgs.put, gSubG, gTupG, gsCons, gsNil, oPut, wVar, wLit, w1, w2, wN, wNil, wCons, wTru, wAsT, wNotT, wAndT, wOrT, wAnd, wOr, wNot, wIfE, wCallF, fill, wLc, wipeE, wItems, wSl, wPart, wNoPart, wRange1, wRange2, sFor, startD, endF, En.turn, tr_non, tr_bl, tr_int, tr_str, tr_tup, tr_lst, tr_ref, add_int, add_str, add_tup, add_lst, sub_int, mul_int, div_int, mod_int, pow_int, neg_int, eq_int, eq_str, eq_tup, eq_lst, eq_non, eq_bl, ne_int, ne_str, ne_tup, ne_lst, ne_non, ne_bl, lt_int, le_int, gt_int, ge_int, oIs, oIsNot, D.isNon, oTup, oLst, oLstM, len_tup, len_lst, len_scr, len_ref, lenD, abs_int, int_int, int_bl, max_ii, min_ii, max_l, min_l, sum_l, all_l, any_l, tup_t, tup_l, lst_t, lst_l, ix_tup, ix_lst, ix_ref, sl_tup, sl_lst, sl_scr, it_lst, it_tup, it_scr, ints_nil, ints_cons, bols_nil, bols_cons, is_t, oListM, mupd_same, mupd_twice, sFrz, ix60, ix61, ix62, ix63, ix64, ix65, at0, at1, at2, at3, at4, at5, atm1, List.map_cons, List.map_nil, List.cons_append, List.nil_append, List.append_nil, List.getElem?_cons_zero, List.getElem?_cons_succ, List.getElem?_nil, List.length_cons, List.length_nil, List.set_cons_zero, List.set_cons_succ, List.replicate, List.zip_cons_cons, List.zip_nil_right, List.foldl_cons, List.foldl_nil, Option.map_some, Option.bind_some, Nat.reduceAdd, Nat.reduceSub, Nat.zero_add, Nat.sub_self, Nat.add_one_sub_one, Nat.reduceEqDiff, Nat.reduceLT, Nat.reduceLeDiff, Int.reduceLT, Int.reduceLE, Int.reduceNeg, Int.reduceToNat, Int.toNat_zero, Int.toNat_one, Int.reduceEq, reduceIte, if_true, if_false, ite_true, ite_false, true_and, and_true, Bool.not_true, Bool.not_false, Bool.true_eq_false, Bool.false_eq_true, eq_self, List.isEmpty_cons, List.isEmpty_nil, Nat.reduceMul, decide_true, decide_false]
          exact rest _ last
      · have e : decide (0 ≤ P) = false := decide_eq_false hP
        simp only [e, sAug, wChain, iadd_int, isub_int, sSeq, sNext, sRet, sRetN, sIf, sSet, sPar, sExpr, sRaise, sAsg, sBrk, sCnt, gPut, Tg.put, Tgs.put, gSubG, gTupG, gsCons, gsNil, oPut, wVar, wLit, w1, w2, wN, wNil, wCons, wTru, wAsT, wNotT, wAndT, wOrT, wAnd, wOr, wNot, wIfE, wCallF, fill, wLc, wipeE, wItems, wSl, wPart, wNoPart, wRange1, wRange2, sFor, startD, endF, En.turn, tr_non, tr_bl, tr_int, tr_str, tr_tup, tr_lst, tr_ref, add_int, add_str, add_tup, add_lst, sub_int, mul_int, div_int, mod_int, pow_int, neg_int, eq_int, eq_str, eq_tup, eq_lst, eq_non, eq_bl, ne_int, ne_str, ne_tup, ne_lst, ne_non, ne_bl, lt_int, le_int, gt_int, ge_int, oIs, oIsNot, D.isNon, oTup, oLst, oLstM, len_tup, len_lst, len_scr, len_ref, lenD, abs_int, int_int, int_bl, max_ii, min_ii, max_l, min_l, sum_l, all_l, any_l, tup_t, tup_l, lst_t, lst_l, ix_tup, ix_lst, ix_ref, sl_tup, sl_lst, sl_scr, it_lst, it_tup, it_scr, ints_nil, ints_cons, bols_nil, bols_cons, is_t, oListM, mupd_same, mupd_twice, sFrz, ix60, ix61, ix62, ix63, ix64, ix65, at0, at1, at2, at3, at4, at5, atm1, List.map_cons, List.map_nil, List.cons_append, List.nil_append, List.append_nil, List.getElem?_cons_zero, List.getElem?_cons_succ, List.getElem?_nil, List.length_cons, List.length_nil, List.set_cons_zero, List.set_cons_succ, List.replicate, List.zip_cons_cons, List.zip_nil_right, List.foldl_cons, List.foldl_nil, Option.map_some, Option.bind_some, Nat.reduceAdd, Nat.reduceSub, Nat.zero_add, Nat.sub_self, Nat.add_one_sub_one, Nat.reduceEqDiff, Nat.reduceLT, Nat.reduceLeDiff, Int.reduceLT, Int.reduceLE, Int.reduceNeg, Int.reduceToNat, Int.toNat_zero, Int.toNat_one, Int.reduceEq, reduceIte, if_true, if_false, ite_true, ite_false, true_and, and_true, Bool.not_true, Bool.not_false, Bool.true_eq_false, Bool.false_eq_true, eq_self, List.isEmpty_cons, List.isEmpty_nil, Nat.reduceMul, decide_true, decide_false]
        exact rest _ last
  · exact h.elim
theorem law_starts (ns : List Int) (h1 : ns.length ≤ 63) (h2 : ∀ z ∈ ns, Builtin.Int.intBits z ≤ 1048576) : F_law [.scr (ns.map D.int)] (fun _ => none) (fun d _ => d = .bl true) fun _ _ _ => False := ⟨ns, rfl, h1, rfl, fun _ => rfl⟩
end K02

set_option Elab.async false
set_option linter.all false
set_option maxRecDepth 100000
set_option maxHeartbeats 2000000
namespace K02
open PySem PySem.Spec PyProof.Rows L2 Rf
/-! the head, printed by gen.py -/
abbrev R : PySem.W.OpenRow := PySem.W.OpenLaw.row PySem.Challenge.rw_fourtreestell_k02_sums_of_floors
def dd : List He.DefD := [⟨("is_integer", none), "is_integer", "is_integer", defArgs (top 7), defBody (top 7), defScope (top 7), [], []⟩,
  ⟨("is_within", none), "is_within", "is_within", defArgs (top 8), defBody (top 8), defScope (top 8), [], []⟩,
  ⟨("floors", none), "floors", "floors", defArgs (top 10), defBody (top 10), defScope (top 10), [], []⟩,
  ⟨("divisors_sum", none), "divisors_sum", "divisors_sum", defArgs (top 11), defBody (top 11), defScope (top 11), [], []⟩,
  ⟨("_law_start", none), "_law_start", "_law_start", defArgs (top 13), defBody (top 13), defScope (top 13), [], []⟩,
  ⟨("_law_draw", none), "_law_draw", "_law_draw", defArgs (top 14), defBody (top 14), defScope (top 14), [], []⟩,
  ⟨("_law_pick", none), "_law_pick", "_law_pick", defArgs (top 15), defBody (top 15), defScope (top 15), [], []⟩,
  ⟨("_law_same", none), "_law_same", "_law_same", defArgs (top 16), defBody (top 16), defScope (top 16), [], []⟩,
  ⟨("_law_raised", none), "_law_raised", "_law_raised", defArgs (top 17), defBody (top 17), defScope (top 17), [], []⟩,
  ⟨("_law_floor_sum", none), "_law_floor_sum", "_law_floor_sum", defArgs (top 18), defBody (top 18), defScope (top 18), [], []⟩,
  ⟨("law", none), "law", "law", defArgs (top 19), defBody (top 19), defScope (top 19), [], []⟩]
def xcd : List XcD := [⟨"ArgumentError", "reason", "ArgumentError.__init__", defArgs (clsInit (top 2)), defBody (clsInit (top 2)), defScope (clsInit (top 2))⟩,
  ⟨"PaperError", "reason", "PaperError.__init__", defArgs (clsInit (top 3)), defBody (clsInit (top 3)), defScope (clsInit (top 3))⟩,
  ⟨"TooMany", "reason", "TooMany.__init__", defArgs (clsInit (top 4)), defBody (clsInit (top 4)), defScope (clsInit (top 4))⟩]
def fa : List He.Fa := [.glo "is_integer", .glo "is_within", .glo "floors", .glo "divisors_sum", .glo "_law_start", .glo "_law_draw", .glo "_law_pick", .glo "_law_same", .glo "_law_raised", .glo "_law_floor_sum", .glo "law", .glo "ArgumentError", .glo "PaperError", .glo "TooMany", .free "abs", .free "all", .free "any", .free "bool", .free "dict", .free "divmod", .free "enumerate", .free "int", .free "isinstance", .free "len", .free "list", .free "max", .free "min", .free "pow", .free "range", .free "repr", .free "reversed", .free "set", .free "sorted", .free "str", .free "sum", .free "super", .free "tuple", .free "zip", .exm "ArgumentError" "ArgumentError" true, .exm "ArgumentError" "PaperError" false, .exm "ArgumentError" "TooMany" false, .exm "PaperError" "ArgumentError" false, .exm "PaperError" "PaperError" true, .exm "PaperError" "TooMany" false, .exm "TooMany" "ArgumentError" false, .exm "TooMany" "PaperError" false, .exm "TooMany" "TooMany" true, .int "MAX_SIDE" 1000000000000000000000000000000]
def file : Str := PySem.Challenge.pw_fourtreestell_k02_sums_of_floors.main.file
abbrev hk : PySem.W.Hook := hookR file 5 fa dd xcd
def ob (s : PySem.W.SharedT) : AlR := obsRG file 5 fa dd xcd (HandSHeadRun.getT s)
theorem ob_eq (s : PySem.W.SharedT) : ob s = hk.obs s.abs := obsRG_eq (HandSHeadRun.getT_eq s)
def loose0 : List PySem.Str := ["FenceError", "ArgumentError", "PaperError", "TooMany", "is_integer", "is_within", "floors", "divisors_sum", "_law_start", "_law_draw", "_law_pick", "_law_same", "_law_raised", "_law_floor_sum", "MAX_SIDE"]
def loose : List PySem.Str := loose0
set_option maxHeartbeats 0 in
theorem run (w : World) : HandSHeadRun.RunEq R (PySem.W.view R.prog [19]) hk ob 200000 loose w := by
  intro os
  kernel_rfl
--SPLIT
--ASSEMBLY
end K02

set_option Elab.async false
set_option linter.all false
set_option maxRecDepth 100000
set_option maxHeartbeats 2000000
namespace K02
open PySem PySem.Spec PyProof.Rows L2 Rf
/-! the defs together, printed by gen.py -/
section
variable {w : World} {K : PySem.W.Frag} {mg : Str → Option Value} {base : Heap}
abbrev PP : Program := (PySem.Challenge.rw_fourtreestell_k02_sums_of_floors).prog
abbrev gx (K : PySem.W.Frag) : Gx := gxOf K (tab.map FnI.nm) xns (fun _ => "reason")
abbrev wd (w : World) (mg : Str → Option Value) (base : Heap) : Wd := ⟨PP, w, mg, base⟩
theorem frees_ok (X : K.In base) (Gn : base.Ns mainGlobals mg) (c : obsR file fa dd xcd K = valR dd xcd) (i : Nat) (x : Str) (h : frees[i]? = some x) : mg x = none := by
  have e : fa[14 + i]? = some (.free x) := by
    have q : (fa.drop 14).take frees.length = frees.map He.Fa.free := by rfl
    have hi : i < frees.length := by
      by_cases z : i < frees.length
      · exact z
      · rw [List.getElem?_eq_none (by omega)] at h; cases h
    have q2 : ((fa.drop 14).take frees.length)[i]? = some (.free x) := by rw [q, List.getElem?_map, h]; rfl
    rw [List.getElem?_take_of_lt hi, List.getElem?_drop] at q2
    exact q2
  exact He.free_ok X Gn (says_fact c _ e)
theorem kints_ok (X : K.In base) (Gn : base.Ns mainGlobals mg) (c : obsR file fa dd xcd K = valR dd xcd) (i : Nat) (x : Str × Int) (h : kints[i]? = some x) : ∃ t, mg x.1 = some (.int x.2 t) := by
  match i, h with
  | 0, h => cases h; exact He.int_ok X Gn (says_fact c 47 rfl)
  | k + 1, h => exact absurd h (by show ¬ (kints[k + 1]? = some x); rw [List.getElem?_eq_none (by show 1 ≤ k + 1; omega)]; simp)
theorem kstrs_ok (X : K.In base) (Gn : base.Ns mainGlobals mg) (c : obsR file fa dd xcd K = valR dd xcd) (i : Nat) (x : Str × Str) (h : kstrs[i]? = some x) : ∃ t, mg x.1 = some (.str x.2 t) := by
  match i, h with
  | k + 0, h => exact absurd h (by show ¬ (kstrs[k + 0]? = some x); rw [List.getElem?_eq_none (by show 0 ≤ k + 0; omega)]; simp)
theorem form0 : XcD.Form (xcd[0]) := ⟨_, _, _, _, _, _, _, _, _, _, _, _, rfl, rfl, rfl, rfl⟩
theorem form1 : XcD.Form (xcd[1]) := ⟨_, _, _, _, _, _, _, _, _, _, _, _, rfl, rfl, rfl, rfl⟩
theorem form2 : XcD.Form (xcd[2]) := ⟨_, _, _, _, _, _, _, _, _, _, _, _, rfl, rfl, rfl, rfl⟩
theorem xt_ok (X : K.In base) (Gn : base.Ns mainGlobals mg) (c : obsR file fa dd xcd K = valR dd xcd) : XcT (gx K) (wd w mg base) xns sub := by
  have top : (PP.main.scope.names.lookup ("super" : Str)).isSome = false := by rfl
  refine ⟨fun k hk => ?_, fun k hk => Oex.isF_reason, fun k x h => ?_, frees_ok X Gn c 21 _ rfl, fun k k' h h' => ?_⟩
  · match k, hk with
    | 0, _ => exact ⟨_, says_xc (P := PP) c 0 rfl form0 top⟩
    | 1, _ => exact ⟨_, says_xc (P := PP) c 1 rfl form1 top⟩
    | 2, _ => exact ⟨_, says_xc (P := PP) c 2 rfl form2 top⟩
    | k + 3, h => exact absurd h (by show ¬ (k + 3 < 3); omega)
  · match k, h with
    | 0, h => cases h; exact He.glo_ok X Gn (says_fact c 11 rfl)
    | 1, h => cases h; exact He.glo_ok X Gn (says_fact c 12 rfl)
    | 2, h => cases h; exact He.glo_ok X Gn (says_fact c 13 rfl)
    | k + 3, h => exact absurd h (by show ¬ (xns[k + 3]? = some x); rw [List.getElem?_eq_none (by show 3 ≤ k + 3; omega)]; simp)
  · match k, h, k', h' with
    | 0, _, 0, _ => exact He.exm_ok (says_fact c 38 rfl)
    | 0, _, 1, _ => exact He.exm_ok (says_fact c 39 rfl)
    | 0, _, 2, _ => exact He.exm_ok (says_fact c 40 rfl)
    | 1, _, 0, _ => exact He.exm_ok (says_fact c 41 rfl)
    | 1, _, 1, _ => exact He.exm_ok (says_fact c 42 rfl)
    | 1, _, 2, _ => exact He.exm_ok (says_fact c 43 rfl)
    | 2, _, 0, _ => exact He.exm_ok (says_fact c 44 rfl)
    | 2, _, 1, _ => exact He.exm_ok (says_fact c 45 rfl)
    | 2, _, 2, _ => exact He.exm_ok (says_fact c 46 rfl)
    | k + 3, h, _, _ => exact absurd h (by show ¬ (k + 3 < 3); omega)
    | _, _, k + 3, h => exact absurd h (by show ¬ (k + 3 < 3); omega)
theorem all_ok (X : K.In base) (Gn : base.Ns mainGlobals mg) (c : obsR file fa dd xcd K = valR dd xcd) : TabOk (gx K) (wd w mg base) tab T 10 := by
  have hf := frees_ok X Gn c
  have xt := xt_ok (w := w) X Gn c
  have ff : ∀ k, k < xns.length → (gx K).fld k = "reason" := fun _ _ => rfl
  have hk := kints_ok X Gn c
  have hz := kstrs_ok X Gn c
  have h0 : TabOk (gx K) (wd w mg base) tab T 0 := TabOk.zero
  obtain ⟨_, f0⟩ := says_def c 0 rfl
  have h1 := h0.more (I := i_is_integer) rfl (fnE_of f0 sc_is_integer (bind0 (f0.bindsN fun _ _ _ _ _ _ us hl => match us, hl with | [_], _ => rfl)) (He.glo_ok X Gn (says_fact c 0 rfl)) (mt 0) (fun X W ck => b_is_integer h0 mt hf xt ff hk hz ck) do_is_integer)
  obtain ⟨_, f1⟩ := says_def c 1 rfl
  have h2 := h1.more (I := i_is_within) rfl (fnE_of f1 sc_is_within (bind0 (f1.bindsN fun _ _ _ _ _ _ us hl => match us, hl with | [_, _, _], _ => rfl)) (He.glo_ok X Gn (says_fact c 1 rfl)) (mt 1) (fun X W ck => b_is_within h1 mt hf xt ff hk hz ck) do_is_within)
  obtain ⟨_, f2⟩ := says_def c 2 rfl
  have h3 := h2.more (I := i_floors) rfl (fnE_of f2 sc_floors (bind0 (f2.bindsN fun _ _ _ _ _ _ us hl => match us, hl with | [_, _, _, _], _ => rfl)) (He.glo_ok X Gn (says_fact c 2 rfl)) (mt 2) (fun X W ck => b_floors h2 mt hf xt ff hk hz ck) do_floors)
  obtain ⟨_, f3⟩ := says_def c 3 rfl
  have h4 := h3.more (I := i_divisors_sum) rfl (fnE_of f3 sc_divisors_sum (bind0 (f3.bindsN fun _ _ _ _ _ _ us hl => match us, hl with | [_, _, _, _], _ => rfl)) (He.glo_ok X Gn (says_fact c 3 rfl)) (mt 3) (fun X W ck => b_divisors_sum h3 mt hf xt ff hk hz ck) do_divisors_sum)
  obtain ⟨_, f4⟩ := says_def c 4 rfl
  have h5 := h4.more (I := i__law_start) rfl (fnE_of f4 sc__law_start (bind0 (f4.bindsN fun _ _ _ _ _ _ us hl => match us, hl with | [_], _ => rfl)) (He.glo_ok X Gn (says_fact c 4 rfl)) (mt 4) (fun X W ck => b__law_start h4 mt hf xt ff hk hz ck) do__law_start)
  obtain ⟨_, f5⟩ := says_def c 5 rfl
  have h6 := h5.more (I := i__law_draw) rfl (fnE_of f5 sc__law_draw (bind0 (f5.bindsN fun _ _ _ _ _ _ us hl => match us, hl with | [_, _], _ => rfl)) (He.glo_ok X Gn (says_fact c 5 rfl)) (mt 5) (fun X W ck => b__law_draw h5 mt hf xt ff hk hz ck) do__law_draw)
  obtain ⟨_, f6⟩ := says_def c 6 rfl
  have h7 := h6.more (I := i__law_pick) rfl (fnE_of f6 sc__law_pick (bind0 (f6.bindsN fun _ _ _ _ _ _ us hl => match us, hl with | [_, _], _ => rfl)) (He.glo_ok X Gn (says_fact c 6 rfl)) (mt 6) (fun X W ck => b__law_pick h6 mt hf xt ff hk hz ck) do__law_pick)
  obtain ⟨_, f7⟩ := says_def c 7 rfl
  have h8 := h7.more (I := i__law_same) rfl (fnE_of f7 sc__law_same (bind0 (f7.bindsN fun _ _ _ _ _ _ us hl => match us, hl with | [_, _], _ => rfl)) (He.glo_ok X Gn (says_fact c 7 rfl)) (mt 7) (fun X W ck => b__law_same h7 mt hf xt ff hk hz ck) do__law_same)
  obtain ⟨_, f8⟩ := says_def c 8 rfl
  have h9 := h8.more (I := i__law_raised) rfl (fnE_of f8 sc__law_raised (bind0 (f8.bindsN fun _ _ _ _ _ _ us hl => match us, hl with | [_, _], _ => rfl)) (He.glo_ok X Gn (says_fact c 8 rfl)) (mt 8) (fun X W ck => b__law_raised h8 mt hf xt ff hk hz ck) do__law_raised)
  obtain ⟨_, f9⟩ := says_def c 9 rfl
  have h10 := h9.more (I := i__law_floor_sum) rfl (fnE_of f9 sc__law_floor_sum (bind0 (f9.bindsN fun _ _ _ _ _ _ us hl => match us, hl with | [_, _, _, _], _ => rfl)) (He.glo_ok X Gn (says_fact c 9 rfl)) (mt 9) (fun X W ck => b__law_floor_sum h9 mt hf xt ff hk hz ck) do__law_floor_sum)
  exact h10
end
theorem law_of (w : World) (mg : Str → Option Value) (f : Addr) (h : Heap) (Y : hk.says w h) (Gn : h.Ns mainGlobals mg) (hm : mg ("law" : Str) = some (.ref f)) : ∃ (G : Gx) (fd : FuncData), G.K.In h ∧ (∀ (s : Shared) (u : Value), BindsTo s fd ⟨[u], []⟩ [("script", u)]) ∧
    ∀ base : Heap, G.K.In base → base.Ns mainGlobals mg → FnG PP w G.K mg base 11 f fd ["script"] (spD G 1 F_law) := by
  obtain ⟨K, KX, c⟩ := Y
  obtain ⟨fd, fl⟩ := says_def c 10 rfl
  have e := hm.symm.trans (He.glo_ok KX Gn (says_fact c 10 rfl))
  cases e
  have bb := FunD.bindsA (ps := ["script"]) fl fun _ _ _ _ _ _ us hl => match us, hl with | [_], _ => rfl
  refine ⟨gx K, fd, KX, fun s u => bb s [u] rfl, fun base BX Bn => ?_⟩
  exact fnG_body (G := gx K) (D0 := wd w mg base) (k := 10) (lev := 10) fl sc_law (fun X W ck => b_law (all_ok BX Bn c) mt (frees_ok BX Bn c) (xt_ok (w := w) BX Bn c) (fun _ _ => rfl) (kints_ok BX Bn c) (kstrs_ok BX Bn c) ck) do_law
end K02
open PySem PySem.W PySem.Calls PyProof.Rows
theorem PySem.Challenge.cw_fourtreestell_k02_sums_of_floors_holds : PySem.Challenge.rw_fourtreestell_k02_sums_of_floors.Holds := by
  w_on; o_law
  refine HandSHeadRun.head_any (r := OpenLaw.row PySem.Challenge.rw_fourtreestell_k02_sums_of_floors) (q := view (OpenLaw.row PySem.Challenge.rw_fourtreestell_k02_sums_of_floors).prog [19]) (H := K02.hk) (ob := K02.ob) (M := 200000) (loose := K02.loose) (d := HandSHeadRun.topDef (OpenLaw.row PySem.Challenge.rw_fourtreestell_k02_sums_of_floors).prog 19) (kwd := []) K02.ob_eq
    (by kernel_rfl) (fun s => by kernel_rfl) K02.run (by kernel_rfl) (by kernel_rfl) (by kernel_rfl) (by rfl) (by first | assumption | decide +kernel) (by decide +kernel) ⟨rfl, rfl, rfl, rfl, rfl, by decide +kernel⟩ ?hw ?hc
  case hw => w_witness2
  case hc =>
    refine Rf.law_walk (l := PySem.Challenge.rw_fourtreestell_k02_sums_of_floors) (n := 63) (k := 11) (x := "script") (F := K02.F_law) rfl (by decide) (by kernel_rfl) ⟨rfl, by decide, by decide⟩ ?F ?S
    case F =>
      intro w mg f h Y Gn hm0
      have hm : mg ("law" : PySem.Str) = some (.ref f) := by
        have e : (HandSHeadRun.topDef (OpenLaw.row PySem.Challenge.rw_fourtreestell_k02_sums_of_floors).prog 19).name = ("law" : PySem.Str) := by kernel_rfl
        rw [← e]; exact hm0
      exact K02.law_of w mg f h Y Gn hm
    case S => exact fun ns h1 h2 => K02.law_starts ns h1 h2

