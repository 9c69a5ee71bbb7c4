import PyProof.Rows.All
import Wide.All
import OpenK.AllK
import Wide.FinOn
import HandS.ForMost
import HandS.ForExc
import HandS.Walk
import HandS.SortKw
import HandS.Flow
import HandS.Style
import HandS.IsInst
import HandS.TupAny
import HandS.Zip
import HandS.Deep
import HandS.Defaults
import HandS.HeadHook2
import HandS.Lambda
import HandS.EndTab
import KE.GoesEnum
import KE.DataMinMax
import HandS.HeadHook1
import HandS.ExcIs
import HandS.TryOnly
import HandS.HotCalls
import PyProof.ExcBaseAll.ValueError
import HandS.HeadEnd
import HandS.HeadHook4
import KE.KStateDown
import HandS.Head0
import HandS.Head1
import HandS.Head2
import PySem.Challenge.RW_tileyards_k08_whole_rooms
set_option Elab.async false
set_option linter.all false
set_option maxRecDepth 100000
namespace Tl
open PySem PySem.Spec L2

/-! ### data and where it stands -/
abbrev D := PyData
/-- the script as a datum of its own kind -/
def scrD (ns : List Int) : D := .dict [(.none, .list (ns.map .int))]
def keyD : Key → D
  | .inl i => .int i
  | .inr x => .str x
mutual
inductive Rp (K : PySem.W.Frag) (F : Hp) : V → D → Prop
  | non : Rp K F .non .none
  | bl (b : Bool) : Rp K F (.bl b) (.bool b)
  | int (i : Int) : Rp K F (.int i) (.int i)
  | str (x : Str) : Rp K F (.str x) (.str x)
  | lst {a : Addr} {xs : List V} {ds : List D} : F a = some (.lst xs) → RpA K F xs ds → Rp K F (.ref a) (.list ds)
  | tup {a : Addr} {xs : List V} {ds : List D} : F a = some (.tup xs) → RpA K F xs ds → Rp K F (.ref a) (.tuple ds)
  | scr {a : Addr} {ns : List Int} : SqL K F a (ns.map V.int) → Rp K F (.ref a) (scrD ns)
inductive RpA (K : PySem.W.Frag) (F : Hp) : List V → List D → Prop
  | nil : RpA K F [] []
  | cons {v : V} {vs : List V} {d : D} {ds : List D} : Rp K F v d → RpA K F vs ds → RpA K F (v :: vs) (d :: ds)
end

section
variable {K : PySem.W.Frag} {F F' H H' : Hp}
mutual
theorem Rp.mono (s : Same F F') : ∀ {v : V} {d : D}, Rp K F v d → Rp K F' v d
  | _, _, .non => .non
  | _, _, .bl b => .bl b
  | _, _, .int i => .int i
  | _, _, .str x => .str x
  | _, _, .lst h r => .lst (s _ _ h) (RpA.mono s r)
  | _, _, .tup h r => .tup (s _ _ h) (RpA.mono s r)
  | _, _, .scr h => .scr (s.seq h)
theorem RpA.mono (s : Same F F') : ∀ {vs : List V} {ds : List D}, RpA K F vs ds → RpA K F' vs ds
  | _, _, .nil => .nil
  | _, _, .cons h r => .cons (Rp.mono s h) (RpA.mono s r)
end
theorem RpA.length : ∀ {vs : List V} {ds : List D}, RpA K F vs ds → vs.length = ds.length
  | _, _, .nil => rfl
  | _, _, .cons _ r => by rw [List.length_cons, List.length_cons, RpA.length r]
theorem RpA.get : ∀ {vs : List V} {ds : List D} {i : Nat} {v : V}, RpA K F vs ds → vs[i]? = some v → ∃ d, ds[i]? = some d ∧ Rp K F v d
  | _, _, _, _, .nil, e => by simp at e
  | _, _, 0, _, .cons h _, e => by
    have e' := Option.some.inj e
    subst e'
    exact ⟨_, rfl, h⟩
  | _, _, i + 1, _, .cons _ r, e => RpA.get (i := i) r e
theorem RpA.getD : ∀ {vs : List V} {ds : List D} {i : Nat} {d : D}, RpA K F vs ds → ds[i]? = some d → ∃ v, vs[i]? = some v ∧ Rp K F v d
  | _, _, _, _, .nil, e => by simp at e
  | _, _, 0, _, .cons h _, e => by
    have e' := Option.some.inj e
    subst e'
    exact ⟨_, rfl, h⟩
  | _, _, i + 1, _, .cons _ r, e => RpA.getD (i := i) r e
theorem RpA.append : ∀ {vs ws : List V} {ds es : List D}, RpA K F vs ds → RpA K F ws es → RpA K F (vs ++ ws) (ds ++ es)
  | _, _, _, _, .nil, s => s
  | _, _, _, _, .cons h r, s => .cons h (RpA.append r s)
theorem RpA.take : ∀ {vs : List V} {ds : List D} (n : Nat), RpA K F vs ds → RpA K F (vs.take n) (ds.take n)
  | _, _, 0, _ => .nil
  | _, _, _ + 1, .nil => .nil
  | _, _, n + 1, .cons h r => .cons h (RpA.take n r)
theorem RpA.drop : ∀ {vs : List V} {ds : List D} (n : Nat), RpA K F vs ds → RpA K F (vs.drop n) (ds.drop n)
  | _, _, 0, r => r
  | _, _, _ + 1, .nil => .nil
  | _, _, n + 1, .cons _ r => RpA.drop n r
theorem RpA.reverse : ∀ {vs : List V} {ds : List D}, RpA K F vs ds → RpA K F vs.reverse ds.reverse
  | _, _, .nil => .nil
  | _, _, .cons h r => by
    rw [List.reverse_cons, List.reverse_cons]
    exact (RpA.reverse r).append (.cons h .nil)
theorem RpA.rep {vs : List V} {ds : List D} (h : RpA K F vs ds) : ∀ k : Nat, RpA K F (List.replicate k vs).flatten (List.replicate k ds).flatten
  | 0 => .nil
  | k + 1 => by
    rw [List.replicate_succ, List.replicate_succ, List.flatten_cons, List.flatten_cons]
    exact h.append (RpA.rep h k)
/-! data that == takes -/
mutual
def plain : D → Bool
  | .none => true
  | .bool _ => true
  | .int _ => true
  | .str _ => true
  | .list ds => plainA ds
  | .tuple ds => plainA ds
  | .dict _ => false
def plainA : List D → Bool
  | [] => true
  | d :: ds => plain d && plainA ds
end
/-! data without a list -/
mutual
def pure_ : D → Bool
  | .none => true
  | .bool _ => true
  | .int _ => true
  | .str _ => true
  | .list _ => false
  | .tuple ds => pureA ds
  | .dict _ => false
def pureA : List D → Bool
  | [] => true
  | d :: ds => pure_ d && pureA ds
end
mutual
theorem Rp.dp : ∀ {v : V} {d : D}, Rp K F v d → plain d = true → Dp K F v d
  | _, _, .non, _ => .non
  | _, _, .bl b, _ => .bl b
  | _, _, .int i, _ => .int i
  | _, _, .str x, _ => .str x
  | _, _, .lst h r, p => .lst (.of h) (RpA.dp r (by simpa [plain] using p))
  | _, _, .tup h r, p => .tup (.of h) (RpA.dp r (by simpa [plain] using p))
  | _, _, .scr h, p => by simp [scrD, plain] at p
theorem RpA.dp : ∀ {vs : List V} {ds : List D}, RpA K F vs ds → plainA ds = true → DpAll K F vs ds
  | _, _, .nil, _ => .nil
  | _, _, .cons h r, p => by
    rw [plainA, Bool.and_eq_true] at p
    exact .cons (Rp.dp h p.1) (RpA.dp r p.2)
end
/-! a datum without lists stands wherever the tuples stand -/
mutual
theorem Rp.of_pure (s : ∀ a xs, F a = some (.tup xs) → F' a = some (.tup xs)) : ∀ {v : V} {d : D}, Rp K F v d → pure_ d = true → Rp K F' v d
  | _, _, .non, _ => .non
  | _, _, .bl b, _ => .bl b
  | _, _, .int i, _ => .int i
  | _, _, .str x, _ => .str x
  | _, _, .lst h r, p => by simp [pure_] at p
  | _, _, .tup h r, p => .tup (s _ _ h) (RpA.of_pure s r (by simpa [pure_] using p))
  | _, _, .scr h, p => by simp [scrD, pure_] at p
theorem RpA.of_pure (s : ∀ a xs, F a = some (.tup xs) → F' a = some (.tup xs)) : ∀ {vs : List V} {ds : List D}, RpA K F vs ds → pureA ds = true → RpA K F' vs ds
  | _, _, .nil, _ => .nil
  | _, _, .cons h r, p => by
    rw [pureA, Bool.and_eq_true] at p
    exact .cons (Rp.of_pure s h p.1) (RpA.of_pure s r p.2)
end
end

/-! ### two heaps: F the frozen part, H all; T: the tables of code objects -/
abbrev Tbl := List (Addr × Str)
structure Fz (T : Tbl) (F H : Hp) : Prop where
  sm : Same F H
  nt : ∀ b ps, F b ≠ some (.tbl ps)
  tb : LamX.Tabs T H
instance {T : Tbl} {F H : Hp} : CoeFun (Fz T F H) (fun _ => ∀ b o, F b = some o → H b = some o) := ⟨fun z => z.sm⟩
theorem Fz.free {T : Tbl} {F H : Hp} {a : Addr} (z : Fz T F H) (h : H a = none) : F a = none := z.sm.free h
/-- all but the tables stay -/
abbrev Kp := LamX.ExtN
/-- nothing but a table stands there -/
def Nt (H : Hp) (a : Addr) : Prop := ∀ o, H a = some o → ∃ ps, o = .tbl ps
theorem Nt.of {H : Hp} {a : Addr} (h : H a = none) : Nt H a := fun o e => by rw [h] at e; cases e
theorem Nt.back {H H' : Hp} {a : Addr} (k : LamX.ExtN H H') (h : Nt H' a) : Nt H a := fun o e => by
  cases o with
  | tbl ps => exact ⟨ps, rfl⟩
  | _ => exact h _ (k a _ e fun _ z => nomatch z)
structure Ex (T : Tbl) (F H F' H' : Hp) : Prop where
  hh : Kp H H'
  ff : Same F F'
  fh : Fz T F' H'
  nw : ∀ a o, F' a = some o → F a = some o ∨ Nt H a
theorem Ex.refl {T : Tbl} {F H : Hp} (s : Fz T F H) : Ex T F H F H := ⟨.refl _, .refl _, s, fun _ _ h => .inl h⟩
theorem same_upd {H : Hp} {p : Addr} {o : HO} (h : H p = none) : Same H (upd H p o) := fun b x e => by
  rw [upd_ne (ne_of_none e h)]
  exact e
theorem same_upd2 {F H : Hp} {p : Addr} {o : HO} (s : Same F H) : Same (upd F p o) (upd H p o) := fun b x e => by
  by_cases hb : b = p
  · subst hb
    rw [upd_same] at e ⊢
    exact e
  · rw [upd_ne hb] at e ⊢
    exact s _ _ e
theorem Ex.trans {T : Tbl} {F H F1 H1 F2 H2 : Hp} (a : Ex T F H F1 H1) (b : Ex T F1 H1 F2 H2) : Ex T F H F2 H2 where
  hh := a.hh.trans b.hh
  ff := a.ff.trans b.ff
  fh := b.fh
  nw := fun c o h => by
    rcases b.nw c o h with h1 | h1
    · exact a.nw c o h1
    · exact .inr (h1.back a.hh)
theorem Fz.new {T : Tbl} {F H : Hp} {p : Addr} {o : HO} (z : Fz T F H) (h : H p = none) (ho : ∀ ps, o ≠ .tbl ps) : Fz T (upd F p o) (upd H p o) where
  sm := same_upd2 z.sm
  nt := fun b ps e => by
    by_cases hb : b = p
    · subst hb
      rw [upd_same] at e
      exact ho ps (Option.some.inj e)
    · rw [upd_ne hb] at e
      exact z.nt b ps e
  tb := z.tb.ext (same_upd h)
/-- a new object, frozen -/
theorem Ex.new {T : Tbl} {F H F1 H1 : Hp} {p : Addr} (o : HO) (x : Ex T F H F1 H1) (h : H1 p = none) (ho : ∀ ps, o ≠ .tbl ps := by intro _ z; cases z) : Ex T F H (upd F1 p o) (upd H1 p o) :=
  x.trans ⟨LamX.ExtN.of (same_upd h), same_upd (x.fh.free h), x.fh.new h ho, fun a u e => by
    by_cases ha : a = p
    · subst ha
      exact .inr (.of h)
    · rw [upd_ne ha] at e
      exact .inl e⟩

/-! ### results -/
inductive Res (α : Type) where
  | ok (a : α)
  | exc (c : Str)
  | stuck
def Res.bind {α β : Type} (r : Res α) (f : α → Res β) : Res β := match r with
  | .ok a => f a
  | .exc c => .exc c
  | .stuck => .stuck
@[simp] theorem Res.bind_ok {α β : Type} (a : α) (f : α → Res β) : (Res.ok a).bind f = f a := rfl
@[simp] theorem Res.bind_exc {α β : Type} (c : Str) (f : α → Res β) : (Res.exc c).bind f = .exc c := rfl
@[simp] theorem Res.bind_stuck {α β : Type} (f : α → Res β) : (Res.stuck).bind f = .stuck := rfl
abbrev Env0D := List (Option D)
structure ERel (K : PySem.W.Frag) (F : Hp) (σ : L2.St) (ρ : Env0D) : Prop where
  len : ρ.length = σ.length
  get : ∀ (i : Nat) (d : D), ρ[i]? = some (some d) → ∃ v, σ[i]? = some (some v) ∧ Rp K F v d
theorem ERel.mono {K : PySem.W.Frag} {F F' : Hp} {σ : L2.St} {ρ : Env0D} (e : ERel K F σ ρ) (s : Same F F') : ERel K F' σ ρ := ⟨e.len, fun i d h => by
  obtain ⟨v, h1, h2⟩ := e.get i d h
  exact ⟨v, h1, h2.mono s⟩⟩
theorem ERel.set {K : PySem.W.Frag} {F : Hp} {σ : L2.St} {ρ : Env0D} {i : Nat} {v : V} {d : D} (e : ERel K F σ ρ) (r : Rp K F v d) : ERel K F (σ.set i (some v)) (ρ.set i (some d)) := ⟨by rw [List.length_set, List.length_set, e.len], fun j d' h => by
  by_cases hj : i = j
  · subst hj
    by_cases hi : i < ρ.length
    · rw [List.getElem?_set_self hi] at h
      cases h
      exact ⟨v, by rw [List.getElem?_set_self (by rw [← e.len]; exact hi)], r⟩
    · rw [List.getElem?_eq_none (by simpa using hi)] at h
      cases h
  · rw [List.getElem?_set_ne hj] at h ⊢
    exact e.get j d' h⟩
theorem ERel.wipe1 {K : PySem.W.Frag} {F : Hp} {σ : L2.St} {ρ : Env0D} {i : Nat} (e : ERel K F σ ρ) : ERel K F (σ.set i none) (ρ.set i none) := ⟨by rw [List.length_set, List.length_set, e.len], fun j d' h => by
  by_cases hj : i = j
  · subst hj
    by_cases hi : i < ρ.length
    · rw [List.getElem?_set_self hi] at h
      cases h
    · rw [List.getElem?_eq_none (by simpa using hi)] at h
      cases h
  · rw [List.getElem?_set_ne hj] at h ⊢
    exact e.get j d' h⟩
/-- the address of an exception's class -/
abbrev clsV (K : PySem.W.Frag) (c : Str) : Value := .ref (He.ga K c)
/-- what is wanted of a result of type α: R says how a datum stands -/
def After {α β : Type} (T : Tbl) (K : PySem.W.Frag) (W : WX) (σ : St) (R : Hp → β → α → Prop) (r : Res α) (F H : Hp) (Q : β → Hp → Prop) : Prop := match r with
  | .ok d => ∀ v F' H', Ex T F H F' H' → R F' v d → Q v H'
  | .exc c => ∀ H', Kp H H' → Fz T F H' → W (clsV K c) none σ H'
  | .stuck => False
/-- an expression that gives f's datum -/
def tE (T : Tbl) (K : PySem.W.Frag) (W : WX) (f : Env0D → Res D) : TE := fun σ H Q => ∃ ρ F, Fz T F H ∧ ERel K F σ ρ ∧ After T K W σ (Rp K) (f ρ) F H Q
def tAs (T : Tbl) (K : PySem.W.Frag) (W : WX) (f : Env0D → Res (List D)) : TA := fun σ H Q => ∃ ρ F, Fz T F H ∧ ERel K F σ ρ ∧ After T K W σ (RpA K) (f ρ) F H Q
def tTs (T : Tbl) (K : PySem.W.Frag) (W : WX) (f : Env0D → Res Bool) : TT := fun σ H Q => ∃ ρ F, Fz T F H ∧ ERel K F σ ρ ∧ After T K W σ (fun _ (b c : Bool) => b = c) (f ρ) F H Q
section
variable {X : Cx} {e : Expr} {es : List Expr}
theorem PE.imp {t t' : TE} (h : PE X e t) (i : ∀ σ H Q, t' σ H Q → t σ H Q) : PE X e t' := ⟨fun pins s σ H Q I w => h.run pins s σ H Q I (i _ _ _ w)⟩
theorem PT.imp {t t' : TT} (h : PT X e t) (i : ∀ σ H Q, t' σ H Q → t σ H Q) : PT X e t' := ⟨fun pins s σ H Q I w => h.run pins s σ H Q I (i _ _ _ w)⟩
theorem PA.imp {t t' : TA} (h : PA X es t) (i : ∀ σ H Q, t' σ H Q → t σ H Q) : PA X es t' := ⟨fun pos pins s σ H Q I w => h.run pos pins s σ H Q I (i _ _ _ w)⟩
end
/-- one after the other -/
theorem After.bind {α β γ δ : Type} {T : Tbl} {K : PySem.W.Frag} {W : WX} {σ : St} {R : Hp → β → α → Prop} {R2 : Hp → δ → γ → Prop} {r : Res α} {f : α → Res γ} {F H : Hp} {Q : δ → Hp → Prop} (sf : Fz T F H)
    (h : After T K W σ R2 (r.bind f) F H Q) : After T K W σ R r F H (fun v H1 => ∃ F1 d, Ex T F H F1 H1 ∧ R F1 v d ∧ r = .ok d ∧ After T K W σ R2 (f d) F1 H1 Q) := by
  cases r with
  | ok d =>
    intro v F1 H1 x rv
    refine ⟨F1, d, x, rv, rfl, ?_⟩
    have h' : After T K W σ R2 (f d) F H Q := h
    cases q : f d with
    | ok d2 =>
      rw [q] at h'
      intro v2 F2 H2 x2 rv2
      exact h' v2 F2 H2 (x.trans x2) rv2
    | exc c =>
      rw [q] at h'
      intro H2 s2 z2
      exact h' H2 (x.hh.trans s2) ⟨x.ff.trans z2.sm, sf.nt, z2.tb⟩
    | stuck =>
      rw [q] at h'
      exact h'
  | exc c => exact h
  | stuck => exact h
theorem After.mono {α β : Type} {T : Tbl} {K : PySem.W.Frag} {W : WX} {σ : St} {R : Hp → β → α → Prop} {r : Res α} {F H : Hp} {Q Q' : β → Hp → Prop} (h : After T K W σ R r F H Q) (i : ∀ v H, Q v H → Q' v H) : After T K W σ R r F H Q' := by
  cases r with
  | ok d => exact fun v F' H' x rv => i _ _ (h v F' H' x rv)
  | exc c => exact h
  | stuck => exact h
/-- a result now -/
theorem After.now {α β : Type} {T : Tbl} {K : PySem.W.Frag} {W : WX} {σ : St} {R : Hp → β → α → Prop} {d : α} {F H F' H' : Hp} {v : β} {Q : β → Hp → Prop} (h : After T K W σ R (.ok d) F H Q) (x : Ex T F H F' H') (rv : R F' v d) : Q v H' := h v F' H' x rv
end Tl
namespace Tl
open PySem PySem.Spec L2

/-! ### operations on values -/
def AftV (T : Tbl) (K : PySem.W.Frag) (r : Option D) (F H : Hp) (Q : VK) : Prop := match r with
  | some d => ∀ v F' H', Ex T F H F' H' → Rp K F' v d → Q v H'
  | none => False
def r2 (T : Tbl) (K : PySem.W.Frag) (f : D → D → Option D) : R2 := fun x y H Q => ∃ F d1 d2, Fz T F H ∧ Rp K F x d1 ∧ Rp K F y d2 ∧ AftV T K (f d1 d2) F H Q
def rL (T : Tbl) (K : PySem.W.Frag) (f : List D → Option D) : List V → Hp → VK → Prop := fun vs H Q => ∃ F ds, Fz T F H ∧ RpA K F vs ds ∧ AftV T K (f ds) F H Q
section
variable {T : Tbl} {K : PySem.W.Frag} {F H : Hp} {Q : VK} {d : D} {v : V}
theorem AftV.now (h : AftV T K (some d) F H Q) (s : Fz T F H) (r : Rp K F v d) : Q v H := h v F H (.refl s) r
theorem AftV.bl {b : Bool} (h : AftV T K (some (.bool b)) F H Q) (s : Fz T F H) : Q (.bl b) H := h.now s (.bl b)
theorem AftV.int {i : Int} (h : AftV T K (some (.int i)) F H Q) (s : Fz T F H) : Q (.int i) H := h.now s (.int i)
theorem AftV.tup {xs : List V} {ds : List D} {p : Addr} (h : AftV T K (some (.tuple ds)) F H Q) (s : Fz T F H) (r : RpA K F xs ds) (n : H p = none) : Q (.ref p) (upd H p (.tup xs)) :=
  h _ _ _ ((Ex.refl s).new (.tup xs) n) (.tup upd_same (r.mono (same_upd (s.free n))))
theorem AftV.lst {xs : List V} {ds : List D} {p : Addr} (h : AftV T K (some (.list ds)) F H Q) (s : Fz T F H) (r : RpA K F xs ds) (n : H p = none) : Q (.ref p) (upd H p (.lst xs)) :=
  h _ _ _ ((Ex.refl s).new (.lst xs) n) (.lst upd_same (r.mono (same_upd (s.free n))))
end
abbrev sz (n : Nat) : Bool := decide (n ≤ sizeLine)
def gd {α : Type} (b : Bool) (x : α) : Option α := if b = true then some x else none
theorem AftV.gd {T : Tbl} {K : PySem.W.Frag} {b : Bool} {x : D} {F H : Hp} {Q : VK} (h : AftV T K (gd b x) F H Q) : b = true ∧ AftV T K (some x) F H Q := by
  unfold Tl.gd at h
  split at h
  · exact ⟨by assumption, h⟩
  · exact h.elim
inductive Op2 where
  | add | sub | mul | fdiv | mod
def Op2.py : Op2 → Operator
  | .add => .Add
  | .sub => .Sub
  | .mul => .Mult
  | .fdiv => .FloorDiv
  | .mod => .Mod
def mulOk (i j : Int) : Bool := decide ((-(2 ^ 64) < i ∧ i < 2 ^ 64) ∨ (-(2 ^ 64) < j ∧ j < 2 ^ 64))
def strRep (x : Str) (n : Nat) : Str := ⟨(List.replicate n x.cps.toList).flatten.toArray⟩
def opV : Op2 → D → D → Option D
  | .add, .int i, .int j => some (.int (i + j))
  | .add, .str x, .str y => gd (sz (x.length + y.length)) (.str (x ++ y))
  | .add, .tuple xs, .tuple ys => gd (sz (xs.length + ys.length)) (.tuple (xs ++ ys))
  | .add, .list xs, .list ys => gd (sz (xs.length + ys.length)) (.list (xs ++ ys))
  | .sub, .int i, .int j => some (.int (i - j))
  | .mul, .int i, .int j => gd (mulOk i j) (.int (i * j))
  | .mul, .list xs, .int j => gd (decide (0 ≤ j) && decide (j < 2 ^ 63) && sz (xs.length * j.toNat)) (.list (List.replicate j.toNat xs).flatten)
  | .fdiv, .int i, .int j => gd (decide (0 < j) && decide (j < 1073741824)) (.int (i / j))
  | .mod, .int i, .int j => gd (decide (0 < j)) (.int (i % j))
  | _, _, _ => none
section
variable {X : Cx}
theorem op_D (o : Op2) : OpR X (binaryOp o.py) (r2 T X.K (opV o)) := by
  intro pins s σ H x y v u Q I rx ry h
  obtain ⟨F, d1, d2, sf, h1, h2, q⟩ := h
  cases o with
  | add =>
    cases h1 with
    | int i =>
      cases h2 with
      | int j => exact op_add pins s σ H _ _ v u Q I rx ry ⟨i, j, rfl, rfl, AftV.int q sf⟩
      | _ => exact q.elim
    | str a =>
      cases h2 with
      | str b =>
        obtain ⟨g, q⟩ := AftV.gd q
        exact op_add_str pins s σ H _ _ v u Q I rx ry ⟨a, b, rfl, rfl, of_decide_eq_true g, AftV.now q sf (.str _)⟩
      | _ => exact q.elim
    | tup ha ra =>
      cases h2 with
      | tup hb rb =>
        obtain ⟨g, q⟩ := AftV.gd q
        have g' := of_decide_eq_true g
        refine op_catA pins s σ H _ _ v u Q I rx ry ⟨_, _, _, _, rfl, rfl, .of (sf _ _ ha), .of (sf _ _ hb), by rw [ra.length, rb.length]; exact g', fun e => ?_, fun _ e => ?_, fun _ _ p n => AftV.tup q sf (ra.append rb) n⟩
        · subst e
          cases ra
          exact q.now sf (.tup hb rb)
        · subst e
          cases rb
          rw [List.append_nil] at q
          exact q.now sf (.tup ha ra)
      | _ => exact q.elim
    | lst ha ra =>
      cases h2 with
      | lst hb rb =>
        obtain ⟨g, q⟩ := AftV.gd q
        have g' := of_decide_eq_true g
        exact op_cat pins s σ H _ _ v u Q I rx ry ⟨_, _, _, _, rfl, rfl, sf _ _ ha, sf _ _ hb, by rw [ra.length, rb.length]; exact g', fun p n => AftV.lst q sf (ra.append rb) n⟩
      | _ => exact q.elim
    | _ => exact q.elim
  | sub =>
    cases h1 with
    | int i =>
      cases h2 with
      | int j => exact op_sub pins s σ H _ _ v u Q I rx ry ⟨i, j, rfl, rfl, AftV.int q sf⟩
      | _ => exact q.elim
    | _ => exact q.elim
  | mul =>
    cases h1 with
    | int i =>
      cases h2 with
      | int j =>
        obtain ⟨g, q⟩ := AftV.gd q
        have g' : (-(2 ^ 64) < i ∧ i < 2 ^ 64) ∨ (-(2 ^ 64) < j ∧ j < 2 ^ 64) := of_decide_eq_true g
        exact op_mul pins s σ H _ _ v u Q I rx ry ⟨i, j, rfl, rfl, g', AftV.int q sf⟩
      | _ => exact q.elim
    | lst ha ra =>
      cases h2 with
      | int j =>
        obtain ⟨g, q⟩ := AftV.gd q
        rw [Bool.and_eq_true, Bool.and_eq_true] at g
        obtain ⟨⟨g1, g2⟩, g3⟩ := g
        have g1 := of_decide_eq_true g1
        exact op_rep pins s σ H _ _ v u Q I rx ry ⟨_, _, _, rfl, rfl, sf _ _ ha, by omega, of_decide_eq_true g2, by rw [ra.length]; exact of_decide_eq_true g3, fun p n => AftV.lst q sf (ra.rep _) n⟩
      | _ => exact q.elim
    | _ => exact q.elim
  | fdiv =>
    cases h1 with
    | int i =>
      cases h2 with
      | int j =>
        obtain ⟨g, q⟩ := AftV.gd q
        rw [Bool.and_eq_true] at g
        exact op_fdiv pins s σ H _ _ v u Q I rx ry ⟨i, j, rfl, rfl, ⟨of_decide_eq_true g.1, of_decide_eq_true g.2⟩, AftV.int q sf⟩
      | _ => exact q.elim
    | _ => exact q.elim
  | mod =>
    cases h1 with
    | int i =>
      cases h2 with
      | int j =>
        obtain ⟨g, q⟩ := AftV.gd q
        exact op_mod pins s σ H _ _ v u Q I rx ry ⟨i, j, rfl, rfl, of_decide_eq_true g, AftV.int q sf⟩
      | _ => exact q.elim
    | _ => exact q.elim
end

/-! ### comparisons -/
inductive Cm where
  | lt | le | gt | ge | eq | ne | isin | notin | is_ | isnot
def Cm.py : Cm → CmpOp
  | .lt => .Lt
  | .le => .LtE
  | .gt => .Gt
  | .ge => .GtE
  | .eq => .Eq
  | .ne => .NotEq
  | .isin => .In
  | .notin => .NotIn
  | .is_ => .Is
  | .isnot => .IsNot
mutual
theorem plain_of_lay : ∀ d : D, d.canLay0 = true → plain d = true
  | .none, _ => rfl
  | .bool _, _ => rfl
  | .int _, _ => rfl
  | .str _, _ => rfl
  | .list ds, h => plainA_of_lay ds h
  | .tuple ds, h => plainA_of_lay ds h
  | .dict _, h => by simp [PyData.canLay0] at h
theorem plainA_of_lay : ∀ ds : List D, PyData.canLayAll0 ds = true → plainA ds = true
  | [], _ => rfl
  | d :: ds, h => by
    rw [PyData.canLayAll0, Bool.and_eq_true] at h
    rw [plainA, plain_of_lay d h.1, plainA_of_lay ds h.2] <;> rfl
end
theorem plain_of_shaped {d : D} (h : SeqAt.shaped d = true) : plain d = true := plain_of_lay d (SeqAt.canLay_of_shaped h)
def isSame : D → D → Option Bool
  | x, .none => some (match x with | .none => true | _ => false)
  | .bool a, .bool b => some (decide (a = b))
  | _, _ => none
def anyEq (ds : List D) (d : D) : Bool := ds.any fun z => PyData.eqv z d
def oneSign (x : Str) : Option Nat := if x.cps.size = 1 then some (x.cps.getD 0 0) else none
def cmpV : Cm → D → D → Option Bool
  | .lt, .int i, .int j => some (decide (i < j))
  | .le, .int i, .int j => some (decide (i ≤ j))
  | .gt, .int i, .int j => some (decide (j < i))
  | .ge, .int i, .int j => some (decide (j ≤ i))
  | .lt, .str i, .str j => some (decide (i.cps.toList < j.cps.toList))
  | .le, .str i, .str j => some (!decide (j.cps.toList < i.cps.toList))
  | .ge, .str i, .str j => some (!decide (i.cps.toList < j.cps.toList))
  | .eq, d, e => gd (SeqAt.shaped d && SeqAt.shaped e) (PyData.eqv d e)
  | .ne, d, e => gd (SeqAt.shaped d && SeqAt.shaped e) (!PyData.eqv d e)
  | .isin, d, .list ds => gd (SeqAt.shaped d && SeqAt.shaped (.list ds)) (anyEq ds d)
  | .notin, d, .list ds => gd (SeqAt.shaped d && SeqAt.shaped (.list ds)) (!anyEq ds d)
  | .isin, d, .tuple ds => gd (SeqAt.shaped d && SeqAt.shaped (.tuple ds)) (anyEq ds d)
  | .notin, d, .tuple ds => gd (SeqAt.shaped d && SeqAt.shaped (.tuple ds)) (!anyEq ds d)
  | .isin, .str x, .str z => (oneSign x).map fun c => decide (c ∈ z.cps.toList)
  | .notin, .str x, .str z => (oneSign x).map fun c => !decide (c ∈ z.cps.toList)
  | .is_, x, y => isSame x y
  | .isnot, x, y => (isSame x y).map fun b => !b
  | _, _, _ => none
def cmpD (o : Cm) (x y : D) : Option D := (cmpV o x y).map .bool
theorem one_sign {x : Str} {c : Nat} (h : oneSign x = some c) : x = ⟨#[c]⟩ := by
  obtain ⟨⟨l⟩⟩ := x
  unfold oneSign at h
  split at h
  · rename_i e
    have e' : l.length = 1 := by simpa using e
    match l, e' with
    | [a], _ =>
      have h' := Option.some.inj h
      rw [← h']
      rfl
  · cases h
theorem AftV.cmp {T : Tbl} {K : PySem.W.Frag} {o : Cm} {x y : D} {b : Bool} {F H : Hp} {Q : VK} (h : AftV T K (cmpD o x y) F H Q) (e : cmpV o x y = some b) (s : Fz T F H) : Q (.bl b) H := by
  unfold cmpD at h
  rw [e] at h
  exact AftV.bl h s
theorem AftV.cmpN {T : Tbl} {K : PySem.W.Frag} {o : Cm} {x y : D} {F H : Hp} {Q : VK} (h : AftV T K (cmpD o x y) F H Q) : ∃ b, cmpV o x y = some b := by
  unfold cmpD at h
  cases q : cmpV o x y with
  | none =>
    rw [q] at h
    exact h.elim
  | some b => exact ⟨b, rfl⟩
theorem gd_some {α : Type} {b : Bool} {x y : α} (h : gd b x = some y) : b = true ∧ y = x := by
  unfold gd at h
  split at h
  · exact ⟨by assumption, (Option.some.inj h).symm⟩
  · cases h
section
variable {X : Cx}
theorem eq_D (hu : X.A.units + 65 < cLine) : OpR X (compareOp .Eq) (r2 T X.K (cmpD .eq)) := by
  intro pins s σ H x y v u Q I rx ry h
  obtain ⟨F, d1, d2, sf, h1, h2, q⟩ := h
  obtain ⟨b, e⟩ := AftV.cmpN q
  have q' := AftV.cmp q e sf
  have e' : gd (SeqAt.shaped d1 && SeqAt.shaped d2) (PyData.eqv d1 d2) = some b := by
    cases d1 <;> cases d2 <;> exact e
  obtain ⟨g, rfl⟩ := gd_some e'
  rw [Bool.and_eq_true] at g
  exact op_eqD (by omega) pins s σ H x y v u Q I rx ry ⟨d1, d2, (h1.mono sf.sm).dp (plain_of_shaped g.1), (h2.mono sf.sm).dp (plain_of_shaped g.2), g.1, g.2, q'⟩
theorem ne_D (hu : X.A.units + 65 < cLine) : OpR X (compareOp .NotEq) (r2 T X.K (cmpD .ne)) := by
  intro pins s σ H x y v u Q I rx ry h
  obtain ⟨F, d1, d2, sf, h1, h2, q⟩ := h
  obtain ⟨b, e⟩ := AftV.cmpN q
  have q' := AftV.cmp q e sf
  have e' : gd (SeqAt.shaped d1 && SeqAt.shaped d2) (!PyData.eqv d1 d2) = some b := by
    cases d1 <;> cases d2 <;> exact e
  obtain ⟨g, rfl⟩ := gd_some e'
  rw [Bool.and_eq_true] at g
  exact op_neD (by omega) pins s σ H x y v u Q I rx ry ⟨d1, d2, (h1.mono sf.sm).dp (plain_of_shaped g.1), (h2.mono sf.sm).dp (plain_of_shaped g.2), g.1, g.2, q'⟩
theorem lt_D : OpR X (compareOp .Lt) (r2 T X.K (cmpD .lt)) := by
  intro pins s σ H x y v u Q I rx ry h
  obtain ⟨F, d1, d2, sf, h1, h2, q⟩ := h
  cases h1 with
  | int i =>
    cases h2 with
    | int j => exact op_lt pins s σ H _ _ v u Q I rx ry ⟨i, j, rfl, rfl, AftV.cmp q rfl sf⟩
    | _ => exact q.elim
  | str i =>
    cases h2 with
    | str j => exact op_lt_str pins s σ H _ _ v u Q I rx ry ⟨i, j, rfl, rfl, AftV.cmp q rfl sf⟩
    | _ => exact q.elim
  | _ => exact q.elim
theorem le_D : OpR X (compareOp .LtE) (r2 T X.K (cmpD .le)) := by
  intro pins s σ H x y v u Q I rx ry h
  obtain ⟨F, d1, d2, sf, h1, h2, q⟩ := h
  cases h1 with
  | int i =>
    cases h2 with
    | int j => exact op_le pins s σ H _ _ v u Q I rx ry ⟨i, j, rfl, rfl, AftV.cmp q rfl sf⟩
    | _ => exact q.elim
  | str i =>
    cases h2 with
    | str j => exact op_le_str pins s σ H _ _ v u Q I rx ry ⟨i, j, rfl, rfl, AftV.cmp q rfl sf⟩
    | _ => exact q.elim
  | _ => exact q.elim
theorem gt_D : OpR X (compareOp .Gt) (r2 T X.K (cmpD .gt)) := by
  intro pins s σ H x y v u Q I rx ry h
  obtain ⟨F, d1, d2, sf, h1, h2, q⟩ := h
  cases h1 with
  | int i =>
    cases h2 with
    | int j => exact op_gt pins s σ H _ _ v u Q I rx ry ⟨i, j, rfl, rfl, AftV.cmp q rfl sf⟩
    | _ => exact q.elim
  | _ => cases h2 <;> exact q.elim
theorem ge_D : OpR X (compareOp .GtE) (r2 T X.K (cmpD .ge)) := by
  intro pins s σ H x y v u Q I rx ry h
  obtain ⟨F, d1, d2, sf, h1, h2, q⟩ := h
  cases h1 with
  | int i =>
    cases h2 with
    | int j => exact op_ge pins s σ H _ _ v u Q I rx ry ⟨i, j, rfl, rfl, AftV.cmp q rfl sf⟩
    | _ => exact q.elim
  | str i =>
    cases h2 with
    | str j => exact op_ge_str pins s σ H _ _ v u Q I rx ry ⟨i, j, rfl, rfl, AftV.cmp q rfl sf⟩
    | _ => exact q.elim
  | _ => exact q.elim
theorem room_in {d : D} {xs : List D} {A : Around} (sd : SeqAt.shaped d = true) (hu : A.units + 65 < cLine) : A.units + 1 + min (PyData.depthAll xs) d.depth < cLine := by
  have h1 := SeqAt.depth_of_shaped sd
  have h2 : min (PyData.depthAll xs) d.depth ≤ d.depth := Nat.min_le_right _ _
  omega
theorem in_D (hu : X.A.units + 65 < cLine) : OpR X (compareOp .In) (r2 T X.K (cmpD .isin)) := by
  intro pins s σ H x y v u Q I rx ry h
  obtain ⟨F, d1, d2, sf, h1, h2, q⟩ := h
  obtain ⟨b, e⟩ := AftV.cmpN q
  have q' := AftV.cmp q e sf
  cases h2 with
  | @lst a xs ds ha ra =>
    have e' : gd (SeqAt.shaped d1 && SeqAt.shaped (.list ds)) (anyEq ds d1) = some b := by
      cases d1 <;> exact e
    obtain ⟨g, rfl⟩ := gd_some e'
    rw [Bool.and_eq_true] at g
    exact op_inD hu pins s σ H x _ v u Q I rx ry ⟨d1, ds, (h1.mono sf.sm).dp (plain_of_shaped g.1), ((Rp.lst ha ra).mono sf.sm).dp (plain_of_shaped g.2), g.1, g.2, q'⟩
  | @tup a xs ds ha ra =>
    have e' : gd (SeqAt.shaped d1 && SeqAt.shaped (.tuple ds)) (anyEq ds d1) = some b := by
      cases d1 <;> exact e
    obtain ⟨g, rfl⟩ := gd_some e'
    rw [Bool.and_eq_true] at g
    obtain ⟨as, r1⟩ := Dp.reads I d1 x v ((h1.mono sf.sm).dp (plain_of_shaped g.1)) rx
    obtain ⟨bs, r2⟩ := Dp.reads I (.tuple ds) _ u (((Rp.tup ha ra).mono sf.sm).dp (plain_of_shaped g.2)) ry
    exact SeqAt.in_tuple_reads r2 r1 (SeqAt.canLay_of_shaped g.2) (SeqAt.canLay_of_shaped g.1) (room_in g.1 hu) ⟨.bl _, H, I, rfl, q'⟩
  | str z =>
    cases h1 with
    | str w =>
      have e' : (oneSign w).map (fun c => decide (c ∈ z.cps.toList)) = some b := e
      cases o : oneSign w with
      | none =>
        rw [o] at e'
        cases e'
      | some c =>
        rw [o] at e'
        have e2 := Option.some.inj e'
        subst e2
        have ew := one_sign o
        subst ew
        exact op_in_sign pins s σ H _ _ v u Q I rx ry ⟨c, z, rfl, rfl, q'⟩
    | _ => cases e
  | _ => cases d1 <;> cases e
theorem notin_D (hu : X.A.units + 65 < cLine) : OpR X (compareOp .NotIn) (r2 T X.K (cmpD .notin)) := by
  intro pins s σ H x y v u Q I rx ry h
  obtain ⟨F, d1, d2, sf, h1, h2, q⟩ := h
  obtain ⟨b, e⟩ := AftV.cmpN q
  have q' := AftV.cmp q e sf
  cases h2 with
  | @lst a xs ds ha ra =>
    have e' : gd (SeqAt.shaped d1 && SeqAt.shaped (.list ds)) (!anyEq ds d1) = some b := by
      cases d1 <;> exact e
    obtain ⟨g, rfl⟩ := gd_some e'
    rw [Bool.and_eq_true] at g
    exact op_notInD hu pins s σ H x _ v u Q I rx ry ⟨d1, ds, (h1.mono sf.sm).dp (plain_of_shaped g.1), ((Rp.lst ha ra).mono sf.sm).dp (plain_of_shaped g.2), g.1, g.2, q'⟩
  | @tup a xs ds ha ra =>
    have e' : gd (SeqAt.shaped d1 && SeqAt.shaped (.tuple ds)) (!anyEq ds d1) = some b := by
      cases d1 <;> exact e
    obtain ⟨g, rfl⟩ := gd_some e'
    rw [Bool.and_eq_true] at g
    obtain ⟨as, r1⟩ := Dp.reads I d1 x v ((h1.mono sf.sm).dp (plain_of_shaped g.1)) rx
    obtain ⟨bs, r2⟩ := Dp.reads I (.tuple ds) _ u (((Rp.tup ha ra).mono sf.sm).dp (plain_of_shaped g.2)) ry
    exact SeqAt.notIn_tuple_reads r2 r1 (SeqAt.canLay_of_shaped g.2) (SeqAt.canLay_of_shaped g.1) (room_in g.1 hu) ⟨.bl _, H, I, rfl, q'⟩
  | str z =>
    cases h1 with
    | str w =>
      have e' : (oneSign w).map (fun c => !decide (c ∈ z.cps.toList)) = some b := e
      cases o : oneSign w with
      | none =>
        rw [o] at e'
        cases e'
      | some c =>
        rw [o] at e'
        have e2 := Option.some.inj e'
        subst e2
        have ew := one_sign o
        subst ew
        exact op_notIn_sign pins s σ H _ _ v u Q I rx ry ⟨c, z, rfl, rfl, q'⟩
    | _ => cases e
  | _ => cases d1 <;> cases e
theorem is_D : OpR X (compareOp .Is) (r2 T X.K (cmpD .is_)) := by
  intro pins s σ H x y v u Q I rx ry h
  obtain ⟨F, d1, d2, sf, h1, h2, q⟩ := h
  cases h2 with
  | non =>
    refine op_isN pins s σ H x _ v u Q I rx ry ⟨rfl, ?_⟩
    cases h1 with
    | non => exact AftV.cmp q rfl sf
    | bl b => exact AftV.cmp q rfl sf
    | int b => exact AftV.cmp q rfl sf
    | str b => exact AftV.cmp q rfl sf
    | lst ha ra => exact AftV.cmp q rfl sf
    | tup ha ra => exact AftV.cmp q rfl sf
    | scr ha => exact AftV.cmp q rfl sf
  | bl b =>
    cases h1 with
    | bl a => exact op_isBl pins s σ H _ _ v u Q I rx ry ⟨a, b, rfl, rfl, AftV.cmp q rfl sf⟩
    | _ => exact q.elim
  | _ => cases h1 <;> exact q.elim
theorem isnot_D : OpR X (compareOp .IsNot) (r2 T X.K (cmpD .isnot)) := by
  intro pins s σ H x y v u Q I rx ry h
  obtain ⟨F, d1, d2, sf, h1, h2, q⟩ := h
  cases h2 with
  | non =>
    refine op_notN pins s σ H x _ v u Q I rx ry ⟨rfl, ?_⟩
    cases h1 with
    | non => exact AftV.cmp q rfl sf
    | bl b => exact AftV.cmp q rfl sf
    | int b => exact AftV.cmp q rfl sf
    | str b => exact AftV.cmp q rfl sf
    | lst ha ra => exact AftV.cmp q rfl sf
    | tup ha ra => exact AftV.cmp q rfl sf
    | scr ha => exact AftV.cmp q rfl sf
  | bl b =>
    cases h1 with
    | bl a => exact op_notBl pins s σ H _ _ v u Q I rx ry ⟨a, b, rfl, rfl, AftV.cmp q rfl sf⟩
    | _ => exact q.elim
  | _ => cases h1 <;> exact q.elim
theorem cmp_D (hu : X.A.units + 65 < cLine) (o : Cm) : OpR X (compareOp o.py) (r2 T X.K (cmpD o)) := by
  cases o with
  | lt => exact lt_D
  | le => exact le_D
  | gt => exact gt_D
  | ge => exact ge_D
  | eq => exact eq_D hu
  | ne => exact ne_D hu
  | isin => exact in_D hu
  | notin => exact notin_D hu
  | is_ => exact is_D
  | isnot => exact isnot_D
end
end Tl
namespace Tl
open PySem PySem.Spec L2

/-! ### items, slices, truth -/
def ixV : D → D → Option D
  | .list ds, .int i => atI ds i
  | .tuple ds, .int i => atI ds i
  | .dict [(.none, .list ds)], .int i => atI ds i
  | .str z, .int i => if z.length ≤ sizeLine then (atI z.cps.toList i).map fun c => .str ⟨#[c]⟩ else none
  | _, _ => none
theorem RpA.atI {K : PySem.W.Frag} {F : Hp} {vs : List V} {ds : List D} {i : Int} {d : D} (r : RpA K F vs ds) (h : L2.atI ds i = some d) : ∃ v, L2.atI vs i = some v ∧ Rp K F v d := by
  unfold L2.atI at h ⊢
  rw [r.length]
  cases q : ixN ds.length i with
  | none =>
    rw [q] at h
    cases h
  | some j =>
    rw [q] at h
    exact r.getD (show ds[j]? = some d from h)
section
variable {X : Cx}
theorem rpa_ints {K : PySem.W.Frag} {F : Hp} : ∀ ns : List Int, RpA K F (ns.map V.int) (ns.map PyData.int)
  | [] => .nil
  | n :: ns => .cons (.int n) (rpa_ints ns)
theorem ix_D : IxR X (r2 T X.K ixV) := by
  intro value slice pins s σ H x y v u Q I rx ry h hs
  obtain ⟨F, d1, d2, sf, h1, h2, q⟩ := h
  cases h1 with
  | lst ha ra =>
    cases h2 with
    | int i =>
      cases e : L2.atI _ i with
      | none =>
        have q' : AftV T X.K (L2.atI _ i) F H Q := q
        rw [e] at q'
        exact q'.elim
      | some d =>
        have q' : AftV T X.K (L2.atI _ i) F H Q := q
        rw [e] at q'
        obtain ⟨w, e1, e2⟩ := ra.atI e
        exact ix_list value slice pins s σ H _ _ v u Q I rx ry ⟨_, _, _, w, rfl, rfl, .of (sf _ _ ha), e1, q'.now sf e2⟩ hs
    | _ => exact q.elim
  | tup ha ra =>
    cases h2 with
    | int i =>
      cases e : L2.atI _ i with
      | none =>
        have q' : AftV T X.K (L2.atI _ i) F H Q := q
        rw [e] at q'
        exact q'.elim
      | some d =>
        have q' : AftV T X.K (L2.atI _ i) F H Q := q
        rw [e] at q'
        obtain ⟨w, e1, e2⟩ := ra.atI e
        exact ix_tup value slice pins s σ H _ _ v u Q I rx ry ⟨_, _, _, w, rfl, rfl, .of (sf _ _ ha), e1, q'.now sf e2⟩ hs
    | _ => exact q.elim
  | str z =>
    cases h2 with
    | int i =>
      have q' : AftV T X.K (if z.length ≤ sizeLine then (L2.atI z.cps.toList i).map fun c => PyData.str ⟨#[c]⟩ else none) F H Q := q
      split at q'
      · rename_i hz
        cases e : L2.atI z.cps.toList i with
        | none =>
          rw [e] at q'
          exact q'.elim
        | some c =>
          rw [e] at q'
          exact ix_str value slice pins s σ H _ _ v u Q I rx ry ⟨z, i, c, rfl, rfl, hz, e, AftV.now q' sf (.str _)⟩ hs
      · exact q'.elim
    | _ => exact q.elim
  | @scr a ns hq =>
    cases h2 with
    | int i =>
      cases e : L2.atI (ns.map PyData.int) i with
      | none =>
        have q' : AftV T X.K (L2.atI (ns.map PyData.int) i) F H Q := q
        rw [e] at q'
        exact q'.elim
      | some d =>
        have q' : AftV T X.K (L2.atI (ns.map PyData.int) i) F H Q := q
        rw [e] at q'
        obtain ⟨w, e1, e2⟩ := (rpa_ints (K := X.K) (F := F) ns).atI e
        exact ix_list value slice pins s σ H _ _ v u Q I rx ry ⟨_, _, _, w, rfl, rfl, sf.sm.seq hq, e1, q'.now sf e2⟩ hs
    | _ => exact q.elim
  | _ => exact q.elim
end
def cutD (xs : List D) (lo hi : Option Int) : List D := (xs.drop (HT.sIx xs.length 0 lo)).take (HT.sIx xs.length xs.length hi - HT.sIx xs.length 0 lo)
theorem RpA.cut {K : PySem.W.Frag} {F : Hp} {vs : List V} {ds : List D} (r : RpA K F vs ds) (lo hi : Option Int) : RpA K F (cutV vs lo hi) (cutD ds lo hi) := by
  unfold cutV cutD
  rw [r.length]
  exact (r.drop _).take _
def slV : D → Option Int → Option Int → Option D
  | .list ds, lo, hi => some (.list (cutD ds lo hi))
  | .tuple ds, lo, hi => some (.tuple (cutD ds lo hi))
  | .str z, lo, hi => gd (sz z.length) (.str (cutS z lo hi))
  | _, _, _ => none
def rSl (T : Tbl) (K : PySem.W.Frag) : V → Option Int → Option Int → Hp → VK → Prop := fun x lo hi H Q => ∃ F d, Fz T F H ∧ Rp K F x d ∧ AftV T K (slV d lo hi) F H Q
theorem cutD_whole {ds : List D} {lo hi : Option Int} (h : HT.sIx ds.length 0 lo = 0 ∧ HT.sIx ds.length ds.length hi = ds.length) : cutD ds lo hi = ds := by
  unfold cutD
  rw [h.1, h.2]
  simp
section
variable {X : Cx}
theorem sl_D : SlR X (rSl T X.K) := by
  intro pins s σ H x v vl vu lo hi sl Q I rx hs pl pu h
  obtain ⟨F, d, sf, h1, q⟩ := h
  cases h1 with
  | lst ha ra => exact sl_list pins s σ H _ v vl vu lo hi sl Q I rx hs pl pu ⟨_, _, rfl, .of (sf _ _ ha), fun p n => AftV.lst q sf (ra.cut lo hi) n⟩
  | tup ha ra =>
    refine sl_tupA pins s σ H _ v vl vu lo hi sl Q I rx hs pl pu ⟨_, _, rfl, .of (sf _ _ ha), fun w => ?_, fun _ p n => AftV.tup q sf (ra.cut lo hi) n⟩
    rw [ra.length] at w
    have q' : AftV T X.K (some (.tuple (cutD _ lo hi))) F H Q := q
    rw [cutD_whole w] at q'
    exact q'.now sf (.tup ha ra)
  | str z =>
    obtain ⟨g, q⟩ := AftV.gd q
    exact sl_str pins s σ H _ v vl vu lo hi sl Q I rx hs pl pu ⟨z, rfl, of_decide_eq_true g, AftV.now q sf (.str _)⟩
  | _ => exact q.elim
end
def truV : D → Option Bool
  | .none => some false
  | .bool b => some b
  | .int i => some (i != 0)
  | .str x => gd (sz x.length) ((x.length : Int) != 0)
  | .list ds => some (!ds.isEmpty)
  | .tuple ds => some (!ds.isEmpty)
  | .dict _ => none
theorem RpA.emp {K : PySem.W.Frag} {F : Hp} {vs : List V} {ds : List D} (r : RpA K F vs ds) : vs.isEmpty = ds.isEmpty := by cases r <;> rfl
theorem tru_of {K : PySem.W.Frag} {F H : Hp} {v : V} {d : D} {b : Bool} (sf : Fz T F H) (r : Rp K F v d) (h : truV d = some b) : TruV K v H b := by
  cases r with
  | non => exact (Option.some.inj h).symm
  | bl _ => exact (Option.some.inj h).symm
  | int _ => exact (Option.some.inj h).symm
  | str x =>
    obtain ⟨g, e⟩ := gd_some (show gd (sz x.length) ((x.length : Int) != 0) = some b from h)
    exact ⟨of_decide_eq_true g, e⟩
  | lst ha ra => exact .inl ⟨_, .of (sf _ _ ha), by rw [ra.emp]; exact (Option.some.inj h).symm⟩
  | tup ha ra => exact .inr (.inl ⟨_, .of (sf _ _ ha), by rw [ra.emp]; exact (Option.some.inj h).symm⟩)
  | scr _ => cases h

/-! ### built-in functions of values -/
def intsD : List D → Option (List Int)
  | [] => some []
  | .int i :: r => (intsD r).map (i :: ·)
  | _ :: _ => none
def boolsD : List D → Option (List Bool)
  | [] => some []
  | .bool i :: r => (boolsD r).map (i :: ·)
  | _ :: _ => none
theorem ints_of {K : PySem.W.Frag} {F : Hp} : ∀ {vs : List V} {ds : List D} {ns : List Int}, RpA K F vs ds → intsD ds = some ns → vs = ns.map V.int
  | _, _, _, .nil, h => by
    have e := Option.some.inj h
    subst e
    rfl
  | _, _, ns, .cons (d := d) (ds := ds) h r, e => by
    cases d with
    | int i =>
      cases h
      have e' : (intsD ds).map (i :: ·) = some ns := e
      cases q : intsD ds with
      | none =>
        rw [q] at e'
        cases e'
      | some ms =>
        rw [q] at e'
        have e2 := Option.some.inj e'
        rw [ints_of r q, ← e2]
        rfl
    | _ => cases e
theorem bools_of {K : PySem.W.Frag} {F : Hp} : ∀ {vs : List V} {ds : List D} {ns : List Bool}, RpA K F vs ds → boolsD ds = some ns → vs = ns.map V.bl
  | _, _, _, .nil, h => by
    have e := Option.some.inj h
    subst e
    rfl
  | _, _, ns, .cons (d := d) (ds := ds) h r, e => by
    cases d with
    | bool i =>
      cases h
      have e' : (boolsD ds).map (i :: ·) = some ns := e
      cases q : boolsD ds with
      | none =>
        rw [q] at e'
        cases e'
      | some ms =>
        rw [q] at e'
        have e2 := Option.some.inj e'
        rw [bools_of r q, ← e2]
        rfl
    | _ => cases e
def maxL : Int → List Int → Int
  | m, [] => m
  | m, x :: r => maxL (if x > m then x else m) r
def minL : Int → List Int → Int
  | m, [] => m
  | m, x :: r => minL (if x < m then x else m) r
theorem maxL_ge : ∀ (r : List Int) (m : Int), m ≤ maxL m r ∧ ∀ y ∈ r, y ≤ maxL m r
  | [], m => ⟨Int.le_refl _, fun _ h => nomatch h⟩
  | x :: r, m => by
    obtain ⟨h1, h2⟩ := maxL_ge r (if x > m then x else m)
    show m ≤ maxL (if x > m then x else m) r ∧ ∀ y ∈ x :: r, y ≤ maxL (if x > m then x else m) r
    refine ⟨?_, fun y hy => ?_⟩
    · split at h1 <;> split <;> omega
    · rcases List.mem_cons.mp hy with e | hy
      · subst e
        split at h1 <;> split <;> omega
      · exact h2 y hy
theorem maxL_mem : ∀ (r : List Int) (m : Int), maxL m r = m ∨ maxL m r ∈ r
  | [], m => .inl rfl
  | x :: r, m => by
    show maxL (if x > m then x else m) r = m ∨ maxL (if x > m then x else m) r ∈ x :: r
    rcases maxL_mem r (if x > m then x else m) with e | e
    · by_cases h : x > m
      · rw [if_pos h] at e ⊢
        exact .inr (by rw [e]; exact List.mem_cons_self)
      · rw [if_neg h] at e ⊢
        exact .inl e
    · exact .inr (List.mem_cons_of_mem _ e)
theorem minL_le : ∀ (r : List Int) (m : Int), minL m r ≤ m ∧ ∀ y ∈ r, minL m r ≤ y
  | [], m => ⟨Int.le_refl _, fun _ h => nomatch h⟩
  | x :: r, m => by
    obtain ⟨h1, h2⟩ := minL_le r (if x < m then x else m)
    show minL (if x < m then x else m) r ≤ m ∧ ∀ y ∈ x :: r, minL (if x < m then x else m) r ≤ y
    refine ⟨?_, fun y hy => ?_⟩
    · split at h1 <;> split <;> omega
    · rcases List.mem_cons.mp hy with e | hy
      · subst e
        split at h1 <;> split <;> omega
      · exact h2 y hy
theorem minL_mem : ∀ (r : List Int) (m : Int), minL m r = m ∨ minL m r ∈ r
  | [], m => .inl rfl
  | x :: r, m => by
    show minL (if x < m then x else m) r = m ∨ minL (if x < m then x else m) r ∈ x :: r
    rcases minL_mem r (if x < m then x else m) with e | e
    · by_cases h : x < m
      · rw [if_pos h] at e ⊢
        exact .inr (by rw [e]; exact List.mem_cons_self)
      · rw [if_neg h] at e ⊢
        exact .inl e
    · exact .inr (List.mem_cons_of_mem _ e)
inductive Pr where
  | len | tuple | list | any | all | sum | abs | min | max | int
def Pr.name : Pr → Str
  | .len => "len"
  | .tuple => "tuple"
  | .list => "list"
  | .any => "any"
  | .all => "all"
  | .sum => "sum"
  | .abs => "abs"
  | .min => "min"
  | .max => "max"
  | .int => "int"
def Pr.isTy : Pr → Option String
  | .tuple => some "tuple"
  | .list => some "list"
  | .int => some "int"
  | _ => none
def Pr.id : Pr → String
  | .len => "len"
  | .tuple => "tuple"
  | .list => "list"
  | .any => "any"
  | .all => "all"
  | .sum => "sum"
  | .abs => "abs"
  | .min => "min"
  | .max => "max"
  | .int => "int"
def Pr.val (p : Pr) : Value := match p.isTy with
  | some t => .type t
  | none => .builtin p.id
theorem Pr.boot (p : Pr) : bootBuiltins p.name = some p.val := by cases p <;> decide +kernel
def minO : List Int → Option D
  | [] => none
  | i :: r => some (.int (minL i r))
def maxO : List Int → Option D
  | [] => none
  | i :: r => some (.int (maxL i r))
def prV : Pr → List D → Option D
  | .len, [.list ds] => some (.int ds.length)
  | .len, [.tuple ds] => some (.int ds.length)
  | .len, [.dict [(.none, .list ds)]] => some (.int ds.length)
  | .len, [.str x] => gd (sz x.length) (.int x.length)
  | .tuple, [.list ds] => some (.tuple ds)
  | .tuple, [.tuple ds] => some (.tuple ds)
  | .list, [.list ds] => some (.list ds)
  | .list, [.tuple ds] => some (.list ds)
  | .any, [.list ds] => (boolsD ds).map fun bs => .bool (bs.any id)
  | .all, [.list ds] => (boolsD ds).map fun bs => .bool (bs.all id)
  | .sum, [.list ds] => (intsD ds).map fun ns => .int ns.sum
  | .abs, [.int i] => some (.int (if i < 0 then -i else i))
  | .min, [.int i, .int j] => some (.int (if j < i then j else i))
  | .max, [.int i, .int j] => some (.int (if j > i then j else i))
  | .min, [.list ds] => (intsD ds).bind minO
  | .max, [.list ds] => (intsD ds).bind maxO
  | .int, [.bool b] => some (.int (if b then 1 else 0))
  | .int, [.int i] => some (.int i)
  | _, _ => none
section
variable {X : Cx}
theorem AftV.map {α : Type} {K : PySem.W.Frag} {o : Option α} {f : α → D} {F H : Hp} {Q : VK} (h : AftV T K (o.map f) F H Q) : ∃ a, o = some a ∧ AftV T K (some (f a)) F H Q := by
  cases o with
  | none => exact h.elim
  | some a => exact ⟨a, rfl, h⟩
theorem AftV.bindO {α : Type} {K : PySem.W.Frag} {o : Option α} {f : α → Option D} {F H : Hp} {Q : VK} (h : AftV T K (o.bind f) F H Q) : ∃ a, o = some a ∧ AftV T K (f a) F H Q := by
  cases o with
  | none => exact h.elim
  | some a => exact ⟨a, rfl, h⟩
theorem pr_D (hc : X.calm = true) (p : Pr) : CallR X p.val (rL T X.K (prV p)) := by
  intro pins s σ H xs us Q I r h
  obtain ⟨F, ds, sf, hr, q⟩ := h
  cases p with
  | len =>
    cases hr with
    | nil => exact q.elim
    | cons h1 hr =>
      cases hr with
      | cons _ _ => cases h1 <;> exact q.elim
      | nil =>
        cases h1 with
        | lst ha ra => exact call_len pins s σ H _ us Q I r ⟨_, _, rfl, .inl ⟨_, .of (sf _ _ ha), ra.length.symm⟩, AftV.int q sf⟩
        | tup ha ra => exact call_len pins s σ H _ us Q I r ⟨_, _, rfl, .inr ⟨_, .of (sf _ _ ha), ra.length.symm⟩, AftV.int q sf⟩
        | scr hq => exact call_len pins s σ H _ us Q I r ⟨_, _, rfl, .inl ⟨_, sf.sm.seq hq, by rw [List.length_map, List.length_map]⟩, AftV.int q sf⟩
        | str x =>
          obtain ⟨g, q⟩ := AftV.gd q
          exact call_len pins s σ H _ us Q I r ⟨_, _, rfl, ⟨of_decide_eq_true g, rfl⟩, AftV.int q sf⟩
        | _ => exact q.elim
  | tuple =>
    cases hr with
    | nil => exact q.elim
    | cons h1 hr =>
      cases hr with
      | cons _ _ => cases h1 <;> exact q.elim
      | nil =>
        cases h1 with
        | lst ha ra => exact call_tuple_of pins s σ H _ us Q I r ⟨_, _, rfl, .inl ⟨.of (sf _ _ ha), fun p n => AftV.tup q sf ra n⟩⟩
        | tup ha ra => exact call_tuple_of pins s σ H _ us Q I r ⟨_, _, rfl, .inr ⟨.of (sf _ _ ha), AftV.now q sf (.tup ha ra)⟩⟩
        | _ => exact q.elim
  | list =>
    cases hr with
    | nil => exact q.elim
    | cons h1 hr =>
      cases hr with
      | cons _ _ => cases h1 <;> exact q.elim
      | nil =>
        cases h1 with
        | lst ha ra => exact call_list_of pins s σ H _ us Q I r ⟨_, _, rfl, .inl (.of (sf _ _ ha)), fun p n => AftV.lst q sf ra n⟩
        | tup ha ra => exact call_list_of pins s σ H _ us Q I r ⟨_, _, rfl, .inr (.of (sf _ _ ha)), fun p n => AftV.lst q sf ra n⟩
        | _ => exact q.elim
  | any =>
    cases hr with
    | nil => exact q.elim
    | cons h1 hr =>
      cases hr with
      | cons _ _ => cases h1 <;> exact q.elim
      | nil =>
        cases h1 with
        | lst ha ra =>
          obtain ⟨bs, e, q⟩ := AftV.map q
          have ev := bools_of ra e
          subst ev
          exact cr_any hc pins s σ H _ us Q I r ⟨_, bs, rfl, .of (sf _ _ ha), AftV.bl q sf⟩
        | _ => exact q.elim
  | all =>
    cases hr with
    | nil => exact q.elim
    | cons h1 hr =>
      cases hr with
      | cons _ _ => cases h1 <;> exact q.elim
      | nil =>
        cases h1 with
        | lst ha ra =>
          obtain ⟨bs, e, q⟩ := AftV.map q
          have ev := bools_of ra e
          subst ev
          exact cr_all hc pins s σ H _ us Q I r ⟨_, bs, rfl, .of (sf _ _ ha), AftV.bl q sf⟩
        | _ => exact q.elim
  | sum =>
    cases hr with
    | nil => exact q.elim
    | cons h1 hr =>
      cases hr with
      | cons _ _ => cases h1 <;> exact q.elim
      | nil =>
        cases h1 with
        | lst ha ra =>
          obtain ⟨bs, e, q⟩ := AftV.map q
          have ev := ints_of ra e
          subst ev
          exact cr_sum hc pins s σ H _ us Q I r ⟨_, bs, rfl, .of (sf _ _ ha), AftV.int q sf⟩
        | _ => exact q.elim
  | abs =>
    cases hr with
    | nil => exact q.elim
    | cons h1 hr =>
      cases hr with
      | cons _ _ => cases h1 <;> exact q.elim
      | nil =>
        cases h1 with
        | int i => exact call_abs pins s σ H _ us Q I r ⟨i, rfl, AftV.int q sf⟩
        | _ => exact q.elim
  | int =>
    cases hr with
    | nil => exact q.elim
    | cons h1 hr =>
      cases hr with
      | cons _ _ => cases h1 <;> exact q.elim
      | nil =>
        cases h1 with
        | int i => exact call_int1 pins s σ H _ us Q I r (.inl ⟨i, rfl, AftV.int q sf⟩)
        | bl b => exact call_int1 pins s σ H _ us Q I r (.inr ⟨b, rfl, AftV.int q sf⟩)
        | _ => exact q.elim
  | min =>
    cases hr with
    | nil => exact q.elim
    | cons h1 hr =>
      cases hr with
      | nil =>
        cases h1 with
        | lst ha ra =>
          obtain ⟨ms, e, q⟩ := AftV.bindO q
          have ev := ints_of ra e
          subst ev
          cases ms with
          | nil => exact q.elim
          | cons i ns =>
            refine cr_min hc pins s σ H _ us Q I r ⟨_, i :: ns, rfl, .of (sf _ _ ha), by simp, fun m hm hle => ?_⟩
            have : m = minL i ns := by
              have h1 := minL_le ns i
              have h2 := minL_mem ns i
              have h3 : m ≤ minL i ns := by
                rcases h2 with e | e
                · rw [e]
                  exact hle _ List.mem_cons_self
                · exact hle _ (List.mem_cons_of_mem _ e)
              rcases List.mem_cons.mp hm with e | e
              · subst e
                omega
              · have := h1.2 m e
                omega
            rw [this]
            exact AftV.int q sf
        | _ => exact q.elim
      | cons h2 hr =>
        cases hr with
        | cons _ _ => cases h1 <;> cases h2 <;> exact q.elim
        | nil =>
          cases h1 with
          | int i =>
            cases h2 with
            | int j => exact call_min2 hc pins s σ H _ us Q I r ⟨i, j, rfl, AftV.int q sf⟩
            | _ => exact q.elim
          | _ => cases h2 <;> exact q.elim
  | max =>
    cases hr with
    | nil => exact q.elim
    | cons h1 hr =>
      cases hr with
      | nil =>
        cases h1 with
        | lst ha ra =>
          obtain ⟨ms, e, q⟩ := AftV.bindO q
          have ev := ints_of ra e
          subst ev
          cases ms with
          | nil => exact q.elim
          | cons i ns =>
            refine cr_max hc pins s σ H _ us Q I r ⟨_, i :: ns, rfl, .of (sf _ _ ha), by simp, fun m hm hle => ?_⟩
            have : m = maxL i ns := by
              have h1 := maxL_ge ns i
              have h2 := maxL_mem ns i
              have h3 : maxL i ns ≤ m := by
                rcases h2 with e | e
                · rw [e]
                  exact hle _ List.mem_cons_self
                · exact hle _ (List.mem_cons_of_mem _ e)
              rcases List.mem_cons.mp hm with e | e
              · subst e
                omega
              · have := h1.2 m e
                omega
            rw [this]
            exact AftV.int q sf
        | _ => exact q.elim
      | cons h2 hr =>
        cases hr with
        | cons _ _ => cases h1 <;> cases h2 <;> exact q.elim
        | nil =>
          cases h1 with
          | int i =>
            cases h2 with
            | int j => exact call_max2 hc pins s σ H _ us Q I r ⟨i, j, rfl, AftV.int q sf⟩
            | _ => exact q.elim
          | _ => cases h2 <;> exact q.elim
end
end Tl
namespace Tl
open PySem PySem.Spec L2

/-! ### what is walked, by data -/
structure Wk (T : Tbl) (K : PySem.W.Frag) (F : Hp) (J : It) (ds : List D) : Prop where
  goes : ∀ i H, i < ds.length → Same F H → J.go i H
  stops : ∀ H, Same F H → J.stop ds.length H
  ylds : ∀ (i : Nat) H x H' d Fc, ds[i]? = some d → Same F Fc → Fz T Fc H → J.yld i H x H' → ∃ Fc', Ex T Fc H Fc' H' ∧ Rp K Fc' x d
section
variable {K : PySem.W.Frag} {F : Hp} {a b : Addr} {xs ys : List V} {ds es : List D}
theorem wk_list (h : F a = some (.lst xs)) (r : RpA K F xs ds) : Wk T K F (Itl K a) ds where
  goes := fun i H hi s => by
    rw [← r.length] at hi
    exact ⟨xs, xs[i], .of (s _ _ h), by simp [hi]⟩
  stops := fun H s => ⟨xs, .of (s _ _ h), by rw [r.length]; exact Nat.le_refl _⟩
  ylds := fun i H x H' d Fc e sF sH y => by
    obtain ⟨rfl, y⟩ := y
    have hx := y xs (.of (sH _ _ (sF _ _ h)))
    obtain ⟨d', e', rx⟩ := r.get hx
    rw [e] at e'
    cases e'
    exact ⟨Fc, .refl sH, rx.mono sF⟩
theorem wk_tup (h : F a = some (.tup xs)) (r : RpA K F xs ds) : Wk T K F (Itt K a) ds where
  goes := fun i H hi s => by
    rw [← r.length] at hi
    exact ⟨xs, xs[i], .of (s _ _ h), by simp [hi]⟩
  stops := fun H s => ⟨xs, .of (s _ _ h), by rw [r.length]; exact Nat.le_refl _⟩
  ylds := fun i H x H' d Fc e sF sH y => by
    obtain ⟨rfl, y⟩ := y
    have hx := y xs (.of (sH _ _ (sF _ _ h)))
    obtain ⟨d', e', rx⟩ := r.get hx
    rw [e] at e'
    cases e'
    exact ⟨Fc, .refl sH, rx.mono sF⟩
def signsD (z : Str) : List D := z.cps.toList.map fun c => .str ⟨#[c]⟩
theorem signsD_len (z : Str) : (signsD z).length = z.cps.size := by simp [signsD]
theorem wk_str (z : Str) : Wk T K F (Its z) (signsD z) where
  goes := fun i H hi s => by
    rw [signsD_len] at hi
    exact hi
  stops := fun H s => by
    rw [signsD_len]
    exact Nat.le_refl _
  ylds := fun i H x H' d Fc e sF sH y => by
    obtain ⟨rfl, c, hc, rfl⟩ := y
    have e' : (signsD z)[i]? = some (.str ⟨#[c]⟩) := by
      unfold signsD
      rw [List.getElem?_map, show z.cps.toList[i]? = some c by simpa using hc]
      rfl
    rw [e] at e'
    cases e'
    exact ⟨Fc, .refl sH, .str _⟩
def rangeD (lo : Int) (n : Nat) : List D := (List.range n).map fun (i : Nat) => .int (lo + (i : Int))
theorem rangeD_len (lo : Int) (n : Nat) : (rangeD lo n).length = n := by simp [rangeD]
theorem wk_range (lo : Int) (n : Nat) : Wk T K F (Itr lo n) (rangeD lo n) where
  goes := fun i H hi s => by
    rw [rangeD_len] at hi
    exact hi
  stops := fun H s => by
    rw [rangeD_len]
    exact Nat.le_refl _
  ylds := fun i H x H' d Fc e sF sH y => by
    obtain ⟨rfl, rfl⟩ := y
    have hi : i < n := by
      have := (List.getElem?_eq_some_iff.mp e).1
      rw [rangeD_len] at this
      exact this
    have e' : (rangeD lo n)[i]? = some (.int (lo + (i : Int))) := by
      unfold rangeD
      rw [List.getElem?_map, List.getElem?_range hi]
      rfl
    rw [e] at e'
    cases e'
    exact ⟨Fc, .refl sH, .int _⟩
def zipD : List D → List D → List D
  | x :: r, y :: s => .tuple [x, y] :: zipD r s
  | _, _ => []
theorem zipD_len : ∀ (ds es : List D), (zipD ds es).length = min ds.length es.length
  | [], _ => by simp [zipD]
  | _ :: _, [] => by simp [zipD]
  | x :: r, y :: s => by
    show (zipD r s).length + 1 = min (r.length + 1) (s.length + 1)
    rw [zipD_len r s]
    omega
theorem zipD_get : ∀ (ds es : List D) (i : Nat) (d : D), (zipD ds es)[i]? = some d → ∃ x y, ds[i]? = some x ∧ es[i]? = some y ∧ d = .tuple [x, y]
  | [], _, _, _, h => by simp [zipD] at h
  | _ :: _, [], _, _, h => by simp [zipD] at h
  | x :: r, y :: s, 0, d, h => ⟨x, y, rfl, rfl, (Option.some.inj h).symm⟩
  | x :: r, y :: s, i + 1, d, h => zipD_get r s i d h
/-- a new pair -/
theorem pair_new {H Fc : Hp} {p : Addr} {x y : V} {d e : D} (sH : Fz T Fc H) (n : H p = none) (rx : Rp K Fc x d) (ry : Rp K Fc y e) :
    ∃ Fc', Ex T Fc H Fc' (upd H p (.tup [x, y])) ∧ Rp K Fc' (.ref p) (.tuple [d, e]) := by
  refine ⟨upd Fc p (.tup [x, y]), (Ex.refl sH).new _ n, .tup upd_same ?_⟩
  have s := same_upd (o := .tup [x, y]) (sH.free n)
  exact .cons (rx.mono s) (.cons (ry.mono s) .nil)
theorem wk_zipT (h : F a = some (.tup xs)) (r : RpA K F xs ds) (h2 : F b = some (.tup ys)) (r2 : RpA K F ys es) : Wk T K F (RZ.ItzT K a b) (zipD ds es) where
  goes := fun i H hi s => by
    rw [zipD_len] at hi
    have h1 : i < xs.length := by
      rw [r.length]
      omega
    have h3 : i < ys.length := by
      rw [r2.length]
      omega
    exact ⟨xs, ys, xs[i], ys[i], .of (s _ _ h), .of (s _ _ h2), by simp [h1], by simp [h3]⟩
  stops := fun H s => by
    have h1 := r.length
    have h3 := r2.length
    have h4 := zipD_len ds es
    exact ⟨xs, ys, .of (s _ _ h), .of (s _ _ h2), by omega⟩
  ylds := fun i H x H' d Fc e sF sH y => by
    obtain ⟨T, u, v, rfl, nT, rfl, y1, y2⟩ := y
    obtain ⟨p, q, e1, e2, rfl⟩ := zipD_get _ _ _ _ e
    obtain ⟨p', e1', rp⟩ := r.get (y1 xs (.of (sH _ _ (sF _ _ h))))
    obtain ⟨q', e2', rq⟩ := r2.get (y2 ys (.of (sH _ _ (sF _ _ h2))))
    rw [e1] at e1'
    rw [e2] at e2'
    cases e1'
    cases e2'
    exact pair_new sH nT (rp.mono sF) (rq.mono sF)
end
/-! ### enumerate of a list, a tuple, a text -/
def ItE (x : Nat → Option V) (n : Nat) (G : Hp → Prop) : It :=
  ⟨fun i H => i < n ∧ G H, fun i H v H' => ∃ T y, v = .ref T ∧ H T = none ∧ H' = upd H T (.tup [.int (i : Nat), y]) ∧ x i = some y, fun i H => i = n ∧ G H⟩
/-- the source of an enumerate: how its iterator stands and draws -/
structure Src (P : Program) (w : World) (K : PySem.W.Frag) (it : Addr) (x : Nat → Option V) (n : Nat) (G : Hp → Prop) (st : Nat → Heap → Prop) : Prop where
  obj : ∀ i h, st i h → ∃ o, h.get? it = some o ∧ ∀ v, o.data ≠ .cell v
  keep : ∀ i h h', st i h → (∀ o, h.get? it = some o → h'.get? it = some o) → st i h'
  draws : ∀ (X : Cx), X.prog = P → X.w = w → X.K = K → X.calm = true → ∀ (i : Nat) (pins : List (Addr × Obj)) (s : Shared) (σ : L2.St) (H : Hp) (e : Addr), Inv X pins σ H s → H e = none → H it = none → e ≠ it → G H → st i s.heap →
    ∃ fp Pv St, Draws P w X.A.in1 it fp n Pv St ∧ St i s.heap ∧ e ∉ fp ∧ (∀ u, i < n → Pv i u → ∃ y, x i = some y ∧ RelV y u) ∧ ∀ h', St (i + 1) h' → st (i + 1) h'
theorem turn_enumG {P : Program} {w : World} {K : PySem.W.Frag} {elts : List Expr} {kk : Nat} {tpos : Pos} {it e : Addr} {x : Nat → Option V} {n : Nat} {G : Hp → Prop} {st : Nat → Heap → Prop} (S : Src P w K it x n G st) :
    Turn P w K (.Tuple elts kk tpos) (ItE x n G) [e, it] e (fun i h => (∃ old, IsEnum h e it ((i : Nat) : Int) old) ∧ st i h ∧ e ≠ it) where
  mem := by simp
  obj := fun i h q b hb => by
    obtain ⟨⟨old, he⟩, hs, _⟩ := q
    have e' : b = e ∨ b = it := by simpa using hb
    rcases e' with z | z
    · rw [z]
      exact ⟨_, he, fun v q => nomatch q⟩
    · rw [z]
      exact S.obj i h hs
  keep := fun i h h' q k => by
    obtain ⟨⟨old, he⟩, hi, hne⟩ := q
    exact ⟨⟨old, k e (by simp) _ he⟩, S.keep i h h' hi fun o q => k it (by simp) o q, hne⟩
  item := by
    intro X hP hw hK hc i pins s σ H E I hf q hg
    obtain ⟨⟨old, he⟩, hs, hne⟩ := q
    obtain ⟨hi, hG⟩ := hg
    obtain ⟨fp, Pv, St, Dr, hst, hef, hrel, hback⟩ := S.draws X hP hw hK hc i pins s σ H e I (hf e (by simp)).1 (hf it (by simp)).1 hne hG hs
    subst hP hw hK
    have hel : e < s.heap.objs.size := Heap.lt_size he
    have hil : it < s.heap.objs.size := by
      obtain ⟨o, q, _⟩ := S.obj i _ hs
      exact Heap.lt_size q
    refine wpAny_pyNext_enum_itemC Dr he hst hi hne hef fun u h' tk hP ho hs' hT hsz hk => ?_
    obtain ⟨y, hy, ry⟩ := hrel u hi hP
    refine ⟨_, rfl, PySem.wpAny_letOwnedTupleGo_enum (s := { s with heap := h', toks := tk + 1 }) ho fun h'' he' sb => ?_⟩
    have hT2 : h''.get? s.heap.objs.size = some { cls := .type "tuple", data := .seq #[.int i tk, u] } := (sb.2 _ (Nat.ne_of_gt hel)).trans hT
    have new : ObjOk X.prog X.w (upd H s.heap.objs.size (.tup [.int (i : Nat), y])) h'' s.heap.objs.size (.tup [.int (i : Nat), y]) :=
      ⟨by show 2 ≤ sizeLine; decide, [.int i tk, u], .cons ⟨_, rfl⟩ (.cons ry .nil), ⟨_, hT2, rfl, _, rfl⟩⟩
    have I1 : Inv X pins σ (upd H s.heap.objs.size (.tup [.int (i : Nat), y])) { s with heap := h'', toks := tk + 1 } :=
      I.turnedNew (ch := [e, it]) (fun b ob hb q => (sb.2 b (fun z => hb (by simp [z]))).trans (hk b ob (fun z => hb (by simp [z])) (fun z => hb (by simp [z])) q)) hf (Nat.le_refl _) new
    refine ⟨.ref s.heap.objs.size, _, I1, rfl, ⟨_, y, rfl, I.hok.fresh (Nat.le_refl _), rfl, hy⟩, ⟨⟨u, ?_⟩, S.keep _ _ _ (hback _ hs') fun o q => (sb.2 it (Ne.symm hne)).trans q, hne⟩, fun b hb => ?_⟩
    · have e1 : ((i + 1 : Nat) : Int) = (i : Int) + 1 := by omega
      rw [e1]
      exact he'
    · have hb' : b < s.heap.objs.size := by
        have e' : b = e ∨ b = it := by simpa using hb
        rcases e' with z | z
        · rw [z]
          exact hel
        · rw [z]
          exact hil
      rw [upd_ne (Nat.ne_of_lt hb')]
      exact (hf b hb).1
  done := by
    intro X hP hw hK hc i pins s σ H E I hf q hg
    obtain ⟨⟨old, he⟩, hs, hne⟩ := q
    obtain ⟨hi, hG⟩ := hg
    obtain ⟨fp, Pv, St, Dr, hst, hef, hrel, hback⟩ := S.draws X hP hw hK hc i pins s σ H e I (hf e (by simp)).1 (hf it (by simp)).1 hne hG hs
    subst hP hw hK hi
    obtain ⟨f0, f1, f2, f3, f4, f5⟩ := hf it (by simp)
    exact wpAny_pyNext_enum_endD Dr he hst fun h' eb => ⟨rfl, I.turned (t' := s.toks) (fun b o hb q => eb b o hb q) f0 f1 f3 f4 f5⟩
  self := fun A i s Q E q h => by
    obtain ⟨⟨_, he⟩, _⟩ := q
    exact wpAny_pyIter_enum he h
/-! enumerate(v) begins -/
set_option maxHeartbeats 1000000 in
theorem enum_new1 {v : Value} {o : Obj} {G : Heap → Prop} (B : Begins v o G) :
    Meets (Builtin.«enumerate.__new__» ⟨[.type "enumerate", v], []⟩) (fun _ R s => G s.heap ∧
      R (.ok (.ret (.ref (s.heap.push o).objs.size))) { s with heap := (s.heap.push o).push { cls := .type "enumerate", data := .fields #[.none, .bool false, .ref s.heap.objs.size, rawInt 0, .none, .none] } }) :=
  .of_wp fun prog w A R s hh => by
    obtain ⟨hp, gs, dr, tk, os⟩ := s
    obtain ⟨h1, hh⟩ := hh
    have hsub := sub_enumerate
    have go : ∀ {A' : Around} {E : Value → Shared → Prop} {Q : Value → Shared → Prop}, Q (.ref hp.objs.size) ⟨hp.push o, gs, dr, tk, os⟩ → wpAny (model prog w) A' (pyIter v) Q E ⟨hp, gs, dr, tk, os⟩ :=
      fun z => B.iter prog w _ _ ⟨hp, gs, dr, tk, os⟩ _ h1 z
    wp_walk using go
    refine wpAny_stack_any fun stk => wpAny_pure ?_
    split
    · rename_i cc _ _ _ _ _
      cases (cc == Value.type "enumerate")
      · wp_walk using go
        exact ⟨_, rfl, hh⟩
      · wp_walk using go
        exact ⟨_, rfl, hh⟩
    · wp_walk using go
      exact ⟨_, rfl, hh⟩
theorem enum_one {prog : Program} {w : World} {A : Around} {E : Value → Shared → Prop} {s : Shared} {v : Value} {o : Obj} {G : Heap → Prop} {Q : Value → Shared → Prop} (B : Begins v o G) (h1 : G s.heap)
    (h : ∀ h', IsEnum h' (s.heap.objs.size + 1) s.heap.objs.size 0 .none → h'.get? s.heap.objs.size = some o → (∀ b u, s.heap.get? b = some u → h'.get? b = some u) → Q (.ref (s.heap.objs.size + 1)) { s with heap := h' }) :
    wpAny (model prog w) A (call (.type "enumerate") [v]) Q E s := by
  refine callType_new F.called_enumerate (by decide) (F.typeCall_enumerate_1 _) (F.newCall_enumerate_1 _) (fun obj => F.args_object_init_2 obj _) F.entry_enumerate_new
    (enum_new1 B) ⟨h1, ?_⟩
  have hz : (s.heap.push o).objs.size = s.heap.objs.size + 1 := Heap.size_push ..
  show _ ∧ _
  rw [hz]
  have he : IsEnum ((s.heap.push o).push { cls := .type "enumerate", data := .fields #[.none, .bool false, .ref s.heap.objs.size, rawInt 0, .none, .none] }) (s.heap.objs.size + 1) s.heap.objs.size 0 .none := by
    have q := Heap.get?_push_size (s.heap.push o) (o := { cls := .type "enumerate", data := .fields #[.none, .bool false, .ref s.heap.objs.size, rawInt 0, .none, .none] }) rfl
    rw [hz] at q
    exact q
  exact ⟨⟨_, he, rfl⟩, h _ he (Heap.get?_push_of_some _ (Heap.get?_push_size _ B.free)) fun b u x => Heap.get?_push_of_some _ (Heap.get?_push_of_some _ x)⟩
theorem _root_.PySem.Draws.cast_len {prog : Program} {w : World} {A : Around} {it : Addr} {fp : List Addr} {n m : Nat} {P : Nat → Value → Prop} {St : Nat → Heap → Prop} (d : Draws prog w A it fp n P St) (e : n = m) : Draws prog w A it fp m P St := e ▸ d
section
variable {P : Program} {w : World} {K : PySem.W.Frag}
theorem src_list {it a : Addr} {xs : List V} : Src P w K it (fun i => xs[i]?) xs.length (fun H => H a = some (.lst xs)) (fun i h => h.IsListIter it a i) where
  obj := fun i h q => by
    obtain ⟨o, e, c, d⟩ := q
    exact ⟨o, e, fun v z => by rw [d] at z; cases z⟩
  keep := fun i h h' q k => q.at k
  draws := fun X hP hw hK hc i pins s σ H e I he hit hne hG hs => by
    subst hP hw hK
    obtain ⟨its, rv, p, hz⟩ := I.list (SqL.of hG)
    refine ⟨_, _, _, Draws.list (A := X.A.in1) (I.ok.hd hc) it a (ne_of_none hG hit) its.toArray |>.cast_len (by simpa using rv.length.symm), ⟨hs, p.isList⟩, ?_, fun u hi hu => ?_, fun h' q => q.1⟩
    · intro z
      have z' : e = it ∨ e = a := by simpa using z
      rcases z' with z' | z'
      · exact hne z'
      · rw [z', hG] at he
        cases he
    · have hu' : its[i]? = some u := by simpa using hu
      have hx : xs[i]? = some xs[i] := by simp [hi]
      obtain ⟨u2, e2, r2⟩ := rv.get hx
      rw [hu'] at e2
      cases e2
      exact ⟨_, hx, r2⟩
theorem src_tup {it a : Addr} {xs : List V} : Src P w K it (fun i => xs[i]?) xs.length (fun H => H a = some (.tup xs)) (fun i h => h.IsTupleIter it a i) where
  obj := fun i h q => by
    obtain ⟨o, e, c, d⟩ := q
    exact ⟨o, e, fun v z => by rw [d] at z; cases z⟩
  keep := fun i h h' q k => q.at k
  draws := fun X hP hw hK hc i pins s σ H e I he hit hne hG hs => by
    subst hP hw hK
    obtain ⟨its, rv, p, hz⟩ := I.tuple (SqT.of hG)
    refine ⟨_, _, _, Draws.tuple (A := X.A.in1) (I.ok.hd hc) it a (ne_of_none hG hit) its.toArray |>.cast_len (by simpa using rv.length.symm), ⟨hs, p⟩, ?_, fun u hi hu => ?_, fun h' q => q.1⟩
    · intro z
      have z' : e = it ∨ e = a := by simpa using z
      rcases z' with z' | z'
      · exact hne z'
      · rw [z', hG] at he
        cases he
    · have hu' : its[i]? = some u := by simpa using hu
      have hx : xs[i]? = some xs[i] := by simp [hi]
      obtain ⟨u2, e2, r2⟩ := rv.get hx
      rw [hu'] at e2
      cases e2
      exact ⟨_, hx, r2⟩
theorem src_str {it : Addr} {z : Str} {t : Tok} : Src P w K it (fun i => z.cps[i]?.map fun c => V.str ⟨#[c]⟩) z.cps.size (fun _ => True) (fun i h => h.IsStrIter it (strIterType z) z t i) where
  obj := fun i h q => by
    obtain ⟨o, e, c, d⟩ := q
    exact ⟨o, e, fun v z => by rw [d] at z; cases z⟩
  keep := fun i h h' q k => by
    obtain ⟨o, e, r⟩ := q
    exact ⟨o, k o e, r⟩
  draws := fun X hP hw hK hc i pins s σ H e I he hit hne hG hs => by
    subst hP hw hK
    refine ⟨_, _, _, Draws.text (A := X.A.in1) (I.ok.hd hc) it z t, hs, ?_, fun u hi hu => ?_, fun h' q => q⟩
    · intro y
      have y' : e = it := by simpa using y
      exact hne y'
    · obtain ⟨c, tk, e1, rfl⟩ := hu
      exact ⟨.str ⟨#[c]⟩, by rw [e1]; rfl, tk, rfl⟩
end
def enumD (ds : List D) : List D := zipD (rangeD 0 ds.length) ds
theorem enumD_len (ds : List D) : (enumD ds).length = ds.length := by
  unfold enumD
  rw [zipD_len, rangeD_len]
  exact Nat.min_self _
theorem wk_enum {K : PySem.W.Frag} {F : Hp} {x : Nat → Option V} {n : Nat} {G : Hp → Prop} {ds : List D} (hn : ds.length = n) (hG : ∀ H, Same F H → G H) (hx : ∀ (i : Nat) v d, x i = some v → ds[i]? = some d → Rp K F v d) : Wk T K F (ItE x n G) (enumD ds) where
  goes := fun i H hi s => by
    rw [enumD_len, hn] at hi
    exact ⟨hi, hG H s⟩
  stops := fun H s => ⟨by rw [enumD_len, hn], hG H s⟩
  ylds := fun i H v H' d Fc e sF sH y => by
    obtain ⟨T, u, rfl, nT, rfl, y1⟩ := y
    obtain ⟨p, q, e1, e2, rfl⟩ := zipD_get _ _ _ _ e
    have hi : i < ds.length := (List.getElem?_eq_some_iff.mp e2).1
    have e3 : (rangeD 0 ds.length)[i]? = some (.int ((i : Nat) : Int)) := by
      unfold rangeD
      rw [List.getElem?_map, List.getElem?_range hi]
      show some (PyData.int (0 + (i : Int))) = _
      rw [Int.zero_add]
    rw [e3] at e1
    cases e1
    exact pair_new sH nT (.int _) ((hx i u q y1 e2).mono sF)
/-! ### iterables of data -/
def seqD : D → Option (List D)
  | .list ds => some ds
  | .tuple ds => some ds
  | .str z => some (signsD z)
  | _ => none
def lift {α : Type} : Option α → Res α
  | some a => .ok a
  | none => .stuck
def iI (T : Tbl) (K : PySem.W.Frag) (W : WX) (f : Env0D → Res (List D)) : TI := fun σ H R => ∃ ρ F, Fz T F H ∧ ERel K F σ ρ ∧ After T K W σ (fun F' J ds => Wk T K F' J ds) (f ρ) F H R
section
variable {X : Cx} {W : WX} {e e2 tg : Expr} {f f2 : Env0D → Res D}
theorem seq_run {pins : List (Addr × Obj)} {σ : L2.St} {F1 H1 : Hp} {s1 : Shared} {v : Value} {y : V} {d : D} {R : It → Hp → Prop} {E : Value → Shared → Prop} (I1 : Inv X pins σ H1 s1) (r1 : RelV y v) (sf : Fz T F1 H1) (rd : Rp X.K F1 y d)
    (q : After T X.K W σ (fun F' J ds => Wk T X.K F' J ds) (lift (seqD d)) F1 H1 R) : wpAny (model X.prog X.w) X.A (pyIter v) (PIE X pins σ tg R) E s1 := by
  cases rd with
  | @lst a xs ds ha ra =>
    cases r1
    obtain ⟨its, rv, p, hz⟩ := I1.list (SqL.of (sf _ _ ha))
    refine wpAny_pyIter_list p.isList ?_
    refine ⟨s1.heap.objs.size, [s1.heap.objs.size], _, _, H1, rfl, I1.kept (t' := s1.toks) fun b o e => Heap.get?_push_of_some _ e, turn_list a _, ⟨_, Heap.get?_push_size _ rfl, rfl, rfl⟩, fun b hb => ?_, After.now q (.refl sf) (wk_list ha ra)⟩
    have eb : b = s1.heap.objs.size := by simpa using hb
    subst eb
    exact I1.fpOk (Nat.le_refl _) (I1.hok.fresh (Nat.le_refl _))
  | @tup a xs ds ha ra =>
    cases r1
    obtain ⟨its, rv, p, hz⟩ := I1.tuple (SqT.of (sf _ _ ha))
    refine wpAny_pyIter_tuple (show s1.heap.IsTuple a its.toArray from p) ?_
    refine ⟨s1.heap.objs.size, [s1.heap.objs.size], _, _, H1, rfl, I1.kept (t' := s1.toks) fun b o e => Heap.get?_push_of_some _ e, turn_tuple a _, ⟨_, Heap.get?_push_size _ rfl, rfl, rfl⟩, fun b hb => ?_, After.now q (.refl sf) (wk_tup ha ra)⟩
    have eb : b = s1.heap.objs.size := by simpa using hb
    subst eb
    exact I1.fpOk (Nat.le_refl _) (I1.hok.fresh (Nat.le_refl _))
  | str z =>
    obtain ⟨t, rfl⟩ := r1
    have q' := After.now q (.refl sf) (wk_str z)
    cases ha : z.cps.all (· < 128)
    · exact wpAny_pyIter_wide ha (pi_one (tk := s1.toks) I1 _ (turn_str _ z t "str_iterator" (.inr rfl)) ⟨_, Heap.get?_push_size _ rfl, rfl, rfl⟩ q')
    · exact wpAny_pyIter_ascii ha (pi_one (tk := s1.toks) I1 _ (turn_str _ z t "str_ascii_iterator" (.inl rfl)) ⟨_, Heap.get?_push_size _ rfl, rfl, rfl⟩ q')
  | non => exact q.elim
  | bl _ => exact q.elim
  | int _ => exact q.elim
  | scr _ => exact q.elim
/-- over a value -/
theorem pi_seqD (h : PE X e (tE T X.K W f)) : PI X tg e (iI T X.K W fun ρ => (f ρ).bind fun d => lift (seqD d)) := by
  refine ⟨fun pins s σ H R I hw => ?_⟩
  obtain ⟨ρ, F, sf, er, q⟩ := hw
  refine thn (h.run pins s σ H _ I ⟨ρ, F, sf, er, After.bind (R := Rp X.K) sf q⟩) fun v s1 ⟨y, H1, I1, r1, F1, d, x1, rd, _, q1⟩ => ?_
  exact seq_run I1 r1 x1.fh rd q1
end
end Tl
namespace Tl
open PySem PySem.Spec L2
section
variable {X : Cx} {W : WX} {e e2 : Expr} {f f2 : Env0D → Res D}
theorem pi_enumD {p pos tpos : Pos} {elts : List Expr} {kk : Nat} (hg : Gl X "enumerate") (hm : X.mg "enumerate" = none) (h : PE X e (tE T X.K W f)) (hs : starEach [e] X.env = [(false, eval e X.env)]) :
    PI X (.Tuple elts kk tpos) (.Call (.Name "enumerate" p) [e] [] pos) (iI T X.K W fun ρ => (f ρ).bind fun d => lift ((seqD d).map enumD)) := by
  refine ⟨fun pins s σ H R I hw => ?_⟩
  obtain ⟨ρ, F, sf, er, q⟩ := hw
  have ha : PA X [e] (tCons (tE T X.K W f) tNil) := pa_cons h pa_nil hs
  refine PyProof.Rows.Call_ (ld_blt I hg hm PyProof.Rows.boot_enumerate (PyProof.Rows.callWith_type1 (thn (ha.run pos pins s σ H (fun vs H1 => ∃ y F1 d, vs = [y] ∧ Ex T F H F1 H1 ∧ Rp X.K F1 y d ∧ After T X.K W σ (fun F' J ds => Wk T X.K F' J ds) (lift ((seqD d).map enumD)) F1 H1 R) I
    ⟨ρ, F, sf, er, (After.bind (R := Rp X.K) sf q).mono fun v H1 ⟨F1, d, x1, rd, _, q1⟩ => ⟨v, F1, d, rfl, x1, rd, q1⟩⟩) fun us s1 hh => ?_) hs rfl))
  obtain ⟨vs, H1, I1, r1, y, F1, d, ev, x1, rd, q1⟩ := hh
  subst ev
  obtain ⟨u, rfl, ru⟩ := vals1 r1
  have fin : ∀ {x : Nat → Option V} {n : Nat} {G : Hp → Prop} {st : Nat → Heap → Prop} {h' : Heap}, Src X.prog X.w X.K s1.heap.objs.size x n G st → IsEnum h' (s1.heap.objs.size + 1) s1.heap.objs.size 0 .none → st 0 h' →
      (∀ b o, s1.heap.get? b = some o → h'.get? b = some o) → R (ItE x n G) H1 → wpAny (model X.prog X.w) X.A (pyIter (.ref (s1.heap.objs.size + 1))) (PIE X pins σ (.Tuple elts kk tpos) R) X.xe { s1 with heap := h' } := by
    intro x n G st h' S he hst hk hR
    refine wpAny_pyIter_enum he ?_
    refine ⟨s1.heap.objs.size + 1, [s1.heap.objs.size + 1, s1.heap.objs.size], _, _, H1, rfl, I1.kept (t' := s1.toks) hk, turn_enumG S, ⟨⟨.none, he⟩, hst, Nat.succ_ne_self _⟩, fun b hb => ?_, hR⟩
    have eb : b = s1.heap.objs.size + 1 ∨ b = s1.heap.objs.size := by simpa using hb
    have hle : s1.heap.objs.size ≤ b := by
      rcases eb with z | z
      · rw [z]
        exact Nat.le_add_right _ _
      · rw [z]
        exact Nat.le_refl _
    exact I1.fpOk hle (I1.hok.fresh hle)
  have sf1 := x1.fh
  cases rd with
  | @lst a xs ds ha ra =>
    cases ru
    obtain ⟨its, rv, pl, hz⟩ := I1.list (SqL.of (sf1 _ _ ha))
    refine enum_one (begins_list a its.toArray) pl.isList fun h' he ho hk => ?_
    refine fin (src_list (a := a) (xs := xs)) he ⟨_, ho, rfl, rfl⟩ hk (After.now q1 (.refl sf1) (wk_enum ra.length.symm (fun H s => s _ _ ha) fun i v d hx hd => ?_))
    obtain ⟨d', hd', rd'⟩ := ra.get hx
    rw [hd] at hd'
    cases hd'
    exact rd'
  | @tup a xs ds ha ra =>
    cases ru
    obtain ⟨its, rv, pl, hz⟩ := I1.tuple (SqT.of (sf1 _ _ ha))
    refine enum_one (begins_tuple a its.toArray) pl fun h' he ho hk => ?_
    refine fin (src_tup (a := a) (xs := xs)) he ⟨_, ho, rfl, rfl⟩ hk (After.now q1 (.refl sf1) (wk_enum ra.length.symm (fun H s => s _ _ ha) fun i v d hx hd => ?_))
    obtain ⟨d', hd', rd'⟩ := ra.get hx
    rw [hd] at hd'
    cases hd'
    exact rd'
  | str z =>
    obtain ⟨t, rfl⟩ := ru
    refine enum_one (begins_text z t) trivial fun h' he ho hk => ?_
    refine fin (src_str (z := z) (t := t)) he ⟨_, ho, rfl, rfl⟩ hk (After.now q1 (.refl sf1) (wk_enum (signsD_len z) (fun _ _ => trivial) fun i v d hx hd => ?_))
    unfold signsD at hd
    rw [List.getElem?_map] at hd
    cases hc : z.cps[i]? with
    | none =>
      rw [hc] at hx
      cases hx
    | some c =>
      rw [hc] at hx
      rw [show z.cps.toList[i]? = some c by simpa using hc] at hd
      cases hx
      cases hd
      exact .str _
  | non => exact q1.elim
  | bl _ => exact q1.elim
  | int _ => exact q1.elim
  | scr _ => exact q1.elim
/-- the arguments of data -/
theorem pa_nilD : PA X [] (tAs T X.K W fun _ => .ok []) := PA.imp pa_nil fun σ H Q h => by
  obtain ⟨ρ, F, sf, er, q⟩ := h
  exact After.now q (.refl sf) .nil
theorem pa_consD {es : List Expr} {fs : Env0D → Res (List D)} (h : PE X e (tE T X.K W f)) (hr : PA X es (tAs T X.K W fs)) (hs : starEach (e :: es) X.env = (false, eval e X.env) :: starEach es X.env) :
    PA X (e :: es) (tAs T X.K W fun ρ => (f ρ).bind fun d => (fs ρ).bind fun ds => .ok (d :: ds)) := PA.imp (pa_cons h hr hs) fun σ H Q hw => by
  obtain ⟨ρ, F, sf, er, q⟩ := hw
  refine ⟨ρ, F, sf, er, (After.bind (R := Rp X.K) sf q).mono fun v H1 ⟨F1, d, x1, rd, _, q1⟩ => ?_⟩
  refine ⟨ρ, F1, x1.fh, er.mono x1.ff, (After.bind (R := RpA X.K) x1.fh q1).mono fun vs H2 ⟨F2, ds, x2, rds, _, q2⟩ => ?_⟩
  exact After.now q2 (.refl x2.fh) (.cons (rd.mono x2.ff) rds)
def rng1D : List D → Option (List D)
  | [.int j] => gd (decide (-(2 ^ 62) ≤ j) && decide (j < 2 ^ 62)) (rangeD 0 j.toNat)
  | _ => none
def rng2D : List D → Option (List D)
  | [.int i, .int j] => gd (decide (-(2 ^ 62) ≤ i) && decide (i < 2 ^ 62) && (decide (-(2 ^ 62) ≤ j) && decide (j < 2 ^ 62))) (rangeD i (j - i).toNat)
  | _ => none
def zip2D : List D → Option (List D)
  | [.tuple ds, .tuple es] => some (zipD ds es)
  | _ => none
variable {tg : Expr}
theorem After.gdL {α β : Type} {K : PySem.W.Frag} {σ : L2.St} {R : Hp → β → α → Prop} {b : Bool} {x : α} {F H : Hp} {Q : β → Hp → Prop} (h : After T K W σ R (lift (gd b x)) F H Q) : b = true ∧ After T K W σ R (.ok x) F H Q := by
  unfold gd at h
  split at h
  · exact ⟨by assumption, h⟩
  · exact h.elim
theorem pi_range1D {p pos : Pos} {fs : Env0D → Res (List D)} (hg : Gl X "range") (hm : X.mg "range" = none) (ha : PA X [e] (tAs T X.K W fs)) (hs : starEach [e] X.env = [(false, eval e X.env)]) :
    PI X tg (.Call (.Name "range" p) [e] [] pos) (iI T X.K W fun ρ => (fs ρ).bind fun ds => lift (rng1D ds)) := by
  refine ⟨fun pins s σ H R I hw => (pi_range1 (tg := tg) hg hm ha hs).run pins s σ H R I ?_⟩
  obtain ⟨ρ, F, sf, er, q⟩ := hw
  refine ⟨ρ, F, sf, er, (After.bind (R := RpA X.K) sf q).mono fun vs H1 ⟨F1, ds, x1, rd, _, q1⟩ => ?_⟩
  cases rd with
  | nil => exact q1.elim
  | cons h1 rd =>
    cases rd with
    | cons _ _ => cases h1 <;> exact q1.elim
    | nil =>
      cases h1 with
      | int j =>
        obtain ⟨g, q1⟩ := After.gdL q1
        rw [Bool.and_eq_true] at g
        exact ⟨j, rfl, of_decide_eq_true g.1, of_decide_eq_true g.2, After.now q1 (.refl x1.fh) (wk_range 0 j.toNat)⟩
      | _ => exact q1.elim
theorem pi_range2D {p pos : Pos} {fs : Env0D → Res (List D)} (hg : Gl X "range") (hm : X.mg "range" = none) (ha : PA X [e, e2] (tAs T X.K W fs)) (hs : starEach [e, e2] X.env = [(false, eval e X.env), (false, eval e2 X.env)]) (hs2 : starEach [e2] X.env = [(false, eval e2 X.env)]) :
    PI X tg (.Call (.Name "range" p) [e, e2] [] pos) (iI T X.K W fun ρ => (fs ρ).bind fun ds => lift (rng2D ds)) := by
  refine ⟨fun pins s σ H R I hw => (pi_range2 (tg := tg) hg hm ha hs hs2).run pins s σ H R I ?_⟩
  obtain ⟨ρ, F, sf, er, q⟩ := hw
  refine ⟨ρ, F, sf, er, (After.bind (R := RpA X.K) sf q).mono fun vs H1 ⟨F1, ds, x1, rd, _, q1⟩ => ?_⟩
  cases rd with
  | nil => exact q1.elim
  | cons h1 rd =>
    cases rd with
    | nil => cases h1 <;> exact q1.elim
    | cons h2 rd =>
      cases rd with
      | cons _ _ => cases h1 <;> cases h2 <;> exact q1.elim
      | nil =>
        cases h1 with
        | int i =>
          cases h2 with
          | int j =>
            obtain ⟨g, q1⟩ := After.gdL q1
            rw [Bool.and_eq_true, Bool.and_eq_true, Bool.and_eq_true] at g
            exact ⟨i, j, rfl, ⟨of_decide_eq_true g.1.1, of_decide_eq_true g.1.2, of_decide_eq_true g.2.1, of_decide_eq_true g.2.2⟩, After.now q1 (.refl x1.fh) (wk_range i (j - i).toNat)⟩
          | _ => exact q1.elim
        | _ => cases h2 <;> exact q1.elim
theorem pi_zipD {p pos tpos : Pos} {elts : List Expr} {kk : Nat} {fs : Env0D → Res (List D)} (hg : Gl X "zip") (hm : X.mg "zip" = none) (ha : PA X [e, e2] (tAs T X.K W fs)) (hs : starEach [e, e2] X.env = [(false, eval e X.env), (false, eval e2 X.env)]) (hs2 : starEach [e2] X.env = [(false, eval e2 X.env)]) :
    PI X (.Tuple elts kk tpos) (.Call (.Name "zip" p) [e, e2] [] pos) (iI T X.K W fun ρ => (fs ρ).bind fun ds => lift (zip2D ds)) := by
  refine ⟨fun pins s σ H R I hw => (RZ.pi_zipA hg hm ha (hs.trans (by rw [hs2])) (by rw [hs2]; rfl)).run pins s σ H R I ?_⟩
  obtain ⟨ρ, F, sf, er, q⟩ := hw
  refine ⟨ρ, F, sf, er, (After.bind (R := RpA X.K) sf q).mono fun vs H1 ⟨F1, ds, x1, rd, _, q1⟩ => ?_⟩
  cases rd with
  | nil => exact q1.elim
  | cons h1 rd =>
    cases rd with
    | nil => cases h1 <;> exact q1.elim
    | cons h2 rd =>
      cases rd with
      | cons _ _ => cases h1 <;> cases h2 <;> exact q1.elim
      | nil =>
        cases h1 with
        | tup ha ra =>
          cases h2 with
          | tup hb rb => exact ⟨_, _, _, _, rfl, .inr ⟨.of (x1.fh _ _ ha), .of (x1.fh _ _ hb), After.now q1 (.refl x1.fh) (wk_zipT ha ra hb rb)⟩⟩
          | _ => exact q1.elim
        | _ => cases h2 <;> exact q1.elim
end
end Tl
namespace Tl
open PySem PySem.Spec L2
/-! ### the order of flat things and of tuples of them -/
def kx : D → List Int
  | .int i => [i]
  | .str x => x.cps.toList.map fun (n : Nat) => (n : Int)
  | .bool b => [if b then 1 else 0]
  | _ => []
def lexK : List (List Int) → List (List Int) → Bool
  | [], [] => false
  | [], _ :: _ => true
  | _ :: _, [] => false
  | x :: xs, y :: ys => if x = y then lexK xs ys else HT.lexLt x y
def keyOf : D → List (List Int)
  | .tuple ds => ds.map kx
  | d => [kx d]
def ltK (d e : D) : Bool := lexK (keyOf d) (keyOf e)
theorem lexLt_irr : ∀ x : List Int, HT.lexLt x x = false
  | [] => rfl
  | a :: x => by
    rw [HT.lexLt_cons, if_pos rfl]
    exact lexLt_irr x
theorem lexLt_asym : ∀ x y : List Int, HT.lexLt x y = true → HT.lexLt y x = false
  | [], [], h => by cases h
  | [], _ :: _, _ => rfl
  | _ :: _, [], h => by cases h
  | a :: x, b :: y, h => by
    rw [HT.lexLt_cons] at h ⊢
    by_cases e : a = b
    · subst e
      rw [if_pos rfl] at h ⊢
      exact lexLt_asym x y h
    · rw [if_neg e] at h
      rw [if_neg (Ne.symm e)]
      have := of_decide_eq_true h
      exact decide_eq_false (by omega)
theorem lexLt_tri : ∀ x y : List Int, HT.lexLt x y = false → HT.lexLt y x = false → x = y
  | [], [], _, _ => rfl
  | [], _ :: _, h, _ => by cases h
  | _ :: _, [], _, h => by cases h
  | a :: x, b :: y, h1, h2 => by
    rw [HT.lexLt_cons] at h1 h2
    by_cases e : a = b
    · subst e
      rw [if_pos rfl] at h1 h2
      rw [lexLt_tri x y h1 h2]
    · rw [if_neg e] at h1
      rw [if_neg (Ne.symm e)] at h2
      have g1 := of_decide_eq_false h1
      have g2 := of_decide_eq_false h2
      omega
theorem lexLt_trans : ∀ x y z : List Int, HT.lexLt x y = true → HT.lexLt y z = true → HT.lexLt x z = true
  | [], [], _, h, _ => by cases h
  | [], _ :: _, [], _, h => by cases h
  | [], _ :: _, _ :: _, _, _ => rfl
  | _ :: _, [], _, h, _ => by cases h
  | _ :: _, _ :: _, [], _, h => by cases h
  | a :: x, b :: y, c :: z, h1, h2 => by
    rw [HT.lexLt_cons] at h1 h2 ⊢
    by_cases e : a = b
    · subst e
      rw [if_pos rfl] at h1
      by_cases e2 : a = c
      · subst e2
        rw [if_pos rfl] at h2 ⊢
        exact lexLt_trans x y z h1 h2
      · rw [if_neg e2] at h2 ⊢
        exact h2
    · rw [if_neg e] at h1
      have g1 := of_decide_eq_true h1
      by_cases e2 : b = c
      · subst e2
        rw [if_neg e]
        exact h1
      · rw [if_neg e2] at h2
        have g2 := of_decide_eq_true h2
        rw [if_neg (by omega)]
        exact decide_eq_true (by omega)
theorem lexK_asym : ∀ x y : List (List Int), lexK x y = true → lexK y x = false
  | [], [], h => by cases h
  | [], _ :: _, _ => rfl
  | _ :: _, [], h => by cases h
  | a :: x, b :: y, h => by
    unfold lexK at h ⊢
    by_cases e : a = b
    · subst e
      rw [if_pos rfl] at h ⊢
      exact lexK_asym x y h
    · rw [if_neg e] at h
      rw [if_neg (Ne.symm e)]
      exact lexLt_asym _ _ h
theorem lexK_tri : ∀ x y : List (List Int), lexK x y = false → lexK y x = false → x = y
  | [], [], _, _ => rfl
  | [], _ :: _, h, _ => by cases h
  | _ :: _, [], _, h => by cases h
  | a :: x, b :: y, h1, h2 => by
    unfold lexK at h1 h2
    by_cases e : a = b
    · subst e
      rw [if_pos rfl] at h1 h2
      rw [lexK_tri x y h1 h2]
    · rw [if_neg e] at h1
      rw [if_neg (Ne.symm e)] at h2
      exact absurd (lexLt_tri a b h1 h2) e
theorem lexK_trans : ∀ x y z : List (List Int), lexK x y = true → lexK y z = true → lexK x z = true
  | [], [], _, h, _ => by cases h
  | [], _ :: _, [], _, h => by cases h
  | [], _ :: _, _ :: _, _, _ => rfl
  | _ :: _, [], _, h, _ => by cases h
  | _ :: _, _ :: _, [], _, h => by cases h
  | a :: x, b :: y, c :: z, h1, h2 => by
    unfold lexK at h1 h2 ⊢
    by_cases e : a = b
    · subst e
      rw [if_pos rfl] at h1
      by_cases e2 : a = c
      · subst e2
        rw [if_pos rfl] at h2 ⊢
        exact lexK_trans x y z h1 h2
      · rw [if_neg e2] at h2 ⊢
        exact h2
    · rw [if_neg e] at h1
      by_cases e2 : b = c
      · subst e2
        rw [if_neg e]
        exact h1
      · rw [if_neg e2] at h2
        have e3 : a ≠ c := fun z => by
          subst z
          rw [lexLt_asym _ _ h1] at h2
          cases h2
        rw [if_neg e3]
        exact lexLt_trans a b c h1 h2
theorem swo_by {α : Type} (k : α → List (List Int)) : SrtO.Swo fun x y => lexK (k x) (k y) := by
  refine ⟨fun x y h => lexK_asym _ _ h, fun x y z h1 h2 => ?_⟩
  cases q : lexK (k z) (k x) with
  | false => rfl
  | true =>
    cases q2 : lexK (k x) (k y) with
    | true =>
      rw [lexK_trans _ _ _ q q2] at h2
      cases h2
    | false =>
      have e := lexK_tri _ _ h1 q2
      rw [e] at h2
      rw [h2] at q
      cases q
theorem swo_ltK : SrtO.Swo ltK := swo_by keyOf
/-! ### a sort of our own, stable -/
section
variable {α : Type}
def insS (lt : α → α → Bool) (x : α) : List α → List α
  | [] => [x]
  | y :: l => if lt y x = true then y :: insS lt x l else x :: y :: l
def isort (lt : α → α → Bool) : List α → List α
  | [] => []
  | x :: l => insS lt x (isort lt l)
theorem insS_perm (lt : α → α → Bool) (x : α) : ∀ l : List α, (insS lt x l).Perm (x :: l)
  | [] => .refl _
  | y :: l => by
    unfold insS
    split
    · exact (List.Perm.cons y (insS_perm lt x l)).trans (List.Perm.swap x y l)
    · exact .refl _
theorem isort_perm (lt : α → α → Bool) : ∀ l : List α, (isort lt l).Perm l
  | [] => .refl _
  | x :: l => (insS_perm lt x _).trans (List.Perm.cons x (isort_perm lt l))
theorem insS_srtd {lt : α → α → Bool} (O : SrtO.Swo lt) (x : α) : ∀ l : List α, SrtO.Srtd lt l → SrtO.Srtd lt (insS lt x l)
  | [], _ => List.pairwise_singleton _ _
  | y :: l, h => by
    unfold insS
    obtain ⟨h1, h2⟩ := List.pairwise_cons.mp h
    split
    · rename_i e
      refine List.pairwise_cons.mpr ⟨fun z hz => ?_, insS_srtd O x l h2⟩
      rcases List.mem_cons.mp ((insS_perm lt x l).mem_iff.mp hz) with e2 | e2
      · subst e2
        exact O.asym _ _ e
      · exact h1 z e2
    · rename_i e
      have e' : lt y x = false := by simpa using e
      refine List.pairwise_cons.mpr ⟨fun z hz => ?_, h⟩
      rcases List.mem_cons.mp hz with e2 | e2
      · subst e2
        exact e'
      · exact O.tr x y z e' (h1 z e2)
theorem isort_srtd {lt : α → α → Bool} (O : SrtO.Swo lt) : ∀ l : List α, SrtO.Srtd lt (isort lt l)
  | [] => .nil
  | x :: l => insS_srtd O x _ (isort_srtd O l)
theorem insS_cls {lt : α → α → Bool} (O : SrtO.Swo lt) (x z : α) : ∀ l : List α, (insS lt x l).filter (SrtO.eqv lt z) = (x :: l).filter (SrtO.eqv lt z)
  | [] => rfl
  | y :: l => by
    unfold insS
    split
    · rename_i e
      rw [List.filter_cons, insS_cls O x z l]
      by_cases h1 : SrtO.eqv lt z y = true
      · have h2 : SrtO.eqv lt z x = false := by
          cases q : SrtO.eqv lt z x with
          | false => rfl
          | true =>
            obtain ⟨a1, a2⟩ := SrtO.eqv_iff.mp h1
            obtain ⟨b1, b2⟩ := SrtO.eqv_iff.mp q
            have := O.tr x z y b1 a2
            rw [this] at e
            cases e
        rw [if_pos h1, List.filter_cons, h2, if_neg (by decide), List.filter_cons, h2, if_neg (by decide), List.filter_cons, if_pos h1]
      · rw [if_neg h1]
        rw [List.filter_cons, List.filter_cons, List.filter_cons, if_neg h1]
    · rfl
theorem isort_stb {lt : α → α → Bool} (O : SrtO.Swo lt) : ∀ l : List α, SrtO.Stb lt (isort lt l) l
  | [] => .refl _
  | x :: l => ⟨isort_perm lt _, fun z => by
    show (insS lt x (isort lt l)).filter _ = _
    rw [insS_cls O, List.filter_cons, List.filter_cons, (isort_stb O l).cls z]⟩
theorem isort_uniq {lt : α → α → Bool} (O : SrtO.Swo lt) {l m : List α} (h1 : SrtO.Srtd lt m) (h2 : SrtO.Stb lt m l) : m = isort lt l :=
  SrtO.stb_uniq O h1 (isort_srtd O l) (h2.trans ⟨(isort_perm lt l).symm, fun z => ((isort_stb O l).cls z).symm⟩)
end
end Tl
namespace Tl
open PySem PySem.Spec L2
/-! ### flat things in the machine -/
def sg : D → Nat
  | .int _ => 1
  | .str _ => 2
  | .bool _ => 3
  | _ => 0
inductive El : Value → D → Prop
  | int (i : Int) (t : Tok) : El (.int i t) (.int i)
  | str (x : Str) (t : Tok) : El (.str x t) (.str x)
  | bl (b : Bool) : El (.bool b) (.bool b)
abbrev ElA : List Value → List D → Prop := Paired El
theorem el_of {K : PySem.W.Frag} {F : Hp} {v : V} {u : Value} {d : D} (r : Rp K F v d) (ru : RelV v u) (h : sg d ≠ 0) : El u d := by
  cases r with
  | int i =>
    obtain ⟨t, rfl⟩ := ru
    exact .int i t
  | str x =>
    obtain ⟨t, rfl⟩ := ru
    exact .str x t
  | bl b =>
    cases ru
    exact .bl b
  | _ => exact absurd rfl h
theorem elA_of {K : PySem.W.Frag} {F : Hp} : ∀ {vs : List V} {us : List Value} {ds : List D}, RpA K F vs ds → Vals vs us → (∀ d ∈ ds, sg d ≠ 0) → ElA us ds
  | _, _, _, .nil, .nil, _ => .nil
  | _, _, _, .cons h r, .cons hu ru, f => .cons (el_of h hu (f _ List.mem_cons_self)) (elA_of r ru fun d hd => f d (List.mem_cons_of_mem _ hd))
theorem map_cast_inj : ∀ {x y : List Nat}, (x.map fun (n : Nat) => (n : Int)) = (y.map fun (n : Nat) => (n : Int)) → x = y
  | [], [], _ => rfl
  | [], _ :: _, h => by simp at h
  | _ :: _, [], h => by simp at h
  | a :: x, b :: y, h => by
    rw [List.map_cons, List.map_cons] at h
    obtain ⟨h1, h2⟩ := List.cons.inj h
    rw [map_cast_inj h2, show a = b by omega]
theorem str_ext {x y : Str} (h : x.cps.toList = y.cps.toList) : x = y := by
  obtain ⟨⟨a⟩⟩ := x
  obtain ⟨⟨b⟩⟩ := y
  have h' : a = b := h
  rw [h']
theorem el_eq {A : Around} {s : Shared} {u v : Value} {d e : D} (hu : El u d) (hv : El v e) (h : sg d = sg e) : SeqAt.EqAt A s u v (decide (kx d = kx e)) := by
  cases hu with
  | int i t =>
    cases hv with
    | int j t' =>
      have q := SeqAt.EqAt.int_int (A := A) (s := s) i t j t'
      have e1 : decide (kx (.int i) = kx (.int j)) = (i == j) := by
        show decide ([i] = [j]) = (i == j)
        rw [Bool.eq_iff_iff]
        simp
      rw [e1]
      exact q
    | _ => cases h
  | str x t =>
    cases hv with
    | str y t' =>
      have q := SeqAt.EqAt.str_str (A := A) (s := s) x t y t'
      have e1 : decide (kx (.str x) = kx (.str y)) = (x == y) := by
        show decide ((x.cps.toList.map fun (n : Nat) => (n : Int)) = (y.cps.toList.map fun (n : Nat) => (n : Int))) = (x == y)
        rw [Bool.eq_iff_iff, decide_eq_true_eq, beq_iff_eq]
        exact ⟨fun z => str_ext (map_cast_inj z), fun z => by rw [z]⟩
      rw [e1]
      exact q
    | _ => cases h
  | bl b =>
    cases hv with
    | bl c =>
      have q := SeqAt.EqAt.bool_bool (A := A) (s := s) b c
      have e1 : decide (kx (.bool b) = kx (.bool c)) = (b == c) := by
        cases b <;> cases c <;> decide
      rw [e1]
      exact q
    | _ => cases h
theorem lexLt_cast : ∀ x y : List Nat, HT.lexLt (x.map fun (n : Nat) => (n : Int)) (y.map fun (n : Nat) => (n : Int)) = decide (x < y)
  | [], [] => by
    rw [List.map_nil, HT.lexLt_nil_nil]
    exact (decide_eq_false (List.lt_irrefl _)).symm
  | [], y :: ys => by
    rw [List.map_nil, List.map_cons, HT.lexLt_nil_cons]
    exact (decide_eq_true (List.nil_lt_cons _ _)).symm
  | x :: xs, [] => by
    rw [List.map_nil, List.map_cons, HT.lexLt_cons_nil]
    exact (decide_eq_false (List.not_lt_nil _)).symm
  | x :: xs, y :: ys => by
    rw [List.map_cons, List.map_cons, HT.lexLt_cons]
    have q := List.cons_lt_cons_iff (a := x) (b := y) (l₁ := xs) (l₂ := ys)
    by_cases e : x = y
    · subst e
      rw [if_pos rfl, lexLt_cast xs ys]
      rw [Bool.eq_iff_iff, decide_eq_true_eq, decide_eq_true_eq, q]
      exact ⟨fun h => .inr ⟨rfl, h⟩, fun h => h.elim (fun z => absurd z (Nat.lt_irrefl _)) fun z => z.2⟩
    · rw [if_neg (fun z => e (by omega))]
      rw [Bool.eq_iff_iff, decide_eq_true_eq, decide_eq_true_eq, q]
      exact ⟨fun h => .inl (by omega), fun h => h.elim (fun z => by omega) fun z => absurd z.1 e⟩
section
variable {prog : Program} {w : World} {A : Around} {E : Value → Shared → Prop} {s : Shared} {Q : Bool → Shared → Prop}
theorem el_lt0 {u v : Value} {d e : D} (hu : El u d) (hv : El v e) (h : sg d = sg e) (h3 : sg d ≠ 3) (q : Q (HT.lexLt (kx d) (kx e)) s) : wpAny (model prog w) A (PyProof.Rows.oneLt' true u v) Q E s := by
  cases hu with
  | int i t =>
    cases hv with
    | int j t' =>
      refine PyProof.Rows.oneLt_int ?_
      have e1 : HT.lexLt (kx (.int i)) (kx (.int j)) = decide (i < j) := by
        show HT.lexLt [i] [j] = _
        rw [HT.lexLt_cons]
        by_cases z : i = j
        · rw [if_pos z, HT.lexLt_nil_nil]
          exact (decide_eq_false (by omega)).symm
        · rw [if_neg z]
      rw [← e1]
      exact q
    | _ => cases h
  | str x t =>
    cases hv with
    | str y t' =>
      refine PyProof.Rows.oneLt_str ?_
      have e1 : HT.lexLt (kx (.str x)) (kx (.str y)) = decide (x.cps.toList < y.cps.toList) := lexLt_cast _ _
      rw [← e1]
      exact q
    | _ => cases h
  | bl b => exact absurd rfl h3
theorem el_lt1 {u v : Value} {d e : D} (hu : El u d) (hv : El v e) (h : sg d = sg e) (q : Q (HT.lexLt (kx d) (kx e)) s) : wpAny (model prog w) A (PyProof.Rows.oneLt' false u v) Q E s := by
  refine PySem.W.kat_one _ _ ?_
  cases hu with
  | int i t =>
    cases hv with
    | int j t' =>
      refine PyProof.Rows.lt_int ?_
      have e1 : HT.lexLt (kx (.int i)) (kx (.int j)) = decide (i < j) := by
        show HT.lexLt [i] [j] = _
        rw [HT.lexLt_cons]
        by_cases z : i = j
        · rw [if_pos z, HT.lexLt_nil_nil]
          exact (decide_eq_false (by omega)).symm
        · rw [if_neg z]
      rw [← e1]
      exact q
    | _ => cases h
  | str x t =>
    cases hv with
    | str y t' =>
      refine PyProof.Rows.lt_str ?_
      have e1 : HT.lexLt (kx (.str x)) (kx (.str y)) = decide (x.cps.toList < y.cps.toList) := lexLt_cast _ _
      rw [← e1]
      exact q
    | _ => cases h
  | bl b =>
    cases hv with
    | bl c =>
      refine PyProof.Rows.lt_bool ?_
      have e1 : HT.lexLt (kx (.bool b)) (kx (.bool c)) = decide (PyProof.Rows.b2i b < PyProof.Rows.b2i c) := by
        cases b <;> cases c <;> decide
      rw [← e1]
      exact q
    | _ => cases h
def preEq : List Nat → List Nat → Bool
  | a :: x, b :: y => decide (a = b) && preEq x y
  | _, _ => true
theorem kat_lexD {fin : Bool} : ∀ {us vs : List Value} {ds es : List D} (i : Nat), ElA us ds → ElA vs es → preEq (ds.map sg) (es.map sg) = true → (i = 0 → ∀ d ∈ ds.head?, sg d ≠ 3) → fin = decide (ds.length < es.length) →
    Q (lexK (ds.map kx) (es.map kx)) s → PySem.W.KatLex prog w A true fin Q (us.zip vs) i s
  | _, _, _, _, i, .nil, .nil, _, _, hf, q => by
    subst hf
    exact PySem.W.kat_nil q
  | _, _, _, _, i, .nil, .cons h r, _, _, hf, q => by
    subst hf
    rw [List.zip_nil_left]
    refine PySem.W.kat_nil ?_
    rw [List.length_nil, List.length_cons, decide_eq_true (Nat.succ_pos _)]
    exact q
  | _, _, _, _, i, .cons h r, .nil, _, _, hf, q => by
    subst hf
    rw [List.zip_nil_right]
    refine PySem.W.kat_nil ?_
    rw [List.length_nil, decide_eq_false (Nat.not_lt_zero _)]
    exact q
  | _, _, d :: ds, e :: es, i, .cons h r, .cons h' r', p, hi, hf, q => by
    rw [List.map_cons, List.map_cons, preEq, Bool.and_eq_true, decide_eq_true_eq] at p
    rw [List.zip_cons_cons]
    refine PySem.W.kat_cons (el_eq h h' p.1 prog w _ _ ?_)
    have eq : lexK ((d :: ds).map kx) ((e :: es).map kx) = if kx d = kx e then lexK (ds.map kx) (es.map kx) else HT.lexLt (kx d) (kx e) := rfl
    rw [eq] at q
    refine PySem.W.kat_go (fun e1 => ?_) (fun e1 => ?_)
    · rw [if_pos (of_decide_eq_true e1)] at q
      refine PySem.W.kat_yes (kat_lexD (i + 1) r r' p.2 (fun z => absurd z (Nat.succ_ne_zero _)) ?_ q)
      rw [hf, List.length_cons, List.length_cons, Bool.eq_iff_iff, decide_eq_true_eq, decide_eq_true_eq]
      omega
    · rw [if_neg (of_decide_eq_false e1)] at q
      refine PySem.W.kat_no ?_
      cases i with
      | zero => exact el_lt0 h h' p.1 (hi rfl d rfl) q
      | succ i =>
        have e2 : (true && (i + 1 == 0)) = false := by simp
        rw [e2]
        exact el_lt1 h h' p.1 q
end
/-! things that can be sorted -/
inductive Kd (h : Heap) : Value → D → Prop
  | flat {u : Value} {d : D} : El u d → Kd h u d
  | tup {a : Addr} {o : Obj} {xs : Array Value} {n : Nat} {ds : List D} : h.get? a = some o → o.cls = .type "tuple" → o.data = .seq xs n → ElA xs.toList ds → Kd h (.ref a) (.tuple ds)
/-- the kind of a thing that can be sorted: [] is none -/
def kdOf : D → List Nat
  | .int _ => [1]
  | .str _ => [2]
  | .tuple (d :: ds) => if (sg d = 1 ∨ sg d = 2) ∧ ds.all (fun e => decide (sg e ≠ 0)) = true then 0 :: sg d :: ds.map sg else []
  | _ => []
def homo (ds : List D) : Bool := ds.all fun d => decide (kdOf d ≠ []) && ds.all fun e => preEq (kdOf d) (kdOf e)
theorem El.inj {u : Value} {d e : D} (h : El u d) (h' : El u e) : d = e := by cases h <;> cases h' <;> rfl
theorem ElA.inj : ∀ {us : List Value} {ds es : List D}, ElA us ds → ElA us es → ds = es
  | _, _, _, .nil, .nil => rfl
  | _, _, _, .cons h r, .cons h' r' => by rw [h.inj h', ElA.inj r r']
theorem Kd.inj {h : Heap} {u : Value} {d e : D} (a : Kd h u d) (b : Kd h u e) : d = e := by
  cases a with
  | flat x =>
    cases b with
    | flat y => exact x.inj y
    | tup _ _ _ _ => cases x
  | tup g c t x =>
    cases b with
    | flat y => cases y
    | tup g' c' t' x' =>
      rw [g] at g'
      cases g'
      rw [t] at t'
      cases t'
      rw [ElA.inj x x']
theorem Kd.keeps {h h' : Heap} {u : Value} {d : D} (k : ∀ b o, h.get? b = some o → o.cls = .type "tuple" → h'.get? b = some o) (a : Kd h u d) : Kd h' u d := by
  cases a with
  | flat x => exact .flat x
  | tup g c t x => exact .tup (k _ _ g c) c t x
noncomputable def dt (h : Heap) (u : Value) : D := by
  classical
  exact if q : ∃ d, Kd h u d then Classical.choose q else .none
theorem dt_eq {h : Heap} {u : Value} {d : D} (a : Kd h u d) : dt h u = d := by
  unfold dt
  rw [dif_pos ⟨d, a⟩]
  exact (Classical.choose_spec (⟨d, a⟩ : ∃ d, Kd h u d)).inj a
end Tl
namespace Tl
open PySem PySem.Spec L2
section
variable {prog : Program} {w : World} {A : Around} {E : Value → Shared → Prop} {s : Shared}
theorem preEq_head {a b : Nat} {x y : List Nat} (h : preEq (a :: x) (b :: y) = true) : a = b ∧ preEq x y = true := by
  rw [preEq, Bool.and_eq_true, decide_eq_true_eq] at h
  exact h
theorem homo_ne {ds : List D} (h : homo ds = true) : ∀ d ∈ ds, kdOf d ≠ [] := fun d hd => by
  have q := List.all_eq_true.mp h d hd
  rw [Bool.and_eq_true, decide_eq_true_eq] at q
  exact q.1
theorem homo_pre {ds : List D} (h : homo ds = true) : ∀ d ∈ ds, ∀ e ∈ ds, preEq (kdOf d) (kdOf e) = true := fun d hd e he => by
  have q := List.all_eq_true.mp h d hd
  rw [Bool.and_eq_true] at q
  exact List.all_eq_true.mp q.2 e he
/-- what has a kind -/
theorem kd_int {d : D} {x : List Nat} (h : kdOf d = 1 :: x) : ∃ i, d = .int i := by
  match d, h with
  | .int i, _ => exact ⟨i, rfl⟩
  | .str x, h => simp [kdOf] at h
  | .tuple [], h => simp [kdOf] at h
  | .tuple (d :: ds), h =>
    rw [kdOf] at h
    split at h
    · simp at h
    · simp at h
theorem kd_str {d : D} {x : List Nat} (h : kdOf d = 2 :: x) : ∃ i, d = .str i := by
  match d, h with
  | .int i, h => simp [kdOf] at h
  | .str x, _ => exact ⟨x, rfl⟩
  | .tuple [], h => simp [kdOf] at h
  | .tuple (d :: ds), h =>
    rw [kdOf] at h
    split at h
    · simp at h
    · simp at h
theorem kd_tup {d : D} {x : List Nat} (h : kdOf d = 0 :: x) : ∃ e es, d = .tuple (e :: es) ∧ (sg e = 1 ∨ sg e = 2) ∧ x = sg e :: es.map sg := by
  match d, h with
  | .int i, h => simp [kdOf] at h
  | .str x, h => simp [kdOf] at h
  | .tuple [], h => simp [kdOf] at h
  | .tuple (d :: ds), h =>
    rw [kdOf] at h
    split at h
    · rename_i c
      exact ⟨d, ds, rfl, c.1, (List.cons.inj h).2.symm⟩
    · simp at h
theorem kd_cases {d : D} (h : kdOf d ≠ []) : (∃ x, kdOf d = 1 :: x) ∨ (∃ x, kdOf d = 2 :: x) ∨ (∃ x, kdOf d = 0 :: x) := by
  match d, h with
  | .int i, _ => exact .inl ⟨_, rfl⟩
  | .str x, _ => exact .inr (.inl ⟨_, rfl⟩)
  | .tuple [], h => exact absurd rfl h
  | .tuple (d :: ds), h =>
    by_cases c : (sg d = 1 ∨ sg d = 2) ∧ ds.all (fun e => decide (sg e ≠ 0)) = true
    · exact .inr (.inr ⟨sg d :: ds.map sg, by rw [kdOf, if_pos c]⟩)
    · rw [kdOf, if_neg c] at h
      exact absurd rfl h
theorem same_head {d e : D} {a : Nat} {x : List Nat} (h : kdOf d = a :: x) (h' : kdOf e ≠ []) (p : preEq (kdOf d) (kdOf e) = true) : ∃ y, kdOf e = a :: y ∧ preEq x y = true := by
  cases q : kdOf e with
  | nil => exact absurd q h'
  | cons b y =>
    rw [h, q] at p
    obtain ⟨e1, e2⟩ := preEq_head p
    subst e1
    exact ⟨y, rfl, e2⟩
theorem kat_tups {h : Heap} {f : Value → D} {T : Value} (hT : ∀ u d, El u d → sg d = (if T = .type "int" then 1 else 2) → ∀ M : Model, PySem.W.Looks M h (typeOf u) T) : ∀ {vs : List Value}, (∀ v ∈ vs, Kd h v (f v)) → (∀ v ∈ vs, ∃ e es, f v = .tuple (e :: es) ∧ sg e = (if T = .type "int" then 1 else 2)) → ∃ fs, PySem.W.KatTups h vs fs ∧ fs.length = vs.length ∧ ∀ u ∈ fs, ∀ M : Model, PySem.W.Looks M h (typeOf u) T
  | [], _, _ => ⟨[], .nil, rfl, fun u hu => absurd hu (by simp)⟩
  | v :: vs, hv, hf => by
    obtain ⟨fs, h1, h2, h3⟩ := kat_tups hT (fun v hm => hv v (List.mem_cons_of_mem _ hm)) (fun v hm => hf v (List.mem_cons_of_mem _ hm))
    have k := hv v List.mem_cons_self
    obtain ⟨e, es, q, g⟩ := hf v List.mem_cons_self
    rw [q] at k
    cases k with
    | flat x => cases x
    | tup ho hc hd x =>
      rename_i a o xs n
      cases hx : xs.toList with
      | nil =>
        rw [hx] at x
        cases x
      | cons u us =>
        rw [hx] at x
        cases x with
        | cons y r =>
          have h0 : xs[0]? = some u := by rw [← Array.getElem?_toList, hx]; rfl
          refine ⟨u :: fs, .cons ho hc hd h0 h1, by rw [List.length_cons, List.length_cons, h2], fun z hz => ?_⟩
          rcases List.mem_cons.mp hz with rfl | hz
          · exact hT _ _ y g
          · exact h3 z hz
theorem looks_int {h : Heap} (u : Value) (d : D) (e : El u d) (g : sg d = 1) (M : Model) : PySem.W.Looks M h (typeOf u) (.type "int") := by
  cases e with
  | int i t => exact PySem.W.Looks.now
  | _ => cases g
theorem looks_str {h : Heap} (u : Value) (d : D) (e : El u d) (g : sg d = 2) (M : Model) : PySem.W.Looks M h (typeOf u) (.type "str") := by
  cases e with
  | str i t => exact PySem.W.Looks.now
  | _ => cases g
theorem lexK_flat (x y : List Int) : lexK [x] [y] = HT.lexLt x y := by
  show (if x = y then false else HT.lexLt x y) = _
  by_cases h : x = y
  · rw [if_pos h, h, lexLt_irr]
  · rw [if_neg h]
/-- how these are compared -/
theorem kd_asks {vs : List Value} {f : Value → D} (h2 : 2 ≤ vs.length) (hv : ∀ v ∈ vs, Kd s.heap v (f v)) (ho : homo (vs.map f) = true) :
    ∃ κ, (∀ (Q : PyProof.Rows.SortKind → Shared → Prop) (E : Value → Shared → Prop), Q κ s → wpAny (model prog w) A (PyProof.Rows.keyKind' vs.toArray) Q E s) ∧ SrtO.Cmp prog w A s κ (fun p => p.1 ∈ vs) (SrtO.lt2 fun v u => ltK (f v) (f u)) := by
  have hne : ∀ v ∈ vs, kdOf (f v) ≠ [] := fun v hm => homo_ne ho _ (List.mem_map.mpr ⟨v, hm, rfl⟩)
  have hpr : ∀ v ∈ vs, ∀ u ∈ vs, preEq (kdOf (f v)) (kdOf (f u)) = true := fun v hm u hu => homo_pre ho _ (List.mem_map.mpr ⟨v, hm, rfl⟩) _ (List.mem_map.mpr ⟨u, hu, rfl⟩)
  obtain ⟨v0, m0⟩ : ∃ v0, v0 ∈ vs := by
    match vs, h2 with
    | v :: _, _ => exact ⟨v, List.mem_cons_self⟩
  rcases kd_cases (hne v0 m0) with ⟨x, e⟩ | ⟨x, e⟩ | ⟨x, e⟩
  · have hi : ∀ v ∈ vs, ∃ i, f v = .int i := fun v hm => by
      obtain ⟨y, e2, _⟩ := same_head e (hne v hm) (hpr v0 m0 v hm)
      exact kd_int e2
    have hel : ∀ v ∈ vs, El v (f v) ∧ sg (f v) = 1 := fun v hm => by
      obtain ⟨i, q⟩ := hi v hm
      have k := hv v hm
      rw [q] at k ⊢
      cases k with
      | flat y => exact ⟨y, rfl⟩
    refine ⟨PyProof.Rows.oneType', fun Q E hq => PySem.W.kas_kind (T := .type "int") h2 (fun v hm => looks_int _ _ (hel v hm).1 (hel v hm).2 _) (by first | decide +kernel | rfl) (by rfl) hq, fun p q hp hq => ?_⟩
    show wpAny (model prog w) A (PyProof.Rows.oneLt' true p.1 q.1) (fun r s' => s' = s ∧ r = ltK (f p.1) (f q.1)) (fun _ _ => False) s
    refine el_lt0 (hel _ hp).1 (hel _ hq).1 ((hel _ hp).2.trans (hel _ hq).2.symm) (by rw [(hel _ hp).2]; decide) ⟨rfl, ?_⟩
    obtain ⟨i, q1⟩ := hi _ hp
    obtain ⟨j, q2⟩ := hi _ hq
    rw [q1, q2]
    exact (lexK_flat _ _).symm
  · have hi : ∀ v ∈ vs, ∃ i, f v = .str i := fun v hm => by
      obtain ⟨y, e2, _⟩ := same_head e (hne v hm) (hpr v0 m0 v hm)
      exact kd_str e2
    have hel : ∀ v ∈ vs, El v (f v) ∧ sg (f v) = 2 := fun v hm => by
      obtain ⟨i, q⟩ := hi v hm
      have k := hv v hm
      rw [q] at k ⊢
      cases k with
      | flat y => exact ⟨y, rfl⟩
    refine ⟨PyProof.Rows.oneType', fun Q E hq => PySem.W.kas_kind (T := .type "str") h2 (fun v hm => looks_str _ _ (hel v hm).1 (hel v hm).2 _) (by first | decide +kernel | rfl) (by rfl) hq, fun p q hp hq => ?_⟩
    show wpAny (model prog w) A (PyProof.Rows.oneLt' true p.1 q.1) (fun r s' => s' = s ∧ r = ltK (f p.1) (f q.1)) (fun _ _ => False) s
    refine el_lt0 (hel _ hp).1 (hel _ hq).1 ((hel _ hp).2.trans (hel _ hq).2.symm) (by rw [(hel _ hp).2]; decide) ⟨rfl, ?_⟩
    obtain ⟨i, q1⟩ := hi _ hp
    obtain ⟨j, q2⟩ := hi _ hq
    rw [q1, q2]
    exact (lexK_flat _ _).symm
  · obtain ⟨e0, es0, q0, g0, x0⟩ := kd_tup e
    have hi : ∀ v ∈ vs, ∃ d ds, f v = .tuple (d :: ds) ∧ sg d = sg e0 := fun v hm => by
      obtain ⟨y, e2, p⟩ := same_head e (hne v hm) (hpr v0 m0 v hm)
      obtain ⟨d, ds, q1, q2, q3⟩ := kd_tup e2
      subst q3
      rw [x0] at p
      exact ⟨d, ds, q1, (preEq_head p).1.symm⟩
    have hcmp : SrtO.Cmp prog w A s (PyProof.Rows.tuples' true) (fun p => p.1 ∈ vs) (SrtO.lt2 fun v u => ltK (f v) (f u)) := fun p q hp hq => by
      show wpAny (model prog w) A (PyProof.Rows.keyLt' (PyProof.Rows.tuples' true) p.1 q.1) (fun r s' => s' = s ∧ r = ltK (f p.1) (f q.1)) (fun _ _ => False) s
      obtain ⟨d, ds, q1, q2⟩ := hi _ hp
      obtain ⟨d', ds', q1', q2'⟩ := hi _ hq
      have k := hv _ hp
      have k' := hv _ hq
      have pp := hpr _ hp _ hq
      have n1 := hne _ hp
      have n2 := hne _ hq
      generalize p.1 = u at *
      generalize q.1 = v at *
      rw [q1] at k pp n1 ⊢
      rw [q1'] at k' pp n2 ⊢
      have c1 : (sg d = 1 ∨ sg d = 2) ∧ ds.all (fun e => decide (sg e ≠ 0)) = true := by
        by_cases c : (sg d = 1 ∨ sg d = 2) ∧ ds.all (fun e => decide (sg e ≠ 0)) = true
        · exact c
        · rw [kdOf, if_neg c] at n1
          exact absurd rfl n1
      have c2 : (sg d' = 1 ∨ sg d' = 2) ∧ ds'.all (fun e => decide (sg e ≠ 0)) = true := by
        by_cases c : (sg d' = 1 ∨ sg d' = 2) ∧ ds'.all (fun e => decide (sg e ≠ 0)) = true
        · exact c
        · rw [kdOf, if_neg c] at n2
          exact absurd rfl n2
      rw [kdOf, kdOf, if_pos c1, if_pos c2] at pp
      cases k with
      | flat y => cases y
      | tup ho hc hd y =>
        cases k' with
        | flat y' => cases y'
        | tup ho' hc' hd' y' =>
          refine PySem.W.kat_lt ho hd ho' hd' (kat_lexD 0 y y' (preEq_head pp).2 (fun _ z hz => ?_) ?_ ⟨rfl, rfl⟩)
          · cases hz
            rcases c1.1 with z | z <;> rw [z] <;> decide
          · have l1 := y.length
            have l2 := y'.length
            rw [Array.length_toList] at l1 l2
            rw [l1, l2]
    rcases g0 with g0 | g0
    · obtain ⟨fs, k1, k2, k3⟩ := kat_tups (h := s.heap) (f := f) (T := .type "int") (fun u d e g M => looks_int u d e (by rw [g, if_pos rfl]) M) hv (fun v hm => by
        obtain ⟨d, ds, q1, q2⟩ := hi v hm
        exact ⟨d, ds, q1, by rw [q2, if_pos rfl, g0]⟩)
      refine ⟨PyProof.Rows.tuples' true, fun Q E hq => PySem.W.kat_kind (T := .type "int") k1 (by omega) (fun f hm => k3 f hm _) (by rfl) ?_, hcmp⟩
      have e : (Value.type "int" != Value.type "tuple") = true := by first | decide +kernel | rfl | decide
      rw [e]
      exact hq
    · have ns : ¬ (Value.type "str" = Value.type "int") := fun z => absurd (Value.type.inj z) (by decide)
      obtain ⟨fs, k1, k2, k3⟩ := kat_tups (h := s.heap) (f := f) (T := .type "str") (fun u d e g M => looks_str u d e (by rw [g, if_neg ns]) M) hv (fun v hm => by
        obtain ⟨d, ds, q1, q2⟩ := hi v hm
        exact ⟨d, ds, q1, by rw [q2, if_neg ns, g0]⟩)
      refine ⟨PyProof.Rows.tuples' true, fun Q E hq => PySem.W.kat_kind (T := .type "str") k1 (by omega) (fun f hm => k3 f hm _) (by rfl) ?_, hcmp⟩
      have e : (Value.type "str" != Value.type "tuple") = true := by first | decide +kernel | rfl | decide
      rw [e]
      exact hq
theorem kd_sortable {a : Addr} {vs : List Value} {f : Value → D} (h2 : 2 ≤ vs.length) (hv : ∀ v ∈ vs, Kd s.heap v (f v)) (ho : homo (vs.map f) = true) (ha : ∀ o, s.heap.get? a = some o → o.cls ≠ .type "tuple") : SrtO.SortableO prog w A s a vs fun v u => ltK (f v) (f u) := by
  intro h' keep
  exact kd_asks (s := { s with heap := h' }) h2 (fun v hm => (hv v hm).keeps fun b o e c => keep b o (fun z => by subst z; exact ha o e c) e) ho
end
/-! back to data -/
def bkV : Value → V
  | .int i _ => .int i
  | .str x _ => .str x
  | .bool b => .bl b
  | .ref a => .ref a
  | _ => .non
structure KdR (h : Heap) (K : PySem.W.Frag) (F : Hp) (u : Value) (d : D) : Prop where
  kd : Kd h u d
  rp : Rp K F (bkV u) d
  rl : RelV (bkV u) u
theorem el_bk {u : Value} {d : D} {K : PySem.W.Frag} {F : Hp} (h : El u d) : Rp K F (bkV u) d ∧ RelV (bkV u) u := by
  cases h with
  | int i t => exact ⟨.int i, t, rfl⟩
  | str i t => exact ⟨.str i, t, rfl⟩
  | bl b => exact ⟨.bl b, rfl⟩
theorem kdR {X : Cx} {pins : List (Addr × Obj)} {σ : L2.St} {H F : Hp} {s : Shared} {T : Tbl} {x : V} {u : Value} {d : D} (I : Inv X pins σ H s) (sf : Fz T F H) (r : Rp X.K F x d) (ru : RelV x u) (hk : kdOf d ≠ []) : KdR s.heap X.K F u d := by
  cases r with
  | int i =>
    have e := el_of (K := X.K) (F := F) (.int i) ru (by simp [sg])
    exact ⟨.flat e, (el_bk e).1, (el_bk (K := X.K) (F := F) e).2⟩
  | str i =>
    have e := el_of (K := X.K) (F := F) (.str i) ru (by simp [sg])
    exact ⟨.flat e, (el_bk e).1, (el_bk (K := X.K) (F := F) e).2⟩
  | @tup a xs ds ha r =>
    obtain rfl : u = _ := ru
    obtain ⟨_, its2, r2, o, ho, hc, n, hd⟩ := I.hok _ _ (sf _ _ ha)
    refine ⟨.tup ho hc hd (elA_of r r2 fun e he => ?_), .tup ha r, rfl⟩
    match ds, hk, he with
    | d :: ds, hk, he =>
      by_cases c : (sg d = 1 ∨ sg d = 2) ∧ ds.all (fun e => decide (sg e ≠ 0)) = true
      · rcases List.mem_cons.mp he with rfl | he
        · rcases c.1 with z | z <;> rw [z] <;> decide
        · exact of_decide_eq_true (List.all_eq_true.mp c.2 e he)
      · rw [kdOf, if_neg c] at hk
        exact absurd rfl hk
  | _ => exact absurd rfl hk
theorem kdRA {X : Cx} {pins : List (Addr × Obj)} {σ : L2.St} {H F : Hp} {s : Shared} {T : Tbl} (I : Inv X pins σ H s) (sf : Fz T F H) : ∀ {xs : List V} {us : List Value} {ds : List D}, RpA X.K F xs ds → Vals xs us → (∀ d ∈ ds, kdOf d ≠ []) → Paired (KdR s.heap X.K F) us ds
  | _, _, _, .nil, .nil, _ => .nil
  | _, _, _, .cons h r, .cons hu ru, f => .cons (kdR I sf h hu (f _ List.mem_cons_self)) (kdRA I sf r ru fun d hd => f d (List.mem_cons_of_mem _ hd))
theorem KdR.map {h : Heap} {K : PySem.W.Frag} {F : Hp} : ∀ {us : List Value} {ds : List D}, Paired (KdR h K F) us ds → us.map (dt h) = ds
  | _, _, .nil => rfl
  | _, _, .cons k r => by rw [List.map_cons, dt_eq k.kd, KdR.map r]
theorem KdR.all {h : Heap} {K : PySem.W.Frag} {F : Hp} : ∀ {us : List Value} {ds : List D}, Paired (KdR h K F) us ds → ∀ u ∈ us, KdR h K F u (dt h u)
  | _, _, .nil, u, hu => absurd hu (by simp)
  | _, _, .cons k r, u, hu => by
    rcases List.mem_cons.mp hu with rfl | hu
    · rw [dt_eq k.kd]
      exact k
    · exact KdR.all r u hu
theorem KdR.back {h : Heap} {K : PySem.W.Frag} {F : Hp} : ∀ {out : List Value}, (∀ u ∈ out, KdR h K F u (dt h u)) → Vals (out.map bkV) out ∧ RpA K F (out.map bkV) (out.map (dt h))
  | [], _ => ⟨.nil, .nil⟩
  | u :: out, k => by
    obtain ⟨a, b⟩ := KdR.back fun z hz => k z (List.mem_cons_of_mem _ hz)
    have q := k u List.mem_cons_self
    exact ⟨.cons q.rl a, .cons q.rp b⟩
end Tl
namespace Tl
open PySem PySem.Spec L2 PyProof.Rows
section
variable {prog : Program} {w : World} {A : Around} {E : Value → Shared → Prop} {s : Shared}
/-- the heap after a collect -/
abbrev colH (h : Heap) (vs : List Value) : Heap := (h.push (seqObj "list" #[] 0)).update h.objs.size (Obj.mapSeq (· ++ vs.toArray))
def SeqAtH (h : Heap) (l : Addr) (vs : List Value) : Prop := ∃ o n, h.get? l = some o ∧ (o.cls = .type "list" ∨ o.cls = .type "tuple") ∧ o.data = .seq vs.toArray n
theorem collect_seq {l : Addr} {vs : List Value} {Q : List Value → Shared → Prop} (hl : SeqAtH s.heap l vs) (h : Q vs { s with heap := colH s.heap vs }) (hsz : vs.length ≤ sizeLine) : wpAny (model prog w) A (collect (.ref l)) Q E s := by
  obtain ⟨o, n, ho, hc, hd⟩ := id hl
  unfold collect
  refine wpAny_bind (wpAny_runValue (codeAny_builtin entry_proto_collect' ?_))
  show wpAny _ _ (do again (.builtin "list.__iadd__" ⟨[← newList [], .ref l], []⟩)) _ _ s
  refine wpAny_bind (wpAny_newList (wpAny_pure ⟨Code.quiet_builtin _ (by decide +kernel), codeAny_builtin entry_list_iadd' ?_⟩))
  show wpAny _ _ (Builtin.List.listExtendWith (.ref s.heap.objs.size) (.ref l) (.ref s.heap.objs.size)) _ _ { s with heap := s.heap.push (seqObj "list" #[] 0) }
  unfold Builtin.List.listExtendWith
  have ho' : (s.heap.push (seqObj "list" #[] 0)).get? l = some o := Heap.get?_push_of_some _ ho
  have fin : wpAny (model prog w) A (do
      let o ← load s.heap.objs.size
      match o.data with
      | .seq xs _ => pure xs.toList
      | _ => unsupported "internal:collect") Q E { s with heap := (s.heap.push (seqObj "list" #[] 0)).update s.heap.objs.size (Obj.mapSeq (· ++ vs.toArray)) } := by
    refine wpAny_bind (wpAny_load (get?_update_seq (Heap.get?_push_size _ rfl) _) ?_)
    show wpAny _ _ (pure ((#[] : Array Value) ++ vs.toArray).toList) Q E _
    rw [show ((#[] : Array Value) ++ vs.toArray).toList = vs by simp]
    exact wpAny_pure h
  rcases hc with hc | hc
  · refine wpAny_bind (wpAny_typeOf (T := "list") ⟨o, ho', hc⟩ ?_)
    have ht : (Value.type "list" == Value.type "list") = true := by rfl
    rw [if_pos (by rw [ht]; simp)]
    refine wpAny_bind (listItems_at ho' hd ?_)
    refine wpAny_bind (listItems_at (xs := #[]) (n := 0) (Heap.get?_push_size _ rfl) rfl ?_)
    rw [if_neg (by simp)]
    refine wpAny_bind (listUpdate_at (xs := #[]) (n := 0) (Heap.get?_push_size _ rfl) rfl ?_ (Nat.zero_le _) (by show (#[] ++ vs.toArray).size ≤ sizeLine + 1; simp only [Array.size_append, List.size_toArray, List.length_nil]; omega))
    exact wpAny_pure fin
  · refine wpAny_bind (wpAny_typeOf (T := "tuple") ⟨o, ho', hc⟩ ?_)
    have ht : (Value.type "tuple" == Value.type "tuple") = true := by rfl
    rw [if_pos (by rw [ht]; simp)]
    refine wpAny_bind (listItems_at ho' hd ?_)
    refine wpAny_bind (listItems_at (xs := #[]) (n := 0) (Heap.get?_push_size _ rfl) rfl ?_)
    rw [if_neg (by simp)]
    refine wpAny_bind (listUpdate_at (xs := #[]) (n := 0) (Heap.get?_push_size _ rfl) rfl ?_ (Nat.zero_le _) (by show (#[] ++ vs.toArray).size ≤ sizeLine + 1; simp only [Array.size_append, List.size_toArray, List.length_nil]; omega))
    exact wpAny_pure fin
theorem colH_size (h : Heap) (vs : List Value) : (colH h vs).objs.size = h.objs.size + 1 := by rw [Heap.size_update, size_push']
theorem colH_old {h : Heap} {vs : List Value} {b : Addr} {o : Obj} (q : h.get? b = some o) : (colH h vs).get? b = some o := by
  rw [Heap.get?_update_ne _ _ _ _ (Nat.ne_of_lt (Heap.lt_size q))]
  exact Heap.get?_push_of_some _ q
theorem sorted_ordT {l : Addr} {vs : List Value} {ltv : Value → Value → Bool} {Q : Value → Shared → Prop} (O : SrtO.Swo ltv) (hl : SeqAtH s.heap l vs) (hz : vs.length ≤ sizeLine)
    (hS : 2 ≤ vs.length → ∀ (h₁ : Heap) (a : Addr), h₁.get? a = some (seqObj "list" vs.toArray 0) → (∀ b o, s.heap.get? b = some o → b ≠ a ∧ h₁.get? b = some o) → SrtO.SortableO prog w A.in1.in1 { s with heap := h₁ } a vs ltv)
    (h : ∀ out : List Value, SrtO.Srtd ltv out → SrtO.Stb ltv out vs → Q (.ref (s.heap.objs.size + 1)) { s with heap := sortedAll s.heap vs out.toArray }) :
    wpAny (model prog w) A (call (.builtin "sorted") [.ref l]) Q E s := by
  refine Calls.call_function_entry kind_sorted plain_sorted entry_sorted (args_sorted1 _) ?_
  unfold Builtin.«sorted»
  refine wpAny_bind (m := checkCount "sorted" 1 1 _) (wpAny_pure ?_)
  refine wpAny_bind (collect_seq hl ?_ hz)
  refine wpAny_bind (wpAny_newList ?_ hz)
  have hsz := colH_size s.heap vs
  have hoL : ((colH s.heap vs).push (seqObj "list" vs.toArray 0)).get? (s.heap.objs.size + 1) = some (seqObj "list" vs.toArray 0) := by
    rw [← hsz]; exact Heap.get?_push_size _ rfl
  have keep : ∀ b o, s.heap.get? b = some o → b ≠ s.heap.objs.size + 1 ∧ ((colH s.heap vs).push (seqObj "list" vs.toArray 0)).get? b = some o := fun b o q =>
    ⟨Nat.ne_of_lt (Nat.lt_succ_of_lt (Heap.lt_size q)), Heap.get?_push_of_some _ (colH_old q)⟩
  show wpAny _ _ _ _ _ { s with heap := (colH s.heap vs).push (seqObj "list" vs.toArray 0) }
  rw [hsz]
  refine wpAny_bind (wpAny_holding (wpAny_call_entry slot_list_sort ⟨_, hoL, rfl⟩ entry_list_sort (SrtO.list_sort_ord O hoL hz (fun h2 => hS h2 _ _ hoL keep) fun out hs hb => ⟨_, rfl, ?_⟩) (args_list_sort _)))
  exact wpAny_pure ⟨_, rfl, h out hs hb⟩
end
def seqsD : D → Option (List D)
  | .list ds => some ds
  | .tuple ds => some ds
  | _ => none
def srtV : List D → Option D
  | [d] => (seqsD d).bind fun ds => gd (homo ds && sz ds.length) (.list (isort ltK ds))
  | _ => none
/-- a list or a tuple in the machine -/
theorem seq_at {X : Cx} {pins : List (Addr × Obj)} {σ : L2.St} {H F : Hp} {s : Shared} {T : Tbl} {x : V} {u : Value} {d : D} {ds : List D} (I : Inv X pins σ H s) (sf : Fz T F H) (r : Rp X.K F x d) (ru : RelV x u) (h : seqsD d = some ds) :
    ∃ (a : Addr) (xs : List V) (its : List Value), u = .ref a ∧ SeqAtH s.heap a its ∧ Vals xs its ∧ RpA X.K F xs ds ∧ its.length = ds.length ∧ ds.length ≤ sizeLine := by
  cases r with
  | lst ha r =>
    cases h
    obtain rfl : u = _ := ru
    obtain ⟨hz, its, n, rv, hob⟩ := I.hok _ _ (sf _ _ ha)
    refine ⟨_, _, its, rfl, ⟨_, n, hob, .inl rfl, rfl⟩, rv, r, ?_, ?_⟩
    · rw [← rv.length, r.length]
    · rw [← r.length]
      exact hz
  | tup ha r =>
    cases h
    obtain rfl : u = _ := ru
    obtain ⟨hz, its, rv, o, ho, hc, n, hd⟩ := I.hok _ _ (sf _ _ ha)
    refine ⟨_, _, its, rfl, ⟨o, n, ho, .inr hc, by rw [hd]⟩, rv, r, ?_, ?_⟩
    · rw [← rv.length, r.length]
    · rw [← r.length]
      exact hz
  | _ => cases h
theorem sorted_D {X : Cx} {T : Tbl} : CallR X (.builtin "sorted") (rL T X.K srtV) := by
  intro pins s σ H vs us Q I r h
  obtain ⟨F, ds0, sf, ra, q⟩ := h
  match ds0, ra, r, q with
  | [d], .cons rd .nil, .cons ru .nil, q =>
    rename_i x u
    obtain ⟨ds, hq, q⟩ := AftV.bindO (T := T) q
    obtain ⟨g, q⟩ := q.gd
    rw [Bool.and_eq_true] at g
    obtain ⟨a, xs, its, rfl, hl, rv, rx, hlen, hz⟩ := seq_at I sf rd ru hq
    have kr := kdRA I sf rx rv (homo_ne g.1)
    have hm := KdR.map kr
    have ha := KdR.all kr
    refine sorted_ordT (ltv := fun v u => ltK (dt s.heap v) (dt s.heap u)) (swo_by fun v => keyOf (dt s.heap v)) hl (by rw [hlen]; exact hz) (fun h2 h₁ a' ho' kp => ?_) fun out h1 h2 => ?_
    · refine kd_sortable (s := { s with heap := h₁ }) h2 (fun v hv => (ha v hv).kd.keeps fun b o e _ => (kp b o e).2) (by rw [hm]; exact g.1) fun o e => ?_
      have e' : some o = some (seqObj "list" its.toArray 0) := e.symm.trans ho'
      cases e'
      intro c
      exact absurd (Value.type.inj c) (by decide)
    · obtain ⟨ep, he'⟩ := PyProof.Rows.sortedAll_at s.heap its out.toArray
      obtain ⟨b1, b2⟩ := KdR.back (h := s.heap) (K := X.K) (F := F) fun z hz => ha z (h2.perm.mem_iff.mp hz)
      have e1 : out.map (dt s.heap) = isort ltK ds := by
        refine isort_uniq swo_ltK (SrtO.srtd_map h1) ?_
        have z := SrtO.Stb.map swo_ltK (dt s.heap) h2
        rw [hm] at z
        exact z
      rw [e1] at b2
      have hl2 : (out.map bkV).length ≤ sizeLine := by
        rw [List.length_map, h2.len, hlen]
        exact hz
      have nw : H (s.heap.objs.size + 1) = none := I.hok.fresh (Nat.le_succ _)
      exact ⟨.ref _, upd H (s.heap.objs.size + 1) (.lst (out.map bkV)), I.laid (t' := s.toks) (fun _ _ => PyProof.Rows.sortedAll_old) (Nat.le_succ _) ⟨hl2, out, ep, b1, he'⟩, rfl, q.lst sf b2 nw⟩
  | [], _, _, q => exact q.elim
  | _ :: _ :: _, _, _, q => exact q.elim
end Tl
namespace Tl
open PySem PySem.Spec L2 PyProof.Rows
theorem lam_run {CX : CXT} {P : Program} {w : World} {K : PySem.W.Frag} {mg : Str → Option Value} {base : Heap} {k : Nat} {f c' : Addr} {q n : Str} {params : Arguments} {body : Expr} {scope : Scope} {pm ctv : Value} {N ps : List Str}
    {A : Around} {outer : List Env} {s : Shared} {H : Hp} {us : List Value} {vs : List V} {Q : VK} {E : XK} {t : TE}
    (hf : s.heap.get? f = some (PySem.W.kla_obj n q params body scope [] pm c' ctv)) (hco : H c' = some (LamX.CodeO c' q)) (S : FnScope N ps scope) (hr : Room (k + 1) A) (e0 : Env0 P w K mg base A outer s H)
    (hb : bindArgs (PySem.W.kla_fn n q params body scope [] pm (.ref c') ctv) ⟨us, []⟩ = pure (ps.zip us)) (r : Vals vs us) (hl : vs.length = ps.length)
    (hbody : PE (cxOf CX P w K mg base N q scope f (.ref c') A outer s H E) body t) (ht : t (L2.start N vs) H Q) :
    codeAny (model P w) A (.call (.ref f) ⟨us, []⟩) (CR CX outer P w H s Q E) s := by
  have lim : s.heap.NoLimit := e0.mod.nolimit.keeps fun b o e => (e0.bs b o e).1
  obtain ⟨⟨oc, vs', t', hoc, hdc, hvc⟩, _, _⟩ := e0.hok c' _ hco
  have hkind : ∀ y ∈ ps.zip us, scope.names.lookup y.1 = some .local ∨ (scope.names.lookup y.1 = some .cell ∧ ((cellsFrom (s.heap.objs.size + 1) scope.names []).lookup y.1).isSome = true) := fun ⟨n, v⟩ hy => by
    rcases S.par n (List.of_mem_zip hy).1 with q | q
    · exact .inl q
    · exact .inr ⟨q, PySem.W.cellsFrom_some _ _ _ (.inl q)⟩
  refine PySem.W.kla_callFunE hr.depth hf rfl S.co S.gen rfl ⟨c', oc, vs', t', rfl, hoc, hdc, hvc⟩ ?_
  rw [hb]
  refine wpAny_pure ?_
  refine wpAny_newFunctionEnv_cells S.kind hkind fun env he s1 x => ?_
  subst he
  refine ⟨lim.keeps x.toInCall.keep, ?_⟩
  have I : Inv (cxOf CX P w K mg base N q scope f (.ref c') A outer s H E) [] (L2.start N vs) H s1 := inv_start S hr.hd e0 hl r x
  refine PySem.W.kla_codeExpr (wpAny_mono (hbody.run [] s1 (L2.start N vs) H Q I ht) (fun v s' hs => ?_) fun e s' hs => hs)
  obtain ⟨v', H', J, rv, q⟩ := hs
  exact ⟨v', H', J.os, J.bare, J.base, J.hok, rv, q⟩
end Tl
set_option maxHeartbeats 4000000
namespace Tl
open PySem PySem.Spec L2 PyProof.Rows
/-- a state between two calls, seen from s -/
structure Mid (X : Cx) (T : Tbl) (F H : Hp) (s : Shared) (Fi Hi : Hp) (si : Shared) : Prop where
  os : si.os = s.os
  bare : AllBare si.gens
  un : Un (frs X.stack) [] H Hi s.heap si.heap
  hok : HOk X.prog X.w Hi si.heap
  ex : Ex T F H Fi Hi
section
variable {X : Cx} {T : Tbl} {pins : List (Addr × Obj)} {σ : L2.St} {F H Fi Hi : Hp} {s si : Shared}
theorem Mid.inv (M : Mid X T F H s Fi Hi si) (I : Inv X pins σ H s) : Inv X pins σ Hi si :=
  I.call' (ch := []) M.os M.un M.hok M.bare (fun b z => absurd z (by simp))
theorem Mid.chg {b : Addr} {h' : Heap} {tk : Nat} (M : Mid X T F H s Fi Hi si) (hb : s.heap.get? b = none) (hn : Hi b = none) (k : ∀ c o, c ≠ b → si.heap.get? c = some o → h'.get? c = some o) :
    Mid X T F H s Fi Hi { si with heap := h', toks := tk } where
  os := M.os
  bare := M.bare
  un := by
    have ne : ∀ c o, s.heap.get? c = some o → c ≠ b := fun c o e z => by
      rw [z, hb] at e
      cases e
    refine ⟨fun c o e n h1 h2 => k c o (ne c o e) (M.un.keep c o e n h1 h2), fun c o e n h1 h2 => ?_, M.un.free, fun c o e h2 => ?_, M.un.tups, M.un.frzs, M.un.tbls⟩
    · obtain ⟨sl, q⟩ := M.un.slot c o e n h1 h2
      exact ⟨sl, k c _ (ne c o e) q⟩
    · obtain ⟨o', q⟩ := M.un.there c o e h2
      exact ⟨o', k c _ (ne c o e) q⟩
  hok := fun c o e => (M.hok c o e).stay (fun d u hd q => k d u (fun z => by
    subst z
    rcases hd with z | z
    · rw [← z, hn] at e
      cases e
    · rw [hn] at z
      cases z) q) (fun _ q => q) fun _ _ q => q
  ex := M.ex
theorem Mid.start (I : Inv X pins σ H s) (sf : Fz T F H) {h' : Heap} {tk : Nat} (k : ∀ c o, s.heap.get? c = some o → h'.get? c = some o) : Mid X T F H s F H { s with heap := h', toks := tk } where
  os := rfl
  bare := I.bare
  un := Un.kept k
  hok := I.hok.kept k
  ex := .refl sf
end
/-- the keys' order -/
def ltF (p q : D × D) : Bool := ltK p.1 q.1
theorem swo_ltF : SrtO.Swo ltF := swo_by fun p : D × D => keyOf p.1
def keyed (kds ds : List D) : List D := (isort ltF (kds.zip ds)).map Prod.snd
def kOk (ds : List D) : Bool := ds.all fun d => decide (kdOf d ≠ [])
theorem kOk_of {ds : List D} (h : kOk ds = true) : ∀ d ∈ ds, kdOf d ≠ [] := fun d hd => of_decide_eq_true (List.all_eq_true.mp h d hd)
theorem paired_zip {h : Heap} {K : PySem.W.Frag} {F : Hp} : ∀ {ks us : List Value} {kds ds : List D}, Paired (KdR h K F) ks kds → Paired (KdR h K F) us ds → (ks.zip us).map (fun p => (dt h p.1, dt h p.2)) = kds.zip ds
  | _, _, _, _, .nil, _ => by simp
  | _, _, _, _, .cons _ _, .nil => by simp
  | _, _, _, _, .cons k r, .cons k' r' => by
    rw [List.zip_cons_cons, List.zip_cons_cons, List.map_cons, paired_zip r r', dt_eq k.kd, dt_eq k'.kd]
theorem zip_snds {α β : Type} : ∀ {l : List α} {m : List β}, l.length = m.length → (l.zip m).map Prod.snd = m
  | [], [], _ => rfl
  | _ :: l, _ :: m, h => by
    rw [List.zip_cons_cons, List.map_cons, zip_snds (Nat.succ.inj h)]
theorem keyed_of {h : Heap} {L M : List Keyed} {ps : List (D × D)} (h1 : SrtO.Srtd (SrtO.lt2 fun v u => ltK (dt h v) (dt h u)) L) (h2 : SrtO.Stb (SrtO.lt2 fun v u => ltK (dt h v) (dt h u)) L M) (hm : M.map (fun p => (dt h p.1, dt h p.2)) = ps) :
    L.map (fun p => (dt h p.1, dt h p.2)) = isort ltF ps := by
  have e : (SrtO.lt2 fun v u => ltK (dt h v) (dt h u)) = fun p q : Keyed => ltF (dt h p.1, dt h p.2) (dt h q.1, dt h q.2) := by
    funext p q
    rfl
  rw [e] at h1 h2
  refine isort_uniq swo_ltF ?_ ?_
  · exact SrtO.srtd_map (lt := ltF) (f := fun p : Keyed => (dt h p.1, dt h p.2)) h1
  · have z := SrtO.Stb.map swo_ltF (fun p : Keyed => (dt h p.1, dt h p.2)) h2
    rw [hm] at z
    exact z
section
variable {X : Cx} {T : Tbl} {pins : List (Addr × Obj)} {σ : L2.St} {F H Fn Hn : Hp} {s sn : Shared} {A : Around} {E : Value → Shared → Prop} {R : PySem.Fin → Shared → Prop}
/-- the keys are there: the sort itself -/
theorem key_end {a kS : Addr} {its : List Value} {kA : Array Value} {e e1 : Nat} {xs kvs : List V} {ds kds : List D} (I : Inv X pins σ H s) (M : Mid X T F H s Fn Hn sn) (ha0 : s.heap.get? a = none) (hk0 : s.heap.get? kS = none) (hka : kS ≠ a)
    (hok : sn.heap.get? kS = some (seqObj "list" kA e)) (hoa : sn.heap.get? a = some (seqObj "list" #[] e1)) (nk : Hn kS = none) (na : Hn a = none)
    (rv : Vals xs its) (rx : RpA X.K Fn xs ds) (rkv : Vals kvs kA.toList) (rk : RpA X.K Fn kvs kds) (hl : kds.length = ds.length) (hz : ds.length ≤ sizeLine) (hk : homo kds = true) (hd : kOk ds = true)
    (h : ∀ (s' : Shared) (out : List Value) (c : Nat), Mid X T F H s Fn Hn s' → s'.heap.get? a = some (seqObj "list" out.toArray c) → Vals (out.map bkV) out → RpA X.K Fn (out.map bkV) (keyed kds ds) → R (.done (.ret .none)) s') :
    wpAny (model X.prog X.w) A (ksk_end a false its.toArray e1 (.ref kS) kA) R E sn := by
  have J : Inv X pins σ Hn sn := M.inv I
  have kk := kdRA J M.ex.fh rk rkv (homo_ne hk)
  have ki := kdRA J M.ex.fh rx rv (kOk_of hd)
  have hlen : its.length = ds.length := by rw [← rv.length, rx.length]
  have hlk : kA.size = ds.length := by rw [← Array.length_toList, ← rkv.length, rk.length, hl]
  have hz2 := ksk_zip kA its
  have hmap := paired_zip kk ki
  -- the end of it
  have fin : ∀ st : SortSt, failedOf st = none → SrtO.Srtd (SrtO.lt2 fun v u => ltK (dt sn.heap v) (dt sn.heap u)) (arrOf st).toList → SrtO.Stb (SrtO.lt2 fun v u => ltK (dt sn.heap v) (dt sn.heap u)) (arrOf st).toList (kA.zip its.toArray).toList →
      wpAny (model X.prog X.w) A (ksk_tail a false e1 (.ref kS) st) R E sn := fun st hf h1 h2 => by
    have e1' := keyed_of (ps := kds.zip ds) h1 h2 (by rw [hz2]; exact hmap)
    have hmem : ∀ u ∈ ((arrOf st).map (·.2)).toList, u ∈ its := fun u hu => by
      rw [Array.toList_map] at hu
      obtain ⟨p, hp, e⟩ := List.mem_map.mp hu
      have hp2 : p ∈ kA.toList.zip its := by
        rw [← hz2]
        exact h2.perm.mem_iff.mp hp
      rw [← e]
      exact (List.of_mem_zip (a := p.1) (b := p.2) hp2).2
    have hall := KdR.all ki
    obtain ⟨b1, b2⟩ := KdR.back (h := sn.heap) (K := X.K) (F := Fn) (out := ((arrOf st).map (·.2)).toList) fun u hu => hall u (hmem u hu)
    have e2 : (((arrOf st).map (·.2)).toList).map (dt sn.heap) = keyed kds ds := by
      unfold keyed
      rw [← e1', Array.toList_map, List.map_map, List.map_map]
      rfl
    rw [e2] at b2
    have hsz : ((arrOf st).map (·.2)).size = ds.length := by
      have z := h2.len
      rw [hz2, List.length_zip, Array.length_toList, Array.length_toList, hlk, hlen, Nat.min_self] at z
      rw [Array.size_map]
      exact z
    have s1 := Heap.SameBut.update sn.heap kS (Obj.mapSeq fun _ => (#[] : Array Value))
    have na1 : (sn.heap.update kS (Obj.mapSeq fun _ => (#[] : Array Value))).get? a = some (seqObj "list" #[] e1) := (s1.2 a hka.symm).trans hoa
    have s2 := Heap.SameBut.update (sn.heap.update kS (Obj.mapSeq fun _ => (#[] : Array Value))) a (Obj.mapSeq fun _ => (arrOf st).map (·.2))
    unfold ksk_tail
    try dsimp only
    refine wpAny_bind (listUpdate_at hok rfl ?_ (by rw [hlk]; exact hz) (Nat.zero_le _))
    refine wpAny_bind (wpAny_letGo ?_)
    refine wpAny_bind (seqEpoch_at na1 rfl ?_)
    refine wpAny_bind (listUpdate_at na1 rfl ?_ (Nat.zero_le _) (Nat.le_trans (Nat.le_of_eq (show (if false = true then ((arrOf st).map (·.2)).reverse else (arrOf st).map (·.2)).size = ds.length from hsz)) (Nat.le_succ_of_le hz)))
    rw [hf]
    simp only [bne_self_eq_false, Bool.false_eq_true, if_false]
    have M1 := M.chg (tk := sn.toks) hk0 nk (h' := sn.heap.update kS (Obj.mapSeq fun _ => (#[] : Array Value))) fun c o hc e => (s1.2 c hc).trans e
    have M2 := M1.chg (tk := sn.toks) ha0 na (h' := (sn.heap.update kS (Obj.mapSeq fun _ => (#[] : Array Value))).update a (Obj.mapSeq fun _ => (arrOf st).map (·.2))) fun c o hc e => (s2.2 c hc).trans e
    obtain ⟨c2, hc2⟩ : ∃ c2, ((sn.heap.update kS (Obj.mapSeq fun _ => (#[] : Array Value))).update a (Obj.mapSeq fun _ => (arrOf st).map (·.2))).get? a = some (seqObj "list" ((arrOf st).map (·.2)) c2) := ⟨_, get?_update_seq na1 fun _ => (arrOf st).map (·.2)⟩
    refine wpAny_pure (h _ ((arrOf st).map (·.2)).toList c2 M2 ?_ b1 b2)
    rw [Array.toArray_toList]
    exact hc2
  unfold ksk_end
  try dsimp only
  simp only [Bool.false_eq_true, if_false]
  by_cases h2 : its.toArray.size < 2
  · rw [if_pos h2, if_pos h2]
    refine wpAny_bind (wpAny_pure ?_)
    rw [StateT.run_pure]
    refine wpAny_bind (wpAny_pure ?_)
    try dsimp only
    refine fin (SortSt.mk' general' (kA.zip its.toArray) #[] 7 none) rfl ?_ (SrtO.Stb.refl _)
    show SrtO.Srtd _ (kA.zip its.toArray).toList
    rw [hz2]
    have hlz : (kA.toList.zip its).length < 2 := by
      rw [List.length_zip]
      rw [List.size_toArray] at h2
      omega
    match kA.toList.zip its, hlz with
    | [], _ => exact List.Pairwise.nil
    | [v], _ => exact List.pairwise_singleton _ _
  · rw [if_neg h2, if_neg h2]
    rw [List.size_toArray] at h2
    obtain ⟨κ, hkind, hT⟩ := kd_asks (prog := X.prog) (w := X.w) (A := A) (s := sn) (vs := kA.toList) (f := dt sn.heap) (by rw [Array.length_toList]; omega) (fun v hv => (KdR.all kk v hv).kd) (by rw [KdR.map kk]; exact hk)
    rw [Array.toArray_toList] at hkind
    refine wpAny_bind (hkind _ _ ?_)
    have hall : SrtO.AllL (fun p : Keyed => p.1 ∈ kA.toList) (kA.zip its.toArray).toList := fun p hm => by
      rw [hz2] at hm
      exact (List.of_mem_zip (a := p.1) (b := p.2) hm).1
    refine wpAny_bind (wpAny_mono (SrtO.wpS_sortO (st0 := SortSt.mk' κ (kA.zip its.toArray) #[] 7 none)
      (Q := fun _ st' => SrtO.Srtd (SrtO.lt2 fun v u => ltK (dt sn.heap v) (dt sn.heap u)) (arrOf st').toList ∧ SrtO.Stb (SrtO.lt2 fun v u => ltK (dt sn.heap v) (dt sn.heap u)) (arrOf st').toList (kA.zip its.toArray).toList ∧ failedOf st' = none) (SrtO.swo2 (swo_by fun v => keyOf (dt sn.heap v))) hT rfl hall rfl rfl fun st' a1 a2 a3 => ⟨a1, a2, a3⟩) ?_ fun _ _ e => e)
    rintro ⟨⟨⟩, st'⟩ s' ⟨rfl, hp1, hp2, hf⟩
    try dsimp only
    exact fin st' hf hp1 hp2
end
end Tl
set_option maxHeartbeats 4000000
namespace Tl
open PySem PySem.Spec L2 PyProof.Rows
abbrev noX : XK := fun _ _ _ => False
abbrev noW : WX := fun _ _ _ _ => False
/-- the context of a key's body -/
abbrev lmx (X : Cx) (x q : Str) (scope : Scope) (f c' : Addr) (A : Around) (s : Shared) (H : Hp) : Cx := cxOf (L2.CX X.prog X.w) X.prog X.w X.K X.mg X.base [x] q scope f (.ref c') A X.stack s H noX
section
variable {X : Cx} {T : Tbl} {pins : List (Addr × Obj)} {σ : L2.St} {F H Fi Hi : Hp} {s si : Shared} {A : Around} {E : Value → Shared → Prop} {R : PySem.Fin → Shared → Prop}
  {x q : Str} {params : Arguments} {body : Expr} {scope : Scope} {pm ctv : Value} {f c' : Addr} {g : Env0D → Res D} {k : Nat}
theorem erel1 {K : PySem.W.Frag} {F : Hp} {v : V} {d : D} {x : Str} (r : Rp K F v d) : ERel K F (L2.start [x] [v]) [some d] := by
  refine ⟨rfl, fun i e h => ?_⟩
  match i, h with
  | 0, h =>
    cases h
    exact ⟨v, rfl, r⟩
  | i + 1, h => simp at h
/-- one key -/
theorem key_one {u : Value} {v : V} {d kd : D} (I : Inv X pins σ H s) (M : Mid X T F H s Fi Hi si) (hA : A.frames = X.A.frames) (hr : Room (k + 1) A) (hf : si.heap.get? f = some (PySem.W.kla_obj "<lambda>" q params body scope [] pm c' ctv)) (nf : Hi f = none) (ff : f ∉ frs X.stack) (hco : Hi c' = some (LamX.CodeO c' q))
    (S : FnScope [x] [x] scope) (hb : ∀ u, bindArgs (PySem.W.kla_fn "<lambda>" q params body scope [] pm (.ref c') ctv) ⟨[u], []⟩ = pure [(x, u)])
    (hbody : ∀ (A : Around) (s : Shared) (H : Hp), Room k (A.deeper (envOfC q scope s.heap.objs.size f (.ref c'))) → PE (lmx X x q scope f c' A s H) body (tE T X.K noW g)) (ru : RelV v u) (rv : Rp X.K Fi v d) (hg : g [some d] = .ok kd) {Q : Value → Shared → Prop}
    (h : ∀ (u' : Value) (v' : V) (F' H' : Hp) (s' : Shared), Mid X T F H s F' H' s' → Ex T Fi Hi F' H' → Un (frs X.stack) [] Hi H' si.heap s'.heap → RelV v' u' → Rp X.K F' v' kd → Q u' s') :
    wpAny (model X.prog X.w) A (call (.ref f) [u]) Q E si := by
  have J : Inv X pins σ Hi si := M.inv I
  have e0 : Env0 X.prog X.w X.K X.mg X.base A X.stack si Hi := by
    have e := J.env0
    exact ⟨hA.trans e.frames, e.mod, e.bs, e.bsz, e.funs, e.frf, e.hok, e.bare⟩
  have rc := lam_run (CX := L2.CX X.prog X.w) (Q := fun v' H' => ∃ F', Ex T Fi Hi F' H' ∧ Rp X.K F' v' kd) (E := noX) (us := [u]) (vs := [v]) hf hco S hr e0 (hb u) (.cons ru .nil) rfl (hbody A si Hi (hr.deeper _)) ⟨[some d], Fi, M.ex.fh, erel1 rv, by
    rw [hg]
    exact fun v' F' H' x r => ⟨F', x, r⟩⟩
  refine wpAny_call (codeAny_mono rc fun r s' hq => ?_)
  cases r with
  | error e =>
    obtain ⟨_, _, _, _, _, _, _, _, _, _, _, _, z⟩ := hq
    exact z.elim
  | ok fl =>
    cases fl with
    | ret u' =>
      obtain ⟨v', H', os, bare, un, hok, rv', F', x, r⟩ := hq
      exact h u' v' F' H' s' ⟨os.trans M.os, bare, M.un.trans un, hok, M.ex.trans x⟩ x un rv' r
    | next => exact False.elim hq
    | brk => exact False.elim hq
    | cont => exact False.elim hq
/-- the keys, one after the other, then the sort -/
theorem key_rest {a kS : Addr} {its : List Value} {e1 : Nat} {xs : List V} {ds kds : List D} (I : Inv X pins σ H s) (M : Mid X T F H s F H si) (hA : A.frames = X.A.frames) (hr : Room (k + 1) A) (hf : si.heap.get? f = some (PySem.W.kla_obj "<lambda>" q params body scope [] pm c' ctv)) (nf : H f = none) (ff : f ∉ frs X.stack) (hco : H c' = some (LamX.CodeO c' q))
    (S : FnScope [x] [x] scope) (hb : ∀ u, bindArgs (PySem.W.kla_fn "<lambda>" q params body scope [] pm (.ref c') ctv) ⟨[u], []⟩ = pure [(x, u)])
    (hbody : ∀ (A : Around) (s : Shared) (H : Hp), Room k (A.deeper (envOfC q scope s.heap.objs.size f (.ref c'))) → PE (lmx X x q scope f c' A s H) body (tE T X.K noW g))
    (ha0 : s.heap.get? a = none) (hk0 : s.heap.get? kS = none) (hka : kS ≠ a) (hfk : kS ≠ f) (ffk : kS ∉ frs X.stack) (ffa : a ∉ frs X.stack)
    (hok : si.heap.get? kS = some (seqObj "list" #[] 0)) (hoa : si.heap.get? a = some (seqObj "list" #[] e1)) (nk : H kS = none) (na : H a = none)
    (rv : Vals xs its) (rx : RpA X.K F xs ds) (hl : kds.length = ds.length) (hz : ds.length ≤ sizeLine) (hk : homo kds = true) (hd : kOk ds = true) (hg : ∀ (i : Nat) d kd, ds[i]? = some d → kds[i]? = some kd → g [some d] = .ok kd)
    (h : ∀ (Fn Hn : Hp) (s' : Shared) (out : List Value) (c : Nat), Mid X T F H s Fn Hn s' → Hn a = none → s'.heap.get? a = some (seqObj "list" out.toArray c) → Vals (out.map bkV) out → RpA X.K Fn (out.map bkV) (keyed kds ds) → R (.done (.ret .none)) s') :
    wpAny (model X.prog X.w) A (ksk_rest a (.ref f) false its.toArray e1 (.ref kS)) R E si := by
  have hlen : its.length = ds.length := by rw [← rv.length, rx.length]
  unfold ksk_rest
  refine wpAny_bind (wpAny_rule ?_)
  rw [List.forIn_toArray]
  refine wpAny_bind (ksk_fold (fun i s' => ∃ Fi Hi kA e kvs, Mid X T F H s Fi Hi s' ∧ s'.heap.get? kS = some (seqObj "list" kA e) ∧ s'.heap.get? a = some (seqObj "list" #[] e1) ∧ s'.heap.get? f = some (PySem.W.kla_obj "<lambda>" q params body scope [] pm c' ctv) ∧
      Hi kS = none ∧ Hi a = none ∧ Hi f = none ∧ Hi c' = some (LamX.CodeO c' q) ∧ Vals kvs kA.toList ∧ RpA X.K Fi kvs (kds.take i)) its 0 si ⟨F, H, #[], 0, [], M, hok, hoa, hf, nk, na, nf, hco, .nil, by rw [List.take_zero]; exact .nil⟩ ?step ?done)
  case step =>
    rintro j u s' hu ⟨Fi, Hi, kA, e, kvs, Mi, o1, o2, o3, n1, n2, n3, co, rkv, rk⟩
    simp only [Nat.zero_add] at rk ⊢
    have hj : j < its.length := (List.getElem?_eq_some_iff.mp hu).1
    obtain ⟨v, hv, ru⟩ : ∃ v, xs[j]? = some v ∧ RelV v u := by
      have hj2 : j < xs.length := by rw [rv.length]; exact hj
      obtain ⟨u', e1, e2⟩ := Vals.get rv (List.getElem?_eq_getElem hj2)
      rw [hu] at e1
      cases e1
      exact ⟨_, List.getElem?_eq_getElem hj2, e2⟩
    obtain ⟨d, hd1, rd⟩ := rx.get hv
    obtain ⟨kd, hkd⟩ : ∃ kd, kds[j]? = some kd := ⟨_, List.getElem?_eq_getElem (by omega)⟩
    have hz2 : kA.size = j := by
      have z : kvs.length = kA.toList.length := Vals.length rkv
      rw [rk.length, List.length_take] at z
      have z3 : kA.toList.length = kA.size := Array.length_toList
      have z2 : j < kds.length := by rw [hl, ← hlen]; exact hj
      rw [Nat.min_eq_left (Nat.le_of_lt z2)] at z
      exact (z.trans z3).symm
    refine wpAny_bind (wpAny_attempt (key_one I Mi hA hr o3 n3 ff co S hb hbody ru (rd.mono Mi.ex.ff) (hg j d kd hd1 hkd) fun u' v' F' H' s'' M' x un ru' r' => ?_))
    try dsimp only
    have p1 := un.keep kS _ o1 n1 ffk (by simp)
    have p2 := un.keep a _ o2 n2 ffa (by simp)
    have p3 := un.keep f _ o3 n3 ff (by simp)
    have m1 := un.free kS _ o1 n1 (by simp)
    have m2 := un.free a _ o2 n2 (by simp)
    have m3 := un.free f _ o3 n3 (by simp)
    have s1 := Heap.SameBut.update s''.heap kS (Obj.mapSeq (·.push u'))
    obtain ⟨c2, hc2⟩ : ∃ c2, (s''.heap.update kS (Obj.mapSeq (·.push u'))).get? kS = some (seqObj "list" (kA.push u') c2) := ⟨_, get?_update_seq p1 (·.push u')⟩
    have ek : kds.take (j + 1) = kds.take j ++ [kd] := by rw [List.take_add_one, hkd]; simp
    refine wpAny_bind (listUpdate_at p1 rfl ?_ (by omega) (Nat.le_trans (Nat.le_of_eq (Array.size_push ..)) (by omega)))
    refine wpAny_pure ⟨rfl, F', H', kA.push u', c2, kvs ++ [v'], M'.chg (tk := s''.toks) hk0 m1 (fun c o hc e => (s1.2 c hc).trans e), hc2, (s1.2 a hka.symm).trans p2, (s1.2 f hfk.symm).trans p3, m1, m2, m3, x.hh _ _ co LamX.codeO_ne, ?_, ?_⟩
    · rw [show (kA.push u').toList = kA.toList ++ [u'] by simp]
      exact Vals.append rkv (.cons ru' .nil)
    · rw [ek]
      exact (rk.mono x.ff).append (.cons r' .nil)
  case done =>
    rintro s' ⟨Fi, Hi, kA, e, kvs, Mi, o1, o2, o3, n1, n2, n3, co, rkv, rk⟩
    have rk' : RpA X.K Fi kvs kds := by
      have e3 : kds.take (0 + its.length) = kds := List.take_of_length_le (by omega)
      rw [e3] at rk
      exact rk
    try dsimp only
    refine wpAny_bind (listItems_at o1 rfl ?_)
    exact key_end I Mi ha0 hk0 hka o1 o2 n1 n2 rv (rx.mono Mi.ex.ff) rkv rk' hl hz hk hd fun s' out c M' g1 g2 g3 => h Fi Hi s' out c M' n2 g1 g2 g3
theorem nofr {pins : List (Addr × Obj)} {σ : L2.St} {H : Hp} {s : Shared} (I : Inv X pins σ H s) {f : Addr} (hf : s.heap.objs.size ≤ f) : f ∉ frs X.stack := fun z => by
  rcases List.mem_cons.mp (I.stkSub _ z) with e | e
  · have h1 := I.lt
    rw [← e] at h1
    exact Nat.lt_irrefl _ (Nat.lt_of_lt_of_le h1 hf)
  · exact I.nofs hf e
/-- sorted(l, key=f) -/
theorem sorted_key {l : Addr} {its : List Value} {xs : List V} {ds kds : List D} {Q : VK} (I : Inv X pins σ H s) (sf : Fz T F H) (hr : Room (k + 3) X.A) (hf : s.heap.get? f = some (PySem.W.kla_obj "<lambda>" q params body scope [] pm c' ctv)) (nf : H f = none) (ff : f ∉ frs X.stack) (hco : H c' = some (LamX.CodeO c' q))
    (S : FnScope [x] [x] scope) (hb : ∀ u, bindArgs (PySem.W.kla_fn "<lambda>" q params body scope [] pm (.ref c') ctv) ⟨[u], []⟩ = pure [(x, u)])
    (hbody : ∀ (A : Around) (s : Shared) (H : Hp), Room k (A.deeper (envOfC q scope s.heap.objs.size f (.ref c'))) → PE (lmx X x q scope f c' A s H) body (tE T X.K noW g))
    (hl : SeqAtH s.heap l its) (rv : Vals xs its) (rx : RpA X.K F xs ds) (hlk : kds.length = ds.length) (hz : ds.length ≤ sizeLine) (hk : homo kds = true) (hd : kOk ds = true) (hg : ∀ (i : Nat) d kd, ds[i]? = some d → kds[i]? = some kd → g [some d] = .ok kd)
    (h : ∀ v F' H', Ex T F H F' H' → Rp X.K F' v (.list (keyed kds ds)) → Q v H') :
    wpAny (model X.prog X.w) X.A (call (.builtin "sorted") [.ref l] [(Str.ofString "key", .ref f)]) (EP X pins σ Q) X.xe s := by
  have hlen : its.length = ds.length := by rw [← Vals.length rv, rx.length]
  refine call_function_entry_kw kind_sorted plain_sorted entry_sorted (ksk_s1 _ _) ?_
  unfold Builtin.«sorted»
  refine wpAny_bind (m := checkCount "sorted" 1 1 _) (wpAny_pure ?_)
  refine wpAny_bind (collect_seq hl ?_ (by rw [hlen]; exact hz))
  refine wpAny_bind (wpAny_newList ?_ (by rw [hlen]; exact hz))
  have hsz := colH_size s.heap its
  obtain ⟨h3, e3⟩ : ∃ h3, (colH s.heap its).push (seqObj "list" its.toArray 0) = h3 := ⟨_, rfl⟩
  have hsz3 : h3.objs.size = s.heap.objs.size + 2 := by rw [← e3, size_push', hsz]
  have hoL : h3.get? (s.heap.objs.size + 1) = some (seqObj "list" its.toArray 0) := by
    rw [← hsz, ← e3]; exact Heap.get?_push_size _ rfl
  have keep : ∀ b o, s.heap.get? b = some o → h3.get? b = some o := fun b o q => by
    rw [← e3]
    exact Heap.get?_push_of_some _ (colH_old q)
  show wpAny _ _ _ _ _ { s with heap := (colH s.heap its).push (seqObj "list" its.toArray 0) }
  rw [hsz, e3]
  refine wpAny_bind (wpAny_holding (wpAny_call_entry_kw slot_list_sort ⟨_, hoL, rfl⟩ entry_list_sort ?body (ksk_l1 _ _)))
  show wpAny (model X.prog X.w) X.A.in1.in1 (Builtin.«list.sort» ⟨[.ref (s.heap.objs.size + 1)], [(Str.ofString "key", .ref f)]⟩) _ _ _
  rw [ksk_t1]
  unfold ksk_tree
  have n0 : ∀ b, s.heap.objs.size ≤ b → s.heap.get? b = none := fun b hb => Heap.get?_none_of_le hb
  obtain ⟨a, ea⟩ : ∃ a, s.heap.objs.size + 1 = a := ⟨_, rfl⟩
  rw [ea] at hoL ⊢
  have hga : s.heap.objs.size ≤ a := by rw [← ea]; exact Nat.le_succ _
  have s1 := Heap.SameBut.update h3 a (Obj.mapSeq fun _ => (#[] : Array Value))
  obtain ⟨e1, ho1⟩ : ∃ e1, (h3.update a (Obj.mapSeq fun _ => (#[] : Array Value))).get? a = some (seqObj "list" #[] e1) := ⟨_, get?_update_seq hoL fun _ => #[]⟩
  refine wpAny_bind (listItems_at hoL rfl ?_)
  refine wpAny_bind (listUpdate_at hoL rfl ?_ (by rw [List.size_toArray, hlen]; exact hz) (Nat.zero_le _))
  refine wpAny_bind (seqEpoch_at ho1 rfl ?_)
  refine wpAny_bind (wpAny_newTuple ?_ (by show its.length ≤ _; rw [hlen]; exact hz))
  refine wpAny_bind (wpAny_newList ?_ (Nat.zero_le _))
  refine wpAny_holding ?_
  have hkS : ((h3.update a (Obj.mapSeq fun _ => (#[] : Array Value))).push (seqObj "tuple" its.toArray 0)).objs.size = s.heap.objs.size + 3 := by rw [size_push', Heap.size_update, hsz3]
  have kp : ∀ b o, s.heap.get? b = some o → (((h3.update a (Obj.mapSeq fun _ => (#[] : Array Value))).push (seqObj "tuple" its.toArray 0)).push (seqObj "list" #[] 0)).get? b = some o := fun b o e =>
    Heap.get?_push_of_some _ (Heap.get?_push_of_some _ ((s1.2 b (Nat.ne_of_lt (Nat.lt_of_lt_of_le (Heap.lt_size e) hga))).trans (keep b o e)))
  have hkS2 : (((h3.update a (Obj.mapSeq fun _ => (#[] : Array Value))).push (seqObj "tuple" its.toArray 0)).push (seqObj "list" #[] 0)).get? (s.heap.objs.size + 3) = some (seqObj "list" #[] 0) := by
    rw [← hkS]
    exact Heap.get?_push_size _ rfl
  rw [hkS]
  have hgk : s.heap.objs.size ≤ s.heap.objs.size + 3 := Nat.le_add_right _ _
  refine key_rest (x := x) (q := q) (k := k) (F := F) (T := T) (H := H) (s := s) (c' := c') (scope := scope) (params := params) (body := body) (pm := pm) (ctv := ctv) (g := g) (kds := kds) (ds := ds) (xs := xs) (a := a) (kS := s.heap.objs.size + 3) I
    (Mid.start I sf kp) rfl (Room.in1 (Room.in1 hr)) (kp _ _ hf) nf ff hco S hb hbody (n0 _ hga) (n0 _ hgk) (by rw [← ea]; exact Nat.ne_of_gt (Nat.add_lt_add_left (by decide) _)) (fun z => by
      have z2 := Heap.lt_size hf
      rw [← z] at z2
      exact absurd z2 (Nat.not_lt.mpr hgk)) (nofr I hgk) (nofr I hga) hkS2 (Heap.get?_push_of_some _ (Heap.get?_push_of_some _ ho1)) (I.hok.fresh hgk) (I.hok.fresh hga) rv rx hlk hz hk hd hg fun Fn Hn s' out c M' na o1 r1 r2 => ⟨_, rfl, ?_⟩
  refine wpAny_pure ⟨_, rfl, ?_⟩
  have hlo : out.length = ds.length := by
    have z : (out.map bkV).length = (keyed kds ds).length := r2.length
    rw [List.length_map] at z
    rw [z, keyed, List.length_map, (isort_perm _ _).length_eq, List.length_zip, hlk, Nat.min_self]
  have J := M'.inv I
  have new : ObjOk X.prog X.w (upd Hn a (.lst (out.map bkV))) s'.heap a (.lst (out.map bkV)) := ⟨by rw [List.length_map, hlo]; exact hz, out, c, r1, o1⟩
  refine I.after ⟨.ref a, upd Hn a (.lst (out.map bkV)), M'.os, M'.bare, ?_, ?_, rfl, h (.ref a) (upd Fn a (.lst (out.map bkV))) _ (M'.ex.new _ na) (.lst (by rw [upd_same]) (r2.mono (same_upd (M'.ex.fh.free na))))⟩
  · have ne : ∀ b o, s.heap.get? b = some o → b ≠ a := fun b o e => Nat.ne_of_lt (Nat.lt_of_lt_of_le (Heap.lt_size e) hga)
    refine ⟨M'.un.keep, M'.un.slot, fun b o e n hx => ?_, M'.un.there, fun b xs e => ?_, fun b o u e => ?_, fun b ps e => ?_⟩
    · rw [upd_ne (ne b o e)]
      exact M'.un.free b o e n hx
    · have z := M'.un.tups b xs e
      rw [upd_ne (ne_of_none z na)]
      exact z
    · have z := M'.un.frzs b o u e
      rw [upd_ne (ne_of_none z na)]
      exact z
    · obtain ⟨m, z⟩ := M'.un.tbls b ps e
      exact ⟨m, by rw [upd_ne (ne_of_none z na)]; exact z⟩
  · intro b o e
    by_cases hb : b = a
    · subst hb
      rw [upd_same] at e
      cases e
      exact new
    · rw [upd_ne hb] at e
      refine (M'.hok b o e).stay (fun d u _ q => q) (fun d q => ?_) fun d xs q => ?_
      · rw [upd_ne (ne_of_none q na)]
        exact q
      · rw [upd_ne (ne_of_none q na)]
        exact q
end
end Tl
set_option maxHeartbeats 4000000
namespace Tl
open PySem PySem.Spec L2
/-! ### the small language: expressions -/
inductive Ty where
  | tuple | list | int | str | bool
inductive Tg where
  | one (i : Nat)
  | many (is : List Nat)
mutual
inductive C where
  | var (i : Nat)
  | non
  | bl (b : Bool)
  | int (i : Int)
  | str (x : Str)
  | tup (es : Cs)
  | lst (es : Cs)
  | op (o : Op2) (a b : C)
  | neg (i : Int)
  | cmp (o : Cm) (a b : C)
  | cmp2 (o o' : Cm) (a b c : C)
  | ix (a b : C)
  | slA (a : C)
  | slL (a lo : C)
  | slU (a hi : C)
  | slB (a lo hi : C)
  | pr (p : Pr) (a : C) (es : Cs)
  | call (f : Str) (a : C) (es : Cs)
  | and (es : Cs)
  | or (es : Cs)
  | not (a : C)
  | ite (t a b : C)
  | lc (elt : C) (tg : Tg) (it : CI) (ifs : Cs)
  | srt (a : C)
  | srtk (x : Str) (body : C) (a : C)
  | maxd (a b : C)
  | isi (a : C) (t : Ty)
  | isi2 (a : C) (t u : Ty)
  | gint (x : Str) (i : Int)
  | gstr (x z : Str)
inductive Cs where
  | nil
  | cons (c : C) (cs : Cs)
inductive CI where
  | seq (c : C)
  | rng1 (a : C)
  | rng2 (a b : C)
  | zip (a b : C)
  | enum (a : C)
end
/-! data's types -/
def Ty.of : Ty → D → Option Bool
  | .tuple, .tuple _ => some true
  | .list, .list _ => some true
  | .int, .int _ => some true
  | .int, .bool _ => some true
  | .str, .str _ => some true
  | .bool, .bool _ => some true
  | _, .dict _ => none
  | _, _ => some false
/-! targets -/
def Tg.slots : Tg → List Nat
  | .one i => [i]
  | .many is => is
def setMany : List Nat → List D → Env0D → Option Env0D
  | [], [], ρ => some ρ
  | i :: is, d :: ds, ρ => setMany is ds (ρ.set i (some d))
  | _, _, _ => none
def Tg.set : Tg → D → Env0D → Option Env0D
  | .one i, d, ρ => some (ρ.set i (some d))
  | .many is, .tuple ds, ρ => setMany is ds ρ
  | _, _, _ => none
def wipeD (ρ : Env0D) : List Nat → Env0D
  | [] => ρ
  | v :: vs => (wipeD ρ vs).set v none
abbrev Fns := Str → Option (Nat × (List D → Res D))
/-! no exception may come -/
def Res.calm {α : Type} : Res α → Res α
  | .exc _ => .stuck
  | r => r
def rB : Res D → (Bool → Res D) → Res D := fun r f => r.bind fun d => (lift (truV d)).bind f
/-- a comprehension's turns -/
def lcD (f : D → Res (Option D)) : List D → Res (List D)
  | [] => .ok []
  | d :: ds => (f d).bind fun o => (lcD f ds).bind fun r => .ok (match o with | some y => y :: r | none => r)
def mapR (f : D → Res D) : List D → Res (List D)
  | [] => .ok []
  | d :: ds => (f d).bind fun y => (mapR f ds).bind fun r => .ok (y :: r)
def keyV (kds : List D) (ds : List D) : Option D := gd (homo kds && kOk ds && sz ds.length) (.list (keyed kds ds))
def mxV : D → D → Option D
  | .list ds, d => (intsD ds).map fun ns => match ns with
    | [] => d
    | n :: r => .int (maxL n r)
  | _, _ => none
def intO : D → Option Int
  | .int i => some i
  | _ => none
mutual
def ev (Γ : Fns) : C → Env0D → Res D
  | .var i, ρ => lift (ρ[i]?.bind id)
  | .non, _ => .ok .none
  | .bl b, _ => .ok (.bool b)
  | .int i, _ => .ok (.int i)
  | .str x, _ => .ok (.str x)
  | .tup es, ρ => (evs Γ es ρ).bind fun ds => lift (gd (sz ds.length) (.tuple ds))
  | .lst es, ρ => (evs Γ es ρ).bind fun ds => lift (gd (sz ds.length) (.list ds))
  | .op o a b, ρ => (ev Γ a ρ).bind fun x => (ev Γ b ρ).bind fun y => lift (opV o x y)
  | .neg i, _ => .ok (.int (-i))
  | .cmp o a b, ρ => (ev Γ a ρ).bind fun x => (ev Γ b ρ).bind fun y => lift (cmpD o x y)
  | .cmp2 o o' a b c, ρ => (ev Γ a ρ).bind fun x => (ev Γ b ρ).bind fun y => (lift (cmpV o x y)).bind fun t => if t = true then (ev Γ c ρ).bind fun z => lift (cmpD o' y z) else .ok (.bool false)
  | .ix a b, ρ => (ev Γ a ρ).bind fun x => (ev Γ b ρ).bind fun y => lift (ixV x y)
  | .slA a, ρ => (ev Γ a ρ).bind fun x => lift (slV x none none)
  | .slL a lo, ρ => (ev Γ a ρ).bind fun x => (ev Γ lo ρ).bind fun l => lift ((intO l).bind fun i => slV x (some i) none)
  | .slU a hi, ρ => (ev Γ a ρ).bind fun x => (ev Γ hi ρ).bind fun h => lift ((intO h).bind fun j => slV x none (some j))
  | .slB a lo hi, ρ => (ev Γ a ρ).bind fun x => (ev Γ lo ρ).bind fun l => (lift (intO l)).bind fun i => (ev Γ hi ρ).bind fun h => lift ((intO h).bind fun j => slV x (some i) (some j))
  | .pr p a es, ρ => (ev Γ a ρ).bind fun d => (evs Γ es ρ).bind fun ds => lift (prV p (d :: ds))
  | .call f a es, ρ => match Γ f with
    | some (n, φ) => (ev Γ a ρ).bind fun d => (evs Γ es ρ).bind fun ds => if ds.length + 1 = n then φ (d :: ds) else .stuck
    | none => .stuck
  | .and es, ρ => evAnd Γ es ρ
  | .or es, ρ => evOr Γ es ρ
  | .not a, ρ => rB (ev Γ a ρ) fun b => .ok (.bool (!b))
  | .ite t a b, ρ => rB (ev Γ t ρ) fun c => if c = true then ev Γ a ρ else ev Γ b ρ
  | .lc elt tg it ifs, ρ => (evI Γ it ρ).bind fun ds => (lcD (fun d => (match tg.set d (wipeD ρ tg.slots) with
      | some ρ1 => ((evIfs Γ ifs ρ1).bind fun b => if b = true then (ev Γ elt ρ1).bind fun y => .ok (some y) else .ok none).calm
      | none => .stuck)) ds).bind fun r => lift (gd (sz r.length) (.list r))
  | .srt a, ρ => (ev Γ a ρ).bind fun d => lift (srtV [d])
  | .srtk x body a, ρ => (ev Γ a ρ).bind fun d => (lift (seqsD d)).bind fun ds => (mapR (fun d => (ev (fun _ => none) body [some d]).calm) ds).bind fun kds => lift (keyV kds ds)
  | .maxd a b, ρ => (ev Γ a ρ).bind fun x => (ev Γ b ρ).bind fun y => lift (mxV x y)
  | .isi a t, ρ => (ev Γ a ρ).bind fun d => lift ((t.of d).map .bool)
  | .isi2 a t u, ρ => (ev Γ a ρ).bind fun d => lift ((t.of d).bind fun b => (u.of d).map fun c => .bool (b || c))
  | .gint _ i, _ => .ok (.int i)
  | .gstr _ z, _ => .ok (.str z)
def evAnd (Γ : Fns) : Cs → Env0D → Res D
  | .nil, _ => .stuck
  | .cons a .nil, ρ => ev Γ a ρ
  | .cons a (.cons b es), ρ => (ev Γ a ρ).bind fun d => (lift (truV d)).bind fun t => if t = true then evAnd Γ (.cons b es) ρ else .ok d
def evOr (Γ : Fns) : Cs → Env0D → Res D
  | .nil, _ => .stuck
  | .cons a .nil, ρ => ev Γ a ρ
  | .cons a (.cons b es), ρ => (ev Γ a ρ).bind fun d => (lift (truV d)).bind fun t => if t = true then .ok d else evOr Γ (.cons b es) ρ
def evs (Γ : Fns) : Cs → Env0D → Res (List D)
  | .nil, _ => .ok []
  | .cons c cs, ρ => (ev Γ c ρ).bind fun d => (evs Γ cs ρ).bind fun ds => .ok (d :: ds)
def evIfs (Γ : Fns) : Cs → Env0D → Res Bool
  | .nil, _ => .ok true
  | .cons c cs, ρ => (ev Γ c ρ).bind fun d => (lift (truV d)).bind fun t => if t = true then evIfs Γ cs ρ else .ok false
def evI (Γ : Fns) : CI → Env0D → Res (List D)
  | .seq c, ρ => (ev Γ c ρ).bind fun d => lift (seqD d)
  | .rng1 a, ρ => (ev Γ a ρ).bind fun d => lift (rng1D [d])
  | .rng2 a b, ρ => (ev Γ a ρ).bind fun d => (ev Γ b ρ).bind fun e => lift (rng2D [d, e])
  | .zip a b, ρ => (ev Γ a ρ).bind fun d => (ev Γ b ρ).bind fun e => lift (zip2D [d, e])
  | .enum a, ρ => (ev Γ a ρ).bind fun d => lift ((seqD d).map enumD)
end
end Tl
set_option maxHeartbeats 4000000
namespace Tl
open PySem PySem.Spec L2
/-! ### this tree is that expression -/
structure Cfg where
  N : List Str
  sc : Scope
  top : Bool
  lam : Bool
  xs : List Str
  wd : Bool
  gi : List (Str × Int)
  gs : List (Str × Str)
def vis (sc : Scope) (x : Str) : Bool := match sc.names.lookup x with
  | some .local => true
  | some .cell => true
  | some .free => true
  | _ => false
def gl (sc : Scope) (x : Str) : Bool := match sc.names.lookup x with
  | some .globalImplicit => true
  | _ => false
def okN (x : Str) : Bool := !(x == ("__debug__" : Str)) && !(x == ("__classdict__" : Str)) && decide (x ≠ "__name__")
def locOk (g : Cfg) (x : Str) : Bool := match g.sc.names.lookup x with
  | some .local => true
  | some .cell => g.top
  | _ => false
def Ty.name : Ty → Str
  | .tuple => "tuple"
  | .list => "list"
  | .int => "int"
  | .str => "str"
  | .bool => "bool"
def mNames (g : Cfg) : List Nat → List Expr → Bool
  | [], [] => true
  | i :: is, .Name x _ :: es => decide (g.N[i]? = some x) && locOk g x && mNames g is es
  | _, _ => false
def mTg (g : Cfg) : Tg → Expr → Bool
  | .one i, .Name x _ => decide (g.N[i]? = some x) && locOk g x
  | .many is, .Tuple es _ _ => mNames g is es
  | _, _ => false
def isTup : Expr → Bool
  | .Tuple _ _ _ => true
  | _ => false
def opEq : Operator → Op2 → Bool
  | .Add, .add => true
  | .Sub, .sub => true
  | .Mult, .mul => true
  | .FloorDiv, .fdiv => true
  | .Mod, .mod => true
  | _, _ => false
def cmEq : CmpOp → Cm → Bool
  | .Lt, .lt => true
  | .LtE, .le => true
  | .Gt, .gt => true
  | .GtE, .ge => true
  | .Eq, .eq => true
  | .NotEq, .ne => true
  | .In, .isin => true
  | .NotIn, .notin => true
  | .Is, .is_ => true
  | .IsNot, .isnot => true
  | _, _ => false
def ownOf (N : List Str) (is : List Nat) : List (Str × Nat) := is.filterMap fun i => (N[i]?).map fun x => (x, i)
def blkG (g : Cfg) (scope : Scope) : Cfg := ⟨g.N, relS scope g.sc, false, false, [], false, g.gi, g.gs⟩
def isG (g : Cfg) (x y : Str) : Bool := decide (x = y) && gl g.sc x && okN x
def one1 (x : Str) (a : Arguments) : Bool := match a with
  | ⟨[], [⟨y, none, _⟩], none, [], [], none, []⟩ => decide (y = x)
  | _ => false
def lamSc (x : Str) (scope : Scope) : Bool := (match scope.kind with | .function => true | _ => false) && !scope.isCoroutine && !scope.isGenerator && decide (scope.names.lookup x = some .local) && scope.names.all (fun y => decide (y.2 ≠ .free))
mutual
def mE (g : Cfg) : C → Expr → Bool
  | .var i, .Name x _ => decide (g.N[i]? = some x) && vis g.sc x && okN x
  | .non, .Constant .none _ _ => true
  | .bl b, .Constant (.bool c) _ _ => decide (b = c)
  | .int i, .Constant (.int j) _ _ => decide (i = j)
  | .str x, .Constant (.str y) _ _ => decide (x = y)
  | .tup es, .Tuple es' _ _ => mA g es es'
  | .lst es, .List es' _ => mA g es es'
  | .op o a b, .BinOp a' o' b' _ => opEq o' o && mE g a a' && mE g b b'
  | .neg i, .UnaryOp .USub (.Constant (.int j) _ _) _ => decide (i = j)
  | .cmp o a b, .Compare a' [o'] [b'] _ => cmEq o' o && mE g a a' && mE g b b'
  | .cmp2 o p a b c, .Compare a' [o', p'] [b', c'] _ => cmEq o' o && cmEq p' p && mE g a a' && mE g b b' && mE g c c'
  | .slA a, .Subscript a' (.Slice none none none _) _ => mE g a a'
  | .slL a l, .Subscript a' (.Slice (some l') none none _) _ => mE g a a' && mE g l l'
  | .slU a u, .Subscript a' (.Slice none (some u') none _) _ => mE g a a' && mE g u u'
  | .slB a l u, .Subscript a' (.Slice (some l') (some u') none _) _ => mE g a a' && mE g l l' && mE g u u'
  | .ix a b, .Subscript a' b' _ => mE g a a' && mE g b b'
  | .pr p a es, .Call (.Name x _) (a' :: es') [] _ => isG g x p.name && mE g a a' && mA g es es'
  | .call f a es, .Call (.Name x _) (a' :: es') [] _ => isG g x f && mE g a a' && mA g es es'
  | .and es, .BoolOp .And es' _ => mA g es es'
  | .or es, .BoolOp .Or es' _ => mA g es es'
  | .not a, .UnaryOp .Not a' _ => mE g a a'
  | .ite t a b, .IfExp t' a' b' _ => mE g t t' && mE g a a' && mE g b b' && tst t
  | .lc elt tg it ifs, .ListComp elt' [⟨tg', it', ifs', z⟩] scope _ => decide (z = 0) && blkC g.N g.sc scope (ownOf g.N tg.slots) && decide ((ownOf g.N tg.slots).map (·.2) = tg.slots) && mTg (blkG g scope) tg tg' && mI g it tg' it' && mIf (blkG g scope) ifs ifs' && mE (blkG g scope) elt elt'
  | .srt a, .Call (.Name x _) [a'] [] _ => isG g x "sorted" && mE g a a'
  | .srtk y body a, .Call (.Name x _) [a'] [⟨some k, .Lambda ps body' scope _, _⟩] _ => isG g x "sorted" && g.lam && mE g a a' && decide (k = "key") && one1 y ps && lamSc y scope && mE ⟨[y], scope, true, false, [], false, [], []⟩ body body'
  | .maxd a b, .Call (.Name x _) [a'] [⟨some k, b', _⟩] _ => isG g x "max" && mE g a a' && decide (k = "default") && mE g b b'
  | .isi a t, .Call (.Name x _) [a', .Name y _] [] _ => isG g x "isinstance" && mE g a a' && isG g y t.name
  | .isi2 a t u, .Call (.Name x _) [a', .Tuple [.Name y _, .Name z _] _ _] [] _ => isG g x "isinstance" && mE g a a' && isG g y t.name && isG g z u.name
  | .gint x i, .Name y _ => isG g y x && decide ((x, i) ∈ g.gi)
  | .gstr x z, .Name y _ => isG g y x && decide ((x, z) ∈ g.gs)
  | _, _ => false
def mA (g : Cfg) : Cs → List Expr → Bool
  | .nil, [] => true
  | .cons c cs, e :: es => mE g c e && mA g cs es
  | _, _ => false
def mIf (g : Cfg) : Cs → List Expr → Bool
  | .nil, [] => true
  | .cons c .nil, [e] => mE g c e && tst c
  | _, _ => false
def mI (g : Cfg) : CI → Expr → Expr → Bool
  | .seq c, _, e => mE g c e
  | .rng1 a, _, .Call (.Name x _) [a'] [] _ => isG g x "range" && mE g a a'
  | .rng2 a b, _, .Call (.Name x _) [a', b'] [] _ => isG g x "range" && mE g a a' && mE g b b'
  | .zip a b, t, .Call (.Name x _) [a', b'] [] _ => isG g x "zip" && isTup t && mE g a a' && mE g b b'
  | .enum a, t, .Call (.Name x _) [a'] [] _ => isG g x "enumerate" && isTup t && mE g a a'
  | _, _, _ => false
/-- may stand as a test -/
def tst : C → Bool
  | .ite _ _ _ => false
  | .and es => tsts es
  | .or es => tsts es
  | .not a => tst a
  | _ => true
def tsts : Cs → Bool
  | .nil => true
  | .cons c cs => tst c && tsts cs
end
/-- no star -/
theorem star_of {g : Cfg} {c : C} {e : Expr} (h : mE g c e = true) (es : List Expr) (env : Env) : starEach (e :: es) env = (false, eval e env) :: starEach es env := by
  cases e with
  | Starred x p => cases c <;> simp [mE] at h
  | _ => rfl
theorem noset_of {g : Cfg} {c : C} {e : Expr} (h : mE g c e = true) (op : CmpOp) : behindInMarks op e = false := by
  cases e with
  | Set x k p => cases c <;> simp [mE] at h
  | _ => rfl
theorem nofold_of {g : Cfg} {c : C} {e : Expr} (h : mE g c e = true) (env : Env) (x : Value) : foldedSetIterable e env x = pure x := by
  cases e with
  | Set x k p => cases c <;> simp [mE] at h
  | _ => rfl
theorem stars_of {g : Cfg} : ∀ {cs : Cs} {es : List Expr}, mA g cs es = true → ∀ env, (starEach es env).any (·.1) = false
  | .nil, [], _, env => rfl
  | .nil, _ :: _, h, _ => by simp [mA] at h
  | .cons _ _, [], h, _ => by simp [mA] at h
  | .cons c cs, e :: es, h, env => by
    rw [mA, Bool.and_eq_true] at h
    rw [star_of h.1, List.any_cons, stars_of h.2 env] <;> rfl
end Tl
set_option maxHeartbeats 4000000
namespace Tl
open PySem PySem.Spec L2
theorem inv_var {g : Cfg} {i : Nat} {e : Expr} (h : mE g (.var i) e = true) : ∃ x p, e = .Name x p ∧ g.N[i]? = some x ∧ vis g.sc x = true ∧ okN x = true := by
  cases e <;> first | (exfalso; revert h; simp [mE]; done) | skip
  simp only [mE, Bool.and_eq_true, decide_eq_true_eq] at h
  exact ⟨_, _, rfl, h.1.1, h.1.2, h.2⟩
theorem inv_non {g : Cfg}  {e : Expr} (h : mE g (.non) e = true) : ∃ j p, e = .Constant .none j p := by
  cases e <;> first | (exfalso; revert h; simp [mE]; done) | skip
  rename_i v _ _
  cases v <;> first | (exfalso; revert h; simp [mE]; done) | skip
  exact ⟨_, _, rfl⟩
theorem inv_bl {g : Cfg} {b : Bool} {e : Expr} (h : mE g (.bl b) e = true) : ∃ j p, e = .Constant (.bool b) j p := by
  cases e <;> first | (exfalso; revert h; simp [mE]; done) | skip
  rename_i v _ _
  cases v <;> first | (exfalso; revert h; simp [mE]; done) | skip
  simp only [mE, decide_eq_true_eq] at h
  subst h
  exact ⟨_, _, rfl⟩
theorem inv_int {g : Cfg} {i : Int} {e : Expr} (h : mE g (.int i) e = true) : ∃ j p, e = .Constant (.int i) j p := by
  cases e <;> first | (exfalso; revert h; simp [mE]; done) | skip
  rename_i v _ _
  cases v <;> first | (exfalso; revert h; simp [mE]; done) | skip
  simp only [mE, decide_eq_true_eq] at h
  subst h
  exact ⟨_, _, rfl⟩
theorem inv_str {g : Cfg} {x : Str} {e : Expr} (h : mE g (.str x) e = true) : ∃ j p, e = .Constant (.str x) j p := by
  cases e <;> first | (exfalso; revert h; simp [mE]; done) | skip
  rename_i v _ _
  cases v <;> first | (exfalso; revert h; simp [mE]; done) | skip
  simp only [mE, decide_eq_true_eq] at h
  subst h
  exact ⟨_, _, rfl⟩
theorem inv_gint {g : Cfg} {x : Str} {i : Int} {e : Expr} (h : mE g (.gint x i) e = true) : ∃ y p, e = .Name y p ∧ isG g y x = true ∧ (x, i) ∈ g.gi := by
  cases e <;> first | (exfalso; revert h; simp [mE]; done) | skip
  simp only [mE, Bool.and_eq_true, decide_eq_true_eq] at h
  exact ⟨_, _, rfl, h.1, h.2⟩
theorem inv_gstr {g : Cfg} {x z : Str} {e : Expr} (h : mE g (.gstr x z) e = true) : ∃ y p, e = .Name y p ∧ isG g y x = true ∧ (x, z) ∈ g.gs := by
  cases e <;> first | (exfalso; revert h; simp [mE]; done) | skip
  simp only [mE, Bool.and_eq_true, decide_eq_true_eq] at h
  exact ⟨_, _, rfl, h.1, h.2⟩
theorem inv_tup {g : Cfg} {es : Cs} {e : Expr} (h : mE g (.tup es) e = true) : ∃ es2 k p, e = .Tuple es2 k p ∧ mA g es es2 = true := by
  cases e <;> first | (exfalso; revert h; simp [mE]; done) | skip
  simp only [mE] at h
  exact ⟨_, _, _, rfl, h⟩
theorem inv_lst {g : Cfg} {es : Cs} {e : Expr} (h : mE g (.lst es) e = true) : ∃ es2 p, e = .List es2 p ∧ mA g es es2 = true := by
  cases e <;> first | (exfalso; revert h; simp [mE]; done) | skip
  simp only [mE] at h
  exact ⟨_, _, rfl, h⟩
theorem inv_op {g : Cfg} {o : Op2} {a b : C} {e : Expr} (h : mE g (.op o a b) e = true) : ∃ a2 o2 b2 p, e = .BinOp a2 o2 b2 p ∧ opEq o2 o = true ∧ mE g a a2 = true ∧ mE g b b2 = true := by
  cases e <;> first | (exfalso; revert h; simp [mE]; done) | skip
  simp only [mE, Bool.and_eq_true, decide_eq_true_eq] at h
  exact ⟨_, _, _, _, rfl, h.1.1, h.1.2, h.2⟩
theorem inv_neg {g : Cfg} {i : Int} {e : Expr} (h : mE g (.neg i) e = true) : ∃ k p q, e = .UnaryOp .USub (.Constant (.int i) k p) q := by
  cases e <;> first | (exfalso; revert h; simp [mE]; done) | skip
  rename_i o x _
  cases o <;> first | (exfalso; revert h; simp [mE]; done) | skip
  cases x <;> first | (exfalso; revert h; simp [mE]; done) | skip
  rename_i v _ _
  cases v <;> first | (exfalso; revert h; simp [mE]; done) | skip
  simp only [mE, decide_eq_true_eq] at h
  subst h
  exact ⟨_, _, _, rfl⟩
theorem inv_cmp {g : Cfg} {o : Cm} {a b : C} {e : Expr} (h : mE g (.cmp o a b) e = true) : ∃ a2 o2 b2 p, e = .Compare a2 [o2] [b2] p ∧ cmEq o2 o = true ∧ mE g a a2 = true ∧ mE g b b2 = true := by
  cases e <;> first | (exfalso; revert h; simp [mE]; done) | skip
  rename_i l os cs p
  match os, cs, h with
  | [o2], [b2], h =>
    simp only [mE, Bool.and_eq_true] at h
    exact ⟨_, _, _, _, rfl, h.1.1, h.1.2, h.2⟩
  | [], _, h => simp [mE] at h
  | [_], [], h => simp [mE] at h
  | [_], _ :: _ :: _, h => simp [mE] at h
  | _ :: _ :: _, _, h => simp [mE] at h
theorem inv_cmp2 {g : Cfg} {o o' : Cm} {a b c : C} {e : Expr} (h : mE g (.cmp2 o o' a b c) e = true) : ∃ a2 o2 p2 b2 c2 p, e = .Compare a2 [o2, p2] [b2, c2] p ∧ cmEq o2 o = true ∧ cmEq p2 o' = true ∧ mE g a a2 = true ∧ mE g b b2 = true ∧ mE g c c2 = true := by
  cases e <;> first | (exfalso; revert h; simp [mE]; done) | skip
  rename_i l os cs p
  match os, cs, h with
  | [o2, p2], [b2, c2], h =>
    simp only [mE, Bool.and_eq_true] at h
    exact ⟨_, _, _, _, _, _, rfl, h.1.1.1.1, h.1.1.1.2, h.1.1.2, h.1.2, h.2⟩
  | [], _, h => simp [mE] at h
  | [_], _, h => simp [mE] at h
  | [_, _], [], h => simp [mE] at h
  | [_, _], [_], h => simp [mE] at h
  | [_, _], _ :: _ :: _ :: _, h => simp [mE] at h
  | _ :: _ :: _ :: _, _, h => simp [mE] at h
theorem inv_ix {g : Cfg} {a b : C} {e : Expr} (h : mE g (.ix a b) e = true) : ∃ a2 b2 p, e = .Subscript a2 b2 p ∧ mE g a a2 = true ∧ mE g b b2 = true := by
  cases e <;> first | (exfalso; revert h; simp [mE]; done) | skip
  simp only [mE, Bool.and_eq_true, decide_eq_true_eq] at h
  exact ⟨_, _, _, rfl, h.1, h.2⟩
theorem inv_slA {g : Cfg} {a : C} {e : Expr} (h : mE g (.slA a) e = true) : ∃ a2 q p, e = .Subscript a2 (.Slice none none none q) p ∧ mE g a a2 = true := by
  cases e <;> first | (exfalso; revert h; simp [mE]; done) | skip
  rename_i a2 x p
  cases x <;> first | (exfalso; revert h; simp [mE]; done) | skip
  rename_i l u st q
  cases l <;> cases u <;> cases st <;> first | (exfalso; revert h; simp [mE]; done) | skip
  simp only [mE, Bool.and_eq_true] at h
  exact ⟨_, _, _, rfl, h⟩
theorem inv_slL {g : Cfg} {a l : C} {e : Expr} (h : mE g (.slL a l) e = true) : ∃ a2 l2 q p, e = .Subscript a2 (.Slice (some l2) none none q) p ∧ mE g a a2 = true ∧ mE g l l2 = true := by
  cases e <;> first | (exfalso; revert h; simp [mE]; done) | skip
  rename_i a2 x p
  cases x <;> first | (exfalso; revert h; simp [mE]; done) | skip
  rename_i l u st q
  cases l <;> cases u <;> cases st <;> first | (exfalso; revert h; simp [mE]; done) | skip
  simp only [mE, Bool.and_eq_true] at h
  exact ⟨_, _, _, _, rfl, h.1, h.2⟩
theorem inv_slU {g : Cfg} {a u : C} {e : Expr} (h : mE g (.slU a u) e = true) : ∃ a2 u2 q p, e = .Subscript a2 (.Slice none (some u2) none q) p ∧ mE g a a2 = true ∧ mE g u u2 = true := by
  cases e <;> first | (exfalso; revert h; simp [mE]; done) | skip
  rename_i a2 x p
  cases x <;> first | (exfalso; revert h; simp [mE]; done) | skip
  rename_i l u st q
  cases l <;> cases u <;> cases st <;> first | (exfalso; revert h; simp [mE]; done) | skip
  simp only [mE, Bool.and_eq_true] at h
  exact ⟨_, _, _, _, rfl, h.1, h.2⟩
theorem inv_slB {g : Cfg} {a l u : C} {e : Expr} (h : mE g (.slB a l u) e = true) : ∃ a2 l2 u2 q p, e = .Subscript a2 (.Slice (some l2) (some u2) none q) p ∧ mE g a a2 = true ∧ mE g l l2 = true ∧ mE g u u2 = true := by
  cases e <;> first | (exfalso; revert h; simp [mE]; done) | skip
  rename_i a2 x p
  cases x <;> first | (exfalso; revert h; simp [mE]; done) | skip
  rename_i l u st q
  cases l <;> cases u <;> cases st <;> first | (exfalso; revert h; simp [mE]; done) | skip
  simp only [mE, Bool.and_eq_true] at h
  exact ⟨_, _, _, _, _, rfl, h.1.1, h.1.2, h.2⟩
theorem inv_pr {g : Cfg} {p : Pr} {a : C} {es : Cs} {e : Expr} (h : mE g (.pr p a es) e = true) : ∃ x px a2 es2 p2, e = .Call (.Name x px) (a2 :: es2) [] p2 ∧ isG g x p.name = true ∧ mE g a a2 = true ∧ mA g es es2 = true := by
  cases e <;> first | (exfalso; revert h; simp [mE]; done) | skip
  rename_i f as kw p
  cases f <;> first | (exfalso; revert h; simp [mE]; done) | skip
  rename_i x px
  match as, kw, h with
  | a2 :: es2, [], h =>
    simp only [mE, Bool.and_eq_true, decide_eq_true_eq] at h
    exact ⟨_, _, _, _, _, rfl, h.1.1, h.1.2, h.2⟩
  | [], _, h => simp [mE] at h
  | _ :: _, _ :: _, h => simp [mE] at h
theorem inv_call {g : Cfg} {f : Str} {a : C} {es : Cs} {e : Expr} (h : mE g (.call f a es) e = true) : ∃ x px a2 es2 p2, e = .Call (.Name x px) (a2 :: es2) [] p2 ∧ isG g x f = true ∧ mE g a a2 = true ∧ mA g es es2 = true := by
  cases e <;> first | (exfalso; revert h; simp [mE]; done) | skip
  rename_i f as kw p
  cases f <;> first | (exfalso; revert h; simp [mE]; done) | skip
  rename_i x px
  match as, kw, h with
  | a2 :: es2, [], h =>
    simp only [mE, Bool.and_eq_true, decide_eq_true_eq] at h
    exact ⟨_, _, _, _, _, rfl, h.1.1, h.1.2, h.2⟩
  | [], _, h => simp [mE] at h
  | _ :: _, _ :: _, h => simp [mE] at h
theorem inv_srt {g : Cfg} {a : C} {e : Expr} (h : mE g (.srt a) e = true) : ∃ x px a2 p2, e = .Call (.Name x px) [a2] [] p2 ∧ isG g x "sorted" = true ∧ mE g a a2 = true := by
  cases e <;> first | (exfalso; revert h; simp [mE]; done) | skip
  rename_i f as kw p
  cases f <;> first | (exfalso; revert h; simp [mE]; done) | skip
  rename_i x px
  match as, kw, h with
  | [a2], [], h =>
    simp only [mE, Bool.and_eq_true, decide_eq_true_eq] at h
    exact ⟨_, _, _, _, rfl, h.1, h.2⟩
  | [], _, h => simp [mE] at h
  | [_], _ :: _, h => simp [mE] at h
  | _ :: _ :: _, _, h => simp [mE] at h
theorem inv_and {g : Cfg} {es : Cs} {e : Expr} (h : mE g (.and es) e = true) : ∃ es2 p, e = .BoolOp .And es2 p ∧ mA g es es2 = true := by
  cases e <;> first | (exfalso; revert h; simp [mE]; done) | skip
  rename_i o es2 p
  cases o <;> first | (exfalso; revert h; simp [mE]; done) | skip
  simp only [mE] at h
  exact ⟨_, _, rfl, h⟩
theorem inv_or {g : Cfg} {es : Cs} {e : Expr} (h : mE g (.or es) e = true) : ∃ es2 p, e = .BoolOp .Or es2 p ∧ mA g es es2 = true := by
  cases e <;> first | (exfalso; revert h; simp [mE]; done) | skip
  rename_i o es2 p
  cases o <;> first | (exfalso; revert h; simp [mE]; done) | skip
  simp only [mE] at h
  exact ⟨_, _, rfl, h⟩
theorem inv_not {g : Cfg} {a : C} {e : Expr} (h : mE g (.not a) e = true) : ∃ a2 p, e = .UnaryOp .Not a2 p ∧ mE g a a2 = true := by
  cases e <;> first | (exfalso; revert h; simp [mE]; done) | skip
  rename_i o a2 p
  cases o <;> first | (exfalso; revert h; simp [mE]; done) | skip
  simp only [mE] at h
  exact ⟨_, _, rfl, h⟩
theorem inv_ite {g : Cfg} {t a b : C} {e : Expr} (h : mE g (.ite t a b) e = true) : ∃ t2 a2 b2 p, e = .IfExp t2 a2 b2 p ∧ mE g t t2 = true ∧ mE g a a2 = true ∧ mE g b b2 = true ∧ tst t = true := by
  cases e <;> first | (exfalso; revert h; simp [mE]; done) | skip
  simp only [mE, Bool.and_eq_true, decide_eq_true_eq] at h
  exact ⟨_, _, _, _, rfl, h.1.1.1, h.1.1.2, h.1.2, h.2⟩
theorem inv_lc {g : Cfg} {elt : C} {tg : Tg} {it : CI} {ifs : Cs} {e : Expr} (h : mE g (.lc elt tg it ifs) e = true) : ∃ elt2 tg2 it2 ifs2 scope p, e = .ListComp elt2 [⟨tg2, it2, ifs2, 0⟩] scope p ∧ blkC g.N g.sc scope (ownOf g.N tg.slots) = true ∧ (ownOf g.N tg.slots).map (·.2) = tg.slots ∧
    mTg (blkG g scope) tg tg2 = true ∧ mI g it tg2 it2 = true ∧ mIf (blkG g scope) ifs ifs2 = true ∧ mE (blkG g scope) elt elt2 = true := by
  cases e <;> first | (exfalso; revert h; simp [mE]; done) | skip
  rename_i elt2 gs scope p
  match gs, h with
  | [⟨tg2, it2, ifs2, z⟩], h =>
    simp only [mE, Bool.and_eq_true, decide_eq_true_eq] at h
    obtain ⟨⟨⟨⟨⟨⟨h1, h2⟩, h3⟩, h4⟩, h5⟩, h6⟩, h7⟩ := h
    subst h1
    exact ⟨_, _, _, _, _, _, rfl, h2, h3, h4, h5, h6, h7⟩
  | [], h => simp [mE] at h
  | _ :: _ :: _, h => simp [mE] at h
theorem inv_maxd {g : Cfg} {a b : C} {e : Expr} (h : mE g (.maxd a b) e = true) : ∃ x px a2 b2 pk p2, e = .Call (.Name x px) [a2] [⟨some "default", b2, pk⟩] p2 ∧ isG g x "max" = true ∧ mE g a a2 = true ∧ mE g b b2 = true := by
  cases e <;> first | (exfalso; revert h; simp [mE]; done) | skip
  rename_i f as kw p
  cases f <;> first | (exfalso; revert h; simp [mE]; done) | skip
  rename_i x px
  match as, kw, h with
  | [a2], [⟨some k, b2, pk⟩], h =>
    simp only [mE, Bool.and_eq_true, decide_eq_true_eq] at h
    obtain ⟨⟨⟨h1, h2⟩, h3⟩, h4⟩ := h
    subst h3
    exact ⟨_, _, _, _, _, _, rfl, h1, h2, h4⟩
  | [], _, h => simp [mE] at h
  | _ :: _ :: _, _, h => simp [mE] at h
  | [_], [], h => simp [mE] at h
  | [_], _ :: _ :: _, h => simp [mE] at h
  | [_], [⟨none, _, _⟩], h => simp [mE] at h
theorem inv_srtk {g : Cfg} {y : Str} {body a : C} {e : Expr} (h : mE g (.srtk y body a) e = true) : ∃ x px a2 ps body2 scope pl pk p2, e = .Call (.Name x px) [a2] [⟨some "key", .Lambda ps body2 scope pl, pk⟩] p2 ∧ isG g x "sorted" = true ∧ g.lam = true ∧ mE g a a2 = true ∧ one1 y ps = true ∧ lamSc y scope = true ∧ mE ⟨[y], scope, true, false, [], false, [], []⟩ body body2 = true := by
  cases e <;> first | (exfalso; revert h; simp [mE]; done) | skip
  rename_i f as kw p
  cases f <;> first | (exfalso; revert h; simp [mE]; done) | skip
  rename_i x px
  match as, kw, h with
  | [a2], [⟨some k, b2, pk⟩], h =>
    cases b2 <;> first | (exfalso; revert h; simp [mE]; done) | skip
    simp only [mE, Bool.and_eq_true, decide_eq_true_eq] at h
    obtain ⟨⟨⟨⟨⟨⟨h1, h2⟩, h3⟩, h4⟩, h5⟩, h6⟩, h7⟩ := h
    subst h4
    exact ⟨_, _, _, _, _, _, _, _, _, rfl, h1, h2, h3, h5, h6, h7⟩
  | [], _, h => simp [mE] at h
  | _ :: _ :: _, _, h => simp [mE] at h
  | [_], [], h => simp [mE] at h
  | [_], _ :: _ :: _, h => simp [mE] at h
  | [_], [⟨none, _, _⟩], h => simp [mE] at h
theorem inv_isi {g : Cfg} {t : Ty} {a : C} {e : Expr} (h : mE g (.isi a t) e = true) : ∃ x px a2 y py p2, e = .Call (.Name x px) [a2, .Name y py] [] p2 ∧ isG g x "isinstance" = true ∧ mE g a a2 = true ∧ isG g y t.name = true := by
  cases e <;> first | (exfalso; revert h; simp [mE]; done) | skip
  rename_i f as kw p
  cases f <;> first | (exfalso; revert h; simp [mE]; done) | skip
  rename_i x px
  match as, kw, h with
  | [a2, b2], [], h =>
    cases b2 <;> first | (exfalso; revert h; simp [mE]; done) | skip
    simp only [mE, Bool.and_eq_true, decide_eq_true_eq] at h
    exact ⟨_, _, _, _, _, _, rfl, h.1.1, h.1.2, h.2⟩
  | [], _, h => simp [mE] at h
  | [_], _, h => simp [mE] at h
  | _ :: _ :: _ :: _, _, h => simp [mE] at h
  | [_, _], _ :: _, h => simp [mE] at h
theorem inv_isi2 {g : Cfg} {t u : Ty} {a : C} {e : Expr} (h : mE g (.isi2 a t u) e = true) : ∃ x px a2 y py z pz k pt p2, e = .Call (.Name x px) [a2, .Tuple [.Name y py, .Name z pz] k pt] [] p2 ∧ isG g x "isinstance" = true ∧ mE g a a2 = true ∧ isG g y t.name = true ∧ isG g z u.name = true := by
  cases e <;> first | (exfalso; revert h; simp [mE]; done) | skip
  rename_i f as kw p
  cases f <;> first | (exfalso; revert h; simp [mE]; done) | skip
  rename_i x px
  match as, kw, h with
  | [a2, b2], [], h =>
    cases b2 <;> first | (exfalso; revert h; simp [mE]; done) | skip
    rename_i es k pt
    match es, h with
    | [y, z], h =>
      cases y <;> first | (exfalso; revert h; simp [mE]; done) | skip
      cases z <;> first | (exfalso; revert h; simp [mE]; done) | skip
      simp only [mE, Bool.and_eq_true, decide_eq_true_eq] at h
      exact ⟨_, _, _, _, _, _, _, _, _, _, rfl, h.1.1.1, h.1.1.2, h.1.2, h.2⟩
    | [], h => simp [mE] at h
    | [_], h => simp [mE] at h
    | _ :: _ :: _ :: _, h => simp [mE] at h
  | [], _, h => simp [mE] at h
  | [_], _, h => simp [mE] at h
  | _ :: _ :: _ :: _, _, h => simp [mE] at h
  | [_, _], _ :: _, h => simp [mE] at h
end Tl
set_option maxHeartbeats 4000000
namespace Tl
open PySem PySem.Spec L2
/-! ### a def's promise -/
def spD (T : Tbl) (K : PySem.W.Frag) (n : Nat) (φ : List D → Res D) : Sp := fun vs H Q E => ∃ F ds, Fz T F H ∧ RpA K F vs ds ∧ ds.length = n ∧ (match φ ds with
  | .ok d => ∀ v F' H', Ex T F H F' H' → Rp K F' v d → Q v H'
  | .exc c => ∀ H', Kp H H' → Fz T F H' → E (clsV K c) none H'
  | .stuck => False)
structure FnAt (X : Cx) (T : Tbl) (x : Str) (n : Nat) (φ : List D → Res D) : Prop where
  at_ : ∃ k f fd ps, FnOk X.prog X.w X.K X.mg X.base (L2.CX X.prog X.w) k f fd ps (spD T X.K n φ) ∧ Room k X.A ∧ X.mg x = some (.ref f) ∧ PySem.W.keepIn X.K (.ref f) = true ∧ Binds X.K fd ps []
def LamAt (X : Cx) (T : Tbl) : Prop := ∃ c P, LamX.TabB X.base X.mg c P ∧ X.env.code = .ref c ∧ (P, X.env.qual ++ "<lambda>") ∈ T ∧ ∀ p ∈ T, p.1 = P → p.2 = X.env.qual ++ "<lambda>"
/-- the built-ins that a text of ours names -/
def blts : List Str := ["len", "tuple", "list", "any", "all", "sum", "abs", "min", "max", "int", "str", "bool", "range", "zip", "enumerate", "sorted", "isinstance"]
/-! ### exceptions -/
/-- what is known of an own class of exceptions -/
structure ExF (K : PySem.W.Frag) (mg : Str → Option Value) (c : Str) : Prop where
  glo : mg c = some (.ref (He.ga K c))
  ok : (He.Fa.exc c).ok K = true
  cat : PySem.W.exmOne K (.ref (He.ga K c)) (.ref (He.ga K "TileError")) = some true
  te : mg "TileError" = some (.ref (He.ga K "TileError"))
def excs9 : List Str := ["NoTile", "BadTile", "Fixed", "NoRoom", "NoName", "Same", "Closed", "NoDeed", "NoText"]
def words9 : List Str := ["no tile", "bad tile", "fixed", "no room", "no name", "same", "closed", "no deed", "no text"]
def wordOf (c : Str) : Str := words9.getD (excs9.idxOf c) "wrong"
/-- what _law_word promises, called where an exception is handled -/
structure FnW (P : Program) (w : World) (K : PySem.W.Frag) (mg : Str → Option Value) (base : Heap) (k : Nat) (f : Addr) (fd : FuncData) : Prop where
  run : ∀ c ∈ excs9, ∀ (A : Around) (outer : List Env) (s : Shared) (H : Hp) (args : Args) (Q : VK) (p : Addr × Obj), L2H.RoomH k A → L2H.PinOk outer H s p → Zc (.ref (He.ga K c)) none p.2 → (∃ vs, p.2.data = .fields vs) → Env0 P w K mg base A outer s H → BindsTo s fd args ((["what"] : List Str).zip [.ref p.1]) → (∀ H', Same H H' → Q (.str (wordOf c)) H') →
    codeAny (model P w) A (.call (.ref f) args) (CR (L2.CX P w) outer P w H s Q (fun _ _ _ => False)) s
def WordAt (X : Cx) : Prop := ∃ k f fd, FnW X.prog X.w X.K X.mg X.base k f fd ∧ Room k X.A ∧ X.mg "_law_word" = some (.ref f) ∧ PySem.W.keepIn X.K (.ref f) = true ∧ Binds X.K fd ["what"] []
structure Gd (X : Cx) (W : WX) (T : Tbl) (Γ : Fns) (g : Cfg) : Prop where
  calm : X.calm = true
  nd : X.N.Nodup
  N : X.N = g.N
  sc : X.env.scope = g.sc
  fnT : ∀ x, locOk g x = true → X.fn x = true ∨ X.env.scope.names.lookup x = some .local
  room : Room 0 X.A
  blt : ∀ x ∈ blts, X.mg x = none
  tk : Takes X W
  fns : ∀ x n φ, Γ x = some (n, φ) → FnAt X T x n φ
  lam : g.lam = true → LamAt X T ∧ Room 8 X.A
  exc : ∀ c ∈ g.xs, ExF X.K X.mg c
  wrd : g.wd = true → WordAt X
  gci : ∀ x i, (x, i) ∈ g.gi → ∃ t, X.mg x = some (.int i t)
  gcs : ∀ x z, (x, z) ∈ g.gs → ∃ t, X.mg x = some (.str z t)
section
variable {X : Cx} {W : WX} {T : Tbl} {Γ : Fns} {g : Cfg}
theorem Gd.units (G : Gd X W T Γ g) : X.A.units + 65 < cLine := by have := G.room.un; omega
theorem Gd.vis (G : Gd X W T Γ g) {x : Str} (h : vis g.sc x = true) : Vis X.env.scope x := by
  rw [G.sc]
  unfold Tl.vis at h
  unfold L2.Vis
  split at h <;> simp_all
theorem Gd.gl (G : Gd X W T Γ g) {x : Str} (h : gl g.sc x = true) : Gl X x := by
  show X.env.scope.names.lookup x = some .globalImplicit
  rw [G.sc]
  unfold Tl.gl at h
  split at h <;> simp_all
theorem okN_of {x : Str} (h : okN x = true) : (x == ("__debug__" : Str)) = false ∧ (x == ("__classdict__" : Str)) = false ∧ x ≠ "__name__" := by
  simp only [okN, Bool.and_eq_true, Bool.not_eq_true', decide_eq_true_eq] at h
  exact ⟨h.1.1, h.1.2, h.2⟩
theorem isG_of (G : Gd X W T Γ g) {x y : Str} (h : isG g x y = true) : x = y ∧ Gl X y ∧ (y == ("__debug__" : Str)) = false ∧ y ≠ "__name__" := by
  simp only [isG, Bool.and_eq_true, decide_eq_true_eq] at h
  obtain ⟨⟨e, h1⟩, h2⟩ := h
  subst e
  exact ⟨rfl, G.gl h1, (okN_of h2).1, (okN_of h2).2.2⟩
end
section
variable {T : Tbl} {K : PySem.W.Frag} {W : WX} {σ : L2.St} {F H : Hp} {Q : VK}
theorem After.lift_ {o : Option D} (h : After T K W σ (Rp K) (lift o) F H Q) : AftV T K o F H Q := by
  cases o with
  | none => exact h
  | some d => exact h
theorem After.bind_o {α : Type} {β : Type} {R : Hp → β → D → Prop} {o : Option α} {f : α → Res D} {Q : β → Hp → Prop} (h : After T K W σ R ((lift o).bind f) F H Q) : ∃ a, o = some a ∧ After T K W σ R (f a) F H Q := by
  cases o with
  | none => exact h.elim
  | some a => exact ⟨a, rfl, h⟩
theorem AftV.af {d : D} {v : V} {F1 H1 : Hp} (h : After T K W σ (Rp K) (.ok d) F H Q) (x : Ex T F H F1 H1) (r : Rp K F1 v d) : Q v H1 := h v F1 H1 x r
end
section
variable {X : Cx} {W : WX} {T : Tbl} {e a b c : Expr} {fa fb fc : Env0D → Res D}
theorem var_D {i : Nat} {x : Str} {p : Pos} (hN : X.N[i]? = some x) (hv : Vis X.env.scope x) (hd : (x == ("__debug__" : Str)) = false) (hcd : (x == ("__classdict__" : Str)) = false) : PE X (.Name x p) (tE T X.K W fun ρ => lift (ρ[i]?.bind id)) := by
  refine PE.imp (pe_var hN hv hd hcd) fun σ H Q h => ?_
  obtain ⟨ρ, F, sf, er, q⟩ := h
  have q' := q.lift_
  cases h1 : ρ[i]? with
  | none =>
    rw [h1] at q'
    exact q'.elim
  | some o =>
    cases o with
    | none =>
      rw [h1] at q'
      exact q'.elim
    | some d =>
      rw [h1] at q'
      obtain ⟨v, e1, r⟩ := er.get i d h1
      exact ⟨v, e1, AftV.now q' sf r⟩
theorem cst_D {v : V} {d : D} (h : PE X e (tC v)) (r : ∀ F, Rp X.K F v d) : PE X e (tE T X.K W fun _ => .ok d) := PE.imp h fun σ H Q h => by
  obtain ⟨ρ, F, sf, er, q⟩ := h
  exact q v F H (.refl sf) (r F)
theorem op2_D {f : D → D → Option D} {t : TE} (h : ∀ σ H Q, tOp (r2 T X.K f) (tE T X.K W fa) (tE T X.K W fb) σ H Q → t σ H Q) (σ : L2.St) (H : Hp) (Q : VK)
    (w : tE T X.K W (fun ρ => (fa ρ).bind fun x => (fb ρ).bind fun y => lift (f x y)) σ H Q) : t σ H Q := by
  refine h σ H Q ?_
  obtain ⟨ρ, F, sf, er, q⟩ := w
  exact ⟨ρ, F, sf, er, (After.bind (R := Rp X.K) sf q).mono fun v H1 ⟨F1, d, x, rv, _, q1⟩ => ⟨ρ, F1, x.fh, er.mono x.ff, (After.bind (R := Rp X.K) x.fh q1).mono fun u H2 ⟨F2, d2, x2, ru, _, q2⟩ => ⟨F2, d, d2, x2.fh, rv.mono x2.ff, ru, q2.lift_⟩⟩⟩
theorem binop_D {o : Op2} {o' : Operator} {p : Pos} (ho : opEq o' o = true) (ha : PE X a (tE T X.K W fa)) (hb : PE X b (tE T X.K W fb)) : PE X (.BinOp a o' b p) (tE T X.K W fun ρ => (fa ρ).bind fun x => (fb ρ).bind fun y => lift (opV o x y)) := by
  have e : o' = o.py := by cases o' <;> cases o <;> first | rfl | cases ho
  subst e
  exact PE.imp (pe_op (op_D (T := T) o) ha hb) (op2_D fun _ _ _ h => h)
theorem cmEq_of {o : Cm} {o' : CmpOp} (ho : cmEq o' o = true) : o' = o.py := by cases o' <;> cases o <;> first | rfl | cases ho
theorem cmpE_D {o : Cm} {o' : CmpOp} {p : Pos} (hu : X.A.units + 65 < cLine) (ho : cmEq o' o = true) (ha : PE X a (tE T X.K W fa)) (hb : PE X b (tE T X.K W fb)) (hm : ∀ op, behindInMarks op b = false) : PE X (.Compare a [o'] [b] p) (tE T X.K W fun ρ => (fa ρ).bind fun x => (fb ρ).bind fun y => lift (cmpD o x y)) := by
  have e := cmEq_of ho
  subst e
  exact PE.imp (pe_cmpR (cmp_D (T := T) hu o) ha hb (hm _)) (op2_D fun _ _ _ h => h)
theorem ixE_D {p : Pos} (ha : PE X a (tE T X.K W fa)) (hb : PE X b (tE T X.K W fb)) (hs : PlainIx b) : PE X (.Subscript a b p) (tE T X.K W fun ρ => (fa ρ).bind fun x => (fb ρ).bind fun y => lift (ixV x y)) :=
  PE.imp (pe_ix (ix_D (T := T)) ha hb hs) (op2_D fun _ _ _ h => h)
/-! tests -/
theorem tTs_of {t : TT} {f : Env0D → Res D} (h : ∀ σ H Q, (∃ ρ F, Fz T F H ∧ ERel X.K F σ ρ ∧ After T X.K W σ (fun _ (b c : Bool) => b = c) ((f ρ).bind fun d => lift (truV d)) F H Q) → t σ H Q) (σ : L2.St) (H : Hp) (Q : Bool → Hp → Prop)
    (w : tTs T X.K W (fun ρ => (f ρ).bind fun d => lift (truV d)) σ H Q) : t σ H Q := h σ H Q w
theorem truth_D (ha : PE X a (tE T X.K W fa)) (he : ∀ whole, isTrue a X.env whole = (do let v ← whole; standAt a.pos; holding [v] (truthy v))) : PT X a (tTs T X.K W fun ρ => (fa ρ).bind fun d => lift (truV d)) := by
  refine PT.imp (pt_truth ha he) fun σ H Q h => ?_
  obtain ⟨ρ, F, sf, er, q⟩ := h
  refine ⟨ρ, F, sf, er, (After.bind (R := Rp X.K) sf q).mono fun v H1 ⟨F1, d, x, rv, _, q1⟩ => ?_⟩
  cases h1 : truV d with
  | none =>
    rw [h1] at q1
    exact q1.elim
  | some k =>
    rw [h1] at q1
    exact ⟨k, tru_of (T := T) x.fh rv h1, q1 k F1 H1 (.refl x.fh) rfl⟩
end
end Tl
set_option maxHeartbeats 4000000
namespace Tl
open PySem PySem.Spec L2
section
variable {X : Cx} {W : WX} {T : Tbl} {e a b c : Expr} {es : List Expr} {fa fb fc : Env0D → Res D} {fs : Env0D → Res (List D)} {p q : Pos}
theorem tupE_D {k : Nat} (h : PA X es (tAs T X.K W fs)) : PE X (.Tuple es k p) (tE T X.K W fun ρ => (fs ρ).bind fun ds => lift (gd (sz ds.length) (.tuple ds))) := by
  refine PE.imp (pe_tup h) fun σ H Q w => ?_
  obtain ⟨ρ, F, sf, er, q⟩ := w
  refine ⟨ρ, F, sf, er, (After.bind (R := RpA X.K) sf q).mono fun vs H1 ⟨F1, ds, x, rv, _, q1⟩ => ?_⟩
  obtain ⟨g, q2⟩ := q1.lift_.gd
  exact ⟨by rw [rv.length]; exact of_decide_eq_true g, fun p n => q2.tup x.fh rv n⟩
theorem lstE_D (h : PA X es (tAs T X.K W fs)) : PE X (.List es p) (tE T X.K W fun ρ => (fs ρ).bind fun ds => lift (gd (sz ds.length) (.list ds))) := by
  refine PE.imp (pe_lst h) fun σ H Q w => ?_
  obtain ⟨ρ, F, sf, er, q⟩ := w
  refine ⟨ρ, F, sf, er, (After.bind (R := RpA X.K) sf q).mono fun vs H1 ⟨F1, ds, x, rv, _, q1⟩ => ?_⟩
  obtain ⟨g, q2⟩ := q1.lift_.gd
  exact ⟨by rw [rv.length]; exact of_decide_eq_true g, fun p n => q2.lst x.fh rv n⟩
theorem negE_D {i : Int} {k : Nat} : PE X (.UnaryOp .USub (.Constant (.int i) k p) q) (tE T X.K W fun _ => .ok (.int (-i))) := by
  refine PE.imp (pe_un un_neg pe_int) fun σ H Q w => ?_
  obtain ⟨ρ, F, sf, er, q⟩ := w
  exact ⟨i, rfl, q _ F H (.refl sf) (.int _)⟩
theorem chain_imp {o o' : Cm} (σ : L2.St) (H : Hp) (Q : VK) (w : tE T X.K W (fun ρ => (fa ρ).bind fun x => (fb ρ).bind fun y => (lift (cmpV o x y)).bind fun t => if t = true then (fc ρ).bind fun z => lift (cmpD o' y z) else .ok (.bool false)) σ H Q) :
    tChain (r2 T X.K (cmpD o)) (r2 T X.K (cmpD o')) (tE T X.K W fa) (tE T X.K W fb) (tE T X.K W fc) σ H Q := by
  obtain ⟨ρ, F, sf, er, q⟩ := w
  refine ⟨ρ, F, sf, er, (After.bind (R := Rp X.K) sf q).mono fun v H1 ⟨F1, d, x, rv, _, q1⟩ => ⟨ρ, F1, x.fh, er.mono x.ff, (After.bind (R := Rp X.K) x.fh q1).mono fun u H2 ⟨F2, d2, x2, ru, _, q2⟩ => ?_⟩⟩
  obtain ⟨t, e, q3⟩ := q2.bind_o
  refine ⟨F2, d, d2, x2.fh, rv.mono x2.ff, ru, ?_⟩
  rw [cmpD, e]
  intro v3 F3 H3 x3 r3
  cases r3
  refine ⟨t, rfl, ?_⟩
  have er3 := (er.mono x.ff).mono (x2.ff.trans x3.ff)
  have q4 : After T X.K W σ (Rp X.K) (if t = true then (fc ρ).bind fun z => lift (cmpD o' d2 z) else .ok (.bool false)) F3 H3 Q := by
    have z := After.bind (r := Res.ok ()) (R := fun _ (_ : Unit) (_ : Unit) => True) (f := fun _ => if t = true then (fc ρ).bind fun z => lift (cmpD o' d2 z) else .ok (.bool false)) x2.fh q3
    obtain ⟨F4, _, x4, _, _, z4⟩ := z () F3 H3 x3 trivial
    revert q3
    cases hh : (if t = true then (fc ρ).bind fun z => lift (cmpD o' d2 z) else Res.ok (.bool false)) with
    | ok d9 => exact fun q3 v9 F9 H9 x9 r9 => q3 v9 F9 H9 (x3.trans x9) r9
    | exc c9 => exact fun q3 H9 k9 z9 => q3 H9 (x3.hh.trans k9) ⟨x3.ff.trans z9.sm, x2.fh.nt, z9.tb⟩
    | stuck => exact fun q3 => q3
  cases t with
  | false =>
    rw [if_neg (by decide)] at q4 ⊢
    exact q4 _ F3 H3 (.refl x3.fh) (.bl false)
  | true =>
    rw [if_pos rfl] at q4 ⊢
    exact ⟨ρ, F3, x3.fh, er3, (After.bind (R := Rp X.K) x3.fh q4).mono fun u4 H4 ⟨F4, d4, x4, r4, _, q5⟩ => ⟨F4, d2, d4, x4.fh, (ru.mono x3.ff).mono x4.ff, r4, q5.lift_⟩⟩
theorem chainE_D {o o' : Cm} {p1 p2 : CmpOp} (hu : X.A.units + 65 < cLine) (h1 : cmEq p1 o = true) (h2 : cmEq p2 o' = true) (ha : PE X a (tE T X.K W fa)) (hb : PE X b (tE T X.K W fb)) (hc : PE X c (tE T X.K W fc)) (hm : ∀ op, behindInMarks op c = false) :
    PE X (.Compare a [p1, p2] [b, c] p) (tE T X.K W fun ρ => (fa ρ).bind fun x => (fb ρ).bind fun y => (lift (cmpV o x y)).bind fun t => if t = true then (fc ρ).bind fun z => lift (cmpD o' y z) else .ok (.bool false)) := by
  have e := cmEq_of h1
  subst e
  have e := cmEq_of h2
  subst e
  exact PE.imp (pe_chain (cmp_D (T := T) hu o) (cmp_D (T := T) hu o') ha hb hc (hm _)) (chain_imp (o := o) (o' := o'))
/-! slices -/
theorem slA_D (ha : PE X a (tE T X.K W fa)) : PE X (.Subscript a (.Slice none none none q) p) (tE T X.K W fun ρ => (fa ρ).bind fun x => lift (slV x none none)) := by
  refine PE.imp (pe_slice (sl_D (T := T)) ha po_none po_none) fun σ H Q w => ?_
  obtain ⟨ρ, F, sf, er, q⟩ := w
  exact ⟨ρ, F, sf, er, (After.bind (R := Rp X.K) sf q).mono fun v H1 ⟨F1, d, x, rv, _, q1⟩ => ⟨F1, d, x.fh, rv, q1.lift_⟩⟩
theorem int_of {K : PySem.W.Frag} {F : Hp} {v : V} {d : D} {i : Int} (r : Rp K F v d) (h : intO d = some i) : v = .int i ∧ d = .int i := by
  cases r with
  | int j =>
    cases h
    exact ⟨rfl, rfl⟩
  | _ => cases h
theorem slL_D (ha : PE X a (tE T X.K W fa)) (hb : PE X b (tE T X.K W fb)) : PE X (.Subscript a (.Slice (some b) none none q) p) (tE T X.K W fun ρ => (fa ρ).bind fun x => (fb ρ).bind fun l => lift ((intO l).bind fun i => slV x (some i) none)) := by
  refine PE.imp (pe_slice (sl_D (T := T)) ha (po_some hb) po_none) fun σ H Q w => ?_
  obtain ⟨ρ, F, sf, er, q⟩ := w
  refine ⟨ρ, F, sf, er, (After.bind (R := Rp X.K) sf q).mono fun v H1 ⟨F1, d, x, rv, _, q1⟩ => ⟨ρ, F1, x.fh, er.mono x.ff, (After.bind (R := Rp X.K) x.fh q1).mono fun u H2 ⟨F2, d2, x2, ru, _, q2⟩ => ?_⟩⟩
  obtain ⟨i, e, q3⟩ := AftV.bindO (T := T) q2.lift_
  exact ⟨i, (int_of ru e).1, F2, d, x2.fh, rv.mono x2.ff, q3⟩
theorem slU_D (ha : PE X a (tE T X.K W fa)) (hb : PE X b (tE T X.K W fb)) : PE X (.Subscript a (.Slice none (some b) none q) p) (tE T X.K W fun ρ => (fa ρ).bind fun x => (fb ρ).bind fun l => lift ((intO l).bind fun i => slV x none (some i))) := by
  refine PE.imp (pe_slice (sl_D (T := T)) ha po_none (po_some hb)) fun σ H Q w => ?_
  obtain ⟨ρ, F, sf, er, q⟩ := w
  refine ⟨ρ, F, sf, er, (After.bind (R := Rp X.K) sf q).mono fun v H1 ⟨F1, d, x, rv, _, q1⟩ => ⟨ρ, F1, x.fh, er.mono x.ff, (After.bind (R := Rp X.K) x.fh q1).mono fun u H2 ⟨F2, d2, x2, ru, _, q2⟩ => ?_⟩⟩
  obtain ⟨i, e, q3⟩ := AftV.bindO (T := T) q2.lift_
  exact ⟨i, (int_of ru e).1, F2, d, x2.fh, rv.mono x2.ff, q3⟩
theorem slB_D (ha : PE X a (tE T X.K W fa)) (hb : PE X b (tE T X.K W fb)) (hc : PE X c (tE T X.K W fc)) :
    PE X (.Subscript a (.Slice (some b) (some c) none q) p) (tE T X.K W fun ρ => (fa ρ).bind fun x => (fb ρ).bind fun l => (lift (intO l)).bind fun i => (fc ρ).bind fun h => lift ((intO h).bind fun j => slV x (some i) (some j))) := by
  refine PE.imp (pe_slice (sl_D (T := T)) ha (po_some hb) (po_some hc)) fun σ H Q w => ?_
  obtain ⟨ρ, F, sf, er, q⟩ := w
  refine ⟨ρ, F, sf, er, (After.bind (R := Rp X.K) sf q).mono fun v H1 ⟨F1, d, x, rv, _, q1⟩ => ⟨ρ, F1, x.fh, er.mono x.ff, (After.bind (R := Rp X.K) x.fh q1).mono fun u H2 ⟨F2, d2, x2, ru, _, q2⟩ => ?_⟩⟩
  obtain ⟨i, e, q3⟩ := q2.bind_o
  refine ⟨i, (int_of ru e).1, ρ, F2, x2.fh, (er.mono x.ff).mono x2.ff, (After.bind (R := Rp X.K) x2.fh q3).mono fun u3 H3 ⟨F3, d3, x3, r3, _, q4⟩ => ?_⟩
  obtain ⟨j, e2, q5⟩ := AftV.bindO (T := T) q4.lift_
  exact ⟨j, (int_of r3 e2).1, F3, d, x3.fh, (rv.mono x2.ff).mono x3.ff, q5⟩
/-! built-ins, calls -/
theorem pr_name_blt (r : Pr) : r.name ∈ blts := by cases r <;> decide +kernel
theorem any_back (pos : Pos) (l : List (Bool × Sem Value)) : (backTo pos l).any (·.1) = l.any (·.1) := by
  unfold backTo
  rw [List.any_map]
  rfl
theorem callB_imp {f : List D → Option D} (σ : L2.St) (H : Hp) (Q : VK) (w : tE T X.K W (fun ρ => (fs ρ).bind fun ds => lift (f ds)) σ H Q) : tCB (rL T X.K f) (tAs T X.K W fs) σ H Q := by
  obtain ⟨ρ, F, sf, er, q⟩ := w
  exact ⟨ρ, F, sf, er, (After.bind (R := RpA X.K) sf q).mono fun vs H1 ⟨F1, ds, x, rv, _, q1⟩ => ⟨F1, ds, x.fh, rv, q1.lift_⟩⟩
theorem prE_D {r : Pr} {px : Pos} (hc : X.calm = true) (hg : Gl X r.name) (hm : X.mg r.name = none) (ha : PA X (a :: es) (tAs T X.K W fs)) (hdb : (r.name == ("__debug__" : Str)) = false) (hn : r.name ≠ "__name__") (hs : starEach (a :: es) X.env = (false, eval a X.env) :: starEach es X.env) (hpl : (starEach es X.env).any (·.1) = false) :
    PE X (.Call (.Name r.name px) (a :: es) [] p) (tE T X.K W fun ρ => (fs ρ).bind fun ds => lift (prV r ds)) := by
  have h := pr_D (T := T) hc r
  have hb := r.boot
  unfold Pr.val at h hb
  cases ht : r.isTy with
  | none =>
    rw [ht] at h hb
    exact PE.imp (pe_callB h hg hm hb ha hn hdb hs (by rw [any_back]; exact hpl)) callB_imp
  | some ty =>
    rw [ht] at h hb
    exact PE.imp (pe_callTy h hg hm hb ha hn hdb hs (by rw [any_back]; exact hpl)) callB_imp
theorem boot_sorted : bootBuiltins "sorted" = some (.builtin "sorted") := by decide +kernel
theorem boot_max : bootBuiltins "max" = some (.builtin "max") := by decide +kernel
theorem boot_isi : bootBuiltins "isinstance" = some (.builtin "isinstance") := by decide +kernel
theorem srtE_D {px : Pos} (hg : Gl X "sorted") (hm : X.mg "sorted" = none) (ha : PA X [a] (tAs T X.K W fs)) (hs : starEach [a] X.env = [(false, eval a X.env)]) :
    PE X (.Call (.Name "sorted" px) [a] [] p) (tE T X.K W fun ρ => (fs ρ).bind fun ds => lift (srtV ds)) :=
  PE.imp (pe_callB (sorted_D (T := T)) hg hm boot_sorted ha (by decide) (by decide) hs (by rw [any_back]; rfl)) callB_imp
theorem call_D {Γ : Fns} {x : Str} {n : Nat} {φ : List D → Res D} {px : Pos} (tk : Takes X W) (hF : FnAt X T x n φ) (hg : Gl X x) (hdb : (x == ("__debug__" : Str)) = false) (ha : PA X (a :: es) (tAs T X.K W fs)) (hs : starEach (a :: es) X.env = (false, eval a X.env) :: starEach es X.env) (hpl : (starEach es X.env).any (·.1) = false) :
    PE X (.Call (.Name x px) (a :: es) [] p) (tE T X.K W fun ρ => (fs ρ).bind fun ds => if ds.length = n then φ ds else .stuck) := by
  obtain ⟨k, f, fd, ps, F, hr, hm, hk, hb⟩ := hF.at_
  refine PE.imp (pe_callS (E := WE W) F hr hg hm hk hb (fun σ => passAt tk σ) ha hdb hs (by rw [any_back]; exact hpl)) fun σ H Q w => ?_
  obtain ⟨ρ, F, sf, er, q⟩ := w
  refine ⟨ρ, F, sf, er, (After.bind (R := RpA X.K) sf q).mono fun vs H1 ⟨F1, ds, x, rv, _, q1⟩ => ?_⟩
  by_cases hn : ds.length = n
  · rw [if_pos hn] at q1
    refine ⟨F1, ds, x.fh, rv, hn, ?_⟩
    cases hφ : φ ds with
    | ok d =>
      rw [hφ] at q1
      exact q1
    | exc c =>
      rw [hφ] at q1
      exact q1
    | stuck =>
      rw [hφ] at q1
      exact q1
  · rw [if_neg hn] at q1
    exact q1.elim
/-! max(.., default=..) -/
theorem reads_ints {h : Heap} : ∀ {us : List Value} {ns : List Int}, PyProof.Rows.IntsAre us ns → ∃ as, ReadsAll h us (ns.map .int) as
  | _, _, .nil => ⟨_, .nil⟩
  | _, _, .cons n t r => by
    obtain ⟨as, q⟩ := reads_ints r
    exact ⟨_, .cons (.int n t) q⟩
theorem alike_ints (ns : List Int) : PySem.W.AlikeAll (ns.map .int) := by
  refine ⟨fun x hx y hy => ?_, fun x hx => ?_⟩
  · obtain ⟨i, _, rfl⟩ := List.mem_map.mp hx
    obtain ⟨j, _, rfl⟩ := List.mem_map.mp hy
    rfl
  · obtain ⟨i, _, rfl⟩ := List.mem_map.mp hx
    exact fun z => nomatch z
theorem depth_ints : ∀ ns : List Int, PyData.depthAll (ns.map .int) = 0
  | [] => rfl
  | n :: ns => by
    show max (PyData.depth (.int n)) (PyData.depthAll (ns.map .int)) = 0
    rw [depth_ints ns]
    rfl
theorem maxL_fold : ∀ (ns : List Int) (n : Int), ns.foldl max n = maxL n ns
  | [], n => rfl
  | k :: ns, n => by
    show ns.foldl max (max n k) = _
    rw [maxL_fold ns]
    show _ = maxL (if _ then _ else _) ns
    congr 1
    show max n k = _
    split <;> omega
def rMxD (T : Tbl) (K : PySem.W.Frag) : List V → List V → Hp → VK → Prop := fun vs zs H Q => ∃ F x z d e, Fz T F H ∧ vs = [x] ∧ zs = [z] ∧ Rp K F x d ∧ Rp K F z e ∧ AftV T K (mxV d e) F H Q
theorem max_D (hc : X.calm = true) (hu : X.A.units + 65 < cLine) : CallRK X (.builtin "max") [Str.ofString "default"] (rMxD T X.K) := by
  intro pins s σ H vs zs us ws Q I r rz h
  obtain ⟨F, x, z, d, e, sf, rfl, rfl, rd, re, q⟩ := h
  obtain ⟨u, rfl, ru⟩ := vals1 r
  obtain ⟨w, rfl, rw_⟩ := vals1 rz
  cases rd with
  | lst ha ra =>
    obtain ⟨ns, hn, q⟩ := AftV.map (T := T) q
    obtain ⟨hz, its, n, rv, hob⟩ := I.hok _ _ (sf _ _ ha)
    obtain rfl : u = _ := ru
    have ev : _ = _ := ints_of ra hn
    subst ev
    have hi := Vals.ints rv
    obtain ⟨as, hr⟩ := reads_ints (h := s.heap) hi
    refine PySem.W.max_list_default (xs := ns.map .int) (as := as) (I.ok.hd hc) (vs := its.toArray) ⟨_, hob, rfl, n, rfl⟩ (by rw [show its.toArray.toList = its by simp]; exact hr) (alike_ints ns) (by rw [depth_ints]; omega) (fun h0 h' tk k => ?_) fun y ys i v h' tk bs hy hv hrd k => ?_
    · cases ns with
      | nil => exact ⟨z, H, I.kept k, rw_, AftV.now q sf re⟩
      | cons a b => cases h0
    · cases ns with
      | nil => cases hy
      | cons a b =>
        rw [List.map_cons] at hy
        obtain ⟨e1, e2⟩ := List.cons.inj hy
        subst e1 e2
        rw [PySem.W.maxD_ints] at hrd
        cases hrd with
        | int j t =>
          rw [maxL_fold]
          exact ⟨.int _, H, I.kept k, ⟨_, rfl⟩, AftV.now q sf (.int _)⟩
  | _ => exact q.elim
end
end Tl
set_option maxHeartbeats 4000000
namespace Tl
open PySem PySem.Spec L2
section
variable {X : Cx} {W : WX} {T : Tbl} {e a b c : Expr} {es : List Expr} {fa fb fc : Env0D → Res D} {fs : Env0D → Res (List D)} {p q px : Pos}
theorem maxE_D {pk : Pos} (hc : X.calm = true) (hu : X.A.units + 65 < cLine) (hg : Gl X "max") (hm : X.mg "max" = none) (ha : PE X a (tE T X.K W fa)) (hb : PE X b (tE T X.K W fb)) (hs : starEach [a] X.env = [(false, eval a X.env)]) :
    PE X (.Call (.Name "max" px) [a] [⟨some "default", b, pk⟩] p) (tE T X.K W fun ρ => (fa ρ).bind fun x => (fb ρ).bind fun y => lift (mxV x y)) := by
  refine PE.imp (pe_callBK (ks := [Str.ofString "default"]) (max_D (T := T) hc hu) hg hm boot_max (pa_cons ha pa_nil hs) (pk_cons hb pk_nil) (by decide) (by decide) (by rw [hs]; rfl) (by rw [hs]; rfl) rfl rfl rfl) fun σ H Q w => ?_
  obtain ⟨ρ, F, sf, er, q⟩ := w
  refine ⟨ρ, F, sf, er, (After.bind (R := Rp X.K) sf q).mono fun v H1 ⟨F1, d, x, rv, _, q1⟩ => ?_⟩
  refine ⟨ρ, F1, x.fh, er.mono x.ff, (After.bind (R := Rp X.K) x.fh q1).mono fun u H2 ⟨F2, d2, x2, ru, _, q2⟩ => ?_⟩
  exact ⟨F2, v, u, d, d2, x2.fh, rfl, rfl, rv.mono x2.ff, ru, q2.lift_⟩
/-! and, or, not, .. if .. -/
theorem tru_imp {σ : L2.St} {F H : Hp} {β : Type} {R : Hp → β → D → Prop} {d : D} {f : Bool → Res D} {Q : β → Hp → Prop} (h : After T X.K W σ R ((lift (truV d)).bind f) F H Q) {v : V} (sf : Fz T F H) (rv : Rp X.K F v d) : ∃ k, TruV X.K v H k ∧ After T X.K W σ R (f k) F H Q := by
  obtain ⟨k, e, q⟩ := h.bind_o
  exact ⟨k, tru_of (T := T) sf rv e, q⟩
theorem and_D {rest : List Expr} (ha : PE X a (tE T X.K W fa)) (hb : PE X (.BoolOp .And (b :: rest) p) (tE T X.K W fb)) :
    PE X (.BoolOp .And (a :: b :: rest) p) (tE T X.K W fun ρ => (fa ρ).bind fun d => (lift (truV d)).bind fun t => if t = true then fb ρ else .ok d) := by
  refine PE.imp (pe_andT ha hb) fun σ H Q w => ?_
  obtain ⟨ρ, F, sf, er, q⟩ := w
  refine ⟨ρ, F, sf, er, (After.bind (R := Rp X.K) sf q).mono fun v H1 ⟨F1, d, x, rv, _, q1⟩ => ?_⟩
  obtain ⟨k, tv, q2⟩ := tru_imp q1 x.fh rv
  refine ⟨k, tv, ?_⟩
  cases k with
  | true =>
    rw [if_pos rfl] at q2 ⊢
    exact ⟨ρ, F1, x.fh, er.mono x.ff, q2⟩
  | false =>
    rw [if_neg (by decide)] at q2 ⊢
    exact q2 v F1 H1 (.refl x.fh) rv
theorem or_D {rest : List Expr} (ha : PE X a (tE T X.K W fa)) (hb : PE X (.BoolOp .Or (b :: rest) p) (tE T X.K W fb)) :
    PE X (.BoolOp .Or (a :: b :: rest) p) (tE T X.K W fun ρ => (fa ρ).bind fun d => (lift (truV d)).bind fun t => if t = true then .ok d else fb ρ) := by
  refine PE.imp (pe_orT ha hb) fun σ H Q w => ?_
  obtain ⟨ρ, F, sf, er, q⟩ := w
  refine ⟨ρ, F, sf, er, (After.bind (R := Rp X.K) sf q).mono fun v H1 ⟨F1, d, x, rv, _, q1⟩ => ?_⟩
  obtain ⟨k, tv, q2⟩ := tru_imp q1 x.fh rv
  refine ⟨k, tv, ?_⟩
  cases k with
  | false =>
    rw [if_neg (by decide)] at q2 ⊢
    exact ⟨ρ, F1, x.fh, er.mono x.ff, q2⟩
  | true =>
    rw [if_pos rfl] at q2 ⊢
    exact q2 v F1 H1 (.refl x.fh) rv
theorem not_D (ha : PE X a (tE T X.K W fa)) : PE X (.UnaryOp .Not a p) (tE T X.K W fun ρ => rB (fa ρ) fun b => .ok (.bool (!b))) := by
  refine PE.imp (pe_notT ha) fun σ H Q w => ?_
  obtain ⟨ρ, F, sf, er, q⟩ := w
  refine ⟨ρ, F, sf, er, (After.bind (R := Rp X.K) sf q).mono fun v H1 ⟨F1, d, x, rv, _, q1⟩ => ?_⟩
  obtain ⟨k, tv, q2⟩ := tru_imp q1 x.fh rv
  exact ⟨k, tv, q2 _ F1 H1 (.refl x.fh) (.bl _)⟩
/-- what a test wants -/
abbrev tT (T : Tbl) (K : PySem.W.Frag) (W : WX) (f : Env0D → Res D) : TT := tTs T K W fun ρ => (f ρ).bind fun d => lift (truV d)
theorem rB_eq (r : Res D) (f : Bool → Res D) : rB r f = (r.bind fun d => lift (truV d)).bind f := by cases r <;> rfl
theorem ite_D (hc : PT X c (tT T X.K W fc)) (ha : PE X a (tE T X.K W fa)) (hb : PE X b (tE T X.K W fb)) : PE X (.IfExp c a b p) (tE T X.K W fun ρ => rB (fc ρ) fun t => if t = true then fa ρ else fb ρ) := by
  refine PE.imp (pe_ifExp hc ha hb) fun σ H Q w => ?_
  obtain ⟨ρ, F, sf, er, q⟩ := w
  dsimp only at q
  rw [rB_eq] at q
  refine ⟨ρ, F, sf, er, (After.bind (R := fun _ (b c : Bool) => b = c) sf q).mono fun k H1 ⟨F1, k2, x, rv, _, q1⟩ => ?_⟩
  subst rv
  cases k with
  | true =>
    rw [if_pos rfl] at q1 ⊢
    exact ⟨ρ, F1, x.fh, er.mono x.ff, q1⟩
  | false =>
    rw [if_neg (by decide)] at q1 ⊢
    exact ⟨ρ, F1, x.fh, er.mono x.ff, q1⟩
/-! tests -/
theorem bl_imp {σ : L2.St} {H : Hp} {f : Env0D → Res D} {t : TE} {Q : Bool → Hp → Prop} (h : ∀ Q', tE T X.K W f σ H Q' → t σ H Q') (hb : ∀ ρ d, f ρ = .ok d → ∃ k, d = .bool k) (w : tT T X.K W f σ H Q) : tTest t σ H Q := by
  refine h _ ?_
  obtain ⟨ρ, F, sf, er, q⟩ := w
  refine ⟨ρ, F, sf, er, (After.bind (R := Rp X.K) sf q).mono fun v H1 ⟨F1, d, x, rv, e, q1⟩ => ?_⟩
  obtain ⟨k, rfl⟩ := hb ρ d e
  cases rv
  exact ⟨k, rfl, q1 k F1 H1 (.refl x.fh) rfl⟩
theorem cmpD_bl {o : Cm} {x y d : D} (h : cmpD o x y = some d) : ∃ k, d = .bool k := by
  unfold cmpD at h
  cases q : cmpV o x y with
  | none => rw [q] at h; cases h
  | some b => rw [q] at h; exact ⟨b, (Option.some.inj h).symm⟩
theorem Res.bind_inv {α β : Type} {r : Res α} {f : α → Res β} {y : β} (h : r.bind f = .ok y) : ∃ x, r = .ok x ∧ f x = .ok y := by
  cases r with
  | ok x => exact ⟨x, rfl, h⟩
  | exc c => cases h
  | stuck => cases h
theorem lift_inv {α : Type} {o : Option α} {y : α} (h : lift o = .ok y) : o = some y := by
  cases o with
  | none => cases h
  | some a => cases h; rfl
theorem cmpT_D {o : Cm} {o' : CmpOp} (hu : X.A.units + 65 < cLine) (ho : cmEq o' o = true) (ha : PE X a (tE T X.K W fa)) (hb : PE X b (tE T X.K W fb)) (hm : ∀ op, behindInMarks op b = false) : PT X (.Compare a [o'] [b] p) (tT T X.K W fun ρ => (fa ρ).bind fun x => (fb ρ).bind fun y => lift (cmpD o x y)) := by
  have e := cmEq_of ho
  subst e
  refine PT.imp (pt_cmpR (cmp_D (T := T) hu o) ha hb (hm _)) fun σ H Q w => bl_imp (fun Q' => op2_D (fun _ _ _ h => h) σ H Q') (fun ρ d h => ?_) w
  obtain ⟨x, _, h⟩ := Res.bind_inv h
  obtain ⟨y, _, h⟩ := Res.bind_inv h
  exact cmpD_bl (lift_inv h)
theorem chainT_D {o o' : Cm} {p1 p2 : CmpOp} (hu : X.A.units + 65 < cLine) (h1 : cmEq p1 o = true) (h2 : cmEq p2 o' = true) (ha : PE X a (tE T X.K W fa)) (hb : PE X b (tE T X.K W fb)) (hc : PE X c (tE T X.K W fc)) (hm : ∀ op, behindInMarks op c = false) :
    PT X (.Compare a [p1, p2] [b, c] p) (tT T X.K W fun ρ => (fa ρ).bind fun x => (fb ρ).bind fun y => (lift (cmpV o x y)).bind fun t => if t = true then (fc ρ).bind fun z => lift (cmpD o' y z) else .ok (.bool false)) := by
  have e := cmEq_of h1
  subst e
  have e := cmEq_of h2
  subst e
  refine PT.imp (pt_chain (cmp_D (T := T) hu o) (cmp_D (T := T) hu o') ha hb hc (hm _)) fun σ H Q w => bl_imp (fun Q' => chain_imp (o := o) (o' := o') (fa := fa) (fb := fb) (fc := fc) σ H Q') (fun ρ d h => ?_) w
  obtain ⟨x, _, h⟩ := Res.bind_inv h
  obtain ⟨y, _, h⟩ := Res.bind_inv h
  obtain ⟨t, _, h⟩ := Res.bind_inv h
  cases t with
  | true =>
    rw [if_pos rfl] at h
    obtain ⟨z, _, h⟩ := Res.bind_inv h
    exact cmpD_bl (lift_inv h)
  | false =>
    rw [if_neg (by decide)] at h
    cases h
    exact ⟨false, rfl⟩
theorem notT_D (ha : PT X a (tT T X.K W fa)) : PT X (.UnaryOp .Not a p) (tT T X.K W fun ρ => rB (fa ρ) fun b => .ok (.bool (!b))) := by
  refine PT.imp (pt_not ha) fun σ H Q w => ?_
  obtain ⟨ρ, F, sf, er, q⟩ := w
  dsimp only at q
  rw [rB_eq] at q
  refine ⟨ρ, F, sf, er, ?_⟩
  show After T X.K W σ (fun _ (b c : Bool) => b = c) ((fa ρ).bind fun d => lift (truV d)) F H fun c H1 => Q (!c) H1
  cases hr : (fa ρ).bind fun d => lift (truV d) with
  | ok k =>
    rw [hr] at q
    intro v F' H' x e
    subst e
    exact q (!v) F' H' x rfl
  | exc c => rw [hr] at q; exact q
  | stuck => rw [hr] at q; exact q
theorem andT_eq (r : Res D) (s : Res D) : ((r.bind fun d => (lift (truV d)).bind fun t => if t = true then s else .ok d).bind fun d => lift (truV d)) = (r.bind fun d => lift (truV d)).bind fun t => if t = true then s.bind fun d => lift (truV d) else .ok false := by
  cases r with
  | ok d =>
    cases h : truV d with
    | none => simp [h, lift, Res.bind]
    | some k => cases k <;> simp [h, lift, Res.bind]
  | exc c => rfl
  | stuck => rfl
theorem orT_eq (r : Res D) (s : Res D) : ((r.bind fun d => (lift (truV d)).bind fun t => if t = true then .ok d else s).bind fun d => lift (truV d)) = (r.bind fun d => lift (truV d)).bind fun t => if t = true then .ok true else s.bind fun d => lift (truV d) := by
  cases r with
  | ok d =>
    cases h : truV d with
    | none => simp [h, lift, Res.bind]
    | some k => cases k <;> simp [h, lift, Res.bind]
  | exc c => rfl
  | stuck => rfl
theorem andT_D {rest : List Expr} (ha : PT X a (tT T X.K W fa)) (hb : PW X (.BoolOp .And (b :: rest) p) (tT T X.K W fb)) : PW X (.BoolOp .And (a :: b :: rest) p) (tT T X.K W fun ρ => (fa ρ).bind fun d => (lift (truV d)).bind fun t => if t = true then fb ρ else .ok d) := by
  refine ⟨fun wh pins s σ H Q I w => (pw_and ha hb).run wh pins s σ H Q I ?_⟩
  obtain ⟨ρ, F, sf, er, q⟩ := w
  dsimp only at q
  rw [andT_eq] at q
  refine ⟨ρ, F, sf, er, (After.bind (R := fun _ (b c : Bool) => b = c) sf q).mono fun k H1 ⟨F1, k2, x, rv, _, q1⟩ => ?_⟩
  subst rv
  cases k with
  | true =>
    rw [if_pos rfl] at q1 ⊢
    exact ⟨ρ, F1, x.fh, er.mono x.ff, q1⟩
  | false =>
    rw [if_neg (by decide)] at q1 ⊢
    exact q1 false F1 H1 (.refl x.fh) rfl
theorem orT_D {rest : List Expr} (ha : PT X a (tT T X.K W fa)) (hb : PW X (.BoolOp .Or (b :: rest) p) (tT T X.K W fb)) : PW X (.BoolOp .Or (a :: b :: rest) p) (tT T X.K W fun ρ => (fa ρ).bind fun d => (lift (truV d)).bind fun t => if t = true then .ok d else fb ρ) := by
  refine ⟨fun wh pins s σ H Q I w => (pw_or ha hb).run wh pins s σ H Q I ?_⟩
  obtain ⟨ρ, F, sf, er, q⟩ := w
  dsimp only at q
  rw [orT_eq] at q
  refine ⟨ρ, F, sf, er, (After.bind (R := fun _ (b c : Bool) => b = c) sf q).mono fun k H1 ⟨F1, k2, x, rv, _, q1⟩ => ?_⟩
  subst rv
  cases k with
  | false =>
    rw [if_neg (by decide)] at q1 ⊢
    exact ⟨ρ, F1, x.fh, er.mono x.ff, q1⟩
  | true =>
    rw [if_pos rfl] at q1 ⊢
    exact q1 true F1 H1 (.refl x.fh) rfl
/-! isinstance -/
def Ty.s : Ty → String
  | .tuple => "tuple"
  | .list => "list"
  | .int => "int"
  | .str => "str"
  | .bool => "bool"
theorem ty_blt (t : Ty) : t.name ∈ blts := by cases t <;> decide +kernel
theorem ty_boot (t : Ty) : bootBuiltins t.name = some (.type t.s) := by cases t <;> decide +kernel
theorem ty_dbg (t : Ty) : (t.name == ("__debug__" : Str)) = false := by cases t <;> decide
theorem ty_nm (t : Ty) : t.name ≠ "__name__" := by cases t <;> decide
def dTy : D → Option String
  | .none => some "NoneType"
  | .bool _ => some "bool"
  | .int _ => some "int"
  | .str _ => some "str"
  | .list _ => some "list"
  | .tuple _ => some "tuple"
  | .dict _ => none
theorem tyX_of {K : PySem.W.Frag} {F H : Hp} {v : V} {d : D} {n : String} (sf : Fz T F H) (r : Rp K F v d) (h : dTy d = some n) : TyX K H v (.type n) := by
  cases r with
  | non => cases h; exact .base .non
  | bl b => cases h; exact .base (.bl b)
  | int i => cases h; exact .base (.int i)
  | str x => cases h; exact .base (.str x)
  | lst ha _ => cases h; exact .base (.lst (sf _ _ ha))
  | tup ha _ => cases h; exact .base (.tup (sf _ _ ha))
  | scr _ => cases h
theorem kit_one (K : PySem.W.Frag) (t : Ty) {d : D} {n : String} {b : Bool} (h : dTy d = some n) (hb : t.of d = some b) : PySem.W.kitOne K (.type n) (.type t.s) = some b := by
  cases d <;> cases h <;> cases t <;> cases hb <;> rfl
end
end Tl
set_option maxHeartbeats 4000000
namespace Tl
open PySem PySem.Spec L2
/-! ### more of heaps -/
theorem Fz.junk {T : Tbl} {F H : Hp} {p : Addr} {o : HO} (z : Fz T F H) (h : H p = none) : Fz T F (upd H p o) where
  sm := fun b x e => (same_upd h) b x (z.sm b x e)
  nt := z.nt
  tb := z.tb.ext (same_upd h)
theorem Ex.junk {T : Tbl} {F H F1 H1 : Hp} {p : Addr} {o : HO} (x : Ex T F H F1 H1) (h : H1 p = none) : Ex T F H F1 (upd H1 p o) where
  hh := x.hh.trans (LamX.ExtN.of (same_upd h))
  ff := x.ff
  fh := x.fh.junk h
  nw := x.nw
theorem Ex.freeze {T : Tbl} {F H F1 H1 : Hp} {p : Addr} {o : HO} (x : Ex T F H F1 H1) (h : H p = none) (h1 : H1 p = some o) (ho : ∀ ps, o ≠ .tbl ps) (hf : F1 p = none) : Ex T F H (upd F1 p o) H1 where
  hh := x.hh
  ff := x.ff.trans (same_upd hf)
  fh := ⟨fun b u e => by
    by_cases hb : b = p
    · subst hb
      rw [upd_same] at e
      cases e
      exact h1
    · rw [upd_ne hb] at e
      exact x.fh.sm _ _ e, fun b ps e => by
    by_cases hb : b = p
    · subst hb
      rw [upd_same] at e
      exact ho ps (Option.some.inj e)
    · rw [upd_ne hb] at e
      exact x.fh.nt _ _ e, x.fh.tb⟩
  nw := fun b u e => by
    by_cases hb : b = p
    · subst hb
      exact .inr (.of h)
    · rw [upd_ne hb] at e
      exact x.nw _ _ e
theorem tabs_wr {T : Tbl} {H : Hp} {p : Addr} {xs ys : List V} (t : LamX.Tabs T H) (h : H p = some (.lst xs)) : LamX.Tabs T (upd H p (.lst ys)) := fun q hq => by
  obtain ⟨ps, h1, h2, h3⟩ := t q hq
  refine ⟨ps, ?_, h2, fun pos cv hc => ?_⟩
  · rw [upd_ne (fun z => by rw [z, h] at h1; cases h1)]
    exact h1
  · obtain ⟨c, e1, e2⟩ := h3 pos cv hc
    refine ⟨c, e1, ?_⟩
    rw [upd_ne (fun z => by rw [z, h] at e2; cases e2)]
    exact e2
theorem Fz.wr {T : Tbl} {F H : Hp} {p : Addr} {xs ys : List V} (z : Fz T F H) (h : H p = some (.lst xs)) (hf : F p = none) : Fz T F (upd H p (.lst ys)) where
  sm := fun b u e => by
    rw [upd_ne (ne_of_none e hf)]
    exact z.sm _ _ e
  nt := z.nt
  tb := tabs_wr z.tb h
theorem Ex.wr {T : Tbl} {F H F1 H1 : Hp} {p : Addr} {xs ys : List V} (x : Ex T F H F1 H1) (h : H p = none) (h1 : H1 p = some (.lst xs)) (hf : F1 p = none) : Ex T F H F1 (upd H1 p (.lst ys)) where
  hh := fun b o e n => by
    rw [upd_ne (ne_of_none e h)]
    exact x.hh b o e n
  ff := x.ff
  fh := x.fh.wr h1 hf
  nw := x.nw
/-- what was not frozen, though it stood there, is not -/
theorem Ex.nof {T : Tbl} {F H F1 H1 : Hp} {p : Addr} {o : HO} (x : Ex T F H F1 H1) (h : H p = some o) (hf : F p = none) (ho : ∀ ps, o ≠ .tbl ps := by intro _ z; cases z) : F1 p = none := by
  cases e : F1 p with
  | none => rfl
  | some u =>
    rcases x.nw p u e with z | z
    · rw [hf] at z; cases z
    · obtain ⟨ps, e⟩ := z _ h
      exact absurd e (ho ps)
section
variable {X : Cx} {W : WX} {T : Tbl} {e a b c : Expr} {es : List Expr} {fa fb fc : Env0D → Res D} {fs : Env0D → Res (List D)} {p q px : Pos}
theorem isiE_D {t : Ty} {py : Pos} (hg : Gl X "isinstance") (hm : X.mg "isinstance" = none) (hg2 : Gl X t.name) (hm2 : X.mg t.name = none) (ha : PE X a (tE T X.K W fa)) (hs : ∀ es env, starEach (a :: es) env = (false, eval a env) :: starEach es env) :
    PE X (.Call (.Name "isinstance" px) [a, .Name t.name py] [] p) (tE T X.K W fun ρ => (fa ρ).bind fun d => lift ((t.of d).map .bool)) := by
  refine PE.imp (pe_callB call_isi hg hm boot_isi (pa_cons ha (pa_cons (pe_bltn (v := V.ty t.s) hg2 hm2 (ty_boot t) rfl (ty_nm t) (ty_dbg t)) pa_nil rfl) (hs _ _)) (by decide) (by decide) (hs _ _) rfl) fun σ H Q w => ?_
  obtain ⟨ρ, F, sf, er, q⟩ := w
  refine ⟨ρ, F, sf, er, (After.bind (R := Rp X.K) sf q).mono fun v H1 ⟨F1, d, x, rv, _, q1⟩ => ?_⟩
  obtain ⟨k, hk, q2⟩ := AftV.map (T := T) q1.lift_
  obtain ⟨n, hn⟩ : ∃ n, dTy d = some n := by
    cases d with
    | dict kvs => cases t <;> cases hk
    | _ => exact ⟨_, rfl⟩
  exact ⟨v, .ty t.s, .type n, .type t.s, k, rfl, .ty _, tyX_of (T := T) x.fh rv hn, kit_one _ t hn hk, AftV.bl q2 x.fh⟩
theorem isi2E_D {t u : Ty} {py pz pt : Pos} {k : Nat} (hg : Gl X "isinstance") (hm : X.mg "isinstance" = none) (hg2 : Gl X t.name) (hm2 : X.mg t.name = none) (hg3 : Gl X u.name) (hm3 : X.mg u.name = none) (ha : PE X a (tE T X.K W fa)) (hs : ∀ es env, starEach (a :: es) env = (false, eval a env) :: starEach es env) :
    PE X (.Call (.Name "isinstance" px) [a, .Tuple [.Name t.name py, .Name u.name pz] k pt] [] p) (tE T X.K W fun ρ => (fa ρ).bind fun d => lift ((t.of d).bind fun b => (u.of d).map fun c => .bool (b || c))) := by
  refine PE.imp (pe_callB call_isiT hg hm boot_isi (pa_cons ha (pa_cons (pe_tup (pa_cons (pe_bltn (v := V.ty t.s) hg2 hm2 (ty_boot t) rfl (ty_nm t) (ty_dbg t)) (pa_cons (pe_bltn (v := V.ty u.s) hg3 hm3 (ty_boot u) rfl (ty_nm u) (ty_dbg u)) pa_nil rfl) rfl)) pa_nil rfl) (hs _ _)) (by decide) (by decide) (hs _ _) rfl) fun σ H Q w => ?_
  obtain ⟨ρ, F, sf, er, q⟩ := w
  refine ⟨ρ, F, sf, er, (After.bind (R := Rp X.K) sf q).mono fun v H1 ⟨F1, d, x, rv, _, q1⟩ => ?_⟩
  obtain ⟨k1, hk1, q2⟩ := AftV.bindO (T := T) q1.lift_
  obtain ⟨k2, hk2, q3⟩ := AftV.map (T := T) q2
  obtain ⟨n, hn⟩ : ∃ n, dTy d = some n := by
    cases d with
    | dict kvs => cases t <;> cases hk1
    | _ => exact ⟨_, rfl⟩
  refine ⟨by show 2 ≤ sizeLine; rw [sizeLine_eq]; omega, fun pp np => ⟨v, pp, [.ty t.s, .ty u.s], .type n, [.type t.s, .type u.s], k1 || k2, rfl, upd_same, .cons (.ty _) (.cons (.ty _) .nil), tyX_of (T := T) (x.fh.junk np) rv hn, ?_, q3 _ F1 _ ((Ex.refl x.fh).junk np) (.bl _)⟩⟩
  have e1 := kit_one X.K t hn hk1
  have e2 := kit_one X.K u hn hk2
  unfold PySem.W.kitAny
  rw [e1]
  cases k1 with
  | true => rfl
  | false =>
    show PySem.W.kitAny X.K _ [_] = _
    unfold PySem.W.kitAny
    rw [e2]
    cases k2 <;> rfl
end
/-! ### targets -/
def tgG (K : PySem.W.Frag) : Tg → TG
  | .one i => gName i
  | .many is => gTup K is.length (is.foldr (fun i u => gCons (gName i) u) gNil)
theorem mNames_len {g : Cfg} : ∀ {is : List Nat} {es : List Expr}, mNames g is es = true → is.length = es.length
  | [], [], _ => rfl
  | [], _ :: _, h => by simp [mNames] at h
  | _ :: _, [], h => by simp [mNames] at h
  | i :: is, e :: es, h => by
    cases e <;> first | (exfalso; revert h; simp [mNames]; done) | skip
    rw [mNames, Bool.and_eq_true] at h
    rw [List.length_cons, List.length_cons, mNames_len h.2]
theorem names_star {g : Cfg} : ∀ {is : List Nat} {es : List Expr}, mNames g is es = true → ∀ env, assignEach es env = es.map fun e => (false, assign e env)
  | [], [], _, env => rfl
  | [], _ :: _, h, _ => by simp [mNames] at h
  | _ :: _, [], h, _ => by simp [mNames] at h
  | i :: is, e :: es, h, env => by
    cases e <;> first | (exfalso; revert h; simp [mNames]; done) | skip
    rw [mNames, Bool.and_eq_true] at h
    rw [List.map_cons, ← names_star h.2 env]
    rfl
section
variable {X : Cx} {W : WX} {T : Tbl} {Γ : Fns} {g : Cfg}
theorem Gd.loc (G : Gd X W T Γ g) {x : Str} (h : locOk g x = true) : Loc X.env.scope x := by
  rw [G.sc]
  unfold locOk at h
  unfold L2.Loc
  split at h <;> simp_all
theorem pgs_D (G : Gd X W T Γ g) : ∀ {is : List Nat} {es : List Expr}, mNames g is es = true → PGs X es (is.foldr (fun i u => gCons (gName i) u) gNil)
  | [], [], _ => pgs_nil
  | [], _ :: _, h => by simp [mNames] at h
  | _ :: _, [], h => by simp [mNames] at h
  | i :: is, e :: es, h => by
    cases e <;> first | (exfalso; revert h; simp [mNames]; done) | skip
    rw [mNames, Bool.and_eq_true, Bool.and_eq_true, decide_eq_true_eq] at h
    exact pgs_cons (pg_name G.nd (by rw [G.N]; exact h.1.1) (G.loc h.1.2) (G.fnT _ h.1.2)) (pgs_D G h.2) rfl
theorem pg_D (G : Gd X W T Γ g) {tg : Tg} {e : Expr} (h : mTg g tg e = true) : PG X e (tgG X.K tg) := by
  cases tg with
  | one i =>
    cases e <;> first | (exfalso; revert h; simp [mTg]; done) | skip
    rw [mTg, Bool.and_eq_true, decide_eq_true_eq] at h
    exact pg_name G.nd (by rw [G.N]; exact h.1) (G.loc h.2) (G.fnT _ h.2)
  | many is =>
    cases e <;> first | (exfalso; revert h; simp [mTg]; done) | skip
    rename_i es k p
    rw [mTg] at h
    refine pg_tup G.calm (pgs_D G h) ?_ ?_
    · rw [names_star h, List.length_map, mNames_len h]
    · rw [names_star h, List.findIdx?_map]
      rw [List.findIdx?_eq_none_iff]
      exact fun _ _ => rfl
end
theorem setMany_ok {K : PySem.W.Frag} {F H : Hp} {Q : L2.St → Hp → Prop} : ∀ {is : List Nat} {ds : List D} {vs : List V} {σ : L2.St} {ρ ρ1 : Env0D}, setMany is ds ρ = some ρ1 → RpA K F vs ds → ERel K F σ ρ →
    (∀ σ2, ERel K F σ2 ρ1 → σ2.length = σ.length → (∀ j, j ∉ is → σ2[j]? = σ[j]?) → Q σ2 H) → (is.foldr (fun i u => gCons (gName i) u) gNil) vs σ H Q
  | [], [], _, σ, ρ, ρ1, h, .nil, er, q => by
    cases h
    exact ⟨rfl, q σ er rfl fun _ _ => rfl⟩
  | [], _ :: _, _, _, _, _, h, _, _, _ => by cases h
  | _ :: _, [], _, _, _, _, h, _, _, _ => by cases h
  | i :: is, d :: ds, _, σ, ρ, ρ1, h, .cons r rs, er, q => by
    refine ⟨_, _, rfl, ?_⟩
    show (is.foldr (fun i u => gCons (gName i) u) gNil) _ (σ.set i (some _)) H Q
    refine setMany_ok (ρ := ρ.set i (some d)) h rs (er.set r) fun σ2 e2 l2 k2 => q σ2 e2 (by rw [l2, List.length_set]) fun j hj => ?_
    rw [k2 j fun z => hj (List.mem_cons_of_mem _ z), List.getElem?_set_ne (fun z => hj (by rw [z]; exact List.mem_cons_self))]
theorem tg_ok {K : PySem.W.Frag} {F H : Hp} {T : Tbl} {Q : L2.St → Hp → Prop} {tg : Tg} {d : D} {v : V} {σ : L2.St} {ρ ρ1 : Env0D} (h : tg.set d ρ = some ρ1) (sf : Fz T F H) (r : Rp K F v d) (er : ERel K F σ ρ)
    (q : ∀ σ2, ERel K F σ2 ρ1 → σ2.length = σ.length → (∀ j, j ∉ tg.slots → σ2[j]? = σ[j]?) → Q σ2 H) : tgG K tg v σ H Q := by
  cases tg with
  | one i =>
    cases h
    exact q _ (er.set r) (by rw [List.length_set]) fun j hj => List.getElem?_set_ne fun z => hj (by rw [z]; exact List.mem_cons_self)
  | many is =>
    cases r with
    | tup ha ra =>
      have hl : ∀ {is : List Nat} {ds : List D} {ρ ρ1 : Env0D}, setMany is ds ρ = some ρ1 → is.length = ds.length := by
        intro is
        induction is with
        | nil =>
          intro ds ρ ρ1 h
          cases ds with
          | nil => rfl
          | cons _ _ => cases h
        | cons i is ih =>
          intro ds ρ ρ1 h
          cases ds with
          | nil => cases h
          | cons d ds => rw [List.length_cons, List.length_cons, ih h]
      exact ⟨_, _, rfl, .of (sf _ _ ha), by rw [ra.length]; exact (hl h).symm, setMany_ok h ra er q⟩
    | _ => cases h
end Tl
set_option maxHeartbeats 4000000
namespace Tl
open PySem PySem.Spec L2
/-! ### comprehensions -/
theorem wipe_at {σ : L2.St} : ∀ {vs : List Nat} {j : Nat}, (wipe σ vs)[j]? = if j ∈ vs ∧ j < σ.length then some none else σ[j]?
  | [], j => by rw [if_neg (by simp)]; rfl
  | v :: vs, j => by
    show ((wipe σ vs).set v none)[j]? = _
    by_cases e : v = j
    · subst e
      by_cases h : v < σ.length
      · rw [List.getElem?_set_self (by rw [wipe_length]; exact h), if_pos ⟨List.mem_cons_self, h⟩]
      · rw [if_neg fun z => h z.2, List.getElem?_eq_none (by rw [List.length_set, wipe_length]; omega), List.getElem?_eq_none (by omega)]
    · rw [List.getElem?_set_ne e, wipe_at]
      by_cases h : j ∈ vs ∧ j < σ.length
      · rw [if_pos h, if_pos ⟨List.mem_cons_of_mem _ h.1, h.2⟩]
      · rw [if_neg h, if_neg fun z => h ⟨(List.mem_cons.mp z.1).resolve_left fun q => e q.symm, z.2⟩]
theorem erel_wipe {K : PySem.W.Frag} {F : Hp} {σ : L2.St} {ρ : Env0D} (e : ERel K F σ ρ) : ∀ vs : List Nat, ERel K F (wipe σ vs) (wipeD ρ vs)
  | [] => e
  | v :: vs => (erel_wipe e vs).wipe1
theorem wipe_same {σ σ2 : L2.St} {vs : List Nat} (hl : σ2.length = σ.length) (h : ∀ j, j ∉ vs → σ2[j]? = (wipe σ vs)[j]?) : wipe σ2 vs = wipe σ vs := by
  refine List.ext_getElem? fun j => ?_
  rw [wipe_at, wipe_at, hl]
  by_cases hj : j ∈ vs
  · by_cases h2 : j < σ.length
    · rw [if_pos ⟨hj, h2⟩, if_pos ⟨hj, h2⟩]
    · rw [if_neg fun z => h2 z.2, if_neg fun z => h2 z.2, List.getElem?_eq_none (by omega), List.getElem?_eq_none (by omega)]
  · have q := h j hj
    rw [wipe_at, if_neg fun z => hj z.1] at q
    rw [if_neg fun z => hj z.1, if_neg fun z => hj z.1, q]
theorem lcD_calm {f : D → Res (Option D)} (hf : ∀ d c, f d ≠ .exc c) : ∀ (ds : List D) (c : Str), lcD f ds ≠ .exc c
  | [], c, h => by cases h
  | d :: ds, c, h => by
    unfold lcD at h
    cases q : f d with
    | ok o =>
      rw [q] at h
      cases q2 : lcD f ds with
      | ok r => rw [q2] at h; cases h
      | exc c2 => exact lcD_calm hf ds c2 q2
      | stuck => rw [q2] at h; cases h
    | exc c2 => exact hf d c2 q
    | stuck => rw [q] at h; cases h
theorem lcD_cons {f : D → Res (Option D)} {d : D} {ds r : List D} (h : lcD f (d :: ds) = .ok r) : ∃ o r', f d = .ok o ∧ lcD f ds = .ok r' ∧ r = (match o with | some y => y :: r' | none => r') := by
  unfold lcD at h
  obtain ⟨o, h1, h⟩ := Res.bind_inv h
  obtain ⟨r', h2, h⟩ := Res.bind_inv h
  cases h
  exact ⟨o, r', h1, h2, rfl⟩
theorem Res.calm_inv {α : Type} {r : Res α} {y : α} (h : r.calm = .ok y) : r = .ok y := by
  cases r with
  | ok x => cases h; rfl
  | exc c => cases h
  | stuck => cases h
theorem Res.calm_no {α : Type} {r : Res α} {c : Str} : r.calm ≠ .exc c := by
  cases r <;> exact fun h => nomatch h
section
variable {X : Cx} {W : WX} {T : Tbl}
/-- one turn of a comprehension -/
def lcF (tg : Tg) (fi : Env0D → Res Bool) (fe : Env0D → Res D) (ρ : Env0D) (d : D) : Res (Option D) := match tg.set d (wipeD ρ tg.slots) with
  | some ρ1 => ((fi ρ1).bind fun b => if b = true then (fe ρ1).bind fun y => .ok (some y) else .ok none).calm
  | none => .stuck
theorem lcF_calm {tg : Tg} {fi : Env0D → Res Bool} {fe : Env0D → Res D} {ρ : Env0D} {d : D} {c : Str} : lcF tg fi fe ρ d ≠ .exc c := by
  unfold lcF
  split
  · exact Res.calm_no
  · exact fun h => nomatch h
theorem lc_imp {fI : Env0D → Res (List D)} {tg : Tg} {fi : Env0D → Res Bool} {fe : Env0D → Res D} {σ : L2.St} {H : Hp} {Q : VK}
    (w : tE T X.K W (fun ρ => (fI ρ).bind fun ds => (lcD (lcF tg fi fe ρ) ds).bind fun r => lift (gd (sz r.length) (.list r))) σ H Q) :
    tLc (iI T X.K W fI) (tgG X.K tg) (tTs T X.K noW fi) (tE T X.K noW fe) tg.slots σ H Q := by
  obtain ⟨ρ, F, sf, er, q⟩ := w
  refine ⟨ρ, F, sf, er, (After.bind (R := fun F' J ds => Wk T X.K F' J ds) sf q).mono fun J H1 ⟨F1, ds, x1, wk, _, q1⟩ => ?_⟩
  intro P nP
  obtain ⟨r, hr⟩ : ∃ r, lcD (lcF tg fi fe ρ) ds = .ok r := by
    cases h : lcD (lcF tg fi fe ρ) ds with
    | ok r => exact ⟨r, rfl⟩
    | exc c => exact absurd h (lcD_calm (fun d c => lcF_calm) ds c)
    | stuck => rw [h] at q1; exact q1.elim
  rw [hr] at q1
  obtain ⟨hz, q2⟩ := (After.lift_ q1).gd
  have hz : r.length ≤ sizeLine := of_decide_eq_true hz
  refine ⟨fun i m Hc => ∃ Fc acc rd rest, Ex T F1 H1 Fc Hc ∧ Fc P = none ∧ Hc P = some (.lst acc) ∧ RpA X.K Fc acc rd ∧ lcD (lcF tg fi fe ρ) (ds.drop i) = .ok rest ∧ r = rd ++ rest ∧ i ≤ ds.length ∧ m = ds.length - i,
    ⟨ds.length, F1, [], [], r, (Ex.refl x1.fh).junk nP, x1.fh.free nP, upd_same, .nil, hr, rfl, Nat.zero_le _, rfl⟩, ?_⟩
  rintro i m Hc ⟨Fc, acc, rd, rest, xc, fP, hP, ra, hrest, hsplit, hi, rfl⟩
  have sFH : Same F1 Hc := xc.ff.trans xc.fh.sm
  by_cases hl : i = ds.length
  · subst hl
    rw [List.drop_length] at hrest
    cases hrest
    rw [List.append_nil] at hsplit
    subst hsplit
    refine .inl ⟨wk.stops Hc sFH, q2 (.ref P) (upd Fc P (.lst acc)) Hc (xc.freeze nP hP (fun _ z => nomatch z) fP) (.lst (by rw [upd_same]) (ra.mono (same_upd fP)))⟩
  · have hi' : i < ds.length := by omega
    have hd : ds[i]? = some ds[i] := List.getElem?_eq_getElem hi'
    rw [List.drop_eq_getElem_cons hi'] at hrest
    obtain ⟨o, r', hf, hr', hsp⟩ := lcD_cons hrest
    refine .inr ⟨wk.goes i Hc hi' sFH, fun H'' => ∃ Fc acc rd rest, Ex T F1 H1 Fc H'' ∧ Fc P = none ∧ H'' P = some (.lst acc) ∧ RpA X.K Fc acc rd ∧ lcD (lcF tg fi fe ρ) (ds.drop (i + 1)) = .ok rest ∧ r = rd ++ rest, fun H'' ⟨Fc, acc, rd, rest, a1, a2, a3, a4, a5, a6⟩ => ⟨ds.length - (i + 1), by omega, Fc, acc, rd, rest, a1, a2, a3, a4, a5, a6, hi', rfl⟩, fun x H' hy => ?_⟩
    obtain ⟨F2, x2, r2⟩ := wk.ylds i Hc x H' ds[i] Fc hd xc.ff xc.fh hy
    have f2 := x2.nof hP fP
    have h2 : H' P = some (.lst acc) := x2.hh _ _ hP fun _ z => nomatch z
    unfold lcF at hf
    split at hf
    · rename_i ρ1 hset
      have hf := Res.calm_inv hf
      obtain ⟨b, hb, hf⟩ := Res.bind_inv hf
      refine tg_ok hset x2.fh r2 (erel_wipe ((er.mono x1.ff).mono (xc.ff.trans x2.ff)) _) fun σ2 er2 l2 k2 => ⟨wipe_same (by rw [l2, wipe_length]) k2, ρ1, F2, x2.fh, er2, ?_⟩
      rw [hb]
      intro b' F3 H3 x3 e
      subst e
      have f3 := x3.nof h2 f2
      have h3 : H3 P = some (.lst acc) := x3.hh _ _ h2 fun _ z => nomatch z
      have xx := (xc.trans x2).trans x3
      cases b' with
      | true =>
        rw [if_pos rfl] at hf ⊢
        obtain ⟨y, hy2, hf⟩ := Res.bind_inv hf
        cases hf
        subst hsp
        refine ⟨ρ1, F3, x3.fh, er2.mono x3.ff, ?_⟩
        rw [hy2]
        intro v F4 H4 x4 rv
        have f4 := x4.nof h3 f3
        have h4 : H4 P = some (.lst acc) := x4.hh _ _ h3 fun _ z => nomatch z
        refine ⟨acc, h4, ?_, F4, acc ++ [v], rd ++ [y], r', (xx.trans x4).wr nP h4 f4, f4, upd_same, (ra.mono ((x2.ff.trans x3.ff).trans x4.ff)).append (.cons rv .nil), hr', by rw [hsplit, List.append_assoc]; rfl⟩
        rw [ra.length]
        rw [hsplit, List.length_append, List.length_cons] at hz
        omega
      | false =>
        rw [if_neg (by decide)] at hf ⊢
        cases hf
        subst hsp
        exact ⟨F3, acc, rd, _, xx, f3, h3, ra.mono (x2.ff.trans x3.ff), hr', hsplit⟩
    · cases hf
theorem takesN {X : Cx} : Takes X noW := LamX.takes0
theorem Gd.blk {Γ : Fns} {g : Cfg} (G : Gd X W T Γ g) (s : Shared) (H : Hp) (scope : Scope) (C : Addr) (cl : List (Str × Addr)) (fp : List Addr) : Gd (X.blk s H scope (compEnvC scope cl C X.env) fp) noW T Γ (blkG g scope) where
  calm := G.calm
  nd := G.nd
  N := G.N
  sc := by
    show relS scope X.env.scope = relS scope g.sc
    rw [G.sc]
  fnT := fun x h => by
    refine .inr ?_
    have e : (compEnvC scope cl C X.env).scope = (blkG g scope).sc := by
      show relS scope X.env.scope = relS scope g.sc
      rw [G.sc]
    show (compEnvC scope cl C X.env).scope.names.lookup x = some .local
    rw [e]
    unfold locOk at h
    split at h
    · assumption
    · cases h
    · cases h
  room := G.room
  blt := G.blt
  tk := takesN
  fns := fun x n φ h => ⟨(G.fns x n φ h).at_⟩
  lam := fun h => by cases h
  exc := fun c h => by cases h
  wrd := fun h => by cases h
  gci := G.gci
  gcs := G.gcs
theorem lcE_D {Γ : Fns} {g : Cfg} (G : Gd X W T Γ g) {elt tg it : Expr} {ifs : List Expr} {scope : Scope} {tg' : Tg} {fI : Env0D → Res (List D)} {fi : Env0D → Res Bool} {fe : Env0D → Res D} {p : Pos} (hb : blkC g.N g.sc scope (ownOf g.N tg'.slots) = true) (ho : (ownOf g.N tg'.slots).map (·.2) = tg'.slots) (ht : mTg (blkG g scope) tg' tg = true)
    (hI : PI X tg it (iI T X.K W fI)) (hs : ∀ env x, foldedSetIterable it env x = pure x)
    (hi : ∀ (s : Shared) (H : Hp) (C : Addr) (cl : List (Str × Addr)) (fp : List Addr), PTs (X.blk s H scope (compEnvC scope cl C X.env) fp) ifs (tTs T X.K noW fi))
    (he : ∀ (s : Shared) (H : Hp) (C : Addr) (cl : List (Str × Addr)) (fp : List Addr), PE (X.blk s H scope (compEnvC scope cl C X.env) fp) elt (tE T X.K noW fe)) :
    PE X (.ListComp elt [⟨tg, it, ifs, 0⟩] scope p) (tE T X.K W fun ρ => (fI ρ).bind fun ds => (lcD (lcF tg' fi fe ρ) ds).bind fun r => lift (gd (sz r.length) (.list r))) := by
  have ok : BlkOk X.N X.env.scope scope (ownOf g.N tg'.slots) := by
    rw [G.N, G.sc]
    exact blkOk_by hb
  refine PE.imp (pe_lc (g := tgG X.K tg') (tt := tTs T X.K noW fi) (te := tE T X.K noW fe) G.calm G.nd hI ok (fun s H C cl fp => pg_D (G.blk s H scope C cl fp) ht) hi he (fun x => hs _ x)) fun σ H Q w => ?_
  rw [ho]
  exact lc_imp w
end
end Tl
set_option maxHeartbeats 4000000
namespace Tl
open PySem PySem.Spec L2 PyProof.Rows
theorem one1_of {x : Str} {ps : Arguments} (h : one1 x ps = true) : ∃ p, ps = ⟨[], [⟨x, none, p⟩], none, [], [], none, []⟩ := by
  unfold one1 at h
  split at h
  · rename_i y p
    obtain rfl := of_decide_eq_true h
    exact ⟨p, rfl⟩
  · cases h
theorem lamSc_of {x : Str} {scope : Scope} (h : lamSc x scope = true) : FnScope [x] [x] scope := by
  unfold lamSc at h
  simp only [Bool.and_eq_true, Bool.not_eq_true', decide_eq_true_eq, List.all_eq_true] at h
  obtain ⟨⟨⟨⟨h1, h2⟩, h3⟩, h4⟩, h5⟩ := h
  refine ⟨?_, h2, h3, by simp, rfl, fun y hy => ?_, fun y hy => h5 y hy⟩
  · split at h1
    · assumption
    · cases h1
  · rw [List.mem_singleton.mp hy]
    exact .inl h4
theorem clo_nil {cells : List (Str × Addr)} : ∀ {names : List (Str × NameKind)} {acc : List (Str × Addr)}, (∀ y ∈ names, y.2 ≠ .free) → cloFrom cells names acc = acc
  | [], _, _ => rfl
  | (n, k) :: r, acc, h => by
    unfold cloFrom
    have hk : ¬ ((k == NameKind.free) = true) := fun z => h (n, k) List.mem_cons_self (by simpa using z)
    rw [if_neg hk]
    exact clo_nil fun y hy => h y (List.mem_cons_of_mem _ hy)
theorem bind_lam {x q : Str} {p : Pos} {body : Expr} {scope : Scope} {cl : List (Str × Addr)} {pm cv ctv : Value} (u : Value) : bindArgs (PySem.W.kla_fn "<lambda>" q ⟨[], [⟨x, none, p⟩], none, [], [], none, []⟩ body scope cl pm cv ctv) ⟨[u], []⟩ = pure [(x, u)] := by
  have e : ([(x, u)] : List (Str × Value)).lookup x = some u := by simp [List.lookup]
  unfold bindArgs
  have hd : seqItems? Value.none = pure none := rfl
  simp [hd, e]
theorem mapR_ok {f : D → Res D} : ∀ {ds kds : List D}, mapR f ds = .ok kds → kds.length = ds.length ∧ ∀ (i : Nat) d kd, ds[i]? = some d → kds[i]? = some kd → f d = .ok kd
  | [], _, h => by
    cases h
    exact ⟨rfl, fun i d kd h => by simp at h⟩
  | d :: ds, kds, h => by
    unfold mapR at h
    obtain ⟨y, h1, h⟩ := Res.bind_inv h
    obtain ⟨r, h2, h⟩ := Res.bind_inv h
    cases h
    obtain ⟨l, a⟩ := mapR_ok h2
    refine ⟨by rw [List.length_cons, List.length_cons, l], fun i d' kd e1 e2 => ?_⟩
    cases i with
    | zero =>
      cases e1
      cases e2
      exact h1
    | succ i => exact a i d' kd e1 e2
theorem mapR_calm {f : D → Res D} : ∀ {ds : List D} {c : Str}, mapR (fun d => (f d).calm) ds ≠ .exc c
  | [], c, h => by cases h
  | d :: ds, c, h => by
    unfold mapR at h
    cases q : (f d).calm with
    | ok y =>
      rw [q] at h
      cases q2 : mapR (fun d => (f d).calm) ds with
      | ok r => rw [q2] at h; cases h
      | exc c2 => exact mapR_calm q2
      | stuck => rw [q2] at h; cases h
    | exc c2 => exact Res.calm_no q
    | stuck => rw [q] at h; cases h
section
variable {X : Cx} {W : WX} {T : Tbl} {a body : Expr} {fa g : Env0D → Res D} {p px pk pl : Pos}
/-- sorted(a, key=lambda x: body) -/
theorem srtkE_D {x : Str} {ps : Arguments} {scope : Scope} (hr : Room 8 X.A) (hL : LamAt X T) (hg : Gl X "sorted") (hm : X.mg "sorted" = none) (ha : PE X a (tE T X.K W fa)) (hs : starEach [a] X.env = [(false, eval a X.env)]) (ho : one1 x ps = true) (hS : lamSc x scope = true)
    (hbody : ∀ (f c' : Addr) (A : Around) (s : Shared) (H : Hp), Room 4 (A.deeper (envOfC (X.env.qual ++ "<lambda>") scope s.heap.objs.size f (.ref c'))) → PE (lmx X x (X.env.qual ++ "<lambda>") scope f c' A s H) body (tE T X.K noW g)) :
    PE X (.Call (.Name "sorted" px) [a] [⟨some "key", .Lambda ps body scope pl, pk⟩] p) (tE T X.K W fun ρ => (fa ρ).bind fun d => (lift (seqsD d)).bind fun ds => (mapR (fun d => (g [some d]).calm) ds).bind fun kds => lift (keyV kds ds)) := by
  obtain ⟨pp, rfl⟩ := one1_of ho
  have S := lamSc_of hS
  obtain ⟨c, P, TB, hcode, hmT, hu⟩ := hL
  refine ⟨fun pins s σ H Q I h => ?_⟩
  obtain ⟨ρ, F, sf, er, q⟩ := h
  refine wpAny_Call_Name_kw (ld_blt I hg hm boot_sorted ?_ (by decide) (by decide))
  refine PyProof.Rows.callWith_kw (thn ((pa_cons ha pa_nil hs).run p pins s σ H (fun vs H1 => ∃ y F1 d, vs = [y] ∧ Ex T F H F1 H1 ∧ Rp X.K F1 y d ∧ After T X.K W σ (Rp X.K) ((lift (seqsD d)).bind fun ds => (mapR (fun d => (g [some d]).calm) ds).bind fun kds => lift (keyV kds ds)) F1 H1 Q) I
    ⟨ρ, F, sf, er, (After.bind (R := Rp X.K) sf q).mono fun v H1 ⟨F1, d, x1, rv, _, q1⟩ => ⟨v, F1, d, rfl, x1, rv, q1⟩⟩) fun us s1 ⟨vs, H1, I1, r1, q1⟩ => ?_) (by rw [hs]; rfl) (by rw [hs]; rfl) rfl rfl
  obtain ⟨y, F1, d, rfl, x1, rd, q1⟩ := q1
  obtain ⟨u, rfl, ru⟩ := vals1 r1
  obtain ⟨ds, hds, q2⟩ := q1.bind_o
  obtain ⟨kds, hkds⟩ : ∃ kds, mapR (fun d => (g [some d]).calm) ds = .ok kds := by
    cases h : mapR (fun d => (g [some d]).calm) ds with
    | ok r => exact ⟨r, rfl⟩
    | exc c => exact absurd h mapR_calm
    | stuck => rw [h] at q2; exact q2.elim
  rw [hkds] at q2
  obtain ⟨hz, q3⟩ := (After.lift_ q2).gd
  simp only [Bool.and_eq_true, decide_eq_true_eq] at hz
  show wpAny _ _ (evalAll [(do let v ← eval (.Lambda ⟨[], [⟨x, none, pp⟩], none, [], [], none, []⟩ body scope pl) X.env; standAt p; pure v)]) _ _ s1
  refine wpAny_evalAll_cons (wpAny_bind (LamX.lam_make2 (T := T) I1 TB hcode hmT hu x1.fh.tb rfl (fun y hy e => absurd e (S.nofree y hy)) fun f c' pm ctv H2 s2 I2 eN T2 hf nf ff hco => wpAny_bind (wpAny_standAt (wpAny_pure ?_))))
  refine wpAny_evalAll_nil ?_
  show wpAny _ _ (call (.builtin "sorted") [u] [(Str.ofString "key", .ref f)]) _ _ _
  rw [clo_nil S.nofree] at hf
  have z2 : Fz T F1 H2 := ⟨fun b o e => eN b o (x1.fh.sm b o e) fun ps z => x1.fh.nt b ps (by rw [e, z]), x1.fh.nt, T2⟩
  obtain ⟨l, xs, its, rfl, hl, rv, rx, hlen, hzz⟩ := seq_at I2 z2 rd ru hds
  obtain ⟨hkl, hkf⟩ := mapR_ok hkds
  refine sorted_key (k := 4) (x := x) (T := T) (F := F1) (kds := kds) (ds := ds) (xs := xs) (its := its) (g := g) I2 z2 (hr.mono (by omega)) hf nf ff hco S (fun u => bind_lam u) (fun A s H r => hbody f c' A s H r) hl rv rx hkl hzz hz.1.1 hz.1.2 (fun i d kd e1 e2 => Res.calm_inv (hkf i d kd e1 e2)) fun v F' H' x rv' => q3 v F' H' ?_ rv'
  exact Ex.trans ⟨eN, .refl _, z2, fun _ _ h => .inl h⟩ x
end
end Tl
set_option maxHeartbeats 4000000
namespace Tl
open PySem PySem.Spec L2 PyProof.Rows
def SE (c : C) : Prop := ∀ ⦃X : Cx⦄ ⦃W : WX⦄ ⦃T : Tbl⦄ ⦃Γ : Fns⦄ ⦃g : Cfg⦄ ⦃e : Expr⦄, Gd X W T Γ g → mE g c e = true → PE X e (tE T X.K W (ev Γ c)) ∧ (tst c = true → PT X e (tT T X.K W (ev Γ c)))
def SA (cs : Cs) : Prop := ∀ ⦃X : Cx⦄ ⦃W : WX⦄ ⦃T : Tbl⦄ ⦃Γ : Fns⦄ ⦃g : Cfg⦄ ⦃es : List Expr⦄, Gd X W T Γ g → (mA g cs es = true → PA X es (tAs T X.K W (evs Γ cs)) ∧
    (∀ p, PE X (.BoolOp .And es p) (tE T X.K W (evAnd Γ cs)) ∧ (tsts cs = true → PW X (.BoolOp .And es p) (tT T X.K W (evAnd Γ cs)))) ∧
    (∀ p, PE X (.BoolOp .Or es p) (tE T X.K W (evOr Γ cs)) ∧ (tsts cs = true → PW X (.BoolOp .Or es p) (tT T X.K W (evOr Γ cs))))) ∧
  (mIf g cs es = true → PTs X es (tTs T X.K W (evIfs Γ cs)))
def SI (it : CI) : Prop := ∀ ⦃X : Cx⦄ ⦃W : WX⦄ ⦃T : Tbl⦄ ⦃Γ : Fns⦄ ⦃g : Cfg⦄ ⦃tg e : Expr⦄, Gd X W T Γ g → mI g it tg e = true → PI X tg e (iI T X.K W (evI Γ it)) ∧ ∀ env x, foldedSetIterable e env x = pure x
theorem never_D {X : Cx} {W : WX} {T : Tbl} {e : Expr} : PE X e (tE T X.K W fun _ => .stuck) := ⟨fun pins s σ H Q I h => by
  obtain ⟨_, _, _, _, q⟩ := h
  exact q.elim⟩
theorem plain_of {g : Cfg} {c : C} {e : Expr} (h : mE g c e = true) : PlainIx e := by
  cases e with
  | Slice a b c p => cases c <;> simp [mE] at h
  | _ => exact fun _ _ => rfl
theorem two_eq {β : Type} (r s : Res D) (f : List D → Res β) : ((r.bind fun d => (s.bind fun e => (Res.ok ([] : List D)).bind fun ds => .ok (e :: ds)).bind fun ds => .ok (d :: ds)).bind f) = r.bind fun d => s.bind fun e => f [d, e] := by
  cases r <;> cases s <;> rfl
theorem one_eq {β : Type} (r : Res D) (f : List D → Res β) : ((r.bind fun d => (Res.ok ([] : List D)).bind fun ds => .ok (d :: ds)).bind f) = r.bind fun d => f [d] := by
  cases r <;> rfl
theorem cons_eq {β : Type} (r : Res D) (s : Res (List D)) (f : List D → Res β) : ((r.bind fun d => s.bind fun ds => .ok (d :: ds)).bind f) = r.bind fun d => s.bind fun ds => f (d :: ds) := by
  cases r <;> cases s <;> rfl
/-- the context of a key's body -/
theorem Gd.lmx {X : Cx} {W : WX} {T : Tbl} {Γ : Fns} {g : Cfg} (G : Gd X W T Γ g) {x q : Str} {scope : Scope} {f c' : Addr} {A : Around} {s : Shared} {H : Hp} (S : lamSc x scope = true) (hr : Room 4 (A.deeper (envOfC q scope s.heap.objs.size f (.ref c')))) : Gd (lmx X x q scope f c' A s H) noW T (fun _ => none) ⟨[x], scope, true, false, [], false, [], []⟩ where
  calm := rfl
  nd := List.nodup_cons.mpr ⟨by simp, List.nodup_nil⟩
  N := rfl
  sc := rfl
  fnT := fun _ _ => .inl rfl
  room := hr.mono (by omega)
  blt := G.blt
  tk := takesN
  fns := fun x n φ h => by cases h
  lam := fun h => by cases h
  exc := fun c h => by cases h
  wrd := fun h => by cases h
  gci := fun x i h => by cases h
  gcs := fun x z h => by cases h
theorem plainT {X : Cx} {W : WX} {T : Tbl} {e : Expr} {f : Env0D → Res D} (h : PE X e (tE T X.K W f)) (he : ∀ whole, isTrue e X.env whole = (do let v ← whole; standAt e.pos; holding [v] (truthy v))) (b : Bool) : PE X e (tE T X.K W f) ∧ (b = true → PT X e (tT T X.K W f)) := ⟨h, fun _ => truth_D h he⟩
theorem ifs_two {X : Cx} {W : WX} {T : Tbl} : PTs X [] (tTs T X.K W fun _ => .ok true) := ⟨fun pins s σ H Q I h => pts_nil.run pins s σ H Q I (by
  obtain ⟨ρ, F, sf, er, q⟩ := h
  exact q true F H (.refl sf) rfl)⟩
theorem if1_eq (r : Res D) : (r.bind fun d => (lift (truV d)).bind fun t => if t = true then Res.ok true else .ok false) = r.bind fun d => lift (truV d) := by
  cases r with
  | ok d =>
    cases h : truV d with
    | none => simp [h, lift, Res.bind]
    | some k => cases k <;> simp [h, lift, Res.bind]
  | exc c => rfl
  | stuck => rfl
mutual
theorem sE : (c : C) → SE c
  | .var i => fun X W T Γ g e G h => by
    obtain ⟨x, p, rfl, h1, h2, h3⟩ := inv_var h
    obtain ⟨o1, o2, _⟩ := okN_of h3
    exact plainT (var_D (by rw [G.N]; exact h1) (G.vis h2) o1 o2) (fun _ => rfl) _
  | .gint x i => fun X W T Γ g e G h => by
    obtain ⟨y, p, rfl, h1, h2⟩ := inv_gint h
    obtain ⟨rfl, k1, k2, k3⟩ := isG_of G h1
    obtain ⟨t, hm⟩ := G.gci _ _ h2
    exact plainT (cst_D (pe_glob (v := .int i) k1 hm ⟨t, rfl⟩ k2) fun _ => .int i) (fun _ => rfl) _
  | .gstr x z => fun X W T Γ g e G h => by
    obtain ⟨y, p, rfl, h1, h2⟩ := inv_gstr h
    obtain ⟨rfl, k1, k2, k3⟩ := isG_of G h1
    obtain ⟨t, hm⟩ := G.gcs _ _ h2
    exact plainT (cst_D (pe_glob (v := .str z) k1 hm ⟨t, rfl⟩ k2) fun _ => .str z) (fun _ => rfl) _
  | .non => fun X W T Γ g e G h => by
    obtain ⟨j, p, rfl⟩ := inv_non h
    exact plainT (cst_D pe_non fun _ => .non) (fun _ => rfl) _
  | .bl b => fun X W T Γ g e G h => by
    obtain ⟨j, p, rfl⟩ := inv_bl h
    exact plainT (cst_D pe_bl fun _ => .bl b) (fun _ => rfl) _
  | .int i => fun X W T Γ g e G h => by
    obtain ⟨j, p, rfl⟩ := inv_int h
    exact plainT (cst_D pe_int fun _ => .int i) (fun _ => rfl) _
  | .str x => fun X W T Γ g e G h => by
    obtain ⟨j, p, rfl⟩ := inv_str h
    exact plainT (cst_D pe_str fun _ => .str x) (fun _ => rfl) _
  | .tup es => fun X W T Γ g e G h => by
    obtain ⟨es2, k, p, rfl, h1⟩ := inv_tup h
    exact plainT (tupE_D ((sA es G).1 h1).1) (fun _ => rfl) _
  | .lst es => fun X W T Γ g e G h => by
    obtain ⟨es2, p, rfl, h1⟩ := inv_lst h
    exact plainT (lstE_D ((sA es G).1 h1).1) (fun _ => rfl) _
  | .op o a b => fun X W T Γ g e G h => by
    obtain ⟨a2, o2, b2, p, rfl, h1, h2, h3⟩ := inv_op h
    exact plainT (binop_D h1 (sE a G h2).1 (sE b G h3).1) (fun _ => rfl) _
  | .neg i => fun X W T Γ g e G h => by
    obtain ⟨k, p, q, rfl⟩ := inv_neg h
    exact plainT negE_D (fun _ => rfl) _
  | .cmp o a b => fun X W T Γ g e G h => by
    obtain ⟨a2, o2, b2, p, rfl, h1, h2, h3⟩ := inv_cmp h
    exact ⟨cmpE_D G.units h1 (sE a G h2).1 (sE b G h3).1 (noset_of h3), fun _ => cmpT_D G.units h1 (sE a G h2).1 (sE b G h3).1 (noset_of h3)⟩
  | .cmp2 o o' a b c => fun X W T Γ g e G h => by
    obtain ⟨a2, o2, p2, b2, c2, p, rfl, h1, h2, h3, h4, h5⟩ := inv_cmp2 h
    have hE := chainE_D (p := p) G.units h1 h2 (sE a G h3).1 (sE b G h4).1 (sE c G h5).1 (noset_of h5)
    refine ⟨hE, fun _ => ?_⟩
    exact chainT_D G.units h1 h2 (sE a G h3).1 (sE b G h4).1 (sE c G h5).1 (noset_of h5)
  | .ix a b => fun X W T Γ g e G h => by
    obtain ⟨a2, b2, p, rfl, h1, h2⟩ := inv_ix h
    exact plainT (ixE_D (sE a G h1).1 (sE b G h2).1 (plain_of h2)) (fun _ => rfl) _
  | .slA a => fun X W T Γ g e G h => by
    obtain ⟨a2, q, p, rfl, h1⟩ := inv_slA h
    exact plainT (slA_D (sE a G h1).1) (fun _ => rfl) _
  | .slL a l => fun X W T Γ g e G h => by
    obtain ⟨a2, l2, q, p, rfl, h1, h2⟩ := inv_slL h
    exact plainT (slL_D (sE a G h1).1 (sE l G h2).1) (fun _ => rfl) _
  | .slU a l => fun X W T Γ g e G h => by
    obtain ⟨a2, l2, q, p, rfl, h1, h2⟩ := inv_slU h
    exact plainT (slU_D (sE a G h1).1 (sE l G h2).1) (fun _ => rfl) _
  | .slB a l u => fun X W T Γ g e G h => by
    obtain ⟨a2, l2, u2, q, p, rfl, h1, h2, h3⟩ := inv_slB h
    exact plainT (slB_D (sE a G h1).1 (sE l G h2).1 (sE u G h3).1) (fun _ => rfl) _
  | .pr r a es => fun X W T Γ g e G h => by
    obtain ⟨x, px, a2, es2, p2, rfl, h1, h2, h3⟩ := inv_pr h
    obtain ⟨rfl, hg, hd, hn⟩ := isG_of G h1
    refine plainT ?_ (fun _ => rfl) _
    have z := prE_D (r := r) (px := px) (p := p2) G.calm hg (G.blt _ (pr_name_blt r)) (pa_consD (sE a G h2).1 ((sA es G).1 h3).1 (star_of h2 _ _)) hd hn (star_of h2 _ _) (stars_of h3 _)
    simp only [cons_eq] at z
    exact z
  | .call f a es => fun X W T Γ g e G h => by
    obtain ⟨x, px, a2, es2, p2, rfl, h1, h2, h3⟩ := inv_call h
    obtain ⟨rfl, hg, hd, hn⟩ := isG_of G h1
    refine plainT ?_ (fun _ => rfl) _
    cases hΓ : Γ x with
    | none =>
      have e1 : ev Γ (.call x a es) = fun _ => .stuck := by
        funext ρ
        simp only [ev, hΓ]
      rw [e1]
      exact never_D
    | some nφ =>
      obtain ⟨n, φ⟩ := nφ
      have e1 : ev Γ (.call x a es) = fun ρ => (ev Γ a ρ).bind fun d => (evs Γ es ρ).bind fun ds => if (d :: ds).length = n then φ (d :: ds) else .stuck := by
        funext ρ
        simp only [ev, hΓ, List.length_cons]
      rw [e1]
      have z := call_D (Γ := Γ) (px := px) (p := p2) G.tk (G.fns x n φ hΓ) hg hd (pa_consD (sE a G h2).1 ((sA es G).1 h3).1 (star_of h2 _ _)) (star_of h2 _ _) (stars_of h3 _)
      simp only [cons_eq] at z
      exact z
  | .and es => fun X W T Γ g e G h => by
    obtain ⟨es2, p, rfl, h1⟩ := inv_and h
    obtain ⟨z1, z2⟩ := ((sA es G).1 h1).2.1 p
    exact ⟨z1, fun t => (z2 t).pt⟩
  | .or es => fun X W T Γ g e G h => by
    obtain ⟨es2, p, rfl, h1⟩ := inv_or h
    obtain ⟨z1, z2⟩ := ((sA es G).1 h1).2.2 p
    exact ⟨z1, fun t => (z2 t).pt⟩
  | .not a => fun X W T Γ g e G h => by
    obtain ⟨a2, p, rfl, h1⟩ := inv_not h
    exact ⟨not_D (sE a G h1).1, fun t => notT_D ((sE a G h1).2 t)⟩
  | .ite t a b => fun X W T Γ g e G h => by
    obtain ⟨t2, a2, b2, p, rfl, h1, h2, h3, h4⟩ := inv_ite h
    exact ⟨ite_D ((sE t G h1).2 h4) (sE a G h2).1 (sE b G h3).1, fun t => by cases t⟩
  | .lc elt tg it ifs => fun X W T Γ g e G h => by
    obtain ⟨elt2, tg2, it2, ifs2, scope, p, rfl, h1, h2, h3, h4, h5, h6⟩ := inv_lc h
    obtain ⟨i1, i2⟩ := sI it G h4
    refine plainT ?_ (fun _ => rfl) _
    exact lcE_D G (fi := evIfs Γ ifs) (fe := ev Γ elt) h1 h2 h3 i1 i2 (fun s H C cl fp => (sA ifs (G.blk s H scope C cl fp)).2 h5) (fun s H C cl fp => (sE elt (G.blk s H scope C cl fp) h6).1)
  | .srt a => fun X W T Γ g e G h => by
    obtain ⟨x, px, a2, p2, rfl, h1, h2⟩ := inv_srt h
    obtain ⟨rfl, hg, hd, hn⟩ := isG_of G h1
    refine plainT ?_ (fun _ => rfl) _
    have z := srtE_D (px := px) (p := p2) hg (G.blt _ (by decide +kernel)) (pa_consD (sE a G h2).1 pa_nilD (star_of h2 _ _)) (star_of h2 _ _)
    simp only [one_eq] at z
    exact z
  | .srtk y body a => fun X W T Γ g e G h => by
    obtain ⟨x, px, a2, ps, body2, scope, pl, pk, p2, rfl, h1, h2, h3, h4, h5, h6⟩ := inv_srtk h
    obtain ⟨rfl, hg, hd, hn⟩ := isG_of G h1
    obtain ⟨hL, hr⟩ := G.lam h2
    refine plainT ?_ (fun _ => rfl) _
    exact srtkE_D (g := ev (fun _ => none) body) hr hL hg (G.blt _ (by decide +kernel)) (sE a G h3).1 (star_of h3 _ _) h4 h5 (fun f c' A s H r => (sE body (G.lmx h5 r) h6).1)
  | .maxd a b => fun X W T Γ g e G h => by
    obtain ⟨x, px, a2, b2, pk, p2, rfl, h1, h2, h3⟩ := inv_maxd h
    obtain ⟨rfl, hg, hd, hn⟩ := isG_of G h1
    refine plainT ?_ (fun _ => rfl) _
    exact maxE_D G.calm G.units hg (G.blt _ (by decide +kernel)) (sE a G h2).1 (sE b G h3).1 (star_of h2 _ _)
  | .isi a t => fun X W T Γ g e G h => by
    obtain ⟨x, px, a2, y, py, p2, rfl, h1, h2, h3⟩ := inv_isi h
    obtain ⟨rfl, hg, _, _⟩ := isG_of G h1
    obtain ⟨rfl, hg2, _, _⟩ := isG_of G h3
    refine plainT ?_ (fun _ => rfl) _
    exact isiE_D hg (G.blt _ (by decide +kernel)) hg2 (G.blt _ (ty_blt t)) (sE a G h2).1 (star_of h2)
  | .isi2 a t u => fun X W T Γ g e G h => by
    obtain ⟨x, px, a2, y, py, z, pz, k, pt, p2, rfl, h1, h2, h3, h4⟩ := inv_isi2 h
    obtain ⟨rfl, hg, _, _⟩ := isG_of G h1
    obtain ⟨rfl, hg2, _, _⟩ := isG_of G h3
    obtain ⟨rfl, hg3, _, _⟩ := isG_of G h4
    refine plainT ?_ (fun _ => rfl) _
    exact isi2E_D hg (G.blt _ (by decide +kernel)) hg2 (G.blt _ (ty_blt t)) hg3 (G.blt _ (ty_blt u)) (sE a G h2).1 (star_of h2)
theorem sA : (cs : Cs) → SA cs
  | .nil => fun X W T Γ g es G => by
    refine ⟨fun h => ?_, fun h => ?_⟩
    · cases es with
      | nil => exact ⟨pa_nilD, fun p => ⟨never_D, fun _ => ⟨fun wh pins s σ H Q I w => by
          obtain ⟨_, _, _, _, q⟩ := w
          exact q.elim⟩⟩, fun p => ⟨never_D, fun _ => ⟨fun wh pins s σ H Q I w => by
          obtain ⟨_, _, _, _, q⟩ := w
          exact q.elim⟩⟩⟩
      | cons _ _ => simp [mA] at h
    · cases es with
      | nil => exact ifs_two
      | cons _ _ => simp [mIf] at h
  | .cons c .nil => fun X W T Γ g es G => by
    refine ⟨fun h => ?_, fun h => ?_⟩
    · match es, h with
      | [e], h =>
        rw [mA, Bool.and_eq_true] at h
        obtain ⟨s1, s2⟩ := sE c G h.1
        exact ⟨pa_consD s1 pa_nilD (star_of h.1 _ _), fun p => ⟨pe_one s1, fun t => pw_and1 (s2 (by simpa [tsts] using t))⟩, fun p => ⟨pe_one s1, fun t => pw_or1 (s2 (by simpa [tsts] using t))⟩⟩
      | [], h => simp [mA] at h
      | _ :: _ :: _, h => simp [mA] at h
    · match es, h with
      | [e], h =>
        rw [mIf, Bool.and_eq_true] at h
        have z := pts_one ((sE c G h.1).2 h.2)
        have e1 : evIfs Γ (.cons c .nil) = fun ρ => (ev Γ c ρ).bind fun d => lift (truV d) := by
          funext ρ
          exact if1_eq _
        rw [e1]
        exact z
      | [], h => simp [mIf] at h
      | _ :: _ :: _, h => simp [mIf] at h
  | .cons c (.cons d cs) => fun X W T Γ g es G => by
    refine ⟨fun h => ?_, fun h => ?_⟩
    · match es, h with
      | e :: e2 :: es, h =>
        rw [mA, Bool.and_eq_true] at h
        obtain ⟨s1, s2⟩ := sE c G h.1
        obtain ⟨r1, r2, r3⟩ := (sA (.cons d cs) G).1 h.2
        refine ⟨pa_consD s1 r1 (star_of h.1 _ _), fun p => ⟨and_D s1 (r2 p).1, fun t => ?_⟩, fun p => ⟨or_D s1 (r3 p).1, fun t => ?_⟩⟩
        · have t' : tst c = true ∧ tsts (.cons d cs) = true := by
            rw [tsts, Bool.and_eq_true] at t
            exact t
          exact andT_D (s2 t'.1) ((r2 p).2 t'.2)
        · have t' : tst c = true ∧ tsts (.cons d cs) = true := by
            rw [tsts, Bool.and_eq_true] at t
            exact t
          exact orT_D (s2 t'.1) ((r3 p).2 t'.2)
      | [], h => simp [mA] at h
      | [e], h => simp [mA] at h
    · cases es with
      | nil => simp [mIf] at h
      | cons e es => cases es <;> simp [mIf] at h
theorem sI : (it : CI) → SI it
  | .seq c => fun X W T Γ g tg e G h => by
    have h : mE g c e = true := h
    exact ⟨pi_seqD (sE c G h).1, nofold_of h⟩
  | .rng1 a => fun X W T Γ g tg e G h => by
    cases e <;> first | (exfalso; revert h; simp [mI]; done) | skip
    rename_i f as kw p
    cases f <;> first | (exfalso; revert h; simp [mI]; done) | skip
    rename_i x px
    match as, kw, h with
    | [a2], [], h =>
      simp only [mI, Bool.and_eq_true] at h
      obtain ⟨rfl, hg, _, _⟩ := isG_of G h.1
      have z := pi_range1D (tg := tg) (p := px) (pos := p) hg (G.blt _ (by decide +kernel)) (pa_consD (sE a G h.2).1 pa_nilD (star_of h.2 _ _)) (star_of h.2 _ _)
      simp only [one_eq] at z
      exact ⟨z, fun _ _ => rfl⟩
    | [], _, h => simp [mI] at h
    | _ :: _ :: _, _, h => simp [mI] at h
    | [_], _ :: _, h => simp [mI] at h
  | .rng2 a b => fun X W T Γ g tg e G h => by
    cases e <;> first | (exfalso; revert h; simp [mI]; done) | skip
    rename_i f as kw p
    cases f <;> first | (exfalso; revert h; simp [mI]; done) | skip
    rename_i x px
    match as, kw, h with
    | [a2, b2], [], h =>
      simp only [mI, Bool.and_eq_true] at h
      obtain ⟨⟨h1, h2⟩, h3⟩ := h
      obtain ⟨rfl, hg, _, _⟩ := isG_of G h1
      have z := pi_range2D (tg := tg) (p := px) (pos := p) hg (G.blt _ (by decide +kernel)) (pa_consD (sE a G h2).1 (pa_consD (sE b G h3).1 pa_nilD (star_of h3 _ _)) (star_of h2 _ _)) (by rw [star_of h2, star_of h3]; rfl) (star_of h3 _ _)
      simp only [two_eq] at z
      exact ⟨z, fun _ _ => rfl⟩
    | [], _, h => simp [mI] at h
    | [_], _, h => simp [mI] at h
    | _ :: _ :: _ :: _, _, h => simp [mI] at h
    | [_, _], _ :: _, h => simp [mI] at h
  | .zip a b => fun X W T Γ g tg e G h => by
    cases e <;> first | (exfalso; revert h; simp [mI]; done) | skip
    rename_i f as kw p
    cases f <;> first | (exfalso; revert h; simp [mI]; done) | skip
    rename_i x px
    match as, kw, h with
    | [a2, b2], [], h =>
      simp only [mI, Bool.and_eq_true] at h
      obtain ⟨⟨⟨h1, h4⟩, h2⟩, h3⟩ := h
      obtain ⟨rfl, hg, _, _⟩ := isG_of G h1
      cases tg <;> first | (exfalso; revert h4; simp [isTup]; done) | skip
      rename_i es k pt
      have z := pi_zipD (elts := es) (kk := k) (tpos := pt) (p := px) (pos := p) hg (G.blt _ (by decide +kernel)) (pa_consD (sE a G h2).1 (pa_consD (sE b G h3).1 pa_nilD (star_of h3 _ _)) (star_of h2 _ _)) (by rw [star_of h2, star_of h3]; rfl) (star_of h3 _ _)
      simp only [two_eq] at z
      exact ⟨z, fun _ _ => rfl⟩
    | [], _, h => simp [mI] at h
    | [_], _, h => simp [mI] at h
    | _ :: _ :: _ :: _, _, h => simp [mI] at h
    | [_, _], _ :: _, h => simp [mI] at h
  | .enum a => fun X W T Γ g tg e G h => by
    cases e <;> first | (exfalso; revert h; simp [mI]; done) | skip
    rename_i f as kw p
    cases f <;> first | (exfalso; revert h; simp [mI]; done) | skip
    rename_i x px
    match as, kw, h with
    | [a2], [], h =>
      simp only [mI, Bool.and_eq_true] at h
      obtain ⟨⟨h1, h4⟩, h2⟩ := h
      obtain ⟨rfl, hg, _, _⟩ := isG_of G h1
      cases tg <;> first | (exfalso; revert h4; simp [isTup]; done) | skip
      exact ⟨pi_enumD hg (G.blt _ (by decide +kernel)) (sE a G h2).1 (star_of h2 _ _), fun _ _ => rfl⟩
    | [], _, h => simp [mI] at h
    | _ :: _ :: _, _, h => simp [mI] at h
    | [_], _ :: _, h => simp [mI] at h
end
end Tl
set_option maxHeartbeats 4000000
namespace Tl
open PySem PySem.Spec L2
/-! ### statements: slots -/
inductive Sl where
  | no
  | val (d : D)
  | own (ds : List D)
abbrev EnvS := List Sl
def see (m : List Nat) (i : Nat) : Sl → Option D
  | .no => none
  | .val d => some d
  | .own ds => if i ∈ m then some (.list ds) else none
def seeM (m : List Nat) (ρ : EnvS) : Env0D := ρ.mapIdx fun i s => see m i s
def fzn (m : List Nat) (i : Nat) : Sl → Sl
  | .own ds => if i ∈ m then .val (.list ds) else .own ds
  | s => s
def freezeM (m : List Nat) (ρ : EnvS) : EnvS := ρ.mapIdx fun i s => fzn m i s
def keepM (m : List Nat) (d : D) (ρ : EnvS) : EnvS := if pure_ d = true then ρ else freezeM m ρ
structure ER (K : PySem.W.Frag) (T : Tbl) (F0 H0 G F H : Hp) (σ : L2.St) (ρ : EnvS) : Prop where
  ex : Ex T F0 H0 F H
  fl : Same G F
  len : ρ.length = σ.length
  val : ∀ (i : Nat) (d : D), ρ[i]? = some (.val d) → ∃ v, σ[i]? = some (some v) ∧ Rp K F v d
  own : ∀ (i : Nat) (ds : List D), ρ[i]? = some (.own ds) → ∃ a vs, σ[i]? = some (some (.ref a)) ∧ H a = some (.lst vs) ∧ F a = none ∧ Nt H0 a ∧ RpA K F vs ds
  dist : ∀ (i j : Nat) (ds es : List D) (a : Addr), i ≠ j → ρ[i]? = some (.own ds) → ρ[j]? = some (.own es) → σ[i]? = some (some (.ref a)) → σ[j]? ≠ some (some (.ref a))
section
variable {K : PySem.W.Frag} {T : Tbl} {F0 H0 G F H : Hp} {σ : L2.St} {ρ : EnvS}
/-- the lists that are lent -/
def Lent (σ : L2.St) (ρ : EnvS) (m : List Nat) (a : Addr) : Prop := ∃ i, i ∈ m ∧ ∃ ds, ρ[i]? = some (.own ds) ∧ σ[i]? = some (some (.ref a))
open Classical in
noncomputable def lend (F H : Hp) (σ : L2.St) (ρ : EnvS) (m : List Nat) : Hp := fun a => if Lent σ ρ m a then H a else F a
open Classical in
noncomputable def unlend (F : Hp) (σ : L2.St) (ρ : EnvS) (m : List Nat) : Hp := fun a => if Lent σ ρ m a then none else F a
theorem ER.lent (er : ER K T F0 H0 G F H σ ρ) {m : List Nat} {a : Addr} (h : Lent σ ρ m a) : ∃ vs, H a = some (.lst vs) ∧ F a = none ∧ Nt H0 a := by
  obtain ⟨i, _, ds, h1, h2⟩ := h
  obtain ⟨b, vs, e1, e2, e3, e4, _⟩ := er.own i ds h1
  rw [h2] at e1
  cases e1
  exact ⟨vs, e2, e3, e4⟩
theorem lend_yes {m : List Nat} {a : Addr} (h : Lent σ ρ m a) : lend F H σ ρ m a = H a := if_pos h
theorem lend_no {m : List Nat} {a : Addr} (h : ¬ Lent σ ρ m a) : lend F H σ ρ m a = F a := if_neg h
theorem unlend_yes {m : List Nat} {a : Addr} (h : Lent σ ρ m a) : unlend F σ ρ m a = none := if_pos h
theorem unlend_no {m : List Nat} {a : Addr} (h : ¬ Lent σ ρ m a) : unlend F σ ρ m a = F a := if_neg h
theorem ER.lend_sm (er : ER K T F0 H0 G F H σ ρ) (m : List Nat) : Same F (lend F H σ ρ m) := fun b o e => by
  by_cases h : Lent σ ρ m b
  · obtain ⟨vs, _, e2, _⟩ := er.lent h
    rw [e2] at e
    cases e
  · rw [lend_no h]
    exact e
theorem ER.lend_fz (er : ER K T F0 H0 G F H σ ρ) (m : List Nat) : Fz T (lend F H σ ρ m) H where
  sm := fun b o e => by
    by_cases h : Lent σ ρ m b
    · rw [lend_yes h] at e
      exact e
    · rw [lend_no h] at e
      exact er.ex.fh.sm b o e
  nt := fun b ps e => by
    by_cases h : Lent σ ρ m b
    · rw [lend_yes h] at e
      obtain ⟨vs, e1, _⟩ := er.lent h
      rw [e1] at e
      cases e
    · rw [lend_no h] at e
      exact er.ex.fh.nt b ps e
  tb := er.ex.fh.tb
theorem ER.lend_ex (er : ER K T F0 H0 G F H σ ρ) (m : List Nat) : Ex T F0 H0 (lend F H σ ρ m) H where
  hh := er.ex.hh
  ff := er.ex.ff.trans (er.lend_sm m)
  fh := er.lend_fz m
  nw := fun a o e => by
    by_cases h : Lent σ ρ m a
    · obtain ⟨_, _, _, e4⟩ := er.lent h
      exact .inr e4
    · rw [lend_no h] at e
      exact er.ex.nw a o e
theorem get_seeM {m : List Nat} {i : Nat} {d : D} (h : (seeM m ρ)[i]? = some (some d)) : ρ[i]? = some (.val d) ∨ (i ∈ m ∧ ∃ ds, ρ[i]? = some (.own ds) ∧ d = .list ds) := by
  unfold seeM at h
  rw [List.getElem?_mapIdx] at h
  cases q : ρ[i]? with
  | none => rw [q] at h; cases h
  | some s =>
    rw [q] at h
    have h' : see m i s = some d := Option.some.inj h
    cases s with
    | no => cases h'
    | val e =>
      cases h'
      exact .inl rfl
    | own ds =>
      rw [see] at h'
      by_cases hm : i ∈ m
      · rw [if_pos hm] at h'
        cases h'
        exact .inr ⟨hm, ds, rfl, rfl⟩
      · rw [if_neg hm] at h'
        cases h'
theorem ER.view (er : ER K T F0 H0 G F H σ ρ) (m : List Nat) : ERel K (lend F H σ ρ m) σ (seeM m ρ) := by
  refine ⟨by unfold seeM; rw [List.length_mapIdx]; exact er.len, fun i d h => ?_⟩
  rcases get_seeM h with q | ⟨hm, ds, q, rfl⟩
  · obtain ⟨v, e1, r⟩ := er.val i d q
    exact ⟨v, e1, r.mono (er.lend_sm m)⟩
  · obtain ⟨a, vs, e1, e2, e3, e4, r⟩ := er.own i ds q
    have hl : Lent σ ρ m a := ⟨i, hm, ds, q, e1⟩
    exact ⟨.ref a, e1, .lst (by rw [lend_yes hl]; exact e2) (r.mono (er.lend_sm m))⟩
theorem get_freeze {m : List Nat} {i : Nat} {s : Sl} (h : (freezeM m ρ)[i]? = some s) : ∃ t, ρ[i]? = some t ∧ s = fzn m i t := by
  unfold freezeM at h
  rw [List.getElem?_mapIdx] at h
  cases q : ρ[i]? with
  | none => rw [q] at h; cases h
  | some t =>
    rw [q] at h
    exact ⟨t, rfl, (Option.some.inj h).symm⟩
/-- after an evaluation: the lent lists are frozen -/
theorem ER.frozen (er : ER K T F0 H0 G F H σ ρ) {m : List Nat} {F2 H2 : Hp} (x : Ex T (lend F H σ ρ m) H F2 H2) : ER K T F0 H0 G F2 H2 σ (freezeM m ρ) where
  ex := (er.lend_ex m).trans x
  fl := er.fl.trans ((er.lend_sm m).trans x.ff)
  len := by unfold freezeM; rw [List.length_mapIdx]; exact er.len
  val := fun i d h => by
    obtain ⟨t, h1, h2⟩ := get_freeze h
    cases t with
    | no => cases h2
    | val e =>
      cases h2
      obtain ⟨v, e1, r⟩ := er.val i d h1
      exact ⟨v, e1, r.mono ((er.lend_sm m).trans x.ff)⟩
    | own ds =>
      rw [fzn] at h2
      by_cases hm : i ∈ m
      · rw [if_pos hm] at h2
        cases h2
        obtain ⟨a, vs, e1, e2, e3, e4, r⟩ := er.own i ds h1
        have hl : Lent σ ρ m a := ⟨i, hm, ds, h1, e1⟩
        exact ⟨.ref a, e1, .lst (x.ff _ _ (by rw [lend_yes hl]; exact e2)) (r.mono ((er.lend_sm m).trans x.ff))⟩
      · rw [if_neg hm] at h2
        cases h2
  own := fun i ds h => by
    obtain ⟨t, h1, h2⟩ := get_freeze h
    cases t with
    | no => cases h2
    | val e => cases h2
    | own es =>
      rw [fzn] at h2
      by_cases hm : i ∈ m
      · rw [if_pos hm] at h2
        cases h2
      · rw [if_neg hm] at h2
        cases h2
        obtain ⟨a, vs, e1, e2, e3, e4, r⟩ := er.own i ds h1
        have hl : ¬ Lent σ ρ m a := fun ⟨j, hj, es, q1, q2⟩ => er.dist i j ds es a (fun z => hm (by rw [z]; exact hj)) h1 q1 e1 q2
        exact ⟨a, vs, e1, x.hh _ _ e2 (fun _ z => nomatch z), x.nof e2 (by rw [lend_no hl]; exact e3), e4, r.mono ((er.lend_sm m).trans x.ff)⟩
  dist := fun i j ds es a hij hi hj => by
    obtain ⟨t, h1, h2⟩ := get_freeze hi
    obtain ⟨u, h3, h4⟩ := get_freeze hj
    have g : ∀ {k : Nat} {t : Sl} {ds : List D}, Sl.own ds = fzn m k t → t = .own ds := by
      intro k t ds h
      cases t with
      | no => cases h
      | val e => cases h
      | own es =>
        rw [fzn] at h
        by_cases hm : k ∈ m
        · rw [if_pos hm] at h
          cases h
        · rw [if_neg hm] at h
          cases h
          rfl
    rw [g h2] at h1
    rw [g h4] at h3
    exact er.dist i j ds es a hij h1 h3
/-- .. or given back, if nothing of them can be in the result -/
theorem ER.back (er : ER K T F0 H0 G F H σ ρ) {m : List Nat} {F2 H2 : Hp} (x : Ex T (lend F H σ ρ m) H F2 H2) : ER K T F0 H0 G (unlend F2 σ ρ m) H2 σ ρ ∧ ∀ v d, pure_ d = true → Rp K F2 v d → Rp K (unlend F2 σ ρ m) v d := by
  have sF : Same F (unlend F2 σ ρ m) := fun b o e => by
    have h : ¬ Lent σ ρ m b := fun h => by
      obtain ⟨vs, _, e2, _⟩ := er.lent h
      rw [e2] at e
      cases e
    rw [unlend_no h]
    exact x.ff _ _ (er.lend_sm m _ _ e)
  have s2 : Same (unlend F2 σ ρ m) F2 := fun b o e => by
    by_cases h : Lent σ ρ m b
    · rw [unlend_yes h] at e
      cases e
    · rw [unlend_no h] at e
      exact e
  have ex2 := (er.lend_ex m).trans x
  refine ⟨⟨⟨ex2.hh, er.ex.ff.trans sF, ⟨s2.trans x.fh.sm, fun b ps e => x.fh.nt b ps (s2 _ _ e), x.fh.tb⟩, fun a o e => ex2.nw a o (s2 _ _ e)⟩, er.fl.trans sF, er.len, fun i d h => ?_, fun i ds h => ?_, er.dist⟩, fun v d hp r => ?_⟩
  · obtain ⟨v, e1, r⟩ := er.val i d h
    exact ⟨v, e1, r.mono sF⟩
  · obtain ⟨a, vs, e1, e2, e3, e4, r⟩ := er.own i ds h
    refine ⟨a, vs, e1, x.hh _ _ e2 (fun _ z => nomatch z), ?_, e4, r.mono sF⟩
    by_cases hl : Lent σ ρ m a
    · exact unlend_yes hl
    · rw [unlend_no hl]
      exact x.nof e2 (by rw [lend_no hl]; exact e3)
  · refine r.of_pure (fun a xs e => ?_) hp
    have hl : ¬ Lent σ ρ m a := fun hl => by
      obtain ⟨vs, q1, _⟩ := er.lent hl
      have q2 := x.ff a _ (by rw [lend_yes hl]; exact q1)
      rw [e] at q2
      cases q2
    rw [unlend_no hl]
    exact e
theorem ER.set (er : ER K T F0 H0 G F H σ ρ) {i : Nat} {v : V} {d : D} (r : Rp K F v d) : ER K T F0 H0 G F H (σ.set i (some v)) (ρ.set i (.val d)) where
  ex := er.ex
  fl := er.fl
  len := by rw [List.length_set, List.length_set, er.len]
  val := fun j e h => by
    by_cases hj : i = j
    · subst hj
      by_cases hl : i < ρ.length
      · rw [List.getElem?_set_self hl] at h
        cases h
        exact ⟨v, by rw [List.getElem?_set_self (by rw [← er.len]; exact hl)], r⟩
      · rw [List.getElem?_eq_none (by rw [List.length_set]; omega)] at h
        cases h
    · rw [List.getElem?_set_ne hj] at h ⊢
      exact er.val j e h
  own := fun j ds h => by
    by_cases hj : i = j
    · subst hj
      by_cases hl : i < ρ.length
      · rw [List.getElem?_set_self hl] at h
        cases h
      · rw [List.getElem?_eq_none (by rw [List.length_set]; omega)] at h
        cases h
    · rw [List.getElem?_set_ne hj] at h ⊢
      exact er.own j ds h
  dist := fun j k ds es a hjk h1 h2 => by
    have g : ∀ {n : Nat} {ds : List D}, (ρ.set i (.val d))[n]? = some (.own ds) → i ≠ n := fun {n ds} h z => by
      subst z
      by_cases hl : i < ρ.length
      · rw [List.getElem?_set_self hl] at h
        cases h
      · rw [List.getElem?_eq_none (by rw [List.length_set]; omega)] at h
        cases h
    have g1 := g h1
    have g2 := g h2
    rw [List.getElem?_set_ne g1] at h1
    rw [List.getElem?_set_ne g2] at h2
    rw [List.getElem?_set_ne g1, List.getElem?_set_ne g2]
    exact er.dist j k ds es a hjk h1 h2
end
end Tl
set_option maxHeartbeats 4000000
namespace Tl
open PySem PySem.Spec L2
/-! ### the slots that an expression names -/
mutual
def vsC : C → List Nat
  | .var i => [i]
  | .non => []
  | .bl _ => []
  | .int _ => []
  | .str _ => []
  | .tup es => vsCs es
  | .lst es => vsCs es
  | .op _ a b => vsC a ++ vsC b
  | .neg _ => []
  | .cmp _ a b => vsC a ++ vsC b
  | .cmp2 _ _ a b c => vsC a ++ vsC b ++ vsC c
  | .ix a b => vsC a ++ vsC b
  | .slA a => vsC a
  | .slL a l => vsC a ++ vsC l
  | .slU a u => vsC a ++ vsC u
  | .slB a l u => vsC a ++ vsC l ++ vsC u
  | .pr _ a es => vsC a ++ vsCs es
  | .call _ a es => vsC a ++ vsCs es
  | .and es => vsCs es
  | .or es => vsCs es
  | .not a => vsC a
  | .ite t a b => vsC t ++ vsC a ++ vsC b
  | .lc elt _ it ifs => vsC elt ++ vsI it ++ vsCs ifs
  | .srt a => vsC a
  | .srtk _ _ a => vsC a
  | .maxd a b => vsC a ++ vsC b
  | .isi a _ => vsC a
  | .isi2 a _ _ => vsC a
  | .gint _ _ => []
  | .gstr _ _ => []
def vsCs : Cs → List Nat
  | .nil => []
  | .cons c cs => vsC c ++ vsCs cs
def vsI : CI → List Nat
  | .seq c => vsC c
  | .rng1 a => vsC a
  | .rng2 a b => vsC a ++ vsC b
  | .zip a b => vsC a ++ vsC b
  | .enum a => vsC a
end
/-! ### statements -/
/-- atoms -/
inductive At where
  | non
  | bl (b : Bool)
  | int (i : Int)
  | str (x : Str)
  | var (i : Nat)
def At.ev : At → EnvS → Option D
  | .non, _ => some .none
  | .bl b, _ => some (.bool b)
  | .int i, _ => some (.int i)
  | .str x, _ => some (.str x)
  | .var i, ρ => match ρ[i]? with
    | some (.val d) => some d
    | _ => none
/-- what an except clause does -/
inductive Hn where
  | word (i : Nat)
  | wset (i j : Nat)
  | ret (a : At)
  | set (j : Nat) (a : At)
def Hn.run (xs : List Str) (c : Str) (ρ : EnvS) : Hn → Option (EnvS ⊕ D)
  | .word i => if c ∈ xs ∧ c ∈ excs9 ∧ i < ρ.length then some (.inr (.str (wordOf c))) else none
  | .wset i j => if c ∈ xs ∧ c ∈ excs9 ∧ i < ρ.length ∧ i ≠ j then some (.inl ((ρ.set j (.val (.str (wordOf c)))).set i .no)) else none
  | .ret a => if c ∈ xs then (a.ev ρ).map .inr else none
  | .set j a => if c ∈ xs then (a.ev ρ).map fun d => .inl (ρ.set j (.val d)) else none
mutual
inductive S where
  | rai (c : Str)
  | tri (xs : List Str) (body : Ss) (h : Hn)
  | any_
  | exp (c : C)
  | ext (i : Nat) (c : C)
  | setO (i : Nat) (c : C)
  | unp (is : List Nat) (c : C)
  | par (is : List Nat) (cs : Cs)
  | cat (i : Nat) (a b : C)
  | set (i : Nat) (c : C)
  | new (i : Nat)
  | app (i : Nat) (c : C)
  | ret (c : C)
  | iff (t : C) (a b : Ss)
  | for_ (tg : Tg) (it : CI) (body : Ss)
  | whl (t : C) (body : Ss)
inductive Ss where
  | nil
  | cons (s : S) (ss : Ss)
end
inductive Fl where
  | nx (ρ : EnvS)
  | rt (d : D)
  | exc (c : Str) (ρ : EnvS)
  | stuck
def Fl.bind (r : Fl) (f : EnvS → Fl) : Fl := match r with
  | .nx ρ => f ρ
  | r => r
/-- an expression's datum, and what is left of the slots -/
def evE (Γ : Fns) (c : C) (ρ : EnvS) (f : D → EnvS → Fl) : Fl := match ev Γ c (seeM (vsC c) ρ) with
  | .ok d => f d (keepM (vsC c) d ρ)
  | .exc x => .exc x ρ
  | .stuck => .stuck
def evT (Γ : Fns) (c : C) (ρ : EnvS) (f : Bool → Fl) : Fl := match (ev Γ c (seeM (vsC c) ρ)).bind fun d => lift (truV d) with
  | .ok b => f b
  | .exc x => .exc x ρ
  | .stuck => .stuck
def setS : List Nat → List D → EnvS → Option EnvS
  | [], [], ρ => some ρ
  | i :: is, d :: ds, ρ => setS is ds (ρ.set i (.val d))
  | _, _, _ => none
def Tg.setS : Tg → D → EnvS → Option EnvS
  | .one i, d, ρ => some (ρ.set i (.val d))
  | .many is, .tuple ds, ρ => Tl.setS is ds ρ
  | _, _, _ => none
def forD (b : D → EnvS → Fl) : List D → EnvS → Fl
  | [], ρ => .nx ρ
  | d :: ds, ρ => (b d ρ).bind fun ρ => forD b ds ρ
def whlD (t : EnvS → (Bool → Fl) → Fl) (b : EnvS → Fl) : Nat → EnvS → Fl
  | 0, _ => .stuck
  | n + 1, ρ => t ρ fun k => if k = true then (b ρ).bind fun ρ => whlD t b n ρ else .nx ρ
def appS (i : Nat) (d : D) (ρ : EnvS) : Fl := match ρ[i]? with
  | some (.own ds) => if ds.length < sizeLine then .nx (ρ.set i (.own (ds ++ [d]))) else .stuck
  | _ => .stuck
def extS (i : Nat) (d : D) (ρ : EnvS) : Fl := match ρ[i]?, d with
  | some (.own ds), .list es => if ds.length + es.length ≤ sizeLine then .nx (ρ.set i (.own (ds ++ es))) else .stuck
  | _, _ => .stuck
def unpS (is : List Nat) (d : D) (ρ : EnvS) : Fl := match d with
  | .tuple ds => (match setS is ds ρ with
    | some ρ => .nx ρ
    | none => .stuck)
  | _ => .stuck
def keepMs (m : List Nat) (ds : List D) (ρ : EnvS) : EnvS := if pureA ds = true then ρ else freezeM m ρ
def evEs (Γ : Fns) (cs : Cs) (ρ : EnvS) (f : List D → EnvS → Fl) : Fl := match evs Γ cs (seeM (vsCs cs) ρ) with
  | .ok ds => f ds (keepMs (vsCs cs) ds ρ)
  | .exc x => .exc x ρ
  | .stuck => .stuck
def catS (i : Nat) (d e : D) (ρ : EnvS) : Fl := match d, e with
  | .list xs, .list ys => if xs.length + ys.length ≤ sizeLine then .nx (ρ.set i (.own (xs ++ ys))) else .stuck
  | _, _ => .stuck
def seeP1 : Sl → Option D
  | .val d => if pure_ d = true then some d else none
  | _ => none
/-- what is seen of data without lists -/
def seeP (ρ : EnvS) : Env0D := ρ.map seeP1
def setOS (i : Nat) (r : Res D) (ρ : EnvS) : Fl := match r with
  | .ok (.list ds) => if pureA ds = true then .nx (ρ.set i (.own ds)) else .stuck
  | .exc x => .exc x ρ
  | _ => .stuck
def triS (xs : List Str) (h : Hn) (r : Fl) : Fl := match r with
  | .exc c ρ => (match h.run xs c ρ with
    | some (.inl ρ) => .nx ρ
    | some (.inr d) => .rt d
    | none => .stuck)
  | r => r
mutual
def exS (Γ : Fns) (n : Nat) : S → EnvS → Fl
  | .rai c, ρ => .exc c ρ
  | .tri xs body h, ρ => triS xs h (exSs Γ n body ρ)
  | .any_, _ => .stuck
  | .exp c, ρ => evE Γ c ρ fun _ ρ => .nx ρ
  | .ext i c, ρ => match ρ[i]? with
    | some (.own _) => evE Γ c ρ fun d ρ => extS i d ρ
    | _ => .stuck
  | .setO i c, ρ => setOS i (ev Γ c (seeP ρ)) ρ
  | .unp is c, ρ => evE Γ c ρ fun d ρ => unpS is d ρ
  | .cat i a b, ρ => evE Γ a ρ fun d ρ => evE Γ b ρ fun e ρ => catS i d e ρ
  | .par is cs, ρ => evEs Γ cs ρ fun ds ρ => (match setS is ds ρ with
    | some ρ => .nx ρ
    | none => .stuck)
  | .set i c, ρ => evE Γ c ρ fun d ρ => .nx (ρ.set i (.val d))
  | .new i, ρ => .nx (ρ.set i (.own []))
  | .app i c, ρ => match ρ[i]? with
    | some (.own _) => evE Γ c ρ fun d ρ => appS i d ρ
    | _ => .stuck
  | .ret c, ρ => evE Γ c ρ fun d _ => .rt d
  | .iff t a b, ρ => evT Γ t ρ fun k => if k = true then exSs Γ n a ρ else exSs Γ n b ρ
  | .for_ tg it body, ρ => match evI Γ it (seeM (vsI it) ρ) with
    | .ok ds => forD (fun d ρ => match tg.setS d ρ with
      | some ρ => exSs Γ n body ρ
      | none => .stuck) ds (freezeM (vsI it) ρ)
    | .exc x => .exc x ρ
    | .stuck => .stuck
  | .whl t body, ρ => whlD (fun ρ f => evT Γ t ρ f) (fun ρ => exSs Γ n body ρ) n ρ
def exSs (Γ : Fns) (n : Nat) : Ss → EnvS → Fl
  | .nil, ρ => .nx ρ
  | .cons s ss, ρ => (exS Γ n s ρ).bind fun ρ => exSs Γ n ss ρ
end
/-! matching -/
def notLc : C → Bool
  | .lc _ _ _ _ => false
  | _ => true
def mAt (g : Cfg) : At → Expr → Bool
  | .non, .Constant .none _ _ => true
  | .bl b, .Constant (.bool c) _ _ => decide (b = c)
  | .int i, .Constant (.int j) _ _ => decide (i = j)
  | .str x, .Constant (.str y) _ _ => decide (x = y)
  | .var i, .Name x _ => decide (g.N[i]? = some x) && vis g.sc x && okN x
  | _, _ => false
def isLoc (g : Cfg) (x : Str) : Bool := match g.sc.names.lookup x with
  | some .local => true
  | _ => false
/-- e's own name, _law_word(e) -/
def mWd (g : Cfg) (n : Str) : Expr → Bool
  | .Call (.Name f _) [.Name x _] [] _ => isG g f "_law_word" && g.wd && decide (x = n) && okN n
  | _ => false
def mTE (g : Cfg) : Expr → Bool
  | .Name t _ => isG g t "TileError"
  | _ => false
theorem mTE_of {g : Cfg} {e : Expr} (h : mTE g e = true) : ∃ t p, e = .Name t p ∧ isG g t "TileError" = true := by
  cases e <;> first | (simp [mTE] at h; done) | exact ⟨_, _, rfl, h⟩
def mRt1 (f : Expr → Bool) : Stmt → Bool
  | .Return (some e) _ => f e
  | _ => false
theorem mRt1_of {f : Expr → Bool} {st : Stmt} (h : mRt1 f st = true) : ∃ e p, st = .Return (some e) p ∧ f e = true := by
  cases st <;> first | (simp [mRt1] at h; done) | skip
  rename_i o p
  cases o with
  | none => simp [mRt1] at h
  | some e => exact ⟨e, p, rfl, h⟩
def mAs1 (f : Expr → Bool) (v : Str → Bool) : Stmt → Bool
  | .Assign [.Name y _] e _ => v y && f e
  | _ => false
theorem mAs1_of {f : Expr → Bool} {v : Str → Bool} {st : Stmt} (h : mAs1 f v st = true) : ∃ y py e p, st = .Assign [.Name y py] e p ∧ v y = true ∧ f e = true := by
  cases st <;> first | (simp [mAs1] at h; done) | skip
  rename_i ts e p
  cases ts with
  | nil => simp [mAs1] at h
  | cons t ts =>
    cases t <;> first | (simp [mAs1] at h; done) | skip
    cases ts with
    | cons u us => simp [mAs1] at h
    | nil =>
      simp only [mAs1, Bool.and_eq_true] at h
      exact ⟨_, _, _, _, rfl, h.1, h.2⟩
def mHb (g : Cfg) : Hn → Option Str → Stmt → Bool
  | .word i, some n, b => decide (g.N[i]? = some n) && isLoc g n && mRt1 (mWd g n) b
  | .wset i j, some n, b => decide (g.N[i]? = some n) && isLoc g n && mAs1 (mWd g n) (fun y => decide (g.N[j]? = some y) && isLoc g y) b
  | .ret a, none, b => mRt1 (mAt g a) b
  | .set j a, none, b => mAs1 (mAt g a) (fun y => decide (g.N[j]? = some y) && isLoc g y) b
  | _, _, _ => false
def mHn (g : Cfg) (h : Hn) : List ExceptHandler → Bool
  | [.ExceptHandler (some t) n [b] _] => mTE g t && mHb g h n b
  | _ => false
theorem mHn_of {g : Cfg} {h : Hn} {l : List ExceptHandler} (e : mHn g h l = true) : ∃ t n b p, l = [.ExceptHandler (some t) n [b] p] ∧ mTE g t = true ∧ mHb g h n b = true := by
  cases l with
  | nil => simp [mHn] at e
  | cons x l =>
    obtain ⟨t, n, bs, p⟩ := x
    cases t with
    | none => simp [mHn] at e
    | some t =>
      cases bs with
      | nil => simp [mHn] at e
      | cons b bs =>
        cases bs with
        | cons u us => simp [mHn] at e
        | nil =>
          cases l with
          | cons u us => simp [mHn] at e
          | nil =>
            simp only [mHn, Bool.and_eq_true] at e
            exact ⟨t, n, b, p, rfl, e.1, e.2⟩
def isTxt : List Expr → Bool
  | [.Constant (.str _) _ _] => true
  | _ => false
theorem isTxt_of {es : List Expr} (h : isTxt es = true) : ∃ m j p, es = [.Constant (.str m) j p] := by
  cases es with
  | nil => simp [isTxt] at h
  | cons e es =>
    cases e <;> first | (simp [isTxt] at h; done) | skip
    rename_i v j p
    cases v <;> first | (simp [isTxt] at h; done) | skip
    cases es with
    | cons u us => simp [isTxt] at h
    | nil => exact ⟨_, _, _, rfl⟩
def mRai (g : Cfg) (c : Str) : Option Expr → Option Expr → Bool
  | some (.Call (.Name x _) as [] _), none => isG g x c && isTxt as
  | _, _ => false
theorem mRai_of {g : Cfg} {c : Str} {e o : Option Expr} (h : mRai g c e o = true) : ∃ x px m j pv cpos, e = some (.Call (.Name x px) [.Constant (.str m) j pv] [] cpos) ∧ o = none ∧ isG g x c = true := by
  cases e with
  | none => simp [mRai] at h
  | some e =>
  cases e <;> first | (simp [mRai] at h; done) | skip
  rename_i f as kw cpos
  cases f <;> first | (simp [mRai] at h; done) | skip
  cases kw with
  | cons u us => simp [mRai] at h
  | nil =>
  cases o with
  | some o => simp [mRai] at h
  | none =>
    simp only [mRai, Bool.and_eq_true] at h
    obtain ⟨m, j, pv, rfl⟩ := isTxt_of h.2
    exact ⟨_, _, m, j, pv, cpos, rfl, rfl, h.1⟩
def mMt (g : Cfg) (mt : Str) (i : Nat) (c : C) : Expr → Bool
  | .Call (.Attribute (.Name x _) m apos) [e] [] cpos => decide (m = mt) && decide (g.N[i]? = some x) && vis g.sc x && okN x && mE g c e && (apos.endLine == cpos.line)
  | _ => false
theorem mMt_of {g : Cfg} {mt : Str} {i : Nat} {c : C} {e : Expr} (h : mMt g mt i c e = true) : ∃ x px apos e' cpos, e = .Call (.Attribute (.Name x px) mt apos) [e'] [] cpos ∧ g.N[i]? = some x ∧ vis g.sc x = true ∧ okN x = true ∧ mE g c e' = true ∧ (apos.endLine == cpos.line) = true := by
  cases e <;> first | (simp [mMt] at h; done) | skip
  rename_i f as kw cpos
  cases f <;> first | (simp [mMt] at h; done) | skip
  rename_i o m apos
  cases o <;> first | (simp [mMt] at h; done) | skip
  rename_i x px
  cases as with
  | nil => simp [mMt] at h
  | cons e' as =>
  cases as with
  | cons u us => simp [mMt] at h
  | nil =>
  cases kw with
  | cons u us => simp [mMt] at h
  | nil =>
    simp only [mMt, Bool.and_eq_true, decide_eq_true_eq] at h
    obtain ⟨⟨⟨⟨⟨rfl, h1⟩, h2⟩, h3⟩, h4⟩, h5⟩ := h
    exact ⟨x, px, apos, e', cpos, rfl, h1, h2, h3, h4, h5⟩
def notTup2 (n : Nat) : Expr → Bool
  | .Tuple _ _ _ => decide (n ≠ 2) && decide (n ≠ 3)
  | _ => true
/-- among the names, a cell -/
def isCel (g : Cfg) : Expr → Bool
  | .Name x _ => (match g.sc.names.lookup x with | some .cell => true | _ => false)
  | _ => false
def celTup (g : Cfg) (es : List Expr) : Bool := es.any (isCel g)
/-- the names of a line, locals -/
def locsOn (g : Cfg) (l : Nat) : List Expr → Option (List Str)
  | [] => some []
  | .Name x p :: es => if (isLoc g x && (p.line == l)) = true then (locsOn g l es).map (x :: ·) else none
  | _ => none
def noStar : List Expr → Bool
  | [] => true
  | .Starred _ _ :: _ => false
  | _ :: es => noStar es
def parOk (g : Cfg) (ts vs : List Expr) : Bool := (decide (ts.length = 2) || decide (ts.length = 3)) && decide (vs.length = ts.length) && noStar vs && !(vs.all (foldedForSure 8)) && !(vs.all (constantsAlone 8)) && (match locsOn g ((ts.head?.map (·.pos.line)).getD 0) ts with
  | some ns => decide (ns.eraseDups.length = ns.length)
  | none => false)
def mCat (g : Cfg) (a b : C) : Expr → Bool
  | .BinOp x o y _ => opEq o .add && mE g a x && mE g b y
  | _ => false
theorem mCat_of {g : Cfg} {a b : C} {e : Expr} (h : mCat g a b e = true) : ∃ x y p, e = .BinOp x .Add y p ∧ mE g a x = true ∧ mE g b y = true := by
  cases e <;> first | (simp [mCat] at h; done) | skip
  rename_i x o y p
  simp only [mCat, Bool.and_eq_true] at h
  obtain ⟨⟨h1, h2⟩, h3⟩ := h
  cases o <;> first | (simp [opEq] at h1; done) | exact ⟨x, y, p, rfl, h2, h3⟩
mutual
def mS (g : Cfg) : S → Stmt → Bool
  | .cat i a b, st => mAs1 (mCat g a b) (fun x => decide (g.N[i]? = some x) && locOk g x) st
  | .any_, _ => true
  | .rai c, .Raise e o _ => mRai g c e o && decide (c ∈ g.xs)
  | .tri xs body h, .Try body' hs [] [] _ => decide (xs = g.xs) && !xs.isEmpty && mSs g body body' && mHn g h hs
  | .exp c, .Expr e _ => mE g c e && notLc c
  | .ext i c, .Expr e _ => mMt g "extend" i c e
  | .setO i c, .Assign [.Name x px] e p => decide (g.N[i]? = some x) && locOk g x && mE g c e && (notLc c || (match e with
    | .ListComp _ _ scope pe => (match g.sc.names.lookup x with
      | some .local => (px.line == pe.line) && !(scope.names.any fun (n, k) => n == x && (k == .local || k == .cell))
      | some .cell => true
      | _ => false)
    | _ => false))
  | .unp is c, .Assign [.Tuple es _ _] e _ => mNames g is es && mE g c e && notLc c && (notTup2 es.length e || celTup g es)
  | .par is cs, .Assign [.Tuple es _ _] (.Tuple vs _ _) _ => mNames g is es && mA g cs vs && parOk g es vs
  | .set i c, .Assign [.Name x px] e p => decide (g.N[i]? = some x) && locOk g x && mE g c e && (notLc c || (match e with
    | .ListComp _ _ scope pe => (match g.sc.names.lookup x with
      | some .local => (px.line == pe.line) && !(scope.names.any fun (n, k) => n == x && (k == .local || k == .cell))
      | some .cell => true
      | _ => false)
    | _ => false))
  | .new i, .Assign [.Name x _] (.List [] _) _ => decide (g.N[i]? = some x) && locOk g x
  | .app i c, .Expr (.Call (.Attribute (.Name x _) m apos) [e] [] cpos) _ => decide (m = "append") && decide (g.N[i]? = some x) && vis g.sc x && okN x && mE g c e && (apos.endLine == cpos.line)
  | .ret c, .Return (some e) _ => mE g c e
  | .iff t a b, .If t' a' b' _ => mE g t t' && tst t && mSs g a a' && mSs g b b'
  | .for_ tg it body, .For tg' it' body' [] _ => mTg g tg tg' && mI g it tg' it' && mSs g body body'
  | .whl t body, .While t' body' [] _ => mE g t t' && tst t && mSs g body body'
  | _, _ => false
def mSs (g : Cfg) : Ss → List Stmt → Bool
  | .nil, [] => true
  | .cons s ss, st :: sts => mS g s st && mSs g ss sts
  | _, _ => false
end
end Tl
set_option maxHeartbeats 4000000
namespace Tl
open PySem PySem.Spec L2
def Post (K : PySem.W.Frag) (T : Tbl) (W : WX) (F0 H0 G : Hp) (r : Fl) (Z : Ends) : Prop := match r with
  | .nx ρ => ∀ σ F H, ER K T F0 H0 G F H σ ρ → Z.nx σ H
  | .rt d => ∀ v F H, Ex T F0 H0 F H → Rp K F v d → Z.rt v H
  | .exc c ρ => ∀ σ F H, ER K T F0 H0 G F H σ ρ → W (clsV K c) none σ H
  | .stuck => False
def tS (K : PySem.W.Frag) (T : Tbl) (W : WX) (F0 H0 G : Hp) (f : EnvS → Fl) : TS := fun Z σ H => ∃ ρ F, ER K T F0 H0 G F H σ ρ ∧ Post K T W F0 H0 G (f ρ) Z
section
variable {K : PySem.W.Frag} {T : Tbl} {W : WX} {F0 H0 G F H : Hp} {σ : L2.St} {ρ : EnvS} {Γ : Fns} {Z : Ends}
theorem ER.floor {G' : Hp} (er : ER K T F0 H0 G F H σ ρ) (s : Same G' G) : ER K T F0 H0 G' F H σ ρ := ⟨er.ex, s.trans er.fl, er.len, er.val, er.own, er.dist⟩
theorem Post.floor {G' : Hp} {r : Fl} (p : Post K T W F0 H0 G r Z) (s : Same G G') : Post K T W F0 H0 G' r Z := by
  cases r with
  | nx ρ => exact fun σ F H er => p σ F H (er.floor s)
  | rt d => exact p
  | exc c ρ => exact fun σ F H er => p σ F H (er.floor s)
  | stuck => exact p
theorem Post.seq {r : Fl} {f : EnvS → Fl} (p : Post K T W F0 H0 G (r.bind f) Z) : Post K T W F0 H0 G r { Z with nx := tS K T W F0 H0 G f Z } := by
  cases r with
  | nx ρ => exact fun σ F H er => ⟨ρ, F, er, p⟩
  | rt d => exact p
  | exc c ρ => exact p
  | stuck => exact p
theorem ER.exc (er : ER K T F0 H0 G F H σ ρ) {m : List Nat} {H' : Hp} (k : Kp H H') (z : Fz T (lend F H σ ρ m) H') : ∃ F', ER K T F0 H0 G F' H' σ ρ :=
  ⟨_, (er.back (m := m) ⟨k, .refl _, z, fun _ _ h => .inl h⟩).1⟩
theorem use_E {c : C} {f : D → EnvS → Fl} {Q : VK} (er : ER K T F0 H0 G F H σ ρ) (p : Post K T W F0 H0 G (evE Γ c ρ f) Z)
    (hQ : ∀ d v F' H', ER K T F0 H0 G F' H' σ (keepM (vsC c) d ρ) → Rp K F' v d → Post K T W F0 H0 G (f d (keepM (vsC c) d ρ)) Z → Q v H') : tE T K W (ev Γ c) σ H Q := by
  refine ⟨seeM (vsC c) ρ, _, er.lend_fz (vsC c), er.view (vsC c), ?_⟩
  unfold evE at p
  cases h : ev Γ c (seeM (vsC c) ρ) with
  | ok d =>
    rw [h] at p
    intro v F' H' x r
    by_cases hp : pure_ d = true
    · have e1 : keepM (vsC c) d ρ = ρ := if_pos hp
      obtain ⟨e2, e3⟩ := er.back x
      exact hQ d v _ H' (by rw [e1]; exact e2) (e3 v d hp r) p
    · have e1 : keepM (vsC c) d ρ = freezeM (vsC c) ρ := if_neg hp
      exact hQ d v F' H' (by rw [e1]; exact er.frozen x) r p
  | exc x =>
    rw [h] at p
    intro H' k z
    obtain ⟨F', er'⟩ := er.exc k z
    exact p σ F' H' er'
  | stuck =>
    rw [h] at p
    exact p
theorem use_T {c : C} {f : Bool → Fl} {Q : Bool → Hp → Prop} (er : ER K T F0 H0 G F H σ ρ) (p : Post K T W F0 H0 G (evT Γ c ρ f) Z)
    (hQ : ∀ b F' H', ER K T F0 H0 G F' H' σ ρ → Post K T W F0 H0 G (f b) Z → Q b H') : tT T K W (ev Γ c) σ H Q := by
  refine ⟨seeM (vsC c) ρ, _, er.lend_fz (vsC c), er.view (vsC c), ?_⟩
  unfold evT at p
  show After T K W σ _ ((ev Γ c (seeM (vsC c) ρ)).bind fun d => lift (truV d)) _ H Q
  cases h : (ev Γ c (seeM (vsC c) ρ)).bind fun d => lift (truV d) with
  | ok d =>
    rw [h] at p
    intro v F' H' x r
    subst r
    exact hQ v _ H' (er.back x).1 p
  | exc x =>
    rw [h] at p
    intro H' k z
    obtain ⟨F', er'⟩ := er.exc k z
    exact p σ F' H' er'
  | stuck =>
    rw [h] at p
    exact p
theorem ER.new (er : ER K T F0 H0 G F H σ ρ) {i : Nat} {q : Addr} (n : H q = none) : ER K T F0 H0 G F (upd H q (.lst [])) (σ.set i (some (.ref q))) (ρ.set i (.own [])) where
  ex := er.ex.junk n
  fl := er.fl
  len := by rw [List.length_set, List.length_set, er.len]
  val := fun j e h => by
    by_cases hj : i = j
    · subst hj
      by_cases hl : i < ρ.length
      · rw [List.getElem?_set_self hl] at h
        cases h
      · rw [List.getElem?_eq_none (by rw [List.length_set]; omega)] at h
        cases h
    · rw [List.getElem?_set_ne hj] at h ⊢
      exact er.val j e h
  own := fun j ds h => by
    by_cases hj : i = j
    · subst hj
      by_cases hl : i < ρ.length
      · rw [List.getElem?_set_self hl] at h
        cases h
        exact ⟨q, [], by rw [List.getElem?_set_self (by rw [← er.len]; exact hl)], upd_same, er.ex.fh.free n, (Nt.of n).back er.ex.hh, .nil⟩
      · rw [List.getElem?_eq_none (by rw [List.length_set]; omega)] at h
        cases h
    · rw [List.getElem?_set_ne hj] at h
      obtain ⟨a, vs, e1, e2, e3, e4, r⟩ := er.own j ds h
      exact ⟨a, vs, by rw [List.getElem?_set_ne hj]; exact e1, by rw [upd_ne (ne_of_none e2 n)]; exact e2, e3, e4, r⟩
  dist := fun j k ds es a hjk h1 h2 h3 h4 => by
    have g : ∀ {n' : Nat} {ds : List D} {b : Addr}, i ≠ n' → (ρ.set i (.own []))[n']? = some (.own ds) → (σ.set i (some (.ref q)))[n']? = some (some (.ref b)) → b ≠ q := fun {n' ds b} hn h h' => by
      rw [List.getElem?_set_ne hn] at h h'
      obtain ⟨a, vs, e1, e2, _⟩ := er.own n' ds h
      rw [h'] at e1
      cases e1
      exact ne_of_none e2 n
    have at_i : ∀ {b : Addr}, (σ.set i (some (.ref q)))[i]? = some (some (.ref b)) → b = q := fun {b} h => by
      by_cases hl : i < σ.length
      · rw [List.getElem?_set_self hl] at h
        cases h
        rfl
      · rw [List.getElem?_eq_none (by rw [List.length_set]; omega)] at h
        cases h
    by_cases hj : i = j
    · subst hj
      exact g hjk h2 h4 (at_i h3)
    · by_cases hk : i = k
      · subst hk
        exact g hj h1 h3 (at_i h4)
      · rw [List.getElem?_set_ne hj] at h1 h3
        rw [List.getElem?_set_ne hk] at h2 h4
        exact er.dist j k ds es a hjk h1 h2 h3 h4
theorem ER.app (er : ER K T F0 H0 G F H σ ρ) {i : Nat} {ds : List D} {a : Addr} {vs : List V} {v : V} {d : D} (h : ρ[i]? = some (.own ds)) (hs : σ[i]? = some (some (.ref a))) (ha : H a = some (.lst vs)) (hf : F a = none) (hn : Nt H0 a) (rs : RpA K F vs ds) (r : Rp K F v d) :
    ER K T F0 H0 G F (upd H a (.lst (vs ++ [v]))) σ (ρ.set i (.own (ds ++ [d]))) where
  ex := ⟨fun b o e n => by
    rw [upd_ne (fun z => by
      subst z
      obtain ⟨ps, q⟩ := hn o e
      exact n ps q)]
    exact er.ex.hh b o e n, er.ex.ff, er.ex.fh.wr ha hf, er.ex.nw⟩
  fl := er.fl
  len := by rw [List.length_set, er.len]
  val := fun j e h' => by
    by_cases hj : i = j
    · subst hj
      rw [List.getElem?_set_self (List.getElem?_eq_some_iff.mp h).1] at h'
      cases h'
    · rw [List.getElem?_set_ne hj] at h'
      exact er.val j e h'
  own := fun j es h' => by
    by_cases hj : i = j
    · subst hj
      rw [List.getElem?_set_self (List.getElem?_eq_some_iff.mp h).1] at h'
      cases h'
      exact ⟨a, vs ++ [v], hs, upd_same, hf, hn, rs.append (.cons r .nil)⟩
    · rw [List.getElem?_set_ne hj] at h'
      obtain ⟨b, ws, e1, e2, e3, e4, r'⟩ := er.own j es h'
      have hab : b ≠ a := fun z => er.dist i j ds es a hj h h' hs (by rw [← z]; exact e1)
      exact ⟨b, ws, e1, by rw [upd_ne hab]; exact e2, e3, e4, r'⟩
  dist := fun j k es fs b hjk h1 h2 => by
    have g : ∀ {n : Nat} {es : List D}, (ρ.set i (.own (ds ++ [d])))[n]? = some (.own es) → ∃ es', ρ[n]? = some (.own es') := fun {n es} h' => by
      by_cases hj : i = n
      · subst hj
        exact ⟨ds, h⟩
      · rw [List.getElem?_set_ne hj] at h'
        exact ⟨es, h'⟩
    obtain ⟨es', h1⟩ := g h1
    obtain ⟨fs', h2⟩ := g h2
    exact er.dist j k es' fs' b hjk h1 h2
theorem ER.ext (er : ER K T F0 H0 G F H σ ρ) {i : Nat} {ds : List D} {a : Addr} {vs : List V} {ws : List V} {es0 : List D} (h : ρ[i]? = some (.own ds)) (hs : σ[i]? = some (some (.ref a))) (ha : H a = some (.lst vs)) (hf : F a = none) (hn : Nt H0 a) (rs : RpA K F vs ds) (r : RpA K F ws es0) :
    ER K T F0 H0 G F (upd H a (.lst (vs ++ ws))) σ (ρ.set i (.own (ds ++ es0))) where
  ex := ⟨fun b o e n => by
    rw [upd_ne (fun z => by
      subst z
      obtain ⟨ps, q⟩ := hn o e
      exact n ps q)]
    exact er.ex.hh b o e n, er.ex.ff, er.ex.fh.wr ha hf, er.ex.nw⟩
  fl := er.fl
  len := by rw [List.length_set, er.len]
  val := fun j e h' => by
    by_cases hj : i = j
    · subst hj
      rw [List.getElem?_set_self (List.getElem?_eq_some_iff.mp h).1] at h'
      cases h'
    · rw [List.getElem?_set_ne hj] at h'
      exact er.val j e h'
  own := fun j es h' => by
    by_cases hj : i = j
    · subst hj
      rw [List.getElem?_set_self (List.getElem?_eq_some_iff.mp h).1] at h'
      cases h'
      exact ⟨a, vs ++ ws, hs, upd_same, hf, hn, rs.append r⟩
    · rw [List.getElem?_set_ne hj] at h'
      obtain ⟨b, ws, e1, e2, e3, e4, r'⟩ := er.own j es h'
      have hab : b ≠ a := fun z => er.dist i j ds es a hj h h' hs (by rw [← z]; exact e1)
      exact ⟨b, ws, e1, by rw [upd_ne hab]; exact e2, e3, e4, r'⟩
  dist := fun j k es fs b hjk h1 h2 => by
    have g : ∀ {n : Nat} {es : List D}, (ρ.set i (.own (ds ++ es0)))[n]? = some (.own es) → ∃ es', ρ[n]? = some (.own es') := fun {n es} h' => by
      by_cases hj : i = n
      · subst hj
        exact ⟨ds, h⟩
      · rw [List.getElem?_set_ne hj] at h'
        exact ⟨es, h'⟩
    obtain ⟨es', h1⟩ := g h1
    obtain ⟨fs', h2⟩ := g h2
    exact er.dist j k es' fs' b hjk h1 h2
theorem setS_ok {Q : L2.St → Hp → Prop} : ∀ {is : List Nat} {ds : List D} {vs : List V} {σ : L2.St} {ρ ρ1 : EnvS}, setS is ds ρ = some ρ1 → RpA K F vs ds → ER K T F0 H0 G F H σ ρ →
    (∀ σ2, ER K T F0 H0 G F H σ2 ρ1 → Q σ2 H) → (is.foldr (fun i u => gCons (gName i) u) gNil) vs σ H Q
  | [], [], _, σ, ρ, ρ1, h, .nil, er, q => by
    cases h
    exact ⟨rfl, q σ er⟩
  | [], _ :: _, _, _, _, _, h, _, _, _ => by cases h
  | _ :: _, [], _, _, _, _, h, _, _, _ => by cases h
  | i :: is, d :: ds, _, σ, ρ, ρ1, h, .cons r rs, er, q => by
    refine ⟨_, _, rfl, ?_⟩
    show (is.foldr (fun i u => gCons (gName i) u) gNil) _ (σ.set i (some _)) H Q
    exact setS_ok (ρ := ρ.set i (.val d)) h rs (er.set r) q
theorem setS_len : ∀ {is : List Nat} {ds : List D} {ρ ρ1 : EnvS}, setS is ds ρ = some ρ1 → is.length = ds.length
  | [], [], _, _, _ => rfl
  | [], _ :: _, _, _, h => by cases h
  | _ :: _, [], _, _, h => by cases h
  | _ :: is, _ :: ds, _, _, h => by rw [List.length_cons, List.length_cons, setS_len (ds := ds) h]
theorem tgS_ok {Q : L2.St → Hp → Prop} {tg : Tg} {d : D} {v : V} {ρ1 : EnvS} (h : tg.setS d ρ = some ρ1) (r : Rp K F v d) (er : ER K T F0 H0 G F H σ ρ) (q : ∀ σ2, ER K T F0 H0 G F H σ2 ρ1 → Q σ2 H) : tgG K tg v σ H Q := by
  cases tg with
  | one i =>
    cases h
    exact q _ (er.set r)
  | many is =>
    cases r with
    | tup ha ra => exact ⟨_, _, rfl, .of (er.ex.fh _ _ ha), by rw [ra.length]; exact (setS_len h).symm, setS_ok h ra er q⟩
    | _ => cases h
end
end Tl
set_option maxHeartbeats 4000000
namespace Tl
open PySem PySem.Spec L2
theorem PS.imp {X : Cx} {st : Stmt} {t t' : TS} (h : PS X st t) (i : ∀ Z σ H, t' Z σ H → t Z σ H) : PS X st t' := ⟨fun pins s σ H Z I w => h.run pins s σ H Z I (i _ _ _ w)⟩
theorem PSs.imp {X : Cx} {st : List Stmt} {t t' : TS} (h : PSs X st t) (i : ∀ Z σ H, t' Z σ H → t Z σ H) : PSs X st t' := ⟨fun pins s σ H Z I w => h.run pins s σ H Z I (i _ _ _ w)⟩
theorem nosw_of {g : Cfg} {c : C} {e : Expr} (h : mE g c e = true) (hl : notLc c = true) (tg : Option Expr) (l : Nat) (env : Env) : swapsWith e tg l env = pure false := by
  cases e with
  | ListComp a b s p => cases c <;> first | (exfalso; revert h; simp [mE]; done) | (exfalso; revert hl; simp [notLc]; done)
  | SetComp a b s p => cases c <;> (exfalso; revert h; simp [mE]; done)
  | DictComp a b d s p => cases c <;> (exfalso; revert h; simp [mE]; done)
  | _ => rfl
section
variable {X : Cx} {W : WX} {T : Tbl} {Γ : Fns} {g : Cfg} {F0 H0 G : Hp} {n : Nat}
theorem setLc_D (Gd_ : Gd X W T Γ g) {i : Nat} {y : Str} {py spos : Pos} {elt tg it : Expr} {ifs : List Expr} {scope : Scope} {tg' : Tg} {fI : Env0D → Res (List D)} {fi : Env0D → Res Bool} {fe : Env0D → Res D} {p : Pos} (hy : X.N[i]? = some y) (hyl : X.env.scope.names.lookup y = some .local)
    (hsw : swapsWith (.ListComp elt [⟨tg, it, ifs, 0⟩] scope p) (some (.Name y py)) spos.line X.env = pure true) (hb : blkC g.N g.sc scope (ownOf g.N tg'.slots) = true) (ho : (ownOf g.N tg'.slots).map (·.2) = tg'.slots) (ht : mTg (blkG g scope) tg' tg = true)
    (hI : PI X tg it (iI T X.K W fI)) (hs : ∀ env x, foldedSetIterable it env x = pure x)
    (hi : ∀ (s : Shared) (H : Hp) (C : Addr) (cl : List (Str × Addr)) (fp : List Addr), PTs (X.blk s H scope (compEnvC scope cl C X.env) fp) ifs (tTs T X.K noW fi))
    (he : ∀ (s : Shared) (H : Hp) (C : Addr) (cl : List (Str × Addr)) (fp : List Addr), PE (X.blk s H scope (compEnvC scope cl C X.env) fp) elt (tE T X.K noW fe)) :
    PS X (.Assign [.Name y py] (.ListComp elt [⟨tg, it, ifs, 0⟩] scope p) spos) (tAsg (tE T X.K W fun ρ => (fI ρ).bind fun ds => (lcD (lcF tg' fi fe ρ) ds).bind fun r => lift (gd (sz r.length) (.list r))) (gName i)) := by
  have ok : BlkOk X.N X.env.scope scope (ownOf g.N tg'.slots) := by
    rw [Gd_.N, Gd_.sc]
    exact blkOk_by hb
  refine PS.imp (ps_setLc (g := tgG X.K tg') (tt := tTs T X.K noW fi) (te := tE T X.K noW fe) Gd_.calm Gd_.nd hy hyl hsw hI ok (fun s H C cl fp => pg_D (Gd_.blk s H scope C cl fp) ht) hi he (fun x => hs _ x)) fun Z σ H w => ?_
  rw [ho]
  exact lc_imp w
theorem asg_imp {c : C} {i : Nat} (Z : Ends) (σ : L2.St) (H : Hp) (w : tS X.K T W F0 H0 G (fun ρ => evE Γ c ρ fun d ρ => .nx (ρ.set i (.val d))) Z σ H) : tAsg (tE T X.K W (ev Γ c)) (gName i) Z σ H := by
  obtain ⟨ρ, F, er, p⟩ := w
  exact use_E er p fun d v F' H' er' r p' => p' _ _ _ (er'.set r)
theorem vis_ne {sc : Scope} {x : Str} : True := trivial
/-- x = e -/
theorem set_base (Gd_ : Gd X W T Γ g) {i : Nat} {c : C} {st : Stmt} (h : mS g (.set i c) st = true) : PS X st (tAsg (tE T X.K W (ev Γ c)) (gName i)) := by
  cases st <;> first | (exfalso; revert h; simp [mS]; done) | skip
  rename_i ts e p
  cases ts with
  | nil => exfalso; revert h; simp [mS]
  | cons t ts =>
  cases ts with
  | cons u us => exfalso; revert h; cases t <;> simp [mS]
  | nil =>
  cases t <;> first | (exfalso; revert h; simp [mS]; done) | skip
  rename_i x px
  · skip
    simp only [mS, Bool.and_eq_true, decide_eq_true_eq] at h
    obtain ⟨⟨⟨h1, h2⟩, h3⟩, h4⟩ := h
    by_cases hl : notLc c = true
    · exact PS.imp (ps_set Gd_.nd (by rw [Gd_.N]; exact h1) (Gd_.loc h2) (sE c Gd_ h3).1 (nosw_of h3 hl _ _ _) (Gd_.fnT _ h2)) fun _ _ _ w => w
    · have hl' : notLc c = false := by simpa using hl
      rw [hl', Bool.false_or] at h4
      cases c <;> first | (exfalso; revert hl'; simp [notLc]; done) | skip
      rename_i elt tg it ifs
      obtain ⟨elt2, tg2, it2, ifs2, scope, pe, rfl, k1, k2, k3, k4, k5, k6⟩ := inv_lc h3
      obtain ⟨i1, i2⟩ := sI it Gd_ k4
      have h4' : (match g.sc.names.lookup x with
        | some .local => (px.line == pe.line) && !(scope.names.any fun (n, k) => n == x && (k == .local || k == .cell))
        | some .cell => true
        | _ => false) = true := h4
      split at h4'
      · rename_i hloc
        rw [Bool.and_eq_true, Bool.not_eq_true'] at h4'
        have hyl : X.env.scope.names.lookup x = some .local := by rw [Gd_.sc]; exact hloc
        refine PS.imp (⟨fun pins s σ H Z I w => (setLc_D Gd_ (T := T) (i := i) (y := x) (py := px) (spos := p) (fi := evIfs Γ ifs) (fe := ev Γ elt) (by rw [Gd_.N]; exact h1) hyl (sw_true I.ok.kind hyl h4'.1 h4'.2) k1 k2 k3 i1 i2 (fun s H C cl fp => (sA ifs (Gd_.blk s H scope C cl fp)).2 k5) (fun s H C cl fp => (sE elt (Gd_.blk s H scope C cl fp) k6).1)).run pins s σ H Z I w⟩ : PS X _ (tAsg (tE T X.K W (ev Γ (.lc elt tg it ifs))) (gName i))) fun _ _ _ w => w
      · rename_i hcel
        have hk : (X.env.kindOf x == some .local) = false := by
          show (X.env.scope.names.lookup x == some .local) = false
          rw [Gd_.sc, hcel]
          rfl
        have hsw : ∀ l, swapsWith (.ListComp elt2 [⟨tg2, it2, ifs2, 0⟩] scope pe) (some (.Name x px)) l X.env = pure false := fun l => by
          unfold swapsWith
          dsimp only
          rw [hk]
          simp
        exact PS.imp (ps_set Gd_.nd (by rw [Gd_.N]; exact h1) (Gd_.loc h2) (sE (.lc elt tg it ifs) Gd_ h3).1 (hsw _) (Gd_.fnT _ h2)) fun _ _ _ w => w
      · cases h4'
/-- x = [] -/
theorem set_S (Gd_ : Gd X W T Γ g) {i : Nat} {c : C} {st : Stmt} (h : mS g (.set i c) st = true) : PS X st (tS X.K T W F0 H0 G (fun ρ => evE Γ c ρ fun d ρ => .nx (ρ.set i (.val d)))) := PS.imp (set_base Gd_ h) asg_imp
theorem new_S (Gd_ : Gd X W T Γ g) {i : Nat} {st : Stmt} (h : mS g (.new i) st = true) : PS X st (tS X.K T W F0 H0 G (fun ρ => .nx (ρ.set i (.own [])))) := by
  cases st <;> first | (exfalso; revert h; simp [mS]; done) | skip
  rename_i ts e p
  cases ts with
  | nil => exfalso; revert h; simp [mS]
  | cons t ts =>
  cases ts with
  | cons u us => exfalso; revert h; cases t <;> simp [mS]
  | nil =>
  cases t <;> first | (exfalso; revert h; simp [mS]; done) | skip
  rename_i x px
  cases e <;> first | (exfalso; revert h; simp [mS]; done) | skip
  rename_i es pe
  cases es with
  | cons u us => exfalso; revert h; simp [mS]
  | nil =>
  · skip
    simp only [mS, Bool.and_eq_true, decide_eq_true_eq] at h
    refine PS.imp (ps_set Gd_.nd (by rw [Gd_.N]; exact h.1) (Gd_.loc h.2) (pe_lst pa_nil) rfl (Gd_.fnT _ h.2)) fun Z σ H w => ?_
    obtain ⟨ρ, F, er, q⟩ := w
    exact ⟨Nat.zero_le _, fun a n => q _ _ _ (er.new n)⟩
theorem app_S (Gd_ : Gd X W T Γ g) {i : Nat} {c : C} {st : Stmt} (h : mS g (.app i c) st = true) : PS X st (tS X.K T W F0 H0 G (exS Γ n (.app i c))) := by
  cases st <;> first | (exfalso; revert h; simp [mS]; done) | skip
  rename_i e p
  cases e <;> first | (exfalso; revert h; simp [mS]; done) | skip
  rename_i f as kw cpos
  cases f <;> first | (exfalso; revert h; simp [mS]; done) | skip
  rename_i o m apos
  cases o <;> first | (exfalso; revert h; simp [mS]; done) | skip
  rename_i x px
  cases as with
  | nil => exfalso; revert h; simp [mS]
  | cons e as =>
  cases as with
  | cons u us => exfalso; revert h; simp [mS]
  | nil =>
  cases kw with
  | cons u us => exfalso; revert h; simp [mS]
  | nil =>
  · skip
    simp only [mS, Bool.and_eq_true, decide_eq_true_eq] at h
    obtain ⟨⟨⟨⟨⟨rfl, h1⟩, h2⟩, h3⟩, h4⟩, h5⟩ := h
    obtain ⟨o1, o2, _⟩ := okN_of h3
    have hs := star_of h4 [] X.env
    refine PS.imp (ps_expr (pe_bm (X := X) (T := "list") (id := "list.append") (name := "append") (r := rAppend) F.plainAttrs_list F.slot_list_append F.type_list_append mt_append (pe_var (i := i) (by rw [Gd_.N]; exact h1) (Gd_.vis h2) o1 o2) (pa_cons (sE c Gd_ h4).1 pa_nil hs) rfl (by rw [hs]; rfl) h5 hs rfl) rfl) fun Z σ H w => ?_
    obtain ⟨ρ, F, er, q⟩ := w
    unfold exS at q
    cases hi : ρ[i]? with
    | none =>
      rw [hi] at q
      exact q.elim
    | some s =>
      rw [hi] at q
      cases s with
      | no => exact q.elim
      | val d => exact q.elim
      | own ds =>
        obtain ⟨a, vs, e1, e2, e3, e4, r⟩ := er.own i ds hi
        refine ⟨.ref a, e1, .inl ⟨rfl, vs, .of e2⟩, ?_⟩
        refine use_E er q fun d v F' H' er' rv p' => ?_
        unfold appS at p'
        cases hi' : (keepM (vsC c) d ρ)[i]? with
        | none =>
          rw [hi'] at p'
          exact p'.elim
        | some s' =>
          rw [hi'] at p'
          cases s' with
          | no => exact p'.elim
          | val d => exact p'.elim
          | own ds' =>
            obtain ⟨a', vs', k1, k2, k3, k4, k5⟩ := er'.own i ds' hi'
            rw [e1] at k1
            cases k1
            by_cases hz : ds'.length < sizeLine
            · have p2 : Post X.K T W F0 H0 G (.nx ((keepM (vsC c) d ρ).set i (.own (ds' ++ [d])))) Z := by
                have z : Post X.K T W F0 H0 G (if ds'.length < sizeLine then .nx ((keepM (vsC c) d ρ).set i (.own (ds' ++ [d]))) else .stuck) Z := p'
                rw [if_pos hz] at z
                exact z
              exact ⟨a, vs', v, rfl, rfl, k2, by rw [k5.length]; exact hz, p2 _ _ _ (er'.app hi' e1 k2 k3 k4 k5 rv)⟩
            · have z : Post X.K T W F0 H0 G (if ds'.length < sizeLine then .nx ((keepM (vsC c) d ρ).set i (.own (ds' ++ [d]))) else .stuck) Z := p'
              rw [if_neg hz] at z
              exact z.elim
end
end Tl
set_option maxHeartbeats 4000000
namespace Tl
open PySem PySem.Spec L2
theorem Fz.grow {T : Tbl} {F H H' : Hp} (z : Fz T F H) (s : Same H H') : Fz T F H' := ⟨z.sm.trans s, z.nt, z.tb.ext s⟩
theorem Ex.grow {T : Tbl} {F0 H0 F H H' : Hp} (x : Ex T F0 H0 F H) (s : Same H H') : Ex T F0 H0 F H' := ⟨x.hh.trans (LamX.ExtN.of s), x.ff, x.fh.grow s, x.nw⟩
section
variable {X : Cx} {W : WX} {T : Tbl} {Γ : Fns} {g : Cfg} {F0 H0 G F H : Hp} {n : Nat} {K : PySem.W.Frag} {σ : L2.St} {ρ : EnvS} {Z : Ends}
theorem ER.grow {H' : Hp} (er : ER K T F0 H0 G F H σ ρ) (s : Same H H') : ER K T F0 H0 G F H' σ ρ := ⟨er.ex.grow s, er.fl, er.len, er.val, fun i ds h => by
  obtain ⟨a, vs, e1, e2, e3⟩ := er.own i ds h
  exact ⟨a, vs, e1, s _ _ e2, e3⟩, er.dist⟩
/-- a slot of which nothing is known -/
theorem ER.hide {i : Nat} {x : Option V} (er : ER K T F0 H0 G F H σ ρ) : ER K T F0 H0 G F H (σ.set i x) (ρ.set i .no) where
  ex := er.ex
  fl := er.fl
  len := by rw [List.length_set, List.length_set, er.len]
  val := fun j e h => by
    by_cases hj : i = j
    · subst hj
      by_cases hl : i < ρ.length
      · rw [List.getElem?_set_self hl] at h
        cases h
      · rw [List.getElem?_eq_none (by rw [List.length_set]; omega)] at h
        cases h
    · rw [List.getElem?_set_ne hj] at h ⊢
      exact er.val j e h
  own := fun j ds h => by
    by_cases hj : i = j
    · subst hj
      by_cases hl : i < ρ.length
      · rw [List.getElem?_set_self hl] at h
        cases h
      · rw [List.getElem?_eq_none (by rw [List.length_set]; omega)] at h
        cases h
    · rw [List.getElem?_set_ne hj] at h ⊢
      exact er.own j ds h
  dist := fun j k ds es a hjk h1 h2 => by
    have g : ∀ {n : Nat} {ds : List D}, (ρ.set i .no)[n]? = some (.own ds) → i ≠ n := fun {n ds} h z => by
      subst z
      by_cases hl : i < ρ.length
      · rw [List.getElem?_set_self hl] at h
        cases h
      · rw [List.getElem?_eq_none (by rw [List.length_set]; omega)] at h
        cases h
    have g1 := g h1
    have g2 := g h2
    rw [List.getElem?_set_ne g1] at h1
    rw [List.getElem?_set_ne g2] at h2
    rw [List.getElem?_set_ne g1, List.getElem?_set_ne g2]
    exact er.dist j k ds es a hjk h1 h2
/-! raise -/
theorem ExF.raises {X : Cx} {c : Str} (h : ExF X.K X.mg c) : Raises X (.ref (He.ga X.K c)) := fun M h' k => by
  obtain ⟨_, _, h3, h4⟩ := He.exc_ok h.ok
  exact ⟨PySem.W.looks_subIn k h3, PySem.W.looks_typeIn k h4⟩
theorem rai_S (Gd_ : Gd X W T Γ g) {c : Str} {st : Stmt} (h : mS g (.rai c) st = true) : PS X st (tS X.K T W F0 H0 G (fun ρ => .exc c ρ)) := by
  cases st <;> first | (exfalso; revert h; simp [mS]; done) | skip
  simp only [mS, Bool.and_eq_true, decide_eq_true_eq] at h
  obtain ⟨h1, h2⟩ := h
  obtain ⟨x, px, m, j, pv, cpos, rfl, rfl, h3⟩ := mRai_of h1
  obtain ⟨rfl, k1, k2, k3⟩ := isG_of Gd_ h3
  have xf := Gd_.exc _ h2
  obtain ⟨q1, q2, _, _⟩ := He.exc_ok xf.ok
  refine PS.imp (ps_raise Gd_.calm Gd_.tk (pmk_own PySem.F.excBase_ValueError q1 xf.glo q2 xf.raises k1 k2)) fun Z σ H w => ?_
  obtain ⟨ρ, F, er, p⟩ := w
  exact p σ F H er
theorem exp_S (Gd_ : Gd X W T Γ g) {c : C} {st : Stmt} (h : mS g (.exp c) st = true) : PS X st (tS X.K T W F0 H0 G (fun ρ => evE Γ c ρ fun _ ρ => .nx ρ)) := by
  cases st <;> first | (exfalso; revert h; simp [mS]; done) | skip
  simp only [mS, Bool.and_eq_true] at h
  refine PS.imp (ps_expr (sE c Gd_ h.1).1 (nosw_of h.1 h.2 _ _ _)) fun Z σ H w => ?_
  obtain ⟨ρ, F, er, q⟩ := w
  exact use_E er q fun d v F' H' er' rv p' => p' σ F' H' er'
theorem ext_S (Gd_ : Gd X W T Γ g) {i : Nat} {c : C} {st : Stmt} (h : mS g (.ext i c) st = true) : PS X st (tS X.K T W F0 H0 G (exS Γ n (.ext i c))) := by
  cases st <;> first | (exfalso; revert h; simp [mS]; done) | skip
  · simp only [mS] at h
    obtain ⟨x, px, apos, e, cpos, rfl, h1, h2, h3, h4, h5⟩ := mMt_of h
    obtain ⟨o1, o2, _⟩ := okN_of h3
    have hs := star_of h4 [] X.env
    refine PS.imp (ps_expr (pe_bm (X := X) (T := "list") (id := "list.extend") (name := "extend") (r := rExtend) F.plainAttrs_list F.slot_list_extend F.type_list_extend mt_extend (pe_var (i := i) (by rw [Gd_.N]; exact h1) (Gd_.vis h2) o1 o2) (pa_cons (sE c Gd_ h4).1 pa_nil hs) rfl (by rw [hs]; rfl) h5 hs rfl) rfl) fun Z σ H w => ?_
    obtain ⟨ρ, F, er, q⟩ := w
    unfold exS at q
    cases hi : ρ[i]? with
    | none =>
      rw [hi] at q
      exact q.elim
    | some s =>
      rw [hi] at q
      cases s with
      | no => exact q.elim
      | val d => exact q.elim
      | own ds =>
        obtain ⟨a, vs, e1, e2, e3, e4, r⟩ := er.own i ds hi
        refine ⟨.ref a, e1, .inl ⟨rfl, vs, .of e2⟩, ?_⟩
        refine use_E er q fun d v F' H' er' rv p' => ?_
        unfold extS at p'
        cases hi' : (keepM (vsC c) d ρ)[i]? with
        | none =>
          rw [hi'] at p'
          exact p'.elim
        | some s' =>
          rw [hi'] at p'
          cases s' with
          | no => cases d <;> exact p'.elim
          | val d => exact p'.elim
          | own ds' =>
            cases rv with
            | lst hb rb =>
              obtain ⟨a', vs', k1, k2, k3, k4, k5⟩ := er'.own i ds' hi'
              rw [e1] at k1
              cases k1
              rename_i b zs es
              by_cases hz : ds'.length + es.length ≤ sizeLine
              · have p2 : Post X.K T W F0 H0 G (.nx ((keepM (vsC c) (.list es) ρ).set i (.own (ds' ++ es)))) Z := by
                  have z : Post X.K T W F0 H0 G (if ds'.length + es.length ≤ sizeLine then .nx ((keepM (vsC c) (.list es) ρ).set i (.own (ds' ++ es))) else .stuck) Z := p'
                  rw [if_pos hz] at z
                  exact z
                exact ⟨a, b, vs', zs, rfl, rfl, k2, er'.ex.fh _ _ hb, by rw [k5.length, rb.length]; exact hz, p2 _ _ _ (er'.ext hi' e1 k2 k3 k4 k5 rb)⟩
              · have z : Post X.K T W F0 H0 G (if ds'.length + es.length ≤ sizeLine then .nx ((keepM (vsC c) (.list es) ρ).set i (.own (ds' ++ es))) else .stuck) Z := p'
                rw [if_neg hz] at z
                exact z.elim
            | _ => exact p'.elim
end
end Tl
set_option maxHeartbeats 4000000
namespace Tl
open PySem PySem.Spec L2
section
variable {X : Cx} {W : WX} {T : Tbl} {Γ : Fns} {g : Cfg} {F0 H0 G F H : Hp} {n : Nat} {K : PySem.W.Frag} {σ : L2.St} {ρ : EnvS} {Z : Ends}
/-! a, b = e -/
theorem fm_len {α β : Type} (f : α → Option β) : ∀ l : List α, (l.filterMap f).length ≤ l.length
  | [] => Nat.le_refl _
  | a :: l => by
    have := fm_len f l
    rw [List.filterMap_cons]
    cases f a with
    | none => exact Nat.le_succ_of_le this
    | some b => exact Nat.succ_le_succ this
theorem cel_len (Gd_ : Gd X W T Γ g) (l : Nat) : ∀ {es : List Expr}, celTup g es = true → (es.filterMap fun
    | .Name id pos => if X.env.kindOf id == some .local && pos.line == l then some id else none
    | _ => none).length < es.length
  | [], h => by cases h
  | e :: es, h => by
    rw [celTup, List.any_cons, Bool.or_eq_true] at h
    rw [List.filterMap_cons, List.length_cons]
    rcases h with h | h
    · cases e <;> first | (cases h; done) | skip
      rename_i x p
      have hk : (X.env.kindOf x == some .local) = false := by
        show (X.env.scope.names.lookup x == some .local) = false
        rw [Gd_.sc]
        revert h
        unfold isCel
        dsimp only
        split
        · rename_i q
          intro _
          rw [q]
          rfl
        · intro h
          cases h
      simp only [hk, Bool.false_and, Bool.false_eq_true, if_false]
      exact Nat.lt_succ_of_le (fm_len _ es)
    · have z := cel_len Gd_ l h
      split
      · exact Nat.lt_succ_of_lt z
      · rw [List.length_cons]
        exact Nat.succ_lt_succ z
theorem unp_S (Gd_ : Gd X W T Γ g) {is : List Nat} {c : C} {st : Stmt} (h : mS g (.unp is c) st = true) : PS X st (tS X.K T W F0 H0 G (fun ρ => evE Γ c ρ fun d ρ => unpS is d ρ)) := by
  cases st <;> first | (exfalso; revert h; simp [mS]; done) | skip
  rename_i ts e p
  cases ts with
  | nil => exfalso; revert h; simp [mS]
  | cons t ts =>
  cases ts with
  | cons u us => exfalso; revert h; cases t <;> simp [mS]
  | nil =>
  cases t <;> first | (exfalso; revert h; simp [mS]; done) | skip
  rename_i es k pt
  simp only [mS, Bool.and_eq_true] at h
  obtain ⟨⟨⟨h1, h2⟩, h3⟩, h4⟩ := h
  have hw : swappedStores [.Tuple es k pt] e X.env = pure none := by
    cases e with
    | Tuple vs k2 p2 =>
      rw [Bool.or_eq_true] at h4
      rcases h4 with h4 | h4
      · simp only [notTup2, Bool.and_eq_true, decide_eq_true_eq] at h4
        have e1 : (es.length == 2) = false := by simp [h4.1]
        have e2 : (es.length == 3) = false := by simp [h4.2]
        simp [swappedStores, h4.1, h4.2]
      · have z := cel_len Gd_ ((es.head?.map (·.pos.line)).getD 0) h4
        unfold swappedStores
        dsimp only
        split
        · rfl
        split
        · rfl
        rw [if_pos]
        rw [Bool.or_eq_true]
        left
        rw [bne_iff_ne]
        exact Nat.ne_of_lt z
    | _ => rfl
  have hs : swapsWithSole [.Tuple es k pt] e p.line X.env = pure false := by
    unfold swapsWithSole
    exact nosw_of h2 h3 _ _ _
  refine PS.imp (ps_asg (sE c Gd_ h2).1 (pg_D Gd_ (tg := .many is) (e := .Tuple es k pt) h1) hs hw) fun Z σ H w => ?_
  obtain ⟨ρ, F, er, q⟩ := w
  refine use_E er q fun d v F' H' er' rv p' => ?_
  unfold unpS at p'
  cases d with
  | tuple ds =>
    cases hset : setS is ds (keepM (vsC c) (.tuple ds) ρ) with
    | none =>
      simp only [hset] at p'
      exact p'.elim
    | some ρ1 =>
      simp only [hset] at p'
      exact tgS_ok (tg := .many is) (d := .tuple ds) (ρ1 := ρ1) (show Tl.setS is ds _ = some ρ1 from hset) rv er' fun σ2 er2 => p' _ _ _ er2
  | _ => exact p'.elim
/-! lists of expressions -/
theorem RpA.of_pure' {F F' : Hp} (s : ∀ a xs, F a = some (.tup xs) → F' a = some (.tup xs)) {vs : List V} {ds : List D} (h : RpA K F vs ds) (p : pureA ds = true) : RpA K F' vs ds := RpA.of_pure s h p
theorem back_tup (er : ER K T F0 H0 G F H σ ρ) {m : List Nat} {F2 H2 : Hp} (x : Ex T (lend F H σ ρ m) H F2 H2) : ∀ a xs, F2 a = some (.tup xs) → unlend F2 σ ρ m a = some (.tup xs) := fun a xs e => by
  have hl : ¬ Lent σ ρ m a := fun hl => by
    obtain ⟨vs, q1, _⟩ := er.lent hl
    have q2 := x.ff a _ (by rw [lend_yes hl]; exact q1)
    rw [e] at q2
    cases q2
  rw [unlend_no hl]
  exact e
theorem use_Es {cs : Cs} {f : List D → EnvS → Fl} {Q : List V → Hp → Prop} (er : ER K T F0 H0 G F H σ ρ) (p : Post K T W F0 H0 G (evEs Γ cs ρ f) Z)
    (hQ : ∀ ds vs F' H', ER K T F0 H0 G F' H' σ (keepMs (vsCs cs) ds ρ) → RpA K F' vs ds → Post K T W F0 H0 G (f ds (keepMs (vsCs cs) ds ρ)) Z → Q vs H') : tAs T K W (evs Γ cs) σ H Q := by
  refine ⟨seeM (vsCs cs) ρ, _, er.lend_fz (vsCs cs), er.view (vsCs cs), ?_⟩
  unfold evEs at p
  cases h : evs Γ cs (seeM (vsCs cs) ρ) with
  | ok d =>
    rw [h] at p
    intro v F' H' x r
    by_cases hp : pureA d = true
    · have e1 : keepMs (vsCs cs) d ρ = ρ := if_pos hp
      exact hQ d v _ H' (by rw [e1]; exact (er.back x).1) (RpA.of_pure (back_tup er x) r hp) p
    · have e1 : keepMs (vsCs cs) d ρ = freezeM (vsCs cs) ρ := if_neg hp
      exact hQ d v F' H' (by rw [e1]; exact er.frozen x) r p
  | exc x =>
    rw [h] at p
    intro H' k z
    obtain ⟨F', er'⟩ := er.exc k z
    exact p σ F' H' er'
  | stuck =>
    rw [h] at p
    exact p
theorem isLoc_of (Gd_ : Gd X W T Γ g) {x : Str} (h : isLoc g x = true) : X.env.scope.names.lookup x = some .local := by
  rw [Gd_.sc]
  unfold isLoc at h
  split at h
  · assumption
  · cases h
theorem noStar_of : ∀ {vs : List Expr}, noStar vs = true → (vs.any fun | .Starred .. => true | _ => false) = false
  | [], _ => rfl
  | e :: es, h => by
    cases e <;> first | (simp [noStar] at h; done) | (simp only [noStar] at h; rw [List.any_cons, noStar_of h]; rfl)
theorem locsOn_of (Gd_ : Gd X W T Γ g) {l : Nat} : ∀ {es : List Expr} {ns : List Str}, locsOn g l es = some ns → (es.filterMap fun
    | .Name id pos => if X.env.kindOf id == some .local && pos.line == l then some id else none
    | _ => none) = ns ∧ ns.length = es.length
  | [], ns, h => by
    cases h
    exact ⟨rfl, rfl⟩
  | e :: es, ns, h => by
    cases e <;> first | (simp [locsOn] at h; done) | skip
    rename_i x p
    rw [locsOn] at h
    split at h
    · rename_i hc
      rw [Bool.and_eq_true] at hc
      obtain ⟨ms, h1, rfl⟩ := Option.map_eq_some_iff.mp h
      obtain ⟨e1, e2⟩ := locsOn_of Gd_ h1
      have hk : (X.env.kindOf x == some .local) = true := by
        show (X.env.scope.names.lookup x == some .local) = true
        rw [isLoc_of Gd_ hc.1]
        rfl
      refine ⟨?_, by rw [List.length_cons, List.length_cons, e2]⟩
      rw [List.filterMap_cons]
      simp only [hk, hc.2, Bool.and_self, if_true]
      rw [e1]
    · cases h
theorem par_sw (Gd_ : Gd X W T Γ g) (hk : X.env.scope.kind = .function) {ts vs : List Expr} {k k2 : Nat} {pt pt2 : Pos} (h : parOk g ts vs = true) : ∃ ns, locsOn g ((ts.head?.map (·.pos.line)).getD 0) ts = some ns ∧ ns.eraseDups.length = ns.length ∧ swappedStores [.Tuple ts k pt] (.Tuple vs k2 pt2) X.env = pure (some ns) := by
  simp only [parOk, Bool.and_eq_true, Bool.or_eq_true, decide_eq_true_eq, Bool.not_eq_true'] at h
  obtain ⟨⟨⟨⟨⟨h1, h2⟩, h3⟩, h4⟩, h5⟩, h6⟩ := h
  cases hl : locsOn g ((ts.head?.map (·.pos.line)).getD 0) ts with
  | none => rw [hl] at h6; cases h6
  | some ns =>
    rw [hl] at h6
    have h6 : ns.eraseDups.length = ns.length := of_decide_eq_true h6
    refine ⟨ns, rfl, h6, ?_⟩
    obtain ⟨e1, e2⟩ := locsOn_of Gd_ hl
    have b1 : (!(ts.length == 2 || ts.length == 3) || vs.length != ts.length || X.env.blockKind != .function) = false := by
      have : X.env.blockKind = .function := by
        unfold Env.blockKind
        rw [hk]
        rfl
      rw [this, h2]
      rcases h1 with h1 | h1 <;> simp [h1]
    have b2 := noStar_of h3
    show (do
      let some (ts, vs) := some (ts, vs) | return none
      if !(ts.length == 2 || ts.length == 3) || vs.length != ts.length || X.env.blockKind != .function then return none
      if vs.any fun | .Starred .. => true | _ => false then return none
      let line := (ts.head?.map (·.pos.line)).getD 0
      let names := ts.filterMap fun
        | .Name id pos => if X.env.kindOf id == some .local && pos.line == line then some id else none
        | _ => none
      if names.length != ts.length || names.eraseDups.length != names.length then return none
      if vs.all (foldedForSure 8) then return none
      if vs.all (constantsAlone 8) then unsupported "assign.tuple-of-constant-expressions:order-of-the-stores"
      return some names : Sem (Option (List Str))) = _
    dsimp only
    rw [b1, b2, e1, h4, h5]
    simp [e2, h6]
theorem setS_vals : ∀ {is : List Nat} {ds : List D} {vs : List V} {σ : L2.St} {ρ ρ1 : EnvS}, setS is ds ρ = some ρ1 → RpA K F vs ds → ER K T F0 H0 G F H σ ρ →
    ER K T F0 H0 G F H ((is.zip vs).foldl (fun σ p => σ.set p.1 (some p.2)) σ) ρ1
  | [], [], _, σ, ρ, ρ1, h, .nil, er => by
    cases h
    exact er
  | [], _ :: _, _, _, _, _, h, _, _ => by cases h
  | _ :: _, [], _, _, _, _, h, _, _ => by cases h
  | i :: is, d :: ds, _, σ, ρ, ρ1, h, .cons r rs, er => by
    rw [List.zip_cons_cons, List.foldl_cons]
    exact setS_vals (ρ := ρ.set i (.val d)) h rs (er.set r)
/-! a, b = x, y -/
theorem mNames_cons {is : List Nat} {e : Expr} {es : List Expr} (h : mNames g is (e :: es) = true) : ∃ i js x p, is = i :: js ∧ e = .Name x p ∧ g.N[i]? = some x ∧ mNames g js es = true := by
  cases is with
  | nil => cases e <;> simp [mNames] at h
  | cons i js =>
    cases e <;> first | (simp [mNames] at h; done) | skip
    rename_i x p
    simp only [mNames, Bool.and_eq_true, decide_eq_true_eq] at h
    exact ⟨i, js, x, p, rfl, rfl, h.1.1, h.2⟩
theorem mNames_nil {is : List Nat} (h : mNames g is [] = true) : is = [] := by
  cases is with
  | nil => rfl
  | cons i js => simp [mNames] at h
theorem locsOn_cons {l : Nat} {x : Str} {p : Pos} {es : List Expr} {ns : List Str} (h : locsOn g l (.Name x p :: es) = some ns) : ∃ ms, ns = x :: ms ∧ isLoc g x = true ∧ locsOn g l es = some ms := by
  rw [locsOn] at h
  split at h
  · rename_i hc
    rw [Bool.and_eq_true] at hc
    obtain ⟨ms, h1, h2⟩ := Option.map_eq_some_iff.mp h
    exact ⟨ms, h2.symm, hc.1, h1⟩
  · cases h
theorem len2 {α : Type} {l : List α} (h : l.length = 2) : ∃ a b, l = [a, b] := by
  match l, h with
  | [a, b], _ => exact ⟨a, b, rfl⟩
theorem len3 {α : Type} {l : List α} (h : l.length = 3) : ∃ a b c, l = [a, b, c] := by
  match l, h with
  | [a, b, c], _ => exact ⟨a, b, c, rfl⟩
theorem par_S (Gd_ : Gd X W T Γ g) {is : List Nat} {cs : Cs} {st : Stmt} (h : mS g (.par is cs) st = true) : PS X st (tS X.K T W F0 H0 G (exS Γ n (.par is cs))) := by
  cases st <;> first | (exfalso; revert h; simp [mS]; done) | skip
  rename_i ts e p
  cases ts with
  | nil => exfalso; revert h; simp [mS]
  | cons t ts =>
  cases ts with
  | cons u us => exfalso; revert h; cases t <;> simp [mS]
  | nil =>
  cases t <;> first | (exfalso; revert h; simp [mS]; done) | skip
  rename_i es k pt
  cases e <;> first | (exfalso; revert h; simp [mS]; done) | skip
  rename_i vs k2 pt2
  simp only [mS, Bool.and_eq_true] at h
  obtain ⟨⟨h1, h2⟩, h3⟩ := h
  have hN := Gd_.nd
  have hlen := h3
  simp only [parOk, Bool.and_eq_true, Bool.or_eq_true, decide_eq_true_eq, Bool.not_eq_true'] at hlen
  obtain ⟨⟨⟨⟨⟨l1, l2⟩, _⟩, _⟩, _⟩, _⟩ := hlen
  have nd_ne : ∀ {i j : Nat} {x y : Str}, X.N[i]? = some x → X.N[j]? = some y → x ≠ y → i ≠ j := fun h1 h2 hne z => by
    subst z
    rw [h1] at h2
    exact hne (Option.some.inj h2)
  have hgN : ∀ {i : Nat} {x : Str}, g.N[i]? = some x → X.N[i]? = some x := fun h => by rw [Gd_.N]; exact h
  have fin : ∀ {Z : Ends} {σ : L2.St} {H : Hp} {Q : List V → Hp → Prop}, tS X.K T W F0 H0 G (exS Γ n (.par is cs)) Z σ H → (∀ (us : List V) (H' : Hp), is.length = us.length → Z.nx ((is.zip us).foldl (fun σ p => σ.set p.1 (some p.2)) σ) H' → Q us H') → tAs T X.K W (evs Γ cs) σ H Q := fun {Z σ H Q} w hQ => by
    obtain ⟨ρ, F, er, q⟩ := w
    unfold exS at q
    refine use_Es er q fun ds us F' H' er' rv p' => ?_
    cases hset : setS is ds (keepMs (vsCs cs) ds ρ) with
    | none =>
      rw [hset] at p'
      exact p'.elim
    | some ρ1 =>
      rw [hset] at p'
      exact hQ us H' ((setS_len hset).trans rv.length.symm) (p' _ _ _ (setS_vals hset rv er'))
  have hpa := ((sA cs Gd_).1 h2).1
  refine ⟨fun pins s σ H Z I w => ?_⟩
  obtain ⟨ns, q1, q3, q2⟩ := par_sw (k := k) (k2 := k2) (pt := pt) (pt2 := pt2) Gd_ I.ok.kind h3
  rcases l1 with l1 | l1
  · obtain ⟨a, b, rfl⟩ := len2 (l2.trans l1)
    obtain ⟨ea, eb, rfl⟩ := len2 l1
    obtain ⟨i, js, x, px, rfl, rfl, a1, h1⟩ := mNames_cons h1
    obtain ⟨j, js, y, py, rfl, rfl, b1, h1⟩ := mNames_cons h1
    have := mNames_nil h1
    subst this
    obtain ⟨ms, rfl, c1, q1⟩ := locsOn_cons q1
    obtain ⟨ms, rfl, c2, q1⟩ := locsOn_cons q1
    cases q1
    have hxy : x ≠ y := fun z => by
      subst z
      simp [List.eraseDups_cons] at q3
    refine (ps_par Gd_.calm hN (hgN a1) (hgN b1) (nd_ne (hgN a1) (hgN b1) hxy) (isLoc_of Gd_ c1) (isLoc_of Gd_ c2) hpa q2).run pins s σ H Z I (fin w fun us H' e1 hz => ?_)
    obtain ⟨u, v, rfl⟩ := len2 e1.symm
    exact ⟨u, v, rfl, hz⟩
  · obtain ⟨a, b, c, rfl⟩ := len3 (l2.trans l1)
    obtain ⟨ea, eb, ec, rfl⟩ := len3 l1
    obtain ⟨i, js, x, px, rfl, rfl, a1, h1⟩ := mNames_cons h1
    obtain ⟨j, js, y, py, rfl, rfl, b1, h1⟩ := mNames_cons h1
    obtain ⟨l, js, z, pz, rfl, rfl, d1, h1⟩ := mNames_cons h1
    have := mNames_nil h1
    subst this
    obtain ⟨ms, rfl, c1, q1⟩ := locsOn_cons q1
    obtain ⟨ms, rfl, c2, q1⟩ := locsOn_cons q1
    obtain ⟨ms, rfl, c3, q1⟩ := locsOn_cons q1
    cases q1
    have hxy : x ≠ y := fun e => by
      subst e
      by_cases e2 : z = x <;> simp [List.eraseDups_cons, e2] at q3
    have hxz : x ≠ z := fun e => by
      subst e
      by_cases e2 : y = x <;> simp [List.eraseDups_cons, e2] at q3
    have hyz : y ≠ z := fun e => by
      subst e
      by_cases e2 : y = x <;> simp [List.eraseDups_cons, e2] at q3
    refine (ps_par3 Gd_.calm hN (hgN a1) (hgN b1) (hgN d1) (nd_ne (hgN a1) (hgN b1) hxy) (nd_ne (hgN a1) (hgN d1) hxz) (nd_ne (hgN b1) (hgN d1) hyz) (isLoc_of Gd_ c1) (isLoc_of Gd_ c2) (isLoc_of Gd_ c3) hpa q2).run pins s σ H Z I (fin w fun us H' e1 hz => ?_)
    obtain ⟨u, v, t, rfl⟩ := len3 e1.symm
    exact ⟨u, v, t, rfl, hz⟩
end
end Tl
set_option maxHeartbeats 4000000
namespace Tl
open PySem PySem.Spec L2
/-- the tuples alone -/
def tupsOf (F : Hp) : Hp := fun a => match F a with
  | some (.tup xs) => some (.tup xs)
  | _ => none
theorem tupsOf_some {F : Hp} {a : Addr} {o : HO} (h : tupsOf F a = some o) : ∃ xs, o = .tup xs ∧ F a = some (.tup xs) := by
  unfold tupsOf at h
  split at h
  · rename_i xs e
    cases h
    exact ⟨xs, rfl, e⟩
  · cases h
theorem tupsOf_tup {F : Hp} {a : Addr} {xs : List V} (h : F a = some (.tup xs)) : tupsOf F a = some (.tup xs) := by
  unfold tupsOf
  rw [h]
open Classical in
/-- F, and what F' has beside a -/
noncomputable def joinF (F F' : Hp) (a : Addr) : Hp := fun b => match F b with
  | some o => some o
  | none => if b = a then none else F' b
section
variable {X : Cx} {W : WX} {T : Tbl} {Γ : Fns} {g : Cfg} {F0 H0 G F H : Hp} {n : Nat} {K : PySem.W.Frag} {σ : L2.St} {ρ : EnvS} {Z : Ends}
theorem ER.kept {H' : Hp} (er : ER K T F0 H0 G F H σ ρ) (k : Kp H H') (tb : LamX.Tabs T H') : ER K T F0 H0 G F H' σ ρ where
  ex := ⟨er.ex.hh.trans k, er.ex.ff, ⟨fun b o e => k b o (er.ex.fh.sm b o e) fun ps z => er.ex.fh.nt b ps (by rw [e, z]), er.ex.fh.nt, tb⟩, er.ex.nw⟩
  fl := er.fl
  len := er.len
  val := er.val
  own := fun i ds h => by
    obtain ⟨a, vs, e1, e2, e3⟩ := er.own i ds h
    exact ⟨a, vs, e1, k _ _ e2 (fun _ z => nomatch z), e3⟩
  dist := er.dist
theorem ER.fresh (er : ER K T F0 H0 G F H σ ρ) {F' H' : Hp} (x : Ex T (tupsOf F) H F' H') {a : Addr} {vs : List V} {ds : List D} (ha : F' a = some (.lst vs)) (ra : RpA K F' vs ds) (hp : pureA ds = true) {i : Nat} :
    ER K T F0 H0 G (joinF F F' a) H' (σ.set i (some (.ref a))) (ρ.set i (.own ds)) := by
  have nH : Nt H a := by
    rcases x.nw a _ ha with h | h
    · obtain ⟨xs, e, _⟩ := tupsOf_some h
      cases e
    · exact h
  have Fa : F a = none := by
    cases q : F a with
    | none => rfl
    | some o =>
      obtain ⟨ps, e⟩ := nH o (er.ex.fh.sm a o q)
      subst e
      exact absurd q (er.ex.fh.nt a ps)
  have inF : ∀ {b : Addr} {o : HO}, F b = some o → joinF F F' a b = some o := fun {b o} h => by
    unfold joinF
    rw [h]
  have jn : ∀ {b : Addr} {o : HO}, joinF F F' a b = some o → F b = some o ∨ (F b = none ∧ b ≠ a ∧ F' b = some o) := fun {b o} h => by
    unfold joinF at h
    split at h
    · rename_i o' e
      rw [e]
      exact .inl h
    · rename_i e
      by_cases hb : b = a
      · rw [if_pos hb] at h
        cases h
      · rw [if_neg hb] at h
        exact .inr ⟨e, hb, h⟩
  have FH' : ∀ {b : Addr} {o : HO}, F b = some o → H' b = some o := fun {b o} h => x.hh b o (er.ex.fh.sm b o h) fun ps z => er.ex.fh.nt b ps (by rw [h, z])
  have sF : Same F (joinF F F' a) := fun b o h => inF h
  have ja : joinF F F' a a = none := by
    unfold joinF
    rw [Fa]
    exact if_pos rfl
  have tupJ : ∀ b xs, F' b = some (.tup xs) → joinF F F' a b = some (.tup xs) := fun b xs h => by
    cases q : F b with
    | some o =>
      have e1 := FH' q
      have e2 := x.fh.sm b _ h
      rw [e1] at e2
      rw [inF q, e2]
    | none =>
      unfold joinF
      rw [q]
      exact (if_neg (fun z => by
        subst z
        rw [ha] at h
        cases h)).trans h
  refine ⟨⟨er.ex.hh.trans x.hh, er.ex.ff.trans sF, ⟨fun b o h => ?_, fun b ps h => ?_, x.fh.tb⟩, fun b o h => ?_⟩, er.fl.trans sF, by rw [List.length_set, List.length_set, er.len], fun j d h => ?_, fun j es h => ?_, fun j k es fs b hjk h1 h2 h3 h4 => ?_⟩
  · rcases jn h with q | ⟨_, _, q⟩
    · exact FH' q
    · exact x.fh.sm b o q
  · rcases jn h with q | ⟨_, _, q⟩
    · exact er.ex.fh.nt b ps q
    · exact x.fh.nt b ps q
  · rcases jn h with q | ⟨_, _, q⟩
    · exact er.ex.nw b o q
    · rcases x.nw b o q with q | q
      · obtain ⟨xs, rfl, q2⟩ := tupsOf_some q
        exact er.ex.nw b _ q2
      · exact .inr (q.back er.ex.hh)
  · by_cases hj : i = j
    · subst hj
      by_cases hl : i < ρ.length
      · rw [List.getElem?_set_self hl] at h
        cases h
      · rw [List.getElem?_eq_none (by rw [List.length_set]; omega)] at h
        cases h
    · rw [List.getElem?_set_ne hj] at h ⊢
      obtain ⟨v, e1, r⟩ := er.val j d h
      exact ⟨v, e1, r.mono sF⟩
  · by_cases hj : i = j
    · subst hj
      by_cases hl : i < ρ.length
      · rw [List.getElem?_set_self hl] at h
        cases h
        exact ⟨a, vs, by rw [List.getElem?_set_self (by rw [← er.len]; exact hl)], x.fh.sm a _ ha, ja, nH.back er.ex.hh, RpA.of_pure tupJ ra hp⟩
      · rw [List.getElem?_eq_none (by rw [List.length_set]; omega)] at h
        cases h
    · rw [List.getElem?_set_ne hj] at h ⊢
      obtain ⟨b, ws, e1, e2, e3, e4, r⟩ := er.own j es h
      refine ⟨b, ws, e1, x.hh _ _ e2 (fun _ z => nomatch z), ?_, e4, r.mono sF⟩
      unfold joinF
      rw [e3]
      by_cases hb : b = a
      · exact if_pos hb
      · refine (if_neg hb).trans ?_
        cases q : F' b with
        | none => rfl
        | some o =>
          rcases x.nw b o q with z | z
          · obtain ⟨xs, _, z⟩ := tupsOf_some z
            rw [e3] at z
            cases z
          · obtain ⟨ps, z⟩ := z _ e2
            cases z
  · have at_i : ∀ {b : Addr}, (σ.set i (some (.ref a)))[i]? = some (some (.ref b)) → b = a := fun {b} h => by
      by_cases hl : i < σ.length
      · rw [List.getElem?_set_self hl] at h
        cases h
        rfl
      · rw [List.getElem?_eq_none (by rw [List.length_set]; omega)] at h
        cases h
    have g : ∀ {m : Nat} {es : List D} {b : Addr}, i ≠ m → (ρ.set i (.own ds))[m]? = some (.own es) → (σ.set i (some (.ref a)))[m]? = some (some (.ref b)) → b ≠ a := fun {m es b} hm h h' z => by
      rw [List.getElem?_set_ne hm] at h h'
      obtain ⟨c, ws, e1, e2, _⟩ := er.own m es h
      rw [h'] at e1
      cases e1
      subst z
      obtain ⟨ps, z⟩ := nH _ e2
      cases z
    by_cases hj : i = j
    · subst hj
      exact g hjk h2 h4 (at_i h3)
    · by_cases hk : i = k
      · subst hk
        exact g hj h1 h3 (at_i h4)
      · rw [List.getElem?_set_ne hj] at h1 h3
        rw [List.getElem?_set_ne hk] at h2 h4
        exact er.dist j k es fs b hjk h1 h2 h3 h4
theorem ER.seeP (er : ER K T F0 H0 G F H σ ρ) : ERel K (tupsOf F) σ (Tl.seeP ρ) := by
  refine ⟨by unfold Tl.seeP; rw [List.length_map]; exact er.len, fun i d h => ?_⟩
  unfold Tl.seeP at h
  rw [List.getElem?_map] at h
  obtain ⟨s, h1, h2⟩ := Option.map_eq_some_iff.mp h
  cases s with
  | no => cases h2
  | own ds => cases h2
  | val e =>
    have h2 : (if pure_ e = true then some e else none) = some d := h2
    by_cases hp : pure_ e = true
    · rw [if_pos hp] at h2
      cases h2
      obtain ⟨v, e1, r⟩ := er.val i d h1
      exact ⟨v, e1, r.of_pure (fun a xs e => tupsOf_tup e) hp⟩
    · rw [if_neg hp] at h2
      cases h2
theorem setO_imp {c : C} {i : Nat} (Z : Ends) (σ : L2.St) (H : Hp) (w : tS K T W F0 H0 G (fun ρ => setOS i (ev Γ c (seeP ρ)) ρ) Z σ H) : tAsg (tE T K W (ev Γ c)) (gName i) Z σ H := by
  obtain ⟨ρ, F, er, p⟩ := w
  have p : Post K T W F0 H0 G (setOS i (ev Γ c (seeP ρ)) ρ) Z := p
  refine ⟨seeP ρ, tupsOf F, ⟨fun b o h => ?_, fun b ps h => ?_, er.ex.fh.tb⟩, er.seeP, ?_⟩
  · obtain ⟨xs, rfl, h2⟩ := tupsOf_some h
    exact er.ex.fh.sm _ _ h2
  · obtain ⟨xs, e, h⟩ := tupsOf_some h
    cases e
  · cases q : ev Γ c (seeP ρ) with
    | ok d =>
      rw [q] at p
      intro v F' H' x r
      unfold setOS at p
      cases r with
      | lst ha ra =>
        rename_i a xs ds
        by_cases hp : pureA ds = true
        · have p' : Post K T W F0 H0 G (.nx (ρ.set i (.own ds))) Z := by
            have z : Post K T W F0 H0 G (if pureA ds = true then .nx (ρ.set i (.own ds)) else .stuck) Z := p
            rw [if_pos hp] at z
            exact z
          exact p' _ _ _ (er.fresh x ha ra hp)
        · have z : Post K T W F0 H0 G (if pureA ds = true then .nx (ρ.set i (.own ds)) else .stuck) Z := p
          rw [if_neg hp] at z
          exact z.elim
      | _ => exact p.elim
    | exc c =>
      rw [q] at p
      intro H' k z
      exact p σ F H' (er.kept k z.tb)
    | stuck =>
      rw [q] at p
      exact p
theorem setO_eq {i : Nat} {c : C} {st : Stmt} (h : mS g (.setO i c) st = true) : mS g (.set i c) st = true := by
  cases st <;> first | (exfalso; revert h; simp [mS]; done) | skip
  rename_i ts e p
  cases ts with
  | nil => exfalso; revert h; simp [mS]
  | cons t ts =>
  cases ts with
  | cons u us => exfalso; revert h; cases t <;> simp [mS]
  | nil =>
  cases t <;> first | (exfalso; revert h; simp [mS]; done) | skip
  simp only [mS] at h ⊢
  exact h
theorem setO_S (Gd_ : Gd X W T Γ g) {i : Nat} {c : C} {st : Stmt} (h : mS g (.setO i c) st = true) : PS X st (tS X.K T W F0 H0 G (fun ρ => setOS i (ev Γ c (seeP ρ)) ρ)) := PS.imp (set_base Gd_ (setO_eq h)) setO_imp
theorem ER.newL (er : ER K T F0 H0 G F H σ ρ) {i : Nat} {q : Addr} {vs : List V} {ds : List D} (n : H q = none) (r : RpA K F vs ds) : ER K T F0 H0 G F (upd H q (.lst vs)) (σ.set i (some (.ref q))) (ρ.set i (.own ds)) where
  ex := er.ex.junk n
  fl := er.fl
  len := by rw [List.length_set, List.length_set, er.len]
  val := fun j e h => by
    by_cases hj : i = j
    · subst hj
      by_cases hl : i < ρ.length
      · rw [List.getElem?_set_self hl] at h
        cases h
      · rw [List.getElem?_eq_none (by rw [List.length_set]; omega)] at h
        cases h
    · rw [List.getElem?_set_ne hj] at h ⊢
      exact er.val j e h
  own := fun j es h => by
    by_cases hj : i = j
    · subst hj
      by_cases hl : i < ρ.length
      · rw [List.getElem?_set_self hl] at h
        cases h
        exact ⟨q, vs, by rw [List.getElem?_set_self (by rw [← er.len]; exact hl)], upd_same, er.ex.fh.free n, (Nt.of n).back er.ex.hh, r⟩
      · rw [List.getElem?_eq_none (by rw [List.length_set]; omega)] at h
        cases h
    · rw [List.getElem?_set_ne hj] at h
      obtain ⟨a, ws, e1, e2, e3, e4, r'⟩ := er.own j es h
      exact ⟨a, ws, by rw [List.getElem?_set_ne hj]; exact e1, by rw [upd_ne (ne_of_none e2 n)]; exact e2, e3, e4, r'⟩
  dist := fun j k es fs a hjk h1 h2 h3 h4 => by
    have g : ∀ {n' : Nat} {es : List D} {b : Addr}, i ≠ n' → (ρ.set i (.own ds))[n']? = some (.own es) → (σ.set i (some (.ref q)))[n']? = some (some (.ref b)) → b ≠ q := fun {n' es b} hn h h' => by
      rw [List.getElem?_set_ne hn] at h h'
      obtain ⟨a, ws, e1, e2, _⟩ := er.own n' es h
      rw [h'] at e1
      cases e1
      exact ne_of_none e2 n
    have at_i : ∀ {b : Addr}, (σ.set i (some (.ref q)))[i]? = some (some (.ref b)) → b = q := fun {b} h => by
      by_cases hl : i < σ.length
      · rw [List.getElem?_set_self hl] at h
        cases h
        rfl
      · rw [List.getElem?_eq_none (by rw [List.length_set]; omega)] at h
        cases h
    by_cases hj : i = j
    · subst hj
      exact g hjk h2 h4 (at_i h3)
    · by_cases hk : i = k
      · subst hk
        exact g hj h1 h3 (at_i h4)
      · rw [List.getElem?_set_ne hj] at h1 h3
        rw [List.getElem?_set_ne hk] at h2 h4
        exact er.dist j k es fs a hjk h1 h2 h3 h4
theorem cat_S (Gd_ : Gd X W T Γ g) {i : Nat} {a b : C} {st : Stmt} (h : mS g (.cat i a b) st = true) : PS X st (tS X.K T W F0 H0 G (exS Γ n (.cat i a b))) := by
  have h : mAs1 (mCat g a b) (fun x => decide (g.N[i]? = some x) && locOk g x) st = true := by
    cases st <;> simpa [mS] using h
  obtain ⟨x, px, e, p, rfl, h1, h2⟩ := mAs1_of h
  obtain ⟨ea, eb, pe, rfl, h3, h4⟩ := mCat_of h2
  simp only [Bool.and_eq_true, decide_eq_true_eq] at h1
  refine PS.imp (ps_set Gd_.nd (by rw [Gd_.N]; exact h1.1) (Gd_.loc h1.2) (pe_op op_cat (sE a Gd_ h3).1 (sE b Gd_ h4).1) rfl (Gd_.fnT _ h1.2)) fun Z σ H w => ?_
  obtain ⟨ρ, F, er, q⟩ := w
  unfold exS at q
  refine use_E er q fun d v F' H' er' rv p' => ?_
  have er2 : ER X.K T F0 H0 F' F' H' σ (keepM (vsC a) d ρ) := ⟨er'.ex, .refl _, er'.len, er'.val, er'.own, er'.dist⟩
  refine use_E er2 (p'.floor er'.fl) fun e u F2 H2 er3 ru p2 => ?_
  have rv2 := rv.mono er3.fl
  unfold catS at p2
  cases rv2 with
  | lst ha ra =>
    cases ru with
    | lst hb rb =>
      rename_i l xs ds l2 ys es
      by_cases hz : ds.length + es.length ≤ sizeLine
      · have p3 : Post X.K T W F0 H0 F' (.nx ((keepM (vsC b) (.list es) (keepM (vsC a) (.list ds) ρ)).set i (.own (ds ++ es)))) Z := by
          have z : Post X.K T W F0 H0 F' (if ds.length + es.length ≤ sizeLine then .nx ((keepM (vsC b) (.list es) (keepM (vsC a) (.list ds) ρ)).set i (.own (ds ++ es))) else .stuck) Z := p2
          rw [if_pos hz] at z
          exact z
        exact ⟨l, l2, xs, ys, rfl, rfl, er3.ex.fh _ _ ha, er3.ex.fh _ _ hb, by rw [ra.length, rb.length]; exact hz, fun q hq => p3 _ _ _ (er3.newL hq (ra.append rb))⟩
      · have z : Post X.K T W F0 H0 F' (if ds.length + es.length ≤ sizeLine then .nx ((keepM (vsC b) (.list es) (keepM (vsC a) (.list ds) ρ)).set i (.own (ds ++ es))) else .stuck) Z := p2
        rw [if_neg hz] at z
        exact z.elim
    | _ => exact p2.elim
  | _ => exact p2.elim
end
end Tl
set_option maxHeartbeats 4000000
namespace Tl
open PySem PySem.Spec L2
section
variable {X : Cx} {W : WX} {T : Tbl} {Γ : Fns} {g : Cfg} {F0 H0 G F H : Hp} {n : Nat} {K : PySem.W.Frag} {σ : L2.St} {ρ : EnvS} {Z : Ends}
/-- _law_word(e) -/
def tWord (K : PySem.W.Frag) (i : Nat) (a : Addr) (cls : Value) (d : Option Addr) : TE := fun σ H Q => ∃ c, c ∈ excs9 ∧ cls = .ref (He.ga K c) ∧ d = none ∧ σ[i]? = some (some (.ref a)) ∧ ∀ H', Same H H' → Q (.str (wordOf c)) H'
theorem roomH_mark {k : Nat} {A : Around} {v : Option Value} (r : Room k A) : L2H.RoomH k (A.mark v) := ⟨r.dp, r.un⟩
theorem pe_word (Wd : WordAt X) (hg : Gl X "_law_word") {a : Addr} {oe : Obj} {cls : Value} {d : Option Addr} {pn : List (Addr × Obj)} (hz : Zc cls d oe) (hf : ∃ vs, oe.data = .fields vs) {i : Nat} {nm : Str} {q p pos : Pos} (hN : X.N[i]? = some nm) (hv : Vis X.env.scope nm) (hd1 : (nm == ("__debug__" : Str)) = false) (hd2 : (nm == ("__classdict__" : Str)) = false) :
    PE (X.suite a ((a, oe) :: pn)) (.Call (.Name "_law_word" q) [.Name nm p] [] pos) (tWord X.K i a cls d) := by
  obtain ⟨k, f, fd, Fw, hr, hm, hk, hb⟩ := Wd
  refine ⟨fun pins s σ H Q I h => ?_⟩
  refine wpAny_Call_Name_kw (ld_glob I hg hm ?_ (by decide))
  obtain ⟨c, hc, rfl, rfl, hs, hq⟩ := h
  have ha : PA (X.suite a ((a, oe) :: pn)) [.Name nm p] (tCons (tVar i) tNil) := pa_cons (pe_var hN hv hd1 hd2) pa_nil
  refine PySem.W.callWith_K (h₀ := X.base) I.ok.mod.kin hk (thn (ha.run pos pins s σ H (fun vs H1 => vs = [V.ref a] ∧ H = H1) I ⟨_, hs, rfl, rfl⟩) fun us s1 hh => ?_)
  obtain ⟨vs, H1, I1, r1, ev, eH⟩ := hh
  subst ev
  rw [← eH] at I1
  refine ⟨I1.kIn, ?_⟩
  cases r1 with
  | cons ru rn =>
    cases rn
    cases ru
    have P1 := I1.pin (a, oe) (List.mem_append_left _ List.mem_cons_self)
    have hpin : L2H.PinOk X.stack H s1 (a, oe) := ⟨P1.1, P1.2.1, fun hm => (List.mem_cons.mp (I1.stkSub a hm)).elim P1.2.2.1 P1.2.2.2.1, P1.2.2.2.2⟩
    have b := hb s1 [.ref a] I1.kIn rfl
    show wpAny _ _ (call (.ref f) [.ref a]) _ _ _
    refine wpAny_call (codeAny_mono (Fw.run c hc (X.A.mark (some (.ref a))) X.stack s1 H ⟨[.ref a], []⟩ Q (a, oe) (roomH_mark hr) hpin hz hf I1.env0 b hq) fun r s' hq => ?_)
    cases r with
    | error e =>
      obtain ⟨_, _, _, _, _, _, _, _, _, _, _, _, z⟩ := hq
      exact z.elim
    | ok fl =>
      cases fl with
      | ret u => exact I1.after hq
      | next => exact False.elim hq
      | brk => exact False.elim hq
      | cont => exact False.elim hq
/-- the frame of a def's own body -/
structure Fm (X : Cx) : Prop where
  stk : X.stack = X.env :: X.outer
  frm : X.env.frame = some X.env.locals
theorem Gd.tr (Gd_ : Gd X W T Γ g) {pn : List (Addr × Obj)} {xe : Value → Shared → Prop} {W' : WX} (tk : Takes (X.tr pn xe) W') : Gd (X.tr pn xe) W' T Γ g where
  calm := Gd_.calm
  nd := Gd_.nd
  N := Gd_.N
  sc := Gd_.sc
  fnT := Gd_.fnT
  room := Gd_.room
  blt := Gd_.blt
  tk := tk
  fns := fun x n φ h => ⟨(Gd_.fns x n φ h).at_⟩
  lam := Gd_.lam
  exc := Gd_.exc
  wrd := Gd_.wrd
  gci := Gd_.gci
  gcs := Gd_.gcs
theorem te_names (Gd_ : Gd X W T Γ g) {t : Str} (h : isG g t "TileError" = true) {c : Str} (hc : c ∈ g.xs) : Names X t (.ref (He.ga X.K "TileError")) := by
  obtain ⟨rfl, k1, k2, k3⟩ := isG_of Gd_ h
  exact ⟨k1, k2, .inl (Gd_.exc c hc).te⟩
theorem mWd_of {nm : Str} {e : Expr} (h : mWd g nm e = true) : ∃ q p pos, e = .Call (.Name "_law_word" q) [.Name nm p] [] pos ∧ isG g "_law_word" "_law_word" = true ∧ g.wd = true ∧ okN nm = true := by
  cases e <;> first | (simp [mWd] at h; done) | skip
  rename_i f as kw cpos
  cases f <;> first | (simp [mWd] at h; done) | skip
  rename_i f q
  cases as with
  | nil => simp [mWd] at h
  | cons a as =>
  cases a <;> first | (simp [mWd] at h; done) | skip
  rename_i x p
  cases as with
  | cons u us => simp [mWd] at h
  | nil =>
  cases kw with
  | cons u us => simp [mWd] at h
  | nil =>
    simp only [mWd, Bool.and_eq_true, decide_eq_true_eq] at h
    obtain ⟨⟨⟨h1, h2⟩, rfl⟩, h4⟩ := h
    have e : f = "_law_word" := by
      have z := h1
      simp only [isG, Bool.and_eq_true, decide_eq_true_eq] at z
      exact z.1.1
    subst e
    exact ⟨q, p, cpos, rfl, h1, h2, h4⟩
/-- atoms, wherever they stand -/
def tAt (a : At) : TE := match a with
  | .non => tC .non
  | .bl b => tC (.bl b)
  | .int i => tC (.int i)
  | .str x => tC (.str x)
  | .var i => tVar i
theorem pe_at {Y : Cx} (hN : Y.N = g.N) (hs : Y.env.scope = g.sc) {a : At} {e : Expr} (h : mAt g a e = true) : PE Y e (tAt a) := by
  cases e with
  | Constant v j p =>
    cases v with
    | none => cases a <;> first | (simp [mAt] at h; done) | exact pe_non
    | bool c =>
      cases a <;> first | (simp [mAt] at h; done) | skip
      simp only [mAt, decide_eq_true_eq] at h
      subst h
      exact pe_bl
    | int c =>
      cases a <;> first | (simp [mAt] at h; done) | skip
      simp only [mAt, decide_eq_true_eq] at h
      subst h
      exact pe_int
    | str c =>
      cases a <;> first | (simp [mAt] at h; done) | skip
      simp only [mAt, decide_eq_true_eq] at h
      subst h
      exact pe_str
    | _ => cases a <;> (simp [mAt] at h; done)
  | Name x p =>
    cases a <;> first | (simp [mAt] at h; done) | skip
    simp only [mAt, Bool.and_eq_true, decide_eq_true_eq] at h
    obtain ⟨⟨h1, h2⟩, h3⟩ := h
    obtain ⟨o1, o2, _⟩ := okN_of h3
    refine pe_var (by rw [hN]; exact h1) ?_ o1 o2
    rw [hs]
    unfold Tl.vis at h2
    unfold L2.Vis
    split at h2 <;> simp_all
  | _ => cases a <;> (simp [mAt] at h; done)
theorem at_nosw {a : At} {e : Expr} (h : mAt g a e = true) (tg : Option Expr) (l : Nat) (env : Env) : swapsWith e tg l env = pure false := by
  cases e with
  | ListComp a' b s p => cases a <;> (exfalso; revert h; simp [mAt]; done)
  | SetComp a' b s p => cases a <;> (exfalso; revert h; simp [mAt]; done)
  | DictComp a' b d s p => cases a <;> (exfalso; revert h; simp [mAt]; done)
  | _ => rfl
theorem at_ev (er : ER K T F0 H0 G F H σ ρ) {a : At} {d : D} (h : a.ev ρ = some d) : ∃ v, Rp K F v d ∧ ∀ Q : VK, Q v H → tAt a σ H Q := by
  cases a with
  | non => cases h; exact ⟨.non, .non, fun Q q => q⟩
  | bl b => cases h; exact ⟨.bl b, .bl b, fun Q q => q⟩
  | int b => cases h; exact ⟨.int b, .int b, fun Q q => q⟩
  | str b => cases h; exact ⟨.str b, .str b, fun Q q => q⟩
  | var i =>
    have h : (match ρ[i]? with
      | some (.val d) => some d
      | _ => none) = some d := h
    split at h
    · rename_i d' e
      cases h
      obtain ⟨v, e1, r⟩ := er.val i d e
      exact ⟨v, r, fun Q q => ⟨v, e1, q⟩⟩
    · cases h
/-- what comes of a body within a try -/
theorem Post.tri {W' : WX} {xs : List Str} {h : Hn} {r : Fl} (p : Post K T W F0 H0 G (triS xs h r) Z)
    (hx : ∀ c ρ, r = .exc c ρ → Post K T W F0 H0 G (triS xs h (.exc c ρ)) Z → ∀ σ F H, ER K T F0 H0 G F H σ ρ → W' (clsV K c) none σ H) : Post K T W' F0 H0 G r Z := by
  cases r with
  | nx ρ => exact p
  | rt d => exact p
  | exc c ρ => exact hx c ρ rfl p
  | stuck => exact p
end
/-- a try -/
theorem tri_S {X : Cx} {W : WX} {T : Tbl} {Γ : Fns} {g : Cfg} {F0 H0 G : Hp} {n : Nat} (fm : Fm X) (Gd_ : Gd X W T Γ g) {xs : List Str} {body : Ss} {h : Hn} {st : Stmt} (hm : mS g (.tri xs body h) st = true)
    (hbody : ∀ (W' : WX) (pn : List (Addr × Obj)) (xe : Value → Shared → Prop) (b' : List Stmt), PassesOwn (model X.prog X.w) X.A X.env xe → Gd (X.tr pn xe) W' T Γ g → mSs g body b' = true → PSs (X.tr pn xe) b' (tS X.K T W' F0 H0 G (exSs Γ n body))) :
    PS X st (tS X.K T W F0 H0 G (exS Γ n (.tri xs body h))) := by
  cases st <;> first | (exfalso; revert hm; simp [mS]; done) | skip
  rename_i b' hs oe fb pos
  cases oe with
  | cons u us => exfalso; revert hm; simp [mS]
  | nil =>
  cases fb with
  | cons u us => exfalso; revert hm; simp [mS]
  | nil =>
  simp only [mS, Bool.and_eq_true, decide_eq_true_eq] at hm
  obtain ⟨⟨⟨rfl, hne⟩, hmb⟩, hmh⟩ := hm
  obtain ⟨c0, hc0⟩ : ∃ c, c ∈ g.xs := by
    cases q : g.xs with
    | nil => rw [q] at hne; simp at hne
    | cons c l => exact ⟨c, List.mem_cons_self⟩
  have hb : ∀ (W' : WX) (pn : List (Addr × Obj)) (xe : Value → Shared → Prop), Takes (X.tr pn xe) W' → PassesOwn (model X.prog X.w) X.A X.env xe → PSs (X.tr pn xe) b' (tS X.K T W' F0 H0 G (exSs Γ n body)) := fun W' pn xe tk hp => hbody W' pn xe b' hp (Gd_.tr tk) hmb
  have lkN : ∀ {x : Str}, isLoc g x = true → X.env.kindOf x = some .local := fun h => isLoc_of Gd_ h
  obtain ⟨te, on, b1, pos', rfl, hte, hk⟩ := mHn_of hmh
  obtain ⟨t, np, rfl, h1⟩ := mTE_of hte
  cases h with
  | word i =>
    · cases on with
      | none => simp [mHb] at hk
      | some nm =>
      simp only [mHb, Bool.and_eq_true, decide_eq_true_eq] at hk
      obtain ⟨⟨h2, h3⟩, h4⟩ := hk
      obtain ⟨e, rp, rfl, h4⟩ := mRt1_of h4
      obtain ⟨q, p, cp, rfl, k1, k2, k3⟩ := mWd_of h4
      obtain ⟨_, g1, _, _⟩ := isG_of Gd_ k1
      obtain ⟨o1, o2, _⟩ := okN_of k3
      have hN : X.N[i]? = some nm := by rw [Gd_.N]; exact h2
      refine PS.imp (ps_try_as (i := i) (ts := fun a cls d => tRet (tWord X.K i a cls d)) fm.stk fm.frm Gd_.nd hN (lkN h3) (te_names Gd_ h1 hc0) Gd_.tk hb (fun a oe cls d pn hz hf => PSs.imp (pss_cons (ps_ret (pe_word (Gd_.wrd k2) g1 hz hf hN (.inl (lkN h3)) o1 o2)) pss_nil) fun Z σ H w => w)) fun Z σ H w => ?_
      obtain ⟨ρ, F, er, p⟩ := w
      unfold exS at p
      refine ⟨ρ, F, er, p.tri fun c ρ1 _ p1 σ1 F1 H1 er1 => ?_⟩
      unfold triS Hn.run at p1
      by_cases hc : c ∈ g.xs ∧ c ∈ excs9 ∧ i < ρ1.length
      · simp only [if_pos hc] at p1
        refine ⟨true, (Gd_.exc c hc.1).cat, fun _ a ha => ⟨c, hc.2.1, rfl, rfl, List.getElem?_set_self (by rw [← er1.len]; exact hc.2.2), fun H' s => p1 _ F1 H' (er1.ex.grow s) (.str _)⟩, fun z => by cases z⟩
      · simp only [if_neg hc] at p1
        exact p1.elim
  | wset i j =>
    · cases on with
      | none => simp [mHb] at hk
      | some nm =>
      simp only [mHb, Bool.and_eq_true, decide_eq_true_eq] at hk
      obtain ⟨⟨h2, h3⟩, h4⟩ := hk
      obtain ⟨y, py, e, rp, rfl, h56, h4⟩ := mAs1_of h4
      simp only [Bool.and_eq_true, decide_eq_true_eq] at h56
      obtain ⟨h5, h6⟩ := h56
      obtain ⟨q, p, cp, rfl, k1, k2, k3⟩ := mWd_of h4
      obtain ⟨_, g1, _, _⟩ := isG_of Gd_ k1
      obtain ⟨o1, o2, _⟩ := okN_of k3
      have hN : X.N[i]? = some nm := by rw [Gd_.N]; exact h2
      have hNj : X.N[j]? = some y := by rw [Gd_.N]; exact h5
      refine PS.imp (ps_try_as (i := i) (ts := fun a cls d => tAsg (tWord X.K i a cls d) (gName j)) fm.stk fm.frm Gd_.nd hN (lkN h3) (te_names Gd_ h1 hc0) Gd_.tk hb (fun a oe cls d pn hz hf => PSs.imp (pss_cons (ps_set (X := X.suite a ((a, oe) :: pn)) Gd_.nd hNj (.inl (lkN h6)) (pe_word (Gd_.wrd k2) g1 hz hf hN (.inl (lkN h3)) o1 o2) rfl (.inr (lkN h6))) pss_nil) fun Z σ H w => w)) fun Z σ H w => ?_
      obtain ⟨ρ, F, er, p⟩ := w
      unfold exS at p
      refine ⟨ρ, F, er, p.tri fun c ρ1 _ p1 σ1 F1 H1 er1 => ?_⟩
      unfold triS Hn.run at p1
      by_cases hc : c ∈ g.xs ∧ c ∈ excs9 ∧ i < ρ1.length ∧ i ≠ j
      · simp only [if_pos hc] at p1
        refine ⟨true, (Gd_.exc c hc.1).cat, fun _ a ha => ⟨c, hc.2.1, rfl, rfl, List.getElem?_set_self (by rw [← er1.len]; exact hc.2.2.1), fun H' s => ?_⟩, fun z => by cases z⟩
        have e1 : ((σ1.set i (some (.ref a))).set j (some (.str (wordOf c)))).set i none = (σ1.set j (some (.str (wordOf c)))).set i none := by
          rw [List.set_comm _ _ hc.2.2.2, List.set_set]
        show Z.nx (((σ1.set i (some (.ref a))).set j (some (.str (wordOf c)))).set i none) H'
        rw [e1]
        exact p1 _ F1 H' (((er1.grow s).set (.str _)).hide)
      · simp only [if_neg hc] at p1
        exact p1.elim
  | ret a =>
    · cases on with
      | some nm => simp [mHb] at hk
      | none =>
      simp only [mHb] at hk
      obtain ⟨e, rp, rfl, h2⟩ := mRt1_of hk
      refine PS.imp (ps_try_only (ts := fun _ _ _ => tRet (tAt a)) fm.stk fm.frm (te_names Gd_ h1 hc0) Gd_.tk hb (fun b oe cls d pn hz hf => PSs.imp (pss_cons (ps_ret (pe_at (Y := X.suite b ((b, oe) :: pn)) Gd_.N Gd_.sc h2)) pss_nil) fun Z σ H w => w)) fun Z σ H w => ?_
      obtain ⟨ρ, F, er, p⟩ := w
      unfold exS at p
      refine ⟨ρ, F, er, p.tri fun c ρ1 _ p1 σ1 F1 H1 er1 => ?_⟩
      unfold triS Hn.run at p1
      by_cases hc : c ∈ g.xs
      · simp only [if_pos hc] at p1
        cases hd : a.ev ρ1 with
        | none =>
          rw [hd] at p1
          exact p1.elim
        | some d =>
          rw [hd] at p1
          obtain ⟨v, r, hv⟩ := at_ev er1 hd
          exact ⟨true, (Gd_.exc c hc).cat, fun _ b hb => hv _ (p1 v F1 H1 er1.ex r), fun z => by cases z⟩
      · simp only [if_neg hc] at p1
        exact p1.elim
  | set j a =>
    · cases on with
      | some nm => simp [mHb] at hk
      | none =>
      simp only [mHb] at hk
      obtain ⟨y, py, e, rp, rfl, h34, h2⟩ := mAs1_of hk
      simp only [Bool.and_eq_true, decide_eq_true_eq] at h34
      obtain ⟨h3, h4⟩ := h34
      have hNj : X.N[j]? = some y := by rw [Gd_.N]; exact h3
      refine PS.imp (ps_try_only (ts := fun _ _ _ => tAsg (tAt a) (gName j)) fm.stk fm.frm (te_names Gd_ h1 hc0) Gd_.tk hb (fun b oe cls d pn hz hf => PSs.imp (pss_cons (ps_set (X := X.suite b ((b, oe) :: pn)) Gd_.nd hNj (.inl (lkN h4)) (pe_at (Y := X.suite b ((b, oe) :: pn)) Gd_.N Gd_.sc h2) (at_nosw h2 _ _ _) (.inr (lkN h4))) pss_nil) fun Z σ H w => w)) fun Z σ H w => ?_
      obtain ⟨ρ, F, er, p⟩ := w
      unfold exS at p
      refine ⟨ρ, F, er, p.tri fun c ρ1 _ p1 σ1 F1 H1 er1 => ?_⟩
      unfold triS Hn.run at p1
      by_cases hc : c ∈ g.xs
      · simp only [if_pos hc] at p1
        cases hd : a.ev ρ1 with
        | none =>
          rw [hd] at p1
          exact p1.elim
        | some d =>
          rw [hd] at p1
          obtain ⟨v, r, hv⟩ := at_ev er1 hd
          exact ⟨true, (Gd_.exc c hc).cat, fun _ b hb => hv _ (p1 _ F1 H1 (er1.set r)), fun z => by cases z⟩
      · simp only [if_neg hc] at p1
        exact p1.elim
end Tl
set_option maxHeartbeats 4000000
namespace Tl
open PySem PySem.Spec L2
section
variable {X : Cx} {W : WX} {T : Tbl} {Γ : Fns} {g : Cfg} {F0 H0 G : Hp} {n : Nat}
theorem ret_S (Gd_ : Gd X W T Γ g) {c : C} {st : Stmt} (h : mS g (.ret c) st = true) : PS X st (tS X.K T W F0 H0 G (fun ρ => evE Γ c ρ fun d _ => .rt d)) := by
  cases st <;> first | (exfalso; revert h; simp [mS]; done) | skip
  rename_i e p
  cases e with
  | none => exfalso; revert h; simp [mS]
  | some e =>
    simp only [mS] at h
    refine PS.imp (ps_ret (sE c Gd_ h).1) fun Z σ H w => ?_
    obtain ⟨ρ, F, er, q⟩ := w
    exact use_E er q fun d v F' H' er' rv p' => p' v F' H' er'.ex rv
theorem for_imp {tg : Tg} {fI : CI} {b : EnvS → Fl} {tgE itE : Expr} {Z : Ends} {σ : L2.St} {H : Hp} {body : L2.TS}
    (hb : ∀ G', ∀ Z σ H, tS X.K T W F0 H0 G' b Z σ H → body Z σ H)
    (w : tS X.K T W F0 H0 G (fun ρ => match evI Γ fI (seeM (vsI fI) ρ) with
      | .ok ds => forD (fun d ρ => match tg.setS d ρ with
        | some ρ => b ρ
        | none => .stuck) ds (freezeM (vsI fI) ρ)
      | .exc x => .exc x ρ
      | .stuck => .stuck) Z σ H) : tFor (iI T X.K W (evI Γ fI)) (tgG X.K tg) body Z σ H := by
  obtain ⟨ρ, F, er, p⟩ := w
  refine ⟨seeM (vsI fI) ρ, _, er.lend_fz (vsI fI), er.view (vsI fI), ?_⟩
  cases hI : evI Γ fI (seeM (vsI fI) ρ) with
  | exc x =>
    dsimp only at p
    rw [hI] at p
    intro H' k z
    obtain ⟨F', er'⟩ := er.exc k z
    exact p σ F' H' er'
  | stuck =>
    dsimp only at p
    rw [hI] at p
    exact p
  | ok ds =>
    dsimp only at p
    rw [hI] at p
    intro J F2 H2 x wk
    have er2 := er.frozen x
    obtain ⟨bb, hbb⟩ : ∃ bb : D → EnvS → Fl, bb = fun d ρ => match tg.setS d ρ with
      | some ρ => b ρ
      | none => .stuck := ⟨_, rfl⟩
    have p1 : Post X.K T W F0 H0 G (forD bb ds (freezeM (vsI fI) ρ)) Z := by
      rw [hbb]
      exact p
    refine ⟨fun i m σ' H' => i ≤ ds.length ∧ m = ds.length - i ∧ ∃ ρ' F', ER X.K T F0 H0 F2 F' H' σ' ρ' ∧ Post X.K T W F0 H0 F2 (forD bb (ds.drop i) ρ') Z, ⟨ds.length, Nat.zero_le _, rfl, _, F2, ⟨er2.ex, .refl _, er2.len, er2.val, er2.own, er2.dist⟩, p1.floor er2.fl⟩, ?_⟩
    rintro i m σ' H' ⟨hi, rfl, ρ', F', er', p'⟩
    have sF : Same F2 H' := er'.fl.trans er'.ex.fh.sm
    by_cases hl : i = ds.length
    · subst hl
      rw [List.drop_length] at p'
      exact .inl ⟨wk.stops H' sF, p' σ' F' H' er'⟩
    · have hi' : i < ds.length := by omega
      rw [List.drop_eq_getElem_cons hi'] at p'
      refine .inr ⟨wk.goes i H' hi' sF, fun σ3 H3 => ∃ ρ3 F3, ER X.K T F0 H0 F2 F3 H3 σ3 ρ3 ∧ Post X.K T W F0 H0 F2 (forD bb (ds.drop (i + 1)) ρ3) Z, fun σ3 H3 ⟨ρ3, F3, a1, a2⟩ => ⟨ds.length - (i + 1), by omega, hi', rfl, ρ3, F3, a1, a2⟩, fun v H3 hy => ?_⟩
      obtain ⟨F3, x3, r3⟩ := wk.ylds i H' v H3 ds[i] F' (List.getElem?_eq_getElem hi') er'.fl er'.ex.fh hy
      have er3 : ER X.K T F0 H0 F2 F3 H3 σ' ρ' := by
        refine ⟨er'.ex.trans x3, er'.fl.trans x3.ff, er'.len, fun j d h => ?_, fun j es h => ?_, er'.dist⟩
        · obtain ⟨v, e1, r⟩ := er'.val j d h
          exact ⟨v, e1, r.mono x3.ff⟩
        · obtain ⟨a, vs, e1, e2, e3, e4, r⟩ := er'.own j es h
          exact ⟨a, vs, e1, x3.hh _ _ e2 (fun _ z => nomatch z), x3.nof e2 e3, e4, r.mono x3.ff⟩
      have p2 : Post X.K T W F0 H0 F2 ((bb ds[i] ρ').bind fun ρ => forD bb (ds.drop (i + 1)) ρ) Z := p'
      have e1 : bb ds[i] ρ' = match tg.setS ds[i] ρ' with
        | some ρ => b ρ
        | none => .stuck := by rw [hbb]
      cases hset : tg.setS ds[i] ρ' with
      | none =>
        rw [hset] at e1
        rw [e1] at p2
        exact p2.elim
      | some ρ1 =>
        rw [hset] at e1
        have e1 : bb ds[i] ρ' = b ρ1 := e1
        rw [e1] at p2
        refine tgS_ok hset r3 er3 fun σ2 er2 => hb F2 _ _ _ ⟨ρ1, F3, er2, ?_⟩
        cases hbr : b ρ1 with
        | nx ρ4 =>
          rw [hbr] at p2
          exact fun σ4 F4 H4 er4 => ⟨ρ4, F4, er4, p2⟩
        | rt d =>
          rw [hbr] at p2
          exact p2
        | exc c ρ4 =>
          rw [hbr] at p2
          exact p2
        | stuck =>
          rw [hbr] at p2
          exact p2
theorem whl_imp {t : C} {b : EnvS → Fl} {body : L2.TS} {Z : Ends} {σ : L2.St} {H : Hp} (hb : ∀ Z σ H, tS X.K T W F0 H0 G b Z σ H → body Z σ H)
    (w : tS X.K T W F0 H0 G (fun ρ => whlD (fun ρ f => evT Γ t ρ f) b n ρ) Z σ H) : tWhile (tT T X.K W (ev Γ t)) body Z σ H := by
  obtain ⟨ρ, F, er, p⟩ := w
  refine ⟨fun m σ H => ∃ ρ F, ER X.K T F0 H0 G F H σ ρ ∧ Post X.K T W F0 H0 G (whlD (fun ρ f => evT Γ t ρ f) b m ρ) Z, ⟨n, ρ, F, er, p⟩, ?_⟩
  rintro m σ1 H1 ⟨ρ1, F1, er1, p1⟩
  cases m with
  | zero => exact p1.elim
  | succ m =>
    have p2 : Post X.K T W F0 H0 G (evT Γ t ρ1 fun k => if k = true then (b ρ1).bind fun ρ => whlD (fun ρ f => evT Γ t ρ f) b m ρ else .nx ρ1) Z := p1
    refine use_T er1 p2 fun k F2 H2 er2 p3 => ?_
    cases k with
    | false =>
      rw [if_neg (by decide)] at p3 ⊢
      exact p3 _ _ _ er2
    | true =>
      rw [if_pos rfl] at p3 ⊢
      refine ⟨fun σ3 H3 => ∃ ρ3 F3, ER X.K T F0 H0 G F3 H3 σ3 ρ3 ∧ Post X.K T W F0 H0 G (whlD (fun ρ f => evT Γ t ρ f) b m ρ3) Z, fun σ3 H3 h => ⟨m, Nat.lt_succ_self _, h⟩, hb _ _ _ ⟨ρ1, F2, er2, ?_⟩⟩
      cases hbr : b ρ1 with
      | nx ρ4 =>
        rw [hbr] at p3
        exact fun σ4 F4 H4 er4 => ⟨ρ4, F4, er4, p3⟩
      | rt d =>
        rw [hbr] at p3
        exact p3
      | exc c ρ4 =>
        rw [hbr] at p3
        exact p3
      | stuck =>
        rw [hbr] at p3
        exact p3
end
def SS (s : S) : Prop := ∀ ⦃X : Cx⦄ ⦃W : WX⦄ ⦃T : Tbl⦄ ⦃Γ : Fns⦄ ⦃g : Cfg⦄ ⦃st : Stmt⦄ (F0 H0 G : Hp) (n : Nat), PassesOwn (model X.prog X.w) X.A X.env X.xe → Fm X → Gd X W T Γ g → mS g s st = true → PS X st (tS X.K T W F0 H0 G (exS Γ n s))
def SSs (ss : Ss) : Prop := ∀ ⦃X : Cx⦄ ⦃W : WX⦄ ⦃T : Tbl⦄ ⦃Γ : Fns⦄ ⦃g : Cfg⦄ ⦃sts : List Stmt⦄ (F0 H0 G : Hp) (n : Nat), PassesOwn (model X.prog X.w) X.A X.env X.xe → Fm X → Gd X W T Γ g → mSs g ss sts = true → PSs X sts (tS X.K T W F0 H0 G (exSs Γ n ss))
theorem nx_S {X : Cx} {W : WX} {T : Tbl} {F0 H0 G : Hp} : PSs X [] (tS X.K T W F0 H0 G fun ρ => .nx ρ) := PSs.imp pss_nil fun Z σ H w => by
  obtain ⟨ρ, F, er, p⟩ := w
  exact p _ _ _ er
theorem seq_S {X : Cx} {W : WX} {T : Tbl} {F0 H0 G : Hp} {f h : EnvS → Fl} {st : Stmt} {sts : List Stmt} (h1 : PS X st (tS X.K T W F0 H0 G f)) (h2 : PSs X sts (tS X.K T W F0 H0 G h)) : PSs X (st :: sts) (tS X.K T W F0 H0 G fun ρ => (f ρ).bind h) := PSs.imp (pss_cons h1 h2) fun Z σ H w => by
  obtain ⟨ρ, F, er, p⟩ := w
  exact ⟨ρ, F, er, p.seq⟩
mutual
theorem sS : (s : S) → SS s
  | .rai c => fun X W T Γ g st F0 H0 G n hp fm Gd_ h => rai_S Gd_ h
  | .tri xs body hn => fun X W T Γ g st F0 H0 G n hp fm Gd_ h => tri_S fm Gd_ h fun W' pn xe b' hp' G' hm' => sSs body (X := X.tr pn xe) F0 H0 G n hp' ⟨fm.stk, fm.frm⟩ G' hm'
  | .any_ => fun X W T Γ g st F0 H0 G n hp fm Gd_ h => ⟨fun pins s σ H Z I w => by
    obtain ⟨ρ, F, er, p⟩ := w
    exact p.elim⟩
  | .exp c => fun X W T Γ g st F0 H0 G n hp fm Gd_ h => exp_S Gd_ h
  | .ext i c => fun X W T Γ g st F0 H0 G n hp fm Gd_ h => ext_S Gd_ h
  | .setO i c => fun X W T Γ g st F0 H0 G n hp fm Gd_ h => setO_S Gd_ h
  | .unp is c => fun X W T Γ g st F0 H0 G n hp fm Gd_ h => unp_S Gd_ h
  | .par is cs => fun X W T Γ g st F0 H0 G n hp fm Gd_ h => par_S Gd_ h
  | .cat i a b => fun X W T Γ g st F0 H0 G n hp fm Gd_ h => cat_S Gd_ h
  | .set i c => fun X W T Γ g st F0 H0 G n hp fm Gd_ h => set_S Gd_ h
  | .new i => fun X W T Γ g st F0 H0 G n hp fm Gd_ h => new_S Gd_ h
  | .app i c => fun X W T Γ g st F0 H0 G n hp fm Gd_ h => app_S Gd_ h
  | .ret c => fun X W T Γ g st F0 H0 G n hp fm Gd_ h => ret_S Gd_ h
  | .iff t a b => fun X W T Γ g st F0 H0 G n hp fm Gd_ h => by
    cases st <;> first | (exfalso; revert h; simp [mS]; done) | skip
    simp only [mS, Bool.and_eq_true] at h
    obtain ⟨⟨⟨h1, h2⟩, h3⟩, h4⟩ := h
    refine PS.imp (ps_if ((sE t Gd_ h1).2 h2) (sSs a F0 H0 G n hp fm Gd_ h3) (sSs b F0 H0 G n hp fm Gd_ h4)) fun Z σ H w => ?_
    obtain ⟨ρ, F, er, p⟩ := w
    refine use_T er p fun k F' H' er' p' => ?_
    cases k with
    | true =>
      rw [if_pos rfl] at p' ⊢
      exact ⟨ρ, F', er', p'⟩
    | false =>
      rw [if_neg (by decide)] at p' ⊢
      exact ⟨ρ, F', er', p'⟩
  | .for_ tg it body => fun X W T Γ g st F0 H0 G n hp fm Gd_ h => by
    cases st <;> first | (exfalso; revert h; simp [mS]; done) | skip
    rename_i tg' it' body' oe p
    cases oe with
    | cons u us => exfalso; revert h; simp [mS]
    | nil =>
      simp only [mS, Bool.and_eq_true] at h
      obtain ⟨⟨h1, h2⟩, h3⟩ := h
      obtain ⟨i1, i2⟩ := sI it Gd_ h2
      refine ⟨fun pins s σ H Z I w => (ps_for (tb := fun Z σ H => ∃ G', tS X.K T W F0 H0 G' (exSs Γ n body) Z σ H) hp Gd_.calm i1 (pg_D Gd_ h1) ⟨fun pins s σ H Z I w => ?_⟩ (fun x => i2 _ x)).run pins s σ H Z I (for_imp (b := exSs Γ n body) (tgE := tg') (itE := it') (fun G' Z σ H w => ⟨G', w⟩) w)⟩
      obtain ⟨G', w⟩ := w
      exact (sSs body F0 H0 G' n hp fm Gd_ h3).run pins s σ H Z I w
  | .whl t body => fun X W T Γ g st F0 H0 G n hp fm Gd_ h => by
    cases st <;> first | (exfalso; revert h; simp [mS]; done) | skip
    rename_i t' body' oe p
    cases oe with
    | cons u us => exfalso; revert h; simp [mS]
    | nil =>
      simp only [mS, Bool.and_eq_true] at h
      obtain ⟨⟨h1, h2⟩, h3⟩ := h
      exact PS.imp (ps_while hp ((sE t Gd_ h1).2 h2) (sSs body F0 H0 G n hp fm Gd_ h3)) fun Z σ H w => whl_imp (fun _ _ _ h => h) w
theorem sSs : (ss : Ss) → SSs ss
  | .nil => fun X W T Γ g sts F0 H0 G n hp fm Gd_ h => by
    cases sts with
    | nil => exact nx_S
    | cons u us => simp [mSs] at h
  | .cons s ss => fun X W T Γ g sts F0 H0 G n hp fm Gd_ h => by
    cases sts with
    | nil => simp [mSs] at h
    | cons u us =>
      rw [mSs, Bool.and_eq_true] at h
      exact seq_S (sS s F0 H0 G n hp fm Gd_ h.1) (sSs ss F0 H0 G n hp fm Gd_ h.2)
end
end Tl
set_option maxHeartbeats 4000000
namespace Tl
open PySem PySem.Spec L2 PyProof.Rows
/-! ### a def by its text -/
def startS (N : List Str) (ds : List D) : EnvS := ds.map .val ++ List.replicate (N.length - ds.length) .no
structure FnG (P : Program) (w : World) (K : PySem.W.Frag) (mg : Str → Option Value) (base : Heap) (T : Tbl) (k : Nat) (x : Str) (n : Nat) (φ : List D → Res D) : Prop where
  at_ : ∃ f fd ps, FnOk P w K mg base (L2.CX P w) k f fd ps (spD T K n φ) ∧ mg x = some (.ref f) ∧ PySem.W.keepIn K (.ref f) = true ∧ Binds K fd ps []
theorem FnG.mono {P : Program} {w : World} {K : PySem.W.Frag} {mg : Str → Option Value} {base : Heap} {T : Tbl} {j k : Nat} {x : Str} {n : Nat} {φ : List D → Res D} (F : FnG P w K mg base T j x n φ) (h : j ≤ k) : FnG P w K mg base T k x n φ := by
  obtain ⟨f, fd, ps, a, b⟩ := F.at_
  exact ⟨f, fd, ps, a.mono h, b⟩
/-- what the text gives is what is promised -/
def Gives (φ : Res D) (r : Fl) : Prop := match φ with
  | .ok d => r = .rt d ∨ (d = .none ∧ ∃ ρ, r = .nx ρ)
  | .exc c => ∃ ρ, r = .exc c ρ
  | .stuck => True
structure LamG (K : PySem.W.Frag) (mg : Str → Option Value) (base : Heap) (T : Tbl) (x : Str) : Prop where
  tb : LamX.TabB base mg (He.cT K (x, none)).1 (He.cT K (x, none)).2
  mem : ((He.cT K (x, none)).2, (x ++ ".<locals>.") ++ "<lambda>") ∈ T
  one : ∀ p ∈ T, p.1 = (He.cT K (x, none)).2 → p.2 = (x ++ ".<locals>.") ++ "<lambda>"
def WdG (P : Program) (w : World) (K : PySem.W.Frag) (mg : Str → Option Value) (base : Heap) (k : Nat) : Prop := ∃ f fd, FnW P w K mg base k f fd ∧ mg "_law_word" = some (.ref f) ∧ PySem.W.keepIn K (.ref f) = true ∧ Binds K fd ["what"] []
theorem fn_D {P : Program} {w : World} {K : PySem.W.Frag} {mg : Str → Option Value} {base : Heap} {T : Tbl} {k n : Nat} {x : Str} {params : Arguments} {body : List Stmt} {scope : Scope} {fd : FuncData} {N ps : List Str} {φ : List D → Res D} {Γ : Fns} {ss : Ss} {lam wd : Bool} {xs : List Str} {gi : List (Str × Int)} {gs : List (Str × Str)}
    (F : FunD K x x params body scope [] [] (He.fAd K (x, none)) fd) (Sc : FnScope N ps scope) (hn : ps.length = n) (hm : mSs ⟨N, scope, true, lam, xs, wd, gi, gs⟩ ss body = true) (hblt : ∀ y ∈ blts, mg y = none)
    (hΓ : ∀ y m ψ, Γ y = some (m, ψ) → FnG P w K mg base T k y m ψ) (hlam : lam = true → LamG K mg base T x ∧ 8 ≤ k)
    (hexc : ∀ c ∈ xs, ExF K mg c) (hwrd : wd = true → WdG P w K mg base k) (hgi : ∀ y i, (y, i) ∈ gi → ∃ t, mg y = some (.int i t)) (hgs : ∀ y z, (y, z) ∈ gs → ∃ t, mg y = some (.str z t))
    (hrun : ∀ ds, ds.length = n → φ ds ≠ .stuck → ∃ fuel, Gives (φ ds) (exSs Γ fuel ss (startS N ds))) :
    FnOk P w K mg base (L2.CX P w) (k + 1) (He.fAd K (x, none)) fd ps (spD T K n φ) := by
  obtain ⟨oc, od, dV, kV, doc, pm, an, cdv, ct, osl, rfl, lk, hcd, _, _⟩ := F.ex
  obtain ⟨c, rfl⟩ := He.codeIn_ref hcd
  have hcode : He.codeOf K (x, none) = c := He.codeOf_eq lk rfl
  refine fn_of lk hcd Sc (fun vs H Q E h => ?_) fun A outer s H vs Q E hr h => ?_
  · obtain ⟨F, ds, _, ra, e, _⟩ := h
    rw [ra.length, e, hn]
  · obtain ⟨F0, ds, sf, ra, hl, q⟩ := h
    have hns : φ ds ≠ .stuck := fun z => by
      rw [z] at q
      exact q
    obtain ⟨fuel, hg⟩ := hrun ds hl hns
    have hlen : N.take ps.length = ps := Sc.pre
    have hNl : ds.length ≤ N.length := by
      have z := congrArg List.length hlen
      rw [List.length_take] at z
      omega
    have G : Gd (cxOf (L2.CX P w) P w K mg base N x scope (He.fAd K (x, none)) (.ref c) A outer s H E) (fun cls d _ H => E cls d H) T Γ ⟨N, scope, true, lam, xs, wd, gi, gs⟩ := by
      refine ⟨rfl, Sc.nd, rfl, rfl, fun _ _ => .inl rfl, hr.mono (Nat.zero_le _), hblt, L2.takes_of rfl rfl rfl rfl, fun y m ψ hy => ?_, fun hl => ?_, hexc, fun hw => ?_, hgi, hgs⟩
      · obtain ⟨f, fd, ps, a1, a2, a3, a4⟩ := (hΓ y m ψ hy).at_
        exact ⟨k, f, fd, ps, a1, hr, a2, a3, a4⟩
      · obtain ⟨L, h8⟩ := hlam hl
        refine ⟨⟨(He.cT K (x, none)).1, (He.cT K (x, none)).2, L.tb, ?_, L.mem, L.one⟩, hr.mono h8⟩
        show Value.ref c = Value.ref (He.codeOf K (x, none))
        rw [hcode]
      · obtain ⟨f, fd, a1, a2, a3, a4⟩ := hwrd hw
        exact ⟨k, f, fd, a1, hr, a2, a3, a4⟩
    refine ⟨_, sSs ss F0 H F0 fuel (L2.passes_of rfl) ⟨rfl, rfl⟩ G hm, startS N ds, F0, ?_, ?_⟩
    · refine ⟨.refl sf, .refl _, ?_, fun i d h => ?_, fun i es h => ?_, fun i j es fs a _ h => ?_⟩
      · show (ds.map Sl.val ++ List.replicate (N.length - ds.length) Sl.no).length = (L2.start N vs).length
        rw [List.length_append, List.length_map, List.length_replicate]
        have z := ra.length
        simp only [L2.start, List.length_append, List.length_map, List.length_replicate]
        omega
      · unfold startS at h
        by_cases hi : i < ds.length
        · rw [List.getElem?_append_left (by rw [List.length_map]; exact hi), List.getElem?_map] at h
          obtain ⟨e, h1, h2⟩ := Option.map_eq_some_iff.mp h
          cases h2
          obtain ⟨v, h3, r⟩ := ra.getD h1
          refine ⟨v, ?_, r⟩
          unfold L2.start
          rw [List.getElem?_append_left (by rw [List.length_map, ra.length]; exact hi), List.getElem?_map, h3]
          rfl
        · rw [List.getElem?_append_right (by rw [List.length_map]; omega)] at h
          have z := List.mem_of_getElem? h
          rw [List.mem_replicate] at z
          cases z.2
      · unfold startS at h
        have z := List.mem_of_getElem? h
        rcases List.mem_append.mp z with z | z
        · obtain ⟨_, _, z⟩ := List.mem_map.mp z
          cases z
        · rw [List.mem_replicate] at z
          cases z.2
      · unfold startS at h
        have z := List.mem_of_getElem? h
        rcases List.mem_append.mp z with z | z
        · obtain ⟨_, _, z⟩ := List.mem_map.mp z
          cases z
        · rw [List.mem_replicate] at z
          cases z.2
    · cases hφ : φ ds with
      | stuck => exact absurd hφ hns
      | ok d =>
        rw [hφ] at hg q
        rcases hg with e | ⟨rfl, ρ, e⟩
        · rw [e]
          exact q
        · rw [e]
          exact fun σ F' H' er => q .non F' H' er.ex .non
      | exc c =>
        rw [hφ] at hg q
        obtain ⟨ρ, e⟩ := hg
        rw [e]
        exact fun σ F' H' er => q H' er.ex.hh ⟨er.ex.ff.trans er.ex.fh.sm, sf.nt, er.ex.fh.tb⟩
/-- as a thing to be called -/
theorem fnG_of {P : Program} {w : World} {K : PySem.W.Frag} {mg : Str → Option Value} {base : Heap} {T : Tbl} {k n : Nat} {x : Str} {params : Arguments} {body : List Stmt} {scope : Scope} {fd : FuncData} {ps : List Str} {φ : List D → Res D}
    (F : FunD K x x params body scope [] [] (He.fAd K (x, none)) fd) (hg : mg x = some (.ref (He.ga K x))) (hb : Binds K fd ps []) (h : FnOk P w K mg base (L2.CX P w) k (He.fAd K (x, none)) fd ps (spD T K n φ)) : FnG P w K mg base T k x n φ :=
  ⟨_, fd, ps, h, hg, F.kp, hb⟩
/-! ### the end -/
theorem walk_ofTE {l : PySem.W.OpenLaw} {n k : Nat} {q : Program} {loose : List Str} {XP : (Str → Option Value) → Heap → Prop} {YP : World → Heap → Prop} {d : DefRec} {CX : World → CXT} {x : Str}
    (hn : l.most = some n) (hn2 : n ≤ sizeLine) (hdf : d.params.defaults = []) (hr : Room k callerA)
    (F : ∀ (w : World) (mg : Str → Option Value) (fa : Addr) (h : Heap), YP w h → h.Ns mainGlobals mg → mg d.name = some (.ref fa) → ∃ K : PySem.W.Frag, K.In h ∧ LamX.LawAtS l w K (CX w) k n x mg fa h)
    (hCX : ∀ (w : World) (H : Hp) (s : Shared) (e : Value) (s' : Shared), CX w [] H s (fun _ _ _ => False) e s' → False) :
    PySem.W.WalkO q loose XP YP l.row.toRowW d [] (fun f vs => PySem.call f vs) := by
  refine Att.attach_callB hn hdf fun w s₀ s₁ mg mb fa o pm cd doc a vs ns G Y ho hd hcd hmg hobj hints hlen hbits hg => ?_
  obtain ⟨K, KX, fd, cs, sp, hT, nT, C, hb, hsp, hF⟩ := F w mg fa _ Y G.T.g hmg
  exact LamX.law_callTs KX G.T.g G.T.b G.T.builtins G.T.nolimit hg hT nT C G.T.bmain hobj hints (Nat.le_trans hlen hn2) hr hF hb (fun H hH hS => hsp H a ns hlen hbits hH hS) fun H e s' => hCX w H s₁ e s'
/-- the heap without tables -/
def noTab (H : Hp) : Hp := fun a => match H a with
  | some (.tbl _) => none
  | o => o
theorem noTab_sm {H : Hp} : Same (noTab H) H := fun b o e => by
  unfold noTab at e
  split at e
  · cases e
  · exact e
theorem law_sp {K : PySem.W.Frag} {T : Tbl} {φ : List D → Res D} {H : Hp} {a : Addr} {ns : List Int} (hT : ∀ p ∈ T, H p.1 = some (.tbl #[])) (hS : SqL K H a (ns.map V.int)) (hφ : φ [scrD ns] = .ok (.bool true)) : spD T K 1 φ [.ref a] H (fun v _ => v = .bl true) fun _ _ _ => False := by
  refine ⟨noTab H, [scrD ns], ⟨noTab_sm, fun b ps e => ?_, fun p hp => .nil (hT p hp)⟩, .cons (.scr ?_) .nil, rfl, ?_⟩
  · unfold noTab at e
    split at e
    · cases e
    · rename_i o hne
      rw [e] at hne
      exact hne ps rfl
  · have keep : ∀ o, H a = some o → (∀ ps, o ≠ .tbl ps) → noTab H a = some o := fun o e h => by
      unfold noTab
      rw [e]
      cases o <;> first | rfl | exact absurd rfl (h _)
    rcases hS with hS | hS
    · rcases hS with e | ⟨o, e⟩
      · exact .inl (.inl (keep _ e fun _ z => nomatch z))
      · exact .inl (.inr ⟨o, keep _ e fun _ z => nomatch z⟩)
    · exact .inr hS
  · rw [hφ]
    intro v F' H' _ r
    cases r
    rfl
end Tl
namespace Tl
open PySem PySem.Spec L2
/-! ### promises by data -/
open Classical in
noncomputable def spec {α : Type} (dom : α → List D) (f : α → Res D) : List D → Res D := fun ds => if h : ∃ a, dom a = ds then f (Classical.choose h) else .stuck
theorem spec_at {α : Type} {dom : α → List D} {f : α → Res D} (inj : ∀ a b, dom a = dom b → a = b) (a : α) : spec dom f (dom a) = f a := by
  unfold spec
  have h : ∃ b, dom b = dom a := ⟨a, rfl⟩
  rw [dif_pos h, inj _ _ (Classical.choose_spec h)]
theorem spec_run {α : Type} {dom : α → List D} {f : α → Res D} {Γ : Fns} {ss : Ss} {N : List Str} {n : Nat} (h : ∀ a, ∃ fuel, Gives (f a) (exSs Γ fuel ss (startS N (dom a)))) : ∀ ds, ds.length = n → spec dom f ds ≠ .stuck → ∃ fuel, Gives (spec dom f ds) (exSs Γ fuel ss (startS N ds)) := by
  intro ds _ hs
  unfold spec at hs ⊢
  by_cases hx : ∃ a, dom a = ds
  · rw [dif_pos hx]
    obtain ⟨fuel, g⟩ := h (Classical.choose hx)
    exact ⟨fuel, by rw [Classical.choose_spec hx] at g; exact g⟩
  · rw [dif_neg hx] at hs
    exact absurd rfl hs
/-! ### the evaluator, by rewriting -/
@[simp] theorem lift_some {α : Type} (a : α) : lift (some a) = .ok a := rfl
@[simp] theorem lift_none {α : Type} : lift (none : Option α) = .stuck := rfl
def seeF (m : List Nat) : Nat → EnvS → Env0D
  | _, [] => []
  | n, s :: ρ => see m n s :: seeF m (n + 1) ρ
theorem seeF_map (m : List Nat) : ∀ (ρ : EnvS) (n : Nat), ρ.mapIdx (fun i s => see m (n + i) s) = seeF m n ρ
  | [], n => rfl
  | s :: ρ, n => by
    rw [List.mapIdx_cons, seeF, ← seeF_map m ρ (n + 1)]
    congr 1
    congr 1
    funext i
    rw [show n + (i + 1) = n + 1 + i by omega]
@[simp] theorem seeM_eq (m : List Nat) (ρ : EnvS) : seeM m ρ = seeF m 0 ρ := by
  rw [← seeF_map m ρ 0]
  unfold seeM
  congr 1
  funext i s
  rw [Nat.zero_add]
@[simp] theorem seeF_nil (m : List Nat) (n : Nat) : seeF m n [] = [] := rfl
@[simp] theorem seeF_cons (m : List Nat) (n : Nat) (s : Sl) (ρ : EnvS) : seeF m n (s :: ρ) = see m n s :: seeF m (n + 1) ρ := rfl
def fzF (m : List Nat) : Nat → EnvS → EnvS
  | _, [] => []
  | n, s :: ρ => fzn m n s :: fzF m (n + 1) ρ
theorem fzF_map (m : List Nat) : ∀ (ρ : EnvS) (n : Nat), ρ.mapIdx (fun i s => fzn m (n + i) s) = fzF m n ρ
  | [], n => rfl
  | s :: ρ, n => by
    rw [List.mapIdx_cons, fzF, ← fzF_map m ρ (n + 1)]
    congr 1
    congr 1
    funext i
    rw [show n + (i + 1) = n + 1 + i by omega]
@[simp] theorem freezeM_eq (m : List Nat) (ρ : EnvS) : freezeM m ρ = fzF m 0 ρ := by
  rw [← fzF_map m ρ 0]
  unfold freezeM
  congr 1
  funext i s
  rw [Nat.zero_add]
@[simp] theorem fzF_nil (m : List Nat) (n : Nat) : fzF m n [] = [] := rfl
@[simp] theorem fzF_cons (m : List Nat) (n : Nat) (s : Sl) (ρ : EnvS) : fzF m n (s :: ρ) = fzn m n s :: fzF m (n + 1) ρ := rfl
@[simp] theorem fzn_val (m : List Nat) (i : Nat) (d : D) : fzn m i (.val d) = .val d := rfl
@[simp] theorem fzn_no (m : List Nat) (i : Nat) : fzn m i .no = .no := rfl
@[simp] theorem fzn_own (m : List Nat) (i : Nat) (ds : List D) : fzn m i (.own ds) = if i ∈ m then .val (.list ds) else .own ds := rfl
@[simp] theorem see_val (m : List Nat) (i : Nat) (d : D) : see m i (.val d) = some d := rfl
@[simp] theorem see_no (m : List Nat) (i : Nat) : see m i .no = none := rfl
@[simp] theorem see_own (m : List Nat) (i : Nat) (ds : List D) : see m i (.own ds) = if i ∈ m then some (.list ds) else none := rfl
@[simp] theorem fl_nx (ρ : EnvS) (f : EnvS → Fl) : (Fl.nx ρ).bind f = f ρ := rfl
@[simp] theorem fl_rt (d : D) (f : EnvS → Fl) : (Fl.rt d).bind f = .rt d := rfl
@[simp] theorem fl_exc (c : Str) (ρ : EnvS) (f : EnvS → Fl) : (Fl.exc c ρ).bind f = .exc c ρ := rfl
@[simp] theorem op_ints (i j : Int) : opV .add (.int i) (.int j) = some (.int (i + j)) := rfl
@[simp] theorem op_subI (i j : Int) : opV .sub (.int i) (.int j) = some (.int (i - j)) := rfl
@[simp] theorem op_mulI (i j : Int) : opV .mul (.int i) (.int j) = gd (mulOk i j) (.int (i * j)) := rfl
@[simp] theorem op_divI (i j : Int) : opV .fdiv (.int i) (.int j) = gd (decide (0 < j) && decide (j < 1073741824)) (.int (i / j)) := rfl
@[simp] theorem op_modI (i j : Int) : opV .mod (.int i) (.int j) = gd (decide (0 < j)) (.int (i % j)) := rfl
@[simp] theorem op_tups (x y : List D) : opV .add (.tuple x) (.tuple y) = gd (sz (x.length + y.length)) (.tuple (x ++ y)) := rfl
@[simp] theorem op_lsts (x y : List D) : opV .add (.list x) (.list y) = gd (sz (x.length + y.length)) (.list (x ++ y)) := rfl
@[simp] theorem cm_lt (i j : Int) : cmpD .lt (.int i) (.int j) = some (.bool (decide (i < j))) := rfl
@[simp] theorem cm_le (i j : Int) : cmpD .le (.int i) (.int j) = some (.bool (decide (i ≤ j))) := rfl
@[simp] theorem cm_gt (i j : Int) : cmpD .gt (.int i) (.int j) = some (.bool (decide (j < i))) := rfl
@[simp] theorem cm_ge (i j : Int) : cmpD .ge (.int i) (.int j) = some (.bool (decide (j ≤ i))) := rfl
@[simp] theorem cm_eqI (i j : Int) : cmpD .eq (.int i) (.int j) = some (.bool (decide (i = j))) := by
  show Option.map PyData.bool (gd true (PyData.eqv (.int i) (.int j))) = _
  rw [show PyData.eqv (.int i) (.int j) = decide (i = j) from rfl]
  rfl
@[simp] theorem tru_bl (b : Bool) : truV (.bool b) = some b := rfl
@[simp] theorem gd_true {α : Type} (x : α) : gd true x = some x := rfl
theorem gd_of {α : Type} {b : Bool} (h : b = true) (x : α) : gd b x = some x := if_pos h
@[simp] theorem pure_bl (b : Bool) : pure_ (.bool b) = true := rfl
@[simp] theorem pure_int (i : Int) : pure_ (.int i) = true := rfl
@[simp] theorem pure_str (x : Str) : pure_ (.str x) = true := rfl
@[simp] theorem pure_non : pure_ .none = true := rfl
@[simp] theorem keep_pure {m : List Nat} {d : D} {ρ : EnvS} (h : pure_ d = true) : keepM m d ρ = ρ := if_pos h
theorem sz_of {n : Nat} (h : n ≤ 1000000) : sz n = true := by
  refine decide_eq_true ?_
  rw [sizeLine_eq]
  omega
/-! comprehensions over a mapped list -/
theorem lcD_map {α : Type} {f : D → Res (Option D)} {e : α → D} {g : α → D} (h : ∀ a, f (e a) = .ok (some (g a))) : ∀ l : List α, lcD f (l.map e) = .ok (l.map g)
  | [] => rfl
  | a :: l => by
    rw [List.map_cons, List.map_cons, lcD, h a, lcD_map h l]
    rfl
theorem lcD_mapM {α : Type} {f : D → Res (Option D)} {e : α → D} {g : α → D} : ∀ {l : List α}, (∀ a ∈ l, f (e a) = .ok (some (g a))) → lcD f (l.map e) = .ok (l.map g)
  | [], _ => rfl
  | a :: l, h => by
    rw [List.map_cons, List.map_cons, lcD, h a List.mem_cons_self, lcD_mapM fun b hb => h b (List.mem_cons_of_mem _ hb)]
    rfl
theorem lcD_filter {α : Type} {f : D → Res (Option D)} {e : α → D} {q : α → Bool} : ∀ {l : List α}, (∀ a ∈ l, f (e a) = .ok (if q a = true then some (e a) else none)) → lcD f (l.map e) = .ok ((l.filter q).map e)
  | [], _ => rfl
  | a :: l, h => by
    rw [List.map_cons, lcD, h a List.mem_cons_self, lcD_filter fun b hb => h b (List.mem_cons_of_mem _ hb)]
    by_cases hq : q a = true
    · rw [List.filter_cons_of_pos hq, if_pos hq]
      rfl
    · rw [List.filter_cons_of_neg hq, if_neg hq]
      rfl
theorem bools_map {α : Type} (f : α → Bool) : ∀ l : List α, boolsD (l.map fun a => .bool (f a)) = some (l.map f)
  | [] => rfl
  | a :: l => by
    show (boolsD (l.map fun a => .bool (f a))).map (f a :: ·) = _
    rw [bools_map f l]
    rfl
theorem ints_map {α : Type} (f : α → Int) : ∀ l : List α, intsD (l.map fun a => .int (f a)) = some (l.map f)
  | [] => rfl
  | a :: l => by
    show (intsD (l.map fun a => .int (f a))).map (f a :: ·) = _
    rw [ints_map f l]
    rfl
/-! loops -/
theorem forD_inv {b : D → EnvS → Fl} {I : EnvS → Prop} : ∀ {ds : List D}, (∀ d ∈ ds, ∀ ρ, I ρ → ∃ ρ', b d ρ = .nx ρ' ∧ I ρ') → ∀ ρ, I ρ → ∃ ρ', forD b ds ρ = .nx ρ' ∧ I ρ'
  | [], _, ρ, h => ⟨ρ, rfl, h⟩
  | d :: ds, hb, ρ, h => by
    obtain ⟨ρ1, e1, h1⟩ := hb d List.mem_cons_self ρ h
    obtain ⟨ρ2, e2, h2⟩ := forD_inv (fun d hd => hb d (List.mem_cons_of_mem _ hd)) ρ1 h1
    exact ⟨ρ2, by rw [forD, e1]; exact e2, h2⟩
/-! ### tiles -/
structure Tile where
  nm : Str
  l : Int
  t : Int
  w : Int
  h : Int
  fx : Bool
def tD (a : Tile) : D := .tuple [.str a.nm, .int a.l, .int a.t, .int a.w, .int a.h, .bool a.fx]
def tsD (ts : List Tile) : List D := ts.map tD
theorem tD_inj {a b : Tile} (h : tD a = tD b) : a = b := by
  cases a
  cases b
  simp only [tD, PyData.tuple.injEq, List.cons.injEq, PyData.str.injEq, PyData.int.injEq, PyData.bool.injEq] at h
  obtain ⟨h1, h2, h3, h4, h5, h6, _⟩ := h
  rw [h1, h2, h3, h4, h5, h6]
theorem tsD_inj : ∀ {as bs : List Tile}, tsD as = tsD bs → as = bs
  | [], [], _ => rfl
  | [], _ :: _, h => by simp [tsD] at h
  | _ :: _, [], h => by simp [tsD] at h
  | a :: as, b :: bs, h => by
    simp only [tsD, List.map_cons, List.cons.injEq] at h
    rw [tD_inj h.1, tsD_inj h.2]
@[simp] theorem ix_nm (a : Tile) : ixV (tD a) (.int 0) = some (.str a.nm) := rfl
@[simp] theorem ix_l (a : Tile) : ixV (tD a) (.int 1) = some (.int a.l) := rfl
@[simp] theorem ix_t (a : Tile) : ixV (tD a) (.int 2) = some (.int a.t) := rfl
@[simp] theorem ix_w (a : Tile) : ixV (tD a) (.int 3) = some (.int a.w) := rfl
@[simp] theorem ix_h (a : Tile) : ixV (tD a) (.int 4) = some (.int a.h) := rfl
@[simp] theorem ix_f (a : Tile) : ixV (tD a) (.int 5) = some (.bool a.fx) := rfl
@[simp] theorem pure_tD (a : Tile) : pure_ (tD a) = true := rfl
/-! ### do_meet -/
def meet (a b : Tile) : Bool := if a.l ≥ b.l + b.w ∨ b.l ≥ a.l + a.w then false else decide (a.t < b.t + b.h) && decide (b.t < a.t + a.h)
def dom2T (p : Tile × Tile) : List D := [tD p.1, tD p.2]
theorem dom2T_inj (p q : Tile × Tile) (h : dom2T p = dom2T q) : p = q := by
  obtain ⟨a, b⟩ := p
  obtain ⟨c, d⟩ := q
  simp only [dom2T, List.cons.injEq] at h
  rw [tD_inj h.1, tD_inj h.2.1]
noncomputable def do_meetS : List D → Res D := spec dom2T fun p => .ok (.bool (meet p.1 p.2))
end Tl
set_option maxHeartbeats 4000000
namespace Tl
open PySem PySem.Spec L2
@[simp] theorem intO_int (i : Int) : intO (.int i) = some i := rfl
@[simp] theorem sl_u2 (a : Tile) : slV (tD a) none (some 2) = some (.tuple [.str a.nm, .int a.l]) := rfl
@[simp] theorem sl_l3 (a : Tile) : slV (tD a) (some 3) none = some (.tuple [.int a.w, .int a.h, .bool a.fx]) := rfl
@[simp] theorem sl_l4 (a : Tile) : slV (tD a) (some 4) none = some (.tuple [.int a.h, .bool a.fx]) := rfl
@[simp] theorem sz_small {n : Nat} (h : n ≤ 1000) : n ≤ sizeLine := by
  rw [sizeLine_eq]
  omega
@[simp] theorem sz_small' {n : Nat} (h : n < 1000) : n < sizeLine := by
  rw [sizeLine_eq]
  omega
@[simp] theorem seq_list (ds : List D) : seqD (.list ds) = some ds := rfl
@[simp] theorem seq_tup (ds : List D) : seqD (.tuple ds) = some ds := rfl
@[simp] theorem seqs_list (ds : List D) : seqsD (.list ds) = some ds := rfl
@[simp] theorem seqs_tup (ds : List D) : seqsD (.tuple ds) = some ds := rfl
@[simp] theorem calm_ok {α : Type} (a : α) : (Res.ok a).calm = .ok a := rfl
@[simp] theorem tsD_len (ts : List Tile) : (tsD ts).length = ts.length := by simp [tsD]
@[simp] theorem pr_any (ds : List D) : prV .any [.list ds] = (boolsD ds).map fun bs => .bool (bs.any id) := rfl
@[simp] theorem pr_all (ds : List D) : prV .all [.list ds] = (boolsD ds).map fun bs => .bool (bs.all id) := rfl
@[simp] theorem pr_tup (ds : List D) : prV .tuple [.list ds] = some (.tuple ds) := rfl
@[simp] theorem pr_min (i j : Int) : prV .min [.int i, .int j] = some (.int (if j < i then j else i)) := rfl
@[simp] theorem pr_maxL (ds : List D) : prV .max [.list ds] = (intsD ds).bind maxO := rfl
theorem mapR_map {α : Type} {f : D → Res D} {e : α → D} {g : α → D} (h : ∀ a, f (e a) = .ok (g a)) : ∀ l : List α, mapR f (l.map e) = .ok (l.map g)
  | [] => rfl
  | a :: l => by
    rw [List.map_cons, List.map_cons, mapR, h a, mapR_map h l]
    rfl
/-! ### the evaluator, goal by goal -/
section
variable {Γ : Fns} {a b c : C} {es : Cs} {ρ : Env0D} {d e f : D} {ds : List D}
theorem ev_pr1 {p : Pr} (h1 : ev Γ a ρ = .ok d) (h2 : prV p [d] = some e) : ev Γ (.pr p a .nil) ρ = .ok e := by
  rw [ev, h1, Res.bind_ok, evs, Res.bind_ok, h2]
  rfl
theorem ev_not {k : Bool} (h1 : ev Γ a ρ = .ok d) (h2 : truV d = some k) : ev Γ (.not a) ρ = .ok (.bool (!k)) := by
  rw [ev, rB, h1, Res.bind_ok, h2]
  rfl
theorem ev_op {o : Op2} (h1 : ev Γ a ρ = .ok d) (h2 : ev Γ b ρ = .ok e) (h3 : opV o d e = some f) : ev Γ (.op o a b) ρ = .ok f := by
  rw [ev, h1, Res.bind_ok, h2, Res.bind_ok, h3]
  rfl
theorem ev_cmp {o : Cm} (h1 : ev Γ a ρ = .ok d) (h2 : ev Γ b ρ = .ok e) (h3 : cmpD o d e = some f) : ev Γ (.cmp o a b) ρ = .ok f := by
  rw [ev, h1, Res.bind_ok, h2, Res.bind_ok, h3]
  rfl
theorem ev_ix (h1 : ev Γ a ρ = .ok d) (h2 : ev Γ b ρ = .ok e) (h3 : ixV d e = some f) : ev Γ (.ix a b) ρ = .ok f := by
  rw [ev, h1, Res.bind_ok, h2, Res.bind_ok, h3]
  rfl
theorem ev_tup (h1 : evs Γ es ρ = .ok ds) (h2 : ds.length ≤ 1000) : ev Γ (.tup es) ρ = .ok (.tuple ds) := by
  rw [ev, h1, Res.bind_ok, gd_of (decide_eq_true (sz_small h2))]
  rfl
theorem ev_lst (h1 : evs Γ es ρ = .ok ds) (h2 : ds.length ≤ 1000) : ev Γ (.lst es) ρ = .ok (.list ds) := by
  rw [ev, h1, Res.bind_ok, gd_of (decide_eq_true (sz_small h2))]
  rfl
theorem evs_cons (h1 : ev Γ c ρ = .ok d) (h2 : evs Γ es ρ = .ok ds) : evs Γ (.cons c es) ρ = .ok (d :: ds) := by
  rw [evs, h1, Res.bind_ok, h2]
  rfl
theorem evs_nil : evs Γ .nil ρ = .ok [] := rfl
theorem ev_srt {r : D} (h1 : ev Γ a ρ = .ok d) (h2 : srtV [d] = some r) : ev Γ (.srt a) ρ = .ok r := by
  rw [ev, h1, Res.bind_ok, h2]
  rfl
theorem ev_maxd {r : D} (h1 : ev Γ a ρ = .ok d) (h2 : ev Γ b ρ = .ok e) (h3 : mxV d e = some r) : ev Γ (.maxd a b) ρ = .ok r := by
  rw [ev, h1, Res.bind_ok, h2, Res.bind_ok, h3]
  rfl
theorem ev_isi {t : Ty} {k : Bool} (h1 : ev Γ a ρ = .ok d) (h2 : t.of d = some k) : ev Γ (.isi a t) ρ = .ok (.bool k) := by
  rw [ev, h1, Res.bind_ok, h2]
  rfl
theorem ev_lc {elt : C} {tg : Tg} {it : CI} {ifs : Cs} {r : List D} (h1 : evI Γ it ρ = .ok ds) (h2 : lcD (lcF tg (evIfs Γ ifs) (ev Γ elt) ρ) ds = .ok r) (h3 : r.length ≤ 1000) : ev Γ (.lc elt tg it ifs) ρ = .ok (.list r) := by
  have e : ev Γ (.lc elt tg it ifs) ρ = (evI Γ it ρ).bind (fun ds => (lcD (lcF tg (evIfs Γ ifs) (ev Γ elt) ρ) ds).bind fun r => lift (gd (sz r.length) (PyData.list r))) := by
    rw [ev]
    rfl
  rw [e, h1, Res.bind_ok, h2, Res.bind_ok, gd_of (decide_eq_true (sz_small h3))]
  rfl
theorem ev_call {α : Type} {fn : Str} {n : Nat} {dom : α → List D} {g : α → Res D} (hΓ : Γ fn = some (n, spec dom g)) (inj : ∀ a b, dom a = dom b → a = b) (x : α) (h1 : ev Γ a ρ = .ok d) (h2 : evs Γ es ρ = .ok ds) (hn : ds.length + 1 = n) (hd : d :: ds = dom x) :
    ev Γ (.call fn a es) ρ = g x := by
  have e : ev Γ (.call fn a es) ρ = match Γ fn with
    | some (n, φ) => (ev Γ a ρ).bind fun d => (evs Γ es ρ).bind fun ds => if ds.length + 1 = n then φ (d :: ds) else .stuck
    | none => .stuck := by
    rw [ev] <;> rfl
  rw [e, hΓ]
  show ((ev Γ a ρ).bind fun d => (evs Γ es ρ).bind fun ds => if ds.length + 1 = n then spec dom g (d :: ds) else .stuck) = _
  rw [h1, Res.bind_ok, h2, Res.bind_ok, if_pos hn, hd, spec_at inj]
end
section
variable {Γ : Fns} {n : Nat} {c : C} {ρ : EnvS} {d : D} {ss : Ss}
theorem x_ret (h : ev Γ c (seeM (vsC c) ρ) = .ok d) : exSs Γ n (.cons (.ret c) ss) ρ = .rt d := by
  rw [exSs, exS, evE, h]
  rfl
theorem x_set {i : Nat} (h : ev Γ c (seeM (vsC c) ρ) = .ok d) (hp : pure_ d = true) : exSs Γ n (.cons (.set i c) ss) ρ = exSs Γ n ss (ρ.set i (.val d)) := by
  rw [exSs, exS, evE, h]
  show (Fl.nx ((keepM (vsC c) d ρ).set i (.val d))).bind _ = _
  rw [keep_pure hp]
  rfl
theorem x_setF {i : Nat} (h : ev Γ c (seeM (vsC c) ρ) = .ok d) (hp : pure_ d = false) : exSs Γ n (.cons (.set i c) ss) ρ = exSs Γ n ss ((freezeM (vsC c) ρ).set i (.val d)) := by
  rw [exSs, exS, evE, h]
  show (Fl.nx ((keepM (vsC c) d ρ).set i (.val d))).bind _ = _
  have e : keepM (vsC c) d ρ = freezeM (vsC c) ρ := if_neg (by rw [hp]; decide)
  rw [e]
  rfl
theorem x_new {i : Nat} : exSs Γ n (.cons (.new i) ss) ρ = exSs Γ n ss (ρ.set i (.own [])) := by
  rw [exSs, exS]
  rfl
theorem x_iff {t : C} {a b : Ss} {k : Bool} (h : ev Γ t (seeM (vsC t) ρ) = .ok d) (hk : truV d = some k) : exSs Γ n (.cons (.iff t a b) ss) ρ = (if k = true then exSs Γ n a ρ else exSs Γ n b ρ).bind fun ρ => exSs Γ n ss ρ := by
  rw [exSs, exS, evT, h, Res.bind_ok, hk]
  rfl
theorem x_app {i : Nat} {ds : List D} (hi : ρ[i]? = some (.own ds)) (h : ev Γ c (seeM (vsC c) ρ) = .ok d) (hp : pure_ d = true) (hz : ds.length < 1000) : exSs Γ n (.cons (.app i c) ss) ρ = exSs Γ n ss (ρ.set i (.own (ds ++ [d]))) := by
  rw [exSs, exS, hi]
  show (evE Γ c ρ fun d ρ => appS i d ρ).bind _ = _
  rw [evE, h]
  show (appS i d (keepM (vsC c) d ρ)).bind _ = _
  rw [keep_pure hp, appS, hi]
  show (if ds.length < sizeLine then Fl.nx (ρ.set i (.own (ds ++ [d]))) else Fl.stuck).bind _ = _
  rw [if_pos (sz_small' hz)]
  rfl
def forB (Γ : Fns) (n : Nat) (tg : Tg) (body : Ss) (d : D) (ρ : EnvS) : Fl := match tg.setS d ρ with
  | some ρ => exSs Γ n body ρ
  | none => .stuck
theorem x_for {tg : Tg} {it : CI} {body : Ss} {ds : List D} (h : evI Γ it (seeM (vsI it) ρ) = .ok ds) : exSs Γ n (.cons (.for_ tg it body) ss) ρ = (forD (forB Γ n tg body) ds (freezeM (vsI it) ρ)).bind fun ρ => exSs Γ n ss ρ := by
  rw [exSs, exS, h]
  rfl
theorem x_whl {t : C} {body : Ss} : exSs Γ n (.cons (.whl t body) ss) ρ = (whlD (fun ρ f => evT Γ t ρ f) (fun ρ => exSs Γ n body ρ) n ρ).bind fun ρ => exSs Γ n ss ρ := by
  rw [exSs, exS]
theorem x_nil : exSs Γ n .nil ρ = .nx ρ := rfl
theorem evT_of {t : C} {k : Bool} {f : Bool → Fl} (h : ev Γ t (seeM (vsC t) ρ) = .ok d) (hk : truV d = some k) : evT Γ t ρ f = f k := by
  rw [evT, h, Res.bind_ok, hk]
  rfl
end
/-! ### orders -/
theorem insS_map {α β : Type} (f : α → β) (lt : β → β → Bool) (x : α) : ∀ l : List α, insS lt (f x) (l.map f) = (insS (fun a b => lt (f a) (f b)) x l).map f
  | [] => rfl
  | y :: l => by
    rw [List.map_cons, insS, insS, insS_map f lt x l]
    split <;> simp
theorem isort_map {α β : Type} (f : α → β) (lt : β → β → Bool) : ∀ l : List α, isort lt (l.map f) = (isort (fun a b => lt (f a) (f b)) l).map f
  | [] => rfl
  | x :: l => by
    rw [List.map_cons, isort, isort, isort_map f lt l, insS_map]
theorem isort_len {α : Type} (lt : α → α → Bool) (l : List α) : (isort lt l).length = l.length := (isort_perm lt l).length_eq
theorem preEq_self : ∀ x : List Nat, preEq x x = true
  | [] => rfl
  | a :: x => by rw [preEq, preEq_self x]; simp
theorem homo_of {ds : List D} (k : List Nat) (hk : k ≠ []) (h : ∀ d ∈ ds, kdOf d = k) : homo ds = true := by
  refine List.all_eq_true.mpr fun d hd => ?_
  rw [Bool.and_eq_true, h d hd]
  refine ⟨decide_eq_true hk, List.all_eq_true.mpr fun e he => ?_⟩
  rw [h e he]
  exact preEq_self k
theorem kd_tile (a : Tile) : kdOf (tD a) = [0, 2, 1, 1, 1, 1, 3] := rfl
theorem homo_ts (ts : List Tile) : homo (tsD ts) = true := homo_of [0, 2, 1, 1, 1, 1, 3] (by simp) fun d hd => by
  obtain ⟨a, _, rfl⟩ := List.mem_map.mp hd
  exact kd_tile a
theorem kOk_ts (ts : List Tile) : kOk (tsD ts) = true := List.all_eq_true.mpr fun d hd => by
  obtain ⟨a, _, rfl⟩ := List.mem_map.mp hd
  rw [kd_tile]
  decide
/-- by themselves -/
def ltT (a b : Tile) : Bool := ltK (tD a) (tD b)
def srtT (ts : List Tile) : List Tile := isort ltT ts
theorem srtV_ts {ts : List Tile} (h : ts.length ≤ 1000) : srtV [.list (tsD ts)] = some (.list (tsD (srtT ts))) := by
  show gd (homo (tsD ts) && sz (tsD ts).length) _ = _
  rw [homo_ts, show sz (tsD ts).length = true from decide_eq_true (by rw [tsD_len]; exact sz_small h)]
  show some (PyData.list (isort ltK (ts.map tD))) = _
  rw [isort_map]
  rfl
/-- by row and column -/
def kk (a : Tile) : D := .tuple [.int a.t, .int a.l]
def ltO (a b : Tile) : Bool := ltK (kk a) (kk b)
def ordT (ts : List Tile) : List Tile := isort ltO ts
theorem keyV_ts {ts : List Tile} (h : ts.length ≤ 1000) : keyV (ts.map kk) (tsD ts) = some (.list (tsD (ordT ts))) := by
  have h1 : homo (ts.map kk) = true := homo_of [0, 1, 1] (by simp) fun d hd => by
    obtain ⟨a, _, rfl⟩ := List.mem_map.mp hd
    rfl
  show gd (homo (ts.map kk) && kOk (tsD ts) && sz (tsD ts).length) _ = _
  rw [h1, kOk_ts, show sz (tsD ts).length = true from decide_eq_true (by rw [tsD_len]; exact sz_small h)]
  show some (PyData.list ((isort ltF ((ts.map kk).zip (ts.map tD))).map Prod.snd)) = _
  rw [List.zip_map', isort_map, List.map_map]
  rfl
/-! ### at_row, by_order, meets_none -/
def dom_at (p : Tile × Int) : List D := [tD p.1, .int p.2]
theorem dom_at_inj (p q : Tile × Int) (h : dom_at p = dom_at q) : p = q := by
  obtain ⟨a, b⟩ := p
  obtain ⟨c, d⟩ := q
  simp only [dom_at, List.cons.injEq, PyData.int.injEq] at h
  rw [tD_inj h.1, h.2.1]
noncomputable def at_rowS : List D → Res D := spec dom_at fun p => .ok (tD { p.1 with t := p.2 })
def dom_ts (ts : List Tile) : List D := [.tuple (tsD ts)]
theorem dom_ts_inj (p q : List Tile) (h : dom_ts p = dom_ts q) : p = q := by
  simp only [dom_ts, List.cons.injEq, PyData.tuple.injEq] at h
  exact tsD_inj h.1
def sqD (b : Bool) (ds : List D) : D := if b = true then .list ds else .tuple ds
def dom_sq (p : List Tile × Bool) : List D := [sqD p.2 (tsD p.1)]
theorem dom_sq_inj (p q : List Tile × Bool) (h : dom_sq p = dom_sq q) : p = q := by
  obtain ⟨as, x⟩ := p
  obtain ⟨bs, y⟩ := q
  simp only [dom_sq, List.cons.injEq] at h
  obtain ⟨h2, _⟩ := h
  cases x <;> cases y <;> simp [sqD] at h2
  · rw [tsD_inj h2]
  · rw [tsD_inj h2]
noncomputable def by_orderS : List D → Res D := spec dom_sq fun p => if p.1.length ≤ 1000 then .ok (.list (tsD (ordT p.1))) else .stuck
def dom_tl (p : Tile × List Tile × Bool) : List D := [tD p.1, sqD p.2.2 (tsD p.2.1)]
theorem dom_tl_inj (p q : Tile × List Tile × Bool) (h : dom_tl p = dom_tl q) : p = q := by
  obtain ⟨a, as, x⟩ := p
  obtain ⟨b, bs, y⟩ := q
  simp only [dom_tl, List.cons.injEq] at h
  obtain ⟨h1, h2, _⟩ := h
  cases x <;> cases y <;> simp [sqD] at h2
  · rw [tD_inj h1, tsD_inj h2]
  · rw [tD_inj h1, tsD_inj h2]
def anyM (a : Tile) (ts : List Tile) : Bool := ts.any (meet a)
noncomputable def meets_noneS : List D → Res D := spec dom_tl fun p => if p.2.1.length ≤ 1000 then .ok (.bool (!anyM p.1 p.2.1)) else .stuck
@[simp] theorem seq_sqD (b : Bool) (ds : List D) : seqD (sqD b ds) = some ds := by cases b <;> rfl
/-! ### lowered -/
def lowF : Nat → List Tile → Tile → Tile
  | 0, _, a => a
  | n + 1, ts, a => if anyM a ts = true then lowF n ts { a with t := a.t + 1 } else a
def bd (ts : List Tile) (a : Tile) : Nat := ts.foldr (fun b n => max n (b.t + b.h - a.t).toNat) 0
def lower (ts : List Tile) (a : Tile) : Tile := lowF (bd ts a) ts a
theorem bd_le {ts : List Tile} {a : Tile} {n : Nat} : bd ts a ≤ n ↔ ∀ b ∈ ts, (b.t + b.h - a.t).toNat ≤ n := by
  induction ts with
  | nil => simp [bd]
  | cons b ts ih =>
    show max (bd ts a) _ ≤ n ↔ _
    rw [Nat.max_le, ih]
    constructor
    · rintro ⟨h1, h2⟩ c hc
      rcases List.mem_cons.mp hc with rfl | hc
      · exact h2
      · exact h1 c hc
    · exact fun h => ⟨fun c hc => h c (List.mem_cons_of_mem _ hc), h b List.mem_cons_self⟩
theorem meet_lt {a b : Tile} (h : meet a b = true) : a.t < b.t + b.h := by
  unfold meet at h
  split at h
  · cases h
  · rw [Bool.and_eq_true, decide_eq_true_eq] at h
    exact h.1
theorem bd_zero {ts : List Tile} {a : Tile} (h : bd ts a ≤ 0) : anyM a ts = false := by
  cases q : anyM a ts with
  | false => rfl
  | true =>
    obtain ⟨b, hb, hm⟩ := List.any_eq_true.mp q
    have z := bd_le.mp h b hb
    have z2 := meet_lt hm
    omega
theorem bd_succ {ts : List Tile} {a : Tile} {n : Nat} (h : bd ts a ≤ n + 1) : bd ts { a with t := a.t + 1 } ≤ n := bd_le.mpr fun b hb => by
  have z := bd_le.mp h b hb
  show (b.t + b.h - (a.t + 1)).toNat ≤ n
  omega
theorem lowF_ok {ts : List Tile} : ∀ {n m : Nat} {a : Tile}, bd ts a ≤ n → bd ts a ≤ m → lowF n ts a = lowF m ts a
  | 0, 0, _, _, _ => rfl
  | 0, m + 1, a, h, _ => by rw [lowF, lowF, bd_zero h]; rfl
  | n + 1, 0, a, _, h => by rw [lowF, lowF, bd_zero h]; rfl
  | n + 1, m + 1, a, h1, h2 => by
    rw [lowF, lowF]
    split
    · exact lowF_ok (bd_succ h1) (bd_succ h2)
    · rfl
theorem lower_eq {ts : List Tile} {a : Tile} {n : Nat} (h : bd ts a ≤ n) : lowF n ts a = lower ts a := lowF_ok h (Nat.le_refl _)
def dom_lo (p : Tile × List Tile) : List D := [tD p.1, .list (tsD p.2)]
theorem dom_lo_inj (p q : Tile × List Tile) (h : dom_lo p = dom_lo q) : p = q := by
  obtain ⟨a, as⟩ := p
  obtain ⟨b, bs⟩ := q
  simp only [dom_lo, List.cons.injEq, PyData.list.injEq] at h
  rw [tD_inj h.1, tsD_inj h.2.1]
noncomputable def lowered_toS : List D → Res D := spec dom_lo fun p => if p.2.length ≤ 1000 then .ok (tD (lower p.2 p.1)) else .stuck
/-! ### narrowed -/
def mnI (i j : Int) : Int := if j < i then j else i
def nar (a : Tile) (new : Int) : Tile := { a with w := mnI a.w new, l := mnI a.l (new - mnI a.w new) }
noncomputable def narrow_tileS : List D → Res D := spec dom_at fun p => .ok (tD (nar p.1 p.2))
def narF (new : Int) : List Tile → List Tile → List Tile
  | acc, [] => acc
  | acc, a :: ts => narF new (acc ++ [lower acc (nar a new)]) ts
theorem narF_len (new : Int) : ∀ (ts acc : List Tile), (narF new acc ts).length = acc.length + ts.length
  | [], acc => rfl
  | a :: ts, acc => by
    rw [narF, narF_len new ts, List.length_append, List.length_cons]
    simp
    omega
def dom_il (p : Int × List Tile × Int) : List D := [.int p.1, .tuple (tsD p.2.1), .int p.2.2]
theorem dom_il_inj (p q : Int × List Tile × Int) (h : dom_il p = dom_il q) : p = q := by
  obtain ⟨a, as, x⟩ := p
  obtain ⟨b, bs, y⟩ := q
  simp only [dom_il, List.cons.injEq, PyData.int.injEq, PyData.tuple.injEq] at h
  rw [h.1, tsD_inj h.2.1, h.2.2.1]
def narT (ts : List Tile) (new : Int) : List Tile := srtT (narF new [] (ordT ts))
noncomputable def narrowedS : List D → Res D := spec dom_il fun p => if p.2.1.length ≤ 900 then .ok (.tuple (tsD (narT p.2.1 p.2.2))) else .stuck
def bestW (ts : List Tile) : Int := match ts with
  | [] => 1
  | a :: r => maxL (a.l + a.w) (r.map fun a => a.l + a.w)
noncomputable def best_widthS : List D → Res D := spec dom_ts fun ts => if ts.length ≤ 1000 then .ok (.int (bestW ts)) else .stuck
noncomputable def keptS : List D → Res D := spec dom_il fun p => if p.2.1.length ≤ 1000 then (if p.2.2 < bestW p.2.1 then .ok .none else .ok (.tuple (tsD p.2.1))) else .stuck
end Tl
set_option maxHeartbeats 0
namespace Tl
open PySem PySem.Spec L2 PyProof.Rows
def N_do_meet : List Str := ["one", "other"]
def c_do_meet : Ss := (.cons (.iff (.or (.cons (.cmp .ge (.ix (.var 0) (.int 1)) (.op .add (.ix (.var 1) (.int 1)) (.ix (.var 1) (.int 3)))) (.cons (.cmp .ge (.ix (.var 1) (.int 1)) (.op .add (.ix (.var 0) (.int 1)) (.ix (.var 0) (.int 3)))) .nil))) (.cons (.ret (.bl false)) .nil) .nil) (.cons (.ret (.and (.cons (.cmp .lt (.ix (.var 0) (.int 2)) (.op .add (.ix (.var 1) (.int 2)) (.ix (.var 1) (.int 4)))) (.cons (.cmp .lt (.ix (.var 1) (.int 2)) (.op .add (.ix (.var 0) (.int 2)) (.ix (.var 0) (.int 4)))) .nil)))) .nil))
def N_at_row : List Str := ["tile", "top"]
def c_at_row : Ss := (.cons (.ret (.op .add (.op .add (.slU (.var 0) (.int 2)) (.tup (.cons (.var 1) .nil))) (.slL (.var 0) (.int 3)))) .nil)
def N_by_order : List Str := ["layout"]
def c_by_order : Ss := (.cons (.ret (.srtk "tile" (.tup (.cons (.ix (.var 0) (.int 2)) (.cons (.ix (.var 0) (.int 1)) .nil))) (.var 0))) .nil)
def N_meets_none : List Str := ["tile", "some", "one"]
def c_meets_none : Ss := (.cons (.ret (.not (.pr .any (.lc (.call "do_meet" (.var 0) (.cons (.var 2) .nil)) (.one 2) (.seq (.var 1)) .nil) .nil))) .nil)
def N_lowered_to : List Str := ["tile", "some"]
def c_lowered_to : Ss := (.cons (.whl (.not (.call "meets_none" (.var 0) (.cons (.var 1) .nil))) (.cons (.set 0 (.call "at_row" (.var 0) (.cons (.op .add (.ix (.var 0) (.int 2)) (.int 1)) .nil))) .nil)) (.cons (.ret (.var 0)) .nil))
def N_narrow_tile : List Str := ["tile", "new", "width"]
def c_narrow_tile : Ss := (.cons (.set 2 (.pr .min (.ix (.var 0) (.int 3)) (.cons (.var 1) .nil))) (.cons (.ret (.op .add (.tup (.cons (.ix (.var 0) (.int 0)) (.cons (.pr .min (.ix (.var 0) (.int 1)) (.cons (.op .sub (.var 1) (.var 2)) .nil)) (.cons (.ix (.var 0) (.int 2)) (.cons (.var 2) .nil))))) (.slL (.var 0) (.int 4)))) .nil))
def N_narrowed : List Str := ["wide", "layout", "new", "found", "tile"]
def c_narrowed : Ss := (.cons (.new 3) (.cons (.for_ (.one 4) (.seq (.call "by_order" (.var 1) .nil)) (.cons (.app 3 (.call "lowered_to" (.call "narrow_tile" (.var 4) (.cons (.var 2) .nil)) (.cons (.var 3) .nil))) .nil)) (.cons (.ret (.pr .tuple (.srt (.var 3)) .nil)) .nil)))
def N_best_width : List Str := ["layout", "tile"]
def c_best_width : Ss := (.cons (.ret (.maxd (.lc (.op .add (.ix (.var 1) (.int 1)) (.ix (.var 1) (.int 3))) (.one 1) (.seq (.var 0)) .nil) (.int 1))) .nil)
def N_kept : List Str := ["wide", "layout", "new"]
def c_kept : Ss := (.cons (.iff (.cmp .gt (.call "best_width" (.var 1) .nil) (.var 2)) (.cons (.ret .non) .nil) .nil) (.cons (.ret (.var 1)) .nil))
def N__law_cell : List Str := ["script", "k"]
def c__law_cell : Ss := (.cons (.iff (.cmp .lt (.var 1) (.pr .len (.var 0) .nil)) (.cons (.ret (.ix (.var 0) (.var 1))) .nil) .nil) (.cons (.ret (.int 0)) .nil))
def N__law_mix : List Str := ["cell", "prime", "many", "blend"]
def c__law_mix : Ss := (.cons (.set 3 (.op .mod (.op .mul (.var 0) (.int 48271)) (.var 1))) (.cons (.ret (.op .mod (.op .mod (.op .mul (.var 3) (.op .add (.var 3) (.int 7))) (.var 1)) (.var 2))) .nil))
def N__law_same : List Str := ["found", "due", "one", "other"]
def c__law_same : Ss := (.cons (.iff (.isi (.var 1) .tuple) (.cons (.iff (.or (.cons (.not (.isi (.var 0) .tuple)) (.cons (.cmp .ne (.pr .len (.var 0) .nil) (.pr .len (.var 1) .nil)) .nil))) (.cons (.ret (.bl false)) .nil) .nil) (.cons (.ret (.pr .all (.lc (.call "_law_same" (.var 2) (.cons (.var 3) .nil)) (.many [2, 3]) (.zip (.var 0) (.var 1)) .nil) .nil)) .nil)) .nil) (.cons (.iff (.cmp .is_ (.var 1) .non) (.cons (.ret (.cmp .is_ (.var 0) .non)) .nil) .nil) (.cons (.iff (.or (.cons (.isi (.var 1) .bool) (.cons (.isi (.var 0) .bool) .nil))) (.cons (.ret (.and (.cons (.isi (.var 1) .bool) (.cons (.isi (.var 0) .bool) (.cons (.cmp .eq (.var 0) (.var 1)) .nil))))) .nil) .nil) (.cons (.ret (.and (.cons (.isi2 (.var 0) .int .str) (.cons (.cmp .eq (.var 0) (.var 1)) .nil)))) .nil))))
def N__law_spots : List Str := ["tile", "gathered", "k"]
def c__law_spots : Ss := (.cons (.new 1) (.cons (.for_ (.one 2) (.rng1 (.op .mul (.ix (.var 0) (.int 3)) (.ix (.var 0) (.int 4)))) (.cons (.app 1 (.tup (.cons (.op .add (.ix (.var 0) (.int 1)) (.op .fdiv (.var 2) (.ix (.var 0) (.int 4)))) (.cons (.op .add (.ix (.var 0) (.int 2)) (.op .mod (.var 2) (.ix (.var 0) (.int 4)))) .nil)))) .nil)) (.cons (.ret (.var 1)) .nil)))
def N__law_meets : List Str := ["tile", "some", "mine", "one", "spot"]
def c__law_meets : Ss := (.cons (.set 2 (.call "_law_spots" (.var 0) .nil)) (.cons (.for_ (.one 3) (.seq (.var 1)) (.cons (.iff (.and (.cons (.cmp .lt (.ix (.var 3) (.int 2)) (.op .add (.ix (.var 0) (.int 2)) (.ix (.var 0) (.int 4)))) (.cons (.cmp .lt (.ix (.var 0) (.int 2)) (.op .add (.ix (.var 3) (.int 2)) (.ix (.var 3) (.int 4)))) .nil))) (.cons (.iff (.cmp .ne (.lc (.var 4) (.one 4) (.seq (.call "_law_spots" (.var 3) .nil)) (.cons (.cmp .isin (.var 4) (.var 2)) .nil)) (.lst .nil)) (.cons (.ret (.bl true)) .nil) .nil) .nil) .nil) .nil)) (.cons (.ret (.bl false)) .nil)))
def N__law_tile : List Str := ["cell", "wide", "name", "width", "left", "fixed_now"]
def c__law_tile : Ss := (.cons (.set 3 (.op .add (.int 1) (.call "_law_mix" (.var 0) (.cons (.int 9973) (.cons (.pr .min (.var 1) (.cons (.int 4) .nil)) .nil))))) (.cons (.set 4 (.call "_law_mix" (.var 0) (.cons (.int 9967) (.cons (.op .add (.op .sub (.var 1) (.var 3)) (.int 1)) .nil)))) (.cons (.set 5 (.cmp .eq (.call "_law_mix" (.var 0) (.cons (.int 9931) (.cons (.int 6) .nil))) (.int 0))) (.cons (.ret (.tup (.cons (.var 2) (.cons (.var 4) (.cons (.call "_law_mix" (.var 0) (.cons (.int 9949) (.cons (.int 9) .nil))) (.cons (.var 3) (.cons (.op .add (.int 1) (.call "_law_mix" (.var 0) (.cons (.int 9941) (.cons (.int 3) .nil)))) (.cons (.var 5) .nil)))))))) .nil))))
def N__law_layout : List Str := ["cell", "wide", "most", "gathered", "k", "name", "tile"]
def c__law_layout : Ss := (.cons (.new 3) (.cons (.for_ (.many [4, 5]) (.enum (.slU (.str "dcabzyxwfe") (.var 2))) (.cons (.set 6 (.call "_law_tile" (.op .add (.var 0) (.op .mul (.int 37) (.var 4))) (.cons (.var 1) (.cons (.var 5) .nil)))) (.cons (.iff (.not (.call "_law_meets" (.var 6) (.cons (.var 3) .nil))) (.cons (.app 3 (.var 6)) .nil) .nil) .nil))) (.cons (.ret (.pr .tuple (.srt (.var 3)) .nil)) .nil)))
def N__law_wide : List Str := ["cell"]
def c__law_wide : Ss := (.cons (.ret (.ite (.cmp .eq (.call "_law_mix" (.var 0) (.cons (.int 9923) (.cons (.int 3) .nil))) (.int 0)) (.op .add (.int 1) (.call "_law_mix" (.var 0) (.cons (.int 9929) (.cons (.int 12) .nil)))) (.op .add (.int 4) (.call "_law_mix" (.var 0) (.cons (.int 9907) (.cons (.int 5) .nil)))))) .nil)
def N__law_order : List Str := ["layout"]
def c__law_order : Ss := (.cons (.ret (.srtk "tile" (.tup (.cons (.ix (.var 0) (.int 2)) (.cons (.ix (.var 0) (.int 1)) .nil))) (.var 0))) .nil)
def N__law_lower : List Str := ["tile", "some"]
def c__law_lower : Ss := (.cons (.whl (.call "_law_meets" (.var 0) (.cons (.var 1) .nil)) (.cons (.set 0 (.op .add (.op .add (.slU (.var 0) (.int 2)) (.tup (.cons (.op .add (.ix (.var 0) (.int 2)) (.int 1)) .nil))) (.slL (.var 0) (.int 3)))) .nil)) (.cons (.ret (.var 0)) .nil))
def N_tile_of : List Str := ["layout", "name", "tile"]
def c_tile_of : Ss := (.cons (.for_ (.one 2) (.seq (.var 0)) (.cons (.iff (.cmp .eq (.ix (.var 2) (.int 0)) (.var 1)) (.cons (.ret (.var 2)) .nil) .nil) .nil)) (.cons (.rai "NoTile") .nil))
def N_others : List Str := ["layout", "name", "tile"]
def c_others : Ss := (.cons (.ret (.pr .tuple (.lc (.var 2) (.one 2) (.seq (.var 0)) (.cons (.cmp .ne (.ix (.var 2) (.int 0)) (.var 1)) .nil)) .nil)) .nil)
def N_loose : List Str := ["layout", "name", "tile"]
def c_loose : Ss := (.cons (.set 2 (.call "tile_of" (.var 0) (.cons (.var 1) .nil))) (.cons (.iff (.ix (.var 2) (.int 5)) (.cons (.rai "Fixed") .nil) .nil) (.cons (.ret (.var 2)) .nil)))
def N_raised : List Str := ["tile", "some"]
def c_raised : Ss := (.cons (.whl (.and (.cons (.cmp .gt (.ix (.var 0) (.int 2)) (.int 0)) (.cons (.call "meets_none" (.call "at_row" (.var 0) (.cons (.op .sub (.ix (.var 0) (.int 2)) (.int 1)) .nil)) (.cons (.var 1) .nil)) .nil))) (.cons (.set 0 (.call "at_row" (.var 0) (.cons (.op .sub (.ix (.var 0) (.int 2)) (.int 1)) .nil))) .nil)) (.cons (.ret (.var 0)) .nil))
def N_slid : List Str := ["layout", "name", "tile", "rest"]
def c_slid : Ss := (.cons (.set 2 (.call "loose" (.var 0) (.cons (.var 1) .nil))) (.cons (.set 3 (.call "others" (.var 0) (.cons (.var 1) .nil))) (.cons (.ret (.pr .tuple (.srt (.op .add (.var 3) (.tup (.cons (.call "raised" (.var 2) (.cons (.var 3) .nil)) .nil)))) .nil)) .nil)))
def N_packed : List Str := ["layout", "found", "tile"]
def c_packed : Ss := (.cons (.setO 1 (.lc (.var 2) (.one 2) (.seq (.var 0)) (.cons (.ix (.var 2) (.int 5)) .nil))) (.cons (.for_ (.one 2) (.seq (.call "by_order" (.var 0) .nil)) (.cons (.iff (.not (.ix (.var 2) (.int 5))) (.cons (.app 1 (.call "raised" (.var 2) (.cons (.var 1) .nil))) .nil) .nil) .nil)) (.cons (.ret (.pr .tuple (.srt (.var 1)) .nil)) .nil)))
def N_is_packed : List Str := ["layout", "tile"]
def c_is_packed : Ss := (.cons (.ret (.pr .all (.lc (.or (.cons (.ix (.var 1) (.int 5)) (.cons (.cmp .eq (.call "raised" (.var 1) (.cons (.call "others" (.var 0) (.cons (.ix (.var 1) (.int 0)) .nil)) .nil)) (.var 1)) .nil))) (.one 1) (.seq (.var 0)) .nil) .nil)) .nil)
def N__law_by : List Str := ["layout", "name", "tile"]
def c__law_by : Ss := (.cons (.ret (.lc (.var 2) (.one 2) (.seq (.var 0)) (.cons (.cmp .eq (.ix (.var 2) (.int 0)) (.var 1)) .nil))) .nil)
def N__law_up : List Str := ["tile", "some"]
def c__law_up : Ss := (.cons (.whl (.and (.cons (.cmp .gt (.ix (.var 0) (.int 2)) (.int 0)) (.cons (.not (.call "_law_meets" (.op .add (.op .add (.slU (.var 0) (.int 2)) (.tup (.cons (.op .sub (.ix (.var 0) (.int 2)) (.int 1)) .nil))) (.slL (.var 0) (.int 3))) (.cons (.var 1) .nil))) .nil))) (.cons (.set 0 (.op .add (.op .add (.slU (.var 0) (.int 2)) (.tup (.cons (.op .sub (.ix (.var 0) (.int 2)) (.int 1)) .nil))) (.slL (.var 0) (.int 3)))) .nil)) (.cons (.ret (.var 0)) .nil))
def N__law_packed : List Str := ["layout", "gathered", "tile"]
def c__law_packed : Ss := (.cons (.setO 1 (.lc (.var 2) (.one 2) (.seq (.var 0)) (.cons (.ix (.var 2) (.int 5)) .nil))) (.cons (.for_ (.one 2) (.seq (.call "_law_order" (.var 0) .nil)) (.cons (.iff (.not (.ix (.var 2) (.int 5))) (.cons (.app 1 (.call "_law_up" (.var 2) (.cons (.var 1) .nil))) .nil) .nil) .nil)) (.cons (.ret (.pr .tuple (.srt (.var 1)) .nil)) .nil)))
def N_is_whole : List Str := ["thing", "low", "high"]
def c_is_whole : Ss := (.cons (.ret (.and (.cons (.isi (.var 0) .int) (.cons (.not (.isi (.var 0) .bool)) (.cons (.cmp2 .le .le (.var 1) (.var 0) (.var 2)) .nil))))) .nil)
def N_is_name : List Str := ["thing"]
def c_is_name : Ss := (.cons (.ret (.and (.cons (.isi (.var 0) .str) (.cons (.cmp .eq (.pr .len (.var 0) .nil) (.int 1)) (.cons (.cmp .isin (.var 0) (.gstr "LETTERS" "abcdefghijklmnopqrstuvwxyz")) .nil))))) .nil)
def N_is_tile : List Str := ["wide", "thing"]
def c_is_tile : Ss := (.cons (.iff (.or (.cons (.not (.isi (.var 1) .tuple)) (.cons (.cmp .ne (.pr .len (.var 1) .nil) (.int 6)) (.cons (.not (.call "is_name" (.ix (.var 1) (.int 0)) .nil)) (.cons (.not (.isi (.ix (.var 1) (.int 5)) .bool)) .nil))))) (.cons (.ret (.bl false)) .nil) .nil) (.cons (.iff (.or (.cons (.not (.call "is_whole" (.ix (.var 1) (.int 1)) (.cons (.int 0) (.cons (.op .sub (.var 0) (.int 1)) .nil)))) (.cons (.not (.call "is_whole" (.ix (.var 1) (.int 2)) (.cons (.int 0) (.cons (.gint "LOWEST" 99) .nil)))) .nil))) (.cons (.ret (.bl false)) .nil) .nil) (.cons (.ret (.and (.cons (.call "is_whole" (.ix (.var 1) (.int 3)) (.cons (.int 1) (.cons (.op .sub (.var 0) (.ix (.var 1) (.int 1))) .nil))) (.cons (.call "is_whole" (.ix (.var 1) (.int 4)) (.cons (.int 1) (.cons (.gint "HIGHEST" 6) .nil))) .nil)))) .nil)))
def N_is_layout : List Str := ["wide", "thing", "one", "k", "tile"]
def c_is_layout : Ss := (.cons (.iff (.or (.cons (.not (.isi (.var 1) .tuple)) (.cons (.not (.pr .all (.lc (.call "is_tile" (.var 0) (.cons (.var 2) .nil)) (.one 2) (.seq (.var 1)) .nil) .nil)) .nil))) (.cons (.ret (.bl false)) .nil) .nil) (.cons (.for_ (.many [3, 4]) (.enum (.var 1)) (.cons (.iff (.or (.cons (.and (.cons (.cmp .gt (.var 3) (.int 0)) (.cons (.cmp .ge (.ix (.ix (.var 1) (.op .sub (.var 3) (.int 1))) (.int 0)) (.ix (.var 4) (.int 0))) .nil))) (.cons (.pr .any (.lc (.call "do_meet" (.var 4) (.cons (.var 2) .nil)) (.one 2) (.seq (.slU (.var 1) (.var 3))) .nil) .nil) .nil))) (.cons (.ret (.bl false)) .nil) .nil) .nil)) (.cons (.ret (.bl true)) .nil)))
def N_settled : List Str := ["layout", "first", "rest", "found", "tile"]
def c_settled : Ss := (.cons (.set 2 (.call "others" (.var 0) (.cons (.ix (.var 1) (.int 0)) .nil))) (.cons (.cat 3 (.lst (.cons (.var 1) .nil)) (.lc (.var 4) (.one 4) (.seq (.var 2)) (.cons (.ix (.var 4) (.int 5)) .nil))) (.cons (.for_ (.one 4) (.seq (.call "by_order" (.var 2) .nil)) (.cons (.iff (.not (.ix (.var 4) (.int 5))) (.cons (.app 3 (.call "lowered_to" (.var 4) (.cons (.var 3) .nil))) .nil) .nil) .nil)) (.cons (.ret (.pr .tuple (.srt (.var 3)) .nil)) .nil))))
def N_must_fit : List Str := ["wide", "layout", "tile", "one"]
def c_must_fit : Ss := (.cons (.iff (.not (.call "is_tile" (.var 0) (.cons (.var 2) .nil))) (.cons (.rai "BadTile") .nil) .nil) (.cons (.iff (.not (.call "meets_none" (.var 2) (.cons (.lc (.var 3) (.one 3) (.seq (.call "others" (.var 1) (.cons (.ix (.var 2) (.int 0)) .nil))) (.cons (.ix (.var 3) (.int 5)) .nil)) .nil))) (.cons (.rai "NoRoom") .nil) .nil) .nil))
def N_moved : List Str := ["wide", "layout", "name", "left", "top", "tile"]
def c_moved : Ss := (.cons (.set 5 (.call "loose" (.var 1) (.cons (.var 2) .nil))) (.cons (.set 5 (.op .add (.tup (.cons (.var 2) (.cons (.var 3) (.cons (.var 4) .nil)))) (.slL (.var 5) (.int 3)))) (.cons (.exp (.call "must_fit" (.var 0) (.cons (.var 1) (.cons (.var 5) .nil)))) (.cons (.ret (.call "settled" (.var 1) (.cons (.var 5) .nil))) .nil))))
def N_sized : List Str := ["wide", "layout", "name", "width", "height", "tile"]
def c_sized : Ss := (.cons (.set 5 (.call "loose" (.var 1) (.cons (.var 2) .nil))) (.cons (.set 5 (.op .add (.slU (.var 5) (.int 3)) (.tup (.cons (.var 3) (.cons (.var 4) (.cons (.bl false) .nil)))))) (.cons (.exp (.call "must_fit" (.var 0) (.cons (.var 1) (.cons (.var 5) .nil)))) (.cons (.ret (.call "settled" (.var 1) (.cons (.var 5) .nil))) .nil))))
def N_put : List Str := ["wide", "layout", "tile"]
def c_put : Ss := (.cons (.iff (.cmp .lt (.pr .len (.call "others" (.var 1) (.cons (.ix (.var 2) (.int 0)) .nil)) .nil) (.pr .len (.var 1) .nil)) (.cons (.rai "BadTile") .nil) .nil) (.cons (.exp (.call "must_fit" (.var 0) (.cons (.var 1) (.cons (.var 2) .nil)))) (.cons (.ret (.call "settled" (.var 1) (.cons (.var 2) .nil))) .nil)))
def N_fixed : List Str := ["layout", "name", "is_fixed", "tile"]
def c_fixed : Ss := (.cons (.set 3 (.call "tile_of" (.var 0) (.cons (.var 1) .nil))) (.cons (.ret (.pr .tuple (.srt (.op .add (.call "others" (.var 0) (.cons (.var 1) .nil)) (.tup (.cons (.op .add (.slU (.var 3) (.int 5)) (.tup (.cons (.var 2) .nil))) .nil)))) .nil)) .nil))
def N_taken : List Str := ["layout", "name"]
def c_taken : Ss := (.cons (.exp (.call "tile_of" (.var 0) (.cons (.var 1) .nil))) (.cons (.ret (.call "others" (.var 0) (.cons (.var 1) .nil))) .nil))
def N__law_settled : List Str := ["layout", "first", "rest", "tile", "gathered"]
def c__law_settled : Ss := (.cons (.set 2 (.lc (.var 3) (.one 3) (.seq (.var 0)) (.cons (.cmp .ne (.ix (.var 3) (.int 0)) (.ix (.var 1) (.int 0))) .nil))) (.cons (.cat 4 (.lst (.cons (.var 1) .nil)) (.lc (.var 3) (.one 3) (.seq (.var 2)) (.cons (.ix (.var 3) (.int 5)) .nil))) (.cons (.for_ (.one 3) (.seq (.call "_law_order" (.var 2) .nil)) (.cons (.iff (.not (.ix (.var 3) (.int 5))) (.cons (.app 4 (.call "_law_lower" (.var 3) (.cons (.var 4) .nil))) .nil) .nil) .nil)) (.cons (.ret (.pr .tuple (.srt (.var 4)) .nil)) .nil))))
def N__law_is_good : List Str := ["wide", "tile"]
def c__law_is_good : Ss := (.cons (.ret (.and (.cons (.cmp .ge (.ix (.var 1) (.int 1)) (.int 0)) (.cons (.cmp2 .le .lt (.int 0) (.ix (.var 1) (.int 2)) (.int 100)) (.cons (.cmp .gt (.ix (.var 1) (.int 3)) (.int 0)) (.cons (.cmp2 .lt .lt (.int 0) (.ix (.var 1) (.int 4)) (.int 7)) (.cons (.cmp .le (.op .add (.ix (.var 1) (.int 1)) (.ix (.var 1) (.int 3))) (.var 0)) .nil))))))) .nil)
def N__law_put : List Str := ["wide", "layout", "tile", "is_new", "old", "one"]
def c__law_put : Ss := (.cons (.set 4 (.call "_law_by" (.var 1) (.cons (.ix (.var 2) (.int 0)) .nil))) (.cons (.iff (.and (.cons (.not (.var 3)) (.cons (.cmp .eq (.var 4) (.lst .nil)) .nil))) (.cons (.ret (.str "no tile")) .nil) .nil) (.cons (.iff (.and (.cons (.var 3) (.cons (.cmp .ne (.var 4) (.lst .nil)) .nil))) (.cons (.ret (.str "bad tile")) .nil) .nil) (.cons (.iff (.and (.cons (.not (.var 3)) (.cons (.ix (.ix (.var 4) (.int 0)) (.int 5)) .nil))) (.cons (.ret (.str "fixed")) .nil) .nil) (.cons (.iff (.not (.call "_law_is_good" (.var 0) (.cons (.var 2) .nil))) (.cons (.ret (.str "bad tile")) .nil) .nil) (.cons (.iff (.call "_law_meets" (.var 2) (.cons (.lc (.var 5) (.one 5) (.seq (.var 1)) (.cons (.and (.cons (.ix (.var 5) (.int 5)) (.cons (.cmp .ne (.ix (.var 5) (.int 0)) (.ix (.var 2) (.int 0))) .nil))) .nil)) .nil)) (.cons (.ret (.str "no room")) .nil) .nil) (.cons (.ret (.call "_law_settled" (.var 1) (.cons (.var 2) .nil))) .nil)))))))
def N_at : List Str := ["layout", "column", "row", "name", "left", "top", "width", "height", "is_fixed"]
def c_at : Ss := (.cons (.for_ (.many [3, 4, 5, 6, 7, 8]) (.seq (.var 0)) (.cons (.iff (.and (.cons (.cmp2 .le .lt (.var 4) (.var 1) (.op .add (.var 4) (.var 6))) (.cons (.cmp2 .le .lt (.var 5) (.var 2) (.op .add (.var 5) (.var 7))) .nil))) (.cons (.ret (.var 3)) .nil) .nil) .nil)) (.cons (.ret .non) .nil))
def N_height : List Str := ["layout", "tile"]
def c_height : Ss := (.cons (.ret (.maxd (.lc (.op .add (.ix (.var 1) (.int 2)) (.ix (.var 1) (.int 4))) (.one 1) (.seq (.var 0)) .nil) (.int 0))) .nil)
def N_must_be_narrow : List Str := ["wide", "width"]
def c_must_be_narrow : Ss := (.cons (.iff (.cmp .gt (.var 1) (.var 0)) (.cons (.rai "BadTile") .nil) .nil) .nil)
def N_rooms : List Str := ["wide", "layout", "width", "high", "found", "top", "left"]
def c_rooms : Ss := (.cons (.exp (.call "must_be_narrow" (.var 0) (.cons (.var 2) .nil))) (.cons (.new 4) (.cons (.for_ (.one 5) (.rng1 (.op .add (.call "height" (.var 1) .nil) (.int 1))) (.cons (.for_ (.one 6) (.rng1 (.op .add (.op .sub (.var 0) (.var 2)) (.int 1))) (.cons (.iff (.call "meets_none" (.tup (.cons (.str "a") (.cons (.var 6) (.cons (.var 5) (.cons (.var 2) (.cons (.var 3) (.cons (.bl false) .nil))))))) (.cons (.var 1) .nil)) (.cons (.app 4 (.tup (.cons (.var 6) (.cons (.var 5) .nil)))) .nil) .nil) .nil)) .nil)) (.cons (.ret (.pr .tuple (.var 4) .nil)) .nil))))
def N_room : List Str := ["wide", "layout", "width", "high"]
def c_room : Ss := (.cons (.ret (.ix (.call "rooms" (.var 0) (.cons (.var 1) (.cons (.var 2) (.cons (.var 3) .nil)))) (.int 0))) .nil)
def N_new_name : List Str := ["layout", "free", "letter", "tile"]
def c_new_name : Ss := (.cons (.set 1 (.lc (.var 2) (.one 2) (.seq (.gstr "LETTERS" "abcdefghijklmnopqrstuvwxyz")) (.cons (.cmp .notin (.var 2) (.lc (.ix (.var 3) (.int 0)) (.one 3) (.seq (.var 0)) .nil)) .nil))) (.cons (.iff (.not (.var 1)) (.cons (.rai "NoName") .nil) .nil) (.cons (.ret (.ix (.var 1) (.int 0))) .nil)))
def N_added : List Str := ["wide", "layout", "width", "high", "left", "top"]
def c_added : Ss := (.cons (.unp [4, 5] (.call "room" (.var 0) (.cons (.var 1) (.cons (.var 2) (.cons (.var 3) .nil))))) (.cons (.ret (.pr .tuple (.srt (.op .add (.var 1) (.tup (.cons (.tup (.cons (.call "new_name" (.var 1) .nil) (.cons (.var 4) (.cons (.var 5) (.cons (.var 2) (.cons (.var 3) (.cons (.bl false) .nil))))))) .nil)))) .nil)) .nil))
def N_holes : List Str := ["wide", "layout", "found", "row", "column"]
def c_holes : Ss := (.cons (.set 2 (.int 0)) (.cons (.for_ (.one 3) (.rng1 (.call "height" (.var 1) .nil)) (.cons (.set 2 (.op .add (.var 2) (.pr .len (.lc (.var 4) (.one 4) (.rng1 (.var 0)) (.cons (.cmp .is_ (.call "at" (.var 1) (.cons (.var 4) (.cons (.var 3) .nil))) .non) .nil)) .nil))) .nil)) (.cons (.ret (.var 2)) .nil)))
def N_is_free : List Str := ["layout", "tile"]
def c_is_free : Ss := (.cons (.ret (.call "meets_none" (.var 1) (.cons (.call "others" (.var 0) (.cons (.ix (.var 1) (.int 0)) .nil)) .nil))) .nil)
def N_in_order : List Str := ["layout", "tile"]
def c_in_order : Ss := (.cons (.ret (.pr .tuple (.lc (.ix (.var 1) (.int 0)) (.one 1) (.seq (.call "by_order" (.var 0) .nil)) .nil) .nil)) .nil)
def N_mirrored : List Str := ["wide", "layout", "tile"]
def c_mirrored : Ss := (.cons (.ret (.pr .tuple (.lc (.op .add (.op .add (.slU (.var 2) (.int 1)) (.tup (.cons (.op .sub (.op .sub (.var 0) (.ix (.var 2) (.int 1))) (.ix (.var 2) (.int 3))) .nil))) (.slL (.var 2) (.int 2))) (.one 2) (.seq (.var 1)) .nil) .nil)) .nil)
def N_lowered : List Str := ["layout", "by", "tile"]
def c_lowered : Ss := (.cons (.iff (.pr .any (.lc (.cmp .lt (.op .add (.ix (.var 2) (.int 2)) (.var 1)) (.int 0)) (.one 2) (.seq (.var 0)) .nil) .nil) (.cons (.rai "BadTile") .nil) .nil) (.cons (.ret (.pr .tuple (.lc (.call "at_row" (.var 2) (.cons (.op .add (.ix (.var 2) (.int 2)) (.var 1)) .nil)) (.one 2) (.seq (.var 0)) .nil) .nil)) .nil))
def N_both : List Str := ["one", "other", "names", "tile"]
def c_both : Ss := (.cons (.set 2 (.lc (.ix (.var 3) (.int 0)) (.one 3) (.seq (.var 0)) .nil)) (.cons (.iff (.pr .any (.lc (.cmp .isin (.ix (.var 3) (.int 0)) (.var 2)) (.one 3) (.seq (.var 1)) .nil) .nil) (.cons (.rai "Same") .nil) .nil) (.cons (.ret (.pr .tuple (.srt (.op .add (.var 0) (.var 1))) .nil)) .nil)))
def N_beside : List Str := ["wide", "one", "other", "tile"]
def c_beside : Ss := (.cons (.ret (.call "both" (.var 1) (.cons (.pr .tuple (.lc (.op .add (.op .add (.slU (.var 3) (.int 1)) (.tup (.cons (.op .add (.ix (.var 3) (.int 1)) (.var 0)) .nil))) (.slL (.var 3) (.int 2))) (.one 3) (.seq (.var 2)) .nil) .nil) .nil))) .nil)
def N_below : List Str := ["one", "other"]
def c_below : Ss := (.cons (.ret (.call "both" (.var 0) (.cons (.call "lowered" (.var 1) (.cons (.call "height" (.var 0) .nil) .nil)) .nil))) .nil)
def N_share_columns : List Str := ["one", "other"]
def c_share_columns : Ss := (.cons (.ret (.and (.cons (.cmp .lt (.ix (.var 0) (.int 1)) (.op .add (.ix (.var 1) (.int 1)) (.ix (.var 1) (.int 3)))) (.cons (.cmp .lt (.ix (.var 1) (.int 1)) (.op .add (.ix (.var 0) (.int 1)) (.ix (.var 0) (.int 3)))) .nil)))) .nil)
def N_parts : List Str := ["layout", "found", "tile", "near", "group", "one", "joined"]
def c_parts : Ss := (.cons (.new 1) (.cons (.for_ (.one 2) (.seq (.var 0)) (.cons (.set 3 (.lc (.var 4) (.one 4) (.seq (.var 1)) (.cons (.pr .any (.lc (.call "share_columns" (.var 2) (.cons (.var 5) .nil)) (.one 5) (.seq (.var 4)) .nil) .nil) .nil))) (.cons (.setO 6 (.lst (.cons (.var 2) .nil))) (.cons (.for_ (.one 4) (.seq (.var 3)) (.cons (.ext 6 (.var 4)) .nil)) (.cons (.set 1 (.op .add (.lc (.var 4) (.one 4) (.seq (.var 1)) (.cons (.cmp .notin (.var 4) (.var 3)) .nil)) (.lst (.cons (.var 6) .nil)))) .nil))))) (.cons (.ret (.pr .tuple (.srt (.lc (.pr .tuple (.srt (.lc (.ix (.var 2) (.int 0)) (.one 2) (.seq (.var 4)) .nil)) .nil) (.one 4) (.seq (.var 1)) .nil)) .nil)) .nil)))
def N__law_are_alike : List Str := ["script", "k", "boards", "wide", "layout", "mirror", "other", "joined_now", "j", "seed", "tile", "goal", "alone", "flipped", "there"]
def c__law_are_alike : Ss := (.cons (.unp [3, 4, 5, 6] (.var 2)) (.cons (.set 7 (.call "beside" (.var 3) (.cons (.var 4) (.cons (.var 6) .nil)))) (.cons (.for_ (.one 8) (.rng1 (.int 6)) (.cons (.set 9 (.op .add (.op .add (.call "_law_cell" (.var 0) (.cons (.int 9) .nil)) (.op .mul (.int 17) (.var 8))) (.var 1))) (.cons (.for_ (.one 10) (.seq (.slU (.slL (.var 4) (.op .mod (.var 8) (.int 3))) (.int 1))) (.cons (.set 11 (.op .add (.tup (.cons (.ix (.var 10) (.int 0)) (.cons (.call "_law_mix" (.var 9) (.cons (.int 9817) (.cons (.op .add (.op .sub (.var 3) (.ix (.var 10) (.int 3))) (.int 1)) .nil))) (.cons (.call "_law_mix" (.var 9) (.cons (.int 9811) (.cons (.int 10) .nil))) .nil)))) (.slL (.var 10) (.int 3)))) (.cons (.set 12 (.call "_law_told" (.var 3) (.cons (.var 4) (.cons (.var 11) .nil)))) (.cons (.set 13 (.call "_law_told" (.var 3) (.cons (.var 5) (.cons (.ix (.call "mirrored" (.var 3) (.cons (.tup (.cons (.var 11) .nil)) .nil)) (.int 0)) .nil)))) (.cons (.iff (.or (.cons (.cmp .ne (.cmp .is_ (.var 12) .non) (.cmp .is_ (.var 13) .non)) (.cons (.and (.cons (.cmp .isnot (.var 12) .non) (.cons (.cmp .ne (.call "mirrored" (.var 3) (.cons (.var 12) .nil)) (.var 13)) .nil))) .nil))) (.cons (.ret (.bl false)) .nil) .nil) (.cons (.set 14 (.call "_law_told" (.int 12) (.cons (.var 7) (.cons (.var 11) .nil)))) (.cons (.iff (.or (.cons (.cmp .ne (.cmp .is_ (.var 12) .non) (.cmp .is_ (.var 14) .non)) (.cons (.and (.cons (.cmp .isnot (.var 12) .non) (.cons (.cmp .ne (.var 14) (.call "beside" (.var 3) (.cons (.var 12) (.cons (.var 6) .nil)))) .nil))) .nil))) (.cons (.ret (.bl false)) .nil) .nil) .nil))))))) .nil))) (.cons (.ret (.bl true)) .nil))))
def N_low_bound : List Str := ["wide", "layout", "area", "tile"]
def c_low_bound : Ss := (.cons (.iff (.not (.var 1)) (.cons (.ret (.int 0)) .nil) .nil) (.cons (.set 2 (.pr .sum (.lc (.op .mul (.ix (.var 3) (.int 3)) (.ix (.var 3) (.int 4))) (.one 3) (.seq (.var 1)) .nil) .nil)) (.cons (.ret (.pr .max (.pr .max (.lc (.ix (.var 3) (.int 4)) (.one 3) (.seq (.var 1)) .nil) .nil) (.cons (.op .fdiv (.op .sub (.op .add (.var 2) (.var 0)) (.int 1)) (.var 0)) .nil))) .nil)))
def N_places_for : List Str := ["wide", "high", "tile", "found", "top", "left"]
def c_places_for : Ss := (.cons (.new 3) (.cons (.for_ (.one 4) (.rng1 (.op .add (.op .sub (.var 1) (.ix (.var 2) (.int 4))) (.int 1))) (.cons (.ext 3 (.lc (.op .add (.op .add (.slU (.var 2) (.int 1)) (.tup (.cons (.var 5) (.cons (.var 4) .nil)))) (.slL (.var 2) (.int 3))) (.one 5) (.rng1 (.op .add (.op .sub (.var 0) (.ix (.var 2) (.int 3))) (.int 1))) .nil)) .nil)) (.cons (.ret (.var 3)) .nil)))
def N_fitted : List Str := ["wide", "high", "left", "laid", "tile", "found"]
def c_fitted : Ss := (.cons (.iff (.not (.var 2)) (.cons (.ret (.pr .tuple (.srt (.var 3)) .nil)) .nil) .nil) (.cons (.for_ (.one 4) (.seq (.call "places_for" (.var 0) (.cons (.var 1) (.cons (.ix (.var 2) (.int 0)) .nil)))) (.cons (.iff (.call "meets_none" (.var 4) (.cons (.var 3) .nil)) (.cons (.set 5 (.call "fitted" (.var 0) (.cons (.var 1) (.cons (.slL (.var 2) (.int 1)) (.cons (.op .add (.var 3) (.lst (.cons (.var 4) .nil))) .nil))))) (.cons (.iff (.cmp .isnot (.var 5) .non) (.cons (.ret (.var 5)) .nil) .nil) .nil)) .nil) .nil)) (.cons (.ret .non) .nil)))
def N_low_layout : List Str := ["wide", "layout", "ranked", "high", "found"]
def c_low_layout : Ss := (.cons (.set 2 (.srtk "tile" (.tup (.cons (.op .sub (.int 0) (.op .mul (.ix (.var 0) (.int 3)) (.ix (.var 0) (.int 4)))) (.cons (.ix (.var 0) (.int 0)) .nil))) (.var 1))) (.cons (.set 3 (.call "low_bound" (.var 0) (.cons (.var 1) .nil))) (.cons (.set 4 (.call "fitted" (.var 0) (.cons (.var 3) (.cons (.var 2) (.cons (.lst .nil) .nil))))) (.cons (.whl (.cmp .is_ (.var 4) .non) (.cons (.set 3 (.op .add (.var 3) (.int 1))) (.cons (.set 4 (.call "fitted" (.var 0) (.cons (.var 3) (.cons (.var 2) (.cons (.lst .nil) .nil))))) .nil))) (.cons (.ret (.var 4)) .nil)))))
def N_least_height : List Str := ["wide", "layout"]
def c_least_height : Ss := (.cons (.ret (.call "height" (.call "low_layout" (.var 0) (.cons (.var 1) .nil)) .nil)) .nil)
def N_spare : List Str := ["wide", "layout"]
def c_spare : Ss := (.cons (.ret (.op .sub (.call "height" (.var 1) .nil) (.call "least_height" (.var 0) (.cons (.var 1) .nil)))) .nil)
def N_shape_of : List Str := ["layout", "tile"]
def c_shape_of : Ss := (.cons (.ret (.lc (.op .add (.slU (.var 1) (.int 1)) (.slL (.var 1) (.int 3))) (.one 1) (.seq (.var 0)) .nil)) .nil)
def N_is_low : List Str := ["wide", "layout", "thing"]
def c_is_low : Ss := (.cons (.iff (.or (.cons (.not (.call "is_layout" (.var 0) (.cons (.var 2) .nil))) (.cons (.cmp .ne (.call "shape_of" (.var 2) .nil) (.call "shape_of" (.var 1) .nil)) .nil))) (.cons (.ret (.bl false)) .nil) .nil) (.cons (.ret (.cmp .eq (.call "height" (.var 2) .nil) (.call "least_height" (.var 0) (.cons (.var 1) .nil)))) .nil))
def N__law_free : List Str := ["cell", "wide", "most", "tile"]
def c__law_free : Ss := (.cons (.ret (.pr .tuple (.lc (.op .add (.slU (.var 3) (.int 5)) (.tup (.cons (.bl false) .nil))) (.one 3) (.seq (.call "_law_layout" (.var 0) (.cons (.var 1) (.cons (.var 2) .nil)))) .nil) .nil)) .nil)
def N__law_shapes : List Str := ["wide", "high", "left", "there", "name", "column", "top", "width", "tall", "is_fixed", "row", "here", "tile"]
def c__law_shapes : Ss := (.cons (.iff (.cmp .eq (.var 2) (.tup .nil)) (.cons (.ret (.bl true)) .nil) .nil) (.cons (.unp [4, 5, 6, 7, 8, 9] (.ix (.var 2) (.int 0))) (.cons (.for_ (.one 10) (.rng1 (.op .add (.op .sub (.var 1) (.var 8)) (.int 1))) (.cons (.for_ (.one 11) (.rng1 (.op .add (.op .sub (.var 0) (.var 7)) (.int 1))) (.cons (.set 12 (.tup (.cons (.var 4) (.cons (.var 11) (.cons (.var 10) (.cons (.var 7) (.cons (.var 8) (.cons (.bl false) .nil)))))))) (.cons (.iff (.and (.cons (.not (.call "_law_meets" (.var 12) (.cons (.var 3) .nil))) (.cons (.call "_law_shapes" (.var 0) (.cons (.var 1) (.cons (.slL (.var 2) (.int 1)) (.cons (.op .add (.var 3) (.lst (.cons (.var 12) .nil))) .nil)))) .nil))) (.cons (.ret (.bl true)) .nil) .nil) .nil))) .nil)) (.cons (.ret (.bl false)) .nil))))
def N__law_bound : List Str := ["wide", "layout", "area", "tile", "rows", "n"]
def c__law_bound : Ss := (.cons (.set 2 (.pr .sum (.lc (.op .mul (.ix (.var 3) (.int 3)) (.ix (.var 3) (.int 4))) (.one 3) (.seq (.var 1)) .nil) .nil)) (.cons (.set 4 (.lc (.var 5) (.one 5) (.rng1 (.int 30)) (.cons (.cmp .ge (.op .mul (.var 5) (.var 0)) (.var 2)) .nil))) (.cons (.ret (.pr .max (.op .add (.lst (.cons (.ix (.var 4) (.int 0)) .nil)) (.lc (.ix (.var 3) (.int 4)) (.one 3) (.seq (.var 1)) .nil)) .nil)) .nil)))
def N_spots : List Str := ["tile", "name", "left", "top", "width", "height", "is_fixed", "found", "column", "row"]
def c_spots : Ss := (.cons (.unp [1, 2, 3, 4, 5, 6] (.var 0)) (.cons (.new 7) (.cons (.for_ (.one 8) (.rng2 (.var 2) (.op .add (.var 2) (.var 4))) (.cons (.ext 7 (.lc (.tup (.cons (.var 8) (.cons (.var 9) .nil))) (.one 9) (.rng2 (.var 3) (.op .add (.var 3) (.var 5))) .nil)) .nil)) (.cons (.ret (.pr .tuple (.var 7) .nil)) .nil))))
def N__law_is_least : List Str := ["layout", "new", "first", "names_now", "tile", "ahead", "name", "old", "here", "top", "one"]
def c__law_is_least : Ss := (.cons (.set 3 (.call "in_order" (.pr .tuple (.lc (.var 4) (.one 4) (.seq (.var 0)) (.cons (.cmp .ne (.ix (.var 4) (.int 0)) (.ix (.var 2) (.int 0))) .nil)) .nil) .nil)) (.cons (.cat 5 (.lst (.cons (.var 2) .nil)) (.lc (.var 4) (.one 4) (.seq (.var 1)) (.cons (.and (.cons (.ix (.var 4) (.int 5)) (.cons (.cmp .ne (.ix (.var 4) (.int 0)) (.ix (.var 2) (.int 0))) .nil))) .nil))) (.cons (.for_ (.one 6) (.seq (.var 3)) (.cons (.par [7, 8] (.cons (.call "tile_of" (.var 0) (.cons (.var 6) .nil)) (.cons (.call "tile_of" (.var 1) (.cons (.var 6) .nil)) .nil))) (.cons (.iff (.or (.cons (.cmp .ne (.op .add (.slU (.var 8) (.int 2)) (.slL (.var 8) (.int 3))) (.op .add (.slU (.var 7) (.int 2)) (.slL (.var 7) (.int 3)))) (.cons (.cmp .lt (.ix (.var 8) (.int 2)) (.ix (.var 7) (.int 2))) .nil))) (.cons (.ret (.bl false)) .nil) .nil) (.cons (.for_ (.one 9) (.rng2 (.ix (.var 7) (.int 2)) (.ix (.var 8) (.int 2))) (.cons (.iff (.cmp .eq (.lc (.var 10) (.one 10) (.seq (.var 5)) (.cons (.call "do_meet" (.var 10) (.cons (.op .add (.op .add (.slU (.var 8) (.int 2)) (.tup (.cons (.var 9) .nil))) (.slL (.var 8) (.int 3))) .nil)) .nil)) (.lst .nil)) (.cons (.ret (.bl false)) .nil) .nil) .nil)) (.cons (.iff (.and (.cons (.ix (.var 7) (.int 5)) (.cons (.cmp .ne (.var 8) (.var 7)) .nil))) (.cons (.ret (.bl false)) .nil) .nil) (.cons (.iff (.not (.ix (.var 7) (.int 5))) (.cons (.iff (.cmp .ne (.lc (.var 10) (.one 10) (.seq (.var 5)) (.cons (.call "do_meet" (.var 10) (.cons (.var 8) .nil)) .nil)) (.lst .nil)) (.cons (.ret (.bl false)) .nil) .nil) (.cons (.app 5 (.var 8)) .nil)) .nil) .nil)))))) (.cons (.ret (.bl true)) .nil))))
def N__law_high_of : List Str := ["layout", "tile"]
def c__law_high_of : Ss := (.cons (.ret (.pr .max (.op .add (.lst (.cons (.int 0) .nil)) (.lc (.ix (.var 1) (.int 2)) (.one 1) (.seq (.var 0)) .nil)) .nil)) .nil)
def N__law_stays : List Str := ["wide", "layout", "tile"]
def c__law_stays : Ss := (.cons (.for_ (.one 2) (.seq (.var 1)) (.cons (.iff (.not (.ix (.var 2) (.int 5))) (.cons (.iff (.cmp .ne (.call "moved" (.var 0) (.cons (.var 1) (.cons (.ix (.var 2) (.int 0)) (.cons (.ix (.var 2) (.int 1)) (.cons (.ix (.var 2) (.int 2)) .nil))))) (.var 1)) (.cons (.ret (.bl false)) .nil) .nil) (.cons (.iff (.cmp .ne (.call "sized" (.var 0) (.cons (.var 1) (.cons (.ix (.var 2) (.int 0)) (.cons (.ix (.var 2) (.int 3)) (.cons (.ix (.var 2) (.int 4)) .nil))))) (.var 1)) (.cons (.ret (.bl false)) .nil) .nil) .nil)) .nil) (.cons (.iff (.cmp .ne (.call "fixed" (.call "fixed" (.var 1) (.cons (.ix (.var 2) (.int 0)) (.cons (.not (.ix (.var 2) (.int 5))) .nil))) (.cons (.ix (.var 2) (.int 0)) (.cons (.ix (.var 2) (.int 5)) .nil))) (.var 1)) (.cons (.ret (.bl false)) .nil) .nil) .nil))) (.cons (.ret (.bl true)) .nil))
def N_cost : List Str := ["one", "other", "mine", "found", "tile", "old"]
def c_cost : Ss := (.cons (.set 2 (.call "by_names" (.var 0) .nil)) (.cons (.set 3 (.int 0)) (.cons (.for_ (.one 4) (.seq (.var 1)) (.cons (.iff (.cmp .isin (.ix (.var 4) (.int 0)) (.var 2)) (.cons (.set 5 (.ix (.var 2) (.ix (.var 4) (.int 0)))) (.cons (.set 3 (.op .add (.op .add (.var 3) (.pr .abs (.op .sub (.ix (.var 4) (.int 1)) (.ix (.var 5) (.int 1))) .nil)) (.pr .abs (.op .sub (.ix (.var 4) (.int 2)) (.ix (.var 5) (.int 2))) .nil))) .nil)) .nil) .nil)) (.cons (.ret (.var 3)) .nil))))
def N__law_next : List Str := ["cell", "layout", "way", "tile"]
def c__law_next : Ss := (.cons (.set 2 (.call "_law_mix" (.var 0) (.cons (.int 9791) (.cons (.int 4) .nil)))) (.cons (.iff (.or (.cons (.cmp .eq (.var 1) (.tup .nil)) (.cons (.cmp .eq (.var 2) (.int 0)) .nil))) (.cons (.ret (.call "_law_layout" (.var 0) (.cons (.int 6) (.cons (.int 6) .nil)))) .nil) .nil) (.cons (.set 3 (.ix (.var 1) (.call "_law_mix" (.var 0) (.cons (.int 9787) (.cons (.pr .len (.var 1) .nil) .nil))))) (.cons (.iff (.cmp .eq (.var 2) (.int 1)) (.cons (.ret (.call "packed" (.var 1) .nil)) .nil) .nil) (.cons (.iff (.cmp .eq (.var 2) (.int 2)) (.cons (.ret (.call "taken" (.var 1) (.cons (.ix (.var 3) (.int 0)) .nil))) .nil) .nil) (.cons (.tri ["NoTile", "BadTile", "Fixed", "NoRoom"] (.cons (.ret (.call "moved" (.int 6) (.cons (.var 1) (.cons (.ix (.var 3) (.int 0)) (.cons (.call "_law_mix" (.var 0) (.cons (.int 9781) (.cons (.op .sub (.int 7) (.ix (.var 3) (.int 3))) .nil))) (.cons (.call "_law_mix" (.var 0) (.cons (.int 9769) (.cons (.int 9) .nil))) .nil)))))) .nil) (.ret (.var 1))) .nil))))))
def N_in_rank : List Str := ["some"]
def c_in_rank : Ss := (.cons (.ret (.srtk "tile" (.tup (.cons (.ix (.var 0) (.int 2)) (.cons (.ix (.var 0) (.int 1)) (.cons (.ix (.var 0) (.int 0)) .nil)))) (.var 0))) .nil)
def N_laid : List Str := ["some", "found", "tile", "one"]
def c_laid : Ss := (.cons (.new 1) (.cons (.for_ (.one 2) (.seq (.call "in_rank" (.lc (.var 3) (.one 3) (.seq (.var 0)) (.cons (.ix (.var 3) (.int 5)) .nil)) .nil)) (.cons (.app 1 (.call "lowered_to" (.var 2) (.cons (.var 1) .nil))) .nil)) (.cons (.for_ (.one 2) (.seq (.call "in_rank" (.lc (.var 3) (.one 3) (.seq (.var 0)) (.cons (.not (.ix (.var 3) (.int 5))) .nil)) .nil)) (.cons (.app 1 (.call "lowered_to" (.var 2) (.cons (.var 1) .nil))) .nil)) (.cons (.ret (.pr .tuple (.srt (.var 1)) .nil)) .nil))))
def N_chosen : List Str := ["base", "one", "other"]
def c_chosen : Ss := (.cons (.iff (.or (.cons (.cmp .eq (.var 1) (.var 2)) (.cons (.cmp .eq (.var 2) (.var 0)) .nil))) (.cons (.ret (.tup (.cons (.var 1) (.cons (.bl false) .nil)))) .nil) .nil) (.cons (.iff (.cmp .eq (.var 1) (.var 0)) (.cons (.ret (.tup (.cons (.var 2) (.cons (.bl false) .nil)))) .nil) .nil) (.cons (.ret (.tup (.cons (.var 0) (.cons (.bl true) .nil)))) .nil)))
def N_is_quiet : List Str := ["base", "one", "other"]
def c_is_quiet : Ss := (.cons (.ret (.cmp .eq (.ix (.call "merged" (.int 1) (.cons (.var 0) (.cons (.var 1) (.cons (.var 2) .nil)))) (.int 1)) (.tup .nil))) .nil)
def N__law_laid : List Str := ["tiles", "found", "rank", "tile", "one"]
def c__law_laid : Ss := (.cons (.new 1) (.cons (.set 2 (.srtk "tile" (.tup (.cons (.ix (.var 0) (.int 2)) (.cons (.ix (.var 0) (.int 1)) (.cons (.ix (.var 0) (.int 0)) .nil)))) (.var 0))) (.cons (.for_ (.one 3) (.seq (.op .add (.lc (.var 4) (.one 4) (.seq (.var 2)) (.cons (.ix (.var 4) (.int 5)) .nil)) (.lc (.var 4) (.one 4) (.seq (.var 2)) (.cons (.not (.ix (.var 4) (.int 5))) .nil)))) (.cons (.whl (.call "_law_meets" (.var 3) (.cons (.var 1) .nil)) (.cons (.set 3 (.op .add (.op .add (.slU (.var 3) (.int 2)) (.tup (.cons (.op .add (.ix (.var 3) (.int 2)) (.int 1)) .nil))) (.slL (.var 3) (.int 3)))) .nil)) (.cons (.app 1 (.var 3)) .nil))) (.cons (.ret (.pr .tuple (.srt (.var 1)) .nil)) .nil))))
def N__law_is_low : List Str := ["wide", "layout", "thing", "low", "tile", "n"]
def c__law_is_low : Ss := (.cons (.iff (.cmp .ne (.lc (.op .add (.slU (.var 4) (.int 1)) (.slL (.var 4) (.int 3))) (.one 4) (.seq (.var 2)) .nil) (.lc (.op .add (.slU (.var 4) (.int 1)) (.slL (.var 4) (.int 3))) (.one 4) (.seq (.var 1)) .nil)) (.cons (.ret (.bl false)) .nil) .nil) (.cons (.for_ (.many [5, 4]) (.enum (.var 2)) (.cons (.iff (.or (.cons (.not (.cmp2 .le .le (.int 0) (.ix (.var 4) (.int 1)) (.op .sub (.var 0) (.ix (.var 4) (.int 3))))) (.cons (.cmp .lt (.ix (.var 4) (.int 2)) (.int 0)) (.cons (.call "_law_meets" (.var 4) (.cons (.slU (.var 2) (.var 5)) .nil)) .nil)))) (.cons (.ret (.bl false)) .nil) .nil) .nil)) (.cons (.ret (.cmp .eq (.pr .max (.op .add (.lst (.cons (.int 0) .nil)) (.lc (.op .add (.ix (.var 4) (.int 2)) (.ix (.var 4) (.int 4))) (.one 4) (.seq (.var 2)) .nil)) .nil) (.var 3))) .nil)))
def N__law_whole : List Str := ["thing", "low", "high"]
def c__law_whole : Ss := (.cons (.ret (.and (.cons (.isi (.var 0) .int) (.cons (.not (.isi (.var 0) .bool)) (.cons (.cmp2 .le .le (.var 1) (.var 0) (.var 2)) .nil))))) .nil)
def N__law_is_tile : List Str := ["wide", "thing"]
def c__law_is_tile : Ss := (.cons (.iff (.or (.cons (.not (.isi (.var 1) .tuple)) (.cons (.cmp .ne (.pr .len (.var 1) .nil) (.int 6)) (.cons (.not (.isi (.ix (.var 1) (.int 0)) .str)) (.cons (.cmp .ne (.pr .len (.ix (.var 1) (.int 0)) .nil) (.int 1)) .nil))))) (.cons (.ret (.bl false)) .nil) .nil) (.cons (.iff (.or (.cons (.not (.cmp2 .le .le (.str "a") (.ix (.var 1) (.int 0)) (.str "z"))) (.cons (.not (.isi (.ix (.var 1) (.int 5)) .bool)) .nil))) (.cons (.ret (.bl false)) .nil) .nil) (.cons (.iff (.or (.cons (.not (.call "_law_whole" (.ix (.var 1) (.int 1)) (.cons (.int 0) (.cons (.int 11) .nil)))) (.cons (.not (.call "_law_whole" (.ix (.var 1) (.int 2)) (.cons (.int 0) (.cons (.int 99) .nil)))) (.cons (.not (.call "_law_whole" (.ix (.var 1) (.int 3)) (.cons (.int 1) (.cons (.int 12) .nil)))) .nil)))) (.cons (.ret (.bl false)) .nil) .nil) (.cons (.ret (.and (.cons (.call "_law_whole" (.ix (.var 1) (.int 4)) (.cons (.int 1) (.cons (.int 6) .nil))) (.cons (.cmp .le (.op .add (.ix (.var 1) (.int 1)) (.ix (.var 1) (.int 3))) (.var 0)) .nil)))) .nil))))
end Tl
set_option maxHeartbeats 4000000
namespace Tl
open PySem PySem.Spec L2
theorem run_do_meet (Γ : Fns) (p : Tile × Tile) : ∃ fuel, Gives (.ok (.bool (meet p.1 p.2))) (exSs Γ fuel c_do_meet (startS N_do_meet (dom2T p))) := by
  refine ⟨0, .inl ?_⟩
  obtain ⟨a, b⟩ := p
  by_cases h1 : b.l + b.w ≤ a.l <;> by_cases h2 : a.l + a.w ≤ b.l <;> by_cases h3 : a.t < b.t + b.h <;>
    simp [c_do_meet, N_do_meet, startS, dom2T, exSs, exS, evT, evE, ev, evOr, evAnd, meet, h1, h2, h3]
theorem run_at_row (Γ : Fns) (p : Tile × Int) : ∃ fuel, Gives (.ok (tD { p.1 with t := p.2 })) (exSs Γ fuel c_at_row (startS N_at_row (dom_at p))) := by
  refine ⟨0, .inl ?_⟩
  obtain ⟨a, b⟩ := p
  simp [c_at_row, N_at_row, startS, dom_at, exSs, exS, evT, evE, ev, evs]
  rfl
theorem key_body (d : Tile) : ev (fun _ => none) (.tup (.cons (.ix (.var 0) (.int 2)) (.cons (.ix (.var 0) (.int 1)) .nil))) [some (tD d)] = .ok (kk d) := by
  simp [ev, evs]
  rfl
abbrev KB : C := .tup (.cons (.ix (.var 0) (.int 2)) (.cons (.ix (.var 0) (.int 1)) .nil))
theorem seqs_sqD (b : Bool) (ds : List D) : seqsD (sqD b ds) = some ds := by cases b <;> rfl
theorem ev_ord {Γ : Fns} {a : C} {ρ : Env0D} {ts : List Tile} {x : Str} {b : Bool} (h1 : ev Γ a ρ = .ok (sqD b (tsD ts))) (h : ts.length ≤ 1000) : ev Γ (.srtk x KB a) ρ = .ok (.list (tsD (ordT ts))) := by
  have z : mapR (fun d => (ev (fun _ => none) KB [some d]).calm) (tsD ts) = .ok (ts.map kk) := mapR_map (fun d => by rw [key_body]; rfl) ts
  show (ev Γ a ρ).bind _ = _
  rw [h1, Res.bind_ok, seqs_sqD]
  show (mapR (fun d => (ev (fun _ => none) KB [some d]).calm) (tsD ts)).bind _ = _
  rw [z]
  show lift (keyV (ts.map kk) (tsD ts)) = _
  rw [keyV_ts h]
  rfl
theorem run_by_order (Γ : Fns) (p : List Tile × Bool) : ∃ fuel, Gives (if p.1.length ≤ 1000 then .ok (.list (tsD (ordT p.1))) else .stuck) (exSs Γ fuel c_by_order (startS N_by_order (dom_sq p))) := by
  refine ⟨0, ?_⟩
  obtain ⟨ts, b⟩ := p
  by_cases h : ts.length ≤ 1000
  · rw [if_pos h]
    refine .inl ?_
    refine x_ret (ev_ord (b := b) ?_ h)
    simp [N_by_order, startS, dom_sq, ev]
  · rw [if_neg h]
    trivial
theorem run_meets_none (Γ : Fns) (hm : Γ "do_meet" = some (2, do_meetS)) (p : Tile × List Tile × Bool) : ∃ fuel, Gives (if p.2.1.length ≤ 1000 then .ok (.bool (!anyM p.1 p.2.1)) else .stuck) (exSs Γ fuel c_meets_none (startS N_meets_none (dom_tl p))) := by
  refine ⟨0, ?_⟩
  obtain ⟨a, ts, bb⟩ := p
  by_cases h : ts.length ≤ 1000
  · rw [if_pos h]
    refine .inl (x_ret ?_)
    have e0 : ∀ m, seeM m (startS N_meets_none (dom_tl (a, ts, bb))) = [some (tD a), some (sqD bb (tsD ts)), none] := fun m => by simp [N_meets_none, startS, dom_tl]
    rw [e0]
    refine ev_not (d := .bool (anyM a ts)) (ev_pr1 (ev_lc (ds := tsD ts) (r := ts.map fun b => .bool (meet a b)) ?_ (lcD_map (fun b => ?_) ts) (by simpa using h)) ?_) rfl
    · simp [evI, ev]
    · have key : ev Γ (.call "do_meet" (.var 0) (.cons (.var 2) .nil)) [some (tD a), some (sqD bb (tsD ts)), some (tD b)] = .ok (.bool (meet a b)) := by
        refine ev_call hm dom2T_inj (a, b) (d := tD a) (ds := [tD b]) ?_ ?_ rfl rfl
        · simp [ev]
        · simp [ev, evs]
      simp [lcF, Tg.set, Tg.slots, wipeD, evIfs, key]
    · simp [bools_map, anyM]
  · rw [if_neg h]
    trivial
/-- the loop of lowered_to -/
theorem low_loop {Γ : Fns} {t : C} {b : Ss} {fuel : Nat} {ts : List Tile} (ht : ∀ a : Tile, ∀ m, ev Γ t (seeM m [.val (tD a), .val (.list (tsD ts))]) = .ok (.bool (anyM a ts))) (hb : ∀ a : Tile, exSs Γ fuel b [.val (tD a), .val (.list (tsD ts))] = .nx [.val (tD { a with t := a.t + 1 }), .val (.list (tsD ts))]) :
    ∀ (n : Nat) (a : Tile), bd ts a ≤ n → whlD (fun ρ f => evT Γ t ρ f) (fun ρ => exSs Γ fuel b ρ) (n + 1) [.val (tD a), .val (.list (tsD ts))] = .nx [.val (tD (lowF n ts a)), .val (.list (tsD ts))]
  | 0, a, h => by
    rw [whlD, evT_of (ht a _) rfl, bd_zero h]
    rfl
  | n + 1, a, h => by
    rw [whlD, evT_of (ht a _) rfl, lowF]
    by_cases q : anyM a ts = true
    · rw [if_pos q, if_pos q, hb a]
      rw [fl_nx]
      exact low_loop ht hb n _ (bd_succ h)
    · rw [if_neg q, if_neg q]
theorem run_lowered_to (Γ : Fns) (hm : Γ "meets_none" = some (2, meets_noneS)) (ha : Γ "at_row" = some (2, at_rowS)) (p : Tile × List Tile) : ∃ fuel, Gives (if p.2.length ≤ 1000 then .ok (tD (lower p.2 p.1)) else .stuck) (exSs Γ fuel c_lowered_to (startS N_lowered_to (dom_lo p))) := by
  obtain ⟨a, ts⟩ := p
  refine ⟨bd ts a + 1, ?_⟩
  by_cases h : ts.length ≤ 1000
  · rw [if_pos h]
    refine .inl ?_
    have e0 : startS N_lowered_to (dom_lo (a, ts)) = [.val (tD a), .val (.list (tsD ts))] := by simp [N_lowered_to, startS, dom_lo]
    rw [e0, c_lowered_to, x_whl, low_loop (fun a m => ?_) (fun a => ?_) _ _ (Nat.le_refl _)]
    · rw [fl_nx, lower_eq (Nat.le_refl _)]
      refine x_ret ?_
      simp [ev]
    · have key : ev Γ (.call "meets_none" (.var 0) (.cons (.var 1) .nil)) (seeM m [.val (tD a), .val (.list (tsD ts))]) = .ok (.bool (!anyM a ts)) := by
        have z := ev_call (Γ := Γ) (a := .var 0) (es := .cons (.var 1) .nil) (ρ := seeM m [.val (tD a), .val (.list (tsD ts))]) hm dom_tl_inj (a, ts, true) (d := tD a) (ds := [.list (tsD ts)]) (by simp [ev]) (by simp [ev, evs]) rfl rfl
        rw [z]
        exact if_pos h
      have z := ev_not key rfl
      rw [Bool.not_not] at z
      exact z
    · rw [x_set (d := tD { a with t := a.t + 1 }) ?_ rfl]
      · rfl
      · exact ev_call ha dom_at_inj (a, a.t + 1) (d := tD a) (ds := [.int (a.t + 1)]) (by simp [ev]) (by simp [ev, evs]) rfl rfl
  · rw [if_neg h]
    trivial
theorem run_narrow_tile (Γ : Fns) (p : Tile × Int) : ∃ fuel, Gives (.ok (tD (nar p.1 p.2))) (exSs Γ fuel c_narrow_tile (startS N_narrow_tile (dom_at p))) := by
  refine ⟨0, .inl ?_⟩
  obtain ⟨a, b⟩ := p
  simp [c_narrow_tile, N_narrow_tile, startS, dom_at, exSs, exS, evT, evE, ev, evs]
  rfl
theorem nar_loop {Γ : Fns} {fuel : Nat} {wide new : Int} {lay : List Tile} (hl : Γ "lowered_to" = some (2, lowered_toS)) (hn : Γ "narrow_tile" = some (2, narrow_tileS)) : ∀ (ts acc : List Tile) (x : Sl), acc.length + ts.length ≤ 900 → ∃ x',
    forD (forB Γ fuel (.one 4) (.cons (.app 3 (.call "lowered_to" (.call "narrow_tile" (.var 4) (.cons (.var 2) .nil)) (.cons (.var 3) .nil))) .nil)) (tsD ts) [.val (.int wide), .val (.tuple (tsD lay)), .val (.int new), .own (tsD acc), x] = .nx [.val (.int wide), .val (.tuple (tsD lay)), .val (.int new), .own (tsD (narF new acc ts)), x']
  | [], acc, x, h => ⟨x, rfl⟩
  | a :: ts, acc, x, h => by
    rw [List.length_cons] at h
    obtain ⟨x', e⟩ := nar_loop hl hn ts (acc ++ [lower acc (nar a new)]) (.val (tD a)) (by rw [List.length_append, List.length_singleton]; omega)
    refine ⟨x', ?_⟩
    show (exSs Γ fuel _ [.val (.int wide), .val (.tuple (tsD lay)), .val (.int new), .own (tsD acc), .val (tD a)]).bind _ = _
    rw [x_app (ds := tsD acc) (d := tD (lower acc (nar a new))) rfl ?_ rfl (by rw [tsD_len]; omega)]
    · rw [x_nil, fl_nx]
      have e2 : tsD acc ++ [tD (lower acc (nar a new))] = tsD (acc ++ [lower acc (nar a new)]) := by simp [tsD]
      show forD _ (tsD ts) [.val (.int wide), .val (.tuple (tsD lay)), .val (.int new), .own (tsD acc ++ [tD (lower acc (nar a new))]), .val (tD a)] = _
      rw [e2]
      exact e
    · have e3 : ev Γ (.call "narrow_tile" (.var 4) (.cons (.var 2) .nil)) (seeM (vsC (.call "lowered_to" (.call "narrow_tile" (.var 4) (.cons (.var 2) .nil)) (.cons (.var 3) .nil))) [.val (.int wide), .val (.tuple (tsD lay)), .val (.int new), .own (tsD acc), .val (tD a)]) = .ok (tD (nar a new)) :=
        ev_call hn dom_at_inj (a, new) (d := tD a) (ds := [.int new]) (by simp [ev]) (by simp [ev, evs]) rfl rfl
      have e4 := ev_call (es := .cons (.var 3) .nil) hl dom_lo_inj (nar a new, acc) (ds := [.list (tsD acc)]) e3 (by simp [ev, evs, vsC, vsCs]) rfl rfl
      rw [e4]
      exact if_pos (by show acc.length ≤ 1000; omega)
theorem run_narrowed (Γ : Fns) (hb : Γ "by_order" = some (1, by_orderS)) (hl : Γ "lowered_to" = some (2, lowered_toS)) (hn : Γ "narrow_tile" = some (2, narrow_tileS)) (p : Int × List Tile × Int) : ∃ fuel, Gives (if p.2.1.length ≤ 900 then .ok (.tuple (tsD (narT p.2.1 p.2.2))) else .stuck) (exSs Γ fuel c_narrowed (startS N_narrowed (dom_il p))) := by
  refine ⟨0, ?_⟩
  obtain ⟨wide, ts, new⟩ := p
  by_cases h : ts.length ≤ 900
  · rw [if_pos h]
    refine .inl ?_
    have e0 : startS N_narrowed (dom_il (wide, ts, new)) = [.val (.int wide), .val (.tuple (tsD ts)), .val (.int new), .no, .no] := by simp [N_narrowed, startS, dom_il]
    rw [e0, c_narrowed, x_new]
    show exSs Γ 0 _ [.val (.int wide), .val (.tuple (tsD ts)), .val (.int new), .own [], .no] = _
    rw [x_for (ds := tsD (ordT ts)) ?_]
    · have e1 : freezeM (vsI (.seq (.call "by_order" (.var 1) .nil))) [.val (.int wide), .val (.tuple (tsD ts)), .val (.int new), .own [], .no] = [.val (.int wide), .val (.tuple (tsD ts)), .val (.int new), .own (tsD []), .no] := by simp [vsI, vsC, vsCs, tsD]
      rw [e1]
      obtain ⟨x', e⟩ := nar_loop (Γ := Γ) (fuel := 0) (wide := wide) (new := new) (lay := ts) hl hn (ordT ts) [] .no (by rw [ordT, isort_len]; simpa using h)
      rw [e, fl_nx]
      have hlen : (narF new [] (ordT ts)).length ≤ 1000 := by rw [narF_len, ordT, isort_len]; simp; omega
      refine x_ret (ev_pr1 (ev_srt (d := .list (tsD (narF new [] (ordT ts)))) ?_ (srtV_ts hlen)) rfl)
      simp [ev, vsC, vsCs]
    · have e2 : ev Γ (.call "by_order" (.var 1) .nil) (seeM (vsI (.seq (.call "by_order" (.var 1) .nil))) [.val (.int wide), .val (.tuple (tsD ts)), .val (.int new), .own [], .no]) = .ok (.list (tsD (ordT ts))) := by
        have z := ev_call (Γ := Γ) (a := .var 1) (es := .nil) (ρ := seeM (vsI (.seq (.call "by_order" (.var 1) .nil))) [.val (.int wide), .val (.tuple (tsD ts)), .val (.int new), .own [], .no]) hb dom_sq_inj (ts, false) (d := .tuple (tsD ts)) (ds := []) (by simp [ev]) rfl rfl rfl
        rw [z]
        exact if_pos (by show ts.length ≤ 1000; omega)
      rw [evI, e2]
      rfl
  · rw [if_neg h]
    trivial
theorem run_best_width (Γ : Fns) (ts : List Tile) : ∃ fuel, Gives (if ts.length ≤ 1000 then .ok (.int (bestW ts)) else .stuck) (exSs Γ fuel c_best_width (startS N_best_width (dom_ts ts))) := by
  refine ⟨0, ?_⟩
  by_cases h : ts.length ≤ 1000
  · rw [if_pos h]
    refine .inl (x_ret ?_)
    have e0 : ∀ m, seeM m (startS N_best_width (dom_ts ts)) = [some (.tuple (tsD ts)), none] := fun m => by simp [N_best_width, startS, dom_ts]
    rw [e0]
    refine ev_maxd (ev_lc (ds := tsD ts) (r := ts.map fun a => .int (a.l + a.w)) ?_ (lcD_map (fun b => ?_) ts) (by simpa using h)) (e := .int 1) rfl ?_
    · simp [evI, ev]
    · simp [lcF, Tg.set, Tg.slots, wipeD, evIfs, ev]
    · show (intsD (ts.map fun a => .int (a.l + a.w))).map _ = _
      rw [ints_map]
      cases ts <;> rfl
  · rw [if_neg h]
    trivial
theorem run_kept (Γ : Fns) (hb : Γ "best_width" = some (1, best_widthS)) (p : Int × List Tile × Int) : ∃ fuel, Gives (if p.2.1.length ≤ 1000 then (if p.2.2 < bestW p.2.1 then .ok .none else .ok (.tuple (tsD p.2.1))) else .stuck) (exSs Γ fuel c_kept (startS N_kept (dom_il p))) := by
  refine ⟨0, ?_⟩
  obtain ⟨wide, ts, new⟩ := p
  by_cases h : ts.length ≤ 1000
  · rw [if_pos h]
    have e0 : startS N_kept (dom_il (wide, ts, new)) = [.val (.int wide), .val (.tuple (tsD ts)), .val (.int new)] := by simp [N_kept, startS, dom_il]
    have e1 : ∀ m, ev Γ (.call "best_width" (.var 1) .nil) (seeM m [.val (.int wide), .val (.tuple (tsD ts)), .val (.int new)]) = .ok (.int (bestW ts)) := fun m => by
      have z := ev_call (Γ := Γ) (a := .var 1) (es := .nil) (ρ := seeM m [.val (.int wide), .val (.tuple (tsD ts)), .val (.int new)]) hb dom_ts_inj ts (d := .tuple (tsD ts)) (ds := []) (by simp [ev]) rfl rfl rfl
      rw [z]
      exact if_pos h
    rw [e0, c_kept, x_iff (d := .bool (decide (new < bestW ts))) (k := decide (new < bestW ts)) (ev_cmp (e1 _) (e := .int new) (by simp [ev]) rfl) rfl]
    by_cases q : new < bestW ts
    · rw [if_pos q, decide_eq_true q, if_pos rfl, x_ret (d := .none) (by simp [ev])]
      exact .inl rfl
    · rw [if_neg q, decide_eq_false q, if_neg (by decide), x_nil, fl_nx]
      exact .inl (x_ret (by simp [ev]))
  · rw [if_neg h]
    trivial
end Tl
set_option maxHeartbeats 4000000
namespace Tl
open PySem PySem.Spec L2
/-! ### _law_cell -/
def dom_ce (p : List Int × Int) : List D := [scrD p.1, .int p.2]
theorem ints_inj : ∀ {x y : List Int}, x.map PyData.int = y.map PyData.int → x = y
  | [], [], _ => rfl
  | [], _ :: _, h => by simp at h
  | _ :: _, [], h => by simp at h
  | a :: x, b :: y, h => by
    simp only [List.map_cons, List.cons.injEq, PyData.int.injEq] at h
    rw [h.1, ints_inj h.2]
theorem dom_ce_inj (p q : List Int × Int) (h : dom_ce p = dom_ce q) : p = q := by
  obtain ⟨a, b⟩ := p
  obtain ⟨c, d⟩ := q
  simp only [dom_ce, scrD, List.cons.injEq, PyData.dict.injEq, Prod.mk.injEq, PyData.list.injEq, PyData.int.injEq] at h
  rw [ints_inj h.1.1.2, h.2.1]
def cellOf (ns : List Int) (k : Int) : Int := ns.getD k.toNat 0
noncomputable def law_cellS : List D → Res D := spec dom_ce fun p => if 0 ≤ p.2 then .ok (.int (cellOf p.1 p.2)) else .stuck
theorem run_law_cell (Γ : Fns) (p : List Int × Int) : ∃ fuel, Gives (if 0 ≤ p.2 then .ok (.int (cellOf p.1 p.2)) else .stuck) (exSs Γ fuel c__law_cell (startS N__law_cell (dom_ce p))) := by
  refine ⟨0, ?_⟩
  obtain ⟨ns, k⟩ := p
  by_cases h : 0 ≤ k
  · rw [if_pos h]
    have e0 : startS N__law_cell (dom_ce (ns, k)) = [.val (scrD ns), .val (.int k)] := by simp [N__law_cell, startS, dom_ce]
    have e1 : prV .len [scrD ns] = some (.int ns.length) := by
      show some (PyData.int ((ns.map PyData.int).length : Int)) = _
      rw [List.length_map]
    rw [e0, c__law_cell, x_iff (d := .bool (decide (k < ns.length))) (k := decide (k < ns.length)) (ev_cmp (d := .int k) (by simp [ev]) (ev_pr1 (d := scrD ns) (by simp [ev]) e1) rfl) rfl]
    by_cases q : k < ns.length
    · rw [decide_eq_true q, if_pos rfl]
      obtain ⟨i, rfl⟩ : ∃ i : Nat, k = i := ⟨k.toNat, by omega⟩
      have hi : i < ns.length := by omega
      have e2 : ixV (scrD ns) (.int i) = some (.int (cellOf ns i)) := by
        show L2.atI (ns.map PyData.int) i = _
        unfold L2.atI L2.ixN
        rw [List.length_map, if_pos h, if_pos q]
        show (ns.map PyData.int)[(i : Int).toNat]? = _
        rw [List.getElem?_map, Int.toNat_natCast, List.getElem?_eq_getElem hi]
        simp [cellOf, hi]
      rw [x_ret (ev_ix (d := scrD ns) (e := .int i) (by simp [ev]) (by simp [ev]) e2)]
      exact .inl rfl
    · rw [decide_eq_false q, if_neg (by decide), x_nil, fl_nx, x_ret (d := .int 0) (by simp [ev])]
      refine .inl ?_
      have e3 : cellOf ns k = 0 := by
        unfold cellOf
        rw [List.getD_eq_getElem?_getD, List.getElem?_eq_none (by omega)]
        rfl
      rw [e3]
  · rw [if_neg h]
    trivial
/-! ### _law_mix -/
def dom_3i (p : Int × Int × Int) : List D := [.int p.1, .int p.2.1, .int p.2.2]
theorem dom_3i_inj (p q : Int × Int × Int) (h : dom_3i p = dom_3i q) : p = q := by
  obtain ⟨a, b, c⟩ := p
  obtain ⟨d, e, f⟩ := q
  simp only [dom_3i, List.cons.injEq, PyData.int.injEq] at h
  rw [h.1, h.2.1, h.2.2.1]
def mix (c p m : Int) : Int := (c * 48271 % p) * (c * 48271 % p + 7) % p % m
theorem mix_rg {c p m : Int} (hm : 0 < m) : 0 ≤ mix c p m ∧ mix c p m < m := ⟨Int.emod_nonneg _ (by omega), Int.emod_lt_of_pos _ hm⟩
noncomputable def law_mixS : List D → Res D := spec dom_3i fun p => if 0 < p.2.1 ∧ p.2.1 ≤ 10000 ∧ 0 < p.2.2 then .ok (.int (mix p.1 p.2.1 p.2.2)) else .stuck
theorem run_law_mix (Γ : Fns) (p : Int × Int × Int) : ∃ fuel, Gives (if 0 < p.2.1 ∧ p.2.1 ≤ 10000 ∧ 0 < p.2.2 then .ok (.int (mix p.1 p.2.1 p.2.2)) else .stuck) (exSs Γ fuel c__law_mix (startS N__law_mix (dom_3i p))) := by
  refine ⟨0, ?_⟩
  obtain ⟨c, q, m⟩ := p
  by_cases h : 0 < q ∧ q ≤ 10000 ∧ 0 < m
  · rw [if_pos h]
    obtain ⟨h1, h2, h3⟩ := h
    refine .inl ?_
    have b0 : 0 ≤ c * 48271 % q := Int.emod_nonneg _ (by omega)
    have b1 : c * 48271 % q < q := Int.emod_lt_of_pos _ h1
    have m1 : mulOk c 48271 = true := decide_eq_true (.inr (by omega))
    have m2 : mulOk (c * 48271 % q) (c * 48271 % q + 7) = true := decide_eq_true (.inl (by omega))
    have e0 : startS N__law_mix (dom_3i (c, q, m)) = [.val (.int c), .val (.int q), .val (.int m), .no] := by simp [N__law_mix, startS, dom_3i]
    rw [e0, c__law_mix, x_set (d := .int (c * 48271 % q)) (by simp [ev, m1, h1]) rfl]
    show exSs Γ 0 _ [.val (.int c), .val (.int q), .val (.int m), .val (.int (c * 48271 % q))] = _
    exact x_ret (by simp [ev, m2, h1, h3, mix])
  · rw [if_neg h]
    trivial
/-! ### _law_same -/
def goodN : Nat → D → Bool
  | _, .none => true
  | _, .bool _ => true
  | _, .int _ => true
  | _, .str x => PyData.canLay0 (.str x)
  | n + 1, .tuple ds => ds.all (goodN n) && decide (ds.length ≤ 1000)
  | _, _ => false
def dom_sm (n : Nat) (x : { d : D // goodN n d = true }) : List D := [x.1, x.1]
theorem dom_sm_inj (n : Nat) (p q : { d : D // goodN n d = true }) (h : dom_sm n p = dom_sm n q) : p = q := by
  simp only [dom_sm, List.cons.injEq] at h
  exact Subtype.ext h.1
noncomputable def law_sameS (n : Nat) : List D → Res D := spec (dom_sm n) fun _ => .ok (.bool true)
theorem zip_self : ∀ ds : List D, zipD ds ds = ds.map fun d => .tuple [d, d]
  | [] => rfl
  | d :: ds => by rw [zipD, zip_self ds] <;> rfl
theorem eq_self_D {d : D} (h : (match d with | .bool _ => true | .int _ => true | .str x => PyData.canLay0 (.str x) | _ => false) = true) : cmpD .eq d d = some (.bool true) := by
  cases d with
  | bool b => cases b <;> rfl
  | int i =>
    show Option.map PyData.bool (gd true (i == i)) = _
    rw [beq_self_eq_true]
    rfl
  | str x =>
    have h' : SeqAt.shaped (.str x) = true := by
      unfold SeqAt.shaped
      rw [show PyData.canLay0 (.str x) = true from h]
      rfl
    show Option.map PyData.bool (gd (SeqAt.shaped (.str x) && SeqAt.shaped (.str x)) (x == x)) = _
    rw [beq_self_eq_true, h']
    rfl
  | _ => cases h
theorem run_law_same (Γ : Fns) (n : Nat) (hs : ∀ m, n = m + 1 → Γ "_law_same" = some (2, law_sameS m)) (x : { d : D // goodN n d = true }) : ∃ fuel, Gives (.ok (.bool true)) (exSs Γ fuel c__law_same (startS N__law_same (dom_sm n x))) := by
  obtain ⟨d, hd⟩ := x
  refine ⟨0, .inl ?_⟩
  have e0 : startS N__law_same (dom_sm n ⟨d, hd⟩) = [.val d, .val d, .no, .no] := by simp [N__law_same, startS, dom_sm]
  rw [e0]
  cases d with
  | none => simp [c__law_same, exSs, exS, evT, evE, ev, evOr, evAnd, evs, Ty.of, cmpD, cmpV, isSame]
  | bool b =>
    have q := eq_self_D (d := .bool b) rfl
    simp [c__law_same, exSs, exS, evT, evE, ev, evOr, evAnd, evs, Ty.of, q, show cmpD .is_ (.bool b) .none = some (.bool false) from rfl]
  | int i =>
    have q := eq_self_D (d := .int i) rfl
    simp [c__law_same, exSs, exS, evT, evE, ev, evOr, evAnd, evs, Ty.of, show cmpD .is_ (.int i) .none = some (.bool false) from rfl]
  | str s =>
    have q := eq_self_D (d := .str s) (by cases n <;> exact hd)
    simp [c__law_same, exSs, exS, evT, evE, ev, evOr, evAnd, evs, Ty.of, q, show cmpD .is_ (.str s) .none = some (.bool false) from rfl]
  | tuple ds =>
    cases n with
    | zero => cases hd
    | succ m =>
      have hd' : (ds.all (goodN m) && decide (ds.length ≤ 1000)) = true := hd
      rw [Bool.and_eq_true, List.all_eq_true, decide_eq_true_eq] at hd'
      have hΓ := hs m rfl
      rw [c__law_same, x_iff (d := .bool true) (k := true) (ev_isi (d := .tuple ds) (by simp [ev]) rfl) rfl, if_pos rfl, x_iff (d := .bool false) (k := false) ?_ rfl, if_neg (by decide), x_nil, fl_nx, x_ret (d := .bool true) ?_]
      · rfl
      · refine ev_pr1 (ev_lc (ds := ds.map fun d => .tuple [d, d]) (r := ds.map fun _ => .bool true) ?_ (lcD_mapM fun d hm => ?_) (by simpa using hd'.2)) ?_
        · simp [evI, ev, zip2D, zip_self]
        · have key : ev Γ (.call "_law_same" (.var 2) (.cons (.var 3) .nil)) [some (.tuple ds), some (.tuple ds), some d, some d] = .ok (.bool true) :=
            ev_call hΓ (dom_sm_inj m) ⟨d, hd'.1 d hm⟩ (d := d) (ds := [d]) (by simp [ev]) (by simp [ev, evs]) rfl rfl
          simp [lcF, Tg.set, setMany, Tg.slots, wipeD, evIfs, key]
        · have z := bools_map (fun _ : D => true) ds
          simp [z]
      · simp [ev, evOr, evs, Ty.of, rB, show prV .len [.tuple ds] = some (.int ds.length) from rfl, show cmpD .ne (.int (ds.length : Int)) (.int (ds.length : Int)) = some (.bool (!((ds.length : Int) == (ds.length : Int)))) from rfl]
  | list ds => cases n <;> cases hd
  | dict kvs => cases n <;> cases hd
end Tl
set_option maxHeartbeats 4000000
namespace Tl
open PySem PySem.Spec L2
@[simp] theorem sz_true {n : Nat} (h : n ≤ 1000) : sz n = true := decide_eq_true (sz_small h)
def gT (a : Tile) : Prop := 1 ≤ a.w ∧ a.w ≤ 20 ∧ 1 ≤ a.h ∧ a.h ≤ 20
instance (a : Tile) : Decidable (gT a) := by unfold gT; infer_instance
def pD (p : Int × Int) : D := .tuple [.int p.1, .int p.2]
def spotK (a : Tile) (k : Nat) : Int × Int := (a.l + (k : Int) / a.h, a.t + (k : Int) % a.h)
def spots (a : Tile) : List (Int × Int) := (List.range (a.w * a.h).toNat).map (spotK a)
theorem area {a : Tile} (h : gT a) : 0 ≤ a.w * a.h ∧ a.w * a.h ≤ 400 := by
  obtain ⟨h1, h2, h3, h4⟩ := h
  constructor
  · exact Int.mul_nonneg (by omega) (by omega)
  · have z : a.w * a.h ≤ 20 * 20 := Int.mul_le_mul h2 h4 (by omega) (by omega)
    omega
theorem mem_spots {a : Tile} (h : gT a) {p : Int × Int} : p ∈ spots a ↔ (a.l ≤ p.1 ∧ p.1 < a.l + a.w) ∧ a.t ≤ p.2 ∧ p.2 < a.t + a.h := by
  obtain ⟨x, y⟩ := p
  obtain ⟨h1, h2, h3, h4⟩ := h
  have ha : 0 ≤ a.w * a.h := (area ⟨h1, h2, h3, h4⟩).1
  constructor
  · intro hp
    obtain ⟨k, hk, e⟩ := List.mem_map.mp hp
    rw [List.mem_range] at hk
    have hk' : (k : Int) < a.w * a.h := by omega
    simp only [spotK, Prod.mk.injEq] at e
    obtain ⟨e1, e2⟩ := e
    have m1 : 0 ≤ (k : Int) % a.h := Int.emod_nonneg _ (by omega)
    have m2 : (k : Int) % a.h < a.h := Int.emod_lt_of_pos _ (by omega)
    have d1 : 0 ≤ (k : Int) / a.h := Int.ediv_nonneg (by omega) (by omega)
    have d2 : (k : Int) / a.h < a.w := Int.ediv_lt_of_lt_mul (by omega) hk'
    show (a.l ≤ x ∧ x < a.l + a.w) ∧ a.t ≤ y ∧ y < a.t + a.h
    omega
  · rintro ⟨⟨h5, h6⟩, h7, h8⟩
    have h5 : a.l ≤ x := h5
    have h6 : x < a.l + a.w := h6
    have h7 : a.t ≤ y := h7
    have h8 : y < a.t + a.h := h8
    have n0 : 0 ≤ (x - a.l) * a.h := Int.mul_nonneg (by omega) (by omega)
    have n1 : (x - a.l) * a.h ≤ (a.w - 1) * a.h := Int.mul_le_mul_of_nonneg_right (by omega) (by omega)
    have n2 : (a.w - 1) * a.h = a.w * a.h - a.h := by rw [Int.sub_mul, Int.one_mul]
    refine List.mem_map.mpr ⟨((x - a.l) * a.h + (y - a.t)).toNat, List.mem_range.mpr (by omega), ?_⟩
    have e : (((x - a.l) * a.h + (y - a.t)).toNat : Int) = (x - a.l) * a.h + (y - a.t) := Int.toNat_of_nonneg (by omega)
    simp only [spotK, e, Prod.mk.injEq]
    have q1 : ((x - a.l) * a.h + (y - a.t)) / a.h = x - a.l := by
      rw [Int.add_comm, Int.add_mul_ediv_right _ _ (by omega), Int.ediv_eq_zero_of_lt (by omega) (by omega)]
      omega
    have q2 : ((x - a.l) * a.h + (y - a.t)) % a.h = y - a.t := by
      rw [Int.add_comm, Int.add_mul_emod_self_right, Int.emod_eq_of_lt (by omega) (by omega)]
    rw [q1, q2]
    omega
theorem spots_len {a : Tile} (h : gT a) : (spots a).length ≤ 400 := by
  have z := area h
  rw [spots, List.length_map, List.length_range]
  omega
/-! ### _law_spots -/
def dom_t (a : Tile) : List D := [tD a]
theorem dom_t_inj (a b : Tile) (h : dom_t a = dom_t b) : a = b := by
  simp only [dom_t, List.cons.injEq] at h
  exact tD_inj h.1
noncomputable def law_spotsS : List D → Res D := spec dom_t fun a => if gT a then .ok (.list ((spots a).map pD)) else .stuck
theorem spots_loop {Γ : Fns} {fuel : Nat} {a : Tile} (h : gT a) : ∀ (l : List Nat) (acc : List D) (x : Sl), acc.length + l.length ≤ 900 → ∃ x',
    forD (forB Γ fuel (.one 2) (.cons (.app 1 (.tup (.cons (.op .add (.ix (.var 0) (.int 1)) (.op .fdiv (.var 2) (.ix (.var 0) (.int 4)))) (.cons (.op .add (.ix (.var 0) (.int 2)) (.op .mod (.var 2) (.ix (.var 0) (.int 4)))) .nil)))) .nil)) (l.map fun (i : Nat) => .int (0 + (i : Int))) [.val (tD a), .own acc, x] = .nx [.val (tD a), .own (acc ++ l.map fun k => pD (spotK a k)), x']
  | [], acc, x, _ => ⟨x, by simp [forD]⟩
  | k :: l, acc, x, hl => by
    rw [List.length_cons] at hl
    obtain ⟨x', e⟩ := spots_loop (Γ := Γ) (fuel := fuel) h l (acc ++ [pD (spotK a k)]) (.val (.int (0 + (k : Int)))) (by rw [List.length_append, List.length_singleton]; omega)
    refine ⟨x', ?_⟩
    rw [List.map_cons]
    show (exSs Γ fuel _ [.val (tD a), .own acc, .val (.int (0 + (k : Int)))]).bind _ = _
    rw [x_app (ds := acc) (d := pD (spotK a k)) rfl ?_ rfl (by omega)]
    · rw [x_nil, fl_nx]
      show forD _ _ [.val (tD a), .own (acc ++ [pD (spotK a k)]), .val (.int (0 + (k : Int)))] = _
      rw [e, List.map_cons, List.append_assoc]
      rfl
    · obtain ⟨h1, h2, h3, h4⟩ := h
      have g1 : (0 < a.h) := by omega
      have g2 : a.h < 1073741824 := by omega
      simp [ev, evs, g1, g2, pD, spotK]
theorem run_law_spots (Γ : Fns) (a : Tile) : ∃ fuel, Gives (if gT a then .ok (.list ((spots a).map pD)) else .stuck) (exSs Γ fuel c__law_spots (startS N__law_spots (dom_t a))) := by
  refine ⟨0, ?_⟩
  by_cases h : gT a
  · rw [if_pos h]
    refine .inl ?_
    have ar := area h
    have e0 : startS N__law_spots (dom_t a) = [.val (tD a), .no, .no] := by simp [N__law_spots, startS, dom_t]
    have mo : mulOk a.w a.h = true := decide_eq_true (.inl (by obtain ⟨h1, h2, h3, h4⟩ := h; omega))
    rw [e0, c__law_spots, x_new]
    show exSs Γ 0 _ [.val (tD a), .own [], .no] = _
    rw [x_for (ds := (List.range (a.w * a.h).toNat).map fun (i : Nat) => .int (0 + (i : Int))) ?_]
    · have e1 : freezeM (vsI (.rng1 (.op .mul (.ix (.var 0) (.int 3)) (.ix (.var 0) (.int 4))))) [.val (tD a), .own [], .no] = [.val (tD a), .own [], .no] := by simp [vsI, vsC]
      rw [e1]
      obtain ⟨x', e⟩ := spots_loop (Γ := Γ) (fuel := 0) h (List.range (a.w * a.h).toNat) [] .no (by rw [List.length_range]; simp; omega)
      rw [e, fl_nx]
      refine x_ret ?_
      simp [ev, vsC, spots]
    · have e2 : rng1D [.int (a.w * a.h)] = some (rangeD 0 (a.w * a.h).toNat) := gd_of (by
        rw [Bool.and_eq_true, decide_eq_true_eq, decide_eq_true_eq]
        omega) _
      simp [evI, ev, mo, e2, rangeD]
  · rw [if_neg h]
    trivial
/-! ### _law_meets -/
theorem shaped_pairs (l : List (Int × Int)) : SeqAt.shaped (.list (l.map pD)) = true := by
  have h1 : PyData.canLayAll0 (l.map pD) = true := by
    induction l with
    | nil => rfl
    | cons p l ih =>
      rw [List.map_cons, PyData.canLayAll0, ih]
      rfl
  have h2 : PyData.depthAll (l.map pD) ≤ 1 := by
    induction l with
    | nil => exact Nat.zero_le _
    | cons p l ih =>
      have ih := ih (by
        rw [List.map_cons, PyData.canLayAll0, Bool.and_eq_true] at h1
        exact h1.2)
      rw [List.map_cons, PyData.depthAll]
      exact Nat.max_le.mpr ⟨Nat.le_refl _, ih⟩
  unfold SeqAt.shaped
  rw [PyData.canLay0, h1, PyData.depth]
  exact decide_eq_true (by omega)
theorem shaped_pair (p : Int × Int) : SeqAt.shaped (pD p) = true := rfl
theorem eqv_pD (p q : Int × Int) : PyData.eqv (pD p) (pD q) = decide (p = q) := by
  show (p.1 == q.1 && (p.2 == q.2 && true)) = _
  rw [Bool.eq_iff_iff]
  simp [Prod.ext_iff]
theorem anyEq_pD (l : List (Int × Int)) (p : Int × Int) : anyEq (l.map pD) (pD p) = decide (p ∈ l) := by
  unfold anyEq
  rw [List.any_map, Bool.eq_iff_iff, List.any_eq_true, decide_eq_true_eq]
  constructor
  · rintro ⟨q, hq, e⟩
    have e : PyData.eqv (pD q) (pD p) = true := e
    rw [eqv_pD, decide_eq_true_eq] at e
    rw [← e]
    exact hq
  · intro h
    refine ⟨p, h, ?_⟩
    show PyData.eqv (pD p) (pD p) = true
    rw [eqv_pD]
    exact decide_eq_true rfl
theorem eqvAll_nil (l : List D) : PyData.eqvAll l [] = l.isEmpty := by cases l <;> rfl
def rowsB (a b : Tile) : Bool := decide (b.t < a.t + a.h) && decide (a.t < b.t + b.h)
theorem meet_rows {a b : Tile} (h : rowsB a b = false) : meet a b = false := by
  unfold meet
  split
  · rfl
  · unfold rowsB at h
    rw [Bool.and_comm]
    exact h
theorem meet_cols {a b : Tile} (ha : gT a) (hb : gT b) (h : rowsB a b = true) : meet a b = !((spots b).filter fun p => decide (p ∈ spots a)).isEmpty := by
  unfold rowsB at h
  rw [Bool.and_eq_true, decide_eq_true_eq, decide_eq_true_eq] at h
  unfold meet
  by_cases c : a.l ≥ b.l + b.w ∨ b.l ≥ a.l + a.w
  · rw [if_pos c]
    have e : ((spots b).filter fun p => decide (p ∈ spots a)) = [] := List.filter_eq_nil_iff.mpr fun p hp hq => by
      rw [decide_eq_true_eq] at hq
      have z1 := (mem_spots ha).mp hq
      have z2 := (mem_spots hb).mp hp
      omega
    rw [e]
    rfl
  · rw [if_neg c, decide_eq_true h.2, decide_eq_true h.1]
    obtain ⟨a1, a2, a3, a4⟩ := id ha
    obtain ⟨b1, b2, b3, b4⟩ := id hb
    have hx : ∃ p, p ∈ (spots b).filter fun p => decide (p ∈ spots a) := by
      refine ⟨(max a.l b.l, max a.t b.t), List.mem_filter.mpr ⟨(mem_spots hb).mpr ?_, decide_eq_true ((mem_spots ha).mpr ?_)⟩⟩
      · show (b.l ≤ max a.l b.l ∧ max a.l b.l < b.l + b.w) ∧ b.t ≤ max a.t b.t ∧ max a.t b.t < b.t + b.h
        omega
      · show (a.l ≤ max a.l b.l ∧ max a.l b.l < a.l + a.w) ∧ a.t ≤ max a.t b.t ∧ max a.t b.t < a.t + a.h
        omega
    obtain ⟨p, hp⟩ := hx
    cases q : (spots b).filter fun p => decide (p ∈ spots a) with
    | nil => rw [q] at hp; cases hp
    | cons _ _ => rfl
def gTs (ts : List Tile) : Prop := ts.length ≤ 900 ∧ ∀ b ∈ ts, gT b
open Classical in
noncomputable def law_meetsS : List D → Res D := spec dom_tl fun p => if gT p.1 ∧ gTs p.2.1 then .ok (.bool (anyM p.1 p.2.1)) else .stuck
abbrev meetsBody : Ss := .cons (.iff (.and (.cons (.cmp .lt (.ix (.var 3) (.int 2)) (.op .add (.ix (.var 0) (.int 2)) (.ix (.var 0) (.int 4)))) (.cons (.cmp .lt (.ix (.var 0) (.int 2)) (.op .add (.ix (.var 3) (.int 2)) (.ix (.var 3) (.int 4)))) .nil))) (.cons (.iff (.cmp .ne (.lc (.var 4) (.one 4) (.seq (.call "_law_spots" (.var 3) .nil)) (.cons (.cmp .isin (.var 4) (.var 2)) .nil)) (.lst .nil)) (.cons (.ret (.bl true)) .nil) .nil) .nil) .nil) .nil
theorem meets_turn {Γ : Fns} {fuel : Nat} (hs : Γ "_law_spots" = some (1, law_spotsS)) {a b : Tile} (ha : gT a) (hb : gT b) {L : D} {y : Sl} :
    exSs Γ fuel meetsBody [.val (tD a), .val L, .val (.list ((spots a).map pD)), .val (tD b), .no] = if meet a b = true then .rt (.bool true) else .nx [.val (tD a), .val L, .val (.list ((spots a).map pD)), .val (tD b), .no] := by
  have t1 : ∀ m, ev Γ (.and (.cons (.cmp .lt (.ix (.var 3) (.int 2)) (.op .add (.ix (.var 0) (.int 2)) (.ix (.var 0) (.int 4)))) (.cons (.cmp .lt (.ix (.var 0) (.int 2)) (.op .add (.ix (.var 3) (.int 2)) (.ix (.var 3) (.int 4)))) .nil))) (seeM m [.val (tD a), .val L, .val (.list ((spots a).map pD)), .val (tD b), .no]) = .ok (.bool (rowsB a b)) := fun m => by
    by_cases q : b.t < a.t + a.h
    · simp [ev, evAnd, q, rowsB]
    · simp [ev, evAnd, q, rowsB]
  rw [meetsBody, x_iff (t1 _) rfl]
  cases hr : rowsB a b with
  | false =>
    rw [if_neg (by decide), x_nil, fl_nx, x_nil, meet_rows hr, if_neg (by decide)]
  | true =>
    rw [if_pos rfl]
    have mc := meet_cols ha hb hr
    have t2 : ∀ m, ev Γ (.cmp .ne (.lc (.var 4) (.one 4) (.seq (.call "_law_spots" (.var 3) .nil)) (.cons (.cmp .isin (.var 4) (.var 2)) .nil)) (.lst .nil)) (seeM m [.val (tD a), .val L, .val (.list ((spots a).map pD)), .val (tD b), .no]) = .ok (.bool (meet a b)) := fun m => by
      have e0 : seeM m [.val (tD a), .val L, .val (.list ((spots a).map pD)), .val (tD b), .no] = [some (tD a), some L, some (.list ((spots a).map pD)), some (tD b), none] := by simp
      rw [e0]
      refine ev_cmp (ev_lc (ds := (spots b).map pD) (r := ((spots b).filter fun p => decide (p ∈ spots a)).map pD) ?_ (lcD_filter fun p hp => ?_) ?_) (ev_lst evs_nil (by simp)) ?_
      · have z := ev_call (Γ := Γ) (a := .var 3) (es := .nil) (ρ := [some (tD a), some L, some (.list ((spots a).map pD)), some (tD b), none]) hs dom_t_inj b (d := tD b) (ds := []) (by simp [ev]) rfl rfl rfl
        rw [evI, z, if_pos hb]
        rfl
      · have z : cmpD .isin (pD p) (.list ((spots a).map pD)) = some (.bool (decide (p ∈ spots a))) := by
          show Option.map PyData.bool (gd (SeqAt.shaped (pD p) && SeqAt.shaped (.list ((spots a).map pD))) (anyEq ((spots a).map pD) (pD p))) = _
          rw [shaped_pair, shaped_pairs, anyEq_pD]
          rfl
        by_cases q : p ∈ spots a
        · simp [lcF, Tg.set, Tg.slots, wipeD, evIfs, ev, z, q]
        · simp [lcF, Tg.set, Tg.slots, wipeD, evIfs, ev, z, q]
      · rw [List.length_map]
        have z := List.length_filter_le (fun p => decide (p ∈ spots a)) (spots b)
        have z2 := spots_len hb
        omega
      · show Option.map PyData.bool (gd (SeqAt.shaped (.list _) && SeqAt.shaped (.list [])) (!PyData.eqv (.list _) (.list []))) = _
        rw [shaped_pairs, show SeqAt.shaped (.list []) = true from rfl, PyData.eqv, eqvAll_nil, mc]
        cases (spots b).filter fun p => decide (p ∈ spots a) <;> rfl
    rw [x_iff (t2 _) rfl]
    cases hm : meet a b with
    | true =>
      rw [if_pos rfl, x_ret (d := .bool true) (by simp [ev])]
      rfl
    | false =>
      rw [if_neg (by decide), x_nil, fl_nx, x_nil, fl_nx, x_nil]
      rfl
end Tl
set_option maxHeartbeats 4000000
namespace Tl
open PySem PySem.Spec L2
theorem meets_loop {Γ : Fns} {fuel : Nat} (hs : Γ "_law_spots" = some (1, law_spotsS)) {a : Tile} (ha : gT a) {L : D} : ∀ (ts : List Tile) (x : Sl), (∀ b ∈ ts, gT b) → ∃ x',
    forD (forB Γ fuel (.one 3) meetsBody) (tsD ts) [.val (tD a), .val L, .val (.list ((spots a).map pD)), x, .no] = if anyM a ts = true then .rt (.bool true) else .nx [.val (tD a), .val L, .val (.list ((spots a).map pD)), x', .no]
  | [], x, _ => ⟨x, rfl⟩
  | b :: ts, x, h => by
    obtain ⟨x', e⟩ := meets_loop (Γ := Γ) (fuel := fuel) hs ha (L := L) ts (.val (tD b)) fun c hc => h c (List.mem_cons_of_mem _ hc)
    refine ⟨x', ?_⟩
    show (exSs Γ fuel meetsBody [.val (tD a), .val L, .val (.list ((spots a).map pD)), .val (tD b), .no]).bind _ = _
    rw [meets_turn hs ha (h b List.mem_cons_self) (y := .no)]
    have e2 : anyM a (b :: ts) = (meet a b || anyM a ts) := rfl
    rw [e2]
    cases meet a b with
    | true => rfl
    | false =>
      rw [if_neg (by decide), fl_nx, Bool.false_or]
      exact e
open Classical in
theorem run_law_meets (Γ : Fns) (hs : Γ "_law_spots" = some (1, law_spotsS)) (p : Tile × List Tile × Bool) : ∃ fuel, Gives (if gT p.1 ∧ gTs p.2.1 then .ok (.bool (anyM p.1 p.2.1)) else .stuck) (exSs Γ fuel c__law_meets (startS N__law_meets (dom_tl p))) := by
  refine ⟨0, ?_⟩
  obtain ⟨a, ts, k⟩ := p
  by_cases h : gT a ∧ gTs ts
  · rw [if_pos h]
    obtain ⟨ha, hl, hg⟩ := h
    refine .inl ?_
    have eq : evI Γ (.seq (.var 1)) [some (tD a), some (sqD k (tsD ts)), some (.list ((spots a).map pD)), none, none] = .ok (tsD ts) := by cases k <;> simp [evI, ev, sqD]
    show exSs Γ 0 c__law_meets (startS N__law_meets [tD a, sqD k (tsD ts)]) = _
    generalize sqD k (tsD ts) = L at eq ⊢
    have e0 : startS N__law_meets [tD a, L] = [.val (tD a), .val L, .no, .no, .no] := by simp [N__law_meets, startS]
    have z := ev_call (Γ := Γ) (a := .var 0) (es := .nil) (ρ := seeM (vsC (.call "_law_spots" (.var 0) .nil)) [.val (tD a), .val L, .no, .no, .no]) hs dom_t_inj a (d := tD a) (ds := []) (by simp [ev]) rfl rfl rfl
    rw [if_pos ha] at z
    rw [e0, c__law_meets, x_setF z rfl]
    have e1 : (freezeM (vsC (.call "_law_spots" (.var 0) .nil)) [.val (tD a), .val L, .no, .no, .no]).set 2 (.val (.list ((spots a).map pD))) = [.val (tD a), .val L, .val (.list ((spots a).map pD)), .no, .no] := by simp
    rw [e1, x_for (ds := tsD ts) (by simpa using eq)]
    have e2 : freezeM (vsI (.seq (.var 1))) [.val (tD a), .val L, .val (.list ((spots a).map pD)), .no, .no] = [.val (tD a), .val L, .val (.list ((spots a).map pD)), .no, .no] := by simp
    rw [e2]
    obtain ⟨x', e3⟩ := meets_loop (Γ := Γ) (fuel := 0) hs ha (L := L) ts .no hg
    rw [e3]
    show Fl.bind _ _ = Fl.rt (.bool (anyM a ts))
    cases anyM a ts with
    | true => rfl
    | false =>
      rw [if_neg (by decide), fl_nx]
      exact x_ret (by simp [ev])
  · rw [if_neg h]
    trivial
/-! ### _law_lower -/
theorem low_loop2 {Γ : Fns} {t : C} {b : Ss} {fuel : Nat} {ts : List Tile} (P : Tile → Prop) (hP : ∀ a, P a → P { a with t := a.t + 1 }) (ht : ∀ a : Tile, P a → ∀ m, ev Γ t (seeM m [.val (tD a), .val (.list (tsD ts))]) = .ok (.bool (anyM a ts))) (hb : ∀ a : Tile, exSs Γ fuel b [.val (tD a), .val (.list (tsD ts))] = .nx [.val (tD { a with t := a.t + 1 }), .val (.list (tsD ts))]) :
    ∀ (n : Nat) (a : Tile), P a → bd ts a ≤ n → whlD (fun ρ f => evT Γ t ρ f) (fun ρ => exSs Γ fuel b ρ) (n + 1) [.val (tD a), .val (.list (tsD ts))] = .nx [.val (tD (lowF n ts a)), .val (.list (tsD ts))]
  | 0, a, hp, h => by
    rw [whlD, evT_of (ht a hp _) rfl, bd_zero h]
    rfl
  | n + 1, a, hp, h => by
    rw [whlD, evT_of (ht a hp _) rfl, lowF]
    by_cases q : anyM a ts = true
    · rw [if_pos q, if_pos q, hb a, fl_nx]
      exact low_loop2 P hP ht hb n _ (hP a hp) (bd_succ h)
    · rw [if_neg q, if_neg q]
open Classical in
noncomputable def law_lowerS : List D → Res D := spec dom_lo fun p => if gT p.1 ∧ gTs p.2 then .ok (tD (lower p.2 p.1)) else .stuck
open Classical in
theorem run_law_lower (Γ : Fns) (hm : Γ "_law_meets" = some (2, law_meetsS)) (p : Tile × List Tile) : ∃ fuel, Gives (if gT p.1 ∧ gTs p.2 then .ok (tD (lower p.2 p.1)) else .stuck) (exSs Γ fuel c__law_lower (startS N__law_lower (dom_lo p))) := by
  obtain ⟨a, ts⟩ := p
  refine ⟨bd ts a + 1, ?_⟩
  by_cases h : gT a ∧ gTs ts
  · rw [if_pos h]
    obtain ⟨ha, hg⟩ := h
    refine .inl ?_
    have e0 : startS N__law_lower (dom_lo (a, ts)) = [.val (tD a), .val (.list (tsD ts))] := by simp [N__law_lower, startS, dom_lo]
    rw [e0, c__law_lower, x_whl, low_loop2 gT (fun a h => h) (fun a hp m => ?_) (fun a => ?_) _ _ ha (Nat.le_refl _)]
    · rw [fl_nx, lower_eq (Nat.le_refl _)]
      refine x_ret ?_
      simp [ev]
    · have z := ev_call (Γ := Γ) (a := .var 0) (es := .cons (.var 1) .nil) (ρ := seeM m [.val (tD a), .val (.list (tsD ts))]) hm dom_tl_inj (a, ts, true) (d := tD a) (ds := [.list (tsD ts)]) (by simp [ev]) (by simp [ev, evs]) rfl rfl
      rw [z]
      exact if_pos ⟨hp, hg⟩
    · rw [x_set (d := tD { a with t := a.t + 1 }) ?_ rfl]
      · rfl
      · simp [ev, evs]
        rfl
  · rw [if_neg h]
    trivial
theorem run_law_order (Γ : Fns) (p : List Tile × Bool) : ∃ fuel, Gives (if p.1.length ≤ 1000 then .ok (.list (tsD (ordT p.1))) else .stuck) (exSs Γ fuel c__law_order (startS N__law_order (dom_sq p))) := run_by_order Γ p
/-! ### _law_tile, _law_wide -/
def mkT (c wide : Int) (nm : Str) : Tile :=
  { nm := nm, l := mix c 9967 (wide - (1 + mix c 9973 (mnI wide 4)) + 1), t := mix c 9949 9, w := 1 + mix c 9973 (mnI wide 4), h := 1 + mix c 9941 3, fx := decide (mix c 9931 6 = 0) }
def okT (wide : Int) (a : Tile) : Prop := gT a ∧ 0 ≤ a.l ∧ a.l + a.w ≤ wide ∧ 0 ≤ a.t ∧ PyData.canLay0 (.str a.nm) = true
theorem mnI_rg {i : Int} (h : 1 ≤ i) : 1 ≤ mnI i 4 ∧ mnI i 4 ≤ 4 ∧ mnI i 4 ≤ i := by
  unfold mnI
  split <;> omega
theorem mkT_ok {c wide : Int} {nm : Str} (h : 1 ≤ wide) (hn : PyData.canLay0 (.str nm) = true) : okT wide (mkT c wide nm) := by
  have r := mnI_rg h
  have m1 := mix_rg (c := c) (p := 9973) (m := mnI wide 4) (by omega)
  have m2 := mix_rg (c := c) (p := 9967) (m := wide - (1 + mix c 9973 (mnI wide 4)) + 1) (by omega)
  have m3 := mix_rg (c := c) (p := 9949) (m := 9) (by omega)
  have m4 := mix_rg (c := c) (p := 9941) (m := 3) (by omega)
  refine ⟨⟨?_, ?_, ?_, ?_⟩, m2.1, ?_, m3.1, hn⟩
  · show 1 ≤ 1 + mix c 9973 (mnI wide 4)
    omega
  · show 1 + mix c 9973 (mnI wide 4) ≤ 20
    omega
  · show 1 ≤ 1 + mix c 9941 3
    omega
  · show 1 + mix c 9941 3 ≤ 20
    omega
  · show mix c 9967 (wide - (1 + mix c 9973 (mnI wide 4)) + 1) + (1 + mix c 9973 (mnI wide 4)) ≤ wide
    omega
def dom_lt (p : Int × Int × Str) : List D := [.int p.1, .int p.2.1, .str p.2.2]
theorem dom_lt_inj (p q : Int × Int × Str) (h : dom_lt p = dom_lt q) : p = q := by
  obtain ⟨a, b, c⟩ := p
  obtain ⟨d, e, f⟩ := q
  simp only [dom_lt, List.cons.injEq, PyData.int.injEq, PyData.str.injEq] at h
  rw [h.1, h.2.1, h.2.2.1]
noncomputable def law_tileS : List D → Res D := spec dom_lt fun p => if 1 ≤ p.2.1 then .ok (tD (mkT p.1 p.2.1 p.2.2)) else .stuck
theorem ev_mix {Γ : Fns} (hm : Γ "_law_mix" = some (3, law_mixS)) {a b c : C} {ρ : Env0D} {x p m : Int} (h1 : ev Γ a ρ = .ok (.int x)) (h2 : ev Γ b ρ = .ok (.int p)) (h3 : ev Γ c ρ = .ok (.int m)) (hp : 0 < p ∧ p ≤ 10000 ∧ 0 < m) : ev Γ (.call "_law_mix" a (.cons b (.cons c .nil))) ρ = .ok (.int (mix x p m)) := by
  rw [ev_call hm dom_3i_inj (x, p, m) h1 (evs_cons h2 (evs_cons h3 evs_nil)) rfl rfl]
  exact if_pos hp
theorem run_law_tile (Γ : Fns) (hm : Γ "_law_mix" = some (3, law_mixS)) (p : Int × Int × Str) : ∃ fuel, Gives (if 1 ≤ p.2.1 then .ok (tD (mkT p.1 p.2.1 p.2.2)) else .stuck) (exSs Γ fuel c__law_tile (startS N__law_tile (dom_lt p))) := by
  refine ⟨0, ?_⟩
  obtain ⟨c, wide, nm⟩ := p
  by_cases h : 1 ≤ wide
  · rw [if_pos h]
    have r := mnI_rg h
    have m1 := mix_rg (c := c) (p := 9973) (m := mnI wide 4) (by omega)
    refine .inl ?_
    have e0 : startS N__law_tile (dom_lt (c, wide, nm)) = [.val (.int c), .val (.int wide), .val (.str nm), .no, .no, .no] := by simp [N__law_tile, startS, dom_lt]
    rw [e0, c__law_tile, x_set (d := .int (1 + mix c 9973 (mnI wide 4))) (ev_op (d := .int 1) (by simp [ev]) (ev_mix hm (x := c) (p := 9973) (m := mnI wide 4) (by simp [ev]) (by simp [ev]) (by simp [ev, evs]; rfl) (by omega)) rfl) rfl]
    show exSs Γ 0 _ [.val (.int c), .val (.int wide), .val (.str nm), .val (.int (1 + mix c 9973 (mnI wide 4))), .no, .no] = _
    rw [x_set (d := .int (mkT c wide nm).l) (ev_mix hm (x := c) (p := 9967) (m := wide - (1 + mix c 9973 (mnI wide 4)) + 1) (by simp [ev]) (by simp [ev]) (by simp [ev]) (by omega)) rfl]
    show exSs Γ 0 _ [.val (.int c), .val (.int wide), .val (.str nm), .val (.int (mkT c wide nm).w), .val (.int (mkT c wide nm).l), .no] = _
    rw [x_set (d := .bool (mkT c wide nm).fx) (ev_cmp (d := .int (mix c 9931 6)) (e := .int 0) (ev_mix hm (x := c) (p := 9931) (m := 6) (by simp [ev]) (by simp [ev]) (by simp [ev]) (by omega)) (by simp [ev]) (cm_eqI _ _)) rfl]
    show exSs Γ 0 _ [.val (.int c), .val (.int wide), .val (.str nm), .val (.int (mkT c wide nm).w), .val (.int (mkT c wide nm).l), .val (.bool (mkT c wide nm).fx)] = _
    refine x_ret (ev_tup (evs_cons (d := .str nm) (by simp [ev]) (evs_cons (d := .int (mkT c wide nm).l) (by simp [ev]) (evs_cons (ev_mix hm (x := c) (p := 9949) (m := 9) (by simp [ev]) (by simp [ev]) (by simp [ev]) (by omega)) (evs_cons (d := .int (mkT c wide nm).w) (by simp [ev]) (evs_cons (ev_op (d := .int 1) (by simp [ev]) (ev_mix hm (x := c) (p := 9941) (m := 3) (by simp [ev]) (by simp [ev]) (by simp [ev]) (by omega)) rfl) (evs_cons (d := .bool (mkT c wide nm).fx) (by simp [ev]) evs_nil)))))) (by simp))
  · rw [if_neg h]
    trivial
def widA (c : Int) : Int := if mix c 9923 3 = 0 then 1 + mix c 9929 12 else 4 + mix c 9907 5
theorem widA_rg (c : Int) : 1 ≤ widA c ∧ widA c ≤ 12 := by
  have m1 := mix_rg (c := c) (p := 9929) (m := 12) (by omega)
  have m2 := mix_rg (c := c) (p := 9907) (m := 5) (by omega)
  unfold widA
  split <;> omega
def dom_i (c : Int) : List D := [.int c]
theorem dom_i_inj (a b : Int) (h : dom_i a = dom_i b) : a = b := by
  simp only [dom_i, List.cons.injEq, PyData.int.injEq] at h
  exact h.1
noncomputable def law_wideS : List D → Res D := spec dom_i fun c => .ok (.int (widA c))
theorem ev_ite {Γ : Fns} {t a b : C} {ρ : Env0D} {d e : D} {k : Bool} (h : ev Γ t ρ = .ok d) (hk : truV d = some k) (h2 : (if k = true then ev Γ a ρ else ev Γ b ρ) = .ok e) : ev Γ (.ite t a b) ρ = .ok e := by
  rw [ev, rB, h, Res.bind_ok, hk]
  exact h2
theorem run_law_wide (Γ : Fns) (hm : Γ "_law_mix" = some (3, law_mixS)) (c : Int) : ∃ fuel, Gives (.ok (.int (widA c))) (exSs Γ fuel c__law_wide (startS N__law_wide (dom_i c))) := by
  refine ⟨0, .inl ?_⟩
  have e0 : ∀ m, seeM m (startS N__law_wide (dom_i c)) = [some (.int c)] := fun m => by simp [N__law_wide, startS, dom_i]
  refine x_ret ?_
  rw [e0]
  refine ev_ite (ev_cmp (d := .int (mix c 9923 3)) (e := .int 0) (ev_mix hm (x := c) (p := 9923) (m := 3) (by simp [ev]) (by simp [ev]) (by simp [ev]) (by omega)) (by simp [ev]) (cm_eqI _ _)) rfl ?_
  by_cases q : mix c 9923 3 = 0
  · rw [decide_eq_true q, if_pos rfl, widA, if_pos q]
    exact ev_op (d := .int 1) (by simp [ev]) (ev_mix hm (x := c) (p := 9929) (m := 12) (by simp [ev]) (by simp [ev]) (by simp [ev]) (by omega)) rfl
  · rw [decide_eq_false q, if_neg (by decide), widA, if_neg q]
    exact ev_op (d := .int 4) (by simp [ev]) (ev_mix hm (x := c) (p := 9907) (m := 5) (by simp [ev]) (by simp [ev]) (by simp [ev]) (by omega)) rfl
end Tl
set_option maxHeartbeats 4000000
namespace Tl
open PySem PySem.Spec L2
/-! ### _law_layout -/
def nm10 : List (Int × Str) := [(0, "d"), (1, "c"), (2, "a"), (3, "b"), (4, "z"), (5, "y"), (6, "x"), (7, "w"), (8, "f"), (9, "e")]
def nmM (m : Int) : List (Int × Str) := nm10.take m.toNat
def nmD (p : Int × Str) : D := .tuple [.int p.1, .str p.2]
theorem nm10_ok : ∀ p ∈ nm10, PyData.canLay0 (.str p.2) = true := by decide +kernel
theorem nmM_ok (m : Int) : ∀ p ∈ nmM m, PyData.canLay0 (.str p.2) = true := fun p hp => nm10_ok p (List.mem_of_mem_take hp)
theorem nmM_len {m : Int} (h0 : 0 ≤ m) (h : m ≤ 10) : ((nmM m).length : Int) = m := by
  rw [nmM, List.length_take, show nm10.length = 10 from rfl]
  omega
theorem nmM_it {m : Int} (h0 : 0 ≤ m) (h : m ≤ 10) : (seqD (.str (cutS "dcabzyxwfe" none (some m)))).map enumD = some ((nmM m).map nmD) := by
  obtain ⟨n, rfl⟩ : ∃ n : Nat, m = n := ⟨m.toNat, by omega⟩
  have hn : n < 11 := by omega
  match n, hn with
  | 0, _ => rfl
  | 1, _ => rfl
  | 2, _ => rfl
  | 3, _ => rfl
  | 4, _ => rfl
  | 5, _ => rfl
  | 6, _ => rfl
  | 7, _ => rfl
  | 8, _ => rfl
  | 9, _ => rfl
  | 10, _ => rfl
theorem nmM_sz {m : Int} (h0 : 0 ≤ m) (h : m ≤ 10) : slV (.str "dcabzyxwfe") none (some m) = some (.str (cutS "dcabzyxwfe" none (some m))) := by
  obtain ⟨n, rfl⟩ : ∃ n : Nat, m = n := ⟨m.toNat, by omega⟩
  have hn : n < 11 := by omega
  match n, hn with
  | 0, _ => rfl
  | 1, _ => rfl
  | 2, _ => rfl
  | 3, _ => rfl
  | 4, _ => rfl
  | 5, _ => rfl
  | 6, _ => rfl
  | 7, _ => rfl
  | 8, _ => rfl
  | 9, _ => rfl
  | 10, _ => rfl
def layF (c wide : Int) : List (Int × Str) → List Tile → List Tile
  | [], acc => acc
  | p :: r, acc => if anyM (mkT (c + 37 * p.1) wide p.2) acc = true then layF c wide r acc else layF c wide r (acc ++ [mkT (c + 37 * p.1) wide p.2])
theorem layF_ok {c wide : Int} (h : 1 ≤ wide) : ∀ (l : List (Int × Str)) (acc : List Tile), (∀ p ∈ l, PyData.canLay0 (.str p.2) = true) → (∀ a ∈ acc, okT wide a) → (layF c wide l acc).length ≤ acc.length + l.length ∧ ∀ a ∈ layF c wide l acc, okT wide a
  | [], acc, _, ha => ⟨Nat.le_refl _, ha⟩
  | p :: r, acc, hl, ha => by
    rw [layF]
    split
    · obtain ⟨z1, z2⟩ := layF_ok (c := c) h r acc (fun q hq => hl q (List.mem_cons_of_mem _ hq)) ha
      exact ⟨by rw [List.length_cons]; omega, z2⟩
    · obtain ⟨z1, z2⟩ := layF_ok (c := c) h r (acc ++ [mkT (c + 37 * p.1) wide p.2]) (fun q hq => hl q (List.mem_cons_of_mem _ hq)) fun a hm => by
        rcases List.mem_append.mp hm with hm | hm
        · exact ha a hm
        · rw [List.mem_singleton.mp hm]
          exact mkT_ok h (hl p List.mem_cons_self)
      refine ⟨?_, z2⟩
      rw [List.length_append, List.length_singleton] at z1
      rw [List.length_cons]
      omega
theorem layF_names {c wide : Int} : ∀ (l : List (Int × Str)) (acc : List Tile), ((layF c wide l acc).map Tile.nm).Sublist (acc.map Tile.nm ++ l.map Prod.snd)
  | [], acc => by
    rw [layF, List.map_nil, List.append_nil]
    exact List.Sublist.refl _
  | p :: r, acc => by
    rw [layF]
    split
    · refine (layF_names r acc).trans ?_
      rw [List.map_cons]
      exact List.Sublist.append (List.Sublist.refl _) (List.sublist_cons_self _ _)
    · have z := layF_names (c := c) (wide := wide) r (acc ++ [mkT (c + 37 * p.1) wide p.2])
      rw [List.map_append, List.append_assoc] at z
      exact z
def dj (a b : Tile) : Prop := meet a b = false
theorem meet_comm (a b : Tile) : meet a b = meet b a := by
  unfold meet
  by_cases h1 : b.l + b.w ≤ a.l <;> by_cases h2 : a.l + a.w ≤ b.l <;> by_cases h3 : a.t < b.t + b.h <;> by_cases h4 : b.t < a.t + a.h <;> simp [h1, h2, h3, h4]
theorem dj_symm {a b : Tile} (h : dj a b) : dj b a := (meet_comm b a).trans h
theorem anyM_no {a : Tile} {ts : List Tile} : anyM a ts = false ↔ ∀ b ∈ ts, dj a b := by
  unfold anyM dj
  rw [List.any_eq_false]
  constructor
  · exact fun h b hb => by
      have := h b hb
      simpa using this
  · exact fun h b hb => by
      have := h b hb
      simpa using this
theorem layF_dj {c wide : Int} : ∀ (l : List (Int × Str)) (acc : List Tile), acc.Pairwise dj → (layF c wide l acc).Pairwise dj
  | [], acc, h => h
  | p :: r, acc, h => by
    rw [layF]
    split
    · exact layF_dj r acc h
    · rename_i hq
      refine layF_dj r _ ?_
      rw [List.pairwise_append]
      refine ⟨h, List.pairwise_singleton _ _, fun a ha b hb => ?_⟩
      rw [List.mem_singleton.mp hb]
      exact dj_symm (anyM_no.mp (by simpa using hq) a ha)
def layT (c wide m : Int) : List Tile := srtT (layF c wide (nmM m) [])
/-- all that is wanted of a drawn layout -/
structure Lay (wide m : Int) (ts : List Tile) : Prop where
  len : (ts.length : Int) ≤ m
  ok : ∀ a ∈ ts, okT wide a
  dj : ts.Pairwise dj
  nd : (ts.map Tile.nm).Nodup
  nms : ∀ a ∈ ts, a.nm ∈ (nmM m).map Prod.snd
theorem srtT_perm (ts : List Tile) : (srtT ts).Perm ts := isort_perm ltT ts
theorem layT_ok {c wide m : Int} (h : 1 ≤ wide) (h0 : 0 ≤ m) (hm : m ≤ 10) : Lay wide m (layT c wide m) := by
  obtain ⟨z1, z2⟩ := layF_ok (c := c) h (nmM m) [] (nmM_ok m) (fun a ha => by cases ha)
  have hs := layF_names (c := c) (wide := wide) (nmM m) []
  rw [List.map_nil, List.nil_append] at hs
  have hl := nmM_len h0 hm
  refine ⟨?_, fun a ha => z2 a ((srtT_perm _).mem_iff.mp ha), ?_, ?_, fun a ha => ?_⟩
  · rw [layT, srtT, isort_len]
    rw [List.length_nil] at z1
    omega
  · exact ((srtT_perm _).pairwise_iff fun h => dj_symm h).mpr (layF_dj _ _ List.Pairwise.nil)
  · refine ((srtT_perm _).map _).nodup_iff.mpr (hs.nodup ?_)
    have e : (nmM m).map Prod.snd = (nm10.map Prod.snd).take m.toNat := by rw [nmM, List.map_take]
    rw [e]
    exact List.Nodup.sublist (List.take_sublist _ _) (by decide +kernel)
  · exact hs.subset (List.mem_map_of_mem ((srtT_perm _).mem_iff.mp ha))
noncomputable def law_layoutS : List D → Res D := spec dom_3i fun p => if 1 ≤ p.2.1 ∧ 0 ≤ p.2.2 ∧ p.2.2 ≤ 10 then .ok (.tuple (tsD (layT p.1 p.2.1 p.2.2))) else .stuck
abbrev layBody : Ss := .cons (.set 6 (.call "_law_tile" (.op .add (.var 0) (.op .mul (.int 37) (.var 4))) (.cons (.var 1) (.cons (.var 5) .nil)))) (.cons (.iff (.not (.call "_law_meets" (.var 6) (.cons (.var 3) .nil))) (.cons (.app 3 (.var 6)) .nil) .nil) .nil)
theorem lay_loop {Γ : Fns} {fuel : Nat} (ht : Γ "_law_tile" = some (3, law_tileS)) (hm : Γ "_law_meets" = some (2, law_meetsS)) {c wide mo : Int} (h : 1 ≤ wide) : ∀ (l : List (Int × Str)) (acc : List Tile) (x y z : Sl), (∀ p ∈ l, PyData.canLay0 (.str p.2) = true) → (∀ a ∈ acc, okT wide a) → acc.length + l.length ≤ 900 → ∃ x' y' z',
    forD (forB Γ fuel (.many [4, 5]) layBody) (l.map nmD) [.val (.int c), .val (.int wide), .val (.int mo), .own (tsD acc), x, y, z] = .nx [.val (.int c), .val (.int wide), .val (.int mo), .own (tsD (layF c wide l acc)), x', y', z']
  | [], acc, x, y, z, _, _, _ => ⟨x, y, z, rfl⟩
  | p :: r, acc, x, y, z, hl, ha, hn => by
    rw [List.length_cons] at hn
    obtain ⟨a, ea⟩ : ∃ a, a = mkT (c + 37 * p.1) wide p.2 := ⟨_, rfl⟩
    have oa : okT wide a := by rw [ea]; exact mkT_ok h (hl p List.mem_cons_self)
    have m37 : mulOk 37 p.1 = true := decide_eq_true (.inl (by omega))
    rw [List.map_cons, layF, ← ea]
    show ∃ x' y' z', (exSs Γ fuel layBody [.val (.int c), .val (.int wide), .val (.int mo), .own (tsD acc), .val (.int p.1), .val (.str p.2), z]).bind _ = _
    have e1 : ev Γ (.call "_law_tile" (.op .add (.var 0) (.op .mul (.int 37) (.var 4))) (.cons (.var 1) (.cons (.var 5) .nil))) (seeM (vsC (.call "_law_tile" (.op .add (.var 0) (.op .mul (.int 37) (.var 4))) (.cons (.var 1) (.cons (.var 5) .nil)))) [.val (.int c), .val (.int wide), .val (.int mo), .own (tsD acc), .val (.int p.1), .val (.str p.2), z]) = .ok (tD a) := by
      rw [ev_call ht dom_lt_inj (c + 37 * p.1, wide, p.2) (d := .int (c + 37 * p.1)) (ds := [.int wide, .str p.2]) (by simp [ev, m37]) (by simp [ev, evs]) rfl rfl, ea]
      exact if_pos h
    rw [layBody, x_set e1 rfl]
    show ∃ x' y' z', (exSs Γ fuel _ [.val (.int c), .val (.int wide), .val (.int mo), .own (tsD acc), .val (.int p.1), .val (.str p.2), .val (tD a)]).bind _ = _
    have gacc : gTs acc := ⟨by omega, fun b hb => (ha b hb).1⟩
    have e2 : ev Γ (.call "_law_meets" (.var 6) (.cons (.var 3) .nil)) (seeM (vsC (.not (.call "_law_meets" (.var 6) (.cons (.var 3) .nil)))) [.val (.int c), .val (.int wide), .val (.int mo), .own (tsD acc), .val (.int p.1), .val (.str p.2), .val (tD a)]) = .ok (.bool (anyM a acc)) := by
      have z := ev_call (Γ := Γ) (a := .var 6) (es := .cons (.var 3) .nil) (ρ := seeM (vsC (.not (.call "_law_meets" (.var 6) (.cons (.var 3) .nil)))) [.val (.int c), .val (.int wide), .val (.int mo), .own (tsD acc), .val (.int p.1), .val (.str p.2), .val (tD a)]) hm dom_tl_inj (a, acc, true) (d := tD a) (ds := [.list (tsD acc)]) (by simp [ev]) (by simp [ev, evs, vsC, vsCs]) rfl rfl
      rw [z]
      exact if_pos ⟨oa.1, gacc⟩
    rw [x_iff (ev_not e2 rfl) rfl]
    cases hq : anyM a acc with
    | true =>
      rw [if_neg (by decide), x_nil, fl_nx, x_nil, fl_nx, if_pos rfl]
      exact lay_loop ht hm h r acc _ _ _ (fun q hq => hl q (List.mem_cons_of_mem _ hq)) ha (by omega)
    | false =>
      rw [show (!false) = true from rfl, if_pos rfl, if_neg (by decide), x_app (ds := tsD acc) (d := tD a) rfl (by simp [ev]) rfl (by rw [tsD_len]; omega), x_nil, fl_nx, x_nil, fl_nx]
      have e3 : tsD acc ++ [tD a] = tsD (acc ++ [a]) := by simp [tsD]
      show ∃ x' y' z', forD _ _ [.val (.int c), .val (.int wide), .val (.int mo), .own (tsD acc ++ [tD a]), .val (.int p.1), .val (.str p.2), .val (tD a)] = _
      rw [e3]
      refine lay_loop ht hm h r (acc ++ [a]) _ _ _ (fun q hq => hl q (List.mem_cons_of_mem _ hq)) (fun b hb => ?_) (by rw [List.length_append, List.length_singleton]; omega)
      rcases List.mem_append.mp hb with hb | hb
      · exact ha b hb
      · rw [List.mem_singleton.mp hb]
        exact oa
theorem run_law_layout (Γ : Fns) (ht : Γ "_law_tile" = some (3, law_tileS)) (hm : Γ "_law_meets" = some (2, law_meetsS)) (p : Int × Int × Int) : ∃ fuel, Gives (if 1 ≤ p.2.1 ∧ 0 ≤ p.2.2 ∧ p.2.2 ≤ 10 then .ok (.tuple (tsD (layT p.1 p.2.1 p.2.2))) else .stuck) (exSs Γ fuel c__law_layout (startS N__law_layout (dom_3i p))) := by
  refine ⟨0, ?_⟩
  obtain ⟨c, wide, mo⟩ := p
  by_cases h : 1 ≤ wide ∧ 0 ≤ mo ∧ mo ≤ 10
  · rw [if_pos h]
    obtain ⟨h, h0, h1⟩ := h
    refine .inl ?_
    have e0 : startS N__law_layout (dom_3i (c, wide, mo)) = [.val (.int c), .val (.int wide), .val (.int mo), .no, .no, .no, .no] := by simp [N__law_layout, startS, dom_3i]
    rw [e0, c__law_layout, x_new]
    show exSs Γ 0 _ [.val (.int c), .val (.int wide), .val (.int mo), .own [], .no, .no, .no] = _
    have hl := nmM_len h0 h1
    rw [x_for (ds := (nmM mo).map nmD) ?_]
    · have e1 : freezeM (vsI (.enum (.slU (.str "dcabzyxwfe") (.var 2)))) [.val (.int c), .val (.int wide), .val (.int mo), .own [], .no, .no, .no] = [.val (.int c), .val (.int wide), .val (.int mo), .own (tsD []), .no, .no, .no] := by simp [vsI, vsC, tsD]
      rw [e1]
      obtain ⟨x', y', z', e⟩ := lay_loop (Γ := Γ) (fuel := 0) (c := c) (mo := mo) ht hm h (nmM mo) [] .no .no .no (nmM_ok mo) (fun a ha => by cases ha) (by rw [List.length_nil]; omega)
      rw [e, fl_nx]
      have hlen := (layF_ok (c := c) h (nmM mo) [] (nmM_ok mo) (fun a ha => by cases ha)).1
      rw [List.length_nil] at hlen
      have hlen : (layF c wide (nmM mo) []).length ≤ 1000 := by omega
      refine x_ret (ev_pr1 (ev_srt (d := .list (tsD (layF c wide (nmM mo) []))) ?_ (srtV_ts hlen)) rfl)
      simp [ev, vsC, vsCs]
    · have e2 : ev Γ (.slU (.str "dcabzyxwfe") (.var 2)) (seeM (vsI (.enum (.slU (.str "dcabzyxwfe") (.var 2)))) [.val (.int c), .val (.int wide), .val (.int mo), .own [], .no, .no, .no]) = .ok (.str (cutS "dcabzyxwfe" none (some mo))) := by
        have z := nmM_sz h0 h1
        simp [ev, z]
      rw [evI, e2, Res.bind_ok, nmM_it h0 h1]
      rfl
  · rw [if_neg h]
    trivial
end Tl
set_option maxHeartbeats 4000000
namespace Tl
open PySem PySem.Spec L2
instance : DecidableEq Tile := fun a b => decidable_of_iff (a.nm = b.nm ∧ a.l = b.l ∧ a.t = b.t ∧ a.w = b.w ∧ a.h = b.h ∧ a.fx = b.fx) (by
  cases a
  cases b
  simp)
/-! ### good tiles -/
abbrev nOk (x : Str) : Prop := PyData.canLay0 (.str x) = true
def gN (a : Tile) : Prop := gT a ∧ nOk a.nm
structure gL (n : Nat) (ts : List Tile) : Prop where
  len : ts.length ≤ n
  ok : ∀ a ∈ ts, gN a
theorem gL.filter {n : Nat} {ts : List Tile} (h : gL n ts) (q : Tile → Bool) : gL n (ts.filter q) := ⟨Nat.le_trans (List.length_filter_le _ _) h.len, fun a ha => h.ok a (List.mem_filter.mp ha).1⟩
theorem ordT_perm (ts : List Tile) : (ordT ts).Perm ts := isort_perm ltO ts
theorem gL.srt {n : Nat} {ts : List Tile} (h : gL n ts) : gL n (srtT ts) := ⟨by rw [srtT, isort_len]; exact h.len, fun a ha => h.ok a ((srtT_perm _).mem_iff.mp ha)⟩
theorem gL.ord {n : Nat} {ts : List Tile} (h : gL n ts) : gL n (ordT ts) := ⟨by rw [ordT, isort_len]; exact h.len, fun a ha => h.ok a ((ordT_perm _).mem_iff.mp ha)⟩
theorem gL.snoc {n : Nat} {ts : List Tile} {a : Tile} (h : gL n ts) (ha : gN a) : gL (n + 1) (ts ++ [a]) := ⟨by rw [List.length_append, List.length_singleton]; exact Nat.succ_le_succ h.len, fun b hb => by
  rcases List.mem_append.mp hb with hb | hb
  · exact h.ok b hb
  · rw [List.mem_singleton.mp hb]; exact ha⟩
theorem gL.mono {n m : Nat} {ts : List Tile} (h : gL n ts) (l : n ≤ m) : gL m ts := ⟨Nat.le_trans h.len l, h.ok⟩
theorem gL.nil {n : Nat} : gL n [] := ⟨Nat.zero_le _, fun _ h => by cases h⟩
theorem gL.tail {n : Nat} {a : Tile} {ts : List Tile} (h : gL n (a :: ts)) : gL n ts := ⟨Nat.le_trans (Nat.le_succ _) h.len, fun b hb => h.ok b (List.mem_cons_of_mem _ hb)⟩
theorem gL.gTs {n : Nat} {ts : List Tile} (h : gL n ts) (l : n ≤ 900) : gTs ts := ⟨Nat.le_trans h.len l, fun a ha => (h.ok a ha).1⟩
theorem gL.le {n : Nat} {ts : List Tile} (h : gL n ts) (l : n ≤ 1000) : ts.length ≤ 1000 := Nat.le_trans h.len l
theorem Lay.gL {wide m : Int} {ts : List Tile} (h : Lay wide m ts) {n : Nat} (l : m ≤ n) : gL n ts := ⟨by have := h.len; omega, fun a ha => ⟨(h.ok a ha).1, (h.ok a ha).2.2.2.2⟩⟩
theorem gN.at {a : Tile} (h : gN a) (t : Int) : gN { a with t := t } := h
@[simp] theorem fzn_out {m : List Nat} {i : Nat} {s : Sl} (h : i ∉ m) : fzn m i s = s := by
  cases s with
  | own ds => exact if_neg h
  | _ => rfl
/-! ### data, compared -/
theorem shaped_str {x : Str} (h : nOk x) : SeqAt.shaped (.str x) = true := by
  unfold SeqAt.shaped
  rw [h]
  rfl
theorem cm_eqS {x y : Str} (hx : nOk x) (hy : nOk y) : cmpD .eq (.str x) (.str y) = some (.bool (decide (x = y))) := by
  show Option.map PyData.bool (gd (SeqAt.shaped (.str x) && SeqAt.shaped (.str y)) (x == y)) = _
  rw [shaped_str hx, shaped_str hy]
  show some (PyData.bool (x == y)) = _
  by_cases h : x = y <;> simp [h]
theorem cm_neS {x y : Str} (hx : nOk x) (hy : nOk y) : cmpD .ne (.str x) (.str y) = some (.bool (decide (x ≠ y))) := by
  show Option.map PyData.bool (gd (SeqAt.shaped (.str x) && SeqAt.shaped (.str y)) (!(x == y))) = _
  rw [shaped_str hx, shaped_str hy]
  show some (PyData.bool (!(x == y))) = _
  by_cases h : x = y <;> simp [h]
theorem lay_tile {a : Tile} (h : nOk a.nm) : (tD a).canLay0 = true := by
  have h' : PyData.canLay0 (.str a.nm) = true := h
  rw [PyData.canLay0] at h'
  simp [tD, PyData.canLay0, PyData.canLayAll0, h']
theorem shaped_tile {a : Tile} (h : nOk a.nm) : SeqAt.shaped (tD a) = true := by
  unfold SeqAt.shaped
  rw [lay_tile h]
  rfl
theorem eqv_tile (a b : Tile) : PyData.eqv (tD a) (tD b) = decide (a = b) := by
  obtain ⟨n1, l1, t1, w1, h1, f1⟩ := a
  obtain ⟨n2, l2, t2, w2, h2, f2⟩ := b
  have e : PyData.eqv (tD ⟨n1, l1, t1, w1, h1, f1⟩) (tD ⟨n2, l2, t2, w2, h2, f2⟩) = ((n1 == n2) && ((l1 == l2) && ((t1 == t2) && ((w1 == w2) && ((h1 == h2) && ((f1 == f2) && true)))))) := by
    simp only [tD, PyData.eqv, PyData.eqvAll]
  rw [e]
  by_cases k1 : n1 = n2 <;> by_cases k2 : l1 = l2 <;> by_cases k3 : t1 = t2 <;> by_cases k4 : w1 = w2 <;> by_cases k5 : h1 = h2 <;> by_cases k6 : f1 = f2 <;> simp [k1, k2, k3, k4, k5, k6]
theorem cm_eqT {a b : Tile} (ha : nOk a.nm) (hb : nOk b.nm) : cmpD .eq (tD a) (tD b) = some (.bool (decide (a = b))) := by
  show Option.map PyData.bool (gd (SeqAt.shaped (tD a) && SeqAt.shaped (tD b)) (PyData.eqv (tD a) (tD b))) = _
  rw [shaped_tile ha, shaped_tile hb, eqv_tile]
  rfl
theorem cm_neT {a b : Tile} (ha : nOk a.nm) (hb : nOk b.nm) : cmpD .ne (tD a) (tD b) = some (.bool (decide (a ≠ b))) := by
  show Option.map PyData.bool (gd (SeqAt.shaped (tD a) && SeqAt.shaped (tD b)) (!PyData.eqv (tD a) (tD b))) = _
  rw [shaped_tile ha, shaped_tile hb, eqv_tile]
  by_cases h : a = b <;> simp [h]
theorem layAll_ts : ∀ {ts : List Tile}, (∀ a ∈ ts, nOk a.nm) → PyData.canLayAll0 (tsD ts) = true
  | [], _ => rfl
  | a :: ts, h => by
    show (PyData.canLay0 (tD a) && PyData.canLayAll0 (tsD ts)) = true
    rw [lay_tile (h a List.mem_cons_self), layAll_ts fun b hb => h b (List.mem_cons_of_mem _ hb)]
    rfl
theorem depthAll_ts : ∀ ts : List Tile, PyData.depthAll (tsD ts) ≤ 2
  | [] => Nat.zero_le _
  | a :: ts => by
    show max (PyData.depth (tD a)) (PyData.depthAll (tsD ts)) ≤ 2
    have h1 : PyData.depth (tD a) ≤ 2 := by
      simp [tD, PyData.depth, PyData.depthAll]
    exact Nat.max_le.mpr ⟨h1, depthAll_ts ts⟩
theorem shaped_sq {b : Bool} {ts : List Tile} (h : ∀ a ∈ ts, nOk a.nm) : SeqAt.shaped (sqD b (tsD ts)) = true := by
  have hd := depthAll_ts ts
  have hl := layAll_ts h
  cases b with
  | true =>
    unfold SeqAt.shaped
    rw [show (sqD true (tsD ts)).canLay0 = PyData.canLayAll0 (tsD ts) from rfl, hl]
    refine decide_eq_true ?_
    show PyData.depthAll (tsD ts) + 1 ≤ 64
    omega
  | false =>
    unfold SeqAt.shaped
    rw [show (sqD false (tsD ts)).canLay0 = PyData.canLayAll0 (tsD ts) from rfl, hl]
    refine decide_eq_true ?_
    show PyData.depthAll (tsD ts) + 1 ≤ 64
    omega
theorem eqvAll_ts : ∀ as bs : List Tile, PyData.eqvAll (tsD as) (tsD bs) = decide (as = bs)
  | [], [] => rfl
  | [], _ :: _ => rfl
  | _ :: _, [] => rfl
  | a :: as, b :: bs => by
    show (PyData.eqv (tD a) (tD b) && PyData.eqvAll (tsD as) (tsD bs)) = _
    rw [eqv_tile, eqvAll_ts as bs]
    by_cases h1 : a = b <;> by_cases h2 : as = bs <;> simp [h1, h2]
/-! ### comprehensions -/
section
variable {α : Type} {Γ : Fns} {ρ : Env0D} {it : CI} {e : α → D} {l : List α} {i : Nat}
/-- [x for x in it if c] -/
theorem ev_fil {cond : C} {q : α → Bool} (h1 : evI Γ it ρ = .ok (l.map e)) (hc : ∀ a ∈ l, ev Γ cond ((ρ.set i none).set i (some (e a))) = .ok (.bool (q a))) (hi : i < ρ.length) (hl : l.length ≤ 1000) : ev Γ (.lc (.var i) (.one i) it (.cons cond .nil)) ρ = .ok (.list ((l.filter q).map e)) := by
  refine ev_lc h1 (lcD_filter (q := q) fun a ha => ?_) (by rw [List.length_map]; exact Nat.le_trans (List.length_filter_le _ _) hl)
  have e1 : ((ρ.set i none).set i (some (e a)))[i]? = some (some (e a)) := List.getElem?_set_self (by rw [List.length_set]; exact hi)
  have e2 : ev Γ (.var i) ((ρ.set i none).set i (some (e a))) = .ok (e a) := by
    rw [ev, e1]
    rfl
  show ((evIfs Γ (.cons cond .nil) ((ρ.set i none).set i (some (e a)))).bind fun b => if b = true then (ev Γ (.var i) ((ρ.set i none).set i (some (e a)))).bind fun y => Res.ok (some y) else Res.ok none).calm = _
  rw [evIfs, hc a ha, e2]
  cases q a <;> rfl
/-- [f(x) for x in it] -/
theorem ev_map {elt : C} {g : α → D} (h1 : evI Γ it ρ = .ok (l.map e)) (hc : ∀ a ∈ l, ev Γ elt ((ρ.set i none).set i (some (e a))) = .ok (g a)) (hl : l.length ≤ 1000) : ev Γ (.lc elt (.one i) it .nil) ρ = .ok (.list (l.map g)) := by
  refine ev_lc h1 (lcD_mapM fun a ha => ?_) (by rw [List.length_map]; exact hl)
  show ((evIfs Γ .nil ((ρ.set i none).set i (some (e a)))).bind fun b => if b = true then (ev Γ elt ((ρ.set i none).set i (some (e a)))).bind fun y => Res.ok (some y) else Res.ok none).calm = _
  rw [evIfs, hc a ha]
  rfl
theorem lcD_fm {f : D → Res (Option D)} {e g : α → D} {q : α → Bool} : ∀ {l : List α}, (∀ a ∈ l, f (e a) = .ok (if q a = true then some (g a) else none)) → lcD f (l.map e) = .ok ((l.filter q).map g)
  | [], _ => rfl
  | a :: l, h => by
    rw [List.map_cons, lcD, h a List.mem_cons_self, lcD_fm fun b hb => h b (List.mem_cons_of_mem _ hb)]
    by_cases hq : q a = true
    · rw [List.filter_cons_of_pos hq, if_pos hq]
      rfl
    · rw [List.filter_cons_of_neg hq, if_neg hq]
      rfl
/-- [f(x) for x in it if c] -/
theorem ev_fm {elt cond : C} {q : α → Bool} {g : α → D} (h1 : evI Γ it ρ = .ok (l.map e)) (hc : ∀ a ∈ l, ev Γ cond ((ρ.set i none).set i (some (e a))) = .ok (.bool (q a))) (hg : ∀ a ∈ l, q a = true → ev Γ elt ((ρ.set i none).set i (some (e a))) = .ok (g a)) (hl : l.length ≤ 1000) : ev Γ (.lc elt (.one i) it (.cons cond .nil)) ρ = .ok (.list ((l.filter q).map g)) := by
  refine ev_lc h1 (lcD_fm (q := q) fun a ha => ?_) (by rw [List.length_map]; exact Nat.le_trans (List.length_filter_le _ _) hl)
  show ((evIfs Γ (.cons cond .nil) ((ρ.set i none).set i (some (e a)))).bind fun b => if b = true then (ev Γ elt ((ρ.set i none).set i (some (e a)))).bind fun y => Res.ok (some y) else Res.ok none).calm = _
  rw [evIfs, hc a ha]
  cases hq : q a with
  | true =>
    rw [hg a ha hq]
    rfl
  | false => rfl
end
/-! ### and, or -/
section
variable {Γ : Fns} {ρ : Env0D} {a b : C} {es : Cs} {x y : Bool}
theorem evAnd_one (h : ev Γ a ρ = .ok (.bool x)) : evAnd Γ (.cons a .nil) ρ = .ok (.bool x) := h
theorem evAnd_cons (h1 : ev Γ a ρ = .ok (.bool x)) (h2 : x = true → evAnd Γ (.cons b es) ρ = .ok (.bool y)) : evAnd Γ (.cons a (.cons b es)) ρ = .ok (.bool (x && y)) := by
  rw [evAnd, h1]
  show (if x = true then evAnd Γ (.cons b es) ρ else Res.ok (.bool x)) = _
  cases x with
  | true => rw [if_pos rfl, h2 rfl]; rfl
  | false => rfl
theorem evOr_one (h : ev Γ a ρ = .ok (.bool x)) : evOr Γ (.cons a .nil) ρ = .ok (.bool x) := h
theorem evOr_cons (h1 : ev Γ a ρ = .ok (.bool x)) (h2 : x = false → evOr Γ (.cons b es) ρ = .ok (.bool y)) : evOr Γ (.cons a (.cons b es)) ρ = .ok (.bool (x || y)) := by
  rw [evOr, h1]
  show (if x = true then Res.ok (.bool x) else evOr Γ (.cons b es) ρ) = _
  cases x with
  | true => rfl
  | false => rw [if_neg (by decide), h2 rfl]; rfl
theorem ev_and (h : evAnd Γ es ρ = .ok (.bool x)) : ev Γ (.and es) ρ = .ok (.bool x) := by
  rw [ev]
  exact h
theorem ev_or (h : evOr Γ es ρ = .ok (.bool x)) : ev Γ (.or es) ρ = .ok (.bool x) := by
  rw [ev]
  exact h
theorem ev_and2 (h1 : ev Γ a ρ = .ok (.bool x)) (h2 : x = true → ev Γ b ρ = .ok (.bool y)) : ev Γ (.and (.cons a (.cons b .nil))) ρ = .ok (.bool (x && y)) := ev_and (evAnd_cons h1 fun z => evAnd_one (h2 z))
theorem ev_or2 (h1 : ev Γ a ρ = .ok (.bool x)) (h2 : x = false → ev Γ b ρ = .ok (.bool y)) : ev Γ (.or (.cons a (.cons b .nil))) ρ = .ok (.bool (x || y)) := ev_or (evOr_cons h1 fun z => evOr_one (h2 z))
end
/-! ### loops -/
theorem forD_search {α : Type} {b : D → EnvS → Fl} {e r : α → D} {q : α → Bool} {mk : Sl → EnvS} : ∀ {l : List α}, (∀ a ∈ l, ∀ x, b (e a) (mk x) = if q a = true then .rt (r a) else .nx (mk (.val (e a)))) → ∀ x, ∃ x', forD b (l.map e) (mk x) = match l.find? q with
    | some a => .rt (r a)
    | none => .nx (mk x')
  | [], _, x => ⟨x, rfl⟩
  | a :: l, h, x => by
    rw [List.map_cons, forD, h a List.mem_cons_self x]
    by_cases hq : q a = true
    · rw [if_pos hq, List.find?_cons_of_pos hq]
      exact ⟨x, rfl⟩
    · rw [if_neg hq, List.find?_cons_of_neg hq]
      exact forD_search (fun a ha => h a (List.mem_cons_of_mem _ ha)) _
/-- a loop that goes on: the state by f, what is left over by whatever -/
theorem forD_fold {α S γ : Type} {b : D → EnvS → Fl} {e : α → D} {f : S → α → S} {mk : S → γ → EnvS} {I : S → List α → Prop} : ∀ {l : List α}, (∀ a r s x, I s (a :: r) → (a :: r) <:+ l → I (f s a) r ∧ ∃ x', b (e a) (mk s x) = .nx (mk (f s a) x')) → ∀ s x, I s l → ∃ x', forD b (l.map e) (mk s x) = .nx (mk (l.foldl f s) x')
  | [], _, s, x, _ => ⟨x, rfl⟩
  | a :: l, h, s, x, hI => by
    obtain ⟨h1, x', h2⟩ := h a l s x hI (List.suffix_refl _)
    rw [List.map_cons, forD, h2, fl_nx, List.foldl_cons]
    exact forD_fold (I := I) (fun a r s x hi hs => h a r s x hi (hs.trans (List.suffix_cons _ _))) _ _ h1
end Tl
set_option maxHeartbeats 4000000
namespace Tl
open PySem PySem.Spec L2
/-! ### tile_of, others, loose -/
def dom_tn (p : List Tile × Str) : List D := [.tuple (tsD p.1), .str p.2]
theorem dom_tn_inj (p q : List Tile × Str) (h : dom_tn p = dom_tn q) : p = q := by
  obtain ⟨a, b⟩ := p
  obtain ⟨c, d⟩ := q
  simp only [dom_tn, List.cons.injEq, PyData.tuple.injEq, PyData.str.injEq] at h
  rw [tsD_inj h.1, h.2.1]
def hasN (nm : Str) (a : Tile) : Bool := decide (a.nm = nm)
def gP (p : List Tile × Str) : Prop := gL 900 p.1 ∧ nOk p.2
open Classical in
noncomputable def tile_ofF (p : List Tile × Str) : Res D := if gP p then (match p.1.find? (hasN p.2) with
  | some a => .ok (tD a)
  | none => .exc "NoTile") else .stuck
noncomputable def tile_ofS : List D → Res D := spec dom_tn tile_ofF
theorem stuck_g {r : Fl} : Gives .stuck r := trivial
theorem run_tile_of (Γ : Fns) (p : List Tile × Str) : ∃ fuel, Gives (tile_ofF p) (exSs Γ fuel c_tile_of (startS N_tile_of (dom_tn p))) := by
  refine ⟨0, ?_⟩
  unfold tile_ofF
  by_cases h : gP p
  · rw [if_pos h]
    obtain ⟨ts, nm⟩ := p
    have e0 : startS N_tile_of (dom_tn (ts, nm)) = [.val (.tuple (tsD ts)), .val (.str nm), .no] := by simp [N_tile_of, startS, dom_tn]
    rw [e0, c_tile_of, x_for (ds := tsD ts) (by simp [evI, ev])]
    obtain ⟨x', e⟩ := forD_search (b := forB Γ 0 (.one 2) (.cons (.iff (.cmp .eq (.ix (.var 2) (.int 0)) (.var 1)) (.cons (.ret (.var 2)) .nil) .nil) .nil)) (e := tD) (r := tD) (q := hasN nm) (mk := fun x => [.val (.tuple (tsD ts)), .val (.str nm), x]) (l := ts) (fun a ha x => by
      have z : cmpD .eq (.str a.nm) (.str nm) = _ := cm_eqS (h.1.ok a ha).2 h.2
      show exSs Γ 0 _ [.val (.tuple (tsD ts)), .val (.str nm), .val (tD a)] = _
      simp [exSs, exS, evT, evE, ev, z, hasN]
      by_cases q : a.nm = nm <;> simp [q]) .no
    have e1 : freezeM (vsI (.seq (.var 0))) [.val (.tuple (tsD ts)), .val (.str nm), .no] = [.val (.tuple (tsD ts)), .val (.str nm), .no] := by simp [vsI, vsC]
    rw [e1]
    show Gives _ ((forD _ (ts.map tD) _).bind _)
    rw [e]
    cases q : ts.find? (hasN nm) with
    | some a => exact .inl rfl
    | none => exact ⟨_, rfl⟩
  · rw [if_neg h]
    trivial
def otT (ts : List Tile) (nm : Str) : List Tile := ts.filter fun a => decide (a.nm ≠ nm)
open Classical in
noncomputable def othersF (p : List Tile × Str) : Res D := if gP p then .ok (.tuple (tsD (otT p.1 p.2))) else .stuck
noncomputable def othersS : List D → Res D := spec dom_tn othersF
theorem run_others (Γ : Fns) (p : List Tile × Str) : ∃ fuel, Gives (othersF p) (exSs Γ fuel c_others (startS N_others (dom_tn p))) := by
  refine ⟨0, ?_⟩
  unfold othersF
  by_cases h : gP p
  · rw [if_pos h]
    obtain ⟨ts, nm⟩ := p
    refine .inl (x_ret (ev_pr1 (ev_fil (e := tD) (l := ts) (q := fun a => decide (a.nm ≠ nm)) ?_ (fun a ha => ?_) ?_ (h.1.le (by decide))) rfl))
    · simp [N_others, startS, dom_tn, evI, ev, tsD]
    · have z := cm_neS (h.1.ok a ha).2 h.2
      simp [N_others, startS, dom_tn, ev, z]
    · simp [N_others, startS, dom_tn]
  · rw [if_neg h]
    trivial
open Classical in
noncomputable def looseF (p : List Tile × Str) : Res D := if gP p then (match p.1.find? (hasN p.2) with
  | some a => if a.fx = true then .exc "Fixed" else .ok (tD a)
  | none => .exc "NoTile") else .stuck
noncomputable def looseS : List D → Res D := spec dom_tn looseF
theorem x_setX {Γ : Fns} {n i : Nat} {c : C} {ρ : EnvS} {ss : Ss} {x : Str} (h : ev Γ c (seeM (vsC c) ρ) = .exc x) : exSs Γ n (.cons (.set i c) ss) ρ = .exc x ρ := by
  rw [exSs, exS, evE, h]
  rfl
theorem run_loose (Γ : Fns) (ht : Γ "tile_of" = some (2, tile_ofS)) (p : List Tile × Str) : ∃ fuel, Gives (looseF p) (exSs Γ fuel c_loose (startS N_loose (dom_tn p))) := by
  refine ⟨0, ?_⟩
  unfold looseF
  by_cases h : gP p
  · rw [if_pos h]
    obtain ⟨ts, nm⟩ := p
    have e0 : startS N_loose (dom_tn (ts, nm)) = [.val (.tuple (tsD ts)), .val (.str nm), .no] := by simp [N_loose, startS, dom_tn]
    have e1 := fun m => ev_call (a := .var 0) (es := .cons (.var 1) .nil) (ρ := seeM m [.val (.tuple (tsD ts)), .val (.str nm), .no]) ht dom_tn_inj (ts, nm) (d := .tuple (tsD ts)) (ds := [.str nm]) (by simp [ev]) (by simp [ev, evs]) rfl rfl
    unfold tile_ofF at e1
    rw [e0, c_loose]
    cases q : ts.find? (hasN nm) with
    | some a =>
      simp only [if_pos h, q] at e1
      rw [x_set (e1 _) rfl]
      show Gives (if a.fx = true then .exc "Fixed" else .ok (tD a)) (exSs Γ 0 _ [.val (.tuple (tsD ts)), .val (.str nm), .val (tD a)])
      cases hf : a.fx with
      | true =>
        refine ⟨[.val (.tuple (tsD ts)), .val (.str nm), .val (tD a)], ?_⟩
        simp [exSs, exS, evT, ev, hf]
      | false =>
        refine .inl ?_
        simp [exSs, exS, evT, evE, ev, hf]
    | none =>
      simp only [if_pos h, q] at e1
      rw [x_setX (e1 _)]
      exact ⟨_, rfl⟩
  · rw [if_neg h]
    trivial
/-! ### raised -/
def upF : Nat → List Tile → Tile → Tile
  | 0, _, a => a
  | n + 1, ts, a => if 0 < a.t ∧ anyM { a with t := a.t - 1 } ts = false then upF n ts { a with t := a.t - 1 } else a
def rais (ts : List Tile) (a : Tile) : Tile := upF a.t.toNat ts a
theorem upF_gN {ts : List Tile} : ∀ {n : Nat} {a : Tile}, gN a → gN (upF n ts a)
  | 0, _, h => h
  | n + 1, a, h => by
    rw [upF]
    split
    · exact upF_gN (n := n) (h.at _)
    · exact h
theorem rais_gN {ts : List Tile} {a : Tile} (h : gN a) : gN (rais ts a) := upF_gN h
theorem up_loop {Γ : Fns} {t : C} {b : Ss} {fuel : Nat} {ts : List Tile} {S : D} (P : Tile → Prop) (hP : ∀ a, P a → P { a with t := a.t - 1 }) (ht : ∀ a : Tile, P a → ∀ m, ev Γ t (seeM m [.val (tD a), .val S]) = .ok (.bool (decide (0 < a.t) && !anyM { a with t := a.t - 1 } ts)))
    (hb : ∀ a : Tile, exSs Γ fuel b [.val (tD a), .val S] = .nx [.val (tD { a with t := a.t - 1 }), .val S]) :
    ∀ (n : Nat) (a : Tile), P a → a.t.toNat ≤ n → whlD (fun ρ f => evT Γ t ρ f) (fun ρ => exSs Γ fuel b ρ) (n + 1) [.val (tD a), .val S] = .nx [.val (tD (upF n ts a)), .val S]
  | 0, a, hp, h => by
    rw [whlD, evT_of (ht a hp _) rfl, if_neg (by simp; omega)]
    rfl
  | n + 1, a, hp, h => by
    rw [whlD, evT_of (ht a hp _) rfl, upF]
    by_cases q : 0 < a.t ∧ anyM { a with t := a.t - 1 } ts = false
    · rw [if_pos q, if_pos (by simp [q]), hb a, fl_nx]
      exact up_loop P hP ht hb n _ (hP a hp) (by show (a.t - 1).toNat ≤ n; omega)
    · rw [if_neg q, if_neg (by
        intro z
        rw [Bool.and_eq_true, decide_eq_true_eq, Bool.not_eq_true'] at z
        exact q z)]
open Classical in
noncomputable def raisedF (p : Tile × List Tile × Bool) : Res D := if gL 900 p.2.1 then .ok (tD (rais p.2.1 p.1)) else .stuck
noncomputable def raisedS : List D → Res D := spec dom_tl raisedF
theorem run_raised (Γ : Fns) (hm : Γ "meets_none" = some (2, meets_noneS)) (ha : Γ "at_row" = some (2, at_rowS)) (p : Tile × List Tile × Bool) : ∃ fuel, Gives (raisedF p) (exSs Γ fuel c_raised (startS N_raised (dom_tl p))) := by
  obtain ⟨a, ts, bb⟩ := p
  refine ⟨a.t.toNat + 1, ?_⟩
  unfold raisedF
  by_cases h : gL 900 ts
  · rw [if_pos h]
    refine .inl ?_
    have hl := h.le (by decide)
    have e0 : startS N_raised (dom_tl (a, ts, bb)) = [.val (tD a), .val (sqD bb (tsD ts))] := by simp [N_raised, startS, dom_tl]
    have ar : ∀ (a : Tile) m, ev Γ (.call "at_row" (.var 0) (.cons (.op .sub (.ix (.var 0) (.int 2)) (.int 1)) .nil)) (seeM m [.val (tD a), .val (sqD bb (tsD ts))]) = .ok (tD { a with t := a.t - 1 }) := fun a m =>
      ev_call ha dom_at_inj (a, a.t - 1) (d := tD a) (ds := [.int (a.t - 1)]) (by simp [ev]) (by simp [ev, evs]) rfl rfl
    rw [e0, c_raised, x_whl, up_loop (ts := ts) (fun _ => True) (fun _ _ => trivial) (fun a _ m => ?_) (fun a => ?_) _ _ trivial (Nat.le_refl _)]
    · rw [fl_nx]
      refine x_ret ?_
      simp [ev, rais]
    · have mn := ev_call (es := .cons (.var 1) .nil) hm dom_tl_inj ({ a with t := a.t - 1 }, ts, bb) (ds := [sqD bb (tsD ts)]) (ar a m) (by simp [ev, evs]) rfl rfl
      rw [if_pos (show ts.length ≤ 1000 from hl)] at mn
      exact ev_and2 (by simp [ev]) fun _ => mn
    · rw [x_set (ar a _) rfl]
      rfl
  · rw [if_neg h]
    trivial
end Tl
set_option maxHeartbeats 4000000
namespace Tl
open PySem PySem.Spec L2
/-! ### sorting is one -/
theorem kx_str {x y : Str} (h : kx (.str x) = kx (.str y)) : x = y := by
  obtain ⟨⟨a⟩⟩ := x
  obtain ⟨⟨b⟩⟩ := y
  have e : a = b := by
    have h' : a.map (fun (n : Nat) => (n : Int)) = b.map (fun (n : Nat) => (n : Int)) := h
    exact (List.map_inj_right fun _ _ z => Int.ofNat.inj z).mp h'
  rw [e]
theorem key_tile {a b : Tile} (h : keyOf (tD a) = keyOf (tD b)) : a = b := by
  obtain ⟨n1, l1, t1, w1, h1, f1⟩ := a
  obtain ⟨n2, l2, t2, w2, h2, f2⟩ := b
  have h' : [kx (.str n1), [l1], [t1], [w1], [h1], [if f1 then (1 : Int) else 0]] = [kx (.str n2), [l2], [t2], [w2], [h2], [if f2 then (1 : Int) else 0]] := h
  simp only [List.cons.injEq, and_true] at h'
  obtain ⟨k1, k2, k3, k4, k5, k6⟩ := h'
  have e6 : f1 = f2 := by cases f1 <;> cases f2 <;> simp_all
  rw [kx_str k1, k2, k3, k4, k5, e6]
theorem ltT_tri {a b : Tile} (h1 : ltT a b = false) (h2 : ltT b a = false) : a = b := key_tile (lexK_tri _ _ h1 h2)
theorem swo_ltT : SrtO.Swo ltT := swo_by fun a => keyOf (tD a)
theorem swo_ltO : SrtO.Swo ltO := swo_by fun a => keyOf (kk a)
theorem perm_const {α : Type} {l m : List α} {x : α} (p : l.Perm m) (h : ∀ a ∈ l, a = x) : l = m := by
  rw [List.eq_replicate_of_mem h, List.eq_replicate_of_mem fun a ha => h a (p.mem_iff.mpr ha), p.length_eq]
theorem isort_eq {α : Type} {lt : α → α → Bool} (O : SrtO.Swo lt) (tri : ∀ a b, lt a b = false → lt b a = false → a = b) {l m : List α} (p : l.Perm m) : isort lt l = isort lt m := by
  refine isort_uniq O (isort_srtd O l) ⟨(isort_perm lt l).trans p, fun x => ?_⟩
  refine perm_const (x := x) (((isort_perm lt l).trans p).filter _) fun a ha => ?_
  obtain ⟨h1, h2⟩ := SrtO.eqv_iff.mp (List.mem_filter.mp ha).2
  exact (tri x a h1 h2).symm
theorem srtT_eq {l m : List Tile} (p : l.Perm m) : srtT l = srtT m := isort_eq swo_ltT (fun _ _ => ltT_tri) p
theorem srtT_idem (l : List Tile) : srtT (srtT l) = srtT l := srtT_eq (srtT_perm l)
/-- out and in again -/
theorem otT_perm {ts : List Tile} (nd : (ts.map Tile.nm).Nodup) {a : Tile} (ha : a ∈ ts) : (otT ts a.nm ++ [a]).Perm ts := by
  induction ts with
  | nil => cases ha
  | cons b ts ih =>
    rw [List.map_cons, List.nodup_cons] at nd
    by_cases e : b.nm = a.nm
    · have hba : b = a := by
        rcases List.mem_cons.mp ha with h | h
        · exact h.symm
        · exact absurd (by rw [e]; exact List.mem_map_of_mem h) nd.1
      subst hba
      have e2 : otT (b :: ts) b.nm = ts := by
        unfold otT
        rw [List.filter_cons_of_neg (by simp)]
        refine List.filter_eq_self.mpr fun c hc => ?_
        refine decide_eq_true fun z => nd.1 ?_
        rw [← z]
        exact List.mem_map_of_mem hc
      rw [e2]
      exact List.perm_append_comm.trans (List.Perm.refl _)
    · have ha' : a ∈ ts := by
        rcases List.mem_cons.mp ha with h | h
        · exact absurd (by rw [h]) e
        · exact h
      have e2 : otT (b :: ts) a.nm = b :: otT ts a.nm := by
        unfold otT
        rw [List.filter_cons_of_pos (by simpa using e)]
      rw [e2, List.cons_append]
      exact List.Perm.cons b (ih nd.2 ha')
theorem upF_nm {ts : List Tile} : ∀ {n : Nat} {a : Tile}, (upF n ts a).nm = a.nm
  | 0, _ => rfl
  | n + 1, a => by
    rw [upF]
    split
    · exact upF_nm (n := n) (a := { a with t := a.t - 1 })
    · rfl
theorem rais_nm {ts : List Tile} {a : Tile} : (rais ts a).nm = a.nm := upF_nm
theorem uniq_nm {ts : List Tile} (nd : (ts.map Tile.nm).Nodup) {a b : Tile} (ha : a ∈ ts) (hb : b ∈ ts) (h : a.nm = b.nm) : a = b := by
  induction ts with
  | nil => cases ha
  | cons c ts ih =>
    rw [List.map_cons, List.nodup_cons] at nd
    rcases List.mem_cons.mp ha with h1 | h1 <;> rcases List.mem_cons.mp hb with h2 | h2
    · rw [h1, h2]
    · exact absurd (by rw [← h1, h]; exact List.mem_map_of_mem h2) nd.1
    · exact absurd (by rw [← h2, ← h]; exact List.mem_map_of_mem h1) nd.1
    · exact ih nd.2 h1 h2
/-- a tile put in again is the layout just if it is the same tile -/
theorem put_same {ts : List Tile} (nd : (ts.map Tile.nm).Nodup) (hs : srtT ts = ts) {a b : Tile} (ha : a ∈ ts) (hb : b.nm = a.nm) : srtT (otT ts a.nm ++ [b]) = ts ↔ b = a := by
  constructor
  · intro h
    have hb' : b ∈ ts := by
      rw [← h]
      exact (srtT_perm _).mem_iff.mpr (List.mem_append_right _ List.mem_cons_self)
    exact uniq_nm nd hb' ha hb
  · rintro rfl
    rw [srtT_eq (otT_perm nd ha), hs]
theorem find_filter {α : Type} (q : α → Bool) : ∀ l : List α, (l.filter q).head? = l.find? q
  | [] => rfl
  | a :: l => by
    by_cases h : q a = true
    · rw [List.filter_cons_of_pos h, List.find?_cons_of_pos h]
      rfl
    · rw [List.filter_cons_of_neg h, List.find?_cons_of_neg h]
      exact find_filter q l
end Tl
set_option maxHeartbeats 4000000
namespace Tl
open PySem PySem.Spec L2
theorem pureTs : ∀ l : List Tile, pureA (tsD l) = true
  | [] => rfl
  | a :: l => by
    show (pure_ (tD a) && pureA (tsD l)) = true
    rw [pureTs l]
    rfl
@[simp] theorem pure_tts (l : List Tile) : pure_ (.tuple (tsD l)) = true := pureTs l
theorem srtV_sq {b : Bool} {ts : List Tile} (h : ts.length ≤ 1000) : srtV [sqD b (tsD ts)] = some (.list (tsD (srtT ts))) := by
  show (seqsD (sqD b (tsD ts))).bind _ = _
  rw [seqs_sqD]
  exact srtV_ts h
theorem x_setO {Γ : Fns} {n i : Nat} {c : C} {ρ : EnvS} {ss : Ss} {ds : List D} (h : ev Γ c (seeP ρ) = .ok (.list ds)) (hp : pureA ds = true) : exSs Γ n (.cons (.setO i c) ss) ρ = exSs Γ n ss (ρ.set i (.own ds)) := by
  rw [exSs, exS, h, setOS, if_pos hp]
  rfl
@[simp] theorem tsD_snoc (ts : List Tile) (a : Tile) : tsD ts ++ [tD a] = tsD (ts ++ [a]) := by simp [tsD]
/-! ### slid -/
def slidT (ts : List Tile) (a : Tile) : List Tile := srtT (otT ts a.nm ++ [rais (otT ts a.nm) a])
open Classical in
noncomputable def slidF (p : List Tile × Str) : Res D := if gP p then (match p.1.find? (hasN p.2) with
  | some a => if a.fx = true then .exc "Fixed" else .ok (.tuple (tsD (slidT p.1 a)))
  | none => .exc "NoTile") else .stuck
noncomputable def slidS : List D → Res D := spec dom_tn slidF
theorem find_nm {ts : List Tile} {nm : Str} {a : Tile} (h : ts.find? (hasN nm) = some a) : a.nm = nm ∧ a ∈ ts := ⟨of_decide_eq_true (List.find?_some (p := hasN nm) h), List.mem_of_find?_eq_some h⟩
theorem run_slid (Γ : Fns) (hl : Γ "loose" = some (2, looseS)) (ho : Γ "others" = some (2, othersS)) (hr : Γ "raised" = some (2, raisedS)) (p : List Tile × Str) : ∃ fuel, Gives (slidF p) (exSs Γ fuel c_slid (startS N_slid (dom_tn p))) := by
  refine ⟨0, ?_⟩
  unfold slidF
  by_cases h : gP p
  · rw [if_pos h]
    obtain ⟨ts, nm⟩ := p
    have e0 : startS N_slid (dom_tn (ts, nm)) = [.val (.tuple (tsD ts)), .val (.str nm), .no, .no] := by simp [N_slid, startS, dom_tn]
    have e1 := fun m => ev_call (a := .var 0) (es := .cons (.var 1) .nil) (ρ := seeM m [.val (.tuple (tsD ts)), .val (.str nm), .no, .no]) hl dom_tn_inj (ts, nm) (d := .tuple (tsD ts)) (ds := [.str nm]) (by simp [ev]) (by simp [ev, evs]) rfl rfl
    unfold looseF at e1
    rw [e0, c_slid]
    cases q : ts.find? (hasN nm) with
    | none =>
      simp only [if_pos h, q] at e1
      rw [x_setX (e1 _)]
      exact ⟨_, rfl⟩
    | some a =>
      simp only [if_pos h, q] at e1
      show Gives (if a.fx = true then .exc "Fixed" else .ok (.tuple (tsD (slidT ts a)))) _
      cases hf : a.fx with
      | true =>
        simp only [hf, if_true] at e1
        rw [x_setX (e1 _)]
        exact ⟨_, rfl⟩
      | false =>
        simp only [hf, Bool.false_eq_true, if_false] at e1
        obtain ⟨q1, q2⟩ := find_nm q
        have ga := h.1.ok a q2
        have go := h.1.filter fun b => decide (b.nm ≠ nm)
        rw [x_set (e1 _) rfl]
        show Gives (.ok (.tuple (tsD (slidT ts a)))) (exSs Γ 0 _ [.val (.tuple (tsD ts)), .val (.str nm), .val (tD a), .no])
        have e2 := fun m => ev_call (a := .var 0) (es := .cons (.var 1) .nil) (ρ := seeM m [.val (.tuple (tsD ts)), .val (.str nm), .val (tD a), .no]) ho dom_tn_inj (ts, nm) (d := .tuple (tsD ts)) (ds := [.str nm]) (by simp [ev]) (by simp [ev, evs]) rfl rfl
        unfold othersF at e2
        simp only [if_pos h] at e2
        rw [x_set (e2 _) (pure_tts _)]
        show Gives (.ok (.tuple (tsD (slidT ts a)))) (exSs Γ 0 _ [.val (.tuple (tsD ts)), .val (.str nm), .val (tD a), .val (.tuple (tsD (otT ts nm)))])
        have e3 := fun m => ev_call (a := .var 2) (es := .cons (.var 3) .nil) (ρ := seeM m [.val (.tuple (tsD ts)), .val (.str nm), .val (tD a), .val (.tuple (tsD (otT ts nm)))]) hr dom_tl_inj (a, otT ts nm, false) (d := tD a) (ds := [.tuple (tsD (otT ts nm))]) (by simp [ev]) (by simp [ev, evs]) rfl rfl
        unfold raisedF at e3
        simp only [if_pos (show gL 900 (otT ts nm) from go)] at e3
        have ll : (otT ts nm ++ [rais (otT ts nm) a]).length ≤ 1000 := (go.snoc (rais_gN ga)).le (by decide)
        refine .inl (x_ret (ev_pr1 (ev_srt (d := sqD false (tsD (otT ts nm ++ [rais (otT ts nm) a]))) (ev_op (d := .tuple (tsD (otT ts nm))) (e := .tuple [tD (rais (otT ts nm) a)]) ?_ (ev_tup (evs_cons (e3 _) evs_nil) (by simp)) ?_) (srtV_sq ll)) ?_))
        · simp [ev]
        · rw [op_tups, gd_of (sz_true ?_), tsD_snoc]
          · rfl
          · rw [tsD_len, List.length_singleton]
            rw [List.length_append, List.length_singleton] at ll
            exact ll
        · rw [slidT, q1]
          rfl
  · rw [if_neg h]
    trivial
/-! ### packed -/
def pkS (acc : List Tile) (a : Tile) : List Tile := if a.fx = true then acc else acc ++ [rais acc a]
def packT (ts : List Tile) : List Tile := srtT ((ordT ts).foldl pkS (ts.filter Tile.fx))
theorem pkS_len (acc : List Tile) (a : Tile) : (pkS acc a).length ≤ acc.length + 1 := by
  unfold pkS
  split
  · omega
  · rw [List.length_append, List.length_singleton]
    omega
theorem pkS_gN {acc : List Tile} {a : Tile} (h : ∀ b ∈ acc, gN b) (ha : gN a) : ∀ b ∈ pkS acc a, gN b := by
  unfold pkS
  split
  · exact h
  · intro b hb
    rcases List.mem_append.mp hb with hb | hb
    · exact h b hb
    · rw [List.mem_singleton.mp hb]
      exact rais_gN ha
/-- between two turns -/
structure PkI (acc r : List Tile) : Prop where
  len : acc.length + r.length ≤ 900
  acc : ∀ a ∈ acc, gN a
  rest : ∀ a ∈ r, gN a
theorem PkI.next {acc r : List Tile} {a : Tile} (h : PkI acc (a :: r)) : PkI (pkS acc a) r := by
  have z := pkS_len acc a
  have z2 := h.len
  rw [List.length_cons] at z2
  exact ⟨by omega, pkS_gN h.acc (h.rest a List.mem_cons_self), fun b hb => h.rest b (List.mem_cons_of_mem _ hb)⟩
theorem PkI.end_ : ∀ {r acc : List Tile}, PkI acc r → PkI (r.foldl pkS acc) []
  | [], _, h => h
  | a :: r, acc, h => PkI.end_ (r := r) (acc := pkS acc a) h.next
theorem PkI.gL {acc r : List Tile} (h : PkI acc r) : gL 900 acc := ⟨by have := h.len; omega, h.acc⟩
theorem packI {ts : List Tile} (h : gL 400 ts) : PkI (ts.filter Tile.fx) (ordT ts) := by
  have h1 := (h.filter Tile.fx).len
  have h2 := h.ord.len
  exact ⟨by omega, (h.filter _).ok, h.ord.ok⟩
theorem packT_gL {ts : List Tile} (h : gL 400 ts) : Tl.gL 900 (packT ts) := (packI h).end_.gL.srt
/-- the loop of packed, and of _law_packed -/
theorem pk_loop {Γ : Fns} {fuel : Nat} {ts : List Tile} {f : Str} (hr : ∀ (a : Tile) (acc : List Tile) (ρ : Env0D), gN a → gL 900 acc → ev Γ (.var 2) ρ = .ok (tD a) → ev Γ (.var 1) ρ = .ok (.list (tsD acc)) → ev Γ (.call f (.var 2) (.cons (.var 1) .nil)) ρ = .ok (tD (rais acc a))) {l acc : List Tile} (h : PkI acc l) (x : Sl) :
    ∃ x', forD (forB Γ fuel (.one 2) (.cons (.iff (.not (.ix (.var 2) (.int 5))) (.cons (.app 1 (.call f (.var 2) (.cons (.var 1) .nil))) .nil) .nil) .nil)) (tsD l) [.val (.tuple (tsD ts)), .own (tsD acc), x] = .nx [.val (.tuple (tsD ts)), .own (tsD (l.foldl pkS acc)), x'] := by
  refine forD_fold (e := tD) (f := pkS) (mk := fun acc x => [.val (.tuple (tsD ts)), .own (tsD acc), x]) (I := PkI) (fun a r s x hi _ => ⟨hi.next, .val (tD a), ?_⟩) acc x h
  show exSs Γ fuel _ [.val (.tuple (tsD ts)), .own (tsD s), .val (tD a)] = _
  have e1 : ev Γ (.not (.ix (.var 2) (.int 5))) (seeM (vsC (.not (.ix (.var 2) (.int 5)))) [.val (.tuple (tsD ts)), .own (tsD s), .val (tD a)]) = .ok (.bool (!a.fx)) := ev_not (d := .bool a.fx) (by simp [ev]) rfl
  rw [x_iff e1 rfl]
  cases hf : a.fx with
  | true =>
    rw [if_neg (by decide), x_nil, fl_nx, x_nil, pkS, if_pos hf]
  | false =>
    rw [if_pos (by rfl), x_app (ds := tsD s) (d := tD (rais s a)) rfl (hr a s _ (hi.rest a List.mem_cons_self) hi.gL (by simp [ev]) (by simp [ev, vsC, vsCs])) rfl (by rw [tsD_len]; have := hi.len; rw [List.length_cons] at this; omega), x_nil, fl_nx, x_nil, pkS, if_neg (by rw [hf]; decide), tsD_snoc]
    rfl
open Classical in
noncomputable def packedF (ts : List Tile) : Res D := if gL 400 ts then .ok (.tuple (tsD (packT ts))) else .stuck
noncomputable def packedS : List D → Res D := spec dom_ts packedF
theorem pk_run {Γ : Fns} {f g : Str} (hb : Γ g = some (1, by_orderS)) (hr : ∀ (a : Tile) (acc : List Tile) (ρ : Env0D), gN a → gL 900 acc → ev Γ (.var 2) ρ = .ok (tD a) → ev Γ (.var 1) ρ = .ok (.list (tsD acc)) → ev Γ (.call f (.var 2) (.cons (.var 1) .nil)) ρ = .ok (tD (rais acc a))) {ts : List Tile} (h : gL 400 ts) :
    exSs Γ 0 (.cons (.setO 1 (.lc (.var 2) (.one 2) (.seq (.var 0)) (.cons (.ix (.var 2) (.int 5)) .nil))) (.cons (.for_ (.one 2) (.seq (.call g (.var 0) .nil)) (.cons (.iff (.not (.ix (.var 2) (.int 5))) (.cons (.app 1 (.call f (.var 2) (.cons (.var 1) .nil))) .nil) .nil) .nil)) (.cons (.ret (.pr .tuple (.srt (.var 1)) .nil)) .nil))) [.val (.tuple (tsD ts)), .no, .no] = .rt (.tuple (tsD (packT ts))) := by
  have hl := h.le (by decide)
  have e1 : ev Γ (.lc (.var 2) (.one 2) (.seq (.var 0)) (.cons (.ix (.var 2) (.int 5)) .nil)) (seeP [.val (.tuple (tsD ts)), .no, .no]) = .ok (.list ((ts.filter Tile.fx).map tD)) := by
    have e0 : seeP [.val (.tuple (tsD ts)), .no, .no] = [some (.tuple (tsD ts)), none, none] := by simp [seeP, seeP1]
    rw [e0]
    exact ev_fil (e := tD) (l := ts) (q := Tile.fx) (by simp [evI, ev, tsD]) (fun a ha => by simp [ev]) (by simp) hl
  rw [x_setO e1 (pureTs _)]
  show exSs Γ 0 _ [.val (.tuple (tsD ts)), .own (tsD (ts.filter Tile.fx)), .no] = _
  rw [x_for (ds := tsD (ordT ts)) ?_]
  · have e2 : freezeM (vsI (.seq (.call g (.var 0) .nil))) [.val (.tuple (tsD ts)), .own (tsD (ts.filter Tile.fx)), .no] = [.val (.tuple (tsD ts)), .own (tsD (ts.filter Tile.fx)), .no] := by simp [vsI, vsC, vsCs]
    obtain ⟨x', e⟩ := pk_loop (Γ := Γ) (fuel := 0) (ts := ts) hr (packI h) .no
    rw [e2, e, fl_nx]
    refine x_ret (ev_pr1 (ev_srt (d := .list (tsD ((ordT ts).foldl pkS (ts.filter Tile.fx)))) ?_ (srtV_ts ((packI h).end_.gL.le (by decide)))) rfl)
    simp [ev, vsC, vsCs]
  · have e3 := ev_call (Γ := Γ) (a := .var 0) (es := .nil) (ρ := seeM (vsI (.seq (.call g (.var 0) .nil))) [.val (.tuple (tsD ts)), .own (tsD (ts.filter Tile.fx)), .no]) hb dom_sq_inj (ts, false) (d := .tuple (tsD ts)) (ds := []) (by simp [ev]) rfl rfl rfl
    rw [if_pos (show ts.length ≤ 1000 from hl)] at e3
    rw [evI, e3]
    rfl
theorem run_packed (Γ : Fns) (hb : Γ "by_order" = some (1, by_orderS)) (hr : Γ "raised" = some (2, raisedS)) (ts : List Tile) : ∃ fuel, Gives (packedF ts) (exSs Γ fuel c_packed (startS N_packed (dom_ts ts))) := by
  refine ⟨0, ?_⟩
  unfold packedF
  by_cases h : gL 400 ts
  · rw [if_pos h]
    have e0 : startS N_packed (dom_ts ts) = [.val (.tuple (tsD ts)), .no, .no] := by simp [N_packed, startS, dom_ts]
    rw [e0]
    refine .inl (pk_run hb (fun a acc ρ ga gacc h1 h2 => ?_) h)
    have z := ev_call (es := .cons (.var 1) .nil) hr dom_tl_inj (a, acc, true) (ds := [.list (tsD acc)]) h1 (evs_cons h2 evs_nil) rfl rfl
    rw [raisedF, if_pos gacc] at z
    exact z
  · rw [if_neg h]
    trivial
end Tl
set_option maxHeartbeats 4000000
namespace Tl
open PySem PySem.Spec L2
/-! ### is_packed -/
def pkd (ts : List Tile) (a : Tile) : Bool := a.fx || decide (rais (otT ts a.nm) a = a)
def isPk (ts : List Tile) : Bool := ts.all (pkd ts)
open Classical in
noncomputable def is_packedF (ts : List Tile) : Res D := if gL 400 ts then .ok (.bool (isPk ts)) else .stuck
noncomputable def is_packedS : List D → Res D := spec dom_ts is_packedF
theorem all_map {α : Type} (f : α → Bool) (l : List α) : (l.map f).all id = l.all f := by
  rw [List.all_map]
  rfl
theorem run_is_packed (Γ : Fns) (ho : Γ "others" = some (2, othersS)) (hr : Γ "raised" = some (2, raisedS)) (ts : List Tile) : ∃ fuel, Gives (is_packedF ts) (exSs Γ fuel c_is_packed (startS N_is_packed (dom_ts ts))) := by
  refine ⟨0, ?_⟩
  unfold is_packedF
  by_cases h : gL 400 ts
  · rw [if_pos h]
    have e0 : ∀ m, seeM m (startS N_is_packed (dom_ts ts)) = [some (.tuple (tsD ts)), none] := fun m => by simp [N_is_packed, startS, dom_ts]
    refine .inl (x_ret ?_)
    rw [e0]
    refine ev_pr1 (ev_map (e := tD) (l := ts) (g := fun a => .bool (pkd ts a)) (by simp [evI, ev, tsD]) (fun a ha => ?_) (h.le (by decide))) (by rw [pr_all, bools_map, Option.map_some, all_map]; rfl)
    show ev Γ _ [some (.tuple (tsD ts)), some (tD a)] = _
    have ga := h.ok a ha
    refine ev_or2 (x := a.fx) (by simp [ev]) fun _ => ?_
    have o1 := ev_call (a := .var 0) (es := .cons (.ix (.var 1) (.int 0)) .nil) (ρ := [some (.tuple (tsD ts)), some (tD a)]) ho dom_tn_inj (ts, a.nm) (d := .tuple (tsD ts)) (ds := [.str a.nm]) (by simp [ev]) (by simp [ev, evs]) rfl rfl
    rw [othersF, if_pos (show gP (ts, a.nm) from ⟨h.mono (by decide), ga.2⟩)] at o1
    have o2 := ev_call (a := .var 1) (es := .cons (.call "others" (.var 0) (.cons (.ix (.var 1) (.int 0)) .nil)) .nil) (ρ := [some (.tuple (tsD ts)), some (tD a)]) hr dom_tl_inj (a, otT ts a.nm, false) (d := tD a) (ds := [.tuple (tsD (otT ts a.nm))]) (by simp [ev]) (evs_cons o1 evs_nil) rfl rfl
    rw [raisedF, if_pos (show gL 900 (otT ts a.nm) from (h.filter _).mono (by decide))] at o2
    exact ev_cmp o2 (e := tD a) (by simp [ev]) (cm_eqT (by rw [rais_nm]; exact ga.2) ga.2)
  · rw [if_neg h]
    trivial
/-! ### the law's own -/
def byT (ts : List Tile) (nm : Str) : List Tile := ts.filter (hasN nm)
open Classical in
noncomputable def law_byF (p : List Tile × Str) : Res D := if gP p then .ok (.list (tsD (byT p.1 p.2))) else .stuck
noncomputable def law_byS : List D → Res D := spec dom_tn law_byF
theorem run_law_by (Γ : Fns) (p : List Tile × Str) : ∃ fuel, Gives (law_byF p) (exSs Γ fuel c__law_by (startS N__law_by (dom_tn p))) := by
  refine ⟨0, ?_⟩
  unfold law_byF
  by_cases h : gP p
  · rw [if_pos h]
    obtain ⟨ts, nm⟩ := p
    refine .inl (x_ret (ev_fil (e := tD) (l := ts) (q := hasN nm) ?_ (fun a ha => ?_) ?_ (h.1.le (by decide))))
    · simp [N__law_by, startS, dom_tn, evI, ev, tsD]
    · have z : cmpD .eq (.str a.nm) (.str nm) = _ := cm_eqS (h.1.ok a ha).2 h.2
      simp [N__law_by, startS, dom_tn, ev, z, hasN]
    · simp [N__law_by, startS, dom_tn]
  · rw [if_neg h]
    trivial
/-- t[:2] + (v,) + t[3:] -/
theorem ev_atrow {Γ : Fns} {ρ : Env0D} {x r : C} {a : Tile} {v : Int} (h1 : ev Γ x ρ = .ok (tD a)) (h2 : ev Γ r ρ = .ok (.int v)) : ev Γ (.op .add (.op .add (.slU x (.int 2)) (.tup (.cons r .nil))) (.slL x (.int 3))) ρ = .ok (tD { a with t := v }) := by
  simp [ev, evs, h1, h2]
  rfl
open Classical in
noncomputable def law_upF (p : Tile × List Tile) : Res D := if gN p.1 ∧ gL 900 p.2 then .ok (tD (rais p.2 p.1)) else .stuck
noncomputable def law_upS : List D → Res D := spec dom_lo law_upF
theorem run_law_up (Γ : Fns) (hm : Γ "_law_meets" = some (2, law_meetsS)) (p : Tile × List Tile) : ∃ fuel, Gives (law_upF p) (exSs Γ fuel c__law_up (startS N__law_up (dom_lo p))) := by
  obtain ⟨a, ts⟩ := p
  refine ⟨a.t.toNat + 1, ?_⟩
  unfold law_upF
  by_cases h : gN a ∧ gL 900 ts
  · rw [if_pos h]
    refine .inl ?_
    obtain ⟨ga, h⟩ := h
    have e0 : startS N__law_up (dom_lo (a, ts)) = [.val (tD a), .val (.list (tsD ts))] := by simp [N__law_up, startS, dom_lo]
    have ar : ∀ (a : Tile) m, ev Γ (.op .add (.op .add (.slU (.var 0) (.int 2)) (.tup (.cons (.op .sub (.ix (.var 0) (.int 2)) (.int 1)) .nil))) (.slL (.var 0) (.int 3))) (seeM m [.val (tD a), .val (.list (tsD ts))]) = .ok (tD { a with t := a.t - 1 }) := fun a m => ev_atrow (by simp [ev]) (by simp [ev])
    rw [e0, c__law_up, x_whl, up_loop (ts := ts) gN (fun a h => h.at _) (fun a ga m => ?_) (fun a => ?_) _ _ ga (Nat.le_refl _)]
    · rw [fl_nx]
      refine x_ret ?_
      simp [ev, rais]
    · have mn := ev_call (es := .cons (.var 1) .nil) hm dom_tl_inj ({ a with t := a.t - 1 }, ts, true) (ds := [.list (tsD ts)]) (ar a m) (by simp [ev, evs]) rfl rfl
      rw [if_pos (show gT { a with t := a.t - 1 } ∧ gTs ts from ⟨ga.1, h.gTs (by decide)⟩)] at mn
      exact ev_and2 (by simp [ev]) fun _ => ev_not mn rfl
    · rw [x_set (ar a _) rfl]
      rfl
  · rw [if_neg h]
    trivial
theorem run_law_packed (Γ : Fns) (hb : Γ "_law_order" = some (1, by_orderS)) (hr : Γ "_law_up" = some (2, law_upS)) (ts : List Tile) : ∃ fuel, Gives (packedF ts) (exSs Γ fuel c__law_packed (startS N__law_packed (dom_ts ts))) := by
  refine ⟨0, ?_⟩
  unfold packedF
  by_cases h : gL 400 ts
  · rw [if_pos h]
    have e0 : startS N__law_packed (dom_ts ts) = [.val (.tuple (tsD ts)), .no, .no] := by simp [N__law_packed, startS, dom_ts]
    rw [e0]
    refine .inl (pk_run hb (fun a acc ρ ga gacc h1 h2 => ?_) h)
    have z := ev_call (es := .cons (.var 1) .nil) hr dom_lo_inj (a, acc) (ds := [.list (tsD acc)]) h1 (evs_cons h2 evs_nil) rfl rfl
    rw [law_upF, if_pos (show gN a ∧ gL 900 acc from ⟨ga, gacc⟩)] at z
    exact z
  · rw [if_neg h]
    trivial
end Tl
set_option maxHeartbeats 0
namespace Tl
open PySem PySem.Spec L2 PyProof.Rows
def N__law_said_k05 : List Str := ["layout", "name", "e"]
def c__law_said_k05 : Ss := (.cons (.tri ["NoTile", "BadTile", "Fixed", "NoRoom", "NoName", "Same", "Closed", "NoDeed", "NoText"] (.cons (.ret (.call "slid" (.var 0) (.cons (.var 1) .nil))) .nil) (.word 2)) .nil)
def N_law_k05 : List Str := ["script", "k", "cell", "layout", "new", "one", "can", "name", "mine", "due", "rest", "tile", "other", "each", "row"]
def c_law_k05 : Ss := (.cons (.for_ (.one 1) (.rng1 (.int 16)) (.cons (.set 2 (.op .add (.call "_law_cell" (.var 0) (.cons (.op .mod (.var 1) (.int 9)) .nil)) (.op .mul (.int 31) (.var 1)))) (.cons (.set 3 (.call "_law_layout" (.var 2) (.cons (.call "_law_wide" (.var 2) .nil) (.cons (.int 9) .nil)))) (.cons (.set 4 (.call "_law_packed" (.var 3) .nil)) (.cons (.iff (.not (.call "_law_same" (.call "packed" (.var 3) .nil) (.cons (.var 4) .nil))) (.cons (.ret (.bl false)) .nil) .nil) (.cons (.for_ (.one 5) (.seq (.tup (.cons (.var 3) (.cons (.var 4) .nil)))) (.cons (.set 6 (.bl false)) (.cons (.for_ (.one 7) (.seq (.str "abcdezq")) (.cons (.set 8 (.call "_law_by" (.var 5) (.cons (.var 7) .nil))) (.cons (.set 9 (.str "no tile")) (.cons (.iff (.cmp .ne (.var 8) (.lst .nil)) (.cons (.set 10 (.lc (.var 11) (.one 11) (.seq (.var 5)) (.cons (.cmp .ne (.ix (.var 11) (.int 0)) (.var 7)) .nil))) (.cons (.set 9 (.ite (.ix (.ix (.var 8) (.int 0)) (.int 5)) (.str "fixed") (.pr .tuple (.srt (.op .add (.var 10) (.lst (.cons (.call "_law_up" (.ix (.var 8) (.int 0)) (.cons (.var 10) .nil)) .nil)))) .nil))) (.cons (.set 6 (.or (.cons (.var 6) (.cons (.cmp .notin (.var 9) (.tup (.cons (.str "fixed") (.cons (.var 5) .nil)))) .nil)))) .nil))) .nil) (.cons (.iff (.not (.call "_law_same" (.call "_law_said" (.var 5) (.cons (.var 7) .nil)) (.cons (.var 9) .nil))) (.cons (.ret (.bl false)) .nil) .nil) .nil))))) (.cons (.set 12 (.lc (.var 11) (.one 11) (.seq (.var 5)) (.cons (.and (.cons (.cmp .notin (.ix (.var 11) (.int 0)) (.str "abcdezq")) (.cons (.not (.ix (.var 11) (.int 5))) .nil))) .nil))) (.cons (.for_ (.one 11) (.seq (.var 12)) (.cons (.set 10 (.lc (.var 13) (.one 13) (.seq (.var 5)) (.cons (.cmp .ne (.var 13) (.var 11)) .nil))) (.cons (.set 6 (.or (.cons (.var 6) (.cons (.cmp .ne (.call "_law_up" (.var 11) (.cons (.var 10) .nil)) (.var 11)) .nil)))) .nil))) (.cons (.iff (.not (.call "_law_same" (.call "is_packed" (.var 5) .nil) (.cons (.not (.var 6)) .nil))) (.cons (.ret (.bl false)) .nil) .nil) .nil)))))) .nil)))))) (.cons (.set 14 (.tup (.cons (.tup (.cons (.str "a") (.cons (.int 0) (.cons (.int 3) (.cons (.int 1) (.cons (.int 1) (.cons (.bl false) .nil))))))) (.cons (.tup (.cons (.str "b") (.cons (.int 0) (.cons (.int 5) (.cons (.int 1) (.cons (.int 1) (.cons (.bl false) .nil))))))) (.cons (.tup (.cons (.str "c") (.cons (.int 0) (.cons (.int 1) (.cons (.int 1) (.cons (.int 1) (.cons (.bl true) .nil))))))) .nil))))) (.cons (.set 9 (.tup (.cons (.tup (.cons (.str "a") (.cons (.int 0) (.cons (.int 2) (.cons (.int 1) (.cons (.int 1) (.cons (.bl false) .nil))))))) (.cons (.tup (.cons (.str "b") (.cons (.int 0) (.cons (.int 3) (.cons (.int 1) (.cons (.int 1) (.cons (.bl false) .nil))))))) (.cons (.tup (.cons (.str "c") (.cons (.int 0) (.cons (.int 1) (.cons (.int 1) (.cons (.int 1) (.cons (.bl true) .nil))))))) .nil))))) (.cons (.ret (.and (.cons (.cmp .eq (.call "packed" (.var 14) .nil) (.var 9)) (.cons (.cmp .is_ (.call "is_packed" (.tup .nil) .nil) (.bl true)) .nil)))) .nil))))
abbrev b1_k05 : Ss := (.cons (.set 2 (.op .add (.call "_law_cell" (.var 0) (.cons (.op .mod (.var 1) (.int 9)) .nil)) (.op .mul (.int 31) (.var 1)))) (.cons (.set 3 (.call "_law_layout" (.var 2) (.cons (.call "_law_wide" (.var 2) .nil) (.cons (.int 9) .nil)))) (.cons (.set 4 (.call "_law_packed" (.var 3) .nil)) (.cons (.iff (.not (.call "_law_same" (.call "packed" (.var 3) .nil) (.cons (.var 4) .nil))) (.cons (.ret (.bl false)) .nil) .nil) (.cons (.for_ (.one 5) (.seq (.tup (.cons (.var 3) (.cons (.var 4) .nil)))) (.cons (.set 6 (.bl false)) (.cons (.for_ (.one 7) (.seq (.str "abcdezq")) (.cons (.set 8 (.call "_law_by" (.var 5) (.cons (.var 7) .nil))) (.cons (.set 9 (.str "no tile")) (.cons (.iff (.cmp .ne (.var 8) (.lst .nil)) (.cons (.set 10 (.lc (.var 11) (.one 11) (.seq (.var 5)) (.cons (.cmp .ne (.ix (.var 11) (.int 0)) (.var 7)) .nil))) (.cons (.set 9 (.ite (.ix (.ix (.var 8) (.int 0)) (.int 5)) (.str "fixed") (.pr .tuple (.srt (.op .add (.var 10) (.lst (.cons (.call "_law_up" (.ix (.var 8) (.int 0)) (.cons (.var 10) .nil)) .nil)))) .nil))) (.cons (.set 6 (.or (.cons (.var 6) (.cons (.cmp .notin (.var 9) (.tup (.cons (.str "fixed") (.cons (.var 5) .nil)))) .nil)))) .nil))) .nil) (.cons (.iff (.not (.call "_law_same" (.call "_law_said" (.var 5) (.cons (.var 7) .nil)) (.cons (.var 9) .nil))) (.cons (.ret (.bl false)) .nil) .nil) .nil))))) (.cons (.set 12 (.lc (.var 11) (.one 11) (.seq (.var 5)) (.cons (.and (.cons (.cmp .notin (.ix (.var 11) (.int 0)) (.str "abcdezq")) (.cons (.not (.ix (.var 11) (.int 5))) .nil))) .nil))) (.cons (.for_ (.one 11) (.seq (.var 12)) (.cons (.set 10 (.lc (.var 13) (.one 13) (.seq (.var 5)) (.cons (.cmp .ne (.var 13) (.var 11)) .nil))) (.cons (.set 6 (.or (.cons (.var 6) (.cons (.cmp .ne (.call "_law_up" (.var 11) (.cons (.var 10) .nil)) (.var 11)) .nil)))) .nil))) (.cons (.iff (.not (.call "_law_same" (.call "is_packed" (.var 5) .nil) (.cons (.not (.var 6)) .nil))) (.cons (.ret (.bl false)) .nil) .nil) .nil)))))) .nil)))))
abbrev b2_k05 : Ss := (.cons (.set 6 (.bl false)) (.cons (.for_ (.one 7) (.seq (.str "abcdezq")) (.cons (.set 8 (.call "_law_by" (.var 5) (.cons (.var 7) .nil))) (.cons (.set 9 (.str "no tile")) (.cons (.iff (.cmp .ne (.var 8) (.lst .nil)) (.cons (.set 10 (.lc (.var 11) (.one 11) (.seq (.var 5)) (.cons (.cmp .ne (.ix (.var 11) (.int 0)) (.var 7)) .nil))) (.cons (.set 9 (.ite (.ix (.ix (.var 8) (.int 0)) (.int 5)) (.str "fixed") (.pr .tuple (.srt (.op .add (.var 10) (.lst (.cons (.call "_law_up" (.ix (.var 8) (.int 0)) (.cons (.var 10) .nil)) .nil)))) .nil))) (.cons (.set 6 (.or (.cons (.var 6) (.cons (.cmp .notin (.var 9) (.tup (.cons (.str "fixed") (.cons (.var 5) .nil)))) .nil)))) .nil))) .nil) (.cons (.iff (.not (.call "_law_same" (.call "_law_said" (.var 5) (.cons (.var 7) .nil)) (.cons (.var 9) .nil))) (.cons (.ret (.bl false)) .nil) .nil) .nil))))) (.cons (.set 12 (.lc (.var 11) (.one 11) (.seq (.var 5)) (.cons (.and (.cons (.cmp .notin (.ix (.var 11) (.int 0)) (.str "abcdezq")) (.cons (.not (.ix (.var 11) (.int 5))) .nil))) .nil))) (.cons (.for_ (.one 11) (.seq (.var 12)) (.cons (.set 10 (.lc (.var 13) (.one 13) (.seq (.var 5)) (.cons (.cmp .ne (.var 13) (.var 11)) .nil))) (.cons (.set 6 (.or (.cons (.var 6) (.cons (.cmp .ne (.call "_law_up" (.var 11) (.cons (.var 10) .nil)) (.var 11)) .nil)))) .nil))) (.cons (.iff (.not (.call "_law_same" (.call "is_packed" (.var 5) .nil) (.cons (.not (.var 6)) .nil))) (.cons (.ret (.bl false)) .nil) .nil) .nil)))))
abbrev b3_k05 : Ss := (.cons (.set 8 (.call "_law_by" (.var 5) (.cons (.var 7) .nil))) (.cons (.set 9 (.str "no tile")) (.cons (.iff (.cmp .ne (.var 8) (.lst .nil)) (.cons (.set 10 (.lc (.var 11) (.one 11) (.seq (.var 5)) (.cons (.cmp .ne (.ix (.var 11) (.int 0)) (.var 7)) .nil))) (.cons (.set 9 (.ite (.ix (.ix (.var 8) (.int 0)) (.int 5)) (.str "fixed") (.pr .tuple (.srt (.op .add (.var 10) (.lst (.cons (.call "_law_up" (.ix (.var 8) (.int 0)) (.cons (.var 10) .nil)) .nil)))) .nil))) (.cons (.set 6 (.or (.cons (.var 6) (.cons (.cmp .notin (.var 9) (.tup (.cons (.str "fixed") (.cons (.var 5) .nil)))) .nil)))) .nil))) .nil) (.cons (.iff (.not (.call "_law_same" (.call "_law_said" (.var 5) (.cons (.var 7) .nil)) (.cons (.var 9) .nil))) (.cons (.ret (.bl false)) .nil) .nil) .nil))))
abbrev b4_k05 : Ss := (.cons (.set 10 (.lc (.var 13) (.one 13) (.seq (.var 5)) (.cons (.cmp .ne (.var 13) (.var 11)) .nil))) (.cons (.set 6 (.or (.cons (.var 6) (.cons (.cmp .ne (.call "_law_up" (.var 11) (.cons (.var 10) .nil)) (.var 11)) .nil)))) .nil))
end Tl
set_option maxHeartbeats 4000000
namespace Tl
open PySem PySem.Spec L2
theorem x_tri {Γ : Fns} {n : Nat} {xs : List Str} {body : Ss} {h : Hn} {ss : Ss} {ρ : EnvS} : exSs Γ n (.cons (.tri xs body h) ss) ρ = (triS xs h (exSs Γ n body ρ)).bind fun ρ => exSs Γ n ss ρ := by
  rw [exSs, exS]
theorem x_retX {Γ : Fns} {n : Nat} {c : C} {ρ : EnvS} {ss : Ss} {x : Str} (h : ev Γ c (seeM (vsC c) ρ) = .exc x) : exSs Γ n (.cons (.ret c) ss) ρ = .exc x ρ := by
  rw [exSs, exS, evE, h]
  rfl
def saidD (ts : List Tile) (o : Option Tile) : D := match o with
  | some a => if a.fx = true then .str "fixed" else .tuple (tsD (slidT ts a))
  | none => .str "no tile"
open Classical in
noncomputable def said5F (p : List Tile × Str) : Res D := if gP p then .ok (saidD p.1 (p.1.find? (hasN p.2))) else .stuck
noncomputable def said5S : List D → Res D := spec dom_tn said5F
theorem run_said5 (Γ : Fns) (hs : Γ "slid" = some (2, slidS)) (p : List Tile × Str) : ∃ fuel, Gives (said5F p) (exSs Γ fuel c__law_said_k05 (startS N__law_said_k05 (dom_tn p))) := by
  refine ⟨0, ?_⟩
  unfold said5F
  by_cases h : gP p
  · rw [if_pos h]
    obtain ⟨ts, nm⟩ := p
    have e0 : startS N__law_said_k05 (dom_tn (ts, nm)) = [.val (.tuple (tsD ts)), .val (.str nm), .no] := by simp [N__law_said_k05, startS, dom_tn]
    have e1 := fun m => ev_call (a := .var 0) (es := .cons (.var 1) .nil) (ρ := seeM m [.val (.tuple (tsD ts)), .val (.str nm), .no]) hs dom_tn_inj (ts, nm) (d := .tuple (tsD ts)) (ds := [.str nm]) (by simp [ev]) (by simp [ev, evs]) rfl rfl
    unfold slidF at e1
    rw [e0, c__law_said_k05, x_tri]
    cases q : ts.find? (hasN nm) with
    | none =>
      simp only [if_pos h, q] at e1
      rw [x_retX (e1 _)]
      exact .inl rfl
    | some a =>
      simp only [if_pos h, q] at e1
      show Gives (.ok (if a.fx = true then .str "fixed" else .tuple (tsD (slidT ts a)))) _
      cases hf : a.fx with
      | true =>
        simp only [hf, if_true] at e1
        rw [x_retX (e1 _)]
        exact .inl rfl
      | false =>
        simp only [hf, Bool.false_eq_true, if_false] at e1
        rw [x_ret (e1 _)]
        exact .inl rfl
  · rw [if_neg h]
    trivial
end Tl
set_option maxHeartbeats 4000000
namespace Tl
open PySem PySem.Spec L2
/-! ### a layout as all laws draw them -/
def nms10 : List Str := nm10.map Prod.snd
structure OneOk (ts : List Tile) : Prop where
  g : gL 100 ts
  nd : (ts.map Tile.nm).Nodup
  srt : srtT ts = ts
  nm : ∀ a ∈ ts, a.nm ∈ nms10
theorem nms10_ok : ∀ x ∈ nms10, nOk x := by decide +kernel
theorem Lay.one {c wide m : Int} (h : 1 ≤ wide) (h0 : 0 ≤ m) (hm : m ≤ 10) : OneOk (layT c wide m) := by
  have z := layT_ok (c := c) h h0 hm
  refine ⟨z.gL (by omega), z.nd, srtT_idem _, fun a ha => ?_⟩
  have q := z.nms a ha
  rw [nmM, List.map_take] at q
  exact List.mem_of_mem_take q
theorem pk_names : ∀ (l acc : List Tile), (l.foldl pkS acc).map Tile.nm = acc.map Tile.nm ++ (l.filter fun a => !a.fx).map Tile.nm
  | [], acc => by simp
  | a :: l, acc => by
    rw [List.foldl_cons, pk_names l, pkS]
    cases hf : a.fx with
    | true =>
      rw [if_pos rfl, List.filter_cons_of_neg (by simp [hf])]
    | false =>
      rw [if_neg (by decide), List.filter_cons_of_pos (by simp [hf]), List.map_append, List.map_cons, List.map_nil, rais_nm, List.map_cons, List.append_assoc]
      rfl
theorem split_perm {α : Type} (q : α → Bool) : ∀ l : List α, (l.filter q ++ l.filter fun a => !q a).Perm l
  | [] => .refl _
  | a :: l => by
    cases h : q a with
    | true =>
      rw [List.filter_cons_of_pos h, List.filter_cons_of_neg (by simp [h]), List.cons_append]
      exact List.Perm.cons a (split_perm q l)
    | false =>
      rw [List.filter_cons_of_neg (by simp [h]), List.filter_cons_of_pos (by simp [h])]
      exact List.perm_middle.trans (List.Perm.cons a (split_perm q l))
theorem packT_names (ts : List Tile) : ((packT ts).map Tile.nm).Perm (ts.map Tile.nm) := by
  refine ((srtT_perm _).map _).trans ?_
  rw [pk_names, ← List.map_append]
  refine List.Perm.map _ (List.Perm.trans (List.Perm.append_left _ ((ordT_perm ts).filter _)) (split_perm Tile.fx ts))
theorem OneOk.pack {ts : List Tile} (h : OneOk ts) : OneOk (packT ts) := by
  have p := packT_names ts
  have hl : (packT ts).length = ts.length := by
    have := p.length_eq
    rwa [List.length_map, List.length_map] at this
  refine ⟨⟨by rw [hl]; exact h.g.len, (packT_gL (h.g.mono (by decide))).ok⟩, p.nodup_iff.mpr h.nd, srtT_idem _, fun a ha => ?_⟩
  obtain ⟨b, hb, e⟩ := List.mem_map.mp (p.mem_iff.mp (List.mem_map_of_mem ha))
  rw [← e]
  exact h.nm b hb
/-! ### whether one can slide, as the law asks -/
def nms7 : List Str := ["a", "b", "c", "d", "e", "z", "q"]
theorem nms7_ok : ∀ x ∈ nms7, nOk x := by decide +kernel
def cn1 (ts : List Tile) (nm : Str) : Bool := match ts.find? (hasN nm) with
  | some a => !a.fx && decide (slidT ts a ≠ ts)
  | none => false
def nf (ts : List Tile) (a : Tile) : List Tile := ts.filter fun b => decide (b ≠ a)
def cn2 (ts : List Tile) (a : Tile) : Bool := decide (rais (nf ts a) a ≠ a)
def oth (ts : List Tile) : List Tile := ts.filter fun a => decide (a.nm ∉ nms7) && !a.fx
def canB (ts : List Tile) : Bool := (oth ts).foldl (fun c a => c || cn2 ts a) (nms7.foldl (fun c nm => c || cn1 ts nm) false)
theorem foldl_or {α : Type} (p : α → Bool) : ∀ (l : List α) (c : Bool), l.foldl (fun c a => c || p a) c = (c || l.any p)
  | [], c => by simp
  | a :: l, c => by rw [List.foldl_cons, foldl_or p l, List.any_cons, Bool.or_assoc]
theorem nf_ot {ts : List Tile} (nd : (ts.map Tile.nm).Nodup) {a : Tile} (ha : a ∈ ts) : nf ts a = otT ts a.nm := by
  unfold nf otT
  refine List.filter_congr fun b hb => ?_
  by_cases e : b.nm = a.nm
  · simp [uniq_nm nd hb ha e]
  · have : b ≠ a := fun z => e (by rw [z])
    simp [e, this]
theorem find_self {ts : List Tile} (nd : (ts.map Tile.nm).Nodup) {a : Tile} (ha : a ∈ ts) : ts.find? (hasN a.nm) = some a := by
  cases q : ts.find? (hasN a.nm) with
  | none =>
    have := List.find?_eq_none.mp q a ha
    simp [hasN] at this
  | some b =>
    obtain ⟨e, hb⟩ := find_nm q
    rw [uniq_nm nd hb ha e]
theorem pkd_iff {ts : List Tile} (h : OneOk ts) {a : Tile} (ha : a ∈ ts) : pkd ts a = true ↔ a.fx = true ∨ slidT ts a = ts := by
  unfold pkd slidT
  rw [Bool.or_eq_true, decide_eq_true_eq, put_same h.nd h.srt ha rais_nm]
theorem can_eq {ts : List Tile} (h : OneOk ts) : isPk ts = !canB ts := by
  rw [canB, foldl_or, foldl_or, Bool.false_or, Bool.not_or, Bool.eq_iff_iff, Bool.and_eq_true, Bool.not_eq_true', Bool.not_eq_true', List.any_eq_false, List.any_eq_false]
  unfold isPk
  rw [List.all_eq_true]
  constructor
  · intro H
    constructor
    · intro nm _
      unfold cn1
      cases q : ts.find? (hasN nm) with
      | none => simp
      | some a =>
        obtain ⟨_, ha⟩ := find_nm q
        rcases (pkd_iff h ha).mp (H a ha) with e | e <;> simp [e]
    · intro a ha
      obtain ⟨ha, hf⟩ := List.mem_filter.mp ha
      have z := H a ha
      unfold pkd at z
      rw [Bool.or_eq_true, decide_eq_true_eq] at z
      unfold cn2
      rw [nf_ot h.nd ha]
      rcases z with z | z
      · rw [z] at hf
        simp at hf
      · simp [z]
  · rintro ⟨H1, H2⟩ a ha
    cases hf : a.fx with
    | true => simp [pkd, hf]
    | false =>
      by_cases e : a.nm ∈ nms7
      · have z := H1 _ e
        unfold cn1 at z
        rw [find_self h.nd ha] at z
        simp [hf] at z
        exact (pkd_iff h ha).mpr (.inr z)
      · have z := H2 a (List.mem_filter.mpr ⟨ha, by simp [e, hf]⟩)
        unfold cn2 at z
        rw [nf_ot h.nd ha] at z
        simp at z
        simp [pkd, z]
end Tl
set_option maxHeartbeats 4000000
namespace Tl
open PySem PySem.Spec L2
/-! ### is_whole, is_name, is_tile, is_layout: of tiles -/
def inR (v lo hi : Int) : Bool := decide (lo ≤ v) && decide (v ≤ hi)
noncomputable def is_wholeS : List D → Res D := spec dom_3i fun p => .ok (.bool (inR p.1 p.2.1 p.2.2))
theorem ev_cmp2 {Γ : Fns} {ρ : Env0D} {a b c : C} {o o' : Cm} {x y z : D} {s t : Bool} (h1 : ev Γ a ρ = .ok x) (h2 : ev Γ b ρ = .ok y) (h3 : ev Γ c ρ = .ok z) (k1 : cmpV o x y = some s) (k2 : cmpV o' y z = some t) : ev Γ (.cmp2 o o' a b c) ρ = .ok (.bool (s && t)) := by
  rw [ev, h1, Res.bind_ok, h2, Res.bind_ok, k1, lift_some, Res.bind_ok]
  cases s with
  | true =>
    rw [if_pos rfl, h3, Res.bind_ok, cmpD, k2]
    rfl
  | false => rfl
theorem run_is_whole (Γ : Fns) (p : Int × Int × Int) : ∃ fuel, Gives (.ok (.bool (inR p.1 p.2.1 p.2.2))) (exSs Γ fuel c_is_whole (startS N_is_whole (dom_3i p))) := by
  refine ⟨0, .inl ?_⟩
  obtain ⟨v, lo, hi⟩ := p
  refine x_ret ?_
  have e0 : ∀ m, seeM m (startS N_is_whole (dom_3i (v, lo, hi))) = [some (.int v), some (.int lo), some (.int hi)] := fun m => by simp [N_is_whole, startS, dom_3i]
  rw [e0]
  have z := ev_and (Γ := Γ) (ρ := [some (.int v), some (.int lo), some (.int hi)]) (evAnd_cons (x := true) (ev_isi (a := .var 0) (t := .int) (d := .int v) (by simp [ev]) rfl) fun _ => evAnd_cons (x := true) (ev_not (ev_isi (a := .var 0) (t := .bool) (d := .int v) (k := false) (by simp [ev]) rfl) rfl) fun _ => evAnd_one (ev_cmp2 (a := .var 1) (b := .var 0) (c := .var 2) (o := .le) (o' := .le) (x := .int lo) (y := .int v) (z := .int hi) (by simp [ev]) (by simp [ev]) (by simp [ev]) rfl rfl))
  rw [z, Bool.true_and, Bool.true_and]
  rfl
def LETT : Str := "abcdefghijklmnopqrstuvwxyz"
def isNm (x : Str) : Bool := match oneSign x with
  | some c => decide (c ∈ LETT.cps.toList)
  | none => false
def dom_s (x : Str) : List D := [.str x]
theorem dom_s_inj (a b : Str) (h : dom_s a = dom_s b) : a = b := by
  simp only [dom_s, List.cons.injEq, PyData.str.injEq] at h
  exact h.1
noncomputable def is_nameS : List D → Res D := spec dom_s fun x => if x.length ≤ 1000 then .ok (.bool (isNm x)) else .stuck
theorem run_is_name (Γ : Fns) (x : Str) : ∃ fuel, Gives (if x.length ≤ 1000 then .ok (.bool (isNm x)) else .stuck) (exSs Γ fuel c_is_name (startS N_is_name (dom_s x))) := by
  by_cases hx : x.length ≤ 1000
  rotate_left
  · exact ⟨0, by rw [if_neg hx]; trivial⟩
  rw [if_pos hx]
  refine ⟨0, .inl (x_ret ?_)⟩
  have e0 : ∀ m, seeM m (startS N_is_name (dom_s x)) = [some (.str x)] := fun m => by simp [N_is_name, startS, dom_s]
  rw [e0]
  have hl : prV .len [.str x] = some (.int x.length) := gd_of (sz_true hx) _
  have h3 : decide ((x.length : Int) = 1) = true → ev Γ (.cmp .isin (.var 0) (.gstr "LETTERS" "abcdefghijklmnopqrstuvwxyz")) [some (.str x)] = .ok (.bool (isNm x)) := fun h1 => by
    have h1 : ((x.cps.size : Nat) : Int) = 1 := of_decide_eq_true h1
    have h2 : x.cps.size = 1 := by omega
    refine ev_cmp (d := .str x) (e := .str "abcdefghijklmnopqrstuvwxyz") (by simp [ev]) (by simp [ev]) ?_
    show Option.map PyData.bool ((oneSign x).map fun c => decide (c ∈ ("abcdefghijklmnopqrstuvwxyz" : Str).cps.toList)) = _
    unfold isNm oneSign
    rw [if_pos h2]
    rfl
  have z := ev_and (Γ := Γ) (ρ := [some (.str x)]) (evAnd_cons (x := true) (ev_isi (a := .var 0) (t := .str) (d := .str x) (by simp [ev]) rfl) fun _ => evAnd_cons (ev_cmp (a := .pr .len (.var 0) .nil) (b := .int 1) (o := .eq) (d := .int x.length) (e := .int 1) (ev_pr1 (d := .str x) (by simp [ev]) hl) (by simp [ev]) (cm_eqI _ _)) fun h1 => evAnd_one (h3 h1))
  rw [z]
  have e : (true && (decide ((x.length : Int) = 1) && isNm x)) = isNm x := by
    rw [Bool.true_and]
    cases q : isNm x with
    | false => rw [Bool.and_false]
    | true =>
      rw [Bool.and_true]
      unfold isNm oneSign at q
      by_cases h : x.cps.size = 1
      · exact decide_eq_true (by show ((x.cps.size : Nat) : Int) = 1; omega)
      · rw [if_neg h] at q
        cases q
  rw [e]
def isT (wide : Int) (a : Tile) : Bool := isNm a.nm && (inR a.l 0 (wide - 1) && inR a.t 0 99 && (inR a.w 1 (wide - a.l) && inR a.h 1 6))
def dom_it (p : Int × Tile) : List D := [.int p.1, tD p.2]
theorem dom_it_inj (p q : Int × Tile) (h : dom_it p = dom_it q) : p = q := by
  obtain ⟨a, b⟩ := p
  obtain ⟨c, d⟩ := q
  simp only [dom_it, List.cons.injEq, PyData.int.injEq] at h
  rw [h.1, tD_inj h.2.1]
noncomputable def is_tileS : List D → Res D := spec dom_it fun p => if p.2.nm.length ≤ 1000 then .ok (.bool (isT p.1 p.2)) else .stuck
theorem ev_whole {Γ : Fns} (hw : Γ "is_whole" = some (3, is_wholeS)) {ρ : Env0D} {a b c : C} {v lo hi : Int} (h1 : ev Γ a ρ = .ok (.int v)) (h2 : ev Γ b ρ = .ok (.int lo)) (h3 : ev Γ c ρ = .ok (.int hi)) : ev Γ (.call "is_whole" a (.cons b (.cons c .nil))) ρ = .ok (.bool (inR v lo hi)) :=
  ev_call hw dom_3i_inj (v, lo, hi) h1 (evs_cons h2 (evs_cons h3 evs_nil)) rfl rfl
theorem run_is_tile (Γ : Fns) (hn : Γ "is_name" = some (1, is_nameS)) (hw : Γ "is_whole" = some (3, is_wholeS)) (p : Int × Tile) : ∃ fuel, Gives (if p.2.nm.length ≤ 1000 then .ok (.bool (isT p.1 p.2)) else .stuck) (exSs Γ fuel c_is_tile (startS N_is_tile (dom_it p))) := by
  by_cases hx : p.2.nm.length ≤ 1000
  rotate_left
  · exact ⟨0, by rw [if_neg hx]; trivial⟩
  rw [if_pos hx]
  refine ⟨0, .inl ?_⟩
  obtain ⟨wide, a⟩ := p
  have e0 : startS N_is_tile (dom_it (wide, a)) = [.val (.int wide), .val (tD a)] := by simp [N_is_tile, startS, dom_it]
  have e1 : ∀ m, seeM m [.val (.int wide), .val (tD a)] = [some (.int wide), some (tD a)] := fun m => by simp
  rw [e0, c_is_tile]
  have nm := ev_call (a := .ix (.var 1) (.int 0)) (es := .nil) (ρ := [some (.int wide), some (tD a)]) hn dom_s_inj a.nm (d := .str a.nm) (ds := []) (by simp [ev]) rfl rfl rfl
  rw [if_pos (show a.nm.length ≤ 1000 from hx)] at nm
  have t1 := ev_or (Γ := Γ) (ρ := [some (.int wide), some (tD a)]) (evOr_cons (a := .not (.isi (.var 1) .tuple)) (x := false) (ev_not (ev_isi (d := tD a) (k := true) (by simp [ev]) rfl) rfl) fun _ => evOr_cons (a := .cmp .ne (.pr .len (.var 1) .nil) (.int 6)) (x := false) (ev_cmp (d := .int 6) (e := .int 6) (ev_pr1 (d := tD a) (by simp [ev]) rfl) (by simp [ev]) rfl) fun _ => evOr_cons (a := .not (.call "is_name" (.ix (.var 1) (.int 0)) .nil)) (ev_not nm rfl) fun _ => evOr_one (a := .not (.isi (.ix (.var 1) (.int 5)) .bool)) (x := false) (ev_not (ev_isi (d := .bool a.fx) (k := true) (by simp [ev]) rfl) rfl))
  rw [x_iff (by rw [e1]; exact t1) rfl]
  have t2 := ev_or2 (Γ := Γ) (ρ := [some (.int wide), some (tD a)]) (a := .not (.call "is_whole" (.ix (.var 1) (.int 1)) (.cons (.int 0) (.cons (.op .sub (.var 0) (.int 1)) .nil)))) (b := .not (.call "is_whole" (.ix (.var 1) (.int 2)) (.cons (.int 0) (.cons (.gint "LOWEST" 99) .nil)))) (ev_not (ev_whole hw (v := a.l) (lo := 0) (hi := wide - 1) (by simp [ev]) (by simp [ev]) (by simp [ev])) rfl) fun _ => ev_not (ev_whole hw (v := a.t) (lo := 0) (hi := 99) (by simp [ev]) (by simp [ev]) (by simp [ev])) rfl
  have t3 := ev_and2 (Γ := Γ) (ρ := [some (.int wide), some (tD a)]) (a := .call "is_whole" (.ix (.var 1) (.int 3)) (.cons (.int 1) (.cons (.op .sub (.var 0) (.ix (.var 1) (.int 1))) .nil))) (b := .call "is_whole" (.ix (.var 1) (.int 4)) (.cons (.int 1) (.cons (.gint "HIGHEST" 6) .nil))) (ev_whole hw (v := a.w) (lo := 1) (hi := wide - a.l) (by simp [ev]) (by simp [ev]) (by simp [ev])) fun _ => ev_whole hw (v := a.h) (lo := 1) (hi := 6) (by simp [ev]) (by simp [ev]) (by simp [ev])
  unfold isT
  cases q : isNm a.nm with
  | false =>
    rw [if_pos (by rfl), x_ret (d := .bool false) (by simp [ev])]
    rfl
  | true =>
    rw [if_neg (by decide), x_nil, fl_nx, x_iff (by rw [e1]; exact t2) rfl]
    cases q1 : inR a.l 0 (wide - 1) with
    | false =>
      rw [if_pos (by rfl), x_ret (d := .bool false) (by simp [ev])]
      rfl
    | true =>
      cases q2 : inR a.t 0 99 with
      | false =>
        rw [if_pos (by rfl), x_ret (d := .bool false) (by simp [ev])]
        rfl
      | true =>
        rw [if_neg (by decide), x_nil, fl_nx]
        refine x_ret ?_
        rw [e1, t3]
        rfl
/-! ### is_layout -/
def dom_its (p : Int × List Tile) : List D := [.int p.1, .tuple (tsD p.2)]
theorem dom_its_inj (p q : Int × List Tile) (h : dom_its p = dom_its q) : p = q := by
  obtain ⟨a, b⟩ := p
  obtain ⟨c, d⟩ := q
  simp only [dom_its, List.cons.injEq, PyData.int.injEq, PyData.tuple.injEq] at h
  rw [h.1, tsD_inj h.2.1]
def sLt (x y : Str) : Bool := decide (x.cps.toList < y.cps.toList)
/-- tile k is no good behind those ahead -/
def badK (ts : List Tile) (p : Nat × Tile) : Bool := (decide (0 < p.1) && !(match ts[p.1 - 1]? with | some b => sLt b.nm p.2.nm | none => true)) || anyM p.2 (ts.take p.1)
def enT (ts : List Tile) : List (Nat × Tile) := (List.range ts.length).zip ts
def enD (p : Nat × Tile) : D := .tuple [.int (p.1 : Int), tD p.2]
def isLay (wide : Int) (ts : List Tile) : Bool := ts.all (isT wide) && !(enT ts).any (badK ts)
structure nL (ts : List Tile) : Prop where
  len : ts.length ≤ 900
  nm : ∀ a ∈ ts, a.nm.length ≤ 1000
open Classical in
noncomputable def is_layoutF (p : Int × List Tile) : Res D := if nL p.2 then .ok (.bool (isLay p.1 p.2)) else .stuck
noncomputable def is_layoutS : List D → Res D := spec dom_its is_layoutF
theorem zip_en : ∀ (l : List Nat) (ts : List Tile), zipD (l.map fun (i : Nat) => .int (i : Int)) (tsD ts) = (l.zip ts).map enD
  | [], _ => rfl
  | _ :: _, [] => rfl
  | i :: l, a :: ts => by
    show PyData.tuple [.int (i : Int), tD a] :: zipD (l.map fun (i : Nat) => .int (i : Int)) (tsD ts) = _
    rw [zip_en l ts]
    rfl
theorem en_eq (ts : List Tile) : enumD (tsD ts) = (enT ts).map enD := by
  unfold enumD enT
  rw [← zip_en, tsD_len]
  congr 1
  unfold rangeD
  simp
theorem mem_enT {ts : List Tile} {p : Nat × Tile} (h : p ∈ enT ts) : ts[p.1]? = some p.2 := by
  unfold enT at h
  obtain ⟨i, hi, e⟩ := List.getElem_of_mem h
  rw [List.getElem_zip, List.getElem_range] at e
  subst e
  rw [List.length_zip, List.length_range] at hi
  exact List.getElem?_eq_getElem (by omega)
theorem cut_take {ts : List Tile} {k : Nat} (h : k ≤ ts.length) : slV (.tuple (tsD ts)) none (some (k : Int)) = some (.tuple (tsD (ts.take k))) := by
  show some (PyData.tuple (cutD (tsD ts) none (some (k : Int)))) = _
  unfold cutD
  have e1 : HT.sIx (tsD ts).length 0 none = 0 := rfl
  have e2 : HT.sIx (tsD ts).length (tsD ts).length (some (k : Int)) = k := by
    unfold HT.sIx
    rw [tsD_len]
    simp [show ¬ ((k : Int) < 0) by omega]
    omega
  rw [e1, e2]
  simp [tsD, List.map_take]
theorem run_is_layout (Γ : Fns) (ht : Γ "is_tile" = some (2, is_tileS)) (hm : Γ "do_meet" = some (2, do_meetS)) (p : Int × List Tile) : ∃ fuel, Gives (is_layoutF p) (exSs Γ fuel c_is_layout (startS N_is_layout (dom_its p))) := by
  refine ⟨0, ?_⟩
  unfold is_layoutF
  by_cases h : nL p.2
  rotate_left
  · rw [if_neg h]; trivial
  rw [if_pos h]
  obtain ⟨wide, ts⟩ := p
  refine .inl ?_
  have e0 : startS N_is_layout (dom_its (wide, ts)) = [.val (.int wide), .val (.tuple (tsD ts)), .no, .no, .no] := by simp [N_is_layout, startS, dom_its]
  have hl : ts.length ≤ 1000 := Nat.le_trans h.len (by decide)
  have al : ∀ m, ev Γ (.pr .all (.lc (.call "is_tile" (.var 0) (.cons (.var 2) .nil)) (.one 2) (.seq (.var 1)) .nil) .nil) (seeM m [.val (.int wide), .val (.tuple (tsD ts)), .no, .no, .no]) = .ok (.bool (ts.all (isT wide))) := fun m => by
    refine ev_pr1 (ev_map (e := tD) (l := ts) (g := fun a => .bool (isT wide a)) (by simp [evI, ev, tsD]) (fun a ha => ?_) hl) (by rw [pr_all, bools_map, Option.map_some, all_map])
    have z := ev_call (a := .var 0) (es := .cons (.var 2) .nil) (ρ := ((seeM m [.val (.int wide), .val (.tuple (tsD ts)), .no, .no, .no]).set 2 none).set 2 (some (tD a))) ht dom_it_inj (wide, a) (d := .int wide) (ds := [tD a]) (by simp [ev]) (by simp [ev, evs]) rfl rfl
    rw [if_pos (show a.nm.length ≤ 1000 from h.nm a ha)] at z
    exact z
  rw [e0, c_is_layout, x_iff (ev_or2 (x := false) (ev_not (ev_isi (d := .tuple (tsD ts)) (k := true) (by simp [ev]) rfl) rfl) fun _ => ev_not (al _) rfl) rfl]
  unfold isLay
  cases q : ts.all (isT wide) with
  | false =>
    rw [if_pos (by rfl), x_ret (d := .bool false) (by simp [ev])]
    rfl
  | true =>
    rw [if_neg (by decide), x_nil, fl_nx, x_for (ds := (enT ts).map enD) (by rw [← en_eq]; simp [evI, ev])]
    have f1 : freezeM (vsI (.enum (.var 1))) [.val (.int wide), .val (.tuple (tsD ts)), .no, .no, .no] = [.val (.int wide), .val (.tuple (tsD ts)), .no, .no, .no] := by simp [vsI, vsC]
    rw [f1]
    have key : ∀ (l : List (Nat × Tile)) (x y : Sl), (∀ p ∈ l, p ∈ enT ts) → ∃ x' y', forD (forB Γ 0 (.many [3, 4]) (.cons (.iff (.or (.cons (.and (.cons (.cmp .gt (.var 3) (.int 0)) (.cons (.cmp .ge (.ix (.ix (.var 1) (.op .sub (.var 3) (.int 1))) (.int 0)) (.ix (.var 4) (.int 0))) .nil))) (.cons (.pr .any (.lc (.call "do_meet" (.var 4) (.cons (.var 2) .nil)) (.one 2) (.seq (.slU (.var 1) (.var 3))) .nil) .nil) .nil))) (.cons (.ret (.bl false)) .nil) .nil) .nil)) (l.map enD) [.val (.int wide), .val (.tuple (tsD ts)), .no, x, y] = if l.any (badK ts) = true then .rt (.bool false) else .nx [.val (.int wide), .val (.tuple (tsD ts)), .no, x', y'] := by
      intro l
      induction l with
      | nil => exact fun x y _ => ⟨x, y, rfl⟩
      | cons p l ih =>
        intro x y hl
        obtain ⟨k, a⟩ := p
        have hk := mem_enT (hl (k, a) List.mem_cons_self)
        have hkl : k < ts.length := (List.getElem?_eq_some_iff.mp hk).1
        obtain ⟨x', y', ih⟩ := ih (.val (.int (k : Int))) (.val (tD a)) fun q hq => hl q (List.mem_cons_of_mem _ hq)
        refine ⟨x', y', ?_⟩
        show (exSs Γ 0 _ [.val (.int wide), .val (.tuple (tsD ts)), .no, .val (.int (k : Int)), .val (tD a)]).bind _ = _
        have an : ∀ m, ev Γ (.pr .any (.lc (.call "do_meet" (.var 4) (.cons (.var 2) .nil)) (.one 2) (.seq (.slU (.var 1) (.var 3))) .nil) .nil) (seeM m [.val (.int wide), .val (.tuple (tsD ts)), .no, .val (.int (k : Int)), .val (tD a)]) = .ok (.bool (anyM a (ts.take k))) := fun m => by
          have ct := cut_take (ts := ts) (k := k) (Nat.le_of_lt hkl)
          refine ev_pr1 (ev_map (e := tD) (l := ts.take k) (g := fun b => .bool (meet a b)) (by rw [evI, show ev Γ (.slU (.var 1) (.var 3)) (seeM m [.val (.int wide), .val (.tuple (tsD ts)), .no, .val (.int (k : Int)), .val (tD a)]) = .ok (.tuple (tsD (ts.take k))) by simp [ev, ct]]; rfl) (fun b hb => ?_) (Nat.le_trans (List.length_take_le _ _) (by omega))) (by rw [pr_any, bools_map, Option.map_some, List.any_map]; rfl)
          exact ev_call (a := .var 4) (es := .cons (.var 2) .nil) hm dom2T_inj (a, b) (d := tD a) (ds := [tD b]) (by simp [ev]) (by simp [ev, evs]) rfl rfl
        have up : ∀ m, ev Γ (.and (.cons (.cmp .gt (.var 3) (.int 0)) (.cons (.cmp .ge (.ix (.ix (.var 1) (.op .sub (.var 3) (.int 1))) (.int 0)) (.ix (.var 4) (.int 0))) .nil))) (seeM m [.val (.int wide), .val (.tuple (tsD ts)), .no, .val (.int (k : Int)), .val (tD a)]) = .ok (.bool (decide (0 < k) && !(match ts[k - 1]? with | some b => sLt b.nm a.nm | none => true))) := fun m => by
          refine ev_and2 (by simp [ev]) fun h0 => ?_
          have h0 : 0 < k := of_decide_eq_true h0
          have hb : ts[k - 1]? = some ts[k - 1] := List.getElem?_eq_getElem (by omega)
          have ix : ixV (.tuple (tsD ts)) (.int ((k : Int) - 1)) = some (tD ts[k - 1]) := by
            show L2.atI (tsD ts) ((k : Int) - 1) = _
            unfold L2.atI L2.ixN
            rw [tsD_len, if_pos (by omega), if_pos (by omega)]
            show (tsD ts)[((k : Int) - 1).toNat]? = _
            rw [show ((k : Int) - 1).toNat = k - 1 by omega, tsD, List.getElem?_map, hb]
            rfl
          rw [hb]
          exact ev_cmp (ev_ix (ev_ix (d := .tuple (tsD ts)) (e := .int ((k : Int) - 1)) (by simp [ev]) (by simp [ev]) ix) (e := .int 0) (by simp [ev]) (ix_nm _)) (e := .str a.nm) (by simp [ev]) rfl
        rw [x_iff (ev_or2 (up _) fun _ => an _) rfl, List.any_cons]
        have eb : badK ts (k, a) = ((decide (0 < k) && !(match ts[k - 1]? with | some b => sLt b.nm a.nm | none => true)) || anyM a (ts.take k)) := rfl
        rw [← eb]
        cases badK ts (k, a) with
        | true =>
          rw [if_pos rfl, x_ret (d := .bool false) (by simp [ev])]
          rfl
        | false =>
          rw [if_neg (by decide), x_nil, fl_nx, x_nil, fl_nx, Bool.false_or]
          exact ih
    obtain ⟨x', y', e⟩ := key (enT ts) .no .no fun p hp => hp
    rw [e]
    cases (enT ts).any (badK ts) with
    | true => rfl
    | false =>
      rw [if_neg (by decide), fl_nx, x_ret (d := .bool true) (by simp [ev])]
      rfl
end Tl
set_option maxHeartbeats 4000000
namespace Tl
open PySem PySem.Spec L2
/-! ### meeting, by numbers -/
def cols (a b : Tile) : Prop := a.l < b.l + b.w ∧ b.l < a.l + a.w
theorem meet_iff {a b : Tile} : meet a b = true ↔ cols a b ∧ a.t < b.t + b.h ∧ b.t < a.t + a.h := by
  unfold meet cols
  by_cases h1 : b.l + b.w ≤ a.l
  · simp [h1]
    omega
  · by_cases h2 : a.l + a.w ≤ b.l
    · simp [h2]
      omega
    · simp [h1, h2]
      omega
theorem dj_iff {a b : Tile} : dj a b ↔ ¬ (cols a b ∧ a.t < b.t + b.h ∧ b.t < a.t + a.h) := by
  unfold dj
  rw [← meet_iff]
  simp
theorem cols_comm {a b : Tile} (h : cols a b) : cols b a := ⟨h.2, h.1⟩
/-! ### raised -/
structure Mv (a b : Tile) : Prop where
  sh : b = { a with t := b.t }
  nn : 0 ≤ b.t
  le : b.t ≤ a.t
theorem upF_mv {ts : List Tile} : ∀ {n : Nat} {a : Tile}, 0 ≤ a.t → Mv a (upF n ts a)
  | 0, a, h => ⟨rfl, h, Int.le_refl _⟩
  | n + 1, a, h => by
    rw [upF]
    split
    · rename_i q
      have z := upF_mv (ts := ts) (n := n) (a := { a with t := a.t - 1 }) (by show 0 ≤ a.t - 1; omega)
      refine ⟨z.sh, z.nn, ?_⟩
      have := z.le
      have e : ({ a with t := a.t - 1 } : Tile).t = a.t - 1 := rfl
      omega
    · exact ⟨rfl, h, Int.le_refl _⟩
theorem rais_mv {ts : List Tile} {a : Tile} (h : 0 ≤ a.t) : Mv a (rais ts a) := upF_mv h
theorem upF_free {ts : List Tile} : ∀ {n : Nat} {a : Tile}, anyM a ts = false → anyM (upF n ts a) ts = false
  | 0, _, h => h
  | n + 1, a, h => by
    rw [upF]
    split
    · rename_i q
      exact upF_free (n := n) q.2
    · exact h
theorem upF_stop {ts : List Tile} : ∀ {n : Nat} {a : Tile}, a.t.toNat ≤ n → ¬ (0 < (upF n ts a).t ∧ anyM { upF n ts a with t := (upF n ts a).t - 1 } ts = false)
  | 0, a, h => by
    intro q
    have : a.t ≤ 0 := by omega
    have : 0 < a.t := q.1
    omega
  | n + 1, a, h => by
    rw [upF]
    split
    · rename_i q
      exact upF_stop (n := n) (by show (a.t - 1).toNat ≤ n; omega)
    · assumption
theorem rais_stop {ts : List Tile} {a : Tile} : ¬ (0 < (rais ts a).t ∧ anyM { rais ts a with t := (rais ts a).t - 1 } ts = false) := upF_stop (Nat.le_refl _)
theorem rais_stay {ts : List Tile} {a : Tile} (h : ¬ (0 < a.t ∧ anyM { a with t := a.t - 1 } ts = false)) : rais ts a = a := by
  unfold rais
  cases a.t.toNat with
  | zero => rfl
  | succ n => rw [upF, if_neg h]
theorem rais_iff {ts : List Tile} {a : Tile} : rais ts a = a ↔ ¬ (0 < a.t ∧ anyM { a with t := a.t - 1 } ts = false) := by
  constructor
  · intro h
    have z := rais_stop (ts := ts) (a := a)
    rw [h] at z
    exact z
  · exact rais_stay
theorem upF_below {ts : List Tile} {c : Tile} (hc : c ∈ ts) (hh : 1 ≤ c.h) : ∀ {n : Nat} {a : Tile}, cols a c → 1 ≤ a.h → c.t + c.h ≤ a.t → c.t + c.h ≤ (upF n ts a).t
  | 0, _, _, _, h => h
  | n + 1, a, hcol, ha, h => by
    rw [upF]
    split
    · rename_i q
      refine upF_below hc hh (n := n) (a := { a with t := a.t - 1 }) hcol ha ?_
      have z := dj_iff.mp (anyM_no.mp q.2 c hc)
      show c.t + c.h ≤ a.t - 1
      have hcol' : cols { a with t := a.t - 1 } c := hcol
      have e1 : ({ a with t := a.t - 1 } : Tile).t = a.t - 1 := rfl
      have e2 : ({ a with t := a.t - 1 } : Tile).h = a.h := rfl
      rw [e1, e2] at z
      by_cases hlt : c.t + c.h ≤ a.t - 1
      · exact hlt
      · exact absurd ⟨hcol', by omega, by omega⟩ z
    · exact h
/-! ### the tiles, each with where it comes -/
def pkP : List Tile → List Tile → List (Tile × Tile)
  | _, [] => []
  | acc, a :: l => if a.fx = true then pkP acc l else (a, rais acc a) :: pkP (acc ++ [rais acc a]) l
theorem pkP_fold : ∀ (l acc : List Tile), l.foldl pkS acc = acc ++ (pkP acc l).map Prod.snd
  | [], acc => by simp [pkP]
  | a :: l, acc => by
    rw [List.foldl_cons, pkS, pkP]
    split
    · exact pkP_fold l acc
    · rw [pkP_fold l]
      simp
theorem pkP_fst : ∀ (l acc : List Tile), (pkP acc l).map Prod.fst = l.filter fun a => !a.fx
  | [], acc => rfl
  | a :: l, acc => by
    rw [pkP]
    split
    · rename_i h
      rw [List.filter_cons_of_neg (by simp [h])]
      exact pkP_fst l acc
    · rename_i h
      rw [List.filter_cons_of_pos (by simpa using h), List.map_cons, pkP_fst l]
structure PkG (acc l : List Tile) : Prop where
  g : ∀ a ∈ l, gT a ∧ 0 ≤ a.t
  ga : ∀ a ∈ acc, gT a
  ord : l.Pairwise fun a d => a.t ≤ d.t
  dl : l.Pairwise dj
  al : ∀ a ∈ l, a.fx = false → ∀ c ∈ acc, dj a c
  nm : ∀ a ∈ l, a.fx = false → ∀ c ∈ acc, c.nm ≠ a.nm
  nl : l.Pairwise fun a d => a.nm ≠ d.nm
theorem above {a d : Tile} (ha : 1 ≤ a.h) (hd : 1 ≤ d.h) (ht : a.t ≤ d.t) (h : dj a d) (hc : cols a d) : a.t + a.h ≤ d.t := by
  have z := dj_iff.mp h
  by_cases q : a.t + a.h ≤ d.t
  · exact q
  · exact absurd ⟨hc, by omega, by omega⟩ z
theorem Mv.cols {a b d : Tile} (h : Mv a b) (c : Tl.cols b d) : Tl.cols a d := by
  rw [h.sh] at c
  exact c
theorem Mv.cols' {a b d : Tile} (h : Mv a b) (c : Tl.cols a d) : Tl.cols b d := by
  rw [h.sh]
  exact c
theorem Mv.hh {a b : Tile} (h : Mv a b) : b.h = a.h := by rw [h.sh]
theorem Mv.nm {a b : Tile} (h : Mv a b) : b.nm = a.nm := by rw [h.sh]
theorem Mv.fx {a b : Tile} (h : Mv a b) : b.fx = a.fx := by rw [h.sh]
theorem Mv.gT {a b : Tile} (h : Mv a b) (g : Tl.gT a) : Tl.gT b := by
  rw [h.sh]
  exact g
/-- a later tile does not meet an earlier one that rose -/
theorem dj_later {a b d : Tile} (h : Mv a b) (ga : gT a) (gd : gT d) (ht : a.t ≤ d.t) (hd : dj a d) : dj d b := by
  rw [dj_iff]
  rintro ⟨c, h1, h2⟩
  have z := above ga.2.2.1 gd.2.2.1 ht hd (h.cols (cols_comm c))
  have := h.le
  rw [h.hh] at h1
  omega
theorem PkG.next {acc l : List Tile} {a : Tile} (h : PkG acc (a :: l)) (hf : a.fx = false) : PkG (acc ++ [rais acc a]) l := by
  have m := rais_mv (ts := acc) (h.g a List.mem_cons_self).2
  have ho := List.pairwise_cons.mp h.ord
  have hd := List.pairwise_cons.mp h.dl
  have hn := List.pairwise_cons.mp h.nl
  have ga := (h.g a List.mem_cons_self).1
  refine ⟨fun d hd => h.g d (List.mem_cons_of_mem _ hd), fun c hc => ?_, ho.2, hd.2, fun d hd' hfd c hc => ?_, fun d hd' hfd c hc => ?_, hn.2⟩
  · rcases List.mem_append.mp hc with hc | hc
    · exact h.ga c hc
    · rw [List.mem_singleton.mp hc]
      exact m.gT ga
  · rcases List.mem_append.mp hc with hc | hc
    · exact h.al d (List.mem_cons_of_mem _ hd') hfd c hc
    · rw [List.mem_singleton.mp hc]
      exact dj_later m ga (h.g d (List.mem_cons_of_mem _ hd')).1 (ho.1 d hd') (hd.1 d hd')
  · rcases List.mem_append.mp hc with hc | hc
    · exact h.nm d (List.mem_cons_of_mem _ hd') hfd c hc
    · rw [List.mem_singleton.mp hc, m.nm]
      exact hn.1 d hd'
theorem PkG.skip {acc l : List Tile} {a : Tile} (h : PkG acc (a :: l)) : PkG acc l :=
  ⟨fun d hd => h.g d (List.mem_cons_of_mem _ hd), h.ga, (List.pairwise_cons.mp h.ord).2, (List.pairwise_cons.mp h.dl).2, fun d hd => h.al d (List.mem_cons_of_mem _ hd), fun d hd => h.nm d (List.mem_cons_of_mem _ hd), (List.pairwise_cons.mp h.nl).2⟩
/-- what comes: no two meet; each rose, and no farther can -/
structure PkE (acc : List Tile) (ps : List (Tile × Tile)) : Prop where
  dj : (acc ++ ps.map Prod.snd).Pairwise dj
  mv : ∀ p ∈ ps, Mv p.1 p.2 ∧ gT p.1 ∧ (p.2.t = 0 ∨ ∃ c ∈ acc ++ ps.map Prod.snd, c.nm ≠ p.2.nm ∧ meet { p.2 with t := p.2.t - 1 } c = true)
  ab : ps.Pairwise fun p q => p.1.t ≤ q.1.t ∧ (cols p.1 q.1 → p.2.t + p.2.h ≤ q.2.t)
  bel : ∀ p ∈ ps, ∀ c ∈ acc, cols p.1 c → c.t + c.h ≤ p.1.t → c.t + c.h ≤ p.2.t
theorem pk_end : ∀ {l acc : List Tile}, PkG acc l → acc.Pairwise dj → PkE acc (pkP acc l)
  | [], acc, _, hp => ⟨by simpa [pkP] using hp, fun p hp => by simp [pkP] at hp, by simp [pkP], fun p hp => by simp [pkP] at hp⟩
  | a :: l, acc, h, hp => by
    rw [pkP]
    split
    · exact pk_end h.skip hp
    · rename_i hf
      have hf : a.fx = false := by simpa using hf
      have ga := h.g a List.mem_cons_self
      have m := rais_mv (ts := acc) ga.2
      have fr : anyM (rais acc a) acc = false := upF_free (anyM_no.mpr (h.al a List.mem_cons_self hf))
      have hp' : (acc ++ [rais acc a]).Pairwise dj := by
        rw [List.pairwise_append]
        refine ⟨hp, List.pairwise_singleton _ _, fun c hc b hb => ?_⟩
        rw [List.mem_singleton.mp hb]
        exact dj_symm (anyM_no.mp fr c hc)
      have e := pk_end (h.next hf) hp'
      have eq : acc ++ ((a, rais acc a) :: pkP (acc ++ [rais acc a]) l).map Prod.snd = acc ++ [rais acc a] ++ (pkP (acc ++ [rais acc a]) l).map Prod.snd := by simp
      have ord := List.pairwise_cons.mp h.ord
      have hdl := List.pairwise_cons.mp h.dl
      have fst : ∀ p ∈ pkP (acc ++ [rais acc a]) l, p.1 ∈ l := fun p hp => by
        have z : p.1 ∈ (pkP (acc ++ [rais acc a]) l).map Prod.fst := List.mem_map_of_mem hp
        rw [pkP_fst] at z
        exact (List.mem_filter.mp z).1
      refine ⟨by rw [eq]; exact e.dj, fun p hp => ?_, ?_, fun p hp c hc => ?_⟩
      · rw [eq]
        rcases List.mem_cons.mp hp with h1 | h1
        · subst h1
          refine ⟨m, ga.1, ?_⟩
          have st := rais_stop (ts := acc) (a := a)
          by_cases h0 : (rais acc a).t = 0
          · exact .inl h0
          · refine .inr ?_
            have h1 : 0 < (rais acc a).t := by have := m.nn; omega
            have h2 : anyM { rais acc a with t := (rais acc a).t - 1 } acc = true := by
              cases q : anyM { rais acc a with t := (rais acc a).t - 1 } acc with
              | true => rfl
              | false => exact absurd ⟨h1, q⟩ st
            obtain ⟨c, hc, hm⟩ := List.any_eq_true.mp h2
            exact ⟨c, List.mem_append_left _ (List.mem_append_left _ hc), by rw [m.nm]; exact h.nm a List.mem_cons_self hf c hc, hm⟩
        · exact e.mv p h1
      · rw [List.pairwise_cons]
        refine ⟨fun q hq => ⟨ord.1 _ (fst q hq), fun hc => ?_⟩, e.ab⟩
        have gq := h.g _ (List.mem_cons_of_mem _ (fst q hq))
        have z := above ga.1.2.2.1 gq.1.2.2.1 (ord.1 _ (fst q hq)) (hdl.1 _ (fst q hq)) hc
        have := m.le
        exact e.bel q hq (rais acc a) (List.mem_append_right _ List.mem_cons_self) (cols_comm (m.cols' hc)) (by rw [m.hh]; omega)
      · rcases List.mem_cons.mp hp with h1 | h1
        · subst h1
          exact fun hcol hle => upF_below hc (h.ga c hc).2.2.1 hcol ga.1.2.2.1 hle
        · exact e.bel p h1 c (List.mem_append_left _ hc)
end Tl
set_option maxHeartbeats 4000000
namespace Tl
open PySem PySem.Spec L2
theorem pw_mem {α : Type} {R : α → α → Prop} (sy : ∀ {a b}, R a b → R b a) : ∀ {l : List α}, l.Pairwise R → ∀ {a b}, a ∈ l → b ∈ l → a ≠ b → R a b
  | [], _, _, _, ha, _, _ => by cases ha
  | c :: l, h, a, b, ha, hb, ne => by
    rw [List.pairwise_cons] at h
    rcases List.mem_cons.mp ha with h1 | h1 <;> rcases List.mem_cons.mp hb with h2 | h2
    · exact absurd (h1.trans h2.symm) ne
    · rw [h1]; exact h.1 b h2
    · rw [h2]; exact sy (h.1 a h1)
    · exact pw_mem sy h.2 h1 h2 ne
/-! ### drawn layouts -/
theorem layF_mk {c wide : Int} : ∀ (l : List (Int × Str)) (acc : List Tile), ∀ a ∈ layF c wide l acc, a ∈ acc ∨ ∃ c' nm, a = mkT c' wide nm
  | [], acc, a, ha => .inl ha
  | p :: r, acc, a, ha => by
    rw [layF] at ha
    split at ha
    · exact layF_mk r acc a ha
    · rcases layF_mk r _ a ha with h | h
      · rcases List.mem_append.mp h with h | h
        · exact .inl h
        · exact .inr ⟨_, _, List.mem_singleton.mp h⟩
      · exact .inr h
structure Sm (a : Tile) : Prop where
  t : a.t ≤ 8
  h : a.h ≤ 3
theorem mkT_sm {c wide : Int} {nm : Str} : Sm (mkT c wide nm) := by
  have h1 := mix_rg (c := c) (p := 9949) (m := 9) (by decide)
  have h2 := mix_rg (c := c) (p := 9941) (m := 3) (by decide)
  refine ⟨?_, ?_⟩
  · show mix c 9949 9 ≤ 8
    omega
  · show 1 + mix c 9941 3 ≤ 3
    omega
structure Bd (a : Tile) : Prop where
  t : a.t ≤ 60
  h : a.h ≤ 6
theorem Sm.bd {a : Tile} (h : Sm a) : Bd a := ⟨by have := h.t; omega, by have := h.h; omega⟩
theorem layT_sm {c wide m : Int} : ∀ a ∈ layT c wide m, Sm a := fun a ha => by
  rcases layF_mk _ _ a ((srtT_perm _).mem_iff.mp ha) with q | ⟨c', nm, rfl⟩
  · cases q
  · exact mkT_sm
structure Drw (wide : Int) (ts : List Tile) : Prop where
  one : OneOk ts
  dj : ts.Pairwise dj
  ok : ∀ a ∈ ts, okT wide a
  bd : ∀ a ∈ ts, Bd a
theorem layT_drw {c wide m : Int} (h : 1 ≤ wide) (h0 : 0 ≤ m) (hm : m ≤ 10) : Drw wide (layT c wide m) := by
  have z := layT_ok (c := c) h h0 hm
  exact ⟨Lay.one h h0 hm, z.dj, z.ok, fun a ha => (layT_sm a ha).bd⟩
/-! ### in order of rows -/
theorem ordT_srt (ts : List Tile) : (ordT ts).Pairwise fun a b => a.t ≤ b.t := by
  refine (isort_srtd swo_ltO ts).imp fun {a b} h => ?_
  have h : lexK [[b.t], [b.l]] [[a.t], [a.l]] = false := h
  rw [lexK] at h
  by_cases e : b.t = a.t
  · omega
  · rw [if_neg (by simpa using e)] at h
    rw [HT.lexLt_cons, if_neg e] at h
    have := of_decide_eq_false h
    omega
theorem nd_pw {ts : List Tile} (h : (ts.map Tile.nm).Nodup) : ts.Pairwise fun a b => a.nm ≠ b.nm := List.pairwise_map.mp h
theorem Drw.pkg {wide : Int} {ts : List Tile} (h : Drw wide ts) : PkG (ts.filter Tile.fx) (ordT ts) := by
  have mem : ∀ {a}, a ∈ ordT ts → a ∈ ts := fun ha => (ordT_perm ts).mem_iff.mp ha
  have mf : ∀ {a}, a ∈ ts.filter Tile.fx → a ∈ ts ∧ a.fx = true := fun ha => List.mem_filter.mp ha
  refine ⟨fun a ha => ⟨(h.ok a (mem ha)).1, (h.ok a (mem ha)).2.2.2.1⟩, fun a ha => (h.ok a (mf ha).1).1, ordT_srt ts, ?_, fun a ha hf c hc => ?_, fun a ha hf c hc => ?_, ?_⟩
  · exact ((ordT_perm ts).pairwise_iff fun h => dj_symm h).mpr h.dj
  · exact pw_mem dj_symm h.dj (mem ha) (mf hc).1 fun e => by rw [e, (mf hc).2] at hf; cases hf
  · exact fun e => by
      have := uniq_nm h.one.nd (mf hc).1 (mem ha) e
      rw [← this, (mf hc).2] at hf
      cases hf
  · exact ((ordT_perm ts).pairwise_iff fun h => Ne.symm h).mpr (nd_pw h.one.nd)
/-- all of packed -/
theorem pack_all {wide : Int} {ts : List Tile} (h : Drw wide ts) : ∃ ps : List (Tile × Tile), PkE (ts.filter Tile.fx) ps ∧ (ps.map Prod.fst).Perm (ts.filter fun a => !a.fx) ∧ packT ts = srtT (ts.filter Tile.fx ++ ps.map Prod.snd) := by
  refine ⟨pkP (ts.filter Tile.fx) (ordT ts), pk_end h.pkg (h.dj.filter _), ?_, ?_⟩
  · rw [pkP_fst]
    exact (ordT_perm ts).filter _
  · rw [packT, pkP_fold]
section
variable {wide : Int} {ts : List Tile} {ps : List (Tile × Tile)}
/-- each tile, and where it comes -/
theorem pk_find (h : Drw wide ts) (e : PkE (ts.filter Tile.fx) ps) (hp : (ps.map Prod.fst).Perm (ts.filter fun a => !a.fx)) {a : Tile} (ha : a ∈ ts) : ∃ b, b ∈ ts.filter Tile.fx ++ ps.map Prod.snd ∧ Mv a b ∧ (a.fx = true → b = a) ∧ (a.fx = false → (a, b) ∈ ps) := by
  cases hf : a.fx with
  | true => exact ⟨a, List.mem_append_left _ (List.mem_filter.mpr ⟨ha, hf⟩), ⟨rfl, (h.ok a ha).2.2.2.1, Int.le_refl _⟩, fun _ => rfl, (fun z => by cases z)⟩
  | false =>
    have z : a ∈ ps.map Prod.fst := hp.mem_iff.mpr (List.mem_filter.mpr ⟨ha, by simp [hf]⟩)
    obtain ⟨⟨a', b⟩, hm, rfl⟩ := List.mem_map.mp z
    exact ⟨b, List.mem_append_right _ (List.mem_map.mpr ⟨_, hm, rfl⟩), (e.mv _ hm).1, (fun z => by cases z), fun _ => hm⟩
/-- each that comes, and whence -/
theorem pk_from (h : Drw wide ts) (e : PkE (ts.filter Tile.fx) ps) (hp : (ps.map Prod.fst).Perm (ts.filter fun a => !a.fx)) {b : Tile} (hb : b ∈ ts.filter Tile.fx ++ ps.map Prod.snd) : ∃ a, a ∈ ts ∧ Mv a b ∧ (b.fx = false → (a, b) ∈ ps) := by
  rcases List.mem_append.mp hb with hb | hb
  · obtain ⟨h1, h2⟩ := List.mem_filter.mp hb
    exact ⟨b, h1, ⟨rfl, (h.ok b h1).2.2.2.1, Int.le_refl _⟩, fun z => by rw [h2] at z; cases z⟩
  · obtain ⟨⟨a, b'⟩, hm, rfl⟩ := List.mem_map.mp hb
    have z : a ∈ ps.map Prod.fst := List.mem_map.mpr ⟨_, hm, rfl⟩
    exact ⟨a, (List.mem_filter.mp (hp.mem_iff.mp z)).1, (e.mv _ hm).1, fun _ => hm⟩
end
/-- packed, it is packed -/
theorem pack_isPk {wide : Int} {ts : List Tile} (h : Drw wide ts) : isPk (packT ts) = true := by
  obtain ⟨ps, e, hp, eq⟩ := pack_all h
  refine List.all_eq_true.mpr fun b hb => ?_
  unfold pkd
  cases hf : b.fx with
  | true => rfl
  | false =>
    rw [Bool.false_or, decide_eq_true_eq, rais_iff]
    rintro ⟨h1, h2⟩
    have hb' : b ∈ ts.filter Tile.fx ++ ps.map Prod.snd := by
      rw [eq] at hb
      exact (srtT_perm _).mem_iff.mp hb
    obtain ⟨a, _, _, hm⟩ := pk_from h e hp hb'
    rcases (e.mv _ (hm hf)).2.2 with z | ⟨c, hc, hn, hmt⟩
    · have z : b.t = 0 := z
      omega
    · have hc' : c ∈ otT (packT ts) b.nm := List.mem_filter.mpr ⟨by rw [eq]; exact (srtT_perm _).mem_iff.mpr hc, decide_eq_true hn⟩
      have := anyM_no.mp h2 c hc'
      unfold dj at this
      rw [hmt] at this
      cases this
/-- a packed layout, packed, is as it is -/
theorem pk_same {ts : List Tile} (hg : ∀ a ∈ ts, gT a) (hd : ts.Pairwise dj) (hk : isPk ts = true) : ∀ (l acc : List Tile), (∀ a ∈ l, a ∈ ts) → l.Pairwise (fun a b => a.t ≤ b.t) → (∀ c ∈ ts, c ∈ acc ∨ (c ∈ l ∧ c.fx = false)) → l.foldl pkS acc = acc ++ l.filter fun a => !a.fx
  | [], acc, _, _, _ => by simp
  | a :: l, acc, hm, ho, hc => by
    have ho' := List.pairwise_cons.mp ho
    rw [List.foldl_cons, pkS]
    cases hf : a.fx with
    | true =>
      rw [if_pos rfl, List.filter_cons_of_neg (by simp [hf])]
      refine pk_same hg hd hk l acc (fun b hb => hm b (List.mem_cons_of_mem _ hb)) ho'.2 fun c hc' => ?_
      rcases hc c hc' with h | ⟨h, h2⟩
      · exact .inl h
      · rcases List.mem_cons.mp h with h | h
        · rw [h, hf] at h2
          cases h2
        · exact .inr ⟨h, h2⟩
    | false =>
      have ha := hm a List.mem_cons_self
      have hp : pkd ts a = true := List.all_eq_true.mp hk a ha
      unfold pkd at hp
      rw [hf, Bool.false_or, decide_eq_true_eq, rais_iff] at hp
      have hr : rais acc a = a := by
        refine rais_stay fun ⟨h0, hn⟩ => hp ⟨h0, ?_⟩
        refine anyM_no.mpr fun c hc' => ?_
        obtain ⟨c1, c2⟩ := List.mem_filter.mp hc'
        have c2 := of_decide_eq_true c2
        have hne : a ≠ c := fun z => c2 (by rw [z])
        have dac := dj_iff.mp (pw_mem dj_symm hd ha c1 hne)
        rw [dj_iff]
        rintro ⟨m1, m2, m3⟩
        have e1 : ({ a with t := a.t - 1 } : Tile).t = a.t - 1 := rfl
        have e2 : ({ a with t := a.t - 1 } : Tile).h = a.h := rfl
        rw [e1] at m2
        rw [e1, e2] at m3
        have m1 : cols a c := m1
        have gc := (hg c c1).2.2.1
        have h3 : ¬ a.t < c.t + c.h := fun z => dac ⟨m1, z, by omega⟩
        rcases hc c c1 with h | ⟨h, _⟩
        · have z := dj_iff.mp (anyM_no.mp hn c h)
          rw [e1, e2] at z
          exact z ⟨m1, m2, m3⟩
        · rcases List.mem_cons.mp h with h | h
          · exact hne h.symm
          · have := ho'.1 c h
            omega
      rw [if_neg (by decide), hr, List.filter_cons_of_pos (by simp [hf]), pk_same hg hd hk l (acc ++ [a]) (fun b hb => hm b (List.mem_cons_of_mem _ hb)) ho'.2 fun c hc' => ?_]
      · simp
      · rcases hc c hc' with h | ⟨h, h2⟩
        · exact .inl (List.mem_append_left _ h)
        · rcases List.mem_cons.mp h with h | h
          · exact .inl (List.mem_append_right _ (by rw [h]; exact List.mem_cons_self))
          · exact .inr ⟨h, h2⟩
theorem pack_id {ts : List Tile} (hg : ∀ a ∈ ts, gT a) (hd : ts.Pairwise dj) (hs : srtT ts = ts) (hk : isPk ts = true) : packT ts = ts := by
  rw [packT, pk_same hg hd hk (ordT ts) (ts.filter Tile.fx) (fun a ha => (ordT_perm ts).mem_iff.mp ha) (ordT_srt ts) fun c hc => ?_]
  · rw [srtT_eq (List.Perm.trans (List.Perm.append_left _ ((ordT_perm ts).filter _)) (split_perm Tile.fx ts)), hs]
  · cases hf : c.fx with
    | true => exact .inl (List.mem_filter.mpr ⟨hc, hf⟩)
    | false => exact .inr ⟨(ordT_perm ts).mem_iff.mpr hc, rfl⟩
/-! ### names in order -/
theorem lex_nat : ∀ x y : List Nat, HT.lexLt (x.map fun (n : Nat) => (n : Int)) (y.map fun (n : Nat) => (n : Int)) = decide (x < y)
  | [], [] => rfl
  | [], b :: y => by
    rw [show decide ([] < b :: y) = true from decide_eq_true (List.nil_lt_cons _ _)]
    rfl
  | a :: x, [] => by
    rw [show decide (a :: x < []) = false from decide_eq_false (List.not_lt_nil _)]
    rfl
  | a :: x, b :: y => by
    rw [List.map_cons, List.map_cons, HT.lexLt_cons, lex_nat x y]
    by_cases e : a = b
    · subst e
      rw [if_pos rfl]
      simp
    · rw [if_neg (by omega)]
      have h : (a :: x < b :: y) ↔ a < b := by
        rw [List.cons_lt_cons_iff]
        simp [e]
      by_cases h2 : a < b
      · rw [decide_eq_true (h.mpr h2), decide_eq_true (by omega)]
      · rw [decide_eq_false (fun z => h2 (h.mp z)), decide_eq_false (by omega)]
theorem ltT_nm {a b : Tile} (h : a.nm ≠ b.nm) : ltT a b = sLt a.nm b.nm := by
  show lexK (kx (.str a.nm) :: _) (kx (.str b.nm) :: _) = _
  rw [lexK, if_neg (fun z => h (kx_str z))]
  exact lex_nat _ _
theorem sLt_of {a b : Tile} (h : a.nm ≠ b.nm) (h2 : ltT b a = false) : sLt a.nm b.nm = true := by
  rw [← ltT_nm h]
  cases q : ltT a b with
  | true => rfl
  | false => exact absurd (by rw [ltT_tri q h2]) h
theorem srt_names {ts : List Tile} (nd : (ts.map Tile.nm).Nodup) (hs : srtT ts = ts) : ts.Pairwise fun a b => sLt a.nm b.nm = true := by
  have h1 : SrtO.Srtd ltT ts := by
    rw [← hs]
    exact isort_srtd swo_ltT ts
  exact (List.Pairwise.and h1 (nd_pw nd)).imp fun {a b} h => sLt_of h.2 h.1
/-- a layout of the board -/
theorem isLay_of {wide : Int} {ts : List Tile} (nd : (ts.map Tile.nm).Nodup) (hs : srtT ts = ts) (hd : ts.Pairwise dj) (ht : ∀ a ∈ ts, isT wide a = true) : isLay wide ts = true := by
  unfold isLay
  rw [List.all_eq_true.mpr ht, Bool.true_and, Bool.not_eq_true', List.any_eq_false]
  rintro ⟨k, a⟩ hp
  have hk := mem_enT hp
  obtain ⟨hkl, hka⟩ := List.getElem?_eq_some_iff.mp hk
  have hka : ts[k] = a := hka
  unfold badK
  rw [Bool.not_eq_true, Bool.or_eq_false_iff]
  constructor
  · by_cases h0 : 0 < k
    · have hb : ts[k - 1]? = some ts[k - 1] := List.getElem?_eq_getElem (by omega)
      have z := List.pairwise_iff_getElem.mp (srt_names nd hs) (k - 1) k (by omega) hkl (by omega)
      rw [hka] at z
      show (decide (0 < k) && !(match ts[k - 1]? with | some b => sLt b.nm a.nm | none => true)) = false
      rw [hb]
      show (decide (0 < k) && !(sLt ts[k - 1].nm a.nm)) = false
      rw [z, Bool.not_true, Bool.and_false]
    · show (decide (0 < k) && _) = false
      rw [decide_eq_false h0, Bool.false_and]
  · refine anyM_no.mpr fun b hb => ?_
    obtain ⟨i, hi, e⟩ := List.getElem_of_mem hb
    rw [List.length_take] at hi
    rw [List.getElem_take] at e
    have z := List.pairwise_iff_getElem.mp hd i k (by omega) hkl (by omega)
    rw [e, hka] at z
    exact dj_symm z
/-! ### tiles that keep their shape keep their places in the row -/
theorem srt_map {f : Tile → Tile} (hf : ∀ a, (f a).nm = a.nm) {l : List Tile} (nd : (l.map Tile.nm).Nodup) : (srtT l).map f = srtT (l.map f) := by
  have nd2 : ((srtT l).map Tile.nm).Nodup := ((srtT_perm l).map _).nodup_iff.mpr nd
  have p : ((srtT l).map f).Perm (l.map f) := (srtT_perm l).map _
  refine isort_uniq swo_ltT ?_ ⟨p, fun x => perm_const (x := x) (p.filter _) fun a ha => ?_⟩
  · have z := srt_names nd2 (srtT_idem l)
    show List.Pairwise _ ((srtT l).map f)
    rw [List.pairwise_map]
    refine (List.Pairwise.and z (nd_pw nd2)).imp fun {a b} h => ?_
    have hn : (f a).nm ≠ (f b).nm := by rw [hf, hf]; exact h.2
    refine swo_ltT.asym _ _ ?_
    rw [ltT_nm hn, hf, hf]
    exact h.1
  · obtain ⟨h1, h2⟩ := SrtO.eqv_iff.mp (List.mem_filter.mp ha).2
    exact (ltT_tri h1 h2).symm
end Tl
set_option maxHeartbeats 4000000
namespace Tl
open PySem PySem.Spec L2
/-! ### calls, one by one -/
section
variable {Γ : Fns} {ρ : Env0D} {a b c : C} {ts : List Tile} {nm : Str} {x y : Tile} {wide n k : Int} {ns : List Int}
theorem ev_do_meet (h : Γ "do_meet" = some (2, do_meetS)) (h1 : ev Γ a ρ = .ok (tD x)) (h2 : ev Γ b ρ = .ok (tD y)) : ev Γ (.call "do_meet" a (.cons b .nil)) ρ = .ok (.bool (meet x y)) := ev_call h dom2T_inj (x, y) h1 (evs_cons h2 evs_nil) rfl rfl
theorem ev_tile_of (h : Γ "tile_of" = some (2, tile_ofS)) (h1 : ev Γ a ρ = .ok (.tuple (tsD ts))) (h2 : ev Γ b ρ = .ok (.str nm)) (g : gP (ts, nm)) (hf : ts.find? (hasN nm) = some x) : ev Γ (.call "tile_of" a (.cons b .nil)) ρ = .ok (tD x) := by
  have z := ev_call h dom_tn_inj (ts, nm) h1 (evs_cons h2 evs_nil) rfl rfl
  rw [tile_ofF, if_pos g] at z
  rw [z]
  show (match ts.find? (hasN nm) with | some a => Res.ok (tD a) | none => Res.exc "NoTile") = _
  rw [hf]
theorem ev_others (h : Γ "others" = some (2, othersS)) (h1 : ev Γ a ρ = .ok (.tuple (tsD ts))) (h2 : ev Γ b ρ = .ok (.str nm)) (g : gP (ts, nm)) : ev Γ (.call "others" a (.cons b .nil)) ρ = .ok (.tuple (tsD (otT ts nm))) := by
  have z := ev_call h dom_tn_inj (ts, nm) h1 (evs_cons h2 evs_nil) rfl rfl
  rw [othersF, if_pos g] at z
  exact z
theorem ev_slid (h : Γ "slid" = some (2, slidS)) (h1 : ev Γ a ρ = .ok (.tuple (tsD ts))) (h2 : ev Γ b ρ = .ok (.str nm)) (g : gP (ts, nm)) (hf : ts.find? (hasN nm) = some x) (hx : x.fx = false) : ev Γ (.call "slid" a (.cons b .nil)) ρ = .ok (.tuple (tsD (slidT ts x))) := by
  have z := ev_call h dom_tn_inj (ts, nm) h1 (evs_cons h2 evs_nil) rfl rfl
  rw [slidF, if_pos g] at z
  rw [z]
  show (match ts.find? (hasN nm) with | some a => if a.fx = true then Res.exc "Fixed" else Res.ok (PyData.tuple (tsD (slidT ts a))) | none => Res.exc "NoTile") = _
  rw [hf]
  show (if x.fx = true then _ else _) = _
  rw [hx]
  rfl
theorem ev_packed {f : Str} (h : Γ f = some (1, packedS)) (h1 : ev Γ a ρ = .ok (.tuple (tsD ts))) (g : gL 400 ts) : ev Γ (.call f a .nil) ρ = .ok (.tuple (tsD (packT ts))) := by
  have z := ev_call h dom_ts_inj ts h1 evs_nil rfl rfl
  rw [packedF, if_pos g] at z
  exact z
theorem ev_is_packed (h : Γ "is_packed" = some (1, is_packedS)) (h1 : ev Γ a ρ = .ok (.tuple (tsD ts))) (g : gL 400 ts) : ev Γ (.call "is_packed" a .nil) ρ = .ok (.bool (isPk ts)) := by
  have z := ev_call h dom_ts_inj ts h1 evs_nil rfl rfl
  rw [is_packedF, if_pos g] at z
  exact z
theorem ev_is_layout (h : Γ "is_layout" = some (2, is_layoutS)) (h1 : ev Γ a ρ = .ok (.int wide)) (h2 : ev Γ b ρ = .ok (.tuple (tsD ts))) (g : nL ts) : ev Γ (.call "is_layout" a (.cons b .nil)) ρ = .ok (.bool (isLay wide ts)) := by
  have z := ev_call h dom_its_inj (wide, ts) h1 (evs_cons h2 evs_nil) rfl rfl
  rw [is_layoutF, if_pos g] at z
  exact z
theorem ev_cell (h : Γ "_law_cell" = some (2, law_cellS)) (h1 : ev Γ a ρ = .ok (scrD ns)) (h2 : ev Γ b ρ = .ok (.int k)) (g : 0 ≤ k) : ev Γ (.call "_law_cell" a (.cons b .nil)) ρ = .ok (.int (cellOf ns k)) := by
  have z := ev_call h dom_ce_inj (ns, k) h1 (evs_cons h2 evs_nil) rfl rfl
  rw [if_pos g] at z
  exact z
theorem ev_wide (h : Γ "_law_wide" = some (1, law_wideS)) (h1 : ev Γ a ρ = .ok (.int k)) : ev Γ (.call "_law_wide" a .nil) ρ = .ok (.int (widA k)) := ev_call h dom_i_inj k h1 evs_nil rfl rfl
theorem ev_layout (h : Γ "_law_layout" = some (3, law_layoutS)) (h1 : ev Γ a ρ = .ok (.int k)) (h2 : ev Γ b ρ = .ok (.int wide)) (h3 : ev Γ c ρ = .ok (.int n)) (g1 : 1 ≤ wide) (g2 : 0 ≤ n) (g3 : n ≤ 10) : ev Γ (.call "_law_layout" a (.cons b (.cons c .nil))) ρ = .ok (.tuple (tsD (layT k wide n))) := by
  have z := ev_call h dom_3i_inj (k, wide, n) h1 (evs_cons h2 (evs_cons h3 evs_nil)) rfl rfl
  rw [if_pos (show 1 ≤ wide ∧ 0 ≤ n ∧ n ≤ 10 from ⟨g1, g2, g3⟩)] at z
  exact z
/-- cell(script, k % 9) + 31 * k -/
theorem ev_cell31 {m : Int} (h : Γ "_law_cell" = some (2, law_cellS)) (h1 : ev Γ a ρ = .ok (scrD ns)) (h2 : ev Γ b ρ = .ok (.int k)) (hm : 0 < m) (f : Int) (hf : -1000 < f ∧ f < 1000) : ev Γ (.op .add (.call "_law_cell" a (.cons (.op .mod b (.int m)) .nil)) (.op .mul (.int f) b)) ρ = .ok (.int (cellOf ns (k % m) + f * k)) := by
  refine ev_op (ev_cell h h1 (ev_op h2 (e := .int m) (by simp [ev]) (gd_of (decide_eq_true hm) _)) (Int.emod_nonneg _ (by omega))) (ev_op (d := .int f) (by simp [ev]) h2 (gd_of (decide_eq_true (.inl (by omega))) _)) rfl
end
section
variable {Γ : Fns} {n i : Nat} {t c : C} {a ss : Ss} {ρ : EnvS} {d : D}
/-- if t: .., where t is False -/
theorem x_ifF (h : ev Γ t (seeM (vsC t) ρ) = .ok (.bool false)) : exSs Γ n (.cons (.iff t a .nil) ss) ρ = exSs Γ n ss ρ := by
  rw [x_iff h rfl, if_neg (by decide), x_nil, fl_nx]
theorem x_ifT {b : Ss} (h : ev Γ t (seeM (vsC t) ρ) = .ok (.bool true)) : exSs Γ n (.cons (.iff t a b) ss) ρ = (exSs Γ n a ρ).bind fun ρ => exSs Γ n ss ρ := by
  rw [x_iff h rfl, if_pos rfl]
end
/-! ### == of a thing with itself -/
mutual
theorem eqv_rfl : ∀ d : D, plain d = true → PyData.eqv d d = true
  | .none, _ => rfl
  | .bool b, _ => by simp [PyData.eqv]
  | .int i, _ => by simp [PyData.eqv]
  | .str x, _ => by simp [PyData.eqv]
  | .list ds, h => by
    rw [PyData.eqv]
    exact eqv_rflA ds (by simpa [plain] using h)
  | .tuple ds, h => by
    rw [PyData.eqv]
    exact eqv_rflA ds (by simpa [plain] using h)
  | .dict _, h => by simp [plain] at h
theorem eqv_rflA : ∀ ds : List D, plainA ds = true → PyData.eqvAll ds ds = true
  | [], _ => rfl
  | d :: ds, h => by
    rw [plainA, Bool.and_eq_true] at h
    rw [PyData.eqvAll, eqv_rfl d h.1, eqv_rflA ds h.2]
    rfl
end
theorem eqv_self {d : D} (h : SeqAt.shaped d = true) : PyData.eqv d d = true := eqv_rfl d (plain_of_shaped h)
theorem cm_neSelf {d : D} (h : SeqAt.shaped d = true) : cmpD .ne d d = some (.bool false) := by
  show Option.map PyData.bool (cmpV .ne d d) = _
  have e : cmpV .ne d d = gd (SeqAt.shaped d && SeqAt.shaped d) (!PyData.eqv d d) := by cases d <;> rfl
  rw [e, h, eqv_self h]
  rfl
theorem cm_eqSelf {d : D} (h : SeqAt.shaped d = true) : cmpD .eq d d = some (.bool true) := by
  show Option.map PyData.bool (cmpV .eq d d) = _
  have e : cmpV .eq d d = gd (SeqAt.shaped d && SeqAt.shaped d) (PyData.eqv d d) := by cases d <;> rfl
  rw [e, h, eqv_self h]
  rfl
theorem cm_eqTs {as bs : List Tile} (h1 : ∀ a ∈ as, nOk a.nm) (h2 : ∀ a ∈ bs, nOk a.nm) : cmpD .eq (.tuple (tsD as)) (.tuple (tsD bs)) = some (.bool (decide (as = bs))) := by
  show Option.map PyData.bool (gd (SeqAt.shaped (sqD false (tsD as)) && SeqAt.shaped (sqD false (tsD bs))) (PyData.eqvAll (tsD as) (tsD bs))) = _
  rw [shaped_sq h1, shaped_sq h2, eqvAll_ts]
  rfl
theorem cm_neTs {as bs : List Tile} (h1 : ∀ a ∈ as, nOk a.nm) (h2 : ∀ a ∈ bs, nOk a.nm) : cmpD .ne (.tuple (tsD as)) (.tuple (tsD bs)) = some (.bool (decide (as ≠ bs))) := by
  show Option.map PyData.bool (gd (SeqAt.shaped (sqD false (tsD as)) && SeqAt.shaped (sqD false (tsD bs))) (!PyData.eqvAll (tsD as) (tsD bs))) = _
  rw [shaped_sq h1, shaped_sq h2, eqvAll_ts]
  by_cases e : as = bs <;> simp [e]
theorem cm_neB (a b : Bool) : cmpD .ne (.bool a) (.bool b) = some (.bool (decide (a ≠ b))) := by cases a <;> cases b <;> rfl
theorem cm_isT (a : Bool) : cmpD .isnot (.bool a) (.bool true) = some (.bool (!a)) := by cases a <;> rfl
theorem OneOk.nms {ts : List Tile} (h : OneOk ts) : ∀ a ∈ ts, nOk a.nm := fun a ha => (h.g.ok a ha).2
theorem OneOk.gp {ts : List Tile} (h : OneOk ts) {nm : Str} (hn : nOk nm) : gP (ts, nm) := ⟨h.g.mono (by decide), hn⟩
theorem nms10_len : ∀ x ∈ nms10, x.length ≤ 1000 := by decide +kernel
theorem OneOk.nL {ts : List Tile} (h : OneOk ts) : nL ts := ⟨Nat.le_trans h.g.len (by decide), fun a ha => nms10_len _ (h.nm a ha)⟩
theorem OneOk.g4 {ts : List Tile} (h : OneOk ts) : gL 400 ts := h.g.mono (by decide)
theorem nms10_nm : ∀ x ∈ nms10, isNm x = true := by decide +kernel
end Tl
set_option maxHeartbeats 4000000
namespace Tl
open PySem PySem.Spec L2
/-! ### what law k06 asks -/
def sh0 (a : Tile) : Tile := { a with t := 0 }
section
variable {wide : Int} {ts : List Tile}
theorem isT_of {a : Tile} (h : okT wide a) (hn : a.nm ∈ nms10) (ht : a.t ≤ 99) (hh : a.h ≤ 6) : isT wide a = true := by
  obtain ⟨⟨h1, h2, h3, h4⟩, h5, h6, h7, h8⟩ := h
  unfold isT inR
  rw [nms10_nm _ hn]
  simp
  omega
theorem pk_dj (h : Drw wide ts) : (packT ts).Pairwise dj := by
  obtain ⟨ps, e, hp, eq⟩ := pack_all h
  rw [eq]
  exact ((srtT_perm _).pairwise_iff fun h => dj_symm h).mpr e.dj
theorem pk_mv (h : Drw wide ts) {b : Tile} (hb : b ∈ packT ts) : ∃ a, a ∈ ts ∧ Mv a b := by
  obtain ⟨ps, e, hp, eq⟩ := pack_all h
  rw [eq] at hb
  obtain ⟨a, h1, h2, _⟩ := pk_from h e hp ((srtT_perm _).mem_iff.mp hb)
  exact ⟨a, h1, h2⟩
theorem pk_gT (h : Drw wide ts) : ∀ b ∈ packT ts, gT b := fun b hb => by
  obtain ⟨a, h1, h2⟩ := pk_mv h hb
  exact h2.gT (h.ok a h1).1
theorem pk_twice (h : Drw wide ts) : packT (packT ts) = packT ts := pack_id (pk_gT h) (pk_dj h) (srtT_idem _) (pack_isPk h)
theorem okT_mv {a b : Tile} (h : okT wide a) (m : Mv a b) : okT wide b := by
  have hn := m.nn
  rw [m.sh]
  exact ⟨h.1, h.2.1, h.2.2.1, hn, h.2.2.2.2⟩
theorem Drw.pack (h : Drw wide ts) : Drw wide (packT ts) := by
  refine ⟨h.one.pack, pk_dj h, fun b hb => ?_, fun b hb => ?_⟩
  · obtain ⟨a, h1, h2⟩ := pk_mv h hb
    exact okT_mv (h.ok a h1) h2
  · obtain ⟨a, h1, h2⟩ := pk_mv h hb
    have := h.bd a h1
    have hl := h2.le
    exact ⟨by have := this.t; omega, by rw [h2.sh]; exact this.h⟩
theorem Drw.lay (h : Drw wide ts) : isLay wide ts = true := isLay_of h.one.nd h.one.srt h.dj fun a ha => isT_of (h.ok a ha) (h.one.nm a ha) (by have := (h.bd a ha).t; omega) (by have := (h.bd a ha).h; omega)
theorem pk_shape (h : Drw wide ts) : (packT ts).map sh0 = ts.map sh0 := by
  obtain ⟨ps, e, hp, eq⟩ := pack_all h
  have p : ((ts.filter Tile.fx ++ ps.map Prod.snd).map sh0).Perm (ts.map sh0) := by
    have e1 : (ps.map Prod.snd).map sh0 = (ps.map Prod.fst).map sh0 := by
      rw [List.map_map, List.map_map]
      refine List.map_congr_left fun q hq => ?_
      have m := (e.mv q hq).1
      show sh0 q.2 = sh0 q.1
      rw [m.sh]
      rfl
    rw [List.map_append, e1, ← List.map_append]
    exact List.Perm.map _ ((List.Perm.append_left _ hp).trans (split_perm Tile.fx ts))
  have n1 : ((ts.filter Tile.fx ++ ps.map Prod.snd).map Tile.nm).Nodup := by
    have z := h.one.pack.nd
    rw [eq] at z
    exact ((srtT_perm _).map _).nodup_iff.mp z
  rw [eq, srt_map (f := sh0) (fun _ => rfl) n1, srtT_eq p, ← srt_map (f := sh0) (fun _ => rfl) h.one.nd, h.one.srt]
/-- where each comes -/
theorem pk_at (h : Drw wide ts) {a : Tile} (ha : a ∈ ts) : ∃ b, (packT ts).find? (hasN a.nm) = some b ∧ Mv a b ∧ (a.fx = true → b = a) := by
  obtain ⟨ps, e, hp, eq⟩ := pack_all h
  obtain ⟨b, h1, h2, h3, _⟩ := pk_find h e hp ha
  have hb : b ∈ packT ts := by
    rw [eq]
    exact (srtT_perm _).mem_iff.mpr h1
  refine ⟨b, ?_, h2, h3⟩
  rw [← h2.nm]
  exact find_self h.one.pack.nd hb
theorem pk_above (h : Drw wide ts) {a c b d : Tile} (ha : a ∈ ts) (hc : c ∈ ts) (fa : a.fx = false) (fc : c.fx = false) (ht : a.t < c.t) (hcol : cols a c) (hb : (packT ts).find? (hasN a.nm) = some b) (hd : (packT ts).find? (hasN c.nm) = some d) : b.t + b.h ≤ d.t := by
  obtain ⟨ps, e, hp, eq⟩ := pack_all h
  have get : ∀ {a b : Tile}, a ∈ ts → a.fx = false → (packT ts).find? (hasN a.nm) = some b → (a, b) ∈ ps := fun {a b} ha fa hb => by
    obtain ⟨b', h1, h2, _, h4⟩ := pk_find h e hp ha
    have hb' : b' ∈ packT ts := by
      rw [eq]
      exact (srtT_perm _).mem_iff.mpr h1
    have z := find_self h.one.pack.nd hb'
    rw [h2.nm, hb] at z
    cases z
    exact h4 fa
  have p1 := get ha fa hb
  have p2 := get hc fc hd
  have ne : (a, b) ≠ (c, d) := fun z => by
    have : a = c := congrArg Prod.fst z
    rw [this] at ht
    omega
  have pw := e.ab
  have key : ∀ {l : List (Tile × Tile)} {R : Tile × Tile → Tile × Tile → Prop}, l.Pairwise R → ∀ {p q}, p ∈ l → q ∈ l → p ≠ q → R p q ∨ R q p := by
    intro l R hl
    induction l with
    | nil => intro p q hp; cases hp
    | cons x l ih =>
      intro p q hp hq hne
      rw [List.pairwise_cons] at hl
      rcases List.mem_cons.mp hp with h1 | h1 <;> rcases List.mem_cons.mp hq with h2 | h2
      · exact absurd (h1.trans h2.symm) hne
      · rw [h1]; exact .inl (hl.1 q h2)
      · rw [h2]; exact .inr (hl.1 p h1)
      · exact ih hl.2 h1 h2 hne
  rcases key pw p1 p2 ne with z | z
  · exact z.2 hcol
  · have : c.t ≤ a.t := z.1
    omega
/-- packed just if packing changes nothing -/
theorem pk_iff (h : Drw wide ts) : decide (packT ts = ts) = isPk ts := by
  cases q : isPk ts with
  | true => exact decide_eq_true (pack_id (fun a ha => (h.ok a ha).1) h.dj h.one.srt q)
  | false =>
    refine decide_eq_false fun z => ?_
    have := pack_isPk h
    rw [z, q] at this
    cases this
def looseT (ts : List Tile) : List Tile := ts.filter fun a => !a.fx
theorem pk_slid (h : Drw wide ts) : isPk ts = ((looseT ts).filter fun a => decide (slidT ts a ≠ ts)).isEmpty := by
  rw [Bool.eq_iff_iff, List.isEmpty_iff, List.filter_eq_nil_iff]
  unfold isPk
  rw [List.all_eq_true]
  constructor
  · intro H a ha
    obtain ⟨h1, h2⟩ := List.mem_filter.mp ha
    rcases (pkd_iff h.one h1).mp (H a h1) with z | z
    · rw [z] at h2
      cases h2
    · simp [z]
  · intro H a ha
    cases hf : a.fx with
    | true => simp [pkd, hf]
    | false =>
      have z := H a (List.mem_filter.mpr ⟨ha, by simp [hf]⟩)
      simp at z
      exact (pkd_iff h.one ha).mpr (.inr z)
/-- a tile that slid alone -/
theorem slid_at (h : Drw wide ts) {a : Tile} (ha : a ∈ ts) : (slidT ts a).find? (hasN a.nm) = some (rais (otT ts a.nm) a) := by
  have nd : ((slidT ts a).map Tile.nm).Nodup := by
    refine ((srtT_perm _).map _).nodup_iff.mpr ?_
    have p := ((otT_perm h.one.nd ha).map Tile.nm).nodup_iff.mpr h.one.nd
    rw [List.map_append, List.map_cons, List.map_nil] at p ⊢
    rw [rais_nm]
    exact p
  have z := find_self nd (a := rais (otT ts a.nm) a) ((srtT_perm _).mem_iff.mpr (List.mem_append_right _ List.mem_cons_self))
  rw [rais_nm] at z
  exact z
theorem slid_dj (h : Drw wide ts) {a : Tile} (ha : a ∈ ts) : ∀ c ∈ ts, c.nm ≠ a.nm → dj c (rais (otT ts a.nm) a) := fun c hc hn => by
  have z : anyM (rais (otT ts a.nm) a) (otT ts a.nm) = false := upF_free (anyM_no.mpr fun d hd => by
    obtain ⟨d1, d2⟩ := List.mem_filter.mp hd
    exact pw_mem dj_symm h.dj ha d1 fun e => of_decide_eq_true d2 (by rw [e]))
  exact dj_symm (anyM_no.mp z c (List.mem_filter.mpr ⟨hc, decide_eq_true hn⟩))
end
end Tl
set_option maxHeartbeats 4000000
namespace Tl
open PySem PySem.Spec L2
/-! ### lowered -/
structure Lw (a b : Tile) : Prop where
  sh : b = { a with t := b.t }
  ge : a.t ≤ b.t
theorem lowF_lw {ts : List Tile} : ∀ {n : Nat} {a : Tile}, Lw a (lowF n ts a)
  | 0, a => ⟨rfl, Int.le_refl _⟩
  | n + 1, a => by
    rw [lowF]
    split
    · have z := lowF_lw (ts := ts) (n := n) (a := { a with t := a.t + 1 })
      have e : ({ a with t := a.t + 1 } : Tile).t = a.t + 1 := rfl
      exact ⟨z.sh, by have := z.ge; omega⟩
    · exact ⟨rfl, Int.le_refl _⟩
theorem lower_lw {ts : List Tile} {a : Tile} : Lw a (lower ts a) := lowF_lw
theorem lowF_free {ts : List Tile} : ∀ {n : Nat} {a : Tile}, bd ts a ≤ n → anyM (lowF n ts a) ts = false
  | 0, a, h => bd_zero h
  | n + 1, a, h => by
    rw [lowF]
    split
    · exact lowF_free (bd_succ h)
    · rename_i q
      simpa using q
theorem lower_free {ts : List Tile} {a : Tile} : anyM (lower ts a) ts = false := lowF_free (Nat.le_refl _)
theorem lower_stay {ts : List Tile} {a : Tile} (h : anyM a ts = false) : lower ts a = a := by
  unfold lower
  cases bd ts a with
  | zero => rfl
  | succ n => rw [lowF, h]; rfl
theorem lowF_least {ts : List Tile} : ∀ {n : Nat} {a : Tile} (r : Int), a.t ≤ r → r < (lowF n ts a).t → anyM { a with t := r } ts = true
  | 0, a, r, h1, h2 => by
    have h2 : r < a.t := h2
    omega
  | n + 1, a, r, h1, h2 => by
    rw [lowF] at h2
    split at h2
    · rename_i q
      by_cases e : r = a.t
      · subst e
        exact q
      · exact lowF_least (n := n) (a := { a with t := a.t + 1 }) r (by show a.t + 1 ≤ r; omega) h2
    · have h2 : r < a.t := h2
      omega
theorem lower_least {ts : List Tile} {a : Tile} (r : Int) (h1 : a.t ≤ r) (h2 : r < (lower ts a).t) : anyM { a with t := r } ts = true := lowF_least r h1 h2
theorem lower_le {ts : List Tile} {a : Tile} {B : Int} (h : a.t ≤ B) (hb : ∀ b ∈ ts, b.t + b.h ≤ B) : (lower ts a).t ≤ B := by
  by_cases q : (lower ts a).t ≤ B
  · exact q
  · obtain ⟨b, h1, h2⟩ := List.any_eq_true.mp (lower_least (ts := ts) (a := a) B h (by omega))
    have z := meet_lt h2
    have z : B < b.t + b.h := z
    have := hb b h1
    omega
theorem Lw.nm {a b : Tile} (h : Lw a b) : b.nm = a.nm := by rw [h.sh]
/-! ### narrowed, tile by tile -/
theorem nar_ok {a : Tile} {new : Int} (ga : gT a) (hl : 0 ≤ a.l) (hn : 1 ≤ new) : gT (nar a new) ∧ 0 ≤ (nar a new).l ∧ (nar a new).l + (nar a new).w ≤ new ∧ (nar a new).l ≤ a.l := by
  obtain ⟨h1, h2, h3, h4⟩ := ga
  have e1 : (nar a new).w = mnI a.w new := rfl
  have e2 : (nar a new).l = mnI a.l (new - mnI a.w new) := rfl
  have e3 : (nar a new).h = a.h := rfl
  unfold gT
  rw [e1, e2, e3]
  unfold mnI
  by_cases q : new < a.w
  · rw [if_pos q]
    by_cases q2 : new - new < a.l
    · rw [if_pos q2]; omega
    · rw [if_neg q2]; omega
  · rw [if_neg q]
    by_cases q2 : new - a.w < a.l
    · rw [if_pos q2]; omega
    · rw [if_neg q2]; omega
theorem nar_id {a : Tile} {new : Int} (hl : 0 ≤ a.l) (h : a.l + a.w ≤ new) : nar a new = a := by
  have e1 : mnI a.w new = a.w := by
    unfold mnI
    rw [if_neg (by omega)]
  have e2 : mnI a.l (new - a.w) = a.l := by
    unfold mnI
    rw [if_neg (by omega)]
  unfold nar
  rw [e1, e2]
def npP (new : Int) : List Tile → List Tile → List (Tile × Tile)
  | _, [] => []
  | acc, a :: l => (a, lower acc (nar a new)) :: npP new (acc ++ [lower acc (nar a new)]) l
theorem npP_fold (new : Int) : ∀ (l acc : List Tile), narF new acc l = acc ++ (npP new acc l).map Prod.snd
  | [], acc => by simp [npP, narF]
  | a :: l, acc => by
    rw [narF, npP_fold new l, npP]
    simp
theorem npP_fst (new : Int) : ∀ (l acc : List Tile), (npP new acc l).map Prod.fst = l
  | [], _ => rfl
  | a :: l, acc => by rw [npP, List.map_cons, npP_fst new l]
theorem np_dj (new : Int) : ∀ (l acc : List Tile), acc.Pairwise dj → (acc ++ (npP new acc l).map Prod.snd).Pairwise dj
  | [], acc, h => by simpa [npP] using h
  | a :: l, acc, h => by
    rw [npP]
    have z := np_dj new l (acc ++ [lower acc (nar a new)]) (by
      rw [List.pairwise_append]
      refine ⟨h, List.pairwise_singleton _ _, fun c hc b hb => ?_⟩
      rw [List.mem_singleton.mp hb]
      exact dj_symm (anyM_no.mp lower_free c hc))
    simpa using z
theorem np_lw (new : Int) : ∀ (l acc : List Tile), ∀ p ∈ npP new acc l, Lw (nar p.1 new) p.2
  | [], _, p, hp => by simp [npP] at hp
  | a :: l, acc, p, hp => by
    rw [npP] at hp
    rcases List.mem_cons.mp hp with h | h
    · subst h
      exact lower_lw
    · exact np_lw new l _ p h
/-- no tile comes lower than all heights together -/
theorem np_bd (new : Int) : ∀ (l acc : List Tile) (B : Int), (∀ a ∈ l, a.t ≤ 8 ∧ 0 ≤ a.h ∧ a.h ≤ 3) → 8 ≤ B → (∀ b ∈ acc, b.t + b.h ≤ B) → ∀ p ∈ npP new acc l, p.2.t ≤ B + 3 * l.length
  | [], _, _, _, _, _, p, hp => by simp [npP] at hp
  | a :: l, acc, B, h, hB, hb, p, hp => by
    rw [npP] at hp
    have ha := h a List.mem_cons_self
    have z : (lower acc (nar a new)).t ≤ B := lower_le (by show a.t ≤ B; omega) hb
    have lw := lower_lw (ts := acc) (a := nar a new)
    rcases List.mem_cons.mp hp with q | q
    · subst q
      show (lower acc (nar a new)).t ≤ _
      rw [List.length_cons]
      omega
    · have w := np_bd new l (acc ++ [lower acc (nar a new)]) (B + 3) (fun b hb => h b (List.mem_cons_of_mem _ hb)) (by omega) (fun b hb' => by
        rcases List.mem_append.mp hb' with r | r
        · have := hb b r
          omega
        · rw [List.mem_singleton.mp r]
          have e : (lower acc (nar a new)).h = a.h := by rw [lw.sh]; rfl
          omega) p q
      rw [List.length_cons]
      omega
/-- on a board that is wide enough nothing changes -/
theorem nar_same {new : Int} : ∀ (l acc : List Tile), (∀ a ∈ l, 0 ≤ a.l ∧ a.l + a.w ≤ new) → (acc ++ l).Pairwise dj → narF new acc l = acc ++ l
  | [], acc, _, _ => by simp [narF]
  | a :: l, acc, h, hd => by
    have ha := h a List.mem_cons_self
    rw [narF, nar_id ha.1 ha.2, lower_stay (anyM_no.mpr fun c hc => ?_), nar_same l (acc ++ [a]) (fun b hb => h b (List.mem_cons_of_mem _ hb)) (by simpa using hd)]
    · simp
    · have z := List.pairwise_append.mp hd
      exact dj_symm (z.2.2 c hc a List.mem_cons_self)
theorem narT_id {ts : List Tile} {new : Int} (hd : ts.Pairwise dj) (hs : srtT ts = ts) (h : ∀ a ∈ ts, 0 ≤ a.l ∧ a.l + a.w ≤ new) : narT ts new = ts := by
  have mem : ∀ {a}, a ∈ ordT ts → a ∈ ts := fun ha => (ordT_perm ts).mem_iff.mp ha
  rw [narT, nar_same (ordT ts) [] (fun a ha => h a (mem ha)) (by rw [List.nil_append]; exact ((ordT_perm ts).pairwise_iff fun h => dj_symm h).mpr hd), List.nil_append, srtT_eq (ordT_perm ts), hs]
/-! ### a narrowed layout -/
section
variable {wide new : Int} {ts : List Tile}
theorem nar_pairs (ts : List Tile) (new : Int) : ∃ ps : List (Tile × Tile), narT ts new = srtT (ps.map Prod.snd) ∧ (ps.map Prod.fst).Perm ts ∧ (ps.map Prod.snd).Pairwise dj ∧ (∀ p ∈ ps, Lw (nar p.1 new) p.2) ∧ ps = npP new [] (ordT ts) := by
  refine ⟨npP new [] (ordT ts), ?_, by rw [npP_fst]; exact ordT_perm ts, ?_, np_lw new _ _, rfl⟩
  · rw [narT, npP_fold, List.nil_append]
  · simpa using np_dj new (ordT ts) [] List.Pairwise.nil
theorem nar_names (ts : List Tile) (new : Int) : ((narT ts new).map Tile.nm).Perm (ts.map Tile.nm) := by
  obtain ⟨ps, h1, h2, _, h4, _⟩ := nar_pairs ts new
  rw [h1]
  refine ((srtT_perm _).map _).trans ?_
  have e : (ps.map Prod.snd).map Tile.nm = (ps.map Prod.fst).map Tile.nm := by
    rw [List.map_map, List.map_map]
    refine List.map_congr_left fun p hp => ?_
    have z := (h4 p hp).nm
    exact z
  rw [e]
  exact h2.map _
theorem nar_from {b : Tile} (hb : b ∈ narT ts new) : ∃ a, a ∈ ts ∧ Lw (nar a new) b := by
  obtain ⟨ps, h1, h2, _, h4, _⟩ := nar_pairs ts new
  rw [h1] at hb
  obtain ⟨p, hp, rfl⟩ := List.mem_map.mp ((srtT_perm _).mem_iff.mp hb)
  exact ⟨p.1, h2.mem_iff.mp (List.mem_map_of_mem hp), h4 p hp⟩
theorem nar_drw (h : Drw wide ts) (hs : ∀ a ∈ ts, Sm a) (hl : ts.length ≤ 10) (hn : 1 ≤ new) : Drw new (narT ts new) := by
  have p := nar_names ts new
  have len : (narT ts new).length = ts.length := by
    have := p.length_eq
    rwa [List.length_map, List.length_map] at this
  have ok : ∀ b ∈ narT ts new, okT new b := fun b hb => by
    obtain ⟨a, ha, lw⟩ := nar_from hb
    have ho := h.ok a ha
    obtain ⟨z1, z2, z3, z4⟩ := nar_ok (new := new) ho.1 ho.2.1 hn
    have hge := lw.ge
    have e : (nar a new).t = a.t := rfl
    have h0 := ho.2.2.2.1
    rw [lw.sh]
    exact ⟨z1, z2, z3, by show 0 ≤ b.t; omega, ho.2.2.2.2⟩
  refine ⟨⟨⟨by rw [len]; omega, fun b hb => ⟨(ok b hb).1, (ok b hb).2.2.2.2⟩⟩, p.nodup_iff.mpr h.one.nd, srtT_idem _, fun b hb => ?_⟩, ?_, ok, fun b hb => ?_⟩
  · obtain ⟨a, ha, lw⟩ := nar_from hb
    rw [lw.nm]
    exact h.one.nm a ha
  · obtain ⟨ps, h1, _, h3, _, _⟩ := nar_pairs ts new
    rw [h1]
    exact ((srtT_perm _).pairwise_iff fun h => dj_symm h).mpr h3
  · obtain ⟨ps, h1, h2, _, h4, h5⟩ := nar_pairs ts new
    rw [h1] at hb
    obtain ⟨p, hp, rfl⟩ := List.mem_map.mp ((srtT_perm _).mem_iff.mp hb)
    have mem : ∀ {a}, a ∈ ordT ts → a ∈ ts := fun ha => (ordT_perm ts).mem_iff.mp ha
    rw [h5] at hp
    have z := np_bd new (ordT ts) [] 8 (fun a ha => ⟨(hs a (mem ha)).t, by have := (h.ok a (mem ha)).1.2.2.1; omega, (hs a (mem ha)).h⟩) (by decide) (fun _ z => by cases z) p hp
    have hlen : (ordT ts).length = ts.length := (ordT_perm ts).length_eq
    have hp1 : p.1 ∈ ts := by
      have q : p.1 ∈ (npP new [] (ordT ts)).map Prod.fst := List.mem_map_of_mem hp
      rw [npP_fst] at q
      exact mem q
    refine ⟨by omega, ?_⟩
    rw [(np_lw new _ _ p hp).sh]
    show p.1.h ≤ 6
    have := (hs p.1 hp1).h
    omega
/-- where each comes -/
theorem nar_at (h : Drw wide ts) {a : Tile} (ha : a ∈ ts) : ∃ b, (narT ts new).find? (hasN a.nm) = some b ∧ Lw (nar a new) b := by
  obtain ⟨ps, h1, h2, _, h4, _⟩ := nar_pairs ts new
  obtain ⟨p, hp, e⟩ := List.mem_map.mp (h2.mem_iff.mpr ha)
  have hb : p.2 ∈ narT ts new := by
    rw [h1]
    exact (srtT_perm _).mem_iff.mpr (List.mem_map_of_mem hp)
  have lw := h4 p hp
  rw [e] at lw
  refine ⟨p.2, ?_, lw⟩
  have z := find_self ((nar_names ts new).nodup_iff.mpr h.one.nd) hb
  rw [lw.nm] at z
  exact z
end
end Tl
set_option maxHeartbeats 4000000
namespace Tl
open PySem PySem.Spec L2
theorem perm_const2 {α : Type} {l m : List α} (p : l.Perm m) (h : ∀ a ∈ l, ∀ b ∈ l, a = b) : l = m := by
  cases l with
  | nil => exact (p.nil_eq)
  | cons x l => exact perm_const p fun a ha => h a ha x List.mem_cons_self
/-- tiles at rows that rise are in order -/
theorem ord_rise {l m : List Tile} (h : l.Pairwise fun a b => a.t < b.t) (p : m.Perm l) : ordT m = l := by
  symm
  refine isort_uniq swo_ltO ?_ ⟨p.symm, fun x => perm_const2 (p.symm.filter _) fun a ha b hb => ?_⟩
  · refine h.imp fun {a b} hab => ?_
    show lexK [[b.t], [b.l]] [[a.t], [a.l]] = false
    rw [lexK, if_neg (by simp; omega), HT.lexLt_cons, if_neg (by omega)]
    exact decide_eq_false (by omega)
  · obtain ⟨a1, a2⟩ := List.mem_filter.mp ha
    obtain ⟨b1, b2⟩ := List.mem_filter.mp hb
    have row : ∀ {a x : Tile}, SrtO.eqv ltO x a = true → x.t = a.t := fun {a x} h => by
      obtain ⟨h1, h2⟩ := SrtO.eqv_iff.mp h
      have z := lexK_tri _ _ h1 h2
      have z : [[x.t], [x.l]] = [[a.t], [a.l]] := z
      simp only [List.cons.injEq, and_true] at z
      exact z.1
    have e : a.t = b.t := (row a2).symm.trans (row b2)
    by_cases q : a = b
    · exact q
    · have key : ∀ {l : List Tile}, l.Pairwise (fun a b => a.t < b.t) → ∀ {a b}, a ∈ l → b ∈ l → a ≠ b → a.t ≠ b.t := by
        intro l hl
        induction l with
        | nil => intro a b ha; cases ha
        | cons c l ih =>
          intro a b ha hb hne
          rw [List.pairwise_cons] at hl
          rcases List.mem_cons.mp ha with h1 | h1 <;> rcases List.mem_cons.mp hb with h2 | h2
          · exact absurd (h1.trans h2.symm) hne
          · have := hl.1 b h2
            rw [h1]
            omega
          · have := hl.1 a h1
            rw [h2]
            omega
          · exact ih hl.2 h1 h2 hne
      exact absurd e (key h a1 b1 q)
/-! ### on a board of one column -/
structure Col (a : Tile) : Prop where
  l : a.l = 0
  w : a.w = 1
  h : 1 ≤ a.h
theorem nar_col {a : Tile} (ga : gT a) (hl : 0 ≤ a.l) : Col (nar a 1) := by
  obtain ⟨h1, h2, h3, h4⟩ := ga
  have hw : mnI a.w 1 = 1 := by
    unfold mnI
    split <;> omega
  refine ⟨?_, hw, h3⟩
  show mnI a.l (1 - mnI a.w 1) = 0
  rw [hw]
  unfold mnI
  split <;> omega
theorem Col.cols {a b : Tile} (ha : Col a) (hb : Col b) : Tl.cols a b := by
  unfold Tl.cols
  rw [ha.l, ha.w, hb.l, hb.w]
  omega
theorem Lw.col {a b : Tile} (h : Lw a b) (c : Col a) : Col b := by
  rw [h.sh]
  exact ⟨c.l, c.w, c.h⟩
theorem np_col : ∀ (l acc : List Tile) (B T : Int), (∀ a ∈ l, Col (nar a 1)) → (∀ b ∈ acc, Col b) → (∀ b ∈ acc, b.t + b.h ≤ B) → (∀ r, T ≤ r → r < B → ∃ b ∈ acc, b.t ≤ r ∧ r < b.t + b.h) → (∀ a ∈ l, T ≤ a.t) → l.Pairwise (fun a b => a.t ≤ b.t) →
    ((npP 1 acc l).map Prod.snd).Pairwise (fun a b => a.t < b.t) ∧ ∀ p ∈ npP 1 acc l, B ≤ p.2.t
  | [], _, _, _, _, _, _, _, _, _ => by simp [npP]
  | a :: l, acc, B, T, hc, hca, hB, hcov, hT, ho => by
    have ho' := List.pairwise_cons.mp ho
    have ca := hc a List.mem_cons_self
    have lw := lower_lw (ts := acc) (a := nar a 1)
    have fr := lower_free (ts := acc) (a := nar a 1)
    generalize hx : lower acc (nar a 1) = x at lw fr
    have cx := lw.col ca
    have hTa := hT a List.mem_cons_self
    have e0 : (nar a 1).t = a.t := rfl
    have hge := lw.ge
    rw [e0] at hge
    have hBx : B ≤ x.t := by
      by_cases q : B ≤ x.t
      · exact q
      · obtain ⟨b, hb, b1, b2⟩ := hcov x.t (by omega) (by omega)
        have hh := cx.h
        exact absurd ⟨cx.cols (hca b hb), by omega, by omega⟩ (dj_iff.mp (anyM_no.mp fr b hb))
    have hxm : x.t ≤ max a.t B := by
      rw [← hx]
      exact lower_le (B := max a.t B) (by rw [e0]; omega) fun b hb => by
        have := hB b hb
        omega
    have hh := cx.h
    obtain ⟨r1, r2⟩ := np_col l (acc ++ [x]) (x.t + x.h) a.t (fun b hb => hc b (List.mem_cons_of_mem _ hb)) (fun b hb => by
      rcases List.mem_append.mp hb with h | h
      · exact hca b h
      · rw [List.mem_singleton.mp h]; exact cx) (fun b hb => by
      rcases List.mem_append.mp hb with h | h
      · have := hB b h
        omega
      · rw [List.mem_singleton.mp h]; omega) (fun r h1 h2 => by
      by_cases q : x.t ≤ r
      · exact ⟨x, List.mem_append_right _ List.mem_cons_self, q, h2⟩
      · obtain ⟨b, hb, h⟩ := hcov r (by omega) (by omega)
        exact ⟨b, List.mem_append_left _ hb, h⟩) ho'.1 ho'.2
    rw [npP, hx]
    refine ⟨?_, fun p hp => ?_⟩
    · rw [List.map_cons, List.pairwise_cons]
      refine ⟨fun b hb => ?_, r1⟩
      obtain ⟨p, hp, rfl⟩ := List.mem_map.mp hb
      have := r2 p hp
      show x.t < p.2.t
      omega
    · rcases List.mem_cons.mp hp with h | h
      · rw [h]; exact hBx
      · have := r2 p h
        omega
def inO (ts : List Tile) : List Str := (ordT ts).map Tile.nm
theorem single_order {wide : Int} {ts : List Tile} (h : Drw wide ts) : inO (narT ts 1) = inO ts := by
  have mem : ∀ {a}, a ∈ ordT ts → a ∈ ts := fun ha => (ordT_perm ts).mem_iff.mp ha
  obtain ⟨r1, _⟩ := np_col (ordT ts) [] 0 0 (fun a ha => nar_col (h.ok a (mem ha)).1 (h.ok a (mem ha)).2.1) (fun _ z => by cases z) (fun _ z => by cases z) (fun r h1 h2 => by omega) (fun a ha => (h.ok a (mem ha)).2.2.2.1) (ordT_srt ts)
  obtain ⟨ps, h1, h2, _, h4, h5⟩ := nar_pairs ts 1
  rw [← h5] at r1
  unfold inO
  rw [h1, ord_rise r1 (srtT_perm _), List.map_map]
  have e : ordT ts = ps.map Prod.fst := by rw [h5, npP_fst]
  rw [e, List.map_map]
  exact List.map_congr_left fun p hp => (h4 p hp).nm
/-! ### height, width -/
def mxW (f : Tile → Int) (d : Int) (ts : List Tile) : Int := match ts with
  | [] => d
  | a :: r => maxL (f a) (r.map f)
theorem mxW_ge {f : Tile → Int} {d : Int} {ts : List Tile} {a : Tile} (ha : a ∈ ts) : f a ≤ mxW f d ts := by
  cases ts with
  | nil => cases ha
  | cons b r =>
    have z := maxL_ge (r.map f) (f b)
    rcases List.mem_cons.mp ha with h | h
    · rw [h]; exact z.1
    · exact z.2 _ (List.mem_map_of_mem h)
theorem mxW_at {f : Tile → Int} {d : Int} {ts : List Tile} (h : ts ≠ []) : ∃ a ∈ ts, f a = mxW f d ts := by
  cases ts with
  | nil => exact absurd rfl h
  | cons b r =>
    rcases maxL_mem (r.map f) (f b) with z | z
    · exact ⟨b, List.mem_cons_self, z.symm⟩
    · obtain ⟨a, ha, e⟩ := List.mem_map.mp z
      exact ⟨a, List.mem_cons_of_mem _ ha, e⟩
theorem mxW_le {f : Tile → Int} {d B : Int} {ts : List Tile} (h : ∀ a ∈ ts, f a ≤ B) (hd : d ≤ B) : mxW f d ts ≤ B := by
  by_cases q : ts = []
  · rw [q]; exact hd
  · obtain ⟨a, ha, e⟩ := mxW_at (f := f) (d := d) q
    rw [← e]
    exact h a ha
theorem bestW_eq (ts : List Tile) : bestW ts = mxW (fun a => a.l + a.w) 1 ts := by cases ts <;> rfl
def heiT (ts : List Tile) : Int := mxW (fun a => a.t + a.h) 0 ts
theorem pack_height {wide : Int} {ts : List Tile} (h : Drw wide ts) : heiT (packT ts) ≤ heiT ts := by
  refine mxW_le (fun b hb => ?_) ?_
  · obtain ⟨a, ha, m⟩ := pk_mv h hb
    have z := mxW_ge (f := fun a => a.t + a.h) (d := 0) ha
    have := m.le
    have := m.hh
    show b.t + b.h ≤ heiT ts
    have z : a.t + a.h ≤ heiT ts := z
    omega
  · cases ts with
    | nil => exact Int.le_refl _
    | cons a r =>
      have z := mxW_ge (f := fun a => a.t + a.h) (d := 0) (ts := a :: r) List.mem_cons_self
      have z : a.t + a.h ≤ heiT (a :: r) := z
      have ho := h.ok a List.mem_cons_self
      have := ho.1.2.2.1
      have := ho.2.2.2.1
      omega
/-! ### the least width -/
theorem best_isLay {wide : Int} {ts : List Tile} (h : Drw wide ts) : isLay (bestW ts) ts = true := isLay_of h.one.nd h.one.srt h.dj fun a ha => by
  have ho := h.ok a ha
  have z := mxW_ge (f := fun a => a.l + a.w) (d := 1) ha
  refine isT_of ⟨ho.1, ho.2.1, ?_, ho.2.2.2⟩ (h.one.nm a ha) (by have := (h.bd a ha).t; omega) (h.bd a ha).h
  rw [bestW_eq]
  exact z
theorem less_isLay {ts : List Tile} (h : 1 < bestW ts) : isLay (bestW ts - 1) ts = false := by
  have hne : ts ≠ [] := fun z => by
    rw [z] at h
    exact absurd h (by decide)
  obtain ⟨a, ha, e⟩ := mxW_at (f := fun a => a.l + a.w) (d := 1) hne
  rw [← bestW_eq] at e
  have e : a.l + a.w = bestW ts := e
  have z : isT (bestW ts - 1) a = false := by
    unfold isT inR
    rw [decide_eq_false (p := a.w ≤ bestW ts - 1 - a.l) (by omega)]
    simp
  unfold isLay
  have q : ts.all (isT (bestW ts - 1)) = false := by
    rw [List.all_eq_false]
    exact ⟨a, ha, by rw [z]; decide⟩
  rw [q]
  rfl
/-! ### height, in_order -/
noncomputable def heightS : List D → Res D := spec dom_ts fun ts => if ts.length ≤ 1000 then .ok (.int (heiT ts)) else .stuck
theorem run_height (Γ : Fns) (ts : List Tile) : ∃ fuel, Gives (if ts.length ≤ 1000 then .ok (.int (heiT ts)) else .stuck) (exSs Γ fuel c_height (startS N_height (dom_ts ts))) := by
  refine ⟨0, ?_⟩
  by_cases h : ts.length ≤ 1000
  · rw [if_pos h]
    refine .inl (x_ret ?_)
    have e0 : ∀ m, seeM m (startS N_height (dom_ts ts)) = [some (.tuple (tsD ts)), none] := fun m => by simp [N_height, startS, dom_ts]
    rw [e0]
    refine ev_maxd (ev_map (e := tD) (l := ts) (g := fun a => .int (a.t + a.h)) (by simp [evI, ev, tsD]) (fun a ha => by simp [ev]) h) (e := .int 0) (by simp [ev]) ?_
    show (intsD (ts.map fun a => .int (a.t + a.h))).map _ = _
    rw [ints_map]
    cases ts <;> rfl
  · rw [if_neg h]
    trivial
def strsT (l : List Str) : D := .tuple (l.map .str)
noncomputable def in_orderS : List D → Res D := spec dom_ts fun ts => if ts.length ≤ 1000 then .ok (strsT (inO ts)) else .stuck
theorem run_in_order (Γ : Fns) (hb : Γ "by_order" = some (1, by_orderS)) (ts : List Tile) : ∃ fuel, Gives (if ts.length ≤ 1000 then .ok (strsT (inO ts)) else .stuck) (exSs Γ fuel c_in_order (startS N_in_order (dom_ts ts))) := by
  refine ⟨0, ?_⟩
  by_cases h : ts.length ≤ 1000
  · rw [if_pos h]
    refine .inl (x_ret ?_)
    have e0 : ∀ m, seeM m (startS N_in_order (dom_ts ts)) = [some (.tuple (tsD ts)), none] := fun m => by simp [N_in_order, startS, dom_ts]
    rw [e0]
    have z := ev_call (a := .var 0) (es := .nil) (ρ := [some (.tuple (tsD ts)), none]) hb dom_sq_inj (ts, false) (d := .tuple (tsD ts)) (ds := []) (by simp [ev]) rfl rfl rfl
    rw [if_pos (show ts.length ≤ 1000 from h)] at z
    refine ev_pr1 (ev_map (e := tD) (l := ordT ts) (g := fun a => .str a.nm) (by rw [evI, z]; rfl) (fun a ha => by simp [ev]) (by rw [ordT, isort_len]; exact h)) ?_
    rw [pr_tup, strsT, inO, List.map_map]
    rfl
  · rw [if_neg h]
    trivial
theorem shaped_strs {l : List Str} (h : ∀ x ∈ l, nOk x) : SeqAt.shaped (strsT l) = true := by
  have h1 : PyData.canLayAll0 (l.map .str) = true := by
    induction l with
    | nil => rfl
    | cons a l ih =>
      have z : PyData.canLay0 (.str a) = true := h a List.mem_cons_self
      rw [List.map_cons, PyData.canLayAll0, ih fun b hb => h b (List.mem_cons_of_mem _ hb), z]
      rfl
  have h2 : ∀ l : List Str, PyData.depthAll (l.map .str) ≤ 2 := fun l => by
    induction l with
    | nil => exact Nat.zero_le _
    | cons a l ih =>
      show max (PyData.depth (.str a)) (PyData.depthAll (l.map .str)) ≤ 2
      exact Nat.max_le.mpr ⟨by simp [PyData.depth], ih⟩
  unfold SeqAt.shaped
  rw [show PyData.canLay0 (strsT l) = PyData.canLayAll0 (l.map .str) from rfl, h1]
  refine decide_eq_true ?_
  show PyData.depthAll (l.map .str) + 1 ≤ 64
  have := h2 l
  omega
end Tl
set_option maxHeartbeats 4000000
namespace Tl
open PySem PySem.Spec L2
section
variable {Γ : Fns} {n i : Nat} {c : C} {ρ : EnvS} {d : D} {ss : Ss} {x : Str}
theorem x_exp (h : ev Γ c (seeM (vsC c) ρ) = .ok d) (hp : pure_ d = true) : exSs Γ n (.cons (.exp c) ss) ρ = exSs Γ n ss ρ := by
  rw [exSs, exS, evE, h]
  show (Fl.nx (keepM (vsC c) d ρ)).bind _ = _
  rw [keep_pure hp]
  rfl
theorem x_expX (h : ev Γ c (seeM (vsC c) ρ) = .exc x) : exSs Γ n (.cons (.exp c) ss) ρ = .exc x ρ := by
  rw [exSs, exS, evE, h]
  rfl
theorem x_rai : exSs Γ n (.cons (.rai x) ss) ρ = .exc x ρ := by
  rw [exSs, exS]
  rfl
end
theorem x_cat {Γ : Fns} {n i : Nat} {a b : C} {ρ : EnvS} {ss : Ss} {xs ys : List D} (h1 : ev Γ a (seeM (vsC a) ρ) = .ok (.list xs)) (h2 : ev Γ b (seeM (vsC b) (freezeM (vsC a) ρ)) = .ok (.list ys)) (hl : xs.length + ys.length ≤ 1000) : exSs Γ n (.cons (.cat i a b) ss) ρ = exSs Γ n ss ((freezeM (vsC b) (freezeM (vsC a) ρ)).set i (.own (xs ++ ys))) := by
  rw [exSs, exS, evE, h1]
  show (evE Γ b (keepM (vsC a) (.list xs) ρ) fun e ρ => catS i (.list xs) e ρ).bind _ = _
  have e1 : keepM (vsC a) (.list xs) ρ = freezeM (vsC a) ρ := if_neg (by simp [pure_])
  rw [e1, evE, h2]
  show (catS i (.list xs) (.list ys) (keepM (vsC b) (.list ys) (freezeM (vsC a) ρ))).bind _ = _
  have e2 : keepM (vsC b) (.list ys) (freezeM (vsC a) ρ) = freezeM (vsC b) (freezeM (vsC a) ρ) := if_neg (by simp [pure_])
  rw [e2, catS, if_pos (sz_small hl)]
  rfl
/-! ### settled -/
def stS (acc : List Tile) (a : Tile) : List Tile := if a.fx = true then acc else acc ++ [lower acc a]
def setT (ts : List Tile) (a : Tile) : List Tile := srtT ((ordT (otT ts a.nm)).foldl stS (a :: (otT ts a.nm).filter Tile.fx))
theorem stS_len (acc : List Tile) (a : Tile) : (stS acc a).length ≤ acc.length + 1 := by
  unfold stS
  split
  · omega
  · rw [List.length_append, List.length_singleton]
    omega
theorem lower_gN {ts : List Tile} {a : Tile} (h : gN a) : gN (lower ts a) := by
  rw [(lower_lw (ts := ts) (a := a)).sh]
  exact h
theorem stS_gN {acc : List Tile} {a : Tile} (h : ∀ b ∈ acc, gN b) (ha : gN a) : ∀ b ∈ stS acc a, gN b := by
  unfold stS
  split
  · exact h
  · intro b hb
    rcases List.mem_append.mp hb with hb | hb
    · exact h b hb
    · rw [List.mem_singleton.mp hb]
      exact lower_gN ha
theorem PkI.nextS {acc r : List Tile} {a : Tile} (h : PkI acc (a :: r)) : PkI (stS acc a) r := by
  have z := stS_len acc a
  have z2 := h.len
  rw [List.length_cons] at z2
  exact ⟨by omega, stS_gN h.acc (h.rest a List.mem_cons_self), fun b hb => h.rest b (List.mem_cons_of_mem _ hb)⟩
theorem PkI.endS : ∀ {r acc : List Tile}, PkI acc r → PkI (r.foldl stS acc) []
  | [], _, h => h
  | a :: r, acc, h => PkI.endS (r := r) (acc := stS acc a) h.nextS
theorem setI {ts : List Tile} {a : Tile} (h : gL 400 ts) (ha : gN a) : PkI (a :: (otT ts a.nm).filter Tile.fx) (ordT (otT ts a.nm)) := by
  have ho : gL 400 (otT ts a.nm) := h.filter _
  have h1 := (ho.filter Tile.fx).len
  have h2 := ho.ord.len
  refine ⟨by rw [List.length_cons]; omega, fun b hb => ?_, ho.ord.ok⟩
  rcases List.mem_cons.mp hb with q | q
  · rw [q]; exact ha
  · exact (ho.filter _).ok b q
theorem setT_gL {ts : List Tile} {a : Tile} (h : gL 400 ts) (ha : gN a) : gL 900 (setT ts a) := (setI h ha).endS.gL.srt
/-- the loop, in both texts: the tile at slot i, the list at slot j -/
theorem st_turn {Γ : Fns} {fuel i j : Nat} {f : Str} {ρ : EnvS} {acc : List Tile} {a : Tile} (hi : ev Γ (.var i) (seeM (vsC (.not (.ix (.var i) (.int 5)))) ρ) = .ok (tD a)) (hj : ρ[j]? = some (.own (tsD acc))) (hl : acc.length < 1000)
    (hr : ev Γ (.call f (.var i) (.cons (.var j) .nil)) (seeM (vsC (.call f (.var i) (.cons (.var j) .nil))) ρ) = .ok (tD (lower acc a))) :
    exSs Γ fuel (.cons (.iff (.not (.ix (.var i) (.int 5))) (.cons (.app j (.call f (.var i) (.cons (.var j) .nil))) .nil) .nil) .nil) ρ = .nx (if a.fx = true then ρ else ρ.set j (.own (tsD (acc ++ [lower acc a])))) := by
  rw [x_iff (ev_not (ev_ix hi (e := .int 5) (by simp [ev]) (ix_f a)) rfl) rfl]
  cases hf : a.fx with
  | true => rw [if_neg (by decide), x_nil, fl_nx, x_nil]; rfl
  | false =>
    rw [if_pos (by rfl), x_app (ds := tsD acc) hj hr rfl (by rw [tsD_len]; exact hl), x_nil, fl_nx, x_nil, tsD_snoc]
    rfl
def dom_lt2 (p : List Tile × Tile) : List D := [.tuple (tsD p.1), tD p.2]
theorem dom_lt2_inj (p q : List Tile × Tile) (h : dom_lt2 p = dom_lt2 q) : p = q := by
  obtain ⟨a, b⟩ := p
  obtain ⟨c, d⟩ := q
  simp only [dom_lt2, List.cons.injEq, PyData.tuple.injEq] at h
  rw [tsD_inj h.1, tD_inj h.2.1]
open Classical in
noncomputable def settledF (p : List Tile × Tile) : Res D := if gL 400 p.1 ∧ gN p.2 then .ok (.tuple (tsD (setT p.1 p.2))) else .stuck
noncomputable def settledS : List D → Res D := spec dom_lt2 settledF
theorem run_settled (Γ : Fns) (ho : Γ "others" = some (2, othersS)) (hb : Γ "by_order" = some (1, by_orderS)) (hl : Γ "lowered_to" = some (2, lowered_toS)) (p : List Tile × Tile) : ∃ fuel, Gives (settledF p) (exSs Γ fuel c_settled (startS N_settled (dom_lt2 p))) := by
  refine ⟨0, ?_⟩
  unfold settledF
  by_cases h : gL 400 p.1 ∧ gN p.2
  rotate_left
  · rw [if_neg h]; trivial
  rw [if_pos h]
  obtain ⟨ts, a⟩ := p
  obtain ⟨h, ga⟩ := h
  refine .inl ?_
  have go : gL 400 (otT ts a.nm) := h.filter _
  have e0 : startS N_settled (dom_lt2 (ts, a)) = [.val (.tuple (tsD ts)), .val (tD a), .no, .no, .no] := by simp [N_settled, startS, dom_lt2]
  rw [e0, c_settled, x_set (ev_others (ts := ts) (nm := a.nm) ho (by simp [ev]) (by simp [ev]) ⟨h.mono (by decide), ga.2⟩) (pure_tts _)]
  show exSs Γ 0 _ [.val (.tuple (tsD ts)), .val (tD a), .val (.tuple (tsD (otT ts a.nm))), .no, .no] = _
  have fl := (go.filter Tile.fx).len
  have fz1 : freezeM (vsC (.lst (.cons (.var 1) .nil))) [.val (.tuple (tsD ts)), .val (tD a), .val (.tuple (tsD (otT ts a.nm))), .no, .no] = [.val (.tuple (tsD ts)), .val (tD a), .val (.tuple (tsD (otT ts a.nm))), .no, .no] := by simp [vsC, vsCs]
  rw [x_cat (xs := [tD a]) (ys := ((otT ts a.nm).filter Tile.fx).map tD) (ev_lst (evs_cons (by simp [ev]) evs_nil) (by simp)) (by rw [fz1]; exact ev_fil (e := tD) (l := otT ts a.nm) (q := Tile.fx) (by simp [evI, ev, tsD]) (fun b hb => by simp [ev]) (by simp) (go.le (by decide))) (by rw [List.length_singleton, List.length_map]; omega), fz1]
  have fz2 : freezeM (vsC (.lc (.var 4) (.one 4) (.seq (.var 2)) (.cons (.ix (.var 4) (.int 5)) .nil))) [.val (.tuple (tsD ts)), .val (tD a), .val (.tuple (tsD (otT ts a.nm))), .no, .no] = [.val (.tuple (tsD ts)), .val (tD a), .val (.tuple (tsD (otT ts a.nm))), .no, .no] := by simp [vsC, vsCs, vsI]
  rw [fz2]
  show exSs Γ 0 _ [.val (.tuple (tsD ts)), .val (tD a), .val (.tuple (tsD (otT ts a.nm))), .own (tsD (a :: (otT ts a.nm).filter Tile.fx)), .no] = _
  rw [x_for (ds := (ordT (otT ts a.nm)).map tD) ?_]
  · have f1 : freezeM (vsI (.seq (.call "by_order" (.var 2) .nil))) [.val (.tuple (tsD ts)), .val (tD a), .val (.tuple (tsD (otT ts a.nm))), .own (tsD (a :: (otT ts a.nm).filter Tile.fx)), .no] = [.val (.tuple (tsD ts)), .val (tD a), .val (.tuple (tsD (otT ts a.nm))), .own (tsD (a :: (otT ts a.nm).filter Tile.fx)), .no] := by simp [vsI, vsC, vsCs]
    rw [f1]
    obtain ⟨x', e⟩ := forD_fold (b := forB Γ 0 (.one 4) (.cons (.iff (.not (.ix (.var 4) (.int 5))) (.cons (.app 3 (.call "lowered_to" (.var 4) (.cons (.var 3) .nil))) .nil) .nil) .nil)) (e := tD) (f := stS) (mk := fun acc x => [.val (.tuple (tsD ts)), .val (tD a), .val (.tuple (tsD (otT ts a.nm))), .own (tsD acc), x]) (I := PkI) (l := ordT (otT ts a.nm)) (fun b r acc x hi _ => ⟨hi.nextS, .val (tD b), by
      have hlen := hi.len
      rw [List.length_cons] at hlen
      show exSs Γ 0 _ [.val (.tuple (tsD ts)), .val (tD a), .val (.tuple (tsD (otT ts a.nm))), .own (tsD acc), .val (tD b)] = _
      have z := ev_call (a := .var 4) (es := .cons (.var 3) .nil) (ρ := seeM (vsC (.call "lowered_to" (.var 4) (.cons (.var 3) .nil))) [.val (.tuple (tsD ts)), .val (tD a), .val (.tuple (tsD (otT ts a.nm))), .own (tsD acc), .val (tD b)]) hl dom_lo_inj (b, acc) (d := tD b) (ds := [.list (tsD acc)]) (by simp [ev]) (by simp [ev, evs, vsC, vsCs]) rfl rfl
      rw [if_pos (show acc.length ≤ 1000 by omega)] at z
      rw [st_turn (acc := acc) (a := b) (by simp [ev]) rfl (by omega) z]
      unfold stS
      split <;> rfl⟩) (a :: (otT ts a.nm).filter Tile.fx) .no (setI h ga)
    rw [e, fl_nx]
    refine x_ret (ev_pr1 (ev_srt (d := .list (tsD ((ordT (otT ts a.nm)).foldl stS (a :: (otT ts a.nm).filter Tile.fx)))) ?_ (srtV_ts ((setI h ga).endS.gL.le (by decide)))) rfl)
    simp [ev, vsC, vsCs]
  · have z := ev_call (a := .var 2) (es := .nil) (ρ := seeM (vsI (.seq (.call "by_order" (.var 2) .nil))) [.val (.tuple (tsD ts)), .val (tD a), .val (.tuple (tsD (otT ts a.nm))), .own (tsD (a :: (otT ts a.nm).filter Tile.fx)), .no]) hb dom_sq_inj (otT ts a.nm, false) (d := .tuple (tsD (otT ts a.nm))) (ds := []) (by simp [ev]) rfl rfl rfl
    rw [if_pos (show (otT ts a.nm).length ≤ 1000 from go.le (by decide))] at z
    rw [evI, z]
    rfl
theorem run_law_settled (Γ : Fns) (hb : Γ "_law_order" = some (1, by_orderS)) (hl : Γ "_law_lower" = some (2, law_lowerS)) (p : List Tile × Tile) : ∃ fuel, Gives (settledF p) (exSs Γ fuel c__law_settled (startS N__law_settled (dom_lt2 p))) := by
  refine ⟨0, ?_⟩
  unfold settledF
  by_cases h : gL 400 p.1 ∧ gN p.2
  rotate_left
  · rw [if_neg h]; trivial
  rw [if_pos h]
  obtain ⟨ts, a⟩ := p
  obtain ⟨h, ga⟩ := h
  refine .inl ?_
  have go : gL 400 (otT ts a.nm) := h.filter _
  have e0 : startS N__law_settled (dom_lt2 (ts, a)) = [.val (.tuple (tsD ts)), .val (tD a), .no, .no, .no] := by simp [N__law_settled, startS, dom_lt2]
  rw [e0, c__law_settled, x_setF (ev_fil (e := tD) (l := ts) (q := fun b => decide (b.nm ≠ a.nm)) (by simp [evI, ev, tsD]) (fun b hb => ev_cmp (d := .str b.nm) (e := .str a.nm) (by simp [ev]) (by simp [ev]) (cm_neS (h.ok b hb).2 ga.2)) (by simp) (h.le (by decide))) rfl]
  have fz0 : freezeM (vsC (.lc (.var 3) (.one 3) (.seq (.var 0)) (.cons (.cmp .ne (.ix (.var 3) (.int 0)) (.ix (.var 1) (.int 0))) .nil))) [.val (.tuple (tsD ts)), .val (tD a), .no, .no, .no] = [.val (.tuple (tsD ts)), .val (tD a), .no, .no, .no] := by simp [vsC, vsCs, vsI]
  rw [fz0]
  show exSs Γ 0 _ [.val (.tuple (tsD ts)), .val (tD a), .val (.list (tsD (otT ts a.nm))), .no, .no] = _
  have fl := (go.filter Tile.fx).len
  have fz1 : freezeM (vsC (.lst (.cons (.var 1) .nil))) [.val (.tuple (tsD ts)), .val (tD a), .val (.list (tsD (otT ts a.nm))), .no, .no] = [.val (.tuple (tsD ts)), .val (tD a), .val (.list (tsD (otT ts a.nm))), .no, .no] := by simp [vsC, vsCs]
  rw [x_cat (xs := [tD a]) (ys := ((otT ts a.nm).filter Tile.fx).map tD) (ev_lst (evs_cons (by simp [ev]) evs_nil) (by simp)) (by rw [fz1]; exact ev_fil (e := tD) (l := otT ts a.nm) (q := Tile.fx) (by simp [evI, ev, tsD]) (fun b hb => by simp [ev]) (by simp) (go.le (by decide))) (by rw [List.length_singleton, List.length_map]; omega), fz1]
  have fz2 : freezeM (vsC (.lc (.var 3) (.one 3) (.seq (.var 2)) (.cons (.ix (.var 3) (.int 5)) .nil))) [.val (.tuple (tsD ts)), .val (tD a), .val (.list (tsD (otT ts a.nm))), .no, .no] = [.val (.tuple (tsD ts)), .val (tD a), .val (.list (tsD (otT ts a.nm))), .no, .no] := by simp [vsC, vsCs, vsI]
  rw [fz2]
  show exSs Γ 0 _ [.val (.tuple (tsD ts)), .val (tD a), .val (.list (tsD (otT ts a.nm))), .no, .own (tsD (a :: (otT ts a.nm).filter Tile.fx))] = _
  rw [x_for (ds := (ordT (otT ts a.nm)).map tD) ?_]
  · have f1 : freezeM (vsI (.seq (.call "_law_order" (.var 2) .nil))) [.val (.tuple (tsD ts)), .val (tD a), .val (.list (tsD (otT ts a.nm))), .no, .own (tsD (a :: (otT ts a.nm).filter Tile.fx))] = [.val (.tuple (tsD ts)), .val (tD a), .val (.list (tsD (otT ts a.nm))), .no, .own (tsD (a :: (otT ts a.nm).filter Tile.fx))] := by simp [vsI, vsC, vsCs]
    rw [f1]
    obtain ⟨x', e⟩ := forD_fold (b := forB Γ 0 (.one 3) (.cons (.iff (.not (.ix (.var 3) (.int 5))) (.cons (.app 4 (.call "_law_lower" (.var 3) (.cons (.var 4) .nil))) .nil) .nil) .nil)) (e := tD) (f := stS) (mk := fun acc x => [.val (.tuple (tsD ts)), .val (tD a), .val (.list (tsD (otT ts a.nm))), x, .own (tsD acc)]) (I := PkI) (l := ordT (otT ts a.nm)) (fun b r acc x hi _ => ⟨hi.nextS, .val (tD b), by
      have hlen := hi.len
      rw [List.length_cons] at hlen
      show exSs Γ 0 _ [.val (.tuple (tsD ts)), .val (tD a), .val (.list (tsD (otT ts a.nm))), .val (tD b), .own (tsD acc)] = _
      have z := ev_call (a := .var 3) (es := .cons (.var 4) .nil) (ρ := seeM (vsC (.call "_law_lower" (.var 3) (.cons (.var 4) .nil))) [.val (.tuple (tsD ts)), .val (tD a), .val (.list (tsD (otT ts a.nm))), .val (tD b), .own (tsD acc)]) hl dom_lo_inj (b, acc) (d := tD b) (ds := [.list (tsD acc)]) (by simp [ev]) (by simp [ev, evs, vsC, vsCs]) rfl rfl
      rw [if_pos (show gT b ∧ gTs acc from ⟨(hi.rest b List.mem_cons_self).1, hi.gL.gTs (by decide)⟩)] at z
      rw [st_turn (acc := acc) (a := b) (by simp [ev]) rfl (by omega) z]
      unfold stS
      split <;> rfl⟩) (a :: (otT ts a.nm).filter Tile.fx) .no (setI h ga)
    rw [e, fl_nx]
    refine x_ret (ev_pr1 (ev_srt (d := .list (tsD ((ordT (otT ts a.nm)).foldl stS (a :: (otT ts a.nm).filter Tile.fx)))) ?_ (srtV_ts ((setI h ga).endS.gL.le (by decide)))) rfl)
    simp [ev, vsC, vsCs]
  · have z := ev_call (a := .var 2) (es := .nil) (ρ := seeM (vsI (.seq (.call "_law_order" (.var 2) .nil))) [.val (.tuple (tsD ts)), .val (tD a), .val (.list (tsD (otT ts a.nm))), .no, .own (tsD (a :: (otT ts a.nm).filter Tile.fx))]) hb dom_sq_inj (otT ts a.nm, true) (d := .list (tsD (otT ts a.nm))) (ds := []) (by simp [ev]) rfl rfl rfl
    rw [if_pos (show (otT ts a.nm).length ≤ 1000 from go.le (by decide))] at z
    rw [evI, z]
    rfl
end Tl
set_option maxHeartbeats 4000000
namespace Tl
open PySem PySem.Spec L2
/-! ### must_fit -/
def fitX (wide : Int) (ts : List Tile) (a : Tile) : Option Str := if isT wide a = true then (if anyM a ((otT ts a.nm).filter Tile.fx) = true then some "NoRoom" else none) else some "BadTile"
def nOk2 (x : Str) : Prop := nOk x ∧ x.length ≤ 1000
def dom_mf (p : Int × List Tile × Tile) : List D := [.int p.1, .tuple (tsD p.2.1), tD p.2.2]
theorem dom_mf_inj (p q : Int × List Tile × Tile) (h : dom_mf p = dom_mf q) : p = q := by
  obtain ⟨a, b, c⟩ := p
  obtain ⟨d, e, f⟩ := q
  simp only [dom_mf, List.cons.injEq, PyData.int.injEq, PyData.tuple.injEq] at h
  rw [h.1, tsD_inj h.2.1, tD_inj h.2.2.1]
def resX (o : Option Str) (d : D) : Res D := match o with
  | some c => .exc c
  | none => .ok d
def gM (p : Int × List Tile × Tile) : Prop := gL 400 p.2.1 ∧ nOk2 p.2.2.nm ∧ p.1 ≤ 12
open Classical in
noncomputable def must_fitF (p : Int × List Tile × Tile) : Res D := if gM p then resX (fitX p.1 p.2.1 p.2.2) .none else .stuck
noncomputable def must_fitS : List D → Res D := spec dom_mf must_fitF
theorem ev_is_tile {Γ : Fns} {ρ : Env0D} {a b : C} {wide : Int} {x : Tile} (h : Γ "is_tile" = some (2, is_tileS)) (h1 : ev Γ a ρ = .ok (.int wide)) (h2 : ev Γ b ρ = .ok (tD x)) (g : x.nm.length ≤ 1000) : ev Γ (.call "is_tile" a (.cons b .nil)) ρ = .ok (.bool (isT wide x)) := by
  have z := ev_call h dom_it_inj (wide, x) h1 (evs_cons h2 evs_nil) rfl rfl
  rw [if_pos g] at z
  exact z
theorem ev_meets_none {Γ : Fns} {ρ : Env0D} {a b : C} {ts : List Tile} {x : Tile} {k : Bool} (h : Γ "meets_none" = some (2, meets_noneS)) (h1 : ev Γ a ρ = .ok (tD x)) (h2 : ev Γ b ρ = .ok (sqD k (tsD ts))) (g : ts.length ≤ 1000) : ev Γ (.call "meets_none" a (.cons b .nil)) ρ = .ok (.bool (!anyM x ts)) := by
  have z := ev_call h dom_tl_inj (x, ts, k) h1 (evs_cons h2 evs_nil) rfl rfl
  rw [if_pos g] at z
  exact z
theorem run_must_fit (Γ : Fns) (ht : Γ "is_tile" = some (2, is_tileS)) (ho : Γ "others" = some (2, othersS)) (hm : Γ "meets_none" = some (2, meets_noneS)) (p : Int × List Tile × Tile) : ∃ fuel, Gives (must_fitF p) (exSs Γ fuel c_must_fit (startS N_must_fit (dom_mf p))) := by
  refine ⟨0, ?_⟩
  unfold must_fitF
  by_cases h : gM p
  rotate_left
  · rw [if_neg h]; trivial
  rw [if_pos h]
  obtain ⟨wide, ts, a⟩ := p
  obtain ⟨h, hn, _⟩ := h
  have go : gL 400 (otT ts a.nm) := h.filter _
  have e0 : startS N_must_fit (dom_mf (wide, ts, a)) = [.val (.int wide), .val (.tuple (tsD ts)), .val (tD a), .no] := by simp [N_must_fit, startS, dom_mf]
  rw [e0, c_must_fit, x_iff (ev_not (ev_is_tile (wide := wide) (x := a) ht (by simp [ev]) (by simp [ev]) hn.2) rfl) rfl]
  show Gives (resX (fitX wide ts a) .none) _
  cases q : isT wide a with
  | false =>
    have e : fitX wide ts a = some "BadTile" := by
      unfold fitX
      rw [q]
      rfl
    rw [e, if_pos (by rfl), x_rai]
    exact ⟨_, rfl⟩
  | true =>
    rw [if_neg (by decide), x_nil, fl_nx, x_iff (ev_not (ev_meets_none (x := a) (ts := (otT ts a.nm).filter Tile.fx) (k := true) hm (by simp [ev]) (ev_fil (e := tD) (l := otT ts a.nm) (q := Tile.fx) (by
      rw [evI, ev_others (ts := ts) (nm := a.nm) ho (by simp [ev]) (by simp [ev]) ⟨h.mono (by decide), hn.1⟩]
      rfl) (fun b hb => by simp [ev]) (by simp) (go.le (by decide))) ((go.filter _).le (by decide))) rfl) rfl, Bool.not_not]
    cases q2 : anyM a ((otT ts a.nm).filter Tile.fx) with
    | true =>
      have e : fitX wide ts a = some "NoRoom" := by
        unfold fitX
        rw [q, q2]
        rfl
      rw [e, if_pos rfl, x_rai]
      exact ⟨_, rfl⟩
    | false =>
      have e : fitX wide ts a = none := by
        unfold fitX
        rw [q, q2]
        rfl
      rw [e, if_neg (by decide), x_nil, fl_nx, x_nil]
      exact .inr ⟨rfl, _, rfl⟩
theorem isT_gN {wide : Int} {a : Tile} (hw : wide ≤ 12) (hn : nOk a.nm) (h : isT wide a = true) : gN a := by
  unfold isT inR at h
  simp only [Bool.and_eq_true, decide_eq_true_eq] at h
  exact ⟨⟨by omega, by omega, by omega, by omega⟩, hn⟩
theorem fit_gN {wide : Int} {ts : List Tile} {a : Tile} (hw : wide ≤ 12) (hn : nOk a.nm) (h : fitX wide ts a = none) : gN a := by
  unfold fitX at h
  cases q : isT wide a with
  | false => rw [q] at h; cases h
  | true => exact isT_gN hw hn q
/-- must_fit, then settled: in all three -/
theorem fit_run {Γ : Fns} {n : Nat} {cw cl ct : C} {ρ : EnvS} {wide : Int} {ts : List Tile} {a : Tile} (hf : Γ "must_fit" = some (3, must_fitS)) (hs : Γ "settled" = some (2, settledS)) (g : gM (wide, ts, a))
    (h1 : ∀ m, ev Γ cw (seeM m ρ) = .ok (.int wide)) (h2 : ∀ m, ev Γ cl (seeM m ρ) = .ok (.tuple (tsD ts))) (h3 : ∀ m, ev Γ ct (seeM m ρ) = .ok (tD a)) :
    Gives (resX (fitX wide ts a) (.tuple (tsD (setT ts a)))) (exSs Γ n (.cons (.exp (.call "must_fit" cw (.cons cl (.cons ct .nil)))) (.cons (.ret (.call "settled" cl (.cons ct .nil))) .nil)) ρ) := by
  have z := fun m => ev_call hf dom_mf_inj (wide, ts, a) (h1 m) (evs_cons (h2 m) (evs_cons (h3 m) evs_nil)) rfl rfl
  rw [must_fitF, if_pos g] at z
  cases q : fitX wide ts a with
  | some c =>
    simp only [q, resX] at z
    rw [x_expX (z _)]
    exact ⟨_, rfl⟩
  | none =>
    simp only [q, resX] at z
    rw [x_exp (z _) rfl]
    have w := fun m => ev_call hs dom_lt2_inj (ts, a) (h2 m) (evs_cons (h3 m) evs_nil) rfl rfl
    rw [settledF, if_pos (show gL 400 ts ∧ gN a from ⟨g.1, fit_gN g.2.2 g.2.1.1 q⟩)] at w
    exact .inl (x_ret (w _))
/-! ### moved, sized, put -/
def dom_mv (p : Int × List Tile × Str × Int × Int) : List D := [.int p.1, .tuple (tsD p.2.1), .str p.2.2.1, .int p.2.2.2.1, .int p.2.2.2.2]
theorem dom_mv_inj (p q : Int × List Tile × Str × Int × Int) (h : dom_mv p = dom_mv q) : p = q := by
  obtain ⟨a, b, c, d, e⟩ := p
  obtain ⟨a', b', c', d', e'⟩ := q
  simp only [dom_mv, List.cons.injEq, PyData.int.injEq, PyData.tuple.injEq, PyData.str.injEq] at h
  obtain ⟨h1, h2, h3, h4, h5, _⟩ := h
  rw [h1, tsD_inj h2, h3, h4, h5]
def gV (p : Int × List Tile × Str × Int × Int) : Prop := gL 400 p.2.1 ∧ nOk2 p.2.2.1 ∧ p.1 ≤ 12
def looseR (ts : List Tile) (nm : Str) (f : Tile → Res D) : Res D := match ts.find? (hasN nm) with
  | some a => if a.fx = true then .exc "Fixed" else f a
  | none => .exc "NoTile"
def mvT (a : Tile) (l t : Int) : Tile := { a with l := l, t := t }
def szT (a : Tile) (w h : Int) : Tile := { a with w := w, h := h, fx := false }
open Classical in
noncomputable def movedF (p : Int × List Tile × Str × Int × Int) : Res D := if gV p then looseR p.2.1 p.2.2.1 fun a => resX (fitX p.1 p.2.1 (mvT a p.2.2.2.1 p.2.2.2.2)) (.tuple (tsD (setT p.2.1 (mvT a p.2.2.2.1 p.2.2.2.2)))) else .stuck
noncomputable def movedS : List D → Res D := spec dom_mv movedF
open Classical in
noncomputable def sizedF (p : Int × List Tile × Str × Int × Int) : Res D := if gV p then looseR p.2.1 p.2.2.1 fun a => resX (fitX p.1 p.2.1 (szT a p.2.2.2.1 p.2.2.2.2)) (.tuple (tsD (setT p.2.1 (szT a p.2.2.2.1 p.2.2.2.2)))) else .stuck
noncomputable def sizedS : List D → Res D := spec dom_mv sizedF
theorem ev_loose {Γ : Fns} {ρ : Env0D} {a b : C} {ts : List Tile} {nm : Str} (h : Γ "loose" = some (2, looseS)) (h1 : ev Γ a ρ = .ok (.tuple (tsD ts))) (h2 : ev Γ b ρ = .ok (.str nm)) (g : gP (ts, nm)) : ev Γ (.call "loose" a (.cons b .nil)) ρ = looseR ts nm fun a => .ok (tD a) := by
  have z := ev_call h dom_tn_inj (ts, nm) h1 (evs_cons h2 evs_nil) rfl rfl
  rw [looseF, if_pos g] at z
  exact z
/-- loose, the tile changed, must_fit, settled -/
theorem ms_run {Γ : Fns} {c : C} {wide x y : Int} {ts : List Tile} {nm : Str} (ch : Tile → Tile) (hch : ∀ a, (ch a).nm = a.nm) (hlo : Γ "loose" = some (2, looseS)) (hf : Γ "must_fit" = some (3, must_fitS)) (hs : Γ "settled" = some (2, settledS)) (h : gL 400 ts) (hn : nOk2 nm) (hw : wide ≤ 12)
    (hc : ∀ a m, a.nm = nm → ev Γ c (seeM m [.val (.int wide), .val (.tuple (tsD ts)), .val (.str nm), .val (.int x), .val (.int y), .val (tD a)]) = .ok (tD (ch a))) :
    Gives (looseR ts nm fun a => resX (fitX wide ts (ch a)) (.tuple (tsD (setT ts (ch a))))) (exSs Γ 0 (.cons (.set 5 (.call "loose" (.var 1) (.cons (.var 2) .nil))) (.cons (.set 5 c) (.cons (.exp (.call "must_fit" (.var 0) (.cons (.var 1) (.cons (.var 5) .nil)))) (.cons (.ret (.call "settled" (.var 1) (.cons (.var 5) .nil))) .nil)))) [.val (.int wide), .val (.tuple (tsD ts)), .val (.str nm), .val (.int x), .val (.int y), .no]) := by
  have z := fun m => ev_loose (ρ := seeM m [.val (.int wide), .val (.tuple (tsD ts)), .val (.str nm), .val (.int x), .val (.int y), .no]) (a := .var 1) (b := .var 2) (ts := ts) (nm := nm) hlo (by simp [ev]) (by simp [ev]) ⟨h.mono (by decide), hn.1⟩
  unfold looseR at z ⊢
  cases q : ts.find? (hasN nm) with
  | none =>
    simp only [q] at z
    rw [x_setX (z _)]
    exact ⟨_, rfl⟩
  | some a =>
    simp only [q] at z
    cases hfx : a.fx with
    | true =>
      simp only [hfx, if_true] at z ⊢
      rw [x_setX (z _)]
      exact ⟨_, rfl⟩
    | false =>
      simp only [hfx, Bool.false_eq_true, if_false] at z ⊢
      obtain ⟨q1, q2⟩ := find_nm q
      rw [x_set (z _) rfl]
      show Gives _ (exSs Γ 0 _ [.val (.int wide), .val (.tuple (tsD ts)), .val (.str nm), .val (.int x), .val (.int y), .val (tD a)])
      rw [x_set (hc a _ q1) rfl]
      show Gives _ (exSs Γ 0 _ [.val (.int wide), .val (.tuple (tsD ts)), .val (.str nm), .val (.int x), .val (.int y), .val (tD (ch a))])
      exact fit_run hf hs ⟨h, by rw [hch, q1]; exact hn, hw⟩ (fun m => by simp [ev]) (fun m => by simp [ev]) (fun m => by simp [ev])
@[simp] theorem sl_u3 (a : Tile) : slV (tD a) none (some 3) = some (.tuple [.str a.nm, .int a.l, .int a.t]) := rfl
@[simp] theorem sl_u5 (a : Tile) : slV (tD a) none (some 5) = some (.tuple [.str a.nm, .int a.l, .int a.t, .int a.w, .int a.h]) := rfl
theorem run_moved (Γ : Fns) (hlo : Γ "loose" = some (2, looseS)) (hf : Γ "must_fit" = some (3, must_fitS)) (hs : Γ "settled" = some (2, settledS)) (p : Int × List Tile × Str × Int × Int) : ∃ fuel, Gives (movedF p) (exSs Γ fuel c_moved (startS N_moved (dom_mv p))) := by
  refine ⟨0, ?_⟩
  unfold movedF
  by_cases h : gV p
  rotate_left
  · rw [if_neg h]; trivial
  rw [if_pos h]
  obtain ⟨wide, ts, nm, x, y⟩ := p
  obtain ⟨h, hn, hw⟩ := h
  have e0 : startS N_moved (dom_mv (wide, ts, nm, x, y)) = [.val (.int wide), .val (.tuple (tsD ts)), .val (.str nm), .val (.int x), .val (.int y), .no] := by simp [N_moved, startS, dom_mv]
  rw [e0]
  exact ms_run (fun a => mvT a x y) (fun _ => rfl) hlo hf hs h hn hw fun a m e => by
    subst e
    simp [ev, evs]
    rfl
theorem run_sized (Γ : Fns) (hlo : Γ "loose" = some (2, looseS)) (hf : Γ "must_fit" = some (3, must_fitS)) (hs : Γ "settled" = some (2, settledS)) (p : Int × List Tile × Str × Int × Int) : ∃ fuel, Gives (sizedF p) (exSs Γ fuel c_sized (startS N_sized (dom_mv p))) := by
  refine ⟨0, ?_⟩
  unfold sizedF
  by_cases h : gV p
  rotate_left
  · rw [if_neg h]; trivial
  rw [if_pos h]
  obtain ⟨wide, ts, nm, x, y⟩ := p
  obtain ⟨h, hn, hw⟩ := h
  have e0 : startS N_sized (dom_mv (wide, ts, nm, x, y)) = [.val (.int wide), .val (.tuple (tsD ts)), .val (.str nm), .val (.int x), .val (.int y), .no] := by simp [N_sized, startS, dom_mv]
  rw [e0]
  exact ms_run (fun a => szT a x y) (fun _ => rfl) hlo hf hs h hn hw fun a m e => by
    simp [ev, evs]
    rfl
open Classical in
noncomputable def putF (p : Int × List Tile × Tile) : Res D := if gM p then (if (p.2.1.find? (hasN p.2.2.nm)).isSome = true then .exc "BadTile" else resX (fitX p.1 p.2.1 p.2.2) (.tuple (tsD (setT p.2.1 p.2.2)))) else .stuck
noncomputable def putS : List D → Res D := spec dom_mf putF
theorem len_filter_lt {α : Type} (q : α → Bool) (l : List α) : (l.filter fun a => !q a).length < l.length ↔ (l.find? q).isSome = true := by
  have h1 : (l.filter q ++ l.filter fun a => !q a).length = l.length := (split_perm q l).length_eq
  rw [List.length_append] at h1
  rw [← find_filter]
  cases e : l.filter q with
  | nil =>
    rw [e, List.length_nil] at h1
    simp only [List.head?_nil, Option.isSome_none, Bool.false_eq_true, iff_false]
    omega
  | cons a r =>
    rw [e, List.length_cons] at h1
    simp only [List.head?_cons, Option.isSome_some, iff_true]
    omega
theorem ot_len (ts : List Tile) (nm : Str) : (otT ts nm).length < ts.length ↔ (ts.find? (hasN nm)).isSome = true := by
  rw [← len_filter_lt]
  have e : otT ts nm = ts.filter fun a => !hasN nm a := by
    unfold otT hasN
    refine List.filter_congr fun a _ => ?_
    by_cases h : a.nm = nm <;> simp [h]
  rw [e]
theorem run_put (Γ : Fns) (ho : Γ "others" = some (2, othersS)) (hf : Γ "must_fit" = some (3, must_fitS)) (hs : Γ "settled" = some (2, settledS)) (p : Int × List Tile × Tile) : ∃ fuel, Gives (putF p) (exSs Γ fuel c_put (startS N_put (dom_mf p))) := by
  refine ⟨0, ?_⟩
  unfold putF
  by_cases h : gM p
  rotate_left
  · rw [if_neg h]; trivial
  rw [if_pos h]
  obtain ⟨wide, ts, a⟩ := p
  have hg := h
  obtain ⟨h, hn, hw⟩ := h
  have e0 : startS N_put (dom_mf (wide, ts, a)) = [.val (.int wide), .val (.tuple (tsD ts)), .val (tD a)] := by simp [N_put, startS, dom_mf]
  have l1 : prV .len [.tuple (tsD (otT ts a.nm))] = some (.int ((otT ts a.nm).length : Int)) := by
    show some (PyData.int ((tsD (otT ts a.nm)).length : Int)) = _
    rw [tsD_len]
  have l2 : prV .len [.tuple (tsD ts)] = some (.int (ts.length : Int)) := by
    show some (PyData.int ((tsD ts).length : Int)) = _
    rw [tsD_len]
  rw [e0, c_put, x_iff (ev_cmp (ev_pr1 (ev_others (ts := ts) (nm := a.nm) ho (by simp [ev]) (by simp [ev]) ⟨h.mono (by decide), hn.1⟩) l1) (ev_pr1 (d := .tuple (tsD ts)) (by simp [ev]) l2) (cm_lt _ _)) rfl]
  show Gives (if (ts.find? (hasN a.nm)).isSome = true then .exc "BadTile" else _) _
  by_cases q : (ts.find? (hasN a.nm)).isSome = true
  · rw [if_pos q, if_pos (decide_eq_true (by have := (ot_len ts a.nm).mpr q; omega)), x_rai]
    exact ⟨_, rfl⟩
  · rw [if_neg q, if_neg (by
      rw [decide_eq_true_eq]
      intro z
      exact q ((ot_len ts a.nm).mp (by omega))), x_nil, fl_nx]
    exact fit_run hf hs hg (fun m => by simp [ev]) (fun m => by simp [ev]) (fun m => by simp [ev])
/-! ### fixed, taken -/
def dom_fx (p : List Tile × Str × Bool) : List D := [.tuple (tsD p.1), .str p.2.1, .bool p.2.2]
theorem dom_fx_inj (p q : List Tile × Str × Bool) (h : dom_fx p = dom_fx q) : p = q := by
  obtain ⟨a, b, c⟩ := p
  obtain ⟨d, e, f⟩ := q
  simp only [dom_fx, List.cons.injEq, PyData.tuple.injEq, PyData.str.injEq, PyData.bool.injEq] at h
  rw [tsD_inj h.1, h.2.1, h.2.2.1]
def fxT (a : Tile) (b : Bool) : Tile := { a with fx := b }
def fixT (ts : List Tile) (a : Tile) (b : Bool) : List Tile := srtT (otT ts a.nm ++ [fxT a b])
open Classical in
noncomputable def fixedF (p : List Tile × Str × Bool) : Res D := if gP (p.1, p.2.1) then (match p.1.find? (hasN p.2.1) with
  | some a => .ok (.tuple (tsD (fixT p.1 a p.2.2)))
  | none => .exc "NoTile") else .stuck
noncomputable def fixedS : List D → Res D := spec dom_fx fixedF
theorem ev_tile_ofX {Γ : Fns} {ρ : Env0D} {a b : C} {ts : List Tile} {nm : Str} (h : Γ "tile_of" = some (2, tile_ofS)) (h1 : ev Γ a ρ = .ok (.tuple (tsD ts))) (h2 : ev Γ b ρ = .ok (.str nm)) (g : gP (ts, nm)) (hf : ts.find? (hasN nm) = none) : ev Γ (.call "tile_of" a (.cons b .nil)) ρ = .exc "NoTile" := by
  have z := ev_call h dom_tn_inj (ts, nm) h1 (evs_cons h2 evs_nil) rfl rfl
  rw [tile_ofF, if_pos g] at z
  rw [z]
  show (match ts.find? (hasN nm) with | some a => Res.ok (tD a) | none => Res.exc "NoTile") = _
  rw [hf]
theorem op_tupS {ts : List Tile} {a : Tile} (h : ts.length ≤ 900) : opV .add (.tuple (tsD ts)) (.tuple [tD a]) = some (.tuple (tsD (ts ++ [a]))) := by
  rw [op_tups, gd_of (sz_true (by rw [tsD_len, List.length_singleton]; omega)), tsD_snoc]
theorem run_fixed (Γ : Fns) (ht : Γ "tile_of" = some (2, tile_ofS)) (ho : Γ "others" = some (2, othersS)) (p : List Tile × Str × Bool) : ∃ fuel, Gives (fixedF p) (exSs Γ fuel c_fixed (startS N_fixed (dom_fx p))) := by
  refine ⟨0, ?_⟩
  unfold fixedF
  by_cases h : gP (p.1, p.2.1)
  rotate_left
  · rw [if_neg h]; trivial
  rw [if_pos h]
  obtain ⟨ts, nm, b⟩ := p
  have e0 : startS N_fixed (dom_fx (ts, nm, b)) = [.val (.tuple (tsD ts)), .val (.str nm), .val (.bool b), .no] := by simp [N_fixed, startS, dom_fx]
  have go : gL 900 (otT ts nm) := h.1.filter _
  rw [e0, c_fixed]
  cases q : ts.find? (hasN nm) with
  | none =>
    rw [x_setX (ev_tile_ofX (ts := ts) (nm := nm) ht (by simp [ev]) (by simp [ev]) h q)]
    exact ⟨_, rfl⟩
  | some a =>
    obtain ⟨q1, q2⟩ := find_nm q
    rw [x_set (ev_tile_of (ts := ts) (nm := nm) (x := a) ht (by simp [ev]) (by simp [ev]) h q) rfl]
    show Gives (.ok (.tuple (tsD (fixT ts a b)))) (exSs Γ 0 _ [.val (.tuple (tsD ts)), .val (.str nm), .val (.bool b), .val (tD a)])
    refine .inl (x_ret (ev_pr1 (ev_srt (d := sqD false (tsD (otT ts nm ++ [fxT a b]))) (ev_op (ev_others (ts := ts) (nm := nm) ho (by simp [ev]) (by simp [ev]) h) (e := .tuple [tD (fxT a b)]) (ev_tup (evs_cons (by simp [ev, evs]; rfl) evs_nil) (by simp)) (op_tupS go.len)) (srtV_sq ((go.snoc (show gN (fxT a b) from h.1.ok a q2)).le (by decide)))) ?_))
    rw [pr_tup, fixT, q1]
open Classical in
noncomputable def takenF (p : List Tile × Str) : Res D := if gP p then (match p.1.find? (hasN p.2) with
  | some _ => .ok (.tuple (tsD (otT p.1 p.2)))
  | none => .exc "NoTile") else .stuck
noncomputable def takenS : List D → Res D := spec dom_tn takenF
theorem run_taken (Γ : Fns) (ht : Γ "tile_of" = some (2, tile_ofS)) (ho : Γ "others" = some (2, othersS)) (p : List Tile × Str) : ∃ fuel, Gives (takenF p) (exSs Γ fuel c_taken (startS N_taken (dom_tn p))) := by
  refine ⟨0, ?_⟩
  unfold takenF
  by_cases h : gP p
  rotate_left
  · rw [if_neg h]; trivial
  rw [if_pos h]
  obtain ⟨ts, nm⟩ := p
  have e0 : startS N_taken (dom_tn (ts, nm)) = [.val (.tuple (tsD ts)), .val (.str nm)] := by simp [N_taken, startS, dom_tn]
  rw [e0, c_taken]
  cases q : ts.find? (hasN nm) with
  | none =>
    rw [x_expX (ev_tile_ofX (ts := ts) (nm := nm) ht (by simp [ev]) (by simp [ev]) h q)]
    exact ⟨_, rfl⟩
  | some a =>
    rw [x_exp (ev_tile_of (ts := ts) (nm := nm) (x := a) ht (by simp [ev]) (by simp [ev]) h q) rfl]
    exact .inl (x_ret (ev_others (ts := ts) (nm := nm) ho (by simp [ev]) (by simp [ev]) h))
end Tl
set_option maxHeartbeats 4000000
namespace Tl
open PySem PySem.Spec L2
/-! ### must_be_narrow -/
def dom_2i (p : Int × Int) : List D := [.int p.1, .int p.2]
theorem dom_2i_inj (p q : Int × Int) (h : dom_2i p = dom_2i q) : p = q := by
  obtain ⟨a, b⟩ := p
  obtain ⟨c, d⟩ := q
  simp only [dom_2i, List.cons.injEq, PyData.int.injEq] at h
  rw [h.1, h.2.1]
def must_be_narrowF (p : Int × Int) : Res D := if p.1 < p.2 then .exc "BadTile" else .ok .none
noncomputable def must_be_narrowS : List D → Res D := spec dom_2i must_be_narrowF
theorem run_must_be_narrow (Γ : Fns) (p : Int × Int) : ∃ fuel, Gives (must_be_narrowF p) (exSs Γ fuel c_must_be_narrow (startS N_must_be_narrow (dom_2i p))) := by
  refine ⟨0, ?_⟩
  obtain ⟨wide, width⟩ := p
  have e0 : startS N_must_be_narrow (dom_2i (wide, width)) = [.val (.int wide), .val (.int width)] := by simp [N_must_be_narrow, startS, dom_2i]
  rw [e0, c_must_be_narrow]
  show Gives (if wide < width then _ else _) _
  have t : ∀ m, ev Γ (.cmp .gt (.var 1) (.var 0)) (seeM m [.val (.int wide), .val (.int width)]) = .ok (.bool (decide (wide < width))) := fun m => by simp [ev]
  by_cases q : wide < width
  · rw [if_pos q, x_ifT (by rw [t, decide_eq_true q]), x_rai]
    exact ⟨_, rfl⟩
  · rw [if_neg q, x_ifF (by rw [t, decide_eq_false q]), x_nil]
    exact .inr ⟨rfl, _, rfl⟩
/-! ### rooms -/
def dom_rm (p : Int × List Tile × Int × Int) : List D := [.int p.1, .tuple (tsD p.2.1), .int p.2.2.1, .int p.2.2.2]
theorem dom_rm_inj (p q : Int × List Tile × Int × Int) (h : dom_rm p = dom_rm q) : p = q := by
  obtain ⟨a, b, c, d⟩ := p
  obtain ⟨a', b', c', d'⟩ := q
  simp only [dom_rm, List.cons.injEq, PyData.int.injEq, PyData.tuple.injEq] at h
  rw [h.1, tsD_inj h.2.1, h.2.2.1, h.2.2.2.1]
def plD (p : Int × Int) : D := .tuple [.int p.1, .int p.2]
def rmTile (w h l t : Int) : Tile := ⟨"a", l, t, w, h, false⟩
def rmIn (ts : List Tile) (w h t : Int) (acc : List (Int × Int)) (l : Int) : List (Int × Int) := if anyM (rmTile w h l t) ts = true then acc else acc ++ [(l, t)]
def upTo (n : Int) : List Int := (List.range n.toNat).map fun (i : Nat) => (i : Int)
def rmRow (wide : Int) (ts : List Tile) (w h : Int) (acc : List (Int × Int)) (t : Int) : List (Int × Int) := (upTo (wide - w + 1)).foldl (rmIn ts w h t) acc
def rmL (wide : Int) (ts : List Tile) (w h : Int) : List (Int × Int) := (upTo (heiT ts + 1)).foldl (rmRow wide ts w h) []
theorem upTo_len (n : Int) : (upTo n).length = n.toNat := by rw [upTo, List.length_map, List.length_range]
theorem upTo_range (n : Int) : rangeD 0 n.toNat = (upTo n).map .int := by
  unfold rangeD upTo
  rw [List.map_map]
  refine List.map_congr_left fun i _ => ?_
  show PyData.int (0 + (i : Int)) = .int (i : Int)
  rw [Int.zero_add]
theorem rmIn_len (ts : List Tile) (w h t : Int) (acc : List (Int × Int)) (l : Int) : (rmIn ts w h t acc l).length ≤ acc.length + 1 := by
  unfold rmIn
  split
  · omega
  · simp
theorem rmRow_len (ts : List Tile) (w h t : Int) : ∀ (ls : List Int) (acc : List (Int × Int)), (ls.foldl (rmIn ts w h t) acc).length ≤ acc.length + ls.length
  | [], acc => by simp
  | l :: ls, acc => by
    have h1 := rmRow_len ts w h t ls (rmIn ts w h t acc l)
    have h2 := rmIn_len ts w h t acc l
    rw [List.foldl_cons, List.length_cons]
    omega
structure gRm (p : Int × List Tile × Int × Int) : Prop where
  len : p.2.1.length ≤ 1000
  wid : p.1 ≤ 12
  one : 1 ≤ p.2.2.1
  hei : heiT p.2.1 ≤ 80
  low : 0 ≤ heiT p.2.1
open Classical in
noncomputable def roomsF (p : Int × List Tile × Int × Int) : Res D := if gRm p then (if p.1 < p.2.2.1 then .exc "BadTile" else .ok (.tuple ((rmL p.1 p.2.1 p.2.2.1 p.2.2.2).map plD))) else .stuck
noncomputable def roomsS : List D → Res D := spec dom_rm roomsF
abbrev Rm (wide : Int) (ts : List Tile) (w h : Int) (acc : List (Int × Int)) (g5 g6 : Sl) : EnvS := [.val (.int wide), .val (.tuple (tsD ts)), .val (.int w), .val (.int h), .own (acc.map plD), g5, g6]
abbrev rmB : Ss := (.cons (.iff (.call "meets_none" (.tup (.cons (.str "a") (.cons (.var 6) (.cons (.var 5) (.cons (.var 2) (.cons (.var 3) (.cons (.bl false) .nil))))))) (.cons (.var 1) .nil)) (.cons (.app 4 (.tup (.cons (.var 6) (.cons (.var 5) .nil)))) .nil) .nil) .nil)
theorem rm_turn {Γ : Fns} {fuel : Nat} (hm : Γ "meets_none" = some (2, meets_noneS)) {wide w h t l : Int} {ts : List Tile} (hl : ts.length ≤ 1000) {acc : List (Int × Int)} (ha : acc.length < 1000) : exSs Γ fuel rmB (Rm wide ts w h acc (.val (.int t)) (.val (.int l))) = .nx (Rm wide ts w h (rmIn ts w h t acc l) (.val (.int t)) (.val (.int l))) := by
  rw [rmB, x_iff (ev_meets_none (x := rmTile w h l t) (ts := ts) (k := false) hm (by simp [ev, evs]; rfl) (by simp [ev, vsC, vsCs]; rfl) hl) rfl]
  unfold rmIn
  cases anyM (rmTile w h l t) ts with
  | true =>
    rw [show (!true) = false from rfl, if_neg (by decide), x_nil, fl_nx, x_nil]
    rfl
  | false =>
    rw [show (!false) = true from rfl, if_pos rfl, x_app (ds := acc.map plD) (d := plD (l, t)) rfl (by simp [ev, evs]; rfl) rfl (by rw [List.length_map]; exact ha), x_nil, fl_nx, x_nil]
    show Fl.nx [_, _, _, _, .own (acc.map plD ++ [plD (l, t)]), _, _] = Fl.nx (Rm wide ts w h (acc ++ [(l, t)]) _ _)
    rw [Rm, List.map_append]
    rfl
abbrev rmC : Ss := (.cons (.for_ (.one 6) (.rng1 (.op .add (.op .sub (.var 0) (.var 2)) (.int 1))) rmB) .nil)
theorem rm_row {Γ : Fns} {fuel : Nat} (hm : Γ "meets_none" = some (2, meets_noneS)) {wide w h t : Int} {ts : List Tile} (hl : ts.length ≤ 1000) (hw : wide ≤ 12) (h1 : 1 ≤ w) (h2 : w ≤ wide) {acc : List (Int × Int)} (ha : acc.length + 12 ≤ 1000) (g6 : Sl) : ∃ h6, exSs Γ fuel rmC (Rm wide ts w h acc (.val (.int t)) g6) = .nx (Rm wide ts w h (rmRow wide ts w h acc t) (.val (.int t)) h6) := by
  have er : rng1D [.int (wide - w + 1)] = some ((upTo (wide - w + 1)).map .int) := by
    rw [← upTo_range]
    exact gd_of (by
      rw [Bool.and_eq_true, decide_eq_true_eq, decide_eq_true_eq]
      omega) _
  rw [rmC, x_for (ds := (upTo (wide - w + 1)).map .int) (by
    rw [evI, show ev Γ (.op .add (.op .sub (.var 0) (.var 2)) (.int 1)) (seeM (vsI (.rng1 (.op .add (.op .sub (.var 0) (.var 2)) (.int 1)))) (Rm wide ts w h acc (.val (.int t)) g6)) = .ok (.int (wide - w + 1)) by simp [ev]]
    show lift (rng1D [.int (wide - w + 1)]) = _
    rw [er]
    rfl)]
  have f1 : freezeM (vsI (.rng1 (.op .add (.op .sub (.var 0) (.var 2)) (.int 1)))) (Rm wide ts w h acc (.val (.int t)) g6) = Rm wide ts w h acc (.val (.int t)) g6 := by simp [vsI, vsC]
  rw [f1]
  have hlen := upTo_len (wide - w + 1)
  obtain ⟨x6, e⟩ := forD_fold (b := forB Γ fuel (.one 6) rmB) (e := PyData.int) (f := rmIn ts w h t) (mk := fun acc x => Rm wide ts w h acc (.val (.int t)) x) (I := fun acc r => acc.length + r.length ≤ 1000) (l := upTo (wide - w + 1)) (fun l r acc x hi _ => by
    rw [List.length_cons] at hi
    have := rmIn_len ts w h t acc l
    exact ⟨by omega, _, rm_turn hm hl (by omega)⟩) acc g6 (by omega)
  show ∃ h6, (forD (forB Γ fuel (.one 6) rmB) _ _).bind _ = _
  rw [e, fl_nx, x_nil]
  exact ⟨_, rfl⟩
theorem rmRow_le {wide w h t : Int} {ts : List Tile} (hw : wide ≤ 12) (h1 : 1 ≤ w) (acc : List (Int × Int)) : (rmRow wide ts w h acc t).length ≤ acc.length + 12 := by
  have z := rmRow_len ts w h t (upTo (wide - w + 1)) acc
  rw [upTo_len] at z
  unfold rmRow
  omega
theorem run_rooms (Γ : Fns) (hn : Γ "must_be_narrow" = some (2, must_be_narrowS)) (hh : Γ "height" = some (1, heightS)) (hm : Γ "meets_none" = some (2, meets_noneS)) (p : Int × List Tile × Int × Int) : ∃ fuel, Gives (roomsF p) (exSs Γ fuel c_rooms (startS N_rooms (dom_rm p))) := by
  refine ⟨0, ?_⟩
  unfold roomsF
  by_cases g : gRm p
  rotate_left
  · rw [if_neg g]; trivial
  rw [if_pos g]
  obtain ⟨wide, ts, w, h⟩ := p
  obtain ⟨hl, hw, h1, hhe, hge⟩ := g
  have hl : ts.length ≤ 1000 := hl
  have hw : wide ≤ 12 := hw
  have h1 : 1 ≤ w := h1
  have hhe : heiT ts ≤ 80 := hhe
  have e0 : startS N_rooms (dom_rm (wide, ts, w, h)) = [.val (.int wide), .val (.tuple (tsD ts)), .val (.int w), .val (.int h), .no, .no, .no] := by simp [N_rooms, startS, dom_rm]
  rw [e0, c_rooms]
  have z := fun m => ev_call (a := .var 0) (es := .cons (.var 2) .nil) (ρ := seeM m [.val (.int wide), .val (.tuple (tsD ts)), .val (.int w), .val (.int h), .no, .no, .no]) hn dom_2i_inj (wide, w) (d := .int wide) (ds := [.int w]) (by simp [ev]) (by simp [ev, evs]) rfl rfl
  show Gives (if wide < w then _ else .ok (.tuple ((rmL wide ts w h).map plD))) _
  by_cases q : wide < w
  · rw [must_be_narrowF, if_pos (show wide < w from q)] at z
    rw [if_pos q, x_expX (z _)]
    exact ⟨_, rfl⟩
  rw [must_be_narrowF, if_neg (show ¬ wide < w from q)] at z
  rw [if_neg q, x_exp (z _) rfl, x_new]
  show Gives _ (exSs Γ 0 _ (Rm wide ts w h [] .no .no))
  refine .inl ?_
  have zh := fun m => ev_call (a := .var 1) (es := .nil) (ρ := seeM m (Rm wide ts w h [] .no .no)) hh dom_ts_inj ts (d := .tuple (tsD ts)) (ds := []) (by simp [ev]) rfl rfl rfl
  rw [if_pos hl] at zh
  have hge : 0 ≤ heiT ts := hge
  have er : rng1D [.int (heiT ts + 1)] = some ((upTo (heiT ts + 1)).map .int) := by
    rw [← upTo_range]
    exact gd_of (by
      rw [Bool.and_eq_true, decide_eq_true_eq, decide_eq_true_eq]
      omega) _
  rw [x_for (ds := (upTo (heiT ts + 1)).map .int) (by
    rw [evI, ev_op (zh _) (e := .int 1) (by simp [ev]) (f := .int (heiT ts + 1)) rfl]
    show lift (rng1D [.int (heiT ts + 1)]) = _
    rw [er]
    rfl)]
  have f1 : freezeM (vsI (.rng1 (.op .add (.call "height" (.var 1) .nil) (.int 1)))) (Rm wide ts w h [] .no .no) = Rm wide ts w h [] .no .no := by simp [vsI, vsC, vsCs]
  rw [f1]
  have hlen := upTo_len (heiT ts + 1)
  obtain ⟨x, e⟩ := forD_fold (b := forB Γ 0 (.one 5) rmC) (e := PyData.int) (f := rmRow wide ts w h) (mk := fun acc (x : Sl × Sl) => Rm wide ts w h acc x.1 x.2) (I := fun acc r => acc.length + 12 * r.length ≤ 1000) (l := upTo (heiT ts + 1)) (fun t r acc x hi _ => by
    rw [List.length_cons] at hi
    have := rmRow_le (ts := ts) (h := h) (t := t) hw h1 acc
    obtain ⟨x6, e⟩ := rm_row (fuel := 0) hm (h := h) (t := t) hl hw h1 (by omega) (acc := acc) (by omega) x.2
    exact ⟨by omega, (_, x6), e⟩) [] (.no, .no) (by simp; omega)
  show (forD (forB Γ 0 (.one 5) rmC) _ _).bind _ = _
  rw [e, fl_nx]
  exact x_ret (ev_pr1 (d := .list ((rmL wide ts w h).map plD)) (by simp [ev, vsC, vsCs]; rfl) rfl)
/-! ### room -/
theorem ix_t0 (a : Int × Int) (r : List (Int × Int)) : ixV (.tuple ((a :: r).map plD)) (.int 0) = some (plD a) := by
  show atI (plD a :: r.map plD) 0 = _
  unfold atI ixN
  rw [if_pos (by decide), if_pos (by rw [List.length_cons]; omega)]
  rfl
open Classical in
noncomputable def roomF (p : Int × List Tile × Int × Int) : Res D := if gRm p then (if p.1 < p.2.2.1 then .exc "BadTile" else match rmL p.1 p.2.1 p.2.2.1 p.2.2.2 with
  | a :: _ => .ok (plD a)
  | [] => .stuck) else .stuck
noncomputable def roomS : List D → Res D := spec dom_rm roomF
theorem run_room (Γ : Fns) (hr : Γ "rooms" = some (4, roomsS)) (p : Int × List Tile × Int × Int) : ∃ fuel, Gives (roomF p) (exSs Γ fuel c_room (startS N_room (dom_rm p))) := by
  refine ⟨0, ?_⟩
  unfold roomF
  by_cases g : gRm p
  rotate_left
  · rw [if_neg g]; trivial
  rw [if_pos g]
  obtain ⟨wide, ts, w, h⟩ := p
  have e0 : startS N_room (dom_rm (wide, ts, w, h)) = [.val (.int wide), .val (.tuple (tsD ts)), .val (.int w), .val (.int h)] := by simp [N_room, startS, dom_rm]
  rw [e0, c_room]
  have z := fun m => ev_call (a := .var 0) (es := .cons (.var 1) (.cons (.var 2) (.cons (.var 3) .nil))) (ρ := seeM m [.val (.int wide), .val (.tuple (tsD ts)), .val (.int w), .val (.int h)]) hr dom_rm_inj (wide, ts, w, h) (d := .int wide) (ds := [.tuple (tsD ts), .int w, .int h]) (by simp [ev]) (by simp [ev, evs]) rfl rfl
  rw [roomsF, if_pos g] at z
  show Gives (if wide < w then _ else match rmL wide ts w h with | a :: _ => Res.ok (plD a) | [] => .stuck) _
  by_cases q : wide < w
  · rw [if_pos (show wide < w from q)] at z
    rw [if_pos q, x_retX (by rw [ev, z]; rfl)]
    exact ⟨_, rfl⟩
  rw [if_neg (show ¬ wide < w from q)] at z
  rw [if_neg q]
  cases hL : rmL wide ts w h with
  | nil => trivial
  | cons a r =>
    have z : ∀ m, ev Γ (.call "rooms" (.var 0) (.cons (.var 1) (.cons (.var 2) (.cons (.var 3) .nil)))) (seeM m [.val (.int wide), .val (.tuple (tsD ts)), .val (.int w), .val (.int h)]) = .ok (.tuple ((a :: r).map plD)) := fun m => by rw [z, ← hL]
    exact .inl (x_ret (ev_ix (z _) (e := .int 0) (by simp [ev]) (ix_t0 _ _)))
end Tl
set_option maxHeartbeats 4000000
namespace Tl
open PySem PySem.Spec L2
theorem anyEq_strs (x : Str) : ∀ ns : List Str, anyEq (ns.map .str) (.str x) = decide (x ∈ ns)
  | [] => rfl
  | n :: ns => by
    have ih := anyEq_strs x ns
    show (PyData.eqv (.str n) (.str x) || anyEq (ns.map .str) (.str x)) = _
    rw [ih]
    by_cases h : x = n
    · simp [PyData.eqv, h]
    · have h' : ¬ n = x := fun e => h e.symm
      simp [PyData.eqv, h, h']
theorem cm_notinN {x : Str} {ns : List Str} (hx : nOk x) (hn : ∀ y ∈ ns, nOk y) : cmpD .notin (.str x) (.list (ns.map .str)) = some (.bool (decide (x ∉ ns))) := by
  have z : SeqAt.shaped (.list (ns.map .str)) = true := shaped_strs hn
  show Option.map PyData.bool (gd (SeqAt.shaped (.str x) && SeqAt.shaped (.list (ns.map .str))) (!anyEq (ns.map .str) (.str x))) = _
  rw [shaped_str hx, z, anyEq_strs]
  simp
/-! ### new_name -/
def abc : List Str := ["a", "b", "c", "d", "e", "f", "g", "h", "i", "j", "k", "l", "m", "n", "o", "p", "q", "r", "s", "t", "u", "v", "w", "x", "y", "z"]
theorem abc_ok : ∀ x ∈ abc, nOk x := by decide +kernel
theorem abc_it : seqD (.str "abcdefghijklmnopqrstuvwxyz") = some (abc.map .str) := by rfl
def freeN (ts : List Tile) : List Str := abc.filter fun x => decide (x ∉ ts.map Tile.nm)
open Classical in
noncomputable def new_nameF (ts : List Tile) : Res D := if ts.length ≤ 1000 ∧ ∀ a ∈ ts, nOk a.nm then (match freeN ts with
  | x :: _ => .ok (.str x)
  | [] => .exc "NoName") else .stuck
noncomputable def new_nameS : List D → Res D := spec dom_ts new_nameF
theorem run_new_name (Γ : Fns) (ts : List Tile) : ∃ fuel, Gives (new_nameF ts) (exSs Γ fuel c_new_name (startS N_new_name (dom_ts ts))) := by
  refine ⟨0, ?_⟩
  unfold new_nameF
  by_cases g : ts.length ≤ 1000 ∧ ∀ a ∈ ts, nOk a.nm
  rotate_left
  · rw [if_neg g]; trivial
  rw [if_pos g]
  obtain ⟨hl, hn⟩ := g
  have e0 : startS N_new_name (dom_ts ts) = [.val (.tuple (tsD ts)), .no, .no, .no] := by simp [N_new_name, startS, dom_ts]
  rw [e0, c_new_name, x_setF (d := .list ((freeN ts).map .str)) (ev_fil (e := PyData.str) (l := abc) (q := fun x => decide (x ∉ ts.map Tile.nm)) (by
    rw [evI, ev]
    show lift (seqD (.str "abcdefghijklmnopqrstuvwxyz")) = _
    rw [abc_it]
    rfl) (fun x hx => ev_cmp (d := .str x) (e := .list ((ts.map Tile.nm).map .str)) (by simp [ev]) (by
      rw [List.map_map]
      exact ev_map (e := tD) (l := ts) (g := fun a => .str a.nm) (by simp [evI, ev, tsD]) (fun a _ => by simp [ev]) hl) (cm_notinN (abc_ok x hx) fun y hy => by
        obtain ⟨a, ha, rfl⟩ := List.mem_map.mp hy
        exact hn a ha)) (by simp) (by decide)) rfl]
  have f1 : freezeM (vsC (.lc (.var 2) (.one 2) (.seq (.gstr "LETTERS" "abcdefghijklmnopqrstuvwxyz")) (.cons (.cmp .notin (.var 2) (.lc (.ix (.var 3) (.int 0)) (.one 3) (.seq (.var 0)) .nil)) .nil))) [.val (.tuple (tsD ts)), .no, .no, .no] = [.val (.tuple (tsD ts)), .no, .no, .no] := by simp [vsC, vsCs, vsI]
  rw [f1]
  show Gives _ (exSs Γ 0 _ [.val (.tuple (tsD ts)), .val (.list ((freeN ts).map .str)), .no, .no])
  cases hf : freeN ts with
  | nil =>
    rw [x_ifT (ev_not (d := .list []) (by simp [ev]) rfl), x_rai]
    exact ⟨_, rfl⟩
  | cons x r =>
    rw [x_ifF (ev_not (d := .list ((x :: r).map .str)) (by simp [ev]) rfl)]
    refine .inl (x_ret (ev_ix (d := .list ((x :: r).map .str)) (by simp [ev]) (e := .int 0) (by simp [ev]) ?_))
    show atI (PyData.str x :: r.map PyData.str) 0 = _
    unfold atI ixN
    rw [if_pos (by decide), if_pos (by rw [List.length_cons]; omega)]
    rfl
theorem x_unp {Γ : Fns} {n : Nat} {is : List Nat} {c : C} {ρ ρ1 : EnvS} {ss : Ss} {ds : List D} (h : ev Γ c (seeM (vsC c) ρ) = .ok (.tuple ds)) (hp : pure_ (.tuple ds) = true) (hs : setS is ds ρ = some ρ1) : exSs Γ n (.cons (.unp is c) ss) ρ = exSs Γ n ss ρ1 := by
  rw [exSs, exS, evE, h]
  show (unpS is (.tuple ds) (keepM (vsC c) (.tuple ds) ρ)).bind _ = _
  have e : keepM (vsC c) (.tuple ds) ρ = ρ := if_pos hp
  rw [e]
  unfold unpS
  simp only [hs]
  rfl
end Tl
set_option maxHeartbeats 4000000
namespace Tl
open PySem PySem.Spec L2
theorem x_unpX {Γ : Fns} {n : Nat} {is : List Nat} {c : C} {ρ : EnvS} {ss : Ss} {x : Str} (h : ev Γ c (seeM (vsC c) ρ) = .exc x) : exSs Γ n (.cons (.unp is c) ss) ρ = .exc x ρ := by
  rw [exSs, exS, evE, h]
  rfl
section
variable {Γ : Fns} {ρ : Env0D} {x : Str}
theorem evs_hdX {c : C} {es : Cs} (h : ev Γ c ρ = .exc x) : evs Γ (.cons c es) ρ = .exc x := by
  rw [evs, h]
  rfl
theorem ev_tupX {es : Cs} (h : evs Γ es ρ = .exc x) : ev Γ (.tup es) ρ = .exc x := by
  rw [ev, h]
  rfl
theorem ev_opX2 {o : Op2} {a b : C} {d : D} (h1 : ev Γ a ρ = .ok d) (h2 : ev Γ b ρ = .exc x) : ev Γ (.op o a b) ρ = .exc x := by
  rw [ev, h1, h2]
  rfl
theorem ev_srtX {a : C} (h : ev Γ a ρ = .exc x) : ev Γ (.srt a) ρ = .exc x := by
  rw [ev, h]
  rfl
theorem ev_pr1X {p : Pr} {a : C} (h : ev Γ a ρ = .exc x) : ev Γ (.pr p a .nil) ρ = .exc x := by
  rw [ev, h]
  rfl
theorem ev_in {a b c : C} {i j k : Int} (h1 : ev Γ a ρ = .ok (.int i)) (h2 : ev Γ b ρ = .ok (.int j)) (h3 : ev Γ c ρ = .ok (.int k)) : ev Γ (.cmp2 .le .lt a b c) ρ = .ok (.bool (decide (i ≤ j) && decide (j < k))) := by
  rw [ev, h1, h2]
  show (if decide (i ≤ j) = true then (ev Γ c ρ).bind fun z => lift (cmpD .lt (.int j) z) else Res.ok (.bool false)) = _
  rw [h3]
  cases decide (i ≤ j) <;> rfl
end
/-! ### added -/
structure gAd (p : Int × List Tile × Int × Int) : Prop where
  rm : gRm p
  len : p.2.1.length ≤ 900
  nm : ∀ a ∈ p.2.1, nOk a.nm
def addT (ts : List Tile) (x : Str) (a : Int × Int) (w h : Int) : List Tile := srtT (ts ++ [⟨x, a.1, a.2, w, h, false⟩])
open Classical in
noncomputable def addedF (p : Int × List Tile × Int × Int) : Res D := if gAd p then (if p.1 < p.2.2.1 then .exc "BadTile" else match rmL p.1 p.2.1 p.2.2.1 p.2.2.2 with
  | a :: _ => (match freeN p.2.1 with
    | x :: _ => .ok (.tuple (tsD (addT p.2.1 x a p.2.2.1 p.2.2.2)))
    | [] => .exc "NoName")
  | [] => .stuck) else .stuck
noncomputable def addedS : List D → Res D := spec dom_rm addedF
theorem run_added (Γ : Fns) (hr : Γ "room" = some (4, roomS)) (hn : Γ "new_name" = some (1, new_nameS)) (p : Int × List Tile × Int × Int) : ∃ fuel, Gives (addedF p) (exSs Γ fuel c_added (startS N_added (dom_rm p))) := by
  refine ⟨0, ?_⟩
  unfold addedF
  by_cases g : gAd p
  rotate_left
  · rw [if_neg g]; trivial
  rw [if_pos g]
  obtain ⟨wide, ts, w, h⟩ := p
  obtain ⟨g, hl, hnm⟩ := g
  have hl : ts.length ≤ 900 := hl
  have hnm : ∀ a ∈ ts, nOk a.nm := hnm
  have e0 : startS N_added (dom_rm (wide, ts, w, h)) = [.val (.int wide), .val (.tuple (tsD ts)), .val (.int w), .val (.int h), .no, .no] := by simp [N_added, startS, dom_rm]
  rw [e0, c_added]
  have z := fun m => ev_call (a := .var 0) (es := .cons (.var 1) (.cons (.var 2) (.cons (.var 3) .nil))) (ρ := seeM m [.val (.int wide), .val (.tuple (tsD ts)), .val (.int w), .val (.int h), .no, .no]) hr dom_rm_inj (wide, ts, w, h) (d := .int wide) (ds := [.tuple (tsD ts), .int w, .int h]) (by simp [ev]) (by simp [ev, evs]) rfl rfl
  rw [roomF, if_pos g] at z
  show Gives (if wide < w then _ else match rmL wide ts w h with | a :: _ => (match freeN ts with | x :: _ => Res.ok (.tuple (tsD (addT ts x a w h))) | [] => .exc "NoName") | [] => .stuck) _
  by_cases q : wide < w
  · rw [if_pos (show wide < w from q)] at z
    rw [if_pos q, x_unpX (z _)]
    exact ⟨_, rfl⟩
  rw [if_neg (show ¬ wide < w from q)] at z
  rw [if_neg q]
  cases hL : rmL wide ts w h with
  | nil => trivial
  | cons a r =>
    have z : ∀ m, ev Γ (.call "room" (.var 0) (.cons (.var 1) (.cons (.var 2) (.cons (.var 3) .nil)))) (seeM m [.val (.int wide), .val (.tuple (tsD ts)), .val (.int w), .val (.int h), .no, .no]) = .ok (plD a) := fun m => by
      rw [z]
      show (match rmL wide ts w h with | a :: _ => Res.ok (plD a) | [] => .stuck) = _
      rw [hL]
    rw [x_unp (ds := [.int a.1, .int a.2]) (z _) rfl rfl]
    show Gives _ (exSs Γ 0 _ [.val (.int wide), .val (.tuple (tsD ts)), .val (.int w), .val (.int h), .val (.int a.1), .val (.int a.2)])
    have zn := fun m => ev_call (a := .var 1) (es := .nil) (ρ := seeM m [.val (.int wide), .val (.tuple (tsD ts)), .val (.int w), .val (.int h), .val (.int a.1), .val (.int a.2)]) hn dom_ts_inj ts (d := .tuple (tsD ts)) (ds := []) (by simp [ev]) rfl rfl rfl
    rw [new_nameF, if_pos (show ts.length ≤ 1000 ∧ ∀ a ∈ ts, nOk a.nm from ⟨by omega, hnm⟩)] at zn
    show Gives (match freeN ts with | x :: _ => Res.ok (.tuple (tsD (addT ts x a w h))) | [] => .exc "NoName") _
    cases hF : freeN ts with
    | nil =>
      rw [hF] at zn
      rw [x_retX (x := "NoName") (ev_pr1X (ev_srtX (ev_opX2 (d := .tuple (tsD ts)) (by simp [ev]) (ev_tupX (evs_hdX (ev_tupX (evs_hdX (zn _))))))))]
      exact ⟨_, rfl⟩
    | cons x r =>
      rw [hF] at zn
      have hz : (ts ++ [(⟨x, a.1, a.2, w, h, false⟩ : Tile)]).length ≤ 1000 := by simp; omega
      refine .inl (x_ret (ev_pr1 (ev_srt (d := sqD false (tsD (ts ++ [⟨x, a.1, a.2, w, h, false⟩]))) (ev_op (d := .tuple (tsD ts)) (by simp [ev]) (e := .tuple [tD ⟨x, a.1, a.2, w, h, false⟩]) (ev_tup (evs_cons (ev_tup (evs_cons (zn _) (by simp [ev, evs])) (by simp)) evs_nil) (by simp)) (op_tupS hl)) (srtV_sq hz)) ?_))
      rw [pr_tup, addT]
/-! ### at -/
theorem forD_find {α γ : Type} {b : D → EnvS → Fl} {e r : α → D} {q : α → Bool} {mk : γ → EnvS} : ∀ {l : List α}, (∀ a ∈ l, ∀ x, (q a = true → b (e a) (mk x) = .rt (r a)) ∧ (q a = false → ∃ x', b (e a) (mk x) = .nx (mk x'))) → ∀ x, ∃ x', forD b (l.map e) (mk x) = match l.find? q with
    | some a => .rt (r a)
    | none => .nx (mk x')
  | [], _, x => ⟨x, rfl⟩
  | a :: l, h, x => by
    obtain ⟨h1, h2⟩ := h a List.mem_cons_self x
    by_cases hq : q a = true
    · rw [List.map_cons, forD, h1 hq, List.find?_cons_of_pos hq]
      exact ⟨x, rfl⟩
    · obtain ⟨x', e⟩ := h2 (by simpa using hq)
      rw [List.map_cons, forD, e, List.find?_cons_of_neg hq]
      exact forD_find (fun a ha => h a (List.mem_cons_of_mem _ ha)) _
def dom_t2i (p : List Tile × Int × Int) : List D := [.tuple (tsD p.1), .int p.2.1, .int p.2.2]
theorem dom_t2i_inj (p q : List Tile × Int × Int) (h : dom_t2i p = dom_t2i q) : p = q := by
  obtain ⟨a, b, c⟩ := p
  obtain ⟨a', b', c'⟩ := q
  simp only [dom_t2i, List.cons.injEq, PyData.int.injEq, PyData.tuple.injEq] at h
  rw [tsD_inj h.1, h.2.1, h.2.2.1]
def onS (c r : Int) (a : Tile) : Bool := (decide (a.l ≤ c) && decide (c < a.l + a.w)) && (decide (a.t ≤ r) && decide (r < a.t + a.h))
def atD (ts : List Tile) (c r : Int) : D := match ts.find? (onS c r) with
  | some a => .str a.nm
  | none => .none
noncomputable def atS : List D → Res D := spec dom_t2i fun p => .ok (atD p.1 p.2.1 p.2.2)
abbrev AtE (ts : List Tile) (c r : Int) (x : Sl × Sl × Sl × Sl × Sl × Sl) : EnvS := [.val (.tuple (tsD ts)), .val (.int c), .val (.int r), x.1, x.2.1, x.2.2.1, x.2.2.2.1, x.2.2.2.2.1, x.2.2.2.2.2]
theorem run_at (Γ : Fns) (p : List Tile × Int × Int) : ∃ fuel, Gives (.ok (atD p.1 p.2.1 p.2.2)) (exSs Γ fuel c_at (startS N_at (dom_t2i p))) := by
  refine ⟨0, .inl ?_⟩
  obtain ⟨ts, c, r⟩ := p
  have e0 : startS N_at (dom_t2i (ts, c, r)) = AtE ts c r (.no, .no, .no, .no, .no, .no) := by simp [N_at, startS, dom_t2i]
  rw [e0, c_at, x_for (ds := ts.map tD) (by simp [evI, ev, tsD])]
  have f1 : freezeM (vsI (.seq (.var 0))) (AtE ts c r (.no, .no, .no, .no, .no, .no)) = AtE ts c r (.no, .no, .no, .no, .no, .no) := by simp [vsI, vsC]
  rw [f1]
  obtain ⟨x, e⟩ := forD_find (b := forB Γ 0 (.many [3, 4, 5, 6, 7, 8]) (.cons (.iff (.and (.cons (.cmp2 .le .lt (.var 4) (.var 1) (.op .add (.var 4) (.var 6))) (.cons (.cmp2 .le .lt (.var 5) (.var 2) (.op .add (.var 5) (.var 7))) .nil))) (.cons (.ret (.var 3)) .nil) .nil) .nil)) (e := tD) (r := fun a => .str a.nm) (q := onS c r) (mk := AtE ts c r) (l := ts) (fun a _ x => by
    have t : ∀ m, ev Γ (.and (.cons (.cmp2 .le .lt (.var 4) (.var 1) (.op .add (.var 4) (.var 6))) (.cons (.cmp2 .le .lt (.var 5) (.var 2) (.op .add (.var 5) (.var 7))) .nil))) (seeM m (AtE ts c r (.val (.str a.nm), .val (.int a.l), .val (.int a.t), .val (.int a.w), .val (.int a.h), .val (.bool a.fx)))) = .ok (.bool (onS c r a)) := fun m => by
      refine ev_and2 ?_ fun _ => ?_
      · exact ev_in (by simp [ev]) (by simp [ev]) (by simp [ev])
      · exact ev_in (by simp [ev]) (by simp [ev]) (by simp [ev])
    have s : forB Γ 0 (.many [3, 4, 5, 6, 7, 8]) (.cons (.iff (.and (.cons (.cmp2 .le .lt (.var 4) (.var 1) (.op .add (.var 4) (.var 6))) (.cons (.cmp2 .le .lt (.var 5) (.var 2) (.op .add (.var 5) (.var 7))) .nil))) (.cons (.ret (.var 3)) .nil) .nil) .nil) (tD a) (AtE ts c r x) = exSs Γ 0 (.cons (.iff (.and (.cons (.cmp2 .le .lt (.var 4) (.var 1) (.op .add (.var 4) (.var 6))) (.cons (.cmp2 .le .lt (.var 5) (.var 2) (.op .add (.var 5) (.var 7))) .nil))) (.cons (.ret (.var 3)) .nil) .nil) .nil) (AtE ts c r (.val (.str a.nm), .val (.int a.l), .val (.int a.t), .val (.int a.w), .val (.int a.h), .val (.bool a.fx))) := rfl
    rw [s]
    refine ⟨fun hq => ?_, fun hq => ?_⟩
    · rw [x_ifT (by rw [t, hq]), x_ret (d := .str a.nm) (by simp [ev])]
      rfl
    · rw [x_ifF (by rw [t, hq]), x_nil]
      exact ⟨_, rfl⟩) (.no, .no, .no, .no, .no, .no)
  show (forD (forB Γ 0 (.many [3, 4, 5, 6, 7, 8]) _) _ _).bind _ = Fl.rt (atD ts c r)
  rw [e, atD]
  cases ts.find? (onS c r) with
  | some a => rfl
  | none =>
    show exSs Γ 0 _ _ = Fl.rt .none
    exact x_ret (by simp [ev])
theorem ev_at {Γ : Fns} {ρ : Env0D} {x y z : C} {ts : List Tile} {c r : Int} (h : Γ "at" = some (3, atS)) (h1 : ev Γ x ρ = .ok (.tuple (tsD ts))) (h2 : ev Γ y ρ = .ok (.int c)) (h3 : ev Γ z ρ = .ok (.int r)) : ev Γ (.call "at" x (.cons y (.cons z .nil))) ρ = .ok (atD ts c r) := ev_call h dom_t2i_inj (ts, c, r) h1 (evs_cons h2 (evs_cons h3 evs_nil)) rfl rfl
/-! ### holes -/
def dom_iT (p : Int × List Tile) : List D := [.int p.1, .tuple (tsD p.2)]
theorem dom_iT_inj (p q : Int × List Tile) (h : dom_iT p = dom_iT q) : p = q := by
  obtain ⟨a, b⟩ := p
  obtain ⟨a', b'⟩ := q
  simp only [dom_iT, List.cons.injEq, PyData.int.injEq, PyData.tuple.injEq] at h
  rw [h.1, tsD_inj h.2.1]
def noT (ts : List Tile) (c r : Int) : Bool := (ts.find? (onS c r)).isNone
def holeS (wide : Int) (ts : List Tile) (n : Int) (r : Int) : Int := n + (((upTo wide).filter fun c => noT ts c r).length : Int)
def holeN (wide : Int) (ts : List Tile) : Int := (upTo (heiT ts)).foldl (holeS wide ts) 0
structure gHo (p : Int × List Tile) : Prop where
  len : p.2.length ≤ 1000
  wid : 0 ≤ p.1 ∧ p.1 ≤ 12
  hei : 0 ≤ heiT p.2 ∧ heiT p.2 ≤ 300
open Classical in
noncomputable def holesF (p : Int × List Tile) : Res D := if gHo p then .ok (.int (holeN p.1 p.2)) else .stuck
noncomputable def holesS : List D → Res D := spec dom_iT holesF
theorem ev_height {Γ : Fns} {ρ : Env0D} {x : C} {ts : List Tile} (h : Γ "height" = some (1, heightS)) (h1 : ev Γ x ρ = .ok (.tuple (tsD ts))) (hl : ts.length ≤ 1000) : ev Γ (.call "height" x .nil) ρ = .ok (.int (heiT ts)) := by
  have z := ev_call h dom_ts_inj ts h1 evs_nil rfl rfl
  rw [if_pos hl] at z
  exact z
theorem evI_rng1 {Γ : Fns} {ρ : Env0D} {x : C} {n : Int} (h : ev Γ x ρ = .ok (.int n)) (h0 : 0 ≤ n) (h1 : n ≤ 900) : evI Γ (.rng1 x) ρ = .ok ((upTo n).map .int) := by
  rw [evI, h]
  show lift (rng1D [.int n]) = _
  rw [show rng1D [.int n] = some (rangeD 0 n.toNat) from gd_of (by
      rw [Bool.and_eq_true, decide_eq_true_eq, decide_eq_true_eq]
      omega) _, upTo_range]
  rfl
abbrev HoE (wide : Int) (ts : List Tile) (n : Int) (x : Sl) : EnvS := [.val (.int wide), .val (.tuple (tsD ts)), .val (.int n), x, .no]
theorem run_holes (Γ : Fns) (hh : Γ "height" = some (1, heightS)) (ha : Γ "at" = some (3, atS)) (p : Int × List Tile) : ∃ fuel, Gives (holesF p) (exSs Γ fuel c_holes (startS N_holes (dom_iT p))) := by
  refine ⟨0, ?_⟩
  unfold holesF
  by_cases g : gHo p
  rotate_left
  · rw [if_neg g]; trivial
  rw [if_pos g]
  obtain ⟨wide, ts⟩ := p
  obtain ⟨hl, hw, hhe⟩ := g
  have hl : ts.length ≤ 1000 := hl
  have hw : 0 ≤ wide ∧ wide ≤ 12 := hw
  have hhe : 0 ≤ heiT ts ∧ heiT ts ≤ 300 := hhe
  refine .inl ?_
  have e0 : startS N_holes (dom_iT (wide, ts)) = [.val (.int wide), .val (.tuple (tsD ts)), .no, .no, .no] := by simp [N_holes, startS, dom_iT]
  rw [e0, c_holes, x_set (d := .int 0) (by simp [ev]) rfl]
  show exSs Γ 0 _ (HoE wide ts 0 .no) = _
  rw [x_for (evI_rng1 (ev_height hh (by simp [ev]) hl) hhe.1 (by omega))]
  have f1 : freezeM (vsI (.rng1 (.call "height" (.var 1) .nil))) (HoE wide ts 0 .no) = HoE wide ts 0 .no := by simp [vsI, vsC, vsCs]
  rw [f1]
  have hlen := upTo_len wide
  obtain ⟨x, e⟩ := forD_fold (b := forB Γ 0 (.one 3) (.cons (.set 2 (.op .add (.var 2) (.pr .len (.lc (.var 4) (.one 4) (.rng1 (.var 0)) (.cons (.cmp .is_ (.call "at" (.var 1) (.cons (.var 4) (.cons (.var 3) .nil))) .non) .nil)) .nil))) .nil)) (e := PyData.int) (f := holeS wide ts) (mk := HoE wide ts) (I := fun _ _ => True) (l := upTo (heiT ts)) (fun r _ n x _ _ => by
    refine ⟨trivial, .val (.int r), ?_⟩
    show exSs Γ 0 (.cons _ .nil) (HoE wide ts n (.val (.int r))) = _
    rw [x_set (d := .int (holeS wide ts n r)) (ev_op (d := .int n) (by simp [ev, vsC, vsCs, vsI]) (ev_pr1 (ev_fil (e := PyData.int) (l := upTo wide) (q := fun c => noT ts c r) (evI_rng1 (by simp [ev, vsC, vsCs, vsI]) hw.1 (by omega)) (fun c _ => ev_cmp (ev_at (ts := ts) (c := c) (r := r) ha (by simp [ev, vsC, vsCs, vsI]) (by simp [ev, vsC, vsCs, vsI]) (by simp [ev, vsC, vsCs, vsI])) (e := .none) (by simp [ev]) (by
      unfold atD noT
      cases ts.find? (onS c r) <;> rfl)) (by simp) (by omega)) rfl) (by
        rw [List.length_map]
        rfl)) rfl, x_nil]
    rfl) 0 .no trivial
  show (forD (forB Γ 0 (.one 3) _) _ _).bind _ = _
  rw [e, fl_nx]
  exact x_ret (by simp [ev]; rfl)
end Tl
set_option maxHeartbeats 4000000
namespace Tl
open PySem PySem.Spec L2
/-! ### the list of the rooms -/
theorem foldl_if {α β : Type} (q : α → Bool) (g : α → β) : ∀ (l : List α) (acc : List β), l.foldl (fun acc a => if q a = true then acc else acc ++ [g a]) acc = acc ++ (l.filter fun a => !q a).map g
  | [], acc => by simp
  | a :: l, acc => by
    rw [List.foldl_cons, foldl_if q g l]
    cases h : q a with
    | true => rw [if_pos rfl, List.filter_cons_of_neg (by simp [h])]
    | false => rw [if_neg (by decide), List.filter_cons_of_pos (by simp [h]), List.map_cons, List.append_assoc]; rfl
theorem foldl_app {α β : Type} (g : α → List β) : ∀ (l : List α) (acc : List β), l.foldl (fun acc a => acc ++ g a) acc = acc ++ l.flatMap g
  | [], acc => by simp
  | a :: l, acc => by
    rw [List.foldl_cons, foldl_app g l, List.flatMap_cons, List.append_assoc]
def rowL (wide : Int) (ts : List Tile) (w h t : Int) : List (Int × Int) := ((upTo (wide - w + 1)).filter fun l => !anyM (rmTile w h l t) ts).map fun l => (l, t)
theorem rmRow_eq (wide : Int) (ts : List Tile) (w h : Int) (acc : List (Int × Int)) (t : Int) : rmRow wide ts w h acc t = acc ++ rowL wide ts w h t := foldl_if (fun l => anyM (rmTile w h l t) ts) (fun l => (l, t)) _ _
theorem rmL_eq (wide : Int) (ts : List Tile) (w h : Int) : rmL wide ts w h = (upTo (heiT ts + 1)).flatMap (rowL wide ts w h) := by
  have e : rmRow wide ts w h = fun acc t => acc ++ rowL wide ts w h t := funext fun acc => funext fun t => rmRow_eq wide ts w h acc t
  unfold rmL
  rw [e, foldl_app, List.nil_append]
theorem mem_upTo {n i : Int} : i ∈ upTo n ↔ 0 ≤ i ∧ i < n := by
  unfold upTo
  rw [List.mem_map]
  constructor
  · rintro ⟨k, hk, rfl⟩
    rw [List.mem_range] at hk
    omega
  · rintro ⟨h0, h1⟩
    exact ⟨i.toNat, by rw [List.mem_range]; omega, by omega⟩
theorem mem_rmL {wide : Int} {ts : List Tile} {w h : Int} {p : Int × Int} : p ∈ rmL wide ts w h ↔ (0 ≤ p.2 ∧ p.2 ≤ heiT ts) ∧ (0 ≤ p.1 ∧ p.1 ≤ wide - w) ∧ anyM (rmTile w h p.1 p.2) ts = false := by
  obtain ⟨l, t⟩ := p
  rw [rmL_eq, List.mem_flatMap]
  constructor
  · rintro ⟨t', ht, hl⟩
    rw [rowL, List.mem_map] at hl
    obtain ⟨l', hl', e⟩ := hl
    cases e
    rw [List.mem_filter, mem_upTo] at hl'
    rw [mem_upTo] at ht
    exact ⟨⟨ht.1, by show t ≤ _; omega⟩, ⟨hl'.1.1, by show l ≤ _; omega⟩, by simpa using hl'.2⟩
  · rintro ⟨ht, hl, hm⟩
    have ht : 0 ≤ t ∧ t ≤ heiT ts := ht
    have hl : 0 ≤ l ∧ l ≤ wide - w := hl
    refine ⟨t, mem_upTo.mpr ⟨ht.1, by omega⟩, ?_⟩
    rw [rowL, List.mem_map]
    refine ⟨l, List.mem_filter.mpr ⟨mem_upTo.mpr ⟨hl.1, by omega⟩, ?_⟩, rfl⟩
    have hm : anyM (rmTile w h l t) ts = false := hm
    rw [hm]
    rfl
theorem hei_ge {ts : List Tile} {a : Tile} (h : a ∈ ts) : a.t + a.h ≤ heiT ts := mxW_ge (f := fun a => a.t + a.h) h
theorem hei_le {ts : List Tile} {B : Int} (h : ∀ a ∈ ts, a.t + a.h ≤ B) (hB : 0 ≤ B) : heiT ts ≤ B := mxW_le h hB
theorem hei_pos {ts : List Tile} (h : ∀ a ∈ ts, 0 ≤ a.t + a.h) : 0 ≤ heiT ts := by
  by_cases q : ts = []
  · rw [q]; exact Int.le_refl _
  · obtain ⟨a, ha, e⟩ := mxW_at (f := fun a => a.t + a.h) (d := 0) q
    have := h a ha
    unfold heiT
    omega
theorem below_free {ts : List Tile} {a : Tile} (h : heiT ts ≤ a.t) : anyM a ts = false := anyM_no.mpr fun b hb => by
  have := hei_ge hb
  unfold dj meet
  split
  · rfl
  · simp
    omega
theorem rmL_cons {wide : Int} {ts : List Tile} {w h : Int} (hw : w ≤ wide) (h0 : 0 ≤ heiT ts) : ∃ a r, rmL wide ts w h = a :: r := by
  have z : ((0, heiT ts) : Int × Int) ∈ rmL wide ts w h := mem_rmL.mpr ⟨⟨h0, Int.le_refl _⟩, ⟨Int.le_refl _, by show (0 : Int) ≤ _; omega⟩, below_free (Int.le_refl _)⟩
  cases q : rmL wide ts w h with
  | nil => rw [q] at z; cases z
  | cons a r => exact ⟨a, r, rfl⟩
theorem rmL_len {wide : Int} {ts : List Tile} {w h : Int} (hw : wide ≤ 12) (h1 : 1 ≤ w) (hh : heiT ts ≤ 80) : (rmL wide ts w h).length ≤ 12 * 81 := by
  have z : ∀ (l : List Int) (acc : List (Int × Int)), (l.foldl (rmRow wide ts w h) acc).length ≤ acc.length + 12 * l.length := fun l => by
    induction l with
    | nil => intro acc; simp
    | cons t l ih =>
      intro acc
      have := ih (rmRow wide ts w h acc t)
      have := rmRow_le (ts := ts) (h := h) (t := t) hw h1 acc
      rw [List.foldl_cons, List.length_cons]
      omega
  have := z (upTo (heiT ts + 1)) []
  rw [upTo_len] at this
  unfold rmL
  simp at this
  omega
/-! ### the free name -/
theorem freeN_cons {ts : List Tile} (h : ∀ a ∈ ts, a.nm ∈ nms10) : ∃ x r, freeN ts = x :: r := by
  have z : ("g" : Str) ∈ freeN ts := List.mem_filter.mpr ⟨by decide +kernel, decide_eq_true fun q => by
    obtain ⟨a, ha, e⟩ := List.mem_map.mp q
    have := h a ha
    rw [e] at this
    exact absurd this (by decide +kernel)⟩
  cases q : freeN ts with
  | nil => rw [q] at z; cases z
  | cons x r => exact ⟨x, r, rfl⟩
theorem freeN_mem {ts : List Tile} {x : Str} (h : x ∈ freeN ts) : x ∈ abc ∧ ∀ a ∈ ts, a.nm ≠ x := by
  obtain ⟨h1, h2⟩ := List.mem_filter.mp h
  exact ⟨h1, fun a ha e => (of_decide_eq_true h2) (List.mem_map.mpr ⟨a, ha, e⟩)⟩
theorem by_nil (ts : List Tile) (x : Str) : (byT ts x).isEmpty = decide (x ∉ ts.map Tile.nm) := by
  unfold byT
  by_cases q : x ∈ ts.map Tile.nm
  · obtain ⟨a, ha, e⟩ := List.mem_map.mp q
    have z : a ∈ ts.filter (hasN x) := List.mem_filter.mpr ⟨ha, decide_eq_true e⟩
    rw [decide_eq_false (fun h => h q)]
    cases h : ts.filter (hasN x) with
    | nil => rw [h] at z; cases z
    | cons _ _ => rfl
  · have z : ts.filter (hasN x) = [] := List.filter_eq_nil_iff.mpr fun a ha h => q (List.mem_map.mpr ⟨a, ha, of_decide_eq_true h⟩)
    rw [decide_eq_true q, z]
    rfl
/-! ### holes -/
theorem cnt_range (lo hi : Int) (h0 : 0 ≤ lo) (h1 : lo ≤ hi) : ∀ n : Nat, (((((List.range n).map fun (i : Nat) => (i : Int)).filter fun c => decide (lo ≤ c) && decide (c < hi)).length : Nat) : Int) = (min hi n) - (min lo n)
  | 0 => by simp; omega
  | n + 1 => by
    have ih := cnt_range lo hi h0 h1 n
    rw [List.range_succ, List.map_append, List.filter_append, List.length_append]
    by_cases q : lo ≤ (n : Int) ∧ (n : Int) < hi
    · simp [q.1, q.2] at ih ⊢
      omega
    · have e : (decide (lo ≤ (n : Int)) && decide ((n : Int) < hi)) = false := by
        by_cases q1 : lo ≤ (n : Int)
        · simp [q1]; omega
        · simp [q1]
      simp [e] at ih ⊢
      omega
theorem cnt_upTo {lo hi n : Int} (h0 : 0 ≤ lo) (h1 : lo ≤ hi) (h2 : hi ≤ n) : ((((upTo n).filter fun c => decide (lo ≤ c) && decide (c < hi)).length : Nat) : Int) = hi - lo := by
  have z := cnt_range lo hi h0 h1 n.toNat
  unfold upTo
  rw [z]
  omega
theorem len_split {α : Type} (p q : α → Bool) : ∀ l : List α, (l.filter p).length = (l.filter fun a => p a && !q a).length + (l.filter fun a => p a && q a).length
  | [] => rfl
  | a :: l => by
    have ih := len_split p q l
    cases hp : p a <;> cases hq : q a <;> simp [hp, hq] <;> omega
def rowN (wide : Int) (ts : List Tile) (r : Int) : Int := (((upTo wide).filter fun c => noT ts c r).length : Int)
theorem meet_of_on {a b : Tile} {c r : Int} (ha : onS c r a = true) (hb : onS c r b = true) : meet a b = true := by
  simp only [onS, Bool.and_eq_true, decide_eq_true_eq] at ha hb
  unfold meet
  rw [if_neg (by omega)]
  simp
  omega
theorem rowN_cons {wide : Int} {a : Tile} {ts : List Tile} (hd : ∀ b ∈ ts, dj a b) (h0 : 0 ≤ a.l) (h1 : 1 ≤ a.w) (h2 : a.l + a.w ≤ wide) (r : Int) : rowN wide (a :: ts) r = rowN wide ts r - (if (decide (a.t ≤ r) && decide (r < a.t + a.h)) = true then a.w else 0) := by
  have e1 : (fun c => noT (a :: ts) c r) = fun c => noT ts c r && !onS c r a := by
    funext c
    unfold noT
    cases q : onS c r a with
    | true => rw [List.find?_cons_of_pos q]; simp
    | false => rw [List.find?_cons_of_neg (by rw [q]; decide)]; simp
  have e2 : (upTo wide).filter (fun c => noT ts c r && onS c r a) = (upTo wide).filter fun c => onS c r a := by
    refine List.filter_congr fun c _ => ?_
    cases q : onS c r a with
    | false => simp
    | true =>
      have : noT ts c r = true := by
        unfold noT
        rw [Option.isNone_iff_eq_none, List.find?_eq_none]
        intro b hb hq
        have m := meet_of_on q hq
        have d : meet a b = false := hd b hb
        rw [d] at m
        cases m
      rw [this]
      rfl
  have z := len_split (fun c => noT ts c r) (fun c => onS c r a) (upTo wide)
  rw [e2] at z
  unfold rowN
  rw [e1]
  have e3 : (((upTo wide).filter fun c => onS c r a).length : Int) = if (decide (a.t ≤ r) && decide (r < a.t + a.h)) = true then a.w else 0 := by
    cases q : decide (a.t ≤ r) && decide (r < a.t + a.h) with
    | true =>
      have : (fun c => onS c r a) = fun c => decide (a.l ≤ c) && decide (c < a.l + a.w) := by
        funext c
        unfold onS
        rw [q, Bool.and_true]
      rw [this, cnt_upTo h0 (by omega) h2, if_pos rfl]
      omega
    | false =>
      have : (fun c => onS c r a) = fun c => false := by
        funext c
        unfold onS
        rw [q, Bool.and_false]
      rw [this]
      simp
  omega
def sumI {α : Type} (f : α → Int) : List α → Int
  | [] => 0
  | a :: l => f a + sumI f l
theorem sumI_sub {α : Type} (f g : α → Int) : ∀ l : List α, sumI (fun a => f a - g a) l = sumI f l - sumI g l
  | [] => rfl
  | a :: l => by
    have ih := sumI_sub f g l
    simp only [sumI] at ih ⊢
    omega
theorem sumI_if {α : Type} (q : α → Bool) (w : Int) : ∀ l : List α, sumI (fun a => if q a = true then w else 0) l = w * ((l.filter q).length : Int)
  | [] => by simp [sumI]
  | a :: l => by
    have ih := sumI_if q w l
    cases h : q a with
    | true =>
      rw [List.filter_cons_of_pos h, List.length_cons]
      simp only [sumI, h, if_pos] at ih ⊢
      rw [ih, show (((l.filter q).length + 1 : Nat) : Int) = ((l.filter q).length : Int) + 1 from rfl, Int.mul_add]
      omega
    | false =>
      rw [List.filter_cons_of_neg (by simp [h])]
      simp only [sumI, h] at ih ⊢
      rw [ih]
      simp
theorem sumI_const {α : Type} (w : Int) : ∀ l : List α, sumI (fun _ => w) l = w * (l.length : Int)
  | [] => by simp [sumI]
  | a :: l => by
    have ih := sumI_const w l
    rw [List.length_cons, show ((l.length + 1 : Nat) : Int) = (l.length : Int) + 1 from rfl, Int.mul_add, ← ih]
    simp only [sumI]
    omega
theorem foldl_sum {α : Type} (f : α → Int) : ∀ (l : List α) (n : Int), l.foldl (fun n a => n + f a) n = n + sumI f l
  | [], n => by simp [sumI]
  | a :: l, n => by
    rw [List.foldl_cons, foldl_sum f l, sumI]
    omega
def areaS (ts : List Tile) : Int := sumI (fun a => a.w * a.h) ts
theorem rows_sum {wide H : Int} (hw : 0 ≤ wide) (hH : 0 ≤ H) : ∀ {ts : List Tile}, ts.Pairwise dj → (∀ a ∈ ts, 0 ≤ a.l ∧ 1 ≤ a.w ∧ a.l + a.w ≤ wide ∧ 0 ≤ a.t ∧ 1 ≤ a.h ∧ a.t + a.h ≤ H) → sumI (rowN wide ts) (upTo H) = wide * H - areaS ts
  | [], _, _ => by
    have e : rowN wide [] = fun _ => wide := by
      funext r
      unfold rowN
      have e : ((upTo wide).filter fun c => noT [] c r) = upTo wide := List.filter_eq_self.mpr fun _ _ => rfl
      rw [e, upTo_len]
      omega
    rw [e, sumI_const, upTo_len]
    simp only [areaS, sumI]
    rw [show ((H.toNat : Nat) : Int) = H by omega]
    omega
  | a :: ts, hd, h => by
    obtain ⟨d1, d2⟩ := List.pairwise_cons.mp hd
    obtain ⟨a1, a2, a3, a4, a5, a6⟩ := h a List.mem_cons_self
    have ih := rows_sum hw hH d2 fun b hb => h b (List.mem_cons_of_mem _ hb)
    have e : rowN wide (a :: ts) = fun r => rowN wide ts r - (if (decide (a.t ≤ r) && decide (r < a.t + a.h)) = true then a.w else 0) := funext fun r => rowN_cons d1 a1 a2 a3 r
    rw [e, sumI_sub, ih, sumI_if, cnt_upTo a4 (by omega) a6]
    simp only [areaS, sumI]
    rw [show a.t + a.h - a.t = a.h by omega]
    omega
theorem holeN_eq {wide : Int} {ts : List Tile} (hw : 0 ≤ wide) (hd : ts.Pairwise dj) (h : ∀ a ∈ ts, 0 ≤ a.l ∧ 1 ≤ a.w ∧ a.l + a.w ≤ wide ∧ 0 ≤ a.t ∧ 1 ≤ a.h) : holeN wide ts = heiT ts * wide - areaS ts := by
  have h0 : 0 ≤ heiT ts := hei_pos fun a ha => by have := h a ha; omega
  have z := rows_sum hw h0 hd fun a ha => by
    obtain ⟨a1, a2, a3, a4, a5⟩ := h a ha
    exact ⟨a1, a2, a3, a4, a5, hei_ge ha⟩
  have e := foldl_sum (rowN wide ts) (upTo (heiT ts)) 0
  rw [Int.zero_add, z, Int.mul_comm] at e
  exact e
theorem Drw.hole {wide : Int} {ts : List Tile} (hw : 0 ≤ wide) (h : Drw wide ts) : holeN wide ts = heiT ts * wide - areaS ts := holeN_eq hw h.dj fun a ha => by
  obtain ⟨⟨g1, g2, g3, g4⟩, h2, h3, h4, h5⟩ := h.ok a ha
  exact ⟨h2, g1, h3, h4, g3⟩
theorem Drw.hei {wide : Int} {ts : List Tile} (h : Drw wide ts) : 0 ≤ heiT ts ∧ heiT ts ≤ 66 := ⟨hei_pos fun a ha => by
    obtain ⟨⟨g1, g2, g3, g4⟩, h2, h3, h4, h5⟩ := h.ok a ha
    omega, hei_le (fun a ha => by
    have := (h.bd a ha).t
    have := (h.bd a ha).h
    omega) (by decide)⟩
theorem lay_hei {c wide m : Int} (h : 1 ≤ wide) (h0 : 0 ≤ m) (hm : m ≤ 10) : 0 ≤ heiT (layT c wide m) ∧ heiT (layT c wide m) ≤ 11 := ⟨(layT_drw h h0 hm).hei.1, hei_le (fun a ha => by
    have := (layT_sm a ha).t
    have := (layT_sm a ha).h
    omega) (by decide)⟩
theorem maxd_eq {ts : List Tile} (h : ∀ a ∈ ts, 0 ≤ a.t + a.h) : maxL 0 (ts.map fun a => a.t + a.h) = heiT ts := by
  have z := maxL_ge (ts.map fun a => a.t + a.h) 0
  have h1 : heiT ts ≤ maxL 0 (ts.map fun a => a.t + a.h) := hei_le (fun a ha => z.2 _ (List.mem_map_of_mem ha)) z.1
  have h0 := hei_pos h
  rcases maxL_mem (ts.map fun a => a.t + a.h) 0 with q | q
  · omega
  · obtain ⟨a, ha, e⟩ := List.mem_map.mp q
    have := hei_ge ha
    omega
theorem flat_len {ts : List Tile} (h : ∀ a ∈ ts, 1 ≤ a.w ∧ 1 ≤ a.h) : ((ts.flatMap spots).length : Int) = areaS ts := by
  induction ts with
  | nil => rfl
  | cons a ts ih =>
    have ih := ih fun b hb => h b (List.mem_cons_of_mem _ hb)
    obtain ⟨h1, h2⟩ := h a List.mem_cons_self
    rw [List.flatMap_cons, List.length_append]
    simp only [areaS, sumI] at ih ⊢
    have z : ((spots a).length : Int) = a.w * a.h := by
      have : 0 ≤ a.w * a.h := Int.mul_nonneg (by omega) (by omega)
      unfold spots
      simp
      omega
    omega
end Tl
set_option maxHeartbeats 4000000
namespace Tl
open PySem PySem.Spec L2
/-! ### layouts with added tiles -/
def nmY (n : Nat) : List Str := abc.take (4 + n) ++ (["y", "z"] : List Str)
structure Yd (n : Nat) (wide : Int) (ts : List Tile) : Prop where
  len : ts.length ≤ 6 + n
  nd : (ts.map Tile.nm).Nodup
  srt : srtT ts = ts
  dj : ts.Pairwise dj
  ok : ∀ a ∈ ts, okT wide a
  h6 : ∀ a ∈ ts, a.h ≤ 6
  hei : ∀ a ∈ ts, a.t + a.h ≤ 11 + 4 * (n : Int)
  nm : ∀ a ∈ ts, a.nm ∈ nmY n
theorem abc_nm : ∀ x ∈ abc, isNm x = true := by decide +kernel
theorem abc_len : ∀ x ∈ abc, x.length ≤ 1000 := by decide +kernel
theorem nmY_abc {n : Nat} {x : Str} (h : x ∈ nmY n) : x ∈ abc := by
  rcases List.mem_append.mp h with q | q
  · exact List.mem_of_mem_take q
  · have z : ∀ y ∈ (["y", "z"] : List Str), y ∈ abc := by decide +kernel
    exact z x q
theorem Yd.gN {n : Nat} {wide : Int} {ts : List Tile} (h : Yd n wide ts) : ∀ a ∈ ts, gN a := fun a ha => ⟨(h.ok a ha).1, abc_ok _ (nmY_abc (h.nm a ha))⟩
theorem Yd.gL {n : Nat} {wide : Int} {ts : List Tile} (h : Yd n wide ts) (hn : n ≤ 6) : gL 100 ts := ⟨by have := h.len; omega, h.gN⟩
theorem Yd.hei0 {n : Nat} {wide : Int} {ts : List Tile} (h : Yd n wide ts) (hn : n ≤ 6) : 0 ≤ heiT ts ∧ heiT ts ≤ 35 := ⟨hei_pos fun a ha => by
    obtain ⟨⟨g1, g2, g3, g4⟩, h2, h3, h4, h5⟩ := h.ok a ha
    omega, hei_le (fun a ha => by have := h.hei a ha; omega) (by decide)⟩
theorem Yd.heiN {n : Nat} {wide : Int} {ts : List Tile} (h : Yd n wide ts) : heiT ts ≤ 11 + 4 * (n : Int) := hei_le h.hei (by omega)
theorem Yd.isT {n : Nat} {wide : Int} {ts : List Tile} (h : Yd n wide ts) (hn : n ≤ 6) : ∀ a ∈ ts, isT wide a = true := fun a ha => by
  obtain ⟨⟨h1, h2, h3, h4⟩, h5, h6, h7, h8⟩ := h.ok a ha
  have := h.h6 a ha
  have := h.hei a ha
  unfold Tl.isT inR
  rw [abc_nm _ (nmY_abc (h.nm a ha))]
  simp
  omega
theorem Yd.lay {n : Nat} {wide : Int} {ts : List Tile} (h : Yd n wide ts) (hn : n ≤ 6) : isLay wide ts = true := isLay_of h.nd h.srt h.dj (h.isT hn)
theorem Yd.hole {n : Nat} {wide : Int} {ts : List Tile} (h : Yd n wide ts) (hw : 0 ≤ wide) : holeN wide ts = heiT ts * wide - areaS ts := holeN_eq hw h.dj fun a ha => by
  obtain ⟨⟨g1, g2, g3, g4⟩, h2, h3, h4, h5⟩ := h.ok a ha
  exact ⟨h2, g1, h3, h4, g3⟩
theorem layT_Yd {c wide : Int} (h : 1 ≤ wide) : Yd 0 wide (layT c wide 6) := by
  have z := layT_ok (c := c) (wide := wide) (m := 6) h (by decide) (by decide)
  refine ⟨by have := z.len; omega, z.nd, srtT_idem _, z.dj, z.ok, fun a ha => by have := (layT_sm a ha).h; omega, fun a ha => ?_, fun a ha => ?_⟩
  · have h1 := (layT_sm a ha).h
    have h2 := (layT_sm a ha).t
    show a.t + a.h ≤ 11 + 4 * 0
    omega
  · have q := z.nms a ha
    have e : ∀ x ∈ (nmM 6).map Prod.snd, x ∈ nmY 0 := by decide +kernel
    exact e _ q
/-! ### the new name -/
theorem nmY_next : ∀ n : Nat, n < 6 → ∃ x, abc[4 + n]? = some x ∧ x ∉ nmY n := by
  intro n hn
  have : n = 0 ∨ n = 1 ∨ n = 2 ∨ n = 3 ∨ n = 4 ∨ n = 5 := by omega
  rcases this with rfl | rfl | rfl | rfl | rfl | rfl
  · exact ⟨"e", by decide +kernel, by decide +kernel⟩
  · exact ⟨"f", by decide +kernel, by decide +kernel⟩
  · exact ⟨"g", by decide +kernel, by decide +kernel⟩
  · exact ⟨"h", by decide +kernel, by decide +kernel⟩
  · exact ⟨"i", by decide +kernel, by decide +kernel⟩
  · exact ⟨"j", by decide +kernel, by decide +kernel⟩
theorem head_take {α : Type} {q : α → Bool} {l : List α} {k : Nat} {x : α} (hx : l[k]? = some x) (hq : q x = true) : ∃ y r, l.filter q = y :: r ∧ y ∈ l.take (k + 1) ∧ q y = true := by
  have e : l.filter q = (l.take (k + 1)).filter q ++ (l.drop (k + 1)).filter q := by rw [← List.filter_append, List.take_append_drop]
  have hm : x ∈ (l.take (k + 1)).filter q := List.mem_filter.mpr ⟨by
    obtain ⟨h1, h2⟩ := List.getElem?_eq_some_iff.mp hx
    exact List.mem_of_getElem? (i := k) (by rw [List.getElem?_take]; simp [hx]), hq⟩
  cases h : (l.take (k + 1)).filter q with
  | nil => rw [h] at hm; cases hm
  | cons y r =>
    rw [h] at e
    have hy : y ∈ (l.take (k + 1)).filter q := by rw [h]; exact List.mem_cons_self
    exact ⟨y, r ++ (l.drop (k + 1)).filter q, by rw [e, List.cons_append], (List.mem_filter.mp hy).1, (List.mem_filter.mp hy).2⟩
theorem Yd.name {n : Nat} {wide : Int} {ts : List Tile} (h : Yd n wide ts) (hn : n < 6) : ∃ x r, freeN ts = x :: r ∧ x ∈ nmY (n + 1) ∧ x ∈ abc ∧ ∀ a ∈ ts, a.nm ≠ x := by
  obtain ⟨x0, h0, h1⟩ := nmY_next n hn
  obtain ⟨x, r, e, hx, hq⟩ := head_take (q := fun x => decide (x ∉ ts.map Tile.nm)) h0 (decide_eq_true fun q => by
    obtain ⟨a, ha, e⟩ := List.mem_map.mp q
    exact h1 (by rw [← e]; exact h.nm a ha))
  have hx' : x ∈ nmY (n + 1) := List.mem_append.mpr (.inl hx)
  exact ⟨x, r, e, hx', nmY_abc hx', fun a ha q => (of_decide_eq_true hq) (List.mem_map.mpr ⟨a, ha, q⟩)⟩
def frs : List Str := ["m", "n", "o", "p", "q", "r", "s", "t", "u", "v", "w", "x", "y", "z"]
theorem frs_ok : ∀ x ∈ frs, nOk x := by decide +kernel
theorem frs_it : seqD (.str "mnopqrstuvwxyz") = some (frs.map .str) := by rfl
theorem Yd.fresh {n : Nat} {wide : Int} {ts : List Tile} (h : Yd n wide ts) (hn : n < 6) : ∃ x r, (frs.filter fun x => decide (x ∉ ts.map Tile.nm)) = x :: r ∧ nOk x ∧ ∀ a ∈ ts, a.nm ≠ x := by
  have hm : ("m" : Str) ∉ nmY n := by
    have : n = 0 ∨ n = 1 ∨ n = 2 ∨ n = 3 ∨ n = 4 ∨ n = 5 := by omega
    rcases this with rfl | rfl | rfl | rfl | rfl | rfl <;> decide +kernel
  obtain ⟨x, r, e, hx, hq⟩ := head_take (l := frs) (k := 0) (q := fun x => decide (x ∉ ts.map Tile.nm)) (x := "m") rfl (decide_eq_true fun q => by
    obtain ⟨a, ha, e⟩ := List.mem_map.mp q
    exact hm (by rw [← e]; exact h.nm a ha))
  exact ⟨x, r, e, frs_ok x (List.mem_of_mem_take hx), fun a ha q => (of_decide_eq_true hq) (List.mem_map.mpr ⟨a, ha, q⟩)⟩
/-! ### the new layout -/
structure New (n : Nat) (wide : Int) (ts : List Tile) (o : Tile) : Prop where
  y : Yd n wide ts
  n6 : n < 6
  nm : o.nm ∈ nmY (n + 1)
  fr : ∀ a ∈ ts, a.nm ≠ o.nm
  dj : ∀ a ∈ ts, dj o a
  l : 0 ≤ o.l ∧ o.l + o.w ≤ wide
  t : 0 ≤ o.t ∧ o.t ≤ heiT ts
  w : 1 ≤ o.w ∧ o.w ≤ 20
  h : 1 ≤ o.h ∧ o.h ≤ 4
  fx : o.fx = false
section
variable {n : Nat} {wide : Int} {ts : List Tile} {o : Tile}
theorem nmY_mono {x : Str} (h : x ∈ nmY n) : x ∈ nmY (n + 1) := by
  rcases List.mem_append.mp h with q | q
  · refine List.mem_append.mpr (.inl ?_)
    exact (List.take_prefix_take_left (by omega)).subset q
  · exact List.mem_append.mpr (.inr q)
theorem New.okT (q : New n wide ts o) : okT wide o := ⟨⟨q.w.1, q.w.2, q.h.1, by have := q.h.2; omega⟩, q.l.1, q.l.2, q.t.1, abc_ok _ (nmY_abc q.nm)⟩
theorem New.pm (q : New n wide ts o) : (srtT (ts ++ [o])).Perm (ts ++ [o]) := srtT_perm _
theorem New.mem (q : New n wide ts o) {a : Tile} : a ∈ srtT (ts ++ [o]) ↔ a ∈ ts ∨ a = o := by
  rw [q.pm.mem_iff, List.mem_append, List.mem_singleton]
theorem New.yd (q : New n wide ts o) : Yd (n + 1) wide (srtT (ts ++ [o])) := by
  have hh := q.y.heiN
  refine ⟨?_, ?_, srtT_idem _, ?_, ?_, ?_, ?_, ?_⟩
  · rw [q.pm.length_eq, List.length_append, List.length_singleton]
    have := q.y.len
    omega
  · refine (q.pm.map Tile.nm).nodup_iff.mpr ?_
    rw [List.map_append, List.nodup_append]
    refine ⟨q.y.nd, by simp, fun a ha b hb => ?_⟩
    simp at hb
    obtain ⟨c, hc, e⟩ := List.mem_map.mp ha
    rw [hb, ← e]
    exact q.fr c hc
  · refine (q.pm.pairwise_iff fun h => dj_symm h).mpr ?_
    rw [List.pairwise_append]
    refine ⟨q.y.dj, List.pairwise_singleton _ _, fun a ha b hb => ?_⟩
    rw [List.mem_singleton.mp hb]
    exact dj_symm (q.dj a ha)
  · intro a ha
    rcases q.mem.mp ha with h | h
    · exact q.y.ok a h
    · rw [h]; exact q.okT
  · intro a ha
    rcases q.mem.mp ha with h | h
    · exact q.y.h6 a h
    · have := q.h; rw [h]; omega
  · intro a ha
    rw [show ((n + 1 : Nat) : Int) = (n : Int) + 1 from rfl]
    rcases q.mem.mp ha with h | h
    · have := q.y.hei a h
      omega
    · have := q.h
      have := q.t
      rw [h]
      omega
  · intro a ha
    rcases q.mem.mp ha with h | h
    · exact nmY_mono (q.y.nm a h)
    · rw [h]; exact q.nm
theorem New.ot (q : New n wide ts o) : otT ts o.nm = ts := List.filter_eq_self.mpr fun a ha => decide_eq_true (q.fr a ha)
theorem New.notin (q : New n wide ts o) : o ∉ ts := fun h => q.fr o h rfl
theorem New.only (q : New n wide ts o) : (srtT (ts ++ [o])).filter (fun a => decide (a ∉ ts)) = [o] := by
  have p := q.pm.filter fun a => decide (a ∉ ts)
  have e : (ts ++ [o]).filter (fun a => decide (a ∉ ts)) = [o] := by
    rw [List.filter_append, List.filter_eq_nil_iff.mpr (fun a ha h => (of_decide_eq_true h) ha), List.nil_append]
    exact List.filter_eq_self.mpr fun a ha => by
      rw [List.mem_singleton.mp ha]
      exact decide_eq_true q.notin
  rw [e] at p
  exact List.perm_singleton.mp p
theorem New.find (q : New n wide ts o) : (srtT (ts ++ [o])).find? (hasN o.nm) = some o := find_self q.yd.nd (q.mem.mpr (.inr rfl))
theorem New.no (q : New n wide ts o) : ts.find? (hasN o.nm) = none := List.find?_eq_none.mpr fun a ha h => q.fr a ha (of_decide_eq_true h)
theorem srt_of_sub {l m : List Tile} (hs : srtT l = l) (h : m.Sublist l) : srtT m = m := by
  have h1 : SrtO.Srtd ltT l := by
    rw [← hs]
    exact isort_srtd swo_ltT l
  have h2 : SrtO.Srtd ltT m := List.Pairwise.sublist h h1
  exact (isort_uniq swo_ltT h2 (.refl _)).symm
theorem New.taken (q : New n wide ts o) : otT (srtT (ts ++ [o])) o.nm = ts := by
  have p : (otT (srtT (ts ++ [o])) o.nm).Perm ts := by
    have p := q.pm.filter fun a => decide (a.nm ≠ o.nm)
    have e : (ts ++ [o]).filter (fun a => decide (a.nm ≠ o.nm)) = ts := by
      rw [List.filter_append, show ts.filter (fun a => decide (a.nm ≠ o.nm)) = ts from q.ot, List.filter_cons_of_neg (by simp)]
      simp
    rw [e] at p
    exact p
  have h1 : srtT (otT (srtT (ts ++ [o])) o.nm) = otT (srtT (ts ++ [o])) o.nm := srt_of_sub (srtT_idem _) List.filter_sublist
  rw [← h1, srtT_eq p, q.y.srt]
theorem st_stay : ∀ (l acc : List Tile), (∀ a ∈ l, a.fx = false → ∀ b ∈ acc, dj a b) → (l.Pairwise dj) → l.foldl stS acc = acc ++ l.filter fun a => !a.fx
  | [], acc, _, _ => by simp
  | a :: l, acc, h, hd => by
    obtain ⟨d1, d2⟩ := List.pairwise_cons.mp hd
    rw [List.foldl_cons, stS]
    cases hf : a.fx with
    | true =>
      rw [if_pos rfl, st_stay l acc (fun b hb => h b (List.mem_cons_of_mem _ hb)) d2, List.filter_cons_of_neg (by simp [hf])]
    | false =>
      have e : lower acc a = a := lower_stay (anyM_no.mpr (h a List.mem_cons_self hf))
      rw [if_neg (by decide), e, st_stay l (acc ++ [a]) (fun b hb hbf c hc => by
        rcases List.mem_append.mp hc with hc | hc
        · exact h b (List.mem_cons_of_mem _ hb) hbf c hc
        · rw [List.mem_singleton.mp hc]
          exact dj_symm (d1 b hb)) d2, List.filter_cons_of_pos (by simp [hf]), List.append_assoc]
      rfl
theorem settle_free {ts : List Tile} {o : Tile} (hd : ts.Pairwise dj) (hdj : ∀ a ∈ ts, dj o a) (hot : otT ts o.nm = ts) : setT ts o = srtT (ts ++ [o]) := by
  unfold setT
  have hdo : (ordT ts).Pairwise dj := ((ordT_perm ts).pairwise_iff fun h => dj_symm h).mpr hd
  rw [hot, st_stay]
  · refine srtT_eq ?_
    rw [List.cons_append]
    refine List.Perm.trans (List.Perm.cons o ?_) (List.perm_append_singleton o ts).symm
    exact (List.Perm.append_left _ ((ordT_perm ts).filter _)).trans (split_perm Tile.fx ts)
  · intro a ha hf b hb
    have ha := (ordT_perm ts).mem_iff.mp ha
    rcases List.mem_cons.mp hb with h | h
    · rw [h]
      exact dj_symm (hdj a ha)
    · obtain ⟨h1, h2⟩ := List.mem_filter.mp h
      refine pw_mem (R := dj) (fun h => dj_symm h) hd ha h1 fun e => ?_
      rw [e, h2] at hf
      cases hf
  · exact hdo
theorem New.set (q : New n wide ts o) : setT ts o = srtT (ts ++ [o]) := settle_free q.y.dj q.dj q.ot
theorem New.fit (q : New n wide ts o) : fitX wide ts o = none := by
  unfold fitX
  rw [if_pos (q.yd.isT (by have := q.n6; omega) o (q.mem.mpr (.inr rfl))), q.ot, if_neg]
  rw [anyM_no.mpr fun a ha => q.dj a (List.mem_filter.mp ha).1]
  decide
theorem area_perm {l m : List Tile} (p : l.Perm m) : areaS l = areaS m := by
  unfold areaS
  induction p with
  | nil => rfl
  | cons a _ ih => simp only [sumI]; omega
  | swap a b l => simp only [sumI]; omega
  | trans _ _ h1 h2 => omega
theorem area_app (l m : List Tile) : areaS (l ++ m) = areaS l + areaS m := by
  unfold areaS
  induction l with
  | nil => simp [sumI]
  | cons a l ih => simp only [List.cons_append, sumI]; omega
theorem New.holes (q : New n wide ts o) (hw : 0 ≤ wide) : holeN wide (srtT (ts ++ [o])) = holeN wide ts + (wide * (heiT (srtT (ts ++ [o])) - heiT ts) - o.w * o.h) := by
  rw [q.yd.hole hw, q.y.hole hw, area_perm q.pm, area_app]
  have e : areaS [o] = o.w * o.h := by simp [areaS, sumI]
  rw [e, Int.mul_sub, Int.mul_comm wide, Int.mul_comm wide]
  omega
end
/-! ### the rooms in order -/
def ltP (p q : Int × Int) : Bool := ltK (.tuple [.int p.2, .int p.1]) (.tuple [.int q.2, .int q.1])
theorem swo_ltP : SrtO.Swo ltP := swo_by fun p : Int × Int => keyOf (.tuple [.int p.2, .int p.1])
theorem upTo_pw (n : Int) : (upTo n).Pairwise (· < ·) := by
  unfold upTo
  rw [List.pairwise_map]
  exact List.pairwise_lt_range.imp fun h => by omega
theorem rmL_pw (wide : Int) (ts : List Tile) (w h : Int) : (rmL wide ts w h).Pairwise fun p q => p.2 < q.2 ∨ (p.2 = q.2 ∧ p.1 < q.1) := by
  rw [rmL_eq, List.pairwise_flatMap]
  refine ⟨fun t _ => ?_, (upTo_pw _).imp fun {t u} htu p hp q hq => ?_⟩
  · unfold rowL
    rw [List.pairwise_map]
    exact ((upTo_pw _).sublist List.filter_sublist).imp fun h => .inr ⟨rfl, h⟩
  · unfold rowL at hp hq
    obtain ⟨_, _, rfl⟩ := List.mem_map.mp hp
    obtain ⟨_, _, rfl⟩ := List.mem_map.mp hq
    exact .inl htu
theorem ltP_no {p q : Int × Int} (h : p.2 < q.2 ∨ (p.2 = q.2 ∧ p.1 < q.1)) : ltP q p = false := by
  show lexK [[q.2], [q.1]] [[p.2], [p.1]] = false
  rw [lexK]
  by_cases e : q.2 = p.2
  · rw [if_pos (by rw [e]), lexK]
    by_cases e2 : q.1 = p.1
    · omega
    · rw [if_neg (by simpa using e2), HT.lexLt_cons, if_neg e2]
      exact decide_eq_false (by omega)
  · rw [if_neg (by simpa using e), HT.lexLt_cons, if_neg e]
    exact decide_eq_false (by omega)
theorem rmL_srt (wide : Int) (ts : List Tile) (w h : Int) : isort ltP (rmL wide ts w h) = rmL wide ts w h := (isort_uniq swo_ltP ((rmL_pw wide ts w h).imp fun h => ltP_no h) (.refl _)).symm
end Tl
set_option maxHeartbeats 4000000
namespace Tl
open PySem PySem.Spec L2
structure G5 (Γ : Fns) : Prop where
  cell : Γ "_law_cell" = some (2, law_cellS)
  wide : Γ "_law_wide" = some (1, law_wideS)
  layout : Γ "_law_layout" = some (3, law_layoutS)
  lpacked : Γ "_law_packed" = some (1, packedS)
  same : Γ "_law_same" = some (2, law_sameS 2)
  packed : Γ "packed" = some (1, packedS)
  by_ : Γ "_law_by" = some (2, law_byS)
  up : Γ "_law_up" = some (2, law_upS)
  said : Γ "_law_said" = some (2, said5S)
  isp : Γ "is_packed" = some (1, is_packedS)
/-! same, of equal data -/
theorem good_str {n : Nat} {x : Str} (h : nOk x) : goodN n (.str x) = true := by cases n <;> exact h
theorem good_tile {a : Tile} (h : gN a) : goodN 1 (tD a) = true := by
  have h' : PyData.canLay0 (.str a.nm) = true := h.2
  simp [tD, goodN, h']
theorem good_tiles {ts : List Tile} {n : Nat} (h : gL n ts) (hl : n ≤ 1000) : goodN 2 (.tuple (tsD ts)) = true := by
  rw [goodN, Bool.and_eq_true]
  refine ⟨List.all_eq_true.mpr fun d hd => ?_, decide_eq_true (by rw [tsD_len]; exact Nat.le_trans h.len hl)⟩
  obtain ⟨a, ha, rfl⟩ := List.mem_map.mp hd
  exact good_tile (h.ok a ha)
theorem ev_same {Γ : Fns} {n : Nat} (hs : Γ "_law_same" = some (2, law_sameS n)) {a b : C} {ρ : Env0D} {d : D} (h1 : ev Γ a ρ = .ok d) (h2 : ev Γ b ρ = .ok d) (hg : goodN n d = true) : ev Γ (.call "_law_same" a (.cons b .nil)) ρ = .ok (.bool true) :=
  ev_call hs (dom_sm_inj n) ⟨d, hg⟩ (d := d) (ds := [d]) h1 (evs_cons h2 evs_nil) rfl rfl
/-- if not same(..): return False -/
theorem x_same {Γ : Fns} {n m : Nat} (hs : Γ "_law_same" = some (2, law_sameS n)) {a b : C} {ρ : EnvS} {d : D} {ss t : Ss} (h1 : ev Γ a (seeM (vsC (.not (.call "_law_same" a (.cons b .nil)))) ρ) = .ok d) (h2 : ev Γ b (seeM (vsC (.not (.call "_law_same" a (.cons b .nil)))) ρ) = .ok d) (hg : goodN n d = true) :
    exSs Γ m (.cons (.iff (.not (.call "_law_same" a (.cons b .nil))) t .nil) ss) ρ = exSs Γ m ss ρ := by
  rw [x_iff (ev_not (ev_same hs h1 h2 hg) rfl) rfl, if_neg (by decide), x_nil, fl_nx]
abbrev E5 (s0 s1 s2 s3 s4 : Sl) (one : List Tile) (can : Bool) (g7 g8 g9 g10 g11 g12 g13 g14 : Sl) : EnvS := [s0, s1, s2, s3, s4, .val (.tuple (tsD one)), .val (.bool can), g7, g8, g9, g10, g11, g12, g13, g14]
theorem by_find (ts : List Tile) (nm : Str) : (byT ts nm).head? = ts.find? (hasN nm) := find_filter _ _
theorem ne_nil {ts : List Tile} (h : ∀ a ∈ ts, nOk a.nm) : cmpD .ne (.list (tsD ts)) (.list []) = some (.bool (!ts.isEmpty)) := by
  show Option.map PyData.bool (gd (SeqAt.shaped (sqD true (tsD ts)) && SeqAt.shaped (.list [])) (!PyData.eqvAll (tsD ts) [])) = _
  rw [shaped_sq h, eqvAll_nil]
  cases ts <;> rfl
/-- due not in ("fixed", one) -/
theorem notin_due {one ts : List Tile} (h1 : ∀ a ∈ one, nOk a.nm) (h2 : ∀ a ∈ ts, nOk a.nm) (fx : Bool) : cmpD .notin (if fx = true then .str "fixed" else .tuple (tsD ts)) (.tuple [.str "fixed", .tuple (tsD one)]) = some (.bool (!fx && decide (ts ≠ one))) := by
  have s1 : SeqAt.shaped (.tuple [.str "fixed", .tuple (tsD one)]) = true := by
    have l1 := layAll_ts h1
    have d1 := depthAll_ts one
    unfold SeqAt.shaped
    refine Bool.and_eq_true_iff.mpr ⟨?_, decide_eq_true ?_⟩
    · have z : PyData.canLay0 (.str "fixed") = true := by decide +kernel
      show (PyData.canLay0 (.str "fixed") && (PyData.canLayAll0 (tsD one) && true)) = true
      rw [z, l1]
      rfl
    · show max (PyData.depth (.str "fixed")) (max (PyData.depthAll (tsD one) + 1) 0) + 1 ≤ 64
      have z : PyData.depth (.str "fixed") = 0 := rfl
      rw [z]
      omega
  cases fx with
  | true =>
    have z : SeqAt.shaped (.str "fixed") = true := by decide +kernel
    show Option.map PyData.bool (gd (SeqAt.shaped (.str "fixed") && SeqAt.shaped (.tuple [.str "fixed", .tuple (tsD one)])) (!anyEq [.str "fixed", .tuple (tsD one)] (.str "fixed"))) = _
    rw [z, s1]
    rfl
  | false =>
    have z : SeqAt.shaped (.tuple (tsD ts)) = true := shaped_sq (b := false) h2
    show Option.map PyData.bool (gd (SeqAt.shaped (.tuple (tsD ts)) && SeqAt.shaped (.tuple [.str "fixed", .tuple (tsD one)])) (!(false || (PyData.eqvAll (tsD one) (tsD ts) || false)))) = _
    rw [z, s1, eqvAll_ts]
    by_cases e : one = ts
    · simp [e]
    · simp [e, Ne.symm e]
theorem ix_head (a : Tile) (r : List Tile) : ixV (.list (tsD (a :: r))) (.int 0) = some (tD a) := by
  show atI (tD a :: tsD r) 0 = _
  unfold atI ixN
  rw [if_pos (by decide), if_pos (by rw [List.length_cons]; omega)]
  rfl
theorem op_lstS {ts : List Tile} {a : Tile} (h : ts.length ≤ 900) : opV .add (.list (tsD ts)) (.list [tD a]) = some (.list (tsD (ts ++ [a]))) := by
  rw [op_lsts, gd_of (sz_true (by rw [tsD_len, List.length_singleton]; omega)), tsD_snoc]
theorem name_turn {Γ : Fns} {fuel : Nat} (H : G5 Γ) {one : List Tile} (ho : OneOk one) {nm : Str} (hn : nOk nm) (s0 s1 s2 s3 s4 : Sl) (can : Bool) (g8 g9 g10 g11 g12 g13 g14 : Sl) : ∃ g8' g9' g10' g11',
    exSs Γ fuel b3_k05 (E5 s0 s1 s2 s3 s4 one can (.val (.str nm)) g8 g9 g10 g11 g12 g13 g14) = .nx (E5 s0 s1 s2 s3 s4 one (can || cn1 one nm) (.val (.str nm)) g8' g9' g10' g11' g12 g13 g14) := by
  have gp : gP (one, nm) := ⟨ho.g.mono (by decide), hn⟩
  have hk : ∀ a ∈ one, nOk a.nm := fun a ha => (ho.g.ok a ha).2
  have e1 : ev Γ (.call "_law_by" (.var 5) (.cons (.var 7) .nil)) (seeM (vsC (.call "_law_by" (.var 5) (.cons (.var 7) .nil))) (E5 s0 s1 s2 s3 s4 one can (.val (.str nm)) g8 g9 g10 g11 g12 g13 g14)) = .ok (.list (tsD (byT one nm))) := by
    have z := ev_call (a := .var 5) (es := .cons (.var 7) .nil) (ρ := seeM (vsC (.call "_law_by" (.var 5) (.cons (.var 7) .nil))) (E5 s0 s1 s2 s3 s4 one can (.val (.str nm)) g8 g9 g10 g11 g12 g13 g14)) H.by_ dom_tn_inj (one, nm) (d := .tuple (tsD one)) (ds := [.str nm]) (by simp [ev]) (by simp [ev, evs]) rfl rfl
    rw [law_byF, if_pos gp] at z
    exact z
  rw [b3_k05, x_setF e1 rfl]
  have f1 : freezeM (vsC (.call "_law_by" (.var 5) (.cons (.var 7) .nil))) (E5 s0 s1 s2 s3 s4 one can (.val (.str nm)) g8 g9 g10 g11 g12 g13 g14) = E5 s0 s1 s2 s3 s4 one can (.val (.str nm)) g8 g9 g10 g11 g12 g13 g14 := by simp [vsC, vsCs]
  rw [f1]
  show ∃ g8' g9' g10' g11', exSs Γ fuel _ (E5 s0 s1 s2 s3 s4 one can (.val (.str nm)) (.val (.list (tsD (byT one nm)))) g9 g10 g11 g12 g13 g14) = _
  rw [x_set (d := .str "no tile") (by simp [ev]) rfl]
  show ∃ g8' g9' g10' g11', exSs Γ fuel _ (E5 s0 s1 s2 s3 s4 one can (.val (.str nm)) (.val (.list (tsD (byT one nm)))) (.val (.str "no tile")) g10 g11 g12 g13 g14) = _
  have hby : ∀ a ∈ byT one nm, nOk a.nm := fun a ha => hk a (List.mem_filter.mp ha).1
  have sd : ∀ (can : Bool) (g8 g9 g10 g11 : Sl) m, ev Γ (.call "_law_said" (.var 5) (.cons (.var 7) .nil)) (seeM m (E5 s0 s1 s2 s3 s4 one can (.val (.str nm)) g8 g9 g10 g11 g12 g13 g14)) = .ok (saidD one (one.find? (hasN nm))) := fun can g8 g9 g10 g11 m => by
    have z := ev_call (a := .var 5) (es := .cons (.var 7) .nil) (ρ := seeM m (E5 s0 s1 s2 s3 s4 one can (.val (.str nm)) g8 g9 g10 g11 g12 g13 g14)) H.said dom_tn_inj (one, nm) (d := .tuple (tsD one)) (ds := [.str nm]) (by simp [ev]) (by simp [ev, evs]) rfl rfl
    rw [said5F, if_pos gp] at z
    exact z
  have ec : ev Γ (.cmp .ne (.var 8) (.lst .nil)) (seeM (vsC (.cmp .ne (.var 8) (.lst .nil))) (E5 s0 s1 s2 s3 s4 one can (.val (.str nm)) (.val (.list (tsD (byT one nm)))) (.val (.str "no tile")) g10 g11 g12 g13 g14)) = .ok (.bool (!(byT one nm).isEmpty)) := ev_cmp (d := .list (tsD (byT one nm))) (e := .list []) (by simp [ev]) (ev_lst evs_nil (by simp)) (ne_nil hby)
  rw [x_iff ec rfl]
  have hf := by_find one nm
  cases hb : byT one nm with
  | nil =>
    rw [hb] at hf
    have hf : one.find? (hasN nm) = none := hf.symm
    rw [if_neg (by decide), x_nil, fl_nx, x_same H.same (d := .str "no tile") ?_ (by simp [ev]) (good_str (by decide +kernel)), x_nil]
    · have e : cn1 one nm = false := by
        unfold cn1
        rw [hf]
      rw [e, Bool.or_false]
      exact ⟨_, _, _, _, rfl⟩
    · rw [sd, hf]
      rfl
  | cons a r =>
    rw [hb] at hf
    have hf : one.find? (hasN nm) = some a := hf.symm
    obtain ⟨q1, q2⟩ := find_nm hf
    have ga := ho.g.ok a q2
    have go : gL 100 (otT one nm) := ho.g.filter _
    rw [if_pos (by rfl)]
    have e2 : ev Γ (.lc (.var 11) (.one 11) (.seq (.var 5)) (.cons (.cmp .ne (.ix (.var 11) (.int 0)) (.var 7)) .nil)) (seeM (vsC (.lc (.var 11) (.one 11) (.seq (.var 5)) (.cons (.cmp .ne (.ix (.var 11) (.int 0)) (.var 7)) .nil))) (E5 s0 s1 s2 s3 s4 one can (.val (.str nm)) (.val (.list (tsD (a :: r)))) (.val (.str "no tile")) g10 g11 g12 g13 g14)) = .ok (.list (tsD (otT one nm))) := by
      refine ev_fil (e := tD) (l := one) (q := fun a => decide (a.nm ≠ nm)) (by simp [evI, ev, tsD]) (fun b hb => ?_) (by simp) (ho.g.le (by decide))
      have z := cm_neS (hk b hb) hn
      simp [ev, z]
    rw [x_setF e2 rfl]
    have f2 : freezeM (vsC (.lc (.var 11) (.one 11) (.seq (.var 5)) (.cons (.cmp .ne (.ix (.var 11) (.int 0)) (.var 7)) .nil))) (E5 s0 s1 s2 s3 s4 one can (.val (.str nm)) (.val (.list (tsD (a :: r)))) (.val (.str "no tile")) g10 g11 g12 g13 g14) = E5 s0 s1 s2 s3 s4 one can (.val (.str nm)) (.val (.list (tsD (a :: r)))) (.val (.str "no tile")) g10 (fzn [11, 5, 11, 7] 11 g11) g12 g13 g14 := by simp [vsC, vsCs, vsI]
    rw [f2]
    generalize fzn [11, 5, 11, 7] 11 g11 = u11
    show ∃ g8' g9' g10' g11', (exSs Γ fuel _ (E5 s0 s1 s2 s3 s4 one can (.val (.str nm)) (.val (.list (tsD (a :: r)))) (.val (.str "no tile")) (.val (.list (tsD (otT one nm)))) u11 g12 g13 g14)).bind _ = _
    have vix : ∀ (can : Bool) (g9 : Sl) m, ev Γ (.ix (.var 8) (.int 0)) (seeM m (E5 s0 s1 s2 s3 s4 one can (.val (.str nm)) (.val (.list (tsD (a :: r)))) g9 (.val (.list (tsD (otT one nm)))) u11 g12 g13 g14)) = .ok (tD a) := fun can g9 m => ev_ix (d := .list (tsD (a :: r))) (e := .int 0) (by simp [ev]) (by simp [ev]) (ix_head a r)
    have e3 : ev Γ (.ite (.ix (.ix (.var 8) (.int 0)) (.int 5)) (.str "fixed") (.pr .tuple (.srt (.op .add (.var 10) (.lst (.cons (.call "_law_up" (.ix (.var 8) (.int 0)) (.cons (.var 10) .nil)) .nil)))) .nil)) (seeM (vsC (.ite (.ix (.ix (.var 8) (.int 0)) (.int 5)) (.str "fixed") (.pr .tuple (.srt (.op .add (.var 10) (.lst (.cons (.call "_law_up" (.ix (.var 8) (.int 0)) (.cons (.var 10) .nil)) .nil)))) .nil))) (E5 s0 s1 s2 s3 s4 one can (.val (.str nm)) (.val (.list (tsD (a :: r)))) (.val (.str "no tile")) (.val (.list (tsD (otT one nm)))) u11 g12 g13 g14)) = .ok (if a.fx = true then .str "fixed" else .tuple (tsD (slidT one a))) := by
      refine ev_ite (ev_ix (vix _ _ _) (e := .int 5) (by simp [ev]) (ix_f a)) rfl ?_
      cases hfx : a.fx with
      | true => simp [ev]
      | false =>
        rw [if_neg (by decide), if_neg (by decide)]
        have z := ev_call (es := .cons (.var 10) .nil) H.up dom_lo_inj (a, otT one nm) (ds := [.list (tsD (otT one nm))]) (vix can (.val (.str "no tile")) (vsC (.ite (.ix (.ix (.var 8) (.int 0)) (.int 5)) (.str "fixed") (.pr .tuple (.srt (.op .add (.var 10) (.lst (.cons (.call "_law_up" (.ix (.var 8) (.int 0)) (.cons (.var 10) .nil)) .nil)))) .nil)))) (by simp [ev, evs]) rfl rfl
        rw [law_upF, if_pos (show gN a ∧ gL 900 (otT one nm) from ⟨ga, go.mono (by decide)⟩)] at z
        refine ev_pr1 (ev_srt (ev_op (d := .list (tsD (otT one nm))) (by simp [ev]) (ev_lst (evs_cons z evs_nil) (by simp)) (op_lstS (Nat.le_trans go.len (by decide)))) (srtV_ts ((go.snoc (rais_gN ga)).le (by decide)))) ?_
        rw [pr_tup, slidT, q1]
    have pd : pure_ (if a.fx = true then .str "fixed" else .tuple (tsD (slidT one a))) = true := by
      cases a.fx
      · exact pure_tts _
      · rfl
    rw [x_set e3 pd]
    show ∃ g8' g9' g10' g11', (exSs Γ fuel _ (E5 s0 s1 s2 s3 s4 one can (.val (.str nm)) (.val (.list (tsD (a :: r)))) (.val (if a.fx = true then .str "fixed" else .tuple (tsD (slidT one a)))) (.val (.list (tsD (otT one nm)))) u11 g12 g13 g14)).bind _ = _
    have gs : gL 101 (slidT one a) := (show gL 101 (otT one a.nm ++ [rais (otT one a.nm) a]) from (ho.g.filter _).snoc (rais_gN ga)).srt
    have e4 : ev Γ (.or (.cons (.var 6) (.cons (.cmp .notin (.var 9) (.tup (.cons (.str "fixed") (.cons (.var 5) .nil)))) .nil))) (seeM (vsC (.or (.cons (.var 6) (.cons (.cmp .notin (.var 9) (.tup (.cons (.str "fixed") (.cons (.var 5) .nil)))) .nil)))) (E5 s0 s1 s2 s3 s4 one can (.val (.str nm)) (.val (.list (tsD (a :: r)))) (.val (if a.fx = true then .str "fixed" else .tuple (tsD (slidT one a)))) (.val (.list (tsD (otT one nm)))) u11 g12 g13 g14)) = .ok (.bool (can || (!a.fx && decide (slidT one a ≠ one)))) :=
      ev_or2 (by simp [ev]) fun _ => ev_cmp (d := if a.fx = true then .str "fixed" else .tuple (tsD (slidT one a))) (e := .tuple [.str "fixed", .tuple (tsD one)]) (by simp [ev]) (ev_tup (evs_cons (by simp [ev]) (evs_cons (by simp [ev]) evs_nil)) (by simp)) (notin_due hk (fun b hb => (gs.ok b hb).2) a.fx)
    rw [x_set e4 rfl, x_nil, fl_nx]
    show ∃ g8' g9' g10' g11', exSs Γ fuel _ (E5 s0 s1 s2 s3 s4 one (can || (!a.fx && decide (slidT one a ≠ one))) (.val (.str nm)) (.val (.list (tsD (a :: r)))) (.val (if a.fx = true then .str "fixed" else .tuple (tsD (slidT one a)))) (.val (.list (tsD (otT one nm)))) u11 g12 g13 g14) = _
    rw [x_same H.same (d := if a.fx = true then .str "fixed" else .tuple (tsD (slidT one a))) ?_ (by simp [ev]) ?_, x_nil]
    · have e : cn1 one nm = (!a.fx && decide (slidT one a ≠ one)) := by
        unfold cn1
        rw [hf]
      rw [e]
      exact ⟨_, _, _, _, rfl⟩
    · rw [sd, hf]
      rfl
    · cases a.fx with
      | true => exact good_str (by decide +kernel)
      | false => exact good_tiles gs (by decide)
/-! the loop over the names -/
theorem names_it : seqD (.str "abcdezq") = some (nms7.map .str) := by rfl
theorem names_loop {Γ : Fns} {fuel : Nat} (H : G5 Γ) {one : List Tile} (ho : OneOk one) (s0 s1 s2 s3 s4 : Sl) (g7 g8 g9 g10 g11 g12 g13 g14 : Sl) : ∃ g7' g8' g9' g10' g11',
    forD (forB Γ fuel (.one 7) b3_k05) (nms7.map .str) (E5 s0 s1 s2 s3 s4 one false g7 g8 g9 g10 g11 g12 g13 g14) = .nx (E5 s0 s1 s2 s3 s4 one (nms7.foldl (fun c nm => c || cn1 one nm) false) g7' g8' g9' g10' g11' g12 g13 g14) := by
  obtain ⟨⟨x7, x8, x9, x10, x11⟩, e⟩ := forD_fold (b := forB Γ fuel (.one 7) b3_k05) (e := PyData.str) (f := fun c nm => c || cn1 one nm) (mk := fun c (g : Sl × Sl × Sl × Sl × Sl) => E5 s0 s1 s2 s3 s4 one c g.1 g.2.1 g.2.2.1 g.2.2.2.1 g.2.2.2.2 g12 g13 g14) (I := fun _ r => ∀ x ∈ r, nOk x) (l := nms7) (fun nm r c x hi _ => by
    obtain ⟨a, b, c', d, e⟩ := name_turn (fuel := fuel) H ho (hi nm List.mem_cons_self) s0 s1 s2 s3 s4 c x.2.1 x.2.2.1 x.2.2.2.1 x.2.2.2.2 g12 g13 g14
    exact ⟨fun y hy => hi y (List.mem_cons_of_mem _ hy), (_, a, b, c', d), e⟩) false (g7, g8, g9, g10, g11) nms7_ok
  exact ⟨x7, x8, x9, x10, x11, e⟩
/-! the loop over the others -/
theorem other_turn {Γ : Fns} {fuel : Nat} (H : G5 Γ) {one : List Tile} (ho : OneOk one) {a : Tile} (ha : a ∈ one) (s0 s1 s2 s3 s4 : Sl) (can : Bool) (g7 g8 g9 g10 g12 g13 g14 : Sl) : ∃ g10' g13',
    exSs Γ fuel b4_k05 (E5 s0 s1 s2 s3 s4 one can g7 g8 g9 g10 (.val (tD a)) g12 g13 g14) = .nx (E5 s0 s1 s2 s3 s4 one (can || cn2 one a) g7 g8 g9 g10' (.val (tD a)) g12 g13' g14) := by
  have hk : ∀ a ∈ one, nOk a.nm := fun a ha => (ho.g.ok a ha).2
  have ga := ho.g.ok a ha
  have e2 : ev Γ (.lc (.var 13) (.one 13) (.seq (.var 5)) (.cons (.cmp .ne (.var 13) (.var 11)) .nil)) (seeM (vsC (.lc (.var 13) (.one 13) (.seq (.var 5)) (.cons (.cmp .ne (.var 13) (.var 11)) .nil))) (E5 s0 s1 s2 s3 s4 one can g7 g8 g9 g10 (.val (tD a)) g12 g13 g14)) = .ok (.list (tsD (nf one a))) := by
    refine ev_fil (e := tD) (l := one) (q := fun b => decide (b ≠ a)) (by simp [evI, ev, tsD]) (fun b hb => ?_) (by simp) (ho.g.le (by decide))
    have z := cm_neT (hk b hb) (hk a ha)
    simp [ev, z]
  rw [b4_k05, x_setF e2 rfl]
  have f2 : freezeM (vsC (.lc (.var 13) (.one 13) (.seq (.var 5)) (.cons (.cmp .ne (.var 13) (.var 11)) .nil))) (E5 s0 s1 s2 s3 s4 one can g7 g8 g9 g10 (.val (tD a)) g12 g13 g14) = E5 s0 s1 s2 s3 s4 one can g7 g8 g9 g10 (.val (tD a)) g12 (fzn [13, 5, 13, 11] 13 g13) g14 := by simp [vsC, vsCs, vsI]
  rw [f2]
  generalize fzn [13, 5, 13, 11] 13 g13 = u13
  show ∃ g10' g13', exSs Γ fuel _ (E5 s0 s1 s2 s3 s4 one can g7 g8 g9 (.val (.list (tsD (nf one a)))) (.val (tD a)) g12 u13 g14) = _
  have e3 : ev Γ (.or (.cons (.var 6) (.cons (.cmp .ne (.call "_law_up" (.var 11) (.cons (.var 10) .nil)) (.var 11)) .nil))) (seeM (vsC (.or (.cons (.var 6) (.cons (.cmp .ne (.call "_law_up" (.var 11) (.cons (.var 10) .nil)) (.var 11)) .nil)))) (E5 s0 s1 s2 s3 s4 one can g7 g8 g9 (.val (.list (tsD (nf one a)))) (.val (tD a)) g12 u13 g14)) = .ok (.bool (can || cn2 one a)) := by
    refine ev_or2 (by simp [ev]) fun _ => ?_
    have z := ev_call (a := .var 11) (es := .cons (.var 10) .nil) (ρ := seeM (vsC (.or (.cons (.var 6) (.cons (.cmp .ne (.call "_law_up" (.var 11) (.cons (.var 10) .nil)) (.var 11)) .nil)))) (E5 s0 s1 s2 s3 s4 one can g7 g8 g9 (.val (.list (tsD (nf one a)))) (.val (tD a)) g12 u13 g14)) H.up dom_lo_inj (a, nf one a) (d := tD a) (ds := [.list (tsD (nf one a))]) (by simp [ev]) (by simp [ev, evs]) rfl rfl
    rw [law_upF, if_pos (show gN a ∧ gL 900 (nf one a) from ⟨ga, (ho.g.filter _).mono (by decide)⟩)] at z
    exact ev_cmp z (e := tD a) (by simp [ev]) (cm_neT (by rw [rais_nm]; exact ga.2) ga.2)
  rw [x_set e3 rfl, x_nil]
  exact ⟨_, _, rfl⟩
theorem others_loop {Γ : Fns} {fuel : Nat} (H : G5 Γ) {one : List Tile} (ho : OneOk one) (s0 s1 s2 s3 s4 : Sl) (can : Bool) (g7 g8 g9 g10 g11 g12 g13 g14 : Sl) : ∃ g10' g11' g13',
    forD (forB Γ fuel (.one 11) b4_k05) ((oth one).map tD) (E5 s0 s1 s2 s3 s4 one can g7 g8 g9 g10 g11 g12 g13 g14) = .nx (E5 s0 s1 s2 s3 s4 one ((oth one).foldl (fun c a => c || cn2 one a) can) g7 g8 g9 g10' g11' g12 g13' g14) := by
  obtain ⟨⟨x10, x11, x13⟩, e⟩ := forD_fold (b := forB Γ fuel (.one 11) b4_k05) (e := tD) (f := fun c a => c || cn2 one a) (mk := fun c (g : Sl × Sl × Sl) => E5 s0 s1 s2 s3 s4 one c g7 g8 g9 g.1 g.2.1 g12 g.2.2 g14) (I := fun _ r => ∀ a ∈ r, a ∈ one) (l := oth one) (fun a r c x hi _ => by
    obtain ⟨u, v, e⟩ := other_turn (fuel := fuel) H ho (hi a List.mem_cons_self) s0 s1 s2 s3 s4 c g7 g8 g9 x.1 g12 x.2.2 g14
    exact ⟨fun y hy => hi y (List.mem_cons_of_mem _ hy), (u, _, v), e⟩) can (g10, g11, g13) (fun a ha => (List.mem_filter.mp ha).1)
  exact ⟨x10, x11, x13, e⟩
end Tl
set_option maxHeartbeats 0
namespace Tl
open PySem PySem.Spec L2 PyProof.Rows
def N__law_said_k03 : List Str := ["way", "wide", "layout", "tile", "e"]
def c__law_said_k03 : Ss := (.cons (.tri ["NoTile", "BadTile", "Fixed", "NoRoom", "NoName", "Same", "Closed", "NoDeed", "NoText"] (.cons (.iff (.cmp .eq (.var 0) (.int 0)) (.cons (.ret (.call "moved" (.var 1) (.cons (.var 2) (.cons (.ix (.var 3) (.int 0)) (.cons (.ix (.var 3) (.int 1)) (.cons (.ix (.var 3) (.int 2)) .nil)))))) .nil) .nil) (.cons (.iff (.cmp .eq (.var 0) (.int 1)) (.cons (.ret (.call "sized" (.var 1) (.cons (.var 2) (.cons (.ix (.var 3) (.int 0)) (.cons (.ix (.var 3) (.int 3)) (.cons (.ix (.var 3) (.int 4)) .nil)))))) .nil) .nil) (.cons (.iff (.cmp .eq (.var 0) (.int 2)) (.cons (.ret (.call "put" (.var 1) (.cons (.var 2) (.cons (.var 3) .nil)))) .nil) .nil) (.cons (.ret (.ite (.cmp .eq (.var 0) (.int 3)) (.call "fixed" (.var 2) (.cons (.ix (.var 3) (.int 0)) (.cons (.ix (.var 3) (.int 5)) .nil))) (.call "taken" (.var 2) (.cons (.ix (.var 3) (.int 0)) .nil)))) .nil)))) (.word 4)) .nil)
def N__law_due_k03 : List Str := ["way", "wide", "layout", "tile", "old", "rest", "one", "new"]
def c__law_due_k03 : Ss := (.cons (.set 4 (.call "_law_by" (.var 2) (.cons (.ix (.var 3) (.int 0)) .nil))) (.cons (.set 5 (.pr .tuple (.lc (.var 6) (.one 6) (.seq (.var 2)) (.cons (.cmp .ne (.ix (.var 6) (.int 0)) (.ix (.var 3) (.int 0))) .nil)) .nil)) (.cons (.iff (.cmp .eq (.var 0) (.int 2)) (.cons (.ret (.call "_law_put" (.var 1) (.cons (.var 2) (.cons (.var 3) (.cons (.bl true) .nil))))) .nil) .nil) (.cons (.iff (.cmp .eq (.var 4) (.lst .nil)) (.cons (.ret (.str "no tile")) .nil) .nil) (.cons (.iff (.cmp .eq (.var 0) (.int 3)) (.cons (.ret (.pr .tuple (.srt (.op .add (.var 5) (.tup (.cons (.op .add (.slU (.ix (.var 4) (.int 0)) (.int 5)) (.tup (.cons (.ix (.var 3) (.int 5)) .nil))) .nil)))) .nil)) .nil) .nil) (.cons (.iff (.cmp .eq (.var 0) (.int 4)) (.cons (.ret (.var 5)) .nil) .nil) (.cons (.set 7 (.ite (.cmp .eq (.var 0) (.int 0)) (.op .add (.op .add (.slU (.ix (.var 4) (.int 0)) (.int 1)) (.slB (.var 3) (.int 1) (.int 3))) (.slL (.ix (.var 4) (.int 0)) (.int 3))) (.op .add (.op .add (.slU (.ix (.var 4) (.int 0)) (.int 3)) (.slB (.var 3) (.int 3) (.int 5))) (.slL (.ix (.var 4) (.int 0)) (.int 5))))) (.cons (.ret (.call "_law_put" (.var 1) (.cons (.var 2) (.cons (.var 7) (.cons (.bl false) .nil))))) .nil))))))))
def N_law_k03 : List Str := ["script", "k", "cell", "wide", "layout", "j", "seed", "odd", "tile", "way", "bars", "one", "good", "due", "row"]
def c_law_k03 : Ss := (.cons (.for_ (.one 1) (.rng1 (.int 12)) (.cons (.set 2 (.op .add (.call "_law_cell" (.var 0) (.cons (.op .mod (.var 1) (.int 9)) .nil)) (.op .mul (.int 31) (.var 1)))) (.cons (.set 3 (.call "_law_wide" (.var 2) .nil)) (.cons (.set 4 (.call "_law_layout" (.var 2) (.cons (.var 3) (.cons (.int 8) .nil)))) (.cons (.for_ (.one 5) (.rng1 (.int 10)) (.cons (.set 6 (.op .add (.op .add (.call "_law_cell" (.var 0) (.cons (.int 9) .nil)) (.op .mul (.int 17) (.var 5))) (.op .mul (.int 7) (.var 1)))) (.cons (.set 7 (.call "_law_mix" (.var 6) (.cons (.int 9901) (.cons (.int 9) .nil)))) (.cons (.set 8 (.call "_law_tile" (.var 6) (.cons (.var 3) (.cons (.ix (.str "abcdezyxhm") (.call "_law_mix" (.var 6) (.cons (.int 9887) (.cons (.int 10) .nil)))) .nil)))) (.cons (.iff (.cmp .eq (.var 7) (.int 0)) (.cons (.set 8 (.op .add (.op .add (.slU (.var 8) (.int 1)) (.tup (.cons (.op .add (.op .sub (.var 3) (.ix (.var 8) (.int 3))) (.int 1)) .nil))) (.slL (.var 8) (.int 2)))) .nil) .nil) (.cons (.iff (.cmp .eq (.var 7) (.int 1)) (.cons (.set 8 (.op .add (.op .add (.slU (.var 8) (.int 2)) (.tup (.cons (.ix (.tup (.cons (.neg 1) (.cons (.int 100) (.cons (.int 99) (.cons (.int 0) .nil))))) (.call "_law_mix" (.var 6) (.cons (.int 9883) (.cons (.int 4) .nil)))) .nil))) (.slL (.var 8) (.int 3)))) .nil) .nil) (.cons (.iff (.cmp .eq (.var 7) (.int 2)) (.cons (.set 8 (.op .add (.op .add (.slU (.var 8) (.int 4)) (.tup (.cons (.ix (.tup (.cons (.int 0) (.cons (.int 7) (.cons (.int 6) (.cons (.int 1) .nil))))) (.call "_law_mix" (.var 6) (.cons (.int 9871) (.cons (.int 4) .nil)))) .nil))) (.slL (.var 8) (.int 5)))) .nil) .nil) (.cons (.for_ (.one 9) (.rng1 (.int 5)) (.cons (.iff (.not (.call "_law_same" (.call "_law_said" (.var 9) (.cons (.var 3) (.cons (.var 4) (.cons (.var 8) .nil)))) (.cons (.call "_law_due" (.var 9) (.cons (.var 3) (.cons (.var 4) (.cons (.var 8) .nil)))) .nil))) (.cons (.ret (.bl false)) .nil) .nil) .nil)) (.cons (.set 10 (.lc (.var 11) (.one 11) (.seq (.var 4)) (.cons (.and (.cons (.ix (.var 11) (.int 5)) (.cons (.cmp .ne (.ix (.var 11) (.int 0)) (.ix (.var 8) (.int 0))) .nil))) .nil))) (.cons (.set 12 (.and (.cons (.call "_law_is_good" (.var 3) (.cons (.var 8) .nil)) (.cons (.not (.call "_law_meets" (.var 8) (.cons (.var 10) .nil))) .nil)))) (.cons (.set 13 (.ite (.var 12) (.call "_law_settled" (.var 4) (.cons (.var 8) .nil)) .non)) (.cons (.iff (.and (.cons (.var 12) (.cons (.not (.call "_law_same" (.call "settled" (.var 4) (.cons (.var 8) .nil)) (.cons (.var 13) .nil))) .nil))) (.cons (.ret (.bl false)) .nil) .nil) .nil)))))))))))) .nil))))) (.cons (.set 14 (.tup (.cons (.tup (.cons (.str "a") (.cons (.int 0) (.cons (.int 0) (.cons (.int 2) (.cons (.int 1) (.cons (.bl false) .nil))))))) (.cons (.tup (.cons (.str "b") (.cons (.int 0) (.cons (.int 1) (.cons (.int 1) (.cons (.int 1) (.cons (.bl true) .nil))))))) (.cons (.tup (.cons (.str "c") (.cons (.int 1) (.cons (.int 1) (.cons (.int 1) (.cons (.int 2) (.cons (.bl false) .nil))))))) .nil))))) (.cons (.ret (.cmp .eq (.call "moved" (.int 2) (.cons (.var 14) (.cons (.str "c") (.cons (.int 1) (.cons (.int 0) .nil))))) (.tup (.cons (.tup (.cons (.str "a") (.cons (.int 0) (.cons (.int 2) (.cons (.int 2) (.cons (.int 1) (.cons (.bl false) .nil))))))) (.cons (.tup (.cons (.str "b") (.cons (.int 0) (.cons (.int 1) (.cons (.int 1) (.cons (.int 1) (.cons (.bl true) .nil))))))) (.cons (.tup (.cons (.str "c") (.cons (.int 1) (.cons (.int 0) (.cons (.int 1) (.cons (.int 2) (.cons (.bl false) .nil))))))) .nil)))))) .nil)))
abbrev b1_k03 : Ss := (.cons (.set 2 (.op .add (.call "_law_cell" (.var 0) (.cons (.op .mod (.var 1) (.int 9)) .nil)) (.op .mul (.int 31) (.var 1)))) (.cons (.set 3 (.call "_law_wide" (.var 2) .nil)) (.cons (.set 4 (.call "_law_layout" (.var 2) (.cons (.var 3) (.cons (.int 8) .nil)))) (.cons (.for_ (.one 5) (.rng1 (.int 10)) (.cons (.set 6 (.op .add (.op .add (.call "_law_cell" (.var 0) (.cons (.int 9) .nil)) (.op .mul (.int 17) (.var 5))) (.op .mul (.int 7) (.var 1)))) (.cons (.set 7 (.call "_law_mix" (.var 6) (.cons (.int 9901) (.cons (.int 9) .nil)))) (.cons (.set 8 (.call "_law_tile" (.var 6) (.cons (.var 3) (.cons (.ix (.str "abcdezyxhm") (.call "_law_mix" (.var 6) (.cons (.int 9887) (.cons (.int 10) .nil)))) .nil)))) (.cons (.iff (.cmp .eq (.var 7) (.int 0)) (.cons (.set 8 (.op .add (.op .add (.slU (.var 8) (.int 1)) (.tup (.cons (.op .add (.op .sub (.var 3) (.ix (.var 8) (.int 3))) (.int 1)) .nil))) (.slL (.var 8) (.int 2)))) .nil) .nil) (.cons (.iff (.cmp .eq (.var 7) (.int 1)) (.cons (.set 8 (.op .add (.op .add (.slU (.var 8) (.int 2)) (.tup (.cons (.ix (.tup (.cons (.neg 1) (.cons (.int 100) (.cons (.int 99) (.cons (.int 0) .nil))))) (.call "_law_mix" (.var 6) (.cons (.int 9883) (.cons (.int 4) .nil)))) .nil))) (.slL (.var 8) (.int 3)))) .nil) .nil) (.cons (.iff (.cmp .eq (.var 7) (.int 2)) (.cons (.set 8 (.op .add (.op .add (.slU (.var 8) (.int 4)) (.tup (.cons (.ix (.tup (.cons (.int 0) (.cons (.int 7) (.cons (.int 6) (.cons (.int 1) .nil))))) (.call "_law_mix" (.var 6) (.cons (.int 9871) (.cons (.int 4) .nil)))) .nil))) (.slL (.var 8) (.int 5)))) .nil) .nil) (.cons (.for_ (.one 9) (.rng1 (.int 5)) (.cons (.iff (.not (.call "_law_same" (.call "_law_said" (.var 9) (.cons (.var 3) (.cons (.var 4) (.cons (.var 8) .nil)))) (.cons (.call "_law_due" (.var 9) (.cons (.var 3) (.cons (.var 4) (.cons (.var 8) .nil)))) .nil))) (.cons (.ret (.bl false)) .nil) .nil) .nil)) (.cons (.set 10 (.lc (.var 11) (.one 11) (.seq (.var 4)) (.cons (.and (.cons (.ix (.var 11) (.int 5)) (.cons (.cmp .ne (.ix (.var 11) (.int 0)) (.ix (.var 8) (.int 0))) .nil))) .nil))) (.cons (.set 12 (.and (.cons (.call "_law_is_good" (.var 3) (.cons (.var 8) .nil)) (.cons (.not (.call "_law_meets" (.var 8) (.cons (.var 10) .nil))) .nil)))) (.cons (.set 13 (.ite (.var 12) (.call "_law_settled" (.var 4) (.cons (.var 8) .nil)) .non)) (.cons (.iff (.and (.cons (.var 12) (.cons (.not (.call "_law_same" (.call "settled" (.var 4) (.cons (.var 8) .nil)) (.cons (.var 13) .nil))) .nil))) (.cons (.ret (.bl false)) .nil) .nil) .nil)))))))))))) .nil))))
abbrev b2_k03 : Ss := (.cons (.set 6 (.op .add (.op .add (.call "_law_cell" (.var 0) (.cons (.int 9) .nil)) (.op .mul (.int 17) (.var 5))) (.op .mul (.int 7) (.var 1)))) (.cons (.set 7 (.call "_law_mix" (.var 6) (.cons (.int 9901) (.cons (.int 9) .nil)))) (.cons (.set 8 (.call "_law_tile" (.var 6) (.cons (.var 3) (.cons (.ix (.str "abcdezyxhm") (.call "_law_mix" (.var 6) (.cons (.int 9887) (.cons (.int 10) .nil)))) .nil)))) (.cons (.iff (.cmp .eq (.var 7) (.int 0)) (.cons (.set 8 (.op .add (.op .add (.slU (.var 8) (.int 1)) (.tup (.cons (.op .add (.op .sub (.var 3) (.ix (.var 8) (.int 3))) (.int 1)) .nil))) (.slL (.var 8) (.int 2)))) .nil) .nil) (.cons (.iff (.cmp .eq (.var 7) (.int 1)) (.cons (.set 8 (.op .add (.op .add (.slU (.var 8) (.int 2)) (.tup (.cons (.ix (.tup (.cons (.neg 1) (.cons (.int 100) (.cons (.int 99) (.cons (.int 0) .nil))))) (.call "_law_mix" (.var 6) (.cons (.int 9883) (.cons (.int 4) .nil)))) .nil))) (.slL (.var 8) (.int 3)))) .nil) .nil) (.cons (.iff (.cmp .eq (.var 7) (.int 2)) (.cons (.set 8 (.op .add (.op .add (.slU (.var 8) (.int 4)) (.tup (.cons (.ix (.tup (.cons (.int 0) (.cons (.int 7) (.cons (.int 6) (.cons (.int 1) .nil))))) (.call "_law_mix" (.var 6) (.cons (.int 9871) (.cons (.int 4) .nil)))) .nil))) (.slL (.var 8) (.int 5)))) .nil) .nil) (.cons (.for_ (.one 9) (.rng1 (.int 5)) (.cons (.iff (.not (.call "_law_same" (.call "_law_said" (.var 9) (.cons (.var 3) (.cons (.var 4) (.cons (.var 8) .nil)))) (.cons (.call "_law_due" (.var 9) (.cons (.var 3) (.cons (.var 4) (.cons (.var 8) .nil)))) .nil))) (.cons (.ret (.bl false)) .nil) .nil) .nil)) (.cons (.set 10 (.lc (.var 11) (.one 11) (.seq (.var 4)) (.cons (.and (.cons (.ix (.var 11) (.int 5)) (.cons (.cmp .ne (.ix (.var 11) (.int 0)) (.ix (.var 8) (.int 0))) .nil))) .nil))) (.cons (.set 12 (.and (.cons (.call "_law_is_good" (.var 3) (.cons (.var 8) .nil)) (.cons (.not (.call "_law_meets" (.var 8) (.cons (.var 10) .nil))) .nil)))) (.cons (.set 13 (.ite (.var 12) (.call "_law_settled" (.var 4) (.cons (.var 8) .nil)) .non)) (.cons (.iff (.and (.cons (.var 12) (.cons (.not (.call "_law_same" (.call "settled" (.var 4) (.cons (.var 8) .nil)) (.cons (.var 13) .nil))) .nil))) (.cons (.ret (.bl false)) .nil) .nil) .nil)))))))))))
abbrev b3_k03 : Ss := (.cons (.iff (.not (.call "_law_same" (.call "_law_said" (.var 9) (.cons (.var 3) (.cons (.var 4) (.cons (.var 8) .nil)))) (.cons (.call "_law_due" (.var 9) (.cons (.var 3) (.cons (.var 4) (.cons (.var 8) .nil)))) .nil))) (.cons (.ret (.bl false)) .nil) .nil) .nil)
end Tl
set_option maxHeartbeats 4000000
namespace Tl
open PySem PySem.Spec L2
/-! ### _law_is_good -/
def isGd (wide : Int) (a : Tile) : Bool := decide (0 ≤ a.l) && ((decide (0 ≤ a.t) && decide (a.t < 100)) && (decide (0 < a.w) && ((decide (0 < a.h) && decide (a.h < 7)) && decide (a.l + a.w ≤ wide))))
noncomputable def law_is_goodS : List D → Res D := spec dom_it fun p => .ok (.bool (isGd p.1 p.2))
theorem run_law_is_good (Γ : Fns) (p : Int × Tile) : ∃ fuel, Gives (.ok (.bool (isGd p.1 p.2))) (exSs Γ fuel c__law_is_good (startS N__law_is_good (dom_it p))) := by
  refine ⟨0, .inl (x_ret ?_)⟩
  obtain ⟨wide, a⟩ := p
  have e0 : ∀ m, seeM m (startS N__law_is_good (dom_it (wide, a))) = [some (.int wide), some (tD a)] := fun m => by simp [N__law_is_good, startS, dom_it]
  rw [e0]
  exact ev_and (evAnd_cons (by simp [ev]) fun _ => evAnd_cons (ev_cmp2 (x := .int 0) (y := .int a.t) (z := .int 100) (by simp [ev]) (by simp [ev]) (by simp [ev]) rfl rfl) fun _ => evAnd_cons (by simp [ev]) fun _ => evAnd_cons (ev_cmp2 (x := .int 0) (y := .int a.h) (z := .int 7) (by simp [ev]) (by simp [ev]) (by simp [ev]) rfl rfl) fun _ => evAnd_one (by simp [ev]))
theorem isGd_eq {wide : Int} {a : Tile} (hn : isNm a.nm = true) : isT wide a = isGd wide a := by
  unfold isT isGd inR
  rw [hn, Bool.true_and, Bool.eq_iff_iff]
  simp only [Bool.and_eq_true, decide_eq_true_eq]
  constructor
  · rintro ⟨⟨h1, h2⟩, h3, h4⟩
    refine ⟨by omega, ⟨by omega, by omega⟩, by omega, ⟨by omega, by omega⟩, by omega⟩
  · rintro ⟨h1, ⟨h2, h3⟩, h4, ⟨h5, h6⟩, h7⟩
    refine ⟨⟨⟨by omega, by omega⟩, by omega, by omega⟩, ⟨by omega, by omega⟩, by omega, by omega⟩
/-! ### what is due, as data -/
def resW (o : Option Str) (d : D) : D := match o with
  | some c => .str (wordOf c)
  | none => d
def mvD (wide : Int) (ts : List Tile) (nm : Str) (ch : Tile → Tile) : D := match ts.find? (hasN nm) with
  | some o => if o.fx = true then .str "fixed" else resW (fitX wide ts (ch o)) (.tuple (tsD (setT ts (ch o))))
  | none => .str "no tile"
def pnD (wide : Int) (ts : List Tile) (a : Tile) : D := if (ts.find? (hasN a.nm)).isSome = true then .str "bad tile" else resW (fitX wide ts a) (.tuple (tsD (setT ts a)))
def ptD (wide : Int) (ts : List Tile) (a : Tile) (new : Bool) : D := if new = true then pnD wide ts a else mvD wide ts a.nm fun _ => a
def dom_lp (p : Int × List Tile × Tile × Bool) : List D := [.int p.1, .tuple (tsD p.2.1), tD p.2.2.1, .bool p.2.2.2]
theorem dom_lp_inj (p q : Int × List Tile × Tile × Bool) (h : dom_lp p = dom_lp q) : p = q := by
  obtain ⟨a, b, c, d⟩ := p
  obtain ⟨a', b', c', d'⟩ := q
  simp only [dom_lp, List.cons.injEq, PyData.int.injEq, PyData.tuple.injEq, PyData.bool.injEq] at h
  rw [h.1, tsD_inj h.2.1, tD_inj h.2.2.1, h.2.2.2.1]
structure gQ (wide : Int) (ts : List Tile) (nm : Str) : Prop where
  g : gL 400 ts
  n : nOk2 nm
  s : isNm nm = true
  w : wide ≤ 12
open Classical in
noncomputable def law_putF (p : Int × List Tile × Tile × Bool) : Res D := if gQ p.1 p.2.1 p.2.2.1.nm then .ok (ptD p.1 p.2.1 p.2.2.1 p.2.2.2) else .stuck
noncomputable def law_putS : List D → Res D := spec dom_lp law_putF
theorem ev_by {Γ : Fns} {ρ : Env0D} {a b : C} {ts : List Tile} {nm : Str} (h : Γ "_law_by" = some (2, law_byS)) (h1 : ev Γ a ρ = .ok (.tuple (tsD ts))) (h2 : ev Γ b ρ = .ok (.str nm)) (g : gP (ts, nm)) : ev Γ (.call "_law_by" a (.cons b .nil)) ρ = .ok (.list (tsD (byT ts nm))) := by
  have z := ev_call h dom_tn_inj (ts, nm) h1 (evs_cons h2 evs_nil) rfl rfl
  rw [law_byF, if_pos g] at z
  exact z
theorem eq_nil {ts : List Tile} (h : ∀ a ∈ ts, nOk a.nm) : cmpD .eq (.list (tsD ts)) (.list []) = some (.bool ts.isEmpty) := by
  show Option.map PyData.bool (gd (SeqAt.shaped (sqD true (tsD ts)) && SeqAt.shaped (.list [])) (PyData.eqvAll (tsD ts) [])) = _
  rw [shaped_sq h, eqvAll_nil]
  cases ts <;> rfl
theorem ev_lmeets {Γ : Fns} {ρ : Env0D} {a b : C} {ts : List Tile} {x : Tile} {k : Bool} (h : Γ "_law_meets" = some (2, law_meetsS)) (h1 : ev Γ a ρ = .ok (tD x)) (h2 : ev Γ b ρ = .ok (sqD k (tsD ts))) (g : gT x) (g2 : gTs ts) : ev Γ (.call "_law_meets" a (.cons b .nil)) ρ = .ok (.bool (anyM x ts)) := by
  have z := ev_call h dom_tl_inj (x, ts, k) h1 (evs_cons h2 evs_nil) rfl rfl
  rw [if_pos (show gT x ∧ gTs ts from ⟨g, g2⟩)] at z
  exact z
theorem ev_settled {Γ : Fns} {ρ : Env0D} {a b : C} {f : Str} {ts : List Tile} {x : Tile} (h : Γ f = some (2, settledS)) (h1 : ev Γ a ρ = .ok (.tuple (tsD ts))) (h2 : ev Γ b ρ = .ok (tD x)) (g : gL 400 ts) (g2 : gN x) : ev Γ (.call f a (.cons b .nil)) ρ = .ok (.tuple (tsD (setT ts x))) := by
  have z := ev_call h dom_lt2_inj (ts, x) h1 (evs_cons h2 evs_nil) rfl rfl
  rw [settledF, if_pos (show gL 400 ts ∧ gN x from ⟨g, g2⟩)] at z
  exact z
theorem bars_eq (ts : List Tile) (nm : Str) : (ts.filter fun b => b.fx && decide (b.nm ≠ nm)) = (otT ts nm).filter Tile.fx := by
  unfold otT
  rw [List.filter_filter]
theorem ev_bars {Γ : Fns} {ρ : Env0D} {x y : C} {i : Nat} {ts : List Tile} {nm : Str} (h : gL 400 ts) (hn : nOk nm) (hi : i < ρ.length) (h1 : ev Γ x ρ = .ok (.tuple (tsD ts))) (h2 : ∀ b : Tile, ev Γ y ((ρ.set i none).set i (some (tD b))) = .ok (.str nm)) (hv : ∀ b : Tile, ev Γ (.var i) ((ρ.set i none).set i (some (tD b))) = .ok (tD b)) : ev Γ (.lc (.var i) (.one i) (.seq x) (.cons (.and (.cons (.ix (.var i) (.int 5)) (.cons (.cmp .ne (.ix (.var i) (.int 0)) y) .nil))) .nil)) ρ = .ok (.list (tsD ((otT ts nm).filter Tile.fx))) := by
  rw [← bars_eq]
  exact ev_fil (e := tD) (l := ts) (q := fun b => b.fx && decide (b.nm ≠ nm)) (by rw [evI, h1]; rfl) (fun b hb => ev_and2 (ev_ix (hv b) (e := .int 5) (by simp [ev]) (ix_f b)) fun _ => ev_cmp (ev_ix (hv b) (e := .int 0) (by simp [ev]) (ix_nm b)) (h2 b) (cm_neS (h.ok b hb).2 hn)) hi (h.le (by decide))
theorem run_law_put (Γ : Fns) (hb : Γ "_law_by" = some (2, law_byS)) (hg : Γ "_law_is_good" = some (2, law_is_goodS)) (hm : Γ "_law_meets" = some (2, law_meetsS)) (hs : Γ "_law_settled" = some (2, settledS)) (p : Int × List Tile × Tile × Bool) : ∃ fuel, Gives (law_putF p) (exSs Γ fuel c__law_put (startS N__law_put (dom_lp p))) := by
  refine ⟨0, ?_⟩
  unfold law_putF
  by_cases h : gQ p.1 p.2.1 p.2.2.1.nm
  rotate_left
  · rw [if_neg h]; trivial
  rw [if_pos h]
  obtain ⟨wide, ts, a, new⟩ := p
  obtain ⟨h, hn, hnm, hw⟩ := h
  refine .inl ?_
  have hk : ∀ b ∈ byT ts a.nm, nOk b.nm := fun b hb => (h.ok b (List.mem_filter.mp hb).1).2
  have go : gL 400 (otT ts a.nm) := h.filter _
  have e0 : startS N__law_put (dom_lp (wide, ts, a, new)) = [.val (.int wide), .val (.tuple (tsD ts)), .val (tD a), .val (.bool new), .no, .no] := by simp [N__law_put, startS, dom_lp]
  rw [e0, c__law_put, x_setF (ev_by (ts := ts) (nm := a.nm) hb (by simp [ev]) (by simp [ev]) ⟨h.mono (by decide), hn.1⟩) rfl]
  have f0 : freezeM (vsC (.call "_law_by" (.var 1) (.cons (.ix (.var 2) (.int 0)) .nil))) [.val (.int wide), .val (.tuple (tsD ts)), .val (tD a), .val (.bool new), .no, .no] = [.val (.int wide), .val (.tuple (tsD ts)), .val (tD a), .val (.bool new), .no, .no] := by simp [vsC, vsCs]
  rw [f0]
  show exSs Γ 0 _ [.val (.int wide), .val (.tuple (tsD ts)), .val (tD a), .val (.bool new), .val (.list (tsD (byT ts a.nm))), .no] = .rt (ptD wide ts a new)
  have hf := by_find ts a.nm
  -- the end, in both
  have fin : exSs Γ 0 (.cons (.iff (.not (.call "_law_is_good" (.var 0) (.cons (.var 2) .nil))) (.cons (.ret (.str "bad tile")) .nil) .nil) (.cons (.iff (.call "_law_meets" (.var 2) (.cons (.lc (.var 5) (.one 5) (.seq (.var 1)) (.cons (.and (.cons (.ix (.var 5) (.int 5)) (.cons (.cmp .ne (.ix (.var 5) (.int 0)) (.ix (.var 2) (.int 0))) .nil))) .nil)) .nil)) (.cons (.ret (.str "no room")) .nil) .nil) (.cons (.ret (.call "_law_settled" (.var 1) (.cons (.var 2) .nil))) .nil))) [.val (.int wide), .val (.tuple (tsD ts)), .val (tD a), .val (.bool new), .val (.list (tsD (byT ts a.nm))), .no] = .rt (resW (fitX wide ts a) (.tuple (tsD (setT ts a)))) := by
    have eg := ev_call (a := .var 0) (es := .cons (.var 2) .nil) (ρ := seeM (vsC (.not (.call "_law_is_good" (.var 0) (.cons (.var 2) .nil)))) [.val (.int wide), .val (.tuple (tsD ts)), .val (tD a), .val (.bool new), .val (.list (tsD (byT ts a.nm))), .no]) hg dom_it_inj (wide, a) (d := .int wide) (ds := [tD a]) (by simp [ev]) (by simp [ev, evs]) rfl rfl
    rw [x_iff (ev_not eg rfl) rfl]
    have eT := isGd_eq (wide := wide) (a := a) hnm
    show ((if (!isGd wide a) = true then _ else _ : Fl)).bind _ = _
    unfold fitX
    rw [eT]
    cases q : isGd wide a with
    | false =>
      rw [if_pos (by rfl), x_ret (d := .str "bad tile") (by simp [ev])]
      rfl
    | true =>
      have ga : gN a := isT_gN hw hn.1 (by rw [eT]; exact q)
      rw [show (!true) = false from rfl, if_neg (by decide), x_nil, fl_nx, x_iff (ev_lmeets (x := a) (ts := (otT ts a.nm).filter Tile.fx) (k := true) hm (by simp [ev]) (ev_bars h hn.1 (by simp) (by simp [ev]) (fun b => by simp [ev]) (fun b => by simp [ev])) ga.1 ((go.filter _).gTs (by decide))) rfl]
      cases q2 : anyM a ((otT ts a.nm).filter Tile.fx) with
      | true =>
        rw [if_pos rfl, x_ret (d := .str "no room") (by simp [ev])]
        rfl
      | false =>
        rw [if_neg (by decide), x_nil, fl_nx]
        exact x_ret (ev_settled hs (by simp [ev]) (by simp [ev]) h ga)
  rw [x_iff (ev_and2 (x := !new) (y := (byT ts a.nm).isEmpty) (ev_not (d := .bool new) (by simp [ev]) rfl) fun _ => ev_cmp (d := .list (tsD (byT ts a.nm))) (e := .list []) (by simp [ev]) (ev_lst evs_nil (by simp)) (eq_nil hk)) rfl]
  cases new with
  | true =>
    show _ = Fl.rt (pnD wide ts a)
    cases hby : byT ts a.nm with
    | cons o r =>
      rw [hby] at hf hk
      have e : pnD wide ts a = .str "bad tile" := by
        unfold pnD
        rw [← hf]
        rfl
      rw [e, show (!true && (o :: r).isEmpty) = false from rfl, if_neg (by decide), x_nil, fl_nx, x_ifT (ev_and2 (x := true) (y := true) (by simp [ev]) fun _ => ev_cmp (d := .list (tsD (o :: r))) (e := .list []) (by simp [ev]) (ev_lst evs_nil (by simp)) (ne_nil hk)), x_ret (d := .str "bad tile") (by simp [ev])]
      rfl
    | nil =>
      rw [hby] at fin hf hk
      have e : pnD wide ts a = resW (fitX wide ts a) (.tuple (tsD (setT ts a))) := by
        unfold pnD
        rw [← hf]
        rfl
      rw [e, show (!true && ([] : List Tile).isEmpty) = false from rfl, if_neg (by decide), x_nil, fl_nx, x_ifF (ev_and2 (x := true) (y := false) (by simp [ev]) fun _ => ev_cmp (d := .list (tsD [])) (e := .list []) (by simp [ev]) (ev_lst evs_nil (by simp)) rfl), x_ifF (ev_and2 (x := false) (y := false) (ev_not (d := .bool true) (by simp [ev]) rfl) fun z => by cases z)]
      exact fin
  | false =>
    show _ = Fl.rt (mvD wide ts a.nm fun _ => a)
    cases hby : byT ts a.nm with
    | nil =>
      rw [hby] at hf
      have e : mvD wide ts a.nm (fun _ => a) = .str "no tile" := by
        unfold mvD
        rw [← hf]
        rfl
      rw [e, show (!false && ([] : List Tile).isEmpty) = true from rfl, if_pos rfl, x_ret (d := .str "no tile") (by simp [ev])]
      rfl
    | cons o r =>
      rw [hby] at fin hf
      have e : mvD wide ts a.nm (fun _ => a) = if o.fx = true then .str "fixed" else resW (fitX wide ts a) (.tuple (tsD (setT ts a))) := by
        unfold mvD
        rw [← hf]
        rfl
      rw [e, show (!false && (o :: r).isEmpty) = false from rfl, if_neg (by decide), x_nil, fl_nx, x_ifF (ev_and2 (x := false) (y := false) (by simp [ev]) fun z => by cases z), x_iff (ev_and2 (x := true) (y := o.fx) (ev_not (d := .bool false) (by simp [ev]) rfl) fun _ => ev_ix (ev_ix (d := .list (tsD (o :: r))) (e := .int 0) (by simp [ev]) (by simp [ev]) (ix_head o r)) (e := .int 5) (by simp [ev]) (ix_f o)) rfl]
      cases q : o.fx with
      | true =>
        rw [show (true && true) = true from rfl, if_pos rfl, x_ret (d := .str "fixed") (by simp [ev])]
        rfl
      | false =>
        rw [show (true && false) = false from rfl, if_neg (by decide), x_nil, fl_nx]
        exact fin
end Tl
set_option maxHeartbeats 4000000
namespace Tl
open PySem PySem.Spec L2
/-! ### the five ways -/
def wayD (way wide : Int) (ts : List Tile) (a : Tile) : D := if way = 0 then mvD wide ts a.nm (fun o => mvT o a.l a.t) else if way = 1 then mvD wide ts a.nm (fun o => szT o a.w a.h) else if way = 2 then pnD wide ts a else match ts.find? (hasN a.nm) with
  | some o => if way = 3 then .tuple (tsD (fixT ts o a.fx)) else .tuple (tsD (otT ts a.nm))
  | none => .str "no tile"
def dom_4 (p : Int × Int × List Tile × Tile) : List D := [.int p.1, .int p.2.1, .tuple (tsD p.2.2.1), tD p.2.2.2]
theorem dom_4_inj (p q : Int × Int × List Tile × Tile) (h : dom_4 p = dom_4 q) : p = q := by
  obtain ⟨a, b, c, d⟩ := p
  obtain ⟨a', b', c', d'⟩ := q
  simp only [dom_4, List.cons.injEq, PyData.int.injEq, PyData.tuple.injEq] at h
  rw [h.1, h.2.1, tsD_inj h.2.2.1, tD_inj h.2.2.2.1]
def g4 (p : Int × Int × List Tile × Tile) : Prop := (0 ≤ p.1 ∧ p.1 ≤ 4) ∧ gQ p.2.1 p.2.2.1 p.2.2.2.nm
open Classical in
noncomputable def wayF (p : Int × Int × List Tile × Tile) : Res D := if g4 p then .ok (wayD p.1 p.2.1 p.2.2.1 p.2.2.2) else .stuck
noncomputable def wayS : List D → Res D := spec dom_4 wayF
def toW (r : Res D) : Option D := match r with
  | .ok d => some d
  | .exc c => if c ∈ excs9 then some (.str (wordOf c)) else none
  | .stuck => none
theorem toW_exc {c : Str} (h : c ∈ excs9) : toW (.exc c) = some (.str (wordOf c)) := if_pos h
def resFl (r : Res D) (ρ : EnvS) : Fl := match r with
  | .ok d => .rt d
  | .exc c => .exc c ρ
  | .stuck => .stuck
theorem x_retR {Γ : Fns} {n : Nat} {c : C} {ρ : EnvS} {ss : Ss} {r : Res D} (h : ev Γ c (seeM (vsC c) ρ) = r) : exSs Γ n (.cons (.ret c) ss) ρ = resFl r ρ := by
  cases r with
  | ok d => exact x_ret h
  | exc x => exact x_retX h
  | stuck =>
    rw [exSs, exS, evE, h]
    rfl
theorem resFl_bind (r : Res D) (ρ : EnvS) (f : EnvS → Fl) : (resFl r ρ).bind f = resFl r ρ := by cases r <;> rfl
/-- return e, within the try -/
theorem tri_res {ρ : EnvS} {r : Res D} {d : D} {i : Nat} (hi : i < ρ.length) (hw : toW r = some d) : triS excs9 (.word i) (resFl r ρ) = .rt d := by
  cases r with
  | ok e =>
    cases hw
    rfl
  | exc x =>
    by_cases hm : x ∈ excs9
    · rw [toW_exc hm] at hw
      cases hw
      show (match (Hn.word i).run excs9 x ρ with | some (.inl ρ) => Fl.nx ρ | some (.inr d) => .rt d | none => .stuck) = _
      rw [show (Hn.word i).run excs9 x ρ = some (.inr (.str (wordOf x))) from if_pos ⟨hm, hm, hi⟩]
    · have e : toW (.exc x) = none := if_neg hm
      rw [e] at hw
      cases hw
  | stuck => cases hw
theorem toW_fit (wide : Int) (ts : List Tile) (a : Tile) (d : D) : toW (resX (fitX wide ts a) d) = some (resW (fitX wide ts a) d) := by
  unfold fitX
  split
  · split
    · exact toW_exc (by decide +kernel)
    · rfl
  · exact toW_exc (by decide +kernel)
theorem toW_loose (wide : Int) (ts : List Tile) (nm : Str) (ch : Tile → Tile) : toW (looseR ts nm fun a => resX (fitX wide ts (ch a)) (.tuple (tsD (setT ts (ch a))))) = some (mvD wide ts nm ch) := by
  unfold looseR mvD
  cases ts.find? (hasN nm) with
  | none => exact toW_exc (by decide +kernel)
  | some o =>
    show toW (if o.fx = true then _ else _) = some (if o.fx = true then _ else _)
    cases o.fx with
    | true => exact toW_exc (by decide +kernel)
    | false => exact toW_fit _ _ _ _
theorem run_said3 (Γ : Fns) (h0 : Γ "moved" = some (5, movedS)) (h1 : Γ "sized" = some (5, sizedS)) (h2 : Γ "put" = some (3, putS)) (h3 : Γ "fixed" = some (3, fixedS)) (h4 : Γ "taken" = some (2, takenS)) (p : Int × Int × List Tile × Tile) : ∃ fuel, Gives (wayF p) (exSs Γ fuel c__law_said_k03 (startS N__law_said_k03 (dom_4 p))) := by
  refine ⟨0, ?_⟩
  unfold wayF
  by_cases h : g4 p
  rotate_left
  · rw [if_neg h]; trivial
  rw [if_pos h]
  obtain ⟨way, wide, ts, a⟩ := p
  obtain ⟨hway, h, hn, hnm, hw⟩ := h
  have hway : 0 ≤ way ∧ way ≤ 4 := hway
  refine .inl ?_
  have e0 : startS N__law_said_k03 (dom_4 (way, wide, ts, a)) = [.val (.int way), .val (.int wide), .val (.tuple (tsD ts)), .val (tD a), .no] := by simp [N__law_said_k03, startS, dom_4]
  have gp : gP (ts, a.nm) := ⟨h.mono (by decide), hn.1⟩
  have gv : ∀ x y, gV (wide, ts, a.nm, x, y) := fun x y => ⟨h, hn, hw⟩
  rw [e0, c__law_said_k03, x_tri]
  show (triS excs9 (.word 4) _).bind _ = Fl.rt (wayD way wide ts a)
  have t0 : ∀ (k : Int) m, ev Γ (.cmp .eq (.var 0) (.int k)) (seeM m [.val (.int way), .val (.int wide), .val (.tuple (tsD ts)), .val (tD a), .no]) = .ok (.bool (decide (way = k))) := fun k m => by simp [ev]
  by_cases q0 : way = 0
  · have z := fun m => ev_call (a := .var 1) (es := .cons (.var 2) (.cons (.ix (.var 3) (.int 0)) (.cons (.ix (.var 3) (.int 1)) (.cons (.ix (.var 3) (.int 2)) .nil)))) (ρ := seeM m [.val (.int way), .val (.int wide), .val (.tuple (tsD ts)), .val (tD a), .no]) h0 dom_mv_inj (wide, ts, a.nm, a.l, a.t) (d := .int wide) (ds := [.tuple (tsD ts), .str a.nm, .int a.l, .int a.t]) (by simp [ev]) (by simp [ev, evs]) rfl rfl
    rw [movedF, if_pos (gv _ _)] at z
    have e : wayD way wide ts a = mvD wide ts a.nm (fun o => mvT o a.l a.t) := if_pos q0
    rw [e, x_ifT (by rw [t0, decide_eq_true q0]), x_retR (z _), resFl_bind, tri_res (by simp) (toW_loose wide ts a.nm fun o => mvT o a.l a.t)]
    rfl
  rw [x_ifF (by rw [t0, decide_eq_false q0])]
  by_cases q1 : way = 1
  · have z := fun m => ev_call (a := .var 1) (es := .cons (.var 2) (.cons (.ix (.var 3) (.int 0)) (.cons (.ix (.var 3) (.int 3)) (.cons (.ix (.var 3) (.int 4)) .nil)))) (ρ := seeM m [.val (.int way), .val (.int wide), .val (.tuple (tsD ts)), .val (tD a), .no]) h1 dom_mv_inj (wide, ts, a.nm, a.w, a.h) (d := .int wide) (ds := [.tuple (tsD ts), .str a.nm, .int a.w, .int a.h]) (by simp [ev]) (by simp [ev, evs]) rfl rfl
    rw [sizedF, if_pos (gv _ _)] at z
    have e : wayD way wide ts a = mvD wide ts a.nm (fun o => szT o a.w a.h) := (if_neg q0).trans (if_pos q1)
    rw [e, x_ifT (by rw [t0, decide_eq_true q1]), x_retR (z _), resFl_bind, tri_res (by simp) (toW_loose wide ts a.nm fun o => szT o a.w a.h)]
    rfl
  rw [x_ifF (by rw [t0, decide_eq_false q1])]
  by_cases q2 : way = 2
  · have z := fun m => ev_call (a := .var 1) (es := .cons (.var 2) (.cons (.var 3) .nil)) (ρ := seeM m [.val (.int way), .val (.int wide), .val (.tuple (tsD ts)), .val (tD a), .no]) h2 dom_mf_inj (wide, ts, a) (d := .int wide) (ds := [.tuple (tsD ts), tD a]) (by simp [ev]) (by simp [ev, evs]) rfl rfl
    rw [putF, if_pos (show gM (wide, ts, a) from ⟨h, hn, hw⟩)] at z
    have e : wayD way wide ts a = pnD wide ts a := (if_neg q0).trans ((if_neg q1).trans (if_pos q2))
    have w : toW (if (ts.find? (hasN a.nm)).isSome = true then .exc "BadTile" else resX (fitX wide ts a) (.tuple (tsD (setT ts a)))) = some (pnD wide ts a) := by
      unfold pnD
      split
      · exact toW_exc (by decide +kernel)
      · exact toW_fit _ _ _ _
    rw [e, x_ifT (by rw [t0, decide_eq_true q2]), x_retR (z _), resFl_bind, tri_res (by simp) w]
    rfl
  rw [x_ifF (by rw [t0, decide_eq_false q2])]
  have e : wayD way wide ts a = match ts.find? (hasN a.nm) with
    | some o => if way = 3 then .tuple (tsD (fixT ts o a.fx)) else .tuple (tsD (otT ts a.nm))
    | none => .str "no tile" := (if_neg q0).trans ((if_neg q1).trans (if_neg q2))
  rw [e]
  have z3 := fun m => ev_call (a := .var 2) (es := .cons (.ix (.var 3) (.int 0)) (.cons (.ix (.var 3) (.int 5)) .nil)) (ρ := seeM m [.val (.int way), .val (.int wide), .val (.tuple (tsD ts)), .val (tD a), .no]) h3 dom_fx_inj (ts, a.nm, a.fx) (d := .tuple (tsD ts)) (ds := [.str a.nm, .bool a.fx]) (by simp [ev]) (by simp [ev, evs]) rfl rfl
  have z4 := fun m => ev_call (a := .var 2) (es := .cons (.ix (.var 3) (.int 0)) .nil) (ρ := seeM m [.val (.int way), .val (.int wide), .val (.tuple (tsD ts)), .val (tD a), .no]) h4 dom_tn_inj (ts, a.nm) (d := .tuple (tsD ts)) (ds := [.str a.nm]) (by simp [ev]) (by simp [ev, evs]) rfl rfl
  rw [fixedF, if_pos gp] at z3
  rw [takenF, if_pos gp] at z4
  have iteR : ∀ {t x y : C} {ρ : Env0D} {k : Bool}, ev Γ t ρ = .ok (.bool k) → ev Γ (.ite t x y) ρ = if k = true then ev Γ x ρ else ev Γ y ρ := fun {t x y ρ k} hk => by
    rw [ev, rB, hk]
    rfl
  by_cases q3 : way = 3
  · rw [x_retR ((iteR (t0 3 _)).trans ((if_pos (decide_eq_true q3)).trans (z3 _))), tri_res (d := match ts.find? (hasN a.nm) with
      | some o => if way = 3 then .tuple (tsD (fixT ts o a.fx)) else .tuple (tsD (otT ts a.nm))
      | none => .str "no tile") (by simp) (by
      show toW (match ts.find? (hasN a.nm) with | some o => Res.ok (PyData.tuple (tsD (fixT ts o a.fx))) | none => Res.exc "NoTile") = _
      cases ts.find? (hasN a.nm) with
      | none => exact toW_exc (by decide +kernel)
      | some o =>
        show some (PyData.tuple (tsD (fixT ts o a.fx))) = some (if way = 3 then _ else _)
        rw [if_pos q3])]
    rfl
  · rw [x_retR ((iteR (t0 3 _)).trans ((if_neg (by rw [decide_eq_false q3]; decide)).trans (z4 _))), tri_res (d := match ts.find? (hasN a.nm) with
      | some o => if way = 3 then .tuple (tsD (fixT ts o a.fx)) else .tuple (tsD (otT ts a.nm))
      | none => .str "no tile") (by simp) (by
      show toW (match ts.find? (hasN a.nm) with | some _ => Res.ok (PyData.tuple (tsD (otT ts a.nm))) | none => Res.exc "NoTile") = _
      cases ts.find? (hasN a.nm) with
      | none => exact toW_exc (by decide +kernel)
      | some o =>
        show some (PyData.tuple (tsD (otT ts a.nm))) = some (if way = 3 then _ else _)
        rw [if_neg q3])]
    rfl
end Tl
set_option maxHeartbeats 0
namespace Tl
open PySem PySem.Spec L2 PyProof.Rows
def N__law_said_k07 : List Str := ["way", "wide", "layout", "width", "high", "e"]
def c__law_said_k07 : Ss := (.cons (.tri ["NoTile", "BadTile", "Fixed", "NoRoom", "NoName", "Same", "Closed", "NoDeed", "NoText"] (.cons (.iff (.cmp .eq (.var 0) (.int 0)) (.cons (.ret (.call "room" (.var 1) (.cons (.var 2) (.cons (.var 3) (.cons (.var 4) .nil))))) .nil) .nil) (.cons (.ret (.ite (.cmp .eq (.var 0) (.int 1)) (.call "rooms" (.var 1) (.cons (.var 2) (.cons (.var 3) (.cons (.var 4) .nil)))) (.call "added" (.var 1) (.cons (.var 2) (.cons (.var 3) (.cons (.var 4) .nil)))))) .nil)) (.word 5)) .nil)
def N_law_k07 : List Str := ["script", "k", "cell", "wide", "layout", "deep", "tile", "board", "j", "seed", "width", "high", "free", "row", "left", "due", "name", "letter", "new", "way", "every", "n"]
def c_law_k07 : Ss := (.cons (.for_ (.one 1) (.rng1 (.int 12)) (.cons (.set 2 (.op .add (.call "_law_cell" (.var 0) (.cons (.op .mod (.var 1) (.int 9)) .nil)) (.op .mul (.int 31) (.var 1)))) (.cons (.set 3 (.call "_law_wide" (.var 2) .nil)) (.cons (.set 4 (.call "_law_layout" (.var 2) (.cons (.var 3) (.cons (.int 8) .nil)))) (.cons (.set 5 (.pr .max (.op .add (.lst (.cons (.int 0) .nil)) (.lc (.op .add (.ix (.var 6) (.int 2)) (.ix (.var 6) (.int 4))) (.one 6) (.seq (.var 4)) .nil)) .nil)) (.cons (.new 7) (.cons (.for_ (.one 6) (.seq (.var 4)) (.cons (.ext 7 (.call "_law_spots" (.var 6) .nil)) .nil)) (.cons (.iff (.not (.call "_law_same" (.call "holes" (.var 3) (.cons (.var 4) .nil)) (.cons (.op .sub (.op .mul (.var 5) (.var 3)) (.pr .len (.var 7) .nil)) .nil))) (.cons (.ret (.bl false)) .nil) .nil) (.cons (.for_ (.one 8) (.rng1 (.int 3)) (.cons (.set 9 (.op .add (.op .add (.call "_law_cell" (.var 0) (.cons (.int 9) .nil)) (.op .mul (.int 17) (.var 8))) (.op .mul (.int 7) (.var 1)))) (.cons (.unp [10, 11] (.tup (.cons (.op .add (.int 1) (.call "_law_mix" (.var 9) (.cons (.int 9859) (.cons (.op .add (.pr .min (.var 3) (.cons (.int 4) .nil)) (.pr .int (.cmp .eq (.var 8) (.int 2)) .nil)) .nil)))) (.cons (.op .add (.int 1) (.call "_law_mix" (.var 9) (.cons (.int 9857) (.cons (.int 6) .nil)))) .nil)))) (.cons (.new 12) (.cons (.for_ (.one 13) (.rng1 (.op .add (.var 5) (.int 1))) (.cons (.for_ (.one 14) (.rng1 (.op .add (.op .sub (.var 3) (.var 10)) (.int 1))) (.cons (.iff (.not (.call "_law_meets" (.tup (.cons (.str "q") (.cons (.var 14) (.cons (.var 13) (.cons (.var 10) (.cons (.var 11) (.cons (.bl false) .nil))))))) (.cons (.var 4) .nil))) (.cons (.app 12 (.tup (.cons (.var 14) (.cons (.var 13) .nil)))) .nil) .nil) .nil)) .nil)) (.cons (.set 15 (.op .mul (.lst (.cons (.str "bad tile") .nil)) (.int 3))) (.cons (.iff (.cmp .le (.var 10) (.var 3)) (.cons (.set 16 (.ix (.lc (.var 17) (.one 17) (.seq (.str "abcdefghijklmnopqrstuvwxyz")) (.cons (.cmp .eq (.call "_law_by" (.var 4) (.cons (.var 17) .nil)) (.lst .nil)) .nil)) (.int 0))) (.cons (.set 18 (.op .add (.op .add (.tup (.cons (.var 16) .nil)) (.ix (.var 12) (.int 0))) (.tup (.cons (.var 10) (.cons (.var 11) (.cons (.bl false) .nil)))))) (.cons (.set 15 (.lst (.cons (.ix (.var 12) (.int 0)) (.cons (.pr .tuple (.var 12) .nil) (.cons (.pr .tuple (.srt (.op .add (.var 4) (.tup (.cons (.var 18) .nil)))) .nil) .nil))))) .nil))) .nil) (.cons (.iff (.not (.call "_law_same" (.pr .tuple (.lc (.call "_law_said" (.var 19) (.cons (.var 3) (.cons (.var 4) (.cons (.var 10) (.cons (.var 11) .nil))))) (.one 19) (.seq (.tup (.cons (.int 0) (.cons (.int 1) (.cons (.int 2) .nil))))) .nil) .nil) (.cons (.pr .tuple (.var 15) .nil) .nil))) (.cons (.ret (.bl false)) .nil) .nil) .nil)))))))) .nil))))))))) (.cons (.set 20 (.pr .tuple (.lc (.tup (.cons (.var 16) (.cons (.op .mod (.var 21) (.int 2)) (.cons (.op .fdiv (.var 21) (.int 2)) (.cons (.int 1) (.cons (.int 1) (.cons (.bl false) .nil))))))) (.many [21, 16]) (.enum (.str "abcdefghijklmnopqrstuvwxyz")) .nil) .nil)) (.cons (.iff (.cmp .ne (.lc (.call "_law_said" (.int 2) (.cons (.int 2) (.cons (.var 20) (.cons (.var 10) (.cons (.int 1) .nil))))) (.one 10) (.seq (.tup (.cons (.int 1) (.cons (.int 3) .nil)))) .nil) (.lst (.cons (.str "no name") (.cons (.str "bad tile") .nil)))) (.cons (.ret (.bl false)) .nil) .nil) (.cons (.ret (.and (.cons (.cmp .eq (.call "room" (.int 2) (.cons (.var 20) (.cons (.int 1) (.cons (.int 1) .nil)))) (.tup (.cons (.int 0) (.cons (.int 13) .nil)))) (.cons (.cmp .eq (.call "rooms" (.int 2) (.cons (.slL (.var 20) (.int 1)) (.cons (.int 1) (.cons (.int 1) .nil)))) (.tup (.cons (.tup (.cons (.int 0) (.cons (.int 0) .nil))) (.cons (.tup (.cons (.int 0) (.cons (.int 13) .nil))) (.cons (.tup (.cons (.int 1) (.cons (.int 13) .nil))) .nil))))) .nil)))) .nil))))
abbrev b1_k07 : Ss := (.cons (.set 2 (.op .add (.call "_law_cell" (.var 0) (.cons (.op .mod (.var 1) (.int 9)) .nil)) (.op .mul (.int 31) (.var 1)))) (.cons (.set 3 (.call "_law_wide" (.var 2) .nil)) (.cons (.set 4 (.call "_law_layout" (.var 2) (.cons (.var 3) (.cons (.int 8) .nil)))) (.cons (.set 5 (.pr .max (.op .add (.lst (.cons (.int 0) .nil)) (.lc (.op .add (.ix (.var 6) (.int 2)) (.ix (.var 6) (.int 4))) (.one 6) (.seq (.var 4)) .nil)) .nil)) (.cons (.new 7) (.cons (.for_ (.one 6) (.seq (.var 4)) (.cons (.ext 7 (.call "_law_spots" (.var 6) .nil)) .nil)) (.cons (.iff (.not (.call "_law_same" (.call "holes" (.var 3) (.cons (.var 4) .nil)) (.cons (.op .sub (.op .mul (.var 5) (.var 3)) (.pr .len (.var 7) .nil)) .nil))) (.cons (.ret (.bl false)) .nil) .nil) (.cons (.for_ (.one 8) (.rng1 (.int 3)) (.cons (.set 9 (.op .add (.op .add (.call "_law_cell" (.var 0) (.cons (.int 9) .nil)) (.op .mul (.int 17) (.var 8))) (.op .mul (.int 7) (.var 1)))) (.cons (.unp [10, 11] (.tup (.cons (.op .add (.int 1) (.call "_law_mix" (.var 9) (.cons (.int 9859) (.cons (.op .add (.pr .min (.var 3) (.cons (.int 4) .nil)) (.pr .int (.cmp .eq (.var 8) (.int 2)) .nil)) .nil)))) (.cons (.op .add (.int 1) (.call "_law_mix" (.var 9) (.cons (.int 9857) (.cons (.int 6) .nil)))) .nil)))) (.cons (.new 12) (.cons (.for_ (.one 13) (.rng1 (.op .add (.var 5) (.int 1))) (.cons (.for_ (.one 14) (.rng1 (.op .add (.op .sub (.var 3) (.var 10)) (.int 1))) (.cons (.iff (.not (.call "_law_meets" (.tup (.cons (.str "q") (.cons (.var 14) (.cons (.var 13) (.cons (.var 10) (.cons (.var 11) (.cons (.bl false) .nil))))))) (.cons (.var 4) .nil))) (.cons (.app 12 (.tup (.cons (.var 14) (.cons (.var 13) .nil)))) .nil) .nil) .nil)) .nil)) (.cons (.set 15 (.op .mul (.lst (.cons (.str "bad tile") .nil)) (.int 3))) (.cons (.iff (.cmp .le (.var 10) (.var 3)) (.cons (.set 16 (.ix (.lc (.var 17) (.one 17) (.seq (.str "abcdefghijklmnopqrstuvwxyz")) (.cons (.cmp .eq (.call "_law_by" (.var 4) (.cons (.var 17) .nil)) (.lst .nil)) .nil)) (.int 0))) (.cons (.set 18 (.op .add (.op .add (.tup (.cons (.var 16) .nil)) (.ix (.var 12) (.int 0))) (.tup (.cons (.var 10) (.cons (.var 11) (.cons (.bl false) .nil)))))) (.cons (.set 15 (.lst (.cons (.ix (.var 12) (.int 0)) (.cons (.pr .tuple (.var 12) .nil) (.cons (.pr .tuple (.srt (.op .add (.var 4) (.tup (.cons (.var 18) .nil)))) .nil) .nil))))) .nil))) .nil) (.cons (.iff (.not (.call "_law_same" (.pr .tuple (.lc (.call "_law_said" (.var 19) (.cons (.var 3) (.cons (.var 4) (.cons (.var 10) (.cons (.var 11) .nil))))) (.one 19) (.seq (.tup (.cons (.int 0) (.cons (.int 1) (.cons (.int 2) .nil))))) .nil) .nil) (.cons (.pr .tuple (.var 15) .nil) .nil))) (.cons (.ret (.bl false)) .nil) .nil) .nil)))))))) .nil))))))))
abbrev b2_k07 : Ss := (.cons (.ext 7 (.call "_law_spots" (.var 6) .nil)) .nil)
abbrev b3_k07 : Ss := (.cons (.set 9 (.op .add (.op .add (.call "_law_cell" (.var 0) (.cons (.int 9) .nil)) (.op .mul (.int 17) (.var 8))) (.op .mul (.int 7) (.var 1)))) (.cons (.unp [10, 11] (.tup (.cons (.op .add (.int 1) (.call "_law_mix" (.var 9) (.cons (.int 9859) (.cons (.op .add (.pr .min (.var 3) (.cons (.int 4) .nil)) (.pr .int (.cmp .eq (.var 8) (.int 2)) .nil)) .nil)))) (.cons (.op .add (.int 1) (.call "_law_mix" (.var 9) (.cons (.int 9857) (.cons (.int 6) .nil)))) .nil)))) (.cons (.new 12) (.cons (.for_ (.one 13) (.rng1 (.op .add (.var 5) (.int 1))) (.cons (.for_ (.one 14) (.rng1 (.op .add (.op .sub (.var 3) (.var 10)) (.int 1))) (.cons (.iff (.not (.call "_law_meets" (.tup (.cons (.str "q") (.cons (.var 14) (.cons (.var 13) (.cons (.var 10) (.cons (.var 11) (.cons (.bl false) .nil))))))) (.cons (.var 4) .nil))) (.cons (.app 12 (.tup (.cons (.var 14) (.cons (.var 13) .nil)))) .nil) .nil) .nil)) .nil)) (.cons (.set 15 (.op .mul (.lst (.cons (.str "bad tile") .nil)) (.int 3))) (.cons (.iff (.cmp .le (.var 10) (.var 3)) (.cons (.set 16 (.ix (.lc (.var 17) (.one 17) (.seq (.str "abcdefghijklmnopqrstuvwxyz")) (.cons (.cmp .eq (.call "_law_by" (.var 4) (.cons (.var 17) .nil)) (.lst .nil)) .nil)) (.int 0))) (.cons (.set 18 (.op .add (.op .add (.tup (.cons (.var 16) .nil)) (.ix (.var 12) (.int 0))) (.tup (.cons (.var 10) (.cons (.var 11) (.cons (.bl false) .nil)))))) (.cons (.set 15 (.lst (.cons (.ix (.var 12) (.int 0)) (.cons (.pr .tuple (.var 12) .nil) (.cons (.pr .tuple (.srt (.op .add (.var 4) (.tup (.cons (.var 18) .nil)))) .nil) .nil))))) .nil))) .nil) (.cons (.iff (.not (.call "_law_same" (.pr .tuple (.lc (.call "_law_said" (.var 19) (.cons (.var 3) (.cons (.var 4) (.cons (.var 10) (.cons (.var 11) .nil))))) (.one 19) (.seq (.tup (.cons (.int 0) (.cons (.int 1) (.cons (.int 2) .nil))))) .nil) .nil) (.cons (.pr .tuple (.var 15) .nil) .nil))) (.cons (.ret (.bl false)) .nil) .nil) .nil)))))))
abbrev b4_k07 : Ss := (.cons (.for_ (.one 14) (.rng1 (.op .add (.op .sub (.var 3) (.var 10)) (.int 1))) (.cons (.iff (.not (.call "_law_meets" (.tup (.cons (.str "q") (.cons (.var 14) (.cons (.var 13) (.cons (.var 10) (.cons (.var 11) (.cons (.bl false) .nil))))))) (.cons (.var 4) .nil))) (.cons (.app 12 (.tup (.cons (.var 14) (.cons (.var 13) .nil)))) .nil) .nil) .nil)) .nil)
abbrev b5_k07 : Ss := (.cons (.iff (.not (.call "_law_meets" (.tup (.cons (.str "q") (.cons (.var 14) (.cons (.var 13) (.cons (.var 10) (.cons (.var 11) (.cons (.bl false) .nil))))))) (.cons (.var 4) .nil))) (.cons (.app 12 (.tup (.cons (.var 14) (.cons (.var 13) .nil)))) .nil) .nil) .nil)
end Tl
set_option maxHeartbeats 4000000
namespace Tl
open PySem PySem.Spec L2
/-! ### _law_said -/
theorem x_ext {Γ : Fns} {n i : Nat} {c : C} {ρ : EnvS} {ss : Ss} {ds es : List D} (hi : ρ[i]? = some (.own ds)) (h : ev Γ c (seeM (vsC c) ρ) = .ok (.list es)) (hf : (freezeM (vsC c) ρ)[i]? = some (.own ds)) (hl : ds.length + es.length ≤ 1000) : exSs Γ n (.cons (.ext i c) ss) ρ = exSs Γ n ss ((freezeM (vsC c) ρ).set i (.own (ds ++ es))) := by
  rw [exSs, exS]
  simp only [hi]
  rw [evE, h]
  show (extS i (.list es) (keepM (vsC c) (.list es) ρ)).bind _ = _
  have e : keepM (vsC c) (.list es) ρ = freezeM (vsC c) ρ := if_neg (by simp [pure_])
  rw [e]
  unfold extS
  simp only [hf]
  rw [if_pos (sz_small hl)]
  rfl
def s7R (way : Int) (p : Int × List Tile × Int × Int) : Res D → Res D → Res D → Res D := fun a b c => if way = 0 then a else if way = 1 then b else c
def dom_s7 (p : Int × Int × List Tile × Int × Int) : List D := .int p.1 :: dom_rm p.2
theorem dom_s7_inj (p q : Int × Int × List Tile × Int × Int) (h : dom_s7 p = dom_s7 q) : p = q := by
  obtain ⟨a, p⟩ := p
  obtain ⟨b, q⟩ := q
  obtain ⟨h1, h2⟩ := List.cons.inj h
  cases h1
  rw [dom_rm_inj p q h2]
noncomputable def said7R (p : Int × Int × List Tile × Int × Int) : Res D := if p.1 = 0 then roomF p.2 else if p.1 = 1 then roomsF p.2 else addedF p.2
def orStuck (o : Option D) : Res D := match o with
  | some d => .ok d
  | none => .stuck
noncomputable def said7F (p : Int × Int × List Tile × Int × Int) : Res D := orStuck (toW (said7R p))
noncomputable def said7S : List D → Res D := spec dom_s7 said7F
theorem run_said7 (Γ : Fns) (h0 : Γ "room" = some (4, roomS)) (h1 : Γ "rooms" = some (4, roomsS)) (h2 : Γ "added" = some (4, addedS)) (p : Int × Int × List Tile × Int × Int) : ∃ fuel, Gives (said7F p) (exSs Γ fuel c__law_said_k07 (startS N__law_said_k07 (dom_s7 p))) := by
  refine ⟨0, ?_⟩
  unfold said7F
  cases hd : toW (said7R p) with
  | none => trivial
  | some d =>
    refine .inl ?_
    obtain ⟨way, wide, ts, w, h⟩ := p
    have e0 : startS N__law_said_k07 (dom_s7 (way, wide, ts, w, h)) = [.val (.int way), .val (.int wide), .val (.tuple (tsD ts)), .val (.int w), .val (.int h), .no] := by simp [N__law_said_k07, startS, dom_s7, dom_rm]
    rw [e0, c__law_said_k07, x_tri]
    show (triS excs9 (.word 5) _).bind _ = Fl.rt d
    have t0 : ∀ (k : Int) m, ev Γ (.cmp .eq (.var 0) (.int k)) (seeM m [.val (.int way), .val (.int wide), .val (.tuple (tsD ts)), .val (.int w), .val (.int h), .no]) = .ok (.bool (decide (way = k))) := fun k m => by simp [ev]
    have z : ∀ (f : Str) (F : Int × List Tile × Int × Int → Res D), Γ f = some (4, spec dom_rm F) → ∀ m, ev Γ (.call f (.var 1) (.cons (.var 2) (.cons (.var 3) (.cons (.var 4) .nil)))) (seeM m [.val (.int way), .val (.int wide), .val (.tuple (tsD ts)), .val (.int w), .val (.int h), .no]) = F (wide, ts, w, h) := fun f F hf m => ev_call hf dom_rm_inj (wide, ts, w, h) (d := .int wide) (ds := [.tuple (tsD ts), .int w, .int h]) (by simp [ev]) (by simp [ev, evs]) rfl rfl
    have iteR : ∀ {t x y : C} {ρ : Env0D} {k : Bool}, ev Γ t ρ = .ok (.bool k) → ev Γ (.ite t x y) ρ = if k = true then ev Γ x ρ else ev Γ y ρ := fun {t x y ρ k} hk => by
      rw [ev, rB, hk]
      rfl
    by_cases q0 : way = 0
    · have e : said7R (way, wide, ts, w, h) = roomF (wide, ts, w, h) := if_pos q0
      rw [e] at hd
      rw [x_ifT (by rw [t0, decide_eq_true q0]), x_retR (z _ _ h0 _), resFl_bind, tri_res (by simp) hd]
      rfl
    rw [x_ifF (by rw [t0, decide_eq_false q0])]
    by_cases q1 : way = 1
    · have e : said7R (way, wide, ts, w, h) = roomsF (wide, ts, w, h) := (if_neg q0).trans (if_pos q1)
      rw [e] at hd
      rw [x_retR ((iteR (t0 1 _)).trans ((if_pos (decide_eq_true q1)).trans (z _ _ h1 _))), tri_res (by simp) hd]
      rfl
    · have e : said7R (way, wide, ts, w, h) = addedF (wide, ts, w, h) := (if_neg q0).trans (if_neg q1)
      rw [e] at hd
      rw [x_retR ((iteR (t0 1 _)).trans ((if_neg (by rw [decide_eq_false q1]; decide)).trans (z _ _ h2 _))), tri_res (by simp) hd]
      rfl
theorem ev_said7 {Γ : Fns} {ρ : Env0D} {x y z u v : C} {way wide w h : Int} {ts : List Tile} {d : D} (hs : Γ "_law_said" = some (5, said7S)) (h1 : ev Γ x ρ = .ok (.int way)) (h2 : ev Γ y ρ = .ok (.int wide)) (h3 : ev Γ z ρ = .ok (.tuple (tsD ts))) (h4 : ev Γ u ρ = .ok (.int w)) (h5 : ev Γ v ρ = .ok (.int h)) (hd : toW (said7R (way, wide, ts, w, h)) = some d) : ev Γ (.call "_law_said" x (.cons y (.cons z (.cons u (.cons v .nil))))) ρ = .ok d := by
  have e := ev_call hs dom_s7_inj (way, wide, ts, w, h) h1 (evs_cons h2 (evs_cons h3 (evs_cons h4 (evs_cons h5 evs_nil)))) rfl rfl
  rw [e, said7F, hd]
  rfl
end Tl
set_option maxHeartbeats 4000000
namespace Tl
open PySem PySem.Spec L2
theorem ev_lput {Γ : Fns} {ρ : Env0D} {a b c d : C} {wide : Int} {ts : List Tile} {x : Tile} {new : Bool} (h : Γ "_law_put" = some (4, law_putS)) (h1 : ev Γ a ρ = .ok (.int wide)) (h2 : ev Γ b ρ = .ok (.tuple (tsD ts))) (h3 : ev Γ c ρ = .ok (tD x)) (h4 : ev Γ d ρ = .ok (.bool new)) (g : gQ wide ts x.nm) : ev Γ (.call "_law_put" a (.cons b (.cons c (.cons d .nil)))) ρ = .ok (ptD wide ts x new) := by
  have z := ev_call h dom_lp_inj (wide, ts, x, new) h1 (evs_cons h2 (evs_cons h3 (evs_cons h4 evs_nil))) rfl rfl
  rw [law_putF, if_pos g] at z
  exact z
theorem mvD_at {wide : Int} {ts : List Tile} {nm : Str} {o : Tile} (ch : Tile → Tile) (hf : ts.find? (hasN nm) = some o) : mvD wide ts nm ch = if o.fx = true then .str "fixed" else resW (fitX wide ts (ch o)) (.tuple (tsD (setT ts (ch o)))) := by
  unfold mvD
  rw [hf]
theorem run_due3 (Γ : Fns) (hb : Γ "_law_by" = some (2, law_byS)) (hp : Γ "_law_put" = some (4, law_putS)) (p : Int × Int × List Tile × Tile) : ∃ fuel, Gives (wayF p) (exSs Γ fuel c__law_due_k03 (startS N__law_due_k03 (dom_4 p))) := by
  refine ⟨0, ?_⟩
  unfold wayF
  by_cases h : g4 p
  rotate_left
  · rw [if_neg h]; trivial
  rw [if_pos h]
  obtain ⟨way, wide, ts, a⟩ := p
  obtain ⟨hway, gq⟩ := h
  have hway : 0 ≤ way ∧ way ≤ 4 := hway
  have gq : gQ wide ts a.nm := gq
  obtain ⟨h, hn, hnm, hw⟩ := gq
  have gq : gQ wide ts a.nm := ⟨h, hn, hnm, hw⟩
  refine .inl ?_
  have e0 : startS N__law_due_k03 (dom_4 (way, wide, ts, a)) = [.val (.int way), .val (.int wide), .val (.tuple (tsD ts)), .val (tD a), .no, .no, .no, .no] := by simp [N__law_due_k03, startS, dom_4]
  have hk : ∀ b ∈ byT ts a.nm, nOk b.nm := fun b hb => (h.ok b (List.mem_filter.mp hb).1).2
  have go : gL 400 (otT ts a.nm) := h.filter _
  show _ = Fl.rt (wayD way wide ts a)
  rw [e0, c__law_due_k03, x_setF (ev_by (ts := ts) (nm := a.nm) hb (by simp [ev]) (by simp [ev]) ⟨h.mono (by decide), hn.1⟩) rfl]
  have f0 : freezeM (vsC (.call "_law_by" (.var 2) (.cons (.ix (.var 3) (.int 0)) .nil))) [.val (.int way), .val (.int wide), .val (.tuple (tsD ts)), .val (tD a), .no, .no, .no, .no] = [.val (.int way), .val (.int wide), .val (.tuple (tsD ts)), .val (tD a), .no, .no, .no, .no] := by simp [vsC, vsCs]
  rw [f0]
  show exSs Γ 0 _ [.val (.int way), .val (.int wide), .val (.tuple (tsD ts)), .val (tD a), .val (.list (tsD (byT ts a.nm))), .no, .no, .no] = _
  rw [x_set (d := .tuple (tsD (otT ts a.nm))) (ev_pr1 (d := .list (tsD (otT ts a.nm))) (ev_fil (e := tD) (l := ts) (q := fun b => decide (b.nm ≠ a.nm)) (by simp [evI, ev, tsD]) (fun b hb => ev_cmp (d := .str b.nm) (e := .str a.nm) (by simp [ev]) (by simp [ev]) (cm_neS (h.ok b hb).2 hn.1)) (by simp) (h.le (by decide))) rfl) (pure_tts _)]
  show exSs Γ 0 _ [.val (.int way), .val (.int wide), .val (.tuple (tsD ts)), .val (tD a), .val (.list (tsD (byT ts a.nm))), .val (.tuple (tsD (otT ts a.nm))), .no, .no] = _
  have t0 : ∀ (k : Int) m s, ev Γ (.cmp .eq (.var 0) (.int k)) (seeM m [.val (.int way), .val (.int wide), .val (.tuple (tsD ts)), .val (tD a), .val (.list (tsD (byT ts a.nm))), .val (.tuple (tsD (otT ts a.nm))), s, .no]) = .ok (.bool (decide (way = k))) := fun k m s => by simp [ev]
  have hf := by_find ts a.nm
  by_cases q2 : way = 2
  · have e : wayD way wide ts a = pnD wide ts a := (if_neg (by omega)).trans ((if_neg (by omega)).trans (if_pos q2))
    rw [e, x_ifT (by rw [t0, decide_eq_true q2]), x_ret (ev_lput (wide := wide) (ts := ts) (x := a) (new := true) hp (by simp [ev]) (by simp [ev]) (by simp [ev]) (by simp [ev]) gq)]
    rfl
  rw [x_ifF (by rw [t0, decide_eq_false q2]), x_iff (ev_cmp (d := .list (tsD (byT ts a.nm))) (e := .list []) (by simp [ev]) (ev_lst evs_nil (by simp)) (eq_nil hk)) rfl]
  cases hby : byT ts a.nm with
  | nil =>
    rw [hby] at hf
    have hf : ts.find? (hasN a.nm) = none := hf.symm
    have e : wayD way wide ts a = .str "no tile" := by
      unfold wayD mvD
      rw [hf, if_neg q2]
      split
      · rfl
      · split <;> rfl
    rw [e]
    show ((if true = true then _ else _ : Fl)).bind _ = _
    rw [if_pos rfl, x_ret (d := .str "no tile") (by simp [ev])]
    rfl
  | cons o r =>
    rw [hby] at hf t0
    have hf : ts.find? (hasN a.nm) = some o := hf.symm
    obtain ⟨o1, o2⟩ := find_nm hf
    show ((if false = true then _ else _ : Fl)).bind _ = _
    rw [if_neg (by decide), x_nil, fl_nx]
    by_cases q3 : way = 3
    · have e : wayD way wide ts a = .tuple (tsD (fixT ts o a.fx)) := by
        unfold wayD
        rw [hf, if_neg (by omega), if_neg (by omega), if_neg q2]
        exact if_pos q3
      rw [e, x_ifT (by rw [t0, decide_eq_true q3]), x_ret (d := .tuple (tsD (fixT ts o a.fx)))]
      · rfl
      · refine ev_pr1 (ev_srt (d := sqD false (tsD (otT ts a.nm ++ [fxT o a.fx]))) (ev_op (d := .tuple (tsD (otT ts a.nm))) (by simp [ev]) (e := .tuple [tD (fxT o a.fx)]) (ev_tup (evs_cons (ev_op (d := .tuple [.str o.nm, .int o.l, .int o.t, .int o.w, .int o.h]) (e := .tuple [.bool a.fx]) (by simp [ev, ix_head]) (by simp [ev, evs]) rfl) evs_nil) (by simp)) (op_tupS (by have := go.len; omega))) (srtV_sq ((go.snoc (show gN (fxT o a.fx) from h.ok o o2)).le (by decide)))) ?_
        rw [pr_tup, fixT, o1]
    rw [x_ifF (by rw [t0, decide_eq_false q3])]
    by_cases q4 : way = 4
    · have e : wayD way wide ts a = .tuple (tsD (otT ts a.nm)) := by
        unfold wayD
        rw [hf, if_neg (by omega), if_neg (by omega), if_neg q2]
        exact if_neg q3
      rw [e, x_ifT (by rw [t0, decide_eq_true q4]), x_ret (d := .tuple (tsD (otT ts a.nm))) (by simp [ev])]
      rfl
    rw [x_ifF (by rw [t0, decide_eq_false q4])]
    by_cases q0 : way = 0
    · have e : wayD way wide ts a = ptD wide ts (mvT o a.l a.t) false := by
        have e1 : wayD way wide ts a = mvD wide ts a.nm (fun o => mvT o a.l a.t) := if_pos q0
        have e2 : ptD wide ts (mvT o a.l a.t) false = mvD wide ts o.nm (fun _ => mvT o a.l a.t) := rfl
        rw [e1, e2, o1, mvD_at _ hf, mvD_at _ hf]
      have gq' : gQ wide ts (mvT o a.l a.t).nm := by
        show gQ wide ts o.nm
        rw [o1]
        exact gq
      rw [e, x_set (d := tD (mvT o a.l a.t)) (ev_ite (t0 0 _ _) rfl (by rw [decide_eq_true q0]; simp [ev, ix_head]; rfl)) rfl]
      show exSs Γ 0 _ [.val (.int way), .val (.int wide), .val (.tuple (tsD ts)), .val (tD a), .val (.list (tsD (o :: r))), .val (.tuple (tsD (otT ts a.nm))), .no, .val (tD (mvT o a.l a.t))] = _
      exact x_ret (ev_lput (wide := wide) (ts := ts) (x := mvT o a.l a.t) (new := false) hp (by simp [ev]) (by simp [ev]) (by simp [ev]) (by simp [ev]) gq')
    · have q1 : way = 1 := by omega
      have e : wayD way wide ts a = ptD wide ts { o with w := a.w, h := a.h } false := by
        have e1 : wayD way wide ts a = mvD wide ts a.nm (fun o => szT o a.w a.h) := (if_neg q0).trans (if_pos q1)
        have e2 : ptD wide ts { o with w := a.w, h := a.h } false = mvD wide ts o.nm (fun _ => { o with w := a.w, h := a.h }) := rfl
        rw [e1, e2, o1, mvD_at _ hf, mvD_at _ hf]
        by_cases q : o.fx = true
        · rw [if_pos q, if_pos q]
        · rw [if_neg q, if_neg q]
          have e3 : szT o a.w a.h = { o with w := a.w, h := a.h } := by
            unfold szT
            rw [show o.fx = false by simpa using q]
          rw [e3, o1]
      have gq' : gQ wide ts ({ o with w := a.w, h := a.h } : Tile).nm := by
        show gQ wide ts o.nm
        rw [o1]
        exact gq
      rw [e, x_set (d := tD { o with w := a.w, h := a.h }) (ev_ite (t0 0 _ _) rfl (by rw [decide_eq_false q0]; simp [ev, ix_head]; rfl)) rfl]
      show exSs Γ 0 _ [.val (.int way), .val (.int wide), .val (.tuple (tsD ts)), .val (tD a), .val (.list (tsD (o :: r))), .val (.tuple (tsD (otT ts a.nm))), .no, .val (tD { o with w := a.w, h := a.h })] = _
      exact x_ret (ev_lput (wide := wide) (ts := ts) (x := { o with w := a.w, h := a.h }) (new := false) hp (by simp [ev]) (by simp [ev]) (by simp [ev]) (by simp [ev]) gq')
end Tl
set_option maxHeartbeats 4000000
namespace Tl
open PySem PySem.Spec L2
structure G3 (Γ : Fns) : Prop where
  cell : Γ "_law_cell" = some (2, law_cellS)
  wide : Γ "_law_wide" = some (1, law_wideS)
  layout : Γ "_law_layout" = some (3, law_layoutS)
  mix : Γ "_law_mix" = some (3, law_mixS)
  tile : Γ "_law_tile" = some (3, law_tileS)
  same : Γ "_law_same" = some (2, law_sameS 2)
  said : Γ "_law_said" = some (4, wayS)
  due : Γ "_law_due" = some (4, wayS)
  good : Γ "_law_is_good" = some (2, law_is_goodS)
  meets : Γ "_law_meets" = some (2, law_meetsS)
  lset : Γ "_law_settled" = some (2, settledS)
  set : Γ "settled" = some (2, settledS)
  moved : Γ "moved" = some (5, movedS)
/-! ### the names -/
def nmsK : List Str := ["a", "b", "c", "d", "e", "z", "y", "x", "h", "m"]
theorem nmsK_ok : ∀ x ∈ nmsK, nOk x := by decide +kernel
theorem nmsK_len : ∀ x ∈ nmsK, x.length ≤ 1000 := by decide +kernel
theorem nmsK_nm : ∀ x ∈ nmsK, isNm x = true := by decide +kernel
theorem ix_nmsK {m : Int} (h0 : 0 ≤ m) (h : m < 10) : ∃ x, ixV (.str "abcdezyxhm") (.int m) = some (.str x) ∧ x ∈ nmsK := by
  have : m = 0 ∨ m = 1 ∨ m = 2 ∨ m = 3 ∨ m = 4 ∨ m = 5 ∨ m = 6 ∨ m = 7 ∨ m = 8 ∨ m = 9 := by omega
  rcases this with rfl | rfl | rfl | rfl | rfl | rfl | rfl | rfl | rfl | rfl
  · exact ⟨"a", by kernel_rfl, by decide +kernel⟩
  · exact ⟨"b", by kernel_rfl, by decide +kernel⟩
  · exact ⟨"c", by kernel_rfl, by decide +kernel⟩
  · exact ⟨"d", by kernel_rfl, by decide +kernel⟩
  · exact ⟨"e", by kernel_rfl, by decide +kernel⟩
  · exact ⟨"z", by kernel_rfl, by decide +kernel⟩
  · exact ⟨"y", by kernel_rfl, by decide +kernel⟩
  · exact ⟨"x", by kernel_rfl, by decide +kernel⟩
  · exact ⟨"h", by kernel_rfl, by decide +kernel⟩
  · exact ⟨"m", by kernel_rfl, by decide +kernel⟩
theorem ix_4 (a b c d : Int) {m : Int} (h0 : 0 ≤ m) (h : m < 4) : ∃ v : Int, ixV (.tuple [.int a, .int b, .int c, .int d]) (.int m) = some (.int v) := by
  have : m = 0 ∨ m = 1 ∨ m = 2 ∨ m = 3 := by omega
  rcases this with rfl | rfl | rfl | rfl
  · exact ⟨a, rfl⟩
  · exact ⟨b, rfl⟩
  · exact ⟨c, rfl⟩
  · exact ⟨d, rfl⟩
/-! ### goodness of what is said -/
theorem word_good (c : Str) (h : c = "BadTile" ∨ c = "NoRoom") : goodN 2 (.str (wordOf c)) = true := by
  rcases h with rfl | rfl <;> exact good_str (by decide +kernel)
theorem resW_good {wide : Int} {ts : List Tile} {a : Tile} (h : gL 400 ts) (hn : nOk a.nm) (hw : wide ≤ 12) : goodN 2 (resW (fitX wide ts a) (.tuple (tsD (setT ts a)))) = true := by
  cases q : fitX wide ts a with
  | none => exact good_tiles (setT_gL h (fit_gN hw hn q)) (by decide)
  | some c =>
    refine word_good c ?_
    unfold fitX at q
    split at q
    · split at q
      · cases q
        exact .inr rfl
      · cases q
    · cases q
      exact .inl rfl
theorem mvD_good {wide : Int} {ts : List Tile} {nm : Str} {ch : Tile → Tile} (h : gL 400 ts) (hw : wide ≤ 12) (hc : ∀ o, (ch o).nm = o.nm) : goodN 2 (mvD wide ts nm ch) = true := by
  cases q : ts.find? (hasN nm) with
  | none =>
    unfold mvD
    rw [q]
    exact good_str (by decide +kernel)
  | some o =>
    rw [mvD_at ch q]
    split
    · exact good_str (by decide +kernel)
    · exact resW_good h (by rw [hc]; exact (h.ok o (find_nm q).2).2) hw
theorem wayD_good {way wide : Int} {ts : List Tile} {a : Tile} (g : gQ wide ts a.nm) : goodN 2 (wayD way wide ts a) = true := by
  unfold wayD
  split
  · exact mvD_good g.g g.w fun _ => rfl
  split
  · exact mvD_good g.g g.w fun _ => rfl
  split
  · unfold pnD
    split
    · exact good_str (by decide +kernel)
    · exact resW_good g.g g.n.1 g.w
  cases q : ts.find? (hasN a.nm) with
  | none => exact good_str (by decide +kernel)
  | some o =>
    show goodN 2 (if way = 3 then _ else _) = true
    have go : gL 400 (otT ts a.nm) := g.g.filter _
    split
    · refine good_tiles (n := 401) ?_ (by decide)
      rw [fixT, (find_nm q).1]
      exact (go.snoc (show gN (fxT o a.fx) from g.g.ok o (find_nm q).2)).srt
    · exact good_tiles go (by decide)
theorem ev_way {Γ : Fns} {ρ : Env0D} {f : Str} {x y z u : C} {way wide : Int} {ts : List Tile} {a : Tile} (h : Γ f = some (4, wayS)) (h1 : ev Γ x ρ = .ok (.int way)) (h2 : ev Γ y ρ = .ok (.int wide)) (h3 : ev Γ z ρ = .ok (.tuple (tsD ts))) (h4 : ev Γ u ρ = .ok (tD a)) (hw : 0 ≤ way ∧ way ≤ 4) (g : gQ wide ts a.nm) : ev Γ (.call f x (.cons y (.cons z (.cons u .nil)))) ρ = .ok (wayD way wide ts a) := by
  have z := ev_call h dom_4_inj (way, wide, ts, a) h1 (evs_cons h2 (evs_cons h3 (evs_cons h4 evs_nil))) rfl rfl
  rw [wayF, if_pos (show g4 (way, wide, ts, a) from ⟨hw, g⟩)] at z
  exact z
abbrev E3 (s0 s1 s2 : Sl) (wide : Int) (ts : List Tile) (s5 s6 s7 : Sl) (a : Tile) (g9 g10 g11 g12 g13 g14 : Sl) : EnvS := [s0, s1, s2, .val (.int wide), .val (.tuple (tsD ts)), s5, s6, s7, .val (tD a), g9, g10, g11, g12, g13, g14]
def ways : List Int := [0, 1, 2, 3, 4]
section
variable {Γ : Fns} {fuel : Nat} {wide : Int} {ts : List Tile} {a : Tile}
theorem way_turn (H : G3 Γ) (g : gQ wide ts a.nm) {way : Int} (hw : 0 ≤ way ∧ way ≤ 4) (s0 s1 s2 s5 s6 s7 g10 g11 g12 g13 g14 : Sl) :
    exSs Γ fuel b3_k03 (E3 s0 s1 s2 wide ts s5 s6 s7 a (.val (.int way)) g10 g11 g12 g13 g14) = .nx (E3 s0 s1 s2 wide ts s5 s6 s7 a (.val (.int way)) g10 g11 g12 g13 g14) := by
  rw [b3_k03, x_same H.same (d := wayD way wide ts a) (ev_way H.said (by simp [ev]) (by simp [ev]) (by simp [ev]) (by simp [ev]) hw g) (ev_way H.due (by simp [ev]) (by simp [ev]) (by simp [ev]) (by simp [ev]) hw g) (wayD_good g), x_nil]
theorem way_loop (H : G3 Γ) (g : gQ wide ts a.nm) {l : List Int} (hl : ∀ w ∈ l, 0 ≤ w ∧ w ≤ 4) (s0 s1 s2 s5 s6 s7 g9 g10 g11 g12 g13 g14 : Sl) : ∃ h9,
    forD (forB Γ fuel (.one 9) b3_k03) (l.map .int) (E3 s0 s1 s2 wide ts s5 s6 s7 a g9 g10 g11 g12 g13 g14) = .nx (E3 s0 s1 s2 wide ts s5 s6 s7 a h9 g10 g11 g12 g13 g14) := by
  obtain ⟨x9, e⟩ := forD_fold (b := forB Γ fuel (.one 9) b3_k03) (e := PyData.int) (f := fun (_ : Unit) _ => ()) (mk := fun _ (x : Sl) => E3 s0 s1 s2 wide ts s5 s6 s7 a x g10 g11 g12 g13 g14) (I := fun _ r => ∀ w ∈ r, 0 ≤ w ∧ w ≤ 4) (l := l) (fun w r _ x hi _ =>
    ⟨fun y hy => hi y (List.mem_cons_of_mem _ hy), _, way_turn (fuel := fuel) H g (hi w List.mem_cons_self) s0 s1 s2 s5 s6 s7 g10 g11 g12 g13 g14⟩) () g9 hl
  exact ⟨x9, e⟩
abbrev t2_k03 : Ss := (.cons (.set 10 (.lc (.var 11) (.one 11) (.seq (.var 4)) (.cons (.and (.cons (.ix (.var 11) (.int 5)) (.cons (.cmp .ne (.ix (.var 11) (.int 0)) (.ix (.var 8) (.int 0))) .nil))) .nil))) (.cons (.set 12 (.and (.cons (.call "_law_is_good" (.var 3) (.cons (.var 8) .nil)) (.cons (.not (.call "_law_meets" (.var 8) (.cons (.var 10) .nil))) .nil)))) (.cons (.set 13 (.ite (.var 12) (.call "_law_settled" (.var 4) (.cons (.var 8) .nil)) .non)) (.cons (.iff (.and (.cons (.var 12) (.cons (.not (.call "_law_same" (.call "settled" (.var 4) (.cons (.var 8) .nil)) (.cons (.var 13) .nil))) .nil))) (.cons (.ret (.bl false)) .nil) .nil) .nil))))
theorem tail_turn (H : G3 Γ) (g : gQ wide ts a.nm) (s0 s1 s2 s5 s6 s7 g9 g10 g11 g12 g13 g14 : Sl) : ∃ h0 h1 h2 h5 h6 h7 h9 h10 h11 h12 h13 h14, (h0 = s0 ∧ h1 = s1) ∧
    exSs Γ fuel t2_k03 (E3 s0 s1 s2 wide ts s5 s6 s7 a g9 g10 g11 g12 g13 g14) = .nx (E3 h0 h1 h2 wide ts h5 h6 h7 a h9 h10 h11 h12 h13 h14) := by
  obtain ⟨h, hn, hnm, hw⟩ := g
  have go : gL 400 (otT ts a.nm) := h.filter _
  rw [t2_k03, x_setF (ev_bars (ts := ts) (nm := a.nm) h hn.1 (by simp) (by simp [ev]) (fun b => by simp [ev]) (fun b => by simp [ev])) rfl]
  obtain ⟨k11, f0⟩ : ∃ k11, freezeM (vsC (.lc (.var 11) (.one 11) (.seq (.var 4)) (.cons (.and (.cons (.ix (.var 11) (.int 5)) (.cons (.cmp .ne (.ix (.var 11) (.int 0)) (.ix (.var 8) (.int 0))) .nil))) .nil))) (E3 s0 s1 s2 wide ts s5 s6 s7 a g9 g10 g11 g12 g13 g14) = E3 s0 s1 s2 wide ts s5 s6 s7 a g9 g10 k11 g12 g13 g14 := by
    refine ⟨fzn (vsC (.lc (.var 11) (.one 11) (.seq (.var 4)) (.cons (.and (.cons (.ix (.var 11) (.int 5)) (.cons (.cmp .ne (.ix (.var 11) (.int 0)) (.ix (.var 8) (.int 0))) .nil))) .nil))) 11 g11, ?_⟩
    simp [vsC, vsCs, vsI]
  rw [f0]
  show ∃ h0 h1 h2 h5 h6 h7 h9 h10 h11 h12 h13 h14, (h0 = s0 ∧ h1 = s1) ∧ exSs Γ fuel _ (E3 s0 s1 s2 wide ts s5 s6 s7 a g9 (.val (.list (tsD ((otT ts a.nm).filter Tile.fx)))) k11 g12 g13 g14) = _
  have eT := isGd_eq (wide := wide) (a := a) hnm
  have eg : ∀ ρ, ev Γ (.var 3) ρ = .ok (.int wide) → ev Γ (.var 8) ρ = .ok (tD a) → ev Γ (.call "_law_is_good" (.var 3) (.cons (.var 8) .nil)) ρ = .ok (.bool (isGd wide a)) := fun ρ h3 h8 => ev_call H.good dom_it_inj (wide, a) h3 (evs_cons h8 evs_nil) rfl rfl
  cases q : isGd wide a with
  | false =>
    rw [x_set (d := .bool false) (ev_and2 (x := false) (y := false) ((eg _ (by simp [ev]) (by simp [ev])).trans (by rw [q])) fun z => by cases z) rfl]
    show ∃ h0 h1 h2 h5 h6 h7 h9 h10 h11 h12 h13 h14, (h0 = s0 ∧ h1 = s1) ∧ exSs Γ fuel _ (E3 s0 s1 s2 wide ts s5 s6 s7 a g9 (.val (.list (tsD ((otT ts a.nm).filter Tile.fx)))) k11 (.val (.bool false)) g13 g14) = _
    rw [x_set (d := .none) (ev_ite (d := .bool false) (by simp [ev]) rfl (by simp [ev])) rfl]
    show ∃ h0 h1 h2 h5 h6 h7 h9 h10 h11 h12 h13 h14, (h0 = s0 ∧ h1 = s1) ∧ exSs Γ fuel _ (E3 s0 s1 s2 wide ts s5 s6 s7 a g9 (.val (.list (tsD ((otT ts a.nm).filter Tile.fx)))) k11 (.val (.bool false)) (.val .none) g14) = _
    rw [x_ifF (ev_and2 (x := false) (y := false) (by simp [ev]) fun z => by cases z), x_nil]
    exact ⟨_, _, _, _, _, _, _, _, _, _, _, _, ⟨rfl, rfl⟩, rfl⟩
  | true =>
    have ga : gN a := isT_gN hw hn.1 (by rw [eT]; exact q)
    obtain ⟨k, ek⟩ : ∃ k, k = anyM a ((otT ts a.nm).filter Tile.fx) := ⟨_, rfl⟩
    rw [x_set (d := .bool (!k)) (ev_and2 (x := true) (y := !k) ((eg _ (by simp [ev]) (by simp [ev])).trans (by rw [q])) fun _ => ev_not (ev_lmeets (x := a) (ts := (otT ts a.nm).filter Tile.fx) (k := true) H.meets (by simp [ev]) (by simp [ev]; rfl) ga.1 ((go.filter _).gTs (by decide))) (by rw [ek]; rfl)) rfl]
    show ∃ h0 h1 h2 h5 h6 h7 h9 h10 h11 h12 h13 h14, (h0 = s0 ∧ h1 = s1) ∧ exSs Γ fuel _ (E3 s0 s1 s2 wide ts s5 s6 s7 a g9 (.val (.list (tsD ((otT ts a.nm).filter Tile.fx)))) k11 (.val (.bool (!k))) g13 g14) = _
    cases k with
    | true =>
      rw [x_set (d := .none) (ev_ite (d := .bool false) (by simp [ev]) rfl (by simp [ev])) rfl]
      show ∃ h0 h1 h2 h5 h6 h7 h9 h10 h11 h12 h13 h14, (h0 = s0 ∧ h1 = s1) ∧ exSs Γ fuel _ (E3 s0 s1 s2 wide ts s5 s6 s7 a g9 (.val (.list (tsD ((otT ts a.nm).filter Tile.fx)))) k11 (.val (.bool false)) (.val .none) g14) = _
      rw [x_ifF (ev_and2 (x := false) (y := false) (by simp [ev]) fun z => by cases z), x_nil]
      exact ⟨_, _, _, _, _, _, _, _, _, _, _, _, ⟨rfl, rfl⟩, rfl⟩
    | false =>
      rw [x_set (d := .tuple (tsD (setT ts a))) (ev_ite (d := .bool true) (by simp [ev]) rfl (by
        rw [if_pos rfl]
        exact ev_settled H.lset (by simp [ev]) (by simp [ev]) h ga)) (pure_tts _)]
      show ∃ h0 h1 h2 h5 h6 h7 h9 h10 h11 h12 h13 h14, (h0 = s0 ∧ h1 = s1) ∧ exSs Γ fuel _ (E3 s0 s1 s2 wide ts s5 s6 s7 a g9 (.val (.list (tsD ((otT ts a.nm).filter Tile.fx)))) k11 (.val (.bool true)) (.val (.tuple (tsD (setT ts a)))) g14) = _
      rw [x_ifF (ev_and2 (x := true) (y := false) (by simp [ev]) fun _ => ev_not (ev_same H.same (ev_settled (ts := ts) (x := a) H.set (by simp [ev]) (by simp [ev]) h ga) (by simp [ev]) (good_tiles (setT_gL h ga) (by decide))) rfl), x_nil]
      exact ⟨_, _, _, _, _, _, _, _, _, _, _, _, ⟨rfl, rfl⟩, rfl⟩
end
end Tl
set_option maxHeartbeats 4000000
namespace Tl
open PySem PySem.Spec L2
abbrev o0_k03 : S := .iff (.cmp .eq (.var 7) (.int 0)) (.cons (.set 8 (.op .add (.op .add (.slU (.var 8) (.int 1)) (.tup (.cons (.op .add (.op .sub (.var 3) (.ix (.var 8) (.int 3))) (.int 1)) .nil))) (.slL (.var 8) (.int 2)))) .nil) .nil
abbrev o1_k03 : S := .iff (.cmp .eq (.var 7) (.int 1)) (.cons (.set 8 (.op .add (.op .add (.slU (.var 8) (.int 2)) (.tup (.cons (.ix (.tup (.cons (.neg 1) (.cons (.int 100) (.cons (.int 99) (.cons (.int 0) .nil))))) (.call "_law_mix" (.var 6) (.cons (.int 9883) (.cons (.int 4) .nil)))) .nil))) (.slL (.var 8) (.int 3)))) .nil) .nil
abbrev o2_k03 : S := .iff (.cmp .eq (.var 7) (.int 2)) (.cons (.set 8 (.op .add (.op .add (.slU (.var 8) (.int 4)) (.tup (.cons (.ix (.tup (.cons (.int 0) (.cons (.int 7) (.cons (.int 6) (.cons (.int 1) .nil))))) (.call "_law_mix" (.var 6) (.cons (.int 9871) (.cons (.int 4) .nil)))) .nil))) (.slL (.var 8) (.int 5)))) .nil) .nil
section
variable {Γ : Fns} {ρ : Env0D} {a : Tile} {x e : C} {v : Int}
theorem ev_cut1 (hx : ev Γ x ρ = .ok (tD a)) (he : ev Γ e ρ = .ok (.int v)) : ev Γ (.op .add (.op .add (.slU x (.int 1)) (.tup (.cons e .nil))) (.slL x (.int 2))) ρ = .ok (tD { a with l := v }) := by
  have t := ev_tup (evs_cons he evs_nil) (by simp)
  have u : ev Γ (.slU x (.int 1)) ρ = .ok (.tuple [.str a.nm]) := by simp [ev, hx]; try rfl
  have w : ev Γ (.slL x (.int 2)) ρ = .ok (.tuple [.int a.t, .int a.w, .int a.h, .bool a.fx]) := by simp [ev, hx]; try rfl
  exact ev_op (ev_op u t rfl) w rfl
theorem ev_cut2 (hx : ev Γ x ρ = .ok (tD a)) (he : ev Γ e ρ = .ok (.int v)) : ev Γ (.op .add (.op .add (.slU x (.int 2)) (.tup (.cons e .nil))) (.slL x (.int 3))) ρ = .ok (tD { a with t := v }) := by
  have t := ev_tup (evs_cons he evs_nil) (by simp)
  have u : ev Γ (.slU x (.int 2)) ρ = .ok (.tuple [.str a.nm, .int a.l]) := by simp [ev, hx]; try rfl
  have w : ev Γ (.slL x (.int 3)) ρ = .ok (.tuple [.int a.w, .int a.h, .bool a.fx]) := by simp [ev, hx]; try rfl
  exact ev_op (ev_op u t rfl) w rfl
theorem ev_cut4 (hx : ev Γ x ρ = .ok (tD a)) (he : ev Γ e ρ = .ok (.int v)) : ev Γ (.op .add (.op .add (.slU x (.int 4)) (.tup (.cons e .nil))) (.slL x (.int 5))) ρ = .ok (tD { a with h := v }) := by
  have t := ev_tup (evs_cons he evs_nil) (by simp)
  have u : ev Γ (.slU x (.int 4)) ρ = .ok (.tuple [.str a.nm, .int a.l, .int a.t, .int a.w]) := by simp [ev, hx]; try rfl
  have w : ev Γ (.slL x (.int 5)) ρ = .ok (.tuple [.bool a.fx]) := by simp [ev, hx]; try rfl
  exact ev_op (ev_op u t rfl) w rfl
end
section
variable {Γ : Fns} {fuel : Nat} {wide : Int} {ts : List Tile} {a : Tile}
theorem odd_turn (H : G3 Γ) (seed odd : Int) (ss : Ss) (s0 s1 s2 s5 g9 g10 g11 g12 g13 g14 : Sl) : ∃ a' : Tile, a'.nm = a.nm ∧
    exSs Γ fuel (.cons o0_k03 (.cons o1_k03 (.cons o2_k03 ss))) (E3 s0 s1 s2 wide ts s5 (.val (.int seed)) (.val (.int odd)) a g9 g10 g11 g12 g13 g14) = exSs Γ fuel ss (E3 s0 s1 s2 wide ts s5 (.val (.int seed)) (.val (.int odd)) a' g9 g10 g11 g12 g13 g14) := by
  have t0 : ∀ (k : Int) m (a : Tile), ev Γ (.cmp .eq (.var 7) (.int k)) (seeM m (E3 s0 s1 s2 wide ts s5 (.val (.int seed)) (.val (.int odd)) a g9 g10 g11 g12 g13 g14)) = .ok (.bool (decide (odd = k))) := fun k m a => by simp [ev]
  have m1 := mix_rg (c := seed) (p := 9883) (m := 4) (by omega)
  have m2 := mix_rg (c := seed) (p := 9871) (m := 4) (by omega)
  by_cases q0 : odd = 0
  · rw [x_ifT (by rw [t0, decide_eq_true q0]), x_set (d := tD { a with l := wide - a.w + 1 }) (ev_cut1 (by simp [ev]) (by simp [ev])) rfl]
    show ∃ a' : Tile, a'.nm = a.nm ∧ (exSs Γ fuel .nil (E3 s0 s1 s2 wide ts s5 (.val (.int seed)) (.val (.int odd)) { a with l := wide - a.w + 1 } g9 g10 g11 g12 g13 g14)).bind _ = _
    rw [x_nil, fl_nx, x_ifF (by rw [t0, decide_eq_false (by omega)]), x_ifF (by rw [t0, decide_eq_false (by omega)])]
    exact ⟨{ a with l := wide - a.w + 1 }, rfl, rfl⟩
  rw [x_ifF (by rw [t0, decide_eq_false q0])]
  by_cases q1 : odd = 1
  · obtain ⟨v, hv⟩ := ix_4 (-1) 100 99 0 m1.1 m1.2
    rw [x_ifT (by rw [t0, decide_eq_true q1]), x_set (d := tD { a with t := v }) (ev_cut2 (by simp [ev]) (ev_ix (ev_tup (ds := [.int (-1), .int 100, .int 99, .int 0]) (by simp [ev, evs]) (by simp)) (ev_mix H.mix (x := seed) (p := 9883) (m := 4) (by simp [ev]) (by simp [ev]) (by simp [ev]) (by omega)) hv)) rfl]
    show ∃ a' : Tile, a'.nm = a.nm ∧ (exSs Γ fuel .nil (E3 s0 s1 s2 wide ts s5 (.val (.int seed)) (.val (.int odd)) { a with t := v } g9 g10 g11 g12 g13 g14)).bind _ = _
    rw [x_nil, fl_nx, x_ifF (by rw [t0, decide_eq_false (by omega)])]
    exact ⟨{ a with t := v }, rfl, rfl⟩
  rw [x_ifF (by rw [t0, decide_eq_false q1])]
  by_cases q2 : odd = 2
  · obtain ⟨v, hv⟩ := ix_4 0 7 6 1 m2.1 m2.2
    rw [x_ifT (by rw [t0, decide_eq_true q2]), x_set (d := tD { a with h := v }) (ev_cut4 (by simp [ev]) (ev_ix (ev_tup (ds := [.int 0, .int 7, .int 6, .int 1]) (by simp [ev, evs]) (by simp)) (ev_mix H.mix (x := seed) (p := 9871) (m := 4) (by simp [ev]) (by simp [ev]) (by simp [ev]) (by omega)) hv)) rfl]
    show ∃ a' : Tile, a'.nm = a.nm ∧ (exSs Γ fuel .nil (E3 s0 s1 s2 wide ts s5 (.val (.int seed)) (.val (.int odd)) { a with h := v } g9 g10 g11 g12 g13 g14)).bind _ = _
    rw [x_nil, fl_nx]
    exact ⟨{ a with h := v }, rfl, rfl⟩
  rw [x_ifF (by rw [t0, decide_eq_false q2])]
  exact ⟨a, rfl, rfl⟩
abbrev F3 (ns : List Int) (k : Int) (wide : Int) (ts : List Tile) (s2 s5 s6 s7 s8 g9 g10 g11 g12 g13 g14 : Sl) : EnvS := [.val (scrD ns), .val (.int k), s2, .val (.int wide), .val (.tuple (tsD ts)), s5, s6, s7, s8, g9, g10, g11, g12, g13, g14]
theorem ev_ltile {ρ : Env0D} {x y z : C} {c : Int} {nm : Str} (h : Γ "_law_tile" = some (3, law_tileS)) (h1 : ev Γ x ρ = .ok (.int c)) (h2 : ev Γ y ρ = .ok (.int wide)) (h3 : ev Γ z ρ = .ok (.str nm)) (g : 1 ≤ wide) : ev Γ (.call "_law_tile" x (.cons y (.cons z .nil))) ρ = .ok (tD (mkT c wide nm)) := by
  have z := ev_call h dom_lt_inj (c, wide, nm) h1 (evs_cons h2 (evs_cons h3 evs_nil)) rfl rfl
  rw [if_pos (show 1 ≤ wide from g)] at z
  exact z
theorem ev_mulc {ρ : Env0D} {x : C} {i f : Int} (hf : -1000 < f ∧ f < 1000) (h : ev Γ x ρ = .ok (.int i)) : ev Γ (.op .mul (.int f) x) ρ = .ok (.int (f * i)) := ev_op (d := .int f) (by simp [ev]) h (gd_of (decide_eq_true (.inl (by omega))) _)
theorem j_turn (H : G3 Γ) {ns : List Int} {k j : Int} (hw : 1 ≤ wide ∧ wide ≤ 12) (h : gL 400 ts) (s2 s6 s7 s8 g9 g10 g11 g12 g13 g14 : Sl) : ∃ h2 h5 h6 h7 h8 h9 h10 h11 h12 h13 h14,
    exSs Γ fuel b2_k03 (F3 ns k wide ts s2 (.val (.int j)) s6 s7 s8 g9 g10 g11 g12 g13 g14) = .nx (F3 ns k wide ts h2 h5 h6 h7 h8 h9 h10 h11 h12 h13 h14) := by
  rw [b2_k03, x_set (d := .int (cellOf ns 9 + 17 * j + 7 * k)) (ev_op (ev_op (ev_cell (ns := ns) (k := 9) H.cell (by simp [ev]) (by simp [ev]) (by decide)) (ev_mulc (i := j) (by decide) (by simp [ev])) rfl) (ev_mulc (i := k) (by decide) (by simp [ev])) rfl) rfl]
  generalize cellOf ns 9 + 17 * j + 7 * k = seed
  show ∃ h2 h5 h6 h7 h8 h9 h10 h11 h12 h13 h14, exSs Γ fuel _ (F3 ns k wide ts s2 (.val (.int j)) (.val (.int seed)) s7 s8 g9 g10 g11 g12 g13 g14) = _
  rw [x_set (ev_mix H.mix (x := seed) (p := 9901) (m := 9) (by simp [ev]) (by simp [ev]) (by simp [ev]) (by omega)) rfl]
  generalize mix seed 9901 9 = odd
  show ∃ h2 h5 h6 h7 h8 h9 h10 h11 h12 h13 h14, exSs Γ fuel _ (F3 ns k wide ts s2 (.val (.int j)) (.val (.int seed)) (.val (.int odd)) s8 g9 g10 g11 g12 g13 g14) = _
  have m1 := mix_rg (c := seed) (p := 9887) (m := 10) (by omega)
  obtain ⟨nm, hix, hnm⟩ := ix_nmsK m1.1 m1.2
  rw [x_set (d := tD (mkT seed wide nm)) (ev_ltile (c := seed) (nm := nm) H.tile (by simp [ev]) (by simp [ev]) (ev_ix (d := .str "abcdezyxhm") (by simp [ev]) (ev_mix H.mix (x := seed) (p := 9887) (m := 10) (by simp [ev]) (by simp [ev]) (by simp [ev]) (by omega)) hix) hw.1) rfl]
  show ∃ h2 h5 h6 h7 h8 h9 h10 h11 h12 h13 h14, exSs Γ fuel (.cons o0_k03 (.cons o1_k03 (.cons o2_k03 (.cons (.for_ (.one 9) (.rng1 (.int 5)) b3_k03) t2_k03)))) (E3 (.val (scrD ns)) (.val (.int k)) s2 wide ts (.val (.int j)) (.val (.int seed)) (.val (.int odd)) (mkT seed wide nm) g9 g10 g11 g12 g13 g14) = _
  obtain ⟨a, ha, e⟩ := odd_turn (fuel := fuel) (wide := wide) (ts := ts) (a := mkT seed wide nm) H seed odd (.cons (.for_ (.one 9) (.rng1 (.int 5)) b3_k03) t2_k03) (.val (scrD ns)) (.val (.int k)) s2 (.val (.int j)) g9 g10 g11 g12 g13 g14
  have ha : a.nm = nm := ha
  have g : gQ wide ts a.nm := by
    rw [ha]
    exact ⟨h, ⟨nmsK_ok nm hnm, nmsK_len nm hnm⟩, nmsK_nm nm hnm, hw.2⟩
  rw [e, x_for (ds := ways.map .int) (by simp [evI, ev]; rfl)]
  have f1 : freezeM (vsI (.rng1 (.int 5))) (E3 (.val (scrD ns)) (.val (.int k)) s2 wide ts (.val (.int j)) (.val (.int seed)) (.val (.int odd)) a g9 g10 g11 g12 g13 g14) = E3 (.val (scrD ns)) (.val (.int k)) s2 wide ts (.val (.int j)) (.val (.int seed)) (.val (.int odd)) a g9 g10 g11 g12 g13 g14 := by simp [vsI, vsC]
  rw [f1]
  obtain ⟨x9, e⟩ := way_loop (fuel := fuel) H g (l := ways) (by decide) (.val (scrD ns)) (.val (.int k)) s2 (.val (.int j)) (.val (.int seed)) (.val (.int odd)) g9 g10 g11 g12 g13 g14
  rw [e, fl_nx]
  obtain ⟨h0, h1, h2, h5, h6, h7, h9, h10, h11, h12, h13, h14, ⟨rfl, rfl⟩, e⟩ := tail_turn (fuel := fuel) H g (.val (scrD ns)) (.val (.int k)) s2 (.val (.int j)) (.val (.int seed)) (.val (.int odd)) x9 g10 g11 g12 g13 g14
  rw [e]
  exact ⟨_, _, _, _, _, _, _, _, _, _, _, rfl⟩
theorem j_loop (H : G3 Γ) {ns : List Int} {k : Int} (hw : 1 ≤ wide ∧ wide ≤ 12) (h : gL 400 ts) (l : List Int) (s2 s5 s6 s7 s8 g9 g10 g11 g12 g13 g14 : Sl) : ∃ h2 h5 h6 h7 h8 h9 h10 h11 h12 h13 h14,
    forD (forB Γ fuel (.one 5) b2_k03) (l.map .int) (F3 ns k wide ts s2 s5 s6 s7 s8 g9 g10 g11 g12 g13 g14) = .nx (F3 ns k wide ts h2 h5 h6 h7 h8 h9 h10 h11 h12 h13 h14) := by
  obtain ⟨ρ', e, c2, c5, c6, c7, c8, c9, c10, c11, c12, c13, c14, rfl⟩ := forD_inv (b := forB Γ fuel (.one 5) b2_k03) (I := fun ρ => ∃ c2 c5 c6 c7 c8 c9 c10 c11 c12 c13 c14, ρ = F3 ns k wide ts c2 c5 c6 c7 c8 c9 c10 c11 c12 c13 c14) (ds := l.map .int) (fun d hd ρ hI => by
    obtain ⟨c2, c5, c6, c7, c8, c9, c10, c11, c12, c13, c14, rfl⟩ := hI
    obtain ⟨j, _, rfl⟩ := List.mem_map.mp hd
    obtain ⟨d2, d5, d6, d7, d8, d9, d10, d11, d12, d13, d14, e⟩ := j_turn (fuel := fuel) H (ns := ns) (k := k) (j := j) hw h c2 c6 c7 c8 c9 c10 c11 c12 c13 c14
    exact ⟨_, e, _, _, _, _, _, _, _, _, _, _, _, rfl⟩) _ ⟨s2, s5, s6, s7, s8, g9, g10, g11, g12, g13, g14, rfl⟩
  exact ⟨_, _, _, _, _, _, _, _, _, _, _, e⟩
def tens : List Int := [0, 1, 2, 3, 4, 5, 6, 7, 8, 9]
theorem turn3 (H : G3 Γ) {ns : List Int} {k : Nat} (g2 g3 g4 g5 g6 g7 g8 g9 g10 g11 g12 g13 g14 : Sl) : ∃ h2 h3 h4 h5 h6 h7 h8 h9 h10 h11 h12 h13 h14,
    exSs Γ fuel b1_k03 [.val (scrD ns), .val (.int (k : Int)), g2, g3, g4, g5, g6, g7, g8, g9, g10, g11, g12, g13, g14] = .nx [.val (scrD ns), .val (.int (k : Int)), h2, h3, h4, h5, h6, h7, h8, h9, h10, h11, h12, h13, h14] := by
  rw [b1_k03, x_set (ev_cell31 (ns := ns) (k := (k : Int)) H.cell (by simp [ev]) (by simp [ev]) (by decide) 31 (by decide)) rfl]
  generalize cellOf ns ((k : Int) % 9) + 31 * (k : Int) = c
  show ∃ h2 h3 h4 h5 h6 h7 h8 h9 h10 h11 h12 h13 h14, exSs Γ fuel _ [.val (scrD ns), .val (.int (k : Int)), .val (.int c), g3, g4, g5, g6, g7, g8, g9, g10, g11, g12, g13, g14] = _
  rw [x_set (ev_wide (k := c) H.wide (by simp [ev])) rfl]
  have hw := widA_rg c
  generalize widA c = wide at hw
  show ∃ h2 h3 h4 h5 h6 h7 h8 h9 h10 h11 h12 h13 h14, exSs Γ fuel _ [.val (scrD ns), .val (.int (k : Int)), .val (.int c), .val (.int wide), g4, g5, g6, g7, g8, g9, g10, g11, g12, g13, g14] = _
  rw [x_set (ev_layout (k := c) (wide := wide) (n := 8) H.layout (by simp [ev]) (by simp [ev]) (by simp [ev]) hw.1 (by decide) (by decide)) (pure_tts _)]
  have ho : OneOk (layT c wide 8) := Lay.one hw.1 (by decide) (by decide)
  generalize layT c wide 8 = ts at ho
  show ∃ h2 h3 h4 h5 h6 h7 h8 h9 h10 h11 h12 h13 h14, exSs Γ fuel _ (F3 ns k wide ts (.val (.int c)) g5 g6 g7 g8 g9 g10 g11 g12 g13 g14) = _
  rw [x_for (ds := tens.map .int) (by simp [evI, ev]; rfl)]
  have f1 : freezeM (vsI (.rng1 (.int 10))) (F3 ns k wide ts (.val (.int c)) g5 g6 g7 g8 g9 g10 g11 g12 g13 g14) = F3 ns k wide ts (.val (.int c)) g5 g6 g7 g8 g9 g10 g11 g12 g13 g14 := by simp [vsI, vsC]
  rw [f1]
  obtain ⟨x2, x5, x6, x7, x8, x9, x10, x11, x12, x13, x14, e⟩ := j_loop (fuel := fuel) H (ns := ns) (k := (k : Int)) hw (ho.g.mono (by decide)) tens (.val (.int c)) g5 g6 g7 g8 g9 g10 g11 g12 g13 g14
  show ∃ h2 h3 h4 h5 h6 h7 h8 h9 h10 h11 h12 h13 h14, (forD (forB Γ fuel (.one 5) b2_k03) _ _).bind _ = _
  rw [e, fl_nx, x_nil]
  exact ⟨_, _, _, _, _, _, _, _, _, _, _, _, _, rfl⟩
end
/-! ### the law -/
def row3 : List Tile := [⟨"a", 0, 0, 2, 1, false⟩, ⟨"b", 0, 1, 1, 1, true⟩, ⟨"c", 1, 1, 1, 2, false⟩]
def due3 : List Tile := [⟨"a", 0, 2, 2, 1, false⟩, ⟨"b", 0, 1, 1, 1, true⟩, ⟨"c", 1, 0, 1, 2, false⟩]
theorem row3_mv : (looseR row3 "c" fun a => resX (fitX 2 row3 (mvT a 1 0)) (.tuple (tsD (setT row3 (mvT a 1 0))))) = .ok (.tuple (tsD due3)) := by kernel_rfl
theorem row3_g : gL 400 row3 := ⟨by decide, by
  have h : ∀ a ∈ row3, (1 ≤ a.w ∧ a.w ≤ 20 ∧ 1 ≤ a.h ∧ a.h ≤ 20) ∧ PyData.canLay0 (.str a.nm) = true := by decide +kernel
  exact h⟩
theorem due3_eq : cmpD .eq (.tuple (tsD due3)) (.tuple (tsD due3)) = some (.bool true) := by kernel_rfl
noncomputable def lawS : List D → Res D := spec (fun ns : List Int => [scrD ns]) fun _ => .ok (.bool true)
theorem run_law3 (Γ : Fns) (H : G3 Γ) (ns : List Int) : ∃ fuel, Gives (.ok (.bool true)) (exSs Γ fuel c_law_k03 (startS N_law_k03 [scrD ns])) := by
  refine ⟨0, .inl ?_⟩
  have e0 : startS N_law_k03 [scrD ns] = [.val (scrD ns), .no, .no, .no, .no, .no, .no, .no, .no, .no, .no, .no, .no, .no, .no] := by simp [N_law_k03, startS]
  rw [e0, c_law_k03, x_for (ds := (List.range 12).map fun (i : Nat) => .int (0 + (i : Int))) (by simp [evI, ev]; rfl)]
  have e2 : freezeM (vsI (.rng1 (.int 12))) [.val (scrD ns), .no, .no, .no, .no, .no, .no, .no, .no, .no, .no, .no, .no, .no, .no] = [.val (scrD ns), .no, .no, .no, .no, .no, .no, .no, .no, .no, .no, .no, .no, .no, .no] := by simp [vsI, vsC]
  rw [e2]
  obtain ⟨ρ', e3, c1, c2, c3, c4, c5, c6, c7, c8, c9, c10, c11, c12, c13, c14, rfl⟩ := forD_inv (b := forB Γ 0 (.one 1) b1_k03) (I := fun ρ => ∃ c1 c2 c3 c4 c5 c6 c7 c8 c9 c10 c11 c12 c13 c14, ρ = [.val (scrD ns), c1, c2, c3, c4, c5, c6, c7, c8, c9, c10, c11, c12, c13, c14]) (ds := (List.range 12).map fun (i : Nat) => .int (0 + (i : Int))) (fun d hd ρ hI => by
    obtain ⟨c1, c2, c3, c4, c5, c6, c7, c8, c9, c10, c11, c12, c13, c14, rfl⟩ := hI
    obtain ⟨k, _, rfl⟩ := List.mem_map.mp hd
    obtain ⟨d2, d3, d4, d5, d6, d7, d8, d9, d10, d11, d12, d13, d14, e⟩ := turn3 (Γ := Γ) (fuel := 0) H (ns := ns) (k := k) c2 c3 c4 c5 c6 c7 c8 c9 c10 c11 c12 c13 c14
    rw [Int.zero_add]
    exact ⟨_, e, _, _, _, _, _, _, _, _, _, _, _, _, _, _, rfl⟩) _ ⟨.no, .no, .no, .no, .no, .no, .no, .no, .no, .no, .no, .no, .no, .no, rfl⟩
  show (forD (forB Γ 0 (.one 1) b1_k03) _ _).bind _ = _
  rw [e3, fl_nx, x_set (d := .tuple (tsD row3)) (by simp [ev, evs]; rfl) rfl]
  show exSs Γ 0 _ [.val (scrD ns), c1, c2, c3, c4, c5, c6, c7, c8, c9, c10, c11, c12, c13, .val (.tuple (tsD row3))] = _
  have z := fun m => ev_call (a := .int 2) (es := .cons (.var 14) (.cons (.str "c") (.cons (.int 1) (.cons (.int 0) .nil)))) (ρ := seeM m [.val (scrD ns), c1, c2, c3, c4, c5, c6, c7, c8, c9, c10, c11, c12, c13, .val (.tuple (tsD row3))]) H.moved dom_mv_inj (2, row3, "c", 1, 0) (d := .int 2) (ds := [.tuple (tsD row3), .str "c", .int 1, .int 0]) (by simp [ev]) (by simp [ev, evs]) rfl rfl
  rw [movedF, if_pos (show gV (2, row3, "c", 1, 0) from ⟨row3_g, ⟨nmsK_ok "c" (by decide +kernel), nmsK_len "c" (by decide +kernel)⟩, by decide⟩)] at z
  refine x_ret (ev_cmp ((z _).trans row3_mv) (e := .tuple (tsD due3)) (by simp [ev, evs]; rfl) due3_eq)
end Tl
set_option maxHeartbeats 0
namespace Tl
open PySem PySem.Spec L2 PyProof.Rows
def N_law_k08 : List Str := ["script", "k", "cell", "wide", "layout", "j", "seed", "width", "high", "some", "first", "fresh", "one", "tile", "row", "left", "new", "name", "more"]
def c_law_k08 : Ss := (.cons (.for_ (.one 1) (.rng1 (.int 12)) (.cons (.set 2 (.op .add (.call "_law_cell" (.var 0) (.cons (.op .mod (.var 1) (.int 9)) .nil)) (.op .mul (.int 31) (.var 1)))) (.cons (.set 3 (.call "_law_wide" (.var 2) .nil)) (.cons (.set 4 (.call "_law_layout" (.var 2) (.cons (.var 3) (.cons (.int 6) .nil)))) (.cons (.for_ (.one 5) (.rng1 (.int 5)) (.cons (.set 6 (.op .add (.op .add (.call "_law_cell" (.var 0) (.cons (.int 9) .nil)) (.op .mul (.int 17) (.var 5))) (.op .mul (.int 7) (.var 1)))) (.cons (.par [7, 8] (.cons (.op .add (.int 1) (.call "_law_mix" (.var 6) (.cons (.int 9851) (.cons (.pr .min (.var 3) (.cons (.int 4) .nil)) .nil)))) (.cons (.op .add (.int 1) (.call "_law_mix" (.var 6) (.cons (.int 9839) (.cons (.int 4) .nil)))) .nil))) (.cons (.par [9, 10] (.cons (.call "rooms" (.var 3) (.cons (.var 4) (.cons (.var 7) (.cons (.var 8) .nil)))) (.cons (.call "room" (.var 3) (.cons (.var 4) (.cons (.var 7) (.cons (.var 8) .nil)))) .nil))) (.cons (.iff (.or (.cons (.cmp .ne (.ix (.var 9) (.int 0)) (.var 10)) (.cons (.cmp .notin (.tup (.cons (.int 0) (.cons (.call "height" (.var 4) .nil) .nil))) (.var 9)) .nil))) (.cons (.ret (.bl false)) .nil) .nil) (.cons (.iff (.cmp .ne (.pr .list (.var 9) .nil) (.srtk "place" (.tup (.cons (.ix (.var 0) (.int 1)) (.cons (.ix (.var 0) (.int 0)) .nil))) (.var 9))) (.cons (.ret (.bl false)) .nil) .nil) (.cons (.set 11 (.ix (.lc (.var 12) (.one 12) (.seq (.str "mnopqrstuvwxyz")) (.cons (.cmp .notin (.var 12) (.lc (.ix (.var 13) (.int 0)) (.one 13) (.seq (.var 4)) .nil)) .nil)) (.int 0))) (.cons (.for_ (.one 14) (.rng1 (.op .add (.call "height" (.var 4) .nil) (.int 1))) (.cons (.for_ (.one 15) (.rng1 (.op .add (.op .sub (.var 3) (.var 7)) (.int 1))) (.cons (.iff (.cmp .ne (.call "is_free" (.var 4) (.cons (.tup (.cons (.var 11) (.cons (.var 15) (.cons (.var 14) (.cons (.var 7) (.cons (.var 8) (.cons (.bl false) .nil))))))) .nil)) (.cmp .isin (.tup (.cons (.var 15) (.cons (.var 14) .nil))) (.var 9))) (.cons (.ret (.bl false)) .nil) .nil) .nil)) .nil)) (.cons (.set 16 (.call "added" (.var 3) (.cons (.var 4) (.cons (.var 7) (.cons (.var 8) .nil))))) (.cons (.set 17 (.ix (.lc (.ix (.var 13) (.int 0)) (.one 13) (.seq (.var 16)) (.cons (.cmp .notin (.var 13) (.var 4)) .nil)) (.int 0))) (.cons (.iff (.or (.cons (.cmp .ne (.pr .len (.var 16) .nil) (.op .add (.pr .len (.var 4) .nil) (.int 1))) (.cons (.cmp .ne (.call "tile_of" (.var 16) (.cons (.var 17) .nil)) (.op .add (.op .add (.tup (.cons (.var 17) .nil)) (.var 10)) (.tup (.cons (.var 7) (.cons (.var 8) (.cons (.bl false) .nil)))))) .nil))) (.cons (.ret (.bl false)) .nil) .nil) (.cons (.iff (.or (.cons (.cmp .ne (.call "put" (.var 3) (.cons (.var 4) (.cons (.call "tile_of" (.var 16) (.cons (.var 17) .nil)) .nil))) (.var 16)) (.cons (.cmp .ne (.call "taken" (.var 16) (.cons (.var 17) .nil)) (.var 4)) .nil))) (.cons (.ret (.bl false)) .nil) .nil) (.cons (.iff (.cmp .isnot (.call "is_layout" (.var 3) (.cons (.var 16) .nil)) (.bl true)) (.cons (.ret (.bl false)) .nil) .nil) (.cons (.set 18 (.op .sub (.op .mul (.var 3) (.op .sub (.call "height" (.var 16) .nil) (.call "height" (.var 4) .nil))) (.op .mul (.var 7) (.var 8)))) (.cons (.iff (.cmp .ne (.call "holes" (.var 3) (.cons (.var 16) .nil)) (.op .add (.call "holes" (.var 3) (.cons (.var 4) .nil)) (.var 18))) (.cons (.ret (.bl false)) .nil) .nil) (.cons (.set 4 (.var 16)) .nil)))))))))))))))) .nil))))) (.cons (.ret (.bl true)) .nil))
abbrev b1_k08 : Ss := (.cons (.set 2 (.op .add (.call "_law_cell" (.var 0) (.cons (.op .mod (.var 1) (.int 9)) .nil)) (.op .mul (.int 31) (.var 1)))) (.cons (.set 3 (.call "_law_wide" (.var 2) .nil)) (.cons (.set 4 (.call "_law_layout" (.var 2) (.cons (.var 3) (.cons (.int 6) .nil)))) (.cons (.for_ (.one 5) (.rng1 (.int 5)) (.cons (.set 6 (.op .add (.op .add (.call "_law_cell" (.var 0) (.cons (.int 9) .nil)) (.op .mul (.int 17) (.var 5))) (.op .mul (.int 7) (.var 1)))) (.cons (.par [7, 8] (.cons (.op .add (.int 1) (.call "_law_mix" (.var 6) (.cons (.int 9851) (.cons (.pr .min (.var 3) (.cons (.int 4) .nil)) .nil)))) (.cons (.op .add (.int 1) (.call "_law_mix" (.var 6) (.cons (.int 9839) (.cons (.int 4) .nil)))) .nil))) (.cons (.par [9, 10] (.cons (.call "rooms" (.var 3) (.cons (.var 4) (.cons (.var 7) (.cons (.var 8) .nil)))) (.cons (.call "room" (.var 3) (.cons (.var 4) (.cons (.var 7) (.cons (.var 8) .nil)))) .nil))) (.cons (.iff (.or (.cons (.cmp .ne (.ix (.var 9) (.int 0)) (.var 10)) (.cons (.cmp .notin (.tup (.cons (.int 0) (.cons (.call "height" (.var 4) .nil) .nil))) (.var 9)) .nil))) (.cons (.ret (.bl false)) .nil) .nil) (.cons (.iff (.cmp .ne (.pr .list (.var 9) .nil) (.srtk "place" (.tup (.cons (.ix (.var 0) (.int 1)) (.cons (.ix (.var 0) (.int 0)) .nil))) (.var 9))) (.cons (.ret (.bl false)) .nil) .nil) (.cons (.set 11 (.ix (.lc (.var 12) (.one 12) (.seq (.str "mnopqrstuvwxyz")) (.cons (.cmp .notin (.var 12) (.lc (.ix (.var 13) (.int 0)) (.one 13) (.seq (.var 4)) .nil)) .nil)) (.int 0))) (.cons (.for_ (.one 14) (.rng1 (.op .add (.call "height" (.var 4) .nil) (.int 1))) (.cons (.for_ (.one 15) (.rng1 (.op .add (.op .sub (.var 3) (.var 7)) (.int 1))) (.cons (.iff (.cmp .ne (.call "is_free" (.var 4) (.cons (.tup (.cons (.var 11) (.cons (.var 15) (.cons (.var 14) (.cons (.var 7) (.cons (.var 8) (.cons (.bl false) .nil))))))) .nil)) (.cmp .isin (.tup (.cons (.var 15) (.cons (.var 14) .nil))) (.var 9))) (.cons (.ret (.bl false)) .nil) .nil) .nil)) .nil)) (.cons (.set 16 (.call "added" (.var 3) (.cons (.var 4) (.cons (.var 7) (.cons (.var 8) .nil))))) (.cons (.set 17 (.ix (.lc (.ix (.var 13) (.int 0)) (.one 13) (.seq (.var 16)) (.cons (.cmp .notin (.var 13) (.var 4)) .nil)) (.int 0))) (.cons (.iff (.or (.cons (.cmp .ne (.pr .len (.var 16) .nil) (.op .add (.pr .len (.var 4) .nil) (.int 1))) (.cons (.cmp .ne (.call "tile_of" (.var 16) (.cons (.var 17) .nil)) (.op .add (.op .add (.tup (.cons (.var 17) .nil)) (.var 10)) (.tup (.cons (.var 7) (.cons (.var 8) (.cons (.bl false) .nil)))))) .nil))) (.cons (.ret (.bl false)) .nil) .nil) (.cons (.iff (.or (.cons (.cmp .ne (.call "put" (.var 3) (.cons (.var 4) (.cons (.call "tile_of" (.var 16) (.cons (.var 17) .nil)) .nil))) (.var 16)) (.cons (.cmp .ne (.call "taken" (.var 16) (.cons (.var 17) .nil)) (.var 4)) .nil))) (.cons (.ret (.bl false)) .nil) .nil) (.cons (.iff (.cmp .isnot (.call "is_layout" (.var 3) (.cons (.var 16) .nil)) (.bl true)) (.cons (.ret (.bl false)) .nil) .nil) (.cons (.set 18 (.op .sub (.op .mul (.var 3) (.op .sub (.call "height" (.var 16) .nil) (.call "height" (.var 4) .nil))) (.op .mul (.var 7) (.var 8)))) (.cons (.iff (.cmp .ne (.call "holes" (.var 3) (.cons (.var 16) .nil)) (.op .add (.call "holes" (.var 3) (.cons (.var 4) .nil)) (.var 18))) (.cons (.ret (.bl false)) .nil) .nil) (.cons (.set 4 (.var 16)) .nil)))))))))))))))) .nil))))
abbrev b2_k08 : Ss := (.cons (.set 6 (.op .add (.op .add (.call "_law_cell" (.var 0) (.cons (.int 9) .nil)) (.op .mul (.int 17) (.var 5))) (.op .mul (.int 7) (.var 1)))) (.cons (.par [7, 8] (.cons (.op .add (.int 1) (.call "_law_mix" (.var 6) (.cons (.int 9851) (.cons (.pr .min (.var 3) (.cons (.int 4) .nil)) .nil)))) (.cons (.op .add (.int 1) (.call "_law_mix" (.var 6) (.cons (.int 9839) (.cons (.int 4) .nil)))) .nil))) (.cons (.par [9, 10] (.cons (.call "rooms" (.var 3) (.cons (.var 4) (.cons (.var 7) (.cons (.var 8) .nil)))) (.cons (.call "room" (.var 3) (.cons (.var 4) (.cons (.var 7) (.cons (.var 8) .nil)))) .nil))) (.cons (.iff (.or (.cons (.cmp .ne (.ix (.var 9) (.int 0)) (.var 10)) (.cons (.cmp .notin (.tup (.cons (.int 0) (.cons (.call "height" (.var 4) .nil) .nil))) (.var 9)) .nil))) (.cons (.ret (.bl false)) .nil) .nil) (.cons (.iff (.cmp .ne (.pr .list (.var 9) .nil) (.srtk "place" (.tup (.cons (.ix (.var 0) (.int 1)) (.cons (.ix (.var 0) (.int 0)) .nil))) (.var 9))) (.cons (.ret (.bl false)) .nil) .nil) (.cons (.set 11 (.ix (.lc (.var 12) (.one 12) (.seq (.str "mnopqrstuvwxyz")) (.cons (.cmp .notin (.var 12) (.lc (.ix (.var 13) (.int 0)) (.one 13) (.seq (.var 4)) .nil)) .nil)) (.int 0))) (.cons (.for_ (.one 14) (.rng1 (.op .add (.call "height" (.var 4) .nil) (.int 1))) (.cons (.for_ (.one 15) (.rng1 (.op .add (.op .sub (.var 3) (.var 7)) (.int 1))) (.cons (.iff (.cmp .ne (.call "is_free" (.var 4) (.cons (.tup (.cons (.var 11) (.cons (.var 15) (.cons (.var 14) (.cons (.var 7) (.cons (.var 8) (.cons (.bl false) .nil))))))) .nil)) (.cmp .isin (.tup (.cons (.var 15) (.cons (.var 14) .nil))) (.var 9))) (.cons (.ret (.bl false)) .nil) .nil) .nil)) .nil)) (.cons (.set 16 (.call "added" (.var 3) (.cons (.var 4) (.cons (.var 7) (.cons (.var 8) .nil))))) (.cons (.set 17 (.ix (.lc (.ix (.var 13) (.int 0)) (.one 13) (.seq (.var 16)) (.cons (.cmp .notin (.var 13) (.var 4)) .nil)) (.int 0))) (.cons (.iff (.or (.cons (.cmp .ne (.pr .len (.var 16) .nil) (.op .add (.pr .len (.var 4) .nil) (.int 1))) (.cons (.cmp .ne (.call "tile_of" (.var 16) (.cons (.var 17) .nil)) (.op .add (.op .add (.tup (.cons (.var 17) .nil)) (.var 10)) (.tup (.cons (.var 7) (.cons (.var 8) (.cons (.bl false) .nil)))))) .nil))) (.cons (.ret (.bl false)) .nil) .nil) (.cons (.iff (.or (.cons (.cmp .ne (.call "put" (.var 3) (.cons (.var 4) (.cons (.call "tile_of" (.var 16) (.cons (.var 17) .nil)) .nil))) (.var 16)) (.cons (.cmp .ne (.call "taken" (.var 16) (.cons (.var 17) .nil)) (.var 4)) .nil))) (.cons (.ret (.bl false)) .nil) .nil) (.cons (.iff (.cmp .isnot (.call "is_layout" (.var 3) (.cons (.var 16) .nil)) (.bl true)) (.cons (.ret (.bl false)) .nil) .nil) (.cons (.set 18 (.op .sub (.op .mul (.var 3) (.op .sub (.call "height" (.var 16) .nil) (.call "height" (.var 4) .nil))) (.op .mul (.var 7) (.var 8)))) (.cons (.iff (.cmp .ne (.call "holes" (.var 3) (.cons (.var 16) .nil)) (.op .add (.call "holes" (.var 3) (.cons (.var 4) .nil)) (.var 18))) (.cons (.ret (.bl false)) .nil) .nil) (.cons (.set 4 (.var 16)) .nil)))))))))))))))
abbrev b3_k08 : Ss := (.cons (.for_ (.one 15) (.rng1 (.op .add (.op .sub (.var 3) (.var 7)) (.int 1))) (.cons (.iff (.cmp .ne (.call "is_free" (.var 4) (.cons (.tup (.cons (.var 11) (.cons (.var 15) (.cons (.var 14) (.cons (.var 7) (.cons (.var 8) (.cons (.bl false) .nil))))))) .nil)) (.cmp .isin (.tup (.cons (.var 15) (.cons (.var 14) .nil))) (.var 9))) (.cons (.ret (.bl false)) .nil) .nil) .nil)) .nil)
abbrev b4_k08 : Ss := (.cons (.iff (.cmp .ne (.call "is_free" (.var 4) (.cons (.tup (.cons (.var 11) (.cons (.var 15) (.cons (.var 14) (.cons (.var 7) (.cons (.var 8) (.cons (.bl false) .nil))))))) .nil)) (.cmp .isin (.tup (.cons (.var 15) (.cons (.var 14) .nil))) (.var 9))) (.cons (.ret (.bl false)) .nil) .nil) .nil)
end Tl
set_option maxHeartbeats 4000000
namespace Tl
open PySem PySem.Spec L2
/-! ### is_free -/
open Classical in
noncomputable def is_freeF (p : List Tile × Tile) : Res D := if gL 900 p.1 ∧ nOk p.2.nm then .ok (.bool (!anyM p.2 (otT p.1 p.2.nm))) else .stuck
noncomputable def is_freeS : List D → Res D := spec dom_lt2 is_freeF
theorem run_is_free (Γ : Fns) (hm : Γ "meets_none" = some (2, meets_noneS)) (ho : Γ "others" = some (2, othersS)) (p : List Tile × Tile) : ∃ fuel, Gives (is_freeF p) (exSs Γ fuel c_is_free (startS N_is_free (dom_lt2 p))) := by
  refine ⟨0, ?_⟩
  unfold is_freeF
  by_cases g : gL 900 p.1 ∧ nOk p.2.nm
  rotate_left
  · rw [if_neg g]; trivial
  rw [if_pos g]
  obtain ⟨ts, a⟩ := p
  obtain ⟨hg, hn⟩ := g
  have e0 : startS N_is_free (dom_lt2 (ts, a)) = [.val (.tuple (tsD ts)), .val (tD a)] := by simp [N_is_free, startS, dom_lt2]
  rw [e0, c_is_free]
  exact .inl (x_ret (ev_meets_none (x := a) (ts := otT ts a.nm) (k := false) hm (by simp [ev]) (ev_others (ts := ts) (nm := a.nm) ho (by simp [ev]) (by simp [ev]) ⟨hg, hn⟩) (Nat.le_trans (hg.filter _).len (by decide))))
theorem ev_is_free {Γ : Fns} {ρ : Env0D} {x y : C} {ts : List Tile} {a : Tile} (h : Γ "is_free" = some (2, is_freeS)) (h1 : ev Γ x ρ = .ok (.tuple (tsD ts))) (h2 : ev Γ y ρ = .ok (tD a)) (g : gL 900 ts) (hn : nOk a.nm) : ev Γ (.call "is_free" x (.cons y .nil)) ρ = .ok (.bool (!anyM a (otT ts a.nm))) := by
  have z := ev_call h dom_lt2_inj (ts, a) h1 (evs_cons h2 evs_nil) rfl rfl
  rw [is_freeF, if_pos (show gL 900 (ts, a).1 ∧ nOk (ts, a).2.nm from ⟨g, hn⟩)] at z
  exact z
/-! ### tools -/
theorem cm_neI8 (i j : Int) : cmpD .ne (.int i) (.int j) = some (.bool (decide (i ≠ j))) := by
  show Option.map PyData.bool (gd true (!(i == j))) = _
  by_cases h : i = j <;> simp [h]
theorem forD_steps {b : D → EnvS → Fl} {I : Nat → EnvS → Prop} {N : Nat} : ∀ {ds : List D}, (∀ d ∈ ds, ∀ n ρ, n < N → I n ρ → ∃ ρ', b d ρ = .nx ρ' ∧ I (n + 1) ρ') → ∀ n, n + ds.length ≤ N → ∀ ρ, I n ρ → ∃ ρ', forD b ds ρ = .nx ρ' ∧ I (n + ds.length) ρ'
  | [], _, n, _, ρ, h => ⟨ρ, rfl, h⟩
  | d :: ds, h, n, hl, ρ, hi => by
    rw [List.length_cons] at hl
    obtain ⟨ρ', e, hi'⟩ := h d List.mem_cons_self n ρ (by omega) hi
    obtain ⟨ρ2, e2, hi2⟩ := forD_steps (fun d hd => h d (List.mem_cons_of_mem _ hd)) (n + 1) (by omega) ρ' hi'
    refine ⟨ρ2, by rw [forD, e, fl_nx, e2], ?_⟩
    rw [List.length_cons, show n + (ds.length + 1) = n + 1 + ds.length by omega]
    exact hi2
theorem x_par {Γ : Fns} {n : Nat} {is : List Nat} {cs : Cs} {ρ ρ1 : EnvS} {ss : Ss} {ds : List D} (h : evs Γ cs (seeM (vsCs cs) ρ) = .ok ds) (hp : pureA ds = true) (hs : setS is ds ρ = some ρ1) : exSs Γ n (.cons (.par is cs) ss) ρ = exSs Γ n ss ρ1 := by
  rw [exSs, exS, evEs, h]
  have e : keepMs (vsCs cs) ds ρ = ρ := if_pos hp
  simp only [e, hs]
  rfl
theorem shaped_tpairs (l : List (Int × Int)) : SeqAt.shaped (.tuple (l.map plD)) = true := shaped_pairs l
theorem cm_notinP (p : Int × Int) (l : List (Int × Int)) : cmpD .notin (plD p) (.tuple (l.map plD)) = some (.bool (decide (p ∉ l))) := by
  show Option.map PyData.bool (gd (SeqAt.shaped (plD p) && SeqAt.shaped (.tuple (l.map plD))) (!anyEq (l.map plD) (plD p))) = _
  rw [shaped_tpairs, show SeqAt.shaped (plD p) = true from rfl, show anyEq (l.map plD) (plD p) = decide (p ∈ l) from anyEq_pD l p]
  simp
theorem cm_isinP (p : Int × Int) (l : List (Int × Int)) : cmpD .isin (plD p) (.tuple (l.map plD)) = some (.bool (decide (p ∈ l))) := by
  show Option.map PyData.bool (gd (SeqAt.shaped (plD p) && SeqAt.shaped (.tuple (l.map plD))) (anyEq (l.map plD) (plD p))) = _
  rw [shaped_tpairs, show SeqAt.shaped (plD p) = true from rfl, show anyEq (l.map plD) (plD p) = decide (p ∈ l) from anyEq_pD l p]
  simp
theorem anyEq_ts (ts : List Tile) (a : Tile) : anyEq (tsD ts) (tD a) = decide (a ∈ ts) := by
  unfold anyEq tsD
  rw [List.any_map, Bool.eq_iff_iff, List.any_eq_true, decide_eq_true_eq]
  constructor
  · rintro ⟨b, hb, e⟩
    have e : PyData.eqv (tD b) (tD a) = true := e
    rw [eqv_tile, decide_eq_true_eq] at e
    rw [← e]
    exact hb
  · intro h
    refine ⟨a, h, ?_⟩
    show PyData.eqv (tD a) (tD a) = true
    rw [eqv_tile]
    exact decide_eq_true rfl
theorem cm_notinT {ts : List Tile} {a : Tile} (h : ∀ b ∈ ts, nOk b.nm) (ha : nOk a.nm) : cmpD .notin (tD a) (.tuple (tsD ts)) = some (.bool (decide (a ∉ ts))) := by
  show Option.map PyData.bool (gd (SeqAt.shaped (tD a) && SeqAt.shaped (.tuple (tsD ts))) (!anyEq (tsD ts) (tD a))) = _
  have z : SeqAt.shaped (.tuple (tsD ts)) = true := shaped_sq (b := false) h
  rw [shaped_tile ha, z, anyEq_ts]
  simp
theorem keyV_pl {l : List (Int × Int)} (h : l.length ≤ 1000) : keyV (l.map fun p => .tuple [.int p.2, .int p.1]) (l.map plD) = some (.list ((isort ltP l).map plD)) := by
  have h1 : homo (l.map fun p : Int × Int => PyData.tuple [.int p.2, .int p.1]) = true := homo_of [0, 1, 1] (by simp) fun d hd => by
    obtain ⟨a, _, rfl⟩ := List.mem_map.mp hd
    rfl
  have h2 : kOk (l.map plD) = true := List.all_eq_true.mpr fun d hd => by
    obtain ⟨a, _, rfl⟩ := List.mem_map.mp hd
    rfl
  show gd (homo _ && kOk _ && sz (l.map plD).length) _ = _
  rw [h1, h2, show sz (l.map plD).length = true from decide_eq_true (by rw [List.length_map]; exact sz_small h)]
  show some (PyData.list ((isort ltF ((l.map fun p : Int × Int => PyData.tuple [.int p.2, .int p.1]).zip (l.map plD))).map Prod.snd)) = _
  rw [List.zip_map', isort_map, List.map_map]
  rfl
theorem ev_srtP {Γ : Fns} {a : C} {ρ : Env0D} {l : List (Int × Int)} {x : Str} (h1 : ev Γ a ρ = .ok (.tuple (l.map plD))) (h : l.length ≤ 1000) : ev Γ (.srtk x (.tup (.cons (.ix (.var 0) (.int 1)) (.cons (.ix (.var 0) (.int 0)) .nil))) a) ρ = .ok (.list ((isort ltP l).map plD)) := by
  have q : mapR (fun d => (ev (fun _ => none) (.tup (.cons (.ix (.var 0) (.int 1)) (.cons (.ix (.var 0) (.int 0)) .nil))) [some d]).calm) (l.map plD) = .ok (l.map fun p => .tuple [.int p.2, .int p.1]) := mapR_map (e := plD) (g := fun p : Int × Int => PyData.tuple [.int p.2, .int p.1]) (fun p => by simp [ev, evs, plD]; rfl) l
  rw [ev, h1, Res.bind_ok, show seqsD (.tuple (l.map plD)) = some (l.map plD) from rfl]
  show (mapR _ (l.map plD)).bind _ = _
  rw [q, Res.bind_ok, keyV_pl h]
  rfl
theorem ev_rooms {Γ : Fns} {ρ : Env0D} {a b c d : C} {wide w h : Int} {ts : List Tile} (hf : Γ "rooms" = some (4, roomsS)) (h1 : ev Γ a ρ = .ok (.int wide)) (h2 : ev Γ b ρ = .ok (.tuple (tsD ts))) (h3 : ev Γ c ρ = .ok (.int w)) (h4 : ev Γ d ρ = .ok (.int h)) (g : gRm (wide, ts, w, h)) (hw : w ≤ wide) : ev Γ (.call "rooms" a (.cons b (.cons c (.cons d .nil)))) ρ = .ok (.tuple ((rmL wide ts w h).map plD)) := by
  have z := ev_call hf dom_rm_inj (wide, ts, w, h) h1 (evs_cons h2 (evs_cons h3 (evs_cons h4 evs_nil))) rfl rfl
  rw [roomsF, if_pos g, if_neg (show ¬ wide < w by omega)] at z
  exact z
theorem ev_room {Γ : Fns} {ρ : Env0D} {a b c d : C} {wide w h : Int} {ts : List Tile} {p : Int × Int} {r : List (Int × Int)} (hf : Γ "room" = some (4, roomS)) (h1 : ev Γ a ρ = .ok (.int wide)) (h2 : ev Γ b ρ = .ok (.tuple (tsD ts))) (h3 : ev Γ c ρ = .ok (.int w)) (h4 : ev Γ d ρ = .ok (.int h)) (g : gRm (wide, ts, w, h)) (hw : w ≤ wide) (hL : rmL wide ts w h = p :: r) : ev Γ (.call "room" a (.cons b (.cons c (.cons d .nil)))) ρ = .ok (plD p) := by
  have z := ev_call hf dom_rm_inj (wide, ts, w, h) h1 (evs_cons h2 (evs_cons h3 (evs_cons h4 evs_nil))) rfl rfl
  rw [roomF, if_pos g, if_neg (show ¬ wide < w by omega)] at z
  rw [z]
  show (match rmL wide ts w h with | a :: _ => Res.ok (plD a) | [] => .stuck) = _
  rw [hL]
theorem ev_added {Γ : Fns} {ρ : Env0D} {a b c d : C} {wide w h : Int} {ts : List Tile} {p : Int × Int} {r : List (Int × Int)} {x : Str} {xr : List Str} (hf : Γ "added" = some (4, addedS)) (h1 : ev Γ a ρ = .ok (.int wide)) (h2 : ev Γ b ρ = .ok (.tuple (tsD ts))) (h3 : ev Γ c ρ = .ok (.int w)) (h4 : ev Γ d ρ = .ok (.int h)) (g : gAd (wide, ts, w, h)) (hw : w ≤ wide) (hL : rmL wide ts w h = p :: r) (hF : freeN ts = x :: xr) : ev Γ (.call "added" a (.cons b (.cons c (.cons d .nil)))) ρ = .ok (.tuple (tsD (addT ts x p w h))) := by
  have z := ev_call hf dom_rm_inj (wide, ts, w, h) h1 (evs_cons h2 (evs_cons h3 (evs_cons h4 evs_nil))) rfl rfl
  rw [addedF, if_pos g, if_neg (show ¬ wide < w by omega)] at z
  rw [z]
  show (match rmL wide ts w h with | a :: _ => (match freeN ts with | x :: _ => Res.ok (PyData.tuple (tsD (addT ts x a w h))) | [] => .exc "NoName") | [] => .stuck) = _
  rw [hL, hF]
theorem ev_put {Γ : Fns} {ρ : Env0D} {a b c : C} {wide : Int} {ts : List Tile} {o : Tile} (hf : Γ "put" = some (3, putS)) (h1 : ev Γ a ρ = .ok (.int wide)) (h2 : ev Γ b ρ = .ok (.tuple (tsD ts))) (h3 : ev Γ c ρ = .ok (tD o)) (g : gM (wide, ts, o)) (hn : ts.find? (hasN o.nm) = none) (hx : fitX wide ts o = none) : ev Γ (.call "put" a (.cons b (.cons c .nil))) ρ = .ok (.tuple (tsD (setT ts o))) := by
  have z := ev_call hf dom_mf_inj (wide, ts, o) h1 (evs_cons h2 (evs_cons h3 evs_nil)) rfl rfl
  rw [putF, if_pos g] at z
  rw [z]
  show (if (ts.find? (hasN o.nm)).isSome = true then Res.exc "BadTile" else resX (fitX wide ts o) (.tuple (tsD (setT ts o)))) = _
  rw [hn, if_neg (by decide), hx]
  rfl
theorem ev_taken {Γ : Fns} {ρ : Env0D} {a b : C} {ts : List Tile} {nm : Str} {o : Tile} (hf : Γ "taken" = some (2, takenS)) (h1 : ev Γ a ρ = .ok (.tuple (tsD ts))) (h2 : ev Γ b ρ = .ok (.str nm)) (g : gP (ts, nm)) (hn : ts.find? (hasN nm) = some o) : ev Γ (.call "taken" a (.cons b .nil)) ρ = .ok (.tuple (tsD (otT ts nm))) := by
  have z := ev_call hf dom_tn_inj (ts, nm) h1 (evs_cons h2 evs_nil) rfl rfl
  rw [takenF, if_pos g] at z
  rw [z]
  show (match ts.find? (hasN nm) with | some _ => Res.ok (PyData.tuple (tsD (otT ts nm))) | none => Res.exc "NoTile") = _
  rw [hn]
structure G8 (Γ : Fns) : Prop where
  cell : Γ "_law_cell" = some (2, law_cellS)
  wide : Γ "_law_wide" = some (1, law_wideS)
  layout : Γ "_law_layout" = some (3, law_layoutS)
  mix : Γ "_law_mix" = some (3, law_mixS)
  rooms : Γ "rooms" = some (4, roomsS)
  room : Γ "room" = some (4, roomS)
  height : Γ "height" = some (1, heightS)
  is_free : Γ "is_free" = some (2, is_freeS)
  added : Γ "added" = some (4, addedS)
  tile_of : Γ "tile_of" = some (2, tile_ofS)
  put : Γ "put" = some (3, putS)
  taken : Γ "taken" = some (2, takenS)
  isl : Γ "is_layout" = some (2, is_layoutS)
  holes : Γ "holes" = some (2, holesS)
abbrev E8 (s0 s1 s2 : Sl) (wide : Int) (ts : List Tile) (s5 s6 : Sl) (w h : Int) (s9 s10 s11 s12 s13 s14 s15 s16 s17 s18 : Sl) : EnvS := [s0, s1, s2, .val (.int wide), .val (.tuple (tsD ts)), s5, s6, .val (.int w), .val (.int h), s9, s10, s11, s12, s13, s14, s15, s16, s17, s18]
section
variable {Γ : Fns} {fuel : Nat} {wide w h : Int} {ts : List Tile}
theorem free_turn8 (H : G8 Γ) (hg : gL 900 ts) {f : Str} (hf : nOk f) (hfr : ∀ a ∈ ts, a.nm ≠ f) {t l : Int} (ht : 0 ≤ t ∧ t ≤ heiT ts) (hl : 0 ≤ l ∧ l ≤ wide - w) (s0 s1 s2 s5 s6 s10 s12 s13 s16 s17 s18 : Sl) :
    exSs Γ fuel b4_k08 (E8 s0 s1 s2 wide ts s5 s6 w h (.val (.tuple ((rmL wide ts w h).map plD))) s10 (.val (.str f)) s12 s13 (.val (.int t)) (.val (.int l)) s16 s17 s18) = .nx (E8 s0 s1 s2 wide ts s5 s6 w h (.val (.tuple ((rmL wide ts w h).map plD))) s10 (.val (.str f)) s12 s13 (.val (.int t)) (.val (.int l)) s16 s17 s18) := by
  have e1 : otT ts f = ts := List.filter_eq_self.mpr fun a ha => decide_eq_true (hfr a ha)
  have e2 : (!anyM ⟨f, l, t, w, h, false⟩ (otT ts f)) = decide ((l, t) ∈ rmL wide ts w h) := by
    rw [e1]
    have e : anyM ⟨f, l, t, w, h, false⟩ ts = anyM (rmTile w h l t) ts := rfl
    rw [e]
    have m := mem_rmL (wide := wide) (ts := ts) (w := w) (h := h) (p := (l, t))
    cases q : anyM (rmTile w h l t) ts with
    | true =>
      rw [decide_eq_false fun z => ?_]
      · rfl
      · have := (m.mp z).2.2
        have this : anyM (rmTile w h l t) ts = false := this
        rw [q] at this
        cases this
    | false => rw [decide_eq_true (m.mpr ⟨ht, hl, q⟩)]; rfl
  rw [b4_k08, x_ifF (ev_cmp (d := .bool (!anyM ⟨f, l, t, w, h, false⟩ (otT ts f))) (ev_is_free (ts := ts) (a := ⟨f, l, t, w, h, false⟩) H.is_free (by simp [ev]) (by simp [ev, evs]; rfl) hg hf) (e := .bool (decide ((l, t) ∈ rmL wide ts w h))) (ev_cmp (d := plD (l, t)) (by simp [ev, evs]; rfl) (e := .tuple ((rmL wide ts w h).map plD)) (by simp [ev]) (cm_isinP _ _)) (by
    rw [e2, cm_neB, decide_eq_false (fun z => z rfl)])), x_nil]
theorem free_rows8 (H : G8 Γ) (hg : gL 900 ts) {f : Str} (hf : nOk f) (hfr : ∀ a ∈ ts, a.nm ≠ f) (hw : 0 ≤ wide - w ∧ wide ≤ 12) (h1 : 1 ≤ w) (hh : 0 ≤ heiT ts ∧ heiT ts ≤ 80) (ss : Ss) (s0 s1 s2 s5 s6 s10 s12 s13 s14 s15 s16 s17 s18 : Sl) : ∃ h14 h15,
    exSs Γ fuel (.cons (.for_ (.one 14) (.rng1 (.op .add (.call "height" (.var 4) .nil) (.int 1))) b3_k08) ss) (E8 s0 s1 s2 wide ts s5 s6 w h (.val (.tuple ((rmL wide ts w h).map plD))) s10 (.val (.str f)) s12 s13 s14 s15 s16 s17 s18) = exSs Γ fuel ss (E8 s0 s1 s2 wide ts s5 s6 w h (.val (.tuple ((rmL wide ts w h).map plD))) s10 (.val (.str f)) s12 s13 h14 h15 s16 s17 s18) := by
  rw [x_for (evI_rng1 (n := heiT ts + 1) (ev_op (ev_height (ts := ts) H.height (by simp [ev]) (Nat.le_trans hg.len (by decide))) (e := .int 1) (by simp [ev]) rfl) (by omega) (by omega))]
  have f1 : freezeM (vsI (.rng1 (.op .add (.call "height" (.var 4) .nil) (.int 1)))) (E8 s0 s1 s2 wide ts s5 s6 w h (.val (.tuple ((rmL wide ts w h).map plD))) s10 (.val (.str f)) s12 s13 s14 s15 s16 s17 s18) = E8 s0 s1 s2 wide ts s5 s6 w h (.val (.tuple ((rmL wide ts w h).map plD))) s10 (.val (.str f)) s12 s13 s14 s15 s16 s17 s18 := by simp [vsI, vsC, vsCs]
  rw [f1]
  obtain ⟨ρ', e, c14, c15, rfl⟩ := forD_inv (b := forB Γ fuel (.one 14) b3_k08) (I := fun ρ => ∃ c14 c15, ρ = E8 s0 s1 s2 wide ts s5 s6 w h (.val (.tuple ((rmL wide ts w h).map plD))) s10 (.val (.str f)) s12 s13 c14 c15 s16 s17 s18) (ds := (upTo (heiT ts + 1)).map .int) (fun d hd ρ hI => by
    obtain ⟨c14, c15, rfl⟩ := hI
    obtain ⟨t, ht, rfl⟩ := List.mem_map.mp hd
    rw [mem_upTo] at ht
    show ∃ ρ', exSs Γ fuel b3_k08 (E8 s0 s1 s2 wide ts s5 s6 w h (.val (.tuple ((rmL wide ts w h).map plD))) s10 (.val (.str f)) s12 s13 (.val (.int t)) c15 s16 s17 s18) = .nx ρ' ∧ _
    rw [b3_k08, x_for (evI_rng1 (n := wide - w + 1) (by simp [ev]) (by omega) (by omega))]
    have f2 : freezeM (vsI (.rng1 (.op .add (.op .sub (.var 3) (.var 7)) (.int 1)))) (E8 s0 s1 s2 wide ts s5 s6 w h (.val (.tuple ((rmL wide ts w h).map plD))) s10 (.val (.str f)) s12 s13 (.val (.int t)) c15 s16 s17 s18) = E8 s0 s1 s2 wide ts s5 s6 w h (.val (.tuple ((rmL wide ts w h).map plD))) s10 (.val (.str f)) s12 s13 (.val (.int t)) c15 s16 s17 s18 := by simp [vsI, vsC, vsCs]
    rw [f2]
    obtain ⟨ρ2, e2, k15, rfl⟩ := forD_inv (b := forB Γ fuel (.one 15) b4_k08) (I := fun ρ => ∃ c15, ρ = E8 s0 s1 s2 wide ts s5 s6 w h (.val (.tuple ((rmL wide ts w h).map plD))) s10 (.val (.str f)) s12 s13 (.val (.int t)) c15 s16 s17 s18) (ds := (upTo (wide - w + 1)).map .int) (fun d hd ρ hI => by
      obtain ⟨c15, rfl⟩ := hI
      obtain ⟨l, hl, rfl⟩ := List.mem_map.mp hd
      rw [mem_upTo] at hl
      exact ⟨_, free_turn8 (fuel := fuel) H hg hf hfr (t := t) (l := l) (by omega) (by omega) s0 s1 s2 s5 s6 s10 s12 s13 s16 s17 s18, _, rfl⟩) _ ⟨c15, rfl⟩
    show ∃ ρ', (forD (forB Γ fuel (.one 15) b4_k08) _ _).bind _ = _ ∧ _
    rw [e2, fl_nx, x_nil]
    exact ⟨_, rfl, _, _, rfl⟩) _ ⟨s14, s15, rfl⟩
  show ∃ h14 h15, (forD (forB Γ fuel (.one 14) b3_k08) _ _).bind _ = _
  rw [e, fl_nx]
  exact ⟨_, _, rfl⟩
end
end Tl
set_option maxHeartbeats 4000000
namespace Tl
open PySem PySem.Spec L2
theorem pureA_pls : ∀ l : List (Int × Int), pureA (l.map plD) = true
  | [] => rfl
  | p :: l => by
    rw [List.map_cons, pureA, pureA_pls l]
    rfl
theorem pureA_2 (l : List (Int × Int)) (p : Int × Int) : pureA [.tuple (l.map plD), plD p] = true := by
  rw [pureA, pure_, pureA_pls]
  rfl
theorem shaped_str_pl (a : Int × Int) : SeqAt.shaped (plD a) = true := rfl
theorem ix_l0 {α : Type} (e : α → D) (a : α) (r : List α) : ixV (.list ((a :: r).map e)) (.int 0) = some (e a) := by
  show atI (e a :: r.map e) 0 = _
  unfold atI ixN
  rw [if_pos (by decide), if_pos (by rw [List.length_cons]; omega)]
  rfl
section
variable {Γ : Fns} {fuel : Nat} {wide w h : Int} {ts : List Tile}
abbrev F8 (ns : List Int) (k c wide : Int) (ts : List Tile) (s5 s6 s7 s8 s9 s10 s11 s12 s13 s14 s15 s16 s17 s18 : Sl) : EnvS := [.val (scrD ns), .val (.int k), .val (.int c), .val (.int wide), .val (.tuple (tsD ts)), s5, s6, s7, s8, s9, s10, s11, s12, s13, s14, s15, s16, s17, s18]
theorem j_turn8 (H : G8 Γ) {ns : List Int} {k c j : Int} {n : Nat} (hw : 1 ≤ wide ∧ wide ≤ 12) (q : Yd n wide ts) (hn : n < 5) (s6 s7 s8 s9 s10 s11 s12 s13 s14 s15 s16 s17 s18 : Sl) : ∃ ts', Yd (n + 1) wide ts' ∧ ∃ h5 h6 h7 h8 h9 h10 h11 h12 h13 h14 h15 h16 h17 h18,
    exSs Γ fuel b2_k08 (F8 ns k c wide ts (.val (.int j)) s6 s7 s8 s9 s10 s11 s12 s13 s14 s15 s16 s17 s18) = .nx (F8 ns k c wide ts' h5 h6 h7 h8 h9 h10 h11 h12 h13 h14 h15 h16 h17 h18) := by
  rw [b2_k08, x_set (d := .int (cellOf ns 9 + 17 * j + 7 * k)) (ev_op (ev_op (ev_cell (ns := ns) (k := 9) H.cell (by simp [ev]) (by simp [ev]) (by decide)) (ev_mulc (i := j) (by decide) (by simp [ev])) rfl) (ev_mulc (i := k) (by decide) (by simp [ev])) rfl) rfl]
  generalize cellOf ns 9 + 17 * j + 7 * k = seed
  show ∃ ts', Yd (n + 1) wide ts' ∧ ∃ h5 h6 h7 h8 h9 h10 h11 h12 h13 h14 h15 h16 h17 h18, exSs Γ fuel _ (F8 ns k c wide ts (.val (.int j)) (.val (.int seed)) s7 s8 s9 s10 s11 s12 s13 s14 s15 s16 s17 s18) = _
  obtain ⟨m, em⟩ : ∃ m : Int, m = (if 4 < wide then 4 else wide) := ⟨_, rfl⟩
  have hm : 1 ≤ m ∧ m ≤ 4 ∧ m ≤ wide := by
    rw [em]
    split <;> omega
  have m1 := mix_rg (c := seed) (p := 9851) (m := m) (by omega)
  have m2 := mix_rg (c := seed) (p := 9839) (m := 4) (by omega)
  rw [x_par (ds := [.int (1 + mix seed 9851 m), .int (1 + mix seed 9839 4)]) (evs_cons (ev_op (d := .int 1) (by simp [ev]) (ev_mix H.mix (x := seed) (p := 9851) (m := m) (by simp [ev]) (by simp [ev]) (by
    rw [em]
    simp [ev, evs]) (by omega)) rfl) (evs_cons (ev_op (d := .int 1) (by simp [ev]) (ev_mix H.mix (x := seed) (p := 9839) (m := 4) (by simp [ev]) (by simp [ev]) (by simp [ev]) (by omega)) rfl) evs_nil)) rfl rfl]
  obtain ⟨w, ew⟩ : ∃ w, w = 1 + mix seed 9851 m := ⟨_, rfl⟩
  obtain ⟨h, eh⟩ : ∃ h, h = 1 + mix seed 9839 4 := ⟨_, rfl⟩
  rw [← ew, ← eh]
  have hww : 1 ≤ w ∧ w ≤ wide ∧ w ≤ 4 := by omega
  have hhh : 1 ≤ h ∧ h ≤ 4 := by omega
  clear ew eh m1 m2
  show ∃ ts', Yd (n + 1) wide ts' ∧ ∃ h5 h6 h7 h8 h9 h10 h11 h12 h13 h14 h15 h16 h17 h18, exSs Γ fuel _ (E8 (.val (scrD ns)) (.val (.int k)) (.val (.int c)) wide ts (.val (.int j)) (.val (.int seed)) w h s9 s10 s11 s12 s13 s14 s15 s16 s17 s18) = _
  have hei := q.hei0 (by omega)
  have gl : gL 900 ts := (q.gL (by omega)).mono (by decide)
  have gl4 : gL 400 ts := (q.gL (by omega)).mono (by decide)
  have grm : gRm (wide, ts, w, h) := ⟨Nat.le_trans gl.len (by decide), hw.2, hww.1, by show heiT ts ≤ 80; omega, hei.1⟩
  have gad : gAd (wide, ts, w, h) := ⟨grm, gl.len, fun a ha => (gl.ok a ha).2⟩
  obtain ⟨p, r, hL⟩ := rmL_cons (ts := ts) (h := h) hww.2.1 hei.1
  have hLl := rmL_len (ts := ts) (h := h) hw.2 hww.1 (by omega)
  obtain ⟨x, xr, hF, hx1, hx2, hx3⟩ := q.name (by omega)
  obtain ⟨f, fr, hFr, hf1, hf2⟩ := q.fresh (by omega)
  have hp : p ∈ rmL wide ts w h := by rw [hL]; exact List.mem_cons_self
  obtain ⟨p1, p2, p3⟩ := mem_rmL.mp hp
  have nw : New n wide ts ⟨x, p.1, p.2, w, h, false⟩ := ⟨q, by omega, hx1, hx3, fun a ha => anyM_no.mp p3 a ha, ⟨p2.1, by have := p2.2; show p.1 + w ≤ wide; omega⟩, p1, ⟨hww.1, by show w ≤ 20; omega⟩, ⟨hhh.1, hhh.2⟩, rfl⟩
  rw [x_par (ds := [.tuple ((rmL wide ts w h).map plD), plD p]) (evs_cons (ev_rooms H.rooms (by simp [ev]) (by simp [ev]) (by simp [ev]) (by simp [ev]) grm hww.2.1) (evs_cons (ev_room H.room (by simp [ev]) (by simp [ev]) (by simp [ev]) (by simp [ev]) grm hww.2.1 hL) evs_nil)) (pureA_2 _ _) rfl]
  show ∃ ts', Yd (n + 1) wide ts' ∧ ∃ h5 h6 h7 h8 h9 h10 h11 h12 h13 h14 h15 h16 h17 h18, exSs Γ fuel _ (E8 (.val (scrD ns)) (.val (.int k)) (.val (.int c)) wide ts (.val (.int j)) (.val (.int seed)) w h (.val (.tuple ((rmL wide ts w h).map plD))) (.val (plD p)) s11 s12 s13 s14 s15 s16 s17 s18) = _
  have hmem : ((0, heiT ts) : Int × Int) ∈ rmL wide ts w h := mem_rmL.mpr ⟨⟨hei.1, Int.le_refl _⟩, ⟨Int.le_refl _, by show (0 : Int) ≤ wide - w; omega⟩, below_free (Int.le_refl _)⟩
  rw [x_ifF (ev_or2 (x := false) (y := false) (ev_cmp (d := plD p) (ev_ix (d := .tuple ((rmL wide ts w h).map plD)) (by simp [ev]) (e := .int 0) (by simp [ev]) (by rw [hL]; exact ix_t0 p r)) (e := plD p) (by simp [ev]) (cm_neSelf (shaped_str_pl p))) fun _ => ev_cmp (d := plD (0, heiT ts)) (ev_tup (evs_cons (d := .int 0) (by simp [ev]) (evs_cons (ev_height (ts := ts) H.height (by simp [ev]) (Nat.le_trans gl.len (by decide))) evs_nil)) (by simp)) (e := .tuple ((rmL wide ts w h).map plD)) (by simp [ev]) (by
    rw [cm_notinP, decide_eq_false (fun z => z hmem)]))]
  rw [x_ifF (ev_cmp (d := .list ((rmL wide ts w h).map plD)) (ev_pr1 (d := .tuple ((rmL wide ts w h).map plD)) (by simp [ev]) rfl) (e := .list ((rmL wide ts w h).map plD)) ((ev_srtP (l := rmL wide ts w h) (by simp [ev]) (by omega)).trans (by rw [rmL_srt])) (cm_neSelf (shaped_pairs _)))]
  rw [x_set (d := .str f) (ev_ix (d := .list ((f :: fr).map .str)) (by
    rw [← hFr]
    exact ev_fil (e := PyData.str) (l := frs) (q := fun y => decide (y ∉ ts.map Tile.nm)) (by
      rw [evI, ev]
      show lift (seqD (.str "mnopqrstuvwxyz")) = _
      rw [frs_it]
      rfl) (fun y hy => ev_cmp (d := .str y) (e := .list ((ts.map Tile.nm).map .str)) (by simp [ev]) (by
      rw [List.map_map]
      exact ev_map (e := tD) (l := ts) (g := fun a => .str a.nm) (by simp [evI, ev, tsD]) (fun a _ => by simp [ev]) (Nat.le_trans gl.len (by decide))) (cm_notinN (frs_ok y hy) fun z hz => by
        obtain ⟨a, ha, rfl⟩ := List.mem_map.mp hz
        exact (gl.ok a ha).2)) (by simp) (by decide)) (e := .int 0) (by simp [ev]) (ix_l0 PyData.str f fr)) rfl]
  show ∃ ts', Yd (n + 1) wide ts' ∧ ∃ h5 h6 h7 h8 h9 h10 h11 h12 h13 h14 h15 h16 h17 h18, exSs Γ fuel (.cons (.for_ (.one 14) (.rng1 (.op .add (.call "height" (.var 4) .nil) (.int 1))) b3_k08) _) (E8 (.val (scrD ns)) (.val (.int k)) (.val (.int c)) wide ts (.val (.int j)) (.val (.int seed)) w h (.val (.tuple ((rmL wide ts w h).map plD))) (.val (plD p)) (.val (.str f)) s12 s13 s14 s15 s16 s17 s18) = _
  obtain ⟨g14, g15, eL⟩ := free_rows8 (fuel := fuel) (wide := wide) (ts := ts) (w := w) (h := h) H gl hf1 hf2 (by omega) hww.1 (by omega) (.cons (.set 16 (.call "added" (.var 3) (.cons (.var 4) (.cons (.var 7) (.cons (.var 8) .nil))))) (.cons (.set 17 (.ix (.lc (.ix (.var 13) (.int 0)) (.one 13) (.seq (.var 16)) (.cons (.cmp .notin (.var 13) (.var 4)) .nil)) (.int 0))) (.cons (.iff (.or (.cons (.cmp .ne (.pr .len (.var 16) .nil) (.op .add (.pr .len (.var 4) .nil) (.int 1))) (.cons (.cmp .ne (.call "tile_of" (.var 16) (.cons (.var 17) .nil)) (.op .add (.op .add (.tup (.cons (.var 17) .nil)) (.var 10)) (.tup (.cons (.var 7) (.cons (.var 8) (.cons (.bl false) .nil)))))) .nil))) (.cons (.ret (.bl false)) .nil) .nil) (.cons (.iff (.or (.cons (.cmp .ne (.call "put" (.var 3) (.cons (.var 4) (.cons (.call "tile_of" (.var 16) (.cons (.var 17) .nil)) .nil))) (.var 16)) (.cons (.cmp .ne (.call "taken" (.var 16) (.cons (.var 17) .nil)) (.var 4)) .nil))) (.cons (.ret (.bl false)) .nil) .nil) (.cons (.iff (.cmp .isnot (.call "is_layout" (.var 3) (.cons (.var 16) .nil)) (.bl true)) (.cons (.ret (.bl false)) .nil) .nil) (.cons (.set 18 (.op .sub (.op .mul (.var 3) (.op .sub (.call "height" (.var 16) .nil) (.call "height" (.var 4) .nil))) (.op .mul (.var 7) (.var 8)))) (.cons (.iff (.cmp .ne (.call "holes" (.var 3) (.cons (.var 16) .nil)) (.op .add (.call "holes" (.var 3) (.cons (.var 4) .nil)) (.var 18))) (.cons (.ret (.bl false)) .nil) .nil) (.cons (.set 4 (.var 16)) .nil)))))))) (.val (scrD ns)) (.val (.int k)) (.val (.int c)) (.val (.int j)) (.val (.int seed)) (.val (plD p)) s12 s13 s14 s15 s16 s17 s18
  rw [eL]
  have yn := nw.yd
  have gn : gL 900 (addT ts x p w h) := (yn.gL (by omega)).mono (by decide)
  rw [x_set (d := .tuple (tsD (addT ts x p w h))) (ev_added H.added (by simp [ev]) (by simp [ev]) (by simp [ev]) (by simp [ev]) gad hww.2.1 hL hF) (pure_tts _)]
  have efind : (addT ts x p w h).find? (hasN x) = some ⟨x, p.1, p.2, w, h, false⟩ := nw.find
  have eonly : (addT ts x p w h).filter (fun a => decide (a ∉ ts)) = [⟨x, p.1, p.2, w, h, false⟩] := nw.only
  have etake : otT (addT ts x p w h) x = ts := nw.taken
  have eset : setT ts ⟨x, p.1, p.2, w, h, false⟩ = addT ts x p w h := nw.set
  have efit := nw.fit
  have eno := nw.no
  have elen : (addT ts x p w h).length = ts.length + 1 := by
    have := nw.pm.length_eq
    rw [List.length_append, List.length_singleton] at this
    exact this
  have elay : isLay wide (addT ts x p w h) = true := yn.lay (by omega)
  have ehole : holeN wide (addT ts x p w h) = holeN wide ts + (wide * (heiT (addT ts x p w h) - heiT ts) - w * h) := nw.holes (by omega)
  have ehn : 0 ≤ heiT (addT ts x p w h) ∧ heiT (addT ts x p w h) ≤ 35 := yn.hei0 (by omega)
  have yn : Yd (n + 1) wide (addT ts x p w h) := yn
  have gnl : nL (addT ts x p w h) := ⟨Nat.le_trans gn.len (by decide), fun a ha => abc_len _ (nmY_abc (yn.nm a ha))⟩
  generalize addT ts x p w h = tn at *
  show ∃ ts', Yd (n + 1) wide ts' ∧ ∃ h5 h6 h7 h8 h9 h10 h11 h12 h13 h14 h15 h16 h17 h18, exSs Γ fuel _ (E8 (.val (scrD ns)) (.val (.int k)) (.val (.int c)) wide ts (.val (.int j)) (.val (.int seed)) w h (.val (.tuple ((rmL wide ts w h).map plD))) (.val (plD p)) (.val (.str f)) s12 s13 g14 g15 (.val (.tuple (tsD tn))) s17 s18) = _
  have hnx : nOk x := abc_ok x hx2
  have gp : gP (tn, x) := ⟨gn, hnx⟩
  rw [x_set (d := .str x) (ev_ix (d := .list (([⟨x, p.1, p.2, w, h, false⟩] : List Tile).map fun a => .str a.nm)) (by
    rw [← eonly]
    exact ev_fm (e := tD) (l := tn) (q := fun a => decide (a ∉ ts)) (g := fun a => .str a.nm) (by simp [evI, ev, tsD]) (fun a ha => ev_cmp (d := tD a) (e := .tuple (tsD ts)) (by simp [ev]) (by simp [ev]) (cm_notinT (fun b hb => (gl.ok b hb).2) (gn.ok a ha).2)) (fun a ha _ => by simp [ev]) (Nat.le_trans gn.len (by decide))) (e := .int 0) (by simp [ev]) (ix_l0 (fun a : Tile => PyData.str a.nm) _ _)) rfl]
  show ∃ ts', Yd (n + 1) wide ts' ∧ ∃ h5 h6 h7 h8 h9 h10 h11 h12 h13 h14 h15 h16 h17 h18, exSs Γ fuel _ (E8 (.val (scrD ns)) (.val (.int k)) (.val (.int c)) wide ts (.val (.int j)) (.val (.int seed)) w h (.val (.tuple ((rmL wide ts w h).map plD))) (.val (plD p)) (.val (.str f)) s12 s13 g14 g15 (.val (.tuple (tsD tn))) (.val (.str x)) s18) = _
  rw [x_ifF (ev_or2 (x := false) (y := false) (ev_cmp (d := .int (tn.length : Int)) (ev_pr1 (d := .tuple (tsD tn)) (by simp [ev]) (by show some (PyData.int ((tsD tn).length : Int)) = _; rw [tsD_len])) (e := .int ((ts.length : Int) + 1)) (ev_op (d := .int (ts.length : Int)) (ev_pr1 (d := .tuple (tsD ts)) (by simp [ev]) (by show some (PyData.int ((tsD ts).length : Int)) = _; rw [tsD_len])) (e := .int 1) (by simp [ev]) rfl) (by rw [cm_neI8, decide_eq_false (fun z => z (by omega))])) fun _ => ev_cmp (ev_tile_of (ts := tn) (nm := x) H.tile_of (by simp [ev]) (by simp [ev]) gp efind) (e := tD ⟨x, p.1, p.2, w, h, false⟩) (ev_op (d := .tuple [.str x, .int p.1, .int p.2]) (ev_op (d := .tuple [.str x]) (by simp [ev, evs]) (e := plD p) (by simp [ev]) rfl) (e := .tuple [.int w, .int h, .bool false]) (by simp [ev, evs]) rfl) (cm_neSelf (shaped_tile hnx)))]
  rw [x_ifF (ev_or2 (x := false) (y := false) (ev_cmp (d := .tuple (tsD tn)) ((ev_put (wide := wide) (ts := ts) (o := ⟨x, p.1, p.2, w, h, false⟩) H.put (by simp [ev]) (by simp [ev]) (ev_tile_of (ts := tn) (nm := x) H.tile_of (by simp [ev]) (by simp [ev]) gp efind) ⟨gl4, ⟨hnx, abc_len x hx2⟩, hw.2⟩ eno efit).trans (by rw [eset])) (e := .tuple (tsD tn)) (by simp [ev]) (cm_neSelf (shaped_sq (b := false) fun a ha => (gn.ok a ha).2))) fun _ => ev_cmp (d := .tuple (tsD ts)) ((ev_taken (ts := tn) (nm := x) H.taken (by simp [ev]) (by simp [ev]) gp efind).trans (by rw [etake])) (e := .tuple (tsD ts)) (by simp [ev]) (cm_neSelf (shaped_sq (b := false) fun a ha => (gl.ok a ha).2)))]
  rw [x_ifF (ev_cmp (ev_is_layout (wide := wide) (ts := tn) H.isl (by simp [ev]) (by simp [ev]) gnl) (e := .bool true) (by simp [ev]) (by rw [elay]; rfl))]
  rw [x_set (d := .int (wide * (heiT tn - heiT ts) - w * h)) (ev_op (d := .int (wide * (heiT tn - heiT ts))) (ev_op (d := .int wide) (by simp [ev]) (ev_op (ev_height (ts := tn) H.height (by simp [ev]) (Nat.le_trans gn.len (by decide))) (ev_height (ts := ts) H.height (by simp [ev]) (Nat.le_trans gl.len (by decide))) rfl) (show opV .mul (.int wide) (.int (heiT tn - heiT ts)) = some (.int (wide * (heiT tn - heiT ts))) from gd_of (decide_eq_true (.inl (by omega))) _)) (ev_op (d := .int w) (e := .int h) (by simp [ev]) (by simp [ev]) (show opV .mul (.int w) (.int h) = some (.int (w * h)) from gd_of (decide_eq_true (.inl (by omega))) _)) rfl) rfl]
  show ∃ ts', Yd (n + 1) wide ts' ∧ ∃ h5 h6 h7 h8 h9 h10 h11 h12 h13 h14 h15 h16 h17 h18, exSs Γ fuel _ (E8 (.val (scrD ns)) (.val (.int k)) (.val (.int c)) wide ts (.val (.int j)) (.val (.int seed)) w h (.val (.tuple ((rmL wide ts w h).map plD))) (.val (plD p)) (.val (.str f)) s12 s13 g14 g15 (.val (.tuple (tsD tn))) (.val (.str x)) (.val (.int (wide * (heiT tn - heiT ts) - w * h)))) = _
  have gh : ∀ us : List Tile, gL 900 us → 0 ≤ heiT us ∧ heiT us ≤ 35 → gHo (wide, us) := fun us g1 g2 => ⟨Nat.le_trans g1.len (by decide), by show 0 ≤ wide ∧ wide ≤ 12; omega, by show 0 ≤ heiT us ∧ heiT us ≤ 300; omega⟩
  have evh : ∀ {ρ : Env0D} {x y : C} {us : List Tile}, ev Γ x ρ = .ok (.int wide) → ev Γ y ρ = .ok (.tuple (tsD us)) → gHo (wide, us) → ev Γ (.call "holes" x (.cons y .nil)) ρ = .ok (.int (holeN wide us)) := fun {ρ x y us} h1 h2 g => by
    have z := ev_call H.holes dom_iT_inj (wide, us) h1 (evs_cons h2 evs_nil) rfl rfl
    rw [holesF, if_pos g] at z
    exact z
  rw [x_ifF (ev_cmp (evh (us := tn) (by simp [ev]) (by simp [ev]) (gh tn gn ehn)) (ev_op (evh (us := ts) (by simp [ev]) (by simp [ev]) (gh ts gl hei)) (e := .int (wide * (heiT tn - heiT ts) - w * h)) (by simp [ev]) rfl) (by rw [cm_neI8, decide_eq_false (fun z => z ehole)])), x_set (d := .tuple (tsD tn)) (by simp [ev]) (pure_tts _), x_nil]
  exact ⟨tn, yn, _, _, _, _, _, _, _, _, _, _, _, _, _, _, rfl⟩
end
def fives : List Int := [0, 1, 2, 3, 4]
section
variable {Γ : Fns} {fuel : Nat}
theorem turn8 (H : G8 Γ) {ns : List Int} {k : Nat} (g2 g3 g4 g5 g6 g7 g8 g9 g10 g11 g12 g13 g14 g15 g16 g17 g18 : Sl) : ∃ h2 h3 h4 h5 h6 h7 h8 h9 h10 h11 h12 h13 h14 h15 h16 h17 h18,
    exSs Γ fuel b1_k08 [.val (scrD ns), .val (.int (k : Int)), g2, g3, g4, g5, g6, g7, g8, g9, g10, g11, g12, g13, g14, g15, g16, g17, g18] = .nx [.val (scrD ns), .val (.int (k : Int)), h2, h3, h4, h5, h6, h7, h8, h9, h10, h11, h12, h13, h14, h15, h16, h17, h18] := by
  rw [b1_k08, x_set (ev_cell31 (ns := ns) (k := (k : Int)) H.cell (by simp [ev]) (by simp [ev]) (by decide) 31 (by decide)) rfl]
  generalize cellOf ns ((k : Int) % 9) + 31 * (k : Int) = c
  show ∃ h2 h3 h4 h5 h6 h7 h8 h9 h10 h11 h12 h13 h14 h15 h16 h17 h18, exSs Γ fuel _ [.val (scrD ns), .val (.int (k : Int)), .val (.int c), g3, g4, g5, g6, g7, g8, g9, g10, g11, g12, g13, g14, g15, g16, g17, g18] = _
  rw [x_set (ev_wide (k := c) H.wide (by simp [ev])) rfl]
  have hw := widA_rg c
  generalize widA c = wide at hw
  show ∃ h2 h3 h4 h5 h6 h7 h8 h9 h10 h11 h12 h13 h14 h15 h16 h17 h18, exSs Γ fuel _ [.val (scrD ns), .val (.int (k : Int)), .val (.int c), .val (.int wide), g4, g5, g6, g7, g8, g9, g10, g11, g12, g13, g14, g15, g16, g17, g18] = _
  rw [x_set (ev_layout (k := c) (wide := wide) (n := 6) H.layout (by simp [ev]) (by simp [ev]) (by simp [ev]) hw.1 (by decide) (by decide)) (pure_tts _)]
  have hY : Yd 0 wide (layT c wide 6) := layT_Yd hw.1
  generalize layT c wide 6 = ts at hY
  show ∃ h2 h3 h4 h5 h6 h7 h8 h9 h10 h11 h12 h13 h14 h15 h16 h17 h18, exSs Γ fuel _ (F8 ns k c wide ts g5 g6 g7 g8 g9 g10 g11 g12 g13 g14 g15 g16 g17 g18) = _
  rw [x_for (ds := fives.map .int) (by simp [evI, ev]; rfl)]
  have f1 : freezeM (vsI (.rng1 (.int 5))) (F8 ns k c wide ts g5 g6 g7 g8 g9 g10 g11 g12 g13 g14 g15 g16 g17 g18) = F8 ns k c wide ts g5 g6 g7 g8 g9 g10 g11 g12 g13 g14 g15 g16 g17 g18 := by simp [vsI, vsC]
  rw [f1]
  obtain ⟨ρ', e, tn, _, c5, c6, c7, c8, c9, c10, c11, c12, c13, c14, c15, c16, c17, c18, rfl⟩ := forD_steps (b := forB Γ fuel (.one 5) b2_k08) (N := 5) (I := fun n ρ => ∃ ts', Yd n wide ts' ∧ ∃ c5 c6 c7 c8 c9 c10 c11 c12 c13 c14 c15 c16 c17 c18, ρ = F8 ns k c wide ts' c5 c6 c7 c8 c9 c10 c11 c12 c13 c14 c15 c16 c17 c18) (ds := fives.map .int) (fun d hd n ρ hn hI => by
    obtain ⟨ts', hy, c5, c6, c7, c8, c9, c10, c11, c12, c13, c14, c15, c16, c17, c18, rfl⟩ := hI
    obtain ⟨j, _, rfl⟩ := List.mem_map.mp hd
    obtain ⟨t2, hy2, d5, d6, d7, d8, d9, d10, d11, d12, d13, d14, d15, d16, d17, d18, e⟩ := j_turn8 (fuel := fuel) H (ns := ns) (k := (k : Int)) (c := c) (j := j) hw hy hn c6 c7 c8 c9 c10 c11 c12 c13 c14 c15 c16 c17 c18
    exact ⟨_, e, t2, hy2, _, _, _, _, _, _, _, _, _, _, _, _, _, _, rfl⟩) 0 (by decide) _ ⟨ts, hY, g5, g6, g7, g8, g9, g10, g11, g12, g13, g14, g15, g16, g17, g18, rfl⟩
  show ∃ h2 h3 h4 h5 h6 h7 h8 h9 h10 h11 h12 h13 h14 h15 h16 h17 h18, (forD (forB Γ fuel (.one 5) b2_k08) _ _).bind _ = _
  rw [e, fl_nx, x_nil]
  exact ⟨_, _, _, _, _, _, _, _, _, _, _, _, _, _, _, _, _, rfl⟩
end
theorem run_law8 (Γ : Fns) (H : G8 Γ) (ns : List Int) : ∃ fuel, Gives (.ok (.bool true)) (exSs Γ fuel c_law_k08 (startS N_law_k08 [scrD ns])) := by
  refine ⟨0, .inl ?_⟩
  have e0 : startS N_law_k08 [scrD ns] = [.val (scrD ns), .no, .no, .no, .no, .no, .no, .no, .no, .no, .no, .no, .no, .no, .no, .no, .no, .no, .no] := by simp [N_law_k08, startS]
  rw [e0, c_law_k08, x_for (ds := (List.range 12).map fun (i : Nat) => .int (0 + (i : Int))) (by simp [evI, ev]; rfl)]
  have e2 : freezeM (vsI (.rng1 (.int 12))) [.val (scrD ns), .no, .no, .no, .no, .no, .no, .no, .no, .no, .no, .no, .no, .no, .no, .no, .no, .no, .no] = [.val (scrD ns), .no, .no, .no, .no, .no, .no, .no, .no, .no, .no, .no, .no, .no, .no, .no, .no, .no, .no] := by simp [vsI, vsC]
  rw [e2]
  obtain ⟨ρ', e3, c1, c2, c3, c4, c5, c6, c7, c8, c9, c10, c11, c12, c13, c14, c15, c16, c17, c18, rfl⟩ := forD_inv (b := forB Γ 0 (.one 1) b1_k08) (I := fun ρ => ∃ c1 c2 c3 c4 c5 c6 c7 c8 c9 c10 c11 c12 c13 c14 c15 c16 c17 c18, ρ = [.val (scrD ns), c1, c2, c3, c4, c5, c6, c7, c8, c9, c10, c11, c12, c13, c14, c15, c16, c17, c18]) (ds := (List.range 12).map fun (i : Nat) => .int (0 + (i : Int))) (fun d hd ρ hI => by
    obtain ⟨c1, c2, c3, c4, c5, c6, c7, c8, c9, c10, c11, c12, c13, c14, c15, c16, c17, c18, rfl⟩ := hI
    obtain ⟨k, _, rfl⟩ := List.mem_map.mp hd
    obtain ⟨d2, d3, d4, d5, d6, d7, d8, d9, d10, d11, d12, d13, d14, d15, d16, d17, d18, e⟩ := turn8 (Γ := Γ) (fuel := 0) H (ns := ns) (k := k) c2 c3 c4 c5 c6 c7 c8 c9 c10 c11 c12 c13 c14 c15 c16 c17 c18
    rw [Int.zero_add]
    exact ⟨_, e, _, _, _, _, _, _, _, _, _, _, _, _, _, _, _, _, _, _, rfl⟩) _ ⟨.no, .no, .no, .no, .no, .no, .no, .no, .no, .no, .no, .no, .no, .no, .no, .no, .no, .no, rfl⟩
  show (forD (forB Γ 0 (.one 1) b1_k08) _ _).bind _ = _
  rw [e3, fl_nx]
  exact x_ret (by simp [ev])
end Tl
set_option maxHeartbeats 4000000
namespace Tl
open PySem PySem.Spec L2 PyProof.Rows
/-! ### _law_word, where an exception is handled -/
def wordBody (q : Nat → Pos) : List Stmt := [ (Stmt.Assign (targets := [(Expr.Name "kinds" (q 0))]) (value := (Expr.List (elts := [ (Expr.Call (func := (Expr.Name "isinstance" (q 1))) (args := [(Expr.Name "what" (q 2)), (Expr.Name "NoTile" (q 3))]) (keywords := []) (pos := (q 4))), (Expr.Call (func := (Expr.Name "isinstance" (q 5))) (args := [(Expr.Name "what" (q 6)), (Expr.Name "BadTile" (q 7))]) (keywords := []) (pos := (q 8)))]) (pos := (q 9)))) (pos := (q 10))), (Stmt.Assign (targets := [(Expr.Name "kinds" (q 11))]) (value := (Expr.BinOp (left := (Expr.Name "kinds" (q 12))) (op := Operator.Add) (right := (Expr.List (elts := [ (Expr.Call (func := (Expr.Name "isinstance" (q 13))) (args := [(Expr.Name "what" (q 14)), (Expr.Name "Fixed" (q 15))]) (keywords := []) (pos := (q 16))), (Expr.Call (func := (Expr.Name "isinstance" (q 17))) (args := [(Expr.Name "what" (q 18)), (Expr.Name "NoRoom" (q 19))]) (keywords := []) (pos := (q 20)))]) (pos := (q 21)))) (pos := (q 22)))) (pos := (q 23))), (Stmt.Assign (targets := [(Expr.Name "kinds" (q 24))]) (value := (Expr.BinOp (left := (Expr.Name "kinds" (q 25))) (op := Operator.Add) (right := (Expr.List (elts := [ (Expr.Call (func := (Expr.Name "isinstance" (q 26))) (args := [(Expr.Name "what" (q 27)), (Expr.Name "NoName" (q 28))]) (keywords := []) (pos := (q 29))), (Expr.Call (func := (Expr.Name "isinstance" (q 30))) (args := [(Expr.Name "what" (q 31)), (Expr.Name "Same" (q 32))]) (keywords := []) (pos := (q 33)))]) (pos := (q 34)))) (pos := (q 35)))) (pos := (q 36))), (Stmt.Assign (targets := [(Expr.Name "kinds" (q 37))]) (value := (Expr.BinOp (left := (Expr.Name "kinds" (q 38))) (op := Operator.Add) (right := (Expr.List (elts := [ (Expr.Call (func := (Expr.Name "isinstance" (q 39))) (args := [(Expr.Name "what" (q 40)), (Expr.Name "Closed" (q 41))]) (keywords := []) (pos := (q 42))), (Expr.Call (func := (Expr.Name "isinstance" (q 43))) (args := [(Expr.Name "what" (q 44)), (Expr.Name "NoDeed" (q 45))]) (keywords := []) (pos := (q 46)))]) (pos := (q 47)))) (pos := (q 48)))) (pos := (q 49))), (Stmt.Expr (value := (Expr.Call (func := (Expr.Attribute (Expr.Name "kinds" (q 50)) "append" (q 51))) (args := [ (Expr.Call (func := (Expr.Name "isinstance" (q 52))) (args := [(Expr.Name "what" (q 53)), (Expr.Name "NoText" (q 54))]) (keywords := []) (pos := (q 55)))]) (keywords := []) (pos := (q 56)))) (pos := (q 57))), (Stmt.If (test := (Expr.BoolOp (op := BoolOp.Or) (values := [ (Expr.Compare (left := (Expr.Call (func := (Expr.Attribute (Expr.Name "kinds" (q 58)) "count" (q 59))) (args := [(Expr.Constant (Const.bool true) 0 (q 60))]) (keywords := []) (pos := (q 61)))) (ops := [CmpOp.NotEq]) (comparators := [(Expr.Constant (Const.int 1) 0 (q 62))]) (pos := (q 63))), (Expr.UnaryOp (op := UnaryOp.Not) (operand := (Expr.Call (func := (Expr.Name "isinstance" (q 64))) (args := [(Expr.Name "what" (q 65)), (Expr.Name "ValueError" (q 66))]) (keywords := []) (pos := (q 67)))) (pos := (q 68)))]) (pos := (q 69)))) (body := [ (Stmt.Return (value := (some (Expr.Constant (Const.str "wrong") 0 (q 70)))) (pos := (q 71)))]) (orelse := []) (pos := (q 72))), (Stmt.Assign (targets := [(Expr.Name "words" (q 73))]) (value := (Expr.Tuple (elts := [ (Expr.Constant (Const.str "no tile") 0 (q 74)), (Expr.Constant (Const.str "bad tile") 0 (q 75)), (Expr.Constant (Const.str "fixed") 0 (q 76)), (Expr.Constant (Const.str "no room") 0 (q 77)), (Expr.Constant (Const.str "no name") 0 (q 78)), (Expr.Constant (Const.str "same") 0 (q 79)), (Expr.Constant (Const.str "closed") 0 (q 80)), (Expr.Constant (Const.str "no deed") 0 (q 81)), (Expr.Constant (Const.str "no text") 0 (q 82))]) (k := 0) (pos := (q 83)))) (pos := (q 84))), (Stmt.Return (value := (some (Expr.Subscript (value := (Expr.Name "words" (q 85))) (slice := (Expr.Call (func := (Expr.Attribute (Expr.Name "kinds" (q 86)) "index" (q 87))) (args := [(Expr.Constant (Const.bool true) 0 (q 88))]) (keywords := []) (pos := (q 89)))) (pos := (q 90))))) (pos := (q 91)))]
structure WdK (K : PySem.W.Frag) (mg : Str → Option Value) : Prop where
  ec : ∀ c ∈ excs9, ExcC K (He.ga K c)
  kit : ∀ c ∈ excs9, ∀ y ∈ excs9, PySem.W.kitOne K (.ref (He.ga K c)) (.ref (He.ga K y)) = some (decide (c = y))
  kve : ∀ c ∈ excs9, PySem.W.kitOne K (.ref (He.ga K c)) (.type "ValueError") = some true
  glo : ∀ y ∈ excs9, mg y = some (.ref (He.ga K y))
  isi : mg "isinstance" = none
  ve : mg "ValueError" = none
structure WdS (scope : Scope) : Prop where
  gl : ∀ y ∈ ("isinstance" : Str) :: ("ValueError" : Str) :: excs9, scope.names.lookup y = some .globalImplicit
  lc : ∀ y ∈ (["what", "kinds", "words"] : List Str), scope.names.lookup y = some .local
/-- how often -/
def rCntD (K : PySem.W.Frag) : V → List V → Hp → VK → Prop := fun x xs H Q => ∃ (a : Addr) (y : V) (d : D) (ds : List D), x = V.ref a ∧ xs = [y] ∧ Dp K H (V.ref a) (.list ds) ∧ Dp K H y d ∧ SeqAt.shaped (.list ds) = true ∧ SeqAt.shaped d = true ∧ Q (.int ((ds.countP fun z => PyData.eqv z d : Nat) : Int)) H
theorem mt_countD {X : Cx} (hu : X.A.units + 65 < cLine) : MtR X "list.count" (rCntD X.K) := by
  intro pins s σ H x xs v us Q I rx rxs h
  obtain ⟨a, y, d, ds, rfl, rfl, hl, hy, sl, sd, q⟩ := h
  cases rx
  cases rxs with
  | cons ry rt =>
    rename_i uy ut
    cases rt
    obtain ⟨bs, r1⟩ := Dp.reads I d y uy hy ry
    have hxs : PyData.canLayAll0 ds = true := SeqAt.canLay_of_shaped sl
    cases hl with
    | lst hs ha =>
      obtain ⟨its, rv, ⟨⟨cls, dd, data, sls⟩, n, ho, hc, hdn, hdt⟩, hlen⟩ := I.list hs
      simp only at hc hdt
      subst hc hdt
      obtain ⟨as, h4⟩ := Dp.readsAll I ds _ its ha rv
      have hmap := SeqAt.readsAll_map ds its as hxs h4
      refine call_meets PySem.F.slot_list_count ⟨_, ho, rfl⟩ PySem.F.entry_list_count (PySem.F.args_list_count_2 _ _)
        (SeqAt.list_countAt a its.toArray n dd sls uy (fun u => PyData.eqv (SeqAt.readOf s.heap u) d)) ⟨ho, SeqAt.items_eqAt (vs := its.toArray) (show ReadsAll s.heap its.toArray.toList ds as from h4) r1 hxs (SeqAt.canLay_of_shaped sd) (Tl.room_in sd hu), ?_⟩
      have ec : its.toArray.toList.countP (fun u => PyData.eqv (SeqAt.readOf s.heap u) d) = ds.countP fun z => PyData.eqv z d := by
        conv => rhs; rw [← hmap]
        rw [List.countP_map]
        rfl
      refine ⟨.int _, H, I.tok _, ⟨s.toks, ?_⟩, q⟩
      show Value.int ((its.toArray.toList.countP (fun u => PyData.eqv (SeqAt.readOf s.heap u) d) : Nat) : Int) s.toks = _
      rw [ec]
section
variable {Y : Cx} {a : Addr} {oe : Obj} {c : Str}
theorem call_isW {D : Addr} (C : ExcC Y.K D) (hz : Zc (.ref D) none oe) (hf : ∃ vs, oe.data = .fields vs) (hp : (a, oe) ∈ Y.pn) : CallR Y (.builtin "isinstance") (rIsE Y.K D a) := by
  intro pins s σ H xs us Q I r h
  obtain ⟨c, cv, b, rfl, hcv, e, q⟩ := h
  cases r with
  | cons rx rr =>
    cases rr with
    | cons rt rr =>
      cases rr
      cases rx
      have ec := hcv _ rt
      subst ec
      obtain ⟨hget, _⟩ := I.pin (a, oe) (List.mem_append_left _ hp)
      obtain ⟨vs, hv⟩ := hf
      have J : PySem.W.InstAt s.heap a oe D none := by
        obtain ⟨oc, od, oda, osl⟩ := oe
        obtain ⟨h1, h2⟩ := hz
        dsimp only at h1 h2 hv
        subst h1 h2 hv
        exact ⟨hget, rfl, rfl, trivial⟩
      exact PySem.W.kia_one (PySem.W.handS_kitx_exc C.hg C.hk C.hs C.hd C.ha C.hn C.ht C.hm) I.kIn J e (fun z => nomatch z) fun tk => ⟨.bl b, H, I.kept (t' := tk) fun _ _ z => z, rfl, q⟩
/-- all that is known within -/
structure Wc (Y : Cx) (a : Addr) (oe : Obj) (c : Str) : Prop where
  k : WdK Y.K Y.mg
  s : WdS Y.env.scope
  N : Y.N = (["what", "kinds", "words"] : List Str)
  nd : Y.N.Nodup
  mem : c ∈ excs9
  z : Zc (.ref (He.ga Y.K c)) none oe
  f : ∃ vs, oe.data = .fields vs
  p : (a, oe) ∈ Y.pn
  u : Y.A.units + 65 < cLine
def tIs (a : Addr) (b : Bool) : TE := fun σ H Q => σ[0]? = some (some (.ref a)) ∧ Q (.bl b) H
theorem boot_isW : bootBuiltins "isinstance" = some (.builtin "isinstance") := by decide +kernel
theorem boot_ve : bootBuiltins "ValueError" = some (.type "ValueError") := by decide +kernel
theorem pe_is (w : Wc Y a oe c) {y : Str} (hy : y ∈ excs9) {p1 p2 p3 p4 : Pos} (hd : (y == ("__debug__" : Str)) = false) : PE Y (.Call (.Name "isinstance" p1) [.Name "what" p2, .Name y p3] [] p4) (tIs a (decide (c = y))) := by
  refine PE.imp (pe_callB (call_isW (w.k.ec c w.mem) w.z w.f w.p) (w.s.gl _ List.mem_cons_self) w.k.isi boot_isW (pa_cons (pe_var (i := 0) (by rw [w.N]; rfl) (.inl (w.s.lc _ (by simp)))) (pa_cons (pe_glob (v := .ref (He.ga Y.K y)) (w.s.gl y (List.mem_cons_of_mem _ (List.mem_cons_of_mem _ hy))) (w.k.glo y hy) rfl hd) pa_nil))) fun σ H Q h => ?_
  exact ⟨_, h.1, .ref (He.ga Y.K y), .ref (He.ga Y.K y), _, rfl, fun u e => e, w.k.kit c w.mem y hy, h.2⟩
theorem pe_isV (w : Wc Y a oe c) {p1 p2 p3 p4 : Pos} : PE Y (.Call (.Name "isinstance" p1) [.Name "what" p2, .Name "ValueError" p3] [] p4) (tIs a true) := by
  refine PE.imp (pe_callB (call_isW (w.k.ec c w.mem) w.z w.f w.p) (w.s.gl _ List.mem_cons_self) w.k.isi boot_isW (pa_cons (pe_var (i := 0) (by rw [w.N]; rfl) (.inl (w.s.lc _ (by simp)))) (pa_cons (pe_bltn (v := .ty "ValueError") (w.s.gl _ (by simp)) w.k.ve boot_ve rfl) pa_nil))) fun σ H Q h => ?_
  exact ⟨_, h.1, .ty "ValueError", .type "ValueError", _, rfl, fun u e => e, w.k.kve c w.mem, h.2⟩
def tKinds (a : Addr) (b1 b2 : Bool) : TS := fun Z σ H => σ[0]? = some (some (.ref a)) ∧ ∀ p H', Same H H' → H p = none → H' p = some (.lst [.bl b1, .bl b2]) → Z.nx (σ.set 1 (some (.ref p))) H'
theorem sl_small {n : Nat} (h : n ≤ 100) : n ≤ sizeLine := by
  rw [sizeLine_eq]
  omega
theorem ps_kinds (w : Wc Y a oe c) {b1 b2 : Bool} {e1 e2 : Expr} {p1 p2 p3 : Pos} (h1 : PE Y e1 (tIs a b1)) (h2 : PE Y e2 (tIs a b2)) (s1 : ∀ es env, starEach (e1 :: es) env = (false, eval e1 env) :: starEach es env) (s2 : ∀ es env, starEach (e2 :: es) env = (false, eval e2 env) :: starEach es env) :
    PS Y (.Assign [.Name "kinds" p1] (.List [e1, e2] p2) p3) (tKinds a b1 b2) := by
  refine PS.imp (ps_set (i := 1) w.nd (by rw [w.N]; rfl) (.inl (w.s.lc _ (by simp))) (pe_lst (pa_cons h1 (pa_cons h2 pa_nil (s2 _ _)) (s1 _ _))) rfl (.inr (w.s.lc _ (by simp)))) fun Z σ H h => ?_
  exact ⟨h.1, h.1, sl_small (by simp), fun p hp => h.2 p _ (same_upd hp) hp upd_same⟩
def tMore (a : Addr) (b1 b2 : Bool) : TS := fun Z σ H => ∃ l xs, σ[0]? = some (some (.ref a)) ∧ σ[1]? = some (some (.ref l)) ∧ H l = some (.lst xs) ∧ xs.length ≤ 50 ∧ ∀ p H', Same H H' → H p = none → H' p = some (.lst (xs ++ [.bl b1, .bl b2])) → Z.nx (σ.set 1 (some (.ref p))) H'
theorem ps_more (w : Wc Y a oe c) {b1 b2 : Bool} {e1 e2 : Expr} {p1 p2 p3 p4 p5 : Pos} (h1 : PE Y e1 (tIs a b1)) (h2 : PE Y e2 (tIs a b2)) (s1 : ∀ es env, starEach (e1 :: es) env = (false, eval e1 env) :: starEach es env) (s2 : ∀ es env, starEach (e2 :: es) env = (false, eval e2 env) :: starEach es env) :
    PS Y (.Assign [.Name "kinds" p1] (.BinOp (.Name "kinds" p2) .Add (.List [e1, e2] p3) p4) p5) (tMore a b1 b2) := by
  refine PS.imp (ps_set (i := 1) w.nd (by rw [w.N]; rfl) (.inl (w.s.lc _ (by simp))) (pe_op op_cat (pe_var (i := 1) (by rw [w.N]; rfl) (.inl (w.s.lc _ (by simp)))) (pe_lst (pa_cons h1 (pa_cons h2 pa_nil (s2 _ _)) (s1 _ _)))) rfl (.inr (w.s.lc _ (by simp)))) fun Z σ H h => ?_
  obtain ⟨l, xs, k1, k2, k3, k4, k5⟩ := h
  refine ⟨_, k2, k1, k1, sl_small (by simp), fun p hp => ⟨l, p, xs, _, rfl, rfl, by rw [upd_ne (ne_of_none k3 hp)]; exact k3, upd_same, ?_, fun r hr => ?_⟩⟩
  · show xs.length + 2 ≤ _
    exact sl_small (by omega)
  · have hrp : r ≠ p := fun z => by
      subst z
      rw [upd_same] at hr
      cases hr
    exact k5 r _ ((same_upd hp).trans (same_upd hr)) (by rw [upd_ne hrp] at hr; exact hr) upd_same
def tApp (a : Addr) (b : Bool) : TS := fun Z σ H => ∃ l xs, σ[0]? = some (some (.ref a)) ∧ σ[1]? = some (some (.ref l)) ∧ H l = some (.lst xs) ∧ xs.length ≤ 50 ∧ Z.nx σ (upd H l (.lst (xs ++ [.bl b])))
theorem ps_app (w : Wc Y a oe c) {b : Bool} {e1 : Expr} {p1 p2 p3 p4 : Pos} (h1 : PE Y e1 (tIs a b)) (s1 : ∀ es env, starEach (e1 :: es) env = (false, eval e1 env) :: starEach es env) (hl : (p2.endLine == p3.line) = true) :
    PS Y (.Expr (.Call (.Attribute (.Name "kinds" p1) "append" p2) [e1] [] p3) p4) (tApp a b) := by
  refine PS.imp (ps_expr (pe_bm (X := Y) (T := "list") (id := "list.append") (name := "append") (r := rAppend) F.plainAttrs_list F.slot_list_append F.type_list_append mt_append (pe_var (i := 1) (by rw [w.N]; rfl) (.inl (w.s.lc _ (by simp)))) (pa_cons h1 pa_nil (s1 _ _)) rfl (by rw [s1]; rfl) hl (s1 _ _) rfl) rfl) fun Z σ H h => ?_
  obtain ⟨l, xs, k1, k2, k3, k4, k5⟩ := h
  exact ⟨_, k2, .inl ⟨rfl, xs, .of k3⟩, k1, l, xs, .bl b, rfl, rfl, k3, Nat.lt_of_le_of_lt k4 (by rw [sizeLine_eq]; omega), k5⟩
/-- a list of truths -/
def blsD (bs : List Bool) : D := .list (bs.map .bool)
theorem dp_bls {K : PySem.W.Frag} {H : Hp} : ∀ bs : List Bool, DpAll K H (bs.map V.bl) (bs.map PyData.bool)
  | [] => .nil
  | b :: bs => .cons (.bl b) (dp_bls bs)
def tCnt (k : Int) : TE := fun σ H Q => ∃ l bs, σ[1]? = some (some (.ref l)) ∧ H l = some (.lst (bs.map V.bl)) ∧ SeqAt.shaped (blsD bs) = true ∧ (((bs.map PyData.bool).countP fun z => PyData.eqv z (.bool true) : Nat) : Int) = k ∧ Q (.int k) H
theorem pe_cnt (w : Wc Y a oe c) {p1 p2 p3 p4 : Pos} {k : Int} {j : Nat} (hl : (p2.endLine == p4.line) = true) : PE Y (.Call (.Attribute (.Name "kinds" p1) "count" p2) [.Constant (.bool true) j p3] [] p4) (tCnt k) := by
  refine PE.imp (pe_bm (X := Y) (T := "list") (id := "list.count") (name := "count") (r := rCntD Y.K) F.plainAttrs_list F.slot_list_count F.type_list_count (mt_countD w.u) (pe_var (i := 1) (by rw [w.N]; rfl) (.inl (w.s.lc _ (by simp)))) (pa_cons pe_bl pa_nil) rfl rfl hl rfl rfl) fun σ H Q h => ?_
  obtain ⟨l, bs, k1, k2, k3, rfl, k5⟩ := h
  exact ⟨_, k1, .inl ⟨rfl, _, .of k2⟩, l, .bl true, .bool true, bs.map .bool, rfl, rfl, .lst (.of k2) (dp_bls bs), .bl true, k3, rfl, k5⟩
def tIdx (j : Nat) : TE := fun σ H Q => ∃ l bs, σ[1]? = some (some (.ref l)) ∧ H l = some (.lst (bs.map V.bl)) ∧ SeqAt.shaped (blsD bs) = true ∧ bs[j]? = some true ∧ (∀ m, m < j → bs[m]? = some false) ∧ Q (.int (j : Nat)) H
theorem pe_idx (w : Wc Y a oe c) {p1 p2 p3 p4 : Pos} {k j : Nat} (hl : (p2.endLine == p4.line) = true) : PE Y (.Call (.Attribute (.Name "kinds" p1) "index" p2) [.Constant (.bool true) k p3] [] p4) (tIdx j) := by
  refine PE.imp (pe_bm (X := Y) (T := "list") (id := "list.index") (name := "index") (r := rIndexD Y.K) F.plainAttrs_list F.slot_list_index F.type_list_index (mt_indexD w.u) (pe_var (i := 1) (by rw [w.N]; rfl) (.inl (w.s.lc _ (by simp)))) (pa_cons pe_bl pa_nil) rfl rfl hl rfl rfl) fun σ H Q h => ?_
  obtain ⟨l, bs, k1, k2, k3, k4, k5, k6⟩ := h
  refine ⟨_, k1, .inl ⟨rfl, _, .of k2⟩, l, .bl true, .bool true, bs.map .bool, j, .bool true, rfl, rfl, .lst (.of k2) (dp_bls bs), .bl true, k3, rfl, by rw [List.getElem?_map, k4]; rfl, rfl, fun m z' hm hz => ?_, k6⟩
  rw [List.getElem?_map, k5 m hm] at hz
  cases hz
  rfl
theorem bls_of : ∀ {c : Str}, c ∈ excs9 → (excs9.map fun y => decide (c = y))[excs9.idxOf c]? = some true ∧ (∀ m, m < excs9.idxOf c → (excs9.map fun y => decide (c = y))[m]? = some false) ∧ words9[excs9.idxOf c]? = some (wordOf c) ∧ excs9.idxOf c < 9 ∧
    (((excs9.map fun y => decide (c = y)).map PyData.bool).countP fun z => PyData.eqv z (.bool true)) = 1 ∧ SeqAt.shaped (blsD (excs9.map fun y => decide (c = y))) = true := by
  have h : ∀ c ∈ excs9, (excs9.map fun y => decide (c = y))[excs9.idxOf c]? = some true ∧ (∀ m, m < excs9.idxOf c → (excs9.map fun y => decide (c = y))[m]? = some false) ∧ words9[excs9.idxOf c]? = some (wordOf c) ∧ excs9.idxOf c < 9 ∧
    (((excs9.map fun y => decide (c = y)).map PyData.bool).countP fun z => PyData.eqv z (.bool true)) = 1 ∧ SeqAt.shaped (blsD (excs9.map fun y => decide (c = y))) = true := by
    decide +kernel
  exact fun {c} hc => h c hc
/-- where the method calls stand on one line -/
def wdPos (q : Nat → Pos) : Bool := ((q 51).endLine == (q 56).line) && ((q 59).endLine == (q 61).line) && ((q 87).endLine == (q 89).line)
theorem word_run (w : Wc Y a oe c) {q : Nat → Pos} (hq : wdPos q = true) : ∃ t, PSs Y (wordBody q) t ∧ ∀ (H : Hp) (Q : VK) (N : L2.St → Hp → Prop), (∀ H', Same H H' → Q (.str (wordOf c)) H') → t { nx := N, rt := Q } [some (.ref a), none, none] H := by
  simp only [wdPos, Bool.and_eq_true] at hq
  obtain ⟨⟨q1, q2⟩, q3⟩ := hq
  obtain ⟨b1, b2, b3, b4, b5, b6⟩ := bls_of w.mem
  have mm : ∀ y ∈ excs9, (y == ("__debug__" : Str)) = false := by decide +kernel
  have is : ∀ {y : Str} (hy : y ∈ excs9) {p1 p2 p3 p4 : Pos}, PE Y (.Call (.Name "isinstance" p1) [.Name "what" p2, .Name y p3] [] p4) (tIs a (decide (c = y))) := fun hy => pe_is w hy (mm _ hy)
  have sg : ∀ {y : Str} {p1 p2 p3 p4 : Pos} (es : List Expr) (env : Env), starEach (Expr.Call (.Name "isinstance" p1) [.Name "what" p2, .Name y p3] [] p4 :: es) env = (false, eval (Expr.Call (.Name "isinstance" p1) [.Name "what" p2, .Name y p3] [] p4) env) :: starEach es env := fun _ _ => rfl
  refine ⟨_, pss_cons (ps_kinds w (is (y := "NoTile") (by decide +kernel)) (is (y := "BadTile") (by decide +kernel)) sg sg) (pss_cons (ps_more w (is (y := "Fixed") (by decide +kernel)) (is (y := "NoRoom") (by decide +kernel)) sg sg) (pss_cons (ps_more w (is (y := "NoName") (by decide +kernel)) (is (y := "Same") (by decide +kernel)) sg sg)
    (pss_cons (ps_more w (is (y := "Closed") (by decide +kernel)) (is (y := "NoDeed") (by decide +kernel)) sg sg) (pss_cons (ps_app w (is (y := "NoText") (by decide +kernel)) sg q1)
    (pss_cons (ps_if ((pw_or (pt_cmpR op_ne (pe_cnt w (k := 1) q2) pe_int rfl) (pw_or1 (pt_not (pt_truth (pe_isV w) fun _ => rfl)))).pt) (pss_cons (ps_ret pe_str) pss_nil) pss_nil)
    (pss_cons (ps_set (i := 2) w.nd (by rw [w.N]; rfl) (.inl (w.s.lc _ (by simp))) (pe_tup (pa_cons pe_str (pa_cons pe_str (pa_cons pe_str (pa_cons pe_str (pa_cons pe_str (pa_cons pe_str (pa_cons pe_str (pa_cons pe_str (pa_cons pe_str pa_nil)))))))))) rfl (.inr (w.s.lc _ (by simp))))
    (pss_cons (ps_ret (pe_ix ix_tup (pe_var (i := 2) (by rw [w.N]; rfl) (.inl (w.s.lc _ (by simp)))) (pe_idx w (j := excs9.idxOf c) q3) fun _ _ => rfl)) pss_nil))))))), ?_⟩
  intro H Q N hQ
  refine ⟨rfl, fun p1 H1 s1 n1 e1 => ?_⟩
  refine ⟨p1, _, rfl, rfl, e1, by simp, fun p2 H2 s2 n2 e2 => ?_⟩
  refine ⟨p2, _, rfl, rfl, e2, by simp, fun p3 H3 s3 n3 e3 => ?_⟩
  refine ⟨p3, _, rfl, rfl, e3, by simp, fun p4 H4 s4 n4 e4 => ?_⟩
  have hn4 : H p4 = none := ((s1.trans s2).trans s3).free n4
  refine ⟨p4, _, rfl, rfl, e4, by simp, ?_⟩
  have sH : Same H (upd H4 p4 (.lst (([V.bl (decide (c = "NoTile")), .bl (decide (c = "BadTile"))] ++ [.bl (decide (c = "Fixed")), .bl (decide (c = "NoRoom"))] ++ [.bl (decide (c = "NoName")), .bl (decide (c = "Same"))] ++ [.bl (decide (c = "Closed")), .bl (decide (c = "NoDeed"))]) ++ [.bl (decide (c = "NoText"))]))) := fun b o e => by
    rw [upd_ne (ne_of_none e hn4)]
    exact s4 _ _ (s3 _ _ (s2 _ _ (s1 _ _ e)))
  refine ⟨p4, excs9.map fun y => decide (c = y), rfl, upd_same, b6, ?_, ?_⟩
  · rw [b5]
    rfl
  · refine ⟨rfl, false, rfl, rfl, true, rfl, ?_⟩
    refine ⟨sl_small (by simp), fun p5 n5 => ?_⟩
    have hp54 : p5 ≠ p4 := fun z => by
      subst z
      rw [upd_same] at n5
      cases n5
    refine ⟨_, rfl, p4, excs9.map fun y => decide (c = y), rfl, ?_, b6, b1, b2, p5, _, _, .str (wordOf c), rfl, rfl, .of upd_same, ?_, ?_⟩
    · rw [upd_ne hp54.symm]
      exact upd_same
    · show atI (words9.map V.str) ((excs9.idxOf c : Nat) : Int) = some (.str (wordOf c))
      unfold atI ixN
      rw [if_pos (by omega), if_pos (by show ((excs9.idxOf c : Nat) : Int) < 9; omega)]
      show (words9.map V.str)[((excs9.idxOf c : Nat) : Int).toNat]? = _
      rw [List.getElem?_map, Int.toNat_natCast, b3]
      rfl
    · exact hQ _ (sH.trans (same_upd n5))
end
/-- a def's promise, where an exception is handled -/
theorem fnW_of {P : Program} {w : World} {K : PySem.W.Frag} {mg : Str → Option Value} {base : Heap} {k : Nat} {params : Arguments} {body : List Stmt} {scope : Scope} {fd : FuncData} {q : Nat → Pos}
    (F : FunD K "_law_word" "_law_word" params body scope [] [] (He.fAd K ("_law_word", none)) fd) (Sc : FnScope (["what", "kinds", "words"] : List Str) ["what"] scope) (hb : body = wordBody q) (hq : wdPos q = true) (hk : WdK K mg) (hs : WdS scope) :
    FnW P w K mg base (k + 1) (He.fAd K ("_law_word", none)) fd := by
  obtain ⟨oc, od, dV, kV, doc, pm, an, cdv, ct, osl, rfl, lk, hcd, _, _⟩ := F.ex
  refine ⟨fun c hc A outer s H args Q p hr hpin hz hf e0 hbt hQ => ?_⟩
  have r : Vals [V.ref p.1] [Value.ref p.1] := .cons rfl .nil
  have KX : K.In s.heap := e0.mod.kin.keeps fun b o e => (e0.bs b o e).1
  have lim : s.heap.NoLimit := e0.mod.nolimit.keeps fun b o e => (e0.bs b o e).1
  have hkind : ∀ y ∈ (["what"] : List Str).zip [Value.ref p.1], scope.names.lookup y.1 = some .local ∨ (scope.names.lookup y.1 = some .cell ∧ ((cellsFrom (s.heap.objs.size + 1) scope.names []).lookup y.1).isSome = true) := fun ⟨n, v⟩ hy => by
    rcases Sc.par n (List.of_mem_zip hy).1 with q | q
    · exact .inl q
    · exact .inr ⟨q, PySem.W.cellsFrom_some _ _ _ (.inl q)⟩
  refine codeAny_call_function hr.depth (KX _ _ lk) rfl Sc.co Sc.gen rfl (PySem.W.codeRec_of KX hcd) (hbt _ _ _ _ ?_)
  refine wpAny_newFunctionEnv_cells Sc.kind hkind fun env he s1 x => ?_
  subst he
  refine ⟨lim.keeps x.toInCall.keep, codeAny_func ?_⟩
  have I : L2.Inv (L2H.cxH (L2.CX P w) P w K mg base (["what", "kinds", "words"] : List Str) "_law_word" scope (He.fAd K ("_law_word", none)) cdv A outer s H (fun _ _ _ => False) p) [] (L2.start (["what", "kinds", "words"] : List Str) [V.ref p.1]) H s1 := L2H.inv_startH Sc hpin e0 rfl r x
  have hu : (A.deeper (envOfC "_law_word" scope s.heap.objs.size (He.fAd K ("_law_word", none)) cdv)).units + 65 < cLine := by
    have := hr.un
    show A.units + 3 + 65 < _
    omega
  obtain ⟨t, ht, hq2⟩ := word_run (Y := L2H.cxH (L2.CX P w) P w K mg base (["what", "kinds", "words"] : List Str) "_law_word" scope (He.fAd K ("_law_word", none)) cdv A outer s H (fun _ _ _ => False) p) (a := p.1) (oe := p.2) (c := c)
    ⟨hk, hs, rfl, Sc.nd, hc, hz, hf, List.mem_singleton.mpr rfl, hu⟩ hq
  subst hb
  refine wpAny_mono (ht.run [] s1 _ H _ I (hq2 H Q (fun _ H' => Q .non H') hQ)) (fun fl s' hs' => ?_) fun e s' hs' => hs'
  have fin : ∀ {σ' : L2.St} {H' : Hp} {v : V} {u : Value}, L2.Inv (L2H.cxH (L2.CX P w) P w K mg base (["what", "kinds", "words"] : List Str) "_law_word" scope (He.fAd K ("_law_word", none)) cdv A outer s H (fun _ _ _ => False) p) [] σ' H' s' → RelV v u → Q v H' → CE outer P w H s Q u s' :=
    fun {σ' H' v u} J rv q => ⟨v, H', J.os, J.bare, J.base, J.hok, rv, q⟩
  cases fl with
  | ret u =>
    obtain ⟨v, σ', H', J, rv, q⟩ := hs'
    exact fin J rv q
  | next =>
    obtain ⟨σ', H', J, q⟩ := hs'
    exact fin (v := V.non) (u := Value.none) J rfl q
  | brk =>
    obtain ⟨_, _, _, q⟩ := hs'
    exact False.elim q
  | cont =>
    obtain ⟨_, _, _, q⟩ := hs'
    exact False.elim q
end Tl
set_option maxHeartbeats 4000000
namespace Tl
open PySem PySem.Spec L2
def ecB (K : PySem.W.Frag) (D : Addr) : Bool := decide (PySem.W.findIn K (.ref D) "__getattribute__" = some (some (.builtin "BaseException.__getattribute__"))) && (decide (PySem.W.findIn K (.ref D) "__getattr__" = some none) && (decide (PySem.W.subIn K (.ref D) (.type "BaseException") = some true) && (PySem.W.hasDictIn K D && (decide (PySem.W.findIn K (.ref D) "__class__" = some (some (.builtin "object.__class__"))) &&
  (decide (PySem.W.specialIn K (.builtin "object.__class__") "__get__" = some (some (.builtin "getset_descriptor.__get__"))) && (decide (PySem.W.takesIn K (.builtin "object.__class__") = some true) && decide (PySem.W.mroIn K D (.type "object") = some true)))))))
theorem ecB_ok {K : PySem.W.Frag} {D : Addr} (h : ecB K D = true) : ExcC K D := by
  simp only [ecB, Bool.and_eq_true, decide_eq_true_eq] at h
  obtain ⟨h1, h2, h3, h4, h5, h6, h7, h8⟩ := h
  exact ⟨h1, h2, h3, h4, h5, h6, h7, h8⟩
def wdB (K : PySem.W.Frag) : Bool := excs9.all fun c => ecB K (He.ga K c) && (decide (PySem.W.kitOne K (.ref (He.ga K c)) (.type "ValueError") = some true) && excs9.all fun y => decide (PySem.W.kitOne K (.ref (He.ga K c)) (.ref (He.ga K y)) = some (decide (c = y))))
theorem wdK_of {K : PySem.W.Frag} {mg : Str → Option Value} (h : wdB K = true) (glo : ∀ y ∈ excs9, mg y = some (.ref (He.ga K y))) (h1 : mg "isinstance" = none) (h2 : mg "ValueError" = none) : WdK K mg := by
  have g : ∀ c ∈ excs9, ecB K (He.ga K c) = true ∧ PySem.W.kitOne K (.ref (He.ga K c)) (.type "ValueError") = some true ∧ ∀ y ∈ excs9, PySem.W.kitOne K (.ref (He.ga K c)) (.ref (He.ga K y)) = some (decide (c = y)) := fun c hc => by
    have z := List.all_eq_true.mp h c hc
    simp only [Bool.and_eq_true, decide_eq_true_eq] at z
    exact ⟨z.1, z.2.1, fun y hy => of_decide_eq_true (List.all_eq_true.mp z.2.2 y hy)⟩
  exact ⟨fun c hc => ecB_ok (g c hc).1, fun c hc y hy => (g c hc).2.2 y hy, fun c hc => (g c hc).2.1, glo, h1, h2⟩
end Tl
set_option maxHeartbeats 0
namespace Tl
open PySem PySem.Spec L2 PyProof.Rows
def top (i : Nat) : Stmt := PySem.Challenge.pw_tileyards_k08_whole_rooms.main.body.getD i (.Pass ⟨0, 0, 0, 0⟩)
theorem m_is_whole : mSs ⟨N_is_whole, defScope (top 10), true, false, [], false, [], []⟩ c_is_whole (defBody (top 10)) = true := by decide +kernel
theorem sc_is_whole : FnScope N_is_whole ["thing", "low", "high"] (defScope (top 10)) := ⟨rfl, rfl, rfl, by decide +kernel, rfl, by decide +kernel, by decide +kernel⟩
theorem m_is_name : mSs ⟨N_is_name, defScope (top 11), true, false, [], false, [], [("LETTERS", "abcdefghijklmnopqrstuvwxyz")]⟩ c_is_name (defBody (top 11)) = true := by decide +kernel
theorem sc_is_name : FnScope N_is_name ["thing"] (defScope (top 11)) := ⟨rfl, rfl, rfl, by decide +kernel, rfl, by decide +kernel, by decide +kernel⟩
theorem m_is_tile : mSs ⟨N_is_tile, defScope (top 12), true, false, [], false, [("HIGHEST", 6), ("LOWEST", 99)], []⟩ c_is_tile (defBody (top 12)) = true := by decide +kernel
theorem sc_is_tile : FnScope N_is_tile ["wide", "thing"] (defScope (top 12)) := ⟨rfl, rfl, rfl, by decide +kernel, rfl, by decide +kernel, by decide +kernel⟩
theorem m_do_meet : mSs ⟨N_do_meet, defScope (top 13), true, false, [], false, [], []⟩ c_do_meet (defBody (top 13)) = true := by decide +kernel
theorem sc_do_meet : FnScope N_do_meet ["one", "other"] (defScope (top 13)) := ⟨rfl, rfl, rfl, by decide +kernel, rfl, by decide +kernel, by decide +kernel⟩
theorem m_at_row : mSs ⟨N_at_row, defScope (top 14), true, false, [], false, [], []⟩ c_at_row (defBody (top 14)) = true := by decide +kernel
theorem sc_at_row : FnScope N_at_row ["tile", "top"] (defScope (top 14)) := ⟨rfl, rfl, rfl, by decide +kernel, rfl, by decide +kernel, by decide +kernel⟩
theorem m_is_layout : mSs ⟨N_is_layout, defScope (top 16), true, false, [], false, [], []⟩ c_is_layout (defBody (top 16)) = true := by decide +kernel
theorem sc_is_layout : FnScope N_is_layout ["wide", "thing"] (defScope (top 16)) := ⟨rfl, rfl, rfl, by decide +kernel, rfl, by decide +kernel, by decide +kernel⟩
theorem m_tile_of : mSs ⟨N_tile_of, defScope (top 17), true, false, ["NoTile", "BadTile", "NoRoom", "NoName"], false, [], []⟩ c_tile_of (defBody (top 17)) = true := by decide +kernel
theorem sc_tile_of : FnScope N_tile_of ["layout", "name"] (defScope (top 17)) := ⟨rfl, rfl, rfl, by decide +kernel, rfl, by decide +kernel, by decide +kernel⟩
theorem m_at : mSs ⟨N_at, defScope (top 18), true, false, [], false, [], []⟩ c_at (defBody (top 18)) = true := by decide +kernel
theorem sc_at : FnScope N_at ["layout", "column", "row"] (defScope (top 18)) := ⟨rfl, rfl, rfl, by decide +kernel, rfl, by decide +kernel, by decide +kernel⟩
theorem m_height : mSs ⟨N_height, defScope (top 19), true, false, [], false, [], []⟩ c_height (defBody (top 19)) = true := by decide +kernel
theorem sc_height : FnScope N_height ["layout"] (defScope (top 19)) := ⟨rfl, rfl, rfl, by decide +kernel, rfl, by decide +kernel, by decide +kernel⟩
theorem m_by_order : mSs ⟨N_by_order, defScope (top 20), true, true, [], false, [], []⟩ c_by_order (defBody (top 20)) = true := by decide +kernel
theorem sc_by_order : FnScope N_by_order ["layout"] (defScope (top 20)) := ⟨rfl, rfl, rfl, by decide +kernel, rfl, by decide +kernel, by decide +kernel⟩
theorem m_others : mSs ⟨N_others, defScope (top 21), true, false, [], false, [], []⟩ c_others (defBody (top 21)) = true := by decide +kernel
theorem sc_others : FnScope N_others ["layout", "name"] (defScope (top 21)) := ⟨rfl, rfl, rfl, by decide +kernel, rfl, by decide +kernel, by decide +kernel⟩
theorem m_meets_none : mSs ⟨N_meets_none, defScope (top 22), true, false, [], false, [], []⟩ c_meets_none (defBody (top 22)) = true := by decide +kernel
theorem sc_meets_none : FnScope N_meets_none ["tile", "some"] (defScope (top 22)) := ⟨rfl, rfl, rfl, by decide +kernel, rfl, by decide +kernel, by decide +kernel⟩
theorem m_is_free : mSs ⟨N_is_free, defScope (top 23), true, false, [], false, [], []⟩ c_is_free (defBody (top 23)) = true := by decide +kernel
theorem sc_is_free : FnScope N_is_free ["layout", "tile"] (defScope (top 23)) := ⟨rfl, rfl, rfl, by decide +kernel, rfl, by decide +kernel, by decide +kernel⟩
theorem m_must_be_narrow : mSs ⟨N_must_be_narrow, defScope (top 25), true, false, ["NoTile", "BadTile", "NoRoom", "NoName"], false, [], []⟩ c_must_be_narrow (defBody (top 25)) = true := by decide +kernel
theorem sc_must_be_narrow : FnScope N_must_be_narrow ["wide", "width"] (defScope (top 25)) := ⟨rfl, rfl, rfl, by decide +kernel, rfl, by decide +kernel, by decide +kernel⟩
theorem m_rooms : mSs ⟨N_rooms, defScope (top 26), true, false, [], false, [], []⟩ c_rooms (defBody (top 26)) = true := by decide +kernel
theorem sc_rooms : FnScope N_rooms ["wide", "layout", "width", "high"] (defScope (top 26)) := ⟨rfl, rfl, rfl, by decide +kernel, rfl, by decide +kernel, by decide +kernel⟩
theorem m_room : mSs ⟨N_room, defScope (top 27), true, false, [], false, [], []⟩ c_room (defBody (top 27)) = true := by decide +kernel
theorem sc_room : FnScope N_room ["wide", "layout", "width", "high"] (defScope (top 27)) := ⟨rfl, rfl, rfl, by decide +kernel, rfl, by decide +kernel, by decide +kernel⟩
theorem m_new_name : mSs ⟨N_new_name, defScope (top 28), true, false, ["NoTile", "BadTile", "NoRoom", "NoName"], false, [], [("LETTERS", "abcdefghijklmnopqrstuvwxyz")]⟩ c_new_name (defBody (top 28)) = true := by decide +kernel
theorem sc_new_name : FnScope N_new_name ["layout"] (defScope (top 28)) := ⟨rfl, rfl, rfl, by decide +kernel, rfl, by decide +kernel, by decide +kernel⟩
theorem m_added : mSs ⟨N_added, defScope (top 29), true, false, [], false, [], []⟩ c_added (defBody (top 29)) = true := by decide +kernel
theorem sc_added : FnScope N_added ["wide", "layout", "width", "high"] (defScope (top 29)) := ⟨rfl, rfl, rfl, by decide +kernel, rfl, by decide +kernel, by decide +kernel⟩
theorem m_holes : mSs ⟨N_holes, defScope (top 30), true, false, [], false, [], []⟩ c_holes (defBody (top 30)) = true := by decide +kernel
theorem sc_holes : FnScope N_holes ["wide", "layout"] (defScope (top 30)) := ⟨rfl, rfl, rfl, by decide +kernel, rfl, by decide +kernel, by decide +kernel⟩
theorem m_lowered_to : mSs ⟨N_lowered_to, defScope (top 32), true, false, [], false, [], []⟩ c_lowered_to (defBody (top 32)) = true := by decide +kernel
theorem sc_lowered_to : FnScope N_lowered_to ["tile", "some"] (defScope (top 32)) := ⟨rfl, rfl, rfl, by decide +kernel, rfl, by decide +kernel, by decide +kernel⟩
theorem m_settled : mSs ⟨N_settled, defScope (top 33), true, false, [], false, [], []⟩ c_settled (defBody (top 33)) = true := by decide +kernel
theorem sc_settled : FnScope N_settled ["layout", "first"] (defScope (top 33)) := ⟨rfl, rfl, rfl, by decide +kernel, rfl, by decide +kernel, by decide +kernel⟩
theorem m_must_fit : mSs ⟨N_must_fit, defScope (top 34), true, false, ["NoTile", "BadTile", "NoRoom", "NoName"], false, [], []⟩ c_must_fit (defBody (top 34)) = true := by decide +kernel
theorem sc_must_fit : FnScope N_must_fit ["wide", "layout", "tile"] (defScope (top 34)) := ⟨rfl, rfl, rfl, by decide +kernel, rfl, by decide +kernel, by decide +kernel⟩
theorem m_put : mSs ⟨N_put, defScope (top 35), true, false, ["NoTile", "BadTile", "NoRoom", "NoName"], false, [], []⟩ c_put (defBody (top 35)) = true := by decide +kernel
theorem sc_put : FnScope N_put ["wide", "layout", "tile"] (defScope (top 35)) := ⟨rfl, rfl, rfl, by decide +kernel, rfl, by decide +kernel, by decide +kernel⟩
theorem m_taken : mSs ⟨N_taken, defScope (top 36), true, false, [], false, [], []⟩ c_taken (defBody (top 36)) = true := by decide +kernel
theorem sc_taken : FnScope N_taken ["layout", "name"] (defScope (top 36)) := ⟨rfl, rfl, rfl, by decide +kernel, rfl, by decide +kernel, by decide +kernel⟩
theorem m__law_cell : mSs ⟨N__law_cell, defScope (top 38), true, false, [], false, [], []⟩ c__law_cell (defBody (top 38)) = true := by decide +kernel
theorem sc__law_cell : FnScope N__law_cell ["script", "k"] (defScope (top 38)) := ⟨rfl, rfl, rfl, by decide +kernel, rfl, by decide +kernel, by decide +kernel⟩
theorem m__law_mix : mSs ⟨N__law_mix, defScope (top 39), true, false, [], false, [], []⟩ c__law_mix (defBody (top 39)) = true := by decide +kernel
theorem sc__law_mix : FnScope N__law_mix ["cell", "prime", "many"] (defScope (top 39)) := ⟨rfl, rfl, rfl, by decide +kernel, rfl, by decide +kernel, by decide +kernel⟩
theorem m__law_spots : mSs ⟨N__law_spots, defScope (top 40), true, false, [], false, [], []⟩ c__law_spots (defBody (top 40)) = true := by decide +kernel
theorem sc__law_spots : FnScope N__law_spots ["tile"] (defScope (top 40)) := ⟨rfl, rfl, rfl, by decide +kernel, rfl, by decide +kernel, by decide +kernel⟩
theorem m__law_meets : mSs ⟨N__law_meets, defScope (top 41), true, false, [], false, [], []⟩ c__law_meets (defBody (top 41)) = true := by decide +kernel
theorem sc__law_meets : FnScope N__law_meets ["tile", "some"] (defScope (top 41)) := ⟨rfl, rfl, rfl, by decide +kernel, rfl, by decide +kernel, by decide +kernel⟩
theorem m__law_tile : mSs ⟨N__law_tile, defScope (top 42), true, false, [], false, [], []⟩ c__law_tile (defBody (top 42)) = true := by decide +kernel
theorem sc__law_tile : FnScope N__law_tile ["cell", "wide", "name"] (defScope (top 42)) := ⟨rfl, rfl, rfl, by decide +kernel, rfl, by decide +kernel, by decide +kernel⟩
theorem m__law_layout : mSs ⟨N__law_layout, defScope (top 43), true, false, [], false, [], []⟩ c__law_layout (defBody (top 43)) = true := by decide +kernel
theorem sc__law_layout : FnScope N__law_layout ["cell", "wide", "most"] (defScope (top 43)) := ⟨rfl, rfl, rfl, by decide +kernel, rfl, by decide +kernel, by decide +kernel⟩
theorem m__law_wide : mSs ⟨N__law_wide, defScope (top 44), true, false, [], false, [], []⟩ c__law_wide (defBody (top 44)) = true := by decide +kernel
theorem sc__law_wide : FnScope N__law_wide ["cell"] (defScope (top 44)) := ⟨rfl, rfl, rfl, by decide +kernel, rfl, by decide +kernel, by decide +kernel⟩
theorem m_law : mSs ⟨N_law_k08, defScope (top 45), true, true, [], false, [], []⟩ c_law_k08 (defBody (top 45)) = true := by decide +kernel
theorem sc_law : FnScope N_law_k08 ["script"] (defScope (top 45)) := ⟨rfl, rfl, rfl, by decide +kernel, rfl, by decide +kernel, by decide +kernel⟩
end Tl
set_option maxHeartbeats 0
namespace Tl
open PySem PySem.Spec L2 PyProof.Rows
def mkD (x : Str) (i : Nat) : He.DefD := ⟨(x, none), x, x, defArgs (top i), defBody (top i), defScope (top i), [], []⟩
def fn : List He.DefD := [mkD "is_whole" 10, mkD "is_name" 11, mkD "is_tile" 12, mkD "do_meet" 13, mkD "at_row" 14, mkD "is_layout" 16, mkD "tile_of" 17, mkD "at" 18, mkD "height" 19, mkD "by_order" 20, mkD "others" 21, mkD "meets_none" 22, mkD "is_free" 23, mkD "must_be_narrow" 25, mkD "rooms" 26, mkD "room" 27, mkD "new_name" 28, mkD "added" 29, mkD "holes" 30, mkD "lowered_to" 32, mkD "settled" 33, mkD "must_fit" 34, mkD "put" 35, mkD "taken" 36, mkD "_law_cell" 38, mkD "_law_mix" 39, mkD "_law_spots" 40, mkD "_law_meets" 41, mkD "_law_tile" 42, mkD "_law_layout" 43, mkD "_law_wide" 44, mkD "law" 45]
def fa : List He.Fa := [.glo "is_whole", .glo "is_name", .glo "is_tile", .glo "do_meet", .glo "at_row", .glo "is_layout", .glo "tile_of", .glo "at", .glo "height", .glo "by_order", .glo "others", .glo "meets_none", .glo "is_free", .glo "must_be_narrow", .glo "rooms", .glo "room", .glo "new_name", .glo "added", .glo "holes", .glo "lowered_to", .glo "settled", .glo "must_fit", .glo "put", .glo "taken", .glo "_law_cell", .glo "_law_mix", .glo "_law_spots", .glo "_law_meets", .glo "_law_tile", .glo "_law_layout", .glo "_law_wide", .glo "law", .glo "TileError", .glo "NoTile", .glo "BadTile", .glo "NoRoom", .glo "NoName", .exc "NoTile", .exc "BadTile", .exc "NoRoom", .exc "NoName", .exm "NoTile" "TileError" true, .exm "BadTile" "TileError" true, .exm "NoRoom" "TileError" true, .exm "NoName" "TileError" true, .str "LETTERS" "abcdefghijklmnopqrstuvwxyz", .int "LOWEST" 99, .int "HIGHEST" 6] ++ blts.map He.Fa.free
def tf : List He.Defn := [("by_order", none), ("law", none)]
def exB (K : PySem.W.Frag) : Bool := decide ((tf.map fun p => (He.cT K p).2).Nodup)
abbrev loose : List Str := ("TileError" : Str) :: ("NoTile" : Str) :: ("BadTile" : Str) :: ("NoRoom" : Str) :: ("NoName" : Str) :: ("LETTERS" : Str) :: ("LOWEST" : Str) :: ("HIGHEST" : Str) :: ("is_whole" : Str) :: ("is_name" : Str) :: ("is_tile" : Str) :: ("do_meet" : Str) :: ("at_row" : Str) :: ("is_layout" : Str) :: ("tile_of" : Str) :: ("at" : Str) :: ("height" : Str) :: ("by_order" : Str) :: ("others" : Str) :: ("meets_none" : Str) :: ("is_free" : Str) :: ("must_be_narrow" : Str) :: ("rooms" : Str) :: ("room" : Str) :: ("new_name" : Str) :: ("added" : Str) :: ("holes" : Str) :: ("lowered_to" : Str) :: ("settled" : Str) :: ("must_fit" : Str) :: ("put" : Str) :: ("taken" : Str) :: ("_law_cell" : Str) :: ("_law_mix" : Str) :: ("_law_spots" : Str) :: ("_law_meets" : Str) :: ("_law_tile" : Str) :: ("_law_layout" : Str) :: ("_law_wide" : Str) :: []
abbrev R : PySem.W.OpenRow := PySem.W.OpenLaw.row PySem.Challenge.rw_tileyards_k08_whole_rooms
abbrev hk : PySem.W.Hook := He.hookX 4 fa fn [] tf exB
def ob (s : PySem.W.SharedT) : He.AlX := He.obsX 4 fa fn [] tf exB (HandSHeadRun.getT s)
theorem ob_eq (s : PySem.W.SharedT) : ob s = hk.obs s.abs := He.obsX_eq (HandSHeadRun.getT_eq s)
theorem run (w : World) : HandSHeadRun.RunEq R (PySem.W.view R.prog [45]) hk ob 4000 loose w := by
  intro os
  kernel_rfl
end Tl
set_option maxHeartbeats 0
namespace Tl
open PySem PySem.Spec L2 PyProof.Rows
/-! ### names to promises -/
def look (l : List (Str × Nat × (List D → Res D))) : Fns := fun y => (l.find? fun p => decide (p.1 = y)).map fun p => p.2
theorem look_mem {l : List (Str × Nat × (List D → Res D))} {y : Str} {m : Nat} {ψ : List D → Res D} (h : look l y = some (m, ψ)) : (y, m, ψ) ∈ l := by
  unfold look at h
  obtain ⟨p, h1, h2⟩ := Option.map_eq_some_iff.mp h
  have h0 : decide (p.1 = y) = true := List.find?_some (p := fun p : Str × Nat × (List D → Res D) => decide (p.1 = y)) h1
  have h3 := of_decide_eq_true h0
  obtain ⟨a, b⟩ := p
  have h3 : a = y := h3
  have h2 : b = (m, ψ) := h2
  rw [← h3, ← h2]
  exact List.mem_of_find?_eq_some h1
theorem nodup_inj {α β : Type} {f : α → β} : ∀ {l : List α}, (l.map f).Nodup → ∀ p ∈ l, ∀ q ∈ l, f p = f q → p = q
  | [], _, p, hp, _, _, _ => by cases hp
  | a :: l, h, p, hp, q, hq, e => by
    rw [List.map_cons, List.nodup_cons] at h
    rcases List.mem_cons.mp hp with h1 | h1
    · rcases List.mem_cons.mp hq with h2 | h2
      · rw [h1, h2]
      · exact absurd (show f a ∈ l.map f from List.mem_map.mpr ⟨q, h2, by rw [← e, h1]⟩) h.1
    · rcases List.mem_cons.mp hq with h2 | h2
      · exact absurd (show f a ∈ l.map f from List.mem_map.mpr ⟨p, h1, by rw [e, h2]⟩) h.1
      · exact nodup_inj h.2 p h1 q h2 e
def tbl (K : PySem.W.Frag) : Tbl := tf.map fun p => ((He.cT K p).2, (p.1 ++ ".<locals>.") ++ "<lambda>")
def xsL : List Str := ["NoTile", "BadTile", "NoRoom", "NoName"]
def giL : List (Str × Int) := [("LOWEST", 99), ("HIGHEST", 6)]
def gsL : List (Str × Str) := [("LETTERS", "abcdefghijklmnopqrstuvwxyz")]
/-- all that is known of the head -/
structure Hd (K : PySem.W.Frag) (mg : Str → Option Value) (base : Heap) : Prop where
  d : He.SaysD fa fn K
  glo : ∀ x, He.Fa.glo x ∈ fa → mg x = some (.ref (He.ga K x))
  blt : ∀ y ∈ blts, mg y = none
  lam : ∀ p ∈ tf, LamG K mg base (tbl K) p.1
  exc : ∀ c ∈ xsL, ExF K mg c
  wrd : True
  gci : ∀ y i, (y, i) ∈ giL → ∃ t, mg y = some (.int i t)
  gcs : ∀ y z, (y, z) ∈ gsL → ∃ t, mg y = some (.str z t)
section
variable {P : Program} {w : World} {K : PySem.W.Frag} {mg : Str → Option Value} {base : Heap}
theorem fg__law_cell (h : Hd K mg base) : FnG P w K mg base (tbl K) 1 "_law_cell" 2 law_cellS := by
  obtain ⟨fd, F⟩ := h.d.def_ 24 (d := mkD "_law_cell" 38) rfl
  have b : Binds K fd ["script", "k"] [] := F.bindsN fun _ _ _ _ _ _ us hl => match us, hl with | [_, _], _ => rfl
  refine fnG_of F (h.glo "_law_cell" (by simp [fa])) b (fn_D (k := 0) (Γ := look []) F sc__law_cell rfl m__law_cell h.blt (fun y m ψ hy => ?_) ?_ ?_ ?_ ?_ ?_ (spec_run fun a => run_law_cell _  a))
  · cases look_mem hy
  · exact fun z => by cases z
  · exact fun c z => by cases z
  · exact fun z => by cases z
  · exact fun y i z => by cases z
  · exact fun y i z => by cases z
theorem fg__law_mix (h : Hd K mg base) : FnG P w K mg base (tbl K) 1 "_law_mix" 3 law_mixS := by
  obtain ⟨fd, F⟩ := h.d.def_ 25 (d := mkD "_law_mix" 39) rfl
  have b : Binds K fd ["cell", "prime", "many"] [] := F.bindsN fun _ _ _ _ _ _ us hl => match us, hl with | [_, _, _], _ => rfl
  refine fnG_of F (h.glo "_law_mix" (by simp [fa])) b (fn_D (k := 0) (Γ := look []) F sc__law_mix rfl m__law_mix h.blt (fun y m ψ hy => ?_) ?_ ?_ ?_ ?_ ?_ (spec_run fun a => run_law_mix _  a))
  · cases look_mem hy
  · exact fun z => by cases z
  · exact fun c z => by cases z
  · exact fun z => by cases z
  · exact fun y i z => by cases z
  · exact fun y i z => by cases z
theorem fg__law_wide (h : Hd K mg base) : FnG P w K mg base (tbl K) 2 "_law_wide" 1 law_wideS := by
  obtain ⟨fd, F⟩ := h.d.def_ 30 (d := mkD "_law_wide" 44) rfl
  have b : Binds K fd ["cell"] [] := F.bindsN fun _ _ _ _ _ _ us hl => match us, hl with | [_], _ => rfl
  refine fnG_of F (h.glo "_law_wide" (by simp [fa])) b (fn_D (k := 1) (Γ := look [("_law_mix", 3, law_mixS)]) F sc__law_wide rfl m__law_wide h.blt (fun y m ψ hy => ?_) ?_ ?_ ?_ ?_ ?_ (spec_run fun a => run_law_wide _ (by kernel_rfl) a))
  · have z := look_mem hy
    simp only [List.mem_cons, List.not_mem_nil, or_false, Prod.mk.injEq] at z
    rcases z with ⟨rfl, rfl, rfl⟩
    · exact (fg__law_mix h).mono (by omega)
  · exact fun z => by cases z
  · exact fun c z => by cases z
  · exact fun z => by cases z
  · exact fun y i z => by cases z
  · exact fun y i z => by cases z
theorem fg__law_tile (h : Hd K mg base) : FnG P w K mg base (tbl K) 2 "_law_tile" 3 law_tileS := by
  obtain ⟨fd, F⟩ := h.d.def_ 28 (d := mkD "_law_tile" 42) rfl
  have b : Binds K fd ["cell", "wide", "name"] [] := F.bindsN fun _ _ _ _ _ _ us hl => match us, hl with | [_, _, _], _ => rfl
  refine fnG_of F (h.glo "_law_tile" (by simp [fa])) b (fn_D (k := 1) (Γ := look [("_law_mix", 3, law_mixS)]) F sc__law_tile rfl m__law_tile h.blt (fun y m ψ hy => ?_) ?_ ?_ ?_ ?_ ?_ (spec_run fun a => run_law_tile _ (by kernel_rfl) a))
  · have z := look_mem hy
    simp only [List.mem_cons, List.not_mem_nil, or_false, Prod.mk.injEq] at z
    rcases z with ⟨rfl, rfl, rfl⟩
    · exact (fg__law_mix h).mono (by omega)
  · exact fun z => by cases z
  · exact fun c z => by cases z
  · exact fun z => by cases z
  · exact fun y i z => by cases z
  · exact fun y i z => by cases z
theorem fg__law_spots (h : Hd K mg base) : FnG P w K mg base (tbl K) 1 "_law_spots" 1 law_spotsS := by
  obtain ⟨fd, F⟩ := h.d.def_ 26 (d := mkD "_law_spots" 40) rfl
  have b : Binds K fd ["tile"] [] := F.bindsN fun _ _ _ _ _ _ us hl => match us, hl with | [_], _ => rfl
  refine fnG_of F (h.glo "_law_spots" (by simp [fa])) b (fn_D (k := 0) (Γ := look []) F sc__law_spots rfl m__law_spots h.blt (fun y m ψ hy => ?_) ?_ ?_ ?_ ?_ ?_ (spec_run fun a => run_law_spots _  a))
  · cases look_mem hy
  · exact fun z => by cases z
  · exact fun c z => by cases z
  · exact fun z => by cases z
  · exact fun y i z => by cases z
  · exact fun y i z => by cases z
theorem fg__law_meets (h : Hd K mg base) : FnG P w K mg base (tbl K) 2 "_law_meets" 2 law_meetsS := by
  obtain ⟨fd, F⟩ := h.d.def_ 27 (d := mkD "_law_meets" 41) rfl
  have b : Binds K fd ["tile", "some"] [] := F.bindsN fun _ _ _ _ _ _ us hl => match us, hl with | [_, _], _ => rfl
  refine fnG_of F (h.glo "_law_meets" (by simp [fa])) b (fn_D (k := 1) (Γ := look [("_law_spots", 1, law_spotsS)]) F sc__law_meets rfl m__law_meets h.blt (fun y m ψ hy => ?_) ?_ ?_ ?_ ?_ ?_ (spec_run fun a => run_law_meets _ (by kernel_rfl) a))
  · have z := look_mem hy
    simp only [List.mem_cons, List.not_mem_nil, or_false, Prod.mk.injEq] at z
    rcases z with ⟨rfl, rfl, rfl⟩
    · exact (fg__law_spots h).mono (by omega)
  · exact fun z => by cases z
  · exact fun c z => by cases z
  · exact fun z => by cases z
  · exact fun y i z => by cases z
  · exact fun y i z => by cases z
theorem fg__law_layout (h : Hd K mg base) : FnG P w K mg base (tbl K) 3 "_law_layout" 3 law_layoutS := by
  obtain ⟨fd, F⟩ := h.d.def_ 29 (d := mkD "_law_layout" 43) rfl
  have b : Binds K fd ["cell", "wide", "most"] [] := F.bindsN fun _ _ _ _ _ _ us hl => match us, hl with | [_, _, _], _ => rfl
  refine fnG_of F (h.glo "_law_layout" (by simp [fa])) b (fn_D (k := 2) (Γ := look [("_law_tile", 3, law_tileS), ("_law_meets", 2, law_meetsS)]) F sc__law_layout rfl m__law_layout h.blt (fun y m ψ hy => ?_) ?_ ?_ ?_ ?_ ?_ (spec_run fun a => run_law_layout _ (by kernel_rfl) (by kernel_rfl) a))
  · have z := look_mem hy
    simp only [List.mem_cons, List.not_mem_nil, or_false, Prod.mk.injEq] at z
    rcases z with ⟨rfl, rfl, rfl⟩ | ⟨rfl, rfl, rfl⟩
    · exact (fg__law_tile h).mono (by omega)
    · exact (fg__law_meets h).mono (by omega)
  · exact fun z => by cases z
  · exact fun c z => by cases z
  · exact fun z => by cases z
  · exact fun y i z => by cases z
  · exact fun y i z => by cases z
theorem fg_must_be_narrow (h : Hd K mg base) : FnG P w K mg base (tbl K) 1 "must_be_narrow" 2 must_be_narrowS := by
  obtain ⟨fd, F⟩ := h.d.def_ 13 (d := mkD "must_be_narrow" 25) rfl
  have b : Binds K fd ["wide", "width"] [] := F.bindsN fun _ _ _ _ _ _ us hl => match us, hl with | [_, _], _ => rfl
  refine fnG_of F (h.glo "must_be_narrow" (by simp [fa])) b (fn_D (k := 0) (Γ := look []) F sc_must_be_narrow rfl m_must_be_narrow h.blt (fun y m ψ hy => ?_) ?_ ?_ ?_ ?_ ?_ (spec_run fun a => run_must_be_narrow _  a))
  · cases look_mem hy
  · exact fun z => by cases z
  · exact h.exc
  · exact fun z => by cases z
  · exact fun y i z => by cases z
  · exact fun y i z => by cases z
theorem fg_height (h : Hd K mg base) : FnG P w K mg base (tbl K) 1 "height" 1 heightS := by
  obtain ⟨fd, F⟩ := h.d.def_ 8 (d := mkD "height" 19) rfl
  have b : Binds K fd ["layout"] [] := F.bindsN fun _ _ _ _ _ _ us hl => match us, hl with | [_], _ => rfl
  refine fnG_of F (h.glo "height" (by simp [fa])) b (fn_D (k := 0) (Γ := look []) F sc_height rfl m_height h.blt (fun y m ψ hy => ?_) ?_ ?_ ?_ ?_ ?_ (spec_run fun a => run_height _  a))
  · cases look_mem hy
  · exact fun z => by cases z
  · exact fun c z => by cases z
  · exact fun z => by cases z
  · exact fun y i z => by cases z
  · exact fun y i z => by cases z
theorem fg_do_meet (h : Hd K mg base) : FnG P w K mg base (tbl K) 1 "do_meet" 2 do_meetS := by
  obtain ⟨fd, F⟩ := h.d.def_ 3 (d := mkD "do_meet" 13) rfl
  have b : Binds K fd ["one", "other"] [] := F.bindsN fun _ _ _ _ _ _ us hl => match us, hl with | [_, _], _ => rfl
  refine fnG_of F (h.glo "do_meet" (by simp [fa])) b (fn_D (k := 0) (Γ := look []) F sc_do_meet rfl m_do_meet h.blt (fun y m ψ hy => ?_) ?_ ?_ ?_ ?_ ?_ (spec_run fun a => run_do_meet _  a))
  · cases look_mem hy
  · exact fun z => by cases z
  · exact fun c z => by cases z
  · exact fun z => by cases z
  · exact fun y i z => by cases z
  · exact fun y i z => by cases z
theorem fg_meets_none (h : Hd K mg base) : FnG P w K mg base (tbl K) 2 "meets_none" 2 meets_noneS := by
  obtain ⟨fd, F⟩ := h.d.def_ 11 (d := mkD "meets_none" 22) rfl
  have b : Binds K fd ["tile", "some"] [] := F.bindsN fun _ _ _ _ _ _ us hl => match us, hl with | [_, _], _ => rfl
  refine fnG_of F (h.glo "meets_none" (by simp [fa])) b (fn_D (k := 1) (Γ := look [("do_meet", 2, do_meetS)]) F sc_meets_none rfl m_meets_none h.blt (fun y m ψ hy => ?_) ?_ ?_ ?_ ?_ ?_ (spec_run fun a => run_meets_none _ (by kernel_rfl) a))
  · have z := look_mem hy
    simp only [List.mem_cons, List.not_mem_nil, or_false, Prod.mk.injEq] at z
    rcases z with ⟨rfl, rfl, rfl⟩
    · exact (fg_do_meet h).mono (by omega)
  · exact fun z => by cases z
  · exact fun c z => by cases z
  · exact fun z => by cases z
  · exact fun y i z => by cases z
  · exact fun y i z => by cases z
theorem fg_rooms (h : Hd K mg base) : FnG P w K mg base (tbl K) 3 "rooms" 4 roomsS := by
  obtain ⟨fd, F⟩ := h.d.def_ 14 (d := mkD "rooms" 26) rfl
  have b : Binds K fd ["wide", "layout", "width", "high"] [] := F.bindsN fun _ _ _ _ _ _ us hl => match us, hl with | [_, _, _, _], _ => rfl
  refine fnG_of F (h.glo "rooms" (by simp [fa])) b (fn_D (k := 2) (Γ := look [("must_be_narrow", 2, must_be_narrowS), ("height", 1, heightS), ("meets_none", 2, meets_noneS)]) F sc_rooms rfl m_rooms h.blt (fun y m ψ hy => ?_) ?_ ?_ ?_ ?_ ?_ (spec_run fun a => run_rooms _ (by kernel_rfl) (by kernel_rfl) (by kernel_rfl) a))
  · have z := look_mem hy
    simp only [List.mem_cons, List.not_mem_nil, or_false, Prod.mk.injEq] at z
    rcases z with ⟨rfl, rfl, rfl⟩ | ⟨rfl, rfl, rfl⟩ | ⟨rfl, rfl, rfl⟩
    · exact (fg_must_be_narrow h).mono (by omega)
    · exact (fg_height h).mono (by omega)
    · exact (fg_meets_none h).mono (by omega)
  · exact fun z => by cases z
  · exact fun c z => by cases z
  · exact fun z => by cases z
  · exact fun y i z => by cases z
  · exact fun y i z => by cases z
theorem fg_room (h : Hd K mg base) : FnG P w K mg base (tbl K) 4 "room" 4 roomS := by
  obtain ⟨fd, F⟩ := h.d.def_ 15 (d := mkD "room" 27) rfl
  have b : Binds K fd ["wide", "layout", "width", "high"] [] := F.bindsN fun _ _ _ _ _ _ us hl => match us, hl with | [_, _, _, _], _ => rfl
  refine fnG_of F (h.glo "room" (by simp [fa])) b (fn_D (k := 3) (Γ := look [("rooms", 4, roomsS)]) F sc_room rfl m_room h.blt (fun y m ψ hy => ?_) ?_ ?_ ?_ ?_ ?_ (spec_run fun a => run_room _ (by kernel_rfl) a))
  · have z := look_mem hy
    simp only [List.mem_cons, List.not_mem_nil, or_false, Prod.mk.injEq] at z
    rcases z with ⟨rfl, rfl, rfl⟩
    · exact (fg_rooms h).mono (by omega)
  · exact fun z => by cases z
  · exact fun c z => by cases z
  · exact fun z => by cases z
  · exact fun y i z => by cases z
  · exact fun y i z => by cases z
theorem fg_others (h : Hd K mg base) : FnG P w K mg base (tbl K) 1 "others" 2 othersS := by
  obtain ⟨fd, F⟩ := h.d.def_ 10 (d := mkD "others" 21) rfl
  have b : Binds K fd ["layout", "name"] [] := F.bindsN fun _ _ _ _ _ _ us hl => match us, hl with | [_, _], _ => rfl
  refine fnG_of F (h.glo "others" (by simp [fa])) b (fn_D (k := 0) (Γ := look []) F sc_others rfl m_others h.blt (fun y m ψ hy => ?_) ?_ ?_ ?_ ?_ ?_ (spec_run fun a => run_others _  a))
  · cases look_mem hy
  · exact fun z => by cases z
  · exact fun c z => by cases z
  · exact fun z => by cases z
  · exact fun y i z => by cases z
  · exact fun y i z => by cases z
theorem fg_is_free (h : Hd K mg base) : FnG P w K mg base (tbl K) 3 "is_free" 2 is_freeS := by
  obtain ⟨fd, F⟩ := h.d.def_ 12 (d := mkD "is_free" 23) rfl
  have b : Binds K fd ["layout", "tile"] [] := F.bindsN fun _ _ _ _ _ _ us hl => match us, hl with | [_, _], _ => rfl
  refine fnG_of F (h.glo "is_free" (by simp [fa])) b (fn_D (k := 2) (Γ := look [("meets_none", 2, meets_noneS), ("others", 2, othersS)]) F sc_is_free rfl m_is_free h.blt (fun y m ψ hy => ?_) ?_ ?_ ?_ ?_ ?_ (spec_run fun a => run_is_free _ (by kernel_rfl) (by kernel_rfl) a))
  · have z := look_mem hy
    simp only [List.mem_cons, List.not_mem_nil, or_false, Prod.mk.injEq] at z
    rcases z with ⟨rfl, rfl, rfl⟩ | ⟨rfl, rfl, rfl⟩
    · exact (fg_meets_none h).mono (by omega)
    · exact (fg_others h).mono (by omega)
  · exact fun z => by cases z
  · exact fun c z => by cases z
  · exact fun z => by cases z
  · exact fun y i z => by cases z
  · exact fun y i z => by cases z
theorem fg_new_name (h : Hd K mg base) : FnG P w K mg base (tbl K) 1 "new_name" 1 new_nameS := by
  obtain ⟨fd, F⟩ := h.d.def_ 16 (d := mkD "new_name" 28) rfl
  have b : Binds K fd ["layout"] [] := F.bindsN fun _ _ _ _ _ _ us hl => match us, hl with | [_], _ => rfl
  refine fnG_of F (h.glo "new_name" (by simp [fa])) b (fn_D (k := 0) (Γ := look []) F sc_new_name rfl m_new_name h.blt (fun y m ψ hy => ?_) ?_ ?_ ?_ ?_ ?_ (spec_run fun a => run_new_name _  a))
  · cases look_mem hy
  · exact fun z => by cases z
  · exact h.exc
  · exact fun z => by cases z
  · exact fun y i z => by cases z
  · exact fun y i z => h.gcs y i ((by decide +kernel : ∀ p ∈ ([("LETTERS", "abcdefghijklmnopqrstuvwxyz")] : List (Str × Str)), p ∈ gsL) (y, i) z)
theorem fg_added (h : Hd K mg base) : FnG P w K mg base (tbl K) 5 "added" 4 addedS := by
  obtain ⟨fd, F⟩ := h.d.def_ 17 (d := mkD "added" 29) rfl
  have b : Binds K fd ["wide", "layout", "width", "high"] [] := F.bindsN fun _ _ _ _ _ _ us hl => match us, hl with | [_, _, _, _], _ => rfl
  refine fnG_of F (h.glo "added" (by simp [fa])) b (fn_D (k := 4) (Γ := look [("room", 4, roomS), ("new_name", 1, new_nameS)]) F sc_added rfl m_added h.blt (fun y m ψ hy => ?_) ?_ ?_ ?_ ?_ ?_ (spec_run fun a => run_added _ (by kernel_rfl) (by kernel_rfl) a))
  · have z := look_mem hy
    simp only [List.mem_cons, List.not_mem_nil, or_false, Prod.mk.injEq] at z
    rcases z with ⟨rfl, rfl, rfl⟩ | ⟨rfl, rfl, rfl⟩
    · exact (fg_room h).mono (by omega)
    · exact (fg_new_name h).mono (by omega)
  · exact fun z => by cases z
  · exact fun c z => by cases z
  · exact fun z => by cases z
  · exact fun y i z => by cases z
  · exact fun y i z => by cases z
theorem fg_tile_of (h : Hd K mg base) : FnG P w K mg base (tbl K) 1 "tile_of" 2 tile_ofS := by
  obtain ⟨fd, F⟩ := h.d.def_ 6 (d := mkD "tile_of" 17) rfl
  have b : Binds K fd ["layout", "name"] [] := F.bindsN fun _ _ _ _ _ _ us hl => match us, hl with | [_, _], _ => rfl
  refine fnG_of F (h.glo "tile_of" (by simp [fa])) b (fn_D (k := 0) (Γ := look []) F sc_tile_of rfl m_tile_of h.blt (fun y m ψ hy => ?_) ?_ ?_ ?_ ?_ ?_ (spec_run fun a => run_tile_of _  a))
  · cases look_mem hy
  · exact fun z => by cases z
  · exact h.exc
  · exact fun z => by cases z
  · exact fun y i z => by cases z
  · exact fun y i z => by cases z
theorem fg_is_name (h : Hd K mg base) : FnG P w K mg base (tbl K) 1 "is_name" 1 is_nameS := by
  obtain ⟨fd, F⟩ := h.d.def_ 1 (d := mkD "is_name" 11) rfl
  have b : Binds K fd ["thing"] [] := F.bindsN fun _ _ _ _ _ _ us hl => match us, hl with | [_], _ => rfl
  refine fnG_of F (h.glo "is_name" (by simp [fa])) b (fn_D (k := 0) (Γ := look []) F sc_is_name rfl m_is_name h.blt (fun y m ψ hy => ?_) ?_ ?_ ?_ ?_ ?_ (spec_run fun a => run_is_name _  a))
  · cases look_mem hy
  · exact fun z => by cases z
  · exact fun c z => by cases z
  · exact fun z => by cases z
  · exact fun y i z => by cases z
  · exact fun y i z => h.gcs y i ((by decide +kernel : ∀ p ∈ ([("LETTERS", "abcdefghijklmnopqrstuvwxyz")] : List (Str × Str)), p ∈ gsL) (y, i) z)
theorem fg_is_whole (h : Hd K mg base) : FnG P w K mg base (tbl K) 1 "is_whole" 3 is_wholeS := by
  obtain ⟨fd, F⟩ := h.d.def_ 0 (d := mkD "is_whole" 10) rfl
  have b : Binds K fd ["thing", "low", "high"] [] := F.bindsN fun _ _ _ _ _ _ us hl => match us, hl with | [_, _, _], _ => rfl
  refine fnG_of F (h.glo "is_whole" (by simp [fa])) b (fn_D (k := 0) (Γ := look []) F sc_is_whole rfl m_is_whole h.blt (fun y m ψ hy => ?_) ?_ ?_ ?_ ?_ ?_ (spec_run fun a => run_is_whole _  a))
  · cases look_mem hy
  · exact fun z => by cases z
  · exact fun c z => by cases z
  · exact fun z => by cases z
  · exact fun y i z => by cases z
  · exact fun y i z => by cases z
theorem fg_is_tile (h : Hd K mg base) : FnG P w K mg base (tbl K) 2 "is_tile" 2 is_tileS := by
  obtain ⟨fd, F⟩ := h.d.def_ 2 (d := mkD "is_tile" 12) rfl
  have b : Binds K fd ["wide", "thing"] [] := F.bindsN fun _ _ _ _ _ _ us hl => match us, hl with | [_, _], _ => rfl
  refine fnG_of F (h.glo "is_tile" (by simp [fa])) b (fn_D (k := 1) (Γ := look [("is_name", 1, is_nameS), ("is_whole", 3, is_wholeS)]) F sc_is_tile rfl m_is_tile h.blt (fun y m ψ hy => ?_) ?_ ?_ ?_ ?_ ?_ (spec_run fun a => run_is_tile _ (by kernel_rfl) (by kernel_rfl) a))
  · have z := look_mem hy
    simp only [List.mem_cons, List.not_mem_nil, or_false, Prod.mk.injEq] at z
    rcases z with ⟨rfl, rfl, rfl⟩ | ⟨rfl, rfl, rfl⟩
    · exact (fg_is_name h).mono (by omega)
    · exact (fg_is_whole h).mono (by omega)
  · exact fun z => by cases z
  · exact fun c z => by cases z
  · exact fun z => by cases z
  · exact fun y i z => h.gci y i ((by decide +kernel : ∀ p ∈ ([("HIGHEST", 6), ("LOWEST", 99)] : List (Str × Int)), p ∈ giL) (y, i) z)
  · exact fun y i z => by cases z
theorem fg_must_fit (h : Hd K mg base) : FnG P w K mg base (tbl K) 3 "must_fit" 3 must_fitS := by
  obtain ⟨fd, F⟩ := h.d.def_ 21 (d := mkD "must_fit" 34) rfl
  have b : Binds K fd ["wide", "layout", "tile"] [] := F.bindsN fun _ _ _ _ _ _ us hl => match us, hl with | [_, _, _], _ => rfl
  refine fnG_of F (h.glo "must_fit" (by simp [fa])) b (fn_D (k := 2) (Γ := look [("is_tile", 2, is_tileS), ("others", 2, othersS), ("meets_none", 2, meets_noneS)]) F sc_must_fit rfl m_must_fit h.blt (fun y m ψ hy => ?_) ?_ ?_ ?_ ?_ ?_ (spec_run fun a => run_must_fit _ (by kernel_rfl) (by kernel_rfl) (by kernel_rfl) a))
  · have z := look_mem hy
    simp only [List.mem_cons, List.not_mem_nil, or_false, Prod.mk.injEq] at z
    rcases z with ⟨rfl, rfl, rfl⟩ | ⟨rfl, rfl, rfl⟩ | ⟨rfl, rfl, rfl⟩
    · exact (fg_is_tile h).mono (by omega)
    · exact (fg_others h).mono (by omega)
    · exact (fg_meets_none h).mono (by omega)
  · exact fun z => by cases z
  · exact h.exc
  · exact fun z => by cases z
  · exact fun y i z => by cases z
  · exact fun y i z => by cases z
theorem fg_by_order (h : Hd K mg base) : FnG P w K mg base (tbl K) 9 "by_order" 1 by_orderS := by
  obtain ⟨fd, F⟩ := h.d.def_ 9 (d := mkD "by_order" 20) rfl
  have b : Binds K fd ["layout"] [] := F.bindsN fun _ _ _ _ _ _ us hl => match us, hl with | [_], _ => rfl
  refine fnG_of F (h.glo "by_order" (by simp [fa])) b (fn_D (k := 8) (Γ := look []) F sc_by_order rfl m_by_order h.blt (fun y m ψ hy => ?_) ?_ ?_ ?_ ?_ ?_ (spec_run fun a => run_by_order _  a))
  · cases look_mem hy
  · exact fun _ => ⟨h.lam ("by_order", none) (by decide +kernel), by omega⟩
  · exact fun c z => by cases z
  · exact fun z => by cases z
  · exact fun y i z => by cases z
  · exact fun y i z => by cases z
theorem fg_at_row (h : Hd K mg base) : FnG P w K mg base (tbl K) 1 "at_row" 2 at_rowS := by
  obtain ⟨fd, F⟩ := h.d.def_ 4 (d := mkD "at_row" 14) rfl
  have b : Binds K fd ["tile", "top"] [] := F.bindsN fun _ _ _ _ _ _ us hl => match us, hl with | [_, _], _ => rfl
  refine fnG_of F (h.glo "at_row" (by simp [fa])) b (fn_D (k := 0) (Γ := look []) F sc_at_row rfl m_at_row h.blt (fun y m ψ hy => ?_) ?_ ?_ ?_ ?_ ?_ (spec_run fun a => run_at_row _  a))
  · cases look_mem hy
  · exact fun z => by cases z
  · exact fun c z => by cases z
  · exact fun z => by cases z
  · exact fun y i z => by cases z
  · exact fun y i z => by cases z
theorem fg_lowered_to (h : Hd K mg base) : FnG P w K mg base (tbl K) 3 "lowered_to" 2 lowered_toS := by
  obtain ⟨fd, F⟩ := h.d.def_ 19 (d := mkD "lowered_to" 32) rfl
  have b : Binds K fd ["tile", "some"] [] := F.bindsN fun _ _ _ _ _ _ us hl => match us, hl with | [_, _], _ => rfl
  refine fnG_of F (h.glo "lowered_to" (by simp [fa])) b (fn_D (k := 2) (Γ := look [("meets_none", 2, meets_noneS), ("at_row", 2, at_rowS)]) F sc_lowered_to rfl m_lowered_to h.blt (fun y m ψ hy => ?_) ?_ ?_ ?_ ?_ ?_ (spec_run fun a => run_lowered_to _ (by kernel_rfl) (by kernel_rfl) a))
  · have z := look_mem hy
    simp only [List.mem_cons, List.not_mem_nil, or_false, Prod.mk.injEq] at z
    rcases z with ⟨rfl, rfl, rfl⟩ | ⟨rfl, rfl, rfl⟩
    · exact (fg_meets_none h).mono (by omega)
    · exact (fg_at_row h).mono (by omega)
  · exact fun z => by cases z
  · exact fun c z => by cases z
  · exact fun z => by cases z
  · exact fun y i z => by cases z
  · exact fun y i z => by cases z
theorem fg_settled (h : Hd K mg base) : FnG P w K mg base (tbl K) 10 "settled" 2 settledS := by
  obtain ⟨fd, F⟩ := h.d.def_ 20 (d := mkD "settled" 33) rfl
  have b : Binds K fd ["layout", "first"] [] := F.bindsN fun _ _ _ _ _ _ us hl => match us, hl with | [_, _], _ => rfl
  refine fnG_of F (h.glo "settled" (by simp [fa])) b (fn_D (k := 9) (Γ := look [("others", 2, othersS), ("by_order", 1, by_orderS), ("lowered_to", 2, lowered_toS)]) F sc_settled rfl m_settled h.blt (fun y m ψ hy => ?_) ?_ ?_ ?_ ?_ ?_ (spec_run fun a => run_settled _ (by kernel_rfl) (by kernel_rfl) (by kernel_rfl) a))
  · have z := look_mem hy
    simp only [List.mem_cons, List.not_mem_nil, or_false, Prod.mk.injEq] at z
    rcases z with ⟨rfl, rfl, rfl⟩ | ⟨rfl, rfl, rfl⟩ | ⟨rfl, rfl, rfl⟩
    · exact (fg_others h).mono (by omega)
    · exact (fg_by_order h).mono (by omega)
    · exact (fg_lowered_to h).mono (by omega)
  · exact fun z => by cases z
  · exact fun c z => by cases z
  · exact fun z => by cases z
  · exact fun y i z => by cases z
  · exact fun y i z => by cases z
theorem fg_put (h : Hd K mg base) : FnG P w K mg base (tbl K) 11 "put" 3 putS := by
  obtain ⟨fd, F⟩ := h.d.def_ 22 (d := mkD "put" 35) rfl
  have b : Binds K fd ["wide", "layout", "tile"] [] := F.bindsN fun _ _ _ _ _ _ us hl => match us, hl with | [_, _, _], _ => rfl
  refine fnG_of F (h.glo "put" (by simp [fa])) b (fn_D (k := 10) (Γ := look [("others", 2, othersS), ("must_fit", 3, must_fitS), ("settled", 2, settledS)]) F sc_put rfl m_put h.blt (fun y m ψ hy => ?_) ?_ ?_ ?_ ?_ ?_ (spec_run fun a => run_put _ (by kernel_rfl) (by kernel_rfl) (by kernel_rfl) a))
  · have z := look_mem hy
    simp only [List.mem_cons, List.not_mem_nil, or_false, Prod.mk.injEq] at z
    rcases z with ⟨rfl, rfl, rfl⟩ | ⟨rfl, rfl, rfl⟩ | ⟨rfl, rfl, rfl⟩
    · exact (fg_others h).mono (by omega)
    · exact (fg_must_fit h).mono (by omega)
    · exact (fg_settled h).mono (by omega)
  · exact fun z => by cases z
  · exact h.exc
  · exact fun z => by cases z
  · exact fun y i z => by cases z
  · exact fun y i z => by cases z
theorem fg_taken (h : Hd K mg base) : FnG P w K mg base (tbl K) 2 "taken" 2 takenS := by
  obtain ⟨fd, F⟩ := h.d.def_ 23 (d := mkD "taken" 36) rfl
  have b : Binds K fd ["layout", "name"] [] := F.bindsN fun _ _ _ _ _ _ us hl => match us, hl with | [_, _], _ => rfl
  refine fnG_of F (h.glo "taken" (by simp [fa])) b (fn_D (k := 1) (Γ := look [("tile_of", 2, tile_ofS), ("others", 2, othersS)]) F sc_taken rfl m_taken h.blt (fun y m ψ hy => ?_) ?_ ?_ ?_ ?_ ?_ (spec_run fun a => run_taken _ (by kernel_rfl) (by kernel_rfl) a))
  · have z := look_mem hy
    simp only [List.mem_cons, List.not_mem_nil, or_false, Prod.mk.injEq] at z
    rcases z with ⟨rfl, rfl, rfl⟩ | ⟨rfl, rfl, rfl⟩
    · exact (fg_tile_of h).mono (by omega)
    · exact (fg_others h).mono (by omega)
  · exact fun z => by cases z
  · exact fun c z => by cases z
  · exact fun z => by cases z
  · exact fun y i z => by cases z
  · exact fun y i z => by cases z
theorem fg_is_layout (h : Hd K mg base) : FnG P w K mg base (tbl K) 3 "is_layout" 2 is_layoutS := by
  obtain ⟨fd, F⟩ := h.d.def_ 5 (d := mkD "is_layout" 16) rfl
  have b : Binds K fd ["wide", "thing"] [] := F.bindsN fun _ _ _ _ _ _ us hl => match us, hl with | [_, _], _ => rfl
  refine fnG_of F (h.glo "is_layout" (by simp [fa])) b (fn_D (k := 2) (Γ := look [("is_tile", 2, is_tileS), ("do_meet", 2, do_meetS)]) F sc_is_layout rfl m_is_layout h.blt (fun y m ψ hy => ?_) ?_ ?_ ?_ ?_ ?_ (spec_run fun a => run_is_layout _ (by kernel_rfl) (by kernel_rfl) a))
  · have z := look_mem hy
    simp only [List.mem_cons, List.not_mem_nil, or_false, Prod.mk.injEq] at z
    rcases z with ⟨rfl, rfl, rfl⟩ | ⟨rfl, rfl, rfl⟩
    · exact (fg_is_tile h).mono (by omega)
    · exact (fg_do_meet h).mono (by omega)
  · exact fun z => by cases z
  · exact fun c z => by cases z
  · exact fun z => by cases z
  · exact fun y i z => by cases z
  · exact fun y i z => by cases z
theorem fg_at (h : Hd K mg base) : FnG P w K mg base (tbl K) 1 "at" 3 atS := by
  obtain ⟨fd, F⟩ := h.d.def_ 7 (d := mkD "at" 18) rfl
  have b : Binds K fd ["layout", "column", "row"] [] := F.bindsN fun _ _ _ _ _ _ us hl => match us, hl with | [_, _, _], _ => rfl
  refine fnG_of F (h.glo "at" (by simp [fa])) b (fn_D (k := 0) (Γ := look []) F sc_at rfl m_at h.blt (fun y m ψ hy => ?_) ?_ ?_ ?_ ?_ ?_ (spec_run fun a => run_at _  a))
  · cases look_mem hy
  · exact fun z => by cases z
  · exact fun c z => by cases z
  · exact fun z => by cases z
  · exact fun y i z => by cases z
  · exact fun y i z => by cases z
theorem fg_holes (h : Hd K mg base) : FnG P w K mg base (tbl K) 2 "holes" 2 holesS := by
  obtain ⟨fd, F⟩ := h.d.def_ 18 (d := mkD "holes" 30) rfl
  have b : Binds K fd ["wide", "layout"] [] := F.bindsN fun _ _ _ _ _ _ us hl => match us, hl with | [_, _], _ => rfl
  refine fnG_of F (h.glo "holes" (by simp [fa])) b (fn_D (k := 1) (Γ := look [("height", 1, heightS), ("at", 3, atS)]) F sc_holes rfl m_holes h.blt (fun y m ψ hy => ?_) ?_ ?_ ?_ ?_ ?_ (spec_run fun a => run_holes _ (by kernel_rfl) (by kernel_rfl) a))
  · have z := look_mem hy
    simp only [List.mem_cons, List.not_mem_nil, or_false, Prod.mk.injEq] at z
    rcases z with ⟨rfl, rfl, rfl⟩ | ⟨rfl, rfl, rfl⟩
    · exact (fg_height h).mono (by omega)
    · exact (fg_at h).mono (by omega)
  · exact fun z => by cases z
  · exact fun c z => by cases z
  · exact fun z => by cases z
  · exact fun y i z => by cases z
  · exact fun y i z => by cases z
noncomputable def lawG : Fns := look [("_law_cell", 2, law_cellS), ("_law_wide", 1, law_wideS), ("_law_layout", 3, law_layoutS), ("_law_mix", 3, law_mixS), ("rooms", 4, roomsS), ("room", 4, roomS), ("height", 1, heightS), ("is_free", 2, is_freeS), ("added", 4, addedS), ("tile_of", 2, tile_ofS), ("put", 3, putS), ("taken", 2, takenS), ("is_layout", 2, is_layoutS), ("holes", 2, holesS)]
theorem lawG_ok : G8 lawG := ⟨by kernel_rfl, by kernel_rfl, by kernel_rfl, by kernel_rfl, by kernel_rfl, by kernel_rfl, by kernel_rfl, by kernel_rfl, by kernel_rfl, by kernel_rfl, by kernel_rfl, by kernel_rfl, by kernel_rfl, by kernel_rfl⟩
theorem ok_law (h : Hd K mg base) {fd : FuncData} (F : FunD K "law" "law" (defArgs (top 45)) (defBody (top 45)) (defScope (top 45)) [] [] (He.fAd K ("law", none)) fd) : FnOk P w K mg base (L2.CX P w) 12 (He.fAd K ("law", none)) fd ["script"] (spD (tbl K) K 1 lawS) := by
  refine fn_D (k := 11) (Γ := lawG) F sc_law rfl m_law h.blt (fun y m ψ hy => ?_) ?_ ?_ ?_ ?_ ?_ (spec_run fun a => run_law8 _ lawG_ok a)
  · have z := look_mem (l := [("_law_cell", 2, law_cellS), ("_law_wide", 1, law_wideS), ("_law_layout", 3, law_layoutS), ("_law_mix", 3, law_mixS), ("rooms", 4, roomsS), ("room", 4, roomS), ("height", 1, heightS), ("is_free", 2, is_freeS), ("added", 4, addedS), ("tile_of", 2, tile_ofS), ("put", 3, putS), ("taken", 2, takenS), ("is_layout", 2, is_layoutS), ("holes", 2, holesS)]) hy
    simp only [List.mem_cons, List.not_mem_nil, or_false, Prod.mk.injEq] at z
    rcases z with ⟨rfl, rfl, rfl⟩ | ⟨rfl, rfl, rfl⟩ | ⟨rfl, rfl, rfl⟩ | ⟨rfl, rfl, rfl⟩ | ⟨rfl, rfl, rfl⟩ | ⟨rfl, rfl, rfl⟩ | ⟨rfl, rfl, rfl⟩ | ⟨rfl, rfl, rfl⟩ | ⟨rfl, rfl, rfl⟩ | ⟨rfl, rfl, rfl⟩ | ⟨rfl, rfl, rfl⟩ | ⟨rfl, rfl, rfl⟩ | ⟨rfl, rfl, rfl⟩ | ⟨rfl, rfl, rfl⟩
    · exact (fg__law_cell h).mono (by omega)
    · exact (fg__law_wide h).mono (by omega)
    · exact (fg__law_layout h).mono (by omega)
    · exact (fg__law_mix h).mono (by omega)
    · exact (fg_rooms h).mono (by omega)
    · exact (fg_room h).mono (by omega)
    · exact (fg_height h).mono (by omega)
    · exact (fg_is_free h).mono (by omega)
    · exact (fg_added h).mono (by omega)
    · exact (fg_tile_of h).mono (by omega)
    · exact (fg_put h).mono (by omega)
    · exact (fg_taken h).mono (by omega)
    · exact (fg_is_layout h).mono (by omega)
    · exact (fg_holes h).mono (by omega)
  · exact fun _ => ⟨h.lam ("law", none) (by decide +kernel), by omega⟩
  · exact fun c z => by cases z
  · exact fun z => by cases z
  · exact fun y i z => by cases z
  · exact fun y i z => by cases z
end
theorem lawS_at (ns : List Int) : lawS [scrD ns] = .ok (.bool true) := spec_at (dom := fun ns : List Int => [scrD ns]) (f := fun _ => .ok (.bool true)) (fun a b e => by
  simp only [scrD, List.cons.injEq, PyData.dict.injEq, Prod.mk.injEq, PyData.list.injEq] at e
  exact ints_inj e.1.1.2) ns
theorem facts {l : PySem.W.OpenLaw} {w : World} {K : PySem.W.Frag} {h : Heap} {mg : Str → Option Value} {f : Addr} (KX : K.In h) (G : h.Ns mainGlobals mg) (hfa : mg ("law" : Str) = some (.ref f)) (c : He.SaysX fa fn [] tf exB w h K) : LamX.LawAtS l w K (L2.CX l.prog w) 12 63 "script" mg f h := by
  obtain ⟨fd, F⟩ := c.t.d.def_ 31 (d := mkD "law" 45) rfl
  have glo : ∀ x, He.Fa.glo x ∈ fa → mg x = some (.ref (He.ga K x)) := fun x hx => He.glo_ok KX G (c.t.d.facts hx)
  have e := hfa.symm.trans (glo "law" (by simp [fa]))
  cases e
  have b := FunD.bindsA (ps := ["script"]) F fun _ _ _ _ _ _ us hl => match us, hl with | [_], _ => rfl
  have blt : ∀ y ∈ blts, mg y = none := fun y hy => He.free_ok KX G (c.t.d.facts (List.mem_append_right _ (List.mem_map.mpr ⟨y, hy, rfl⟩)))
  have hx : (tf.map fun p => (He.cT K p).2).Nodup := of_decide_eq_true c.more
  have np : ∀ p ∈ tf, p = (p.1, none) := by
    intro p hp
    revert p
    simp [tf]
  refine ⟨fd, tf.map (He.cT K), spD (tbl K) K 1 lawS, fun p hp => ?_, fun p hp => ?_, fun p hp => ?_, fun s u => b s [u] rfl, fun H a ns hl hb hT hS => ?_, fun base hK hG hTB => ?_⟩
  · obtain ⟨q, hq, rfl⟩ := List.mem_map.mp hp
    exact c.empty q hq
  · obtain ⟨q, hq, rfl⟩ := List.mem_map.mp hp
    exact c.out q hq
  · obtain ⟨q, hq, rfl⟩ := List.mem_map.mp hp
    exact PySem.W.codeHd_of_K KX (c.hd q hq)
  · refine law_sp (fun p hp => ?_) hS (lawS_at ns)
    obtain ⟨q, hq, rfl⟩ := List.mem_map.mp hp
    exact hT _ (List.mem_map.mpr ⟨q, hq, rfl⟩)
  · refine ok_law ⟨c.t.d, glo, blt, fun p hp => ?_, ?_, ?_, ?_, ?_⟩ F
    · have ep := np p hp
      refine ⟨?_, ?_, fun q hq e => ?_⟩
      · rw [← ep]
        exact hTB _ (List.mem_map.mpr ⟨p, hp, rfl⟩)
      · rw [← ep]
        exact List.mem_map.mpr ⟨p, hp, rfl⟩
      · obtain ⟨r, hr, rfl⟩ := List.mem_map.mp hq
        rw [← ep] at e
        rw [nodup_inj (f := fun p => (He.cT K p).2) hx r hr p hp e]
    · intro x hx
      have m : ∀ x ∈ xsL, He.Fa.glo x ∈ fa ∧ He.Fa.exc x ∈ fa ∧ He.Fa.exm x "TileError" true ∈ fa := by
        simp [xsL, fa]
      obtain ⟨m1, m2, m3⟩ := m x hx
      exact ⟨glo x m1, c.t.d.facts m2, He.exm_ok (c.t.d.facts m3), glo "TileError" (by simp [fa])⟩
    · trivial
    · intro y i hy
      have m : ∀ p ∈ giL, He.Fa.int p.1 p.2 ∈ fa := by simp [giL, fa]
      exact He.int_ok KX G (c.t.d.facts (m _ hy))
    · intro y i hy
      have m : ∀ p ∈ gsL, He.Fa.str p.1 p.2 ∈ fa := by simp [gsL, fa]
      exact He.str_ok KX G (c.t.d.facts (m _ hy))
end Tl
open PySem PySem.W PySem.Calls PyProof.Rows
theorem PySem.Challenge.cw_tileyards_k08_whole_rooms_holds : PySem.Challenge.rw_tileyards_k08_whole_rooms.Holds := by
  w_on; o_law
  refine HandSHeadRun.head_any (r := OpenLaw.row PySem.Challenge.rw_tileyards_k08_whole_rooms) (q := view (OpenLaw.row PySem.Challenge.rw_tileyards_k08_whole_rooms).prog [45]) (H := Tl.hk) (ob := Tl.ob) (M := 4000) (loose := Tl.loose) (d := HandSHeadRun.topDef (OpenLaw.row PySem.Challenge.rw_tileyards_k08_whole_rooms).prog 45) (kwd := []) Tl.ob_eq
    (by kernel_rfl) (fun s => by kernel_rfl) Tl.run (by kernel_rfl) (by kernel_rfl) (by kernel_rfl) (by rfl) (by first | assumption | decide +kernel) (by decide +kernel) ⟨rfl, rfl, rfl, rfl, rfl, by decide +kernel⟩ ?hw ?hc
  case hw => w_witness2
  case hc =>
    refine Tl.walk_ofTE (l := PySem.Challenge.rw_tileyards_k08_whole_rooms) (n := 63) (k := 12) (x := "script") (CX := fun w => L2.CX (PySem.Challenge.rw_tileyards_k08_whole_rooms).prog w) rfl (by decide) (by kernel_rfl) ⟨rfl, by decide, by decide⟩ ?F (fun _ _ _ _ _ z => by
      obtain ⟨_, _, _, _, _, _, _, _, _, _, _, _, q⟩ := z
      exact q)
    intro w mg fa h Y G hmg0
    obtain ⟨K, KX, c⟩ := Y
    have hmg : mg ("law" : PySem.Str) = some (.ref fa) := by
      have e : (HandSHeadRun.topDef (OpenLaw.row PySem.Challenge.rw_tileyards_k08_whole_rooms).prog 45).name = ("law" : PySem.Str) := by kernel_rfl
      rw [← e]
      exact hmg0
    exact ⟨K, KX, Tl.facts KX G hmg c⟩
