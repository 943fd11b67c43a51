import PyProof.Rows.All
import HandS.ForMost
import HandS.ForExc
import HandS.IsInst
import HandS.Wide
import HandS.Style
import HandS.ExcIs
import HandS.CallSlots
import HandS.Flow
import HandS.TupAny
import HandS.TupMul
import HandS.TupLe
import HandS.Deep
import HandS.SetFor
import HandS.HeadHook1
import HandS.HeadHook2
import HandS.Conv
import HandS.SortInts
import HandS.Zip
import HandS.Strs
import KE.KStateDown
import HandS.Head0
import HandS.Head1
import HandS.Head2
import HandS.HeadEnd
import PySem.Challenge.RW_safesums_k64_whole_means
set_option Elab.async false
set_option linter.all false
set_option maxRecDepth 100000
set_option maxHeartbeats 4000000
/-! Own layer, part 1: data-level values, slots, results, and how they stand in the abstract heap. -/
namespace Py
open PySem PySem.Spec L2

abbrev D := PyData

/-- a result: a value, an exception of the c-th own class, or nothing is claimed -/
inductive Res (α : Type) where
  | ok (a : α)
  | exc (c : Nat)
  | bad

def Res.bind {α β : Type} : Res α → (α → Res β) → Res β
  | .ok a, f => f a
  | .exc c, _ => .exc c
  | .bad, _ => .bad
@[simp] theorem Res.bind_ok {α β : Type} (a : α) (f : α → Res β) : (Res.ok a).bind f = f a := rfl
@[simp] theorem Res.bind_exc {α β : Type} (c : Nat) (f : α → Res β) : (Res.exc c).bind f = .exc c := rfl
@[simp] theorem Res.bind_bad {α β : Type} (f : α → Res β) : (Res.bad : Res α).bind f = .bad := rfl

/-- a slot: nothing known, data, a list (or dict) that this slot alone holds, a caught exception -/
inductive Sl where
  | un
  | val (o : Bool) (d : D)
  | err (c : Nat)
abbrev Sl.dat (d : D) : Sl := .val false d
abbrev Sl.own (d : D) : Sl := .val true d

abbrev Env' := List Sl

/-! ### data in the abstract heap -/
def kD : Key → D
  | .inl i => .int i
  | .inr x => .str x

mutual
inductive Rep (K : PySem.W.Frag) (H : Hp) : V → D → Prop
  | non : Rep K H .non .none
  | bl (b : Bool) : Rep K H (.bl b) (.bool b)
  | int (i : Int) : Rep K H (.int i) (.int i)
  | str (x : Str) : Rep K H (.str x) (.str x)
  | lst {a : Addr} {xs : List V} {ds : List D} : Rd H a (.lst xs) → RepAll K H xs ds → Rep K H (.ref a) (.list ds)
  | tup {a : Addr} {xs : List V} {ds : List D} : H a = some (.tup xs) → RepAll K H xs ds → Rep K H (.ref a) (.tuple ds)
  | dK {a : Addr} {kvs : List (Key × V)} {ds : List (D × D)} : H a = some (.dK kvs) → RepK K H kvs ds → Rep K H (.ref a) (.dict ds)
  | dT {a : Addr} {kvs : List (List Key × V)} {ds : List (D × D)} : H a = some (.dT kvs) → RepT K H kvs ds → Rep K H (.ref a) (.dict ds)
inductive RepAll (K : PySem.W.Frag) (H : Hp) : List V → List D → Prop
  | nil : RepAll K H [] []
  | cons {v : V} {vs : List V} {d : D} {ds : List D} : Rep K H v d → RepAll K H vs ds → RepAll K H (v :: vs) (d :: ds)
inductive RepK (K : PySem.W.Frag) (H : Hp) : List (Key × V) → List (D × D) → Prop
  | nil : RepK K H [] []
  | cons {k : Key} {v : V} {vs : List (Key × V)} {d : D} {ds : List (D × D)} : Rep K H v d → RepK K H vs ds → RepK K H ((k, v) :: vs) ((kD k, d) :: ds)
inductive RepT (K : PySem.W.Frag) (H : Hp) : List (List Key × V) → List (D × D) → Prop
  | nil : RepT K H [] []
  | cons {k : List Key} {v : V} {vs : List (List Key × V)} {d : D} {ds : List (D × D)} : Rep K H v d → RepT K H vs ds → RepT K H ((k, v) :: vs) ((.tuple (k.map kD), d) :: ds)
end

section
variable {K : PySem.W.Frag} {H H' : Hp}
theorem Same.rd (e : Same H H') {a : Addr} {u : HO} (h : Rd H a u) : Rd H' a u := by
  rcases h with h | ⟨o, h⟩
  · exact .inl (e _ _ h)
  · exact .inr ⟨o, e _ _ h⟩
theorem Same.sqT (e : Same H H') {a : Addr} {xs : List V} (h : SqT K H a xs) : SqT K H' a xs := by
  rcases h with h | h
  · exact .inl (Same.rd e h)
  · exact .inr h
mutual
theorem Rep.same (e : Same H H') : ∀ {v : V} {d : D}, Rep K H v d → Rep K H' v d
  | _, _, .non => .non
  | _, _, .bl b => .bl b
  | _, _, .int i => .int i
  | _, _, .str x => .str x
  | _, _, .lst h r => .lst (Same.rd e h) (RepAll.same e r)
  | _, _, .tup h r => .tup (e _ _ h) (RepAll.same e r)
  | _, _, .dK h r => .dK (e _ _ h) (RepK.same e r)
  | _, _, .dT h r => .dT (e _ _ h) (RepT.same e r)
theorem RepAll.same (e : Same H H') : ∀ {v : List V} {d : List D}, RepAll K H v d → RepAll K H' v d
  | _, _, .nil => .nil
  | _, _, .cons h r => .cons (Rep.same e h) (RepAll.same e r)
theorem RepK.same (e : Same H H') : ∀ {v : List (Key × V)} {d : List (D × D)}, RepK K H v d → RepK K H' v d
  | _, _, .nil => .nil
  | _, _, .cons h r => .cons (Rep.same e h) (RepK.same e r)
theorem RepT.same (e : Same H H') : ∀ {v : List (List Key × V)} {d : List (D × D)}, RepT K H v d → RepT K H' v d
  | _, _, .nil => .nil
  | _, _, .cons h r => .cons (Rep.same e h) (RepT.same e r)
end

/-! ### data without a list, a dict -/
mutual
def imm : D → Bool
  | .none | .bool _ | .int _ | .str _ => true
  | .tuple xs => immAll xs
  | .list _ | .dict _ => false
def immAll : List D → Bool
  | [] => true
  | x :: xs => imm x && immAll xs
end
/-- what keeps every tuple -/
def KeepT (K : PySem.W.Frag) (H H' : Hp) : Prop := ∀ (a : Addr) (xs : List V), H a = some (.tup xs) → H' a = some (.tup xs)
theorem sqT_of {K : PySem.W.Frag} {H : Hp} {a : Addr} {xs : List V} (h : H a = some (.tup xs)) : SqT K H a xs := .inl (.inl h)
mutual
theorem Rep.imm (e : KeepT K H H') : ∀ {v : V} {d : D}, Rep K H v d → imm d = true → Rep K H' v d
  | _, _, .non, _ => .non
  | _, _, .bl b, _ => .bl b
  | _, _, .int i, _ => .int i
  | _, _, .str x, _ => .str x
  | _, _, .lst h r, z => by simp [Py.imm] at z
  | _, _, .tup h r, z => .tup (e _ _ h) (RepAll.imm e r (by simpa [Py.imm] using z))
  | _, _, .dK h r, z => by simp [Py.imm] at z
  | _, _, .dT h r, z => by simp [Py.imm] at z
theorem RepAll.imm (e : KeepT K H H') : ∀ {v : List V} {d : List D}, RepAll K H v d → immAll d = true → RepAll K H' v d
  | _, _, .nil, _ => .nil
  | _, _, .cons h r, z => by
    simp only [Py.immAll, Bool.and_eq_true] at z
    exact .cons (Rep.imm e h z.1) (RepAll.imm e r z.2)
end

theorem RepAll.length : ∀ {v : List V} {d : List D}, RepAll K H v d → v.length = d.length
  | _, _, .nil => rfl
  | _, _, .cons _ r => by simp [RepAll.length r]
theorem RepAll.get : ∀ {v : List V} {d : List D} {i : Nat} {x : V}, RepAll K H v d → v[i]? = some x → ∃ e, d[i]? = some e ∧ Rep K H x e
  | _, _, i, x, .nil, e => by simp at e
  | _, _, 0, x, .cons h r, e => by simp at e; subst e; exact ⟨_, rfl, h⟩
  | _, _, i + 1, x, .cons h r, e => by
    obtain ⟨y, h1, h2⟩ := RepAll.get (i := i) (x := x) r (by simpa using e)
    exact ⟨y, by simpa using h1, h2⟩
theorem RepAll.getD : ∀ {v : List V} {d : List D} {i : Nat} {e : D}, RepAll K H v d → d[i]? = some e → ∃ x, v[i]? = some x ∧ Rep K H x e
  | _, _, i, x, .nil, e => by simp at e
  | _, _, 0, x, .cons h r, e => by simp at e; subst e; exact ⟨_, rfl, h⟩
  | _, _, i + 1, x, .cons h r, e => by
    obtain ⟨y, h1, h2⟩ := RepAll.getD (i := i) (e := x) r (by simpa using e)
    exact ⟨y, by simpa using h1, h2⟩
theorem RepAll.append : ∀ {v v' : List V} {d d' : List D}, RepAll K H v d → RepAll K H v' d' → RepAll K H (v ++ v') (d ++ d')
  | _, _, _, _, .nil, s => s
  | _, _, _, _, .cons h r, s => .cons h (RepAll.append r s)
theorem RepAll.take : ∀ {v : List V} {d : List D} (n : Nat), RepAll K H v d → RepAll K H (v.take n) (d.take n)
  | _, _, 0, _ => by simp; exact .nil
  | _, _, _ + 1, .nil => .nil
  | _, _, n + 1, .cons h r => .cons h (RepAll.take n r)
theorem RepAll.drop : ∀ {v : List V} {d : List D} (n : Nat), RepAll K H v d → RepAll K H (v.drop n) (d.drop n)
  | _, _, 0, r => r
  | _, _, _ + 1, .nil => .nil
  | _, _, n + 1, .cons h r => RepAll.drop n r
theorem RepAll.ints : ∀ (ns : List Int), RepAll K H (ns.map V.int) (ns.map PyData.int)
  | [] => .nil
  | n :: r => .cons (.int n) (RepAll.ints r)

/-! ### what a value of known data is -/
theorem Rep.inv_int {v : V} {i : Int} (h : Rep K H v (.int i)) : v = .int i := by cases h; rfl
theorem Rep.inv_bool {v : V} {b : Bool} (h : Rep K H v (.bool b)) : v = .bl b := by cases h; rfl
theorem Rep.inv_none {v : V} (h : Rep K H v .none) : v = .non := by cases h; rfl
theorem Rep.inv_str {v : V} {x : Str} (h : Rep K H v (.str x)) : v = .str x := by cases h; rfl
theorem Rep.inv_tup {v : V} {ds : List D} (h : Rep K H v (.tuple ds)) : ∃ a xs, v = .ref a ∧ H a = some (.tup xs) ∧ RepAll K H xs ds := by
  cases h with
  | tup h r => exact ⟨_, _, rfl, h, r⟩
theorem Rep.inv_lst {v : V} {ds : List D} (h : Rep K H v (.list ds)) : ∃ a xs, v = .ref a ∧ Rd H a (.lst xs) ∧ RepAll K H xs ds := by
  cases h with
  | lst h r => exact ⟨_, _, rfl, h, r⟩


mutual
def noDict : D → Bool
  | .none | .bool _ | .int _ | .str _ => true
  | .tuple xs => noDictAll xs
  | .list xs => noDictAll xs
  | .dict _ => false
def noDictAll : List D → Bool
  | [] => true
  | x :: xs => noDict x && noDictAll xs
end
mutual
theorem Rep.dp : ∀ {v : V} {d : D}, Rep K H v d → PyData.canLay0 d = true → Dp K H v d
  | _, _, .non, _ => .non
  | _, _, .bl b, _ => .bl b
  | _, _, .int i, _ => .int i
  | _, _, .str x, _ => .str x
  | _, _, .lst h r, z => .lst (.inl h) (RepAll.dp r (by simpa [PyData.canLay0] using z))
  | _, _, .tup h r, z => .tup (sqT_of h) (RepAll.dp r (by simpa [PyData.canLay0] using z))
  | _, _, .dK h r, z => by simp [PyData.canLay0] at z
  | _, _, .dT h r, z => by simp [PyData.canLay0] at z
theorem RepAll.dp : ∀ {v : List V} {d : List D}, RepAll K H v d → PyData.canLayAll0 d = true → DpAll K H v d
  | _, _, .nil, _ => .nil
  | _, _, .cons h r, z => by
    simp only [PyData.canLayAll0, Bool.and_eq_true] at z
    exact .cons (Rep.dp h z.1) (RepAll.dp r z.2)
end
end

/-! ### the slots -/
/-- what a slot shows, own or not -/
def SlOk (K : PySem.W.Frag) (H : Hp) (ov : Option (Option V)) : Sl → Prop
  | .un => True
  | .val _ d => ∃ v, ov = some (some v) ∧ Rep K H v d
  | .err _ => True
/-- for expressions: every slot's value is its data -/
def EOk (K : PySem.W.Frag) (ρ : Env') (σ : St) (H : Hp) : Prop := ρ.length = σ.length ∧ ∀ (i : Nat) (s : Sl), ρ[i]? = some s → SlOk K H (σ[i]?) s
theorem SlOk.same {K : PySem.W.Frag} {H H' : Hp} (e : Same H H') {ov : Option (Option V)} {s : Sl} (h : SlOk K H ov s) : SlOk K H' ov s := by
  cases s with
  | un => trivial
  | val o d => obtain ⟨v, h1, h2⟩ := h; exact ⟨v, h1, h2.same e⟩
  | err c => trivial
theorem EOk.same {K : PySem.W.Frag} {H H' : Hp} (e : Same H H') {ρ : Env'} {σ : St} (h : EOk K ρ σ H) : EOk K ρ σ H' := ⟨h.1, fun i s hi => (h.2 i s hi).same e⟩

/-- a list or a dict at its top -/
def mutTop : D → Bool
  | .list _ | .dict _ => true
  | _ => false

/-- v is an object that did not stand at H, unlocked at H' -/
def New (H H' : Hp) (v : V) : Prop := ∃ a, v = .ref a ∧ H a = none ∧ ∀ o u, H' a ≠ some (.frz o u)
/-- the meaning of an expression -/
abbrev Ex := Env' → Res D
/-- what is wanted behind an expression of result r; fr: a list or dict that it gives is new; W: the wish about exceptions, by the class's address; cA: the address of the c-th class -/
def Post (K : PySem.W.Frag) (cA : Nat → Addr) (W : WX) (σ : St) (H : Hp) (fr : Bool) (r : Res D) (Q : VK) : Prop := match r with
  | .ok d => ∀ v H', Same H H' → Rep K H' v d → (fr = true → mutTop d = true → New H H' v) → Q v H'
  | .exc c => ∀ H', Same H H' → W (.ref (cA c)) none σ H'
  | .bad => False
def tD (K : PySem.W.Frag) (cA : Nat → Addr) (W : WX) (fr : Bool) (f : Ex) (ρ : Env') : TE := fun σ H Q => EOk K ρ σ H ∧ Post K cA W σ H fr (f ρ) Q
/-- .. of a test -/
abbrev Tx := Env' → Res Bool
def PostT (K : PySem.W.Frag) (cA : Nat → Addr) (W : WX) (σ : St) (H : Hp) (r : Res Bool) (Q : Bool → Hp → Prop) : Prop := match r with
  | .ok b => ∀ H', Same H H' → Q b H'
  | .exc c => ∀ H', Same H H' → W (.ref (cA c)) none σ H'
  | .bad => False
def tDT (K : PySem.W.Frag) (cA : Nat → Addr) (W : WX) (f : Tx) (ρ : Env') : TT := fun σ H Q => EOk K ρ σ H ∧ PostT K cA W σ H (f ρ) Q
/-- .. of a list of expressions -/
abbrev As := Env' → Res (List D)
def PostA (K : PySem.W.Frag) (cA : Nat → Addr) (W : WX) (σ : St) (H : Hp) (r : Res (List D)) (Q : List V → Hp → Prop) : Prop := match r with
  | .ok ds => ∀ vs H', Same H H' → RepAll K H' vs ds → Q vs H'
  | .exc c => ∀ H', Same H H' → W (.ref (cA c)) none σ H'
  | .bad => False
def tDA (K : PySem.W.Frag) (cA : Nat → Addr) (W : WX) (f : As) (ρ : Env') : TA := fun σ H Q => EOk K ρ σ H ∧ PostA K cA W σ H (f ρ) Q

/-! ### readings may be strengthened -/
theorem peI {X : Cx} {e : Expr} {t t' : TE} (h : PE X e t) (i : ∀ σ H Q, t' σ H Q → t σ H Q) : PE X e t' := ⟨fun pins s σ H Q I q => h.run pins s σ H Q I (i σ H Q q)⟩
theorem ptI {X : Cx} {e : Expr} {t t' : TT} (h : PT X e t) (i : ∀ σ H Q, t' σ H Q → t σ H Q) : PT X e t' := ⟨fun pins s σ H Q I q => h.run pins s σ H Q I (i σ H Q q)⟩
theorem pwI {X : Cx} {e : Expr} {t t' : TT} (h : PW X e t) (i : ∀ σ H Q, t' σ H Q → t σ H Q) : PW X e t' := ⟨fun wh pins s σ H Q I q => h.run wh pins s σ H Q I (i σ H Q q)⟩
theorem paI {X : Cx} {e : List Expr} {t t' : TA} (h : PA X e t) (i : ∀ σ H Q, t' σ H Q → t σ H Q) : PA X e t' := ⟨fun pos pins s σ H Q I q => h.run pos pins s σ H Q I (i σ H Q q)⟩
theorem psI {X : Cx} {e : Stmt} {t t' : TS} (h : PS X e t) (i : ∀ D σ H, t' D σ H → t D σ H) : PS X e t' := ⟨fun pins s σ H D I q => h.run pins s σ H D I (i D σ H q)⟩
theorem pssI {X : Cx} {e : List Stmt} {t t' : TS} (h : PSs X e t) (i : ∀ D σ H, t' D σ H → t D σ H) : PSs X e t' := ⟨fun pins s σ H D I q => h.run pins s σ H D I (i D σ H q)⟩
end Py

set_option Elab.async false
set_option linter.all false
set_option maxRecDepth 100000
set_option maxHeartbeats 4000000
/-! Own layer, part 2: operators on data. -/
namespace Py
open PySem PySem.Spec L2
open PyProof.Rows hiding St

theorem same_upd {H : Hp} {p : Addr} {o : HO} (h : H p = none) : Same H (upd H p o) := fun b u e => by
  rw [upd_ne (ne_of_none e h)]; exact e

/-! ### chaining -/
section
variable {K : PySem.W.Frag} {cA : Nat → Addr} {W : WX} {σ : St} {H H1 : Hp}
theorem Post.mono {fr : Bool} {r : Res D} {Q : VK} (s : Same H H1) (h : Post K cA W σ H fr r Q) : Post K cA W σ H1 fr r Q := by
  cases r with
  | ok d => exact fun v H' s' r' f => h v H' (s.trans s') r' fun a b => by obtain ⟨x, e1, e2, e3⟩ := f a b; exact ⟨x, e1, s.free e2, e3⟩
  | exc c => exact fun H' s' => h H' (s.trans s')
  | bad => exact h
theorem PostT.mono {r : Res Bool} {Q : Bool → Hp → Prop} (s : Same H H1) (h : PostT K cA W σ H r Q) : PostT K cA W σ H1 r Q := by
  cases r with
  | ok d => exact fun H' s' => h H' (s.trans s')
  | exc c => exact fun H' s' => h H' (s.trans s')
  | bad => exact h
theorem PostA.mono {r : Res (List D)} {Q : List V → Hp → Prop} (s : Same H H1) (h : PostA K cA W σ H r Q) : PostA K cA W σ H1 r Q := by
  cases r with
  | ok d => exact fun v H' s' r' => h v H' (s.trans s') r'
  | exc c => exact fun H' s' => h H' (s.trans s')
  | bad => exact h
theorem Post.bind {fr fr' : Bool} {r : Res D} {k : D → Res D} {Q R : VK} (h : Post K cA W σ H fr (r.bind k) Q)
    (hk : ∀ d v H1, Same H H1 → Rep K H1 v d → Post K cA W σ H1 fr (k d) Q → R v H1) : Post K cA W σ H fr' r R := by
  cases r with
  | ok d => exact fun v H' s' r' _ => hk d v H' s' r' (Post.mono s' h)
  | exc c => exact h
  | bad => exact h
theorem Post.bindT {fr' : Bool} {r : Res D} {k : D → Res Bool} {Q : Bool → Hp → Prop} {R : VK} (h : PostT K cA W σ H (r.bind k) Q)
    (hk : ∀ d v H1, Same H H1 → Rep K H1 v d → PostT K cA W σ H1 (k d) Q → R v H1) : Post K cA W σ H fr' r R := by
  cases r with
  | ok d => exact fun v H' s' r' _ => hk d v H' s' r' (PostT.mono s' h)
  | exc c => exact h
  | bad => exact h
theorem Post.bindA {fr' : Bool} {r : Res D} {k : D → Res (List D)} {Q : List V → Hp → Prop} {R : VK} (h : PostA K cA W σ H (r.bind k) Q)
    (hk : ∀ d v H1, Same H H1 → Rep K H1 v d → PostA K cA W σ H1 (k d) Q → R v H1) : Post K cA W σ H fr' r R := by
  cases r with
  | ok d => exact fun v H' s' r' _ => hk d v H' s' r' (PostA.mono s' h)
  | exc c => exact h
  | bad => exact h
theorem PostT.bind {fr : Bool} {r : Res Bool} {k : Bool → Res D} {Q : VK} {R : Bool → Hp → Prop} (h : Post K cA W σ H fr (r.bind k) Q)
    (hk : ∀ d H1, Same H H1 → Post K cA W σ H1 fr (k d) Q → R d H1) : PostT K cA W σ H r R := by
  cases r with
  | ok d => exact fun H' s' => hk d H' s' (Post.mono s' h)
  | exc c => exact h
  | bad => exact h
theorem PostT.bindT {r : Res Bool} {k : Bool → Res Bool} {Q : Bool → Hp → Prop} {R : Bool → Hp → Prop} (h : PostT K cA W σ H (r.bind k) Q)
    (hk : ∀ d H1, Same H H1 → PostT K cA W σ H1 (k d) Q → R d H1) : PostT K cA W σ H r R := by
  cases r with
  | ok d => exact fun H' s' => hk d H' s' (PostT.mono s' h)
  | exc c => exact h
  | bad => exact h
theorem PostA.bind {fr : Bool} {r : Res (List D)} {k : List D → Res D} {Q : VK} {R : List V → Hp → Prop} (h : Post K cA W σ H fr (r.bind k) Q)
    (hk : ∀ d v H1, Same H H1 → RepAll K H1 v d → Post K cA W σ H1 fr (k d) Q → R v H1) : PostA K cA W σ H r R := by
  cases r with
  | ok d => exact fun v H' s' r' => hk d v H' s' r' (Post.mono s' h)
  | exc c => exact h
  | bad => exact h
theorem PostA.bindA {r : Res (List D)} {k : List D → Res (List D)} {Q : List V → Hp → Prop} {R : List V → Hp → Prop} (h : PostA K cA W σ H (r.bind k) Q)
    (hk : ∀ d v H1, Same H H1 → RepAll K H1 v d → PostA K cA W σ H1 (k d) Q → R v H1) : PostA K cA W σ H r R := by
  cases r with
  | ok d => exact fun v H' s' r' => hk d v H' s' r' (PostA.mono s' h)
  | exc c => exact h
  | bad => exact h
end

/-! ### operations of values: nothing raised -/
def PostO (K : PySem.W.Frag) (H : Hp) (fr : Bool) (o : Option D) (Q : VK) : Prop := match o with
  | some d => ∀ v H', Same H H' → Rep K H' v d → (fr = true → mutTop d = true → New H H' v) → Q v H'
  | none => False
def ofO {α : Type} : Option α → Res α
  | some d => .ok d
  | none => .bad
@[simp] theorem ofO_some {α : Type} (d : α) : ofO (some d) = .ok d := rfl
@[simp] theorem ofO_none {α : Type} : ofO (none : Option α) = .bad := rfl
theorem Post.ofO {K : PySem.W.Frag} {cA : Nat → Addr} {W : WX} {σ : St} {H : Hp} {fr : Bool} {o : Option D} {Q : VK} (h : Post K cA W σ H fr (Py.ofO o) Q) : PostO K H fr o Q := by
  cases o with
  | none => exact h
  | some d => exact h
def rD (K : PySem.W.Frag) (fr : Bool) (op : D → D → Option D) : R2 := fun x y H Q => ∃ d e, Rep K H x d ∧ Rep K H y e ∧ PostO K H fr (op d e) Q
/-- an operation on values does what op does on data -/
abbrev OpD (X : Cx) (f : Value → Value → Sem Value) (fr : Bool) (op : D → D → Option D) : Prop := OpR X f (rD X.K fr op)

section
variable {K : PySem.W.Frag} {H : Hp} {Q : VK} {fr : Bool}
theorem PostO.plain {d : D} {v : V} (h : PostO K H fr (some d) Q) (r : Rep K H v d) (m : mutTop d = false) : Q v H := h v H (Same.refl H) r fun _ z => by rw [m] at z; cases z
theorem PostO.int {i : Int} (h : PostO K H fr (some (.int i)) Q) : Q (.int i) H := h.plain (.int i) rfl
theorem PostO.bool {i : Bool} (h : PostO K H fr (some (.bool i)) Q) : Q (.bl i) H := h.plain (.bl i) rfl
theorem PostO.str {i : Str} (h : PostO K H fr (some (.str i)) Q) : Q (.str i) H := h.plain (.str i) rfl
theorem PostO.newL {ds : List D} {xs : List V} (h : PostO K H fr (some (.list ds)) Q) (r : RepAll K H xs ds) : ∀ p, H p = none → Q (.ref p) (upd H p (.lst xs)) := fun p np =>
  h _ _ (same_upd np) (.lst (.inl upd_same) (r.same (same_upd np))) fun _ _ => ⟨p, rfl, np, fun o u z => by rw [upd_same] at z; cases z⟩
theorem PostO.newT {ds : List D} {xs : List V} (h : PostO K H fr (some (.tuple ds)) Q) (r : RepAll K H xs ds) : ∀ p, H p = none → Q (.ref p) (upd H p (.tup xs)) := fun p np =>
  h _ _ (same_upd np) (.tup upd_same (r.same (same_upd np))) fun _ z => by cases z
end

section
variable {X : Cx}
theorem lstR {pins : List (Addr × Obj)} {σ : St} {H : Hp} {s : Shared} {l : Addr} {xs : List V} (I : Inv X pins σ H s) (hH : Rd H l (.lst xs)) : xs.length ≤ sizeLine ∧ ∃ (its : List Value) (n : Nat), Vals xs its ∧ xs.length = its.length ∧ s.heap.get? l = some { cls := .type "list", data := .seq its.toArray n } := by
  obtain ⟨z, its, n, r, e⟩ := hH.ok I.hok
  exact ⟨z, its, n, r, r.length, e⟩
def rCatR : R2 := fun x y H Q => ∃ l b xs zs, x = .ref l ∧ y = .ref b ∧ Rd H l (.lst xs) ∧ Rd H b (.lst zs) ∧ xs.length + zs.length ≤ sizeLine ∧ ∀ p, H p = none → Q (.ref p) (upd H p (.lst (xs ++ zs)))
theorem op_catR : OpR X (binaryOp .Add) rCatR := by
  intro pins s σ H x y v u Q I rx ry h
  obtain ⟨l, b, xs, zs, rfl, rfl, hH, hB, hz, q⟩ := h
  cases rx
  cases ry
  obtain ⟨z, its, n, r, hl, e⟩ := lstR I hH
  obtain ⟨z2, its2, n2, r2, hl2, e2⟩ := lstR I hB
  refine PySem.P.add_list e e2 ?_ (by rw [List.size_toArray, List.size_toArray]; omega)
  have ea : its.toArray ++ its2.toArray = (its ++ its2).toArray := by simp
  rw [ea]
  exact ⟨.ref _, _, I.lnew (t' := s.toks) (r.append r2) (by rw [List.length_append]; omega), rfl, q _ I.fresh⟩

/-! ### + -/
def addD : D → D → Option D
  | .int i, .int j => some (.int (i + j))
  | .str x, .str y => if x.length + y.length ≤ sizeLine then some (.str (x ++ y)) else none
  | .list xs, .list ys => if xs.length + ys.length ≤ sizeLine then some (.list (xs ++ ys)) else none
  | .tuple xs, .tuple ys => if xs.length + ys.length ≤ sizeLine then some (.tuple (xs ++ ys)) else none
  | _, _ => none
theorem od_add : OpD X (binaryOp .Add) true addD := by
  intro pins s σ H x y v u Q I rx ry h
  obtain ⟨d, e, hd, he, q⟩ := h
  cases hd with
  | int i => cases he with
    | int j => exact op_add pins s σ H _ _ v u Q I rx ry ⟨i, j, rfl, rfl, q.int⟩
    | _ => exact q.elim
  | str a => cases he with
    | str b =>
      simp only [addD] at q
      split at q
      · rename_i hz
        exact op_add_str pins s σ H _ _ v u Q I rx ry ⟨a, b, rfl, rfl, hz, q.str⟩
      · exact q.elim
    | _ => exact q.elim
  | lst h1 r1 => cases he with
    | lst h2 r2 =>
      simp only [addD] at q
      split at q
      · rename_i hz
        rw [← r1.length, ← r2.length] at hz
        exact op_catR pins s σ H _ _ v u Q I rx ry ⟨_, _, _, _, rfl, rfl, h1, h2, hz, q.newL (r1.append r2)⟩
      · exact q.elim
    | _ => exact q.elim
  | tup h1 r1 => cases he with
    | tup h2 r2 =>
      simp only [addD] at q
      split at q
      · rename_i hz
        have l1 := r1.length
        have l2 := r2.length
        refine op_catA pins s σ H _ _ v u Q I rx ry ⟨_, _, _, _, rfl, rfl, sqT_of h1, sqT_of h2, by omega, fun z => ?_, fun _ z => ?_, fun _ _ => q.newT (r1.append r2)⟩
        · subst z
          cases r1
          exact q.plain (.tup h2 r2) rfl
        · subst z
          cases r2
          rw [List.append_nil] at q
          exact q.plain (.tup h1 r1) rfl
      · exact q.elim
    | _ => exact q.elim
  | _ => exact q.elim

/-! ### - * // % ** << -/
def subD : D → D → Option D
  | .int i, .int j => some (.int (i - j))
  | _, _ => none
theorem od_sub : OpD X (binaryOp .Sub) true subD := by
  intro pins s σ H x y v u Q I rx ry h
  obtain ⟨d, e, hd, he, q⟩ := h
  cases hd with
  | int i => cases he with
    | int j => exact op_sub pins s σ H _ _ v u Q I rx ry ⟨i, j, rfl, rfl, q.int⟩
    | _ => exact q.elim
  | _ => exact q.elim

def rRepR : R2 := fun x y H Q => ∃ l k xs, x = .ref l ∧ y = .int k ∧ Rd H l (.lst xs) ∧ -(2 ^ 63) ≤ k ∧ k < 2 ^ 63 ∧ xs.length * k.toNat ≤ sizeLine ∧
  ∀ p, H p = none → Q (.ref p) (upd H p (.lst (List.replicate k.toNat xs).flatten))
theorem op_repR : OpR X (binaryOp .Mult) rRepR := by
  intro pins s σ H x y v u Q I rx ry h
  obtain ⟨l, k, xs, rfl, rfl, hH, h1, h2, hz, q⟩ := h
  cases rx
  obtain ⟨t, rfl⟩ := ry
  obtain ⟨z, its, n, r, hl, e⟩ := lstR I hH
  have hlen : its.toArray.size * k.toNat ≤ sizeLine := by rw [List.size_toArray, ← hl]; exact hz
  have hcap : ¬ its.toArray.size * k.toNat > (2 ^ 63 - 1) / 8 := by
    have : (sizeLine : Nat) ≤ (2 ^ 63 - 1) / 8 := by decide
    omega
  have hfit : ¬ (!Builtin.List.listFitsIndex k) = true := by
    rw [fitsIndex_both h1 h2]
    exact Bool.false_ne_true
  have hlong : ¬ Builtin.List.listTooLong (its.toArray.size * k.toNat) = true := by
    rw [notLongL hlen]
    exact Bool.false_ne_true
  have hnew : List.foldl (fun x1 x2 => x1 ++ x2) #[] (List.replicate (if its.toArray.isEmpty = true then 0 else k.toNat) its.toArray) = (List.replicate k.toNat its).flatten.toArray := by
    have f0 : ∀ m : Nat, List.foldl (fun x1 x2 => x1 ++ x2) #[] (List.replicate m its.toArray) = (List.replicate m its).flatten.toArray := fun m => by
      have := foldl_rep its m []
      rw [List.nil_append] at this
      exact this
    rw [f0]
    cases its with
    | nil => simp
    | cons a r' => rw [if_neg (by simp)]
  refine wpAny_binaryOp_repeat_ref (T := "list") (U := "int") (by decide) ⟨_, e, rfl⟩ (fun s' => typeIs_int s' k t) noFill_list_mul F.fills_int_mul F.slot_int_rmul repeat_list F.slot_int_index.lookup
    (call_meets F.slot_int_rmul (typeIs_int s k t) F.entry_int_rmul (F.args_int_rmul_2 _ _) (int___rmul___int_list k t l its.toArray n)
      ⟨e, rfl, ⟨_, e, rfl⟩, call_meets F.slot_list_mul ⟨_, e, rfl⟩ F.entry_list_mul (F.args_list_mul_2 _ _) (AutoListH.list___mul___list_int_3 l its.toArray n k t hfit hcap hlong) ⟨e, ?_⟩⟩)
  rw [hnew]
  exact ⟨.ref _, _, I.lnew (t' := s.toks) (r.rep k.toNat) (by rw [lm_len_rep_flat, Nat.mul_comm]; exact hz), rfl, q _ I.fresh⟩
end
end Py

set_option Elab.async false
set_option linter.all false
set_option maxRecDepth 100000
set_option maxHeartbeats 4000000
/-! Own layer, part 3: more operators, comparisons, items, slices. -/
namespace Py
open PySem PySem.Spec L2
open PyProof.Rows hiding St
section
variable {X : Cx}

instance CMul.dec (i j : Int) : Decidable (CMul i j) := by unfold CMul; infer_instance
def mulD : D → D → Option D
  | .int i, .int j => if CMul i j then some (.int (i * j)) else none
  | .list xs, .int k => if -(2 ^ 63) ≤ k ∧ k < 2 ^ 63 ∧ xs.length * k.toNat ≤ sizeLine then some (.list (List.replicate k.toNat xs).flatten) else none
  | .tuple xs, .int k => if xs ≠ [] ∧ 1 ≤ k ∧ k ≤ 1000 ∧ xs.length ≤ 1000 then some (.tuple (List.replicate k.toNat xs).flatten) else none
  | _, _ => none
theorem RepAll.rep {K : PySem.W.Frag} {H : Hp} {xs : List V} {ds : List D} (r : RepAll K H xs ds) : ∀ n : Nat, RepAll K H (List.replicate n xs).flatten (List.replicate n ds).flatten
  | 0 => .nil
  | n + 1 => by
    rw [List.replicate_succ, List.replicate_succ, List.flatten_cons, List.flatten_cons]
    exact r.append (RepAll.rep r n)
theorem tup_times1 (t : Addr) (us : Array Value) (m : Nat) (dc : Option Addr) (ss : Array (Option Value)) (u : Tok) :
    Meets (Builtin.«tuple.__mul__» ⟨[.ref t, .int 1 u], []⟩) (fun _ R s => s.heap.get? t = some { cls := .type "tuple", dict := dc, data := .seq us m, slots := ss } ∧ R (.ok (.ret (Value.ref t))) s) :=
  .of_wp fun prog w A R s z => by
    obtain ⟨g0, g1, g2, g3, g4⟩ := s
    obtain ⟨zt, z⟩ := z
    have f1 := AutoSeq1.idx_int
    wp_walk using AutoSeq1.wpAny_loadPart' zt
    exact ⟨_, rfl, z⟩
theorem op_rep1 : OpR X (binaryOp .Mult) (fun x y H Q => ∃ l xs, x = .ref l ∧ y = .int 1 ∧ SqT X.K H l xs ∧ Q (.ref l) H) := by
  intro pins s σ H x y v u Q I rx ry h
  obtain ⟨l, xs, rfl, rfl, hT, q⟩ := h
  cases rx
  obtain ⟨t, rfl⟩ := ry
  obtain ⟨us, rv, ⟨⟨c, dc, dt, ss⟩, o1, o2, m, o3⟩, _⟩ := I.tuple hT
  simp only at o2 o3
  subst o2 o3
  exact wpAny_binaryOp_repeat_ref (T := "tuple") (U := "int") (by decide) ⟨_, o1, rfl⟩ (fun z => typeIs_int z 1 t) noFill_tuple_mul F.fills_int_mul F.slot_int_rmul repeat_tuple F.slot_int_index.lookup
    (call_meets F.slot_int_rmul (typeIs_int s 1 t) F.entry_int_rmul (F.args_int_rmul_2 _ _) (int_rmul_tuple 1 t l us.toArray m dc ss)
      ⟨o1, rfl, ⟨_, o1, rfl⟩, call_meets F.slot_tuple_mul ⟨_, o1, rfl⟩ F.entry_tuple_mul (F.args_tuple_mul_2 _ _) (tup_times1 l us.toArray m dc ss t) ⟨o1, ⟨.ref l, H, I, rfl, q⟩⟩⟩)
theorem od_mul : OpD X (binaryOp .Mult) true mulD := by
  intro pins s σ H x y v u Q I rx ry h
  obtain ⟨d, e, hd, he, q⟩ := h
  cases hd with
  | int i => cases he with
    | int j =>
      simp only [mulD] at q
      split at q
      · rename_i hc
        exact op_mul pins s σ H _ _ v u Q I rx ry ⟨i, j, rfl, rfl, hc, q.int⟩
      · exact q.elim
    | _ => exact q.elim
  | lst h1 r1 => cases he with
    | int j =>
      simp only [mulD] at q
      split at q
      · rename_i hc
        rw [← r1.length] at hc
        exact op_repR pins s σ H _ _ v u Q I rx ry ⟨_, j, _, rfl, rfl, h1, hc.1, hc.2.1, hc.2.2, q.newL (r1.rep _)⟩
      · exact q.elim
    | _ => exact q.elim
  | tup h1 r1 => cases he with
    | int j =>
      simp only [mulD] at q
      split at q
      · rename_i hc
        have l1 := r1.length
        by_cases h2 : j = 1
        · subst h2
          refine op_rep1 pins s σ H _ _ v u Q I rx ry ⟨_, _, rfl, rfl, sqT_of h1, PostO.plain q (.tup h1 ?_) rfl⟩
          simp only [Int.toNat_one, List.replicate_one, List.flatten_cons, List.flatten_nil, List.append_nil]
          exact r1
        · refine op_repT pins s σ H _ _ v u Q I rx ry ⟨_, j, _, rfl, rfl, sqT_of h1, fun z => ?_, by omega, hc.2.2.1, by omega, q.newT (r1.rep _)⟩
          subst z
          cases r1
          exact hc.1 rfl
      · exact q.elim
    | _ => exact q.elim
  | _ => exact q.elim

instance CDivW.dec (i j : Int) : Decidable (CDivW i j) := by unfold CDivW; infer_instance
def fdivD : D → D → Option D
  | .int i, .int j => if CDivW i j then some (.int (i / j)) else none
  | _, _ => none
theorem od_fdiv : OpD X (binaryOp .FloorDiv) true fdivD := by
  intro pins s σ H x y v u Q I rx ry h
  obtain ⟨d, e, hd, he, q⟩ := h
  cases hd with
  | int i => cases he with
    | int j =>
      simp only [fdivD] at q
      split at q
      · rename_i hc
        exact op_fdivW pins s σ H _ _ v u Q I rx ry ⟨i, j, rfl, rfl, hc, q.int⟩
      · exact q.elim
    | _ => exact q.elim
  | _ => exact q.elim
def modD : D → D → Option D
  | .int i, .int j => if 0 < j then some (.int (i % j)) else none
  | _, _ => none
theorem od_mod : OpD X (binaryOp .Mod) true modD := by
  intro pins s σ H x y v u Q I rx ry h
  obtain ⟨d, e, hd, he, q⟩ := h
  cases hd with
  | int i => cases he with
    | int j =>
      simp only [modD] at q
      split at q
      · rename_i hc
        exact op_mod pins s σ H _ _ v u Q I rx ry ⟨i, j, rfl, rfl, hc, q.int⟩
      · exact q.elim
    | _ => exact q.elim
  | _ => exact q.elim
instance CPow.dec (i j : Int) : Decidable (CPow i j) := by unfold CPow; infer_instance
def powD : D → D → Option D
  | .int i, .int j => if CPow i j then some (.int (i ^ j.toNat)) else none
  | _, _ => none
theorem od_pow : OpD X (binaryOp .Pow) true powD := by
  intro pins s σ H x y v u Q I rx ry h
  obtain ⟨d, e, hd, he, q⟩ := h
  cases hd with
  | int i => cases he with
    | int j =>
      simp only [powD] at q
      split at q
      · rename_i hc
        exact op_pow pins s σ H _ _ v u Q I rx ry ⟨i, j, rfl, rfl, hc, q.int⟩
      · exact q.elim
    | _ => exact q.elim
  | _ => exact q.elim
def shlD : D → D → Option D
  | .int i, .int j => if CPow i j then some (.int (i * 2 ^ j.toNat)) else none
  | _, _ => none
theorem od_shl : OpD X (binaryOp .LShift) true shlD := by
  intro pins s σ H x y v u Q I rx ry h
  obtain ⟨d, e, hd, he, q⟩ := h
  cases hd with
  | int i => cases he with
    | int j =>
      simp only [shlD] at q
      split at q
      · rename_i hc
        exact op_shl pins s σ H _ _ v u Q I rx ry ⟨i, j, rfl, rfl, hc, q.int⟩
      · exact q.elim
    | _ => exact q.elim
  | _ => exact q.elim

/-! ### == != -/
def eqD (d e : D) : Option D := if SeqAt.shaped d = true ∧ SeqAt.shaped e = true then some (.bool (PyData.eqv d e)) else none
def neD (d e : D) : Option D := if SeqAt.shaped d = true ∧ SeqAt.shaped e = true then some (.bool (!PyData.eqv d e)) else none
theorem od_eq (hu : X.A.units + 64 < cLine) : OpD X (compareOp .Eq) true eqD := by
  intro pins s σ H x y v u Q I rx ry h
  obtain ⟨d, e, hd, he, q⟩ := h
  unfold eqD at q
  split at q
  · rename_i hc
    exact op_eqD hu pins s σ H _ _ v u Q I rx ry ⟨d, e, hd.dp (SeqAt.canLay_of_shaped hc.1), he.dp (SeqAt.canLay_of_shaped hc.2), hc.1, hc.2, q.bool⟩
  · exact q.elim
theorem od_ne (hu : X.A.units + 64 < cLine) : OpD X (compareOp .NotEq) true neD := by
  intro pins s σ H x y v u Q I rx ry h
  obtain ⟨d, e, hd, he, q⟩ := h
  unfold neD at q
  split at q
  · rename_i hc
    exact op_neD hu pins s σ H _ _ v u Q I rx ry ⟨d, e, hd.dp (SeqAt.canLay_of_shaped hc.1), he.dp (SeqAt.canLay_of_shaped hc.2), hc.1, hc.2, q.bool⟩
  · exact q.elim

/-! ### < <= > >= -/
def ltD : D → D → Option D
  | .int i, .int j => some (.bool (decide (i < j)))
  | .str i, .str j => some (.bool (decide (i.cps.toList < j.cps.toList)))
  | _, _ => none
theorem od_lt : OpD X (compareOp .Lt) true ltD := by
  intro pins s σ H x y v u Q I rx ry h
  obtain ⟨d, e, hd, he, q⟩ := h
  cases hd with
  | int i => cases he with
    | int j => exact op_lt pins s σ H _ _ v u Q I rx ry ⟨i, j, rfl, rfl, q.bool⟩
    | _ => exact q.elim
  | str i => cases he with
    | str j => exact op_lt_str pins s σ H _ _ v u Q I rx ry ⟨i, j, rfl, rfl, q.bool⟩
    | _ => exact q.elim
  | _ => exact q.elim
def leD : D → D → Option D
  | .int i, .int j => some (.bool (decide (i ≤ j)))
  | _, _ => none
theorem od_le : OpD X (compareOp .LtE) true leD := by
  intro pins s σ H x y v u Q I rx ry h
  obtain ⟨d, e, hd, he, q⟩ := h
  cases hd with
  | int i => cases he with
    | int j => exact op_le pins s σ H _ _ v u Q I rx ry ⟨i, j, rfl, rfl, q.bool⟩
    | _ => exact q.elim
  | _ => exact q.elim
def gtD : D → D → Option D
  | .int i, .int j => some (.bool (decide (j < i)))
  | _, _ => none
theorem od_gt : OpD X (compareOp .Gt) true gtD := by
  intro pins s σ H x y v u Q I rx ry h
  obtain ⟨d, e, hd, he, q⟩ := h
  cases hd with
  | int i => cases he with
    | int j => exact op_gt pins s σ H _ _ v u Q I rx ry ⟨i, j, rfl, rfl, q.bool⟩
    | _ => exact q.elim
  | _ => exact q.elim
def geD : D → D → Option D
  | .int i, .int j => some (.bool (decide (j ≤ i)))
  | _, _ => none
theorem od_ge : OpD X (compareOp .GtE) true geD := by
  intro pins s σ H x y v u Q I rx ry h
  obtain ⟨d, e, hd, he, q⟩ := h
  cases hd with
  | int i => cases he with
    | int j => exact op_ge pins s σ H _ _ v u Q I rx ry ⟨i, j, rfl, rfl, q.bool⟩
    | _ => exact q.elim
  | _ => exact q.elim

/-! ### is, is not: None, bools -/
def isNone : D → Bool
  | .none => true
  | _ => false
def isD : D → D → Option D
  | d, .none => some (.bool (isNone d))
  | .bool a, .bool b => some (.bool (a == b))
  | _, _ => none
def isNotD : D → D → Option D
  | d, .none => some (.bool (!isNone d))
  | .bool a, .bool b => some (.bool (!(a == b)))
  | _, _ => none
theorem Rep.isNone {K : PySem.W.Frag} {H : Hp} {v : V} {d : D} (h : Rep K H v d) : decide (v = .non) = Py.isNone d := by
  cases h <;> simp [Py.isNone]
theorem od_is : OpD X (compareOp .Is) true isD := by
  intro pins s σ H x y v u Q I rx ry h
  obtain ⟨d, e, hd, he, q⟩ := h
  cases he with
  | non =>
    have e : isD d .none = some (.bool (isNone d)) := by cases d <;> rfl
    rw [e] at q
    exact op_isN pins s σ H _ _ v u Q I rx ry ⟨rfl, by rw [hd.isNone]; exact q.bool⟩
  | bl b => cases hd with
    | bl a =>
      refine op_isBl pins s σ H _ _ v u Q I rx ry ⟨a, b, rfl, rfl, ?_⟩
      have := q.bool
      rw [Bool.beq_eq_decide_eq] at this
      exact this
    | _ => exact q.elim
  | _ => cases hd <;> exact q.elim
theorem od_isNot : OpD X (compareOp .IsNot) true isNotD := by
  intro pins s σ H x y v u Q I rx ry h
  obtain ⟨d, e, hd, he, q⟩ := h
  cases he with
  | non =>
    have e : isNotD d .none = some (.bool (!isNone d)) := by cases d <;> rfl
    rw [e] at q
    exact op_notN pins s σ H _ _ v u Q I rx ry ⟨rfl, by rw [hd.isNone]; exact q.bool⟩
  | bl b => cases hd with
    | bl a =>
      refine op_notBl pins s σ H _ _ v u Q I rx ry ⟨a, b, rfl, rfl, ?_⟩
      have := q.bool
      rw [Bool.beq_eq_decide_eq] at this
      exact this
    | _ => exact q.elim
  | _ => cases hd <;> exact q.elim

/-! ### in, not in -/
def flatD : D → Bool
  | .none | .bool _ | .int _ | .str _ => true
  | _ => false
theorem Rep.flat {K : PySem.W.Frag} {H : Hp} {v : V} {d : D} (h : Rep K H v d) (f : flatD d = true) : flatV v = true := by
  cases h <;> first | rfl | cases f
theorem Rep.eqV {K : PySem.W.Frag} {H : Hp} {v w : V} {d e : D} (h : Rep K H v d) (h' : Rep K H w e) (f : flatD d = true) (f' : flatD e = true) : L2.eqV v w = PyData.eqv d e := by
  cases h <;> first | (cases f; done) | (cases h' <;> first | (cases f'; done) | simp [L2.eqV, PyData.eqv])
theorem RepAll.inV {K : PySem.W.Frag} {H : Hp} {w : V} {e : D} (h' : Rep K H w e) (f' : flatD e = true) : ∀ {xs : List V} {ds : List D}, RepAll K H xs ds → ds.all flatD = true → xs.all flatV = true ∧ L2.inV w xs = ds.any fun z => PyData.eqv z e
  | _, _, .nil, _ => ⟨rfl, rfl⟩
  | _, _, .cons h r, z => by
    rw [List.all_cons, Bool.and_eq_true] at z
    obtain ⟨a, b⟩ := RepAll.inV h' f' r z.2
    refine ⟨by rw [List.all_cons, h.flat z.1, a]; rfl, ?_⟩
    unfold L2.inV at b ⊢
    rw [List.any_cons, List.any_cons, b, h.eqV h' z.1 f']
/-- one sign (or none) in a text: membership by code points -/
def subText (x y : Str) : Bool := !(Builtin.Str.occurrences y x 0 y.length 1).isEmpty
def hasD (d : D) : D → Option Bool
  | .list ds => if SeqAt.shaped d = true ∧ SeqAt.shaped (.list ds) = true then some (ds.any fun z => PyData.eqv z d) else none
  | .tuple ds => if flatD d = true ∧ ds.all flatD = true then some (ds.any fun z => PyData.eqv z d) else none
  | .str y => match d with
    | .str x => some (subText x y)
    | _ => none
  | _ => none
def inD (d e : D) : Option D := (hasD d e).map fun b => .bool b
def notInD (d e : D) : Option D := (hasD d e).map fun b => .bool (!b)
theorem od_in (hu : X.A.units + 65 < cLine) : OpD X (compareOp .In) true inD := by
  intro pins s σ H x y v u Q I rx ry h
  obtain ⟨d, e, hd, he, q⟩ := h
  unfold inD at q
  cases e with
  | list ds =>
    simp only [hasD] at q
    split at q
    · rename_i hc
      exact op_inD hu pins s σ H _ _ v u Q I rx ry ⟨d, ds, hd.dp (SeqAt.canLay_of_shaped hc.1), he.dp (SeqAt.canLay_of_shaped hc.2), hc.1, hc.2, q.bool⟩
    · exact q.elim
  | tuple ds =>
    simp only [hasD] at q
    split at q
    · rename_i hc
      obtain ⟨a, xs, rfl, hT, r⟩ := he.inv_tup
      obtain ⟨f1, f2⟩ := r.inV hd hc.1 hc.2
      exact op_in_seq pins s σ H _ _ v u Q I rx ry ⟨a, xs, rfl, .inr (sqT_of hT), hd.flat hc.1, f1, by rw [if_neg (by simp), f2]; exact q.bool⟩
    · exact q.elim
  | str y =>
    cases d with
    | str x =>
      cases hd
      cases he
      exact op_in_str pins s σ H _ _ v u Q I rx ry ⟨x, y, rfl, rfl, q.bool⟩
    | _ => exact q.elim
  | _ => exact q.elim
theorem od_notIn (hu : X.A.units + 65 < cLine) : OpD X (compareOp .NotIn) true notInD := by
  intro pins s σ H x y v u Q I rx ry h
  obtain ⟨d, e, hd, he, q⟩ := h
  unfold notInD at q
  cases e with
  | list ds =>
    simp only [hasD] at q
    split at q
    · rename_i hc
      exact op_notInD hu pins s σ H _ _ v u Q I rx ry ⟨d, ds, hd.dp (SeqAt.canLay_of_shaped hc.1), he.dp (SeqAt.canLay_of_shaped hc.2), hc.1, hc.2, q.bool⟩
    · exact q.elim
  | tuple ds =>
    simp only [hasD] at q
    split at q
    · rename_i hc
      obtain ⟨a, xs, rfl, hT, r⟩ := he.inv_tup
      obtain ⟨f1, f2⟩ := r.inV hd hc.1 hc.2
      exact op_notIn_seq pins s σ H _ _ v u Q I rx ry ⟨a, xs, rfl, .inr (sqT_of hT), hd.flat hc.1, f1, by rw [if_pos rfl, f2]; exact q.bool⟩
    · exact q.elim
  | str y =>
    cases d with
    | str x =>
      cases hd
      cases he
      exact op_notIn_str pins s σ H _ _ v u Q I rx ry ⟨x, y, rfl, rfl, q.bool⟩
    | _ => exact q.elim
  | _ => exact q.elim

/-! ### items -/
theorem RepAll.atI {K : PySem.W.Frag} {H : Hp} {xs : List V} {ds : List D} (r : RepAll K H xs ds) {i : Int} {d : D} (h : L2.atI ds i = some d) : ∃ v, L2.atI xs i = some v ∧ Rep K H v d := by
  unfold L2.atI at h ⊢
  rw [r.length]
  cases e : ixN ds.length i with
  | none => rw [e] at h; cases h
  | some j =>
    rw [e] at h
    exact RepAll.getD r h
def getD : D → D → Option D
  | .list ds, .int i => L2.atI ds i
  | .tuple ds, .int i => L2.atI ds i
  | .str z, .int i => if z.length ≤ sizeLine then (L2.atI z.cps.toList i).map fun c => .str ⟨#[c]⟩ else none
  | _, _ => none
/-- an item is no new object -/
theorem ix_data : IxR X (rD X.K false getD) := by
  intro val sl pins s σ H x y v u Q I rx ry h hp
  obtain ⟨d, e, hd, he, q⟩ := h
  cases hd with
  | lst h1 r1 => cases he with
    | int i =>
      simp only [getD] at q
      cases e : L2.atI _ i with
      | none => rw [e] at q; exact q.elim
      | some d =>
        rw [e] at q
        obtain ⟨w, e1, r2⟩ := r1.atI e
        refine ix_list val sl pins s σ H _ _ v u Q I rx ry ⟨_, _, i, w, rfl, rfl, .inl h1, e1, q w H (Same.refl H) r2 fun z => by cases z⟩ hp
    | _ => exact q.elim
  | tup h1 r1 => cases he with
    | int i =>
      simp only [getD] at q
      cases e : L2.atI _ i with
      | none => rw [e] at q; exact q.elim
      | some d =>
        rw [e] at q
        obtain ⟨w, e1, r2⟩ := r1.atI e
        refine ix_tup val sl pins s σ H _ _ v u Q I rx ry ⟨_, _, i, w, rfl, rfl, sqT_of h1, e1, q w H (Same.refl H) r2 fun z => by cases z⟩ hp
    | _ => exact q.elim
  | str z => cases he with
    | int i =>
      simp only [getD] at q
      split at q
      · rename_i hz
        cases e : L2.atI z.cps.toList i with
        | none => rw [e] at q; exact q.elim
        | some c =>
          rw [e] at q
          refine ix_str val sl pins s σ H _ _ v u Q I rx ry ⟨z, i, c, rfl, rfl, hz, e, PostO.str (K := X.K) (fr := false) q⟩ hp
      · exact q.elim
    | _ => exact q.elim
  | _ => exact q.elim

/-! ### slices -/
def cutD (xs : List D) (lo hi : Option Int) : List D := (xs.drop (HT.sIx xs.length 0 lo)).take (HT.sIx xs.length xs.length hi - HT.sIx xs.length 0 lo)
theorem RepAll.cut {K : PySem.W.Frag} {H : Hp} {xs : List V} {ds : List D} (r : RepAll K H xs ds) (lo hi : Option Int) : RepAll K H (cutV xs lo hi) (cutD ds lo hi) := by
  unfold cutV cutD
  rw [r.length]
  exact (r.drop _).take _
def sliceD (lo hi : Option Int) : D → Option D
  | .list ds => some (.list (cutD ds lo hi))
  | .tuple ds => some (.tuple (cutD ds lo hi))
  | .str z => if z.length ≤ sizeLine then some (.str (cutS z lo hi)) else none
  | _ => none
theorem cutD_whole {ds : List D} {lo hi : Option Int} (h : HT.sIx ds.length 0 lo = 0 ∧ HT.sIx ds.length ds.length hi = ds.length) : cutD ds lo hi = ds := by
  unfold cutD
  rw [h.1, h.2]
  simp
theorem sl_data : SlR X (fun x lo hi H Q => ∃ d, Rep X.K H x d ∧ PostO X.K H true (sliceD lo hi d) Q) := by
  intro pins s σ H x v vl vu lo hi sl Q I rx hs pl pu h
  obtain ⟨d, hd, q⟩ := h
  cases hd with
  | lst h1 r1 => exact sl_list pins s σ H _ v vl vu lo hi sl Q I rx hs pl pu ⟨_, _, rfl, .inl h1, q.newL (r1.cut lo hi)⟩
  | tup h1 r1 =>
    refine sl_tupA pins s σ H _ v vl vu lo hi sl Q I rx hs pl pu ⟨_, _, rfl, sqT_of h1, fun z => ?_, fun _ => q.newT (r1.cut lo hi)⟩
    rw [r1.length] at z
    simp only [sliceD, cutD_whole z] at q
    exact q.plain (.tup h1 r1) rfl
  | str z =>
    simp only [sliceD] at q
    split at q
    · rename_i hz
      exact sl_str pins s σ H _ v vl vu lo hi sl Q I rx hs pl pu ⟨z, rfl, hz, q.str⟩
    · exact q.elim
  | _ => exact q.elim

/-! ### - and not -/
def negD : D → Option D
  | .int i => some (.int (-i))
  | _ => none
theorem ud_neg : UnR X (unaryOp .USub) (fun x H Q => ∃ d, Rep X.K H x d ∧ PostO X.K H true (negD d) Q) := by
  intro pins s σ H x v Q I rx h
  obtain ⟨d, hd, q⟩ := h
  cases hd with
  | int i => exact un_neg pins s σ H _ v Q I rx ⟨i, rfl, q.int⟩
  | _ => exact q.elim

/-! ### truth -/
def truD : D → Option Bool
  | .none => some false
  | .bool b => some b
  | .int i => some (i != 0)
  | .str y => if y.length ≤ sizeLine then some ((y.length : Int) != 0) else none
  | .list ds => some (!ds.isEmpty)
  | .tuple ds => some (!ds.isEmpty)
  | _ => none
theorem Rep.tru {K : PySem.W.Frag} {H : Hp} {v : V} {d : D} {b : Bool} (h : Rep K H v d) (e : truD d = some b) : TruV K v H b := by
  cases h with
  | non => cases e; rfl
  | bl b => cases e; rfl
  | int i => cases e; rfl
  | str y =>
    simp only [truD] at e
    split at e
    · rename_i hz
      cases e
      exact ⟨hz, rfl⟩
    · cases e
  | lst h1 r1 => cases e; exact .inl ⟨_, .inl h1, by cases r1 <;> rfl⟩
  | tup h1 r1 => cases e; exact .inr (.inl ⟨_, sqT_of h1, by cases r1 <;> rfl⟩)
  | dK h1 r1 => cases e
  | dT h1 r1 => cases e
end
end Py

set_option Elab.async false
set_option linter.all false
set_option maxRecDepth 100000
set_option maxHeartbeats 4000000
/-! Own layer, part 4: expressions and tests by data. -/
namespace Py
open PySem PySem.Spec L2
open PyProof.Rows hiding St

/-- the expression e has the meaning f -/
def JE (X : Cx) (cA : Nat → Addr) (W : WX) (fr : Bool) (e : Expr) (f : Ex) : Prop := ∀ ρ, PE X e (tD X.K cA W fr f ρ)
def JT (X : Cx) (cA : Nat → Addr) (W : WX) (e : Expr) (f : Tx) : Prop := ∀ ρ, PT X e (tDT X.K cA W f ρ)
def JW (X : Cx) (cA : Nat → Addr) (W : WX) (e : Expr) (f : Tx) : Prop := ∀ ρ, PW X e (tDT X.K cA W f ρ)
def nostar : Expr → Bool
  | .Starred .. => false
  | _ => true
theorem starEach_cons {e : Expr} {es : List Expr} {env : Env} (h : nostar e = true) : starEach (e :: es) env = (false, eval e env) :: starEach es env := by
  cases e <;> first | rfl | cases h
inductive JAll (X : Cx) (cA : Nat → Addr) (W : WX) : List Expr → List Ex → Prop
  | nil : JAll X cA W [] []
  | cons {fr : Bool} {e : Expr} {f : Ex} {es : List Expr} {fs : List Ex} : JE X cA W fr e f → nostar e = true → JAll X cA W es fs → JAll X cA W (e :: es) (f :: fs)

/-! ### the meanings -/
def sVar (i : Nat) : Ex := fun ρ => match ρ[i]? with
  | some (.val _ d) => .ok d
  | _ => .bad
def sCst (d : D) : Ex := fun _ => .ok d
def sBin (op : D → D → Option D) (a b : Ex) : Ex := fun ρ => (a ρ).bind fun x => (b ρ).bind fun y => ofO (op x y)
def sUn (op : D → Option D) (a : Ex) : Ex := fun ρ => (a ρ).bind fun x => ofO (op x)
def sNot (a : Ex) : Ex := fun ρ => (a ρ).bind fun x => (ofO (truD x)).bind fun b => .ok (.bool (!b))
def sIf (t : Tx) (a b : Ex) : Ex := fun ρ => (t ρ).bind fun c => if c = true then a ρ else b ρ
def sAnd (a b : Ex) : Ex := fun ρ => (a ρ).bind fun x => match x with
  | .bool c => if c = true then b ρ else .ok (.bool false)
  | _ => .bad
def sOr (a b : Ex) : Ex := fun ρ => (a ρ).bind fun x => match x with
  | .bool c => if c = true then .ok (.bool true) else b ρ
  | _ => .bad
def sChain (op op' : D → D → Option D) (a b c : Ex) : Ex := fun ρ => (a ρ).bind fun x => (b ρ).bind fun y => (ofO (op x y)).bind fun z => match z with
  | .bool k => if k = true then (c ρ).bind fun w => ofO (op' y w) else .ok (.bool false)
  | _ => .bad
/-- a test that is a comparison: its value is a bool -/
def xBool (a : Ex) : Tx := fun ρ => (a ρ).bind fun x => match x with
  | .bool c => .ok c
  | _ => .bad
def xTru (a : Ex) : Tx := fun ρ => (a ρ).bind fun x => ofO (truD x)
def xNot (t : Tx) : Tx := fun ρ => (t ρ).bind fun c => .ok (!c)
def xAnd (t u : Tx) : Tx := fun ρ => (t ρ).bind fun c => if c = true then u ρ else .ok false
def xOr (t u : Tx) : Tx := fun ρ => (t ρ).bind fun c => if c = true then .ok true else u ρ
def evalL : List Ex → Env' → Res (List D)
  | [], _ => .ok []
  | f :: fs, ρ => (f ρ).bind fun d => (evalL fs ρ).bind fun ds => .ok (d :: ds)
def sTup (fs : List Ex) : Ex := fun ρ => (evalL fs ρ).bind fun ds => .ok (.tuple ds)
def sLst (fs : List Ex) : Ex := fun ρ => (evalL fs ρ).bind fun ds => .ok (.list ds)
def sCall (g : List D → Res D) (fs : List Ex) : Ex := fun ρ => (evalL fs ρ).bind g
def sBlt (g : List D → Option D) (fs : List Ex) : Ex := fun ρ => (evalL fs ρ).bind fun ds => ofO (g ds)
def partI : Option Ex → Env' → Res (Option Int)
  | none, _ => .ok none
  | some f, ρ => (f ρ).bind fun d => match d with
    | .int i => .ok (some i)
    | _ => .bad
def sSl (a : Ex) (lo hi : Option Ex) : Ex := fun ρ => (a ρ).bind fun x => (partI lo ρ).bind fun l => (partI hi ρ).bind fun h => ofO (sliceD l h x)

theorem evalL_length : ∀ {fs : List Ex} {ρ : Env'} {ds : List D}, evalL fs ρ = .ok ds → ds.length = fs.length
  | [], _, _, h => by cases h; rfl
  | f :: fs, ρ, ds, h => by
    unfold evalL at h
    cases e1 : f ρ with
    | ok d =>
      rw [e1, Res.bind_ok] at h
      cases e2 : evalL fs ρ with
      | ok es =>
        rw [e2, Res.bind_ok] at h
        cases h
        simp [evalL_length e2]
      | exc c => rw [e2] at h; cases h
      | bad => rw [e2] at h; cases h
    | exc c => rw [e1] at h; cases h
    | bad => rw [e1] at h; cases h

section
variable {X : Cx} {cA : Nat → Addr} {W : WX} {fr fr' fr'' : Bool} {a b c : Expr} {fa fb fc : Ex} {pos : Pos}

/-- forget that it is new -/
theorem JE.old {f : Ex} (h : JE X cA W fr a f) : JE X cA W false a f := fun ρ => peI (h ρ) fun σ H Q q => ⟨q.1, by
  have p := q.2
  revert p
  cases f ρ with
  | ok d => exact fun p v H' s r _ => p v H' s r fun z => by cases z
  | exc c => exact id
  | bad => exact id⟩

theorem je_cst {v : V} {d : D} {e : Expr} (h : PE X e (tC v)) (r : ∀ H, Rep X.K H v d) (m : mutTop d = false) : JE X cA W true e (sCst d) := fun ρ => peI h fun σ H Q q => q.2 v H (Same.refl H) (r H) fun _ z => by rw [m] at z; cases z
theorem je_int {i : Int} {j : Nat} : JE X cA W true (.Constant (.int i) j pos) (sCst (.int i)) := je_cst pe_int (fun H => .int i) rfl
theorem je_bool {i : Bool} {j : Nat} : JE X cA W true (.Constant (.bool i) j pos) (sCst (.bool i)) := je_cst pe_bl (fun H => .bl i) rfl
theorem je_str {i : Str} {j : Nat} : JE X cA W true (.Constant (.str i) j pos) (sCst (.str i)) := je_cst pe_str (fun H => .str i) rfl
theorem je_none {j : Nat} : JE X cA W true (.Constant .none j pos) (sCst .none) := je_cst pe_non (fun H => .non) rfl
theorem je_var {i : Nat} {x : Str} (hN : X.N[i]? = some x) (hv : Vis X.env.scope x) (hd : (x == ("__debug__" : Str)) = false) (hcd : (x == ("__classdict__" : Str)) = false) : JE X cA W false (.Name x pos) (sVar i) := fun ρ => peI (pe_var hN hv hd hcd) fun σ H Q q => by
  obtain ⟨ok, p⟩ := q
  unfold sVar at p
  cases e : ρ[i]? with
  | none => rw [e] at p; exact p.elim
  | some sl =>
    rw [e] at p
    have h := ok.2 i sl e
    cases sl with
    | un => exact p.elim
    | err c => exact p.elim
    | val o d => obtain ⟨v, h1, h2⟩ := h; exact ⟨v, h1, p v H (Same.refl H) h2 fun z => by cases z⟩

theorem je_bin {op : Operator} {o : D → D → Option D} (ho : OpD X (binaryOp op) fr o) (ha : JE X cA W fr' a fa) (hb : JE X cA W fr'' b fb) : JE X cA W fr (.BinOp a op b pos) (sBin o fa fb) := fun ρ =>
  peI (pe_op ho (ha ρ) (hb ρ)) fun σ H Q q => ⟨q.1, Post.bind q.2 fun d v H1 s1 r1 p1 => ⟨q.1.same s1, Post.bind p1 fun e w H2 s2 r2 p2 => ⟨d, e, r1.same s2, r2, p2.ofO⟩⟩⟩
theorem je_cmp {op : CmpOp} {o : D → D → Option D} (ho : OpD X (compareOp op) fr o) (ha : JE X cA W fr' a fa) (hb : JE X cA W fr'' b fb) (hm : behindInMarks op b = false) : JE X cA W fr (.Compare a [op] [b] pos) (sBin o fa fb) := fun ρ =>
  peI (pe_cmpR ho (ha ρ) (hb ρ) hm) fun σ H Q q => ⟨q.1, Post.bind q.2 fun d v H1 s1 r1 p1 => ⟨q.1.same s1, Post.bind p1 fun e w H2 s2 r2 p2 => ⟨d, e, r1.same s2, r2, p2.ofO⟩⟩⟩
theorem je_ix (ha : JE X cA W fr' a fa) (hb : JE X cA W fr'' b fb) (hs : PlainIx b) : JE X cA W false (.Subscript a b pos) (sBin getD fa fb) := fun ρ =>
  peI (pe_ix ix_data (ha ρ) (hb ρ) hs) fun σ H Q q => ⟨q.1, Post.bind q.2 fun d v H1 s1 r1 p1 => ⟨q.1.same s1, Post.bind p1 fun e w H2 s2 r2 p2 => ⟨d, e, r1.same s2, r2, p2.ofO⟩⟩⟩
theorem je_neg (ha : JE X cA W fr' a fa) : JE X cA W true (.UnaryOp .USub a pos) (sUn negD fa) := fun ρ =>
  peI (pe_un ud_neg (ha ρ)) fun σ H Q q => ⟨q.1, Post.bind q.2 fun d v H1 s1 r1 p1 => ⟨d, r1, p1.ofO⟩⟩

/-- what is left of a wanted result that is a plain bool -/
theorem Post.isBool {σ : St} {H : Hp} {k : Bool} {Q : VK} (h : Post X.K cA W σ H fr (.ok (.bool k)) Q) : Q (.bl k) H := h _ H (Same.refl H) (.bl k) fun _ z => by cases z
theorem je_not (ha : JE X cA W fr' a fa) : JE X cA W true (.UnaryOp .Not a pos) (sNot fa) := fun ρ =>
  peI (pe_notT (ha ρ)) fun σ H Q q => ⟨q.1, Post.bind q.2 fun d v H1 s1 r1 p1 => by
    cases e : truD d with
    | none => rw [e] at p1; exact p1.elim
    | some k =>
      rw [e] at p1
      exact ⟨k, r1.tru e, Post.isBool (X := X) p1⟩⟩
theorem je_if {t : Expr} {ft : Tx} (ht : JT X cA W t ft) (ha : JE X cA W fr a fa) (hb : JE X cA W fr b fb) : JE X cA W fr (.IfExp t a b pos) (sIf ft fa fb) := fun ρ =>
  peI (pe_ifExp (ht ρ) (ha ρ) (hb ρ)) fun σ H Q q => ⟨q.1, PostT.bind q.2 fun k H1 s1 p1 => by
    cases k with
    | true => exact ⟨q.1.same s1, p1⟩
    | false => exact ⟨q.1.same s1, p1⟩⟩
theorem je_one {op} (ha : JE X cA W fr a fa) : JE X cA W fr (.BoolOp op [a] pos) fa := fun ρ => pe_one (ha ρ)
theorem je_and {rest : List Expr} (ha : JE X cA W fr' a fa) (hb : JE X cA W fr (.BoolOp .And (b :: rest) pos) fb) : JE X cA W fr (.BoolOp .And (a :: b :: rest) pos) (sAnd fa fb) := fun ρ =>
  peI (pe_and (ha ρ) (hb ρ)) fun σ H Q q => ⟨q.1, Post.bind q.2 fun d v H1 s1 r1 p1 => by
    cases r1 with
    | bl k =>
      refine ⟨k, rfl, ?_⟩
      cases k with
      | true => exact ⟨q.1.same s1, p1⟩
      | false => exact Post.isBool (X := X) p1
    | _ => exact p1.elim⟩
theorem je_or {rest : List Expr} (ha : JE X cA W fr' a fa) (hb : JE X cA W fr (.BoolOp .Or (b :: rest) pos) fb) : JE X cA W fr (.BoolOp .Or (a :: b :: rest) pos) (sOr fa fb) := fun ρ =>
  peI (pe_or (ha ρ) (hb ρ)) fun σ H Q q => ⟨q.1, Post.bind q.2 fun d v H1 s1 r1 p1 => by
    cases r1 with
    | bl k =>
      refine ⟨k, rfl, ?_⟩
      cases k with
      | false => exact ⟨q.1.same s1, p1⟩
      | true => exact Post.isBool (X := X) p1
    | _ => exact p1.elim⟩
theorem je_chain {op op' : CmpOp} {o o' : D → D → Option D} (ho : OpD X (compareOp op) fr o) (ho' : OpD X (compareOp op') fr o') (ha : JE X cA W fr' a fa) (hb : JE X cA W fr'' b fb) (hc : JE X cA W fr' c fc) (hm : lastMarks [op, op'] [b, c] = false) : JE X cA W fr (.Compare a [op, op'] [b, c] pos) (sChain o o' fa fb fc) := fun ρ =>
  peI (pe_chain ho ho' (ha ρ) (hb ρ) (hc ρ) hm) fun σ H Q q => ⟨q.1, Post.bind q.2 fun d v H1 s1 r1 p1 => ⟨q.1.same s1, Post.bind p1 fun e w H2 s2 r2 p2 => ⟨d, e, r1.same s2, r2, by
    cases h : o d e with
    | none => rw [h] at p2; exact p2.elim
    | some z =>
      rw [h] at p2
      intro v3 H3 s3 r3 _
      have p3 := Post.mono s3 p2
      cases r3 with
      | bl k =>
        refine ⟨k, rfl, ?_⟩
        cases k with
        | true => exact ⟨(q.1.same s1).same (s2.trans s3), Post.bind p3 fun g x H4 s4 r4 p4 => ⟨e, g, r2.same (s3.trans s4), r4, p4.ofO⟩⟩
        | false => exact Post.isBool (X := X) p3
      | _ => exact p3.elim⟩⟩⟩

/-! ### tests -/
theorem jt_cmp {op : CmpOp} {o : D → D → Option D} (ho : OpD X (compareOp op) fr o) (ha : JE X cA W fr' a fa) (hb : JE X cA W fr'' b fb) (hm : behindInMarks op b = false) : JT X cA W (.Compare a [op] [b] pos) (xBool (sBin o fa fb)) := fun ρ =>
  ptI (pt_cmpR ho (ha ρ) (hb ρ) hm) fun σ H Q q => by
    obtain ⟨ok, p⟩ := q
    refine ⟨ok, ?_⟩
    unfold xBool sBin at p
    cases e1 : fa ρ with
    | bad => rw [e1] at p; exact p.elim
    | exc c => rw [e1] at p; exact p
    | ok d =>
      rw [e1] at p
      intro v H1 s1 r1 _
      refine ⟨ok.same s1, ?_⟩
      rw [Res.bind_ok] at p
      cases e2 : fb ρ with
      | bad => rw [e2] at p; exact p.elim
      | exc c => rw [e2] at p; exact PostT.mono s1 p
      | ok e =>
        rw [e2, Res.bind_ok] at p
        intro w H2 s2 r2 _
        refine ⟨d, e, r1.same s2, r2, ?_⟩
        cases h : o d e with
        | none => rw [h] at p; exact p.elim
        | some z =>
          rw [h] at p
          intro v3 H3 s3 r3 _
          cases r3 with
          | bl k => exact ⟨k, rfl, p H3 ((s1.trans s2).trans s3)⟩
          | _ => exact p.elim
theorem jt_chain {op op' : CmpOp} {o o' : D → D → Option D} (ho : OpD X (compareOp op) fr o) (ho' : OpD X (compareOp op') fr o') (ha : JE X cA W fr' a fa) (hb : JE X cA W fr'' b fb) (hc : JE X cA W fr' c fc) (hm : lastMarks [op, op'] [b, c] = false) : JT X cA W (.Compare a [op, op'] [b, c] pos) (xBool (sChain o o' fa fb fc)) := fun ρ =>
  ptI (pt_chain ho ho' (ha ρ) (hb ρ) (hc ρ) hm) fun σ H Q q => by
    obtain ⟨ok, p⟩ := q
    refine ⟨ok, ?_⟩
    unfold xBool sChain at p
    cases e1 : fa ρ with
    | bad => rw [e1] at p; exact p.elim
    | exc c => rw [e1] at p; exact p
    | ok d =>
      rw [e1] at p
      intro v H1 s1 r1 _
      refine ⟨ok.same s1, ?_⟩
      rw [Res.bind_ok] at p
      cases e2 : fb ρ with
      | bad => rw [e2] at p; exact p.elim
      | exc c => rw [e2] at p; exact PostT.mono s1 p
      | ok e =>
        rw [e2, Res.bind_ok] at p
        intro w H2 s2 r2 _
        refine ⟨d, e, r1.same s2, r2, ?_⟩
        cases h : o d e with
        | none => rw [h] at p; exact p.elim
        | some z =>
          rw [h] at p
          intro v3 H3 s3 r3 _
          have s03 := (s1.trans s2).trans s3
          cases r3 with
          | bl k =>
            refine ⟨k, rfl, ?_⟩
            cases k with
            | false => exact ⟨false, rfl, p H3 s03⟩
            | true =>
              simp only [ofO_some, Res.bind_ok, if_true] at p
              refine ⟨ok.same s03, ?_⟩
              cases e3 : fc ρ with
              | bad => rw [e3] at p; exact p.elim
              | exc c => rw [e3] at p; exact PostT.mono s03 p
              | ok g =>
                rw [e3, Res.bind_ok] at p
                intro x H4 s4 r4 _
                refine ⟨e, g, r2.same (s3.trans s4), r4, ?_⟩
                cases h4 : o' e g with
                | none => rw [h4] at p; exact p.elim
                | some z4 =>
                  rw [h4] at p
                  intro v5 H5 s5 r5 _
                  cases r5 with
                  | bl k => exact ⟨k, rfl, p H5 ((s03.trans s4).trans s5)⟩
                  | _ => exact p.elim
          | _ => exact p.elim
theorem jt_truth (ha : JE X cA W fr a fa) (he : ∀ whole, isTrue a X.env whole = (do let v ← whole; standAt a.pos; holding [v] (truthy v))) : JT X cA W a (xTru fa) := fun ρ =>
  ptI (pt_truth (ha ρ) he) fun σ H Q q => ⟨q.1, Post.bindT q.2 fun d v H1 s1 r1 p1 => by
    cases e : truD d with
    | none => rw [e] at p1; exact p1.elim
    | some k =>
      rw [e] at p1
      exact ⟨k, r1.tru e, p1 H1 (Same.refl H1)⟩⟩
theorem jt_not {ta : Tx} (ha : JT X cA W a ta) : JT X cA W (.UnaryOp .Not a pos) (xNot ta) := fun ρ =>
  ptI (pt_not (ha ρ)) fun σ H Q q => ⟨q.1, PostT.bindT q.2 fun k H1 s1 p1 => p1 H1 (Same.refl H1)⟩
theorem JW.jt {f : Tx} (h : JW X cA W a f) : JT X cA W a f := fun ρ => (h ρ).pt
theorem jw_and1 {ta : Tx} (ha : JT X cA W a ta) : JW X cA W (.BoolOp .And [a] pos) ta := fun ρ => pw_and1 (ha ρ)
theorem jw_or1 {ta : Tx} (ha : JT X cA W a ta) : JW X cA W (.BoolOp .Or [a] pos) ta := fun ρ => pw_or1 (ha ρ)
theorem jw_and {ta tb : Tx} {rest : List Expr} (ha : JT X cA W a ta) (hb : JW X cA W (.BoolOp .And (b :: rest) pos) tb) : JW X cA W (.BoolOp .And (a :: b :: rest) pos) (xAnd ta tb) := fun ρ =>
  pwI (pw_and (ha ρ) (hb ρ)) fun σ H Q q => ⟨q.1, PostT.bindT q.2 fun k H1 s1 p1 => by
    cases k with
    | true => exact ⟨q.1.same s1, p1⟩
    | false => exact p1 H1 (Same.refl H1)⟩
theorem jw_or {ta tb : Tx} {rest : List Expr} (ha : JT X cA W a ta) (hb : JW X cA W (.BoolOp .Or (b :: rest) pos) tb) : JW X cA W (.BoolOp .Or (a :: b :: rest) pos) (xOr ta tb) := fun ρ =>
  pwI (pw_or (ha ρ) (hb ρ)) fun σ H Q q => ⟨q.1, PostT.bindT q.2 fun k H1 s1 p1 => by
    cases k with
    | false => exact ⟨q.1.same s1, p1⟩
    | true => exact p1 H1 (Same.refl H1)⟩

/-! ### lists of expressions -/
theorem JAll.pa : ∀ {es : List Expr} {fs : List Ex}, JAll X cA W es fs → ∀ ρ, PA X es (tDA X.K cA W (evalL fs) ρ)
  | _, _, .nil => fun ρ => paI pa_nil fun σ H Q q => q.2 [] H (Same.refl H) .nil
  | _, _, .cons (f := f) (fs := fs) h n r => fun ρ => paI (pa_cons (h ρ) (r.pa ρ) (starEach_cons n)) fun σ H Q q => ⟨q.1, Post.bindA q.2 fun d v H1 s1 r1 p1 => ⟨q.1.same s1, PostA.bindA p1 fun ds vs H2 s2 r2 p2 => p2 (v :: vs) H2 (Same.refl H2) (.cons (r1.same s2) r2)⟩⟩
theorem JAll.nostars : ∀ {es : List Expr} {fs : List Ex}, JAll X cA W es fs → (backTo pos (starEach es X.env)).any (·.1) = false
  | _, _, .nil => rfl
  | _, _, .cons h n r => by
    rw [starEach_cons n]
    exact r.nostars
theorem JAll.length : ∀ {es : List Expr} {fs : List Ex}, JAll X cA W es fs → es.length = fs.length
  | _, _, .nil => rfl
  | _, _, .cons h n r => by simp [r.length]
theorem je_tup {es : List Expr} {fs : List Ex} {k : Nat} (h : JAll X cA W es fs) (hz : fs.length ≤ 1000) : JE X cA W true (.Tuple es k pos) (sTup fs) := fun ρ =>
  peI (pe_tup (h.pa ρ)) fun σ H Q q => ⟨q.1, by
    have p := q.2
    unfold sTup at p
    cases e : evalL fs ρ with
    | bad => rw [e] at p; exact p.elim
    | exc c => rw [e] at p; exact p
    | ok ds =>
      rw [e] at p
      intro vs H1 s1 r1
      refine ⟨by rw [r1.length, evalL_length e]; exact Nat.le_trans hz (by rw [sizeLine_eq]; decide), fun t np => ?_⟩
      exact p _ _ (s1.trans (same_upd np)) (.tup upd_same (r1.same (same_upd np))) fun _ z => by cases z⟩
theorem je_lst {es : List Expr} {fs : List Ex} (h : JAll X cA W es fs) (hz : fs.length ≤ 1000) : JE X cA W true (.List es pos) (sLst fs) := fun ρ =>
  peI (pe_lst (h.pa ρ)) fun σ H Q q => ⟨q.1, by
    have p := q.2
    unfold sLst at p
    cases e : evalL fs ρ with
    | bad => rw [e] at p; exact p.elim
    | exc c => rw [e] at p; exact p
    | ok ds =>
      rw [e] at p
      intro vs H1 s1 r1
      refine ⟨by rw [r1.length, evalL_length e]; exact Nat.le_trans hz (by rw [sizeLine_eq]; decide), fun t np => ?_⟩
      exact p _ _ (s1.trans (same_upd np)) (.lst (.inl upd_same) (r1.same (same_upd np))) fun _ _ => ⟨t, rfl, s1.free np, fun o u z => by rw [upd_same] at z; cases z⟩⟩

/-! ### slices -/
inductive JO (X : Cx) (cA : Nat → Addr) (W : WX) : Option Expr → Option Ex → Prop
  | none : JO X cA W none none
  | some {fr : Bool} {e : Expr} {f : Ex} : JE X cA W fr e f → JO X cA W (some e) (some f)
def tO (K : PySem.W.Frag) (cA : Nat → Addr) (W : WX) (f : Option Ex) (ρ : Env') : TO := fun σ H Q => EOk K ρ σ H ∧ match partI f ρ with
  | .ok o => ∀ H', Same H H' → Q o H'
  | .exc c => ∀ H', Same H H' → W (.ref (cA c)) none σ H'
  | .bad => False
theorem JO.po {e : Option Expr} {f : Option Ex} (h : JO X cA W e f) (ρ : Env') : PO X e (tO X.K cA W f ρ) := by
  cases h with
  | none => exact ⟨fun pins s σ H Q I q => po_none.run pins s σ H Q I (q.2 H (Same.refl H))⟩
  | some h =>
    rename_i f
    refine ⟨fun pins s σ H Q I q => (po_some (h ρ)).run pins s σ H Q I ⟨q.1, ?_⟩⟩
    have p := q.2
    simp only [partI] at p
    cases e : f ρ with
    | bad => rw [e] at p; exact p.elim
    | exc c => rw [e] at p; exact p
    | ok d =>
      rw [e] at p
      intro v H1 s1 r1 _
      cases r1 with
      | int i => exact ⟨i, rfl, p H1 s1⟩
      | _ => exact p.elim
theorem je_slice {lo hi : Option Expr} {fl fh : Option Ex} {p2 : Pos} (ha : JE X cA W fr' a fa) (hl : JO X cA W lo fl) (hh : JO X cA W hi fh) : JE X cA W true (.Subscript a (.Slice lo hi none p2) pos) (sSl fa fl fh) := fun ρ =>
  peI (pe_slice sl_data (ha ρ) (hl.po ρ) (hh.po ρ)) fun σ H Q q => ⟨q.1, Post.bind q.2 fun d v H1 s1 r1 p1 => by
    refine ⟨q.1.same s1, ?_⟩
    cases e : partI fl ρ with
    | bad => rw [e] at p1; exact p1.elim
    | exc c => rw [e] at p1; exact p1
    | ok l =>
      rw [e, Res.bind_ok] at p1
      intro H2 s2
      refine ⟨(q.1.same s1).same s2, ?_⟩
      cases e2 : partI fh ρ with
      | bad => rw [e2] at p1; exact p1.elim
      | exc c => rw [e2] at p1; exact fun H' s' => p1 H' (s2.trans s')
      | ok h =>
        rw [e2, Res.bind_ok] at p1
        exact fun H3 s3 => ⟨d, r1.same (s2.trans s3), (Post.mono (s2.trans s3) p1).ofO⟩⟩

/-! ### calls -/
/-- a def's promise: on data it does g; a list that it gives is new (fr) -/
def spOf (K : PySem.W.Frag) (cA : Nat → Addr) (fr : Bool) (n : Nat) (g : List D → Res D) : Sp := fun vs H Q E => vs.length = n ∧ ∃ ds, RepAll K H vs ds ∧ match g ds with
  | .ok d => ∀ v H', Same H H' → Rep K H' v d → (fr = true → mutTop d = true → New H H' v) → Q v H'
  | .exc c => ∀ H', Same H H' → E (.ref (cA c)) none H'
  | .bad => False
structure FnIn (X : Cx) (cA : Nat → Addr) (k : Nat) (x : Str) (fr : Bool) (n : Nat) (g : List D → Res D) : Prop where
  ex : ∃ (f : Addr) (fd : FuncData) (ps : List Str), X.mg x = some (.ref f) ∧ PySem.W.keepIn X.K (.ref f) = true ∧ Binds X.K fd ps [] ∧ FnOk X.prog X.w X.K X.mg X.base (L2.CX X.prog X.w) k f fd ps (spOf X.K cA fr n g)
theorem je_call {k n : Nat} {x : Str} {p : Pos} {g : List D → Res D} {es : List Expr} {fs : List Ex} (F : FnIn X cA k x fr n g) (hr : Room k X.A) (hg : Gl X x) (tk : Takes X W) (h : JAll X cA W es fs) (hn : fs.length = n) (hdb : (x == ("__debug__" : Str)) = false) :
    JE X cA W fr (.Call (.Name x p) es [] pos) (sCall g fs) := fun ρ => by
  obtain ⟨f, fd, ps, hm, hk, hb, F⟩ := F.ex
  have fin : ∀ {σ : St} {H : Hp} {Q : VK}, tD X.K cA W fr (sCall g fs) ρ σ H Q → tDA X.K cA W (evalL fs) ρ σ H fun vs H1 => spOf X.K cA fr n g vs H1 Q (WE W σ) := fun {σ H Q} q => by
    refine ⟨q.1, ?_⟩
    have p := q.2
    unfold sCall at p
    cases e : evalL fs ρ with
    | bad => rw [e] at p; exact p.elim
    | exc c => rw [e] at p; exact p
    | ok ds =>
      rw [e] at p
      intro vs H1 s1 r1
      refine ⟨by rw [r1.length, evalL_length e, hn], ds, r1, ?_⟩
      have p1 := Post.mono s1 p
      rw [Res.bind_ok] at p1
      cases e2 : g ds with
      | ok d => rw [e2] at p1; exact p1
      | exc c => rw [e2] at p1; exact p1
      | bad => rw [e2] at p1; exact p1
  cases h with
  | nil =>
    refine ⟨fun pins s σ H Q I q => ?_⟩
    refine wpAny_Call_Name_kw (ld_glob I hg hm ?_ hdb)
    have q1 := (fin q).2 [] H (Same.refl H) .nil
    exact PySem.W.callWith_K0 I.kIn hk (run_fnS (E := fun σ => WE W σ) (us := []) (vs := []) F hr hb (passAt tk σ) I .nil q1)
  | cons h1 n1 r1 =>
    exact peI (pe_callS (E := WE W) F hr hg hm hk hb (fun σ => passAt tk σ) ((JAll.cons h1 n1 r1).pa ρ) hdb (starEach_cons n1) r1.nostars) fun σ H Q q => fin q

/-- a built-in function or class on data -/
abbrev CallD (X : Cx) (f : Value) (fr : Bool) (g : List D → Option D) : Prop := CallR X f (fun vs H Q => ∃ ds, RepAll X.K H vs ds ∧ PostO X.K H fr (g ds) Q)
theorem sBlt_fin {g : List D → Option D} {fs : List Ex} {ρ : Env'} {σ : St} {H : Hp} {Q : VK} (q : tD X.K cA W fr (sBlt g fs) ρ σ H Q) : tDA X.K cA W (evalL fs) ρ σ H fun vs H1 => ∃ ds, RepAll X.K H1 vs ds ∧ PostO X.K H1 fr (g ds) Q :=
  ⟨q.1, PostA.bind q.2 fun ds vs H1 s1 r1 p1 => ⟨ds, r1, p1.ofO⟩⟩
theorem je_blt {x : Str} {p : Pos} {id : String} {g : List D → Option D} {e : Expr} {es : List Expr} {f : Ex} {fs : List Ex} (hc : CallD X (.builtin id) fr g) (hg : Gl X x) (hm : X.mg x = none) (hv : bootBuiltins x = some (.builtin id)) (h : JAll X cA W (e :: es) (f :: fs)) (hn : x ≠ "__name__") (hdb : (x == ("__debug__" : Str)) = false) :
    JE X cA W fr (.Call (.Name x p) (e :: es) [] pos) (sBlt g (f :: fs)) := fun ρ => by
  cases h with
  | cons h1 n1 r1 => exact peI (pe_callB hc hg hm hv ((JAll.cons h1 n1 r1).pa ρ) hn hdb (starEach_cons n1) r1.nostars) fun σ H Q q => sBlt_fin q
theorem je_ty {x : Str} {p : Pos} {T : String} {g : List D → Option D} {e : Expr} {es : List Expr} {f : Ex} {fs : List Ex} (hc : CallD X (.type T) fr g) (hg : Gl X x) (hm : X.mg x = none) (hv : bootBuiltins x = some (.type T)) (h : JAll X cA W (e :: es) (f :: fs)) (hn : x ≠ "__name__") (hdb : (x == ("__debug__" : Str)) = false) :
    JE X cA W fr (.Call (.Name x p) (e :: es) [] pos) (sBlt g (f :: fs)) := fun ρ => by
  cases h with
  | cons h1 n1 r1 => exact peI (pe_callTy hc hg hm hv ((JAll.cons h1 n1 r1).pa ρ) hn hdb (starEach_cons n1) r1.nostars) fun σ H Q q => sBlt_fin q
end
end Py

set_option Elab.async false
set_option linter.all false
set_option maxRecDepth 100000
set_option maxHeartbeats 4000000
/-! Own layer, part 5: targets, what is walked, list comprehensions. -/
namespace Py
open PySem PySem.Spec L2
open PyProof.Rows hiding St

/-! ### binding -/
def frzS (c : Bool) : Sl → Sl
  | .val o d => .val (o && !c) d
  | s => s
/-- frozen where c holds: what is read is the same -/
def frzIf (c : Bool) (ρ : Env') : Env' := ρ.map (frzS c)
def frzAll (ρ : Env') : Env' := frzIf true ρ
theorem frzS_false : ∀ s : Sl, frzS false s = s
  | .un => rfl
  | .err _ => rfl
  | .val true _ => rfl
  | .val false _ => rfl
theorem frzIf_false (ρ : Env') : frzIf false ρ = ρ := by
  unfold frzIf
  have : frzS false = id := funext frzS_false
  rw [this, List.map_id]
def bindS (i : Nat) (d : D) (ρ : Env') : Env' := (frzIf (!imm d) ρ).set i (.dat d)
theorem bindS_eq (i : Nat) (d : D) (ρ : Env') : bindS i d ρ = if imm d = true then ρ.set i (.dat d) else (frzAll ρ).set i (.dat d) := by
  unfold bindS frzAll
  cases imm d with
  | true => rw [Bool.not_true, frzIf_false]; rfl
  | false => rfl
/-- a target's binding -/
abbrev Bd := D → Env' → Option Env'
def bName (i : Nat) : Bd := fun d ρ => some (bindS i d ρ)
def bAll : List Bd → List D → Env' → Option Env'
  | [], [], ρ => some ρ
  | b :: bs, d :: ds, ρ => (b d ρ).bind fun ρ' => bAll bs ds ρ'
  | _, _, _ => none
def bTup (bs : List Bd) : Bd := fun d ρ => match d with
  | .tuple ds => bAll bs ds ρ
  | _ => none
/-- what a store keeps -/
structure Stor (K : PySem.W.Frag) (c : D → Bool) (P : Env' → St → Hp → Prop) : Prop where
  st : ∀ {ρ : Env'} {σ : St} {H : Hp} {i : Nat} {v : V} {d : D}, c d = true → P ρ σ H → Rep K H v d → P (bindS i d ρ) (σ.set i (some v)) H
  tc : ∀ {ds : List D}, c (.tuple ds) = true → ds.all c = true
abbrev anyD : D → Bool := fun _ => true
theorem SlOk.frz {K : PySem.W.Frag} {H : Hp} {ov : Option (Option V)} {s : Sl} (h : SlOk K H ov s) : SlOk K H ov (frzS true s) := by
  cases s <;> exact h
theorem EOk.frz {K : PySem.W.Frag} {H : Hp} {ρ : Env'} {σ : St} (h : EOk K ρ σ H) : EOk K (frzAll ρ) σ H := by
  refine ⟨by unfold frzAll frzIf; rw [List.length_map]; exact h.1, fun i s e => ?_⟩
  unfold frzAll frzIf at e
  rw [List.getElem?_map] at e
  cases e2 : ρ[i]? with
  | none => rw [e2] at e; cases e
  | some t =>
    rw [e2] at e
    cases e
    exact (h.2 i t e2).frz
theorem EOk.set {K : PySem.W.Frag} {H : Hp} {ρ : Env'} {σ : St} {i : Nat} {v : V} {d : D} (h : EOk K ρ σ H) (r : Rep K H v d) : EOk K (ρ.set i (.dat d)) (σ.set i (some v)) H := by
  refine ⟨by simpa using h.1, fun j s e => ?_⟩
  by_cases hj : j = i
  · subst hj
    by_cases hl : j < ρ.length
    · rw [List.getElem?_set_self hl] at e
      cases e
      exact ⟨v, by rw [List.getElem?_set_self (by rw [← h.1]; exact hl)], r⟩
    · rw [List.getElem?_eq_none (by simpa using hl)] at e
      cases e
  · rw [List.getElem?_set_ne (Ne.symm hj)] at e ⊢
    exact h.2 j s e
theorem EOk.stor {K : PySem.W.Frag} : Stor K anyD (EOk K) := ⟨fun {ρ σ H i v d} _ h r => by
  rw [bindS_eq]
  split
  · exact h.set r
  · exact h.frz.set r, fun _ => by simp⟩
/-- σ' is σ but at the slots I -/
def Sets (I : List Nat) (σ σ' : St) : Prop := σ'.length = σ.length ∧ ∀ j, j ∉ I → σ'[j]? = σ[j]?
theorem Sets.refl (I : List Nat) (σ : St) : Sets I σ σ := ⟨rfl, fun _ _ => rfl⟩
theorem Sets.trans {I : List Nat} {σ σ1 σ2 : St} (a : Sets I σ σ1) (b : Sets I σ1 σ2) : Sets I σ σ2 := ⟨b.1.trans a.1, fun j h => (b.2 j h).trans (a.2 j h)⟩
theorem Sets.mono {I J : List Nat} {σ σ1 : St} (a : Sets I σ σ1) (h : ∀ i ∈ I, i ∈ J) : Sets J σ σ1 := ⟨a.1, fun j hj => a.2 j fun z => hj (h j z)⟩
theorem Sets.set {i : Nat} {σ : St} {o : Option V} : Sets [i] σ (σ.set i o) := ⟨by simp, fun j h => by
  rw [List.getElem?_set_ne]
  intro z
  exact h (by simp [z])⟩
theorem wipe_in {σ : St} : ∀ {vs : List Nat} {i : Nat}, i ∈ vs → i < σ.length → (wipe σ vs)[i]? = some none
  | v :: vs, i, h, hl => by
    unfold wipe
    by_cases hv : v = i
    · subst hv
      rw [List.getElem?_set_self (by rw [wipe_length]; exact hl)]
    · rw [List.getElem?_set_ne hv]
      rcases List.mem_cons.mp h with z | z
      · exact absurd z.symm hv
      · exact wipe_in z hl
theorem wipe_sets {I vs : List Nat} {σ σ1 : St} (a : Sets I σ σ1) (h : ∀ i ∈ I, i ∈ vs) : wipe σ1 vs = wipe σ vs := by
  apply List.ext_getElem?
  intro j
  by_cases hj : j ∈ vs
  · by_cases hl : j < σ.length
    · rw [wipe_in hj hl, wipe_in hj (by rw [a.1]; exact hl)]
    · rw [List.getElem?_eq_none (l := wipe σ1 vs) (by rw [wipe_length, a.1]; simpa using hl), List.getElem?_eq_none (l := wipe σ vs) (by rw [wipe_length]; simpa using hl)]
  · rw [wipe_out hj, wipe_out hj]
    exact a.2 j fun z => hj (h j z)

/-- a target's reading by data -/
def tG (K : PySem.W.Frag) (c : D → Bool) (P : Env' → St → Hp → Prop) (b : Bd) (I : List Nat) : TG := fun v σ H Q => ∃ d ρ ρ', c d = true ∧ Rep K H v d ∧ P ρ σ H ∧ b d ρ = some ρ' ∧ ∀ σ', Sets I σ σ' → P ρ' σ' H → Q σ' H
def tGs (K : PySem.W.Frag) (c : D → Bool) (P : Env' → St → Hp → Prop) (bs : List Bd) (I : List Nat) : TGs := fun vs σ H Q => ∃ ds ρ ρ', ds.all c = true ∧ RepAll K H vs ds ∧ P ρ σ H ∧ bAll bs ds ρ = some ρ' ∧ ∀ σ', Sets I σ σ' → P ρ' σ' H → Q σ' H
def JG (X : Cx) (c : D → Bool) (P : Env' → St → Hp → Prop) (tg : Expr) (b : Bd) (I : List Nat) : Prop := PG X tg (tG X.K c P b I)
theorem pgI {X : Cx} {e : Expr} {t t' : TG} (h : PG X e t) (i : ∀ v σ H Q, t' v σ H Q → t v σ H Q) : PG X e t' := ⟨fun pins s σ H v u Q I r q => h.run pins s σ H v u Q I r (i v σ H Q q)⟩
theorem pgsI {X : Cx} {e : List Expr} {t t' : TGs} (h : PGs X e t) (i : ∀ v σ H Q, t' v σ H Q → t v σ H Q) : PGs X e t' := ⟨fun pins s σ H v u Q I r q => h.run pins s σ H v u Q I r (i v σ H Q q)⟩
inductive JGs (X : Cx) (c : D → Bool) (P : Env' → St → Hp → Prop) (I : List Nat) : List Expr → List Bd → Prop
  | nil : JGs X c P I [] []
  | cons {e : Expr} {b : Bd} {es : List Expr} {bs : List Bd} {J : List Nat} : JG X c P e b J → (∀ i ∈ J, i ∈ I) → nostar e = true → JGs X c P I es bs → JGs X c P I (e :: es) (b :: bs)
theorem assignEach_cons {e : Expr} {es : List Expr} {env : Env} (h : nostar e = true) : assignEach (e :: es) env = (false, assign e env) :: assignEach es env := by
  cases e <;> first | rfl | cases h
section
variable {X : Cx} {c : D → Bool} {P : Env' → St → Hp → Prop} {pos : Pos}
theorem jg_name {i : Nat} {x : Str} (S : Stor X.K c P) (hN : X.N.Nodup) (hi : X.N[i]? = some x) (hx : Loc X.env.scope x) (hf : X.fn x = true ∨ X.env.scope.names.lookup x = some .local) : JG X c P (.Name x pos) (bName i) [i] :=
  pgI (pg_name hN hi hx hf) fun v σ H Q q => by
    obtain ⟨d, ρ, ρ', hc, r, p, e, h⟩ := q
    cases e
    exact h _ Sets.set (S.st hc p r)
theorem JGs.pgs {I : List Nat} : ∀ {es : List Expr} {bs : List Bd}, JGs X c P I es bs → PGs X es (tGs X.K c P bs I)
  | _, _, .nil => pgsI pgs_nil fun v σ H Q q => by
    obtain ⟨ds, ρ, ρ', hc, r, p, e, h⟩ := q
    cases r with
    | nil => cases e; exact ⟨rfl, h σ (Sets.refl I σ) p⟩
    | cons _ _ => cases e
  | _, _, .cons (es := es) (b := b) h hI n r => pgsI (pgs_cons h r.pgs (by rw [assignEach_cons n]; rfl)) fun v σ H Q q => by
    obtain ⟨ds, ρ, ρ', hc, rr, p, e, hq⟩ := q
    cases rr with
    | nil => cases e
    | cons r1 r2 =>
      rename_i d ds
      rw [List.all_cons, Bool.and_eq_true] at hc
      unfold bAll at e
      cases e1 : b d ρ with
      | none => rw [e1] at e; cases e
      | some ρ1 =>
        rw [e1] at e
        refine ⟨_, _, rfl, d, ρ, ρ1, hc.1, r1, p, e1, fun σ' s' p' => ⟨ds, ρ1, ρ', hc.2, r2, p', e, fun σ'' s'' p'' => hq σ'' ((s'.mono hI).trans s'') p''⟩⟩
theorem JGs.len {I : List Nat} : ∀ {es : List Expr} {bs : List Bd}, JGs X c P I es bs → (assignEach es X.env).length = bs.length ∧ (assignEach es X.env).findIdx? (·.1) = none
  | _, _, .nil => ⟨rfl, rfl⟩
  | _, _, .cons h hI n r => by
    obtain ⟨a, b⟩ := r.len
    rw [assignEach_cons n]
    refine ⟨by simp [a], ?_⟩
    rw [List.findIdx?_cons]
    simp [b]
theorem bAll_len : ∀ {bs : List Bd} {ds : List D} {ρ ρ' : Env'}, bAll bs ds ρ = some ρ' → ds.length = bs.length
  | [], [], _, _, _ => rfl
  | [], _ :: _, _, _, h => by cases h
  | _ :: _, [], _, _, h => by cases h
  | b :: bs, d :: ds, ρ, ρ', h => by
    unfold bAll at h
    cases e : b d ρ with
    | none => rw [e] at h; cases h
    | some ρ1 =>
      rw [e] at h
      simp [bAll_len (bs := bs) h]
theorem jg_tup {I : List Nat} {es : List Expr} {bs : List Bd} {k : Nat} (S : Stor X.K c P) (hc : X.calm = true) (h : JGs X c P I es bs) : JG X c P (.Tuple es k pos) (bTup bs) I :=
  pgI (pg_tup hc h.pgs h.len.1 h.len.2) fun v σ H Q q => by
    obtain ⟨d, ρ, ρ', hcd, r, p, e, hq⟩ := q
    cases r with
    | tup hT rr =>
      rename_i ds
      have e : bAll bs ds ρ = some ρ' := e
      exact ⟨_, _, rfl, sqT_of hT, by rw [rr.length, bAll_len e], ds, ρ, ρ', S.tc hcd, rr, p, e, hq⟩
    | _ => cases e
end

/-! ### what is walked -/
/-- J walks xs wherever G stands -/
def Walks' (K : PySem.W.Frag) (J : It) (G : Hp) (xs : List D) : Prop := ∀ (i : Nat) (H : Hp), Same G H → (∀ d, xs[i]? = some d → J.go i H ∧ ∀ x H', J.yld i H x H' → Same H H' ∧ Rep K H' x d) ∧ (xs.length ≤ i → J.stop i H)
/-- the containers' meanings; their items -/
abbrev Itd' := List D → Option (List D)
def tI (K : PySem.W.Frag) (cA : Nat → Addr) (W : WX) (fr : Bool) (f : As) (its : Itd') (ρ : Env') : TI := fun σ H R => EOk K ρ σ H ∧ match f ρ with
  | .ok cds => match its cds with
    | none => False
    | some xs => ∀ J vs H', Same H H' → RepAll K H' vs cds → (fr = true → ∀ d, cds = [d] → mutTop d = true → ∃ a, vs = [.ref a] ∧ H a = none) → (∀ G, Same G H' → RepAll K G vs cds → Walks' K J G xs) → R J H'
  | .exc c => ∀ H', Same H H' → W (.ref (cA c)) none σ H'
  | .bad => False
def JI (X : Cx) (cA : Nat → Addr) (W : WX) (fr : Bool) (tg iter : Expr) (f : As) (its : Itd') : Prop := ∀ ρ, PI X tg iter (tI X.K cA W fr f its ρ)
theorem piI {X : Cx} {tg e : Expr} {t t' : TI} (h : PI X tg e t) (i : ∀ σ H Q, t' σ H Q → t σ H Q) : PI X tg e t' := ⟨fun pins s σ H Q I q => h.run pins s σ H Q I (i σ H Q q)⟩
def one (f : Ex) : As := fun ρ => (f ρ).bind fun d => .ok [d]
def signs (z : Str) : List D := z.cps.toList.map fun c => .str ⟨#[c]⟩
def iSeq : Itd'
  | [.list ds] => some ds
  | [.tuple ds] => some ds
  | [.str z] => if z.length ≤ sizeLine then some (signs z) else none
  | _ => none
section
variable {X : Cx} {cA : Nat → Addr} {W : WX} {fr : Bool} {tg : Expr}
theorem walks_list {K : PySem.W.Frag} {G : Hp} {a : Addr} {xs : List V} {ds : List D} (h : Rd G a (.lst xs)) (r : RepAll K G xs ds) : Walks' K (Itl K a) G ds := fun i H s =>
  ⟨fun d e => by
    obtain ⟨v, e1, r1⟩ := r.getD e
    exact ⟨⟨xs, v, .inl (Same.rd s h), e1⟩, fun x H' y => by
      obtain ⟨rfl, y⟩ := y
      have := y xs (.inl (Same.rd s h))
      rw [e1] at this
      cases this
      exact ⟨Same.refl _, r1.same s⟩⟩, fun z => ⟨xs, .inl (Same.rd s h), by rw [r.length]; exact z⟩⟩
theorem walks_tup {K : PySem.W.Frag} {G : Hp} {a : Addr} {xs : List V} {ds : List D} (h : SqT K G a xs) (r : RepAll K G xs ds) : Walks' K (Itt K a) G ds := fun i H s =>
  ⟨fun d e => by
    obtain ⟨v, e1, r1⟩ := r.getD e
    exact ⟨⟨xs, v, Same.sqT s h, e1⟩, fun x H' y => by
      obtain ⟨rfl, y⟩ := y
      have := y xs (Same.sqT s h)
      rw [e1] at this
      cases this
      exact ⟨Same.refl _, r1.same s⟩⟩, fun z => ⟨xs, Same.sqT s h, by rw [r.length]; exact z⟩⟩
/-- a list, a tuple or a text, whichever it is -/
theorem pi_seq {l : Expr} {tl : TE} (hl : PE X l tl) : PI X tg l (fun σ H R => tl σ H fun x H1 => (∃ a xs, x = .ref a ∧ SqL X.K H1 a xs ∧ R (Itl X.K a) H1) ∨ (∃ a xs, x = .ref a ∧ SqT X.K H1 a xs ∧ R (Itt X.K a) H1) ∨ ∃ z, x = .str z ∧ R (Its z) H1) := by
  refine ⟨fun pins s σ H R I h => ?_⟩
  refine thn (hl.run pins s σ H _ I h) fun v s1 ⟨x, H1, I1, r1, q1⟩ => ?_
  rcases q1 with ⟨a, xs, e, hq, q⟩ | ⟨a, xs, e, hq, q⟩ | ⟨z, e, q⟩
  · subst e
    cases r1
    obtain ⟨its, rv, p, hz⟩ := I1.list hq
    refine wpAny_pyIter_list p.isList ?_
    refine ⟨s1.heap.objs.size, [s1.heap.objs.size], _, _, H1, rfl, I1.kept (t' := s1.toks) fun b o e => Heap.get?_push_of_some _ e, turn_list a _, ⟨_, Heap.get?_push_size _ rfl, rfl, rfl⟩, fun b hb => ?_, q⟩
    have e : b = s1.heap.objs.size := by simpa using hb
    subst e
    exact I1.fpOk (Nat.le_refl _) (I1.hok.fresh (Nat.le_refl _))
  · subst e
    cases r1
    obtain ⟨its, rv, p, hz⟩ := I1.tuple hq
    refine wpAny_pyIter_tuple (show s1.heap.IsTuple a its.toArray from p) ?_
    refine ⟨s1.heap.objs.size, [s1.heap.objs.size], _, _, H1, rfl, I1.kept (t' := s1.toks) fun b o e => Heap.get?_push_of_some _ e, turn_tuple a _, ⟨_, Heap.get?_push_size _ rfl, rfl, rfl⟩, fun b hb => ?_, q⟩
    have e : b = s1.heap.objs.size := by simpa using hb
    subst e
    exact I1.fpOk (Nat.le_refl _) (I1.hok.fresh (Nat.le_refl _))
  · subst e
    obtain ⟨t, rfl⟩ := r1
    cases ha : z.cps.all (· < 128)
    · exact wpAny_pyIter_wide ha (pi_one (tk := s1.toks) I1 _ (turn_str _ z t "str_iterator" (.inr rfl)) ⟨_, Heap.get?_push_size _ rfl, rfl, rfl⟩ q)
    · exact wpAny_pyIter_ascii ha (pi_one (tk := s1.toks) I1 _ (turn_str _ z t "str_ascii_iterator" (.inl rfl)) ⟨_, Heap.get?_push_size _ rfl, rfl, rfl⟩ q)
theorem ji_seq {e : Expr} {f : Ex} (h : JE X cA W fr e f) : JI X cA W fr tg e (one f) iSeq := fun ρ => piI (pi_seq (h ρ)) fun σ H R q => by
  refine ⟨q.1, ?_⟩
  have p := q.2
  unfold one at p
  cases e1 : f ρ with
  | bad => rw [e1] at p; exact p.elim
  | exc c => rw [e1] at p; exact p
  | ok d =>
    rw [e1, Res.bind_ok] at p
    intro v H1 s1 r1 fh
    have fresh : fr = true → ∀ d', [d] = [d'] → mutTop d' = true → ∃ a, [v] = [V.ref a] ∧ H a = none := fun a d' ed m => by
      cases ed
      obtain ⟨b, e1, e2, _⟩ := fh a m
      exact ⟨b, by rw [e1], e2⟩
    cases r1 with
    | lst h1 rr =>
      refine .inl ⟨_, _, rfl, .inl h1, p _ _ H1 s1 (.cons (.lst h1 rr) .nil) fresh fun G sG rG => ?_⟩
      cases rG with
      | cons r1 r2 =>
        cases r1 with
        | lst h2 r2 => exact walks_list h2 r2
    | tup h1 rr =>
      refine .inr (.inl ⟨_, _, rfl, sqT_of h1, p _ _ H1 s1 (.cons (.tup h1 rr) .nil) fresh fun G sG rG => ?_⟩)
      cases rG with
      | cons r1 r2 =>
        cases r1 with
        | tup h2 r2 => exact walks_tup (sqT_of h2) r2
    | str z =>
      simp only [iSeq] at p
      by_cases hz : z.length ≤ sizeLine
      · simp only [hz, if_true] at p
        refine .inr (.inr ⟨z, rfl, p _ _ H1 s1 (.cons (.str z) .nil) fresh fun G sG rG => ?_⟩)
        intro i H2 s2
        refine ⟨fun d e => ?_, fun z2 => ?_⟩
        · unfold signs at e
          rw [List.getElem?_map] at e
          cases e2 : z.cps.toList[i]? with
          | none => rw [e2] at e; cases e
          | some c =>
            rw [e2] at e
            cases e
            have hi : i < z.cps.size := by
              have := (List.getElem?_eq_some_iff.mp e2).1
              simpa using this
            refine ⟨hi, fun x H' y => ?_⟩
            obtain ⟨rfl, c', e3, rfl⟩ := y
            have e4 : z.cps[i]? = some c := by rw [← e2]; simp
            rw [e4] at e3
            cases e3
            exact ⟨Same.refl _, .str _⟩
        · unfold signs at z2
          show z.cps.size ≤ i
          simpa using z2
      · simp only [hz, if_false] at p
    | _ => exact p.elim
/-! ### ranges -/
def upFrom (lo : Int) (n : Nat) : List D := (List.range n).map fun (k : Nat) => .int (lo + (k : Int))
theorem walks_range {K : PySem.W.Frag} {G : Hp} {lo : Int} {n : Nat} : Walks' K (Itr lo n) G (upFrom lo n) := fun i H s => by
  unfold upFrom
  refine ⟨fun d e => ?_, fun z => by show n ≤ i; simpa using z⟩
  rw [List.getElem?_map] at e
  by_cases hi : i < n
  · rw [List.getElem?_range hi] at e
    cases e
    exact ⟨hi, fun x H' y => by obtain ⟨rfl, rfl⟩ := y; exact ⟨Same.refl _, .int _⟩⟩
  · rw [List.getElem?_eq_none (by simpa using hi)] at e
    cases e
def iRange : Itd'
  | [.int j] => if -(2 ^ 62) ≤ j ∧ j < 2 ^ 62 then some (upFrom 0 j.toNat) else none
  | [.int i, .int j] => if -(2 ^ 62) ≤ i ∧ i < 2 ^ 62 ∧ -(2 ^ 62) ≤ j ∧ j < 2 ^ 62 then some (upFrom i (j - i).toNat) else none
  | _ => none
theorem ji_range1 {a : Expr} {f : Ex} {p pos : Pos} (hg : Gl X "range") (hm : X.mg "range" = none) (h : JAll X cA W [a] [f]) : JI X cA W fr tg (.Call (.Name "range" p) [a] [] pos) (evalL [f]) iRange := fun ρ => by
  have hs : starEach [a] X.env = [(false, eval a X.env)] := by
    cases h with
    | cons _ n _ => exact starEach_cons n
  refine piI (pi_range1 hg hm (h.pa ρ) hs) fun σ H R q => ⟨q.1, ?_⟩
  have p := q.2
  cases e : evalL [f] ρ with
  | bad => rw [e] at p; exact p.elim
  | exc c => rw [e] at p; exact p
  | ok ds =>
    rw [e] at p
    intro vs H1 s1 r1
    have p : (match iRange ds with | none => False | some xs => _) := p
    cases r1 with
    | nil => exact p.elim
    | cons r2 r3 =>
      cases r3 with
      | nil =>
        cases r2 with
        | int j =>
          simp only [iRange] at p
          split at p
          · exact p.elim
          · rename_i hb
            split at hb
            · rename_i hc
              cases hb
              exact ⟨j, rfl, hc.1, hc.2, p _ _ H1 s1 (.cons (.int j) .nil) (fun _ d ed m => by cases ed; cases m) fun G _ _ => walks_range⟩
            · cases hb
        | _ => exact p.elim
      | cons r4 r5 => 
        have l := evalL_length e
        simp at l
theorem ji_range2 {a b : Expr} {f g : Ex} {p pos : Pos} (hg : Gl X "range") (hm : X.mg "range" = none) (h : JAll X cA W [a, b] [f, g]) : JI X cA W fr tg (.Call (.Name "range" p) [a, b] [] pos) (evalL [f, g]) iRange := fun ρ => by
  have hs : starEach [a, b] X.env = [(false, eval a X.env), (false, eval b X.env)] ∧ starEach [b] X.env = [(false, eval b X.env)] := by
    cases h with
    | cons _ n r => cases r with
      | cons _ n2 _ => exact ⟨by rw [starEach_cons n, starEach_cons n2]; rfl, starEach_cons n2⟩
  refine piI (pi_range2 hg hm (h.pa ρ) hs.1 hs.2) fun σ H R q => ⟨q.1, ?_⟩
  have p := q.2
  cases e : evalL [f, g] ρ with
  | bad => rw [e] at p; exact p.elim
  | exc c => rw [e] at p; exact p
  | ok ds =>
    rw [e] at p
    intro vs H1 s1 r1
    have l := evalL_length e
    match ds, vs, r1, l with
    | [d1, d2], _, .cons r2 (.cons r3 .nil), _ =>
      cases r2 with
      | int i =>
        cases r3 with
        | int j =>
          simp only [iRange] at p
          split at p
          · exact p.elim
          · rename_i hb
            split at hb
            · rename_i hc
              cases hb
              exact ⟨i, j, rfl, hc, p _ _ H1 s1 (.cons (.int i) (.cons (.int j) .nil)) (fun _ d ed m => by cases ed) fun G _ _ => walks_range⟩
            · cases hb
        | _ => exact p.elim
      | _ => exact p.elim

/-! ### list comprehensions -/
def noexc {α : Type} : Res α → Res α
  | .exc _ => .bad
  | r => r
/-- the items kept, from the left -/
def lcGo (b : Bd) (t : Tx) (e : Ex) (ρ : Env') : List D → Res (List D)
  | [] => .ok []
  | x :: xs => match b x ρ with
    | none => .bad
    | some ρ1 => (t ρ1).bind fun c => if c = true then (e ρ1).bind fun d => if imm d = true then (lcGo b t e ρ xs).bind fun ds => .ok (d :: ds) else .bad else lcGo b t e ρ xs
def wipeE (ρ : Env') : List Nat → Env'
  | [] => ρ
  | v :: vs => (wipeE ρ vs).set v .un
def sLc (f : As) (its : Itd') (vs : List Nat) (b : Bd) (t : Tx) (e : Ex) : Ex := fun ρ => (f ρ).bind fun cds => match its cds with
  | none => .bad
  | some xs => noexc ((lcGo b t e (wipeE ρ vs) xs).bind fun ds => if ds.length ≤ sizeLine then .ok (.list ds) else .bad)
theorem EOk.wipe {K : PySem.W.Frag} {H : Hp} {ρ : Env'} {σ : St} (h : EOk K ρ σ H) : ∀ vs : List Nat, EOk K (wipeE ρ vs) (L2.wipe σ vs) H
  | [] => h
  | v :: vs => by
    have ih := EOk.wipe h vs
    unfold wipeE L2.wipe
    refine ⟨by simpa using ih.1, fun j s e => ?_⟩
    by_cases hj : j = v
    · subst hj
      by_cases hl : j < (wipeE ρ vs).length
      · rw [List.getElem?_set_self hl] at e
        cases e
        trivial
      · rw [List.getElem?_eq_none (by simpa using hl)] at e
        cases e
    · rw [List.getElem?_set_ne (Ne.symm hj)] at e ⊢
      exact ih.2 j s e

abbrev WF : WX := fun _ _ _ _ => False
def JTs (X : Cx) (cA : Nat → Addr) (W : WX) (ifs : List Expr) (f : Tx) : Prop := ∀ ρ, PTs X ifs (tDT X.K cA W f ρ)
def xYes : Tx := fun _ => .ok true
theorem ptsI {X : Cx} {e : List Expr} {t t' : TT} (h : PTs X e t) (i : ∀ σ H Q, t' σ H Q → t σ H Q) : PTs X e t' := ⟨fun pins s σ H Q I q => h.run pins s σ H Q I (i σ H Q q)⟩
theorem jts_nil : JTs X cA W [] xYes := fun ρ => ptsI pts_nil fun σ H Q q => q.2 H (Same.refl H)
theorem jts_one {c : Expr} {t : Tx} (h : JT X cA W c t) : JTs X cA W [c] t := fun ρ => pts_one (h ρ)
def exT (t : Env' → TT) : TT := fun σ H Q => ∃ ρ, t ρ σ H Q
def exE (t : Env' → TE) : TE := fun σ H Q => ∃ ρ, t ρ σ H Q
theorem JTs.ex {ifs : List Expr} {f : Tx} (h : JTs X cA W ifs f) : PTs X ifs (exT (tDT X.K cA W f)) := ⟨fun pins s σ H Q I ⟨ρ, q⟩ => (h ρ).run pins s σ H Q I q⟩
theorem JE.ex {e : Expr} {f : Ex} (h : JE X cA W fr e f) : PE X e (exE (tD X.K cA W fr f)) := ⟨fun pins s σ H Q I ⟨ρ, q⟩ => (h ρ).run pins s σ H Q I q⟩
theorem JT.ex {e : Expr} {f : Tx} (h : JT X cA W e f) : PT X e (exT (tDT X.K cA W f)) := ⟨fun pins s σ H Q I ⟨ρ, q⟩ => (h ρ).run pins s σ H Q I q⟩
theorem keepT_upd {K : PySem.W.Frag} {H : Hp} {a : Addr} {o u : HO} (h : H a = some o) (n : ∀ xs, o ≠ .tup xs) (n2 : ∀ ob xs, o ≠ .frz ob xs) : KeepT K H (upd H a u) := fun b xs q => by
  rw [upd_ne (fun z => by subst z; rw [h] at q; cases q; exact n _ rfl)]; exact q
theorem immAll_snoc : ∀ {ds : List D} {d : D}, immAll ds = true → imm d = true → immAll (ds ++ [d]) = true
  | [], d, _, h => by simp [immAll, h]
  | x :: ds, d, h, h2 => by
    simp only [immAll, Bool.and_eq_true, List.cons_append] at h ⊢
    exact ⟨h.1, immAll_snoc h.2 h2⟩
theorem wipe_wipe {σ : St} {vs : List Nat} : L2.wipe (L2.wipe σ vs) vs = L2.wipe σ vs := by
  apply List.ext_getElem?
  intro j
  by_cases hj : j ∈ vs
  · by_cases hl : j < σ.length
    · rw [wipe_in hj (by rw [wipe_length]; exact hl), wipe_in hj hl]
    · rw [List.getElem?_eq_none (l := L2.wipe (L2.wipe σ vs) vs) (by rw [wipe_length, wipe_length]; simpa using hl), List.getElem?_eq_none (l := L2.wipe σ vs) (by rw [wipe_length]; simpa using hl)]
  · rw [wipe_out hj]
theorem skT {K : PySem.W.Frag} {H H' : Hp} (s : Same H H') : KeepT K H H' := fun a xs q => s _ _ q
theorem KeepT.trans {K : PySem.W.Frag} {H H' H'' : Hp} (a : KeepT K H H') (b : KeepT K H' H'') : KeepT K H H'' := fun c xs q => b c xs (a c xs q)
/-- the turns of a comprehension's last clause: the list at D grows by lcGo's items -/
theorem lc_turns {K : PySem.W.Frag} {J : It} {G H1 Hk H0 : Hp} {σ : St} {ρ : Env'} {xs ds acc0D : List D} {acc0 : List V} {vs : List Nat} {b : Bd} {I : List Nat} {t : Tx} {e : Ex} {fr' : Bool} {D : Addr} {Nx : Hp → Prop}
    (hE : ∀ H, Same H1 H → KeepT K Hk H → EOk K ρ σ H) (w : Walks' K J G xs) (hI : ∀ i ∈ I, i ∈ vs) (nG : G D = none) (nD : H1 D = none)
    (hg : lcGo b t e (wipeE ρ vs) xs = .ok ds) (hz : acc0D.length + ds.length ≤ sizeLine) (sG : Same G H0) (s1 : Same H1 H0) (k0 : KeepT K Hk H0) (h0 : H0 D = some (.lst acc0)) (r0 : RepAll K H0 acc0 acc0D) (i0 : immAll acc0D = true)
    (hQ : ∀ H' acc, Same H1 H' → KeepT K Hk H' → H' D = some (.lst acc) → RepAll K H' acc (acc0D ++ ds) → immAll (acc0D ++ ds) = true → Nx H') :
    ∃ W : Nat → Nat → Hp → Prop, (∃ m, W 0 m H0) ∧ ∀ i m H, W i m H →
      (J.stop i H ∧ Nx H) ∨ (J.go i H ∧ ∃ Nx1 : Hp → Prop, (∀ H', Nx1 H' → ∃ m', m' < m ∧ W (i + 1) m' H') ∧ ∀ x H', J.yld i H x H' → tG K anyD (EOk K) b I x (L2.wipe σ vs) H' fun σ2 H2 => L2.wipe σ2 vs = L2.wipe σ vs ∧ exT (tDT K cA WF t) σ2 H2 fun c H3 =>
        if c = true then exE (tD K cA WF fr' e) σ2 H3 fun y H4 => ∃ acc, H4 D = some (.lst acc) ∧ acc.length < sizeLine ∧ Nx1 (upd H4 D (.lst (acc ++ [y]))) else Nx1 H3) := by
  let St (i : Nat) (H : Hp) : Prop := i ≤ xs.length ∧ Same G H ∧ Same H1 H ∧ KeepT K Hk H ∧ ∃ acc accD rest, H D = some (.lst acc) ∧ RepAll K H acc accD ∧ immAll accD = true ∧ lcGo b t e (wipeE ρ vs) (xs.drop i) = .ok rest ∧ accD ++ rest = acc0D ++ ds
  refine ⟨fun i m H => m = xs.length - i ∧ St i H, ⟨xs.length, by simp, Nat.zero_le _, sG, s1, k0, acc0, acc0D, ds, h0, r0, i0, hg, rfl⟩, ?_⟩
  rintro i m H ⟨rfl, hi, gH, sH, kH, acc, accD, rest, hD, rA, iA, hr, ed⟩
  by_cases hlt : i < xs.length
  · have edrop : xs.drop i = xs[i] :: xs.drop (i + 1) := List.drop_eq_getElem_cons hlt
    rw [edrop] at hr
    obtain ⟨go, yl⟩ := (w i H gH).1 xs[i] (List.getElem?_eq_getElem hlt)
    refine .inr ⟨go, St (i + 1), fun H' p => ⟨xs.length - (i + 1), by omega, rfl, p⟩, fun x H' y => ?_⟩
    obtain ⟨s', rx⟩ := yl x H' y
    unfold lcGo at hr
    cases eb : b xs[i] (wipeE ρ vs) with
    | none => rw [eb] at hr; cases hr
    | some ρ1 =>
      rw [eb] at hr
      have hr : ((t ρ1).bind fun c => if c = true then (e ρ1).bind fun d => if imm d = true then (lcGo b t e (wipeE ρ vs) (xs.drop (i + 1))).bind fun ds => .ok (d :: ds) else .bad else lcGo b t e (wipeE ρ vs) (xs.drop (i + 1))) = .ok rest := hr
      refine ⟨xs[i], wipeE ρ vs, ρ1, rfl, rx, (hE H' (sH.trans s') (kH.trans (skT s'))).wipe vs, eb, fun σ2 hs ok2 => ⟨?_, ρ1, ok2, ?_⟩⟩
      · rw [wipe_sets hs hI, wipe_wipe]
      · cases et : t ρ1 with
        | bad => rw [et] at hr; cases hr
        | exc c => rw [et] at hr; cases hr
        | ok c =>
          rw [et, Res.bind_ok] at hr
          intro H3 s3
          have s03 := s'.trans s3
          cases c with
          | false =>
            simp only [Bool.false_eq_true, if_false] at hr ⊢
            refine ⟨hlt, gH.trans s03, sH.trans s03, kH.trans (skT s03), acc, accD, rest, s03 _ _ hD, rA.same s03, iA, hr, ed⟩
          | true =>
            simp only [if_true] at hr ⊢
            refine ⟨ρ1, ok2.same s3, ?_⟩
            cases ee : e ρ1 with
            | bad => rw [ee] at hr; cases hr
            | exc c => rw [ee] at hr; cases hr
            | ok d =>
              rw [ee, Res.bind_ok] at hr
              intro y4 H4 s4 r4 _
              split at hr
              · rename_i im
                cases er : lcGo b t e (wipeE ρ vs) (xs.drop (i + 1)) with
                | bad => rw [er] at hr; cases hr
                | exc c => rw [er] at hr; cases hr
                | ok rest' =>
                  rw [er, Res.bind_ok] at hr
                  cases hr
                  have s04 := s03.trans s4
                  have hD4 : H4 D = some (.lst acc) := s04 _ _ hD
                  have kt : KeepT K H4 (upd H4 D (.lst (acc ++ [y4]))) := keepT_upd hD4 (fun _ z => by cases z) fun _ _ z => by cases z
                  have rA4 : RepAll K H4 (acc ++ [y4]) (accD ++ [d]) := (rA.same s04).append (.cons r4 .nil)
                  have iA4 := immAll_snoc iA im
                  have la : acc.length < sizeLine := by
                    have := rA.length
                    have e5 := congrArg List.length ed
                    rw [List.length_append, List.length_cons, List.length_append] at e5
                    omega
                  have up : ∀ {Hx : Hp}, Same Hx H4 → Hx D = none → Same Hx (upd H4 D (.lst (acc ++ [y4]))) := fun {Hx} sx nx b o q => by
                    rw [upd_ne (ne_of_none q nx)]
                    exact sx _ _ q
                  exact ⟨acc, hD4, la, hlt, up (gH.trans s04) nG, up (sH.trans s04) nD, (kH.trans (skT s04)).trans kt, acc ++ [y4], accD ++ [d], rest', upd_same, rA4.imm kt iA4, iA4, er, by rw [List.append_assoc]; exact ed⟩
              · cases hr
  · have ei : i = xs.length := by omega
    subst ei
    have : xs.drop xs.length = [] := by simp
    rw [this] at hr
    cases hr
    rw [List.append_nil] at ed
    subst ed
    exact .inl ⟨(w _ H gH).2 (Nat.le_refl _), hQ H acc sH kH hD rA iA⟩
/-- the reading of a comprehension, once its source has come -/
theorem lc_fin {K : PySem.W.Frag} {J : It} {H1 : Hp} {σ : St} {ρ : Env'} {xs ds : List D} {vs : List Nat} {b : Bd} {I : List Nat} {t : Tx} {e : Ex} {fr' : Bool} {D : Addr} {Q : VK} (ok : EOk K ρ σ H1) (w : Walks' K J H1 xs) (hI : ∀ i ∈ I, i ∈ vs)
    (hg : lcGo b t e (wipeE ρ vs) xs = .ok ds) (hz : ds.length ≤ sizeLine) (nD : H1 D = none) (hQ : ∀ H' acc, Same H1 H' → Rep K H' (.ref D) (.list ds) → H' D = some (.lst acc) → Q (.ref D) H') :
    ∃ W : Nat → Nat → Hp → Prop, (∃ m, W 0 m (upd H1 D (.lst []))) ∧ ∀ i m H, W i m H →
      (J.stop i H ∧ Q (.ref D) H) ∨ (J.go i H ∧ ∃ Nx : Hp → Prop, (∀ H', Nx H' → ∃ m', m' < m ∧ W (i + 1) m' H') ∧ ∀ x H', J.yld i H x H' → tG K anyD (EOk K) b I x (L2.wipe σ vs) H' fun σ2 H2 => L2.wipe σ2 vs = L2.wipe σ vs ∧ exT (tDT K cA WF t) σ2 H2 fun c H3 =>
        if c = true then exE (tD K cA WF fr' e) σ2 H3 fun y H4 => ∃ acc, H4 D = some (.lst acc) ∧ acc.length < sizeLine ∧ Nx (upd H4 D (.lst (acc ++ [y]))) else Nx H3) :=
  lc_turns (Hk := H1) (Nx := fun H => Q (.ref D) H) (acc0D := []) (acc0 := []) (fun H s _ => ok.same s) w hI nD nD hg (by simpa using hz) (same_upd nD) (same_upd nD) (skT (same_upd nD)) upd_same .nil rfl
    fun H' acc s _ hD r _ => hQ H' acc s (.lst (.inl hD) r) hD
theorem lc_rd {vs : List Nat} {f : As} {its : Itd'} {b : Bd} {I : List Nat} {t : Tx} {e : Ex} {fr' : Bool} {ρ : Env'} {σ : St} {H : Hp} {Q : VK} (hI : ∀ i ∈ I, i ∈ vs) (q : tD X.K cA W true (sLc f its vs b t e) ρ σ H Q) :
    tLc (tI X.K cA W fr f its ρ) (tG X.K anyD (EOk X.K) b I) (exT (tDT X.K cA WF t)) (exE (tD X.K cA WF fr' e)) vs σ H Q := by
  refine ⟨q.1, ?_⟩
  have p := q.2
  unfold sLc at p
  cases e1 : f ρ with
  | bad => rw [e1] at p; exact p.elim
  | exc c => rw [e1] at p; exact p
  | ok cds =>
    rw [e1, Res.bind_ok] at p
    cases e2 : its cds with
    | none => rw [e2] at p; exact p.elim
    | some xs =>
      rw [e2] at p
      simp only [e2]
      have p : Post X.K cA W σ H true (noexc ((lcGo b t e (wipeE ρ vs) xs).bind fun ds => if ds.length ≤ sizeLine then .ok (.list ds) else .bad)) Q := p
      intro J vs' H1 s1 r1 _ w D nD
      cases e3 : lcGo b t e (wipeE ρ vs) xs with
      | bad => rw [e3] at p; exact p.elim
      | exc c => rw [e3] at p; exact p.elim
      | ok ds =>
        rw [e3] at p
        have p : Post X.K cA W σ H true (noexc (if ds.length ≤ sizeLine then .ok (.list ds) else .bad)) Q := p
        by_cases hz : ds.length ≤ sizeLine
        · rw [if_pos hz] at p
          refine lc_fin (cA := cA) (q.1.same s1) (w H1 (Same.refl H1) r1) hI e3 hz nD fun H' acc s' r' hD => p _ H' (s1.trans s') r' fun _ _ => ⟨D, rfl, s1.free nD, fun o u z => by rw [hD] at z; cases z⟩
        · rw [if_neg hz] at p
          exact p.elim

theorem je_lc {elt iter : Expr} {ifs : List Expr} {scope : Scope} {own : List (Str × Nat)} {pos : Pos} {f : As} {its : Itd'} {b : Bd} {I : List Nat} {t : Tx} {e : Ex} {fr' : Bool} (hc : X.calm = true) (hN : X.N.Nodup) (hi : JI X cA W fr tg iter f its) (ok : BlkOk X.N X.env.scope scope own)
    (hg : ∀ (s : Shared) (H : Hp) (C : Addr) (cl : List (Str × Addr)) (fp : List Addr), JG (X.blk s H scope (compEnvC scope cl C X.env) fp) anyD (EOk X.K) tg b I) (hI : ∀ i ∈ I, i ∈ own.map (·.2))
    (ht : ∀ (s : Shared) (H : Hp) (C : Addr) (cl : List (Str × Addr)) (fp : List Addr), JTs (X.blk s H scope (compEnvC scope cl C X.env) fp) cA WF ifs t)
    (he : ∀ (s : Shared) (H : Hp) (C : Addr) (cl : List (Str × Addr)) (fp : List Addr), JE (X.blk s H scope (compEnvC scope cl C X.env) fp) cA WF fr' elt e) (hs : ∀ x, foldedSetIterable iter X.env x = pure x) :
    JE X cA W true (.ListComp elt [⟨tg, iter, ifs, 0⟩] scope pos) (sLc f its (own.map (·.2)) b t e) := fun ρ =>
  peI (pe_lc (g := tG X.K anyD (EOk X.K) b I) (tt := exT (tDT X.K cA WF t)) (te := exE (tD X.K cA WF fr' e)) hc hN (hi ρ) ok (fun s H C cl fp => hg s H C cl fp) (fun s H C cl fp => (ht s H C cl fp).ex) (fun s H C cl fp => (he s H C cl fp).ex) hs) fun σ H Q q => lc_rd hI q

/-! ### two clauses -/
/-- a slot that is as at H1, or holds data without lists -/
def E2 (K : PySem.W.Frag) (H1 : Hp) (ρ : Env') (σ : St) (H : Hp) : Prop := ρ.length = σ.length ∧ ∀ (i : Nat) (s : Sl), ρ[i]? = some s → SlOk K H1 (σ[i]?) s ∨ ∃ d v, s = .dat d ∧ imm d = true ∧ σ[i]? = some (some v) ∧ Rep K H v d
theorem E2.eok {K : PySem.W.Frag} {H1 H H' : Hp} {ρ : Env'} {σ : St} (h : E2 K H1 ρ σ H) (s : Same H1 H') (k : KeepT K H H') : EOk K ρ σ H' := ⟨h.1, fun i sl e => by
  rcases h.2 i sl e with z | ⟨d, v, rfl, im, e1, r⟩
  · exact z.same s
  · exact ⟨v, e1, r.imm k im⟩⟩
theorem EOk.e2 {K : PySem.W.Frag} {H1 H : Hp} {ρ : Env'} {σ : St} (h : EOk K ρ σ H1) : E2 K H1 ρ σ H := ⟨h.1, fun i s e => .inl (h.2 i s e)⟩
theorem E2.stor {K : PySem.W.Frag} {H1 : Hp} : Stor K imm (E2 K H1) := ⟨fun {ρ σ H i v d} hc h r => by
  rw [bindS_eq, if_pos hc]
  refine ⟨by simpa using h.1, fun j s e => ?_⟩
  by_cases hj : j = i
  · subst hj
    by_cases hl : j < ρ.length
    · rw [List.getElem?_set_self hl] at e
      cases e
      exact .inr ⟨d, v, rfl, hc, by rw [List.getElem?_set_self (by rw [← h.1]; exact hl)], r⟩
    · rw [List.getElem?_eq_none (by simpa using hl)] at e
      cases e
  · rw [List.getElem?_set_ne (Ne.symm hj)] at e ⊢
    exact h.2 j s e, fun {ds} h => by
  have : immAll ds = true := by simpa [imm] using h
  clear h
  induction ds with
  | nil => rfl
  | cons x xs ih =>
    simp only [immAll, Bool.and_eq_true] at this
    rw [List.all_cons, this.1, ih this.2]
    rfl⟩
/-- containers that a store to a list that stood ahead of them leaves alone -/
def freeC (fr : Bool) (cds : List D) : Bool := immAll cds || (fr && match cds with
  | [.list ds] => immAll ds
  | _ => false)
def lc2Go (b : Bd) (t : Tx) (f1 : As) (its1 : Itd') (fr1 : Bool) (vs1 : List Nat) (b1 : Bd) (t1 : Tx) (e : Ex) (ρ : Env') : List D → Res (List D)
  | [] => .ok []
  | x :: xs => if imm x = true then match b x ρ with
    | none => .bad
    | some ρ1 => (t ρ1).bind fun c => if c = true then (f1 ρ1).bind fun cds => if freeC fr1 cds = true then match its1 cds with
        | none => .bad
        | some ys => (lcGo b1 t1 e (wipeE ρ1 vs1) ys).bind fun ds => (lc2Go b t f1 its1 fr1 vs1 b1 t1 e ρ xs).bind fun rest => .ok (ds ++ rest)
        else .bad
      else lc2Go b t f1 its1 fr1 vs1 b1 t1 e ρ xs
    else .bad
def sLc2 (f : As) (its : Itd') (vs : List Nat) (b : Bd) (t : Tx) (f1 : As) (its1 : Itd') (fr1 : Bool) (vs1 : List Nat) (b1 : Bd) (t1 : Tx) (e : Ex) : Ex := fun ρ => (f ρ).bind fun cds => match its cds with
  | none => .bad
  | some xs => noexc ((lc2Go b t f1 its1 fr1 vs1 b1 t1 e (wipeE ρ vs) xs).bind fun ds => if ds.length ≤ sizeLine then .ok (.list ds) else .bad)
def exI (t : Env' → TI) : TI := fun σ H Q => ∃ ρ, t ρ σ H Q
theorem JI.ex {e : Expr} {f : As} {its : Itd'} (h : JI X cA W fr tg e f its) : PI X tg e (exI (tI X.K cA W fr f its)) := ⟨fun pins s σ H Q I ⟨ρ, q⟩ => (h ρ).run pins s σ H Q I q⟩
def hidD (D : Addr) (H : Hp) : Hp := fun a => if a = D then none else H a
theorem hidD_same {D : Addr} {H : Hp} : Same (hidD D H) H := fun a o e => by
  unfold hidD at e
  split at e
  · cases e
  · exact e
theorem hidD_keep {K : PySem.W.Frag} {D : Addr} {H : Hp} {xs : List V} (h : H D = some (.lst xs)) : KeepT K H (hidD D H) := fun b ys q => by
  unfold hidD; rw [if_neg (fun z => by subst z; rw [h] at q; cases q)]; exact q
theorem RepAll.hid {K : PySem.W.Frag} {D : Addr} {H3 H4 : Hp} {xs : List V} {fr1 : Bool} {vs : List V} {cds : List Py.D} (s : Same H3 H4) (hD : H3 D = some (.lst xs)) (r : RepAll K H4 vs cds) (fh : fr1 = true → ∀ d, cds = [d] → mutTop d = true → ∃ a, vs = [.ref a] ∧ H3 a = none) (h : freeC fr1 cds = true) : RepAll K (hidD D H4) vs cds := by
  have kt := hidD_keep (K := K) (s _ _ hD)
  unfold freeC at h
  rcases Bool.or_eq_true_iff.mp h with h | h
  · exact r.imm kt h
  · obtain ⟨h1, h2⟩ := Bool.and_eq_true_iff.mp h
    split at h2
    · rename_i ds
      obtain ⟨a, e1, e2⟩ := fh h1 _ rfl rfl
      subst e1
      cases r with
      | cons r1 r2 =>
        cases r2
        cases r1 with
        | lst hl rr =>
          refine .cons (.lst ?_ (rr.imm kt h2)) .nil
          have ne : a ≠ D := fun z => by subst z; rw [hD] at e2; cases e2
          rcases hl with hl | ⟨o, hl⟩
          · exact .inl (by unfold hidD; rw [if_neg ne]; exact hl)
          · exact .inr ⟨o, by unfold hidD; rw [if_neg ne]; exact hl⟩
    · cases h2
theorem lc2_fin {K : PySem.W.Frag} {J : It} {H1 : Hp} {σ : St} {ρ : Env'} {xs ds : List D} {vs vs1 : List Nat} {b b1 : Bd} {I I1 : List Nat} {t t1 : Tx} {f1 : As} {its1 : Itd'} {fr1 : Bool} {e : Ex} {fr' : Bool} {D : Addr} {Q : VK} (ok : EOk K ρ σ H1) (w : Walks' K J H1 xs) (hI : ∀ i ∈ I, i ∈ vs) (hI1 : ∀ i ∈ I1, i ∈ vs1)
    (hg : lc2Go b t f1 its1 fr1 vs1 b1 t1 e (wipeE ρ vs) xs = .ok ds) (hz : ds.length ≤ sizeLine) (nD : H1 D = none) (hQ : ∀ H' acc, Same H1 H' → Rep K H' (.ref D) (.list ds) → H' D = some (.lst acc) → Q (.ref D) H') :
    ∃ W : Nat → Nat → Hp → Prop, (∃ m, W 0 m (upd H1 D (.lst []))) ∧ ∀ i m H, W i m H →
      (J.stop i H ∧ Q (.ref D) H) ∨ (J.go i H ∧ ∃ Nx : Hp → Prop, (∀ H', Nx H' → ∃ m', m' < m ∧ W (i + 1) m' H') ∧ ∀ x H', J.yld i H x H' → tG K imm (E2 K H1) b I x (L2.wipe σ vs) H' fun σ2 H2 => L2.wipe σ2 vs = L2.wipe σ vs ∧ exT (tDT K cA WF t) σ2 H2 fun c H3 =>
        if c = true then exI (tI K cA WF fr1 f1 its1) σ2 H3 fun J1 H4 => ∃ W1 : Nat → Nat → Hp → Prop, (∃ m, W1 0 m H4) ∧ ∀ j k H, W1 j k H →
          (J1.stop j H ∧ Nx H) ∨ (J1.go j H ∧ ∃ Nx1 : Hp → Prop, (∀ H', Nx1 H' → ∃ k', k' < k ∧ W1 (j + 1) k' H') ∧ ∀ x H', J1.yld j H x H' → tG K anyD (EOk K) b1 I1 x (L2.wipe σ2 vs1) H' fun σ3 H5 => L2.wipe σ3 vs1 = L2.wipe σ2 vs1 ∧ exT (tDT K cA WF t1) σ3 H5 fun c H6 =>
            if c = true then exE (tD K cA WF fr' e) σ3 H6 fun y H7 => ∃ acc, H7 D = some (.lst acc) ∧ acc.length < sizeLine ∧ Nx1 (upd H7 D (.lst (acc ++ [y]))) else Nx1 H6)
        else Nx H3) := by
  let St (i : Nat) (H : Hp) : Prop := i ≤ xs.length ∧ Same H1 H ∧ ∃ acc accD rest, H D = some (.lst acc) ∧ RepAll K H acc accD ∧ immAll accD = true ∧ lc2Go b t f1 its1 fr1 vs1 b1 t1 e (wipeE ρ vs) (xs.drop i) = .ok rest ∧ accD ++ rest = ds
  refine ⟨fun i m H => m = xs.length - i ∧ St i H, ⟨xs.length, by simp, Nat.zero_le _, same_upd nD, [], [], ds, upd_same, .nil, rfl, hg, rfl⟩, ?_⟩
  rintro i m H ⟨rfl, hi, sH, acc, accD, rest, hD, rA, iA, hr, ed⟩
  by_cases hlt : i < xs.length
  · have edrop : xs.drop i = xs[i] :: xs.drop (i + 1) := List.drop_eq_getElem_cons hlt
    rw [edrop] at hr
    obtain ⟨go, yl⟩ := (w i H sH).1 xs[i] (List.getElem?_eq_getElem hlt)
    refine .inr ⟨go, St (i + 1), fun H' p => ⟨xs.length - (i + 1), by omega, rfl, p⟩, fun x H' y => ?_⟩
    obtain ⟨s', rx⟩ := yl x H' y
    unfold lc2Go at hr
    split at hr
    · rename_i im
      cases eb : b xs[i] (wipeE ρ vs) with
      | none => rw [eb] at hr; cases hr
      | some ρ1 =>
        rw [eb] at hr
        have hr : ((t ρ1).bind fun c => if c = true then (f1 ρ1).bind fun cds => if freeC fr1 cds = true then match its1 cds with
            | none => .bad
            | some ys => (lcGo b1 t1 e (wipeE ρ1 vs1) ys).bind fun ds => (lc2Go b t f1 its1 fr1 vs1 b1 t1 e (wipeE ρ vs) (xs.drop (i + 1))).bind fun rest => .ok (ds ++ rest)
            else .bad
          else lc2Go b t f1 its1 fr1 vs1 b1 t1 e (wipeE ρ vs) (xs.drop (i + 1))) = .ok rest := hr
        refine ⟨xs[i], wipeE ρ vs, ρ1, im, rx, (ok.wipe vs).e2, eb, fun σ2 hs ok2 => ⟨?_, ρ1, ok2.eok (sH.trans s') (skT (Same.refl _)), ?_⟩⟩
        · rw [wipe_sets hs hI, wipe_wipe]
        · cases et : t ρ1 with
          | bad => rw [et] at hr; cases hr
          | exc c => rw [et] at hr; cases hr
          | ok c =>
            rw [et, Res.bind_ok] at hr
            intro H3 s3
            have s03 := s'.trans s3
            cases c with
            | false =>
              simp only [Bool.false_eq_true, if_false] at hr ⊢
              refine ⟨hlt, sH.trans s03, acc, accD, rest, s03 _ _ hD, rA.same s03, iA, hr, ed⟩
            | true =>
              simp only [if_true] at hr ⊢
              refine ⟨ρ1, ok2.eok (sH.trans s03) (skT s3), ?_⟩
              cases ef : f1 ρ1 with
              | bad => rw [ef] at hr; cases hr
              | exc c => rw [ef] at hr; cases hr
              | ok cds =>
                rw [ef, Res.bind_ok] at hr
                split at hr
                · rename_i fc
                  cases ei : its1 cds with
                  | none => rw [ei] at hr; cases hr
                  | some ys =>
                    rw [ei] at hr
                    have hr : ((lcGo b1 t1 e (wipeE ρ1 vs1) ys).bind fun ds => (lc2Go b t f1 its1 fr1 vs1 b1 t1 e (wipeE ρ vs) (xs.drop (i + 1))).bind fun rest => .ok (ds ++ rest)) = .ok rest := hr
                    simp only [ei]
                    intro J1 vsx H4 s4 r4 fh w1
                    cases eg : lcGo b1 t1 e (wipeE ρ1 vs1) ys with
                    | bad => rw [eg] at hr; cases hr
                    | exc c => rw [eg] at hr; cases hr
                    | ok ds1 =>
                      rw [eg, Res.bind_ok] at hr
                      cases er : lc2Go b t f1 its1 fr1 vs1 b1 t1 e (wipeE ρ vs) (xs.drop (i + 1)) with
                      | bad => rw [er] at hr; cases hr
                      | exc c => rw [er] at hr; cases hr
                      | ok rest' =>
                        rw [er, Res.bind_ok] at hr
                        cases hr
                        have s04 := s03.trans s4
                        have hD3 : H3 D = some (.lst acc) := s03 _ _ hD
                        have hD4 : H4 D = some (.lst acc) := s04 _ _ hD
                        have rG : RepAll K (hidD D H4) vsx cds := RepAll.hid s4 hD3 r4 fh fc
                        refine lc_turns (cA := cA) (K := K) (G := hidD D H4) (H1 := H1) (Hk := H') (H0 := H4) (acc0D := accD) (acc0 := acc) (fun Hx sx kx => ok2.eok sx kx) (w1 (hidD D H4) hidD_same rG) hI1 (by unfold hidD; rw [if_pos rfl]) nD eg ?_ hidD_same (sH.trans s04) (skT (s3.trans s4)) hD4 (rA.same s04) iA ?_
                        · have e5 := congrArg List.length ed
                          rw [List.length_append, List.length_append] at e5
                          omega
                        · intro Hx accx sx kx hx rx ix
                          exact ⟨hlt, sx, accx, accD ++ ds1, rest', hx, rx, ix, er, by rw [List.append_assoc]; exact ed⟩
                · cases hr
    · cases hr
  · have ei : i = xs.length := by omega
    subst ei
    have : xs.drop xs.length = [] := by simp
    rw [this] at hr
    cases hr
    rw [List.append_nil] at ed
    subst ed
    exact .inl ⟨(w _ H sH).2 (Nat.le_refl _), hQ H acc sH (.lst (.inl hD) rA) hD⟩
theorem lc2_rd {vs vs1 : List Nat} {f f1 : As} {its its1 : Itd'} {b b1 : Bd} {I I1 : List Nat} {t t1 : Tx} {e : Ex} {fr1 fr' : Bool} {ρ : Env'} {σ : St} {H : Hp} {Q : VK} (hI : ∀ i ∈ I, i ∈ vs) (hI1 : ∀ i ∈ I1, i ∈ vs1) (q : tD X.K cA W true (sLc2 f its vs b t f1 its1 fr1 vs1 b1 t1 e) ρ σ H Q) :
    tLc2 (tI X.K cA W fr f its ρ) (fun v σ H Q => ∃ H1, tG X.K imm (E2 X.K H1) b I v σ H Q) (exT (tDT X.K cA WF t)) (exI (tI X.K cA WF fr1 f1 its1)) (tG X.K anyD (EOk X.K) b1 I1) (exT (tDT X.K cA WF t1)) (exE (tD X.K cA WF fr' e)) vs vs1 σ H Q := by
  have p := q.2
  unfold sLc2 at p
  refine ⟨q.1, ?_⟩
  cases e1 : f ρ with
  | bad => rw [e1] at p; exact p.elim
  | exc c => rw [e1] at p; exact p
  | ok cds =>
    rw [e1, Res.bind_ok] at p
    cases e2 : its cds with
    | none => rw [e2] at p; exact p.elim
    | some xs =>
      rw [e2] at p
      simp only [e2]
      have p : Post X.K cA W σ H true (noexc ((lc2Go b t f1 its1 fr1 vs1 b1 t1 e (wipeE ρ vs) xs).bind fun ds => if ds.length ≤ sizeLine then .ok (.list ds) else .bad)) Q := p
      intro J vs' H1 s1 r1 _ w D nD
      cases e3 : lc2Go b t f1 its1 fr1 vs1 b1 t1 e (wipeE ρ vs) xs with
      | bad => rw [e3] at p; exact p.elim
      | exc c => rw [e3] at p; exact p.elim
      | ok ds =>
        rw [e3] at p
        have p : Post X.K cA W σ H true (noexc (if ds.length ≤ sizeLine then .ok (.list ds) else .bad)) Q := p
        by_cases hz : ds.length ≤ sizeLine
        · rw [if_pos hz] at p
          obtain ⟨Wt, st, turn⟩ := lc2_fin (cA := cA) (fr' := fr') (q.1.same s1) (w H1 (Same.refl H1) r1) hI hI1 e3 hz nD fun H' acc s' r' hD => p _ H' (s1.trans s') r' fun _ _ => ⟨D, rfl, s1.free nD, fun o u z => by rw [hD] at z; cases z⟩
          refine ⟨Wt, st, fun i m H w => ?_⟩
          rcases turn i m H w with z | ⟨go, Nx, hN, yl⟩
          · exact .inl z
          · exact .inr ⟨go, Nx, hN, fun x H' y => ⟨H1, yl x H' y⟩⟩
        · rw [if_neg hz] at p
          exact p.elim
theorem je_lc2 {elt iter tg1 iter1 : Expr} {ifs ifs1 : List Expr} {scope : Scope} {own : List (Str × Nat)} {vs1 : List Nat} {pos : Pos} {f f1 : As} {its its1 : Itd'} {b b1 : Bd} {I I1 : List Nat} {t t1 : Tx} {e : Ex} {fr1 fr' : Bool} (hc : X.calm = true) (hN : X.N.Nodup) (hi : JI X cA W fr tg iter f its) (ok : BlkOk X.N X.env.scope scope own) (hv : ∀ i ∈ vs1, i ∈ own.map (·.2))
    (hg : ∀ (H1 : Hp) (s : Shared) (H : Hp) (C : Addr) (cl : List (Str × Addr)) (fp : List Addr), JG (X.blk s H scope (compEnvC scope cl C X.env) fp) imm (E2 X.K H1) tg b I) (hI : ∀ i ∈ I, i ∈ own.map (·.2))
    (ht : ∀ (s : Shared) (H : Hp) (C : Addr) (cl : List (Str × Addr)) (fp : List Addr), JTs (X.blk s H scope (compEnvC scope cl C X.env) fp) cA WF ifs t)
    (hi1 : ∀ (s : Shared) (H : Hp) (C : Addr) (cl : List (Str × Addr)) (fp : List Addr), JI (X.blk s H scope (compEnvC scope cl C X.env) fp) cA WF fr1 tg1 iter1 f1 its1)
    (hg1 : ∀ (s : Shared) (H : Hp) (C : Addr) (cl : List (Str × Addr)) (fp : List Addr), JG (X.blk s H scope (compEnvC scope cl C X.env) fp) anyD (EOk X.K) tg1 b1 I1) (hI1 : ∀ i ∈ I1, i ∈ vs1)
    (ht1 : ∀ (s : Shared) (H : Hp) (C : Addr) (cl : List (Str × Addr)) (fp : List Addr), JTs (X.blk s H scope (compEnvC scope cl C X.env) fp) cA WF ifs1 t1)
    (he : ∀ (s : Shared) (H : Hp) (C : Addr) (cl : List (Str × Addr)) (fp : List Addr), JE (X.blk s H scope (compEnvC scope cl C X.env) fp) cA WF fr' elt e) (hs : ∀ x, foldedSetIterable iter X.env x = pure x) (hs1 : ∀ env x, foldedSetIterable iter1 env x = pure x) :
    JE X cA W true (.ListComp elt [⟨tg, iter, ifs, 0⟩, ⟨tg1, iter1, ifs1, 0⟩] scope pos) (sLc2 f its (own.map (·.2)) b t f1 its1 fr1 vs1 b1 t1 e) := fun ρ =>
  peI (pe_lc2 (g := fun v σ H Q => ∃ H1, tG X.K imm (E2 X.K H1) b I v σ H Q) (tt := exT (tDT X.K cA WF t)) (wi1 := exI (tI X.K cA WF fr1 f1 its1)) (g1 := tG X.K anyD (EOk X.K) b1 I1) (tt1 := exT (tDT X.K cA WF t1)) (te := exE (tD X.K cA WF fr' e)) hc hN (hi ρ) ok hv (fun s H C cl fp => ⟨fun pins s' σ H v u Q I1 r ⟨H1, q⟩ => (hg H1 s _ C cl fp).run pins s' σ H v u Q I1 r q⟩) (fun s H C cl fp => (ht s H C cl fp).ex) (fun s H C cl fp => (hi1 s H C cl fp).ex) (fun s H C cl fp => hg1 s H C cl fp) (fun s H C cl fp => (ht1 s H C cl fp).ex) (fun s H C cl fp => (he s H C cl fp).ex) hs hs1) fun σ H Q q => lc2_rd hI hI1 q
end
end Py

set_option Elab.async false
set_option linter.all false
set_option maxRecDepth 100000
set_option maxHeartbeats 4000000
/-! Own layer, part 6: statements by data. -/
namespace Py
open PySem PySem.Spec L2
open PyProof.Rows hiding St

def hidL (O : List Addr) (H : Hp) : Hp := fun a => if a ∈ O then none else H a
theorem hidL_same {O : List Addr} {H : Hp} : Same (hidL O H) H := fun a o e => by
  unfold hidL at e
  split at e
  · cases e
  · exact e
theorem hidL_out {O : List Addr} {H : Hp} {a : Addr} (h : a ∉ O) : hidL O H a = H a := by unfold hidL; rw [if_neg h]
theorem hidL_in {O : List Addr} {H : Hp} {a : Addr} (h : a ∈ O) : hidL O H a = none := by unfold hidL; rw [if_pos h]
/-- a list or a dict that may be changed -/
def MutO : Option HO → Prop
  | some (.lst _) => True
  | some (.dK _) => True
  | some (.dT _) => True
  | _ => False
theorem hidL_keep {K : PySem.W.Frag} {O : List Addr} {H : Hp} (h : ∀ a ∈ O, MutO (H a)) : KeepT K H (hidL O H) := fun b ys q => by
  rw [hidL_out (fun z => by have := h b z; rw [q] at this; exact this)]; exact q
def immV : List (D × D) → Bool
  | [] => true
  | p :: ps => imm p.2 && immV ps
/-- what an own slot's object is -/
def OwnR (K : PySem.W.Frag) (G H : Hp) (a : Addr) : D → Prop
  | .list ds => ∃ xs, H a = some (.lst xs) ∧ RepAll K G xs ds ∧ immAll ds = true
  | .dict ds => (∃ kvs, H a = some (.dK kvs) ∧ RepK K G kvs ds ∧ immV ds = true) ∨ ∃ kvs, H a = some (.dT kvs) ∧ RepT K G kvs ds ∧ immV ds = true
  | _ => False
theorem OwnR.same {K : PySem.W.Frag} {G G' H H' : Hp} {a : Addr} {d : D} (h : OwnR K G H a d) (e : H' a = H a) (s : Same G G') : OwnR K G' H' a d := by
  cases d with
  | list ds => obtain ⟨xs, h1, h2, h3⟩ := h; exact ⟨xs, e.trans h1, h2.same s, h3⟩
  | dict ds =>
    rcases h with ⟨kvs, h1, h2, h3⟩ | ⟨kvs, h1, h2, h3⟩
    · exact .inl ⟨kvs, e.trans h1, h2.same s, h3⟩
    · exact .inr ⟨kvs, e.trans h1, h2.same s, h3⟩
  | _ => exact h
theorem OwnR.rep {K : PySem.W.Frag} {G H : Hp} {a : Addr} {d : D} (h : OwnR K G H a d) (s : Same G H) : Rep K H (.ref a) d := by
  cases d with
  | list ds => obtain ⟨xs, h1, h2, h3⟩ := h; exact .lst (.inl h1) (h2.same s)
  | dict ds =>
    rcases h with ⟨kvs, h1, h2, h3⟩ | ⟨kvs, h1, h2, h3⟩
    · exact .dK h1 (h2.same s)
    · exact .dT h1 (h2.same s)
  | _ => exact h.elim
structure SInvO (K : PySem.W.Frag) (Hin : Hp) (O : List Addr) (ρ : Env') (σ : St) (H : Hp) : Prop where
  out : ∀ a ∈ O, Hin a = none ∧ MutO (H a)
  dat : ∀ (i : Nat) (d : D), ρ[i]? = some (.dat d) → ∃ v, σ[i]? = some (some v) ∧ Rep K (hidL O H) v d
  own : ∀ (i : Nat) (d : D), ρ[i]? = some (.own d) → ∃ a, σ[i]? = some (some (.ref a)) ∧ a ∈ O ∧ OwnR K (hidL O H) H a d
  inj : ∀ (i j : Nat) (d e : D) (a : Addr), ρ[i]? = some (.own d) → ρ[j]? = some (.own e) → σ[i]? = some (some (.ref a)) → σ[j]? = some (some (.ref a)) → i = j
/-- the slots of a body: Hin, the heap at the entry, stands; own objects are not of it -/
structure SInv (K : PySem.W.Frag) (Hin : Hp) (ρ : Env') (σ : St) (H : Hp) : Prop where
  len : ρ.length = σ.length
  same : Same Hin H
  ex : ∃ O, SInvO K Hin O ρ σ H
section
variable {K : PySem.W.Frag} {Hin G H H' : Hp} {ρ : Env'} {σ : St}
theorem SInv.eok (h : SInv K Hin ρ σ H) : EOk K ρ σ H := ⟨h.len, fun i s e => by
  obtain ⟨O, h⟩ := h.ex
  cases s with
  | un => trivial
  | err c => trivial
  | val o d => cases o with
    | false => obtain ⟨v, e1, r⟩ := h.dat i d e; exact ⟨v, e1, r.same hidL_same⟩
    | true => obtain ⟨a, e1, _, r⟩ := h.own i d e; exact ⟨_, e1, r.rep hidL_same⟩⟩
theorem hidL_mono {O : List Addr} (s : Same H H') : Same (hidL O H) (hidL O H') := fun a o e => by
  unfold hidL at e ⊢
  split at e
  · cases e
  · rename_i hn
    rw [if_neg hn]
    exact s _ _ e
theorem mutO_some {o : Option HO} (h : MutO o) : ∃ u, o = some u := by
  cases o with
  | none => exact h.elim
  | some u => exact ⟨u, rfl⟩
theorem SInvO.mono {O : List Addr} (h : SInvO K Hin O ρ σ H) (s : Same H H') : SInvO K Hin O ρ σ H' := by
  have eq : ∀ a ∈ O, H' a = H a := fun a ha => by
    obtain ⟨u, e⟩ := mutO_some (h.out a ha).2
    rw [e]; exact s _ _ e
  refine ⟨fun a ha => ⟨(h.out a ha).1, by rw [eq a ha]; exact (h.out a ha).2⟩, fun i d e => ?_, fun i d e => ?_, h.inj⟩
  · obtain ⟨v, e1, r⟩ := h.dat i d e
    exact ⟨v, e1, r.same (hidL_mono s)⟩
  · obtain ⟨a, e1, ha, r⟩ := h.own i d e
    exact ⟨a, e1, ha, r.same (eq a ha) (hidL_mono s)⟩
theorem SInv.mono (h : SInv K Hin ρ σ H) (s : Same H H') : SInv K Hin ρ σ H' := by
  obtain ⟨O, z⟩ := h.ex
  exact ⟨h.len, h.same.trans s, O, z.mono s⟩
theorem SInv.weaken (s : Same Hin G) (h : SInv K G ρ σ H) : SInv K Hin ρ σ H := by
  obtain ⟨O, z⟩ := h.ex
  exact ⟨h.len, s.trans h.same, O, fun a ha => ⟨s.free (z.out a ha).1, (z.out a ha).2⟩, z.dat, z.own, z.inj⟩
/-- all is frozen -/
theorem SInv.frz (h : SInv K Hin ρ σ H) : SInvO K Hin [] (frzAll ρ) σ H := by
  have ok := h.eok
  refine ⟨fun a ha => (nomatch ha), fun i d e => ?_, fun i d e => ?_, fun i j d e a e1 => ?_⟩
  · unfold frzAll frzIf at e
    rw [List.getElem?_map] at e
    have hh : hidL [] H = H := by funext a; exact hidL_out (by simp)
    rw [hh]
    cases e2 : ρ[i]? with
    | none => rw [e2] at e; cases e
    | some s =>
      rw [e2] at e
      have := ok.2 i s e2
      cases s with
      | un => cases e
      | err c => cases e
      | val o d' =>
        have e' : Sl.val (o && !true) d' = .val false d := Option.some.inj e
        injection e' with _ e'
        subst e'
        exact this
  · unfold frzAll frzIf at e
    rw [List.getElem?_map] at e
    cases e2 : ρ[i]? with
    | none => rw [e2] at e; cases e
    | some s =>
      rw [e2] at e
      cases s with
      | un => cases e
      | err c => cases e
      | val o d' =>
        have e' : Sl.val (o && !true) d' = .val true d := Option.some.inj e
        injection e' with e' _
        rw [Bool.not_true, Bool.and_false] at e'
        cases e'
  · unfold frzAll frzIf at e1
    rw [List.getElem?_map] at e1
    cases e2 : ρ[i]? with
    | none => rw [e2] at e1; cases e1
    | some s =>
      rw [e2] at e1
      cases s with
      | un => cases e1
      | err c => cases e1
      | val o d' =>
        have e' : Sl.val (o && !true) d' = .val true d := Option.some.inj e1
        injection e' with e' _
        rw [Bool.not_true, Bool.and_false] at e'
        cases e'
theorem SInv.frzI (h : SInv K Hin ρ σ H) : SInv K Hin (frzAll ρ) σ H := ⟨by unfold frzAll frzIf; rw [List.length_map]; exact h.len, h.same, [], h.frz⟩
theorem set_cases {α : Type} {l : List α} {i j : Nat} {x y : α} (e : (l.set i x)[j]? = some y) : (j = i ∧ y = x ∧ i < l.length) ∨ (j ≠ i ∧ l[j]? = some y) := by
  by_cases hj : j = i
  · subst hj
    by_cases hl : j < l.length
    · rw [List.getElem?_set_self hl] at e
      exact .inl ⟨rfl, (Option.some.inj e).symm, hl⟩
    · rw [List.getElem?_eq_none (by simpa using hl)] at e
      cases e
  · rw [List.getElem?_set_ne (Ne.symm hj)] at e
    exact .inr ⟨hj, e⟩
theorem SInvO.set {O : List Addr} {i : Nat} {v : V} {d : D} (hl : ρ.length = σ.length) (h : SInvO K Hin O ρ σ H) (r : Rep K (hidL O H) v d) : SInvO K Hin O (ρ.set i (.dat d)) (σ.set i (some v)) H := by
  have look : ∀ j, j ≠ i → (σ.set i (some v))[j]? = σ[j]? := fun j hj => List.getElem?_set_ne (Ne.symm hj)
  refine ⟨h.out, fun j d' e => ?_, fun j d' e => ?_, fun j k d1 d2 a e1 e2 e3 e4 => ?_⟩
  · rcases set_cases e with ⟨rfl, ed, hi⟩ | ⟨hj, e⟩
    · cases ed
      exact ⟨v, by rw [List.getElem?_set_self (by rw [← hl]; exact hi)], r⟩
    · rw [look j hj]; exact h.dat j d' e
  · rcases set_cases e with ⟨rfl, ed, hi⟩ | ⟨hj, e⟩
    · cases ed
    · rw [look j hj]; exact h.own j d' e
  · rcases set_cases e1 with ⟨rfl, ed, hi⟩ | ⟨hj, e1⟩
    · cases ed
    · rcases set_cases e2 with ⟨rfl, ed, hi⟩ | ⟨hk, e2⟩
      · cases ed
      · rw [look j hj] at e3
        rw [look k hk] at e4
        exact h.inj j k d1 d2 a e1 e2 e3 e4
theorem SInv.setImm {i : Nat} {v : V} {d : D} (h : SInv K Hin ρ σ H) (r : Rep K H v d) (im : imm d = true) : SInv K Hin (ρ.set i (.dat d)) (σ.set i (some v)) H := by
  obtain ⟨O, z⟩ := h.ex
  exact ⟨by simpa using h.len, h.same, O, z.set h.len (r.imm (hidL_keep fun a ha => (z.out a ha).2) im)⟩
theorem SInv.setFrz {i : Nat} {v : V} {d : D} (h : SInv K Hin ρ σ H) (r : Rep K H v d) : SInv K Hin ((frzAll ρ).set i (.dat d)) (σ.set i (some v)) H := by
  have hh : hidL [] H = H := by funext a; exact hidL_out (by simp)
  exact ⟨by unfold frzAll frzIf; simpa using h.len, h.same, [], h.frz.set (by unfold frzAll frzIf; simpa using h.len) (by rw [hh]; exact r)⟩
theorem SInv.stor : Stor K anyD (SInv K Hin) := ⟨fun {ρ σ H i v d} _ h r => by
  rw [bindS_eq]
  split
  · rename_i im; exact h.setImm r im
  · exact h.setFrz r, fun _ => by simp⟩

/-! ### a new list or dict, held by one slot -/
def flatT : D → Bool
  | .list ds => immAll ds
  | .dict ds => immV ds
  | _ => false
def setS (i : Nat) (fr : Bool) (d : D) (ρ : Env') : Env' := (frzIf (!(imm d || (fr && flatT d))) ρ).set i (.val (fr && flatT d) d)
theorem flat_imm {d : D} (h : flatT d = true) : imm d = false := by
  cases d <;> first | rfl | cases h
theorem setS_eq (i : Nat) (fr : Bool) (d : D) (ρ : Env') : setS i fr d ρ = if imm d = true then ρ.set i (.dat d) else if fr = true ∧ flatT d = true then ρ.set i (.own d) else (frzAll ρ).set i (.dat d) := by
  unfold setS frzAll
  cases h : imm d with
  | true =>
    have : flatT d = false := by
      cases h2 : flatT d with
      | false => rfl
      | true => rw [flat_imm h2] at h; cases h
    rw [this, Bool.and_false, Bool.or_false, Bool.not_true, frzIf_false]
    rfl
  | false =>
    cases h2 : fr with
    | false => rfl
    | true =>
      cases h3 : flatT d with
      | false => rfl
      | true =>
        rw [Bool.and_self, Bool.or_true, Bool.not_true, frzIf_false]
        simp
theorem RepK.imm {K : PySem.W.Frag} {H H' : Hp} (e : KeepT K H H') : ∀ {v : List (Key × V)} {d : List (D × D)}, RepK K H v d → immV d = true → RepK K H' v d
  | _, _, .nil, _ => .nil
  | _, _, .cons h r, z => by
    simp only [immV, Bool.and_eq_true] at z
    exact .cons (h.imm e z.1) (RepK.imm e r z.2)
theorem RepT.imm {K : PySem.W.Frag} {H H' : Hp} (e : KeepT K H H') : ∀ {v : List (List Key × V)} {d : List (D × D)}, RepT K H v d → immV d = true → RepT K H' v d
  | _, _, .nil, _ => .nil
  | _, _, .cons h r, z => by
    simp only [immV, Bool.and_eq_true] at z
    exact .cons (h.imm e z.1) (RepT.imm e r z.2)
theorem SInv.setOwn {i : Nat} {a : Addr} {d : D} {H0 : Hp} (h : SInv K Hin ρ σ H0) (s : Same H0 H) (r : Rep K H (.ref a) d) (na : H0 a = none) (hnf : ∀ o u, H a ≠ some (.frz o u)) (fl : flatT d = true) : SInv K Hin (ρ.set i (.own d)) (σ.set i (some (.ref a))) H := by
  obtain ⟨O, z0⟩ := h.ex
  have z := z0.mono s
  have aO : a ∉ O := fun ha => by
    obtain ⟨u, e⟩ := mutO_some (z0.out a ha).2
    rw [na] at e; cases e
  have mu : MutO (H a) := by
    cases r with
    | lst h1 _ =>
      rcases h1 with h1 | ⟨o, h1⟩
      · rw [h1]; trivial
      · exact absurd h1 (hnf _ _)
    | tup _ _ => cases fl
    | dK h1 _ => rw [h1]; trivial
    | dT h1 _ => rw [h1]; trivial
  have out' : ∀ b ∈ a :: O, Hin b = none ∧ MutO (H b) := fun b hb => by
    rcases List.mem_cons.mp hb with rfl | hb
    · exact ⟨h.same.free na, mu⟩
    · exact z.out b hb
  have kt : KeepT K H (hidL (a :: O) H) := hidL_keep fun b hb => (out' b hb).2
  have sm : Same (hidL O H0) (hidL (a :: O) H) := fun b o e => by
    have hb : b ∉ O := fun hb => by rw [hidL_in hb] at e; cases e
    rw [hidL_out hb] at e
    have hba : b ≠ a := ne_of_none e na
    rw [hidL_out (by simp [hb, hba])]
    exact s _ _ e
  have ownNew : OwnR K (hidL (a :: O) H) H a d := by
    cases r with
    | lst h1 rr =>
      rcases h1 with h1 | ⟨o, h1⟩
      · exact ⟨_, h1, rr.imm kt fl, fl⟩
      · exact absurd h1 (hnf _ _)
    | tup _ _ => cases fl
    | dK h1 rr => exact .inl ⟨_, h1, rr.imm kt fl, fl⟩
    | dT h1 rr => exact .inr ⟨_, h1, rr.imm kt fl, fl⟩
  have look : ∀ j, j ≠ i → (σ.set i (some (V.ref a)))[j]? = σ[j]? := fun j hj => List.getElem?_set_ne (Ne.symm hj)
  refine ⟨by simpa using h.len, h.same.trans s, a :: O, out', fun j d' e => ?_, fun j d' e => ?_, fun j k d1 d2 b e1 e2 e3 e4 => ?_⟩
  · rcases set_cases e with ⟨rfl, ed, hi⟩ | ⟨hj, e⟩
    · cases ed
    · rw [look j hj]
      obtain ⟨v, e1, r1⟩ := z0.dat j d' e
      exact ⟨v, e1, r1.same sm⟩
  · rcases set_cases e with ⟨rfl, ed, hi⟩ | ⟨hj, e⟩
    · cases ed
      exact ⟨a, by rw [List.getElem?_set_self (by rw [← h.len]; exact hi)], List.mem_cons_self, ownNew⟩
    · rw [look j hj]
      obtain ⟨b, e1, hb, r1⟩ := z0.own j d' e
      refine ⟨b, e1, List.mem_cons_of_mem _ hb, r1.same ?_ sm⟩
      obtain ⟨u, eu⟩ := mutO_some (z0.out b hb).2
      rw [eu]; exact s _ _ eu
  · have notin : ∀ (j : Nat) (d' : D), ρ[j]? = some (.own d') → σ[j]? = some (some (.ref a)) → False := fun j d' e e' => by
      obtain ⟨b, e1, hb, _⟩ := z0.own j d' e
      rw [e1] at e'
      cases e'
      exact aO hb
    rcases set_cases e1 with ⟨rfl, ed, hi⟩ | ⟨hj, e1'⟩
    · rw [List.getElem?_set_self (by rw [← h.len]; exact hi)] at e3
      cases e3
      rcases set_cases e2 with ⟨rfl, ed, hi⟩ | ⟨hk, e2'⟩
      · rfl
      · rw [look k hk] at e4
        exact (notin k d2 e2' e4).elim
    · rw [look j hj] at e3
      rcases set_cases e2 with ⟨ek, ed, hi⟩ | ⟨hk, e2'⟩
      · subst ek
        rw [List.getElem?_set_self (by rw [← h.len]; exact hi)] at e4
        cases e4
        exact (notin j d1 e1' e3).elim
      · rw [look k hk] at e4
        exact z0.inj j k d1 d2 b e1' e2' e3 e4
theorem SInv.setS {i : Nat} {v : V} {d : D} {H0 : Hp} {fr : Bool} (h : SInv K Hin ρ σ H0) (s : Same H0 H) (r : Rep K H v d) (f : fr = true → mutTop d = true → New H0 H v) : SInv K Hin (setS i fr d ρ) (σ.set i (some v)) H := by
  rw [setS_eq]
  split
  · rename_i im; exact (h.mono s).setImm r im
  · split
    · rename_i hf
      obtain ⟨a, rfl, na, nf⟩ := f hf.1 (by revert hf; cases d <;> simp [flatT, mutTop])
      exact h.setOwn s r na nf hf.2
    · exact (h.mono s).setFrz r

/-! ### the meaning of a statement -/
inductive Out where
  | nx (ρ : Env')
  | rt (d : D)
  | exc (c : Nat) (ρ : Env')
  | bad
abbrev Sx := Env' → Out
def PostS (K : PySem.W.Frag) (cA : Nat → Addr) (W : WX) (Hin : Hp) (fr : Bool) (o : Out) (D : Ends) : Prop := match o with
  | .nx ρ' => ∀ σ' H', SInv K Hin ρ' σ' H' → D.nx σ' H'
  | .rt d => ∀ v H', Same Hin H' → Rep K H' v d → (fr = true → mutTop d = true → New Hin H' v) → D.rt v H'
  | .exc c ρ' => ∀ σ' H', SInv K Hin ρ' σ' H' → W (.ref (cA c)) none σ' H'
  | .bad => False
def tS (K : PySem.W.Frag) (cA : Nat → Addr) (W : WX) (Hin : Hp) (fr : Bool) (f : Sx) : TS := fun D σ H => ∃ ρ, SInv K Hin ρ σ H ∧ PostS K cA W Hin fr (f ρ) D
def JS (X : Cx) (cA : Nat → Addr) (W : WX) (fr : Bool) (st : Stmt) (f : Sx) : Prop := ∀ Hin, PS X st (tS X.K cA W Hin fr f)
def JSs (X : Cx) (cA : Nat → Addr) (W : WX) (fr : Bool) (st : List Stmt) (f : Sx) : Prop := ∀ Hin, PSs X st (tS X.K cA W Hin fr f)
theorem New.weaken {v : V} (s : Same Hin G) (h : New G H v) : New Hin H v := by
  obtain ⟨a, e, n, f⟩ := h
  exact ⟨a, e, s.free n, f⟩
theorem PostS.strong {cA : Nat → Addr} {W : WX} {fr : Bool} {o : Out} {D : Ends} (s : Same Hin G) (h : PostS K cA W Hin fr o D) : PostS K cA W G fr o D := by
  cases o with
  | nx ρ => exact fun σ' H' z => h σ' H' (z.weaken s)
  | rt d => exact fun v H' s' r f => h v H' (s.trans s') r fun a b => (f a b).weaken s
  | exc c ρ => exact fun σ' H' z => h σ' H' (z.weaken s)
  | bad => exact h
end

/-! ### meanings -/
def oNil : Sx := fun ρ => .nx ρ
def oSeq (f g : Sx) : Sx := fun ρ => match f ρ with
  | .nx ρ' => g ρ'
  | o => o
def oE (e : Ex) (k : D → Env' → Out) : Sx := fun ρ => match e ρ with
  | .ok d => k d ρ
  | .exc c => .exc c ρ
  | .bad => .bad
def oSet (i : Nat) (fr : Bool) (e : Ex) : Sx := oE e fun d ρ => .nx (setS i fr d ρ)
def oBind (b : Bd) (e : Ex) : Sx := oE e fun d ρ => match b d ρ with
  | some ρ' => .nx ρ'
  | none => .bad
def oDrop (e : Ex) : Sx := oE e fun _ ρ => .nx ρ
def oRet (e : Ex) : Sx := oE e fun d _ => .rt d
/-- return of a name: an own slot's list is new -/
def oRetN (i : Nat) : Sx := fun ρ => match ρ[i]? with
  | some (.val o d) => if o = false ∧ mutTop d = true then .bad else .rt d
  | _ => .bad
def oIf (t : Tx) (a b : Sx) : Sx := fun ρ => match t ρ with
  | .ok c => if c = true then a ρ else b ρ
  | .exc c => .exc c ρ
  | .bad => .bad
def oRaise (c : Nat) : Sx := fun ρ => .exc c ρ
def forGo (b : Bd) (body : Sx) : List D → Sx
  | [], ρ => .nx ρ
  | x :: xs, ρ => match b x ρ with
    | none => .bad
    | some ρ1 => match body ρ1 with
      | .nx ρ2 => forGo b body xs ρ2
      | o => o
/-- no list of n items -/
def lenNe (n : Nat) : D → Bool
  | .list es => !(es.length == n)
  | _ => true
/-- no own slot holds a list of n items -/
def apR (n : Nat) : Env' → Bool
  | [] => true
  | .val o d :: ρ => (!o || lenNe n d) && apR n ρ
  | _ :: ρ => apR n ρ
/-- a list that is none of the own ones, by its length -/
def apart (cds : List D) (ρ : Env') : Bool := match cds with
  | [.list ds] => immAll ds && apR ds.length ρ
  | _ => false
def prepC (fr : Bool) (cds : List D) (ρ : Env') : Env' := frzIf (!(freeC fr cds || apart cds ρ)) ρ
theorem prepC_eq (fr : Bool) (cds : List D) (ρ : Env') : prepC fr cds ρ = if (freeC fr cds || apart cds ρ) = true then ρ else frzAll ρ := by
  unfold prepC frzAll
  cases freeC fr cds || apart cds ρ with
  | true => rw [Bool.not_true, frzIf_false]; rfl
  | false => rfl
theorem apR_ok {n : Nat} : ∀ {ρ : Env'} {i : Nat} {d : D}, apR n ρ = true → ρ[i]? = some (.own d) → lenNe n d = true
  | [], _, _, _, e => by simp at e
  | .val o d :: ρ, 0, d', h, e => by
    simp at e
    obtain ⟨rfl, rfl⟩ := e
    simp only [apR, Bool.and_eq_true, Bool.not_true, Bool.false_or] at h
    exact h.1
  | .un :: ρ, 0, _, _, e => by simp at e
  | .err _ :: ρ, 0, _, _, e => by simp at e
  | .val o d :: ρ, i + 1, d', h, e => by
    simp only [apR, Bool.and_eq_true] at h
    exact apR_ok h.2 (by simpa using e)
  | .un :: ρ, i + 1, d', h, e => apR_ok (ρ := ρ) h (by simpa using e)
  | .err _ :: ρ, i + 1, d', h, e => apR_ok (ρ := ρ) h (by simpa using e)
/-- only what own slots hold need be hidden -/
theorem SInvO.shrink {K : PySem.W.Frag} {Hin H : Hp} {O : List Addr} {ρ : Env'} {σ : St} (z : SInvO K Hin O ρ σ H) : ∃ O' : List Addr, (∀ a ∈ O', ∃ (i : Nat) (d : D), ρ[i]? = some (Sl.own d) ∧ σ[i]? = some (some (V.ref a))) ∧ SInvO K Hin O' ρ σ H := by
  classical
  let P : Addr → Prop := fun a => ∃ (i : Nat) (d : D), ρ[i]? = some (Sl.own d) ∧ σ[i]? = some (some (V.ref a))
  have sm : Same (hidL O H) (hidL (O.filter fun a => decide (P a)) H) := fun a o e => by
    have hn : a ∉ O := fun ha => by rw [hidL_in ha] at e; cases e
    rw [hidL_out hn] at e
    rw [hidL_out (fun ha => hn (List.mem_filter.mp ha).1)]
    exact e
  refine ⟨O.filter fun a => decide (P a), fun a ha => of_decide_eq_true (List.mem_filter.mp ha).2, fun a ha => z.out a (List.mem_filter.mp ha).1, fun i d e => ?_, fun i d e => ?_, z.inj⟩
  · obtain ⟨v, e1, r⟩ := z.dat i d e
    exact ⟨v, e1, r.same sm⟩
  · obtain ⟨a, e1, ha, r⟩ := z.own i d e
    exact ⟨a, e1, List.mem_filter.mpr ⟨ha, decide_eq_true ⟨i, d, e, e1⟩⟩, r.same rfl sm⟩
def oFor (fr : Bool) (f : As) (its : Itd') (b : Bd) (body : Sx) : Sx := fun ρ => match f ρ with
  | .ok cds => match its cds with
    | none => .bad
    | some xs => forGo b body xs (prepC fr cds ρ)
  | .exc c => .exc c ρ
  | .bad => .bad
def whileGo (t : Tx) (body : Sx) : Nat → Sx
  | 0, _ => .bad
  | n + 1, ρ => match t ρ with
    | .ok c => if c = true then match body ρ with
        | .nx ρ' => whileGo t body n ρ'
        | o => o
      else .nx ρ
    | .exc c => .exc c ρ
    | .bad => .bad
def oAppend (i : Nat) (e : Ex) : Sx := fun ρ => match ρ[i]? with
  | some (.val true (.list ds)) => oE e (fun d ρ => if imm d = true ∧ ds.length < sizeLine then .nx (ρ.set i (.own (.list (ds ++ [d])))) else .bad) ρ
  | _ => .bad

section
variable {X : Cx} {cA : Nat → Addr} {W : WX} {fr fr' : Bool} {pos : Pos}
theorem jss_nil : JSs X cA W fr [] oNil := fun Hin => pssI pss_nil fun D σ H q => by
  obtain ⟨ρ, i, p⟩ := q
  exact p σ H i
theorem jss_cons {st : Stmt} {rest : List Stmt} {f g : Sx} (h1 : JS X cA W fr st f) (h2 : JSs X cA W fr rest g) : JSs X cA W fr (st :: rest) (oSeq f g) := fun Hin =>
  pssI (pss_cons (h1 Hin) (h2 Hin)) fun D σ H q => by
    obtain ⟨ρ, i, p⟩ := q
    refine ⟨ρ, i, ?_⟩
    unfold oSeq at p
    cases e : f ρ with
    | nx ρ' => rw [e] at p; exact fun σ' H' i' => ⟨ρ', i', p⟩
    | rt d => rw [e] at p; exact p
    | exc c ρ' => rw [e] at p; exact p
    | bad => rw [e] at p; exact p
/-- a statement that evaluates an expression first -/
theorem oE_post {Hin : Hp} {e : Ex} {k : D → Env' → Out} {ρ : Env'} {σ : St} {H : Hp} {D : Ends} {Q : VK} (i : SInv X.K Hin ρ σ H) (p : PostS X.K cA W Hin fr (oE e k ρ) D)
    (h : ∀ d v H1, Same H H1 → Rep X.K H1 v d → (fr' = true → mutTop d = true → New H H1 v) → PostS X.K cA W Hin fr (k d ρ) D → Q v H1) : tD X.K cA W fr' e ρ σ H Q := by
  refine ⟨i.eok, ?_⟩
  unfold oE at p
  cases e1 : e ρ with
  | bad => rw [e1] at p; exact p.elim
  | exc c => rw [e1] at p; exact fun H' s => p σ H' (i.mono s)
  | ok d => rw [e1] at p; exact fun v H1 s r f => h d v H1 s r f p
/-- name = e, by whatever rule -/
def JSetE (X : Cx) (cA : Nat → Addr) (W : WX) (fr : Bool) (st : Stmt) (i : Nat) (f : Ex) : Prop := ∀ ρ, PS X st (fun D σ H => tD X.K cA W fr f ρ σ H fun x H1 => D.nx (σ.set i (some x)) H1)
theorem JSetE.js {st : Stmt} {i : Nat} {f : Ex} (h : JSetE X cA W fr' st i f) : JS X cA W fr st (oSet i fr' f) := fun Hin => ⟨fun pins s σ H D I q => by
  obtain ⟨ρ, i0, p⟩ := q
  exact (h ρ).run pins s σ H D I (oE_post i0 p fun d v H1 s1 r f p => p _ _ (i0.setS s1 r f))⟩
def notComp : Expr → Bool
  | .ListComp .. | .SetComp .. | .DictComp .. => false
  | _ => true
theorem swaps_not {e : Expr} {t : Option Expr} {l : Nat} {env : Env} (h : notComp e = true) : swapsWith e t l env = pure false := by
  cases e <;> first | rfl | cases h
theorem jset {i : Nat} {x : Str} {e : Expr} {f : Ex} {pos' : Pos} (hN : X.N.Nodup) (hi : X.N[i]? = some x) (hx : Loc X.env.scope x) (he : JE X cA W fr' e f) (hs : swapsWith e (some (.Name x pos')) pos.line X.env = pure false) (hf : X.fn x = true ∨ X.env.scope.names.lookup x = some .local) : JSetE X cA W fr' (.Assign [.Name x pos'] e pos) i f := fun ρ => ps_set hN hi hx (he ρ) hs hf
theorem js_bind {tg e : Expr} {f : Ex} {b : Bd} {I : List Nat} (he : JE X cA W fr' e f) (hg : ∀ Hin, JG X anyD (SInv X.K Hin) tg b I) (hs : swapsWithSole [tg] e pos.line X.env = pure false) (hw : swappedStores [tg] e X.env = pure none) (hn : nostar tg = true) : JS X cA W fr (.Assign [tg] e pos) (oBind b f) := fun Hin => ⟨fun pins s σ H D I q => by
  obtain ⟨ρ, i0, p⟩ := q
  refine (ps_asg (he ρ) (hg Hin) hs hw (by rw [assignEach_cons hn]; rfl)).run pins s σ H D I (oE_post i0 p fun d v H1 s1 r f p => ?_)
  cases e1 : b d ρ with
  | none => rw [e1] at p; exact p.elim
  | some ρ' => rw [e1] at p; exact ⟨d, ρ, ρ', rfl, r, i0.mono s1, e1, fun σ' _ i' => p σ' H1 i'⟩⟩
theorem js_expr {e : Expr} {f : Ex} (he : JE X cA W fr' e f) (hs : notComp e = true) : JS X cA W fr (.Expr e pos) (oDrop f) := fun Hin => ⟨fun pins s σ H D I q => by
  obtain ⟨ρ, i0, p⟩ := q
  exact (ps_expr (he ρ) (swaps_not hs)).run pins s σ H D I (oE_post i0 p fun d v H1 s1 r f p => p σ H1 (i0.mono s1))⟩
theorem js_ret {e : Expr} {f : Ex} (he : JE X cA W fr e f) : JS X cA W fr (.Return (some e) pos) (oRet f) := fun Hin => ⟨fun pins s σ H D I q => by
  obtain ⟨ρ, i0, p⟩ := q
  exact (ps_ret (he ρ)).run pins s σ H D I (oE_post i0 p fun d v H1 s1 r f p => p v H1 (i0.same.trans s1) r fun a b => (f a b).weaken i0.same)⟩
theorem js_retN {i : Nat} {x : Str} {p1 : Pos} (hN : X.N[i]? = some x) (hv : Vis X.env.scope x) (hd : (x == ("__debug__" : Str)) = false) (hcd : (x == ("__classdict__" : Str)) = false) : JS X cA W fr (.Return (some (.Name x p1)) pos) (oRetN i) := fun Hin => ⟨fun pins s σ H D I q => by
  obtain ⟨ρ, i0, p⟩ := q
  refine (ps_ret (pe_var hN hv hd hcd)).run pins s σ H D I ?_
  have ok := i0.eok
  unfold oRetN at p
  cases e : ρ[i]? with
  | none => rw [e] at p; exact p.elim
  | some sl =>
    rw [e] at p
    cases sl with
    | un => exact p.elim
    | err c => exact p.elim
    | val o d => cases o with
    | false =>
      obtain ⟨v, e1, r⟩ := ok.2 i _ e
      by_cases hm : mutTop d = true
      · simp only [hm, and_self, if_true] at p; exact p.elim
      · simp only [hm, and_false, if_false] at p
        exact ⟨v, e1, p v H i0.same r fun _ b => absurd b hm⟩
    | true =>
      simp only [Bool.true_eq_false, false_and, if_false] at p
      obtain ⟨O, z⟩ := i0.ex
      obtain ⟨a, e1, ha, r⟩ := z.own i d e
      refine ⟨_, e1, p _ H i0.same (r.rep hidL_same) fun _ _ => ⟨a, rfl, (z.out a ha).1, fun o u w => ?_⟩⟩
      have := (z.out a ha).2
      rw [w] at this
      exact this⟩
theorem js_if {t : Expr} {a b : List Stmt} {ft : Tx} {fa fb : Sx} (ht : JT X cA W t ft) (ha : JSs X cA W fr a fa) (hb : JSs X cA W fr b fb) : JS X cA W fr (.If t a b pos) (oIf ft fa fb) := fun Hin => ⟨fun pins s σ H D I q => by
  obtain ⟨ρ, i0, p⟩ := q
  refine (ps_if (ht ρ) (ha Hin) (hb Hin)).run pins s σ H D I ⟨i0.eok, ?_⟩
  unfold oIf at p
  cases e : ft ρ with
  | bad => rw [e] at p; exact p.elim
  | exc c => rw [e] at p; exact fun H' s => p σ H' (i0.mono s)
  | ok c =>
    rw [e] at p
    intro H1 s1
    cases c with
    | true => exact ⟨ρ, i0.mono s1, p⟩
    | false => exact ⟨ρ, i0.mono s1, p⟩⟩
theorem js_pass : JS X cA W fr (.Pass pos) oNil := fun Hin => psI ps_pass fun D σ H q => by
  obtain ⟨ρ, i, p⟩ := q
  exact p σ H i
/-! ### loops -/
theorem immAll_sub {fr : Bool} {cds : List D} {K : PySem.W.Frag} {O : List Addr} {H0 H1 : Hp} {vs : List V} (s : Same H0 H1) (hO : ∀ a ∈ O, MutO (H0 a)) (r : RepAll K H1 vs cds) (fh : fr = true → ∀ d, cds = [d] → mutTop d = true → ∃ a, vs = [.ref a] ∧ H0 a = none) (h : freeC fr cds = true) : RepAll K (hidL O H1) vs cds := by
  have kt : KeepT K H1 (hidL O H1) := hidL_keep fun a ha => by
    obtain ⟨u, e⟩ := mutO_some (hO a ha)
    have := hO a ha
    rw [e] at this
    rw [s _ _ e]; exact this
  unfold freeC at h
  rcases Bool.or_eq_true_iff.mp h with h | h
  · exact r.imm kt h
  · obtain ⟨h1, h2⟩ := Bool.and_eq_true_iff.mp h
    split at h2
    · obtain ⟨a, e1, e2⟩ := fh h1 _ rfl rfl
      subst e1
      cases r with
      | cons r1 r2 =>
        cases r2
        cases r1 with
        | lst hl rr =>
          refine .cons (.lst ?_ (rr.imm kt h2)) .nil
          have ne : a ∉ O := fun z => by
            obtain ⟨u, e⟩ := mutO_some (hO a z)
            rw [e2] at e; cases e
          rcases hl with hl | ⟨o, hl⟩
          · exact .inl (by rw [hidL_out ne]; exact hl)
          · exact .inr ⟨o, by rw [hidL_out ne]; exact hl⟩
    · cases h2
/-- the heap that the loop's sources stand in, and the slots over it -/
theorem SInv.loop {K : PySem.W.Frag} {Hin H0 H1 : Hp} {ρ : Env'} {σ : St} {fr : Bool} {vs : List V} {cds : List D} (i : SInv K Hin ρ σ H0) (s : Same H0 H1) (r : RepAll K H1 vs cds) (fh : fr = true → ∀ d, cds = [d] → mutTop d = true → ∃ a, vs = [.ref a] ∧ H0 a = none) :
    ∃ G, Same G H1 ∧ Same Hin G ∧ RepAll K G vs cds ∧ SInv K G (prepC fr cds ρ) σ H1 := by
  rw [prepC_eq]
  by_cases h : freeC fr cds = true
  · rw [if_pos (by rw [h, Bool.true_or])]
    obtain ⟨O, z⟩ := i.ex
    have z1 := z.mono s
    refine ⟨hidL O H1, hidL_same, fun a o e => ?_, immAll_sub s (fun a ha => (z.out a ha).2) r fh h, i.len, hidL_same, O, fun a ha => ⟨hidL_in ha, (z1.out a ha).2⟩, z1.dat, z1.own, z1.inj⟩
    rw [hidL_out (fun ha => by rw [(z.out a ha).1] at e; cases e)]
    exact s _ _ (i.same _ _ e)
  by_cases ha : apart cds ρ = true
  · rw [if_pos (by rw [ha, Bool.or_true])]
    obtain ⟨O0, z0⟩ := (i.mono s).ex
    obtain ⟨O, ho, z1⟩ := z0.shrink
    unfold apart at ha
    split at ha
    · rename_i ds
      rw [Bool.and_eq_true] at ha
      cases r with
      | cons r1 r2 =>
        cases r2
        obtain ⟨c, xs, rfl, hl, rr⟩ := r1.inv_lst
        have cO : c ∉ O := fun hc => by
          obtain ⟨j, d, e1, e2⟩ := ho c hc
          have ne := apR_ok ha.2 e1
          obtain ⟨a, e3, _, ow⟩ := z1.own j d e1
          rw [e2] at e3
          cases e3
          cases d with
          | list es =>
            obtain ⟨ys, hy, ry, _⟩ := ow
            have exy : xs = ys := by
              rcases hl with hl | ⟨o, hl⟩
              · rw [hy] at hl; cases hl; rfl
              · rw [hy] at hl; cases hl
            subst exy
            have l1 := rr.length
            have l2 := ry.length
            simp only [lenNe, Bool.not_eq_true', beq_eq_false_iff_ne] at ne
            exact ne (by omega)
          | dict es =>
            have hd : ∀ u, H1 c = some u → u ≠ .lst xs := fun u e q => by
              subst q
              rcases ow with ⟨kvs, h1, _⟩ | ⟨kvs, h1, _⟩
              · rw [h1] at e; cases e
              · rw [h1] at e; cases e
            rcases hl with hl | ⟨o, hl⟩
            · exact hd _ hl rfl
            · rcases ow with ⟨kvs, h1, _⟩ | ⟨kvs, h1, _⟩
              · rw [h1] at hl; cases hl
              · rw [h1] at hl; cases hl
          | _ => exact ow
        have kt : KeepT K H1 (hidL O H1) := hidL_keep fun a ha => (z1.out a ha).2
        refine ⟨hidL O H1, hidL_same, fun a o e => ?_, .cons (.lst ?_ (rr.imm kt ha.1)) .nil, i.len, hidL_same, O, fun a ha => ⟨hidL_in ha, (z1.out a ha).2⟩, z1.dat, z1.own, z1.inj⟩
        · rw [hidL_out (fun ha => by rw [(z1.out a ha).1] at e; cases e)]
          exact s _ _ (i.same _ _ e)
        · rcases hl with hl | ⟨o, hl⟩
          · exact .inl (by rw [hidL_out cO]; exact hl)
          · exact .inr ⟨o, by rw [hidL_out cO]; exact hl⟩
    · cases ha
  · rw [if_neg (by rw [Bool.or_eq_true]; rintro (z | z); exact h z; exact ha z)]
    have f := (i.mono s).frz
    exact ⟨H1, Same.refl _, i.same.trans s, r, by unfold frzAll frzIf; rw [List.length_map]; exact i.len, Same.refl _, [], fun a ha => (nomatch ha), f.dat, f.own, f.inj⟩
theorem js_for {tg iter : Expr} {body : List Stmt} {f : As} {its : Itd'} {b : Bd} {I : List Nat} {fb : Sx} (hp : PassesOwn (model X.prog X.w) X.A X.env X.xe) (hc : X.calm = true) (hi : JI X cA W fr' tg iter f its) (hg : ∀ Hin, JG X anyD (SInv X.K Hin) tg b I) (hb : JSs X cA W fr body fb)
    (hs : ∀ x, foldedSetIterable iter X.env x = pure x) : JS X cA W fr (.For tg iter body [] pos) (oFor fr' f its b fb) := fun Hin => ⟨fun pins s σ H D I0 q => by
  obtain ⟨ρ, i0, p⟩ := q
  have gx : PG X tg (fun v σ H Q => ∃ G, tG X.K anyD (SInv X.K G) b I v σ H Q) := ⟨fun pins s σ H v u Q I r ⟨G, q⟩ => (hg G).run pins s σ H v u Q I r q⟩
  have bx : PSs X body (fun D σ H => ∃ G, tS X.K cA W G fr fb D σ H) := ⟨fun pins s σ H D I ⟨G, q⟩ => (hb G).run pins s σ H D I q⟩
  refine (ps_for hp hc (hi ρ) gx bx hs).run pins s σ H D I0 ⟨i0.eok, ?_⟩
  unfold oFor at p
  cases e : f ρ with
  | bad => rw [e] at p; exact p.elim
  | exc c => rw [e] at p; exact fun H' s => p σ H' (i0.mono s)
  | ok cds =>
    rw [e] at p
    cases e2 : its cds with
    | none => simp only [e2] at p; exact p.elim
    | some xs =>
      simp only [e2] at p ⊢
      intro J vs H1 s1 r1 fh w
      obtain ⟨G, sG, sI, rG, iG⟩ := i0.loop s1 r1 fh
      have wk := w G sG rG
      refine ⟨fun i m σ H => m = xs.length - i ∧ i ≤ xs.length ∧ ∃ ρi, SInv X.K G ρi σ H ∧ PostS X.K cA W Hin fr (forGo b fb (xs.drop i) ρi) D, ⟨xs.length, by simp, Nat.zero_le _, _, iG, p⟩, ?_⟩
      rintro i m σ2 H2 ⟨rfl, hi, ρi, ii, pi⟩
      by_cases hlt : i < xs.length
      · have edrop : xs.drop i = xs[i] :: xs.drop (i + 1) := List.drop_eq_getElem_cons hlt
        rw [edrop] at pi
        obtain ⟨go, yl⟩ := (wk i H2 ii.same).1 xs[i] (List.getElem?_eq_getElem hlt)
        refine .inr ⟨go, fun σ' H' => ∃ ρ', SInv X.K G ρ' σ' H' ∧ PostS X.K cA W Hin fr (forGo b fb (xs.drop (i + 1)) ρ') D, fun σ' H' ⟨ρ', i', p'⟩ => ⟨xs.length - (i + 1), by omega, rfl, hlt, ρ', i', p'⟩, fun x H' y => ?_⟩
        obtain ⟨s', rx⟩ := yl x H' y
        unfold forGo at pi
        cases eb : b xs[i] ρi with
        | none => rw [eb] at pi; exact pi.elim
        | some ρ1 =>
          rw [eb] at pi
          refine ⟨G, xs[i], ρi, ρ1, rfl, rx, ii.mono s', eb, fun σ3 _ i3 => ⟨G, ρ1, i3, ?_⟩⟩
          cases ef : fb ρ1 with
          | nx ρ2 => simp only [ef] at pi; exact fun σ' H' i' => ⟨ρ2, i', pi⟩
          | rt d => simp only [ef] at pi; exact PostS.strong (o := .rt d) (D := D) sI pi
          | exc c ρ2 => simp only [ef] at pi; exact PostS.strong (o := .exc c ρ2) (D := D) sI pi
          | bad => simp only [ef] at pi; exact pi.elim
      · have ei : i = xs.length := by omega
        subst ei
        have : xs.drop xs.length = [] := by simp
        rw [this] at pi
        exact .inl ⟨(wk _ H2 ii.same).2 (Nat.le_refl _), pi σ2 H2 (ii.weaken sI)⟩⟩
theorem js_while {t : Expr} {body : List Stmt} {ft : Tx} {fb : Sx} {n : Nat} (hp : PassesOwn (model X.prog X.w) X.A X.env X.xe) (ht : JT X cA W t ft) (hb : JSs X cA W fr body fb) : JS X cA W fr (.While t body [] pos) (whileGo ft fb n) := fun Hin => ⟨fun pins s σ H D I0 q => by
  obtain ⟨ρ, i0, p⟩ := q
  refine (ps_while hp ht.ex (hb Hin)).run pins s σ H D I0 ?_
  refine ⟨fun m σ H => ∃ ρ, SInv X.K Hin ρ σ H ∧ PostS X.K cA W Hin fr (whileGo ft fb m ρ) D, ⟨n, ρ, i0, p⟩, ?_⟩
  rintro m σ1 H1 ⟨ρ1, i1, p1⟩
  cases m with
  | zero => exact p1.elim
  | succ m =>
    unfold whileGo at p1
    refine ⟨ρ1, i1.eok, ?_⟩
    cases e : ft ρ1 with
    | bad => rw [e] at p1; exact p1.elim
    | exc c => rw [e] at p1; exact fun H' s => p1 σ1 H' (i1.mono s)
    | ok c =>
      rw [e] at p1
      intro H2 s2
      cases c with
      | false => exact p1 σ1 H2 (i1.mono s2)
      | true =>
        refine ⟨fun σ' H' => ∃ ρ', SInv X.K Hin ρ' σ' H' ∧ PostS X.K cA W Hin fr (whileGo ft fb m ρ') D, fun σ' H' h => ⟨m, Nat.lt_succ_self _, h⟩, ρ1, i1.mono s2, ?_⟩
        simp only [if_true] at p1
        cases ef : fb ρ1 with
        | nx ρ2 => rw [ef] at p1; exact fun σ' H' i' => ⟨ρ2, i', p1⟩
        | rt d => rw [ef] at p1; exact p1
        | exc c ρ2 => rw [ef] at p1; exact p1
        | bad => rw [ef] at p1; exact p1⟩
end
end Py

set_option Elab.async false
set_option linter.all false
set_option maxRecDepth 100000
set_option maxHeartbeats 4000000
/-! Own layer, part 7: lists changed, raise, parallel stores, built-ins, defs picked out of a list. -/
namespace Py
open PySem PySem.Spec L2
open PyProof.Rows hiding St

/-! ### an own object is changed -/
theorem SInv.change {K : PySem.W.Frag} {Hin H : Hp} {O : List Addr} {ρ : Env'} {σ : St} {i : Nat} {d d' : D} {a : Addr} {o' : HO} (hl : ρ.length = σ.length) (sm : Same Hin H) (z : SInvO K Hin O ρ σ H) (e : ρ[i]? = some (.own d)) (e1 : σ[i]? = some (some (.ref a)))
    (mu : MutO (some o')) (hn : OwnR K (hidL O H) (upd H a o') a d') : SInv K Hin (ρ.set i (.own d')) σ (upd H a o') := by
  obtain ⟨a', e1', aO, _⟩ := z.own i d e
  rw [e1] at e1'
  cases e1'
  have hid : hidL O (upd H a o') = hidL O H := by
    funext b
    by_cases hb : b ∈ O
    · rw [hidL_in hb, hidL_in hb]
    · rw [hidL_out hb, hidL_out hb, upd_ne (fun z => by subst z; exact hb aO)]
  refine ⟨by simpa using hl, fun b o q => ?_, O, fun b hb => ⟨(z.out b hb).1, ?_⟩, fun j d2 ej => ?_, fun j d2 ej => ?_, fun j k d1 d2 b e3 e4 e5 e6 => ?_⟩
  · rw [upd_ne (ne_of_none q (z.out a aO).1)]
    exact sm _ _ q
  · by_cases h : b = a
    · subst h; rw [upd_same]; exact mu
    · rw [upd_ne h]; exact (z.out b hb).2
  · rw [hid]
    rcases set_cases ej with ⟨rfl, ed, hi⟩ | ⟨hj, ej⟩
    · cases ed
    · exact z.dat j d2 ej
  · rw [hid]
    rcases set_cases ej with ⟨rfl, ed, hi⟩ | ⟨hj, ej⟩
    · cases ed
      exact ⟨a, e1, aO, hn⟩
    · obtain ⟨b, eb, bO, r⟩ := z.own j d2 ej
      refine ⟨b, eb, bO, r.same ?_ (Same.refl _)⟩
      have hba : b ≠ a := fun h => by
        subst h
        exact hj (z.inj j i d2 d b ej e eb e1)
      rw [upd_ne hba]
  · have back : ∀ (j : Nat) (d1 : D), (ρ.set i (.own d'))[j]? = some (.own d1) → ∃ d2, ρ[j]? = some (.own d2) := fun j d1 h => by
      rcases set_cases h with ⟨rfl, _, _⟩ | ⟨_, h⟩
      · exact ⟨d, e⟩
      · exact ⟨d1, h⟩
    obtain ⟨x1, y1⟩ := back j d1 e3
    obtain ⟨x2, y2⟩ := back k d2 e4
    exact z.inj j k x1 x2 b y1 y2 e5 e6
theorem KeepT.self {K : PySem.W.Frag} {H : Hp} : KeepT K H H := fun _ _ q => q

section
variable {X : Cx} {cA : Nat → Addr} {W : WX} {fr fr' : Bool} {pos : Pos}
theorem few1 {e : Expr} {env : Env} {cpos : Pos} (n : nostar e = true) : ((backTo cpos (starEach [e] env)).all (fun x => !x.1) && (backToKw cpos (keywordEach [] env)).all (fun x => x.1.isSome)
      && decide (([e] : List Expr).length + ([] : List Keyword).length + (if ([] : List Keyword).isEmpty then 0 else 1) < 30)) = true := by
  rw [starEach_cons n]
  rfl
theorem js_append {i : Nat} {x : Str} {p1 apos cpos : Pos} {e : Expr} {f : Ex} (hN : X.N[i]? = some x) (hv : Vis X.env.scope x) (hd : (x == ("__debug__" : Str)) = false) (hcd : (x == ("__classdict__" : Str)) = false) (he : JE X cA W fr' e f) (n : nostar e = true)
    (hline : (apos.endLine == cpos.line) = true) : JS X cA W fr (.Expr (.Call (.Attribute (.Name x p1) "append" apos) [e] [] cpos) pos) (oAppend i f) := fun Hin => ⟨fun pins s σ H D I q => by
  obtain ⟨ρ, i0, p⟩ := q
  refine (ps_expr (pe_bm PySem.F.plainAttrs_list PySem.F.slot_list_append PySem.F.type_list_append mt_append (pe_var hN hv hd hcd) (pa_cons (he ρ) pa_nil (starEach_cons n)) rfl (few1 n) hline (starEach_cons n) rfl) rfl).run pins s σ H D I ?_
  show ∃ v, σ[i]? = some (some v) ∧ (tyV X.K "list" v H ∧ tCons (tD X.K cA W fr' f ρ) tNil σ H fun xs H2 => rAppend v xs H2 fun _ H1 => D.nx σ H1)
  unfold oAppend at p
  split at p
  · rename_i ds e
    obtain ⟨O, z⟩ := i0.ex
    obtain ⟨a, e1, aO, xs, hx, rx, im⟩ := z.own i _ e
    refine ⟨.ref a, e1, .inl ⟨rfl, xs, .inl (.inl hx)⟩, ?_⟩
    refine oE_post (fr' := fr') i0 p fun d v H1 s1 r f p => ?_
    split at p
    · rename_i hc
      have z1 := z.mono s1
      obtain ⟨a', e1', _, xs', hx', rx', _⟩ := z1.own i _ e
      rw [e1] at e1'
      cases e1'
      have lx := rx'.length
      refine ⟨a, xs', v, rfl, rfl, hx', by omega, p σ _ (SInv.change i0.len (i0.same.trans s1) z1 e e1 trivial ⟨xs' ++ [v], upd_same, rx'.append (.cons (r.imm (hidL_keep fun b hb => (z1.out b hb).2) hc.1) .nil), immAll_snoc im hc.1⟩)⟩
    · exact p.elim
  · exact p.elim⟩

def intsOf0 : List D → Option (List Int)
  | [] => some []
  | .int i :: ds => (intsOf0 ds).map (i :: ·)
  | _ :: _ => none
theorem intsOf0_eq : ∀ {ds : List D} {ns : List Int}, intsOf0 ds = some ns → ds = ns.map PyData.int
  | [], _, h => by cases h; rfl
  | d :: ds, ns, h => by
    cases d with
    | int i =>
      simp only [intsOf0] at h
      cases e : intsOf0 ds with
      | none => rw [e] at h; cases h
      | some m =>
        rw [e] at h
        cases h
        simp [intsOf0_eq e]
    | _ => cases h
theorem RepAll.ints0 {K : PySem.W.Frag} {H : Hp} : ∀ {xs : List V} {ns : List Int}, RepAll K H xs (ns.map PyData.int) → xs = ns.map V.int
  | [], [], _ => rfl
  | [], _ :: _, h => by cases h
  | _ :: _, [], h => by cases h
  | x :: xs, n :: ns, h => by
    cases h with
    | cons h1 h2 =>
      cases h1
      simp [RepAll.ints0 h2]
theorem immAll_int : ∀ ns : List Int, immAll (ns.map PyData.int) = true
  | [] => rfl
  | _ :: ns => immAll_int ns
def remD (ds : List D) : D → Option (List D)
  | .int k => match intsOf0 ds with
    | some ns => if k ∈ ns then some ((ns.erase k).map .int) else none
    | none => none
  | _ => none
def oRemove (i : Nat) (e : Ex) : Sx := fun ρ => match ρ[i]? with
  | some (.val true (.list ds)) => oE e (fun d ρ => match remD ds d with
    | some ds' => .nx (ρ.set i (.val true (.list ds')))
    | none => .bad) ρ
  | _ => .bad
theorem erase_ix (k : Int) : ∀ {ns : List Int}, k ∈ ns → ∃ j, ns[j]? = some k ∧ (∀ m : Nat, m < j → ns[m]? ≠ some k) ∧ ns.eraseIdx j = ns.erase k
  | [], h => by cases h
  | n :: ns, h => by
    by_cases e : n = k
    · subst e
      exact ⟨0, rfl, fun m hm => by omega, by simp⟩
    · have h2 : k ∈ ns := by
        rcases List.mem_cons.mp h with h | h
        · exact absurd h.symm e
        · exact h
      obtain ⟨j, h3, h4, h5⟩ := erase_ix k h2
      refine ⟨j + 1, by simpa using h3, fun m hm => ?_, ?_⟩
      · cases m with
        | zero => simpa using e
        | succ m => simpa using h4 m (by omega)
      · rw [List.eraseIdx_cons_succ, h5, List.erase_cons_tail (by simpa using e)]
theorem js_remove {i : Nat} {x : Str} {p1 apos cpos : Pos} {e : Expr} {f : Ex} (hN : X.N[i]? = some x) (hv : Vis X.env.scope x) (hd : (x == ("__debug__" : Str)) = false) (hcd : (x == ("__classdict__" : Str)) = false) (he : JE X cA W fr' e f) (n : nostar e = true)
    (hline : (apos.endLine == cpos.line) = true) : JS X cA W fr (.Expr (.Call (.Attribute (.Name x p1) "remove" apos) [e] [] cpos) pos) (oRemove i f) := fun Hin => ⟨fun pins s σ H D I q => by
  obtain ⟨ρ, i0, p⟩ := q
  refine (ps_expr (pe_bm PySem.F.plainAttrs_list PySem.F.slot_list_remove PySem.F.type_list_remove mt_remove (pe_var hN hv hd hcd) (pa_cons (he ρ) pa_nil (starEach_cons n)) rfl (few1 n) hline (starEach_cons n) rfl) rfl).run pins s σ H D I ?_
  show ∃ v, σ[i]? = some (some v) ∧ (tyV X.K "list" v H ∧ tCons (tD X.K cA W fr' f ρ) tNil σ H fun xs H2 => rRemI v xs H2 fun _ H1 => D.nx σ H1)
  unfold oRemove at p
  split at p
  · rename_i ds e
    obtain ⟨O, z⟩ := i0.ex
    obtain ⟨a, e1, aO, xs, hx, rx, im⟩ := z.own i _ e
    refine ⟨.ref a, e1, .inl ⟨rfl, xs, .inl (.inl hx)⟩, ?_⟩
    refine oE_post (fr' := fr') i0 p fun d v H1 s1 r f p' => ?_
    clear p
    cases er : remD ds d with
    | none => rw [er] at p'; exact p'.elim
    | some ds' =>
      rw [er] at p'
      have z1 := z.mono s1
      obtain ⟨a', e1', _, xs', hx', rx', _⟩ := z1.own i _ e
      rw [e1] at e1'
      cases e1'
      unfold remD at er
      split at er
      · rename_i k
        cases ei : intsOf0 ds with
        | none => rw [ei] at er; cases er
        | some ns =>
          rw [ei] at er
          simp only at er
          split at er
          · rename_i hk
            cases er
            have ed := intsOf0_eq ei
            subst ed
            have ex := RepAll.ints0 rx'
            subst ex
            cases r with
            | int _ =>
              obtain ⟨j, j1, j2, j3⟩ := erase_ix k hk
              refine ⟨a, ns, k, j, rfl, rfl, hx', j1, j2, p' σ _ (SInv.change i0.len (i0.same.trans s1) z1 e e1 trivial ⟨(ns.eraseIdx j).map V.int, upd_same, ?_, ?_⟩)⟩
              · rw [j3]; exact RepAll.ints _
              · exact immAll_int _
          · cases er
      · cases er
  · exact p.elim⟩
/-- what extends a list is a new list -/
def oExtend (i : Nat) (e : Ex) : Sx := fun ρ => match ρ[i]? with
  | some (.val true (.list ds)) => oE e (fun d ρ => match d with
    | .list es => if immAll es = true ∧ ds.length + es.length ≤ sizeLine then .nx (ρ.set i (.val true (.list (ds ++ es)))) else .bad
    | _ => .bad) ρ
  | _ => .bad
theorem immAll_app : ∀ {ds es : List D}, immAll ds = true → immAll es = true → immAll (ds ++ es) = true
  | [], _, _, h => h
  | d :: ds, es, h, h2 => by
    simp only [immAll, Bool.and_eq_true] at h
    rw [List.cons_append]
    simp only [immAll, Bool.and_eq_true]
    exact ⟨h.1, immAll_app h.2 h2⟩
theorem js_extend {i : Nat} {x : Str} {p1 apos cpos : Pos} {e : Expr} {f : Ex} (hN : X.N[i]? = some x) (hv : Vis X.env.scope x) (hd : (x == ("__debug__" : Str)) = false) (hcd : (x == ("__classdict__" : Str)) = false) (he : JE X cA W true e f) (n : nostar e = true)
    (hline : (apos.endLine == cpos.line) = true) : JS X cA W fr (.Expr (.Call (.Attribute (.Name x p1) "extend" apos) [e] [] cpos) pos) (oExtend i f) := fun Hin => ⟨fun pins s σ H D I q => by
  obtain ⟨ρ, i0, p⟩ := q
  refine (ps_expr (pe_bm PySem.F.plainAttrs_list PySem.F.slot_list_extend PySem.F.type_list_extend mt_extend (pe_var hN hv hd hcd) (pa_cons (he ρ) pa_nil (starEach_cons n)) rfl (few1 n) hline (starEach_cons n) rfl) rfl).run pins s σ H D I ?_
  show ∃ v, σ[i]? = some (some v) ∧ (tyV X.K "list" v H ∧ tCons (tD X.K cA W true f ρ) tNil σ H fun xs H2 => rExtend v xs H2 fun _ H1 => D.nx σ H1)
  unfold oExtend at p
  split at p
  · rename_i ds e
    obtain ⟨O, z⟩ := i0.ex
    obtain ⟨a, e1, aO, xs, hx, rx, im⟩ := z.own i _ e
    refine ⟨.ref a, e1, .inl ⟨rfl, xs, .inl (.inl hx)⟩, ?_⟩
    refine oE_post (fr' := true) i0 p fun d v H1 s1 r f p => ?_
    split at p
    · rename_i es
      split at p
      · rename_i hc
        have z1 := z.mono s1
        obtain ⟨a', e1', _, xs', hx', rx', _⟩ := z1.own i _ e
        rw [e1] at e1'
        cases e1'
        have lx := rx'.length
        obtain ⟨b, eb, nb, nf⟩ := f rfl rfl
        subst eb
        obtain ⟨b', ys, eb', hl, rr⟩ := r.inv_lst
        cases eb'
        · have hb : H1 b = some (.lst ys) := by
            rcases hl with hl | ⟨o, hl⟩
            · exact hl
            · exact absurd hl (nf _ _)
          have ly := rr.length
          refine ⟨a, b, xs', ys, rfl, rfl, hx', hb, by omega, p σ _ (SInv.change i0.len (i0.same.trans s1) z1 e e1 trivial ⟨_, upd_same, rx'.append (rr.imm (hidL_keep fun b hb => (z1.out b hb).2) hc.1), immAll_app im hc.1⟩)⟩
      · exact p.elim
    · exact p.elim
  · exact p.elim⟩
/-! ### raise -/
/-- the c-th own exception class -/
structure ExcI (X : Cx) (cA : Nat → Addr) (c : Nat) (x : Str) : Prop where
  gC : X.mg x = some (.ref (cA c))
  ex : PySem.W.excIn X.K (cA c) He.veBase "ValueError.__new__" = true
  kp : PySem.W.keepIn X.K (.ref (cA c)) = true
  sb : PySem.W.subIn X.K (.ref (cA c)) (.type "BaseException") = some true
  ty : PySem.W.typeIn X.K (.ref (cA c)) = some (.type "type")
theorem js_raise {c : Nat} {x m : Str} {j : Nat} {p p2 p3 : Pos} (hc : X.calm = true) (tk : Takes X W) (E : ExcI X cA c x) (hg : Gl X x) (hdb : (x == ("__debug__" : Str)) = false) : JS X cA W fr (.Raise (some (.Call (.Name x p) [.Constant (.str m) j p2] [] p3)) none pos) (oRaise c) := fun Hin => ⟨fun pins s σ H D I q => by
  obtain ⟨ρ, i0, q⟩ := q
  exact (ps_raise hc tk (pmk_own PySem.F.excBase_ValueError E.ex E.gC E.kp (raises_own E.sb E.ty) hg hdb)).run pins s σ H D I (q σ H i0)⟩

/-! ### a, b = e, f -/
/-- values made one after another -/
inductive Made (K : PySem.W.Frag) : Hp → List Bool → List V → List D → Hp → Prop
  | nil {H H' : Hp} : Same H H' → Made K H [] [] [] H'
  | cons {H H1 H' : Hp} {fr : Bool} {frs : List Bool} {v : V} {vs : List V} {d : D} {ds : List D} : Same H H1 → Rep K H1 v d → (fr = true → mutTop d = true → New H H1 v) → Made K H1 frs vs ds H' → Made K H (fr :: frs) (v :: vs) (d :: ds) H'
theorem Made.same {K : PySem.W.Frag} {H H' : Hp} {frs : List Bool} {vs : List V} {ds : List D} (m : Made K H frs vs ds H') : Same H H' := by
  induction m with
  | nil s => exact s
  | cons s _ _ _ ih => exact s.trans ih
theorem Made.mono {K : PySem.W.Frag} {H H' H'' : Hp} {frs : List Bool} {vs : List V} {ds : List D} (m : Made K H frs vs ds H') (s : Same H' H'') : Made K H frs vs ds H'' := by
  induction m with
  | nil s0 => exact .nil (s0.trans s)
  | cons s0 r f _ ih => exact .cons s0 r f (ih s)
inductive JAllF (X : Cx) (cA : Nat → Addr) (W : WX) : List Expr → List Bool → List Ex → Prop
  | nil : JAllF X cA W [] [] []
  | cons {fr : Bool} {e : Expr} {f : Ex} {es : List Expr} {frs : List Bool} {fs : List Ex} : JE X cA W fr e f → nostar e = true → JAllF X cA W es frs fs → JAllF X cA W (e :: es) (fr :: frs) (f :: fs)
theorem JAllF.pa : ∀ {es : List Expr} {frs : List Bool} {fs : List Ex}, JAllF X cA W es frs fs → ∀ ρ, PA X es (fun σ H Q => EOk X.K ρ σ H ∧ match evalL fs ρ with
    | .ok ds => ∀ vs H', Made X.K H frs vs ds H' → Q vs H'
    | .exc c => ∀ H', Same H H' → W (.ref (cA c)) none σ H'
    | .bad => False)
  | _, _, _, .nil => fun ρ => paI pa_nil fun σ H Q q => q.2 [] H (.nil (Same.refl H))
  | _, _, _, .cons (f := f) (fs := fs) h n r => fun ρ => paI (pa_cons (h ρ) (r.pa ρ) (starEach_cons n)) fun σ H Q q => by
    obtain ⟨ok, p⟩ := q
    refine ⟨ok, ?_⟩
    unfold evalL at p
    cases e1 : f ρ with
    | bad => rw [e1] at p; exact p.elim
    | exc c => rw [e1] at p; exact p
    | ok d =>
      rw [e1, Res.bind_ok] at p
      intro v H1 s1 r1 f1
      refine ⟨ok.same s1, ?_⟩
      cases e2 : evalL fs ρ with
      | bad => rw [e2] at p; exact p.elim
      | exc c => rw [e2] at p; exact fun H' s' => p H' (s1.trans s')
      | ok ds =>
        rw [e2, Res.bind_ok] at p
        exact fun vs H2 m => p (v :: vs) H2 (.cons s1 r1 f1 m)
def setAll : List Nat → List Bool → List D → Env' → Option Env'
  | [], [], [], ρ => some ρ
  | i :: is, fr :: frs, d :: ds, ρ => setAll is frs ds (setS i fr d ρ)
  | _, _, _, _ => none
def setsV : List Nat → List V → St → St
  | i :: is, v :: vs, σ => setsV is vs (σ.set i (some v))
  | _, _, σ => σ
theorem SInv.setAll {K : PySem.W.Frag} {Hin : Hp} : ∀ {is : List Nat} {frs : List Bool} {vs : List V} {ds : List D} {ρ ρ' : Env'} {σ : St} {H H' : Hp}, SInv K Hin ρ σ H → Made K H frs vs ds H' → Py.setAll is frs ds ρ = some ρ' → SInv K Hin ρ' (setsV is vs σ) H'
  | [], [], [], [], ρ, ρ', σ, H, H', i, m, e => by
    cases e
    exact i.mono m.same
  | i0 :: is, fr :: frs, v :: vs, d :: ds, ρ, ρ', σ, H, H', i, m, e => by
    cases m with
    | cons s r f m =>
      have e' : Py.setAll is frs ds (Py.setS i0 fr d ρ) = some ρ' := e
      exact SInv.setAll (is := is) (i.setS s r f) m e'
  | [], _ :: _, _, _, _, _, _, _, _, _, _, e => by cases e
  | [], [], _ :: _, _, _, _, _, _, _, _, m, _ => by cases m
  | [], [], [], _ :: _, _, _, _, _, _, _, _, e => by cases e
  | _ :: _, [], _, _, _, _, _, _, _, _, _, e => by cases e
  | _ :: _, _ :: _, _, [], _, _, _, _, _, _, _, e => by cases e
  | _ :: _, _ :: _, [], _ :: _, _, _, _, _, _, _, m, _ => by cases m
def oPar (is : List Nat) (frs : List Bool) (fs : List Ex) : Sx := fun ρ => match evalL fs ρ with
  | .ok ds => match setAll is frs ds ρ with
    | some ρ' => .nx ρ'
    | none => .bad
  | .exc c => .exc c ρ
  | .bad => .bad
theorem js_par2 {i j : Nat} {x y : Str} {a b : Expr} {frs : List Bool} {fs : List Ex} {px py pt : Pos} {kt k2 pt2} (hc : X.calm = true) (hN : X.N.Nodup) (hi : X.N[i]? = some x) (hj : X.N[j]? = some y) (hij : i ≠ j)
    (hx : X.env.scope.names.lookup x = some .local) (hy : X.env.scope.names.lookup y = some .local) (ha : JAllF X cA W [a, b] frs fs)
    (hw : swappedStores [.Tuple [.Name x px, .Name y py] kt pt] (.Tuple [a, b] k2 pt2) X.env = pure (some [x, y])) :
    JS X cA W fr (.Assign [.Tuple [.Name x px, .Name y py] kt pt] (.Tuple [a, b] k2 pt2) pos) (oPar [i, j] frs fs) := fun Hin => ⟨fun pins s σ H D I q => by
  obtain ⟨ρ, i0, p⟩ := q
  refine (ps_par hc hN hi hj hij hx hy (ha.pa ρ) hw rfl).run pins s σ H D I ⟨i0.eok, ?_⟩
  unfold oPar at p
  cases e : evalL fs ρ with
  | bad => rw [e] at p; exact p.elim
  | exc c => rw [e] at p; exact fun H' s => p σ H' (i0.mono s)
  | ok ds =>
    rw [e] at p
    intro vs H1 m
    cases e2 : setAll [i, j] frs ds ρ with
    | none => simp only [e2] at p; exact p.elim
    | some ρ' =>
      simp only [e2] at p
      have z := SInv.setAll i0 m e2
      cases m with
      | nil _ => cases e2
      | cons s1 r1 f1 m =>
        cases m with
        | nil _ => cases e2
        | cons s2 r2 f2 m =>
          cases m with
          | nil _ => exact ⟨_, _, rfl, p _ _ z⟩
          | cons _ _ _ _ => cases e2⟩
theorem js_par3 {i j l : Nat} {x y z : Str} {a b c : Expr} {frs : List Bool} {fs : List Ex} {px py pz pt : Pos} {kt k2 pt2} (hc : X.calm = true) (hN : X.N.Nodup) (hi : X.N[i]? = some x) (hj : X.N[j]? = some y) (hl : X.N[l]? = some z) (hij : i ≠ j) (hil : i ≠ l) (hjl : j ≠ l)
    (hx : X.env.scope.names.lookup x = some .local) (hy : X.env.scope.names.lookup y = some .local) (hz : X.env.scope.names.lookup z = some .local) (ha : JAllF X cA W [a, b, c] frs fs)
    (hw : swappedStores [.Tuple [.Name x px, .Name y py, .Name z pz] kt pt] (.Tuple [a, b, c] k2 pt2) X.env = pure (some [x, y, z])) :
    JS X cA W fr (.Assign [.Tuple [.Name x px, .Name y py, .Name z pz] kt pt] (.Tuple [a, b, c] k2 pt2) pos) (oPar [i, j, l] frs fs) := fun Hin => ⟨fun pins s σ H D I q => by
  obtain ⟨ρ, i0, p⟩ := q
  refine (ps_par3 hc hN hi hj hl hij hil hjl hx hy hz (ha.pa ρ) hw rfl).run pins s σ H D I ⟨i0.eok, ?_⟩
  unfold oPar at p
  cases e : evalL fs ρ with
  | bad => rw [e] at p; exact p.elim
  | exc c => rw [e] at p; exact fun H' s => p σ H' (i0.mono s)
  | ok ds =>
    rw [e] at p
    intro vs H1 m
    cases e2 : setAll [i, j, l] frs ds ρ with
    | none => simp only [e2] at p; exact p.elim
    | some ρ' =>
      simp only [e2] at p
      have z := SInv.setAll i0 m e2
      cases m with
      | nil _ => cases e2
      | cons s1 r1 f1 m =>
        cases m with
        | nil _ => cases e2
        | cons s2 r2 f2 m =>
          cases m with
          | nil _ => cases e2
          | cons s3 r3 f3 m =>
            cases m with
            | nil _ => exact ⟨_, _, _, rfl, p _ _ z⟩
            | cons _ _ _ _ => cases e2⟩
/-- names as targets, one after another -/
inductive NamesAt (X : Cx) : List Expr → List Nat → Prop
  | nil : NamesAt X [] []
  | cons {i : Nat} {x : Str} {p : Pos} {es : List Expr} {is : List Nat} : X.N[i]? = some x → Loc X.env.scope x → (X.fn x = true ∨ X.env.scope.names.lookup x = some .local) → NamesAt X es is → NamesAt X (.Name x p :: es) (i :: is)
theorem NamesAt.pgs (hN : X.N.Nodup) : ∀ {es : List Expr} {is : List Nat}, NamesAt X es is → PGs X es (fun vs σ H Q => vs.length = is.length ∧ Q (setsV is vs σ) H)
  | _, _, .nil => pgsI pgs_nil fun vs σ H Q q => by
    obtain ⟨e, q⟩ := q
    cases vs with
    | nil => exact ⟨rfl, q⟩
    | cons _ _ => cases e
  | _, _, .cons hi hx hf r => pgsI (pgs_cons (pg_name hN hi hx hf) (NamesAt.pgs hN r) rfl) fun vs σ H Q q => by
    obtain ⟨e, q⟩ := q
    cases vs with
    | nil => cases e
    | cons v vs => exact ⟨v, vs, rfl, by simpa using e, q⟩
theorem NamesAt.len : ∀ {es : List Expr} {is : List Nat}, NamesAt X es is → (assignEach es X.env).length = is.length ∧ (assignEach es X.env).findIdx? (·.1) = none
  | _, _, .nil => ⟨rfl, rfl⟩
  | _, _, .cons hi hx hf r => by
    obtain ⟨a, b⟩ := r.len
    rw [assignEach_cons rfl]
    refine ⟨by simp [a], ?_⟩
    rw [List.findIdx?_cons]
    simp [b]
theorem setAll_len : ∀ {is : List Nat} {frs : List Bool} {ds : List D} {ρ ρ' : Env'}, setAll is frs ds ρ = some ρ' → ds.length = is.length
  | [], [], [], _, _, _ => rfl
  | [], [], _ :: _, _, _, e => by cases e
  | [], _ :: _, _, _, _, e => by cases e
  | _ :: _, [], _, _, _, e => by cases e
  | _ :: _, _ :: _, [], _, _, e => by cases e
  | i :: is, fr :: frs, d :: ds, ρ, ρ', e => by simp [setAll_len (is := is) (frs := frs) (ds := ds) e]
theorem Made.length {K : PySem.W.Frag} {H H' : Hp} {frs : List Bool} {vs : List V} {ds : List D} (m : Made K H frs vs ds H') : vs.length = ds.length := by
  induction m with
  | nil s => rfl
  | cons s _ _ _ ih => simp [ih]
/-- .. where the tuple is made and taken apart -/
theorem js_parT {ts es : List Expr} {is : List Nat} {frs : List Bool} {fs : List Ex} {kt k2 : Nat} {pt pt2 : Pos} (hc : X.calm = true) (hN : X.N.Nodup) (hn : NamesAt X ts is) (ha : JAllF X cA W es frs fs) (hz : is.length ≤ 1000)
    (hw : swappedStores [.Tuple ts kt pt] (.Tuple es k2 pt2) X.env = pure none) :
    JS X cA W fr (.Assign [.Tuple ts kt pt] (.Tuple es k2 pt2) pos) (oPar is frs fs) := fun Hin => ⟨fun pins s σ H D I q => by
  obtain ⟨ρ, i0, p⟩ := q
  refine (ps_asg (pe_tup (ha.pa ρ)) (pg_tup hc (hn.pgs hN) hn.len.1 hn.len.2) rfl hw rfl).run pins s σ H D I ⟨i0.eok, ?_⟩
  unfold oPar at p
  cases e : evalL fs ρ with
  | bad => rw [e] at p; exact p.elim
  | exc c => rw [e] at p; exact fun H' s => p σ H' (i0.mono s)
  | ok ds =>
    rw [e] at p
    intro vs H1 m
    cases e2 : setAll is frs ds ρ with
    | none => simp only [e2] at p; exact p.elim
    | some ρ' =>
      simp only [e2] at p
      have l1 := m.length
      have l2 := setAll_len e2
      refine ⟨Nat.le_trans (by omega) (Nat.le_trans hz (by rw [sizeLine_eq]; decide)), fun t nt => ?_⟩
      have z := SInv.setAll i0 (m.mono (same_upd (o := .tup vs) nt)) e2
      exact ⟨t, vs, rfl, .inl (.inl upd_same), by omega, by omega, p _ _ z⟩⟩

/-! ### built-ins -/
def lenD : List D → Option D
  | [.str z] => if z.length ≤ sizeLine then some (.int z.length) else none
  | [.list ds] => some (.int ds.length)
  | [.tuple ds] => some (.int ds.length)
  | _ => none
theorem cd_len : CallD X (.builtin "len") true lenD := by
  intro pins s σ H vs us Q I r h
  obtain ⟨ds, rr, q⟩ := h
  match ds, vs, rr with
  | [.str z], _, .cons (.str _) .nil =>
    simp only [lenD] at q
    split at q
    · rename_i hz
      exact call_len pins s σ H _ us Q I r ⟨_, _, rfl, ⟨hz, rfl⟩, q.int⟩
    · exact q.elim
  | [.list ds], _, .cons (.lst h1 r1) .nil => exact call_len pins s σ H _ us Q I r ⟨_, _, rfl, .inl ⟨_, .inl h1, rfl⟩, by rw [r1.length]; exact q.int⟩
  | [.tuple ds], _, .cons (.tup h1 r1) .nil => exact call_len pins s σ H _ us Q I r ⟨_, _, rfl, .inr ⟨_, sqT_of h1, rfl⟩, by rw [r1.length]; exact q.int⟩
  | [], _, _ => exact q.elim
  | [.none], _, _ => exact q.elim
  | [.bool _], _, _ => exact q.elim
  | [.int _], _, _ => exact q.elim
  | [.dict _], _, _ => exact q.elim
  | a :: b :: l, _, _ =>
    have e : lenD (a :: b :: l) = none := by cases a <;> rfl
    rw [e] at q
    exact q.elim
def intsOf : List D → Option (List Int)
  | [] => some []
  | .int i :: ds => (intsOf ds).map (i :: ·)
  | _ :: _ => none
theorem intsOf_eq : ∀ {ds : List D} {ns : List Int}, intsOf ds = some ns → ds = ns.map PyData.int
  | [], _, h => by cases h; rfl
  | d :: ds, ns, h => by
    cases d with
    | int i =>
      simp only [intsOf] at h
      cases e : intsOf ds with
      | none => rw [e] at h; cases h
      | some ms =>
        rw [e] at h
        cases h
        simp [intsOf_eq e]
    | _ => cases h
theorem intsOf_map (ns : List Int) : intsOf (ns.map PyData.int) = some ns := by
  induction ns with
  | nil => rfl
  | cons n r ih => simp [intsOf, ih]
theorem RepAll.intsV {K : PySem.W.Frag} {H : Hp} : ∀ {xs : List V} {ns : List Int}, RepAll K H xs (ns.map PyData.int) → xs = ns.map V.int
  | [], [], _ => rfl
  | [], _ :: _, h => by cases h
  | _ :: _, [], h => by cases h
  | x :: xs, n :: ns, h => by
    cases h with
    | cons h1 h2 =>
      cases h1
      simp [RepAll.intsV h2]
def lmax : List Int → Int
  | [] => 0
  | [n] => n
  | n :: r => max n (lmax r)
def lmin : List Int → Int
  | [] => 0
  | [n] => n
  | n :: r => min n (lmin r)
theorem lmax_mem : ∀ {ns : List Int}, ns ≠ [] → lmax ns ∈ ns ∧ ∀ y ∈ ns, y ≤ lmax ns
  | [], h => absurd rfl h
  | [n], _ => by simp [lmax]
  | n :: m :: r, _ => by
    have ih := lmax_mem (ns := m :: r) (by simp)
    have e : lmax (n :: m :: r) = max n (lmax (m :: r)) := rfl
    rw [e]
    refine ⟨?_, fun y hy => ?_⟩
    · by_cases h : n ≤ lmax (m :: r)
      · rw [Int.max_eq_right h]; exact List.mem_cons_of_mem _ ih.1
      · rw [Int.max_eq_left (by omega)]; exact List.mem_cons_self
    · rcases List.mem_cons.mp hy with rfl | hy
      · omega
      · have := ih.2 y hy; omega
theorem lmin_mem : ∀ {ns : List Int}, ns ≠ [] → lmin ns ∈ ns ∧ ∀ y ∈ ns, lmin ns ≤ y
  | [], h => absurd rfl h
  | [n], _ => by simp [lmin]
  | n :: m :: r, _ => by
    have ih := lmin_mem (ns := m :: r) (by simp)
    have e : lmin (n :: m :: r) = min n (lmin (m :: r)) := rfl
    rw [e]
    refine ⟨?_, fun y hy => ?_⟩
    · by_cases h : n ≤ lmin (m :: r)
      · rw [Int.min_eq_left h]; exact List.mem_cons_self
      · rw [Int.min_eq_right (by omega)]; exact List.mem_cons_of_mem _ ih.1
    · rcases List.mem_cons.mp hy with rfl | hy
      · omega
      · have := ih.2 y hy; omega
def maxD : List D → Option D
  | [.int i, .int j] => some (.int (if j > i then j else i))
  | [.list ds] => match intsOf ds with
    | some (n :: r) => some (.int (lmax (n :: r)))
    | _ => none
  | [.tuple ds] => match intsOf ds with
    | some (n :: r) => some (.int (lmax (n :: r)))
    | _ => none
  | _ => none
def minD : List D → Option D
  | [.int i, .int j] => some (.int (if j < i then j else i))
  | [.list ds] => match intsOf ds with
    | some (n :: r) => some (.int (lmin (n :: r)))
    | _ => none
  | [.tuple ds] => match intsOf ds with
    | some (n :: r) => some (.int (lmin (n :: r)))
    | _ => none
  | _ => none
theorem max_rawT {prog : Program} {w : World} {A : Around} {E : Value → Shared → Prop} {s : Shared} {l : Addr} {its : List Value} {ns : List Int} {Q : Value → Shared → Prop} (hh : A.handled = none) (hl : s.heap.IsTuple l its.toArray) (hi : IntsAre its ns) (hne : 0 < ns.length)
    (h : ∀ h' tk M t', (∀ b o, s.heap.get? b = some o → h'.get? b = some o) → M ∈ ns → (∀ a, a ∈ ns → a ≤ M) → Q (.int M t') { s with heap := h', toks := tk }) : wpAny (model prog w) A (call (.builtin "max") [.ref l]) Q E s := by
  have hlt : l < s.heap.objs.size := by obtain ⟨_, e, _⟩ := hl; exact Heap.lt_size e
  have hz : its.length = ns.length := hi.length
  refine call_max_walk (wpAny_pyIter_tuple hl ?_)
  have hv : ∀ (i : Nat) (v : Value), its.toArray[i]? = some v → ∃ t, v = .int (ns.getD i 0) t := fun i v hv => PyProof.Rows.IntsAre.int_at hi i v (by simpa using hv)
  refine ⟨_, _, _, _, _, _, _, rfl, Walks.tuple (A := A.in1) hh _ l (Nat.ne_of_lt hlt) its.toArray, ⟨⟨_, Heap.get?_push_size _ rfl, rfl, rfl⟩, hl.push _⟩, fun b hb => ?_, by rw [List.size_toArray]; omega, CmpOf.ints_gt (fun i => ns.getD i 0) hv, fun v h' tk hP hk => ?_⟩
  · show b < (s.heap.push _).objs.size
    rw [Heap.size_push]
    rcases List.mem_cons.mp hb with rfl | hb
    · exact Nat.lt_succ_self _
    · rcases List.mem_cons.mp hb with rfl | hb
      · exact Nat.lt_succ_of_lt hlt
      · cases hb
  · obtain ⟨t, rfl⟩ := hv _ _ hP
    obtain ⟨h1, h2⟩ := argBest_gt (fun i => ns.getD i 0) (its.toArray.size - 1)
    rw [List.size_toArray] at h1 h2
    refine h h' tk _ t (fun b o e => hk b o (fun hm => ?_) (Heap.get?_push_of_some _ e)) ?_ fun a ha => ?_
    · rcases List.mem_cons.mp hm with e1 | hm
      · exact absurd (e1 ▸ Heap.lt_size e) (Nat.lt_irrefl _)
      · cases hm
    · rw [List.size_toArray]; exact PySem.getD_mem (by omega)
    · obtain ⟨j, hj, rfl⟩ := mem_getD ha
      rw [List.size_toArray]; exact h2 j (by omega)
theorem cd_max (hc : X.calm = true) : CallD X (.builtin "max") true maxD := by
  intro pins s σ H vs us Q I r h
  obtain ⟨ds, rr, q⟩ := h
  unfold maxD at q
  split at q
  · rename_i i j
    cases rr with
    | cons r1 r2 => cases r2 with
      | cons r2 r3 =>
        cases r3; cases r1; cases r2
        exact call_max2 hc pins s σ H _ us Q I r ⟨i, j, rfl, q.int⟩
  · rename_i ds
    split at q
    · rename_i n m e
      have ed := intsOf_eq e
      subst ed
      cases rr with
      | cons r1 r2 =>
        cases r2
        cases r1 with
        | lst h1 r1 =>
          have ex := r1.intsV
          subst ex
          obtain ⟨l1, l2⟩ := lmax_mem (ns := n :: m) (by simp)
          refine cr_max hc pins s σ H _ us Q I r ⟨_, n :: m, rfl, .inl h1, by simp, fun k hk hle => ?_⟩
          have e1 := l2 k hk
          have e2 := hle _ l1
          have : k = lmax (n :: m) := by omega
          rw [this]
          exact q.int
    · exact q.elim
  · rename_i ds
    split at q
    · rename_i n m e
      have ed := intsOf_eq e
      subst ed
      cases rr with
      | cons r1 r2 =>
        cases r2
        cases r1 with
        | tup h1 r1 =>
          have ex := r1.intsV
          subst ex
          obtain ⟨l1, l2⟩ := lmax_mem (ns := n :: m) (by simp)
          obtain ⟨its, rv, pl, hz⟩ := I.tuple (sqT_of h1)
          rw [Vals.ref1 r]
          refine max_rawT (I.ok.hd hc) pl rv.ints (by simp) fun h' tk k t' hk hm hle => ?_
          have e1 := l2 k hm
          have e2 := hle _ l1
          have : k = lmax (n :: m) := by omega
          subst this
          exact ⟨.int _, H, I.kept hk, ⟨_, rfl⟩, q.int⟩
    · exact q.elim
  · exact q.elim
theorem min_rawT {prog : Program} {w : World} {A : Around} {E : Value → Shared → Prop} {s : Shared} {l : Addr} {its : List Value} {ns : List Int} {Q : Value → Shared → Prop} (hh : A.handled = none) (hl : s.heap.IsTuple l its.toArray) (hi : IntsAre its ns) (hne : 0 < ns.length)
    (h : ∀ h' tk M t', (∀ b o, s.heap.get? b = some o → h'.get? b = some o) → M ∈ ns → (∀ a, a ∈ ns → M ≤ a) → Q (.int M t') { s with heap := h', toks := tk }) : wpAny (model prog w) A (call (.builtin "min") [.ref l]) Q E s := by
  have hlt : l < s.heap.objs.size := by obtain ⟨_, e, _⟩ := hl; exact Heap.lt_size e
  have hz : its.length = ns.length := hi.length
  refine call_min_walk (wpAny_pyIter_tuple hl ?_)
  have hv : ∀ (i : Nat) (v : Value), its.toArray[i]? = some v → ∃ t, v = .int (ns.getD i 0) t := fun i v hv => PyProof.Rows.IntsAre.int_at hi i v (by simpa using hv)
  refine ⟨_, _, _, _, _, _, _, rfl, Walks.tuple (A := A.in1) hh _ l (Nat.ne_of_lt hlt) its.toArray, ⟨⟨_, Heap.get?_push_size _ rfl, rfl, rfl⟩, hl.push _⟩, fun b hb => ?_, by rw [List.size_toArray]; omega, CmpOf.ints_lt (fun i => ns.getD i 0) hv, fun v h' tk hP hk => ?_⟩
  · show b < (s.heap.push _).objs.size
    rw [Heap.size_push]
    rcases List.mem_cons.mp hb with rfl | hb
    · exact Nat.lt_succ_self _
    · rcases List.mem_cons.mp hb with rfl | hb
      · exact Nat.lt_succ_of_lt hlt
      · cases hb
  · obtain ⟨t, rfl⟩ := hv _ _ hP
    obtain ⟨h1, h2⟩ := argBest_lt (fun i => ns.getD i 0) (its.toArray.size - 1)
    rw [List.size_toArray] at h1 h2
    refine h h' tk _ t (fun b o e => hk b o (fun hm => ?_) (Heap.get?_push_of_some _ e)) ?_ fun a ha => ?_
    · rcases List.mem_cons.mp hm with e1 | hm
      · exact absurd (e1 ▸ Heap.lt_size e) (Nat.lt_irrefl _)
      · cases hm
    · rw [List.size_toArray]; exact PySem.getD_mem (by omega)
    · obtain ⟨j, hj, rfl⟩ := mem_getD ha
      rw [List.size_toArray]; exact h2 j (by omega)
theorem cd_min (hc : X.calm = true) : CallD X (.builtin "min") true minD := by
  intro pins s σ H vs us Q I r h
  obtain ⟨ds, rr, q⟩ := h
  unfold minD at q
  split at q
  · rename_i i j
    cases rr with
    | cons r1 r2 => cases r2 with
      | cons r2 r3 =>
        cases r3; cases r1; cases r2
        exact call_min2 hc pins s σ H _ us Q I r ⟨i, j, rfl, q.int⟩
  · rename_i ds
    split at q
    · rename_i n m e
      have ed := intsOf_eq e
      subst ed
      cases rr with
      | cons r1 r2 =>
        cases r2
        cases r1 with
        | lst h1 r1 =>
          have ex := r1.intsV
          subst ex
          obtain ⟨l1, l2⟩ := lmin_mem (ns := n :: m) (by simp)
          refine cr_min hc pins s σ H _ us Q I r ⟨_, n :: m, rfl, .inl h1, by simp, fun k hk hle => ?_⟩
          have e1 := l2 k hk
          have e2 := hle _ l1
          have : k = lmin (n :: m) := by omega
          rw [this]
          exact q.int
    · exact q.elim
  · rename_i ds
    split at q
    · rename_i n m e
      have ed := intsOf_eq e
      subst ed
      cases rr with
      | cons r1 r2 =>
        cases r2
        cases r1 with
        | tup h1 r1 =>
          have ex := r1.intsV
          subst ex
          obtain ⟨l1, l2⟩ := lmin_mem (ns := n :: m) (by simp)
          obtain ⟨its, rv, pl, hz⟩ := I.tuple (sqT_of h1)
          rw [Vals.ref1 r]
          refine min_rawT (I.ok.hd hc) pl rv.ints (by simp) fun h' tk k t' hk hm hle => ?_
          have e1 := l2 k hm
          have e2 := hle _ l1
          have : k = lmin (n :: m) := by omega
          subst this
          exact ⟨.int _, H, I.kept hk, ⟨_, rfl⟩, q.int⟩
    · exact q.elim
  · exact q.elim

/-! ### isinstance of data -/
def tyD : D → String
  | .none => "NoneType"
  | .bool _ => "bool"
  | .int _ => "int"
  | .str _ => "str"
  | .list _ => "list"
  | .tuple _ => "tuple"
  | .dict _ => "dict"
def isiD (T : String) : D → Option D := fun d => (kitB (tyD d) T).map .bool
theorem Rep.tyX {K : PySem.W.Frag} {H : Hp} {v : V} {d : D} (h : Rep K H v d) : TyX K H v (.type (tyD d)) := by
  cases h with
  | non => exact .base .non
  | bl b => exact .base (.bl b)
  | int i => exact .base (.int i)
  | str x => exact .base (.str x)
  | lst h1 _ => rcases h1 with h1 | ⟨o, h1⟩; exact .base (.lst h1); exact .base (.frz h1)
  | tup h1 _ => exact .base (.tup h1)
  | dK h1 _ => exact .base (.dK h1)
  | dT h1 _ => exact .base (.dT h1)
theorem je_isi {x T : Str} {Ts : String} {p p2 : Pos} {e : Expr} {f : Ex} (hg : Gl X x) (hm : X.mg x = none) (hv : bootBuiltins x = some (.builtin "isinstance")) (he : JE X cA W fr' e f) (n : nostar e = true) (hgT : Gl X T) (hmT : X.mg T = none) (hvT : bootBuiltins T = some (.type Ts)) (hn : x ≠ "__name__") (hdb : (x == ("__debug__" : Str)) = false) (hnT : T ≠ "__name__") (hdbT : (T == ("__debug__" : Str)) = false) :
    JE X cA W true (.Call (.Name x p) [e, .Name T p2] [] pos) (sUn (isiD Ts) f) := fun ρ =>
  peI (pe_callB call_isi hg hm hv (pa_cons (he ρ) (pa_cons (pe_bltn (v := .ty Ts) (u := .type Ts) hgT hmT hvT rfl hnT hdbT) pa_nil rfl) (starEach_cons n)) hn hdb (starEach_cons n) rfl) fun σ H Q q => ⟨q.1, Post.bind q.2 fun d v H1 s1 r1 p1 => by
    have p2 := p1.ofO
    unfold isiD at p2
    cases e : kitB (tyD d) Ts with
    | none => rw [e] at p2; exact p2.elim
    | some b =>
      rw [e] at p2
      exact ⟨v, .ty Ts, _, .type Ts, b, rfl, .ty Ts, r1.tyX, kit_ty e, p2.bool⟩⟩
theorem kitB_all : ∀ (d : D), kitB (tyD d) "int" = some (match d with | .int _ | .bool _ => true | _ => false) ∧ kitB (tyD d) "bool" = some (match d with | .bool _ => true | _ => false) ∧ kitB (tyD d) "tuple" = some (match d with | .tuple _ => true | _ => false) ∧ kitB (tyD d) "str" = some (match d with | .str _ => true | _ => false) ∧ kitB (tyD d) "list" = some (match d with | .list _ => true | _ => false) := fun d => by
  refine ⟨?_, ?_, ?_, ?_, ?_⟩ <;> cases d <;> (simp only [tyD]; decide +kernel)
/-- a module's constant -/
theorem je_glob {x : Str} {v : V} {u : Value} {d : D} (hg : Gl X x) (hm : X.mg x = some u) (r : RelV v u) (hd : (x == ("__debug__" : Str)) = false) (rep : ∀ H, Rep X.K H v d) (m : mutTop d = false) : JE X cA W true (.Name x pos) (sCst d) := je_cst (pe_glob hg hm r hd) rep m
end
end Py

set_option Elab.async false
set_option linter.all false
set_option maxRecDepth 100000
set_option maxHeartbeats 4000000
/-! Own layer, part 8: try .. except WordError as e, with a suite that asks which class e is of. -/
namespace Py
open PySem PySem.Spec L2
open PyProof.Rows hiding St

/-- a list of flags: isinstance(e, C_k) for each k; the flags' own name; two of them joined -/
inductive FE where
  | disp (ks : List Nat)
  | var
  | cat (a b : FE)
def FE.ev (c : Nat) : FE → Option (List Bool) → Option (List Bool)
  | .disp ks, _ => if ks.length ≤ 1000 then some (ks.map fun k => k == c) else none
  | .var, o => o
  | .cat a b, o => match a.ev c o, b.ev c o with
    | some x, some y => if x.length + y.length ≤ 1000 then some (x ++ y) else none
    | _, _ => none
def firstT : List Bool → Option Nat
  | [] => none
  | true :: _ => some 0
  | false :: bs => (firstT bs).map (· + 1)
def suiteEv (c : Nat) : List FE → FE → Option (List Bool) → Option Nat
  | [], f, o => (f.ev c o).bind firstT
  | s :: ss, f, o => (s.ev c o).bind fun bs => suiteEv c ss f (some bs)
theorem firstT_at : ∀ {bs : List Bool} {j : Nat}, firstT bs = some j → bs[j]? = some true ∧ ∀ m z, m < j → bs[m]? = some z → z = false
  | [], _, h => by cases h
  | true :: bs, j, h => by cases h; exact ⟨rfl, fun m z hm => by omega⟩
  | false :: bs, j, h => by
    unfold firstT at h
    cases e : firstT bs with
    | none => rw [e] at h; cases h
    | some k =>
      rw [e] at h
      cases h
      obtain ⟨h1, h2⟩ := firstT_at e
      refine ⟨by simpa using h1, fun m z hm hz => ?_⟩
      cases m with
      | zero => simp at hz; exact hz
      | succ m => exact h2 m z (Nat.lt_of_succ_lt_succ hm) (by simpa using hz)

/-- the flags' name holds bs; e's name the exception at a -/
def FlagsAt (ie jf : Nat) (a : Addr) (σ : St) (H : Hp) : Option (List Bool) → Prop
  | none => σ[ie]? = some (some (.ref a))
  | some bs => σ[ie]? = some (some (.ref a)) ∧ ∃ l, σ[jf]? = some (some (.ref l)) ∧ H l = some (.lst (bs.map V.bl))
theorem FlagsAt.e {ie jf : Nat} {a : Addr} {σ : St} {H : Hp} {o : Option (List Bool)} (h : FlagsAt ie jf a σ H o) : σ[ie]? = some (some (.ref a)) := by
  cases o with
  | none => exact h
  | some bs => exact h.1
theorem FlagsAt.same {ie jf : Nat} {a : Addr} {σ : St} {H H' : Hp} {o : Option (List Bool)} (s : Same H H') (h : FlagsAt ie jf a σ H o) : FlagsAt ie jf a σ H' o := by
  cases o with
  | none => exact h
  | some bs => obtain ⟨h1, l, h2, h3⟩ := h; exact ⟨h1, l, h2, s _ _ h3⟩
def tFE (c ie jf : Nat) (a : Addr) (fe : FE) (o : Option (List Bool)) : TE := fun σ H Q => FlagsAt ie jf a σ H o ∧ match fe.ev c o with
  | some bs => ∀ p H', Same H H' → H' p = some (.lst (bs.map V.bl)) → Q (.ref p) H'
  | none => False
/-- what the k-th class says of an exception of the c-th -/
structure IsC (X : Cx) (cA : Nat → Addr) (k : Nat) (x : Str) : Prop where
  gl : Gl X x
  db : (x == ("__debug__" : Str)) = false
  gC : X.mg x = some (.ref (cA k))
section
variable {X : Cx} {cA : Nat → Addr} {c ie jf : Nat} {a : Addr} {oe : Obj} {pn : List (Addr × Obj)} {pos : Pos}
/-- the elements of a display -/
inductive Disp (X : Cx) (cA : Nat → Addr) (ie : Nat) : List Expr → List Nat → Prop
  | nil : Disp X cA ie [] []
  | cons {n x : Str} {k : Nat} {p p1 p2 pos : Pos} {es : List Expr} {ks : List Nat} : X.N[ie]? = some n → Vis X.env.scope n → (n == ("__debug__" : Str)) = false → (n == ("__classdict__" : Str)) = false → IsC X cA k x → (∀ c, PySem.W.kitOne X.K (.ref (cA c)) (.ref (cA k)) = some (k == c)) → Disp X cA ie es ks → Disp X cA ie (.Call (.Name "isinstance" p) [.Name n p1, .Name x p2] [] pos :: es) (k :: ks)
theorem Disp.pa {ie : Nat} (C : ExcC X.K (cA c)) (hz : Zc (.ref (cA c)) none oe) (hf : ∃ vs, oe.data = .fields vs) (hg : Gl X "isinstance") (hm : X.mg "isinstance" = none) :
    ∀ {es : List Expr} {ks : List Nat}, Disp X cA ie es ks → PA (X.suite a ((a, oe) :: pn)) es (fun σ H Q => σ[ie]? = some (some (.ref a)) ∧ Q (ks.map fun k => V.bl (k == c)) H)
  | _, _, .nil => paI pa_nil fun σ H Q q => q.2
  | _, _, .cons (k := k) h1 h2 h3 h4 I hk r =>
    paI (pa_cons (pe_callB (call_isE C hz hf) (show Gl (X.suite a ((a, oe) :: pn)) "isinstance" from hg) hm boot_isinstance (pa_cons (pe_var (X := X.suite a ((a, oe) :: pn)) h1 h2 h3 h4) (pa_cons (pe_glob (X := X.suite a ((a, oe) :: pn)) I.gl I.gC (v := .ref (cA k)) rfl I.db) pa_nil rfl) rfl) (by decide) (by decide) rfl rfl) (Disp.pa C hz hf hg hm r) rfl) fun σ H Q q =>
      ⟨.ref a, q.1, .ref (cA k), .ref (cA k), k == c, rfl, fun u r => r, hk c, q.1, q.2⟩
inductive JFE (X : Cx) (cA : Nat → Addr) (ie jf : Nat) : Expr → FE → Prop
  | disp {es : List Expr} {ks : List Nat} {pos : Pos} : Disp X cA ie es ks → JFE X cA ie jf (.List es pos) (.disp ks)
  | var {n : Str} {p : Pos} : X.N[jf]? = some n → Vis X.env.scope n → (n == ("__debug__" : Str)) = false → (n == ("__classdict__" : Str)) = false → JFE X cA ie jf (.Name n p) .var
  | cat {e f : Expr} {x y : FE} {pos : Pos} : JFE X cA ie jf e x → JFE X cA ie jf f y → JFE X cA ie jf (.BinOp e .Add f pos) (.cat x y)
theorem JFE.pe (C : ExcC X.K (cA c)) (hz : Zc (.ref (cA c)) none oe) (hf : ∃ vs, oe.data = .fields vs) (hg : Gl X "isinstance") (hm : X.mg "isinstance" = none) :
    ∀ {e : Expr} {fe : FE}, JFE X cA ie jf e fe → ∀ o, PE (X.suite a ((a, oe) :: pn)) e (tFE c ie jf a fe o)
  | _, _, .disp (ks := ks) d => fun o => peI (pe_lst (d.pa C hz hf hg hm)) fun σ H Q q => by
    obtain ⟨h, p⟩ := q
    refine ⟨h.e, ?_⟩
    simp only [FE.ev] at p
    by_cases hl : ks.length ≤ 1000
    · simp only [hl, if_true] at p
      refine ⟨by rw [List.length_map, sizeLine_eq]; omega, fun t nt => p t _ (same_upd nt) ?_⟩
      rw [upd_same, List.map_map]
      rfl
    · simp only [hl, if_false] at p
  | _, _, .var h1 h2 h3 h4 => fun o => peI (pe_var (X := X.suite a ((a, oe) :: pn)) h1 h2 h3 h4) fun σ H Q q => by
    obtain ⟨h, p⟩ := q
    cases o with
    | none => exact p.elim
    | some bs =>
      obtain ⟨h0, l, h1, h2⟩ := h
      exact ⟨.ref l, h1, p l H (Same.refl H) h2⟩
  | _, _, .cat (x := x) (y := y) h1 h2 => fun o => peI (pe_op op_cat (JFE.pe C hz hf hg hm h1 o) (JFE.pe C hz hf hg hm h2 o)) fun σ H Q q => by
    obtain ⟨h, p⟩ := q
    refine ⟨h, ?_⟩
    simp only [FE.ev] at p
    cases e1 : x.ev c o with
    | none => rw [e1] at p; exact p.elim
    | some bs =>
      rw [e1] at p
      intro l H1 s1 hl
      refine ⟨h.same s1, ?_⟩
      cases e2 : y.ev c o with
      | none => rw [e2] at p; exact p.elim
      | some bs2 =>
        simp only [e2] at p
        intro l2 H2 s2 hl2
        by_cases hz : bs.length + bs2.length ≤ 1000
        · simp only [hz, if_true] at p
          refine ⟨l, l2, _, _, rfl, rfl, s2 _ _ hl, hl2, by rw [List.length_map, List.length_map, sizeLine_eq]; omega, fun t nt => p t _ ((s1.trans s2).trans (same_upd nt)) ?_⟩
          rw [upd_same, List.map_append]
        · simp only [hz, if_false] at p
/-- a suite: flags = ..; flags = ..; return (..).index(True) -/
inductive JSu (X : Cx) (cA : Nat → Addr) (ie jf : Nat) : List Stmt → List FE → FE → Prop
  | ret {e : Expr} {fe : FE} {j : Nat} {p1 apos cpos pos : Pos} : JFE X cA ie jf e fe → (apos.endLine == cpos.line) = true → (∀ env, attributeBase e "index" env (eval e env) = eval e env) → JSu X cA ie jf [.Return (some (.Call (.Attribute e "index" apos) [.Constant (.bool true) j p1] [] cpos)) pos] [] fe
  | set {n : Str} {e : Expr} {fe fin : FE} {p1 pos : Pos} {sts : List Stmt} {fes : List FE} : X.N[jf]? = some n → ie ≠ jf → X.env.scope.names.lookup n = some .local → notComp e = true → JFE X cA ie jf e fe → JSu X cA ie jf sts fes fin → JSu X cA ie jf (.Assign [.Name n p1] e pos :: sts) (fe :: fes) fin
theorem JSu.pss (hN : X.N.Nodup) (C : ExcC X.K (cA c)) (hz : Zc (.ref (cA c)) none oe) (hf : ∃ vs, oe.data = .fields vs) (hg : Gl X "isinstance") (hm : X.mg "isinstance" = none) :
    ∀ {sts : List Stmt} {fes : List FE} {fin : FE}, JSu X cA ie jf sts fes fin → ∀ o, PSs (X.suite a ((a, oe) :: pn)) sts (fun D σ H => jf < σ.length ∧ FlagsAt ie jf a σ H o ∧ match suiteEv c fes fin o with
      | some j => ∀ H', Same H H' → D.rt (.int (j : Nat)) H'
      | none => False)
  | _, _, _, .ret (fe := fe) h1 h2 h3 => fun o => pssI (pss_one (ps_ret (pe_bm PySem.F.plainAttrs_list PySem.F.slot_list_index PySem.F.type_list_index mt_index (JFE.pe C hz hf hg hm h1 o) (pa_cons pe_bl pa_nil rfl) (h3 _) rfl h2 rfl rfl))) fun D σ H q => by
    obtain ⟨hl, h, p⟩ := q
    refine ⟨h, ?_⟩
    simp only [suiteEv] at p
    cases e : fe.ev c o with
    | none => rw [e] at p; exact p.elim
    | some bs =>
      rw [e] at p
      have p : (match firstT bs with | some j => ∀ H', Same H H' → D.rt (.int (j : Nat)) H' | none => False) := p
      intro t H' s' ht
      refine ⟨.inl ⟨rfl, _, .inl (.inl ht)⟩, ?_⟩
      cases e2 : firstT bs with
      | none => rw [e2] at p; exact p.elim
      | some j =>
        rw [e2] at p
        obtain ⟨f1, f2⟩ := firstT_at e2
        refine ⟨t, _, .bl true, j, .bl true, rfl, rfl, .inl (.inl ht), rfl, ?_, by rw [List.getElem?_map, f1]; rfl, rfl, fun m z hm hz => ?_, p H' s'⟩
        · rw [List.all_eq_true]
          intro x hx
          obtain ⟨b, _, rfl⟩ := List.mem_map.mp hx
          rfl
        · rw [List.getElem?_map] at hz
          cases e3 : bs[m]? with
          | none => rw [e3] at hz; cases hz
          | some b =>
            rw [e3] at hz
            cases hz
            rw [f2 m b hm e3]
            rfl
  | _, _, _, .set (fe := fe) (fes := fes) (fin := fin) h1 hne h2 h3 h4 r => fun o => by
    have tl : ∀ o', PSs (X.suite a ((a, oe) :: pn)) _ _ := fun o' => JSu.pss hN C hz hf hg hm r o'
    refine pssI (pss_cons (ps_set (X := X.suite a ((a, oe) :: pn)) (i := jf) hN h1 (.inl h2) (JFE.pe C hz hf hg hm h4 o) (swaps_not h3) (.inr h2)) ⟨fun pins s σ H D I (q : ∃ o', (jf < σ.length ∧ FlagsAt ie jf a σ H o' ∧ match suiteEv c fes fin o' with
      | some j => ∀ H', Same H H' → D.rt (.int (j : Nat)) H'
      | none => False)) => by obtain ⟨o', q⟩ := q; exact (tl o').run pins s σ H D I q⟩) fun D σ H q => ?_
    obtain ⟨hl, h, p⟩ := q
    refine ⟨h, ?_⟩
    simp only [suiteEv] at p
    cases e : fe.ev c o with
    | none => rw [e] at p; exact p.elim
    | some bs =>
      rw [e] at p
      intro t H1 s1 ht
      refine ⟨some bs, by simpa using hl, ⟨by rw [List.getElem?_set_ne (Ne.symm hne)]; exact h.e, t, by rw [List.getElem?_set_self hl], ht⟩, ?_⟩
      have p : (match suiteEv c fes fin (some bs) with | some j => ∀ H', Same H H' → D.rt (.int (j : Nat)) H' | none => False) := p
      cases e2 : suiteEv c fes fin (some bs) with
      | none => rw [e2] at p; exact p.elim
      | some j => rw [e2] at p; exact fun H' s' => p H' (s1.trans s')
end

def oTry (ie jf : Nat) (body : Sx) (fes : List FE) (fin : FE) : Sx := fun ρ => match body ρ with
  | .exc c ρ' => if ie < ρ'.length ∧ jf < ρ'.length then match suiteEv c fes fin none with
      | some j => .rt (.int (j : Nat))
      | none => .bad
    else .bad
  | o => o
section
variable {X : Cx} {cA : Nat → Addr} {W : WX} {fr : Bool} {pos pos' : Pos}
theorem js_try {x n : Str} {np : Pos} {ie jf : Nat} {body suite : List Stmt} {b₀ : Stmt} {fb : Sx} {fes : List FE} {fin : FE} (hs : X.stack = X.env :: X.outer) (hf : X.env.frame = some X.env.locals) (hN : X.N.Nodup) (hi : X.N[ie]? = some n) (hln : X.env.scope.names.lookup n = some .local) 
    (hgx : Gl X x) (hdx : (x == ("__debug__" : Str)) = false) (hmx : X.mg x = some (.ref (cA 0))) (tk : Takes X W) (hg : Gl X "isinstance") (hm : X.mg "isinstance" = none) (C : ∀ c, ExcC X.K (cA c)) (M : ∀ c, PySem.W.exmOne X.K (.ref (cA c)) (.ref (cA 0)) = some true)
    (hb : ∀ (W' : WX) (pn : List (Addr × Obj)) (xe : Value → Shared → Prop), Takes (X.tr pn xe) W' → PassesOwn (model X.prog X.w) X.A X.env xe → JSs (X.tr pn xe) cA W' fr body fb) (hsu : JSu X cA ie jf (b₀ :: suite) fes fin) :
    JS X cA W fr (.Try body [.ExceptHandler (some (.Name x np)) (some n) (b₀ :: suite) pos'] [] [] pos) (oTry ie jf fb fes fin) := fun Hin => ⟨fun pins s σ H D I q => by
  obtain ⟨ρ, i0, p⟩ := q
  refine (ps_try_as (tb := fun W' => tS X.K cA W' Hin fr fb) (ts := fun a cls d => fun D σ H => ∃ c, cls = .ref (cA c) ∧ d = none ∧ jf < σ.length ∧ FlagsAt ie jf a σ H none ∧ match suiteEv c fes fin none with
      | some j => ∀ H', Same H H' → D.rt (.int (j : Nat)) H'
      | none => False) hs hf hN hi hln ⟨hgx, hdx, .inl hmx⟩ tk (fun W' pn xe t po => hb W' pn xe t po Hin) (fun a oe cls d pn hz hfl => ⟨fun pins s σ H D I q => by
        obtain ⟨c, rfl, rfl, q⟩ := q
        exact (hsu.pss hN (C c) hz hfl hg hm none).run pins s σ H D I q⟩)).run pins s σ H D I ⟨ρ, i0, ?_⟩
  unfold oTry at p
  cases e : fb ρ with
  | nx ρ' => rw [e] at p; exact p
  | rt d => rw [e] at p; exact p
  | bad => rw [e] at p; exact p
  | exc c ρ' =>
    rw [e] at p
    intro σ' H' i'
    have p : PostS X.K cA W Hin fr (if ie < ρ'.length ∧ jf < ρ'.length then match suiteEv c fes fin none with
      | some j => .rt (.int (j : Nat))
      | none => .bad
      else .bad) D := p
    split at p
    · rename_i hl
      rw [i'.len] at hl
      refine ⟨true, M c, fun _ a na => ⟨c, rfl, rfl, by simpa using hl.2, by show (σ'.set ie (some (V.ref a)))[ie]? = _; rw [List.getElem?_set_self hl.1], ?_⟩, fun z => by cases z⟩
      cases e2 : suiteEv c fes fin none with
      | none => rw [e2] at p; exact p.elim
      | some j => rw [e2] at p; exact fun H'' s'' => p _ H'' (i'.same.trans s'') (.int _) fun _ z => by cases z
    · exact p.elim⟩
end
end Py

set_option Elab.async false
set_option linter.all false
set_option maxRecDepth 100000
set_option maxHeartbeats 4000000
/-! Own layer, part 9: a def picked out of a written list and called; stores of comprehensions; parallel stores' conditions. -/
namespace Py
open PySem PySem.Spec L2
open PyProof.Rows hiding St

theorem eval_Call_Sub (a b : Expr) (p : Pos) (args : List Expr) (keywords : List Keyword) (pos : Pos) (env : Env) : eval (.Call (.Subscript a b p) args keywords pos) env = (do
    callWith pos (← eval (.Subscript a b p) env) [] (backTo pos (starEach args env)) (backToKw pos (keywordEach keywords env))) := rfl
/-- the defs of a written list -/
inductive Picks (X : Cx) (cA : Nat → Addr) (k n : Nat) : List Expr → List (List D → Res D) → Prop
  | nil : Picks X cA k n [] []
  | cons {x : Str} {p : Pos} {fr : Bool} {g : List D → Res D} {es : List Expr} {gs : List (List D → Res D)} : Gl X x → (x == ("__debug__" : Str)) = false → FnIn X cA k x fr n g → Picks X cA k n es gs → Picks X cA k n (.Name x p :: es) (g :: gs)
def sPick (gs : List (List D → Res D)) (ix : Ex) (fs : List Ex) : Ex := fun ρ => (ix ρ).bind fun d => match d with
  | .int i => match L2.atI gs i with
    | some g => (evalL fs ρ).bind g
    | none => .bad
  | _ => .bad
section
variable {X : Cx} {cA : Nat → Addr} {W : WX} {fr fr' : Bool} {pos : Pos}
/-- the values of the picked defs -/
inductive PickV (X : Cx) (cA : Nat → Addr) (k n : Nat) : List V → List (List D → Res D) → Prop
  | nil : PickV X cA k n [] []
  | cons {f : Addr} {fd : FuncData} {ps : List Str} {fr : Bool} {g : List D → Res D} {vs : List V} {gs : List (List D → Res D)} : PySem.W.keepIn X.K (.ref f) = true → Binds X.K fd ps [] → FnOk X.prog X.w X.K X.mg X.base (L2.CX X.prog X.w) k f fd ps (spOf X.K cA fr n g) → PickV X cA k n vs gs → PickV X cA k n (.ref f :: vs) (g :: gs)
theorem PickV.at {k n : Nat} : ∀ {vs : List V} {gs : List (List D → Res D)}, PickV X cA k n vs gs → vs.length = gs.length ∧ ∀ (j : Nat) (g : List D → Res D), gs[j]? = some g → ∃ (f : Addr) (fd : FuncData) (ps : List Str) (fr : Bool), vs[j]? = some (.ref f) ∧ PySem.W.keepIn X.K (.ref f) = true ∧ Binds X.K fd ps [] ∧ FnOk X.prog X.w X.K X.mg X.base (L2.CX X.prog X.w) k f fd ps (spOf X.K cA fr n g)
  | _, _, .nil => ⟨rfl, fun j g h => by simp at h⟩
  | _, _, .cons h1 h2 h3 r => by
    obtain ⟨l, h⟩ := PickV.at r
    refine ⟨by simp [l], fun j g e => ?_⟩
    cases j with
    | zero => simp at e; subst e; exact ⟨_, _, _, _, rfl, h1, h2, h3⟩
    | succ j =>
      obtain ⟨f, fd, ps, fr, e1, e2⟩ := h j g (by simpa using e)
      exact ⟨f, fd, ps, fr, by simpa using e1, e2⟩
theorem Picks.pa {k n : Nat} : ∀ {es : List Expr} {gs : List (List D → Res D)}, Picks X cA k n es gs → PA X es (fun σ H Q => ∀ vs, PickV X cA k n vs gs → Q vs H)
  | _, _, .nil => paI pa_nil fun σ H Q q => q [] .nil
  | _, _, .cons hg hd F r => by
    obtain ⟨f, fd, ps, hm, hk, hb, F⟩ := F.ex
    exact paI (pa_cons (pe_glob hg hm (v := .ref f) rfl hd) (Picks.pa r) rfl) fun σ H Q q => fun vs pv => q (.ref f :: vs) (.cons hk hb F pv)
theorem Picks.length {k n : Nat} : ∀ {es : List Expr} {gs : List (List D → Res D)}, Picks X cA k n es gs → es.length = gs.length
  | _, _, .nil => rfl
  | _, _, .cons hg hd F r => by simp [Picks.length r]
theorem je_pick {k n : Nat} {p1 p2 : Pos} {es args : List Expr} {gs : List (List D → Res D)} {ix : Expr} {fi : Ex} {fs : List Ex} (P : Picks X cA k n es gs) (hz : gs.length ≤ 1000) (hi : JE X cA W fr' ix fi) (hs : PlainIx ix) (hr : Room k X.A) (tk : Takes X W) (h : JAll X cA W args fs) (hn : fs.length = n) (hne : args ≠ []) :
    JE X cA W false (.Call (.Subscript (.List es p1) ix p2) args [] pos) (sPick gs fi fs) := fun ρ => ⟨fun pins s σ H Q I q => by
  rw [eval_Call_Sub]
  refine wpAny_bind (thn ((pe_ix ix_list (pe_lst P.pa) (hi ρ) hs).run pins s σ H (fun v H1 => ∃ f fd ps fr g, v = .ref f ∧ PySem.W.keepIn X.K (.ref f) = true ∧ Binds X.K fd ps [] ∧ FnOk X.prog X.w X.K X.mg X.base (L2.CX X.prog X.w) k f fd ps (spOf X.K cA fr n g) ∧ EOk X.K ρ σ H1 ∧ Post X.K cA W σ H1 false ((evalL fs ρ).bind g) Q) I ?_) fun u s1 ⟨v, H1, I1, r1, q1⟩ => ?_)
  · intro vs pv
    obtain ⟨lv, av⟩ := pv.at
    refine ⟨by rw [lv, sizeLine_eq]; omega, fun t nt => ⟨q.1.same (same_upd nt), ?_⟩⟩
    have p := q.2
    unfold sPick at p
    have p1 := Post.mono (same_upd (o := .lst vs) nt) p
    cases e : fi ρ with
    | bad => rw [e] at p1; exact p1.elim
    | exc c => rw [e] at p1; exact p1
    | ok d =>
      rw [e, Res.bind_ok] at p1
      intro w H2 s2 r2 _
      cases r2 with
      | int i =>
        simp only at p1
        cases e2 : L2.atI gs i with
        | none => rw [e2] at p1; exact p1.elim
        | some g =>
          rw [e2] at p1
          have e3 : ∃ j, ixN gs.length i = some j ∧ gs[j]? = some g := by
            unfold L2.atI at e2
            cases e4 : ixN gs.length i with
            | none => rw [e4] at e2; cases e2
            | some j => rw [e4] at e2; exact ⟨j, rfl, e2⟩
          obtain ⟨j, e4, e5⟩ := e3
          obtain ⟨f, fd, ps, fr, e6, hk, hb, F⟩ := av j g e5
          refine ⟨t, vs, i, .ref f, rfl, rfl, .inl (.inl (s2 _ _ upd_same)), ?_, f, fd, ps, fr, g, rfl, hk, hb, F, q.1.same ((same_upd nt).trans s2), Post.mono s2 p1⟩
          unfold L2.atI
          rw [lv, e4]
          exact e6
      | _ => exact p1.elim
  · obtain ⟨f, fd, ps, fr2, g, rfl, hk, hb, F, ok, p⟩ := q1
    cases r1
    cases h with
    | nil => exact absurd rfl hne
    | cons h1 n1 r1 =>
      refine PySem.W.callWith_K (h₀ := X.base) I.ok.mod.kin hk (thn (((JAll.cons h1 n1 r1).pa ρ).run pos pins s1 σ H1 (fun vs H2 => spOf X.K cA fr2 n g vs H2 Q (WE W σ)) I1 ⟨ok, ?_⟩) fun us s2 ⟨vs, H2, I2, r, q⟩ => ⟨I2.kIn, ?_⟩) (starEach_cons n1) r1.nostars
      · cases e : evalL (_ :: _) ρ with
        | bad => rw [e] at p; exact p.elim
        | exc c => rw [e] at p; exact p
        | ok ds =>
          rw [e] at p
          intro vs H2 s2 r2
          refine ⟨by rw [r2.length, evalL_length e, hn], ds, r2, ?_⟩
          have p1 := Post.mono s2 p
          rw [Res.bind_ok] at p1
          cases e2 : g ds with
          | ok d => rw [e2] at p1; exact fun v H' s r f => p1 v H' s r fun z => by cases z
          | exc c => rw [e2] at p1; exact p1
          | bad => rw [e2] at p1; exact p1
      · exact run_fnS (E := fun σ => WE W σ) F hr hb (passAt tk σ) I2 r q⟩

/-! ### name = [.. for ..] -/
theorem sw_false {e : Expr} {gs : List Comprehension} {scope : Scope} {p py : Pos} {y : Str} {l : Nat} {env : Env} (hy : env.scope.names.lookup y ≠ some .local) : swapsWith (.ListComp e gs scope p) (some (.Name y py)) l env = pure false := by
  have ky : (env.kindOf y == some NameKind.local) = false := by
    refine Bool.eq_false_iff.mpr fun z => hy ?_
    exact beq_iff_eq.mp z
  unfold swapsWith
  simp only [ky, Bool.and_false, Bool.false_and]
theorem jset_lc {i : Nat} {y : Str} {py p spos : Pos} {elt tg iter : Expr} {ifs : List Expr} {scope : Scope} {own : List (Str × Nat)} {f : As} {its : Itd'} {b : Bd} {I : List Nat} {t : Tx} {e : Ex} (hc : X.calm = true) (hN : X.N.Nodup) (hy : X.N[i]? = some y) (hyl : X.env.scope.names.lookup y = some .local)
    (hsw : swapsWith (.ListComp elt [⟨tg, iter, ifs, 0⟩] scope p) (some (.Name y py)) spos.line X.env = pure true) (hi : JI X cA W fr tg iter f its) (ok : BlkOk X.N X.env.scope scope own)
    (hg : ∀ (s : Shared) (H : Hp) (C : Addr) (cl : List (Str × Addr)) (fp : List Addr), JG (X.blk s H scope (compEnvC scope cl C X.env) fp) anyD (EOk X.K) tg b I) (hI : ∀ i ∈ I, i ∈ own.map (·.2))
    (ht : ∀ (s : Shared) (H : Hp) (C : Addr) (cl : List (Str × Addr)) (fp : List Addr), JTs (X.blk s H scope (compEnvC scope cl C X.env) fp) cA WF ifs t)
    (he : ∀ (s : Shared) (H : Hp) (C : Addr) (cl : List (Str × Addr)) (fp : List Addr), JE (X.blk s H scope (compEnvC scope cl C X.env) fp) cA WF fr' elt e) (hs : ∀ x, foldedSetIterable iter X.env x = pure x) :
    JSetE X cA W true (.Assign [.Name y py] (.ListComp elt [⟨tg, iter, ifs, 0⟩] scope p) spos) i (sLc f its (own.map (·.2)) b t e) := fun ρ =>
  psI (ps_setLc (g := tG X.K anyD (EOk X.K) b I) (tt := exT (tDT X.K cA WF t)) (te := exE (tD X.K cA WF fr' e)) hc hN hy hyl hsw (hi ρ) ok (fun s H C cl fp => hg s H C cl fp) (fun s H C cl fp => (ht s H C cl fp).ex) (fun s H C cl fp => (he s H C cl fp).ex) hs) fun D σ H q => lc_rd hI q
theorem jset_lc2 {i : Nat} {y : Str} {py p spos : Pos} {elt tg iter tg1 iter1 : Expr} {ifs ifs1 : List Expr} {scope : Scope} {own : List (Str × Nat)} {vs1 : List Nat} {f f1 : As} {its its1 : Itd'} {b b1 : Bd} {I I1 : List Nat} {t t1 : Tx} {e : Ex} {fr1 : Bool} (hc : X.calm = true) (hN : X.N.Nodup) (hy : X.N[i]? = some y) (hyl : X.env.scope.names.lookup y = some .local)
    (hsw : swapsWith (.ListComp elt [⟨tg, iter, ifs, 0⟩, ⟨tg1, iter1, ifs1, 0⟩] scope p) (some (.Name y py)) spos.line X.env = pure true) (hi : JI X cA W fr tg iter f its) (ok : BlkOk X.N X.env.scope scope own) (hv : ∀ i ∈ vs1, i ∈ own.map (·.2))
    (hg : ∀ (H1 : Hp) (s : Shared) (H : Hp) (C : Addr) (cl : List (Str × Addr)) (fp : List Addr), JG (X.blk s H scope (compEnvC scope cl C X.env) fp) imm (E2 X.K H1) tg b I) (hI : ∀ i ∈ I, i ∈ own.map (·.2))
    (ht : ∀ (s : Shared) (H : Hp) (C : Addr) (cl : List (Str × Addr)) (fp : List Addr), JTs (X.blk s H scope (compEnvC scope cl C X.env) fp) cA WF ifs t)
    (hi1 : ∀ (s : Shared) (H : Hp) (C : Addr) (cl : List (Str × Addr)) (fp : List Addr), JI (X.blk s H scope (compEnvC scope cl C X.env) fp) cA WF fr1 tg1 iter1 f1 its1)
    (hg1 : ∀ (s : Shared) (H : Hp) (C : Addr) (cl : List (Str × Addr)) (fp : List Addr), JG (X.blk s H scope (compEnvC scope cl C X.env) fp) anyD (EOk X.K) tg1 b1 I1) (hI1 : ∀ i ∈ I1, i ∈ vs1)
    (ht1 : ∀ (s : Shared) (H : Hp) (C : Addr) (cl : List (Str × Addr)) (fp : List Addr), JTs (X.blk s H scope (compEnvC scope cl C X.env) fp) cA WF ifs1 t1)
    (he : ∀ (s : Shared) (H : Hp) (C : Addr) (cl : List (Str × Addr)) (fp : List Addr), JE (X.blk s H scope (compEnvC scope cl C X.env) fp) cA WF fr' elt e) (hs : ∀ x, foldedSetIterable iter X.env x = pure x) (hs1 : ∀ env x, foldedSetIterable iter1 env x = pure x) :
    JSetE X cA W true (.Assign [.Name y py] (.ListComp elt [⟨tg, iter, ifs, 0⟩, ⟨tg1, iter1, ifs1, 0⟩] scope p) spos) i (sLc2 f its (own.map (·.2)) b t f1 its1 fr1 vs1 b1 t1 e) := fun ρ =>
  psI (ps_setLc2 (g := fun v σ H Q => ∃ H1, tG X.K imm (E2 X.K H1) b I v σ H Q) (tt := exT (tDT X.K cA WF t)) (wi1 := exI (tI X.K cA WF fr1 f1 its1)) (g1 := tG X.K anyD (EOk X.K) b1 I1) (tt1 := exT (tDT X.K cA WF t1)) (te := exE (tD X.K cA WF fr' e)) hc hN hy hyl hsw (hi ρ) ok hv (fun s H C cl fp => ⟨fun pins s' σ H v u Q I1 r ⟨H1, q⟩ => (hg H1 s _ C cl fp).run pins s' σ H v u Q I1 r q⟩) (fun s H C cl fp => (ht s H C cl fp).ex) (fun s H C cl fp => (hi1 s H C cl fp).ex) (fun s H C cl fp => hg1 s H C cl fp) (fun s H C cl fp => (ht1 s H C cl fp).ex) (fun s H C cl fp => (he s H C cl fp).ex) hs hs1) fun D σ H q => lc2_rd hI hI1 q
end

/-! ### which parallel stores make no tuple -/
def isStar : Expr → Bool
  | .Starred .. => true
  | _ => false
def nameLoc (sc : Scope) (line : Nat) : Expr → Option Str
  | .Name id pos => if sc.names.lookup id == some .local && pos.line == line then some id else none
  | _ => none
/-- swappedStores, by the scope alone -/
def swapB (sc : Scope) (ts vs : List Expr) : Option (Option (List Str)) :=
  if !(ts.length == 2 || ts.length == 3) || vs.length != ts.length then some none
  else if vs.any isStar then some none
  else
    let names := ts.filterMap (nameLoc sc ((ts.head?.map (·.pos.line)).getD 0))
    if names.length != ts.length || names.eraseDups.length != names.length then some none
    else if vs.all (foldedForSure 8) then some none
    else if vs.all (constantsAlone 8) then none
    else some (some names)
theorem swapB_ok {env : Env} {ts vs : List Expr} {k k2 : Nat} {p p2 : Pos} {r : Option (List Str)} (hk : env.scope.kind = .function) (h : swapB env.scope ts vs = some r) : swappedStores [.Tuple ts k p] (.Tuple vs k2 p2) env = pure r := by
  have hb : (env.blockKind != .function) = false := by
    have : env.blockKind = .function := by unfold Env.blockKind; rw [hk]; rfl
    rw [this]; rfl
  have hst : (fun (e : Expr) => match e with | .Starred .. => true | _ => false) = isStar := by
    funext e; cases e <;> rfl
  have hnm : ∀ line : Nat, (fun (e : Expr) => match e with
      | .Name id pos => if (env.kindOf id == some NameKind.local && pos.line == line) = true then some id else none
      | _ => none) = nameLoc env.scope line := fun line => by
    funext e; cases e <;> rfl
  unfold swappedStores
  unfold swapB at h
  show (if (!(ts.length == 2 || ts.length == 3) || vs.length != ts.length || env.blockKind != .function) = true then pure none else
    if (vs.any isStar) = true then pure none else
      if ((ts.filterMap (nameLoc env.scope ((ts.head?.map (·.pos.line)).getD 0))).length != ts.length || (ts.filterMap (nameLoc env.scope ((ts.head?.map (·.pos.line)).getD 0))).eraseDups.length != (ts.filterMap (nameLoc env.scope ((ts.head?.map (·.pos.line)).getD 0))).length) = true then pure none else
        if (vs.all (foldedForSure 8)) = true then pure none else
          if (vs.all (constantsAlone 8)) = true then (do let _ ← (unsupported "assign.tuple-of-constant-expressions:order-of-the-stores" : Sem PUnit); pure (some (ts.filterMap (nameLoc env.scope ((ts.head?.map (·.pos.line)).getD 0))))) else pure (some (ts.filterMap (nameLoc env.scope ((ts.head?.map (·.pos.line)).getD 0)))) : Sem (Option (List Str))) = pure r
  rw [hb, Bool.or_false]
  split at h
  · rename_i c; rw [if_pos c]; cases h; rfl
  · rename_i c; rw [if_neg c]
    split at h
    · rename_i c; rw [if_pos c]; cases h; rfl
    · rename_i c; rw [if_neg c]
      dsimp only at h
      split at h
      · rename_i c; rw [if_pos c]; cases h; rfl
      · rename_i c; rw [if_neg c]
        split at h
        · rename_i c; rw [if_pos c]; cases h; rfl
        · rename_i c; rw [if_neg c]
          split at h
          · cases h
          · rename_i c; rw [if_neg c]; cases h; rfl
end Py

set_option Elab.async false
set_option linter.all false
set_option maxRecDepth 100000
set_option maxHeartbeats 4000000
/-! Own layer: sorted of ints (lists and tuples), ranges laid out, enumerate, zip. -/
namespace Py
open PySem PySem.Spec L2
open PyProof.Rows hiding St

/-! ### sorted -/
def insI (x : Int) : List Int → List Int
  | [] => [x]
  | y :: ys => if x ≤ y then x :: y :: ys else y :: insI x ys
def sortI : List Int → List Int
  | [] => []
  | x :: xs => insI x (sortI xs)
theorem insI_perm (x : Int) : ∀ ys, (insI x ys).Perm (x :: ys)
  | [] => .refl _
  | y :: ys => by
    unfold insI
    split
    · exact .refl _
    · exact (List.Perm.cons y (insI_perm x ys)).trans (List.Perm.swap x y ys)
theorem sortI_perm : ∀ xs, (sortI xs).Perm xs
  | [] => .refl _
  | x :: xs => (insI_perm x _).trans (List.Perm.cons x (sortI_perm xs))
theorem insI_sorted (x : Int) : ∀ ys : List Int, ys.Pairwise (· ≤ ·) → (insI x ys).Pairwise (· ≤ ·)
  | [], _ => by simp [insI]
  | y :: ys, h => by
    obtain ⟨h1, h2⟩ := List.pairwise_cons.mp h
    unfold insI
    split
    · rename_i hx
      refine List.pairwise_cons.mpr ⟨fun z hz => ?_, h⟩
      rcases List.mem_cons.mp hz with rfl | hz
      · exact hx
      · have := h1 z hz; omega
    · rename_i hx
      refine List.pairwise_cons.mpr ⟨fun z hz => ?_, insI_sorted x ys h2⟩
      rcases List.mem_cons.mp ((insI_perm x ys).mem_iff.mp hz) with rfl | hz
      · omega
      · exact h1 z hz
theorem sortI_sorted : ∀ xs, (sortI xs).Pairwise (· ≤ ·)
  | [] => List.Pairwise.nil
  | x :: xs => insI_sorted x _ (sortI_sorted xs)
theorem sorted_eq : ∀ {xs ys : List Int}, xs.Perm ys → xs.Pairwise (· ≤ ·) → ys.Pairwise (· ≤ ·) → xs = ys
  | [], ys, p, _, _ => by rw [List.nil_perm.mp p]
  | x :: xs, [], p, _, _ => absurd p.length_eq (by simp)
  | x :: xs, y :: ys, p, h1, h2 => by
    obtain ⟨a1, a2⟩ := List.pairwise_cons.mp h1
    obtain ⟨b1, b2⟩ := List.pairwise_cons.mp h2
    have e : x = y := by
      have hx : x ∈ y :: ys := p.mem_iff.mp (by simp)
      have hy : y ∈ x :: xs := p.mem_iff.mpr (by simp)
      rcases List.mem_cons.mp hx with h | h
      · exact h
      · rcases List.mem_cons.mp hy with h' | h'
        · exact h'.symm
        · have := b1 x h; have := a1 y h'; omega
    subst e
    rw [sorted_eq (List.Perm.cons_inv p) a2 b2]
theorem sortI_uniq {xs ys : List Int} (p : ys.Perm xs) (h : ys.Pairwise (· ≤ ·)) : ys = sortI xs := sorted_eq (p.trans (sortI_perm xs).symm) h (sortI_sorted xs)
/-- sorted of what is laid out in a row: the ints of a list or a tuple -/
theorem sorted_row {prog : Program} {w : World} {A : Around} {E : Value → Shared → Prop} {s : Shared} {a : Addr} {T : String} {ob : Obj} {us : List Value} {m : Nat} {is : List Int} {Q : Value → Shared → Prop} (hT : T = "list" ∨ T = "tuple")
    (h1 : s.heap.get? a = some ob) (h2 : ob.cls = .type T) (h3 : ob.data = .seq us.toArray m) (hn : us.length ≤ sizeLine) (hi : IntsAre us is)
    (hq : ∀ (g g2 : Heap) (vs : List Value), IntsAre vs (sortI is) → (∀ b o, s.heap.get? b = some o → g.get? b = some o) → (∀ b o, g.get? b = some o → g2.get? b = some o) → (∃ e, g2.get? g.objs.size = some (seqObj "list" vs.toArray e)) → Q (.ref g.objs.size) { s with heap := g2 }) :
    wpAny (model prog w) A (call (.builtin "sorted") [.ref a]) Q E s := by
  refine Calls.call_function_entry kind_sorted plain_sorted entry_sorted (args_sorted1 _) ?_; unfold Builtin.«sorted»; refine wpAny_bind (m := checkCount "sorted" 1 1 _) (wpAny_pure ?_)
  refine wpAny_bind (wpAny_collect_seq a hT h1 h2 h3 (fun g kp => ?_) (by rw [List.size_toArray]; exact hn))
  rw [List.toList_toArray]
  refine wpAny_bind (wpAny_newList ?_ hn)
  have at1 : (g.push (seqObj "list" us.toArray 0)).get? g.objs.size = some (seqObj "list" us.toArray 0) := Heap.get?_push_size _ rfl
  show wpAny _ _ _ _ _ { s with heap := g.push (seqObj "list" us.toArray 0) }
  refine wpAny_bind (wpAny_holding (wpAny_call_entry slot_list_sort ⟨_, at1, rfl⟩ entry_list_sort (SrtO.list_sort_ord SrtO.swo_int at1 hn (fun two => SrtO.ints_sortable hi two) fun vs o1 o2 => ⟨_, rfl, ?_⟩) (args_list_sort _)))
  refine wpAny_pure ⟨_, rfl, ?_⟩
  obtain ⟨k1, k2, k3⟩ := SrtO.ints_out hi o1 o2
  rw [sortI_uniq k2 k3] at k1
  exact hq g _ vs k1 kp (fun b o e => (sortedHeap_old (Nat.ne_of_lt (Heap.lt_size e)) (by rw [size_push']; exact Nat.lt_succ_of_lt (Heap.lt_size e))).trans (Heap.get?_push_of_some _ e)) (sortedHeap_at at1)
def sortedD : List D → Option D
  | [.list ds] => (intsOf ds).map fun ns => .list ((sortI ns).map .int)
  | [.tuple ds] => (intsOf ds).map fun ns => .list ((sortI ns).map .int)
  | _ => none
theorem RepAll.intsR {K : PySem.W.Frag} {H : Hp} : ∀ (ns : List Int), RepAll K H (ns.map V.int) (ns.map PyData.int)
  | [] => .nil
  | n :: ns => .cons (.int n) (RepAll.intsR ns)
section
variable {X : Cx}
theorem cd_sorted : CallD X (.builtin "sorted") true sortedD := by
  intro pins s σ H vs us Q I r h
  obtain ⟨ds, rr, q⟩ := h
  have key : ∀ (a : Addr) (T : String) (ob : Obj) (its : List Value) (m : Nat) (ns : List Int), vs = [.ref a] → (T = "list" ∨ T = "tuple") → s.heap.get? a = some ob → ob.cls = .type T → ob.data = .seq its.toArray m → Vals (ns.map V.int) its → (ns.map V.int).length ≤ sizeLine → PostO X.K H true (some (.list ((sortI ns).map .int))) Q → wpAny (model X.prog X.w) X.A (call (.builtin "sorted") us) (EP X pins σ Q) X.xe s := by
    intro a T ob its m ns ev hT h1 h2 h3 rv hz qq
    subst ev
    obtain ⟨u, rfl, ru⟩ := vals1 r
    cases ru
    refine sorted_row hT h1 h2 h3 (by rw [← rv.length]; exact hz) rv.ints fun g g2 ws hw kp kp2 at2 => ?_
    obtain ⟨e, at2⟩ := at2
    have I1 : Inv X pins σ H { s with heap := g } := I.kept (t' := s.toks) kp
    have hl : ((sortI ns).map V.int).length ≤ sizeLine := by
      rw [List.length_map] at hz ⊢
      rw [(sortI_perm ns).length_eq]; exact hz
    exact ⟨.ref g.objs.size, upd H g.objs.size (.lst ((sortI ns).map V.int)), I1.laid (t' := s.toks) kp2 (Nat.le_refl _) ⟨hl, ws, e, vals_of_ints hw, at2⟩, rfl, PostO.newL qq (RepAll.intsR _) _ (I1.hok.fresh (Nat.le_refl _))⟩
  unfold sortedD at q
  split at q
  · rename_i ds
    obtain ⟨v, rfl, r1⟩ : ∃ v, vs = [v] ∧ Rep X.K H v (.list ds) := by
      cases rr with
      | cons a b => cases b; exact ⟨_, rfl, a⟩
    cases e : intsOf ds with
    | none => rw [e] at q; exact q.elim
    | some ns =>
      rw [e] at q
      have ed := intsOf_eq e
      subst ed
      cases r1 with
      | lst h1 r1 =>
        have ex := r1.intsV
        subst ex
        obtain ⟨its, rv, pl, hz⟩ := I.list (.inl h1)
        obtain ⟨o, ho, hc, n, hd⟩ := pl.isList
        exact key _ _ o its n ns rfl (.inl rfl) ho hc hd rv hz q
  · rename_i ds
    obtain ⟨v, rfl, r1⟩ : ∃ v, vs = [v] ∧ Rep X.K H v (.tuple ds) := by
      cases rr with
      | cons a b => cases b; exact ⟨_, rfl, a⟩
    cases e : intsOf ds with
    | none => rw [e] at q; exact q.elim
    | some ns =>
      rw [e] at q
      have ed := intsOf_eq e
      subst ed
      cases r1 with
      | tup h1 r1 =>
        have ex := r1.intsV
        subst ex
        obtain ⟨its, rv, pl, hz⟩ := I.tuple (sqT_of h1)
        obtain ⟨o, ho, hc, n, hd⟩ := pl
        exact key _ _ o its n ns rfl (.inr rfl) ho hc hd rv hz q
  · exact q.elim


/-! ### list(range(..)), tuple(range(..)) -/
def rgD (t : Bool) : D → Option D
  | .int j => if -(2 ^ 62) ≤ j ∧ j < 2 ^ 62 ∧ j.toNat ≤ 2 ^ 24 then some (if t = true then .tuple (upFrom 0 j.toNat) else .list (upFrom 0 j.toNat)) else none
  | _ => none
theorem RepAll.rg {K : PySem.W.Frag} {H : Hp} {a b : Int} : RepAll K H (rgV a b) (upFrom a (b - a).toNat) := by
  unfold rgV upFrom
  generalize List.range (b - a).toNat = l
  induction l with
  | nil => exact .nil
  | cons x l ih => exact .cons (.int _) ih
variable {cA : Nat → Addr} {W : WX} {fr fr' : Bool} {a : Expr} {fa : Ex} {p p2 p3 pos : Pos}
theorem je_listRg (hc : X.calm = true) (hg : Gl X "list") (hm : X.mg "list" = none) (hgr : Gl X "range") (hmr : X.mg "range" = none) (ha : JE X cA W fr' a fa) (n : nostar a = true) :
    JE X cA W true (.Call (.Name "list" p) [.Call (.Name "range" p2) [a] [] p3] [] pos) (sUn (rgD false) fa) := fun ρ =>
  peI (pe_listRg hc hg hm (prg_1 hgr hmr (ha ρ) (starEach_cons n)) rfl) fun σ H Q q => ⟨q.1, Post.bind q.2 fun d v H1 s1 r1 p1 => by
    have p1 := p1.ofO
    cases r1 with
    | int j =>
      simp only [rgD] at p1
      split at p1
      · rename_i hb
        refine ⟨j, rfl, ⟨by omega, by omega, hb.1, hb.2.1, by rw [Int.sub_zero]; exact hb.2.2⟩, fun z nz => ?_⟩
        rw [if_neg (by simp)] at p1
        have rr := RepAll.rg (K := X.K) (H := H1) (a := 0) (b := j)
        rw [Int.sub_zero] at rr
        exact p1.newL rr z nz
      · exact p1.elim
    | _ => exact p1.elim⟩
theorem je_tupRg (hc : X.calm = true) (hg : Gl X "tuple") (hm : X.mg "tuple" = none) (hgr : Gl X "range") (hmr : X.mg "range" = none) (ha : JE X cA W fr' a fa) (n : nostar a = true) :
    JE X cA W true (.Call (.Name "tuple" p) [.Call (.Name "range" p2) [a] [] p3] [] pos) (sUn (rgD true) fa) := fun ρ =>
  peI (pe_tupRg hc hg hm (prg_1 hgr hmr (ha ρ) (starEach_cons n)) rfl) fun σ H Q q => ⟨q.1, Post.bind q.2 fun d v H1 s1 r1 p1 => by
    have p1 := p1.ofO
    cases r1 with
    | int j =>
      simp only [rgD] at p1
      split at p1
      · rename_i hb
        refine ⟨j, rfl, ⟨by omega, by omega, hb.1, hb.2.1, by rw [Int.sub_zero]; exact hb.2.2⟩, fun z nz => ?_⟩
        rw [if_pos trivial] at p1
        have rr := RepAll.rg (K := X.K) (H := H1) (a := 0) (b := j)
        rw [Int.sub_zero] at rr
        exact p1.newT rr z nz
      · exact p1.elim
    | _ => exact p1.elim⟩

/-! ### enumerate -/
def enumF (k : Nat) : List D → List D
  | [] => []
  | d :: ds => .tuple [.int (k : Int), d] :: enumF (k + 1) ds
theorem enumF_get : ∀ (ds : List D) (k i : Nat), (enumF k ds)[i]? = (ds[i]?).map fun d => .tuple [.int ((k + i : Nat) : Int), d]
  | [], k, i => by simp [enumF]
  | d :: ds, k, 0 => by simp [enumF]
  | d :: ds, k, i + 1 => by
    rw [enumF, List.getElem?_cons_succ, List.getElem?_cons_succ, enumF_get ds (k + 1) i]
    congr 2
    funext d
    congr 4
    omega
theorem enumF_length : ∀ (ds : List D) (k : Nat), (enumF k ds).length = ds.length
  | [], _ => rfl
  | d :: ds, k => by simp [enumF, enumF_length ds]
def iEnumD : Itd'
  | [.list ds] => some (enumF 0 ds)
  | _ => none
theorem walks_enum {K : PySem.W.Frag} {G : Hp} {a : Addr} {xs : List V} {ds : List D} (h : Rd G a (.lst xs)) (r : RepAll K G xs ds) : Walks' K (Ite K a) G (enumF 0 ds) := fun i H s =>
  ⟨fun d e => by
    rw [enumF_get] at e
    cases e0 : ds[i]? with
    | none => rw [e0] at e; cases e
    | some d0 =>
      rw [e0] at e
      cases e
      obtain ⟨v, e1, r1⟩ := r.getD e0
      refine ⟨⟨xs, v, .inl (Same.rd s h), e1⟩, fun x H' y => ?_⟩
      obtain ⟨T, x', rfl, nT, rfl, y⟩ := y
      have e3 := y xs (.inl (Same.rd s h))
      rw [e1] at e3
      cases e3
      refine ⟨same_upd nT, .tup upd_same (.cons ?_ (.cons ((r1.same s).same (same_upd nT)) .nil))⟩
      rw [Nat.zero_add]
      exact .int _, fun z => ⟨xs, .inl (Same.rd s h), by rw [r.length]; rw [enumF_length] at z; exact z⟩⟩
theorem ji_enum {e : Expr} {f : Ex} {elts : List Expr} {kk : Nat} {tpos : Pos} (hg : Gl X "enumerate") (hm : X.mg "enumerate" = none) (h : JE X cA W fr' e f) (n : nostar e = true) :
    JI X cA W false (.Tuple elts kk tpos) (.Call (.Name "enumerate" p) [e] [] pos) (one f) iEnumD := fun ρ => by
  refine piI (pi_enum hg hm ((JAll.cons h n .nil).pa ρ) (starEach_cons n)) fun σ H R q => ⟨q.1, ?_⟩
  have p := q.2
  unfold one at p
  have ev : evalL [f] ρ = (f ρ).bind fun d => .ok [d] := by
    show (f ρ).bind _ = _
    cases f ρ <;> rfl
  rw [ev]
  cases e1 : f ρ with
  | bad => rw [e1] at p; exact p.elim
  | exc c => rw [e1] at p; exact p
  | ok d =>
    rw [e1, Res.bind_ok] at p
    intro vs H1 s1 r1
    cases r1 with
    | cons r2 r3 =>
      cases r3
      cases r2 with
      | lst h1 rr =>
        refine ⟨_, _, rfl, .inl h1, p _ _ H1 s1 (.cons (.lst h1 rr) .nil) (fun z => by cases z) fun G sG rG => ?_⟩
        cases rG with
        | cons r1 r2 =>
          cases r1 with
          | lst h2 r2 => exact walks_enum h2 r2
      | _ => exact p.elim

/-! ### zip -/
def zipD : List D → List D → List D
  | d :: ds, e :: es => .tuple [d, e] :: zipD ds es
  | _, _ => []
theorem zipD_get : ∀ (ds es : List D) (i : Nat) (d : D), (zipD ds es)[i]? = some d → ∃ x y, ds[i]? = some x ∧ es[i]? = some y ∧ d = .tuple [x, y]
  | [], _, i, d, h => by simp [zipD] at h
  | _ :: _, [], i, d, h => by simp [zipD] at h
  | x :: ds, y :: es, 0, d, h => by simp [zipD] at h; exact ⟨x, y, rfl, rfl, h.symm⟩
  | x :: ds, y :: es, i + 1, d, h => by
    rw [zipD, List.getElem?_cons_succ] at h
    exact zipD_get ds es i d h
theorem zipD_stop : ∀ (ds es : List D) (i : Nat), (zipD ds es).length ≤ i → ds.length ≤ i ∨ es.length ≤ i
  | [], _, i, h => .inl (by simp)
  | _ :: _, [], i, h => .inr (by simp)
  | x :: ds, y :: es, 0, h => by simp [zipD] at h
  | x :: ds, y :: es, i + 1, h => by
    rw [zipD, List.length_cons] at h
    have := zipD_stop ds es i (by omega)
    simp only [List.length_cons]
    omega
def iZipD : Itd'
  | [.list ds, .list es] => some (zipD ds es)
  | [.tuple ds, .tuple es] => some (zipD ds es)
  | _ => none
theorem walks_zip {K : PySem.W.Frag} {G : Hp} {a b : Addr} {xs ys : List V} {ds es : List D} (h : Rd G a (.lst xs)) (r : RepAll K G xs ds) (h' : Rd G b (.lst ys)) (r' : RepAll K G ys es) : Walks' K (Itz K a b) G (zipD ds es) := fun i H s =>
  ⟨fun d e => by
    obtain ⟨d1, d2, g1, g2, rfl⟩ := zipD_get ds es i d e
    obtain ⟨v, e1, r1⟩ := r.getD g1
    obtain ⟨v', e1', r1'⟩ := r'.getD g2
    refine ⟨⟨xs, ys, v, v', .inl (Same.rd s h), .inl (Same.rd s h'), e1, e1'⟩, fun x H' y => ?_⟩
    obtain ⟨T, x1, x2, rfl, nT, rfl, y1, y2⟩ := y
    have e3 := y1 xs (.inl (Same.rd s h))
    have e4 := y2 ys (.inl (Same.rd s h'))
    rw [e1] at e3
    rw [e1'] at e4
    cases e3
    cases e4
    exact ⟨same_upd nT, .tup upd_same (.cons ((r1.same s).same (same_upd nT)) (.cons ((r1'.same s).same (same_upd nT)) .nil))⟩,
  fun z => ⟨xs, ys, .inl (Same.rd s h), .inl (Same.rd s h'), by rw [r.length, r'.length]; exact zipD_stop ds es i z⟩⟩
theorem walks_zipT {K : PySem.W.Frag} {G : Hp} {a b : Addr} {xs ys : List V} {ds es : List D} (h : SqT K G a xs) (r : RepAll K G xs ds) (h' : SqT K G b ys) (r' : RepAll K G ys es) : Walks' K (RZ.ItzT K a b) G (zipD ds es) := fun i H s =>
  ⟨fun d e => by
    obtain ⟨d1, d2, g1, g2, rfl⟩ := zipD_get ds es i d e
    obtain ⟨v, e1, r1⟩ := r.getD g1
    obtain ⟨v', e1', r1'⟩ := r'.getD g2
    refine ⟨⟨xs, ys, v, v', Same.sqT s h, Same.sqT s h', e1, e1'⟩, fun x H' y => ?_⟩
    obtain ⟨T, x1, x2, rfl, nT, rfl, y1, y2⟩ := y
    have e3 := y1 xs (Same.sqT s h)
    have e4 := y2 ys (Same.sqT s h')
    rw [e1] at e3
    rw [e1'] at e4
    cases e3
    cases e4
    exact ⟨same_upd nT, .tup upd_same (.cons ((r1.same s).same (same_upd nT)) (.cons ((r1'.same s).same (same_upd nT)) .nil))⟩,
  fun z => ⟨xs, ys, Same.sqT s h, Same.sqT s h', by rw [r.length, r'.length]; exact zipD_stop ds es i z⟩⟩
theorem ji_zip {e e2 : Expr} {f g : Ex} {elts : List Expr} {kk : Nat} {tpos : Pos} (hg : Gl X "zip") (hm : X.mg "zip" = none) (h : JAll X cA W [e, e2] [f, g]) :
    JI X cA W false (.Tuple elts kk tpos) (.Call (.Name "zip" p) [e, e2] [] pos) (evalL [f, g]) iZipD := fun ρ => by
  have hs : starEach [e, e2] X.env = (false, eval e X.env) :: starEach [e2] X.env ∧ (backTo pos (starEach [e2] X.env)).any (·.1) = false := by
    cases h with
    | cons _ n r => exact ⟨starEach_cons n, r.nostars⟩
  refine piI (RZ.pi_zipA hg hm (h.pa ρ) hs.1 hs.2) fun σ H R q => ⟨q.1, ?_⟩
  have p := q.2
  cases e1 : evalL [f, g] ρ with
  | bad => rw [e1] at p; exact p.elim
  | exc c => rw [e1] at p; exact p
  | ok ds =>
    rw [e1] at p
    intro vs H1 s1 r1
    have l := evalL_length e1
    match ds, vs, r1, l with
    | [d1, d2], _, .cons r2 (.cons r3 .nil), _ =>
      cases r2 with
      | lst h1 rr =>
        cases r3 with
        | lst h1' rr' =>
          refine ⟨_, _, _, _, rfl, .inl ⟨.inl h1, .inl h1', p _ _ H1 s1 (.cons (.lst h1 rr) (.cons (.lst h1' rr') .nil)) (fun z => by cases z) fun G sG rG => ?_⟩⟩
          match rG with
          | .cons (.lst h2 r2) (.cons (.lst h3 r3) .nil) => exact walks_zip h2 r2 h3 r3
        | _ => exact p.elim
      | tup h1 rr =>
        cases r3 with
        | tup h1' rr' =>
          refine ⟨_, _, _, _, rfl, .inr ⟨sqT_of h1, sqT_of h1', p _ _ H1 s1 (.cons (.tup h1 rr) (.cons (.tup h1' rr') .nil)) (fun z => by cases z) fun G sG rG => ?_⟩⟩
          match rG with
          | .cons (.tup h2 r2) (.cons (.tup h3 r3) .nil) => exact walks_zipT (sqT_of h2) r2 (sqT_of h3) r3
        | _ => exact p.elim
      | _ => cases r3 <;> exact p.elim
end
end Py

set_option Elab.async false
set_option linter.all false
set_option maxRecDepth 100000
set_option maxHeartbeats 4000000
/-! Own layer: enumerate of a tuple, sum of a tuple, a tuple times one. -/
namespace Py
open PySem PySem.Spec L2
open PyProof.Rows hiding St
open AutoSeq1 (wpAny_loadPart')

/-! ### enumerate of a tuple -/
theorem drawsT {P : Program} {w : World} {A : Around} (q0 : A.handled = none) (c t : Addr) (ne : t ≠ c) (us : Array Value) :
    Draws P w A c [c, t] us.size (fun k v => us[k]? = some v) (fun k g => g.IsTupleIter c t k ∧ g.IsTuple t us) where
  live := fun _ _ z => let ⟨o, e, _⟩ := z.1; ⟨o, e⟩
  frame := fun _ _ _ z y => ⟨z.1.at fun o e => y c (by simp) o e, z.2.at fun o e => y t (by simp) o e⟩
  item := fun k s Q E lt z y => by
    refine RZ.nextOf_tuple_item z.1 z.2 (x := us[k]) (by simp [lt]) fun g i1 i2 => ?_
    exact y _ g s.toks (by simp [lt]) ⟨i1, z.2.extBut i2.extBut ne⟩ i2
  done := fun s Q E z y => RZ.nextOf_tuple_end q0 z.1 z.2 (by simp) y
theorem drawsE {P : Program} {w : World} {A : Around} (q0 : A.handled = none) (c t : Addr) (us : Array Value) (m : Nat) (e : us[m]? = none) :
    Draws P w A c [c, t] m (fun _ _ => False) (fun k g => k = m ∧ g.IsTupleIter c t m ∧ g.IsTuple t us) where
  live := fun _ _ z => let ⟨o, e, _⟩ := z.2.1; ⟨o, e⟩
  frame := fun _ _ _ z y => ⟨z.1, z.2.1.at fun o e => y c (by simp) o e, z.2.2.at fun o e => y t (by simp) o e⟩
  item := fun k s Q E lt z y => absurd z.1 (Nat.ne_of_lt lt)
  done := fun s Q E z y => RZ.nextOf_tuple_end q0 z.2.1 z.2.2 e y
theorem enum_newT (t : Addr) (us : Array Value) (m : Nat) (dc : Option Addr) (ss : Array (Option Value)) :
    Meets (Builtin.«enumerate.__new__» ⟨[.type "enumerate", .ref t], []⟩) (fun _ R s => s.heap.get? t = some { cls := .type "tuple", dict := dc, data := .seq us m, slots := ss } ∧
      R (.ok (.ret (.ref (s.heap.push { cls := .type "tuple_iterator", data := .fields #[.ref t, .int 0 0] }).objs.size)))
        { s with heap := (s.heap.push { cls := .type "tuple_iterator", data := .fields #[.ref t, .int 0 0] }).push { cls := .type "enumerate", data := .fields #[.none, .bool false, .ref s.heap.objs.size, rawInt 0, .none, .none] } }) :=
  .of_wp fun prog w A R s z => by
    obtain ⟨g0, g1, g2, g3, g4⟩ := s; obtain ⟨zt, z⟩ := z
    have sb := sub_enumerate
    have zT : Heap.IsTuple (Shared.heap ⟨g0, g1, g2, g3, g4⟩) t us := ⟨_, zt, rfl, m, rfl⟩
    wp_walk using wpAny_loadPart' zt
    refine wpAny_stack_any fun f => wpAny_pure ?_
    split
    · rename_i c _ _ _ _ _
      cases (c == Value.type "enumerate")
      · wp_walk using wpAny_loadPart' zt, wpAny_pyIter_tuple zT
        exact ⟨_, rfl, z⟩
      · wp_walk using wpAny_loadPart' zt, wpAny_pyIter_tuple zT
        exact ⟨_, rfl, z⟩
    · wp_walk using wpAny_loadPart' zt, wpAny_pyIter_tuple zT
      exact ⟨_, rfl, z⟩
section
variable {P : Program} {w : World} {A : Around} {E : Value → Shared → Prop} {s : Shared}
theorem call_enumT {t : Addr} {us : Array Value} {Q : Value → Shared → Prop} (zT : s.heap.IsTuple t us)
    (y : ∀ g, IsEnum g (s.heap.objs.size + 1) s.heap.objs.size 0 .none → g.IsTupleIter s.heap.objs.size t 0 → g.objs.size = s.heap.objs.size + 2 → (∀ b o, s.heap.get? b = some o → g.get? b = some o) → Q (.ref (s.heap.objs.size + 1)) { s with heap := g }) :
    wpAny (model P w) A (call (.type "enumerate") [.ref t]) Q E s := by
  obtain ⟨⟨c, dc, dt, ss⟩, e1, e2, m, e3⟩ := zT
  have e2 : c = .type "tuple" := e2
  have e3 : dt = .seq us m := e3
  subst e2 e3
  refine callType_new F.called_enumerate (by decide) (F.typeCall_enumerate_1 _) (F.newCall_enumerate_1 _) (fun z => F.args_object_init_2 z _) F.entry_enumerate_new (enum_newT t us m dc ss) ⟨e1, ?_⟩
  have sz : (s.heap.push { cls := .type "tuple_iterator", data := .fields #[.ref t, .int 0 0] }).objs.size = s.heap.objs.size + 1 := Heap.size_push ..
  show _ ∧ _
  rw [sz]
  have at1 := Heap.get?_push_size (s.heap.push { cls := .type "tuple_iterator", data := .fields #[.ref t, .int 0 0] }) (o := { cls := .type "enumerate", data := .fields #[.none, .bool false, .ref s.heap.objs.size, rawInt 0, .none, .none] }) rfl
  rw [sz] at at1
  exact ⟨⟨_, at1, rfl⟩, y _ at1 ⟨_, Heap.get?_push_of_some _ (Heap.get?_push_size _ rfl), rfl, rfl⟩ (by rw [Heap.size_push, sz]) fun b o z => Heap.get?_push_of_some _ (Heap.get?_push_of_some _ z)⟩
end
def IteT (K : PySem.W.Frag) (a : Addr) : It :=
  ⟨fun k H => ∃ (xs : List V) (x : V), SqT K H a xs ∧ xs[k]? = some x, fun k H v H' => ∃ T x, v = .ref T ∧ H T = none ∧ H' = upd H T (.tup [.int (k : Nat), x]) ∧ ∀ xs, SqT K H a xs → xs[k]? = some x, fun k H => ∃ xs : List V, SqT K H a xs ∧ xs.length ≤ k⟩
theorem turnT {P : Program} {w : World} {K : PySem.W.Frag} {es : List Expr} {kk : Nat} {tp : Pos} (a e c : Addr) :
    Turn P w K (.Tuple es kk tp) (IteT K a) [e, c] e (fun k g => (∃ old, IsEnum g e c ((k : Nat) : Int) old) ∧ g.IsTupleIter c a k ∧ e ≠ c) where
  mem := by simp
  obj := fun k g z b hb => by
    obtain ⟨⟨old, z1⟩, ⟨o, o1, o2, o3⟩, _⟩ := z
    rcases (by simpa using hb : b = e ∨ b = c) with y | y
    · rw [y]; exact ⟨_, z1, fun v q => nomatch q⟩
    · rw [y]; exact ⟨o, o1, fun v q => by rw [o3] at q; cases q⟩
  keep := fun k g g' z y => let ⟨⟨old, z1⟩, z2, z3⟩ := z; ⟨⟨old, y e (by simp) _ z1⟩, z2.at fun o q => y c (by simp) o q, z3⟩
  item := by
    intro X x1 x2 x3 x4 k pins s σ H E I fo z go
    subst x1 x2 x3
    obtain ⟨⟨old, z1⟩, z2, z3⟩ := z
    obtain ⟨xs, x, y1, y2⟩ := go
    obtain ⟨us, rv, tp', _⟩ := I.tuple y1
    obtain ⟨u, u1, u2⟩ := rv.get y2
    have le : e < s.heap.objs.size := Heap.lt_size z1
    have lc : c < s.heap.objs.size := by obtain ⟨_, q, _⟩ := z2; exact Heap.lt_size q
    have hk : k < us.toArray.size := by
      have := List.getElem?_eq_some_iff.mp u1
      obtain ⟨hh, _⟩ := this
      simpa using hh
    have nac : a ≠ c := fun q => by
      obtain ⟨o, o1, o2, _⟩ := tp'
      obtain ⟨o', o1', o2', _⟩ := z2
      rw [q, o1'] at o1
      cases o1
      rw [o2'] at o2
      exact absurd (Value.type.inj o2) (by decide)
    have nae : e ≠ a := fun q => by
      obtain ⟨o, o1, o2, _⟩ := tp'
      have z1 : s.heap.get? e = some _ := z1
      rw [q, o1] at z1
      cases z1
      exact absurd (Value.type.inj o2) (by decide)
    refine wpAny_pyNext_enum_itemD (drawsT (A := X.A.in1) (I.ok.hd x4) c a nac us.toArray) z1 ⟨z2, tp'⟩ hk z3 (by simp [z3, nae]) fun x' g tk p1 p2 p3 p4 p5 p6 => ?_
    have ex : x' = u := by
      have p1 : us.toArray[k]? = some x' := p1
      rw [show us.toArray[k]? = some u by simpa using u1] at p1
      exact (Option.some.inj p1).symm
    subst ex
    refine ⟨_, rfl, wpAny_letOwnedTupleGo_enum (s := { s with heap := g, toks := tk + 1 }) p2 fun g2 r1 r2 => ?_⟩
    have at2 : g2.get? s.heap.objs.size = some { cls := .type "tuple", data := .seq #[.int k tk, x'] } := (r2.2 _ (Nat.ne_of_gt le)).trans p4
    have ok2 : ObjOk X.prog X.w (upd H s.heap.objs.size (.tup [.int (k : Nat), x])) g2 s.heap.objs.size (.tup [.int (k : Nat), x]) := ⟨by show 2 ≤ sizeLine; decide, [.int k tk, x'], .cons ⟨_, rfl⟩ (.cons u2 .nil), ⟨_, at2, rfl, _, rfl⟩⟩
    have I1 : Inv X pins σ (upd H s.heap.objs.size (.tup [.int (k : Nat), x])) { s with heap := g2, toks := tk + 1 } :=
      I.turnedNew (ch := [e, c]) (fun b o nb q => (r2.2 b (fun z => nb (by simp [z]))).trans (p6 b o (fun z => nb (by simp [z])) (fun z => nb (by simp [z])) q)) fo (Nat.le_refl _) ok2
    refine ⟨.ref s.heap.objs.size, _, I1, rfl, ⟨_, x, rfl, I.hok.fresh (Nat.le_refl _), rfl, fun l hl => by rw [I.tuple_inj hl y1]; exact y2⟩, ⟨⟨x', ?_⟩, p3.1.at fun o q => (r2.2 c (Ne.symm z3)).trans q, z3⟩, fun b hb => ?_⟩
    · rw [show ((k + 1 : Nat) : Int) = (k : Int) + 1 by omega]; exact r1
    · have lb : b < s.heap.objs.size := by
        rcases (by simpa using hb : b = e ∨ b = c) with y | y
        · rw [y]; exact le
        · rw [y]; exact lc
      rw [upd_ne (Nat.ne_of_lt lb)]
      exact (fo b hb).1
  done := by
    intro X x1 x2 x3 x4 k pins s σ H E I fo z go
    subst x1 x2 x3
    obtain ⟨⟨old, z1⟩, z2, z3⟩ := z
    obtain ⟨xs, y1, y2⟩ := go
    obtain ⟨us, rv, tp', _⟩ := I.tuple y1
    obtain ⟨f0, f1, f2, f3, f4, f5⟩ := fo c (by simp)
    have l1 := rv.length
    exact wpAny_pyNext_enum_endD (drawsE (A := X.A.in1) (I.ok.hd x4) c a us.toArray k (by simp; omega)) z1 ⟨rfl, z2, tp'⟩ fun g eb => ⟨rfl, I.turned (t' := s.toks) (fun b o nb q => eb b o nb q) f0 f1 f3 f4 f5⟩
  self := fun A k s Q E z y => let ⟨⟨_, z1⟩, _⟩ := z; wpAny_pyIter_enum z1 y
section
variable {X : Cx} {cA : Nat → Addr} {W : WX} {fr fr' : Bool} {p pos : Pos}
/-- enumerate(x) of a list or a tuple -/
def iEnumA (K : PySem.W.Frag) (ta : TA) : TI := fun σ H R => ta σ H fun vs H1 => ∃ a xs, vs = [.ref a] ∧ ((SqL K H1 a xs ∧ R (Ite K a) H1) ∨ (SqT K H1 a xs ∧ R (IteT K a) H1))
theorem pi_enumA {e : Expr} {ta : TA} {tp : Pos} {es : List Expr} {kk : Nat} (hg : Gl X "enumerate") (hm : X.mg "enumerate" = none) (ha : PA X [e] ta) (hs : starEach [e] X.env = [(false, eval e X.env)]) :
    PI X (.Tuple es kk tp) (.Call (.Name "enumerate" p) [e] [] pos) (iEnumA X.K ta) := by
  refine ⟨fun pins s σ H R I h => ?_⟩
  refine Call_ (ld_blt I hg hm boot_enumerate (PyProof.Rows.callWith_type1 (thn (ha.run pos pins s σ H _ I h) fun us s1 ⟨vs, H1, I1, r1, q1⟩ => ?_) hs rfl)); obtain ⟨a, xs, ev, q1⟩ := q1
  subst ev
  obtain ⟨u, eu, ru⟩ := vals1 r1
  subst eu
  obtain rfl : u = Value.ref a := ru
  have two : ∀ b, b ∈ [s1.heap.objs.size + 1, s1.heap.objs.size] → FpOk X pins H1 b := fun b hb => by
    have hle : s1.heap.objs.size ≤ b := by
      rcases (by simpa using hb : b = s1.heap.objs.size + 1 ∨ b = s1.heap.objs.size) with z | z
      · rw [z]; exact Nat.le_add_right _ _
      · rw [z]; exact Nat.le_refl _
    exact I1.fpOk hle (I1.hok.fresh hle)
  rcases q1 with ⟨y, q⟩ | ⟨y, q⟩
  · obtain ⟨us, rv, pl, _⟩ := I1.list y
    refine call_enumerate_list pl.isList fun g e1 e2 _ kp => wpAny_pyIter_enum e1 ?_
    exact ⟨s1.heap.objs.size + 1, [s1.heap.objs.size + 1, s1.heap.objs.size], _, _, H1, rfl, I1.kept (t' := s1.toks) kp, turn_enum a (s1.heap.objs.size + 1) s1.heap.objs.size, ⟨⟨.none, e1⟩, e2, Nat.succ_ne_self _⟩, two, q⟩
  · obtain ⟨us, rv, pl, _⟩ := I1.tuple y
    refine call_enumT pl fun g e1 e2 _ kp => wpAny_pyIter_enum e1 ?_
    exact ⟨s1.heap.objs.size + 1, [s1.heap.objs.size + 1, s1.heap.objs.size], _, _, H1, rfl, I1.kept (t' := s1.toks) kp, turnT a (s1.heap.objs.size + 1) s1.heap.objs.size, ⟨⟨.none, e1⟩, e2, Nat.succ_ne_self _⟩, two, q⟩
def iEnumD2 : Itd'
  | [.list ds] => some (enumF 0 ds)
  | [.tuple ds] => some (enumF 0 ds)
  | _ => none
theorem walks_enumT {K : PySem.W.Frag} {G : Hp} {a : Addr} {xs : List V} {ds : List D} (h : SqT K G a xs) (r : RepAll K G xs ds) : Walks' K (IteT K a) G (enumF 0 ds) := fun i H s =>
  ⟨fun d e => by
    rw [enumF_get] at e
    cases e0 : ds[i]? with
    | none => rw [e0] at e; cases e
    | some d0 =>
      rw [e0] at e
      cases e
      obtain ⟨v, e1, r1⟩ := r.getD e0
      refine ⟨⟨xs, v, Same.sqT s h, e1⟩, fun x H' y => ?_⟩
      obtain ⟨T, x', rfl, nT, rfl, y⟩ := y
      have e3 := y xs (Same.sqT s h)
      rw [e1] at e3
      cases e3
      refine ⟨same_upd nT, .tup upd_same (.cons ?_ (.cons ((r1.same s).same (same_upd nT)) .nil))⟩
      rw [Nat.zero_add]
      exact .int _, fun z => ⟨xs, Same.sqT s h, by rw [r.length]; rw [enumF_length] at z; exact z⟩⟩
theorem ji_enum2 {e : Expr} {f : Ex} {elts : List Expr} {kk : Nat} {tpos : Pos} (hg : Gl X "enumerate") (hm : X.mg "enumerate" = none) (h : JE X cA W fr' e f) (n : nostar e = true) :
    JI X cA W false (.Tuple elts kk tpos) (.Call (.Name "enumerate" p) [e] [] pos) (one f) iEnumD2 := fun ρ => by
  refine piI (pi_enumA hg hm ((JAll.cons h n .nil).pa ρ) (starEach_cons n)) fun σ H R q => ⟨q.1, ?_⟩
  have p := q.2
  unfold one at p
  have ev : evalL [f] ρ = (f ρ).bind fun d => .ok [d] := by
    show (f ρ).bind _ = _
    cases f ρ <;> rfl
  rw [ev]
  cases e1 : f ρ with
  | bad => rw [e1] at p; exact p.elim
  | exc c => rw [e1] at p; exact p
  | ok d =>
    rw [e1, Res.bind_ok] at p
    intro vs H1 s1 r1
    cases r1 with
    | cons r2 r3 =>
      cases r3
      cases r2 with
      | lst h1 rr =>
        refine ⟨_, _, rfl, .inl ⟨.inl h1, p _ _ H1 s1 (.cons (.lst h1 rr) .nil) (fun z => by cases z) fun G sG rG => ?_⟩⟩
        match rG with
        | .cons (.lst h2 r2) .nil => exact walks_enum h2 r2
      | tup h1 rr =>
        refine ⟨_, _, rfl, .inr ⟨sqT_of h1, p _ _ H1 s1 (.cons (.tup h1 rr) .nil) (fun z => by cases z) fun G sG rG => ?_⟩⟩
        match rG with
        | .cons (.tup h2 r2) .nil => exact walks_enumT (sqT_of h2) r2
      | _ => exact p.elim

/-! ### sum of a tuple -/
theorem sum_tup {P : Program} {w : World} {A : Around} {E : Value → Shared → Prop} {s : Shared} {t : Addr} {us : List Value} {is : List Int} {Q : Value → Shared → Prop} (q0 : A.handled = none) (zT : s.heap.IsTuple t us.toArray) (zi : IntsAre us is)
    (y : ∀ g tk t', (∀ b o, s.heap.get? b = some o → g.get? b = some o) → Q (.int is.sum t') { s with heap := g, toks := tk }) : wpAny (model P w) A (call (.builtin "sum") [.ref t]) Q E s := by
  obtain ⟨xs, ex⟩ := zi.allInts.items
  have en : numsOf (intItems xs).toList = is := by rw [← ex]; exact zi.numsOf
  rw [nums_intItems] at en
  rw [ex] at zT
  have lt : t < s.heap.objs.size := by obtain ⟨_, e, _⟩ := zT; exact Heap.lt_size e
  refine call_sum_walkG (wpAny_pyIter_tuple zT ⟨s.heap.objs.size, [s.heap.objs.size, t], [s.heap.objs.size], _, _, _, numAt xs, rfl, Walks.tuple (A := A.in1) q0 s.heap.objs.size t (Nat.ne_of_lt lt) (intItems xs), ⟨⟨_, Heap.get?_push_size _ rfl, rfl, rfl⟩, zT.push _⟩, fun b hb => ?_, fun _ _ => intItems_at, fun g tk t' hk => ?_⟩)
  · show b < (s.heap.push _).objs.size
    rw [Heap.size_push]
    rcases (by simpa using hb : b = s.heap.objs.size ∨ b = t) with z | z
    · rw [z]; exact Nat.lt_succ_self _
    · rw [z]; exact Nat.lt_succ_of_lt lt
  · have := y g tk t' fun b o e => hk b o (fun hm => absurd (by simpa using hm) (Nat.ne_of_lt (Heap.lt_size e))) (Heap.get?_push_of_some _ e)
    rw [show (intItems xs).size = xs.size by simp [intItems], preSum_eq, List.take_of_length_le (by simp), en]
    exact this
def sumD2 : List D → Option D
  | [.list ds] => (intsOf ds).map fun ns => .int ns.sum
  | [.tuple ds] => (intsOf ds).map fun ns => .int ns.sum
  | _ => none
theorem cd_sum2 (hc : X.calm = true) : CallD X (.builtin "sum") true sumD2 := by
  intro pins s σ H vs us Q I r h
  obtain ⟨ds, rr, q⟩ := h
  unfold sumD2 at q
  split at q
  · rename_i ds
    cases e : intsOf ds with
    | none => rw [e] at q; exact q.elim
    | some bs =>
      rw [e] at q
      have ed := intsOf_eq e
      subst ed
      match rr with
      | .cons (.lst h1 r1) .nil =>
        have ex := r1.intsV
        subst ex
        exact cr_sum hc pins s σ H _ us Q I r ⟨_, bs, rfl, .inl h1, PostO.int q⟩
  · rename_i ds
    cases e : intsOf ds with
    | none => rw [e] at q; exact q.elim
    | some bs =>
      rw [e] at q
      have ed := intsOf_eq e
      subst ed
      match rr with
      | .cons (.tup h1 r1) .nil =>
        have ex := r1.intsV
        subst ex
        obtain ⟨us', rv, pl, _⟩ := I.tuple (sqT_of h1)
        obtain ⟨u, eu, ru⟩ := vals1 r
        subst eu
        obtain rfl : u = Value.ref _ := ru
        exact sum_tup (I.ok.hd hc) pl rv.ints fun g tk t' hk => ⟨.int _, H, I.kept hk, ⟨_, rfl⟩, PostO.int q⟩
  · exact q.elim
end
end Py

set_option Elab.async false
set_option linter.all false
set_option maxRecDepth 100000
set_option maxHeartbeats 4000000
/-! Own layer: set(x) of a list of ints. -/
namespace Py
open PySem PySem.Spec L2
open PyProof.Rows hiding St
section
variable {P : Program} {w : World} {A : Around} {E : Value → Shared → Prop} {s : Shared}
theorem call_set_lstI {l : Addr} {items : Array Value} (ns : List Int) {Q : Value → Shared → Prop} (hh : A.handled = none) (hl : s.heap.IsList l items) (hit : IntsAre items.toList ns) (hb : ns.length + 1 < scanBound)
    (h : ∀ (h' : Heap) (tk c : Nat), SetR w h' s.heap.objs.size (fun j => decide (j ∈ ns)) c → c ≤ ns.length → (∀ b o, s.heap.get? b = some o → h'.get? b = some o) → Q (.ref s.heap.objs.size) { s with heap := h', toks := tk }) :
    wpAny (model P w) A (call (.type "set") [.ref l]) Q E s := by
  have hisz : items.size = ns.length := by
    have q := IntsAre.length hit
    rw [Array.length_toList] at q
    exact q
  obtain ⟨c, tl, hmro⟩ := F.called_set.mro
  have hmade := F.called_set.made
  have hsub := F.called_set.sub
  refine wpAny_call (codeAny_of_tree ?_)
  show wpAny _ _ (callAny (.type "set") _) _ _ _
  refine wpAny_pure ⟨Code.quiet_builtin _ (by decide +kernel), codeAny_builtin F.entry_type_call ?_⟩
  rw [Around.under_plain (weight_type_call_type "set" [.ref l] []) rfl]
  have h1 := F.called_set.notType
  have h2 := F.called_set.canCreate
  have hct := F.typeCall_set_1 (.ref l)
  repeat (any_goals (first | assumption | wp_step))

  refine codeAny_mono (code_set_led1 (.ref l) (E := E) (Q₁ := fun obj s₁ => obj = .ref s.heap.objs.size ∧ s₁ = { s with heap := s.heap.push { cls := .type "set", dict := none, data := .set #[] 0 (.fresh 0 0 (!w.params.followText "set-order")) } }) ⟨rfl, rfl⟩) fun r s₁ hr => ?_
  cases r with
  | error e => exact hr
  | ok fl =>
    cases fl with
    | ret obj =>
      obtain ⟨rfl, rfl⟩ := hr
      have hS : (s.heap.push { cls := .type "set", dict := none, data := .set #[] 0 (.fresh 0 0 (!w.params.followText "set-order")) }).get? s.heap.objs.size = some { cls := .type "set", dict := none, data := .set #[] 0 (.fresh 0 0 (!w.params.followText "set-order")) } := Heap.get?_push_size _ rfl
      have hT : Shared.TypeIs { s with heap := s.heap.push { cls := .type "set", dict := none, data := .set #[] 0 (.fresh 0 0 (!w.params.followText "set-order")) } } (.ref s.heap.objs.size) "set" := ⟨_, hS, rfl⟩
      have hli := F.called_set.init.lookup
      have hbi := F.called_set.init.bind (.ref s.heap.objs.size)
      repeat (any_goals (first | assumption | wp_step))

      refine codeAny_mono (codeAny_call_builtin (R := wants (fun r s₂ => r = .none ∧ ∃ h' tk c, s₂ = { s with heap := h', toks := tk } ∧ SetR w h' s.heap.objs.size (fun j => decide (j ∈ ns)) c ∧ c ≤ ns.length ∧
          (∀ b o, s.heap.get? b = some o → h'.get? b = some o)) E) F.called_set.init.plain F.entry_set_init (check_set_init_1 hT ?_)) fun r₂ s₂ hr₂ => ?_
      · obtain ⟨ol, hol, hcl, nl, hdl⟩ := hl
        obtain ⟨ocls, odict, odata, oslots⟩ := ol
        simp only at hcl hdl
        subst hcl; subst hdl
        have hol' : (s.heap.push { cls := .type "set", dict := none, data := .set #[] 0 (.fresh 0 0 (!w.params.followText "set-order")) }).get? l = some { cls := .type "list", dict := odict, data := .seq items nl, slots := oslots } := Heap.get?_push_of_some _ hol
        have hsls := F.sub_list_set
        have hslf := F.sub_list_frozenset
        have hne : (Value.type "list" == Value.type "dict") = false := by decide
        have hl1 : (s.heap.push { cls := .type "set", dict := none, data := .set #[] 0 (.fresh 0 0 (!w.params.followText "set-order")) }).IsList l items := ⟨_, hol', rfl, nl, rfl⟩
        unfold Builtin.«set.__init__» noKeywords Builtin.Frozenset.updateFrom
        generalize hPI : pyIter = PI
        wp_walk
        subst hPI

        refine wpAny_pyIter_list hl1 ?_
        refine wpAny_bind (wpAny_runValue ?_)
        have hlS : l < s.heap.objs.size := Heap.lt_size hol
        have hh3 : A.in1.in1.in1.handled = none := by simp [hh]
        have hz1 : (s.heap.push { cls := .type "set", dict := none, data := .set #[] 0 (.fresh 0 0 (!w.params.followText "set-order")) }).objs.size = s.heap.objs.size + 1 := Heap.size_push ..
        have hneI : l ≠ (s.heap.push { cls := .type "set", dict := none, data := .set #[] 0 (.fresh 0 0 (!w.params.followText "set-order")) }).objs.size := by
          rw [Heap.size_push]; exact Nat.ne_of_lt (Nat.lt_succ_of_lt hlS)
        have hSf : s.heap.objs.size ∉ [(s.heap.push { cls := .type "set", dict := none, data := .set #[] 0 (.fresh 0 0 (!w.params.followText "set-order")) }).objs.size, l] := by
          rw [Heap.size_push]; simp only [List.mem_cons, List.mem_singleton, List.not_mem_nil, or_false, not_or]
          exact ⟨Nat.ne_of_lt (Nat.lt_succ_self _), Nat.ne_of_gt hlS⟩
        have hval : ∀ (i : Nat) (v : Value), items[i]? = some v → ∃ k t, ns[i]? = some k ∧ v = .int k t := fun i v hv => by
          have hi : i < ns.length := by rw [← hisz]; exact (Array.getElem?_eq_some_iff.mp hv).1
          obtain ⟨t, e⟩ := PyProof.Rows.IntsAre.int_at hit i v (by rw [Array.getElem?_toList]; exact hv)
          refine ⟨ns[i], t, List.getElem?_eq_getElem hi, ?_⟩
          rw [e, List.getD_eq_getElem?_getD, List.getElem?_eq_getElem hi] <;> rfl
        refine set_update_ints ((Walks.list hh3 _ l hneI items).toS) s.heap.objs.size
          hSf ns hisz hb hval (items.size - 0) 0 _ (by omega) (Nat.zero_le _)
          ⟨⟨_, Heap.get?_push_size _ rfl, rfl, rfl⟩, (hl1.push _)⟩ ?hS0 ?hR
        case hS0 =>
          have hget : ((s.heap.push { cls := .type "set", dict := none, data := .set #[] 0 (.fresh 0 0 (!w.params.followText "set-order")) }).push { cls := .type "list_iterator", data := .fields #[.ref l, .int 0 0] }).get? s.heap.objs.size
              = some { cls := .type "set", dict := none, data := .set #[] 0 (.fresh 0 0 (!w.params.followText "set-order")) } := Heap.get?_push_of_some _ hS
          exact ⟨0, Nat.le_refl 0, setR_new_at hget⟩
        case hR =>
          intro s' c' hm hc' hS'
          obtain ⟨h', g2, d', tk', os'⟩ := s'
          have eg : g2 = s.gens := hm.gens
          have ed : d' = s.drawn := hm.drawn
          have eo : os' = s.os := hm.os
          subst eg; subst ed; subst eo
          show wpAny _ _ _ _ _ _
          refine wpAny_pure ?_
          show wpAny _ _ (ret Value.none) _ _ _
          rw [hisz] at hc'
          refine wpAny_pure ⟨rfl, h', tk', c', rfl, hS', hc', fun b o e => ?_⟩
          have hb0 : b < s.heap.objs.size := Heap.lt_size e
          have hb1 : b ≠ s.heap.objs.size := Nat.ne_of_lt hb0
          have hb2 : b ≠ (s.heap.push { cls := .type "set", dict := none, data := .set #[] 0 (.fresh 0 0 (!w.params.followText "set-order")) }).objs.size := by
            rw [Heap.size_push]; exact Nat.ne_of_lt (Nat.lt_succ_of_lt hb0)
          exact hm.heap b o (by simp only [List.mem_cons, List.mem_singleton, List.not_mem_nil, or_false, not_or]; exact ⟨hb1, hb2⟩) (Heap.get?_push_of_some _ (Heap.get?_push_of_some _ e))

      · cases r₂ with
        | error e => exact hr₂
        | ok fl₂ =>
          cases fl₂ with
          | ret r =>
            obtain ⟨rfl, h', tk, c', rfl, hS', hc', hk'⟩ := hr₂
            repeat (any_goals (first | assumption | wp_step))
            exact h _ _ _ hS' hc' hk'
          | _ => exact hr₂.elim
    | _ => exact hr.elim
end
end Py

set_option Elab.async false
set_option linter.all false
set_option maxRecDepth 100000
set_option maxHeartbeats 4000000
/-! Own layer: sorted(set(x)) of a list of ints. -/
namespace Py
open PySem PySem.Spec L2
open PyProof.Rows hiding St
/-- the members of a list of ints, ascending -/
def insS (x : Int) : List Int → List Int
  | [] => [x]
  | y :: ys => if x < y then x :: y :: ys else if x = y then y :: ys else y :: insS x ys
def setI : List Int → List Int
  | [] => []
  | x :: xs => insS x (setI xs)
theorem insS_mem (x : Int) : ∀ (ys : List Int) (k : Int), k ∈ insS x ys ↔ k = x ∨ k ∈ ys
  | [], k => by simp [insS]
  | y :: ys, k => by
    unfold insS
    split
    · simp
    · split
      · rename_i h; subst h; simp
      · simp only [List.mem_cons, insS_mem x ys k]
        constructor
        · rintro (h | h | h) <;> simp [h]
        · rintro (h | h | h) <;> simp [h]
theorem insS_lt (x : Int) : ∀ ys : List Int, ys.Pairwise (· < ·) → (insS x ys).Pairwise (· < ·)
  | [], _ => by simp [insS]
  | y :: ys, h => by
    obtain ⟨h1, h2⟩ := List.pairwise_cons.mp h
    unfold insS
    split
    · rename_i hx
      refine List.pairwise_cons.mpr ⟨fun z hz => ?_, h⟩
      rcases List.mem_cons.mp hz with rfl | hz
      · exact hx
      · have := h1 z hz; omega
    · split
      · exact h
      · refine List.pairwise_cons.mpr ⟨fun z hz => ?_, insS_lt x ys h2⟩
        rcases (insS_mem x ys z).mp hz with rfl | hz
        · omega
        · exact h1 z hz
theorem setI_mem : ∀ (ys : List Int) (k : Int), k ∈ setI ys ↔ k ∈ ys
  | [], k => by simp [setI]
  | y :: ys, k => by simp [setI, insS_mem, setI_mem ys k]
theorem setI_lt : ∀ ys : List Int, (setI ys).Pairwise (· < ·)
  | [] => List.Pairwise.nil
  | y :: ys => insS_lt y _ (setI_lt ys)
theorem lt_eq : ∀ {xs ys : List Int}, (∀ k, k ∈ xs ↔ k ∈ ys) → xs.Pairwise (· < ·) → ys.Pairwise (· < ·) → xs = ys
  | [], [], _, _, _ => rfl
  | [], y :: ys, p, _, _ => by have := (p y).mpr (by simp); simp at this
  | x :: xs, [], p, _, _ => by have := (p x).mp (by simp); simp at this
  | x :: xs, y :: ys, p, h1, h2 => by
    obtain ⟨a1, a2⟩ := List.pairwise_cons.mp h1
    obtain ⟨b1, b2⟩ := List.pairwise_cons.mp h2
    have e : x = y := by
      rcases List.mem_cons.mp ((p x).mp (by simp)) with h | h
      · exact h
      · rcases List.mem_cons.mp ((p y).mpr (by simp)) with h' | h'
        · exact h'.symm
        · have := b1 x h; have := a1 y h'; omega
    subst e
    rw [lt_eq (xs := xs) (ys := ys) (fun k => ?_) a2 b2]
    constructor
    · intro h
      rcases List.mem_cons.mp ((p k).mp (List.mem_cons_of_mem _ h)) with h' | h'
      · have := a1 k h; omega
      · exact h'
    · intro h
      rcases List.mem_cons.mp ((p k).mpr (List.mem_cons_of_mem _ h)) with h' | h'
      · have := b1 k h; omega
      · exact h'
def ssD : D → Option D
  | .list ds => (intsOf ds).bind fun ns => if ns.length < 64 then some (.list ((setI ns).map .int)) else none
  | _ => none
section
variable {X : Cx} {cA : Nat → Addr} {W : WX} {fr fr' : Bool} {a : Expr} {fa : Ex} {p p2 p3 pos : Pos}
def rSetL (w : World) (K : PySem.W.Frag) : List V → Hp → VK → Prop := fun xs H Q => ∃ (l : Addr) (ns : List Int), xs = [V.ref l] ∧ SqL K H l (ns.map V.int) ∧ ns.length < 64 ∧
  ∀ (q : Addr) (c : Nat), H q = none → c ≤ ns.length → Q (.ref q) (upd H q (SetO w q (fun j => decide (j ∈ ns)) c))
theorem cr_setL (hc : X.calm = true) : CallR X (.type "set") (rSetL X.w X.K) := by
  intro pins s σ H xs us Q I r h
  obtain ⟨l, ns, rfl, hl, hn, q⟩ := h
  rw [Vals.ref1 r]
  obtain ⟨its, rv, pl, hz⟩ := I.list hl
  refine call_set_lstI (P := X.prog) (w := X.w) ns (I.ok.hd hc) pl.isList (by simpa using ints_of_vals rv) (by unfold scanBound; omega) fun h' tk c R cl k => ?_
  exact ⟨.ref s.heap.objs.size, upd H s.heap.objs.size (SetO X.w s.heap.objs.size (fun j => decide (j ∈ ns)) c), I.laid (t' := tk) k (Nat.le_refl _) (setO_new R), rfl, q _ c (I.hok.fresh (Nat.le_refl _)) cl⟩
theorem je_sset (hc : X.calm = true) (hg : Gl X "sorted") (hm : X.mg "sorted" = none) (hgs : Gl X "set") (hms : X.mg "set" = none) (ha : JE X cA W fr' a fa) (n : nostar a = true) :
    JE X cA W true (.Call (.Name "sorted" p) [.Call (.Name "set" p2) [a] [] p3] [] pos) (sUn ssD fa) := fun ρ =>
  peI (pe_callB (cr_sortedSet hc) hg hm boot_sorted (pa_cons (pe_callTy (cr_setL hc) hgs hms boot_set (pa_cons (ha ρ) pa_nil (starEach_cons n)) (by decide) (by decide) (starEach_cons n) rfl) pa_nil rfl) (by decide) (by decide) rfl rfl) fun σ H Q q => ⟨q.1, Post.bind q.2 fun d v H1 s1 r1 p1 => by
    replace p1 := p1.ofO
    unfold ssD at p1
    split at p1
    · rename_i ds
      cases e : intsOf ds with
      | none => rw [e] at p1; exact p1.elim
      | some ns =>
        rw [e] at p1
        have ed := intsOf_eq e
        subst ed
        cases r1 with
        | lst h1 r1 =>
          have ex := r1.intsV
          subst ex
          simp only [Option.bind_some] at p1
          split at p1
          · rename_i hl
            refine ⟨_, ns, rfl, .inl h1, hl, fun q c nq hcl => ?_⟩
            refine ⟨q, _, c, rfl, upd_same, by omega, fun ms p4 m1 m2 m3 np => ?_⟩
            have em : ms = setI ns := lt_eq (fun k => by rw [m2, setI_mem]; simp) m1 (setI_lt ns)
            subst em
            have s2 : Same H1 (upd (upd H1 q (SetO X.w q (fun j => decide (j ∈ ns)) c)) p4 (.lst ((setI ns).map V.int))) := (same_upd nq).trans (same_upd np)
            refine p1 _ _ s2 (.lst (.inl upd_same) (RepAll.intsR _)) fun _ _ => ⟨p4, rfl, ?_, fun o u z => by rw [upd_same] at z; cases z⟩
            cases e4 : H1 p4 with
            | none => rfl
            | some u => rw [same_upd nq _ _ e4] at np; cases np
          · exact p1.elim
    · exact p1.elim⟩
end
end Py

set_option Elab.async false
set_option linter.all false
set_option maxRecDepth 100000
set_option maxHeartbeats 4000000
/-! Own layer, part 10: from the program's own tree to its meaning, with the proof. -/
namespace Py
open PySem PySem.Spec L2
open PyProof.Rows hiding St

/-- what a body's names are -/
structure Ct where
  N : List Str
  sc : Scope
  allFn : Bool
  isDef : Bool
  /-- defs: name, number, arity, whether a list that it gives is new -/
  fns : List (Str × Nat × Nat × Bool)
  cst : List (Str × D)
  excs : List (Str × Nat)
  blts : List Str
abbrev CallS := Nat → List D → Res D
/-- what the top has left, as far as the names go -/
structure TopOk (call : CallS) (Γ : Ct) (P : Program) (w : World) (K : PySem.W.Frag) (mg : Str → Option Value) (base : Heap) (cA : Nat → Addr) (k : Nat) : Prop where
  fn : ∀ p ∈ Γ.fns, ∃ (f : Addr) (fd : FuncData) (ps : List Str), mg p.1 = some (.ref f) ∧ PySem.W.keepIn K (.ref f) = true ∧ Binds K fd ps [] ∧ FnOk P w K mg base (L2.CX P w) k f fd ps (spOf K cA p.2.2.2 p.2.2.1 (call p.2.1))
  cst : ∀ p ∈ Γ.cst, ∃ (u : Value) (v : V), mg p.1 = some u ∧ RelV v u ∧ (∀ H, Rep K H v p.2) ∧ mutTop p.2 = false
  blt : ∀ x ∈ Γ.blts, mg x = none
  exc : ∀ p ∈ Γ.excs, mg p.1 = some (.ref (cA p.2)) ∧ PySem.W.excIn K (cA p.2) He.veBase "ValueError.__new__" = true ∧ PySem.W.keepIn K (.ref (cA p.2)) = true ∧ PySem.W.subIn K (.ref (cA p.2)) (.type "BaseException") = some true ∧ PySem.W.typeIn K (.ref (cA p.2)) = some (.type "type")
  cls : (∀ c, ExcC K (cA c)) ∧ (∀ c, PySem.W.exmOne K (.ref (cA c)) (.ref (cA 0)) = some true)
  kit : ∀ c, ∀ p ∈ Γ.excs, p.2 ≠ 0 → PySem.W.kitOne K (.ref (cA c)) (.ref (cA p.2)) = some (p.2 == c)
structure CtxOk (call : CallS) (Γ : Ct) (X : Cx) (cA : Nat → Addr) (W : WX) (k : Nat) : Prop where
  hN : X.N = Γ.N
  hsc : X.env.scope = Γ.sc
  nd : Γ.N.Nodup
  kind : Γ.sc.kind = .function
  calm : X.calm = true
  room : Room k X.A
  tk : Takes X W
  po : PassesOwn (model X.prog X.w) X.A X.env X.xe
  fnall : Γ.allFn = true → ∀ x, X.fn x = true
  stk : Γ.isDef = true → X.stack = X.env :: X.outer ∧ X.env.frame = some X.env.locals
  top : TopOk call Γ X.prog X.w X.K X.mg X.base cA k

def Ct.blk (Γ : Ct) (scope : Scope) : Ct := { Γ with sc := relS scope Γ.sc, allFn := false, isDef := false }
def Ct.tr (Γ : Ct) : Ct := { Γ with isDef := false }
section
variable {call : CallS} {Γ : Ct} {X : Cx} {cA : Nat → Addr} {W : WX} {k : Nat}
theorem CtxOk.blk (C : CtxOk call Γ X cA W k) {scope : Scope} (hk : scope.kind = .function) (s : Shared) (H : Hp) (A : Addr) (cl : List (Str × Addr)) (fp : List Addr) : CtxOk call (Γ.blk scope) (X.blk s H scope (compEnvC scope cl A X.env) fp) cA WF k :=
  ⟨C.hN, by show relS scope X.env.scope = relS scope Γ.sc; rw [C.hsc], C.nd, hk, C.calm, C.room, takes0, PassesOwn.never, (fun z => by cases z), (fun z => by cases z), ⟨C.top.fn, C.top.cst, C.top.blt, C.top.exc, C.top.cls, C.top.kit⟩⟩
theorem CtxOk.toTr (C : CtxOk call Γ X cA W k) {W' : WX} {pn : List (Addr × Obj)} {xe : Value → Shared → Prop} (tk : Takes (X.tr pn xe) W') (po : PassesOwn (model X.prog X.w) X.A X.env xe) : CtxOk call Γ.tr (X.tr pn xe) cA W' k :=
  ⟨C.hN, C.hsc, C.nd, C.kind, C.calm, C.room, tk, po, C.fnall, (fun z => by cases z), ⟨C.top.fn, C.top.cst, C.top.blt, C.top.exc, C.top.cls, C.top.kit⟩⟩

/-! ### names -/
def visB (sc : Scope) (x : Str) : Bool := match sc.names.lookup x with
  | some .local | some .cell | some .free => true
  | _ => false
theorem visB_ok {sc : Scope} {x : Str} (h : visB sc x = true) : Vis sc x := by
  unfold visB at h
  unfold Vis
  split at h
  · rename_i e; exact .inl e
  · rename_i e; exact .inr (.inl e)
  · rename_i e; exact .inr (.inr e)
  · cases h
def locB (allFn : Bool) (sc : Scope) (x : Str) : Bool := match sc.names.lookup x with
  | some .local => true
  | some .cell => allFn
  | _ => false
theorem locB_ok {allFn : Bool} {sc : Scope} {x : Str} (h : locB allFn sc x = true) : L2.Loc sc x ∧ (allFn = true ∨ sc.names.lookup x = some .local) := by
  unfold locB at h
  unfold L2.Loc
  split at h
  · rename_i e; exact ⟨.inl e, .inr e⟩
  · rename_i e; exact ⟨.inr e, .inl h⟩
  · cases h
def okName (x : Str) : Bool := !(x == ("__debug__" : Str)) && !(x == ("__classdict__" : Str)) && !(x == ("__name__" : Str))
theorem okName_ok {x : Str} (h : okName x = true) : (x == ("__debug__" : Str)) = false ∧ (x == ("__classdict__" : Str)) = false ∧ x ≠ "__name__" := by
  unfold okName at h
  simp only [Bool.and_eq_true, Bool.not_eq_true'] at h
  exact ⟨h.1.1, h.1.2, fun z => by rw [z] at h; exact absurd h.2 (by simp)⟩
def glB (sc : Scope) (x : Str) : Bool := sc.names.lookup x == some .globalImplicit
theorem CtxOk.gl (C : CtxOk call Γ X cA W k) {x : Str} (h : glB Γ.sc x = true) : Gl X x := by
  show X.env.scope.names.lookup x = _
  rw [C.hsc]
  exact beq_iff_eq.mp h
theorem CtxOk.vis (C : CtxOk call Γ X cA W k) {x : Str} (h : visB Γ.sc x = true) : Vis X.env.scope x := by
  rw [C.hsc]; exact visB_ok h
theorem CtxOk.loc (C : CtxOk call Γ X cA W k) {x : Str} (h : locB Γ.allFn Γ.sc x = true) : L2.Loc X.env.scope x ∧ (X.fn x = true ∨ X.env.scope.names.lookup x = some .local) := by
  obtain ⟨a, b⟩ := locB_ok h
  rw [C.hsc]
  exact ⟨a, b.elim (fun z => .inl (C.fnall z x)) .inr⟩
theorem CtxOk.units (C : CtxOk call Γ X cA W k) : X.A.units + 65 < cLine := by
  have := C.room.un
  omega
theorem CtxOk.fnIn (C : CtxOk call Γ X cA W k) {p : Str × Nat × Nat × Bool} (h : p ∈ Γ.fns) : FnIn X cA k p.1 p.2.2.2 p.2.2.1 (call p.2.1) := ⟨C.top.fn p h⟩
end
/-- the entry of a name, with its place -/
def find {α : Type} (x : Str) : (l : List (Str × α)) → Option { p : Str × α // p ∈ l ∧ p.1 = x }
  | [] => none
  | p :: l => if h : p.1 = x then some ⟨p, List.mem_cons_self, h⟩ else match find x l with
    | some ⟨q, hq, e⟩ => some ⟨q, List.mem_cons_of_mem _ hq, e⟩
    | none => none

/-! ### results of the compilation -/
structure CE (call : CallS) (Γ : Ct) (e : Expr) where
  fr : Bool
  f : Ex
  ok : ∀ {X : Cx} {cA : Nat → Addr} {W : WX} {k : Nat}, CtxOk call Γ X cA W k → JE X cA W fr e f
structure CT (call : CallS) (Γ : Ct) (e : Expr) where
  f : Tx
  ok : ∀ {X : Cx} {cA : Nat → Addr} {W : WX} {k : Nat}, CtxOk call Γ X cA W k → JT X cA W e f
structure CW (call : CallS) (Γ : Ct) (e : Expr) where
  f : Tx
  ok : ∀ {X : Cx} {cA : Nat → Addr} {W : WX} {k : Nat}, CtxOk call Γ X cA W k → JW X cA W e f
structure CAl (call : CallS) (Γ : Ct) (es : List Expr) where
  frs : List Bool
  fs : List Ex
  ok : ∀ {X : Cx} {cA : Nat → Addr} {W : WX} {k : Nat}, CtxOk call Γ X cA W k → JAllF X cA W es frs fs
structure CO (call : CallS) (Γ : Ct) (e : Option Expr) where
  f : Option Ex
  ok : ∀ {X : Cx} {cA : Nat → Addr} {W : WX} {k : Nat}, CtxOk call Γ X cA W k → JO X cA W e f
structure CI (call : CallS) (Γ : Ct) (tg iter : Expr) where
  fr : Bool
  f : As
  its : Itd'
  ok : ∀ {X : Cx} {cA : Nat → Addr} {W : WX} {k : Nat}, CtxOk call Γ X cA W k → JI X cA W fr tg iter f its
structure CG (call : CallS) (Γ : Ct) (tg : Expr) where
  b : Bd
  I : List Nat
  ns : nostar tg = true
  ok : ∀ {X : Cx} {cA : Nat → Addr} {W : WX} {k : Nat}, CtxOk call Γ X cA W k → ∀ {c : D → Bool} {P : Env' → St → Hp → Prop}, Stor X.K c P → JG X c P tg b I
structure CGs (call : CallS) (Γ : Ct) (tgs : List Expr) where
  bs : List Bd
  I : List Nat
  ok : ∀ {X : Cx} {cA : Nat → Addr} {W : WX} {k : Nat}, CtxOk call Γ X cA W k → ∀ {c : D → Bool} {P : Env' → St → Hp → Prop}, Stor X.K c P → JGs X c P I tgs bs
structure CS (call : CallS) (Γ : Ct) (fr : Bool) (st : Stmt) where
  f : Sx
  ok : ∀ {X : Cx} {cA : Nat → Addr} {W : WX} {k : Nat}, CtxOk call Γ X cA W k → JS X cA W fr st f
structure CSs (call : CallS) (Γ : Ct) (fr : Bool) (st : List Stmt) where
  f : Sx
  ok : ∀ {X : Cx} {cA : Nat → Addr} {W : WX} {k : Nat}, CtxOk call Γ X cA W k → JSs X cA W fr st f
theorem JAllF.all {X : Cx} {cA : Nat → Addr} {W : WX} : ∀ {es : List Expr} {frs : List Bool} {fs : List Ex}, JAllF X cA W es frs fs → JAll X cA W es fs
  | _, _, _, .nil => .nil
  | _, _, _, .cons h n r => .cons h n (JAllF.all r)

/-! ### built-ins by name -/
structure BRule where
  name : Str
  isTy : Bool
  id : String
  fr : Bool
  g : List D → Option D
  boot : bootBuiltins name = some (if isTy then .type id else .builtin id)
  ok : ∀ {X : Cx} {k : Nat}, X.calm = true → Room k X.A → CallD X (if isTy then .type id else .builtin id) fr g
def findB (x : Str) : List BRule → Option { r : BRule // r.name = x }
  | [] => none
  | r :: l => if h : r.name = x then some ⟨r, h⟩ else findB x l
def bLen : BRule := ⟨"len", false, "len", true, lenD, boot_len, fun _ _ => cd_len⟩
def bMax : BRule := ⟨"max", false, "max", true, maxD, boot_max, fun h _ => cd_max h⟩
def bMin : BRule := ⟨"min", false, "min", true, minD, boot_min, fun h _ => cd_min h⟩
theorem je_rule {X : Cx} {cA : Nat → Addr} {W : WX} {k : Nat} (r : BRule) {p pos : Pos} {e : Expr} {es : List Expr} {f : Ex} {fs : List Ex} (hc : X.calm = true) (hr : Room k X.A) (hg : Gl X r.name) (hm : X.mg r.name = none) (h : JAll X cA W (e :: es) (f :: fs)) (hn : r.name ≠ "__name__") (hdb : (r.name == ("__debug__" : Str)) = false) :
    JE X cA W r.fr (.Call (.Name r.name p) (e :: es) [] pos) (sBlt r.g (f :: fs)) := by
  obtain ⟨nm, ty, id, fr, g, bt, ok⟩ := r
  cases ty with
  | true => exact je_ty (ok hc hr) hg hm bt h hn hdb
  | false => exact je_blt (ok hc hr) hg hm bt h hn hdb

/-! ### one level of the compilation, over the lower ones -/
structure Rc (call : CallS) where
  e : (Γ : Ct) → (x : Expr) → Option (CE call Γ x)
  t : (Γ : Ct) → (x : Expr) → Option (CT call Γ x)
  g : (Γ : Ct) → (x : Expr) → Option (CG call Γ x)
  ss : (Γ : Ct) → (fr : Bool) → (x : List Stmt) → Option (CSs call Γ fr x)

section
variable {call : CallS} (rules : List BRule) (rc : Rc call)

def cAll (Γ : Ct) : (es : List Expr) → Option (CAl call Γ es)
  | [] => some ⟨[], [], fun _ => .nil⟩
  | e :: es => if n : nostar e = true then (rc.e Γ e).bind fun x => (cAll Γ es).bind fun y => some ⟨x.fr :: y.frs, x.f :: y.fs, fun C => .cons (x.ok C) n (y.ok C)⟩ else none
def cOpt (Γ : Ct) : (e : Option Expr) → Option (CO call Γ e)
  | none => some ⟨none, fun _ => .none⟩
  | some e => (rc.e Γ e).bind fun x => some ⟨some x.f, fun C => .some (x.ok C)⟩
def cAndE (Γ : Ct) (pos : Pos) : (es : List Expr) → Option (CE call Γ (.BoolOp .And es pos))
  | [] => none
  | [a] => (rc.e Γ a).bind fun x => some ⟨x.fr, x.f, fun C => je_one (x.ok C)⟩
  | a :: b :: r => (rc.e Γ a).bind fun x => (cAndE Γ pos (b :: r)).bind fun y => some ⟨y.fr, sAnd x.f y.f, fun C => je_and (x.ok C) (y.ok C)⟩
def cOrE (Γ : Ct) (pos : Pos) : (es : List Expr) → Option (CE call Γ (.BoolOp .Or es pos))
  | [] => none
  | [a] => (rc.e Γ a).bind fun x => some ⟨x.fr, x.f, fun C => je_one (x.ok C)⟩
  | a :: b :: r => (rc.e Γ a).bind fun x => (cOrE Γ pos (b :: r)).bind fun y => some ⟨y.fr, sOr x.f y.f, fun C => je_or (x.ok C) (y.ok C)⟩
def cAndT (Γ : Ct) (pos : Pos) : (es : List Expr) → Option (CW call Γ (.BoolOp .And es pos))
  | [] => none
  | [a] => (rc.t Γ a).bind fun x => some ⟨x.f, fun C => jw_and1 (x.ok C)⟩
  | a :: b :: r => (rc.t Γ a).bind fun x => (cAndT Γ pos (b :: r)).bind fun y => some ⟨xAnd x.f y.f, fun C => jw_and (x.ok C) (y.ok C)⟩
def cOrT (Γ : Ct) (pos : Pos) : (es : List Expr) → Option (CW call Γ (.BoolOp .Or es pos))
  | [] => none
  | [a] => (rc.t Γ a).bind fun x => some ⟨x.f, fun C => jw_or1 (x.ok C)⟩
  | a :: b :: r => (rc.t Γ a).bind fun x => (cOrT Γ pos (b :: r)).bind fun y => some ⟨xOr x.f y.f, fun C => jw_or (x.ok C) (y.ok C)⟩

/-- operators -/
structure COp (op : Operator) where
  o : D → D → Option D
  ok : ∀ {X : Cx}, OpD X (binaryOp op) true o
def cOp : (op : Operator) → Option (COp op)
  | .Add => some ⟨addD, od_add⟩
  | .Sub => some ⟨subD, od_sub⟩
  | .Mult => some ⟨mulD, od_mul⟩
  | .FloorDiv => some ⟨fdivD, od_fdiv⟩
  | .Mod => some ⟨modD, od_mod⟩
  | .Pow => some ⟨powD, od_pow⟩
  | .LShift => some ⟨shlD, od_shl⟩
  | _ => none
structure CCmp (op : CmpOp) where
  o : D → D → Option D
  ok : ∀ {X : Cx}, X.A.units + 65 < cLine → OpD X (compareOp op) true o
def cCmp : (op : CmpOp) → Option (CCmp op)
  | .Eq => some ⟨eqD, fun h => od_eq (by omega)⟩
  | .NotEq => some ⟨neD, fun h => od_ne (by omega)⟩
  | .Lt => some ⟨ltD, fun _ => od_lt⟩
  | .LtE => some ⟨leD, fun _ => od_le⟩
  | .Gt => some ⟨gtD, fun _ => od_gt⟩
  | .GtE => some ⟨geD, fun _ => od_ge⟩
  | .Is => some ⟨isD, fun _ => od_is⟩
  | .IsNot => some ⟨isNotD, fun _ => od_isNot⟩
  | .In => some ⟨inD, fun h => od_in h⟩
  | .NotIn => some ⟨notInD, fun h => od_notIn h⟩
def plainIxB : Expr → Bool
  | .Slice .. => false
  | _ => true
theorem plainIxB_ok {e : Expr} (h : plainIxB e = true) : PlainIx e := by
  cases e <;> first | exact fun _ _ => rfl | cases h
def notSet : Expr → Bool
  | .Set .. => false
  | _ => true
theorem notSet_ok {e : Expr} {env : Env} (h : notSet e = true) : ∀ x, foldedSetIterable e env x = pure x := by
  cases e <;> first | (intro _; rfl) | cases h
theorem notSet_mark {op : CmpOp} {e : Expr} (h : notSet e = true) : behindInMarks op e = false := by
  cases e <;> first | rfl | cases h

def cName (Γ : Ct) (x : Str) (pos : Pos) : Option (CE call Γ (.Name x pos)) :=
  if hv : visB Γ.sc x = true then
    if h : Γ.N[Γ.N.idxOf x]? = some x ∧ okName x = true then
      some ⟨false, sVar (Γ.N.idxOf x), fun C => je_var (by rw [C.hN]; exact h.1) (C.vis hv) (okName_ok h.2).1 (okName_ok h.2).2.1⟩
    else none
  else if h : glB Γ.sc x = true ∧ okName x = true then
    match find x Γ.cst with
    | some ⟨p, hp, e⟩ => some ⟨true, sCst p.2, fun C => by
        obtain ⟨u, v, h1, h2, h3, h4⟩ := C.top.cst p hp
        rw [e] at h1
        exact je_glob (C.gl h.1) h1 h2 (okName_ok h.2).1 h3 h4⟩
    | none => none
  else none
/-- the types that isinstance is asked for -/
def tyName (T : Str) : Option { s : String // bootBuiltins T = some (.type s) } :=
  if h : T = "int" then some ⟨"int", by rw [h]; exact boot_int⟩
  else if h : T = "bool" then some ⟨"bool", by rw [h]; exact boot_bool⟩
  else if h : T = "tuple" then some ⟨"tuple", by rw [h]; exact boot_tuple⟩
  else if h : T = "str" then some ⟨"str", by rw [h]; exact boot_str⟩
  else if h : T = "list" then some ⟨"list", by rw [h]; exact boot_list⟩
  else none
def cCall (Γ : Ct) (x : Str) (p : Pos) (args : List Expr) (pos : Pos) : Option (CE call Γ (.Call (.Name x p) args [] pos)) :=
  if h : glB Γ.sc x = true ∧ okName x = true then
    match find x Γ.fns with
    | some ⟨q, hq, e⟩ => (cAll rc Γ args).bind fun y => if hn : y.fs.length = q.2.2.1 then some ⟨q.2.2.2, sCall (call q.2.1) y.fs, fun C => by
        have F := C.fnIn hq
        rw [e] at F
        exact je_call F C.room (C.gl h.1) C.tk (y.ok C).all hn (okName_ok h.2).1⟩ else none
    | none => if hb : x ∈ Γ.blts then
        if hi : x = "isinstance" then match args with
          | [a, .Name T pT] => if hT : glB Γ.sc T = true ∧ okName T = true ∧ T ∈ Γ.blts ∧ nostar a = true then
              match tyName T with
              | some ⟨Ts, bT⟩ => (rc.e Γ a).bind fun y => some ⟨true, sUn (isiD Ts) y.f, fun C => je_isi (C.gl h.1) (C.top.blt x hb) (by rw [hi]; exact boot_isinstance) (y.ok C) hT.2.2.2 (C.gl hT.1) (C.top.blt T hT.2.2.1) bT (okName_ok h.2).2.2 (okName_ok h.2).1 (okName_ok hT.2.1).2.2 (okName_ok hT.2.1).1⟩
              | none => none
            else none
          | _ => none
        else match findB x rules with
          | some ⟨r, e⟩ => match args with
            | [] => none
            | a :: as => (cAll rc Γ (a :: as)).bind fun y => match y with
              | ⟨frs, f :: fs, ok⟩ => some ⟨r.fr, sBlt r.g (f :: fs), fun C => by
                  have hg := C.gl h.1
                  have hm := C.top.blt x hb
                  obtain ⟨o1, _, o3⟩ := okName_ok h.2
                  rw [← e] at hg hm o1 o3 ⊢
                  exact je_rule r C.calm C.room hg hm (ok C).all o3 o1⟩
              | ⟨_, [], _⟩ => none
          | none => none
      else none
  else none

/-! ### targets -/
def cG0 (Γ : Ct) (x : Str) (pos : Pos) : Option (CG call Γ (.Name x pos)) :=
  if h : locB Γ.allFn Γ.sc x = true ∧ Γ.N[Γ.N.idxOf x]? = some x then
    some ⟨bName (Γ.N.idxOf x), [Γ.N.idxOf x], rfl, fun C _ _ S => jg_name S (by rw [C.hN]; exact C.nd) (by rw [C.hN]; exact h.2) (C.loc h.1).1 (C.loc h.1).2⟩
  else none
def cGs (Γ : Ct) (I : List Nat) : (es : List Expr) → Option { bs : List Bd // ∀ {X : Cx} {cA : Nat → Addr} {W : WX} {k : Nat}, CtxOk call Γ X cA W k → ∀ {c : D → Bool} {P : Env' → St → Hp → Prop}, Stor X.K c P → JGs X c P I es bs }
  | [] => some ⟨[], fun _ _ _ _ => .nil⟩
  | e :: es => (rc.g Γ e).bind fun x => (cGs Γ I es).bind fun y => if h : ∀ i ∈ x.I, i ∈ I then some ⟨x.b :: y.1, fun C _ _ S => .cons (x.ok C S) h x.ns (y.2 C S)⟩ else none
/-- the slots of a target -/
def slotsT (Γ : Ct) : Nat → Expr → List Nat
  | _, .Name x _ => [Γ.N.idxOf x]
  | n + 1, .Tuple es _ _ => es.flatMap (slotsT Γ n)
  | _, _ => []
def cG (Γ : Ct) : (e : Expr) → Option (CG call Γ e)
  | .Name x pos => cG0 Γ x pos
  | .Tuple es k pos => (cGs rc Γ (slotsT Γ 8 (.Tuple es k pos)) es).bind fun y => some ⟨bTup y.1, slotsT Γ 8 (.Tuple es k pos), rfl, fun C _ _ S => jg_tup S C.calm (y.2 C S)⟩
  | _ => none

/-! ### what is walked -/
/-- enumerate(e), zip(e, f) -/
def cWalk (Γ : Ct) (x : Str) (p pos : Pos) : (tg : Expr) → (args : List Expr) → Option (CI call Γ tg (.Call (.Name x p) args [] pos))
  | .Tuple es kk tp, [a] => if hx : x = "enumerate" then
      if h : glB Γ.sc "enumerate" = true ∧ ("enumerate" : Str) ∈ Γ.blts ∧ nostar a = true then
        (rc.e Γ a).bind fun y => some ⟨false, one y.f, iEnumD2, fun C => by subst hx; exact ji_enum2 (C.gl h.1) (C.top.blt _ h.2.1) (y.ok C) h.2.2⟩
      else none
    else none
  | .Tuple es kk tp, [a, b] => if hx : x = "zip" then
      if h : glB Γ.sc "zip" = true ∧ ("zip" : Str) ∈ Γ.blts then
        (cAll rc Γ [a, b]).bind fun y => match y with
          | ⟨_, [f, g], ok⟩ => some ⟨false, evalL [f, g], iZipD, fun C => by subst hx; exact ji_zip (C.gl h.1) (C.top.blt _ h.2) (ok C).all⟩
          | _ => none
      else none
    else none
  | _, _ => none
def cI (Γ : Ct) (tg : Expr) : (e : Expr) → Option (CI call Γ tg e)
  | .Call (.Name x p) args [] pos => if hx : x = "range" then
      if h : glB Γ.sc "range" = true ∧ ("range" : Str) ∈ Γ.blts then match args with
        | [a] => (cAll rc Γ [a]).bind fun y => match y with
          | ⟨_, [f], ok⟩ => some ⟨true, evalL [f], iRange, fun C => by subst hx; exact ji_range1 (C.gl h.1) (C.top.blt _ h.2) (ok C).all⟩
          | _ => none
        | [a, b] => (cAll rc Γ [a, b]).bind fun y => match y with
          | ⟨_, [f, g], ok⟩ => some ⟨true, evalL [f, g], iRange, fun C => by subst hx; exact ji_range2 (C.gl h.1) (C.top.blt _ h.2) (ok C).all⟩
          | _ => none
        | _ => none
      else none
    else match cWalk rc Γ x p pos tg args with
      | some z => some z
      | none => (rc.e Γ (.Call (.Name x p) args [] pos)).bind fun y => some ⟨y.fr, one y.f, iSeq, fun C => ji_seq (y.ok C)⟩
  | e => (rc.e Γ e).bind fun y => some ⟨y.fr, one y.f, iSeq, fun C => ji_seq (y.ok C)⟩

/-! ### comprehensions -/
def ownOf (Γ : Ct) (scope : Scope) : List (Str × Nat) := scope.names.filterMap fun y => match y.2 with
  | .local | .cell => if y.1 ∈ Γ.N then some (y.1, Γ.N.idxOf y.1) else none
  | _ => none
structure CTs (call : CallS) (Γ : Ct) (es : List Expr) where
  f : Tx
  ok : ∀ {X : Cx} {cA : Nat → Addr} {W : WX} {k : Nat}, CtxOk call Γ X cA W k → JTs X cA W es f
def cTs (Γ : Ct) : (es : List Expr) → Option (CTs call Γ es)
  | [] => some ⟨xYes, fun _ => jts_nil⟩
  | [c] => (rc.t Γ c).bind fun x => some ⟨x.f, fun C => jts_one (x.ok C)⟩
  | _ => none
theorem blkC_kind {N : List Str} {sc scope : Scope} {own : List (Str × Nat)} (h : blkC N sc scope own = true) : scope.kind = .function := (blkOk_by h).kind
/-- the parts of a one-clause comprehension -/
structure CL1 (call : CallS) (Γ : Ct) (elt tg iter : Expr) (ifs : List Expr) (scope : Scope) where
  it : CI call Γ tg iter
  blk : blkC Γ.N Γ.sc scope (ownOf Γ scope) = true
  g : CG call (Γ.blk scope) tg
  t : CTs call (Γ.blk scope) ifs
  e : CE call (Γ.blk scope) elt
  hI : ∀ i ∈ g.I, i ∈ (ownOf Γ scope).map (·.2)
  hs : notSet iter = true
def cL1 (Γ : Ct) (elt tg iter : Expr) (ifs : List Expr) (scope : Scope) : Option (CL1 call Γ elt tg iter ifs scope) :=
  (cI rc Γ tg iter).bind fun it => if hb : blkC Γ.N Γ.sc scope (ownOf Γ scope) = true ∧ notSet iter = true then
    (rc.g (Γ.blk scope) tg).bind fun g => (cTs rc (Γ.blk scope) ifs).bind fun t => (rc.e (Γ.blk scope) elt).bind fun e => if hI : ∀ i ∈ g.I, i ∈ (ownOf Γ scope).map (·.2) then some ⟨it, hb.1, g, t, e, hI, hb.2⟩ else none
  else none
def CL1.f {Γ : Ct} {elt tg iter : Expr} {ifs : List Expr} {scope : Scope} (c : CL1 call Γ elt tg iter ifs scope) : Ex := sLc c.it.f c.it.its ((ownOf Γ scope).map (·.2)) c.g.b c.t.f c.e.f
theorem CtxOk.blkOk {Γ : Ct} {X : Cx} {cA : Nat → Addr} {W : WX} {k : Nat} (C : CtxOk call Γ X cA W k) {scope : Scope} (h : blkC Γ.N Γ.sc scope (ownOf Γ scope) = true) : BlkOk X.N X.env.scope scope (ownOf Γ scope) := by
  rw [C.hN, C.hsc]; exact blkOk_by h
theorem CL1.je {Γ : Ct} {elt tg iter : Expr} {ifs : List Expr} {scope : Scope} {pos : Pos} (c : CL1 call Γ elt tg iter ifs scope) {X : Cx} {cA : Nat → Addr} {W : WX} {k : Nat} (C : CtxOk call Γ X cA W k) : JE X cA W true (.ListComp elt [⟨tg, iter, ifs, 0⟩] scope pos) c.f :=
  je_lc C.calm (by rw [C.hN]; exact C.nd) (c.it.ok C) (C.blkOk c.blk) (fun s H A cl fp => c.g.ok (C.blk (blkC_kind c.blk) s H A cl fp) EOk.stor) c.hI (fun s H A cl fp => c.t.ok (C.blk (blkC_kind c.blk) s H A cl fp)) (fun s H A cl fp => c.e.ok (C.blk (blkC_kind c.blk) s H A cl fp)) (notSet_ok c.hs)
structure CL2 (call : CallS) (Γ : Ct) (elt tg iter : Expr) (ifs : List Expr) (tg1 iter1 : Expr) (ifs1 : List Expr) (scope : Scope) where
  it : CI call Γ tg iter
  blk : blkC Γ.N Γ.sc scope (ownOf Γ scope) = true
  g : CG call (Γ.blk scope) tg
  t : CTs call (Γ.blk scope) ifs
  it1 : CI call (Γ.blk scope) tg1 iter1
  g1 : CG call (Γ.blk scope) tg1
  t1 : CTs call (Γ.blk scope) ifs1
  e : CE call (Γ.blk scope) elt
  hI : ∀ i ∈ g.I, i ∈ (ownOf Γ scope).map (·.2)
  hI1 : ∀ i ∈ g1.I, i ∈ (ownOf Γ scope).map (·.2)
  hs : notSet iter = true
  hs1 : notSet iter1 = true
def cL2 (Γ : Ct) (elt tg iter : Expr) (ifs : List Expr) (tg1 iter1 : Expr) (ifs1 : List Expr) (scope : Scope) : Option (CL2 call Γ elt tg iter ifs tg1 iter1 ifs1 scope) :=
  (cI rc Γ tg iter).bind fun it => if hb : blkC Γ.N Γ.sc scope (ownOf Γ scope) = true ∧ notSet iter = true ∧ notSet iter1 = true then
    (rc.g (Γ.blk scope) tg).bind fun g => (cTs rc (Γ.blk scope) ifs).bind fun t => (cI rc (Γ.blk scope) tg1 iter1).bind fun it1 => (rc.g (Γ.blk scope) tg1).bind fun g1 => (cTs rc (Γ.blk scope) ifs1).bind fun t1 => (rc.e (Γ.blk scope) elt).bind fun e =>
      if hI : (∀ i ∈ g.I, i ∈ (ownOf Γ scope).map (·.2)) ∧ ∀ i ∈ g1.I, i ∈ (ownOf Γ scope).map (·.2) then some ⟨it, hb.1, g, t, it1, g1, t1, e, hI.1, hI.2, hb.2.1, hb.2.2⟩ else none
  else none
def CL2.f {Γ : Ct} {elt tg iter tg1 iter1 : Expr} {ifs ifs1 : List Expr} {scope : Scope} (c : CL2 call Γ elt tg iter ifs tg1 iter1 ifs1 scope) : Ex := sLc2 c.it.f c.it.its ((ownOf Γ scope).map (·.2)) c.g.b c.t.f c.it1.f c.it1.its c.it1.fr c.g1.I c.g1.b c.t1.f c.e.f
theorem CL2.je {Γ : Ct} {elt tg iter tg1 iter1 : Expr} {ifs ifs1 : List Expr} {scope : Scope} {pos : Pos} (c : CL2 call Γ elt tg iter ifs tg1 iter1 ifs1 scope) {X : Cx} {cA : Nat → Addr} {W : WX} {k : Nat} (C : CtxOk call Γ X cA W k) : JE X cA W true (.ListComp elt [⟨tg, iter, ifs, 0⟩, ⟨tg1, iter1, ifs1, 0⟩] scope pos) c.f :=
  je_lc2 C.calm (by rw [C.hN]; exact C.nd) (c.it.ok C) (C.blkOk c.blk) c.hI1 (fun H1 s H A cl fp => c.g.ok (C.blk (blkC_kind c.blk) s H A cl fp) E2.stor) c.hI (fun s H A cl fp => c.t.ok (C.blk (blkC_kind c.blk) s H A cl fp)) (fun s H A cl fp => c.it1.ok (C.blk (blkC_kind c.blk) s H A cl fp)) (fun s H A cl fp => c.g1.ok (C.blk (blkC_kind c.blk) s H A cl fp) EOk.stor) (fun i h => h)
    (fun s H A cl fp => c.t1.ok (C.blk (blkC_kind c.blk) s H A cl fp)) (fun s H A cl fp => c.e.ok (C.blk (blkC_kind c.blk) s H A cl fp)) (notSet_ok c.hs) (fun env => notSet_ok c.hs1)

/-! ### defs picked out of a list -/
structure CP (call : CallS) (Γ : Ct) (n : Nat) (es : List Expr) where
  gs : List (List D → Res D)
  ok : ∀ {X : Cx} {cA : Nat → Addr} {W : WX} {k : Nat}, CtxOk call Γ X cA W k → Picks X cA k n es gs
def cPicks (Γ : Ct) (n : Nat) : (es : List Expr) → Option (CP call Γ n es)
  | [] => some ⟨[], fun _ => .nil⟩
  | .Name x p :: es => if h : glB Γ.sc x = true ∧ okName x = true then
      match find x Γ.fns with
      | some ⟨q, hq, e⟩ => if hn : q.2.2.1 = n then (cPicks Γ n es).bind fun y => some ⟨call q.2.1 :: y.gs, fun C => by
          have F := C.fnIn hq
          rw [e, hn] at F
          exact .cons (C.gl h.1) (okName_ok h.2).1 F (y.ok C)⟩ else none
      | none => none
    else none
  | _ => none

/-! ### expressions, tests -/
/-- list(range(a)), tuple(range(a)) -/
def cRg (Γ : Ct) (x : Str) (p pos : Pos) : (args : List Expr) → Option (CE call Γ (.Call (.Name x p) args [] pos))
  | [.Call (.Name y p2) [a] [] p3] => if h : y = "range" ∧ glB Γ.sc "range" = true ∧ ("range" : Str) ∈ Γ.blts ∧ nostar a = true then
      if hx : x = "list" then
        if h2 : glB Γ.sc "list" = true ∧ ("list" : Str) ∈ Γ.blts then (rc.e Γ a).bind fun z => some ⟨true, sUn (rgD false) z.f, fun C => by obtain ⟨rfl, h3, h4, h5⟩ := h; subst hx; exact je_listRg C.calm (C.gl h2.1) (C.top.blt _ h2.2) (C.gl h3) (C.top.blt _ h4) (z.ok C) h5⟩ else none
      else if hx : x = "tuple" then
        if h2 : glB Γ.sc "tuple" = true ∧ ("tuple" : Str) ∈ Γ.blts then (rc.e Γ a).bind fun z => some ⟨true, sUn (rgD true) z.f, fun C => by obtain ⟨rfl, h3, h4, h5⟩ := h; subst hx; exact je_tupRg C.calm (C.gl h2.1) (C.top.blt _ h2.2) (C.gl h3) (C.top.blt _ h4) (z.ok C) h5⟩ else none
      else none
    else if h : (y = "set" ∧ glB Γ.sc "set" = true ∧ ("set" : Str) ∈ Γ.blts ∧ nostar a = true) ∧ x = "sorted" ∧ glB Γ.sc "sorted" = true ∧ ("sorted" : Str) ∈ Γ.blts then
      (rc.e Γ a).bind fun z => some ⟨true, sUn ssD z.f, fun C => by obtain ⟨⟨rfl, h3, h4, h5⟩, rfl, h1, h2⟩ := h; exact je_sset C.calm (C.gl h1) (C.top.blt _ h2) (C.gl h3) (C.top.blt _ h4) (z.ok C) h5⟩
    else none
  | _ => none
def cE (Γ : Ct) : (e : Expr) → Option (CE call Γ e)
  | .Constant (.int i) j pos => some ⟨true, sCst (.int i), fun _ => je_int⟩
  | .Constant (.bool i) j pos => some ⟨true, sCst (.bool i), fun _ => je_bool⟩
  | .Constant (.str i) j pos => some ⟨true, sCst (.str i), fun _ => je_str⟩
  | .Constant .none j pos => some ⟨true, sCst .none, fun _ => je_none⟩
  | .Name x pos => cName Γ x pos
  | .BinOp a op b pos => (cOp op).bind fun o => (rc.e Γ a).bind fun x => (rc.e Γ b).bind fun y => some ⟨true, sBin o.o x.f y.f, fun C => je_bin o.ok (x.ok C) (y.ok C)⟩
  | .UnaryOp .USub a pos => (rc.e Γ a).bind fun x => some ⟨true, sUn negD x.f, fun C => je_neg (x.ok C)⟩
  | .UnaryOp .Not a pos => (rc.e Γ a).bind fun x => some ⟨true, sNot x.f, fun C => je_not (x.ok C)⟩
  | .BoolOp .And es pos => cAndE rc Γ pos es
  | .BoolOp .Or es pos => cOrE rc Γ pos es
  | .IfExp t a b pos => (rc.t Γ t).bind fun z => (rc.e Γ a).bind fun x => (rc.e Γ b).bind fun y => if h : x.fr = true ∧ y.fr = true then some ⟨true, sIf z.f x.f y.f, fun C => je_if (z.ok C) (by have := x.ok C; rw [h.1] at this; exact this) (by have := y.ok C; rw [h.2] at this; exact this)⟩ else some ⟨false, sIf z.f x.f y.f, fun C => je_if (z.ok C) (x.ok C).old (y.ok C).old⟩
  | .Compare a [op] [b] pos => (cCmp op).bind fun o => (rc.e Γ a).bind fun x => (rc.e Γ b).bind fun y => if h : notSet b = true then some ⟨true, sBin o.o x.f y.f, fun C => je_cmp (o.ok C.units) (x.ok C) (y.ok C) (notSet_mark h)⟩ else none
  | .Compare a [op, op'] [b, c] pos => (cCmp op).bind fun o => (cCmp op').bind fun o' => (rc.e Γ a).bind fun x => (rc.e Γ b).bind fun y => (rc.e Γ c).bind fun z => if h : notSet c = true then some ⟨true, sChain o.o o'.o x.f y.f z.f, fun C => je_chain (o.ok C.units) (o'.ok C.units) (x.ok C).old (y.ok C) (z.ok C).old (notSet_mark h)⟩ else none
  | .Tuple es k pos => (cAll rc Γ es).bind fun y => if h : y.fs.length ≤ 1000 then some ⟨true, sTup y.fs, fun C => je_tup (y.ok C).all h⟩ else none
  | .List es pos => (cAll rc Γ es).bind fun y => if h : y.fs.length ≤ 1000 then some ⟨true, sLst y.fs, fun C => je_lst (y.ok C).all h⟩ else none
  | .Subscript a (.Slice lo hi none p2) pos => (rc.e Γ a).bind fun x => (cOpt rc Γ lo).bind fun l => (cOpt rc Γ hi).bind fun h => some ⟨true, sSl x.f l.f h.f, fun C => je_slice (x.ok C) (l.ok C) (h.ok C)⟩
  | .Subscript a b pos => if h : plainIxB b = true then (rc.e Γ a).bind fun x => (rc.e Γ b).bind fun y => some ⟨false, sBin getD x.f y.f, fun C => je_ix (x.ok C) (y.ok C) (plainIxB_ok h)⟩ else none
  | .Call (.Name x p) args [] pos => match cRg rc Γ x p pos args with
    | some z => some z
    | none => cCall rules rc Γ x p args pos
  | .Call (.Subscript (.List es p1) ix p2) args [] pos => (cAll rc Γ args).bind fun y => (cPicks Γ y.fs.length es).bind fun P => (rc.e Γ ix).bind fun i => if h : P.gs.length ≤ 1000 ∧ plainIxB ix = true ∧ args ≠ [] then some ⟨false, sPick P.gs i.f y.fs, fun C => je_pick (P.ok C) h.1 (i.ok C) (plainIxB_ok h.2.1) C.room C.tk (y.ok C).all rfl h.2.2⟩ else none
  | .ListComp elt [⟨tg, iter, ifs, 0⟩] scope pos => (cL1 rc Γ elt tg iter ifs scope).bind fun c => some ⟨true, c.f, fun C => c.je C⟩
  | .ListComp elt [⟨tg, iter, ifs, 0⟩, ⟨tg1, iter1, ifs1, 0⟩] scope pos => (cL2 rc Γ elt tg iter ifs tg1 iter1 ifs1 scope).bind fun c => some ⟨true, c.f, fun C => c.je C⟩
  | _ => none
def plainTest : Expr → Bool
  | .UnaryOp .Not _ _ => false
  | .BoolOp .. => false
  | .IfExp .. => false
  | .Compare .. => false
  | _ => true
theorem plainTest_ok {e : Expr} {env : Env} (h : plainTest e = true) : ∀ whole, isTrue e env whole = (do let v ← whole; standAt e.pos; holding [v] (truthy v)) := by
  cases e with
  | UnaryOp op a p => cases op <;> first | (intro _; rfl) | cases h
  | BoolOp _ _ _ => cases h
  | IfExp _ _ _ _ => cases h
  | Compare _ _ _ _ => cases h
  | _ => intro _; rfl
def cT (Γ : Ct) : (e : Expr) → Option (CT call Γ e)
  | .UnaryOp .Not a pos => (rc.t Γ a).bind fun x => some ⟨xNot x.f, fun C => jt_not (x.ok C)⟩
  | .BoolOp .And es pos => (cAndT rc Γ pos es).bind fun x => some ⟨x.f, fun C => (x.ok C).jt⟩
  | .BoolOp .Or es pos => (cOrT rc Γ pos es).bind fun x => some ⟨x.f, fun C => (x.ok C).jt⟩
  | .Compare a [op] [b] pos => (cCmp op).bind fun o => (rc.e Γ a).bind fun x => (rc.e Γ b).bind fun y => if h : notSet b = true then some ⟨xBool (sBin o.o x.f y.f), fun C => jt_cmp (o.ok C.units) (x.ok C) (y.ok C) (notSet_mark h)⟩ else none
  | .Compare a [op, op'] [b, c] pos => (cCmp op).bind fun o => (cCmp op').bind fun o' => (rc.e Γ a).bind fun x => (rc.e Γ b).bind fun y => (rc.e Γ c).bind fun z => if h : notSet c = true then some ⟨xBool (sChain o.o o'.o x.f y.f z.f), fun C => jt_chain (o.ok C.units) (o'.ok C.units) (x.ok C).old (y.ok C) (z.ok C).old (notSet_mark h)⟩ else none
  | e => if h : plainTest e = true then (rc.e Γ e).bind fun x => some ⟨xTru x.f, fun C => jt_truth (x.ok C) (plainTest_ok h)⟩ else none

/-! ### statements -/
def cNamesAt (Γ : Ct) : (es : List Expr) → Option { is : List Nat // ∀ {X : Cx} {cA : Nat → Addr} {W : WX} {k : Nat}, CtxOk call Γ X cA W k → NamesAt X es is }
  | [] => some ⟨[], fun _ => .nil⟩
  | .Name x p :: es => if h : locB Γ.allFn Γ.sc x = true ∧ Γ.N[Γ.N.idxOf x]? = some x then (cNamesAt Γ es).bind fun y => some ⟨Γ.N.idxOf x :: y.1, fun C => .cons (by rw [C.hN]; exact h.2) (C.loc h.1).1 (C.loc h.1).2 (y.2 C)⟩ else none
  | _ => none
theorem swaps_tup {e : Expr} {ts : List Expr} {k : Nat} {p : Pos} {l : Nat} {env : Env} : swapsWithSole [.Tuple ts k p] e l env = pure false := by
  cases e <;> rfl
def notTup : Expr → Bool
  | .Tuple .. => false
  | _ => true
theorem swapped_not {e : Expr} {ts : List Expr} {k : Nat} {p : Pos} {env : Env} (h : notTup e = true) : swappedStores [.Tuple ts k p] e env = pure none := by
  cases e <;> first | rfl | cases h
theorem CtxOk.kindX {Γ : Ct} {X : Cx} {cA : Nat → Addr} {W : WX} {k : Nat} (C : CtxOk call Γ X cA W k) : X.env.scope.kind = .function := by rw [C.hsc]; exact C.kind
/-- a, b = e, f -/
def cPar (Γ : Ct) (fr : Bool) (ts : List Expr) (kt : Nat) (pt : Pos) (vs : List Expr) (k2 : Nat) (pt2 pos : Pos) : Option (CS call Γ fr (.Assign [.Tuple ts kt pt] (.Tuple vs k2 pt2) pos)) :=
  match hsw : swapB Γ.sc ts vs with
  | none => none
  | some none => match cNamesAt (call := call) Γ ts with
    | some n => (cAll rc Γ vs).bind fun y => if h : n.1.length ≤ 1000 then some ⟨oPar n.1 y.frs y.fs, fun C => js_parT C.calm (by rw [C.hN]; exact C.nd) (n.2 C) (y.ok C) h (swapB_ok C.kindX (by rw [C.hsc]; exact hsw))⟩ else none
    | none => (rc.e Γ (.Tuple vs k2 pt2)).bind fun x => (cG rc Γ (.Tuple ts kt pt)).bind fun g => some ⟨oBind g.b x.f, fun C => js_bind (x.ok C) (fun Hin => g.ok C SInv.stor) swaps_tup (swapB_ok C.kindX (by rw [C.hsc]; exact hsw)) rfl⟩
  | some (some names) => match ts, vs with
    | [.Name x px, .Name y py], [a, b] => if h : Γ.sc.names.lookup x = some .local ∧ Γ.sc.names.lookup y = some .local ∧ Γ.N[Γ.N.idxOf x]? = some x ∧ Γ.N[Γ.N.idxOf y]? = some y ∧ Γ.N.idxOf x ≠ Γ.N.idxOf y ∧ names = [x, y] then
        (cAll rc Γ [a, b]).bind fun z => some ⟨oPar [Γ.N.idxOf x, Γ.N.idxOf y] z.frs z.fs, fun C => js_par2 C.calm (by rw [C.hN]; exact C.nd) (by rw [C.hN]; exact h.2.2.1) (by rw [C.hN]; exact h.2.2.2.1) h.2.2.2.2.1 (by rw [C.hsc]; exact h.1) (by rw [C.hsc]; exact h.2.1) (z.ok C) (swapB_ok C.kindX (by rw [C.hsc, hsw, h.2.2.2.2.2]))⟩
      else none
    | [.Name x px, .Name y py, .Name u pu], [a, b, c] => if h : Γ.sc.names.lookup x = some .local ∧ Γ.sc.names.lookup y = some .local ∧ Γ.sc.names.lookup u = some .local ∧ Γ.N[Γ.N.idxOf x]? = some x ∧ Γ.N[Γ.N.idxOf y]? = some y ∧ Γ.N[Γ.N.idxOf u]? = some u ∧ Γ.N.idxOf x ≠ Γ.N.idxOf y ∧ Γ.N.idxOf x ≠ Γ.N.idxOf u ∧ Γ.N.idxOf y ≠ Γ.N.idxOf u ∧ names = [x, y, u] then
        (cAll rc Γ [a, b, c]).bind fun z => some ⟨oPar [Γ.N.idxOf x, Γ.N.idxOf y, Γ.N.idxOf u] z.frs z.fs, fun C => js_par3 C.calm (by rw [C.hN]; exact C.nd) (by rw [C.hN]; exact h.2.2.2.1) (by rw [C.hN]; exact h.2.2.2.2.1) (by rw [C.hN]; exact h.2.2.2.2.2.1) h.2.2.2.2.2.2.1 h.2.2.2.2.2.2.2.1 h.2.2.2.2.2.2.2.2.1 (by rw [C.hsc]; exact h.1) (by rw [C.hsc]; exact h.2.1) (by rw [C.hsc]; exact h.2.2.1) (z.ok C) (swapB_ok C.kindX (by rw [C.hsc, hsw, h.2.2.2.2.2.2.2.2.2]))⟩
      else none
    | _, _ => none
/-- name = e -/
def cSetN (Γ : Ct) (fr : Bool) (x : Str) (p1 : Pos) (e : Expr) (pos : Pos) : Option (CS call Γ fr (.Assign [.Name x p1] e pos)) :=
  if h : Γ.N[Γ.N.idxOf x]? = some x ∧ locB Γ.allFn Γ.sc x = true then
    if hn : notComp e = true then (rc.e Γ e).bind fun y => some ⟨oSet (Γ.N.idxOf x) y.fr y.f, fun C => (jset (by rw [C.hN]; exact C.nd) (by rw [C.hN]; exact h.1) (C.loc h.2).1 (y.ok C) (swaps_not hn) (C.loc h.2).2).js⟩
    else if hl : Γ.sc.names.lookup x = some .local then match e with
      | .ListComp elt [⟨tg, iter, ifs, 0⟩] scope p => if hp : (p1.line == p.line) = true ∧ (scope.names.any fun (n, k) => n == x && (k == .local || k == .cell)) = false then (cL1 rc Γ elt tg iter ifs scope).bind fun c => some ⟨oSet (Γ.N.idxOf x) true c.f, fun C => (jset_lc C.calm (by rw [C.hN]; exact C.nd) (by rw [C.hN]; exact h.1) (by rw [C.hsc]; exact hl) (sw_true C.kindX (by rw [C.hsc]; exact hl) hp.1 hp.2) (c.it.ok C) (C.blkOk c.blk) (fun s H A cl fp => c.g.ok (C.blk (blkC_kind c.blk) s H A cl fp) EOk.stor) c.hI (fun s H A cl fp => c.t.ok (C.blk (blkC_kind c.blk) s H A cl fp)) (fun s H A cl fp => c.e.ok (C.blk (blkC_kind c.blk) s H A cl fp)) (notSet_ok c.hs)).js⟩ else none
      | .ListComp elt [⟨tg, iter, ifs, 0⟩, ⟨tg1, iter1, ifs1, 0⟩] scope p => if hp : (p1.line == p.line) = true ∧ (scope.names.any fun (n, k) => n == x && (k == .local || k == .cell)) = false then (cL2 rc Γ elt tg iter ifs tg1 iter1 ifs1 scope).bind fun c => some ⟨oSet (Γ.N.idxOf x) true c.f, fun C => (jset_lc2 C.calm (by rw [C.hN]; exact C.nd) (by rw [C.hN]; exact h.1) (by rw [C.hsc]; exact hl) (sw_true C.kindX (by rw [C.hsc]; exact hl) hp.1 hp.2) (c.it.ok C) (C.blkOk c.blk) c.hI1 (fun H1 s H A cl fp => c.g.ok (C.blk (blkC_kind c.blk) s H A cl fp) E2.stor) c.hI (fun s H A cl fp => c.t.ok (C.blk (blkC_kind c.blk) s H A cl fp)) (fun s H A cl fp => c.it1.ok (C.blk (blkC_kind c.blk) s H A cl fp)) (fun s H A cl fp => c.g1.ok (C.blk (blkC_kind c.blk) s H A cl fp) EOk.stor) (fun i h => h) (fun s H A cl fp => c.t1.ok (C.blk (blkC_kind c.blk) s H A cl fp)) (fun s H A cl fp => c.e.ok (C.blk (blkC_kind c.blk) s H A cl fp)) (notSet_ok c.hs) (fun env => notSet_ok c.hs1)).js⟩ else none
      | _ => none
    else match e with
      | .ListComp elt gens scope p => (rc.e Γ (.ListComp elt gens scope p)).bind fun y => some ⟨oSet (Γ.N.idxOf x) y.fr y.f, fun C => (jset (by rw [C.hN]; exact C.nd) (by rw [C.hN]; exact h.1) (C.loc h.2).1 (y.ok C) (sw_false (by rw [C.hsc]; exact hl)) (C.loc h.2).2).js⟩
      | _ => none
  else none

/-! ### except suites -/
def cDisp (Γ : Ct) (ie : Nat) : (es : List Expr) → Option { ks : List Nat // ∀ {X : Cx} {cA : Nat → Addr} {W : WX} {k : Nat}, CtxOk call Γ X cA W k → Disp X cA ie es ks ∧ ∀ k' ∈ ks, True }
  | [] => some ⟨[], fun _ => ⟨.nil, fun _ _ => trivial⟩⟩
  | .Call (.Name i p) [.Name n p1, .Name x p2] [] pos :: es => if h : i = "isinstance" ∧ Γ.N[ie]? = some n ∧ visB Γ.sc n = true ∧ okName n = true ∧ glB Γ.sc x = true ∧ okName x = true then
      match find x Γ.excs with
      | some ⟨q, hq, e⟩ => if hne : q.2 ≠ 0 then (cDisp Γ ie es).bind fun y => some ⟨q.2 :: y.1, fun C => by
          obtain ⟨hi, h1, h2, h3, h4, h5⟩ := h
          subst hi
          have E := (C.top.exc q hq).1
          rw [e] at E
          exact ⟨.cons (by rw [C.hN]; exact h1) (C.vis h2) (okName_ok h3).1 (okName_ok h3).2.1 ⟨C.gl h4, (okName_ok h5).1, E⟩ (fun c => C.top.kit c q hq hne) (y.2 C).1, fun _ _ => trivial⟩⟩ else none
      | none => none
    else none
  | _ => none
def cFE (Γ : Ct) (ie jf : Nat) : Nat → (e : Expr) → Option { fe : FE // ∀ {X : Cx} {cA : Nat → Addr} {W : WX} {k : Nat}, CtxOk call Γ X cA W k → JFE X cA ie jf e fe }
  | 0, _ => none
  | _ + 1, .List es pos => (cDisp (call := call) Γ ie es).bind fun y => some ⟨.disp y.1, fun C => .disp (y.2 C).1⟩
  | _ + 1, .Name n p => if h : Γ.N[jf]? = some n ∧ visB Γ.sc n = true ∧ okName n = true then some ⟨.var, fun C => .var (by rw [C.hN]; exact h.1) (C.vis h.2.1) (okName_ok h.2.2).1 (okName_ok h.2.2).2.1⟩ else none
  | m + 1, .BinOp a .Add b pos => (cFE Γ ie jf m a).bind fun x => (cFE Γ ie jf m b).bind fun y => some ⟨.cat x.1 y.1, fun C => .cat (x.2 C) (y.2 C)⟩
  | _ + 1, _ => none
def notSuper : Expr → Bool
  | .Call .. => false
  | _ => true
theorem notSuper_ok {e : Expr} {x : Str} (h : notSuper e = true) : ∀ env, attributeBase e x env (eval e env) = eval e env := fun env => by
  cases e <;> first | rfl | cases h
def cSu (Γ : Ct) (ie jf : Nat) : (sts : List Stmt) → Option { p : List FE × FE // ∀ {X : Cx} {cA : Nat → Addr} {W : WX} {k : Nat}, CtxOk call Γ X cA W k → JSu X cA ie jf sts p.1 p.2 }
  | [.Return (some (.Call (.Attribute e a apos) [.Constant (.bool true) j p1] [] cpos)) pos] => if h : a = "index" ∧ (apos.endLine == cpos.line) = true ∧ notSuper e = true then (cFE (call := call) Γ ie jf 8 e).bind fun x => some ⟨([], x.1), fun C => by
      obtain ⟨ha, h1, h2⟩ := h
      subst ha
      exact .ret (x.2 C) h1 (notSuper_ok h2)⟩ else none
  | .Assign [.Name n p1] e pos :: sts => if h : Γ.N[jf]? = some n ∧ ie ≠ jf ∧ Γ.sc.names.lookup n = some .local ∧ notComp e = true then (cFE (call := call) Γ ie jf 8 e).bind fun x => (cSu Γ ie jf sts).bind fun y => some ⟨(x.1 :: y.1.1, y.1.2), fun C => .set (by rw [C.hN]; exact h.1) h.2.1 (by rw [C.hsc]; exact h.2.2.1) h.2.2.2 (x.2 C) (y.2 C)⟩ else none
  | _ => none
/-- the name that the suite stores -/
def sufN : List Stmt → Option Str
  | .Assign [.Name n _] _ _ :: _ => some n
  | _ => none
def whileN : Nat := 100000
def cS (Γ : Ct) (fr : Bool) : (st : Stmt) → Option (CS call Γ fr st)
  | .Assign [.Name x p1] e pos => cSetN rc Γ fr x p1 e pos
  | .Assign [.Tuple ts kt pt] (.Tuple vs k2 pt2) pos => cPar rc Γ fr ts kt pt vs k2 pt2 pos
  | .Assign [.Tuple ts kt pt] e pos => if h : notTup e = true then (rc.e Γ e).bind fun x => (cG rc Γ (.Tuple ts kt pt)).bind fun g => some ⟨oBind g.b x.f, fun C => js_bind (x.ok C) (fun Hin => g.ok C SInv.stor) swaps_tup (swapped_not h) rfl⟩ else none
  | .Expr (.Call (.Attribute (.Name x p1) m apos) [e] [] cpos) pos => if h : Γ.N[Γ.N.idxOf x]? = some x ∧ visB Γ.sc x = true ∧ okName x = true ∧ nostar e = true ∧ (apos.endLine == cpos.line) = true then
      (rc.e Γ e).bind fun y => if hm : m = "append" then some ⟨oAppend (Γ.N.idxOf x) y.f, fun C => by
          obtain ⟨h1, h2, h3, h4, h5⟩ := h
          subst hm
          exact js_append (by rw [C.hN]; exact h1) (C.vis h2) (okName_ok h3).1 (okName_ok h3).2.1 (y.ok C) h4 h5⟩
        else if hm : m = "remove" then some ⟨oRemove (Γ.N.idxOf x) y.f, fun C => by
          obtain ⟨h1, h2, h3, h4, h5⟩ := h
          subst hm
          exact js_remove (by rw [C.hN]; exact h1) (C.vis h2) (okName_ok h3).1 (okName_ok h3).2.1 (y.ok C) h4 h5⟩
        else if hm : m = "extend" ∧ y.fr = true then some ⟨oExtend (Γ.N.idxOf x) y.f, fun C => by
          obtain ⟨h1, h2, h3, h4, h5⟩ := h
          obtain ⟨hm, hf⟩ := hm
          subst hm
          have yo := y.ok C
          rw [hf] at yo
          exact js_extend (by rw [C.hN]; exact h1) (C.vis h2) (okName_ok h3).1 (okName_ok h3).2.1 yo h4 h5⟩
        else none
    else none
  | .Expr e pos => if h : notComp e = true then (rc.e Γ e).bind fun x => some ⟨oDrop x.f, fun C => js_expr (x.ok C) h⟩ else none
  | .Return (some (.Name x p1)) pos => if h : visB Γ.sc x = true ∧ Γ.N[Γ.N.idxOf x]? = some x ∧ okName x = true ∧ fr = true then some ⟨oRetN (Γ.N.idxOf x), fun C => js_retN (by rw [C.hN]; exact h.2.1) (C.vis h.1) (okName_ok h.2.2.1).1 (okName_ok h.2.2.1).2.1⟩
      else if hf : fr = false then (rc.e Γ (.Name x p1)).bind fun y => some ⟨oRet y.f, fun C => by subst hf; exact js_ret (y.ok C).old⟩ else none
  | .Return (some e) pos => (rc.e Γ e).bind fun y => if hf : fr = false then some ⟨oRet y.f, fun C => by subst hf; exact js_ret (y.ok C).old⟩ else if hy : y.fr = fr then some ⟨oRet y.f, fun C => js_ret (by have := y.ok C; rw [hy] at this; exact this)⟩ else none
  | .If t a b pos => (rc.t Γ t).bind fun z => (rc.ss Γ fr a).bind fun x => (rc.ss Γ fr b).bind fun y => some ⟨oIf z.f x.f y.f, fun C => js_if (z.ok C) (x.ok C) (y.ok C)⟩
  | .For tg iter body [] pos => if h : notSet iter = true then (cI rc Γ tg iter).bind fun it => (cG rc Γ tg).bind fun g => (rc.ss Γ fr body).bind fun b => some ⟨oFor it.fr it.f it.its g.b b.f, fun C => js_for C.po C.calm (it.ok C) (fun Hin => g.ok C SInv.stor) (b.ok C) (notSet_ok h)⟩ else none
  | .While t body [] pos => (rc.t Γ t).bind fun z => (rc.ss Γ fr body).bind fun b => some ⟨whileGo z.f b.f whileN, fun C => js_while C.po (z.ok C) (b.ok C)⟩
  | .Raise (some (.Call (.Name x p) [.Constant (.str m) j p2] [] p3)) none pos => if h : glB Γ.sc x = true ∧ okName x = true then match find x Γ.excs with
      | some ⟨q, hq, e⟩ => some ⟨oRaise q.2, fun C => by
          obtain ⟨e1, e2, e3, e4, e5⟩ := C.top.exc q hq
          rw [e] at e1
          exact js_raise C.calm C.tk ⟨e1, e2, e3, e4, e5⟩ (C.gl h.1) (okName_ok h.2).1⟩
      | none => none
    else none
  | .Try body [.ExceptHandler (some (.Name x np)) (some n) (b₀ :: suite) pos'] [] [] pos => if h : Γ.isDef = true ∧ glB Γ.sc x = true ∧ okName x = true ∧ Γ.N[Γ.N.idxOf n]? = some n ∧ Γ.sc.names.lookup n = some .local ∧ glB Γ.sc "isinstance" = true ∧ ("isinstance" : Str) ∈ Γ.blts then
      match find x Γ.excs with
      | some ⟨q, hq, e⟩ => if h0 : q.2 = 0 then (rc.ss Γ.tr fr body).bind fun b => (cSu (call := call) Γ (Γ.N.idxOf n) (Γ.N.idxOf ((sufN (b₀ :: suite)).getD n)) (b₀ :: suite)).bind fun u => some ⟨oTry (Γ.N.idxOf n) (Γ.N.idxOf ((sufN (b₀ :: suite)).getD n)) b.f u.1.1 u.1.2, fun C => by
          have E := (C.top.exc q hq).1
          rw [e, h0] at E
          exact js_try (C.stk h.1).1 (C.stk h.1).2 (by rw [C.hN]; exact C.nd) (by rw [C.hN]; exact h.2.2.2.1) (by rw [C.hsc]; exact h.2.2.2.2.1) (C.gl h.2.1) (okName_ok h.2.2.1).1 E C.tk (C.gl h.2.2.2.2.2.1) (C.top.blt _ h.2.2.2.2.2.2) C.top.cls.1 C.top.cls.2 (fun W' pn xe t po => b.ok (C.toTr t po)) (u.2 C)⟩ else none
      | none => none
    else none
  | .Pass pos => some ⟨oNil, fun _ => js_pass⟩
  | _ => none
def cSs (Γ : Ct) (fr : Bool) : (sts : List Stmt) → Option (CSs call Γ fr sts)
  | [] => some ⟨oNil, fun _ => jss_nil⟩
  | st :: sts => (cS rc Γ fr st).bind fun x => (cSs Γ fr sts).bind fun y => some ⟨oSeq x.f y.f, fun C => jss_cons (x.ok C) (y.ok C)⟩
end
def comp (call : CallS) (rules : List BRule) : Nat → Rc call
  | 0 => ⟨fun _ _ => none, fun _ _ => none, fun _ _ => none, fun _ _ _ => none⟩
  | n + 1 => ⟨cE rules (comp call rules n), cT (comp call rules n), cG (comp call rules n), cSs (comp call rules n)⟩
end Py

set_option Elab.async false
set_option linter.all false
set_option maxRecDepth 100000
set_option maxHeartbeats 4000000
/-! Own layer, part 11: a whole program: its table of defs, the induction over the depth of calls, the head. -/
namespace Py
open PySem PySem.Spec L2
open PyProof.Rows hiding St

structure DRec where
  name : Str
  ix : Nat
  N : List Str
  ps : List Str
  fr : Bool
  body : CallS → Sx
structure Tab where
  top : Nat → Stmt
  recs : List DRec
  cints : List (Str × Int)
  cstrs : List (Str × Str)
  excs : List Str
  blts : List Str
  rules : List BRule
def fnsFrom (n : Nat) : List DRec → List (Str × Nat × Nat × Bool)
  | [] => []
  | r :: l => (r.name, n, r.ps.length, r.fr) :: fnsFrom (n + 1) l
def excsFrom (n : Nat) : List Str → List (Str × Nat)
  | [] => []
  | x :: l => (x, n) :: excsFrom (n + 1) l
def Tab.ct (T : Tab) (r : DRec) : Ct where
  N := r.N
  sc := defScope (T.top r.ix)
  allFn := true
  isDef := true
  fns := fnsFrom 0 T.recs
  cst := T.cints.map (fun p => (p.1, .int p.2)) ++ T.cstrs.map fun p => (p.1, .str p.2)
  excs := excsFrom 0 T.excs
  blts := T.blts
def finish : Out → Res D
  | .nx _ => .ok .none
  | .rt d => .ok d
  | .exc c _ => .exc c
  | .bad => .bad
def env0 (n : Nat) (ds : List D) : Env' := ds.map Sl.dat ++ List.replicate (n - ds.length) Sl.un
def runB (r : DRec) (call : CallS) (ds : List D) : Res D := if ds.length = r.ps.length then finish (r.body call (env0 r.N.length ds)) else .bad
def callN (recs : List DRec) : Nat → CallS
  | 0 => fun _ _ => .bad
  | n + 1 => fun i ds => match recs[i]? with
    | some r => runB r (callN recs n) ds
    | none => .bad
/-- what is checked of each def -/
structure WfR (T : Tab) (r : DRec) : Prop where
  sc : FnScope r.N r.ps (defScope (T.top r.ix))
  bd : ∀ (kV doc pm : Value) (an : Option Addr) (cdv ct : Value) (us : List Value), us.length = r.ps.length → bindArgs (PySem.W.fnOf r.name r.name (defArgs (T.top r.ix)) (defBody (T.top r.ix)) (defScope (T.top r.ix)) .none kV doc pm an cdv ct) ⟨us, []⟩ = pure (r.ps.zip us)
  cp : ∀ call : CallS, ((comp call T.rules 40).ss (T.ct r) r.fr (defBody (T.top r.ix))).map (·.f) = some (r.body call)
theorem mem_fnsFrom : ∀ {l : List DRec} {n : Nat} {p : Str × Nat × Nat × Bool}, p ∈ fnsFrom n l → ∃ i r, l[i]? = some r ∧ p = (r.name, n + i, r.ps.length, r.fr)
  | [], _, _, h => by cases h
  | r :: l, n, p, h => by
    rcases List.mem_cons.mp h with rfl | h
    · exact ⟨0, r, rfl, rfl⟩
    · obtain ⟨i, q, e, z⟩ := mem_fnsFrom h
      exact ⟨i + 1, q, by simpa using e, by rw [z]; simp only [Prod.mk.injEq, and_true, true_and]; omega⟩
theorem mem_excsFrom : ∀ {l : List Str} {n : Nat} {p : Str × Nat}, p ∈ excsFrom n l → ∃ i, l[i]? = some p.1 ∧ p.2 = n + i
  | [], _, _, h => by cases h
  | r :: l, n, p, h => by
    rcases List.mem_cons.mp h with rfl | h
    · exact ⟨0, rfl, rfl⟩
    · obtain ⟨i, e, z⟩ := mem_excsFrom h
      exact ⟨i + 1, by simpa using e, by omega⟩
theorem SInv.start {K : PySem.W.Frag} {H : Hp} {N : List Str} {vs : List V} {ds : List D} (r : RepAll K H vs ds) : SInv K H (env0 N.length ds) (start N vs) H := by
  have l := r.length
  have hh : hidL [] H = H := by funext a; exact hidL_out (by simp)
  refine ⟨by unfold env0 L2.start; simp [l], Same.refl _, [], fun a ha => (nomatch ha), fun i d e => ?_, fun i d e => ?_, fun i j d e a e1 => ?_⟩
  · rw [hh]
    unfold env0 at e
    unfold L2.start
    by_cases hi : i < ds.length
    · rw [List.getElem?_append_left (by simpa using hi), List.getElem?_map] at e
      cases e2 : ds[i]? with
      | none => rw [e2] at e; cases e
      | some d' =>
        rw [e2] at e
        cases e
        obtain ⟨v, e3, rv⟩ := r.getD e2
        refine ⟨v, ?_, rv⟩
        rw [List.getElem?_append_left (by rw [List.length_map]; omega), List.getElem?_map, e3]
        rfl
    · rw [List.getElem?_append_right (by simpa using hi)] at e
      have := List.mem_of_getElem? e
      rw [List.mem_replicate] at this
      cases this.2
  · unfold env0 at e
    have := List.mem_of_getElem? e
    rcases List.mem_append.mp this with z | z
    · obtain ⟨x, _, z⟩ := List.mem_map.mp z; cases z
    · rw [List.mem_replicate] at z; cases z.2
  · unfold env0 at e1
    have := List.mem_of_getElem? e1
    rcases List.mem_append.mp this with z | z
    · obtain ⟨x, _, z⟩ := List.mem_map.mp z; cases z
    · rw [List.mem_replicate] at z; cases z.2
/-- what the top has left -/
structure Left (T : Tab) (K : PySem.W.Frag) (mg : Str → Option Value) (cA : Nat → Addr) : Prop where
  fn : ∀ r ∈ T.recs, ∃ (f : Addr) (fd : FuncData), mg r.name = some (.ref f) ∧ FunD K r.name r.name (defArgs (T.top r.ix)) (defBody (T.top r.ix)) (defScope (T.top r.ix)) [] [] f fd
  int : ∀ p ∈ T.cints, ∃ t, mg p.1 = some (.int p.2 t)
  str : ∀ p ∈ T.cstrs, ∃ t, mg p.1 = some (.str p.2 t)
  blt : ∀ x ∈ T.blts, mg x = none
  exc : ∀ (i : Nat) (x : Str), T.excs[i]? = some x → mg x = some (.ref (cA i)) ∧ PySem.W.excIn K (cA i) He.veBase "ValueError.__new__" = true ∧ PySem.W.keepIn K (.ref (cA i)) = true ∧ PySem.W.subIn K (.ref (cA i)) (.type "BaseException") = some true ∧ PySem.W.typeIn K (.ref (cA i)) = some (.type "type")
  cls : (∀ c, ExcC K (cA c)) ∧ (∀ c, PySem.W.exmOne K (.ref (cA c)) (.ref (cA 0)) = some true)
  kit : ∀ (c i : Nat), i < T.excs.length → i ≠ 0 → PySem.W.kitOne K (.ref (cA c)) (.ref (cA i)) = some (i == c)
theorem fn_step {T : Tab} {P : Program} {w : World} {K : PySem.W.Frag} {mg : Str → Option Value} {base : Heap} {cA : Nat → Addr} {n i : Nat} {r : DRec} {f : Addr} {fd : FuncData} (wr : WfR T r) (e : T.recs[i]? = some r) (F : FunD K r.name r.name (defArgs (T.top r.ix)) (defBody (T.top r.ix)) (defScope (T.top r.ix)) [] [] f fd)
    (ih : TopOk (callN T.recs n) (T.ct r) P w K mg base cA n) : FnOk P w K mg base (L2.CX P w) (n + 1) f fd r.ps (spOf K cA r.fr r.ps.length (callN T.recs (n + 1) i)) := by
  refine F.ok wr.sc (fun vs H Q E h => h.1) fun cdv A outer s H vs Q E room h => ?_
  obtain ⟨c, e1, e2⟩ := Option.map_eq_some_iff.mp (wr.cp (callN T.recs n))
  let X : Cx := cxOf (L2.CX P w) P w K mg base r.N r.name (defScope (T.top r.ix)) f cdv A outer s H E
  have C : CtxOk (callN T.recs n) (T.ct r) X cA (fun cls d _ H' => E cls d H') n :=
    ⟨rfl, rfl, wr.sc.nd, wr.sc.kind, rfl, room, takes_of rfl rfl rfl rfl, passes_of rfl, fun _ _ => rfl, fun _ => ⟨rfl, rfl⟩, ih⟩
  have J := c.ok C
  rw [e2] at J
  obtain ⟨hl, ds, rr, hq⟩ := h
  refine ⟨_, J H, env0 r.N.length ds, SInv.start rr, ?_⟩
  have ld : ds.length = r.ps.length := by rw [← rr.length]; exact hl
  have ec : callN T.recs (n + 1) i ds = finish (r.body (callN T.recs n) (env0 r.N.length ds)) := by
    show (match T.recs[i]? with | some r => runB r (callN T.recs n) ds | none => .bad) = _
    rw [e]
    show runB r (callN T.recs n) ds = _
    unfold runB
    rw [if_pos ld]
  simp only [ec] at hq
  cases eo : r.body (callN T.recs n) (env0 r.N.length ds) with
  | nx ρ => rw [eo] at hq; exact fun σ' H' i' => hq .non H' i'.same .non fun _ z => by cases z
  | rt d => rw [eo] at hq; exact hq
  | exc c ρ => rw [eo] at hq; exact fun σ' H' i' => hq H' i'.same
  | bad => rw [eo] at hq; exact hq
theorem top_ok {T : Tab} (wf : ∀ r ∈ T.recs, WfR T r) {P : Program} {w : World} {K : PySem.W.Frag} {mg : Str → Option Value} {base : Heap} {cA : Nat → Addr} (L : Left T K mg cA) : ∀ (n : Nat) (r0 : DRec), TopOk (callN T.recs n) (T.ct r0) P w K mg base cA n := by
  have rest : ∀ (n : Nat) (r0 : DRec), (∀ p ∈ fnsFrom 0 T.recs, ∃ (f : Addr) (fd : FuncData) (ps : List Str), mg p.1 = some (.ref f) ∧ PySem.W.keepIn K (.ref f) = true ∧ Binds K fd ps [] ∧ FnOk P w K mg base (L2.CX P w) n f fd ps (spOf K cA p.2.2.2 p.2.2.1 (callN T.recs n p.2.1))) → TopOk (callN T.recs n) (T.ct r0) P w K mg base cA n := by
    intro n r0 h
    refine ⟨h, fun p hp => ?_, L.blt, fun p hp => ?_, L.cls, fun c p hp h0 => ?_⟩
    · rcases List.mem_append.mp hp with z | z
      · obtain ⟨q, hq, rfl⟩ := List.mem_map.mp z
        obtain ⟨t, e⟩ := L.int q hq
        exact ⟨_, .int q.2, e, ⟨t, rfl⟩, fun H => .int _, rfl⟩
      · obtain ⟨q, hq, rfl⟩ := List.mem_map.mp z
        obtain ⟨t, e⟩ := L.str q hq
        exact ⟨_, .str q.2, e, ⟨t, rfl⟩, fun H => .str _, rfl⟩
    · obtain ⟨i, e, z⟩ := mem_excsFrom hp
      rw [Nat.zero_add] at z
      have := L.exc i p.1 e
      rw [← z] at this
      exact this
    · obtain ⟨i, e, z⟩ := mem_excsFrom hp
      rw [Nat.zero_add] at z
      rw [z] at h0 ⊢
      exact L.kit c i (List.getElem?_eq_some_iff.mp e).1 h0
  intro n
  induction n with
  | zero =>
    intro r0
    refine rest 0 r0 fun p hp => ?_
    obtain ⟨i, r, e, rfl⟩ := mem_fnsFrom hp
    have hr := List.mem_of_getElem? e
    obtain ⟨f, fd, hm, F⟩ := L.fn r hr
    refine ⟨f, fd, r.ps, hm, F.kp, F.bindsN (wf r hr).bd, ⟨fun vs H Q E h => h.1, fun A outer s H args us vs Q E _ _ _ _ h => ?_⟩⟩
    obtain ⟨_, ds, _, h⟩ := h
    exact h.elim
  | succ n ih =>
    intro r0
    refine rest (n + 1) r0 fun p hp => ?_
    obtain ⟨i, r, e, rfl⟩ := mem_fnsFrom hp
    have hr := List.mem_of_getElem? e
    obtain ⟨f, fd, hm, F⟩ := L.fn r hr
    have wr := wf r hr
    exact ⟨f, fd, r.ps, hm, F.kp, F.bindsN wr.bd, by show FnOk _ _ _ _ _ _ _ _ _ _ (spOf K cA r.fr r.ps.length (callN T.recs (n + 1) (0 + i))); rw [Nat.zero_add]; exact fn_step wr e F (ih r)⟩

/-! ### the head -/
def noList (K : PySem.W.Frag) : Bool := K.all fun p => !(p.2.cls == .type "list")
theorem memLk : ∀ {l : List (Addr × Obj)} {a : Addr} {o : Obj}, l.lookup a = some o → (a, o) ∈ l
  | [], _, _, h => by cases h
  | (b, u) :: l, a, o, h => by
    rw [List.lookup_cons] at h
    cases e : a == b with
    | true =>
      rw [e] at h
      cases h
      rw [beq_iff_eq.mp e]
      exact List.mem_cons_self
    | false =>
      rw [e] at h
      exact List.mem_cons_of_mem _ (memLk h)
theorem noList_ok {K : PySem.W.Frag} (h : noList K = true) {a : Addr} {o : Obj} (e : K.lookup a = some o) : o.cls ≠ .type "list" := fun z => by
  have := List.all_eq_true.mp h (a, o) (memLk e)
  rw [z] at this
  simp at this
def asN (g : Addr → Option Obj) (n : Nat) : List Addr := (He.asD g n).filter fun a => match g a with
  | some o => !(o.cls == .type "list")
  | none => true
def obsP (n : Nat) (chk : PySem.W.Frag → Bool) (fn : List He.DefD) (g : Addr → Option Obj) : Bool × He.AlD := (chk (He.frG g (asN g n)), He.obsD [] fn (He.frG g (asN g n)))
def hookP (n : Nat) (chk : PySem.W.Frag → Bool) (fn : List He.DefD) : PySem.W.Hook where
  α := Bool × He.AlD
  obs := fun s => obsP n chk fn s.heap.get?
  val := fun _ => (true, He.valD fn)
  says := fun _ h => ∃ K : PySem.W.Frag, K.In h ∧ chk K = true ∧ He.SaysD [] fn K
  of := fun _ _ e => ⟨_, He.frG_in, congrArg Prod.fst e, congrArg Prod.snd e⟩
  keeps := fun _ _ _ ⟨K, hK, c⟩ k => ⟨K, PySem.W.Frag.In.keeps hK k, c⟩
theorem obsP_eq {n : Nat} {chk : PySem.W.Frag → Bool} {fn : List He.DefD} {g : Addr → Option Obj} {s : Shared} (h : ∀ a, g a = s.heap.get? a) : obsP n chk fn g = (hookP n chk fn).obs s := by
  have e : g = s.heap.get? := funext h
  rw [e] <;> rfl
def clsA (excs : List Str) (K : PySem.W.Frag) (c : Nat) : Addr := He.ga K (excs.getD c (excs.getD 0 ""))
def excCB (K : PySem.W.Frag) (D : Addr) : Bool :=
  He.eqO (PySem.W.findIn K (.ref D) "__getattribute__") (some (some (.builtin "BaseException.__getattribute__"))) && He.eqO (PySem.W.findIn K (.ref D) "__getattr__") (some none) && decide (PySem.W.subIn K (.ref D) (.type "BaseException") = some true) && PySem.W.hasDictIn K D &&
  He.eqO (PySem.W.findIn K (.ref D) "__class__") (some (some (.builtin "object.__class__"))) && He.eqO (PySem.W.specialIn K (.builtin "object.__class__") "__get__") (some (some (.builtin "getset_descriptor.__get__"))) && decide (PySem.W.takesIn K (.builtin "object.__class__") = some true) && decide (PySem.W.mroIn K D (.type "object") = some true)
theorem excCB_ok {K : PySem.W.Frag} {D : Addr} (h : excCB K D = true) : ExcC K D := by
  unfold excCB at h
  simp only [Bool.and_eq_true, decide_eq_true_eq] at h
  obtain ⟨⟨⟨⟨⟨⟨⟨h1, h2⟩, h3⟩, h4⟩, h5⟩, h6⟩, h7⟩, h8⟩ := h
  exact ⟨He.eqO_ok h1, He.eqO_ok h2, h3, h4, He.eqO_ok h5, He.eqO_ok h6, h7, h8⟩
/-- all that is asked of the top -/
def Tab.chk (T : Tab) (K : PySem.W.Frag) : Bool :=
  noList K && (T.recs.all fun r => (He.Fa.glo r.name).ok K) && (T.cints.all fun p => (He.Fa.int p.1 p.2).ok K) && (T.cstrs.all fun p => (He.Fa.str p.1 p.2).ok K) && (T.blts.all fun x => (He.Fa.free x).ok K) &&
  (T.excs.all fun x => (He.Fa.glo x).ok K && (He.Fa.exc x).ok K) && ((List.range (T.excs.length + 1)).all fun c => excCB K (clsA T.excs K c) && decide (PySem.W.exmOne K (.ref (clsA T.excs K c)) (.ref (clsA T.excs K 0)) = some true) &&
    (List.range T.excs.length).all fun i => i == 0 || decide (PySem.W.kitOne K (.ref (clsA T.excs K c)) (.ref (clsA T.excs K i)) = some (i == c)))
def Tab.defs (T : Tab) : List He.DefD := T.recs.map fun r => ⟨(r.name, none), r.name, r.name, defArgs (T.top r.ix), defBody (T.top r.ix), defScope (T.top r.ix), [], []⟩
theorem clsA_big {excs : List Str} {K : PySem.W.Frag} {c : Nat} (h : excs.length ≤ c) : clsA excs K c = clsA excs K excs.length := by
  unfold clsA
  rw [List.getD_eq_getElem?_getD, List.getD_eq_getElem?_getD (i := excs.length), List.getElem?_eq_none h, List.getElem?_eq_none (Nat.le_refl _)]
theorem left_of {T : Tab} {K : PySem.W.Frag} {h : Heap} {mg : Str → Option Value} (X : K.In h) (G : h.Ns mainGlobals mg) (c : T.chk K = true) (d : He.SaysD [] T.defs K) : Left T K mg (clsA T.excs K) := by
  unfold Tab.chk at c
  simp only [Bool.and_eq_true] at c
  obtain ⟨⟨⟨⟨⟨⟨c0, c1⟩, c2⟩, c3⟩, c4⟩, c5⟩, c6⟩ := c
  have all : ∀ i, i ≤ T.excs.length → excCB K (clsA T.excs K i) = true ∧ PySem.W.exmOne K (.ref (clsA T.excs K i)) (.ref (clsA T.excs K 0)) = some true ∧ ∀ j, j < T.excs.length → j ≠ 0 → PySem.W.kitOne K (.ref (clsA T.excs K i)) (.ref (clsA T.excs K j)) = some (j == i) := fun i hi => by
    have z := List.all_eq_true.mp c6 i (List.mem_range.mpr (by omega))
    simp only [Bool.and_eq_true, decide_eq_true_eq] at z
    refine ⟨z.1.1, z.1.2, fun j hj h0 => ?_⟩
    have y := List.all_eq_true.mp z.2 j (List.mem_range.mpr hj)
    simp only [Bool.or_eq_true, beq_iff_eq, decide_eq_true_eq] at y
    exact y.resolve_left h0
  refine ⟨fun r hr => ?_, fun p hp => ?_, fun p hp => ?_, fun x hx => ?_, fun i x e => ?_, ⟨fun i => ?_, fun i => ?_⟩, fun i j hj h0 => ?_⟩
  · obtain ⟨i, e⟩ := List.getElem?_of_mem hr
    have e' : T.defs[i]? = some ⟨(r.name, none), r.name, r.name, defArgs (T.top r.ix), defBody (T.top r.ix), defScope (T.top r.ix), [], []⟩ := by
      unfold Tab.defs
      rw [List.getElem?_map, e]
      rfl
    obtain ⟨fd, F⟩ := d.def_ i e'
    exact ⟨_, fd, He.glo_ok X G (List.all_eq_true.mp c1 r hr), F⟩
  · exact He.int_ok X G (List.all_eq_true.mp c2 p hp)
  · exact He.str_ok X G (List.all_eq_true.mp c3 p hp)
  · exact He.free_ok X G (List.all_eq_true.mp c4 x hx)
  · have z := List.all_eq_true.mp c5 x (List.mem_of_getElem? e)
    simp only [Bool.and_eq_true] at z
    have ea : clsA T.excs K i = He.ga K x := by
      unfold clsA
      rw [List.getD_eq_getElem?_getD, e]
      rfl
    rw [ea]
    obtain ⟨q1, q2, q3, q4⟩ := He.exc_ok z.2
    exact ⟨He.glo_ok X G z.1, q1, q2, q3, q4⟩
  · by_cases hi : i ≤ T.excs.length
    · exact excCB_ok (all i hi).1
    · rw [clsA_big (by omega)]
      exact excCB_ok (all _ (Nat.le_refl _)).1
  · by_cases hi : i ≤ T.excs.length
    · exact (all i hi).2.1
    · rw [clsA_big (c := i) (by omega)]
      exact (all _ (Nat.le_refl _)).2.1
  · by_cases hi : i ≤ T.excs.length
    · exact (all i hi).2.2 j hj h0
    · have e1 : (j == i) = false := beq_eq_false_iff_ne.mpr (by omega)
      have e2 := (all _ (Nat.le_refl _)).2.2 j hj h0
      rw [clsA_big (c := i) (by omega), e2, e1]
      congr 1
      exact beq_eq_false_iff_ne.mpr (by omega)

/-- THE LAW, from its run on data -/
theorem law_sp {T : Tab} {K : PySem.W.Frag} {cA : Nat → Addr} (hk : noList K = true) {n i : Nat} {fr : Bool} (H : Hp) (a : Addr) (ns : List Int) (hS : SqL K H a (ns.map V.int)) (h : callN T.recs n i [.list (ns.map PyData.int)] = .ok (.bool true)) :
    spOf K cA fr 1 (callN T.recs n i) [.ref a] H (fun v _ => v = .bl true) fun _ _ _ => False := by
  refine ⟨rfl, [.list (ns.map PyData.int)], .cons (.lst ?_ (RepAll.ints ns)) .nil, ?_⟩
  · rcases hS with z | ⟨o, its, m, e, c, _⟩
    · exact z
    · exact absurd c (noList_ok hk e)
  · rw [h]
    intro v H' _ r _
    exact r.inv_bool
theorem law_end {T : Tab} {P : Program} {w : World} {K : PySem.W.Frag} {h : Heap} {mg : Str → Option Value} {i n : Nat} {r : DRec} {fa : Addr} (wf : ∀ r ∈ T.recs, WfR T r) (KX : K.In h) (G : h.Ns mainGlobals mg) (c : T.chk K = true) (d : He.SaysD [] T.defs K) (hi : T.recs[i]? = some r) (hnm : r.name = "law") (hps : r.ps = ([("script" : Str)] : List Str)) (hmg : mg ("law" : Str) = some (.ref fa))
    (hlaw : ∀ ns : List Int, ns.length ≤ 63 → callN T.recs (n + 1) i [.list (ns.map PyData.int)] = .ok (.bool true)) :
    ∃ (K : PySem.W.Frag) (fd : FuncData) (sp : Sp), K.In h ∧ (∀ (s : Shared) (u : Value), BindsTo s fd ⟨[u], []⟩ [("script", u)]) ∧ (∀ (H : Hp) (a : Addr) (ns : List Int), ns.length ≤ 63 → Only H → SqL K H a (ns.map V.int) → sp [.ref a] H (fun v _ => v = .bl true) fun _ _ _ => False) ∧
      ∀ base : Heap, K.In base → base.Ns mainGlobals mg → FnOk P w K mg base (L2.CX P w) (n + 1) fa fd [("script" : Str)] sp := by
  have L := left_of KX G c d
  have hr := List.mem_of_getElem? hi
  obtain ⟨f, fd, hm, F⟩ := L.fn r hr
  rw [hnm] at hm
  have e := hmg.symm.trans hm
  cases e
  have nl : noList K = true := by
    unfold Tab.chk at c
    simp only [Bool.and_eq_true] at c
    exact c.1.1.1.1.1.1
  have bd : ∀ (s : Shared) (u : Value), BindsTo s fd ⟨[u], []⟩ [("script", u)] := fun s u => by
    have z := F.bindsA (wf r hr).bd s [u] (by rw [hps]; rfl)
    rw [hps] at z
    exact z
  refine ⟨K, fd, spOf K (clsA T.excs K) r.fr 1 (callN T.recs (n + 1) i), KX, bd, fun H a ns hl _ hS => law_sp nl H a ns hS (hlaw ns hl), fun base _ _ => ?_⟩
  have z := fn_step (P := P) (w := w) (base := base) (wf r hr) hi F (top_ok wf L n r)
  rw [hps] at z
  exact z
/-- the end of a walk whose exceptions may know the world -/
theorem walkE {l : PySem.W.OpenLaw} {m k : Nat} {p : Program} {out : List Str} {X1 : (Str → Option Value) → Heap → Prop} {Y1 : World → Heap → Prop} {dr : DefRec} {CW : World → CXT} {x : Str}
    (h1 : l.most = some m) (h2 : m ≤ sizeLine) (h3 : dr.params.defaults = []) (h4 : Room k callerA)
    (h5 : ∀ (w : World) (g : Str → Option Value) (f : Addr) (h : Heap), Y1 w h → h.Ns mainGlobals g → g dr.name = some (.ref f) →
      ∃ (K : PySem.W.Frag) (fd : FuncData) (t : Sp), K.In h ∧ (∀ (s : Shared) (u : Value), BindsTo s fd ⟨[u], []⟩ [(x, u)]) ∧
        (∀ (H : Hp) (b : Addr) (is : List Int), is.length ≤ m → Only H → SqL K H b (is.map V.int) → t [.ref b] H (fun v _ => v = .bl true) fun _ _ _ => False) ∧
        ∀ h0 : Heap, K.In h0 → h0.Ns mainGlobals g → FnOk l.prog w K g h0 (CW w) k f fd [x] t)
    (h6 : ∀ (w : World) (H : Hp) (s : Shared) (e : Value) (s' : Shared), CW w [] H s (fun _ _ _ => False) e s' → False) :
    PySem.W.WalkO p out X1 Y1 l.row.toRowW dr [] (fun f vs => PySem.call f vs) := by
  refine Att.attach_call h1 h3 fun w t0 t1 g gb f ob fp ce dc b us is N Y _ _ _ gn gob gis gl gg => ?_
  obtain ⟨K, fd, t, c1, c2, c3, c4⟩ := h5 w g f _ Y N.T.g gn
  exact L2.law_call c1 N.T.g N.T.b N.T.builtins N.T.nolimit gg gob gis (Nat.le_trans gl h2) h4 c4 c2 (fun H o q => c3 H b is gl o q) fun H e s' => h6 w H t1 e s'
end Py

set_option Elab.async false
set_option linter.all false
set_option maxRecDepth 100000
set_option maxHeartbeats 4000000
/-! Own layer: more built-ins. -/
namespace Py
open PySem PySem.Spec L2
open PyProof.Rows hiding St
def boolsOf : List D → Option (List Bool)
  | [] => some []
  | .bool i :: ds => (boolsOf ds).map (i :: ·)
  | _ :: _ => none
theorem boolsOf_eq : ∀ {ds : List D} {bs : List Bool}, boolsOf ds = some bs → ds = bs.map PyData.bool
  | [], _, h => by cases h; rfl
  | d :: ds, ns, h => by
    cases d with
    | bool i =>
      simp only [boolsOf] at h
      cases e : boolsOf ds with
      | none => rw [e] at h; cases h
      | some m =>
        rw [e] at h
        cases h
        simp [boolsOf_eq e]
    | _ => cases h
theorem boolsOf_map (ns : List Bool) : boolsOf (ns.map PyData.bool) = some ns := by
  induction ns with
  | nil => rfl
  | cons n r ih => simp [boolsOf, ih]
theorem RepAll.boolsV {K : PySem.W.Frag} {H : Hp} : ∀ {xs : List V} {ns : List Bool}, RepAll K H xs (ns.map PyData.bool) → xs = ns.map V.bl
  | [], [], _ => rfl
  | [], _ :: _, h => by cases h
  | _ :: _, [], h => by cases h
  | x :: xs, n :: ns, h => by
    cases h with
    | cons h1 h2 =>
      cases h1
      simp [RepAll.boolsV h2]
def allD : List D → Option D
  | [.list ds] => (boolsOf ds).map fun bs => .bool (bs.all id)
  | _ => none
def anyB : List D → Option D
  | [.list ds] => (boolsOf ds).map fun bs => .bool (bs.any id)
  | _ => none
def sumD : List D → Option D
  | [.list ds] => (intsOf ds).map fun ns => .int ns.sum
  | _ => none
def tupleD : List D → Option D
  | [.list ds] => some (.tuple ds)
  | [.tuple ds] => some (.tuple ds)
  | _ => none
def listD : List D → Option D
  | [.list ds] => some (.list ds)
  | [.tuple ds] => some (.list ds)
  | _ => none
def intD : List D → Option D
  | [.int i] => some (.int i)
  | [.bool b] => some (.int (if b then 1 else 0))
  | _ => none
section
variable {X : Cx}
theorem RepAll.one {K : PySem.W.Frag} {H : Hp} {vs : List V} {d : D} (r : RepAll K H vs [d]) : ∃ v, vs = [v] ∧ Rep K H v d := by
  cases r with
  | cons r1 r2 => cases r2; exact ⟨_, rfl, r1⟩
theorem cd_all (hc : X.calm = true) : CallD X (.builtin "all") true allD := by
  intro pins s σ H vs us Q I r h
  obtain ⟨ds, rr, q⟩ := h
  unfold allD at q
  split at q
  · rename_i ds
    obtain ⟨v, rfl, r1⟩ := rr.one
    cases e : boolsOf ds with
    | none => rw [e] at q; exact q.elim
    | some bs =>
      rw [e] at q
      have ed := boolsOf_eq e
      subst ed
      cases r1 with
      | lst h1 r1 =>
        have ex := r1.boolsV
        subst ex
        exact cr_all hc pins s σ H _ us Q I r ⟨_, bs, rfl, .inl h1, PostO.bool q⟩
  · exact q.elim
theorem cd_any (hc : X.calm = true) : CallD X (.builtin "any") true anyB := by
  intro pins s σ H vs us Q I r h
  obtain ⟨ds, rr, q⟩ := h
  unfold anyB at q
  split at q
  · rename_i ds
    obtain ⟨v, rfl, r1⟩ := rr.one
    cases e : boolsOf ds with
    | none => rw [e] at q; exact q.elim
    | some bs =>
      rw [e] at q
      have ed := boolsOf_eq e
      subst ed
      cases r1 with
      | lst h1 r1 =>
        have ex := r1.boolsV
        subst ex
        exact cr_any hc pins s σ H _ us Q I r ⟨_, bs, rfl, .inl h1, PostO.bool q⟩
  · exact q.elim
theorem cd_sum (hc : X.calm = true) : CallD X (.builtin "sum") true sumD := by
  intro pins s σ H vs us Q I r h
  obtain ⟨ds, rr, q⟩ := h
  unfold sumD at q
  split at q
  · rename_i ds
    obtain ⟨v, rfl, r1⟩ := rr.one
    cases e : intsOf ds with
    | none => rw [e] at q; exact q.elim
    | some bs =>
      rw [e] at q
      have ed := intsOf_eq e
      subst ed
      cases r1 with
      | lst h1 r1 =>
        have ex := r1.intsV
        subst ex
        exact cr_sum hc pins s σ H _ us Q I r ⟨_, bs, rfl, .inl h1, PostO.int q⟩
  · exact q.elim
theorem cd_tuple : CallD X (.type "tuple") true tupleD := by
  intro pins s σ H vs us Q I r h
  obtain ⟨ds, rr, q⟩ := h
  unfold tupleD at q
  split at q
  · rename_i ds
    obtain ⟨v, rfl, r1⟩ := rr.one
    obtain ⟨u, rfl, ru⟩ := r.one
    cases r1 with
    | lst h1 r1 => exact rl_tuple pins s σ H _ u Q I ru (.inl ⟨_, _, rfl, .inl h1, PostO.newT q r1⟩)
  · rename_i ds
    obtain ⟨v, rfl, r1⟩ := rr.one
    obtain ⟨u, rfl, ru⟩ := r.one
    cases r1 with
    | tup h1 r1 => exact rl_tuple pins s σ H _ u Q I ru (.inr ⟨_, _, rfl, sqT_of h1, PostO.plain q (.tup h1 r1) rfl⟩)
  · exact q.elim
theorem cd_list : CallD X (.type "list") true listD := by
  intro pins s σ H vs us Q I r h
  obtain ⟨ds, rr, q⟩ := h
  unfold listD at q
  split at q
  · rename_i ds
    obtain ⟨v, rfl, r1⟩ := rr.one
    cases r1 with
    | lst h1 r1 => exact call_list_of pins s σ H _ us Q I r ⟨_, _, rfl, .inl (.inl h1), PostO.newL q r1⟩
  · rename_i ds
    obtain ⟨v, rfl, r1⟩ := rr.one
    cases r1 with
    | tup h1 r1 => exact call_list_of pins s σ H _ us Q I r ⟨_, _, rfl, .inr (sqT_of h1), PostO.newL q r1⟩
  · exact q.elim
theorem cd_int : CallD X (.type "int") true intD := by
  intro pins s σ H vs us Q I r h
  obtain ⟨ds, rr, q⟩ := h
  unfold intD at q
  split at q
  · obtain ⟨v, rfl, r1⟩ := rr.one
    cases r1
    exact call_int1 pins s σ H _ us Q I r (.inl ⟨_, rfl, PostO.int q⟩)
  · obtain ⟨v, rfl, r1⟩ := rr.one
    cases r1
    exact call_int1 pins s σ H _ us Q I r (.inr ⟨_, rfl, PostO.int q⟩)
  · exact q.elim
end
def bAllR : BRule := ⟨"all", false, "all", true, allD, by decide, fun h _ => cd_all h⟩
def bAnyR : BRule := ⟨"any", false, "any", true, anyB, by decide, fun h _ => cd_any h⟩
def bSumR : BRule := ⟨"sum", false, "sum", true, sumD2, by decide, fun h _ => cd_sum2 h⟩
def bSrtR : BRule := ⟨"sorted", false, "sorted", true, sortedD, by decide, fun _ _ => cd_sorted⟩
def bTupR : BRule := ⟨"tuple", true, "tuple", true, tupleD, by decide, fun _ _ => cd_tuple⟩
def bLstR : BRule := ⟨"list", true, "list", true, listD, by decide, fun _ _ => cd_list⟩
def bIntR : BRule := ⟨"int", true, "int", true, intD, by decide, fun _ _ => cd_int⟩
end Py

set_option Elab.async false
set_option linter.all false
set_option maxRecDepth 100000
set_option maxHeartbeats 4000000
/-! Plain mathematics of words: bounds, the smallest word. -/
namespace Py
open PySem (PyData Str)

def isIntD : D → Bool
  | .int _ => true
  | _ => false
def isBoolD : D → Bool
  | .bool _ => true
  | _ => false
/-- an int between two bounds -/
def isIn (lo hi : Int) : D → Bool
  | .int i => decide (lo ≤ i) && decide (i ≤ hi)
  | _ => false
def wordOk : D → Bool
  | .tuple [x, y] => isIn 1 24 x && isBoolD y
  | _ => false
abbrev wd (b : Int) (s : Bool) : D := .tuple [.int b, .bool s]
theorem wordOk_wd {b : Int} {s : Bool} (h1 : 1 ≤ b) (h2 : b ≤ 24) : wordOk (wd b s) = true := by simp [wordOk, wd, isIn, isBoolD, h1, h2]
def siz (b : Int) : Int := 2 ^ b.toNat
def lo (b : Int) (s : Bool) : Int := if s = true then 0 - siz b / 2 else 0
def hi (b : Int) (s : Bool) : Int := if s = true then siz b / 2 - 1 else siz b - 1
def hold (b : Int) (s : Bool) (l h : Int) : Bool := decide (lo b s ≤ l) && decide (h ≤ hi b s)
theorem siz_pos (b : Int) : 0 < siz b := by unfold siz; exact Int.pow_pos (by decide)
theorem siz_succ {b : Int} (h : 1 ≤ b) : siz b = 2 * siz (b - 1) := by
  unfold siz
  have e : b.toNat = (b - 1).toNat + 1 := by omega
  rw [e, Int.pow_succ]; omega
theorem siz_even {b : Int} (h : 1 ≤ b) : siz b = 2 * (siz b / 2) := by
  have := siz_succ h
  omega
theorem hi_lo {b : Int} {s : Bool} (h : 1 ≤ b) : hi b s - lo b s + 1 = siz b := by
  have := siz_even h
  unfold hi lo
  cases s <;> simp <;> omega
theorem lo_le_hi {b : Int} {s : Bool} (h : 1 ≤ b) : lo b s ≤ hi b s := by
  have := hi_lo (s := s) h
  have := siz_pos b
  omega
theorem lo_nonpos (b : Int) (s : Bool) : lo b s ≤ 0 := by
  unfold lo
  have := siz_pos b
  cases s <;> simp <;> omega
theorem hi_nonneg {b : Int} (s : Bool) (h : 1 ≤ b) : 0 ≤ hi b s := by
  unfold hi
  have := siz_pos b
  have := siz_even h
  cases s <;> simp <;> omega
theorem siz_le {b c : Int} (h : b ≤ c) (h0 : 0 ≤ b) : siz b ≤ siz c := by
  unfold siz
  have h1 : (2 : Nat) ^ b.toNat ≤ 2 ^ c.toNat := Nat.pow_le_pow_right (by decide) (by omega)
  have := Int.ofNat_le.mpr h1
  simpa using this
theorem siz_24 : siz 24 = 16777216 := by decide
/-! ### the list of all words -/
/-- 2 k, 2 k + 1: the words of k + 1 bits -/
def wNum (k : Nat) : D := wd (k / 2 + 1 : Nat) (k % 2 == 1)
def allW : List (Int × Bool) := (List.range 24).flatMap fun (k : Nat) => [((k : Int) + 1, false), ((k : Int) + 1, true)]
def wdP (p : Int × Bool) : D := wd p.1 p.2
/-- the smallest word, if any -/
def firstW (l h : Int) : Option (Int × Bool) := allW.find? fun p => hold p.1 p.2 l h
theorem allW_ok {p : Int × Bool} (h : p ∈ allW) : 1 ≤ p.1 ∧ p.1 ≤ 24 := by
  unfold allW at h
  obtain ⟨k, hk, hp⟩ := List.mem_flatMap.mp h
  have := List.mem_range.mp hk
  simp at hp
  rcases hp with rfl | rfl <;> simp <;> omega
end Py

set_option Elab.async false
set_option linter.all false
set_option maxRecDepth 100000
set_option maxHeartbeats 4000000
/-! Data level: equations for rewriting. -/
namespace Py
open PySem PySem.Spec L2

/-! ### shapes -/
mutual
def okD : Nat → D → Bool
  | _, .none | _, .bool _ | _, .int _ => true
  | _, .str x => PyData.canLay0 (.str x)
  | 0, .list _ | 0, .tuple _ => false
  | k + 1, .list xs => okAll k xs
  | k + 1, .tuple xs => okAll k xs
  | _, .dict _ => false
def okAll : Nat → List D → Bool
  | _, [] => true
  | k, x :: xs => okD k x && okAll k xs
end
mutual
theorem okD_ok : ∀ (k : Nat) (d : D), okD k d = true → PyData.canLay0 d = true ∧ d.depth ≤ k
  | k, .none, _ => ⟨rfl, by simp [PyData.depth]⟩
  | k, .bool _, _ => ⟨rfl, by simp [PyData.depth]⟩
  | k, .int _, _ => ⟨rfl, by simp [PyData.depth]⟩
  | k, .str x, h => ⟨by simpa [okD] using h, by simp [PyData.depth]⟩
  | 0, .list xs, h => by simp [okD] at h
  | 0, .tuple xs, h => by simp [okD] at h
  | k + 1, .list xs, h => by
    have := okAll_ok k xs (by simpa [okD] using h)
    exact ⟨by simpa [PyData.canLay0] using this.1, by simp [PyData.depth]; exact this.2⟩
  | k + 1, .tuple xs, h => by
    have := okAll_ok k xs (by simpa [okD] using h)
    exact ⟨by simpa [PyData.canLay0] using this.1, by simp [PyData.depth]; exact this.2⟩
  | k, .dict xs, h => by simp [okD] at h
theorem okAll_ok : ∀ (k : Nat) (ds : List D), okAll k ds = true → PyData.canLayAll0 ds = true ∧ PyData.depthAll ds ≤ k
  | k, [], _ => ⟨rfl, by simp [PyData.depthAll]⟩
  | k, x :: xs, h => by
    simp only [okAll, Bool.and_eq_true] at h
    have h1 := okD_ok k x h.1
    have h2 := okAll_ok k xs h.2
    exact ⟨by simp [PyData.canLayAll0, h1.1, h2.1], by simp only [PyData.depthAll]; omega⟩
end
theorem shaped_of {d : D} (h : okD 8 d = true) : SeqAt.shaped d = true := by
  have := okD_ok 8 d h
  unfold SeqAt.shaped
  rw [this.1, Bool.true_and]
  exact decide_eq_true (by omega)
theorem eqD_ok {d e : D} (h1 : okD 8 d = true) (h2 : okD 8 e = true) : eqD d e = some (.bool (PyData.eqv d e)) := by
  unfold eqD; rw [if_pos ⟨shaped_of h1, shaped_of h2⟩]
theorem neD_ok {d e : D} (h1 : okD 8 d = true) (h2 : okD 8 e = true) : neD d e = some (.bool (!PyData.eqv d e)) := by
  unfold neD; rw [if_pos ⟨shaped_of h1, shaped_of h2⟩]
theorem okAll_iff {k : Nat} {ds : List D} : okAll k ds = true ↔ ∀ d ∈ ds, okD k d = true := by
  induction ds with
  | nil => simp [okAll]
  | cons x xs ih => simp [okAll, ih]
theorem okAll_ints {k : Nat} {ns : List Int} : okAll k (ns.map .int) = true := by
  rw [okAll_iff]; intro d hd; obtain ⟨n, _, rfl⟩ := List.mem_map.mp hd; cases k <;> simp [okD]
theorem okD_none {k : Nat} : okD k .none = true := by cases k <;> exact (rfl)
theorem okD_bool {k : Nat} {b : Bool} : okD k (.bool b) = true := by cases k <;> exact (rfl)
theorem okD_int {k : Nat} {b : Int} : okD k (.int b) = true := by cases k <;> exact (rfl)
theorem okD_list {k : Nat} {b : List D} : okD (k + 1) (.list b) = okAll k b := (rfl)
theorem okD_tuple {k : Nat} {b : List D} : okD (k + 1) (.tuple b) = okAll k b := (rfl)
theorem okAll_nil {k : Nat} : okAll k [] = true := by cases k <;> exact (rfl)
theorem okAll_cons {k : Nat} {x : D} {xs : List D} : okAll k (x :: xs) = (okD k x && okAll k xs) := by cases k <;> exact (rfl)
theorem immAll_iff {ds : List D} : immAll ds = true ↔ ∀ d ∈ ds, imm d = true := by
  induction ds with
  | nil => simp [immAll]
  | cons x xs ih => simp [immAll, ih]
theorem eqv_int {i j : Int} : PyData.eqv (.int i) (.int j) = decide (i = j) := by
  rw [show PyData.eqv (.int i) (.int j) = (i == j) by simp [PyData.eqv]]
  by_cases h : i = j <;> simp [h]
theorem eqv_bool {i j : Bool} : PyData.eqv (.bool i) (.bool j) = (i == j) := by simp [PyData.eqv]
theorem eqv_none : PyData.eqv .none .none = true := (rfl)
theorem eqv_tuple {i j : List D} : PyData.eqv (.tuple i) (.tuple j) = PyData.eqvAll i j := by simp [PyData.eqv]
theorem eqv_list {i j : List D} : PyData.eqv (.list i) (.list j) = PyData.eqvAll i j := by simp [PyData.eqv]
theorem eqvAll_nil : PyData.eqvAll [] [] = true := (rfl)
theorem eqvAll_cons {x y : D} {xs ys : List D} : PyData.eqvAll (x :: xs) (y :: ys) = (PyData.eqv x y && PyData.eqvAll xs ys) := by simp [PyData.eqvAll]
theorem eqvAll_cn {x : D} {xs : List D} : PyData.eqvAll (x :: xs) [] = false := (rfl)
theorem eqvAll_nc {x : D} {xs : List D} : PyData.eqvAll [] (x :: xs) = false := (rfl)
mutual
theorem eqv_self : ∀ (k : Nat) (d : D), okD k d = true → PyData.eqv d d = true
  | k, .none, _ => rfl
  | k, .bool _, _ => by simp [PyData.eqv]
  | k, .int _, _ => by simp [PyData.eqv]
  | k, .str x, h => by simp [PyData.eqv]
  | 0, .list xs, h => by simp [okD] at h
  | 0, .tuple xs, h => by simp [okD] at h
  | k + 1, .list xs, h => by rw [eqv_list]; exact eqvAll_self k xs (by simpa [okD] using h)
  | k + 1, .tuple xs, h => by rw [eqv_tuple]; exact eqvAll_self k xs (by simpa [okD] using h)
  | k, .dict xs, h => by simp [okD] at h
theorem eqvAll_self : ∀ (k : Nat) (ds : List D), okAll k ds = true → PyData.eqvAll ds ds = true
  | k, [], _ => rfl
  | k, x :: xs, h => by
    simp only [okAll, Bool.and_eq_true] at h
    rw [eqvAll_cons, eqv_self k x h.1, eqvAll_self k xs h.2]; rfl
end

/-! ### operators -/
section
variable {i j : Int} {a b c d : D} {l m : List D} {x y : Bool}
theorem addD_i : addD (.int i) (.int j) = some (.int (i + j)) := (rfl)
theorem addD_l (h : l.length + m.length ≤ 16777216) : addD (.list l) (.list m) = some (.list (l ++ m)) := by
  unfold addD; exact if_pos h
theorem addD_t (h : l.length + m.length ≤ 16777216) : addD (.tuple l) (.tuple m) = some (.tuple (l ++ m)) := by
  unfold addD; exact if_pos h
theorem subD_i : subD (.int i) (.int j) = some (.int (i - j)) := (rfl)
theorem mulD_i (h : CMul i j) : mulD (.int i) (.int j) = some (.int (i * j)) := by unfold mulD; exact if_pos h
theorem mulD_a (h1 : -18446744073709551616 < i) (h2 : i < 18446744073709551616) : mulD (.int i) (.int j) = some (.int (i * j)) := mulD_i (.inl ⟨by omega, by omega⟩)
theorem mulD_b (h1 : -18446744073709551616 < j) (h2 : j < 18446744073709551616) : mulD (.int i) (.int j) = some (.int (i * j)) := mulD_i (.inr ⟨by omega, by omega⟩)
theorem fdivD_i (h : 0 < j) (h2 : j < 1000000000000000000000000000000) : fdivD (.int i) (.int j) = some (.int (i / j)) := by
  unfold fdivD
  refine if_pos ⟨h, ?_⟩
  have h3 : j.natAbs ≠ 0 := by omega
  have : j.natAbs.log2 < 100 := (Nat.log2_lt h3).mpr (by
    have : j.natAbs < 1000000000000000000000000000000 := by omega
    exact Nat.lt_trans this (by decide))
  omega
theorem modD_i (h : 0 < j) : modD (.int i) (.int j) = some (.int (i % j)) := by unfold modD; exact if_pos h
theorem leD_i : leD (.int i) (.int j) = some (.bool (decide (i ≤ j))) := (rfl)
theorem ltD_i : ltD (.int i) (.int j) = some (.bool (decide (i < j))) := (rfl)
theorem gtD_i : gtD (.int i) (.int j) = some (.bool (decide (j < i))) := (rfl)
theorem geD_i : geD (.int i) (.int j) = some (.bool (decide (j ≤ i))) := (rfl)
theorem shlD_i (h : 0 ≤ j) (h2 : j ≤ 1000) : shlD (.int 1) (.int j) = some (.int (2 ^ j.toNat)) := by
  have : shlD (.int 1) (.int j) = some (.int (1 * 2 ^ j.toNat)) := by
    unfold shlD; exact if_pos ⟨h, by omega, by decide⟩
  rw [this, Int.one_mul]
theorem getD_l (h0 : 0 ≤ i) (h : l[i.toNat]? = some d) : getD (.list l) (.int i) = some d := by
  have hl : i.toNat < l.length := by
    rcases Nat.lt_or_ge i.toNat l.length with h1 | h1
    · exact h1
    · rw [List.getElem?_eq_none h1] at h; cases h
  show L2.atI l i = some d
  unfold L2.atI ixN
  rw [if_pos h0, if_pos (by omega)]
  exact h
theorem getD_t (h0 : 0 ≤ i) (h : l[i.toNat]? = some d) : getD (.tuple l) (.int i) = some d := getD_l h0 h
theorem getD_t0 : getD (.tuple (a :: l)) (.int 0) = some a := getD_t (by decide) rfl
theorem getD_t1 : getD (.tuple (a :: b :: l)) (.int 1) = some b := getD_t (by decide) rfl
theorem getD_t2 : getD (.tuple (a :: b :: c :: l)) (.int 2) = some c := getD_t (by decide) rfl
theorem getD_l0 : getD (.list (a :: l)) (.int 0) = some a := getD_l (by decide) rfl
theorem getD_l1 : getD (.list (a :: b :: l)) (.int 1) = some b := getD_l (by decide) rfl
theorem getD_l2 : getD (.list (a :: b :: c :: l)) (.int 2) = some c := getD_l (by decide) rfl
theorem negD_i : negD (.int i) = some (.int (-i)) := (rfl)
theorem truD_b : truD (.bool x) = some x := (rfl)
theorem truD_i : truD (.int i) = some (i != 0) := (rfl)
theorem truD_l : truD (.list l) = some (!l.isEmpty) := (rfl)
theorem truD_t : truD (.tuple l) = some (!l.isEmpty) := (rfl)
theorem truD_n : truD .none = some false := (rfl)
theorem lenD_l : lenD [.list l] = some (.int l.length) := (rfl)
theorem lenD_t : lenD [.tuple l] = some (.int l.length) := (rfl)
theorem maxD_i : maxD [.int i, .int j] = some (.int (max i j)) := by
  show some (PyData.int (if j > i then j else i)) = _; congr 2; split <;> omega
theorem minD_i : minD [.int i, .int j] = some (.int (min i j)) := by
  show some (PyData.int (if j < i then j else i)) = _; congr 2; split <;> omega
theorem imm_int : imm (.int i) = true := (rfl)
theorem imm_bool : imm (.bool x) = true := (rfl)
theorem imm_none : imm .none = true := (rfl)
theorem imm_str {z : Str} : imm (.str z) = true := (rfl)
theorem imm_tuple : imm (.tuple l) = immAll l := (rfl)
theorem imm_list : imm (.list l) = false := (rfl)
theorem immAll_nil : immAll [] = true := (rfl)
theorem immAll_cons : immAll (a :: l) = (imm a && immAll l) := (rfl)
theorem iSeq_l : iSeq [.list l] = some l := (rfl)
theorem iSeq_t : iSeq [.tuple l] = some l := (rfl)
theorem iRange_1 (h1 : -1000000000 ≤ j) (h2 : j ≤ 1000000000) : iRange [.int j] = some (upFrom 0 j.toNat) := by
  unfold iRange; exact if_pos ⟨by omega, by omega⟩
theorem iRange_2 (h1 : -1000000000 ≤ i) (h2 : i ≤ 1000000000) (h3 : -1000000000 ≤ j) (h4 : j ≤ 1000000000) : iRange [.int i, .int j] = some (upFrom i (j - i).toNat) := by
  unfold iRange; exact if_pos ⟨by omega, by omega, by omega, by omega⟩
theorem isD_bb : isD (.bool x) (.bool y) = some (.bool (x == y)) := (rfl)
theorem isNotD_bb : isNotD (.bool x) (.bool y) = some (.bool (!(x == y))) := (rfl)
theorem isD_n : isD a .none = some (.bool (isNone a)) := by cases a <;> exact (rfl)
theorem isNotD_n : isNotD a .none = some (.bool (!isNone a)) := by cases a <;> exact (rfl)
theorem isi_int : isiD "int" a = some (.bool (isIntD a || isBoolD a)) := by
  unfold isiD
  cases a <;> exact (rfl)
theorem isi_bool : isiD "bool" a = some (.bool (isBoolD a)) := by
  unfold isiD
  cases a <;> exact (rfl)
def isTupD : D → Bool
  | .tuple _ => true
  | _ => false
theorem isi_tuple : isiD "tuple" a = some (.bool (isTupD a)) := by
  unfold isiD
  cases a <;> exact (rfl)
theorem isTupD_t : isTupD (.tuple l) = true := (rfl)
theorem isIntD_i : isIntD (.int i) = true := (rfl)
theorem isBoolD_b : isBoolD (.bool x) = true := (rfl)
theorem freeC_imm (h : immAll l = true) {fr : Bool} : freeC fr l = true := by unfold freeC; rw [h]; rfl
theorem prepC_imm (h : immAll l = true) {fr : Bool} {ρ : Env'} : prepC fr l ρ = ρ := by rw [prepC_eq, freeC_imm h, Bool.true_or]; rfl
end
end Py

set_option Elab.async false
set_option linter.all false
set_option maxRecDepth 100000
set_option maxHeartbeats 4000000
/-! Data level: lazy equations, each with the slots in hand. -/
namespace Py
open PySem PySem.Spec L2

def Out.thn : Out → Sx → Out
  | .nx ρ, g => g ρ
  | o, _ => o
def Res.nxS (i : Nat) (fr : Bool) (ρ : Env') : Res D → Out
  | .ok d => .nx (setS i fr d ρ)
  | .exc c => .exc c ρ
  | .bad => .bad
def optO : Option Env' → Out
  | some ρ => .nx ρ
  | none => .bad
def Res.nxB (b : Bd) (ρ : Env') : Res D → Out
  | .ok d => optO (b d ρ)
  | .exc c => .exc c ρ
  | .bad => .bad
def Res.nxD (ρ : Env') : Res D → Out
  | .ok _ => .nx ρ
  | .exc c => .exc c ρ
  | .bad => .bad
def Res.nxR (ρ : Env') : Res D → Out
  | .ok d => .rt d
  | .exc c => .exc c ρ
  | .bad => .bad
def Res.ifO (a b : Sx) (ρ : Env') : Res Bool → Out
  | .ok c => if c = true then a ρ else b ρ
  | .exc c => .exc c ρ
  | .bad => .bad
def Res.parO (is : List Nat) (frs : List Bool) (ρ : Env') : Res (List D) → Out
  | .ok ds => optO (setAll is frs ds ρ)
  | .exc c => .exc c ρ
  | .bad => .bad
def Sl.rd : Option Sl → Res D
  | some (.val _ d) => .ok d
  | _ => .bad
def Res.b2 (op : D → D → Option D) : Res D → Res D → Res D
  | .ok x, .ok y => ofO (op x y)
  | .ok _, .exc c => .exc c
  | .ok _, .bad => .bad
  | .exc c, _ => .exc c
  | .bad, _ => .bad
def Res.b1 (op : D → Option D) : Res D → Res D
  | .ok x => ofO (op x)
  | .exc c => .exc c
  | .bad => .bad
def Res.tru : Res D → Res Bool
  | .ok x => ofO (truD x)
  | .exc c => .exc c
  | .bad => .bad
def Res.boo : Res Bool → Res D
  | .ok x => .ok (.bool x)
  | .exc c => .exc c
  | .bad => .bad
def Res.not : Res Bool → Res Bool
  | .ok x => .ok (!x)
  | .exc c => .exc c
  | .bad => .bad
def Res.ifE (a b : Ex) (ρ : Env') : Res Bool → Res D
  | .ok c => if c = true then a ρ else b ρ
  | .exc c => .exc c
  | .bad => .bad
def Res.andE (b : Ex) (ρ : Env') : Res D → Res D
  | .ok (.bool c) => if c = true then b ρ else .ok (.bool false)
  | .exc c => .exc c
  | _ => .bad
def Res.orE (b : Ex) (ρ : Env') : Res D → Res D
  | .ok (.bool c) => if c = true then .ok (.bool true) else b ρ
  | .exc c => .exc c
  | _ => .bad
def Res.toB : Res D → Res Bool
  | .ok (.bool c) => .ok c
  | .exc c => .exc c
  | _ => .bad
def Res.andT (b : Tx) (ρ : Env') : Res Bool → Res Bool
  | .ok c => if c = true then b ρ else .ok false
  | .exc c => .exc c
  | .bad => .bad
def Res.orT (b : Tx) (ρ : Env') : Res Bool → Res Bool
  | .ok c => if c = true then .ok true else b ρ
  | .exc c => .exc c
  | .bad => .bad
def Res.cns : Res D → Res (List D) → Res (List D)
  | .ok x, .ok xs => .ok (x :: xs)
  | .ok _, .exc c => .exc c
  | .ok _, .bad => .bad
  | .exc c, _ => .exc c
  | .bad, _ => .bad
def Res.tup : Res (List D) → Res D
  | .ok xs => .ok (.tuple xs)
  | .exc c => .exc c
  | .bad => .bad
def Res.lst : Res (List D) → Res D
  | .ok xs => .ok (.list xs)
  | .exc c => .exc c
  | .bad => .bad
def Res.blt (g : List D → Option D) : Res (List D) → Res D
  | .ok xs => ofO (g xs)
  | .exc c => .exc c
  | .bad => .bad
def Res.toI : Res D → Res (Option Int)
  | .ok (.int i) => .ok (some i)
  | .exc c => .exc c
  | _ => .bad
def Res.sl3 : Res D → Res (Option Int) → Res (Option Int) → Res D
  | .ok x, .ok l, .ok h => ofO (sliceD l h x)
  | .ok _, .ok _, .exc c => .exc c
  | .ok _, .ok _, .bad => .bad
  | .ok _, .exc c, _ => .exc c
  | .ok _, .bad, _ => .bad
  | .exc c, _, _ => .exc c
  | .bad, _, _ => .bad
def lcI (vs : List Nat) (b : Bd) (t : Tx) (e : Ex) (ρ : Env') : Option (List D) → Res D
  | none => .bad
  | some xs => noexc ((lcGo b t e (wipeE ρ vs) xs).bind fun ds => if ds.length ≤ sizeLine then .ok (.list ds) else .bad)
def Res.lcK (its : Itd') (vs : List Nat) (b : Bd) (t : Tx) (e : Ex) (ρ : Env') : Res (List D) → Res D
  | .ok cds => lcI vs b t e ρ (its cds)
  | .exc c => .exc c
  | .bad => .bad
def forI (fr : Bool) (cds : List D) (b : Bd) (body : Sx) (ρ : Env') : Option (List D) → Out
  | none => .bad
  | some xs => forGo b body xs (prepC fr cds ρ)
def Res.forK (fr : Bool) (its : Itd') (b : Bd) (body : Sx) (ρ : Env') : Res (List D) → Out
  | .ok cds => forI fr cds b body ρ (its cds)
  | .exc c => .exc c ρ
  | .bad => .bad
def forN (b : Bd) (body : Sx) (xs : List D) : Option Env' → Out
  | none => .bad
  | some ρ => (body ρ).thn (forGo b body xs)

section
variable {f g : Sx} {ρ ρ' : Env'} {e a b c : Ex} {d x y : D} {i j : Nat} {fr : Bool} {t u : Tx} {op op' : D → D → Option D} {k : Bool} {n : Nat} {z : Bool}
theorem q_seq : oSeq f g ρ = (f ρ).thn g := by unfold oSeq Out.thn; cases f ρ <;> rfl
theorem thn_nx : (Out.nx ρ).thn g = g ρ := (rfl)
theorem thn_rt : (Out.rt d).thn g = .rt d := (rfl)
theorem thn_exc : (Out.exc n ρ).thn g = .exc n ρ := (rfl)
theorem thn_bad : Out.bad.thn g = .bad := (rfl)
theorem q_nil : oNil ρ = .nx ρ := (rfl)
theorem q_set : oSet i fr e ρ = (e ρ).nxS i fr ρ := by unfold oSet oE Res.nxS; rfl
theorem nxS_ok : (Res.ok d).nxS i fr ρ = .nx (setS i fr d ρ) := (rfl)
theorem nxS_exc : (Res.exc n).nxS i fr ρ = .exc n ρ := (rfl)
theorem q_bind {b : Bd} : oBind b e ρ = (e ρ).nxB b ρ := by
  unfold oBind oE Res.nxB optO
  cases e ρ <;> rfl
theorem nxB_ok {b : Bd} : (Res.ok d).nxB b ρ = optO (b d ρ) := (rfl)
theorem nxB_exc {b : Bd} : (Res.exc n).nxB b ρ = .exc n ρ := (rfl)
theorem optO_some : optO (some ρ) = .nx ρ := (rfl)
theorem q_drop : oDrop e ρ = (e ρ).nxD ρ := by unfold oDrop oE Res.nxD; rfl
theorem nxD_ok : (Res.ok d).nxD ρ = .nx ρ := (rfl)
theorem nxD_exc : (Res.exc n).nxD ρ = .exc n ρ := (rfl)
theorem q_ret : oRet e ρ = (e ρ).nxR ρ := by unfold oRet oE Res.nxR; rfl
theorem nxR_ok : (Res.ok d).nxR ρ = .rt d := (rfl)
theorem nxR_exc : (Res.exc n).nxR ρ = .exc n ρ := (rfl)
theorem q_if : oIf t f g ρ = (t ρ).ifO f g ρ := by unfold oIf Res.ifO; rfl
theorem ifO_true : (Res.ok true).ifO f g ρ = f ρ := (rfl)
theorem ifO_false : (Res.ok false).ifO f g ρ = g ρ := (rfl)
theorem ifO_exc : (Res.exc n).ifO f g ρ = .exc n ρ := (rfl)
theorem ifO_ok : (Res.ok z).ifO f g ρ = if z = true then f ρ else g ρ := (rfl)
theorem q_raise : oRaise n ρ = .exc n ρ := (rfl)
theorem q_par {is : List Nat} {frs : List Bool} {fs : List Ex} : oPar is frs fs ρ = (evalL fs ρ).parO is frs ρ := by
  unfold oPar Res.parO optO
  cases evalL fs ρ <;> rfl
theorem parO_ok {is : List Nat} {frs : List Bool} {ds : List D} : (Res.ok ds).parO is frs ρ = optO (setAll is frs ds ρ) := (rfl)
theorem parO_exc {is : List Nat} {frs : List Bool} : (Res.exc n).parO is frs ρ = .exc n ρ := (rfl)
theorem setAll_nil : setAll [] [] [] ρ = some ρ := (rfl)
theorem setAll_cons {is : List Nat} {frs : List Bool} {ds : List D} : setAll (i :: is) (fr :: frs) (d :: ds) ρ = setAll is frs ds (setS i fr d ρ) := (rfl)
theorem q_var : sVar i ρ = Sl.rd ρ[i]? := by unfold sVar Sl.rd; rfl
theorem rd_val {o : Bool} : Sl.rd (some (.val o d)) = .ok d := (rfl)
theorem q_cst : sCst d ρ = .ok d := (rfl)
theorem q_bin : sBin op a b ρ = Res.b2 op (a ρ) (b ρ) := by
  unfold sBin Res.b2
  cases a ρ <;> cases b ρ <;> rfl
theorem b2_ok : Res.b2 op (.ok x) (.ok y) = ofO (op x y) := (rfl)
theorem b2_e1 {r : Res D} : Res.b2 op (.exc n) r = .exc n := (rfl)
theorem b2_e2 : Res.b2 op (.ok x) (.exc n) = .exc n := (rfl)
theorem q_un {op : D → Option D} : sUn op a ρ = (a ρ).b1 op := by unfold sUn Res.b1; cases a ρ <;> rfl
theorem b1_ok {op : D → Option D} : (Res.ok x).b1 op = ofO (op x) := (rfl)
theorem q_not : sNot a ρ = (a ρ).tru.not.boo := by
  unfold sNot
  cases a ρ with
  | ok d =>
    show ((ofO (truD d)).bind fun b => Res.ok (PyData.bool !b)) = (ofO (truD d)).not.boo
    cases truD d <;> rfl
  | _ => rfl
theorem trr_ok : (Res.ok x).tru = ofO (truD x) := (rfl)
theorem tru_exc : (Res.exc n).tru = .exc n := (rfl)
theorem not_ok : (Res.ok z).not = .ok (!z) := (rfl)
theorem not_exc : (Res.exc n).not = .exc n := (rfl)
theorem boo_ok : (Res.ok z).boo = .ok (.bool z) := (rfl)
theorem q_ife : sIf t a b ρ = (t ρ).ifE a b ρ := by unfold sIf Res.ifE; cases t ρ <;> rfl
theorem ifE_true : (Res.ok true).ifE a b ρ = a ρ := (rfl)
theorem ifE_false : (Res.ok false).ifE a b ρ = b ρ := (rfl)
theorem ifE_ok : (Res.ok z).ifE a b ρ = if z = true then a ρ else b ρ := (rfl)
theorem q_and : sAnd a b ρ = (a ρ).andE b ρ := by
  unfold sAnd Res.andE
  cases a ρ with
  | ok d => cases d <;> rfl
  | _ => rfl
theorem andE_ok : (Res.ok (.bool z)).andE b ρ = if z = true then b ρ else .ok (.bool false) := (rfl)
theorem andE_exc : (Res.exc n).andE b ρ = .exc n := (rfl)
theorem q_or : sOr a b ρ = (a ρ).orE b ρ := by
  unfold sOr Res.orE
  cases a ρ with
  | ok d => cases d <;> rfl
  | _ => rfl
theorem orE_ok : (Res.ok (.bool z)).orE b ρ = if z = true then .ok (.bool true) else b ρ := (rfl)
theorem q_chain : sChain op op' a b c ρ = (Res.b2 op (a ρ) (b ρ)).andE (sBin op' b c) ρ := by
  unfold sChain
  cases ha : a ρ with
  | ok d =>
    cases hb : b ρ with
    | ok d' =>
      rw [b2_ok, Res.bind_ok, Res.bind_ok]
      cases op d d' with
      | none => rfl
      | some q =>
        cases q with
        | bool z =>
          show (if z = true then _ else _) = if z = true then sBin op' b c ρ else _
          unfold sBin
          rw [hb]
          rfl
        | _ => rfl
    | _ => rfl
  | _ => rfl
theorem q_xbool : xBool a ρ = (a ρ).toB := by
  unfold xBool Res.toB
  cases a ρ with
  | ok d => cases d <;> rfl
  | _ => rfl
theorem toB_ok : (Res.ok (.bool z)).toB = .ok z := (rfl)
theorem toB_exc : (Res.exc n).toB = .exc n := (rfl)
theorem q_xtru : xTru a ρ = (a ρ).tru := by unfold xTru Res.tru; cases a ρ <;> rfl
theorem q_xnot : xNot t ρ = (t ρ).not := by unfold xNot Res.not; cases t ρ <;> rfl
theorem q_xand : xAnd t u ρ = (t ρ).andT u ρ := by unfold xAnd Res.andT; cases t ρ <;> rfl
theorem andT_ok : (Res.ok z).andT u ρ = if z = true then u ρ else .ok false := (rfl)
theorem q_xor : xOr t u ρ = (t ρ).orT u ρ := by unfold xOr Res.orT; cases t ρ <;> rfl
theorem orT_ok : (Res.ok z).orT u ρ = if z = true then .ok true else u ρ := (rfl)
theorem orT_exc : (Res.exc n).orT u ρ = .exc n := (rfl)
theorem q_evn : evalL [] ρ = .ok [] := (rfl)
theorem q_evc {fs : List Ex} : evalL (a :: fs) ρ = (a ρ).cns (evalL fs ρ) := by
  show (a ρ).bind _ = _
  unfold Res.cns
  cases a ρ <;> cases evalL fs ρ <;> rfl
theorem cns_ok {ds : List D} : (Res.ok d).cns (.ok ds) = .ok (d :: ds) := (rfl)
theorem cns_e1 {r : Res (List D)} : (Res.exc n).cns r = .exc n := (rfl)
theorem cns_e2 : (Res.ok d).cns (.exc n) = .exc n := (rfl)
theorem q_tup {fs : List Ex} : sTup fs ρ = (evalL fs ρ).tup := by unfold sTup Res.tup; cases evalL fs ρ <;> rfl
theorem tup_ok {ds : List D} : (Res.ok ds).tup = .ok (.tuple ds) := (rfl)
theorem tup_exc : (Res.exc n).tup = .exc n := (rfl)
theorem q_lst {fs : List Ex} : sLst fs ρ = (evalL fs ρ).lst := by unfold sLst Res.lst; cases evalL fs ρ <;> rfl
theorem lst_ok {ds : List D} : (Res.ok ds).lst = .ok (.list ds) := (rfl)
theorem lst_exc : (Res.exc n).lst = .exc n := (rfl)
theorem q_call {fs : List Ex} {h : List D → Res D} : sCall h fs ρ = (evalL fs ρ).bind h := (rfl)
theorem q_blt {fs : List Ex} {h : List D → Option D} : sBlt h fs ρ = (evalL fs ρ).blt h := by unfold sBlt Res.blt; cases evalL fs ρ <;> rfl
theorem blt_ok {ds : List D} {h : List D → Option D} : (Res.ok ds).blt h = ofO (h ds) := (rfl)
theorem blt_exc {h : List D → Option D} : (Res.exc n).blt h = .exc n := (rfl)
theorem q_pin : partI none ρ = .ok none := (rfl)
theorem q_pis : partI (some a) ρ = (a ρ).toI := by
  show (a ρ).bind _ = _
  unfold Res.toI
  cases a ρ with
  | ok d => cases d <;> rfl
  | _ => rfl
theorem toI_ok {i : Int} : (Res.ok (.int i)).toI = .ok (some i) := (rfl)
theorem q_sl {l h : Option Ex} : sSl a l h ρ = Res.sl3 (a ρ) (partI l ρ) (partI h ρ) := by
  unfold sSl Res.sl3
  cases a ρ <;> cases partI l ρ <;> cases partI h ρ <;> rfl
theorem sl3_ok {l h : Option Int} : Res.sl3 (.ok x) (.ok l) (.ok h) = ofO (sliceD l h x) := (rfl)
theorem q_one : one a ρ = (a ρ).cns (.ok []) := by unfold one Res.cns; cases a ρ <;> rfl
theorem q_yes : xYes ρ = .ok true := (rfl)
theorem q_lc {s : As} {its : Itd'} {vs : List Nat} {bd : Bd} : sLc s its vs bd t e ρ = (s ρ).lcK its vs bd t e ρ := by
  unfold sLc Res.lcK lcI
  cases s ρ <;> rfl
theorem lcK_ok {its : Itd'} {vs : List Nat} {bd : Bd} {cds : List D} : (Res.ok cds).lcK its vs bd t e ρ = lcI vs bd t e ρ (its cds) := (rfl)
theorem q_for {s : As} {its : Itd'} {bd : Bd} : oFor fr s its bd f ρ = (s ρ).forK fr its bd f ρ := by
  unfold oFor Res.forK forI
  cases s ρ <;> rfl
theorem forK_ok {its : Itd'} {bd : Bd} {cds : List D} : (Res.ok cds).forK fr its bd f ρ = forI fr cds bd f ρ (its cds) := (rfl)
theorem forI_some {bd : Bd} {cds xs : List D} : forI fr cds bd f ρ (some xs) = forGo bd f xs (prepC fr cds ρ) := (rfl)
theorem for_nil {bd : Bd} : forGo bd f [] ρ = .nx ρ := (rfl)
theorem for_cons {bd : Bd} {xs : List D} : forGo bd f (x :: xs) ρ = forN bd f xs (bd x ρ) := by
  show (match bd x ρ with | none => Out.bad | some ρ1 => _) = _
  cases bd x ρ with
  | none => rfl
  | some ρ1 => show _ = (f ρ1).thn _; cases h : f ρ1 <;> simp [h] <;> rfl
theorem forN_some {bd : Bd} {xs : List D} : forN bd f xs (some ρ) = (f ρ).thn (forGo bd f xs) := (rfl)
/-! binding -/
theorem bd_name : bName i d ρ = some (bindS i d ρ) := (rfl)
theorem bd_tup {bs : List Bd} {ds : List D} : bTup bs (.tuple ds) ρ = bAll bs ds ρ := (rfl)
theorem bd_nil : bAll [] [] ρ = some ρ := (rfl)
theorem bd_cons {bd : Bd} {bs : List Bd} {ds : List D} : bAll (bd :: bs) (d :: ds) ρ = (bd d ρ).bind (bAll bs ds) := (rfl)
theorem q_bindS : bindS i d ρ = (frzIf (!imm d) ρ).set i (.val false d) := (rfl)
theorem q_setS : setS i fr d ρ = (frzIf (!(imm d || (fr && flatT d))) ρ).set i (.val (fr && flatT d) d) := (rfl)
theorem q_prep {cds : List D} : prepC fr cds ρ = frzIf (!(freeC fr cds || apart cds ρ)) ρ := (rfl)
theorem ap_l {l : List D} : apart [.list l] ρ = (immAll l && apR l.length ρ) := (rfl)
theorem ap_t {l : List D} : apart [.tuple l] ρ = false := (rfl)
theorem ap_s {l : Str} : apart [.str l] ρ = false := (rfl)
theorem ap_i {l : Int} : apart [.int l] ρ = false := (rfl)
theorem ap_d {l : List (D × D)} : apart [.dict l] ρ = false := (rfl)
theorem ap_2 {l : List D} : apart (x :: y :: l) ρ = false := by cases x <;> exact (rfl)
theorem ap_n : apart [] ρ = false := (rfl)
theorem apR_n : apR n [] = true := (rfl)
theorem apR_v {o : Bool} : apR n (.val o d :: ρ) = ((!o || lenNe n d) && apR n ρ) := (rfl)
theorem apR_u : apR n (.un :: ρ) = apR n ρ := (rfl)
theorem apR_e {m : Nat} : apR n (.err m :: ρ) = apR n ρ := (rfl)
theorem lenNe_l {l : List D} : lenNe n (.list l) = !(l.length == n) := (rfl)
theorem lenNe_t {l : List D} : lenNe n (.tuple l) = true := (rfl)
theorem lenNe_d {l : List (D × D)} : lenNe n (.dict l) = true := (rfl)
theorem frz_no : frzIf false ρ = ρ := frzIf_false ρ
theorem frz_nil : frzIf k [] = [] := (rfl)
theorem frz_val {o : Bool} : frzIf k (.val o d :: ρ) = .val (o && !k) d :: frzIf k ρ := (rfl)
theorem frz_un : frzIf k (.un :: ρ) = .un :: frzIf k ρ := (rfl)
theorem frz_err : frzIf k (.err n :: ρ) = .err n :: frzIf k ρ := (rfl)
theorem flat_int {i : Int} : flatT (.int i) = false := (rfl)
theorem flat_bool {i : Bool} : flatT (.bool i) = false := (rfl)
theorem flat_none : flatT .none = false := (rfl)
theorem flat_str {i : Str} : flatT (.str i) = false := (rfl)
theorem flat_tup {i : List D} : flatT (.tuple i) = false := (rfl)
theorem flat_list {i : List D} : flatT (.list i) = immAll i := (rfl)
theorem flat_dict {i : List (D × D)} : flatT (.dict i) = immV i := (rfl)
theorem imm_dict {i : List (D × D)} : imm (.dict i) = false := (rfl)
theorem q_free {cds : List D} : freeC false cds = immAll cds := by unfold freeC; rw [Bool.false_and, Bool.or_false]
theorem q_freeL {l : List D} : freeC true [.list l] = immAll l := by unfold freeC; simp [immAll, imm]
theorem q_freeI (h : immAll ([d] : List D) = true) : freeC true [d] = true := by unfold freeC; rw [h]; rfl
theorem q_free2 {l : List D} : freeC true (x :: y :: l) = immAll (x :: y :: l) := by unfold freeC; simp
theorem q_free0 : freeC true [] = true := (rfl)
theorem fin_nx : Py.finish (.nx ρ) = .ok .none := (rfl)
theorem fin_rt : Py.finish (.rt d) = .ok d := (rfl)
theorem fin_exc : Py.finish (.exc n ρ) = .exc n := (rfl)
theorem noexc_ok {α : Type} {a : α} : noexc (Res.ok a) = .ok a := (rfl)
theorem wipe_nil : wipeE ρ [] = ρ := (rfl)
theorem wipe_cons {vs : List Nat} : wipeE ρ (i :: vs) = (wipeE ρ vs).set i .un := (rfl)
theorem ite_bool {p q : Bool} : (if p = true then Res.ok (PyData.bool q) else .ok (.bool false)) = .ok (.bool (p && q)) := by cases p <;> rfl
theorem ite_bool' {p q : Bool} : (if p = true then Res.ok (PyData.bool true) else .ok (.bool q)) = .ok (.bool (p || q)) := by cases p <;> rfl
theorem ite_okb {p q : Bool} : (if p = true then Res.ok q else .ok false) = .ok (p && q) := by cases p <;> rfl
theorem ite_okb' {p q : Bool} : (if p = true then Res.ok true else .ok q) = .ok (p || q) := by cases p <;> rfl
theorem ite_ok {p : Bool} : (if p = true then Res.ok x else .ok y) = .ok (if p = true then x else y) := by cases p <;> rfl
theorem ite_int {p : Bool} {i j : Int} : (if p = true then PyData.int i else .int j) = .int (if p = true then i else j) := by cases p <;> rfl
end

/-! ### comprehensions: the normal form -/
def lcM {α : Type} (f : α → Res (Option D)) : List α → Res (List D)
  | [] => .ok []
  | x :: xs => match f x with
    | .ok none => lcM f xs
    | .ok (some d) => (Res.ok d).cns (lcM f xs)
    | .exc c => .exc c
    | .bad => .bad
def lcZ : Res D → Res (Option D)
  | .ok d => if imm d = true then .ok (some d) else .bad
  | .exc c => .exc c
  | .bad => .bad
def lcY (e : Ex) (ρ : Env') : Res Bool → Res (Option D)
  | .ok c => if c = true then lcZ (e ρ) else .ok none
  | .exc c => .exc c
  | .bad => .bad
def lcX (t : Tx) (e : Ex) : Option Env' → Res (Option D)
  | none => .bad
  | some ρ => lcY e ρ (t ρ)
def lcFin : Res (List D) → Res D
  | .ok ds => if ds.length ≤ 16777216 then .ok (.list ds) else .bad
  | _ => .bad
section
variable {b : Bd} {t : Tx} {e : Ex} {ρ ρ1 : Env'} {xs ds : List D} {d x : D} {vs : List Nat} {k : Bool}
theorem lcGo_M : ∀ xs : List D, lcGo b t e ρ xs = lcM (fun x => lcX t e (b x ρ)) xs
  | [] => rfl
  | x :: xs => by
    have ih := lcGo_M xs
    show (match b x ρ with | none => Res.bad | some ρ1 => _) = _
    unfold lcM
    cases b x ρ with
    | none => rfl
    | some ρ1 =>
      show (t ρ1).bind _ = (match lcY e ρ1 (t ρ1) with | .ok none => _ | .ok (some d) => _ | .exc c => _ | .bad => _)
      cases t ρ1 with
      | ok c =>
        cases c with
        | true =>
          show (e ρ1).bind _ = (match lcZ (e ρ1) with | .ok none => _ | .ok (some d) => _ | .exc c => _ | .bad => _)
          cases e ρ1 with
          | ok d =>
            show (if imm d = true then _ else _) = (match (if imm d = true then Res.ok (some d) else .bad) with | .ok none => _ | .ok (some d) => _ | .exc c => _ | .bad => _)
            by_cases h : imm d = true
            · rw [if_pos h, if_pos h, ih]
              show Res.bind _ _ = Res.cns _ _
              cases lcM (fun x => lcX t e (b x ρ)) xs <;> rfl
            · rw [if_neg h, if_neg h]
          | _ => rfl
        | false => exact ih
      | _ => rfl
theorem q_lcI : lcI vs b t e ρ (some xs) = lcFin (lcM (fun x => lcX t e (b x (wipeE ρ vs))) xs) := by
  rw [← lcGo_M]
  show noexc ((lcGo b t e (wipeE ρ vs) xs).bind fun ds => if ds.length ≤ sizeLine then Res.ok (PyData.list ds) else Res.bad) = _
  unfold lcFin
  cases lcGo b t e (wipeE ρ vs) xs with
  | ok ds =>
    show noexc (if ds.length ≤ 16777216 then Res.ok (PyData.list ds) else Res.bad) = if ds.length ≤ 16777216 then Res.ok (PyData.list ds) else Res.bad
    by_cases h : ds.length ≤ 16777216
    · rw [if_pos h]; rfl
    · rw [if_neg h]; rfl
  | _ => rfl
theorem lcX_some : lcX t e (some ρ) = lcY e ρ (t ρ) := (rfl)
theorem lcY_ok : lcY e ρ (.ok k) = if k = true then lcZ (e ρ) else .ok none := (rfl)
theorem lcZ_ok (h : imm d = true) : lcZ (.ok d) = .ok (some d) := if_pos h
theorem lcFin_ok (h : ds.length ≤ 16777216) : lcFin (.ok ds) = .ok (.list ds) := if_pos h
theorem lcFin_of {r : Res (List D)} (h : r = .ok ds) (h2 : ds.length ≤ 16777216) : lcFin r = .ok (.list ds) := by rw [h, lcFin_ok h2]
end
def lcN {α : Type} (f : α → Res (Option D)) (xs : List α) : Res (Option D) → Res (List D)
  | .ok none => lcM f xs
  | .ok (some d) => (Res.ok d).cns (lcM f xs)
  | .exc c => .exc c
  | .bad => .bad
section
variable {α β : Type} {f : α → Res (Option D)} {g : β → α} {xs : List α} {d : D}
theorem lcM_nil : lcM f [] = .ok [] := (rfl)
theorem lcM_cons {x : α} : lcM f (x :: xs) = lcN f xs (f x) := by
  unfold lcN
  conv => lhs; unfold lcM
theorem lcN_none : lcN f xs (.ok none) = lcM f xs := (rfl)
theorem lcN_some : lcN f xs (.ok (some d)) = (Res.ok d).cns (lcM f xs) := (rfl)
theorem lcM_map : ∀ {ys : List β}, lcM f (ys.map g) = lcM (fun y => f (g y)) ys
  | [] => rfl
  | y :: ys => by rw [List.map_cons, lcM_cons, lcM_cons]; unfold lcN; rw [lcM_map]
theorem lcM_up {f : D → Res (Option D)} {lo : Int} {n : Nat} : lcM f (upFrom lo n) = lcM (fun (k : Nat) => f (.int (lo + (k : Int)))) (List.range n) := lcM_map
theorem lcM_congr {f' : α → Res (Option D)} : ∀ {xs : List α}, (∀ x ∈ xs, f x = f' x) → lcM f xs = lcM f' xs
  | [], _ => rfl
  | x :: xs, h => by rw [lcM_cons, lcM_cons, h x (by simp)]; unfold lcN; rw [lcM_congr fun y hy => h y (by simp [hy])]
theorem lcM_all {h : α → D} : ∀ {xs : List α}, lcM (fun x => .ok (some (h x))) xs = .ok (xs.map h)
  | [] => rfl
  | x :: xs => by rw [lcM_cons, lcN_some, lcM_all]; rfl
theorem lcM_filter {h : α → D} {p : α → Bool} : ∀ {xs : List α}, lcM (fun x => if p x = true then .ok (some (h x)) else .ok none) xs = .ok ((xs.filter p).map h)
  | [] => rfl
  | x :: xs => by
    rw [lcM_cons]
    cases e : p x with
    | true => rw [if_pos rfl, lcN_some, lcM_filter, List.filter_cons_of_pos e]; rfl
    | false => rw [if_neg (by simp), lcN_none, lcM_filter, List.filter_cons_of_neg (by simp [e])]
theorem lcM_filterP {h : α → D} {p : α → Prop} [DecidablePred p] {xs : List α} : lcM (fun x => if p x then .ok (some (h x)) else .ok none) xs = .ok ((xs.filter fun x => decide (p x)).map h) := by
  rw [← lcM_filter]
  congr 1
  funext x
  by_cases hp : p x <;> simp [hp]
theorem lcM_eq {h : α → D} (H : ∀ x ∈ xs, f x = .ok (some (h x))) : lcM f xs = .ok (xs.map h) := by rw [lcM_congr H, lcM_all]
theorem lcM_eqF {h : α → D} {p : α → Bool} (H : ∀ x ∈ xs, f x = if p x = true then .ok (some (h x)) else .ok none) : lcM f xs = .ok ((xs.filter p).map h) := by rw [lcM_congr H, lcM_filter]
end
/-! two clauses -/
def Res.apd : Res (List D) → Res (List D) → Res (List D)
  | .ok x, .ok xs => .ok (x ++ xs)
  | .ok _, .exc c => .exc c
  | .ok _, .bad => .bad
  | .exc c, _ => .exc c
  | .bad, _ => .bad
theorem apd_ok {xs ys : List D} : (Res.ok xs).apd (.ok ys) = .ok (xs ++ ys) := (rfl)
def lcJ {α : Type} (f : α → Res (List D)) : List α → Res (List D)
  | [] => .ok []
  | x :: xs => (f x).apd (lcJ f xs)
section
variable {b b1 : Bd} {t t1 : Tx} {f f1 : As} {its its1 : Itd'} {fr1 : Bool} {vs vs1 : List Nat} {e : Ex} {ρ ρ1 : Env'} {xs ys cds : List D} {x : D} {k : Bool}
def lc2J (vs1 : List Nat) (b1 : Bd) (t1 : Tx) (e : Ex) (ρ1 : Env') : Option (List D) → Res (List D)
  | none => .bad
  | some ys => lcM (fun y => lcX t1 e (b1 y (wipeE ρ1 vs1))) ys
def lc2F (its1 : Itd') (fr1 : Bool) (vs1 : List Nat) (b1 : Bd) (t1 : Tx) (e : Ex) (ρ1 : Env') : Res (List D) → Res (List D)
  | .ok cds => if freeC fr1 cds = true then lc2J vs1 b1 t1 e ρ1 (its1 cds) else .bad
  | .exc c => .exc c
  | .bad => .bad
def lc2T (f1 : As) (its1 : Itd') (fr1 : Bool) (vs1 : List Nat) (b1 : Bd) (t1 : Tx) (e : Ex) (ρ1 : Env') : Res Bool → Res (List D)
  | .ok c => if c = true then lc2F its1 fr1 vs1 b1 t1 e ρ1 (f1 ρ1) else .ok []
  | .exc c => .exc c
  | .bad => .bad
def lc2B (t : Tx) (f1 : As) (its1 : Itd') (fr1 : Bool) (vs1 : List Nat) (b1 : Bd) (t1 : Tx) (e : Ex) : Option Env' → Res (List D)
  | none => .bad
  | some ρ1 => lc2T f1 its1 fr1 vs1 b1 t1 e ρ1 (t ρ1)
theorem apd_nil : ∀ {r : Res (List D)}, (Res.ok []).apd r = r
  | .ok _ => rfl
  | .exc _ => rfl
  | .bad => rfl
theorem lc2Go_J : ∀ xs : List D, lc2Go b t f1 its1 fr1 vs1 b1 t1 e ρ xs = lcJ (fun x => if imm x = true then lc2B t f1 its1 fr1 vs1 b1 t1 e (b x ρ) else .bad) xs
  | [] => rfl
  | x :: xs => by
    have ih := lc2Go_J xs
    rw [lc2Go]
    show _ = Res.apd (if imm x = true then lc2B t f1 its1 fr1 vs1 b1 t1 e (b x ρ) else .bad) _
    by_cases h : imm x = true
    · rw [if_pos h, if_pos h]
      cases b x ρ with
      | none => rfl
      | some ρ1 =>
        show (t ρ1).bind _ = (lc2T f1 its1 fr1 vs1 b1 t1 e ρ1 (t ρ1)).apd _
        cases t ρ1 with
        | ok c =>
          cases c with
          | true =>
            show (f1 ρ1).bind _ = (lc2F its1 fr1 vs1 b1 t1 e ρ1 (f1 ρ1)).apd _
            cases f1 ρ1 with
            | ok cds =>
              show (if freeC fr1 cds = true then _ else _) = (if freeC fr1 cds = true then _ else _ : Res (List D)).apd _
              by_cases hf : freeC fr1 cds = true
              · rw [if_pos hf, if_pos hf]
                cases its1 cds with
                | none => rfl
                | some ys =>
                  show (lcGo b1 t1 e (wipeE ρ1 vs1) ys).bind _ = Res.apd (lcM _ _) _
                  rw [lcGo_M, ih]
                  cases lcM (fun y => lcX t1 e (b1 y (wipeE ρ1 vs1))) ys with
                  | ok ds => cases lcJ (fun x => if imm x = true then lc2B t f1 its1 fr1 vs1 b1 t1 e (b x ρ) else .bad) xs <;> rfl
                  | _ => rfl
              · rw [if_neg hf, if_neg hf]; rfl
            | _ => rfl
          | false =>
            show lc2Go b t f1 its1 fr1 vs1 b1 t1 e ρ xs = (Res.ok []).apd _
            rw [apd_nil, ih]
        | _ => rfl
    · rw [if_neg h, if_neg h]; rfl
def lc2I (vs : List Nat) (b : Bd) (t : Tx) (f1 : As) (its1 : Itd') (fr1 : Bool) (vs1 : List Nat) (b1 : Bd) (t1 : Tx) (e : Ex) (ρ : Env') : Option (List D) → Res D
  | none => .bad
  | some xs => lcFin (lcJ (fun x => if imm x = true then lc2B t f1 its1 fr1 vs1 b1 t1 e (b x (wipeE ρ vs)) else .bad) xs)
def Res.lc2K (its : Itd') (vs : List Nat) (b : Bd) (t : Tx) (f1 : As) (its1 : Itd') (fr1 : Bool) (vs1 : List Nat) (b1 : Bd) (t1 : Tx) (e : Ex) (ρ : Env') : Res (List D) → Res D
  | .ok cds => lc2I vs b t f1 its1 fr1 vs1 b1 t1 e ρ (its cds)
  | .exc c => .exc c
  | .bad => .bad
theorem q_lc2 : sLc2 f its vs b t f1 its1 fr1 vs1 b1 t1 e ρ = (f ρ).lc2K its vs b t f1 its1 fr1 vs1 b1 t1 e ρ := by
  unfold sLc2 Res.lc2K
  cases f ρ with
  | ok cds =>
    show (match its cds with | none => Res.bad | some xs => _) = lc2I vs b t f1 its1 fr1 vs1 b1 t1 e ρ (its cds)
    cases its cds with
    | none => rfl
    | some xs =>
      show noexc (Res.bind _ _) = lcFin _
      rw [← lc2Go_J]
      unfold lcFin
      cases lc2Go b t f1 its1 fr1 vs1 b1 t1 e (wipeE ρ vs) xs with
      | ok ds =>
        show noexc (if ds.length ≤ 16777216 then Res.ok (PyData.list ds) else Res.bad) = if ds.length ≤ 16777216 then Res.ok (PyData.list ds) else Res.bad
        by_cases h : ds.length ≤ 16777216
        · rw [if_pos h]; rfl
        · rw [if_neg h]; rfl
      | _ => rfl
  | _ => rfl
theorem lc2K_ok : (Res.ok cds).lc2K its vs b t f1 its1 fr1 vs1 b1 t1 e ρ = lc2I vs b t f1 its1 fr1 vs1 b1 t1 e ρ (its cds) := (rfl)
theorem lc2I_some : lc2I vs b t f1 its1 fr1 vs1 b1 t1 e ρ (some xs) = lcFin (lcJ (fun x => if imm x = true then lc2B t f1 its1 fr1 vs1 b1 t1 e (b x (wipeE ρ vs)) else .bad) xs) := (rfl)
theorem lc2B_some : lc2B t f1 its1 fr1 vs1 b1 t1 e (some ρ1) = lc2T f1 its1 fr1 vs1 b1 t1 e ρ1 (t ρ1) := (rfl)
theorem lc2T_ok : lc2T f1 its1 fr1 vs1 b1 t1 e ρ1 (.ok k) = if k = true then lc2F its1 fr1 vs1 b1 t1 e ρ1 (f1 ρ1) else .ok [] := (rfl)
theorem lc2F_ok (h : freeC fr1 cds = true) : lc2F its1 fr1 vs1 b1 t1 e ρ1 (.ok cds) = lc2J vs1 b1 t1 e ρ1 (its1 cds) := if_pos h
theorem lc2J_some : lc2J vs1 b1 t1 e ρ1 (some ys) = lcM (fun y => lcX t1 e (b1 y (wipeE ρ1 vs1))) ys := (rfl)
end
section
variable {α β : Type} {f : α → Res (List D)} {g : β → α} {xs : List α}
theorem lcJ_nil : lcJ f [] = .ok [] := (rfl)
theorem lcJ_cons {x : α} : lcJ f (x :: xs) = (f x).apd (lcJ f xs) := (rfl)
theorem lcJ_map : ∀ {ys : List β}, lcJ f (ys.map g) = lcJ (fun y => f (g y)) ys
  | [] => rfl
  | y :: ys => by rw [List.map_cons, lcJ_cons, lcJ_cons, lcJ_map]
theorem lcJ_up {f : D → Res (List D)} {lo : Int} {n : Nat} : lcJ f (upFrom lo n) = lcJ (fun (k : Nat) => f (.int (lo + (k : Int)))) (List.range n) := lcJ_map
theorem lcJ_congr {f' : α → Res (List D)} : ∀ {xs : List α}, (∀ x ∈ xs, f x = f' x) → lcJ f xs = lcJ f' xs
  | [], _ => rfl
  | x :: xs, h => by rw [lcJ_cons, lcJ_cons, h x (by simp), lcJ_congr fun y hy => h y (by simp [hy])]
theorem lcJ_all {h : α → List D} : ∀ {xs : List α}, lcJ (fun x => .ok (h x)) xs = .ok (xs.flatMap h)
  | [] => rfl
  | x :: xs => by rw [lcJ_cons, lcJ_all]; rfl
theorem lcJ_eq {h : α → List D} (H : ∀ x ∈ xs, f x = .ok (h x)) : lcJ f xs = .ok (xs.flatMap h) := by rw [lcJ_congr H, lcJ_all]
end
/-! ### picking, trying, appending -/

def Res.pick (gs : List (List D → Res D)) (fs : List Ex) (ρ : Env') : Res D → Res D
  | .ok (.int i) => match L2.atI gs i with
    | some g => (evalL fs ρ).bind g
    | none => .bad
  | .exc c => .exc c
  | _ => .bad

def Res.pickB (ds : Res (List D)) : Option (List D → Res D) → Res D
  | some g => ds.bind g
  | none => .bad
theorem q_pick {gs : List (List D → Res D)} {ix : Ex} {fs : List Ex} {ρ : Env'} : sPick gs ix fs ρ = (ix ρ).pick gs fs ρ := by
  unfold sPick Res.pick
  cases ix ρ with
  | ok d => cases d <;> rfl
  | _ => rfl

theorem pick_ok {gs : List (List D → Res D)} {fs : List Ex} {ρ : Env'} {i : Int} {g : List D → Res D} (h0 : 0 ≤ i) (h : gs[i.toNat]? = some g) : (Res.ok (.int i)).pick gs fs ρ = (evalL fs ρ).bind g := by
  have hl : i.toNat < gs.length := by
    rcases Nat.lt_or_ge i.toNat gs.length with h1 | h1
    · exact h1
    · rw [List.getElem?_eq_none h1] at h; cases h
  have : L2.atI gs i = some g := by
    unfold L2.atI ixN
    rw [if_pos h0, if_pos (by omega)]
    exact h
  show (match L2.atI gs i with | some g => (evalL fs ρ).bind g | none => .bad) = _
  rw [this]

theorem pick_n {gs : List (List D → Res D)} {fs : List Ex} {ρ : Env'} {i : Nat} : (Res.ok (.int (OfNat.ofNat i))).pick gs fs ρ = Res.pickB (evalL fs ρ) (L2.atI gs (OfNat.ofNat i)) := by
  show (match L2.atI gs _ with | some g => (evalL fs ρ).bind g | none => .bad) = _
  cases L2.atI gs _ <;> rfl
theorem pickB_some {ds : Res (List D)} {g : List D → Res D} : Res.pickB ds (some g) = ds.bind g := (rfl)
theorem atI_0 {α : Type} {a : α} {l : List α} : L2.atI (a :: l) 0 = some a := by
  unfold L2.atI ixN
  rw [if_pos (by decide), if_pos (by simp)]
  rfl
theorem atI_1 {α : Type} {a b : α} {l : List α} : L2.atI (a :: b :: l) 1 = some b := by
  unfold L2.atI ixN
  rw [if_pos (by decide), if_pos (by simp; omega)]
  rfl
theorem atI_2 {α : Type} {a b c : α} {l : List α} : L2.atI (a :: b :: c :: l) 2 = some c := by
  unfold L2.atI ixN
  rw [if_pos (by decide), if_pos (by simp; omega)]
  rfl
theorem atI_3 {α : Type} {a b c d : α} {l : List α} : L2.atI (a :: b :: c :: d :: l) 3 = some d := by
  unfold L2.atI ixN
  rw [if_pos (by decide), if_pos (by simp; omega)]
  rfl

def tryK (ie jf : Nat) (fes : List FE) (fin : FE) : Out → Out
  | .exc c ρ' => if ie < ρ'.length ∧ jf < ρ'.length then match suiteEv c fes fin none with
      | some j => .rt (.int (j : Nat))
      | none => .bad
    else .bad
  | o => o
theorem q_try {ie jf : Nat} {f : Sx} {fes : List FE} {fin : FE} {ρ : Env'} : oTry ie jf f fes fin ρ = tryK ie jf fes fin (f ρ) := by
  unfold oTry tryK; cases f ρ <;> rfl
theorem tryK_nx {ie jf : Nat} {fes : List FE} {fin : FE} {ρ : Env'} : tryK ie jf fes fin (.nx ρ) = .nx ρ := (rfl)
theorem tryK_rt {ie jf : Nat} {fes : List FE} {fin : FE} {d : D} : tryK ie jf fes fin (.rt d) = .rt d := (rfl)
theorem tryK_exc {ie jf c j : Nat} {fes : List FE} {fin : FE} {ρ : Env'} (h1 : suiteEv c fes fin none = some j) (h2 : ie < ρ.length) (h3 : jf < ρ.length) : tryK ie jf fes fin (.exc c ρ) = .rt (.int j) := by
  show (if _ then _ else _) = _
  rw [if_pos ⟨h2, h3⟩, h1]


def appK (i : Nat) (ρ : Env') : Option Sl → Res D → Out
  | some (.val o (.list ds)), .ok d => if o = true ∧ imm d = true ∧ ds.length < 16777216 then .nx (ρ.set i (.val true (.list (ds ++ [d])))) else .bad
  | some (.val o (.list _)), .exc c => if o = true then .exc c ρ else .bad
  | _, _ => .bad
theorem q_app {i : Nat} {e : Ex} {ρ : Env'} : oAppend i e ρ = appK i ρ ρ[i]? (e ρ) := by
  unfold oAppend appK
  cases ρ[i]? with
  | none => rfl
  | some s => cases s with
    | val o d => cases d with
      | list ds => cases o with
        | true =>
          show oE e _ ρ = _
          unfold oE
          cases e ρ with
          | ok d =>
            show (if _ then _ else _) = if _ then _ else _
            simp only [true_and]
            rfl
          | exc c => rfl
          | bad => rfl
        | false => cases e ρ <;> simp
      | _ => cases o <;> rfl
    | _ => rfl
theorem appK_ok {i : Nat} {d : D} {ds : List D} {ρ : Env'} (h1 : imm d = true) (h2 : ds.length < 16777216) : appK i ρ (some (.val true (.list ds))) (.ok d) = .nx (ρ.set i (.val true (.list (ds ++ [d])))) := if_pos ⟨rfl, h1, h2⟩
def remK (i : Nat) (ρ : Env') : Option Sl → Res D → Out
  | some (.val o (.list ds)), .ok d => match remD ds d with
    | some ds' => if o = true then .nx (ρ.set i (.val true (.list ds'))) else .bad
    | none => .bad
  | some (.val o (.list _)), .exc c => if o = true then .exc c ρ else .bad
  | _, _ => .bad
theorem q_rem {i : Nat} {e : Ex} {ρ : Env'} : oRemove i e ρ = remK i ρ ρ[i]? (e ρ) := by
  unfold oRemove remK
  cases ρ[i]? with
  | none => rfl
  | some s => cases s with
    | val o d => cases d with
      | list ds => cases o with
        | true =>
          show oE e _ ρ = _
          unfold oE
          cases e ρ with
          | ok d =>
            show (match remD ds d with | some ds' => _ | none => _) = (match remD ds d with | some ds' => _ | none => _)
            cases remD ds d <;> rfl
          | exc c => rfl
          | bad => rfl
        | false =>
          cases e ρ with
          | ok d =>
            show Out.bad = (match remD ds d with | some ds' => _ | none => _)
            cases remD ds d <;> rfl
          | exc c => rfl
          | bad => rfl
      | _ => cases o <;> rfl
    | _ => rfl
theorem remK_ok {i : Nat} {d : D} {ds ds' : List D} {ρ : Env'} (h : remD ds d = some ds') : remK i ρ (some (.val true (.list ds))) (.ok d) = .nx (ρ.set i (.val true (.list ds'))) := by
  show (match remD ds d with | some ds' => _ | none => _) = _
  rw [h]
  rfl
def extK (i : Nat) (ρ : Env') : Option Sl → Res D → Out
  | some (.val o (.list ds)), .ok (.list es) => if o = true ∧ immAll es = true ∧ ds.length + es.length ≤ 16777216 then .nx (ρ.set i (.val true (.list (ds ++ es)))) else .bad
  | some (.val o (.list _)), .exc c => if o = true then .exc c ρ else .bad
  | _, _ => .bad
theorem q_ext {i : Nat} {e : Ex} {ρ : Env'} : oExtend i e ρ = extK i ρ ρ[i]? (e ρ) := by
  unfold oExtend extK
  cases ρ[i]? with
  | none => rfl
  | some s => cases s with
    | val o d => cases d with
      | list ds => cases o with
        | true =>
          show oE e _ ρ = _
          unfold oE
          cases e ρ with
          | ok d => cases d with
            | list es =>
              show (if _ then _ else _) = if _ then _ else _
              simp only [true_and]
              rfl
            | _ => rfl
          | exc c => rfl
          | bad => rfl
        | false =>
          cases e ρ with
          | ok d => cases d <;> simp
          | exc c => rfl
          | bad => rfl
      | _ => cases o <;> rfl
    | _ => rfl
theorem extK_ok {i : Nat} {es ds : List D} {ρ : Env'} (h1 : immAll es = true) (h2 : ds.length + es.length ≤ 16777216) : extK i ρ (some (.val true (.list ds))) (.ok (.list es)) = .nx (ρ.set i (.val true (.list (ds ++ es)))) := if_pos ⟨rfl, h1, h2⟩
/-! ### built-ins -/

theorem allD_map (bs : List Bool) : allD [.list (bs.map .bool)] = some (.bool (bs.all id)) := by
  show (boolsOf (bs.map .bool)).map _ = _
  rw [boolsOf_map]; rfl
theorem anyB_map (bs : List Bool) : anyB [.list (bs.map .bool)] = some (.bool (bs.any id)) := by
  show (boolsOf (bs.map .bool)).map _ = _
  rw [boolsOf_map]; rfl
theorem sumD_map (bs : List Int) : sumD2 [.list (bs.map .int)] = some (.int bs.sum) := by
  show (intsOf (bs.map .int)).map _ = _
  rw [intsOf_map]; rfl
theorem sumT_map (bs : List Int) : sumD2 [.tuple (bs.map .int)] = some (.int bs.sum) := by
  show (intsOf (bs.map .int)).map _ = _
  rw [intsOf_map]; rfl
theorem sortedD_l (bs : List Int) : sortedD [.list (bs.map .int)] = some (.list ((sortI bs).map .int)) := by
  show (intsOf (bs.map .int)).map _ = _
  rw [intsOf_map]; rfl
theorem sortedD_t (bs : List Int) : sortedD [.tuple (bs.map .int)] = some (.list ((sortI bs).map .int)) := by
  show (intsOf (bs.map .int)).map _ = _
  rw [intsOf_map]; rfl
theorem rgD_t {j : Int} (h1 : -1000000 ≤ j) (h2 : j ≤ 1000000) : rgD true (.int j) = some (.tuple (upFrom 0 j.toNat)) := by
  unfold rgD; exact if_pos ⟨by omega, by omega, by omega⟩
theorem rgD_l {j : Int} (h1 : -1000000 ≤ j) (h2 : j ≤ 1000000) : rgD false (.int j) = some (.list (upFrom 0 j.toNat)) := by
  unfold rgD; exact if_pos ⟨by omega, by omega, by omega⟩
theorem iEnum_l {l : List D} : iEnumD2 [.list l] = some (enumF 0 l) := (rfl)
theorem iEnum_t {l : List D} : iEnumD2 [.tuple l] = some (enumF 0 l) := (rfl)
theorem iZip_l {l m : List D} : iZipD [.list l, .list m] = some (zipD l m) := (rfl)
theorem iZip_t {l m : List D} : iZipD [.tuple l, .tuple m] = some (zipD l m) := (rfl)
theorem tupleD_l {l : List D} : tupleD [.list l] = some (.tuple l) := (rfl)
theorem tupleD_t {l : List D} : tupleD [.tuple l] = some (.tuple l) := (rfl)
theorem listD_l {l : List D} : listD [.list l] = some (.list l) := (rfl)
theorem listD_t {l : List D} : listD [.tuple l] = some (.list l) := (rfl)
theorem intD_i {i : Int} : intD [.int i] = some (.int i) := (rfl)
theorem intD_b {i : Bool} : intD [.bool i] = some (.int (if i then 1 else 0)) := (rfl)

theorem maxD_list (ns : List Int) (h : ns ≠ []) : maxD [.list (ns.map .int)] = some (.int (lmax ns)) := by
  cases ns with
  | nil => exact absurd rfl h
  | cons a l =>
    have := intsOf_map (a :: l)
    simp only [maxD, this]
theorem minD_list (ns : List Int) (h : ns ≠ []) : minD [.list (ns.map .int)] = some (.int (lmin ns)) := by
  cases ns with
  | nil => exact absurd rfl h
  | cons a l =>
    have := intsOf_map (a :: l)
    simp only [minD, this]


theorem maxD_m {α : Type} {f : α → Int} {l : List α} (h : l ≠ []) : maxD [.list (l.map fun x => .int (f x))] = some (.int (lmax (l.map f))) := by
  rw [← maxD_list _ (by simpa using h), List.map_map]; rfl
theorem minD_m {α : Type} {f : α → Int} {l : List α} (h : l ≠ []) : minD [.list (l.map fun x => .int (f x))] = some (.int (lmin (l.map f))) := by
  rw [← minD_list _ (by simpa using h), List.map_map]; rfl
theorem allD_m {α : Type} {f : α → Bool} {l : List α} : allD [.list (l.map fun x => .bool (f x))] = some (.bool (l.all f)) := by
  have := allD_map (l.map f)
  rw [List.map_map] at this
  refine this.trans ?_
  rw [List.all_map]; rfl
theorem anyB_m {α : Type} {f : α → Bool} {l : List α} : anyB [.list (l.map fun x => .bool (f x))] = some (.bool (l.any f)) := by
  have := anyB_map (l.map f)
  rw [List.map_map] at this
  refine this.trans ?_
  rw [List.any_map]; rfl
theorem sumD_m {α : Type} {f : α → Int} {l : List α} : sumD2 [.list (l.map fun x => .int (f x))] = some (.int (l.map f).sum) := by
  have := sumD_map (l.map f)
  rw [List.map_map] at this
  exact this
theorem sumT_m {α : Type} {f : α → Int} {l : List α} : sumD2 [.tuple (l.map fun x => .int (f x))] = some (.int (l.map f).sum) := by
  have := sumT_map (l.map f)
  rw [List.map_map] at this
  exact this

theorem isNone_n : isNone .none = true := (rfl)
theorem isNone_i {i : Int} : isNone (.int i) = false := (rfl)
theorem isNone_b {i : Bool} : isNone (.bool i) = false := (rfl)
theorem isNone_t {l : List D} : isNone (.tuple l) = false := (rfl)
theorem isNone_l {l : List D} : isNone (.list l) = false := (rfl)

theorem isNone_s {i : Str} : isNone (.str i) = false := (rfl)
/-! ### lists of data made by a map -/
theorem immAll_map {α : Type} {f : α → D} {l : List α} (h : ∀ x, imm (f x) = true) : immAll (l.map f) = true := by
  rw [immAll_iff]
  intro d hd
  obtain ⟨x, _, rfl⟩ := List.mem_map.mp hd
  exact h x
theorem okAll_map {α : Type} {f : α → D} {l : List α} {k : Nat} (h : ∀ x, okD k (f x) = true) : okAll k (l.map f) = true := by
  rw [okAll_iff]
  intro d hd
  obtain ⟨x, _, rfl⟩ := List.mem_map.mp hd
  exact h x
theorem immAll_up {lo : Int} {n : Nat} : immAll (upFrom lo n) = true := immAll_map fun _ => rfl
theorem okAll_up {lo : Int} {n k : Nat} : okAll k (upFrom lo n) = true := okAll_map fun _ => okD_int
theorem immAll_append {l m : List D} : immAll (l ++ m) = (immAll l && immAll m) := by
  induction l with
  | nil => rfl
  | cons x l ih => rw [List.cons_append, immAll_cons, immAll_cons, ih, Bool.and_assoc]
theorem up_len {lo : Int} {n : Nat} : (upFrom lo n).length = n := by unfold upFrom; simp
/-! ### loops -/
theorem forGo_post {α : Type} {b : Bd} {body : Sx} (g : α → D) (P : List α → Env' → Prop) (Q : Out → Prop) (h0 : ∀ ρ, P [] ρ → Q (.nx ρ))
    (hs : ∀ x xs ρ, P (x :: xs) ρ → ∃ ρ1, b (g x) ρ = some ρ1 ∧ ((∃ ρ2, body ρ1 = .nx ρ2 ∧ P xs ρ2) ∨ ((∀ ρ2, body ρ1 ≠ .nx ρ2) ∧ Q (body ρ1)))) : ∀ (xs : List α) (ρ : Env'), P xs ρ → Q (forGo b body (xs.map g) ρ)
  | [], ρ, p => h0 ρ p
  | x :: xs, ρ, p => by
    obtain ⟨ρ1, e1, h⟩ := hs x xs ρ p
    rw [List.map_cons, for_cons, e1, forN_some]
    rcases h with ⟨ρ2, e2, p2⟩ | ⟨n, q⟩
    · rw [e2, thn_nx]
      exact forGo_post g P Q h0 hs xs ρ2 p2
    · cases e : body ρ1 with
      | nx ρ2 => exact absurd e (n ρ2)
      | rt d => rw [e] at q; exact q
      | exc c ρ2 => rw [e] at q; exact q
      | bad => rw [e] at q; exact q

theorem forGo_fold {α S : Type} {b : Bd} {body : Sx} (E : S → Env') (h : α → D) (step : S → α → S) (I : S → Prop) : ∀ (ys : List α) (s : S), I s → (∀ y ∈ ys, ∀ s, I s → I (step s y) ∧ ∃ ρ1, b (h y) (E s) = some ρ1 ∧ body ρ1 = .nx (E (step s y))) →
    forGo b body (ys.map h) (E s) = .nx (E (ys.foldl step s)) ∧ I (ys.foldl step s)
  | [], s, i, _ => ⟨rfl, i⟩
  | y :: ys, s, i, H => by
    obtain ⟨i1, ρ1, h1, h2⟩ := H y (by simp) s i
    have ih := forGo_fold E h step I ys (step s y) i1 fun z hz => H z (by simp [hz])
    rw [List.map_cons, for_cons, h1, forN_some, h2, thn_nx]
    exact ih
/-- a loop that only passes -/
theorem forGo_pass {α S : Type} {b : Bd} {body : Sx} (E : S → Env') (h : α → D) : ∀ (ys : List α) (s : S), (∀ y ∈ ys, ∀ s, ∃ ρ1, b (h y) (E s) = some ρ1 ∧ ∃ s', body ρ1 = .nx (E s')) →
    ∃ s', forGo b body (ys.map h) (E s) = .nx (E s')
  | [], s, _ => ⟨s, rfl⟩
  | y :: ys, s, H => by
    obtain ⟨ρ1, h1, s', h2⟩ := H y (by simp) s
    obtain ⟨s2, ih⟩ := forGo_pass E h ys s' fun z hz => H z (by simp [hz])
    exact ⟨s2, by rw [List.map_cons, for_cons, h1, forN_some, h2, thn_nx]; exact ih⟩
theorem upFrom_map (lo : Int) (n : Nat) : upFrom lo n = (List.range n).map fun (k : Nat) => PyData.int (lo + (k : Int)) := (rfl)

/-- a loop that looks for the first -/
theorem forGo_find {α S : Type} {b : Bd} {body : Sx} (E : S → Env') (h : α → D) (F : α → Option D) : ∀ (ys : List α) (s : S), (∀ y ∈ ys, ∀ s, ∃ ρ1, b (h y) (E s) = some ρ1 ∧ (∀ d, F y = some d → body ρ1 = .rt d) ∧ (F y = none → ∃ s', body ρ1 = .nx (E s'))) →
    (∀ d, ys.findSome? F = some d → forGo b body (ys.map h) (E s) = .rt d) ∧ (ys.findSome? F = none → ∃ s', forGo b body (ys.map h) (E s) = .nx (E s'))
  | [], s, _ => ⟨fun d h => (by cases h), fun _ => ⟨s, rfl⟩⟩
  | y :: ys, s, H => by
    obtain ⟨ρ1, h1, h2, h3⟩ := H y (by simp) s
    rw [List.map_cons, for_cons, h1, forN_some, List.findSome?_cons]
    cases e : F y with
    | some d =>
      rw [h2 d e]
      exact ⟨fun d' h => (by cases h; rfl), fun h => (by cases h)⟩
    | none =>
      obtain ⟨s', h4⟩ := h3 e
      rw [h4, thn_nx]
      exact forGo_find E h F ys s' fun z hz => H z (by simp [hz])

/-- a loop by its steps -/
theorem forGo_ind {α : Type} {b : Bd} {body : Sx} (h : α → D) : ∀ (xs : List α) (P : Nat → Env' → Prop) (ρ : Env'), P 0 ρ → (∀ (k : Nat) (hk : k < xs.length) (ρ : Env'), P k ρ → ∃ ρ1 ρ2, b (h xs[k]) ρ = some ρ1 ∧ body ρ1 = .nx ρ2 ∧ P (k + 1) ρ2) →
    ∃ ρ', forGo b body (xs.map h) ρ = .nx ρ' ∧ P xs.length ρ'
  | [], P, ρ, p, _ => ⟨ρ, rfl, p⟩
  | x :: xs, P, ρ, p, H => by
    obtain ⟨ρ1, ρ2, h1, h2, h3⟩ := H 0 (by simp) ρ p
    rw [List.getElem_cons_zero] at h1
    obtain ⟨ρ', e, q⟩ := forGo_ind h xs (fun k => P (k + 1)) ρ2 h3 fun k hk ρ pk => by
      have := H (k + 1) (by simp; omega) ρ pk
      simpa using this
    exact ⟨ρ', by rw [List.map_cons, for_cons, h1, forN_some, h2, thn_nx]; exact e, q⟩
theorem forGo_rng {b : Bd} {body : Sx} (lo : Int) (N : Nat) (P : Nat → Env' → Prop) (ρ : Env') (p : P 0 ρ) (H : ∀ (k : Nat), k < N → ∀ (ρ : Env'), P k ρ → ∃ ρ1 ρ2, b (.int (lo + (k : Int))) ρ = some ρ1 ∧ body ρ1 = .nx ρ2 ∧ P (k + 1) ρ2) :
    ∃ ρ', forGo b body (upFrom lo N) ρ = .nx ρ' ∧ P N ρ' := by
  have := forGo_ind (b := b) (body := body) (fun (k : Nat) => PyData.int (lo + (k : Int))) (List.range N) P ρ p fun k hk ρ pk => by
    have hk' : k < N := by simpa using hk
    have := H k hk' ρ pk
    rw [List.getElem_range]
    exact this
  rw [List.length_range] at this
  exact this

theorem call_at {recs : List DRec} {n i : Nat} {r : DRec} {ds : List D} {B : CallS → Sx} {ρ : Env'} (h : recs[i]? = some r) (hl : ds.length = r.ps.length) (hB : r.body = B) (hE : env0 r.N.length ds = ρ) : callN recs (n + 1) i ds = Py.finish (B (callN recs n) ρ) := by
  subst hB hE
  show (match recs[i]? with | some r => runB r (callN recs n) ds | none => .bad) = _
  rw [h]
  exact if_pos hl
/-! ### core facts -/
section
variable {α β : Type} {a b : α} {l : List α} {n : Nat} {p q : Bool}
theorem z_g0 : (a :: l)[0]? = some a := (rfl)
theorem z_gs : (a :: l)[n + 1]? = l[n]? := (rfl)
theorem z_s0 : (a :: l).set 0 b = b :: l := (rfl)
theorem z_ss : (a :: l).set (n + 1) b = a :: l.set n b := (rfl)
theorem z_lc : (a :: l).length = l.length + 1 := (rfl)
theorem z_ln : ([] : List α).length = 0 := (rfl)
theorem z_lm {f : α → β} : (l.map f).length = l.length := List.length_map f
theorem z_mc {f : α → β} : (a :: l).map f = f a :: l.map f := (rfl)
theorem z_mn {f : α → β} : ([] : List α).map f = [] := (rfl)
theorem z_ca {m : List α} : (a :: l) ++ m = a :: (l ++ m) := (rfl)
theorem z_na {m : List α} : [] ++ m = m := (rfl)
theorem z_bs {f : α → Option β} : (some a).bind f = f a := (rfl)
theorem z_rl : (List.range n).length = n := List.length_range
theorem z_ft : (false = true) = False := by simp
theorem z_tf : (true = false) = False := by simp
theorem z_at : (p && true) = p := Bool.and_true p
theorem z_ta : (true && p) = p := Bool.true_and p
theorem z_af : (p && false) = false := Bool.and_false p
theorem z_fa : (false && p) = false := Bool.false_and p
theorem z_ot : (p || true) = true := Bool.or_true p
theorem z_to : (true || p) = true := Bool.true_or p
theorem z_of : (p || false) = p := Bool.or_false p
theorem z_fo : (false || p) = p := Bool.false_or p
theorem z_nt : (!true) = false := (rfl)
theorem z_nf : (!false) = true := (rfl)
theorem z_nn : (!!p) = p := Bool.not_not p
theorem z_bb : (p == true) = p := by simp
theorem z_tb : (true == p) = p := by simp
theorem z_bf : (p == false) = !p := by simp
theorem z_fb : (false == p) = !p := by simp
theorem z_it {x y : α} : (if True then x else y) = x := if_pos trivial
theorem z_if {x y : α} : (if False then x else y) = y := if_neg id
theorem z_dt {h : Decidable True} : @decide True h = true := by simp
theorem z_df {h : Decidable False} : @decide False h = false := by simp
theorem z_de {x : Int} : decide (x = x) = true := by simp
theorem z_0a : 0 + n = n := Nat.zero_add n
theorem z_cast {k : Nat} : ((OfNat.ofNat k : Nat) : Int) = OfNat.ofNat k := (rfl)
theorem z_res {f : α → Res β} : (Res.ok a).bind f = f a := (rfl)
theorem z_exc {f : α → Res β} : (Res.exc n).bind f = .exc n := (rfl)
theorem z_ofs : ofO (some a) = .ok a := (rfl)
theorem z_eqt : (a = a) = True := eq_self a
theorem z_tn {k : Nat} : ((k : Nat) : Int).toNat = k := Int.toNat_natCast k
theorem z_d0 : (a :: l).getD 0 b = a := (rfl)
theorem z_ds : (a :: l).getD (n + 1) b = l.getD n b := (rfl)
theorem z_bq : (p == p) = true := by cases p <;> rfl
theorem z_all : (∀ _ : α, True) = True := by simp
end
end Py

set_option Elab.async false
set_option linter.all false
set_option maxRecDepth 100000
set_option maxHeartbeats 4000000
/-! Data level: the draw. -/
namespace Py
open PySem PySem.Spec L2
def drawnT : Sx :=
  (oSeq (oSet 3 true (sBin modD (sBin addD (sBin mulD (sBin modD (sVar 3) (sCst (.int 2147483563))) (sCst (.int 69069))) (sBin mulD (sCst (.int 104723)) (sBin addD (sVar 1) (sCst (.int 1))))) (sCst (.int 2147483563))))
  (oSeq (oSet 3 true (sBin modD (sBin addD (sBin mulD (sVar 3) (sVar 3)) (sBin fdivD (sVar 3) (sCst (.int 3)))) (sCst (.int 2147483399))))
  (oSeq (oRet (sBin modD (sBin fdivD (sBin modD (sBin addD (sBin mulD (sVar 3) (sVar 3)) (sBin fdivD (sVar 3) (sCst (.int 7)))) (sCst (.int 2147483647))) (sCst (.int 11))) (sVar 2)))
  oNil)))
def drawnW : Sx := whileGo (xAnd (xBool (sBin gtD (sVar 5) (sCst (.int 0)))) (xBool (sBin gtD (sVar 4) (sCst (.int 0))))) (
        (oSeq (oSet 5 true (sBin fdivD (sVar 5) (sCst (.int 1000000))))
        (oSeq (oSet 4 true (sBin subD (sVar 4) (sCst (.int 1))))
        oNil))) whileN
def drawnB : Sx :=
  (oSeq (oSet 3 true (sBin mulD (sCst (.int 7)) (sVar 1)))
  (oSeq (oIf (xBool (sBin neD (sVar 0) (sLst []))) (
    (oSeq (oSet 3 false (sBin getD (sVar 0) (sBin modD (sVar 1) (sBlt lenD [(sVar 0)]))))
    (oSeq (oSet 4 true (sBin fdivD (sVar 1) (sBlt lenD [(sVar 0)])))
    (oSeq (oIf (xAnd (xBool (sBin geD (sVar 3) (sBin powD (sCst (.int 10)) (sCst (.int 18))))) (xBool (sBin ltD (sVar 4) (sCst (.int 60))))) (
      (oSeq (oSet 5 true (sBin fdivD (sVar 3) (sBin powD (sCst (.int 10)) (sCst (.int 18)))))
      (oSeq drawnW
      (oSeq (oIf (xBool (sBin gtD (sVar 5) (sCst (.int 0)))) (
        (oSeq (oRet (sBin modD (sBin modD (sVar 5) (sCst (.int 1000000))) (sVar 2)))
        oNil)) (oNil))
      oNil)))) (oNil))
    (oSeq (oSet 3 true (sBin addD (sVar 3) (sBin mulD (sCst (.int 6553)) (sBin fdivD (sVar 1) (sBlt lenD [(sVar 0)])))))
    oNil))))) (oNil))
  drawnT))
theorem pow18 : powD (.int 10) (.int 18) = some (.int 1000000000000000000) := by
  show (if CPow 10 18 then some (PyData.int (10 ^ 18)) else none) = _
  rw [if_pos ⟨by decide, by decide, by decide⟩]; rfl
local macro_rules | `(tactic| walk_at "py") => `(tactic| try simp only [seval, Py.eqD_ok, Py.neD_ok, Py.okAll_ints, Py.okD_none, Py.okD_bool, Py.okD_int, Py.okD_list, Py.okD_tuple, Py.okAll_nil, Py.okAll_cons, Py.eqv_int, Py.eqv_bool, Py.eqv_none, Py.eqv_tuple, Py.eqv_list, Py.eqvAll_nil, Py.eqvAll_cons, Py.eqvAll_cn, Py.eqvAll_nc, Py.addD_i, Py.addD_l, Py.addD_t, Py.subD_i, Py.mulD_a, Py.mulD_b, Py.fdivD_i, Py.modD_i, Py.leD_i, Py.ltD_i, Py.gtD_i, Py.geD_i, Py.getD_t0, Py.getD_t1, Py.getD_t2, Py.getD_l0, Py.getD_l1, Py.getD_l2, Py.negD_i, Py.truD_b, Py.truD_i, Py.truD_l, Py.truD_t, Py.truD_n, Py.lenD_l, Py.lenD_t, Py.maxD_i, Py.minD_i, Py.imm_int, Py.imm_bool, Py.imm_none, Py.imm_str, Py.imm_tuple, Py.imm_list, Py.immAll_nil, Py.immAll_cons, Py.iSeq_l, Py.iSeq_t, Py.iRange_1, Py.iRange_2, Py.isD_bb, Py.isNotD_bb, Py.isD_n, Py.isNotD_n, Py.isi_int, Py.isi_bool, Py.isi_tuple, Py.isTupD_t, Py.isIntD_i, Py.isBoolD_b, Py.q_seq, Py.thn_nx, Py.thn_rt, Py.thn_exc, Py.thn_bad, Py.q_nil, Py.q_set, Py.nxS_ok, Py.nxS_exc, Py.q_bind, Py.nxB_ok, Py.nxB_exc, Py.optO_some, Py.q_drop, Py.nxD_ok, Py.nxD_exc, Py.q_ret, Py.nxR_ok, Py.nxR_exc, Py.q_if, Py.ifO_true, Py.ifO_false, Py.ifO_exc, Py.q_raise, Py.q_par, Py.parO_ok, Py.parO_exc, Py.setAll_nil, Py.setAll_cons, Py.q_var, Py.rd_val, Py.q_cst, Py.q_bin, Py.b2_ok, Py.b2_e1, Py.b2_e2, Py.q_un, Py.b1_ok, Py.q_not, Py.trr_ok, Py.tru_exc, Py.not_ok, Py.not_exc, Py.boo_ok, Py.q_ife, Py.ifE_true, Py.ifE_false, Py.q_and, Py.andE_ok, Py.andE_exc, Py.q_or, Py.orE_ok, Py.q_chain, Py.q_xbool, Py.toB_ok, Py.toB_exc, Py.q_xtru, Py.q_xnot, Py.q_xand, Py.andT_ok, Py.q_xor, Py.orT_ok, Py.orT_exc, Py.q_evn, Py.q_evc, Py.cns_ok, Py.cns_e1, Py.cns_e2, Py.q_tup, Py.tup_ok, Py.tup_exc, Py.q_lst, Py.lst_ok, Py.lst_exc, Py.q_call, Py.q_blt, Py.blt_ok, Py.blt_exc, Py.q_pin, Py.q_pis, Py.toI_ok, Py.q_sl, Py.sl3_ok, Py.q_one, Py.q_yes, Py.q_lc, Py.lcK_ok, Py.q_for, Py.forK_ok, Py.forI_some, Py.for_nil, Py.for_cons, Py.forN_some, Py.bd_name, Py.bd_tup, Py.bd_nil, Py.bd_cons, Py.q_bindS, Py.q_setS, Py.q_prep, Py.ap_l, Py.ap_t, Py.ap_s, Py.ap_i, Py.ap_d, Py.ap_2, Py.ap_n, Py.apR_n, Py.apR_v, Py.apR_u, Py.apR_e, Py.lenNe_l, Py.lenNe_t, Py.lenNe_d, Py.frz_no, Py.frz_nil, Py.frz_val, Py.frz_un, Py.frz_err, Py.flat_int, Py.flat_bool, Py.flat_none, Py.flat_str, Py.flat_tup, Py.flat_list, Py.flat_dict, Py.imm_dict, Py.q_free, Py.q_freeL, Py.q_freeI, Py.q_free2, Py.q_free0, Py.fin_nx, Py.fin_rt, Py.fin_exc, Py.noexc_ok, Py.wipe_nil, Py.wipe_cons, Py.ite_bool, Py.ite_bool', Py.ite_okb, Py.ite_okb', Py.q_lcI, Py.lcX_some, Py.lcY_ok, Py.lcZ_ok, Py.lcFin_ok, Py.lcM_nil, Py.lcM_cons, Py.lcN_none, Py.lcN_some, Py.lcM_map, Py.lcM_up, Py.lcM_all, Py.lcM_filter, Py.lcM_filterP, Py.apd_ok, Py.q_lc2, Py.lc2K_ok, Py.lc2I_some, Py.lc2B_some, Py.lc2T_ok, Py.lc2F_ok, Py.lc2J_some, Py.lcJ_nil, Py.lcJ_cons, Py.lcJ_map, Py.lcJ_up, Py.lcJ_all, Py.q_pick, Py.pick_n, Py.pickB_some, Py.atI_0, Py.atI_1, Py.atI_2, Py.atI_3, Py.q_try, Py.tryK_nx, Py.tryK_rt, Py.q_app, Py.appK_ok, Py.q_rem, Py.q_ext, Py.extK_ok, Py.allD_map, Py.anyB_map, Py.sumD_map, Py.sumT_map, Py.sortedD_l, Py.sortedD_t, Py.rgD_t, Py.rgD_l, Py.iEnum_l, Py.iEnum_t, Py.iZip_l, Py.iZip_t, Py.tupleD_l, Py.tupleD_t, Py.listD_l, Py.listD_t, Py.intD_i, Py.intD_b, Py.maxD_m, Py.minD_m, Py.allD_m, Py.anyB_m, Py.sumD_m, Py.sumT_m, Py.isNone_n, Py.isNone_i, Py.isNone_b, Py.isNone_t, Py.isNone_l, Py.isNone_s, Py.immAll_map, Py.okAll_map, Py.immAll_up, Py.okAll_up, Py.up_len, Py.z_g0, Py.z_gs, Py.z_s0, Py.z_ss, Py.z_lc, Py.z_ln, Py.z_lm, Py.z_mc, Py.z_mn, Py.z_ca, Py.z_na, Py.z_bs, Py.z_rl, Py.z_ft, Py.z_tf, Py.z_at, Py.z_ta, Py.z_af, Py.z_fa, Py.z_ot, Py.z_to, Py.z_of, Py.z_fo, Py.z_nt, Py.z_nf, Py.z_nn, Py.z_bb, Py.z_tb, Py.z_bf, Py.z_fb, Py.z_it, Py.z_if, Py.z_dt, Py.z_df, Py.z_de, Py.z_0a, Py.z_cast, Py.z_res, Py.z_exc, Py.z_ofs, Py.z_eqt, Py.z_tn, Py.z_d0, Py.z_ds, Py.z_bq, Py.z_all])
local macro_rules | `(tactic| walk_at "pyh") => `(tactic| try simp only [seval, Py.eqD_ok, Py.neD_ok, Py.okAll_ints, Py.okD_none, Py.okD_bool, Py.okD_int, Py.okD_list, Py.okD_tuple, Py.okAll_nil, Py.okAll_cons, Py.eqv_int, Py.eqv_bool, Py.eqv_none, Py.eqv_tuple, Py.eqv_list, Py.eqvAll_nil, Py.eqvAll_cons, Py.eqvAll_cn, Py.eqvAll_nc, Py.addD_i, Py.addD_l, Py.addD_t, Py.subD_i, Py.mulD_a, Py.mulD_b, Py.fdivD_i, Py.modD_i, Py.leD_i, Py.ltD_i, Py.gtD_i, Py.geD_i, Py.getD_t0, Py.getD_t1, Py.getD_t2, Py.getD_l0, Py.getD_l1, Py.getD_l2, Py.negD_i, Py.truD_b, Py.truD_i, Py.truD_l, Py.truD_t, Py.truD_n, Py.lenD_l, Py.lenD_t, Py.maxD_i, Py.minD_i, Py.imm_int, Py.imm_bool, Py.imm_none, Py.imm_str, Py.imm_tuple, Py.imm_list, Py.immAll_nil, Py.immAll_cons, Py.iSeq_l, Py.iSeq_t, Py.iRange_1, Py.iRange_2, Py.isD_bb, Py.isNotD_bb, Py.isD_n, Py.isNotD_n, Py.isi_int, Py.isi_bool, Py.isi_tuple, Py.isTupD_t, Py.isIntD_i, Py.isBoolD_b, Py.q_seq, Py.thn_nx, Py.thn_rt, Py.thn_exc, Py.thn_bad, Py.q_nil, Py.q_set, Py.nxS_ok, Py.nxS_exc, Py.q_bind, Py.nxB_ok, Py.nxB_exc, Py.optO_some, Py.q_drop, Py.nxD_ok, Py.nxD_exc, Py.q_ret, Py.nxR_ok, Py.nxR_exc, Py.q_if, Py.ifO_true, Py.ifO_false, Py.ifO_exc, Py.q_raise, Py.q_par, Py.parO_ok, Py.parO_exc, Py.setAll_nil, Py.setAll_cons, Py.q_var, Py.rd_val, Py.q_cst, Py.q_bin, Py.b2_ok, Py.b2_e1, Py.b2_e2, Py.q_un, Py.b1_ok, Py.q_not, Py.trr_ok, Py.tru_exc, Py.not_ok, Py.not_exc, Py.boo_ok, Py.q_ife, Py.ifE_true, Py.ifE_false, Py.q_and, Py.andE_ok, Py.andE_exc, Py.q_or, Py.orE_ok, Py.q_chain, Py.q_xbool, Py.toB_ok, Py.toB_exc, Py.q_xtru, Py.q_xnot, Py.q_xand, Py.andT_ok, Py.q_xor, Py.orT_ok, Py.orT_exc, Py.q_evn, Py.q_evc, Py.cns_ok, Py.cns_e1, Py.cns_e2, Py.q_tup, Py.tup_ok, Py.tup_exc, Py.q_lst, Py.lst_ok, Py.lst_exc, Py.q_call, Py.q_blt, Py.blt_ok, Py.blt_exc, Py.q_pin, Py.q_pis, Py.toI_ok, Py.q_sl, Py.sl3_ok, Py.q_one, Py.q_yes, Py.q_lc, Py.lcK_ok, Py.q_for, Py.forK_ok, Py.forI_some, Py.for_nil, Py.for_cons, Py.forN_some, Py.bd_name, Py.bd_tup, Py.bd_nil, Py.bd_cons, Py.q_bindS, Py.q_setS, Py.q_prep, Py.ap_l, Py.ap_t, Py.ap_s, Py.ap_i, Py.ap_d, Py.ap_2, Py.ap_n, Py.apR_n, Py.apR_v, Py.apR_u, Py.apR_e, Py.lenNe_l, Py.lenNe_t, Py.lenNe_d, Py.frz_no, Py.frz_nil, Py.frz_val, Py.frz_un, Py.frz_err, Py.flat_int, Py.flat_bool, Py.flat_none, Py.flat_str, Py.flat_tup, Py.flat_list, Py.flat_dict, Py.imm_dict, Py.q_free, Py.q_freeL, Py.q_freeI, Py.q_free2, Py.q_free0, Py.fin_nx, Py.fin_rt, Py.fin_exc, Py.noexc_ok, Py.wipe_nil, Py.wipe_cons, Py.ite_bool, Py.ite_bool', Py.ite_okb, Py.ite_okb', Py.q_lcI, Py.lcX_some, Py.lcY_ok, Py.lcZ_ok, Py.lcFin_ok, Py.lcM_nil, Py.lcM_cons, Py.lcN_none, Py.lcN_some, Py.lcM_map, Py.lcM_up, Py.lcM_all, Py.lcM_filter, Py.lcM_filterP, Py.apd_ok, Py.q_lc2, Py.lc2K_ok, Py.lc2I_some, Py.lc2B_some, Py.lc2T_ok, Py.lc2F_ok, Py.lc2J_some, Py.lcJ_nil, Py.lcJ_cons, Py.lcJ_map, Py.lcJ_up, Py.lcJ_all, Py.q_pick, Py.pick_n, Py.pickB_some, Py.atI_0, Py.atI_1, Py.atI_2, Py.atI_3, Py.q_try, Py.tryK_nx, Py.tryK_rt, Py.q_app, Py.appK_ok, Py.q_rem, Py.q_ext, Py.extK_ok, Py.allD_map, Py.anyB_map, Py.sumD_map, Py.sumT_map, Py.sortedD_l, Py.sortedD_t, Py.rgD_t, Py.rgD_l, Py.iEnum_l, Py.iEnum_t, Py.iZip_l, Py.iZip_t, Py.tupleD_l, Py.tupleD_t, Py.listD_l, Py.listD_t, Py.intD_i, Py.intD_b, Py.maxD_m, Py.minD_m, Py.allD_m, Py.anyB_m, Py.sumD_m, Py.sumT_m, Py.isNone_n, Py.isNone_i, Py.isNone_b, Py.isNone_t, Py.isNone_l, Py.isNone_s, Py.immAll_map, Py.okAll_map, Py.immAll_up, Py.okAll_up, Py.up_len, Py.z_g0, Py.z_gs, Py.z_s0, Py.z_ss, Py.z_lc, Py.z_ln, Py.z_lm, Py.z_mc, Py.z_mn, Py.z_ca, Py.z_na, Py.z_bs, Py.z_rl, Py.z_ft, Py.z_tf, Py.z_at, Py.z_ta, Py.z_af, Py.z_fa, Py.z_ot, Py.z_to, Py.z_of, Py.z_fo, Py.z_nt, Py.z_nf, Py.z_nn, Py.z_bb, Py.z_tb, Py.z_bf, Py.z_fb, Py.z_it, Py.z_if, Py.z_dt, Py.z_df, Py.z_de, Py.z_0a, Py.z_cast, Py.z_res, Py.z_exc, Py.z_ofs, Py.z_eqt, Py.z_tn, Py.z_d0, Py.z_ds, Py.z_bq, Py.z_all, *])
local macro_rules | `(tactic| walk_at "d0") => `(tactic| first | assumption | omega | (simp only [seval, Py.okAll_ints, Py.okD_none, Py.okD_bool, Py.okD_int, Py.okD_list, Py.okD_tuple, Py.okAll_nil, Py.okAll_cons, Py.eqvAll_nil, Py.eqvAll_nc, Py.imm_int, Py.imm_bool, Py.imm_none, Py.imm_str, Py.imm_tuple, Py.imm_list, Py.immAll_nil, Py.immAll_cons, Py.flat_int, Py.flat_bool, Py.flat_none, Py.flat_str, Py.flat_tup, Py.flat_list, Py.flat_dict, Py.imm_dict, Py.q_free, Py.q_freeL, Py.q_freeI, Py.q_free2, Py.q_free0, Py.isNone_n, Py.isNone_i, Py.isNone_b, Py.isNone_t, Py.isNone_l, Py.isNone_s, Py.immAll_map, Py.okAll_map, Py.immAll_up, Py.okAll_up, Py.up_len, Py.z_g0, Py.z_gs, Py.z_s0, Py.z_ss, Py.z_lc, Py.z_ln, Py.z_lm, Py.z_mc, Py.z_mn, Py.z_ca, Py.z_na, Py.z_bs, Py.z_rl, Py.z_ft, Py.z_tf, Py.z_at, Py.z_ta, Py.z_af, Py.z_fa, Py.z_ot, Py.z_to, Py.z_of, Py.z_fo, Py.z_nt, Py.z_nf, Py.z_nn, Py.z_bb, Py.z_tb, Py.z_bf, Py.z_fb, Py.z_it, Py.z_if, Py.z_dt, Py.z_df, Py.z_de, Py.z_0a, Py.z_cast, Py.z_res, Py.z_exc, Py.z_ofs, Py.z_eqt, Py.z_tn, Py.z_d0, Py.z_ds, Py.z_bq, Py.z_all] <;> omega))
local macro_rules | `(tactic| walk_at "d") => `(tactic| first | assumption | omega | (simp (disch := walk_at "d0") only [seval, Py.okAll_ints, Py.okD_none, Py.okD_bool, Py.okD_int, Py.okD_list, Py.okD_tuple, Py.okAll_nil, Py.okAll_cons, Py.eqvAll_nil, Py.eqvAll_nc, Py.imm_int, Py.imm_bool, Py.imm_none, Py.imm_str, Py.imm_tuple, Py.imm_list, Py.immAll_nil, Py.immAll_cons, Py.flat_int, Py.flat_bool, Py.flat_none, Py.flat_str, Py.flat_tup, Py.flat_list, Py.flat_dict, Py.imm_dict, Py.q_free, Py.q_freeL, Py.q_freeI, Py.q_free2, Py.q_free0, Py.isNone_n, Py.isNone_i, Py.isNone_b, Py.isNone_t, Py.isNone_l, Py.isNone_s, Py.immAll_map, Py.okAll_map, Py.immAll_up, Py.okAll_up, Py.up_len, Py.z_g0, Py.z_gs, Py.z_s0, Py.z_ss, Py.z_lc, Py.z_ln, Py.z_lm, Py.z_mc, Py.z_mn, Py.z_ca, Py.z_na, Py.z_bs, Py.z_rl, Py.z_ft, Py.z_tf, Py.z_at, Py.z_ta, Py.z_af, Py.z_fa, Py.z_ot, Py.z_to, Py.z_of, Py.z_fo, Py.z_nt, Py.z_nf, Py.z_nn, Py.z_bb, Py.z_tb, Py.z_bf, Py.z_fb, Py.z_it, Py.z_if, Py.z_dt, Py.z_df, Py.z_de, Py.z_0a, Py.z_cast, Py.z_res, Py.z_exc, Py.z_ofs, Py.z_eqt, Py.z_tn, Py.z_d0, Py.z_ds, Py.z_bq, Py.z_all] <;> omega))
local macro_rules | `(tactic| walk_at "o") => `(tactic| try simp (disch := walk_at "d") only [seval, Py.eqD_ok, Py.neD_ok, Py.okAll_ints, Py.okD_none, Py.okD_bool, Py.okD_int, Py.okD_list, Py.okD_tuple, Py.okAll_nil, Py.okAll_cons, Py.eqv_int, Py.eqv_bool, Py.eqv_none, Py.eqv_tuple, Py.eqv_list, Py.eqvAll_nil, Py.eqvAll_cons, Py.eqvAll_cn, Py.eqvAll_nc, Py.addD_i, Py.addD_l, Py.addD_t, Py.subD_i, Py.mulD_a, Py.mulD_b, Py.fdivD_i, Py.modD_i, Py.leD_i, Py.ltD_i, Py.gtD_i, Py.geD_i, Py.getD_t0, Py.getD_t1, Py.getD_t2, Py.getD_l0, Py.getD_l1, Py.getD_l2, Py.negD_i, Py.truD_b, Py.truD_i, Py.truD_l, Py.truD_t, Py.truD_n, Py.lenD_l, Py.lenD_t, Py.maxD_i, Py.minD_i, Py.imm_int, Py.imm_bool, Py.imm_none, Py.imm_str, Py.imm_tuple, Py.imm_list, Py.immAll_nil, Py.immAll_cons, Py.iSeq_l, Py.iSeq_t, Py.iRange_1, Py.iRange_2, Py.isD_bb, Py.isNotD_bb, Py.isD_n, Py.isNotD_n, Py.isi_int, Py.isi_bool, Py.isi_tuple, Py.isTupD_t, Py.isIntD_i, Py.isBoolD_b, Py.q_seq, Py.thn_nx, Py.thn_rt, Py.thn_exc, Py.thn_bad, Py.q_nil, Py.q_set, Py.nxS_ok, Py.nxS_exc, Py.q_bind, Py.nxB_ok, Py.nxB_exc, Py.optO_some, Py.q_drop, Py.nxD_ok, Py.nxD_exc, Py.q_ret, Py.nxR_ok, Py.nxR_exc, Py.q_if, Py.ifO_true, Py.ifO_false, Py.ifO_exc, Py.q_raise, Py.q_par, Py.parO_ok, Py.parO_exc, Py.setAll_nil, Py.setAll_cons, Py.q_var, Py.rd_val, Py.q_cst, Py.q_bin, Py.b2_ok, Py.b2_e1, Py.b2_e2, Py.q_un, Py.b1_ok, Py.q_not, Py.trr_ok, Py.tru_exc, Py.not_ok, Py.not_exc, Py.boo_ok, Py.q_ife, Py.ifE_true, Py.ifE_false, Py.q_and, Py.andE_ok, Py.andE_exc, Py.q_or, Py.orE_ok, Py.q_chain, Py.q_xbool, Py.toB_ok, Py.toB_exc, Py.q_xtru, Py.q_xnot, Py.q_xand, Py.andT_ok, Py.q_xor, Py.orT_ok, Py.orT_exc, Py.q_evn, Py.q_evc, Py.cns_ok, Py.cns_e1, Py.cns_e2, Py.q_tup, Py.tup_ok, Py.tup_exc, Py.q_lst, Py.lst_ok, Py.lst_exc, Py.q_call, Py.q_blt, Py.blt_ok, Py.blt_exc, Py.q_pin, Py.q_pis, Py.toI_ok, Py.q_sl, Py.sl3_ok, Py.q_one, Py.q_yes, Py.q_lc, Py.lcK_ok, Py.q_for, Py.forK_ok, Py.forI_some, Py.for_nil, Py.for_cons, Py.forN_some, Py.bd_name, Py.bd_tup, Py.bd_nil, Py.bd_cons, Py.q_bindS, Py.q_setS, Py.q_prep, Py.ap_l, Py.ap_t, Py.ap_s, Py.ap_i, Py.ap_d, Py.ap_2, Py.ap_n, Py.apR_n, Py.apR_v, Py.apR_u, Py.apR_e, Py.lenNe_l, Py.lenNe_t, Py.lenNe_d, Py.frz_no, Py.frz_nil, Py.frz_val, Py.frz_un, Py.frz_err, Py.flat_int, Py.flat_bool, Py.flat_none, Py.flat_str, Py.flat_tup, Py.flat_list, Py.flat_dict, Py.imm_dict, Py.q_free, Py.q_freeL, Py.q_freeI, Py.q_free2, Py.q_free0, Py.fin_nx, Py.fin_rt, Py.fin_exc, Py.noexc_ok, Py.wipe_nil, Py.wipe_cons, Py.ite_bool, Py.ite_bool', Py.ite_okb, Py.ite_okb', Py.q_lcI, Py.lcX_some, Py.lcY_ok, Py.lcZ_ok, Py.lcFin_ok, Py.lcM_nil, Py.lcM_cons, Py.lcN_none, Py.lcN_some, Py.lcM_map, Py.lcM_up, Py.lcM_all, Py.lcM_filter, Py.lcM_filterP, Py.apd_ok, Py.q_lc2, Py.lc2K_ok, Py.lc2I_some, Py.lc2B_some, Py.lc2T_ok, Py.lc2F_ok, Py.lc2J_some, Py.lcJ_nil, Py.lcJ_cons, Py.lcJ_map, Py.lcJ_up, Py.lcJ_all, Py.q_pick, Py.pick_n, Py.pickB_some, Py.atI_0, Py.atI_1, Py.atI_2, Py.atI_3, Py.q_try, Py.tryK_nx, Py.tryK_rt, Py.q_app, Py.appK_ok, Py.q_rem, Py.q_ext, Py.extK_ok, Py.allD_map, Py.anyB_map, Py.sumD_map, Py.sumT_map, Py.sortedD_l, Py.sortedD_t, Py.rgD_t, Py.rgD_l, Py.iEnum_l, Py.iEnum_t, Py.iZip_l, Py.iZip_t, Py.tupleD_l, Py.tupleD_t, Py.listD_l, Py.listD_t, Py.intD_i, Py.intD_b, Py.maxD_m, Py.minD_m, Py.allD_m, Py.anyB_m, Py.sumD_m, Py.sumT_m, Py.isNone_n, Py.isNone_i, Py.isNone_b, Py.isNone_t, Py.isNone_l, Py.isNone_s, Py.immAll_map, Py.okAll_map, Py.immAll_up, Py.okAll_up, Py.up_len, Py.z_g0, Py.z_gs, Py.z_s0, Py.z_ss, Py.z_lc, Py.z_ln, Py.z_lm, Py.z_mc, Py.z_mn, Py.z_ca, Py.z_na, Py.z_bs, Py.z_rl, Py.z_ft, Py.z_tf, Py.z_at, Py.z_ta, Py.z_af, Py.z_fa, Py.z_ot, Py.z_to, Py.z_of, Py.z_fo, Py.z_nt, Py.z_nf, Py.z_nn, Py.z_bb, Py.z_tb, Py.z_bf, Py.z_fb, Py.z_it, Py.z_if, Py.z_dt, Py.z_df, Py.z_de, Py.z_0a, Py.z_cast, Py.z_res, Py.z_exc, Py.z_ofs, Py.z_eqt, Py.z_tn, Py.z_d0, Py.z_ds, Py.z_bq, Py.z_all])
local macro_rules | `(tactic| walk_at "oh") => `(tactic| try simp (disch := walk_at "d") only [seval, Py.eqD_ok, Py.neD_ok, Py.okAll_ints, Py.okD_none, Py.okD_bool, Py.okD_int, Py.okD_list, Py.okD_tuple, Py.okAll_nil, Py.okAll_cons, Py.eqv_int, Py.eqv_bool, Py.eqv_none, Py.eqv_tuple, Py.eqv_list, Py.eqvAll_nil, Py.eqvAll_cons, Py.eqvAll_cn, Py.eqvAll_nc, Py.addD_i, Py.addD_l, Py.addD_t, Py.subD_i, Py.mulD_a, Py.mulD_b, Py.fdivD_i, Py.modD_i, Py.leD_i, Py.ltD_i, Py.gtD_i, Py.geD_i, Py.getD_t0, Py.getD_t1, Py.getD_t2, Py.getD_l0, Py.getD_l1, Py.getD_l2, Py.negD_i, Py.truD_b, Py.truD_i, Py.truD_l, Py.truD_t, Py.truD_n, Py.lenD_l, Py.lenD_t, Py.maxD_i, Py.minD_i, Py.imm_int, Py.imm_bool, Py.imm_none, Py.imm_str, Py.imm_tuple, Py.imm_list, Py.immAll_nil, Py.immAll_cons, Py.iSeq_l, Py.iSeq_t, Py.iRange_1, Py.iRange_2, Py.isD_bb, Py.isNotD_bb, Py.isD_n, Py.isNotD_n, Py.isi_int, Py.isi_bool, Py.isi_tuple, Py.isTupD_t, Py.isIntD_i, Py.isBoolD_b, Py.q_seq, Py.thn_nx, Py.thn_rt, Py.thn_exc, Py.thn_bad, Py.q_nil, Py.q_set, Py.nxS_ok, Py.nxS_exc, Py.q_bind, Py.nxB_ok, Py.nxB_exc, Py.optO_some, Py.q_drop, Py.nxD_ok, Py.nxD_exc, Py.q_ret, Py.nxR_ok, Py.nxR_exc, Py.q_if, Py.ifO_true, Py.ifO_false, Py.ifO_exc, Py.q_raise, Py.q_par, Py.parO_ok, Py.parO_exc, Py.setAll_nil, Py.setAll_cons, Py.q_var, Py.rd_val, Py.q_cst, Py.q_bin, Py.b2_ok, Py.b2_e1, Py.b2_e2, Py.q_un, Py.b1_ok, Py.q_not, Py.trr_ok, Py.tru_exc, Py.not_ok, Py.not_exc, Py.boo_ok, Py.q_ife, Py.ifE_true, Py.ifE_false, Py.q_and, Py.andE_ok, Py.andE_exc, Py.q_or, Py.orE_ok, Py.q_chain, Py.q_xbool, Py.toB_ok, Py.toB_exc, Py.q_xtru, Py.q_xnot, Py.q_xand, Py.andT_ok, Py.q_xor, Py.orT_ok, Py.orT_exc, Py.q_evn, Py.q_evc, Py.cns_ok, Py.cns_e1, Py.cns_e2, Py.q_tup, Py.tup_ok, Py.tup_exc, Py.q_lst, Py.lst_ok, Py.lst_exc, Py.q_call, Py.q_blt, Py.blt_ok, Py.blt_exc, Py.q_pin, Py.q_pis, Py.toI_ok, Py.q_sl, Py.sl3_ok, Py.q_one, Py.q_yes, Py.q_lc, Py.lcK_ok, Py.q_for, Py.forK_ok, Py.forI_some, Py.for_nil, Py.for_cons, Py.forN_some, Py.bd_name, Py.bd_tup, Py.bd_nil, Py.bd_cons, Py.q_bindS, Py.q_setS, Py.q_prep, Py.ap_l, Py.ap_t, Py.ap_s, Py.ap_i, Py.ap_d, Py.ap_2, Py.ap_n, Py.apR_n, Py.apR_v, Py.apR_u, Py.apR_e, Py.lenNe_l, Py.lenNe_t, Py.lenNe_d, Py.frz_no, Py.frz_nil, Py.frz_val, Py.frz_un, Py.frz_err, Py.flat_int, Py.flat_bool, Py.flat_none, Py.flat_str, Py.flat_tup, Py.flat_list, Py.flat_dict, Py.imm_dict, Py.q_free, Py.q_freeL, Py.q_freeI, Py.q_free2, Py.q_free0, Py.fin_nx, Py.fin_rt, Py.fin_exc, Py.noexc_ok, Py.wipe_nil, Py.wipe_cons, Py.ite_bool, Py.ite_bool', Py.ite_okb, Py.ite_okb', Py.q_lcI, Py.lcX_some, Py.lcY_ok, Py.lcZ_ok, Py.lcFin_ok, Py.lcM_nil, Py.lcM_cons, Py.lcN_none, Py.lcN_some, Py.lcM_map, Py.lcM_up, Py.lcM_all, Py.lcM_filter, Py.lcM_filterP, Py.apd_ok, Py.q_lc2, Py.lc2K_ok, Py.lc2I_some, Py.lc2B_some, Py.lc2T_ok, Py.lc2F_ok, Py.lc2J_some, Py.lcJ_nil, Py.lcJ_cons, Py.lcJ_map, Py.lcJ_up, Py.lcJ_all, Py.q_pick, Py.pick_n, Py.pickB_some, Py.atI_0, Py.atI_1, Py.atI_2, Py.atI_3, Py.q_try, Py.tryK_nx, Py.tryK_rt, Py.q_app, Py.appK_ok, Py.q_rem, Py.q_ext, Py.extK_ok, Py.allD_map, Py.anyB_map, Py.sumD_map, Py.sumT_map, Py.sortedD_l, Py.sortedD_t, Py.rgD_t, Py.rgD_l, Py.iEnum_l, Py.iEnum_t, Py.iZip_l, Py.iZip_t, Py.tupleD_l, Py.tupleD_t, Py.listD_l, Py.listD_t, Py.intD_i, Py.intD_b, Py.maxD_m, Py.minD_m, Py.allD_m, Py.anyB_m, Py.sumD_m, Py.sumT_m, Py.isNone_n, Py.isNone_i, Py.isNone_b, Py.isNone_t, Py.isNone_l, Py.isNone_s, Py.immAll_map, Py.okAll_map, Py.immAll_up, Py.okAll_up, Py.up_len, Py.z_g0, Py.z_gs, Py.z_s0, Py.z_ss, Py.z_lc, Py.z_ln, Py.z_lm, Py.z_mc, Py.z_mn, Py.z_ca, Py.z_na, Py.z_bs, Py.z_rl, Py.z_ft, Py.z_tf, Py.z_at, Py.z_ta, Py.z_af, Py.z_fa, Py.z_ot, Py.z_to, Py.z_of, Py.z_fo, Py.z_nt, Py.z_nf, Py.z_nn, Py.z_bb, Py.z_tb, Py.z_bf, Py.z_fb, Py.z_it, Py.z_if, Py.z_dt, Py.z_df, Py.z_de, Py.z_0a, Py.z_cast, Py.z_res, Py.z_exc, Py.z_ofs, Py.z_eqt, Py.z_tn, Py.z_d0, Py.z_ds, Py.z_bq, Py.z_all, *])
theorem drawn_while (s a b c : Sl) : ∀ (n : Nat) (t r : Int), t < n → ∃ t' r', whileGo (xAnd (xBool (sBin gtD (sVar 5) (sCst (.int 0)))) (xBool (sBin gtD (sVar 4) (sCst (.int 0))))) (
        (oSeq (oSet 5 true (sBin fdivD (sVar 5) (sCst (.int 1000000))))
        (oSeq (oSet 4 true (sBin subD (sVar 4) (sCst (.int 1))))
        oNil))) (n + 1) [s, a, b, c, .dat (.int t), .dat (.int r)] = .nx [s, a, b, c, .dat (.int t'), .dat (.int r')]
  | 0, t, r, h => ⟨t, r, by
    unfold whileGo
    walk_at "py"
    by_cases hr : 0 < r
    · simp only [hr, decide_true]; walk_at "py"; simp only [show ¬ (0 < t) by omega, decide_false]; rfl
    · simp only [hr, decide_false]; rfl⟩
  | n + 1, t, r, h => by
    unfold whileGo
    by_cases hr : 0 < r
    · by_cases ht : 0 < t
      · obtain ⟨t', r', e⟩ := drawn_while s a b c n (t - 1) (r / 1000000) (by omega)
        refine ⟨t', r', ?_⟩
        walk_at "py"
        simp only [hr, ht, decide_true]
        walk_at "py"
        exact e
      · refine ⟨t, r, ?_⟩
        walk_at "py"
        simp only [hr, ht, decide_true, decide_false]
        walk_at "py"
    · refine ⟨t, r, ?_⟩
      walk_at "py"
      simp only [hr, decide_false]
      walk_at "py"
def IsDraw (m : Int) (r : Res D) : Prop := ∃ v, r = .ok (.int v) ∧ 0 ≤ v ∧ v < m
theorem drawn_tail (s t r : Sl) (k m c : Int) (hm : 0 < m) : IsDraw m (Py.finish (drawnT [s, .dat (.int k), .dat (.int m), .dat (.int c), t, r])) := by
  unfold drawnT
  walk_at "py"
  generalize hd : (c % 2147483563 * 69069 + 104723 * (k + 1)) % 2147483563 = d
  have d1 : 0 ≤ d ∧ d < 2147483563 := by omega
  simp only [mulD_a (i := d) (j := d) (by omega) (by omega)]
  walk_at "py"
  generalize he : (d * d + d / 3) % 2147483399 = e
  have e1 : 0 ≤ e ∧ e < 2147483399 := by omega
  simp only [mulD_a (i := e) (j := e) (by omega) (by omega)]
  walk_at "py"
  simp only [modD_i (i := (e * e + e / 7) % 2147483647 / 11) hm]
  walk_at "py"
  exact ⟨_, rfl, Int.emod_nonneg _ (by omega), Int.emod_lt_of_pos _ hm⟩
theorem drawn_ok (ns : List Int) (hl : ns.length ≤ 63) (k m : Int) (hk : 0 ≤ k) (hm : 0 < m) : IsDraw m (Py.finish (drawnB [.dat (.list (ns.map .int)), .dat (.int k), .dat (.int m), .un, .un, .un])) := by
  unfold drawnB
  walk_at "py"
  cases ns with
  | nil =>
    walk_at "py"
    exact drawn_tail _ _ _ k m _ hm
  | cons n0 ns =>
    simp only [List.map_cons, eqvAll_cn, Bool.not_false]
    rw [← List.map_cons]
    have hL : (((n0 :: ns).map PyData.int).length : Int) = ((n0 :: ns).length : Int) := by simp
    have hp : 0 < ((n0 :: ns).length : Int) := by simp
    have hq : ((n0 :: ns).length : Int) ≤ 63 := by omega
    generalize n0 :: ns = ms at *
    have hx : k % (ms.length : Int) < ms.length := Int.emod_lt_of_pos _ hp
    have hy : 0 ≤ k % (ms.length : Int) := Int.emod_nonneg _ (by omega)
    have hz : (k % (ms.length : Int)).toNat < ms.length := by omega
    have hg : getD (.list (ms.map .int)) (.int (k % (ms.length : Int))) = some (.int ms[(k % (ms.length : Int)).toNat]) := getD_l hy (by rw [List.getElem?_map, List.getElem?_eq_getElem hz]; rfl)
    have hf := fdivD_i (i := k) hp (by omega)
    have hM := modD_i (i := k) hp
    have hP := pow18
    walk_at "pyh"
    generalize ms[(k % (ms.length : Int)).toNat] = cell
    by_cases h1 : 1000000000000000000 ≤ cell ∧ k / (ms.length : Int) < 60
    · obtain ⟨h1, h2⟩ := h1
      obtain ⟨t', r', e⟩ := drawn_while (.dat (.list (ms.map .int))) (.dat (.int k)) (.dat (.int m)) (.dat (.int cell)) 99999 (k / (ms.length : Int)) (cell / 1000000000000000000) (by omega)
      have e' : drawnW [.dat (.list (ms.map .int)), .dat (.int k), .dat (.int m), .dat (.int cell), .dat (.int (k / (ms.length : Int))), .dat (.int (cell / 1000000000000000000))] = .nx [.dat (.list (ms.map .int)), .dat (.int k), .dat (.int m), .dat (.int cell), .dat (.int t'), .dat (.int r')] := e
      by_cases hr : 0 < r'
      · have hm' := modD_i (i := r' % 1000000) hm
        simp only [h1, h2, decide_true]
        walk_at "pyh"
        exact ⟨_, rfl, Int.emod_nonneg _ (by omega), Int.emod_lt_of_pos _ hm⟩
      · simp only [h1, h2, decide_true]
        walk_at "pyh"
        exact drawn_tail _ _ _ k m _ hm
    · have h2 : (decide (1000000000000000000 ≤ cell) && decide (k / (ms.length : Int) < 60)) = false := by
        simp only [Bool.and_eq_false_iff, decide_eq_false_iff_not]
        by_cases h3 : 1000000000000000000 ≤ cell
        · right; exact fun h4 => h1 ⟨h3, h4⟩
        · left; exact h3
      rw [h2]
      clear h1 h2
      walk_at "pyh"
      exact drawn_tail _ _ _ k m _ hm
/-- the number drawn -/
def drw (ns : List Int) (k m : Int) : Int := match Py.finish (drawnB [.dat (.list (ns.map .int)), .dat (.int k), .dat (.int m), .un, .un, .un]) with
  | .ok (.int v) => v
  | _ => 0
theorem drw_ok {ns : List Int} (hl : ns.length ≤ 63) {k m : Int} (hk : 0 ≤ k) (hm : 0 < m) : Py.finish (drawnB [.dat (.list (ns.map .int)), .dat (.int k), .dat (.int m), .un, .un, .un]) = .ok (.int (drw ns k m)) ∧ 0 ≤ drw ns k m ∧ drw ns k m < m := by
  obtain ⟨v, h1, h2, h3⟩ := drawn_ok ns hl k m hk hm
  have e : drw ns k m = v := by unfold drw; rw [h1]
  rw [e]
  exact ⟨h1, h2, h3⟩
end Py

set_option Elab.async false
set_option linter.all false
set_option maxRecDepth 100000
set_option maxHeartbeats 4000000
/-! Data level: the draw of the later laws. -/
namespace Py
open PySem PySem.Spec L2
def pickL : Sx := oSeq (oPar [4, 5] [true, true] [(sBin fdivD (sVar 4) (sCst (.int 840))), (sBin subD (sVar 5) (sCst (.int 1)))]) oNil
def pickT : Sx :=
  (oSeq (oSet 6 true (sBin modD (sBin mulD (sBin addD (sBin mulD (sVar 3) (sCst (.int 31))) (sBin mulD (sCst (.int 6151)) (sBin addD (sVar 1) (sCst (.int 1))))) (sCst (.int 40692))) (sCst (.int 2147483399))))
  (oSeq (oRet (sBin modD (sBin modD (sBin addD (sBin mulD (sVar 6) (sVar 6)) (sBin fdivD (sVar 6) (sCst (.int 31)))) (sCst (.int 2147483629))) (sVar 2)))
  oNil))
def pickW : Sx := whileGo (xAnd (xBool (sBin gtD (sVar 4) (sCst (.int 0)))) (xBool (sBin gtD (sVar 5) (sCst (.int 0))))) pickL whileN
def pickB : Sx :=
  (oSeq (oSet 3 false (sIf (xBool (sBin neD (sVar 0) (sLst []))) (sBin getD (sVar 0) (sBin modD (sVar 1) (sBlt lenD [(sVar 0)]))) (sCst (.int 0))))
  (oSeq (oPar [4, 5] [true, true] [(sBin fdivD (sVar 3) (sBin powD (sCst (.int 10)) (sCst (.int 18)))), (sBin fdivD (sVar 1) (sBlt maxD [(sBlt lenD [(sVar 0)]), (sCst (.int 1))]))])
  (oSeq pickW
  (oSeq (oIf (xBool (sBin gtD (sVar 4) (sCst (.int 0)))) (
    (oSeq (oRet (sBin modD (sBin modD (sVar 4) (sCst (.int 840))) (sVar 2)))
    oNil)) (oNil))
  pickT))))
local macro_rules | `(tactic| walk_at "py") => `(tactic| try simp only [seval, Py.eqD_ok, Py.neD_ok, Py.okAll_ints, Py.okD_none, Py.okD_bool, Py.okD_int, Py.okD_list, Py.okD_tuple, Py.okAll_nil, Py.okAll_cons, Py.eqv_int, Py.eqv_bool, Py.eqv_none, Py.eqv_tuple, Py.eqv_list, Py.eqvAll_nil, Py.eqvAll_cons, Py.eqvAll_cn, Py.eqvAll_nc, Py.addD_i, Py.addD_l, Py.addD_t, Py.subD_i, Py.mulD_a, Py.mulD_b, Py.fdivD_i, Py.modD_i, Py.leD_i, Py.ltD_i, Py.gtD_i, Py.geD_i, Py.getD_t0, Py.getD_t1, Py.getD_t2, Py.getD_l0, Py.getD_l1, Py.getD_l2, Py.negD_i, Py.truD_b, Py.truD_i, Py.truD_l, Py.truD_t, Py.truD_n, Py.lenD_l, Py.lenD_t, Py.maxD_i, Py.minD_i, Py.imm_int, Py.imm_bool, Py.imm_none, Py.imm_str, Py.imm_tuple, Py.imm_list, Py.immAll_nil, Py.immAll_cons, Py.iSeq_l, Py.iSeq_t, Py.iRange_1, Py.iRange_2, Py.isD_bb, Py.isNotD_bb, Py.isD_n, Py.isNotD_n, Py.isi_int, Py.isi_bool, Py.isi_tuple, Py.isTupD_t, Py.isIntD_i, Py.isBoolD_b, Py.q_seq, Py.thn_nx, Py.thn_rt, Py.thn_exc, Py.thn_bad, Py.q_nil, Py.q_set, Py.nxS_ok, Py.nxS_exc, Py.q_bind, Py.nxB_ok, Py.nxB_exc, Py.optO_some, Py.q_drop, Py.nxD_ok, Py.nxD_exc, Py.q_ret, Py.nxR_ok, Py.nxR_exc, Py.q_if, Py.ifO_true, Py.ifO_false, Py.ifO_exc, Py.q_raise, Py.q_par, Py.parO_ok, Py.parO_exc, Py.setAll_nil, Py.setAll_cons, Py.q_var, Py.rd_val, Py.q_cst, Py.q_bin, Py.b2_ok, Py.b2_e1, Py.b2_e2, Py.q_un, Py.b1_ok, Py.q_not, Py.trr_ok, Py.tru_exc, Py.not_ok, Py.not_exc, Py.boo_ok, Py.q_ife, Py.ifE_true, Py.ifE_false, Py.q_and, Py.andE_ok, Py.andE_exc, Py.q_or, Py.orE_ok, Py.q_chain, Py.q_xbool, Py.toB_ok, Py.toB_exc, Py.q_xtru, Py.q_xnot, Py.q_xand, Py.andT_ok, Py.q_xor, Py.orT_ok, Py.orT_exc, Py.q_evn, Py.q_evc, Py.cns_ok, Py.cns_e1, Py.cns_e2, Py.q_tup, Py.tup_ok, Py.tup_exc, Py.q_lst, Py.lst_ok, Py.lst_exc, Py.q_call, Py.q_blt, Py.blt_ok, Py.blt_exc, Py.q_pin, Py.q_pis, Py.toI_ok, Py.q_sl, Py.sl3_ok, Py.q_one, Py.q_yes, Py.q_lc, Py.lcK_ok, Py.q_for, Py.forK_ok, Py.forI_some, Py.for_nil, Py.for_cons, Py.forN_some, Py.bd_name, Py.bd_tup, Py.bd_nil, Py.bd_cons, Py.q_bindS, Py.q_setS, Py.q_prep, Py.ap_l, Py.ap_t, Py.ap_s, Py.ap_i, Py.ap_d, Py.ap_2, Py.ap_n, Py.apR_n, Py.apR_v, Py.apR_u, Py.apR_e, Py.lenNe_l, Py.lenNe_t, Py.lenNe_d, Py.frz_no, Py.frz_nil, Py.frz_val, Py.frz_un, Py.frz_err, Py.flat_int, Py.flat_bool, Py.flat_none, Py.flat_str, Py.flat_tup, Py.flat_list, Py.flat_dict, Py.imm_dict, Py.q_free, Py.q_freeL, Py.q_freeI, Py.q_free2, Py.q_free0, Py.fin_nx, Py.fin_rt, Py.fin_exc, Py.noexc_ok, Py.wipe_nil, Py.wipe_cons, Py.ite_bool, Py.ite_bool', Py.ite_okb, Py.ite_okb', Py.q_lcI, Py.lcX_some, Py.lcY_ok, Py.lcZ_ok, Py.lcFin_ok, Py.lcM_nil, Py.lcM_cons, Py.lcN_none, Py.lcN_some, Py.lcM_map, Py.lcM_up, Py.lcM_all, Py.lcM_filter, Py.lcM_filterP, Py.apd_ok, Py.q_lc2, Py.lc2K_ok, Py.lc2I_some, Py.lc2B_some, Py.lc2T_ok, Py.lc2F_ok, Py.lc2J_some, Py.lcJ_nil, Py.lcJ_cons, Py.lcJ_map, Py.lcJ_up, Py.lcJ_all, Py.q_pick, Py.pick_n, Py.pickB_some, Py.atI_0, Py.atI_1, Py.atI_2, Py.atI_3, Py.q_try, Py.tryK_nx, Py.tryK_rt, Py.q_app, Py.appK_ok, Py.q_rem, Py.q_ext, Py.extK_ok, Py.allD_map, Py.anyB_map, Py.sumD_map, Py.sumT_map, Py.sortedD_l, Py.sortedD_t, Py.rgD_t, Py.rgD_l, Py.iEnum_l, Py.iEnum_t, Py.iZip_l, Py.iZip_t, Py.tupleD_l, Py.tupleD_t, Py.listD_l, Py.listD_t, Py.intD_i, Py.intD_b, Py.maxD_m, Py.minD_m, Py.allD_m, Py.anyB_m, Py.sumD_m, Py.sumT_m, Py.isNone_n, Py.isNone_i, Py.isNone_b, Py.isNone_t, Py.isNone_l, Py.isNone_s, Py.immAll_map, Py.okAll_map, Py.immAll_up, Py.okAll_up, Py.up_len, Py.z_g0, Py.z_gs, Py.z_s0, Py.z_ss, Py.z_lc, Py.z_ln, Py.z_lm, Py.z_mc, Py.z_mn, Py.z_ca, Py.z_na, Py.z_bs, Py.z_rl, Py.z_ft, Py.z_tf, Py.z_at, Py.z_ta, Py.z_af, Py.z_fa, Py.z_ot, Py.z_to, Py.z_of, Py.z_fo, Py.z_nt, Py.z_nf, Py.z_nn, Py.z_bb, Py.z_tb, Py.z_bf, Py.z_fb, Py.z_it, Py.z_if, Py.z_dt, Py.z_df, Py.z_de, Py.z_0a, Py.z_cast, Py.z_res, Py.z_exc, Py.z_ofs, Py.z_eqt, Py.z_tn, Py.z_d0, Py.z_ds, Py.z_bq, Py.z_all])
local macro_rules | `(tactic| walk_at "pyh") => `(tactic| try simp only [seval, Py.eqD_ok, Py.neD_ok, Py.okAll_ints, Py.okD_none, Py.okD_bool, Py.okD_int, Py.okD_list, Py.okD_tuple, Py.okAll_nil, Py.okAll_cons, Py.eqv_int, Py.eqv_bool, Py.eqv_none, Py.eqv_tuple, Py.eqv_list, Py.eqvAll_nil, Py.eqvAll_cons, Py.eqvAll_cn, Py.eqvAll_nc, Py.addD_i, Py.addD_l, Py.addD_t, Py.subD_i, Py.mulD_a, Py.mulD_b, Py.fdivD_i, Py.modD_i, Py.leD_i, Py.ltD_i, Py.gtD_i, Py.geD_i, Py.getD_t0, Py.getD_t1, Py.getD_t2, Py.getD_l0, Py.getD_l1, Py.getD_l2, Py.negD_i, Py.truD_b, Py.truD_i, Py.truD_l, Py.truD_t, Py.truD_n, Py.lenD_l, Py.lenD_t, Py.maxD_i, Py.minD_i, Py.imm_int, Py.imm_bool, Py.imm_none, Py.imm_str, Py.imm_tuple, Py.imm_list, Py.immAll_nil, Py.immAll_cons, Py.iSeq_l, Py.iSeq_t, Py.iRange_1, Py.iRange_2, Py.isD_bb, Py.isNotD_bb, Py.isD_n, Py.isNotD_n, Py.isi_int, Py.isi_bool, Py.isi_tuple, Py.isTupD_t, Py.isIntD_i, Py.isBoolD_b, Py.q_seq, Py.thn_nx, Py.thn_rt, Py.thn_exc, Py.thn_bad, Py.q_nil, Py.q_set, Py.nxS_ok, Py.nxS_exc, Py.q_bind, Py.nxB_ok, Py.nxB_exc, Py.optO_some, Py.q_drop, Py.nxD_ok, Py.nxD_exc, Py.q_ret, Py.nxR_ok, Py.nxR_exc, Py.q_if, Py.ifO_true, Py.ifO_false, Py.ifO_exc, Py.q_raise, Py.q_par, Py.parO_ok, Py.parO_exc, Py.setAll_nil, Py.setAll_cons, Py.q_var, Py.rd_val, Py.q_cst, Py.q_bin, Py.b2_ok, Py.b2_e1, Py.b2_e2, Py.q_un, Py.b1_ok, Py.q_not, Py.trr_ok, Py.tru_exc, Py.not_ok, Py.not_exc, Py.boo_ok, Py.q_ife, Py.ifE_true, Py.ifE_false, Py.q_and, Py.andE_ok, Py.andE_exc, Py.q_or, Py.orE_ok, Py.q_chain, Py.q_xbool, Py.toB_ok, Py.toB_exc, Py.q_xtru, Py.q_xnot, Py.q_xand, Py.andT_ok, Py.q_xor, Py.orT_ok, Py.orT_exc, Py.q_evn, Py.q_evc, Py.cns_ok, Py.cns_e1, Py.cns_e2, Py.q_tup, Py.tup_ok, Py.tup_exc, Py.q_lst, Py.lst_ok, Py.lst_exc, Py.q_call, Py.q_blt, Py.blt_ok, Py.blt_exc, Py.q_pin, Py.q_pis, Py.toI_ok, Py.q_sl, Py.sl3_ok, Py.q_one, Py.q_yes, Py.q_lc, Py.lcK_ok, Py.q_for, Py.forK_ok, Py.forI_some, Py.for_nil, Py.for_cons, Py.forN_some, Py.bd_name, Py.bd_tup, Py.bd_nil, Py.bd_cons, Py.q_bindS, Py.q_setS, Py.q_prep, Py.ap_l, Py.ap_t, Py.ap_s, Py.ap_i, Py.ap_d, Py.ap_2, Py.ap_n, Py.apR_n, Py.apR_v, Py.apR_u, Py.apR_e, Py.lenNe_l, Py.lenNe_t, Py.lenNe_d, Py.frz_no, Py.frz_nil, Py.frz_val, Py.frz_un, Py.frz_err, Py.flat_int, Py.flat_bool, Py.flat_none, Py.flat_str, Py.flat_tup, Py.flat_list, Py.flat_dict, Py.imm_dict, Py.q_free, Py.q_freeL, Py.q_freeI, Py.q_free2, Py.q_free0, Py.fin_nx, Py.fin_rt, Py.fin_exc, Py.noexc_ok, Py.wipe_nil, Py.wipe_cons, Py.ite_bool, Py.ite_bool', Py.ite_okb, Py.ite_okb', Py.q_lcI, Py.lcX_some, Py.lcY_ok, Py.lcZ_ok, Py.lcFin_ok, Py.lcM_nil, Py.lcM_cons, Py.lcN_none, Py.lcN_some, Py.lcM_map, Py.lcM_up, Py.lcM_all, Py.lcM_filter, Py.lcM_filterP, Py.apd_ok, Py.q_lc2, Py.lc2K_ok, Py.lc2I_some, Py.lc2B_some, Py.lc2T_ok, Py.lc2F_ok, Py.lc2J_some, Py.lcJ_nil, Py.lcJ_cons, Py.lcJ_map, Py.lcJ_up, Py.lcJ_all, Py.q_pick, Py.pick_n, Py.pickB_some, Py.atI_0, Py.atI_1, Py.atI_2, Py.atI_3, Py.q_try, Py.tryK_nx, Py.tryK_rt, Py.q_app, Py.appK_ok, Py.q_rem, Py.q_ext, Py.extK_ok, Py.allD_map, Py.anyB_map, Py.sumD_map, Py.sumT_map, Py.sortedD_l, Py.sortedD_t, Py.rgD_t, Py.rgD_l, Py.iEnum_l, Py.iEnum_t, Py.iZip_l, Py.iZip_t, Py.tupleD_l, Py.tupleD_t, Py.listD_l, Py.listD_t, Py.intD_i, Py.intD_b, Py.maxD_m, Py.minD_m, Py.allD_m, Py.anyB_m, Py.sumD_m, Py.sumT_m, Py.isNone_n, Py.isNone_i, Py.isNone_b, Py.isNone_t, Py.isNone_l, Py.isNone_s, Py.immAll_map, Py.okAll_map, Py.immAll_up, Py.okAll_up, Py.up_len, Py.z_g0, Py.z_gs, Py.z_s0, Py.z_ss, Py.z_lc, Py.z_ln, Py.z_lm, Py.z_mc, Py.z_mn, Py.z_ca, Py.z_na, Py.z_bs, Py.z_rl, Py.z_ft, Py.z_tf, Py.z_at, Py.z_ta, Py.z_af, Py.z_fa, Py.z_ot, Py.z_to, Py.z_of, Py.z_fo, Py.z_nt, Py.z_nf, Py.z_nn, Py.z_bb, Py.z_tb, Py.z_bf, Py.z_fb, Py.z_it, Py.z_if, Py.z_dt, Py.z_df, Py.z_de, Py.z_0a, Py.z_cast, Py.z_res, Py.z_exc, Py.z_ofs, Py.z_eqt, Py.z_tn, Py.z_d0, Py.z_ds, Py.z_bq, Py.z_all, *])
local macro_rules | `(tactic| walk_at "d0") => `(tactic| first | assumption | omega | (simp only [seval, Py.okAll_ints, Py.okD_none, Py.okD_bool, Py.okD_int, Py.okD_list, Py.okD_tuple, Py.okAll_nil, Py.okAll_cons, Py.eqvAll_nil, Py.eqvAll_nc, Py.imm_int, Py.imm_bool, Py.imm_none, Py.imm_str, Py.imm_tuple, Py.imm_list, Py.immAll_nil, Py.immAll_cons, Py.flat_int, Py.flat_bool, Py.flat_none, Py.flat_str, Py.flat_tup, Py.flat_list, Py.flat_dict, Py.imm_dict, Py.q_free, Py.q_freeL, Py.q_freeI, Py.q_free2, Py.q_free0, Py.isNone_n, Py.isNone_i, Py.isNone_b, Py.isNone_t, Py.isNone_l, Py.isNone_s, Py.immAll_map, Py.okAll_map, Py.immAll_up, Py.okAll_up, Py.up_len, Py.z_g0, Py.z_gs, Py.z_s0, Py.z_ss, Py.z_lc, Py.z_ln, Py.z_lm, Py.z_mc, Py.z_mn, Py.z_ca, Py.z_na, Py.z_bs, Py.z_rl, Py.z_ft, Py.z_tf, Py.z_at, Py.z_ta, Py.z_af, Py.z_fa, Py.z_ot, Py.z_to, Py.z_of, Py.z_fo, Py.z_nt, Py.z_nf, Py.z_nn, Py.z_bb, Py.z_tb, Py.z_bf, Py.z_fb, Py.z_it, Py.z_if, Py.z_dt, Py.z_df, Py.z_de, Py.z_0a, Py.z_cast, Py.z_res, Py.z_exc, Py.z_ofs, Py.z_eqt, Py.z_tn, Py.z_d0, Py.z_ds, Py.z_bq, Py.z_all] <;> omega))
local macro_rules | `(tactic| walk_at "d") => `(tactic| first | assumption | omega | (simp (disch := walk_at "d0") only [seval, Py.okAll_ints, Py.okD_none, Py.okD_bool, Py.okD_int, Py.okD_list, Py.okD_tuple, Py.okAll_nil, Py.okAll_cons, Py.eqvAll_nil, Py.eqvAll_nc, Py.imm_int, Py.imm_bool, Py.imm_none, Py.imm_str, Py.imm_tuple, Py.imm_list, Py.immAll_nil, Py.immAll_cons, Py.flat_int, Py.flat_bool, Py.flat_none, Py.flat_str, Py.flat_tup, Py.flat_list, Py.flat_dict, Py.imm_dict, Py.q_free, Py.q_freeL, Py.q_freeI, Py.q_free2, Py.q_free0, Py.isNone_n, Py.isNone_i, Py.isNone_b, Py.isNone_t, Py.isNone_l, Py.isNone_s, Py.immAll_map, Py.okAll_map, Py.immAll_up, Py.okAll_up, Py.up_len, Py.z_g0, Py.z_gs, Py.z_s0, Py.z_ss, Py.z_lc, Py.z_ln, Py.z_lm, Py.z_mc, Py.z_mn, Py.z_ca, Py.z_na, Py.z_bs, Py.z_rl, Py.z_ft, Py.z_tf, Py.z_at, Py.z_ta, Py.z_af, Py.z_fa, Py.z_ot, Py.z_to, Py.z_of, Py.z_fo, Py.z_nt, Py.z_nf, Py.z_nn, Py.z_bb, Py.z_tb, Py.z_bf, Py.z_fb, Py.z_it, Py.z_if, Py.z_dt, Py.z_df, Py.z_de, Py.z_0a, Py.z_cast, Py.z_res, Py.z_exc, Py.z_ofs, Py.z_eqt, Py.z_tn, Py.z_d0, Py.z_ds, Py.z_bq, Py.z_all] <;> omega))
local macro_rules | `(tactic| walk_at "o") => `(tactic| try simp (disch := walk_at "d") only [seval, Py.eqD_ok, Py.neD_ok, Py.okAll_ints, Py.okD_none, Py.okD_bool, Py.okD_int, Py.okD_list, Py.okD_tuple, Py.okAll_nil, Py.okAll_cons, Py.eqv_int, Py.eqv_bool, Py.eqv_none, Py.eqv_tuple, Py.eqv_list, Py.eqvAll_nil, Py.eqvAll_cons, Py.eqvAll_cn, Py.eqvAll_nc, Py.addD_i, Py.addD_l, Py.addD_t, Py.subD_i, Py.mulD_a, Py.mulD_b, Py.fdivD_i, Py.modD_i, Py.leD_i, Py.ltD_i, Py.gtD_i, Py.geD_i, Py.getD_t0, Py.getD_t1, Py.getD_t2, Py.getD_l0, Py.getD_l1, Py.getD_l2, Py.negD_i, Py.truD_b, Py.truD_i, Py.truD_l, Py.truD_t, Py.truD_n, Py.lenD_l, Py.lenD_t, Py.maxD_i, Py.minD_i, Py.imm_int, Py.imm_bool, Py.imm_none, Py.imm_str, Py.imm_tuple, Py.imm_list, Py.immAll_nil, Py.immAll_cons, Py.iSeq_l, Py.iSeq_t, Py.iRange_1, Py.iRange_2, Py.isD_bb, Py.isNotD_bb, Py.isD_n, Py.isNotD_n, Py.isi_int, Py.isi_bool, Py.isi_tuple, Py.isTupD_t, Py.isIntD_i, Py.isBoolD_b, Py.q_seq, Py.thn_nx, Py.thn_rt, Py.thn_exc, Py.thn_bad, Py.q_nil, Py.q_set, Py.nxS_ok, Py.nxS_exc, Py.q_bind, Py.nxB_ok, Py.nxB_exc, Py.optO_some, Py.q_drop, Py.nxD_ok, Py.nxD_exc, Py.q_ret, Py.nxR_ok, Py.nxR_exc, Py.q_if, Py.ifO_true, Py.ifO_false, Py.ifO_exc, Py.q_raise, Py.q_par, Py.parO_ok, Py.parO_exc, Py.setAll_nil, Py.setAll_cons, Py.q_var, Py.rd_val, Py.q_cst, Py.q_bin, Py.b2_ok, Py.b2_e1, Py.b2_e2, Py.q_un, Py.b1_ok, Py.q_not, Py.trr_ok, Py.tru_exc, Py.not_ok, Py.not_exc, Py.boo_ok, Py.q_ife, Py.ifE_true, Py.ifE_false, Py.q_and, Py.andE_ok, Py.andE_exc, Py.q_or, Py.orE_ok, Py.q_chain, Py.q_xbool, Py.toB_ok, Py.toB_exc, Py.q_xtru, Py.q_xnot, Py.q_xand, Py.andT_ok, Py.q_xor, Py.orT_ok, Py.orT_exc, Py.q_evn, Py.q_evc, Py.cns_ok, Py.cns_e1, Py.cns_e2, Py.q_tup, Py.tup_ok, Py.tup_exc, Py.q_lst, Py.lst_ok, Py.lst_exc, Py.q_call, Py.q_blt, Py.blt_ok, Py.blt_exc, Py.q_pin, Py.q_pis, Py.toI_ok, Py.q_sl, Py.sl3_ok, Py.q_one, Py.q_yes, Py.q_lc, Py.lcK_ok, Py.q_for, Py.forK_ok, Py.forI_some, Py.for_nil, Py.for_cons, Py.forN_some, Py.bd_name, Py.bd_tup, Py.bd_nil, Py.bd_cons, Py.q_bindS, Py.q_setS, Py.q_prep, Py.ap_l, Py.ap_t, Py.ap_s, Py.ap_i, Py.ap_d, Py.ap_2, Py.ap_n, Py.apR_n, Py.apR_v, Py.apR_u, Py.apR_e, Py.lenNe_l, Py.lenNe_t, Py.lenNe_d, Py.frz_no, Py.frz_nil, Py.frz_val, Py.frz_un, Py.frz_err, Py.flat_int, Py.flat_bool, Py.flat_none, Py.flat_str, Py.flat_tup, Py.flat_list, Py.flat_dict, Py.imm_dict, Py.q_free, Py.q_freeL, Py.q_freeI, Py.q_free2, Py.q_free0, Py.fin_nx, Py.fin_rt, Py.fin_exc, Py.noexc_ok, Py.wipe_nil, Py.wipe_cons, Py.ite_bool, Py.ite_bool', Py.ite_okb, Py.ite_okb', Py.q_lcI, Py.lcX_some, Py.lcY_ok, Py.lcZ_ok, Py.lcFin_ok, Py.lcM_nil, Py.lcM_cons, Py.lcN_none, Py.lcN_some, Py.lcM_map, Py.lcM_up, Py.lcM_all, Py.lcM_filter, Py.lcM_filterP, Py.apd_ok, Py.q_lc2, Py.lc2K_ok, Py.lc2I_some, Py.lc2B_some, Py.lc2T_ok, Py.lc2F_ok, Py.lc2J_some, Py.lcJ_nil, Py.lcJ_cons, Py.lcJ_map, Py.lcJ_up, Py.lcJ_all, Py.q_pick, Py.pick_n, Py.pickB_some, Py.atI_0, Py.atI_1, Py.atI_2, Py.atI_3, Py.q_try, Py.tryK_nx, Py.tryK_rt, Py.q_app, Py.appK_ok, Py.q_rem, Py.q_ext, Py.extK_ok, Py.allD_map, Py.anyB_map, Py.sumD_map, Py.sumT_map, Py.sortedD_l, Py.sortedD_t, Py.rgD_t, Py.rgD_l, Py.iEnum_l, Py.iEnum_t, Py.iZip_l, Py.iZip_t, Py.tupleD_l, Py.tupleD_t, Py.listD_l, Py.listD_t, Py.intD_i, Py.intD_b, Py.maxD_m, Py.minD_m, Py.allD_m, Py.anyB_m, Py.sumD_m, Py.sumT_m, Py.isNone_n, Py.isNone_i, Py.isNone_b, Py.isNone_t, Py.isNone_l, Py.isNone_s, Py.immAll_map, Py.okAll_map, Py.immAll_up, Py.okAll_up, Py.up_len, Py.z_g0, Py.z_gs, Py.z_s0, Py.z_ss, Py.z_lc, Py.z_ln, Py.z_lm, Py.z_mc, Py.z_mn, Py.z_ca, Py.z_na, Py.z_bs, Py.z_rl, Py.z_ft, Py.z_tf, Py.z_at, Py.z_ta, Py.z_af, Py.z_fa, Py.z_ot, Py.z_to, Py.z_of, Py.z_fo, Py.z_nt, Py.z_nf, Py.z_nn, Py.z_bb, Py.z_tb, Py.z_bf, Py.z_fb, Py.z_it, Py.z_if, Py.z_dt, Py.z_df, Py.z_de, Py.z_0a, Py.z_cast, Py.z_res, Py.z_exc, Py.z_ofs, Py.z_eqt, Py.z_tn, Py.z_d0, Py.z_ds, Py.z_bq, Py.z_all])
local macro_rules | `(tactic| walk_at "oh") => `(tactic| try simp (disch := walk_at "d") only [seval, Py.eqD_ok, Py.neD_ok, Py.okAll_ints, Py.okD_none, Py.okD_bool, Py.okD_int, Py.okD_list, Py.okD_tuple, Py.okAll_nil, Py.okAll_cons, Py.eqv_int, Py.eqv_bool, Py.eqv_none, Py.eqv_tuple, Py.eqv_list, Py.eqvAll_nil, Py.eqvAll_cons, Py.eqvAll_cn, Py.eqvAll_nc, Py.addD_i, Py.addD_l, Py.addD_t, Py.subD_i, Py.mulD_a, Py.mulD_b, Py.fdivD_i, Py.modD_i, Py.leD_i, Py.ltD_i, Py.gtD_i, Py.geD_i, Py.getD_t0, Py.getD_t1, Py.getD_t2, Py.getD_l0, Py.getD_l1, Py.getD_l2, Py.negD_i, Py.truD_b, Py.truD_i, Py.truD_l, Py.truD_t, Py.truD_n, Py.lenD_l, Py.lenD_t, Py.maxD_i, Py.minD_i, Py.imm_int, Py.imm_bool, Py.imm_none, Py.imm_str, Py.imm_tuple, Py.imm_list, Py.immAll_nil, Py.immAll_cons, Py.iSeq_l, Py.iSeq_t, Py.iRange_1, Py.iRange_2, Py.isD_bb, Py.isNotD_bb, Py.isD_n, Py.isNotD_n, Py.isi_int, Py.isi_bool, Py.isi_tuple, Py.isTupD_t, Py.isIntD_i, Py.isBoolD_b, Py.q_seq, Py.thn_nx, Py.thn_rt, Py.thn_exc, Py.thn_bad, Py.q_nil, Py.q_set, Py.nxS_ok, Py.nxS_exc, Py.q_bind, Py.nxB_ok, Py.nxB_exc, Py.optO_some, Py.q_drop, Py.nxD_ok, Py.nxD_exc, Py.q_ret, Py.nxR_ok, Py.nxR_exc, Py.q_if, Py.ifO_true, Py.ifO_false, Py.ifO_exc, Py.q_raise, Py.q_par, Py.parO_ok, Py.parO_exc, Py.setAll_nil, Py.setAll_cons, Py.q_var, Py.rd_val, Py.q_cst, Py.q_bin, Py.b2_ok, Py.b2_e1, Py.b2_e2, Py.q_un, Py.b1_ok, Py.q_not, Py.trr_ok, Py.tru_exc, Py.not_ok, Py.not_exc, Py.boo_ok, Py.q_ife, Py.ifE_true, Py.ifE_false, Py.q_and, Py.andE_ok, Py.andE_exc, Py.q_or, Py.orE_ok, Py.q_chain, Py.q_xbool, Py.toB_ok, Py.toB_exc, Py.q_xtru, Py.q_xnot, Py.q_xand, Py.andT_ok, Py.q_xor, Py.orT_ok, Py.orT_exc, Py.q_evn, Py.q_evc, Py.cns_ok, Py.cns_e1, Py.cns_e2, Py.q_tup, Py.tup_ok, Py.tup_exc, Py.q_lst, Py.lst_ok, Py.lst_exc, Py.q_call, Py.q_blt, Py.blt_ok, Py.blt_exc, Py.q_pin, Py.q_pis, Py.toI_ok, Py.q_sl, Py.sl3_ok, Py.q_one, Py.q_yes, Py.q_lc, Py.lcK_ok, Py.q_for, Py.forK_ok, Py.forI_some, Py.for_nil, Py.for_cons, Py.forN_some, Py.bd_name, Py.bd_tup, Py.bd_nil, Py.bd_cons, Py.q_bindS, Py.q_setS, Py.q_prep, Py.ap_l, Py.ap_t, Py.ap_s, Py.ap_i, Py.ap_d, Py.ap_2, Py.ap_n, Py.apR_n, Py.apR_v, Py.apR_u, Py.apR_e, Py.lenNe_l, Py.lenNe_t, Py.lenNe_d, Py.frz_no, Py.frz_nil, Py.frz_val, Py.frz_un, Py.frz_err, Py.flat_int, Py.flat_bool, Py.flat_none, Py.flat_str, Py.flat_tup, Py.flat_list, Py.flat_dict, Py.imm_dict, Py.q_free, Py.q_freeL, Py.q_freeI, Py.q_free2, Py.q_free0, Py.fin_nx, Py.fin_rt, Py.fin_exc, Py.noexc_ok, Py.wipe_nil, Py.wipe_cons, Py.ite_bool, Py.ite_bool', Py.ite_okb, Py.ite_okb', Py.q_lcI, Py.lcX_some, Py.lcY_ok, Py.lcZ_ok, Py.lcFin_ok, Py.lcM_nil, Py.lcM_cons, Py.lcN_none, Py.lcN_some, Py.lcM_map, Py.lcM_up, Py.lcM_all, Py.lcM_filter, Py.lcM_filterP, Py.apd_ok, Py.q_lc2, Py.lc2K_ok, Py.lc2I_some, Py.lc2B_some, Py.lc2T_ok, Py.lc2F_ok, Py.lc2J_some, Py.lcJ_nil, Py.lcJ_cons, Py.lcJ_map, Py.lcJ_up, Py.lcJ_all, Py.q_pick, Py.pick_n, Py.pickB_some, Py.atI_0, Py.atI_1, Py.atI_2, Py.atI_3, Py.q_try, Py.tryK_nx, Py.tryK_rt, Py.q_app, Py.appK_ok, Py.q_rem, Py.q_ext, Py.extK_ok, Py.allD_map, Py.anyB_map, Py.sumD_map, Py.sumT_map, Py.sortedD_l, Py.sortedD_t, Py.rgD_t, Py.rgD_l, Py.iEnum_l, Py.iEnum_t, Py.iZip_l, Py.iZip_t, Py.tupleD_l, Py.tupleD_t, Py.listD_l, Py.listD_t, Py.intD_i, Py.intD_b, Py.maxD_m, Py.minD_m, Py.allD_m, Py.anyB_m, Py.sumD_m, Py.sumT_m, Py.isNone_n, Py.isNone_i, Py.isNone_b, Py.isNone_t, Py.isNone_l, Py.isNone_s, Py.immAll_map, Py.okAll_map, Py.immAll_up, Py.okAll_up, Py.up_len, Py.z_g0, Py.z_gs, Py.z_s0, Py.z_ss, Py.z_lc, Py.z_ln, Py.z_lm, Py.z_mc, Py.z_mn, Py.z_ca, Py.z_na, Py.z_bs, Py.z_rl, Py.z_ft, Py.z_tf, Py.z_at, Py.z_ta, Py.z_af, Py.z_fa, Py.z_ot, Py.z_to, Py.z_of, Py.z_fo, Py.z_nt, Py.z_nf, Py.z_nn, Py.z_bb, Py.z_tb, Py.z_bf, Py.z_fb, Py.z_it, Py.z_if, Py.z_dt, Py.z_df, Py.z_de, Py.z_0a, Py.z_cast, Py.z_res, Py.z_exc, Py.z_ofs, Py.z_eqt, Py.z_tn, Py.z_d0, Py.z_ds, Py.z_bq, Py.z_all, *])
theorem pk_while (s a b c f : Sl) : ∀ (n : Nat) (r t : Int), t < n → ∃ r' t', whileGo (xAnd (xBool (sBin gtD (sVar 4) (sCst (.int 0)))) (xBool (sBin gtD (sVar 5) (sCst (.int 0))))) pickL (n + 1) [s, a, b, c, .dat (.int r), .dat (.int t), f] = .nx [s, a, b, c, .dat (.int r'), .dat (.int t'), f]
  | 0, r, t, h => ⟨r, t, by
    unfold whileGo
    walk_at "py"
    by_cases hr : 0 < r
    · simp only [hr, decide_true]; walk_at "py"; simp only [show ¬ (0 < t) by omega, decide_false]; rfl
    · simp only [hr, decide_false]; rfl⟩
  | n + 1, r, t, h => by
    unfold whileGo
    by_cases hr : 0 < r
    · by_cases ht : 0 < t
      · obtain ⟨r', t', e⟩ := pk_while s a b c f n (r / 840) (t - 1) (by omega)
        refine ⟨r', t', ?_⟩
        unfold pickL at e ⊢
        walk_at "py"
        simp only [hr, ht, decide_true]
        walk_at "py"
        exact e
      · refine ⟨r, t, ?_⟩
        walk_at "py"
        simp only [hr, ht, decide_true, decide_false]
        walk_at "py"
    · refine ⟨r, t, ?_⟩
      walk_at "py"
      simp only [hr, decide_false]
      walk_at "py"
theorem pk_tail (s t r f : Sl) (k m c : Int) (hm : 0 < m) : IsDraw m (Py.finish (pickT [s, .dat (.int k), .dat (.int m), .dat (.int c), t, r, f])) := by
  unfold pickT
  walk_at "py"
  generalize hd : (c * 31 + 6151 * (k + 1)) * 40692 % 2147483399 = d
  have d1 : 0 ≤ d ∧ d < 2147483399 := by omega
  simp only [mulD_a (i := d) (j := d) (by omega) (by omega)]
  walk_at "py"
  simp only [modD_i (i := (d * d + d / 31) % 2147483629) hm]
  walk_at "py"
  exact ⟨_, rfl, Int.emod_nonneg _ (by omega), Int.emod_lt_of_pos _ hm⟩
theorem pk_end (s r' t' f : Sl) (k m c r t : Int) (hk : t < 99999) (hm : 0 < m) : IsDraw m (Py.finish ((pickW [s, .dat (.int k), .dat (.int m), .dat (.int c), .dat (.int r), .dat (.int t), f]).thn
  (oSeq (oIf (xBool (sBin gtD (sVar 4) (sCst (.int 0)))) (
    (oSeq (oRet (sBin modD (sBin modD (sVar 4) (sCst (.int 840))) (sVar 2)))
    oNil)) (oNil))
  pickT))) := by
  obtain ⟨r', t', e⟩ := pk_while s (.dat (.int k)) (.dat (.int m)) (.dat (.int c)) f 99999 r t (by omega)
  have e' : pickW [s, .dat (.int k), .dat (.int m), .dat (.int c), .dat (.int r), .dat (.int t), f] = .nx [s, .dat (.int k), .dat (.int m), .dat (.int c), .dat (.int r'), .dat (.int t'), f] := e
  clear e
  by_cases hr : 0 < r'
  · have hm' := modD_i (i := r' % 840) hm
    walk_at "pyh"
    exact ⟨_, rfl, Int.emod_nonneg _ (by omega), Int.emod_lt_of_pos _ hm⟩
  · walk_at "pyh"
    exact pk_tail _ _ _ _ k m _ hm
theorem pk_ok (ns : List Int) (hl : ns.length ≤ 63) (k m : Int) (hk : 0 ≤ k) (hk2 : k < 99999) (hm : 0 < m) : IsDraw m (Py.finish (pickB [.dat (.list (ns.map .int)), .dat (.int k), .dat (.int m), .un, .un, .un, .un])) := by
  unfold pickB
  walk_at "py"
  cases ns with
  | nil =>
    have hP := pow18
    have hf := fdivD_i (i := k) (j := 1) (by omega) (by omega)
    have hX : max (0 : Int) 1 = 1 := by omega
    walk_at "pyh"
    exact pk_end _ .un .un _ k m _ _ _ (by omega) hm
  | cons n0 ns =>
    simp only [List.map_cons, eqvAll_cn, Bool.not_false]
    rw [← List.map_cons]
    have hL : (((n0 :: ns).map PyData.int).length : Int) = ((n0 :: ns).length : Int) := by simp
    have hp : 0 < ((n0 :: ns).length : Int) := by simp
    have hq : ((n0 :: ns).length : Int) ≤ 63 := by omega
    generalize n0 :: ns = ms at *
    have hx : k % (ms.length : Int) < ms.length := Int.emod_lt_of_pos _ hp
    have hy : 0 ≤ k % (ms.length : Int) := Int.emod_nonneg _ (by omega)
    have hz : (k % (ms.length : Int)).toNat < ms.length := by omega
    have hg : getD (.list (ms.map .int)) (.int (k % (ms.length : Int))) = some (.int ms[(k % (ms.length : Int)).toNat]) := getD_l hy (by rw [List.getElem?_map, List.getElem?_eq_getElem hz]; rfl)
    have hX : max (ms.length : Int) 1 = (ms.length : Int) := by omega
    have hf := fdivD_i (i := k) hp (by omega)
    have hM := modD_i (i := k) hp
    have hP := pow18
    walk_at "pyh"
    generalize ms[(k % (ms.length : Int)).toNat] = cell
    refine pk_end _ .un .un _ k m _ _ _ ?_ hm
    have := Int.ediv_le_self (ms.length : Int) hk
    omega
/-- the number picked -/
def pck (ns : List Int) (k m : Int) : Int := match Py.finish (pickB [.dat (.list (ns.map .int)), .dat (.int k), .dat (.int m), .un, .un, .un, .un]) with
  | .ok (.int v) => v
  | _ => 0
theorem pck_ok {ns : List Int} (hl : ns.length ≤ 63) {k m : Int} (hk : 0 ≤ k) (hk2 : k < 99999) (hm : 0 < m) : Py.finish (pickB [.dat (.list (ns.map .int)), .dat (.int k), .dat (.int m), .un, .un, .un, .un]) = .ok (.int (pck ns k m)) ∧ 0 ≤ pck ns k m ∧ pck ns k m < m := by
  obtain ⟨v, h1, h2, h3⟩ := pk_ok ns hl k m hk hk2 hm
  have e : pck ns k m = v := by unfold pck; rw [h1]
  rw [e]
  exact ⟨h1, h2, h3⟩
end Py

set_option Elab.async false
set_option linter.all false
set_option maxRecDepth 100000
set_option maxHeartbeats 0
namespace K64
open PySem PySem.Spec L2 Py
def top (i : Nat) : Stmt := PySem.Challenge.pw_safesums_k64_whole_means.main.body.getD i (.Pass ⟨0, 0, 0, 0⟩)
/-- 0: is_integer(value); slots 0=value -/
def B0 (call : CallS) : Sx :=
  (oSeq (oRet (sAnd (sUn (isiD "int") (sVar 0)) (sNot (sUn (isiD "bool") (sVar 0)))))
  oNil)
/-- 1: is_int(value, least, most); slots 0=value 1=least 2=most -/
def B1 (call : CallS) : Sx :=
  (oSeq (oRet (sAnd (sCall (call 0) [(sVar 0)]) (sChain leD leD (sVar 1) (sVar 0) (sVar 2))))
  oNil)
/-- 2: is_word(candidate); slots 0=candidate -/
def B2 (call : CallS) : Sx :=
  (oSeq (oIf (xOr (xNot (xTru (sUn (isiD "tuple") (sVar 0)))) (xBool (sBin neD (sBlt lenD [(sVar 0)]) (sCst (.int 2))))) (
    (oSeq (oRet (sCst (.bool false)))
    oNil)) (oNil))
  (oSeq (oRet (sAnd (sCall (call 1) [(sBin getD (sVar 0) (sCst (.int 0))), (sCst (.int 1)), (sCst (.int 24))]) (sUn (isiD "bool") (sBin getD (sVar 0) (sCst (.int 1))))))
  oNil))
/-- 3: check_word(value); slots 0=value -/
def B3 (call : CallS) : Sx :=
  (oSeq (oIf (xNot (xTru (sCall (call 2) [(sVar 0)]))) (
    (oSeq (oRaise 1)
    oNil)) (oNil))
  oNil)
/-- 4: size_of(word); slots 0=word -/
def B4 (call : CallS) : Sx :=
  (oSeq (oRet (sBin shlD (sCst (.int 1)) (sBin getD (sVar 0) (sCst (.int 0)))))
  oNil)
/-- 5: find_bounds(word); slots 0=word 1=size -/
def B5 (call : CallS) : Sx :=
  (oSeq (oSet 1 false (sCall (call 4) [(sVar 0)]))
  (oSeq (oRet (sIf (xTru (sBin getD (sVar 0) (sCst (.int 1)))) (sTup [(sBin subD (sCst (.int 0)) (sBin fdivD (sVar 1) (sCst (.int 2)))), (sBin subD (sBin fdivD (sVar 1) (sCst (.int 2))) (sCst (.int 1)))]) (sTup [(sCst (.int 0)), (sBin subD (sVar 1) (sCst (.int 1)))])))
  oNil))
/-- 6: holds(word, low, high); slots 0=word 1=low 2=high 3=least 4=greatest -/
def B6 (call : CallS) : Sx :=
  (oSeq (oBind (bTup [(bName 3), (bName 4)]) (sCall (call 5) [(sVar 0)]))
  (oSeq (oRet (sAnd (sBin leD (sVar 3) (sVar 1)) (sBin leD (sVar 2) (sVar 4))))
  oNil))
/-- 7: sums_on(way, one, other); slots 0=way 1=one 2=other 3=found 4=halves 5=rests -/
def B7 (call : CallS) : Sx :=
  (oSeq (oIf (xBool (sBin eqD (sVar 0) (sCst (.str "sum")))) (
    (oSeq (oRet (sTup [(sLst [(sBin addD (sVar 1) (sVar 2))]), (sBin fdivD (sBin addD (sVar 1) (sVar 2)) (sCst (.int 2)))]))
    oNil)) (oNil))
  (oSeq (oIf (xBool (sBin eqD (sVar 0) (sCst (.str "half")))) (
    (oSeq (oRet (sTup [(sLst [(sBin addD (sBin fdivD (sVar 1) (sCst (.int 2))) (sBin fdivD (sVar 2) (sCst (.int 2))))]), (sBin addD (sBin fdivD (sVar 1) (sCst (.int 2))) (sBin fdivD (sVar 2) (sCst (.int 2))))]))
    oNil)) (oNil))
  (oSeq (oIf (xBool (sBin eqD (sVar 0) (sCst (.str "step")))) (
    (oSeq (oSet 3 true (sBin addD (sVar 1) (sBin fdivD (sBin subD (sVar 2) (sVar 1)) (sCst (.int 2)))))
    (oSeq (oRet (sTup [(sLst [(sBin subD (sVar 2) (sVar 1)), (sVar 3)]), (sVar 3)]))
    oNil))) (oNil))
  (oSeq (oPar [4, 5] [true, true] [(sBin addD (sBin fdivD (sVar 1) (sCst (.int 2))) (sBin fdivD (sVar 2) (sCst (.int 2)))), (sBin addD (sBin modD (sVar 1) (sCst (.int 2))) (sBin modD (sVar 2) (sCst (.int 2))))])
  (oSeq (oRet (sTup [(sLst [(sVar 4), (sVar 5), (sBin addD (sVar 4) (sBin fdivD (sVar 5) (sCst (.int 2))))]), (sBin addD (sVar 4) (sBin fdivD (sVar 5) (sCst (.int 2))))]))
  oNil)))))
/-- 8: find_mean(word, way, one, other); slots 0=word 1=way 2=one 3=other 4=found 5=result -/
def B8 (call : CallS) : Sx :=
  (oSeq (oBind (bTup [(bName 4), (bName 5)]) (sCall (call 7) [(sVar 1), (sVar 2), (sVar 3)]))
  (oSeq (oRet (sIf (xTru (sCall (call 6) [(sVar 0), (sBlt minD [(sVar 4)]), (sBlt maxD [(sVar 4)])])) (sVar 5) (sCst .none)))
  oNil))
/-- 9: check_way(word, way); slots 0=word 1=way -/
def B9 (call : CallS) : Sx :=
  (oSeq (oDrop (sCall (call 3) [(sVar 0)]))
  (oSeq (oIf (xOr (xNot (xTru (sUn (isiD "str") (sVar 1)))) (xBool (sBin notInD (sVar 1) (sTup [(sCst (.str "sum")), (sCst (.str "half")), (sCst (.str "step")), (sCst (.str "parts"))])))) (
    (oSeq (oRaise 3)
    oNil)) (oNil))
  oNil))
/-- 10: is_number_of(word, value); slots 0=word 1=value -/
def B10 (call : CallS) : Sx :=
  (oSeq (oRet (sAnd (sCall (call 0) [(sVar 1)]) (sCall (call 6) [(sVar 0), (sVar 1), (sVar 1)])))
  oNil)
def B11l0 (call : CallS) : Sx :=
  (oSeq (oIf (xNot (xTru (sCall (call 10) [(sVar 0), (sVar 4)]))) (
    (oSeq (oRaise 2)
    oNil)) (oNil))
  oNil)
/-- 11: mean(word, way, one, other); slots 0=word 1=way 2=one 3=other 4=value -/
def B11 (call : CallS) : Sx :=
  (oSeq (oDrop (sCall (call 9) [(sVar 0), (sVar 1)]))
  (oSeq (oFor true (one (sTup [(sVar 2), (sVar 3)])) iSeq (bName 4) (B11l0 call))
  (oSeq (oRet (sCall (call 8) [(sVar 0), (sVar 1), (sVar 2), (sVar 3)]))
  oNil)))
/-- 12: is_wrong(word, way, one, other); slots 0=word 1=way 2=one 3=other -/
def B12 (call : CallS) : Sx :=
  (oSeq (oRet (sBin neD (sCall (call 8) [(sVar 0), (sVar 1), (sVar 2), (sVar 3)]) (sBin fdivD (sBin addD (sVar 2) (sVar 3)) (sCst (.int 2)))))
  oNil)
def B13l1 (call : CallS) : Sx :=
  (oSeq (oIf (xAnd (xOr (xBool (sBin leD (sVar 6) (sVar 7))) (xNot (xTru (sVar 2)))) (xTru (sCall (call 12) [(sVar 0), (sVar 1), (sVar 6), (sVar 7)]))) (
    (oSeq (oRet (sTup [(sVar 6), (sVar 7)]))
    oNil)) (oNil))
  oNil)
def B13l0 (call : CallS) : Sx :=
  (oSeq (oFor false (one (sVar 5)) iSeq (bName 7) (B13l1 call))
  oNil)
/-- 13: find_wrong(word, way, sorted_only); slots 0=word 1=way 2=sorted_only 3=least 4=greatest 5=near 6=one 7=other 8=value -/
def B13 (call : CallS) : Sx :=
  (oSeq (oBind (bTup [(bName 3), (bName 4)]) (sCall (call 5) [(sVar 0)]))
  (oSeq (oSet 5 true (sLst [(sVar 3), (sBin addD (sVar 3) (sCst (.int 1))), (sUn negD (sCst (.int 1))), (sCst (.int 0)), (sCst (.int 1)), (sBin subD (sVar 4) (sCst (.int 1))), (sVar 4)]))
  (oSeq (oSet 5 true (sUn ssD (sLc (one (sVar 5)) iSeq [8] (bName 8) (xBool (sChain leD leD (sVar 3) (sVar 8) (sVar 4))) (sVar 8))))
  (oSeq (oFor false (one (sVar 5)) iSeq (bName 6) (B13l0 call))
  (oSeq (oRet (sCst .none))
  oNil)))))
/-- 14: check_flag(word, way, sorted_only); slots 0=word 1=way 2=sorted_only -/
def B14 (call : CallS) : Sx :=
  (oSeq (oDrop (sCall (call 9) [(sVar 0), (sVar 1)]))
  (oSeq (oIf (xNot (xTru (sUn (isiD "bool") (sVar 2)))) (
    (oSeq (oRaise 4)
    oNil)) (oNil))
  oNil))
/-- 15: is_exact(word, way, sorted_only); slots 0=word 1=way 2=sorted_only -/
def B15 (call : CallS) : Sx :=
  (oSeq (oDrop (sCall (call 14) [(sVar 0), (sVar 1), (sVar 2)]))
  (oSeq (oRet (sBin isD (sCall (call 13) [(sVar 0), (sVar 1), (sVar 2)]) (sCst .none)))
  oNil))
/-- 16: wrong_pair(word, way, sorted_only); slots 0=word 1=way 2=sorted_only -/
def B16 (call : CallS) : Sx :=
  (oSeq (oDrop (sCall (call 14) [(sVar 0), (sVar 1), (sVar 2)]))
  (oSeq (oRet (sCall (call 13) [(sVar 0), (sVar 1), (sVar 2)]))
  oNil))
/-- 17: is_wrong_pair(word, way, sorted_only, candidate); slots 0=word 1=way 2=sorted_only 3=candidate 4=one 5=other -/
def B17 (call : CallS) : Sx :=
  (oSeq (oDrop (sCall (call 14) [(sVar 0), (sVar 1), (sVar 2)]))
  (oSeq (oIf (xOr (xNot (xTru (sUn (isiD "tuple") (sVar 3)))) (xBool (sBin neD (sBlt lenD [(sVar 3)]) (sCst (.int 2))))) (
    (oSeq (oRet (sCst (.bool false)))
    oNil)) (oNil))
  (oSeq (oBind (bTup [(bName 4), (bName 5)]) (sVar 3))
  (oSeq (oIf (xOr (xNot (xTru (sCall (call 10) [(sVar 0), (sVar 4)]))) (xOr (xNot (xTru (sCall (call 10) [(sVar 0), (sVar 5)]))) (xAnd (xTru (sVar 2)) (xBool (sBin gtD (sVar 4) (sVar 5)))))) (
    (oSeq (oRet (sCst (.bool false)))
    oNil)) (oNil))
  (oSeq (oRet (sCall (call 12) [(sVar 0), (sVar 1), (sVar 4), (sVar 5)]))
  oNil)))))
def B18l0 (call : CallS) : Sx :=
  (oSeq (oSet 1 true (sBin mulD (sCst (.int 2)) (sVar 1)))
  oNil)
/-- 18: _law_ends(word); slots 0=word 1=size 2=i -/
def B18 (call : CallS) : Sx :=
  (oSeq (oSet 1 true (sCst (.int 1)))
  (oSeq (oFor true (evalL [(sBin getD (sVar 0) (sCst (.int 0)))]) iRange (bName 2) (B18l0 call))
  (oSeq (oRet (sIf (xTru (sBin getD (sVar 0) (sCst (.int 1)))) (sTup [(sBin subD (sCst (.int 0)) (sBin fdivD (sVar 1) (sCst (.int 2)))), (sBin subD (sBin fdivD (sVar 1) (sCst (.int 2))) (sCst (.int 1)))]) (sTup [(sCst (.int 0)), (sBin subD (sVar 1) (sCst (.int 1)))])))
  oNil)))
def B19l0 (call : CallS) : Sx :=
  (oSeq (oPar [4, 5] [true, true] [(sBin fdivD (sVar 4) (sCst (.int 840))), (sBin subD (sVar 5) (sCst (.int 1)))])
  oNil)
/-- 19: _law_pick(script, k, many); slots 0=script 1=k 2=many 3=cell 4=rest 5=again 6=drawn -/
def B19 (call : CallS) : Sx :=
  (oSeq (oSet 3 false (sIf (xBool (sBin neD (sVar 0) (sLst []))) (sBin getD (sVar 0) (sBin modD (sVar 1) (sBlt lenD [(sVar 0)]))) (sCst (.int 0))))
  (oSeq (oPar [4, 5] [true, true] [(sBin fdivD (sVar 3) (sBin powD (sCst (.int 10)) (sCst (.int 18)))), (sBin fdivD (sVar 1) (sBlt maxD [(sBlt lenD [(sVar 0)]), (sCst (.int 1))]))])
  (oSeq (whileGo (xAnd (xBool (sBin gtD (sVar 4) (sCst (.int 0)))) (xBool (sBin gtD (sVar 5) (sCst (.int 0))))) (B19l0 call) whileN)
  (oSeq (oIf (xBool (sBin gtD (sVar 4) (sCst (.int 0)))) (
    (oSeq (oRet (sBin modD (sBin modD (sVar 4) (sCst (.int 840))) (sVar 2)))
    oNil)) (oNil))
  (oSeq (oSet 6 true (sBin modD (sBin mulD (sBin addD (sBin mulD (sVar 3) (sCst (.int 31))) (sBin mulD (sCst (.int 6151)) (sBin addD (sVar 1) (sCst (.int 1))))) (sCst (.int 40692))) (sCst (.int 2147483399))))
  (oSeq (oRet (sBin modD (sBin modD (sBin addD (sBin mulD (sVar 6) (sVar 6)) (sBin fdivD (sVar 6) (sCst (.int 31)))) (sCst (.int 2147483629))) (sVar 2)))
  oNil))))))
/-- 20: _law_mean(word, way, one, other); slots 0=word 1=way 2=one 3=other 4=row 5=low 6=high 7=sums -/
def B20 (call : CallS) : Sx :=
  (oSeq (oIf (xBool (sBin eqD (sVar 1) (sCst (.str "sum")))) (
    (oSeq (oSet 4 true (sLst [(sBin addD (sVar 2) (sVar 3)), (sBin fdivD (sBin addD (sVar 2) (sVar 3)) (sCst (.int 2)))]))
    oNil)) (
    (oSeq (oIf (xBool (sBin eqD (sVar 1) (sCst (.str "half")))) (
      (oSeq (oSet 4 true (sLst [(sBin addD (sBin fdivD (sVar 2) (sCst (.int 2))) (sBin fdivD (sVar 3) (sCst (.int 2))))]))
      oNil)) (
      (oSeq (oIf (xBool (sBin eqD (sVar 1) (sCst (.str "step")))) (
        (oSeq (oSet 4 true (sLst [(sBin subD (sVar 3) (sVar 2)), (sBin addD (sVar 2) (sBin fdivD (sBin subD (sVar 3) (sVar 2)) (sCst (.int 2))))]))
        oNil)) (
        (oSeq (oSet 4 true (sLst [(sBin addD (sBin fdivD (sVar 2) (sCst (.int 2))) (sBin fdivD (sVar 3) (sCst (.int 2)))), (sBin addD (sBin modD (sVar 2) (sCst (.int 2))) (sBin modD (sVar 3) (sCst (.int 2)))), (sBin addD (sBin addD (sBin fdivD (sVar 2) (sCst (.int 2))) (sBin fdivD (sVar 3) (sCst (.int 2)))) (sBin fdivD (sBin addD (sBin modD (sVar 2) (sCst (.int 2))) (sBin modD (sVar 3) (sCst (.int 2)))) (sCst (.int 2))))]))
        oNil)))
      oNil)))
    oNil)))
  (oSeq (oBind (bTup [(bName 5), (bName 6)]) (sCall (call 18) [(sVar 0)]))
  (oSeq (oSet 7 false (sIf (xBool (sBin eqD (sVar 1) (sCst (.str "sum")))) (sSl (sVar 4) none (some (sCst (.int 1)))) (sVar 4)))
  (oSeq (oRet (sIf (xAnd (xBool (sBin leD (sVar 5) (sBlt minD [(sVar 7)]))) (xBool (sBin leD (sBlt maxD [(sVar 7)]) (sVar 6)))) (sBin getD (sVar 4) (sUn negD (sCst (.int 1)))) (sCst .none)))
  oNil))))
/-- 21: _law_bad(word, way, sorted_only, pair); slots 0=word 1=way 2=sorted_only 3=pair 4=low 5=high 6=one 7=other -/
def B21 (call : CallS) : Sx :=
  (oSeq (oBind (bTup [(bName 4), (bName 5)]) (sCall (call 18) [(sVar 0)]))
  (oSeq (oBind (bTup [(bName 6), (bName 7)]) (sVar 3))
  (oSeq (oIf (xOr (xBool (sBin ltD (sBlt minD [(sVar 3)]) (sVar 4))) (xOr (xBool (sBin gtD (sBlt maxD [(sVar 3)]) (sVar 5))) (xAnd (xTru (sVar 2)) (xBool (sBin gtD (sVar 6) (sVar 7)))))) (
    (oSeq (oRet (sCst (.bool false)))
    oNil)) (oNil))
  (oSeq (oRet (sBin neD (sCall (call 20) [(sVar 0), (sVar 1), (sVar 6), (sVar 7)]) (sBin fdivD (sBin addD (sVar 6) (sVar 7)) (sCst (.int 2)))))
  oNil))))
def B22l3 (call : CallS) : Sx :=
  (oSeq (oSet 10 false (sCall (call 20) [(sVar 3), (sVar 2), (sVar 8), (sVar 9)]))
  (oSeq (oIf (xBool (sBin neD (sCall (call 11) [(sVar 3), (sVar 2), (sVar 8), (sVar 9)]) (sVar 10))) (
    (oSeq (oRet (sCst (.bool false)))
    oNil)) (oNil))
  (oSeq (oIf (xBool (sBin neD (sVar 10) (sBin fdivD (sBin addD (sVar 8) (sVar 9)) (sCst (.int 2))))) (
    (oSeq (oAppend 7 (sTup [(sVar 8), (sVar 9)]))
    oNil)) (oNil))
  oNil)))
def B22l2 (call : CallS) : Sx :=
  (oSeq (oFor true (evalL [(sIf (xTru (sVar 6)) (sVar 8) (sVar 4)), (sBin addD (sVar 5) (sCst (.int 1)))]) iRange (bName 9) (B22l3 call))
  oNil)
def B22l4 (call : CallS) : Sx :=
  (oSeq (oIf (xBool (sBin neD (sCall (call 17) [(sVar 3), (sVar 2), (sVar 6), (sVar 12)]) (sBin inD (sVar 12) (sVar 7)))) (
    (oSeq (oRet (sCst (.bool false)))
    oNil)) (oNil))
  oNil)
def B22l1 (call : CallS) : Sx :=
  (oSeq (oSet 7 true (sLst []))
  (oSeq (oFor true (evalL [(sVar 4), (sBin addD (sVar 5) (sCst (.int 1)))]) iRange (bName 8) (B22l2 call))
  (oSeq (oSet 11 false (sCall (call 16) [(sVar 3), (sVar 2), (sVar 6)]))
  (oSeq (oIf (xOr (xBool (sBin neD (sCall (call 15) [(sVar 3), (sVar 2), (sVar 6)]) (sBin eqD (sVar 7) (sLst [])))) (xBool (sBin neD (sBin isD (sVar 11) (sCst .none)) (sBin eqD (sVar 7) (sLst []))))) (
    (oSeq (oRet (sCst (.bool false)))
    oNil)) (oNil))
  (oSeq (oIf (xAnd (xBool (sBin isNotD (sVar 11) (sCst .none))) (xBool (sBin notInD (sVar 11) (sVar 7)))) (
    (oSeq (oRet (sCst (.bool false)))
    oNil)) (oNil))
  (oSeq (oFor true (one (sBin addD (sSl (sVar 7) none (some (sCst (.int 3)))) (sLst [(sTup [(sVar 4), (sVar 5)]), (sTup [(sVar 5), (sVar 4)]), (sTup [(sVar 5), (sVar 5)])]))) iSeq (bName 12) (B22l4 call))
  oNil))))))
def B22l5 (call : CallS) : Sx :=
  (oSeq (oSet 15 true (sOr (sBin eqD (sVar 2) (sCst (.str "parts"))) (sAnd (sBin eqD (sVar 2) (sCst (.str "step"))) (sAnd (sVar 6) (sNot (sBin getD (sVar 14) (sCst (.int 1))))))))
  (oSeq (oSet 12 false (sCall (call 16) [(sVar 14), (sVar 2), (sVar 6)]))
  (oSeq (oIf (xOr (xBool (sBin neD (sCall (call 15) [(sVar 14), (sVar 2), (sVar 6)]) (sVar 15))) (xBool (sBin neD (sBin isD (sVar 12) (sCst .none)) (sVar 15)))) (
    (oSeq (oRet (sCst (.bool false)))
    oNil)) (oNil))
  (oSeq (oIf (xBool (sBin isNotD (sVar 12) (sCst .none))) (
    (oSeq (oIf (xNot (xTru (sCall (call 21) [(sVar 14), (sVar 2), (sVar 6), (sVar 12)]))) (
      (oSeq (oRet (sCst (.bool false)))
      oNil)) (oNil))
    (oSeq (oIf (xBool (sBin isNotD (sCall (call 17) [(sVar 14), (sVar 2), (sVar 6), (sVar 12)]) (sCst (.bool true)))) (
      (oSeq (oRet (sCst (.bool false)))
      oNil)) (oNil))
    oNil))) (oNil))
  oNil))))
def B22l0 (call : CallS) : Sx :=
  (oSeq (oSet 2 false (sBin getD (sTup [(sCst (.str "sum")), (sCst (.str "half")), (sCst (.str "step")), (sCst (.str "parts"))]) (sCall (call 19) [(sVar 0), (sBin mulD (sCst (.int 20)) (sVar 1)), (sCst (.int 4))])))
  (oSeq (oSet 3 true (sTup [(sBin addD (sCst (.int 1)) (sCall (call 19) [(sVar 0), (sBin addD (sBin mulD (sCst (.int 20)) (sVar 1)) (sCst (.int 1))), (sCst (.int 4))])), (sBin eqD (sCall (call 19) [(sVar 0), (sBin addD (sBin mulD (sCst (.int 20)) (sVar 1)) (sCst (.int 2))), (sCst (.int 2))]) (sCst (.int 0)))]))
  (oSeq (oBind (bTup [(bName 4), (bName 5)]) (sCall (call 18) [(sVar 3)]))
  (oSeq (oFor true (one (sTup [(sCst (.bool false)), (sCst (.bool true))])) iSeq (bName 6) (B22l1 call))
  (oSeq (oSet 13 true (sTup [(sCst .none), (sTup [(sVar 4)]), (sLst [(sVar 4), (sVar 5)]), (sTup [(sVar 4), (sBin addD (sVar 5) (sCst (.int 1)))]), (sTup [(sBin subD (sVar 4) (sCst (.int 1))), (sVar 5)]), (sTup [(sCst .none), (sVar 5)]), (sTup [(sCst (.bool true)), (sCst (.int 0))]), (sTup [(sVar 4), (sVar 5), (sCst (.int 0))])]))
  (oSeq (oIf (xTru (sBlt anyB [(sLc (one (sVar 13)) iSeq [16] (bName 16) xYes (sBin isNotD (sCall (call 17) [(sVar 3), (sVar 2), (sCst (.bool false)), (sVar 16)]) (sCst (.bool false))))])) (
    (oSeq (oRet (sCst (.bool false)))
    oNil)) (oNil))
  (oSeq (oSet 14 true (sTup [(sBin addD (sCst (.int 5)) (sCall (call 19) [(sVar 0), (sBin addD (sBin mulD (sCst (.int 20)) (sVar 1)) (sCst (.int 3))), (sCst (.int 20))])), (sBin eqD (sCall (call 19) [(sVar 0), (sBin addD (sBin mulD (sCst (.int 20)) (sVar 1)) (sCst (.int 4))), (sCst (.int 2))]) (sCst (.int 0)))]))
  (oSeq (oFor true (one (sTup [(sCst (.bool false)), (sCst (.bool true))])) iSeq (bName 6) (B22l5 call))
  oNil))))))))
/-- 22: law(script); slots 0=script 1=i 2=way 3=word 4=low 5=high 6=sorted_only 7=wrong 8=one 9=other 10=found 11=shown 12=pair 13=odd 14=large 15=due 16=value -/
def B22 (call : CallS) : Sx :=
  (oSeq (oFor true (evalL [(sCst (.int 2))]) iRange (bName 1) (B22l0 call))
  (oSeq (oRet (sCst (.bool true)))
  oNil))
def R0 : DRec := ⟨"is_integer", 8, ["value"], ["value"], false, B0⟩
def R1 : DRec := ⟨"is_int", 9, ["value", "least", "most"], ["value", "least", "most"], false, B1⟩
def R2 : DRec := ⟨"is_word", 10, ["candidate"], ["candidate"], false, B2⟩
def R3 : DRec := ⟨"check_word", 11, ["value"], ["value"], false, B3⟩
def R4 : DRec := ⟨"size_of", 12, ["word"], ["word"], false, B4⟩
def R5 : DRec := ⟨"find_bounds", 13, ["word", "size"], ["word"], false, B5⟩
def R6 : DRec := ⟨"holds", 14, ["word", "low", "high", "least", "greatest"], ["word", "low", "high"], false, B6⟩
def R7 : DRec := ⟨"sums_on", 20, ["way", "one", "other", "found", "halves", "rests"], ["way", "one", "other"], false, B7⟩
def R8 : DRec := ⟨"find_mean", 21, ["word", "way", "one", "other", "found", "result"], ["word", "way", "one", "other"], false, B8⟩
def R9 : DRec := ⟨"check_way", 22, ["word", "way"], ["word", "way"], false, B9⟩
def R10 : DRec := ⟨"is_number_of", 23, ["word", "value"], ["word", "value"], false, B10⟩
def R11 : DRec := ⟨"mean", 24, ["word", "way", "one", "other", "value"], ["word", "way", "one", "other"], false, B11⟩
def R12 : DRec := ⟨"is_wrong", 25, ["word", "way", "one", "other"], ["word", "way", "one", "other"], false, B12⟩
def R13 : DRec := ⟨"find_wrong", 26, ["word", "way", "sorted_only", "least", "greatest", "near", "one", "other", "value"], ["word", "way", "sorted_only"], false, B13⟩
def R14 : DRec := ⟨"check_flag", 27, ["word", "way", "sorted_only"], ["word", "way", "sorted_only"], false, B14⟩
def R15 : DRec := ⟨"is_exact", 28, ["word", "way", "sorted_only"], ["word", "way", "sorted_only"], false, B15⟩
def R16 : DRec := ⟨"wrong_pair", 29, ["word", "way", "sorted_only"], ["word", "way", "sorted_only"], false, B16⟩
def R17 : DRec := ⟨"is_wrong_pair", 30, ["word", "way", "sorted_only", "candidate", "one", "other"], ["word", "way", "sorted_only", "candidate"], false, B17⟩
def R18 : DRec := ⟨"_law_ends", 32, ["word", "size", "i"], ["word"], false, B18⟩
def R19 : DRec := ⟨"_law_pick", 33, ["script", "k", "many", "cell", "rest", "again", "drawn"], ["script", "k", "many"], false, B19⟩
def R20 : DRec := ⟨"_law_mean", 34, ["word", "way", "one", "other", "row", "low", "high", "sums"], ["word", "way", "one", "other"], false, B20⟩
def R21 : DRec := ⟨"_law_bad", 35, ["word", "way", "sorted_only", "pair", "low", "high", "one", "other"], ["word", "way", "sorted_only", "pair"], false, B21⟩
def R22 : DRec := ⟨"law", 36, ["script", "i", "way", "word", "low", "high", "sorted_only", "wrong", "one", "other", "found", "shown", "pair", "odd", "large", "due", "value"], ["script"], false, B22⟩
def recs : List DRec := ([R0, R1, R2, R3, R4, R5, R6, R7, R8, R9, R10, R11, R12, R13, R14, R15, R16, R17, R18, R19] : List DRec) ++ ([R20, R21, R22] : List DRec)
def T : Tab where
  top := top
  recs := recs
  cints := [("MAX_BITS", 24)]
  cstrs := [("SUM", "sum"), ("HALF", "half"), ("STEP", "step"), ("PARTS", "parts")]
  excs := ["WordError", "InvalidWord", "InvalidInteger", "InvalidWay", "InvalidFlag"]
  blts := ["any", "bool", "int", "isinstance", "len", "max", "min", "range", "set", "sorted", "str", "tuple"]
  rules := [bAnyR, bIntR, bLen, bMax, bMin, bSrtR, bTupR]
theorem W0 : WfR T R0 := ⟨⟨by kernel_rfl, by kernel_rfl, by kernel_rfl, by decide +kernel, by kernel_rfl, by decide +kernel, by decide +kernel⟩, fun _ _ _ _ _ _ us hl => match us, hl with | [_], _ => by kernel_rfl, fun call => by kernel_rfl⟩
theorem W1 : WfR T R1 := ⟨⟨by kernel_rfl, by kernel_rfl, by kernel_rfl, by decide +kernel, by kernel_rfl, by decide +kernel, by decide +kernel⟩, fun _ _ _ _ _ _ us hl => match us, hl with | [_, _, _], _ => by kernel_rfl, fun call => by kernel_rfl⟩
theorem W2 : WfR T R2 := ⟨⟨by kernel_rfl, by kernel_rfl, by kernel_rfl, by decide +kernel, by kernel_rfl, by decide +kernel, by decide +kernel⟩, fun _ _ _ _ _ _ us hl => match us, hl with | [_], _ => by kernel_rfl, fun call => by kernel_rfl⟩
theorem W3 : WfR T R3 := ⟨⟨by kernel_rfl, by kernel_rfl, by kernel_rfl, by decide +kernel, by kernel_rfl, by decide +kernel, by decide +kernel⟩, fun _ _ _ _ _ _ us hl => match us, hl with | [_], _ => by kernel_rfl, fun call => by kernel_rfl⟩
theorem W4 : WfR T R4 := ⟨⟨by kernel_rfl, by kernel_rfl, by kernel_rfl, by decide +kernel, by kernel_rfl, by decide +kernel, by decide +kernel⟩, fun _ _ _ _ _ _ us hl => match us, hl with | [_], _ => by kernel_rfl, fun call => by kernel_rfl⟩
theorem W5 : WfR T R5 := ⟨⟨by kernel_rfl, by kernel_rfl, by kernel_rfl, by decide +kernel, by kernel_rfl, by decide +kernel, by decide +kernel⟩, fun _ _ _ _ _ _ us hl => match us, hl with | [_], _ => by kernel_rfl, fun call => by kernel_rfl⟩
theorem W6 : WfR T R6 := ⟨⟨by kernel_rfl, by kernel_rfl, by kernel_rfl, by decide +kernel, by kernel_rfl, by decide +kernel, by decide +kernel⟩, fun _ _ _ _ _ _ us hl => match us, hl with | [_, _, _], _ => by kernel_rfl, fun call => by kernel_rfl⟩
theorem W7 : WfR T R7 := ⟨⟨by kernel_rfl, by kernel_rfl, by kernel_rfl, by decide +kernel, by kernel_rfl, by decide +kernel, by decide +kernel⟩, fun _ _ _ _ _ _ us hl => match us, hl with | [_, _, _], _ => by kernel_rfl, fun call => by kernel_rfl⟩
theorem W8 : WfR T R8 := ⟨⟨by kernel_rfl, by kernel_rfl, by kernel_rfl, by decide +kernel, by kernel_rfl, by decide +kernel, by decide +kernel⟩, fun _ _ _ _ _ _ us hl => match us, hl with | [_, _, _, _], _ => by kernel_rfl, fun call => by kernel_rfl⟩
theorem W9 : WfR T R9 := ⟨⟨by kernel_rfl, by kernel_rfl, by kernel_rfl, by decide +kernel, by kernel_rfl, by decide +kernel, by decide +kernel⟩, fun _ _ _ _ _ _ us hl => match us, hl with | [_, _], _ => by kernel_rfl, fun call => by kernel_rfl⟩
theorem W10 : WfR T R10 := ⟨⟨by kernel_rfl, by kernel_rfl, by kernel_rfl, by decide +kernel, by kernel_rfl, by decide +kernel, by decide +kernel⟩, fun _ _ _ _ _ _ us hl => match us, hl with | [_, _], _ => by kernel_rfl, fun call => by kernel_rfl⟩
theorem W11 : WfR T R11 := ⟨⟨by kernel_rfl, by kernel_rfl, by kernel_rfl, by decide +kernel, by kernel_rfl, by decide +kernel, by decide +kernel⟩, fun _ _ _ _ _ _ us hl => match us, hl with | [_, _, _, _], _ => by kernel_rfl, fun call => by kernel_rfl⟩
theorem W12 : WfR T R12 := ⟨⟨by kernel_rfl, by kernel_rfl, by kernel_rfl, by decide +kernel, by kernel_rfl, by decide +kernel, by decide +kernel⟩, fun _ _ _ _ _ _ us hl => match us, hl with | [_, _, _, _], _ => by kernel_rfl, fun call => by kernel_rfl⟩
theorem W13 : WfR T R13 := ⟨⟨by kernel_rfl, by kernel_rfl, by kernel_rfl, by decide +kernel, by kernel_rfl, by decide +kernel, by decide +kernel⟩, fun _ _ _ _ _ _ us hl => match us, hl with | [_, _, _], _ => by kernel_rfl, fun call => by kernel_rfl⟩
theorem W14 : WfR T R14 := ⟨⟨by kernel_rfl, by kernel_rfl, by kernel_rfl, by decide +kernel, by kernel_rfl, by decide +kernel, by decide +kernel⟩, fun _ _ _ _ _ _ us hl => match us, hl with | [_, _, _], _ => by kernel_rfl, fun call => by kernel_rfl⟩
theorem W15 : WfR T R15 := ⟨⟨by kernel_rfl, by kernel_rfl, by kernel_rfl, by decide +kernel, by kernel_rfl, by decide +kernel, by decide +kernel⟩, fun _ _ _ _ _ _ us hl => match us, hl with | [_, _, _], _ => by kernel_rfl, fun call => by kernel_rfl⟩
theorem W16 : WfR T R16 := ⟨⟨by kernel_rfl, by kernel_rfl, by kernel_rfl, by decide +kernel, by kernel_rfl, by decide +kernel, by decide +kernel⟩, fun _ _ _ _ _ _ us hl => match us, hl with | [_, _, _], _ => by kernel_rfl, fun call => by kernel_rfl⟩
theorem W17 : WfR T R17 := ⟨⟨by kernel_rfl, by kernel_rfl, by kernel_rfl, by decide +kernel, by kernel_rfl, by decide +kernel, by decide +kernel⟩, fun _ _ _ _ _ _ us hl => match us, hl with | [_, _, _, _], _ => by kernel_rfl, fun call => by kernel_rfl⟩
theorem W18 : WfR T R18 := ⟨⟨by kernel_rfl, by kernel_rfl, by kernel_rfl, by decide +kernel, by kernel_rfl, by decide +kernel, by decide +kernel⟩, fun _ _ _ _ _ _ us hl => match us, hl with | [_], _ => by kernel_rfl, fun call => by kernel_rfl⟩
theorem W19 : WfR T R19 := ⟨⟨by kernel_rfl, by kernel_rfl, by kernel_rfl, by decide +kernel, by kernel_rfl, by decide +kernel, by decide +kernel⟩, fun _ _ _ _ _ _ us hl => match us, hl with | [_, _, _], _ => by kernel_rfl, fun call => by kernel_rfl⟩
theorem W20 : WfR T R20 := ⟨⟨by kernel_rfl, by kernel_rfl, by kernel_rfl, by decide +kernel, by kernel_rfl, by decide +kernel, by decide +kernel⟩, fun _ _ _ _ _ _ us hl => match us, hl with | [_, _, _, _], _ => by kernel_rfl, fun call => by kernel_rfl⟩
theorem W21 : WfR T R21 := ⟨⟨by kernel_rfl, by kernel_rfl, by kernel_rfl, by decide +kernel, by kernel_rfl, by decide +kernel, by decide +kernel⟩, fun _ _ _ _ _ _ us hl => match us, hl with | [_, _, _, _], _ => by kernel_rfl, fun call => by kernel_rfl⟩
theorem W22 : WfR T R22 := ⟨⟨by kernel_rfl, by kernel_rfl, by kernel_rfl, by decide +kernel, by kernel_rfl, by decide +kernel, by decide +kernel⟩, fun _ _ _ _ _ _ us hl => match us, hl with | [_], _ => by kernel_rfl, fun call => by kernel_rfl⟩
theorem E0 (n : Nat) (a0 : D) : callN recs (n + 1) 0 [a0] = Py.finish (B0 (callN recs n) [.val false a0]) := call_at (r := R0) (B := B0) rfl rfl rfl rfl
theorem E1 (n : Nat) (a0 a1 a2 : D) : callN recs (n + 1) 1 [a0, a1, a2] = Py.finish (B1 (callN recs n) [.val false a0, .val false a1, .val false a2]) := call_at (r := R1) (B := B1) rfl rfl rfl rfl
theorem E2 (n : Nat) (a0 : D) : callN recs (n + 1) 2 [a0] = Py.finish (B2 (callN recs n) [.val false a0]) := call_at (r := R2) (B := B2) rfl rfl rfl rfl
theorem E3 (n : Nat) (a0 : D) : callN recs (n + 1) 3 [a0] = Py.finish (B3 (callN recs n) [.val false a0]) := call_at (r := R3) (B := B3) rfl rfl rfl rfl
theorem E4 (n : Nat) (a0 : D) : callN recs (n + 1) 4 [a0] = Py.finish (B4 (callN recs n) [.val false a0]) := call_at (r := R4) (B := B4) rfl rfl rfl rfl
theorem E5 (n : Nat) (a0 : D) : callN recs (n + 1) 5 [a0] = Py.finish (B5 (callN recs n) [.val false a0, .un]) := call_at (r := R5) (B := B5) rfl rfl rfl rfl
theorem E6 (n : Nat) (a0 a1 a2 : D) : callN recs (n + 1) 6 [a0, a1, a2] = Py.finish (B6 (callN recs n) [.val false a0, .val false a1, .val false a2, .un, .un]) := call_at (r := R6) (B := B6) rfl rfl rfl rfl
theorem E7 (n : Nat) (a0 a1 a2 : D) : callN recs (n + 1) 7 [a0, a1, a2] = Py.finish (B7 (callN recs n) [.val false a0, .val false a1, .val false a2, .un, .un, .un]) := call_at (r := R7) (B := B7) rfl rfl rfl rfl
theorem E8 (n : Nat) (a0 a1 a2 a3 : D) : callN recs (n + 1) 8 [a0, a1, a2, a3] = Py.finish (B8 (callN recs n) [.val false a0, .val false a1, .val false a2, .val false a3, .un, .un]) := call_at (r := R8) (B := B8) rfl rfl rfl rfl
theorem E9 (n : Nat) (a0 a1 : D) : callN recs (n + 1) 9 [a0, a1] = Py.finish (B9 (callN recs n) [.val false a0, .val false a1]) := call_at (r := R9) (B := B9) rfl rfl rfl rfl
theorem E10 (n : Nat) (a0 a1 : D) : callN recs (n + 1) 10 [a0, a1] = Py.finish (B10 (callN recs n) [.val false a0, .val false a1]) := call_at (r := R10) (B := B10) rfl rfl rfl rfl
theorem E11 (n : Nat) (a0 a1 a2 a3 : D) : callN recs (n + 1) 11 [a0, a1, a2, a3] = Py.finish (B11 (callN recs n) [.val false a0, .val false a1, .val false a2, .val false a3, .un]) := call_at (r := R11) (B := B11) rfl rfl rfl rfl
theorem E12 (n : Nat) (a0 a1 a2 a3 : D) : callN recs (n + 1) 12 [a0, a1, a2, a3] = Py.finish (B12 (callN recs n) [.val false a0, .val false a1, .val false a2, .val false a3]) := call_at (r := R12) (B := B12) rfl rfl rfl rfl
theorem E13 (n : Nat) (a0 a1 a2 : D) : callN recs (n + 1) 13 [a0, a1, a2] = Py.finish (B13 (callN recs n) [.val false a0, .val false a1, .val false a2, .un, .un, .un, .un, .un, .un]) := call_at (r := R13) (B := B13) rfl rfl rfl rfl
theorem E14 (n : Nat) (a0 a1 a2 : D) : callN recs (n + 1) 14 [a0, a1, a2] = Py.finish (B14 (callN recs n) [.val false a0, .val false a1, .val false a2]) := call_at (r := R14) (B := B14) rfl rfl rfl rfl
theorem E15 (n : Nat) (a0 a1 a2 : D) : callN recs (n + 1) 15 [a0, a1, a2] = Py.finish (B15 (callN recs n) [.val false a0, .val false a1, .val false a2]) := call_at (r := R15) (B := B15) rfl rfl rfl rfl
theorem E16 (n : Nat) (a0 a1 a2 : D) : callN recs (n + 1) 16 [a0, a1, a2] = Py.finish (B16 (callN recs n) [.val false a0, .val false a1, .val false a2]) := call_at (r := R16) (B := B16) rfl rfl rfl rfl
theorem E17 (n : Nat) (a0 a1 a2 a3 : D) : callN recs (n + 1) 17 [a0, a1, a2, a3] = Py.finish (B17 (callN recs n) [.val false a0, .val false a1, .val false a2, .val false a3, .un, .un]) := call_at (r := R17) (B := B17) rfl rfl rfl rfl
theorem E18 (n : Nat) (a0 : D) : callN recs (n + 1) 18 [a0] = Py.finish (B18 (callN recs n) [.val false a0, .un, .un]) := call_at (r := R18) (B := B18) rfl rfl rfl rfl
theorem E19 (n : Nat) (a0 a1 a2 : D) : callN recs (n + 1) 19 [a0, a1, a2] = Py.finish (B19 (callN recs n) [.val false a0, .val false a1, .val false a2, .un, .un, .un, .un]) := call_at (r := R19) (B := B19) rfl rfl rfl rfl
theorem E20 (n : Nat) (a0 a1 a2 a3 : D) : callN recs (n + 1) 20 [a0, a1, a2, a3] = Py.finish (B20 (callN recs n) [.val false a0, .val false a1, .val false a2, .val false a3, .un, .un, .un, .un]) := call_at (r := R20) (B := B20) rfl rfl rfl rfl
theorem E21 (n : Nat) (a0 a1 a2 a3 : D) : callN recs (n + 1) 21 [a0, a1, a2, a3] = Py.finish (B21 (callN recs n) [.val false a0, .val false a1, .val false a2, .val false a3, .un, .un, .un, .un]) := call_at (r := R21) (B := B21) rfl rfl rfl rfl
theorem E22 (n : Nat) (a0 : D) : callN recs (n + 1) 22 [a0] = Py.finish (B22 (callN recs n) [.val false a0, .un, .un, .un, .un, .un, .un, .un, .un, .un, .un, .un, .un, .un, .un, .un, .un]) := call_at (r := R22) (B := B22) rfl rfl rfl rfl
theorem wf : ∀ r ∈ T.recs, WfR T r := by
  intro r hr
  have h : r ∈ recs := hr
  simp only [recs, List.cons_append, List.nil_append, List.mem_cons, List.mem_nil_iff, or_false] at h
  rcases h with rfl | rfl | rfl | rfl | rfl | rfl | rfl | rfl | rfl | rfl | rfl | rfl | rfl | rfl | rfl | rfl | rfl | rfl | rfl | rfl | rfl | rfl | rfl
  · exact W0
  · exact W1
  · exact W2
  · exact W3
  · exact W4
  · exact W5
  · exact W6
  · exact W7
  · exact W8
  · exact W9
  · exact W10
  · exact W11
  · exact W12
  · exact W13
  · exact W14
  · exact W15
  · exact W16
  · exact W17
  · exact W18
  · exact W19
  · exact W20
  · exact W21
  · exact W22
abbrev R : PySem.W.OpenRow := PySem.W.OpenLaw.row PySem.Challenge.rw_safesums_k64_whole_means
abbrev hk : PySem.W.Hook := hookP 4 T.chk T.defs
def ob (s : PySem.W.SharedT) : Bool × He.AlD := obsP 4 T.chk T.defs (HandSHeadRun.getT s)
theorem ob_eq (s : PySem.W.SharedT) : ob s = hk.obs s.abs := obsP_eq (HandSHeadRun.getT_eq s)
def loose : List Str := (["WordError", "InvalidWord", "InvalidInteger", "InvalidWay", "InvalidFlag", "MAX_BITS", "is_integer", "is_int", "is_word", "check_word", "size_of", "find_bounds", "holds", "SUM", "HALF", "STEP", "PARTS", "sums_on", "find_mean", "check_way"] : List Str) ++ (["is_number_of", "mean", "is_wrong", "find_wrong", "check_flag", "is_exact", "wrong_pair", "is_wrong_pair", "_law_ends", "_law_pick", "_law_mean", "_law_bad"] : List Str)
theorem run (w : World) : HandSHeadRun.RunEq R (PySem.W.view R.prog [36]) hk ob 8000 loose w := by
  intro os
  kernel_rfl
end K64

set_option Elab.async false
set_option linter.all false
set_option maxRecDepth 100000
set_option maxHeartbeats 0
namespace K64
open PySem PySem.Spec L2 Py
theorem pickN (n : Nat) (ns : List Int) (hl : ns.length ≤ 63) (k m : Int) (hk : 0 ≤ k) (hk2 : k < 99999) (hm : 0 < m) : ∃ v, callN recs (n + 1) 19 [.list (ns.map .int), .int k, .int m] = .ok (.int v) ∧ 0 ≤ v ∧ v < m :=
  ⟨pck ns k m, by rw [E19]; exact (pck_ok hl hk hk2 hm).1, (pck_ok hl hk hk2 hm).2⟩
theorem seq_assoc (a b c : Sx) : oSeq a (oSeq b c) = oSeq (oSeq a b) c := by
  funext ρ
  unfold oSeq
  cases a ρ <;> rfl
theorem seq_nx {a b : Sx} {ρ ρ' : Env'} (h : a ρ = .nx ρ') : oSeq a b ρ = b ρ' := by
  unfold oSeq
  rw [h]
def seen (k : Nat) : Out → Option (Env' × Nat)
  | .nx ρ => some (ρ.take k, ρ.length)
  | _ => none
theorem seen_nx {k : Nat} {o : Out} {l : Env'} {m : Nat} (h : seen k o = some (l, m)) : ∃ ρ, o = .nx ρ ∧ ρ.take k = l ∧ ρ.length = m := by
  cases o with
  | nx ρ =>
    simp only [seen, Option.some.injEq, Prod.mk.injEq] at h
    exact ⟨ρ, rfl, h.1, h.2⟩
  | _ => cases h
def wayD : Nat → D
  | 0 => .str "sum"
  | 1 => .str "half"
  | 2 => .str "step"
  | _ => .str "parts"
def dW (b : Nat) (s : Bool) : D := .tuple [.int (b : Int), .bool s]
def S0 (call : CallS) : Sx := (oSet 2 false (sBin getD (sTup [(sCst (.str "sum")), (sCst (.str "half")), (sCst (.str "step")), (sCst (.str "parts"))]) (sCall (call 19) [(sVar 0), (sBin mulD (sCst (.int 20)) (sVar 1)), (sCst (.int 4))])))
def S1 (call : CallS) : Sx := (oSet 3 true (sTup [(sBin addD (sCst (.int 1)) (sCall (call 19) [(sVar 0), (sBin addD (sBin mulD (sCst (.int 20)) (sVar 1)) (sCst (.int 1))), (sCst (.int 4))])), (sBin eqD (sCall (call 19) [(sVar 0), (sBin addD (sBin mulD (sCst (.int 20)) (sVar 1)) (sCst (.int 2))), (sCst (.int 2))]) (sCst (.int 0)))]))
def S2 (call : CallS) : Sx := (oBind (bTup [(bName 4), (bName 5)]) (sCall (call 18) [(sVar 3)]))
def S3 (call : CallS) : Sx := (oFor true (one (sTup [(sCst (.bool false)), (sCst (.bool true))])) iSeq (bName 6) (B22l1 call))
def S4 (call : CallS) : Sx := (oSet 13 true (sTup [(sCst .none), (sTup [(sVar 4)]), (sLst [(sVar 4), (sVar 5)]), (sTup [(sVar 4), (sBin addD (sVar 5) (sCst (.int 1)))]), (sTup [(sBin subD (sVar 4) (sCst (.int 1))), (sVar 5)]), (sTup [(sCst .none), (sVar 5)]), (sTup [(sCst (.bool true)), (sCst (.int 0))]), (sTup [(sVar 4), (sVar 5), (sCst (.int 0))])]))
def S5 (call : CallS) : Sx := (oIf (xTru (sBlt anyB [(sLc (one (sVar 13)) iSeq [16] (bName 16) xYes (sBin isNotD (sCall (call 17) [(sVar 3), (sVar 2), (sCst (.bool false)), (sVar 16)]) (sCst (.bool false))))])) (
    (oSeq (oRet (sCst (.bool false)))
    oNil)) (oNil))
def S6 (call : CallS) : Sx := (oSet 14 true (sTup [(sBin addD (sCst (.int 5)) (sCall (call 19) [(sVar 0), (sBin addD (sBin mulD (sCst (.int 20)) (sVar 1)) (sCst (.int 3))), (sCst (.int 20))])), (sBin eqD (sCall (call 19) [(sVar 0), (sBin addD (sBin mulD (sCst (.int 20)) (sVar 1)) (sCst (.int 4))), (sCst (.int 2))]) (sCst (.int 0)))]))
def S7 (call : CallS) : Sx := (oFor true (one (sTup [(sCst (.bool false)), (sCst (.bool true))])) iSeq (bName 6) (B22l5 call))
def pre (call : CallS) : Sx := oSeq (S2 call) (oSeq (S3 call) (oSeq (S4 call) (S5 call)))
theorem body_eq (call : CallS) : B22l0 call = oSeq (S0 call) (oSeq (S1 call) (oSeq (pre call) (oSeq (S6 call) (oSeq (S7 call) oNil)))) := by
  unfold pre
  rw [← seq_assoc, ← seq_assoc, ← seq_assoc]
  rfl

end K64

set_option Elab.async false
set_option linter.all false
set_option maxRecDepth 100000
set_option maxHeartbeats 0
namespace K64
open PySem PySem.Spec L2 Py
theorem sm_0_1_false (n : Nat) (s i : D) (j4 j5 j6 j7 j8 j9 j10 j11 j12 j13 j14 j15 j16 : Sl) : seen 4 (pre (callN recs (n + 19)) [.val false s, .val false i, .val false (wayD 0), .val false (dW 1 false), j4, j5, j6, j7, j8, j9, j10, j11, j12, j13, j14, j15, j16]) = some ([.val false s, .val false i, .val false (wayD 0), .val false (dW 1 false)], 17) := by kernel_rfl
theorem sm_0_1_true (n : Nat) (s i : D) (j4 j5 j6 j7 j8 j9 j10 j11 j12 j13 j14 j15 j16 : Sl) : seen 4 (pre (callN recs (n + 19)) [.val false s, .val false i, .val false (wayD 0), .val false (dW 1 true), j4, j5, j6, j7, j8, j9, j10, j11, j12, j13, j14, j15, j16]) = some ([.val false s, .val false i, .val false (wayD 0), .val false (dW 1 true)], 17) := by kernel_rfl
theorem sm_0_2_false (n : Nat) (s i : D) (j4 j5 j6 j7 j8 j9 j10 j11 j12 j13 j14 j15 j16 : Sl) : seen 4 (pre (callN recs (n + 19)) [.val false s, .val false i, .val false (wayD 0), .val false (dW 2 false), j4, j5, j6, j7, j8, j9, j10, j11, j12, j13, j14, j15, j16]) = some ([.val false s, .val false i, .val false (wayD 0), .val false (dW 2 false)], 17) := by kernel_rfl
theorem sm_0_2_true (n : Nat) (s i : D) (j4 j5 j6 j7 j8 j9 j10 j11 j12 j13 j14 j15 j16 : Sl) : seen 4 (pre (callN recs (n + 19)) [.val false s, .val false i, .val false (wayD 0), .val false (dW 2 true), j4, j5, j6, j7, j8, j9, j10, j11, j12, j13, j14, j15, j16]) = some ([.val false s, .val false i, .val false (wayD 0), .val false (dW 2 true)], 17) := by kernel_rfl
theorem sm_0_3_false (n : Nat) (s i : D) (j4 j5 j6 j7 j8 j9 j10 j11 j12 j13 j14 j15 j16 : Sl) : seen 4 (pre (callN recs (n + 19)) [.val false s, .val false i, .val false (wayD 0), .val false (dW 3 false), j4, j5, j6, j7, j8, j9, j10, j11, j12, j13, j14, j15, j16]) = some ([.val false s, .val false i, .val false (wayD 0), .val false (dW 3 false)], 17) := by kernel_rfl
theorem sm_0_3_true (n : Nat) (s i : D) (j4 j5 j6 j7 j8 j9 j10 j11 j12 j13 j14 j15 j16 : Sl) : seen 4 (pre (callN recs (n + 19)) [.val false s, .val false i, .val false (wayD 0), .val false (dW 3 true), j4, j5, j6, j7, j8, j9, j10, j11, j12, j13, j14, j15, j16]) = some ([.val false s, .val false i, .val false (wayD 0), .val false (dW 3 true)], 17) := by kernel_rfl
theorem sm_0_4_false (n : Nat) (s i : D) (j4 j5 j6 j7 j8 j9 j10 j11 j12 j13 j14 j15 j16 : Sl) : seen 4 (pre (callN recs (n + 19)) [.val false s, .val false i, .val false (wayD 0), .val false (dW 4 false), j4, j5, j6, j7, j8, j9, j10, j11, j12, j13, j14, j15, j16]) = some ([.val false s, .val false i, .val false (wayD 0), .val false (dW 4 false)], 17) := by kernel_rfl
theorem sm_0_4_true (n : Nat) (s i : D) (j4 j5 j6 j7 j8 j9 j10 j11 j12 j13 j14 j15 j16 : Sl) : seen 4 (pre (callN recs (n + 19)) [.val false s, .val false i, .val false (wayD 0), .val false (dW 4 true), j4, j5, j6, j7, j8, j9, j10, j11, j12, j13, j14, j15, j16]) = some ([.val false s, .val false i, .val false (wayD 0), .val false (dW 4 true)], 17) := by kernel_rfl

end K64

set_option Elab.async false
set_option linter.all false
set_option maxRecDepth 100000
set_option maxHeartbeats 0
namespace K64
open PySem PySem.Spec L2 Py
theorem sm_1_1_false (n : Nat) (s i : D) (j4 j5 j6 j7 j8 j9 j10 j11 j12 j13 j14 j15 j16 : Sl) : seen 4 (pre (callN recs (n + 19)) [.val false s, .val false i, .val false (wayD 1), .val false (dW 1 false), j4, j5, j6, j7, j8, j9, j10, j11, j12, j13, j14, j15, j16]) = some ([.val false s, .val false i, .val false (wayD 1), .val false (dW 1 false)], 17) := by kernel_rfl
theorem sm_1_1_true (n : Nat) (s i : D) (j4 j5 j6 j7 j8 j9 j10 j11 j12 j13 j14 j15 j16 : Sl) : seen 4 (pre (callN recs (n + 19)) [.val false s, .val false i, .val false (wayD 1), .val false (dW 1 true), j4, j5, j6, j7, j8, j9, j10, j11, j12, j13, j14, j15, j16]) = some ([.val false s, .val false i, .val false (wayD 1), .val false (dW 1 true)], 17) := by kernel_rfl
theorem sm_1_2_false (n : Nat) (s i : D) (j4 j5 j6 j7 j8 j9 j10 j11 j12 j13 j14 j15 j16 : Sl) : seen 4 (pre (callN recs (n + 19)) [.val false s, .val false i, .val false (wayD 1), .val false (dW 2 false), j4, j5, j6, j7, j8, j9, j10, j11, j12, j13, j14, j15, j16]) = some ([.val false s, .val false i, .val false (wayD 1), .val false (dW 2 false)], 17) := by kernel_rfl
theorem sm_1_2_true (n : Nat) (s i : D) (j4 j5 j6 j7 j8 j9 j10 j11 j12 j13 j14 j15 j16 : Sl) : seen 4 (pre (callN recs (n + 19)) [.val false s, .val false i, .val false (wayD 1), .val false (dW 2 true), j4, j5, j6, j7, j8, j9, j10, j11, j12, j13, j14, j15, j16]) = some ([.val false s, .val false i, .val false (wayD 1), .val false (dW 2 true)], 17) := by kernel_rfl
theorem sm_1_3_false (n : Nat) (s i : D) (j4 j5 j6 j7 j8 j9 j10 j11 j12 j13 j14 j15 j16 : Sl) : seen 4 (pre (callN recs (n + 19)) [.val false s, .val false i, .val false (wayD 1), .val false (dW 3 false), j4, j5, j6, j7, j8, j9, j10, j11, j12, j13, j14, j15, j16]) = some ([.val false s, .val false i, .val false (wayD 1), .val false (dW 3 false)], 17) := by kernel_rfl
theorem sm_1_3_true (n : Nat) (s i : D) (j4 j5 j6 j7 j8 j9 j10 j11 j12 j13 j14 j15 j16 : Sl) : seen 4 (pre (callN recs (n + 19)) [.val false s, .val false i, .val false (wayD 1), .val false (dW 3 true), j4, j5, j6, j7, j8, j9, j10, j11, j12, j13, j14, j15, j16]) = some ([.val false s, .val false i, .val false (wayD 1), .val false (dW 3 true)], 17) := by kernel_rfl
theorem sm_1_4_false (n : Nat) (s i : D) (j4 j5 j6 j7 j8 j9 j10 j11 j12 j13 j14 j15 j16 : Sl) : seen 4 (pre (callN recs (n + 19)) [.val false s, .val false i, .val false (wayD 1), .val false (dW 4 false), j4, j5, j6, j7, j8, j9, j10, j11, j12, j13, j14, j15, j16]) = some ([.val false s, .val false i, .val false (wayD 1), .val false (dW 4 false)], 17) := by kernel_rfl
theorem sm_1_4_true (n : Nat) (s i : D) (j4 j5 j6 j7 j8 j9 j10 j11 j12 j13 j14 j15 j16 : Sl) : seen 4 (pre (callN recs (n + 19)) [.val false s, .val false i, .val false (wayD 1), .val false (dW 4 true), j4, j5, j6, j7, j8, j9, j10, j11, j12, j13, j14, j15, j16]) = some ([.val false s, .val false i, .val false (wayD 1), .val false (dW 4 true)], 17) := by kernel_rfl

end K64

set_option Elab.async false
set_option linter.all false
set_option maxRecDepth 100000
set_option maxHeartbeats 0
namespace K64
open PySem PySem.Spec L2 Py
theorem sm_2_1_false (n : Nat) (s i : D) (j4 j5 j6 j7 j8 j9 j10 j11 j12 j13 j14 j15 j16 : Sl) : seen 4 (pre (callN recs (n + 19)) [.val false s, .val false i, .val false (wayD 2), .val false (dW 1 false), j4, j5, j6, j7, j8, j9, j10, j11, j12, j13, j14, j15, j16]) = some ([.val false s, .val false i, .val false (wayD 2), .val false (dW 1 false)], 17) := by kernel_rfl
theorem sm_2_1_true (n : Nat) (s i : D) (j4 j5 j6 j7 j8 j9 j10 j11 j12 j13 j14 j15 j16 : Sl) : seen 4 (pre (callN recs (n + 19)) [.val false s, .val false i, .val false (wayD 2), .val false (dW 1 true), j4, j5, j6, j7, j8, j9, j10, j11, j12, j13, j14, j15, j16]) = some ([.val false s, .val false i, .val false (wayD 2), .val false (dW 1 true)], 17) := by kernel_rfl
theorem sm_2_2_false (n : Nat) (s i : D) (j4 j5 j6 j7 j8 j9 j10 j11 j12 j13 j14 j15 j16 : Sl) : seen 4 (pre (callN recs (n + 19)) [.val false s, .val false i, .val false (wayD 2), .val false (dW 2 false), j4, j5, j6, j7, j8, j9, j10, j11, j12, j13, j14, j15, j16]) = some ([.val false s, .val false i, .val false (wayD 2), .val false (dW 2 false)], 17) := by kernel_rfl
theorem sm_2_2_true (n : Nat) (s i : D) (j4 j5 j6 j7 j8 j9 j10 j11 j12 j13 j14 j15 j16 : Sl) : seen 4 (pre (callN recs (n + 19)) [.val false s, .val false i, .val false (wayD 2), .val false (dW 2 true), j4, j5, j6, j7, j8, j9, j10, j11, j12, j13, j14, j15, j16]) = some ([.val false s, .val false i, .val false (wayD 2), .val false (dW 2 true)], 17) := by kernel_rfl
theorem sm_2_3_false (n : Nat) (s i : D) (j4 j5 j6 j7 j8 j9 j10 j11 j12 j13 j14 j15 j16 : Sl) : seen 4 (pre (callN recs (n + 19)) [.val false s, .val false i, .val false (wayD 2), .val false (dW 3 false), j4, j5, j6, j7, j8, j9, j10, j11, j12, j13, j14, j15, j16]) = some ([.val false s, .val false i, .val false (wayD 2), .val false (dW 3 false)], 17) := by kernel_rfl
theorem sm_2_3_true (n : Nat) (s i : D) (j4 j5 j6 j7 j8 j9 j10 j11 j12 j13 j14 j15 j16 : Sl) : seen 4 (pre (callN recs (n + 19)) [.val false s, .val false i, .val false (wayD 2), .val false (dW 3 true), j4, j5, j6, j7, j8, j9, j10, j11, j12, j13, j14, j15, j16]) = some ([.val false s, .val false i, .val false (wayD 2), .val false (dW 3 true)], 17) := by kernel_rfl
theorem sm_2_4_false (n : Nat) (s i : D) (j4 j5 j6 j7 j8 j9 j10 j11 j12 j13 j14 j15 j16 : Sl) : seen 4 (pre (callN recs (n + 19)) [.val false s, .val false i, .val false (wayD 2), .val false (dW 4 false), j4, j5, j6, j7, j8, j9, j10, j11, j12, j13, j14, j15, j16]) = some ([.val false s, .val false i, .val false (wayD 2), .val false (dW 4 false)], 17) := by kernel_rfl
theorem sm_2_4_true (n : Nat) (s i : D) (j4 j5 j6 j7 j8 j9 j10 j11 j12 j13 j14 j15 j16 : Sl) : seen 4 (pre (callN recs (n + 19)) [.val false s, .val false i, .val false (wayD 2), .val false (dW 4 true), j4, j5, j6, j7, j8, j9, j10, j11, j12, j13, j14, j15, j16]) = some ([.val false s, .val false i, .val false (wayD 2), .val false (dW 4 true)], 17) := by kernel_rfl

end K64

set_option Elab.async false
set_option linter.all false
set_option maxRecDepth 100000
set_option maxHeartbeats 0
namespace K64
open PySem PySem.Spec L2 Py
theorem sm_3_1_false (n : Nat) (s i : D) (j4 j5 j6 j7 j8 j9 j10 j11 j12 j13 j14 j15 j16 : Sl) : seen 4 (pre (callN recs (n + 19)) [.val false s, .val false i, .val false (wayD 3), .val false (dW 1 false), j4, j5, j6, j7, j8, j9, j10, j11, j12, j13, j14, j15, j16]) = some ([.val false s, .val false i, .val false (wayD 3), .val false (dW 1 false)], 17) := by kernel_rfl
theorem sm_3_1_true (n : Nat) (s i : D) (j4 j5 j6 j7 j8 j9 j10 j11 j12 j13 j14 j15 j16 : Sl) : seen 4 (pre (callN recs (n + 19)) [.val false s, .val false i, .val false (wayD 3), .val false (dW 1 true), j4, j5, j6, j7, j8, j9, j10, j11, j12, j13, j14, j15, j16]) = some ([.val false s, .val false i, .val false (wayD 3), .val false (dW 1 true)], 17) := by kernel_rfl
theorem sm_3_2_false (n : Nat) (s i : D) (j4 j5 j6 j7 j8 j9 j10 j11 j12 j13 j14 j15 j16 : Sl) : seen 4 (pre (callN recs (n + 19)) [.val false s, .val false i, .val false (wayD 3), .val false (dW 2 false), j4, j5, j6, j7, j8, j9, j10, j11, j12, j13, j14, j15, j16]) = some ([.val false s, .val false i, .val false (wayD 3), .val false (dW 2 false)], 17) := by kernel_rfl
theorem sm_3_2_true (n : Nat) (s i : D) (j4 j5 j6 j7 j8 j9 j10 j11 j12 j13 j14 j15 j16 : Sl) : seen 4 (pre (callN recs (n + 19)) [.val false s, .val false i, .val false (wayD 3), .val false (dW 2 true), j4, j5, j6, j7, j8, j9, j10, j11, j12, j13, j14, j15, j16]) = some ([.val false s, .val false i, .val false (wayD 3), .val false (dW 2 true)], 17) := by kernel_rfl
theorem sm_3_3_false (n : Nat) (s i : D) (j4 j5 j6 j7 j8 j9 j10 j11 j12 j13 j14 j15 j16 : Sl) : seen 4 (pre (callN recs (n + 19)) [.val false s, .val false i, .val false (wayD 3), .val false (dW 3 false), j4, j5, j6, j7, j8, j9, j10, j11, j12, j13, j14, j15, j16]) = some ([.val false s, .val false i, .val false (wayD 3), .val false (dW 3 false)], 17) := by kernel_rfl
theorem sm_3_3_true (n : Nat) (s i : D) (j4 j5 j6 j7 j8 j9 j10 j11 j12 j13 j14 j15 j16 : Sl) : seen 4 (pre (callN recs (n + 19)) [.val false s, .val false i, .val false (wayD 3), .val false (dW 3 true), j4, j5, j6, j7, j8, j9, j10, j11, j12, j13, j14, j15, j16]) = some ([.val false s, .val false i, .val false (wayD 3), .val false (dW 3 true)], 17) := by kernel_rfl
theorem sm_3_4_false (n : Nat) (s i : D) (j4 j5 j6 j7 j8 j9 j10 j11 j12 j13 j14 j15 j16 : Sl) : seen 4 (pre (callN recs (n + 19)) [.val false s, .val false i, .val false (wayD 3), .val false (dW 4 false), j4, j5, j6, j7, j8, j9, j10, j11, j12, j13, j14, j15, j16]) = some ([.val false s, .val false i, .val false (wayD 3), .val false (dW 4 false)], 17) := by kernel_rfl
theorem sm_3_4_true (n : Nat) (s i : D) (j4 j5 j6 j7 j8 j9 j10 j11 j12 j13 j14 j15 j16 : Sl) : seen 4 (pre (callN recs (n + 19)) [.val false s, .val false i, .val false (wayD 3), .val false (dW 4 true), j4, j5, j6, j7, j8, j9, j10, j11, j12, j13, j14, j15, j16]) = some ([.val false s, .val false i, .val false (wayD 3), .val false (dW 4 true)], 17) := by kernel_rfl

end K64

set_option Elab.async false
set_option linter.all false
set_option maxRecDepth 100000
set_option maxHeartbeats 0
namespace K64
open PySem PySem.Spec L2 Py
theorem lg_0_5_false (n : Nat) (s i w : D) (j4 j5 j6 j7 j8 j9 j10 j11 j12 j13 j15 j16 : Sl) : seen 2 (S7 (callN recs (n + 19)) [.val false s, .val false i, .val false (wayD 0), .val false w, j4, j5, j6, j7, j8, j9, j10, j11, j12, j13, .val false (dW 5 false), j15, j16]) = some ([.val false s, .val false i], 17) := by kernel_rfl
theorem lg_0_5_true (n : Nat) (s i w : D) (j4 j5 j6 j7 j8 j9 j10 j11 j12 j13 j15 j16 : Sl) : seen 2 (S7 (callN recs (n + 19)) [.val false s, .val false i, .val false (wayD 0), .val false w, j4, j5, j6, j7, j8, j9, j10, j11, j12, j13, .val false (dW 5 true), j15, j16]) = some ([.val false s, .val false i], 17) := by kernel_rfl
theorem lg_0_6_false (n : Nat) (s i w : D) (j4 j5 j6 j7 j8 j9 j10 j11 j12 j13 j15 j16 : Sl) : seen 2 (S7 (callN recs (n + 19)) [.val false s, .val false i, .val false (wayD 0), .val false w, j4, j5, j6, j7, j8, j9, j10, j11, j12, j13, .val false (dW 6 false), j15, j16]) = some ([.val false s, .val false i], 17) := by kernel_rfl
theorem lg_0_6_true (n : Nat) (s i w : D) (j4 j5 j6 j7 j8 j9 j10 j11 j12 j13 j15 j16 : Sl) : seen 2 (S7 (callN recs (n + 19)) [.val false s, .val false i, .val false (wayD 0), .val false w, j4, j5, j6, j7, j8, j9, j10, j11, j12, j13, .val false (dW 6 true), j15, j16]) = some ([.val false s, .val false i], 17) := by kernel_rfl
theorem lg_0_7_false (n : Nat) (s i w : D) (j4 j5 j6 j7 j8 j9 j10 j11 j12 j13 j15 j16 : Sl) : seen 2 (S7 (callN recs (n + 19)) [.val false s, .val false i, .val false (wayD 0), .val false w, j4, j5, j6, j7, j8, j9, j10, j11, j12, j13, .val false (dW 7 false), j15, j16]) = some ([.val false s, .val false i], 17) := by kernel_rfl
theorem lg_0_7_true (n : Nat) (s i w : D) (j4 j5 j6 j7 j8 j9 j10 j11 j12 j13 j15 j16 : Sl) : seen 2 (S7 (callN recs (n + 19)) [.val false s, .val false i, .val false (wayD 0), .val false w, j4, j5, j6, j7, j8, j9, j10, j11, j12, j13, .val false (dW 7 true), j15, j16]) = some ([.val false s, .val false i], 17) := by kernel_rfl
theorem lg_0_8_false (n : Nat) (s i w : D) (j4 j5 j6 j7 j8 j9 j10 j11 j12 j13 j15 j16 : Sl) : seen 2 (S7 (callN recs (n + 19)) [.val false s, .val false i, .val false (wayD 0), .val false w, j4, j5, j6, j7, j8, j9, j10, j11, j12, j13, .val false (dW 8 false), j15, j16]) = some ([.val false s, .val false i], 17) := by kernel_rfl
theorem lg_0_8_true (n : Nat) (s i w : D) (j4 j5 j6 j7 j8 j9 j10 j11 j12 j13 j15 j16 : Sl) : seen 2 (S7 (callN recs (n + 19)) [.val false s, .val false i, .val false (wayD 0), .val false w, j4, j5, j6, j7, j8, j9, j10, j11, j12, j13, .val false (dW 8 true), j15, j16]) = some ([.val false s, .val false i], 17) := by kernel_rfl
theorem lg_0_9_false (n : Nat) (s i w : D) (j4 j5 j6 j7 j8 j9 j10 j11 j12 j13 j15 j16 : Sl) : seen 2 (S7 (callN recs (n + 19)) [.val false s, .val false i, .val false (wayD 0), .val false w, j4, j5, j6, j7, j8, j9, j10, j11, j12, j13, .val false (dW 9 false), j15, j16]) = some ([.val false s, .val false i], 17) := by kernel_rfl
theorem lg_0_9_true (n : Nat) (s i w : D) (j4 j5 j6 j7 j8 j9 j10 j11 j12 j13 j15 j16 : Sl) : seen 2 (S7 (callN recs (n + 19)) [.val false s, .val false i, .val false (wayD 0), .val false w, j4, j5, j6, j7, j8, j9, j10, j11, j12, j13, .val false (dW 9 true), j15, j16]) = some ([.val false s, .val false i], 17) := by kernel_rfl
theorem lg_0_10_false (n : Nat) (s i w : D) (j4 j5 j6 j7 j8 j9 j10 j11 j12 j13 j15 j16 : Sl) : seen 2 (S7 (callN recs (n + 19)) [.val false s, .val false i, .val false (wayD 0), .val false w, j4, j5, j6, j7, j8, j9, j10, j11, j12, j13, .val false (dW 10 false), j15, j16]) = some ([.val false s, .val false i], 17) := by kernel_rfl
theorem lg_0_10_true (n : Nat) (s i w : D) (j4 j5 j6 j7 j8 j9 j10 j11 j12 j13 j15 j16 : Sl) : seen 2 (S7 (callN recs (n + 19)) [.val false s, .val false i, .val false (wayD 0), .val false w, j4, j5, j6, j7, j8, j9, j10, j11, j12, j13, .val false (dW 10 true), j15, j16]) = some ([.val false s, .val false i], 17) := by kernel_rfl
theorem lg_0_11_false (n : Nat) (s i w : D) (j4 j5 j6 j7 j8 j9 j10 j11 j12 j13 j15 j16 : Sl) : seen 2 (S7 (callN recs (n + 19)) [.val false s, .val false i, .val false (wayD 0), .val false w, j4, j5, j6, j7, j8, j9, j10, j11, j12, j13, .val false (dW 11 false), j15, j16]) = some ([.val false s, .val false i], 17) := by kernel_rfl
theorem lg_0_11_true (n : Nat) (s i w : D) (j4 j5 j6 j7 j8 j9 j10 j11 j12 j13 j15 j16 : Sl) : seen 2 (S7 (callN recs (n + 19)) [.val false s, .val false i, .val false (wayD 0), .val false w, j4, j5, j6, j7, j8, j9, j10, j11, j12, j13, .val false (dW 11 true), j15, j16]) = some ([.val false s, .val false i], 17) := by kernel_rfl
theorem lg_0_12_false (n : Nat) (s i w : D) (j4 j5 j6 j7 j8 j9 j10 j11 j12 j13 j15 j16 : Sl) : seen 2 (S7 (callN recs (n + 19)) [.val false s, .val false i, .val false (wayD 0), .val false w, j4, j5, j6, j7, j8, j9, j10, j11, j12, j13, .val false (dW 12 false), j15, j16]) = some ([.val false s, .val false i], 17) := by kernel_rfl
theorem lg_0_12_true (n : Nat) (s i w : D) (j4 j5 j6 j7 j8 j9 j10 j11 j12 j13 j15 j16 : Sl) : seen 2 (S7 (callN recs (n + 19)) [.val false s, .val false i, .val false (wayD 0), .val false w, j4, j5, j6, j7, j8, j9, j10, j11, j12, j13, .val false (dW 12 true), j15, j16]) = some ([.val false s, .val false i], 17) := by kernel_rfl
theorem lg_0_13_false (n : Nat) (s i w : D) (j4 j5 j6 j7 j8 j9 j10 j11 j12 j13 j15 j16 : Sl) : seen 2 (S7 (callN recs (n + 19)) [.val false s, .val false i, .val false (wayD 0), .val false w, j4, j5, j6, j7, j8, j9, j10, j11, j12, j13, .val false (dW 13 false), j15, j16]) = some ([.val false s, .val false i], 17) := by kernel_rfl
theorem lg_0_13_true (n : Nat) (s i w : D) (j4 j5 j6 j7 j8 j9 j10 j11 j12 j13 j15 j16 : Sl) : seen 2 (S7 (callN recs (n + 19)) [.val false s, .val false i, .val false (wayD 0), .val false w, j4, j5, j6, j7, j8, j9, j10, j11, j12, j13, .val false (dW 13 true), j15, j16]) = some ([.val false s, .val false i], 17) := by kernel_rfl
theorem lg_0_14_false (n : Nat) (s i w : D) (j4 j5 j6 j7 j8 j9 j10 j11 j12 j13 j15 j16 : Sl) : seen 2 (S7 (callN recs (n + 19)) [.val false s, .val false i, .val false (wayD 0), .val false w, j4, j5, j6, j7, j8, j9, j10, j11, j12, j13, .val false (dW 14 false), j15, j16]) = some ([.val false s, .val false i], 17) := by kernel_rfl
theorem lg_0_14_true (n : Nat) (s i w : D) (j4 j5 j6 j7 j8 j9 j10 j11 j12 j13 j15 j16 : Sl) : seen 2 (S7 (callN recs (n + 19)) [.val false s, .val false i, .val false (wayD 0), .val false w, j4, j5, j6, j7, j8, j9, j10, j11, j12, j13, .val false (dW 14 true), j15, j16]) = some ([.val false s, .val false i], 17) := by kernel_rfl
theorem lg_0_15_false (n : Nat) (s i w : D) (j4 j5 j6 j7 j8 j9 j10 j11 j12 j13 j15 j16 : Sl) : seen 2 (S7 (callN recs (n + 19)) [.val false s, .val false i, .val false (wayD 0), .val false w, j4, j5, j6, j7, j8, j9, j10, j11, j12, j13, .val false (dW 15 false), j15, j16]) = some ([.val false s, .val false i], 17) := by kernel_rfl
theorem lg_0_15_true (n : Nat) (s i w : D) (j4 j5 j6 j7 j8 j9 j10 j11 j12 j13 j15 j16 : Sl) : seen 2 (S7 (callN recs (n + 19)) [.val false s, .val false i, .val false (wayD 0), .val false w, j4, j5, j6, j7, j8, j9, j10, j11, j12, j13, .val false (dW 15 true), j15, j16]) = some ([.val false s, .val false i], 17) := by kernel_rfl
theorem lg_0_16_false (n : Nat) (s i w : D) (j4 j5 j6 j7 j8 j9 j10 j11 j12 j13 j15 j16 : Sl) : seen 2 (S7 (callN recs (n + 19)) [.val false s, .val false i, .val false (wayD 0), .val false w, j4, j5, j6, j7, j8, j9, j10, j11, j12, j13, .val false (dW 16 false), j15, j16]) = some ([.val false s, .val false i], 17) := by kernel_rfl
theorem lg_0_16_true (n : Nat) (s i w : D) (j4 j5 j6 j7 j8 j9 j10 j11 j12 j13 j15 j16 : Sl) : seen 2 (S7 (callN recs (n + 19)) [.val false s, .val false i, .val false (wayD 0), .val false w, j4, j5, j6, j7, j8, j9, j10, j11, j12, j13, .val false (dW 16 true), j15, j16]) = some ([.val false s, .val false i], 17) := by kernel_rfl
theorem lg_0_17_false (n : Nat) (s i w : D) (j4 j5 j6 j7 j8 j9 j10 j11 j12 j13 j15 j16 : Sl) : seen 2 (S7 (callN recs (n + 19)) [.val false s, .val false i, .val false (wayD 0), .val false w, j4, j5, j6, j7, j8, j9, j10, j11, j12, j13, .val false (dW 17 false), j15, j16]) = some ([.val false s, .val false i], 17) := by kernel_rfl
theorem lg_0_17_true (n : Nat) (s i w : D) (j4 j5 j6 j7 j8 j9 j10 j11 j12 j13 j15 j16 : Sl) : seen 2 (S7 (callN recs (n + 19)) [.val false s, .val false i, .val false (wayD 0), .val false w, j4, j5, j6, j7, j8, j9, j10, j11, j12, j13, .val false (dW 17 true), j15, j16]) = some ([.val false s, .val false i], 17) := by kernel_rfl
theorem lg_0_18_false (n : Nat) (s i w : D) (j4 j5 j6 j7 j8 j9 j10 j11 j12 j13 j15 j16 : Sl) : seen 2 (S7 (callN recs (n + 19)) [.val false s, .val false i, .val false (wayD 0), .val false w, j4, j5, j6, j7, j8, j9, j10, j11, j12, j13, .val false (dW 18 false), j15, j16]) = some ([.val false s, .val false i], 17) := by kernel_rfl
theorem lg_0_18_true (n : Nat) (s i w : D) (j4 j5 j6 j7 j8 j9 j10 j11 j12 j13 j15 j16 : Sl) : seen 2 (S7 (callN recs (n + 19)) [.val false s, .val false i, .val false (wayD 0), .val false w, j4, j5, j6, j7, j8, j9, j10, j11, j12, j13, .val false (dW 18 true), j15, j16]) = some ([.val false s, .val false i], 17) := by kernel_rfl
theorem lg_0_19_false (n : Nat) (s i w : D) (j4 j5 j6 j7 j8 j9 j10 j11 j12 j13 j15 j16 : Sl) : seen 2 (S7 (callN recs (n + 19)) [.val false s, .val false i, .val false (wayD 0), .val false w, j4, j5, j6, j7, j8, j9, j10, j11, j12, j13, .val false (dW 19 false), j15, j16]) = some ([.val false s, .val false i], 17) := by kernel_rfl
theorem lg_0_19_true (n : Nat) (s i w : D) (j4 j5 j6 j7 j8 j9 j10 j11 j12 j13 j15 j16 : Sl) : seen 2 (S7 (callN recs (n + 19)) [.val false s, .val false i, .val false (wayD 0), .val false w, j4, j5, j6, j7, j8, j9, j10, j11, j12, j13, .val false (dW 19 true), j15, j16]) = some ([.val false s, .val false i], 17) := by kernel_rfl
theorem lg_0_20_false (n : Nat) (s i w : D) (j4 j5 j6 j7 j8 j9 j10 j11 j12 j13 j15 j16 : Sl) : seen 2 (S7 (callN recs (n + 19)) [.val false s, .val false i, .val false (wayD 0), .val false w, j4, j5, j6, j7, j8, j9, j10, j11, j12, j13, .val false (dW 20 false), j15, j16]) = some ([.val false s, .val false i], 17) := by kernel_rfl
theorem lg_0_20_true (n : Nat) (s i w : D) (j4 j5 j6 j7 j8 j9 j10 j11 j12 j13 j15 j16 : Sl) : seen 2 (S7 (callN recs (n + 19)) [.val false s, .val false i, .val false (wayD 0), .val false w, j4, j5, j6, j7, j8, j9, j10, j11, j12, j13, .val false (dW 20 true), j15, j16]) = some ([.val false s, .val false i], 17) := by kernel_rfl
theorem lg_0_21_false (n : Nat) (s i w : D) (j4 j5 j6 j7 j8 j9 j10 j11 j12 j13 j15 j16 : Sl) : seen 2 (S7 (callN recs (n + 19)) [.val false s, .val false i, .val false (wayD 0), .val false w, j4, j5, j6, j7, j8, j9, j10, j11, j12, j13, .val false (dW 21 false), j15, j16]) = some ([.val false s, .val false i], 17) := by kernel_rfl
theorem lg_0_21_true (n : Nat) (s i w : D) (j4 j5 j6 j7 j8 j9 j10 j11 j12 j13 j15 j16 : Sl) : seen 2 (S7 (callN recs (n + 19)) [.val false s, .val false i, .val false (wayD 0), .val false w, j4, j5, j6, j7, j8, j9, j10, j11, j12, j13, .val false (dW 21 true), j15, j16]) = some ([.val false s, .val false i], 17) := by kernel_rfl
theorem lg_0_22_false (n : Nat) (s i w : D) (j4 j5 j6 j7 j8 j9 j10 j11 j12 j13 j15 j16 : Sl) : seen 2 (S7 (callN recs (n + 19)) [.val false s, .val false i, .val false (wayD 0), .val false w, j4, j5, j6, j7, j8, j9, j10, j11, j12, j13, .val false (dW 22 false), j15, j16]) = some ([.val false s, .val false i], 17) := by kernel_rfl
theorem lg_0_22_true (n : Nat) (s i w : D) (j4 j5 j6 j7 j8 j9 j10 j11 j12 j13 j15 j16 : Sl) : seen 2 (S7 (callN recs (n + 19)) [.val false s, .val false i, .val false (wayD 0), .val false w, j4, j5, j6, j7, j8, j9, j10, j11, j12, j13, .val false (dW 22 true), j15, j16]) = some ([.val false s, .val false i], 17) := by kernel_rfl
theorem lg_0_23_false (n : Nat) (s i w : D) (j4 j5 j6 j7 j8 j9 j10 j11 j12 j13 j15 j16 : Sl) : seen 2 (S7 (callN recs (n + 19)) [.val false s, .val false i, .val false (wayD 0), .val false w, j4, j5, j6, j7, j8, j9, j10, j11, j12, j13, .val false (dW 23 false), j15, j16]) = some ([.val false s, .val false i], 17) := by kernel_rfl
theorem lg_0_23_true (n : Nat) (s i w : D) (j4 j5 j6 j7 j8 j9 j10 j11 j12 j13 j15 j16 : Sl) : seen 2 (S7 (callN recs (n + 19)) [.val false s, .val false i, .val false (wayD 0), .val false w, j4, j5, j6, j7, j8, j9, j10, j11, j12, j13, .val false (dW 23 true), j15, j16]) = some ([.val false s, .val false i], 17) := by kernel_rfl
theorem lg_0_24_false (n : Nat) (s i w : D) (j4 j5 j6 j7 j8 j9 j10 j11 j12 j13 j15 j16 : Sl) : seen 2 (S7 (callN recs (n + 19)) [.val false s, .val false i, .val false (wayD 0), .val false w, j4, j5, j6, j7, j8, j9, j10, j11, j12, j13, .val false (dW 24 false), j15, j16]) = some ([.val false s, .val false i], 17) := by kernel_rfl
theorem lg_0_24_true (n : Nat) (s i w : D) (j4 j5 j6 j7 j8 j9 j10 j11 j12 j13 j15 j16 : Sl) : seen 2 (S7 (callN recs (n + 19)) [.val false s, .val false i, .val false (wayD 0), .val false w, j4, j5, j6, j7, j8, j9, j10, j11, j12, j13, .val false (dW 24 true), j15, j16]) = some ([.val false s, .val false i], 17) := by kernel_rfl

end K64

set_option Elab.async false
set_option linter.all false
set_option maxRecDepth 100000
set_option maxHeartbeats 0
namespace K64
open PySem PySem.Spec L2 Py
theorem lg_1_5_false (n : Nat) (s i w : D) (j4 j5 j6 j7 j8 j9 j10 j11 j12 j13 j15 j16 : Sl) : seen 2 (S7 (callN recs (n + 19)) [.val false s, .val false i, .val false (wayD 1), .val false w, j4, j5, j6, j7, j8, j9, j10, j11, j12, j13, .val false (dW 5 false), j15, j16]) = some ([.val false s, .val false i], 17) := by kernel_rfl
theorem lg_1_5_true (n : Nat) (s i w : D) (j4 j5 j6 j7 j8 j9 j10 j11 j12 j13 j15 j16 : Sl) : seen 2 (S7 (callN recs (n + 19)) [.val false s, .val false i, .val false (wayD 1), .val false w, j4, j5, j6, j7, j8, j9, j10, j11, j12, j13, .val false (dW 5 true), j15, j16]) = some ([.val false s, .val false i], 17) := by kernel_rfl
theorem lg_1_6_false (n : Nat) (s i w : D) (j4 j5 j6 j7 j8 j9 j10 j11 j12 j13 j15 j16 : Sl) : seen 2 (S7 (callN recs (n + 19)) [.val false s, .val false i, .val false (wayD 1), .val false w, j4, j5, j6, j7, j8, j9, j10, j11, j12, j13, .val false (dW 6 false), j15, j16]) = some ([.val false s, .val false i], 17) := by kernel_rfl
theorem lg_1_6_true (n : Nat) (s i w : D) (j4 j5 j6 j7 j8 j9 j10 j11 j12 j13 j15 j16 : Sl) : seen 2 (S7 (callN recs (n + 19)) [.val false s, .val false i, .val false (wayD 1), .val false w, j4, j5, j6, j7, j8, j9, j10, j11, j12, j13, .val false (dW 6 true), j15, j16]) = some ([.val false s, .val false i], 17) := by kernel_rfl
theorem lg_1_7_false (n : Nat) (s i w : D) (j4 j5 j6 j7 j8 j9 j10 j11 j12 j13 j15 j16 : Sl) : seen 2 (S7 (callN recs (n + 19)) [.val false s, .val false i, .val false (wayD 1), .val false w, j4, j5, j6, j7, j8, j9, j10, j11, j12, j13, .val false (dW 7 false), j15, j16]) = some ([.val false s, .val false i], 17) := by kernel_rfl
theorem lg_1_7_true (n : Nat) (s i w : D) (j4 j5 j6 j7 j8 j9 j10 j11 j12 j13 j15 j16 : Sl) : seen 2 (S7 (callN recs (n + 19)) [.val false s, .val false i, .val false (wayD 1), .val false w, j4, j5, j6, j7, j8, j9, j10, j11, j12, j13, .val false (dW 7 true), j15, j16]) = some ([.val false s, .val false i], 17) := by kernel_rfl
theorem lg_1_8_false (n : Nat) (s i w : D) (j4 j5 j6 j7 j8 j9 j10 j11 j12 j13 j15 j16 : Sl) : seen 2 (S7 (callN recs (n + 19)) [.val false s, .val false i, .val false (wayD 1), .val false w, j4, j5, j6, j7, j8, j9, j10, j11, j12, j13, .val false (dW 8 false), j15, j16]) = some ([.val false s, .val false i], 17) := by kernel_rfl
theorem lg_1_8_true (n : Nat) (s i w : D) (j4 j5 j6 j7 j8 j9 j10 j11 j12 j13 j15 j16 : Sl) : seen 2 (S7 (callN recs (n + 19)) [.val false s, .val false i, .val false (wayD 1), .val false w, j4, j5, j6, j7, j8, j9, j10, j11, j12, j13, .val false (dW 8 true), j15, j16]) = some ([.val false s, .val false i], 17) := by kernel_rfl
theorem lg_1_9_false (n : Nat) (s i w : D) (j4 j5 j6 j7 j8 j9 j10 j11 j12 j13 j15 j16 : Sl) : seen 2 (S7 (callN recs (n + 19)) [.val false s, .val false i, .val false (wayD 1), .val false w, j4, j5, j6, j7, j8, j9, j10, j11, j12, j13, .val false (dW 9 false), j15, j16]) = some ([.val false s, .val false i], 17) := by kernel_rfl
theorem lg_1_9_true (n : Nat) (s i w : D) (j4 j5 j6 j7 j8 j9 j10 j11 j12 j13 j15 j16 : Sl) : seen 2 (S7 (callN recs (n + 19)) [.val false s, .val false i, .val false (wayD 1), .val false w, j4, j5, j6, j7, j8, j9, j10, j11, j12, j13, .val false (dW 9 true), j15, j16]) = some ([.val false s, .val false i], 17) := by kernel_rfl
theorem lg_1_10_false (n : Nat) (s i w : D) (j4 j5 j6 j7 j8 j9 j10 j11 j12 j13 j15 j16 : Sl) : seen 2 (S7 (callN recs (n + 19)) [.val false s, .val false i, .val false (wayD 1), .val false w, j4, j5, j6, j7, j8, j9, j10, j11, j12, j13, .val false (dW 10 false), j15, j16]) = some ([.val false s, .val false i], 17) := by kernel_rfl
theorem lg_1_10_true (n : Nat) (s i w : D) (j4 j5 j6 j7 j8 j9 j10 j11 j12 j13 j15 j16 : Sl) : seen 2 (S7 (callN recs (n + 19)) [.val false s, .val false i, .val false (wayD 1), .val false w, j4, j5, j6, j7, j8, j9, j10, j11, j12, j13, .val false (dW 10 true), j15, j16]) = some ([.val false s, .val false i], 17) := by kernel_rfl
theorem lg_1_11_false (n : Nat) (s i w : D) (j4 j5 j6 j7 j8 j9 j10 j11 j12 j13 j15 j16 : Sl) : seen 2 (S7 (callN recs (n + 19)) [.val false s, .val false i, .val false (wayD 1), .val false w, j4, j5, j6, j7, j8, j9, j10, j11, j12, j13, .val false (dW 11 false), j15, j16]) = some ([.val false s, .val false i], 17) := by kernel_rfl
theorem lg_1_11_true (n : Nat) (s i w : D) (j4 j5 j6 j7 j8 j9 j10 j11 j12 j13 j15 j16 : Sl) : seen 2 (S7 (callN recs (n + 19)) [.val false s, .val false i, .val false (wayD 1), .val false w, j4, j5, j6, j7, j8, j9, j10, j11, j12, j13, .val false (dW 11 true), j15, j16]) = some ([.val false s, .val false i], 17) := by kernel_rfl
theorem lg_1_12_false (n : Nat) (s i w : D) (j4 j5 j6 j7 j8 j9 j10 j11 j12 j13 j15 j16 : Sl) : seen 2 (S7 (callN recs (n + 19)) [.val false s, .val false i, .val false (wayD 1), .val false w, j4, j5, j6, j7, j8, j9, j10, j11, j12, j13, .val false (dW 12 false), j15, j16]) = some ([.val false s, .val false i], 17) := by kernel_rfl
theorem lg_1_12_true (n : Nat) (s i w : D) (j4 j5 j6 j7 j8 j9 j10 j11 j12 j13 j15 j16 : Sl) : seen 2 (S7 (callN recs (n + 19)) [.val false s, .val false i, .val false (wayD 1), .val false w, j4, j5, j6, j7, j8, j9, j10, j11, j12, j13, .val false (dW 12 true), j15, j16]) = some ([.val false s, .val false i], 17) := by kernel_rfl
theorem lg_1_13_false (n : Nat) (s i w : D) (j4 j5 j6 j7 j8 j9 j10 j11 j12 j13 j15 j16 : Sl) : seen 2 (S7 (callN recs (n + 19)) [.val false s, .val false i, .val false (wayD 1), .val false w, j4, j5, j6, j7, j8, j9, j10, j11, j12, j13, .val false (dW 13 false), j15, j16]) = some ([.val false s, .val false i], 17) := by kernel_rfl
theorem lg_1_13_true (n : Nat) (s i w : D) (j4 j5 j6 j7 j8 j9 j10 j11 j12 j13 j15 j16 : Sl) : seen 2 (S7 (callN recs (n + 19)) [.val false s, .val false i, .val false (wayD 1), .val false w, j4, j5, j6, j7, j8, j9, j10, j11, j12, j13, .val false (dW 13 true), j15, j16]) = some ([.val false s, .val false i], 17) := by kernel_rfl
theorem lg_1_14_false (n : Nat) (s i w : D) (j4 j5 j6 j7 j8 j9 j10 j11 j12 j13 j15 j16 : Sl) : seen 2 (S7 (callN recs (n + 19)) [.val false s, .val false i, .val false (wayD 1), .val false w, j4, j5, j6, j7, j8, j9, j10, j11, j12, j13, .val false (dW 14 false), j15, j16]) = some ([.val false s, .val false i], 17) := by kernel_rfl
theorem lg_1_14_true (n : Nat) (s i w : D) (j4 j5 j6 j7 j8 j9 j10 j11 j12 j13 j15 j16 : Sl) : seen 2 (S7 (callN recs (n + 19)) [.val false s, .val false i, .val false (wayD 1), .val false w, j4, j5, j6, j7, j8, j9, j10, j11, j12, j13, .val false (dW 14 true), j15, j16]) = some ([.val false s, .val false i], 17) := by kernel_rfl
theorem lg_1_15_false (n : Nat) (s i w : D) (j4 j5 j6 j7 j8 j9 j10 j11 j12 j13 j15 j16 : Sl) : seen 2 (S7 (callN recs (n + 19)) [.val false s, .val false i, .val false (wayD 1), .val false w, j4, j5, j6, j7, j8, j9, j10, j11, j12, j13, .val false (dW 15 false), j15, j16]) = some ([.val false s, .val false i], 17) := by kernel_rfl
theorem lg_1_15_true (n : Nat) (s i w : D) (j4 j5 j6 j7 j8 j9 j10 j11 j12 j13 j15 j16 : Sl) : seen 2 (S7 (callN recs (n + 19)) [.val false s, .val false i, .val false (wayD 1), .val false w, j4, j5, j6, j7, j8, j9, j10, j11, j12, j13, .val false (dW 15 true), j15, j16]) = some ([.val false s, .val false i], 17) := by kernel_rfl
theorem lg_1_16_false (n : Nat) (s i w : D) (j4 j5 j6 j7 j8 j9 j10 j11 j12 j13 j15 j16 : Sl) : seen 2 (S7 (callN recs (n + 19)) [.val false s, .val false i, .val false (wayD 1), .val false w, j4, j5, j6, j7, j8, j9, j10, j11, j12, j13, .val false (dW 16 false), j15, j16]) = some ([.val false s, .val false i], 17) := by kernel_rfl
theorem lg_1_16_true (n : Nat) (s i w : D) (j4 j5 j6 j7 j8 j9 j10 j11 j12 j13 j15 j16 : Sl) : seen 2 (S7 (callN recs (n + 19)) [.val false s, .val false i, .val false (wayD 1), .val false w, j4, j5, j6, j7, j8, j9, j10, j11, j12, j13, .val false (dW 16 true), j15, j16]) = some ([.val false s, .val false i], 17) := by kernel_rfl
theorem lg_1_17_false (n : Nat) (s i w : D) (j4 j5 j6 j7 j8 j9 j10 j11 j12 j13 j15 j16 : Sl) : seen 2 (S7 (callN recs (n + 19)) [.val false s, .val false i, .val false (wayD 1), .val false w, j4, j5, j6, j7, j8, j9, j10, j11, j12, j13, .val false (dW 17 false), j15, j16]) = some ([.val false s, .val false i], 17) := by kernel_rfl
theorem lg_1_17_true (n : Nat) (s i w : D) (j4 j5 j6 j7 j8 j9 j10 j11 j12 j13 j15 j16 : Sl) : seen 2 (S7 (callN recs (n + 19)) [.val false s, .val false i, .val false (wayD 1), .val false w, j4, j5, j6, j7, j8, j9, j10, j11, j12, j13, .val false (dW 17 true), j15, j16]) = some ([.val false s, .val false i], 17) := by kernel_rfl
theorem lg_1_18_false (n : Nat) (s i w : D) (j4 j5 j6 j7 j8 j9 j10 j11 j12 j13 j15 j16 : Sl) : seen 2 (S7 (callN recs (n + 19)) [.val false s, .val false i, .val false (wayD 1), .val false w, j4, j5, j6, j7, j8, j9, j10, j11, j12, j13, .val false (dW 18 false), j15, j16]) = some ([.val false s, .val false i], 17) := by kernel_rfl
theorem lg_1_18_true (n : Nat) (s i w : D) (j4 j5 j6 j7 j8 j9 j10 j11 j12 j13 j15 j16 : Sl) : seen 2 (S7 (callN recs (n + 19)) [.val false s, .val false i, .val false (wayD 1), .val false w, j4, j5, j6, j7, j8, j9, j10, j11, j12, j13, .val false (dW 18 true), j15, j16]) = some ([.val false s, .val false i], 17) := by kernel_rfl
theorem lg_1_19_false (n : Nat) (s i w : D) (j4 j5 j6 j7 j8 j9 j10 j11 j12 j13 j15 j16 : Sl) : seen 2 (S7 (callN recs (n + 19)) [.val false s, .val false i, .val false (wayD 1), .val false w, j4, j5, j6, j7, j8, j9, j10, j11, j12, j13, .val false (dW 19 false), j15, j16]) = some ([.val false s, .val false i], 17) := by kernel_rfl
theorem lg_1_19_true (n : Nat) (s i w : D) (j4 j5 j6 j7 j8 j9 j10 j11 j12 j13 j15 j16 : Sl) : seen 2 (S7 (callN recs (n + 19)) [.val false s, .val false i, .val false (wayD 1), .val false w, j4, j5, j6, j7, j8, j9, j10, j11, j12, j13, .val false (dW 19 true), j15, j16]) = some ([.val false s, .val false i], 17) := by kernel_rfl
theorem lg_1_20_false (n : Nat) (s i w : D) (j4 j5 j6 j7 j8 j9 j10 j11 j12 j13 j15 j16 : Sl) : seen 2 (S7 (callN recs (n + 19)) [.val false s, .val false i, .val false (wayD 1), .val false w, j4, j5, j6, j7, j8, j9, j10, j11, j12, j13, .val false (dW 20 false), j15, j16]) = some ([.val false s, .val false i], 17) := by kernel_rfl
theorem lg_1_20_true (n : Nat) (s i w : D) (j4 j5 j6 j7 j8 j9 j10 j11 j12 j13 j15 j16 : Sl) : seen 2 (S7 (callN recs (n + 19)) [.val false s, .val false i, .val false (wayD 1), .val false w, j4, j5, j6, j7, j8, j9, j10, j11, j12, j13, .val false (dW 20 true), j15, j16]) = some ([.val false s, .val false i], 17) := by kernel_rfl
theorem lg_1_21_false (n : Nat) (s i w : D) (j4 j5 j6 j7 j8 j9 j10 j11 j12 j13 j15 j16 : Sl) : seen 2 (S7 (callN recs (n + 19)) [.val false s, .val false i, .val false (wayD 1), .val false w, j4, j5, j6, j7, j8, j9, j10, j11, j12, j13, .val false (dW 21 false), j15, j16]) = some ([.val false s, .val false i], 17) := by kernel_rfl
theorem lg_1_21_true (n : Nat) (s i w : D) (j4 j5 j6 j7 j8 j9 j10 j11 j12 j13 j15 j16 : Sl) : seen 2 (S7 (callN recs (n + 19)) [.val false s, .val false i, .val false (wayD 1), .val false w, j4, j5, j6, j7, j8, j9, j10, j11, j12, j13, .val false (dW 21 true), j15, j16]) = some ([.val false s, .val false i], 17) := by kernel_rfl
theorem lg_1_22_false (n : Nat) (s i w : D) (j4 j5 j6 j7 j8 j9 j10 j11 j12 j13 j15 j16 : Sl) : seen 2 (S7 (callN recs (n + 19)) [.val false s, .val false i, .val false (wayD 1), .val false w, j4, j5, j6, j7, j8, j9, j10, j11, j12, j13, .val false (dW 22 false), j15, j16]) = some ([.val false s, .val false i], 17) := by kernel_rfl
theorem lg_1_22_true (n : Nat) (s i w : D) (j4 j5 j6 j7 j8 j9 j10 j11 j12 j13 j15 j16 : Sl) : seen 2 (S7 (callN recs (n + 19)) [.val false s, .val false i, .val false (wayD 1), .val false w, j4, j5, j6, j7, j8, j9, j10, j11, j12, j13, .val false (dW 22 true), j15, j16]) = some ([.val false s, .val false i], 17) := by kernel_rfl
theorem lg_1_23_false (n : Nat) (s i w : D) (j4 j5 j6 j7 j8 j9 j10 j11 j12 j13 j15 j16 : Sl) : seen 2 (S7 (callN recs (n + 19)) [.val false s, .val false i, .val false (wayD 1), .val false w, j4, j5, j6, j7, j8, j9, j10, j11, j12, j13, .val false (dW 23 false), j15, j16]) = some ([.val false s, .val false i], 17) := by kernel_rfl
theorem lg_1_23_true (n : Nat) (s i w : D) (j4 j5 j6 j7 j8 j9 j10 j11 j12 j13 j15 j16 : Sl) : seen 2 (S7 (callN recs (n + 19)) [.val false s, .val false i, .val false (wayD 1), .val false w, j4, j5, j6, j7, j8, j9, j10, j11, j12, j13, .val false (dW 23 true), j15, j16]) = some ([.val false s, .val false i], 17) := by kernel_rfl
theorem lg_1_24_false (n : Nat) (s i w : D) (j4 j5 j6 j7 j8 j9 j10 j11 j12 j13 j15 j16 : Sl) : seen 2 (S7 (callN recs (n + 19)) [.val false s, .val false i, .val false (wayD 1), .val false w, j4, j5, j6, j7, j8, j9, j10, j11, j12, j13, .val false (dW 24 false), j15, j16]) = some ([.val false s, .val false i], 17) := by kernel_rfl
theorem lg_1_24_true (n : Nat) (s i w : D) (j4 j5 j6 j7 j8 j9 j10 j11 j12 j13 j15 j16 : Sl) : seen 2 (S7 (callN recs (n + 19)) [.val false s, .val false i, .val false (wayD 1), .val false w, j4, j5, j6, j7, j8, j9, j10, j11, j12, j13, .val false (dW 24 true), j15, j16]) = some ([.val false s, .val false i], 17) := by kernel_rfl

end K64

set_option Elab.async false
set_option linter.all false
set_option maxRecDepth 100000
set_option maxHeartbeats 0
namespace K64
open PySem PySem.Spec L2 Py
theorem lg_2_5_false (n : Nat) (s i w : D) (j4 j5 j6 j7 j8 j9 j10 j11 j12 j13 j15 j16 : Sl) : seen 2 (S7 (callN recs (n + 19)) [.val false s, .val false i, .val false (wayD 2), .val false w, j4, j5, j6, j7, j8, j9, j10, j11, j12, j13, .val false (dW 5 false), j15, j16]) = some ([.val false s, .val false i], 17) := by kernel_rfl
theorem lg_2_5_true (n : Nat) (s i w : D) (j4 j5 j6 j7 j8 j9 j10 j11 j12 j13 j15 j16 : Sl) : seen 2 (S7 (callN recs (n + 19)) [.val false s, .val false i, .val false (wayD 2), .val false w, j4, j5, j6, j7, j8, j9, j10, j11, j12, j13, .val false (dW 5 true), j15, j16]) = some ([.val false s, .val false i], 17) := by kernel_rfl
theorem lg_2_6_false (n : Nat) (s i w : D) (j4 j5 j6 j7 j8 j9 j10 j11 j12 j13 j15 j16 : Sl) : seen 2 (S7 (callN recs (n + 19)) [.val false s, .val false i, .val false (wayD 2), .val false w, j4, j5, j6, j7, j8, j9, j10, j11, j12, j13, .val false (dW 6 false), j15, j16]) = some ([.val false s, .val false i], 17) := by kernel_rfl
theorem lg_2_6_true (n : Nat) (s i w : D) (j4 j5 j6 j7 j8 j9 j10 j11 j12 j13 j15 j16 : Sl) : seen 2 (S7 (callN recs (n + 19)) [.val false s, .val false i, .val false (wayD 2), .val false w, j4, j5, j6, j7, j8, j9, j10, j11, j12, j13, .val false (dW 6 true), j15, j16]) = some ([.val false s, .val false i], 17) := by kernel_rfl
theorem lg_2_7_false (n : Nat) (s i w : D) (j4 j5 j6 j7 j8 j9 j10 j11 j12 j13 j15 j16 : Sl) : seen 2 (S7 (callN recs (n + 19)) [.val false s, .val false i, .val false (wayD 2), .val false w, j4, j5, j6, j7, j8, j9, j10, j11, j12, j13, .val false (dW 7 false), j15, j16]) = some ([.val false s, .val false i], 17) := by kernel_rfl
theorem lg_2_7_true (n : Nat) (s i w : D) (j4 j5 j6 j7 j8 j9 j10 j11 j12 j13 j15 j16 : Sl) : seen 2 (S7 (callN recs (n + 19)) [.val false s, .val false i, .val false (wayD 2), .val false w, j4, j5, j6, j7, j8, j9, j10, j11, j12, j13, .val false (dW 7 true), j15, j16]) = some ([.val false s, .val false i], 17) := by kernel_rfl
theorem lg_2_8_false (n : Nat) (s i w : D) (j4 j5 j6 j7 j8 j9 j10 j11 j12 j13 j15 j16 : Sl) : seen 2 (S7 (callN recs (n + 19)) [.val false s, .val false i, .val false (wayD 2), .val false w, j4, j5, j6, j7, j8, j9, j10, j11, j12, j13, .val false (dW 8 false), j15, j16]) = some ([.val false s, .val false i], 17) := by kernel_rfl
theorem lg_2_8_true (n : Nat) (s i w : D) (j4 j5 j6 j7 j8 j9 j10 j11 j12 j13 j15 j16 : Sl) : seen 2 (S7 (callN recs (n + 19)) [.val false s, .val false i, .val false (wayD 2), .val false w, j4, j5, j6, j7, j8, j9, j10, j11, j12, j13, .val false (dW 8 true), j15, j16]) = some ([.val false s, .val false i], 17) := by kernel_rfl
theorem lg_2_9_false (n : Nat) (s i w : D) (j4 j5 j6 j7 j8 j9 j10 j11 j12 j13 j15 j16 : Sl) : seen 2 (S7 (callN recs (n + 19)) [.val false s, .val false i, .val false (wayD 2), .val false w, j4, j5, j6, j7, j8, j9, j10, j11, j12, j13, .val false (dW 9 false), j15, j16]) = some ([.val false s, .val false i], 17) := by kernel_rfl
theorem lg_2_9_true (n : Nat) (s i w : D) (j4 j5 j6 j7 j8 j9 j10 j11 j12 j13 j15 j16 : Sl) : seen 2 (S7 (callN recs (n + 19)) [.val false s, .val false i, .val false (wayD 2), .val false w, j4, j5, j6, j7, j8, j9, j10, j11, j12, j13, .val false (dW 9 true), j15, j16]) = some ([.val false s, .val false i], 17) := by kernel_rfl
theorem lg_2_10_false (n : Nat) (s i w : D) (j4 j5 j6 j7 j8 j9 j10 j11 j12 j13 j15 j16 : Sl) : seen 2 (S7 (callN recs (n + 19)) [.val false s, .val false i, .val false (wayD 2), .val false w, j4, j5, j6, j7, j8, j9, j10, j11, j12, j13, .val false (dW 10 false), j15, j16]) = some ([.val false s, .val false i], 17) := by kernel_rfl
theorem lg_2_10_true (n : Nat) (s i w : D) (j4 j5 j6 j7 j8 j9 j10 j11 j12 j13 j15 j16 : Sl) : seen 2 (S7 (callN recs (n + 19)) [.val false s, .val false i, .val false (wayD 2), .val false w, j4, j5, j6, j7, j8, j9, j10, j11, j12, j13, .val false (dW 10 true), j15, j16]) = some ([.val false s, .val false i], 17) := by kernel_rfl
theorem lg_2_11_false (n : Nat) (s i w : D) (j4 j5 j6 j7 j8 j9 j10 j11 j12 j13 j15 j16 : Sl) : seen 2 (S7 (callN recs (n + 19)) [.val false s, .val false i, .val false (wayD 2), .val false w, j4, j5, j6, j7, j8, j9, j10, j11, j12, j13, .val false (dW 11 false), j15, j16]) = some ([.val false s, .val false i], 17) := by kernel_rfl
theorem lg_2_11_true (n : Nat) (s i w : D) (j4 j5 j6 j7 j8 j9 j10 j11 j12 j13 j15 j16 : Sl) : seen 2 (S7 (callN recs (n + 19)) [.val false s, .val false i, .val false (wayD 2), .val false w, j4, j5, j6, j7, j8, j9, j10, j11, j12, j13, .val false (dW 11 true), j15, j16]) = some ([.val false s, .val false i], 17) := by kernel_rfl
theorem lg_2_12_false (n : Nat) (s i w : D) (j4 j5 j6 j7 j8 j9 j10 j11 j12 j13 j15 j16 : Sl) : seen 2 (S7 (callN recs (n + 19)) [.val false s, .val false i, .val false (wayD 2), .val false w, j4, j5, j6, j7, j8, j9, j10, j11, j12, j13, .val false (dW 12 false), j15, j16]) = some ([.val false s, .val false i], 17) := by kernel_rfl
theorem lg_2_12_true (n : Nat) (s i w : D) (j4 j5 j6 j7 j8 j9 j10 j11 j12 j13 j15 j16 : Sl) : seen 2 (S7 (callN recs (n + 19)) [.val false s, .val false i, .val false (wayD 2), .val false w, j4, j5, j6, j7, j8, j9, j10, j11, j12, j13, .val false (dW 12 true), j15, j16]) = some ([.val false s, .val false i], 17) := by kernel_rfl
theorem lg_2_13_false (n : Nat) (s i w : D) (j4 j5 j6 j7 j8 j9 j10 j11 j12 j13 j15 j16 : Sl) : seen 2 (S7 (callN recs (n + 19)) [.val false s, .val false i, .val false (wayD 2), .val false w, j4, j5, j6, j7, j8, j9, j10, j11, j12, j13, .val false (dW 13 false), j15, j16]) = some ([.val false s, .val false i], 17) := by kernel_rfl
theorem lg_2_13_true (n : Nat) (s i w : D) (j4 j5 j6 j7 j8 j9 j10 j11 j12 j13 j15 j16 : Sl) : seen 2 (S7 (callN recs (n + 19)) [.val false s, .val false i, .val false (wayD 2), .val false w, j4, j5, j6, j7, j8, j9, j10, j11, j12, j13, .val false (dW 13 true), j15, j16]) = some ([.val false s, .val false i], 17) := by kernel_rfl
theorem lg_2_14_false (n : Nat) (s i w : D) (j4 j5 j6 j7 j8 j9 j10 j11 j12 j13 j15 j16 : Sl) : seen 2 (S7 (callN recs (n + 19)) [.val false s, .val false i, .val false (wayD 2), .val false w, j4, j5, j6, j7, j8, j9, j10, j11, j12, j13, .val false (dW 14 false), j15, j16]) = some ([.val false s, .val false i], 17) := by kernel_rfl
theorem lg_2_14_true (n : Nat) (s i w : D) (j4 j5 j6 j7 j8 j9 j10 j11 j12 j13 j15 j16 : Sl) : seen 2 (S7 (callN recs (n + 19)) [.val false s, .val false i, .val false (wayD 2), .val false w, j4, j5, j6, j7, j8, j9, j10, j11, j12, j13, .val false (dW 14 true), j15, j16]) = some ([.val false s, .val false i], 17) := by kernel_rfl
theorem lg_2_15_false (n : Nat) (s i w : D) (j4 j5 j6 j7 j8 j9 j10 j11 j12 j13 j15 j16 : Sl) : seen 2 (S7 (callN recs (n + 19)) [.val false s, .val false i, .val false (wayD 2), .val false w, j4, j5, j6, j7, j8, j9, j10, j11, j12, j13, .val false (dW 15 false), j15, j16]) = some ([.val false s, .val false i], 17) := by kernel_rfl
theorem lg_2_15_true (n : Nat) (s i w : D) (j4 j5 j6 j7 j8 j9 j10 j11 j12 j13 j15 j16 : Sl) : seen 2 (S7 (callN recs (n + 19)) [.val false s, .val false i, .val false (wayD 2), .val false w, j4, j5, j6, j7, j8, j9, j10, j11, j12, j13, .val false (dW 15 true), j15, j16]) = some ([.val false s, .val false i], 17) := by kernel_rfl
theorem lg_2_16_false (n : Nat) (s i w : D) (j4 j5 j6 j7 j8 j9 j10 j11 j12 j13 j15 j16 : Sl) : seen 2 (S7 (callN recs (n + 19)) [.val false s, .val false i, .val false (wayD 2), .val false w, j4, j5, j6, j7, j8, j9, j10, j11, j12, j13, .val false (dW 16 false), j15, j16]) = some ([.val false s, .val false i], 17) := by kernel_rfl
theorem lg_2_16_true (n : Nat) (s i w : D) (j4 j5 j6 j7 j8 j9 j10 j11 j12 j13 j15 j16 : Sl) : seen 2 (S7 (callN recs (n + 19)) [.val false s, .val false i, .val false (wayD 2), .val false w, j4, j5, j6, j7, j8, j9, j10, j11, j12, j13, .val false (dW 16 true), j15, j16]) = some ([.val false s, .val false i], 17) := by kernel_rfl
theorem lg_2_17_false (n : Nat) (s i w : D) (j4 j5 j6 j7 j8 j9 j10 j11 j12 j13 j15 j16 : Sl) : seen 2 (S7 (callN recs (n + 19)) [.val false s, .val false i, .val false (wayD 2), .val false w, j4, j5, j6, j7, j8, j9, j10, j11, j12, j13, .val false (dW 17 false), j15, j16]) = some ([.val false s, .val false i], 17) := by kernel_rfl
theorem lg_2_17_true (n : Nat) (s i w : D) (j4 j5 j6 j7 j8 j9 j10 j11 j12 j13 j15 j16 : Sl) : seen 2 (S7 (callN recs (n + 19)) [.val false s, .val false i, .val false (wayD 2), .val false w, j4, j5, j6, j7, j8, j9, j10, j11, j12, j13, .val false (dW 17 true), j15, j16]) = some ([.val false s, .val false i], 17) := by kernel_rfl
theorem lg_2_18_false (n : Nat) (s i w : D) (j4 j5 j6 j7 j8 j9 j10 j11 j12 j13 j15 j16 : Sl) : seen 2 (S7 (callN recs (n + 19)) [.val false s, .val false i, .val false (wayD 2), .val false w, j4, j5, j6, j7, j8, j9, j10, j11, j12, j13, .val false (dW 18 false), j15, j16]) = some ([.val false s, .val false i], 17) := by kernel_rfl
theorem lg_2_18_true (n : Nat) (s i w : D) (j4 j5 j6 j7 j8 j9 j10 j11 j12 j13 j15 j16 : Sl) : seen 2 (S7 (callN recs (n + 19)) [.val false s, .val false i, .val false (wayD 2), .val false w, j4, j5, j6, j7, j8, j9, j10, j11, j12, j13, .val false (dW 18 true), j15, j16]) = some ([.val false s, .val false i], 17) := by kernel_rfl
theorem lg_2_19_false (n : Nat) (s i w : D) (j4 j5 j6 j7 j8 j9 j10 j11 j12 j13 j15 j16 : Sl) : seen 2 (S7 (callN recs (n + 19)) [.val false s, .val false i, .val false (wayD 2), .val false w, j4, j5, j6, j7, j8, j9, j10, j11, j12, j13, .val false (dW 19 false), j15, j16]) = some ([.val false s, .val false i], 17) := by kernel_rfl
theorem lg_2_19_true (n : Nat) (s i w : D) (j4 j5 j6 j7 j8 j9 j10 j11 j12 j13 j15 j16 : Sl) : seen 2 (S7 (callN recs (n + 19)) [.val false s, .val false i, .val false (wayD 2), .val false w, j4, j5, j6, j7, j8, j9, j10, j11, j12, j13, .val false (dW 19 true), j15, j16]) = some ([.val false s, .val false i], 17) := by kernel_rfl
theorem lg_2_20_false (n : Nat) (s i w : D) (j4 j5 j6 j7 j8 j9 j10 j11 j12 j13 j15 j16 : Sl) : seen 2 (S7 (callN recs (n + 19)) [.val false s, .val false i, .val false (wayD 2), .val false w, j4, j5, j6, j7, j8, j9, j10, j11, j12, j13, .val false (dW 20 false), j15, j16]) = some ([.val false s, .val false i], 17) := by kernel_rfl
theorem lg_2_20_true (n : Nat) (s i w : D) (j4 j5 j6 j7 j8 j9 j10 j11 j12 j13 j15 j16 : Sl) : seen 2 (S7 (callN recs (n + 19)) [.val false s, .val false i, .val false (wayD 2), .val false w, j4, j5, j6, j7, j8, j9, j10, j11, j12, j13, .val false (dW 20 true), j15, j16]) = some ([.val false s, .val false i], 17) := by kernel_rfl
theorem lg_2_21_false (n : Nat) (s i w : D) (j4 j5 j6 j7 j8 j9 j10 j11 j12 j13 j15 j16 : Sl) : seen 2 (S7 (callN recs (n + 19)) [.val false s, .val false i, .val false (wayD 2), .val false w, j4, j5, j6, j7, j8, j9, j10, j11, j12, j13, .val false (dW 21 false), j15, j16]) = some ([.val false s, .val false i], 17) := by kernel_rfl
theorem lg_2_21_true (n : Nat) (s i w : D) (j4 j5 j6 j7 j8 j9 j10 j11 j12 j13 j15 j16 : Sl) : seen 2 (S7 (callN recs (n + 19)) [.val false s, .val false i, .val false (wayD 2), .val false w, j4, j5, j6, j7, j8, j9, j10, j11, j12, j13, .val false (dW 21 true), j15, j16]) = some ([.val false s, .val false i], 17) := by kernel_rfl
theorem lg_2_22_false (n : Nat) (s i w : D) (j4 j5 j6 j7 j8 j9 j10 j11 j12 j13 j15 j16 : Sl) : seen 2 (S7 (callN recs (n + 19)) [.val false s, .val false i, .val false (wayD 2), .val false w, j4, j5, j6, j7, j8, j9, j10, j11, j12, j13, .val false (dW 22 false), j15, j16]) = some ([.val false s, .val false i], 17) := by kernel_rfl
theorem lg_2_22_true (n : Nat) (s i w : D) (j4 j5 j6 j7 j8 j9 j10 j11 j12 j13 j15 j16 : Sl) : seen 2 (S7 (callN recs (n + 19)) [.val false s, .val false i, .val false (wayD 2), .val false w, j4, j5, j6, j7, j8, j9, j10, j11, j12, j13, .val false (dW 22 true), j15, j16]) = some ([.val false s, .val false i], 17) := by kernel_rfl
theorem lg_2_23_false (n : Nat) (s i w : D) (j4 j5 j6 j7 j8 j9 j10 j11 j12 j13 j15 j16 : Sl) : seen 2 (S7 (callN recs (n + 19)) [.val false s, .val false i, .val false (wayD 2), .val false w, j4, j5, j6, j7, j8, j9, j10, j11, j12, j13, .val false (dW 23 false), j15, j16]) = some ([.val false s, .val false i], 17) := by kernel_rfl
theorem lg_2_23_true (n : Nat) (s i w : D) (j4 j5 j6 j7 j8 j9 j10 j11 j12 j13 j15 j16 : Sl) : seen 2 (S7 (callN recs (n + 19)) [.val false s, .val false i, .val false (wayD 2), .val false w, j4, j5, j6, j7, j8, j9, j10, j11, j12, j13, .val false (dW 23 true), j15, j16]) = some ([.val false s, .val false i], 17) := by kernel_rfl
theorem lg_2_24_false (n : Nat) (s i w : D) (j4 j5 j6 j7 j8 j9 j10 j11 j12 j13 j15 j16 : Sl) : seen 2 (S7 (callN recs (n + 19)) [.val false s, .val false i, .val false (wayD 2), .val false w, j4, j5, j6, j7, j8, j9, j10, j11, j12, j13, .val false (dW 24 false), j15, j16]) = some ([.val false s, .val false i], 17) := by kernel_rfl
theorem lg_2_24_true (n : Nat) (s i w : D) (j4 j5 j6 j7 j8 j9 j10 j11 j12 j13 j15 j16 : Sl) : seen 2 (S7 (callN recs (n + 19)) [.val false s, .val false i, .val false (wayD 2), .val false w, j4, j5, j6, j7, j8, j9, j10, j11, j12, j13, .val false (dW 24 true), j15, j16]) = some ([.val false s, .val false i], 17) := by kernel_rfl

end K64

set_option Elab.async false
set_option linter.all false
set_option maxRecDepth 100000
set_option maxHeartbeats 0
namespace K64
open PySem PySem.Spec L2 Py
theorem lg_3_5_false (n : Nat) (s i w : D) (j4 j5 j6 j7 j8 j9 j10 j11 j12 j13 j15 j16 : Sl) : seen 2 (S7 (callN recs (n + 19)) [.val false s, .val false i, .val false (wayD 3), .val false w, j4, j5, j6, j7, j8, j9, j10, j11, j12, j13, .val false (dW 5 false), j15, j16]) = some ([.val false s, .val false i], 17) := by kernel_rfl
theorem lg_3_5_true (n : Nat) (s i w : D) (j4 j5 j6 j7 j8 j9 j10 j11 j12 j13 j15 j16 : Sl) : seen 2 (S7 (callN recs (n + 19)) [.val false s, .val false i, .val false (wayD 3), .val false w, j4, j5, j6, j7, j8, j9, j10, j11, j12, j13, .val false (dW 5 true), j15, j16]) = some ([.val false s, .val false i], 17) := by kernel_rfl
theorem lg_3_6_false (n : Nat) (s i w : D) (j4 j5 j6 j7 j8 j9 j10 j11 j12 j13 j15 j16 : Sl) : seen 2 (S7 (callN recs (n + 19)) [.val false s, .val false i, .val false (wayD 3), .val false w, j4, j5, j6, j7, j8, j9, j10, j11, j12, j13, .val false (dW 6 false), j15, j16]) = some ([.val false s, .val false i], 17) := by kernel_rfl
theorem lg_3_6_true (n : Nat) (s i w : D) (j4 j5 j6 j7 j8 j9 j10 j11 j12 j13 j15 j16 : Sl) : seen 2 (S7 (callN recs (n + 19)) [.val false s, .val false i, .val false (wayD 3), .val false w, j4, j5, j6, j7, j8, j9, j10, j11, j12, j13, .val false (dW 6 true), j15, j16]) = some ([.val false s, .val false i], 17) := by kernel_rfl
theorem lg_3_7_false (n : Nat) (s i w : D) (j4 j5 j6 j7 j8 j9 j10 j11 j12 j13 j15 j16 : Sl) : seen 2 (S7 (callN recs (n + 19)) [.val false s, .val false i, .val false (wayD 3), .val false w, j4, j5, j6, j7, j8, j9, j10, j11, j12, j13, .val false (dW 7 false), j15, j16]) = some ([.val false s, .val false i], 17) := by kernel_rfl
theorem lg_3_7_true (n : Nat) (s i w : D) (j4 j5 j6 j7 j8 j9 j10 j11 j12 j13 j15 j16 : Sl) : seen 2 (S7 (callN recs (n + 19)) [.val false s, .val false i, .val false (wayD 3), .val false w, j4, j5, j6, j7, j8, j9, j10, j11, j12, j13, .val false (dW 7 true), j15, j16]) = some ([.val false s, .val false i], 17) := by kernel_rfl
theorem lg_3_8_false (n : Nat) (s i w : D) (j4 j5 j6 j7 j8 j9 j10 j11 j12 j13 j15 j16 : Sl) : seen 2 (S7 (callN recs (n + 19)) [.val false s, .val false i, .val false (wayD 3), .val false w, j4, j5, j6, j7, j8, j9, j10, j11, j12, j13, .val false (dW 8 false), j15, j16]) = some ([.val false s, .val false i], 17) := by kernel_rfl
theorem lg_3_8_true (n : Nat) (s i w : D) (j4 j5 j6 j7 j8 j9 j10 j11 j12 j13 j15 j16 : Sl) : seen 2 (S7 (callN recs (n + 19)) [.val false s, .val false i, .val false (wayD 3), .val false w, j4, j5, j6, j7, j8, j9, j10, j11, j12, j13, .val false (dW 8 true), j15, j16]) = some ([.val false s, .val false i], 17) := by kernel_rfl
theorem lg_3_9_false (n : Nat) (s i w : D) (j4 j5 j6 j7 j8 j9 j10 j11 j12 j13 j15 j16 : Sl) : seen 2 (S7 (callN recs (n + 19)) [.val false s, .val false i, .val false (wayD 3), .val false w, j4, j5, j6, j7, j8, j9, j10, j11, j12, j13, .val false (dW 9 false), j15, j16]) = some ([.val false s, .val false i], 17) := by kernel_rfl
theorem lg_3_9_true (n : Nat) (s i w : D) (j4 j5 j6 j7 j8 j9 j10 j11 j12 j13 j15 j16 : Sl) : seen 2 (S7 (callN recs (n + 19)) [.val false s, .val false i, .val false (wayD 3), .val false w, j4, j5, j6, j7, j8, j9, j10, j11, j12, j13, .val false (dW 9 true), j15, j16]) = some ([.val false s, .val false i], 17) := by kernel_rfl
theorem lg_3_10_false (n : Nat) (s i w : D) (j4 j5 j6 j7 j8 j9 j10 j11 j12 j13 j15 j16 : Sl) : seen 2 (S7 (callN recs (n + 19)) [.val false s, .val false i, .val false (wayD 3), .val false w, j4, j5, j6, j7, j8, j9, j10, j11, j12, j13, .val false (dW 10 false), j15, j16]) = some ([.val false s, .val false i], 17) := by kernel_rfl
theorem lg_3_10_true (n : Nat) (s i w : D) (j4 j5 j6 j7 j8 j9 j10 j11 j12 j13 j15 j16 : Sl) : seen 2 (S7 (callN recs (n + 19)) [.val false s, .val false i, .val false (wayD 3), .val false w, j4, j5, j6, j7, j8, j9, j10, j11, j12, j13, .val false (dW 10 true), j15, j16]) = some ([.val false s, .val false i], 17) := by kernel_rfl
theorem lg_3_11_false (n : Nat) (s i w : D) (j4 j5 j6 j7 j8 j9 j10 j11 j12 j13 j15 j16 : Sl) : seen 2 (S7 (callN recs (n + 19)) [.val false s, .val false i, .val false (wayD 3), .val false w, j4, j5, j6, j7, j8, j9, j10, j11, j12, j13, .val false (dW 11 false), j15, j16]) = some ([.val false s, .val false i], 17) := by kernel_rfl
theorem lg_3_11_true (n : Nat) (s i w : D) (j4 j5 j6 j7 j8 j9 j10 j11 j12 j13 j15 j16 : Sl) : seen 2 (S7 (callN recs (n + 19)) [.val false s, .val false i, .val false (wayD 3), .val false w, j4, j5, j6, j7, j8, j9, j10, j11, j12, j13, .val false (dW 11 true), j15, j16]) = some ([.val false s, .val false i], 17) := by kernel_rfl
theorem lg_3_12_false (n : Nat) (s i w : D) (j4 j5 j6 j7 j8 j9 j10 j11 j12 j13 j15 j16 : Sl) : seen 2 (S7 (callN recs (n + 19)) [.val false s, .val false i, .val false (wayD 3), .val false w, j4, j5, j6, j7, j8, j9, j10, j11, j12, j13, .val false (dW 12 false), j15, j16]) = some ([.val false s, .val false i], 17) := by kernel_rfl
theorem lg_3_12_true (n : Nat) (s i w : D) (j4 j5 j6 j7 j8 j9 j10 j11 j12 j13 j15 j16 : Sl) : seen 2 (S7 (callN recs (n + 19)) [.val false s, .val false i, .val false (wayD 3), .val false w, j4, j5, j6, j7, j8, j9, j10, j11, j12, j13, .val false (dW 12 true), j15, j16]) = some ([.val false s, .val false i], 17) := by kernel_rfl
theorem lg_3_13_false (n : Nat) (s i w : D) (j4 j5 j6 j7 j8 j9 j10 j11 j12 j13 j15 j16 : Sl) : seen 2 (S7 (callN recs (n + 19)) [.val false s, .val false i, .val false (wayD 3), .val false w, j4, j5, j6, j7, j8, j9, j10, j11, j12, j13, .val false (dW 13 false), j15, j16]) = some ([.val false s, .val false i], 17) := by kernel_rfl
theorem lg_3_13_true (n : Nat) (s i w : D) (j4 j5 j6 j7 j8 j9 j10 j11 j12 j13 j15 j16 : Sl) : seen 2 (S7 (callN recs (n + 19)) [.val false s, .val false i, .val false (wayD 3), .val false w, j4, j5, j6, j7, j8, j9, j10, j11, j12, j13, .val false (dW 13 true), j15, j16]) = some ([.val false s, .val false i], 17) := by kernel_rfl
theorem lg_3_14_false (n : Nat) (s i w : D) (j4 j5 j6 j7 j8 j9 j10 j11 j12 j13 j15 j16 : Sl) : seen 2 (S7 (callN recs (n + 19)) [.val false s, .val false i, .val false (wayD 3), .val false w, j4, j5, j6, j7, j8, j9, j10, j11, j12, j13, .val false (dW 14 false), j15, j16]) = some ([.val false s, .val false i], 17) := by kernel_rfl
theorem lg_3_14_true (n : Nat) (s i w : D) (j4 j5 j6 j7 j8 j9 j10 j11 j12 j13 j15 j16 : Sl) : seen 2 (S7 (callN recs (n + 19)) [.val false s, .val false i, .val false (wayD 3), .val false w, j4, j5, j6, j7, j8, j9, j10, j11, j12, j13, .val false (dW 14 true), j15, j16]) = some ([.val false s, .val false i], 17) := by kernel_rfl
theorem lg_3_15_false (n : Nat) (s i w : D) (j4 j5 j6 j7 j8 j9 j10 j11 j12 j13 j15 j16 : Sl) : seen 2 (S7 (callN recs (n + 19)) [.val false s, .val false i, .val false (wayD 3), .val false w, j4, j5, j6, j7, j8, j9, j10, j11, j12, j13, .val false (dW 15 false), j15, j16]) = some ([.val false s, .val false i], 17) := by kernel_rfl
theorem lg_3_15_true (n : Nat) (s i w : D) (j4 j5 j6 j7 j8 j9 j10 j11 j12 j13 j15 j16 : Sl) : seen 2 (S7 (callN recs (n + 19)) [.val false s, .val false i, .val false (wayD 3), .val false w, j4, j5, j6, j7, j8, j9, j10, j11, j12, j13, .val false (dW 15 true), j15, j16]) = some ([.val false s, .val false i], 17) := by kernel_rfl
theorem lg_3_16_false (n : Nat) (s i w : D) (j4 j5 j6 j7 j8 j9 j10 j11 j12 j13 j15 j16 : Sl) : seen 2 (S7 (callN recs (n + 19)) [.val false s, .val false i, .val false (wayD 3), .val false w, j4, j5, j6, j7, j8, j9, j10, j11, j12, j13, .val false (dW 16 false), j15, j16]) = some ([.val false s, .val false i], 17) := by kernel_rfl
theorem lg_3_16_true (n : Nat) (s i w : D) (j4 j5 j6 j7 j8 j9 j10 j11 j12 j13 j15 j16 : Sl) : seen 2 (S7 (callN recs (n + 19)) [.val false s, .val false i, .val false (wayD 3), .val false w, j4, j5, j6, j7, j8, j9, j10, j11, j12, j13, .val false (dW 16 true), j15, j16]) = some ([.val false s, .val false i], 17) := by kernel_rfl
theorem lg_3_17_false (n : Nat) (s i w : D) (j4 j5 j6 j7 j8 j9 j10 j11 j12 j13 j15 j16 : Sl) : seen 2 (S7 (callN recs (n + 19)) [.val false s, .val false i, .val false (wayD 3), .val false w, j4, j5, j6, j7, j8, j9, j10, j11, j12, j13, .val false (dW 17 false), j15, j16]) = some ([.val false s, .val false i], 17) := by kernel_rfl
theorem lg_3_17_true (n : Nat) (s i w : D) (j4 j5 j6 j7 j8 j9 j10 j11 j12 j13 j15 j16 : Sl) : seen 2 (S7 (callN recs (n + 19)) [.val false s, .val false i, .val false (wayD 3), .val false w, j4, j5, j6, j7, j8, j9, j10, j11, j12, j13, .val false (dW 17 true), j15, j16]) = some ([.val false s, .val false i], 17) := by kernel_rfl
theorem lg_3_18_false (n : Nat) (s i w : D) (j4 j5 j6 j7 j8 j9 j10 j11 j12 j13 j15 j16 : Sl) : seen 2 (S7 (callN recs (n + 19)) [.val false s, .val false i, .val false (wayD 3), .val false w, j4, j5, j6, j7, j8, j9, j10, j11, j12, j13, .val false (dW 18 false), j15, j16]) = some ([.val false s, .val false i], 17) := by kernel_rfl
theorem lg_3_18_true (n : Nat) (s i w : D) (j4 j5 j6 j7 j8 j9 j10 j11 j12 j13 j15 j16 : Sl) : seen 2 (S7 (callN recs (n + 19)) [.val false s, .val false i, .val false (wayD 3), .val false w, j4, j5, j6, j7, j8, j9, j10, j11, j12, j13, .val false (dW 18 true), j15, j16]) = some ([.val false s, .val false i], 17) := by kernel_rfl
theorem lg_3_19_false (n : Nat) (s i w : D) (j4 j5 j6 j7 j8 j9 j10 j11 j12 j13 j15 j16 : Sl) : seen 2 (S7 (callN recs (n + 19)) [.val false s, .val false i, .val false (wayD 3), .val false w, j4, j5, j6, j7, j8, j9, j10, j11, j12, j13, .val false (dW 19 false), j15, j16]) = some ([.val false s, .val false i], 17) := by kernel_rfl
theorem lg_3_19_true (n : Nat) (s i w : D) (j4 j5 j6 j7 j8 j9 j10 j11 j12 j13 j15 j16 : Sl) : seen 2 (S7 (callN recs (n + 19)) [.val false s, .val false i, .val false (wayD 3), .val false w, j4, j5, j6, j7, j8, j9, j10, j11, j12, j13, .val false (dW 19 true), j15, j16]) = some ([.val false s, .val false i], 17) := by kernel_rfl
theorem lg_3_20_false (n : Nat) (s i w : D) (j4 j5 j6 j7 j8 j9 j10 j11 j12 j13 j15 j16 : Sl) : seen 2 (S7 (callN recs (n + 19)) [.val false s, .val false i, .val false (wayD 3), .val false w, j4, j5, j6, j7, j8, j9, j10, j11, j12, j13, .val false (dW 20 false), j15, j16]) = some ([.val false s, .val false i], 17) := by kernel_rfl
theorem lg_3_20_true (n : Nat) (s i w : D) (j4 j5 j6 j7 j8 j9 j10 j11 j12 j13 j15 j16 : Sl) : seen 2 (S7 (callN recs (n + 19)) [.val false s, .val false i, .val false (wayD 3), .val false w, j4, j5, j6, j7, j8, j9, j10, j11, j12, j13, .val false (dW 20 true), j15, j16]) = some ([.val false s, .val false i], 17) := by kernel_rfl
theorem lg_3_21_false (n : Nat) (s i w : D) (j4 j5 j6 j7 j8 j9 j10 j11 j12 j13 j15 j16 : Sl) : seen 2 (S7 (callN recs (n + 19)) [.val false s, .val false i, .val false (wayD 3), .val false w, j4, j5, j6, j7, j8, j9, j10, j11, j12, j13, .val false (dW 21 false), j15, j16]) = some ([.val false s, .val false i], 17) := by kernel_rfl
theorem lg_3_21_true (n : Nat) (s i w : D) (j4 j5 j6 j7 j8 j9 j10 j11 j12 j13 j15 j16 : Sl) : seen 2 (S7 (callN recs (n + 19)) [.val false s, .val false i, .val false (wayD 3), .val false w, j4, j5, j6, j7, j8, j9, j10, j11, j12, j13, .val false (dW 21 true), j15, j16]) = some ([.val false s, .val false i], 17) := by kernel_rfl
theorem lg_3_22_false (n : Nat) (s i w : D) (j4 j5 j6 j7 j8 j9 j10 j11 j12 j13 j15 j16 : Sl) : seen 2 (S7 (callN recs (n + 19)) [.val false s, .val false i, .val false (wayD 3), .val false w, j4, j5, j6, j7, j8, j9, j10, j11, j12, j13, .val false (dW 22 false), j15, j16]) = some ([.val false s, .val false i], 17) := by kernel_rfl
theorem lg_3_22_true (n : Nat) (s i w : D) (j4 j5 j6 j7 j8 j9 j10 j11 j12 j13 j15 j16 : Sl) : seen 2 (S7 (callN recs (n + 19)) [.val false s, .val false i, .val false (wayD 3), .val false w, j4, j5, j6, j7, j8, j9, j10, j11, j12, j13, .val false (dW 22 true), j15, j16]) = some ([.val false s, .val false i], 17) := by kernel_rfl
theorem lg_3_23_false (n : Nat) (s i w : D) (j4 j5 j6 j7 j8 j9 j10 j11 j12 j13 j15 j16 : Sl) : seen 2 (S7 (callN recs (n + 19)) [.val false s, .val false i, .val false (wayD 3), .val false w, j4, j5, j6, j7, j8, j9, j10, j11, j12, j13, .val false (dW 23 false), j15, j16]) = some ([.val false s, .val false i], 17) := by kernel_rfl
theorem lg_3_23_true (n : Nat) (s i w : D) (j4 j5 j6 j7 j8 j9 j10 j11 j12 j13 j15 j16 : Sl) : seen 2 (S7 (callN recs (n + 19)) [.val false s, .val false i, .val false (wayD 3), .val false w, j4, j5, j6, j7, j8, j9, j10, j11, j12, j13, .val false (dW 23 true), j15, j16]) = some ([.val false s, .val false i], 17) := by kernel_rfl
theorem lg_3_24_false (n : Nat) (s i w : D) (j4 j5 j6 j7 j8 j9 j10 j11 j12 j13 j15 j16 : Sl) : seen 2 (S7 (callN recs (n + 19)) [.val false s, .val false i, .val false (wayD 3), .val false w, j4, j5, j6, j7, j8, j9, j10, j11, j12, j13, .val false (dW 24 false), j15, j16]) = some ([.val false s, .val false i], 17) := by kernel_rfl
theorem lg_3_24_true (n : Nat) (s i w : D) (j4 j5 j6 j7 j8 j9 j10 j11 j12 j13 j15 j16 : Sl) : seen 2 (S7 (callN recs (n + 19)) [.val false s, .val false i, .val false (wayD 3), .val false w, j4, j5, j6, j7, j8, j9, j10, j11, j12, j13, .val false (dW 24 true), j15, j16]) = some ([.val false s, .val false i], 17) := by kernel_rfl

end K64

set_option Elab.async false
set_option linter.all false
set_option maxRecDepth 100000
set_option maxHeartbeats 0
namespace K64
open PySem PySem.Spec L2 Py
theorem small (n : Nat) (s i : D) (j4 j5 j6 j7 j8 j9 j10 j11 j12 j13 j14 j15 j16 : Sl) : ∀ (a b : Nat) (g : Bool), a < 4 → 1 ≤ b → b ≤ 4 → seen 4 (pre (callN recs (n + 19)) [.val false s, .val false i, .val false (wayD a), .val false (dW b g), j4, j5, j6, j7, j8, j9, j10, j11, j12, j13, j14, j15, j16]) = some ([.val false s, .val false i, .val false (wayD a), .val false (dW b g)], 17)
  | 0, 1, false, _, _, _ => sm_0_1_false n s i j4 j5 j6 j7 j8 j9 j10 j11 j12 j13 j14 j15 j16
  | 0, 1, true, _, _, _ => sm_0_1_true n s i j4 j5 j6 j7 j8 j9 j10 j11 j12 j13 j14 j15 j16
  | 0, 2, false, _, _, _ => sm_0_2_false n s i j4 j5 j6 j7 j8 j9 j10 j11 j12 j13 j14 j15 j16
  | 0, 2, true, _, _, _ => sm_0_2_true n s i j4 j5 j6 j7 j8 j9 j10 j11 j12 j13 j14 j15 j16
  | 0, 3, false, _, _, _ => sm_0_3_false n s i j4 j5 j6 j7 j8 j9 j10 j11 j12 j13 j14 j15 j16
  | 0, 3, true, _, _, _ => sm_0_3_true n s i j4 j5 j6 j7 j8 j9 j10 j11 j12 j13 j14 j15 j16
  | 0, 4, false, _, _, _ => sm_0_4_false n s i j4 j5 j6 j7 j8 j9 j10 j11 j12 j13 j14 j15 j16
  | 0, 4, true, _, _, _ => sm_0_4_true n s i j4 j5 j6 j7 j8 j9 j10 j11 j12 j13 j14 j15 j16
  | 1, 1, false, _, _, _ => sm_1_1_false n s i j4 j5 j6 j7 j8 j9 j10 j11 j12 j13 j14 j15 j16
  | 1, 1, true, _, _, _ => sm_1_1_true n s i j4 j5 j6 j7 j8 j9 j10 j11 j12 j13 j14 j15 j16
  | 1, 2, false, _, _, _ => sm_1_2_false n s i j4 j5 j6 j7 j8 j9 j10 j11 j12 j13 j14 j15 j16
  | 1, 2, true, _, _, _ => sm_1_2_true n s i j4 j5 j6 j7 j8 j9 j10 j11 j12 j13 j14 j15 j16
  | 1, 3, false, _, _, _ => sm_1_3_false n s i j4 j5 j6 j7 j8 j9 j10 j11 j12 j13 j14 j15 j16
  | 1, 3, true, _, _, _ => sm_1_3_true n s i j4 j5 j6 j7 j8 j9 j10 j11 j12 j13 j14 j15 j16
  | 1, 4, false, _, _, _ => sm_1_4_false n s i j4 j5 j6 j7 j8 j9 j10 j11 j12 j13 j14 j15 j16
  | 1, 4, true, _, _, _ => sm_1_4_true n s i j4 j5 j6 j7 j8 j9 j10 j11 j12 j13 j14 j15 j16
  | 2, 1, false, _, _, _ => sm_2_1_false n s i j4 j5 j6 j7 j8 j9 j10 j11 j12 j13 j14 j15 j16
  | 2, 1, true, _, _, _ => sm_2_1_true n s i j4 j5 j6 j7 j8 j9 j10 j11 j12 j13 j14 j15 j16
  | 2, 2, false, _, _, _ => sm_2_2_false n s i j4 j5 j6 j7 j8 j9 j10 j11 j12 j13 j14 j15 j16
  | 2, 2, true, _, _, _ => sm_2_2_true n s i j4 j5 j6 j7 j8 j9 j10 j11 j12 j13 j14 j15 j16
  | 2, 3, false, _, _, _ => sm_2_3_false n s i j4 j5 j6 j7 j8 j9 j10 j11 j12 j13 j14 j15 j16
  | 2, 3, true, _, _, _ => sm_2_3_true n s i j4 j5 j6 j7 j8 j9 j10 j11 j12 j13 j14 j15 j16
  | 2, 4, false, _, _, _ => sm_2_4_false n s i j4 j5 j6 j7 j8 j9 j10 j11 j12 j13 j14 j15 j16
  | 2, 4, true, _, _, _ => sm_2_4_true n s i j4 j5 j6 j7 j8 j9 j10 j11 j12 j13 j14 j15 j16
  | 3, 1, false, _, _, _ => sm_3_1_false n s i j4 j5 j6 j7 j8 j9 j10 j11 j12 j13 j14 j15 j16
  | 3, 1, true, _, _, _ => sm_3_1_true n s i j4 j5 j6 j7 j8 j9 j10 j11 j12 j13 j14 j15 j16
  | 3, 2, false, _, _, _ => sm_3_2_false n s i j4 j5 j6 j7 j8 j9 j10 j11 j12 j13 j14 j15 j16
  | 3, 2, true, _, _, _ => sm_3_2_true n s i j4 j5 j6 j7 j8 j9 j10 j11 j12 j13 j14 j15 j16
  | 3, 3, false, _, _, _ => sm_3_3_false n s i j4 j5 j6 j7 j8 j9 j10 j11 j12 j13 j14 j15 j16
  | 3, 3, true, _, _, _ => sm_3_3_true n s i j4 j5 j6 j7 j8 j9 j10 j11 j12 j13 j14 j15 j16
  | 3, 4, false, _, _, _ => sm_3_4_false n s i j4 j5 j6 j7 j8 j9 j10 j11 j12 j13 j14 j15 j16
  | 3, 4, true, _, _, _ => sm_3_4_true n s i j4 j5 j6 j7 j8 j9 j10 j11 j12 j13 j14 j15 j16
  | a + 4, _, _, h, _, _ => by omega
  | _, 0, _, _, h, _ => by omega
  | _, b + 5, _, _, _, h => by omega
theorem large (n : Nat) (s i w : D) (j4 j5 j6 j7 j8 j9 j10 j11 j12 j13 j15 j16 : Sl) : ∀ (a b : Nat) (g : Bool), a < 4 → 5 ≤ b → b ≤ 24 → seen 2 (S7 (callN recs (n + 19)) [.val false s, .val false i, .val false (wayD a), .val false w, j4, j5, j6, j7, j8, j9, j10, j11, j12, j13, .val false (dW b g), j15, j16]) = some ([.val false s, .val false i], 17)
  | 0, 5, false, _, _, _ => lg_0_5_false n s i w j4 j5 j6 j7 j8 j9 j10 j11 j12 j13 j15 j16
  | 0, 5, true, _, _, _ => lg_0_5_true n s i w j4 j5 j6 j7 j8 j9 j10 j11 j12 j13 j15 j16
  | 0, 6, false, _, _, _ => lg_0_6_false n s i w j4 j5 j6 j7 j8 j9 j10 j11 j12 j13 j15 j16
  | 0, 6, true, _, _, _ => lg_0_6_true n s i w j4 j5 j6 j7 j8 j9 j10 j11 j12 j13 j15 j16
  | 0, 7, false, _, _, _ => lg_0_7_false n s i w j4 j5 j6 j7 j8 j9 j10 j11 j12 j13 j15 j16
  | 0, 7, true, _, _, _ => lg_0_7_true n s i w j4 j5 j6 j7 j8 j9 j10 j11 j12 j13 j15 j16
  | 0, 8, false, _, _, _ => lg_0_8_false n s i w j4 j5 j6 j7 j8 j9 j10 j11 j12 j13 j15 j16
  | 0, 8, true, _, _, _ => lg_0_8_true n s i w j4 j5 j6 j7 j8 j9 j10 j11 j12 j13 j15 j16
  | 0, 9, false, _, _, _ => lg_0_9_false n s i w j4 j5 j6 j7 j8 j9 j10 j11 j12 j13 j15 j16
  | 0, 9, true, _, _, _ => lg_0_9_true n s i w j4 j5 j6 j7 j8 j9 j10 j11 j12 j13 j15 j16
  | 0, 10, false, _, _, _ => lg_0_10_false n s i w j4 j5 j6 j7 j8 j9 j10 j11 j12 j13 j15 j16
  | 0, 10, true, _, _, _ => lg_0_10_true n s i w j4 j5 j6 j7 j8 j9 j10 j11 j12 j13 j15 j16
  | 0, 11, false, _, _, _ => lg_0_11_false n s i w j4 j5 j6 j7 j8 j9 j10 j11 j12 j13 j15 j16
  | 0, 11, true, _, _, _ => lg_0_11_true n s i w j4 j5 j6 j7 j8 j9 j10 j11 j12 j13 j15 j16
  | 0, 12, false, _, _, _ => lg_0_12_false n s i w j4 j5 j6 j7 j8 j9 j10 j11 j12 j13 j15 j16
  | 0, 12, true, _, _, _ => lg_0_12_true n s i w j4 j5 j6 j7 j8 j9 j10 j11 j12 j13 j15 j16
  | 0, 13, false, _, _, _ => lg_0_13_false n s i w j4 j5 j6 j7 j8 j9 j10 j11 j12 j13 j15 j16
  | 0, 13, true, _, _, _ => lg_0_13_true n s i w j4 j5 j6 j7 j8 j9 j10 j11 j12 j13 j15 j16
  | 0, 14, false, _, _, _ => lg_0_14_false n s i w j4 j5 j6 j7 j8 j9 j10 j11 j12 j13 j15 j16
  | 0, 14, true, _, _, _ => lg_0_14_true n s i w j4 j5 j6 j7 j8 j9 j10 j11 j12 j13 j15 j16
  | 0, 15, false, _, _, _ => lg_0_15_false n s i w j4 j5 j6 j7 j8 j9 j10 j11 j12 j13 j15 j16
  | 0, 15, true, _, _, _ => lg_0_15_true n s i w j4 j5 j6 j7 j8 j9 j10 j11 j12 j13 j15 j16
  | 0, 16, false, _, _, _ => lg_0_16_false n s i w j4 j5 j6 j7 j8 j9 j10 j11 j12 j13 j15 j16
  | 0, 16, true, _, _, _ => lg_0_16_true n s i w j4 j5 j6 j7 j8 j9 j10 j11 j12 j13 j15 j16
  | 0, 17, false, _, _, _ => lg_0_17_false n s i w j4 j5 j6 j7 j8 j9 j10 j11 j12 j13 j15 j16
  | 0, 17, true, _, _, _ => lg_0_17_true n s i w j4 j5 j6 j7 j8 j9 j10 j11 j12 j13 j15 j16
  | 0, 18, false, _, _, _ => lg_0_18_false n s i w j4 j5 j6 j7 j8 j9 j10 j11 j12 j13 j15 j16
  | 0, 18, true, _, _, _ => lg_0_18_true n s i w j4 j5 j6 j7 j8 j9 j10 j11 j12 j13 j15 j16
  | 0, 19, false, _, _, _ => lg_0_19_false n s i w j4 j5 j6 j7 j8 j9 j10 j11 j12 j13 j15 j16
  | 0, 19, true, _, _, _ => lg_0_19_true n s i w j4 j5 j6 j7 j8 j9 j10 j11 j12 j13 j15 j16
  | 0, 20, false, _, _, _ => lg_0_20_false n s i w j4 j5 j6 j7 j8 j9 j10 j11 j12 j13 j15 j16
  | 0, 20, true, _, _, _ => lg_0_20_true n s i w j4 j5 j6 j7 j8 j9 j10 j11 j12 j13 j15 j16
  | 0, 21, false, _, _, _ => lg_0_21_false n s i w j4 j5 j6 j7 j8 j9 j10 j11 j12 j13 j15 j16
  | 0, 21, true, _, _, _ => lg_0_21_true n s i w j4 j5 j6 j7 j8 j9 j10 j11 j12 j13 j15 j16
  | 0, 22, false, _, _, _ => lg_0_22_false n s i w j4 j5 j6 j7 j8 j9 j10 j11 j12 j13 j15 j16
  | 0, 22, true, _, _, _ => lg_0_22_true n s i w j4 j5 j6 j7 j8 j9 j10 j11 j12 j13 j15 j16
  | 0, 23, false, _, _, _ => lg_0_23_false n s i w j4 j5 j6 j7 j8 j9 j10 j11 j12 j13 j15 j16
  | 0, 23, true, _, _, _ => lg_0_23_true n s i w j4 j5 j6 j7 j8 j9 j10 j11 j12 j13 j15 j16
  | 0, 24, false, _, _, _ => lg_0_24_false n s i w j4 j5 j6 j7 j8 j9 j10 j11 j12 j13 j15 j16
  | 0, 24, true, _, _, _ => lg_0_24_true n s i w j4 j5 j6 j7 j8 j9 j10 j11 j12 j13 j15 j16
  | 1, 5, false, _, _, _ => lg_1_5_false n s i w j4 j5 j6 j7 j8 j9 j10 j11 j12 j13 j15 j16
  | 1, 5, true, _, _, _ => lg_1_5_true n s i w j4 j5 j6 j7 j8 j9 j10 j11 j12 j13 j15 j16
  | 1, 6, false, _, _, _ => lg_1_6_false n s i w j4 j5 j6 j7 j8 j9 j10 j11 j12 j13 j15 j16
  | 1, 6, true, _, _, _ => lg_1_6_true n s i w j4 j5 j6 j7 j8 j9 j10 j11 j12 j13 j15 j16
  | 1, 7, false, _, _, _ => lg_1_7_false n s i w j4 j5 j6 j7 j8 j9 j10 j11 j12 j13 j15 j16
  | 1, 7, true, _, _, _ => lg_1_7_true n s i w j4 j5 j6 j7 j8 j9 j10 j11 j12 j13 j15 j16
  | 1, 8, false, _, _, _ => lg_1_8_false n s i w j4 j5 j6 j7 j8 j9 j10 j11 j12 j13 j15 j16
  | 1, 8, true, _, _, _ => lg_1_8_true n s i w j4 j5 j6 j7 j8 j9 j10 j11 j12 j13 j15 j16
  | 1, 9, false, _, _, _ => lg_1_9_false n s i w j4 j5 j6 j7 j8 j9 j10 j11 j12 j13 j15 j16
  | 1, 9, true, _, _, _ => lg_1_9_true n s i w j4 j5 j6 j7 j8 j9 j10 j11 j12 j13 j15 j16
  | 1, 10, false, _, _, _ => lg_1_10_false n s i w j4 j5 j6 j7 j8 j9 j10 j11 j12 j13 j15 j16
  | 1, 10, true, _, _, _ => lg_1_10_true n s i w j4 j5 j6 j7 j8 j9 j10 j11 j12 j13 j15 j16
  | 1, 11, false, _, _, _ => lg_1_11_false n s i w j4 j5 j6 j7 j8 j9 j10 j11 j12 j13 j15 j16
  | 1, 11, true, _, _, _ => lg_1_11_true n s i w j4 j5 j6 j7 j8 j9 j10 j11 j12 j13 j15 j16
  | 1, 12, false, _, _, _ => lg_1_12_false n s i w j4 j5 j6 j7 j8 j9 j10 j11 j12 j13 j15 j16
  | 1, 12, true, _, _, _ => lg_1_12_true n s i w j4 j5 j6 j7 j8 j9 j10 j11 j12 j13 j15 j16
  | 1, 13, false, _, _, _ => lg_1_13_false n s i w j4 j5 j6 j7 j8 j9 j10 j11 j12 j13 j15 j16
  | 1, 13, true, _, _, _ => lg_1_13_true n s i w j4 j5 j6 j7 j8 j9 j10 j11 j12 j13 j15 j16
  | 1, 14, false, _, _, _ => lg_1_14_false n s i w j4 j5 j6 j7 j8 j9 j10 j11 j12 j13 j15 j16
  | 1, 14, true, _, _, _ => lg_1_14_true n s i w j4 j5 j6 j7 j8 j9 j10 j11 j12 j13 j15 j16
  | 1, 15, false, _, _, _ => lg_1_15_false n s i w j4 j5 j6 j7 j8 j9 j10 j11 j12 j13 j15 j16
  | 1, 15, true, _, _, _ => lg_1_15_true n s i w j4 j5 j6 j7 j8 j9 j10 j11 j12 j13 j15 j16
  | 1, 16, false, _, _, _ => lg_1_16_false n s i w j4 j5 j6 j7 j8 j9 j10 j11 j12 j13 j15 j16
  | 1, 16, true, _, _, _ => lg_1_16_true n s i w j4 j5 j6 j7 j8 j9 j10 j11 j12 j13 j15 j16
  | 1, 17, false, _, _, _ => lg_1_17_false n s i w j4 j5 j6 j7 j8 j9 j10 j11 j12 j13 j15 j16
  | 1, 17, true, _, _, _ => lg_1_17_true n s i w j4 j5 j6 j7 j8 j9 j10 j11 j12 j13 j15 j16
  | 1, 18, false, _, _, _ => lg_1_18_false n s i w j4 j5 j6 j7 j8 j9 j10 j11 j12 j13 j15 j16
  | 1, 18, true, _, _, _ => lg_1_18_true n s i w j4 j5 j6 j7 j8 j9 j10 j11 j12 j13 j15 j16
  | 1, 19, false, _, _, _ => lg_1_19_false n s i w j4 j5 j6 j7 j8 j9 j10 j11 j12 j13 j15 j16
  | 1, 19, true, _, _, _ => lg_1_19_true n s i w j4 j5 j6 j7 j8 j9 j10 j11 j12 j13 j15 j16
  | 1, 20, false, _, _, _ => lg_1_20_false n s i w j4 j5 j6 j7 j8 j9 j10 j11 j12 j13 j15 j16
  | 1, 20, true, _, _, _ => lg_1_20_true n s i w j4 j5 j6 j7 j8 j9 j10 j11 j12 j13 j15 j16
  | 1, 21, false, _, _, _ => lg_1_21_false n s i w j4 j5 j6 j7 j8 j9 j10 j11 j12 j13 j15 j16
  | 1, 21, true, _, _, _ => lg_1_21_true n s i w j4 j5 j6 j7 j8 j9 j10 j11 j12 j13 j15 j16
  | 1, 22, false, _, _, _ => lg_1_22_false n s i w j4 j5 j6 j7 j8 j9 j10 j11 j12 j13 j15 j16
  | 1, 22, true, _, _, _ => lg_1_22_true n s i w j4 j5 j6 j7 j8 j9 j10 j11 j12 j13 j15 j16
  | 1, 23, false, _, _, _ => lg_1_23_false n s i w j4 j5 j6 j7 j8 j9 j10 j11 j12 j13 j15 j16
  | 1, 23, true, _, _, _ => lg_1_23_true n s i w j4 j5 j6 j7 j8 j9 j10 j11 j12 j13 j15 j16
  | 1, 24, false, _, _, _ => lg_1_24_false n s i w j4 j5 j6 j7 j8 j9 j10 j11 j12 j13 j15 j16
  | 1, 24, true, _, _, _ => lg_1_24_true n s i w j4 j5 j6 j7 j8 j9 j10 j11 j12 j13 j15 j16
  | 2, 5, false, _, _, _ => lg_2_5_false n s i w j4 j5 j6 j7 j8 j9 j10 j11 j12 j13 j15 j16
  | 2, 5, true, _, _, _ => lg_2_5_true n s i w j4 j5 j6 j7 j8 j9 j10 j11 j12 j13 j15 j16
  | 2, 6, false, _, _, _ => lg_2_6_false n s i w j4 j5 j6 j7 j8 j9 j10 j11 j12 j13 j15 j16
  | 2, 6, true, _, _, _ => lg_2_6_true n s i w j4 j5 j6 j7 j8 j9 j10 j11 j12 j13 j15 j16
  | 2, 7, false, _, _, _ => lg_2_7_false n s i w j4 j5 j6 j7 j8 j9 j10 j11 j12 j13 j15 j16
  | 2, 7, true, _, _, _ => lg_2_7_true n s i w j4 j5 j6 j7 j8 j9 j10 j11 j12 j13 j15 j16
  | 2, 8, false, _, _, _ => lg_2_8_false n s i w j4 j5 j6 j7 j8 j9 j10 j11 j12 j13 j15 j16
  | 2, 8, true, _, _, _ => lg_2_8_true n s i w j4 j5 j6 j7 j8 j9 j10 j11 j12 j13 j15 j16
  | 2, 9, false, _, _, _ => lg_2_9_false n s i w j4 j5 j6 j7 j8 j9 j10 j11 j12 j13 j15 j16
  | 2, 9, true, _, _, _ => lg_2_9_true n s i w j4 j5 j6 j7 j8 j9 j10 j11 j12 j13 j15 j16
  | 2, 10, false, _, _, _ => lg_2_10_false n s i w j4 j5 j6 j7 j8 j9 j10 j11 j12 j13 j15 j16
  | 2, 10, true, _, _, _ => lg_2_10_true n s i w j4 j5 j6 j7 j8 j9 j10 j11 j12 j13 j15 j16
  | 2, 11, false, _, _, _ => lg_2_11_false n s i w j4 j5 j6 j7 j8 j9 j10 j11 j12 j13 j15 j16
  | 2, 11, true, _, _, _ => lg_2_11_true n s i w j4 j5 j6 j7 j8 j9 j10 j11 j12 j13 j15 j16
  | 2, 12, false, _, _, _ => lg_2_12_false n s i w j4 j5 j6 j7 j8 j9 j10 j11 j12 j13 j15 j16
  | 2, 12, true, _, _, _ => lg_2_12_true n s i w j4 j5 j6 j7 j8 j9 j10 j11 j12 j13 j15 j16
  | 2, 13, false, _, _, _ => lg_2_13_false n s i w j4 j5 j6 j7 j8 j9 j10 j11 j12 j13 j15 j16
  | 2, 13, true, _, _, _ => lg_2_13_true n s i w j4 j5 j6 j7 j8 j9 j10 j11 j12 j13 j15 j16
  | 2, 14, false, _, _, _ => lg_2_14_false n s i w j4 j5 j6 j7 j8 j9 j10 j11 j12 j13 j15 j16
  | 2, 14, true, _, _, _ => lg_2_14_true n s i w j4 j5 j6 j7 j8 j9 j10 j11 j12 j13 j15 j16
  | 2, 15, false, _, _, _ => lg_2_15_false n s i w j4 j5 j6 j7 j8 j9 j10 j11 j12 j13 j15 j16
  | 2, 15, true, _, _, _ => lg_2_15_true n s i w j4 j5 j6 j7 j8 j9 j10 j11 j12 j13 j15 j16
  | 2, 16, false, _, _, _ => lg_2_16_false n s i w j4 j5 j6 j7 j8 j9 j10 j11 j12 j13 j15 j16
  | 2, 16, true, _, _, _ => lg_2_16_true n s i w j4 j5 j6 j7 j8 j9 j10 j11 j12 j13 j15 j16
  | 2, 17, false, _, _, _ => lg_2_17_false n s i w j4 j5 j6 j7 j8 j9 j10 j11 j12 j13 j15 j16
  | 2, 17, true, _, _, _ => lg_2_17_true n s i w j4 j5 j6 j7 j8 j9 j10 j11 j12 j13 j15 j16
  | 2, 18, false, _, _, _ => lg_2_18_false n s i w j4 j5 j6 j7 j8 j9 j10 j11 j12 j13 j15 j16
  | 2, 18, true, _, _, _ => lg_2_18_true n s i w j4 j5 j6 j7 j8 j9 j10 j11 j12 j13 j15 j16
  | 2, 19, false, _, _, _ => lg_2_19_false n s i w j4 j5 j6 j7 j8 j9 j10 j11 j12 j13 j15 j16
  | 2, 19, true, _, _, _ => lg_2_19_true n s i w j4 j5 j6 j7 j8 j9 j10 j11 j12 j13 j15 j16
  | 2, 20, false, _, _, _ => lg_2_20_false n s i w j4 j5 j6 j7 j8 j9 j10 j11 j12 j13 j15 j16
  | 2, 20, true, _, _, _ => lg_2_20_true n s i w j4 j5 j6 j7 j8 j9 j10 j11 j12 j13 j15 j16
  | 2, 21, false, _, _, _ => lg_2_21_false n s i w j4 j5 j6 j7 j8 j9 j10 j11 j12 j13 j15 j16
  | 2, 21, true, _, _, _ => lg_2_21_true n s i w j4 j5 j6 j7 j8 j9 j10 j11 j12 j13 j15 j16
  | 2, 22, false, _, _, _ => lg_2_22_false n s i w j4 j5 j6 j7 j8 j9 j10 j11 j12 j13 j15 j16
  | 2, 22, true, _, _, _ => lg_2_22_true n s i w j4 j5 j6 j7 j8 j9 j10 j11 j12 j13 j15 j16
  | 2, 23, false, _, _, _ => lg_2_23_false n s i w j4 j5 j6 j7 j8 j9 j10 j11 j12 j13 j15 j16
  | 2, 23, true, _, _, _ => lg_2_23_true n s i w j4 j5 j6 j7 j8 j9 j10 j11 j12 j13 j15 j16
  | 2, 24, false, _, _, _ => lg_2_24_false n s i w j4 j5 j6 j7 j8 j9 j10 j11 j12 j13 j15 j16
  | 2, 24, true, _, _, _ => lg_2_24_true n s i w j4 j5 j6 j7 j8 j9 j10 j11 j12 j13 j15 j16
  | 3, 5, false, _, _, _ => lg_3_5_false n s i w j4 j5 j6 j7 j8 j9 j10 j11 j12 j13 j15 j16
  | 3, 5, true, _, _, _ => lg_3_5_true n s i w j4 j5 j6 j7 j8 j9 j10 j11 j12 j13 j15 j16
  | 3, 6, false, _, _, _ => lg_3_6_false n s i w j4 j5 j6 j7 j8 j9 j10 j11 j12 j13 j15 j16
  | 3, 6, true, _, _, _ => lg_3_6_true n s i w j4 j5 j6 j7 j8 j9 j10 j11 j12 j13 j15 j16
  | 3, 7, false, _, _, _ => lg_3_7_false n s i w j4 j5 j6 j7 j8 j9 j10 j11 j12 j13 j15 j16
  | 3, 7, true, _, _, _ => lg_3_7_true n s i w j4 j5 j6 j7 j8 j9 j10 j11 j12 j13 j15 j16
  | 3, 8, false, _, _, _ => lg_3_8_false n s i w j4 j5 j6 j7 j8 j9 j10 j11 j12 j13 j15 j16
  | 3, 8, true, _, _, _ => lg_3_8_true n s i w j4 j5 j6 j7 j8 j9 j10 j11 j12 j13 j15 j16
  | 3, 9, false, _, _, _ => lg_3_9_false n s i w j4 j5 j6 j7 j8 j9 j10 j11 j12 j13 j15 j16
  | 3, 9, true, _, _, _ => lg_3_9_true n s i w j4 j5 j6 j7 j8 j9 j10 j11 j12 j13 j15 j16
  | 3, 10, false, _, _, _ => lg_3_10_false n s i w j4 j5 j6 j7 j8 j9 j10 j11 j12 j13 j15 j16
  | 3, 10, true, _, _, _ => lg_3_10_true n s i w j4 j5 j6 j7 j8 j9 j10 j11 j12 j13 j15 j16
  | 3, 11, false, _, _, _ => lg_3_11_false n s i w j4 j5 j6 j7 j8 j9 j10 j11 j12 j13 j15 j16
  | 3, 11, true, _, _, _ => lg_3_11_true n s i w j4 j5 j6 j7 j8 j9 j10 j11 j12 j13 j15 j16
  | 3, 12, false, _, _, _ => lg_3_12_false n s i w j4 j5 j6 j7 j8 j9 j10 j11 j12 j13 j15 j16
  | 3, 12, true, _, _, _ => lg_3_12_true n s i w j4 j5 j6 j7 j8 j9 j10 j11 j12 j13 j15 j16
  | 3, 13, false, _, _, _ => lg_3_13_false n s i w j4 j5 j6 j7 j8 j9 j10 j11 j12 j13 j15 j16
  | 3, 13, true, _, _, _ => lg_3_13_true n s i w j4 j5 j6 j7 j8 j9 j10 j11 j12 j13 j15 j16
  | 3, 14, false, _, _, _ => lg_3_14_false n s i w j4 j5 j6 j7 j8 j9 j10 j11 j12 j13 j15 j16
  | 3, 14, true, _, _, _ => lg_3_14_true n s i w j4 j5 j6 j7 j8 j9 j10 j11 j12 j13 j15 j16
  | 3, 15, false, _, _, _ => lg_3_15_false n s i w j4 j5 j6 j7 j8 j9 j10 j11 j12 j13 j15 j16
  | 3, 15, true, _, _, _ => lg_3_15_true n s i w j4 j5 j6 j7 j8 j9 j10 j11 j12 j13 j15 j16
  | 3, 16, false, _, _, _ => lg_3_16_false n s i w j4 j5 j6 j7 j8 j9 j10 j11 j12 j13 j15 j16
  | 3, 16, true, _, _, _ => lg_3_16_true n s i w j4 j5 j6 j7 j8 j9 j10 j11 j12 j13 j15 j16
  | 3, 17, false, _, _, _ => lg_3_17_false n s i w j4 j5 j6 j7 j8 j9 j10 j11 j12 j13 j15 j16
  | 3, 17, true, _, _, _ => lg_3_17_true n s i w j4 j5 j6 j7 j8 j9 j10 j11 j12 j13 j15 j16
  | 3, 18, false, _, _, _ => lg_3_18_false n s i w j4 j5 j6 j7 j8 j9 j10 j11 j12 j13 j15 j16
  | 3, 18, true, _, _, _ => lg_3_18_true n s i w j4 j5 j6 j7 j8 j9 j10 j11 j12 j13 j15 j16
  | 3, 19, false, _, _, _ => lg_3_19_false n s i w j4 j5 j6 j7 j8 j9 j10 j11 j12 j13 j15 j16
  | 3, 19, true, _, _, _ => lg_3_19_true n s i w j4 j5 j6 j7 j8 j9 j10 j11 j12 j13 j15 j16
  | 3, 20, false, _, _, _ => lg_3_20_false n s i w j4 j5 j6 j7 j8 j9 j10 j11 j12 j13 j15 j16
  | 3, 20, true, _, _, _ => lg_3_20_true n s i w j4 j5 j6 j7 j8 j9 j10 j11 j12 j13 j15 j16
  | 3, 21, false, _, _, _ => lg_3_21_false n s i w j4 j5 j6 j7 j8 j9 j10 j11 j12 j13 j15 j16
  | 3, 21, true, _, _, _ => lg_3_21_true n s i w j4 j5 j6 j7 j8 j9 j10 j11 j12 j13 j15 j16
  | 3, 22, false, _, _, _ => lg_3_22_false n s i w j4 j5 j6 j7 j8 j9 j10 j11 j12 j13 j15 j16
  | 3, 22, true, _, _, _ => lg_3_22_true n s i w j4 j5 j6 j7 j8 j9 j10 j11 j12 j13 j15 j16
  | 3, 23, false, _, _, _ => lg_3_23_false n s i w j4 j5 j6 j7 j8 j9 j10 j11 j12 j13 j15 j16
  | 3, 23, true, _, _, _ => lg_3_23_true n s i w j4 j5 j6 j7 j8 j9 j10 j11 j12 j13 j15 j16
  | 3, 24, false, _, _, _ => lg_3_24_false n s i w j4 j5 j6 j7 j8 j9 j10 j11 j12 j13 j15 j16
  | 3, 24, true, _, _, _ => lg_3_24_true n s i w j4 j5 j6 j7 j8 j9 j10 j11 j12 j13 j15 j16
  | a + 4, _, _, h, _, _ => by omega
  | _, 0, _, _, h, _ => by omega
  | _, 1, _, _, h, _ => by omega
  | _, 2, _, _, h, _ => by omega
  | _, 3, _, _, h, _ => by omega
  | _, 4, _, _, h, _ => by omega
  | _, b + 25, _, _, _, h => by omega
theorem env17 {ρ : Env'} (h : ρ.length = 17) : ∃ a0 a1 a2 a3 a4 a5 a6 a7 a8 a9 a10 a11 a12 a13 a14 a15 a16, ρ = [a0, a1, a2, a3, a4, a5, a6, a7, a8, a9, a10, a11, a12, a13, a14, a15, a16] := by
  match ρ, h with
  | [a0, a1, a2, a3, a4, a5, a6, a7, a8, a9, a10, a11, a12, a13, a14, a15, a16], _ => exact ⟨_, _, _, _, _, _, _, _, _, _, _, _, _, _, _, _, _, rfl⟩
theorem wayD_get (v : Int) (h0 : 0 ≤ v) (h1 : v < 4) : getD (.tuple [.str "sum", .str "half", .str "step", .str "parts"]) (.int v) = some (wayD v.toNat) := by
  obtain rfl | rfl | rfl | rfl : v = 0 ∨ v = 1 ∨ v = 2 ∨ v = 3 := by omega
  all_goals kernel_rfl
local macro_rules | `(tactic| walk_at "py") => `(tactic| try simp only [seval, Py.eqD_ok, Py.neD_ok, Py.okAll_ints, Py.okD_none, Py.okD_bool, Py.okD_int, Py.okD_list, Py.okD_tuple, Py.okAll_nil, Py.okAll_cons, Py.eqv_int, Py.eqv_bool, Py.eqv_none, Py.eqv_tuple, Py.eqv_list, Py.eqvAll_nil, Py.eqvAll_cons, Py.eqvAll_cn, Py.eqvAll_nc, Py.addD_i, Py.addD_l, Py.addD_t, Py.subD_i, Py.mulD_a, Py.mulD_b, Py.fdivD_i, Py.modD_i, Py.leD_i, Py.ltD_i, Py.gtD_i, Py.geD_i, Py.getD_t0, Py.getD_t1, Py.getD_t2, Py.getD_l0, Py.getD_l1, Py.getD_l2, Py.negD_i, Py.truD_b, Py.truD_i, Py.truD_l, Py.truD_t, Py.truD_n, Py.lenD_l, Py.lenD_t, Py.maxD_i, Py.minD_i, Py.imm_int, Py.imm_bool, Py.imm_none, Py.imm_str, Py.imm_tuple, Py.imm_list, Py.immAll_nil, Py.immAll_cons, Py.iSeq_l, Py.iSeq_t, Py.iRange_1, Py.iRange_2, Py.isD_bb, Py.isNotD_bb, Py.isD_n, Py.isNotD_n, Py.isi_int, Py.isi_bool, Py.isi_tuple, Py.isTupD_t, Py.isIntD_i, Py.isBoolD_b, Py.q_seq, Py.thn_nx, Py.thn_rt, Py.thn_exc, Py.thn_bad, Py.q_nil, Py.q_set, Py.nxS_ok, Py.nxS_exc, Py.q_bind, Py.nxB_ok, Py.nxB_exc, Py.optO_some, Py.q_drop, Py.nxD_ok, Py.nxD_exc, Py.q_ret, Py.nxR_ok, Py.nxR_exc, Py.q_if, Py.ifO_true, Py.ifO_false, Py.ifO_exc, Py.q_raise, Py.q_par, Py.parO_ok, Py.parO_exc, Py.setAll_nil, Py.setAll_cons, Py.q_var, Py.rd_val, Py.q_cst, Py.q_bin, Py.b2_ok, Py.b2_e1, Py.b2_e2, Py.q_un, Py.b1_ok, Py.q_not, Py.trr_ok, Py.tru_exc, Py.not_ok, Py.not_exc, Py.boo_ok, Py.q_ife, Py.ifE_true, Py.ifE_false, Py.q_and, Py.andE_ok, Py.andE_exc, Py.q_or, Py.orE_ok, Py.q_chain, Py.q_xbool, Py.toB_ok, Py.toB_exc, Py.q_xtru, Py.q_xnot, Py.q_xand, Py.andT_ok, Py.q_xor, Py.orT_ok, Py.orT_exc, Py.q_evn, Py.q_evc, Py.cns_ok, Py.cns_e1, Py.cns_e2, Py.q_tup, Py.tup_ok, Py.tup_exc, Py.q_lst, Py.lst_ok, Py.lst_exc, Py.q_call, Py.q_blt, Py.blt_ok, Py.blt_exc, Py.q_pin, Py.q_pis, Py.toI_ok, Py.q_sl, Py.sl3_ok, Py.q_one, Py.q_yes, Py.q_lc, Py.lcK_ok, Py.q_for, Py.forK_ok, Py.forI_some, Py.for_nil, Py.for_cons, Py.forN_some, Py.bd_name, Py.bd_tup, Py.bd_nil, Py.bd_cons, Py.q_bindS, Py.q_setS, Py.q_prep, Py.ap_l, Py.ap_t, Py.ap_s, Py.ap_i, Py.ap_d, Py.ap_2, Py.ap_n, Py.apR_n, Py.apR_v, Py.apR_u, Py.apR_e, Py.lenNe_l, Py.lenNe_t, Py.lenNe_d, Py.frz_no, Py.frz_nil, Py.frz_val, Py.frz_un, Py.frz_err, Py.flat_int, Py.flat_bool, Py.flat_none, Py.flat_str, Py.flat_tup, Py.flat_list, Py.flat_dict, Py.imm_dict, Py.q_free, Py.q_freeL, Py.q_freeI, Py.q_free2, Py.q_free0, Py.fin_nx, Py.fin_rt, Py.fin_exc, Py.noexc_ok, Py.wipe_nil, Py.wipe_cons, Py.ite_bool, Py.ite_bool', Py.ite_okb, Py.ite_okb', Py.q_lcI, Py.lcX_some, Py.lcY_ok, Py.lcZ_ok, Py.lcFin_ok, Py.lcM_nil, Py.lcM_cons, Py.lcN_none, Py.lcN_some, Py.lcM_map, Py.lcM_up, Py.lcM_all, Py.lcM_filter, Py.lcM_filterP, Py.apd_ok, Py.q_lc2, Py.lc2K_ok, Py.lc2I_some, Py.lc2B_some, Py.lc2T_ok, Py.lc2F_ok, Py.lc2J_some, Py.lcJ_nil, Py.lcJ_cons, Py.lcJ_map, Py.lcJ_up, Py.lcJ_all, Py.q_pick, Py.pick_n, Py.pickB_some, Py.atI_0, Py.atI_1, Py.atI_2, Py.atI_3, Py.q_try, Py.tryK_nx, Py.tryK_rt, Py.q_app, Py.appK_ok, Py.q_rem, Py.q_ext, Py.extK_ok, Py.allD_map, Py.anyB_map, Py.sumD_map, Py.sumT_map, Py.sortedD_l, Py.sortedD_t, Py.rgD_t, Py.rgD_l, Py.iEnum_l, Py.iEnum_t, Py.iZip_l, Py.iZip_t, Py.tupleD_l, Py.tupleD_t, Py.listD_l, Py.listD_t, Py.intD_i, Py.intD_b, Py.maxD_m, Py.minD_m, Py.allD_m, Py.anyB_m, Py.sumD_m, Py.sumT_m, Py.isNone_n, Py.isNone_i, Py.isNone_b, Py.isNone_t, Py.isNone_l, Py.isNone_s, Py.immAll_map, Py.okAll_map, Py.immAll_up, Py.okAll_up, Py.up_len, Py.z_g0, Py.z_gs, Py.z_s0, Py.z_ss, Py.z_lc, Py.z_ln, Py.z_lm, Py.z_mc, Py.z_mn, Py.z_ca, Py.z_na, Py.z_bs, Py.z_rl, Py.z_ft, Py.z_tf, Py.z_at, Py.z_ta, Py.z_af, Py.z_fa, Py.z_ot, Py.z_to, Py.z_of, Py.z_fo, Py.z_nt, Py.z_nf, Py.z_nn, Py.z_bb, Py.z_tb, Py.z_bf, Py.z_fb, Py.z_it, Py.z_if, Py.z_dt, Py.z_df, Py.z_de, Py.z_0a, Py.z_cast, Py.z_res, Py.z_exc, Py.z_ofs, Py.z_eqt, Py.z_tn, Py.z_d0, Py.z_ds, Py.z_bq, Py.z_all])
local macro_rules | `(tactic| walk_at "pyh") => `(tactic| try simp only [seval, Py.eqD_ok, Py.neD_ok, Py.okAll_ints, Py.okD_none, Py.okD_bool, Py.okD_int, Py.okD_list, Py.okD_tuple, Py.okAll_nil, Py.okAll_cons, Py.eqv_int, Py.eqv_bool, Py.eqv_none, Py.eqv_tuple, Py.eqv_list, Py.eqvAll_nil, Py.eqvAll_cons, Py.eqvAll_cn, Py.eqvAll_nc, Py.addD_i, Py.addD_l, Py.addD_t, Py.subD_i, Py.mulD_a, Py.mulD_b, Py.fdivD_i, Py.modD_i, Py.leD_i, Py.ltD_i, Py.gtD_i, Py.geD_i, Py.getD_t0, Py.getD_t1, Py.getD_t2, Py.getD_l0, Py.getD_l1, Py.getD_l2, Py.negD_i, Py.truD_b, Py.truD_i, Py.truD_l, Py.truD_t, Py.truD_n, Py.lenD_l, Py.lenD_t, Py.maxD_i, Py.minD_i, Py.imm_int, Py.imm_bool, Py.imm_none, Py.imm_str, Py.imm_tuple, Py.imm_list, Py.immAll_nil, Py.immAll_cons, Py.iSeq_l, Py.iSeq_t, Py.iRange_1, Py.iRange_2, Py.isD_bb, Py.isNotD_bb, Py.isD_n, Py.isNotD_n, Py.isi_int, Py.isi_bool, Py.isi_tuple, Py.isTupD_t, Py.isIntD_i, Py.isBoolD_b, Py.q_seq, Py.thn_nx, Py.thn_rt, Py.thn_exc, Py.thn_bad, Py.q_nil, Py.q_set, Py.nxS_ok, Py.nxS_exc, Py.q_bind, Py.nxB_ok, Py.nxB_exc, Py.optO_some, Py.q_drop, Py.nxD_ok, Py.nxD_exc, Py.q_ret, Py.nxR_ok, Py.nxR_exc, Py.q_if, Py.ifO_true, Py.ifO_false, Py.ifO_exc, Py.q_raise, Py.q_par, Py.parO_ok, Py.parO_exc, Py.setAll_nil, Py.setAll_cons, Py.q_var, Py.rd_val, Py.q_cst, Py.q_bin, Py.b2_ok, Py.b2_e1, Py.b2_e2, Py.q_un, Py.b1_ok, Py.q_not, Py.trr_ok, Py.tru_exc, Py.not_ok, Py.not_exc, Py.boo_ok, Py.q_ife, Py.ifE_true, Py.ifE_false, Py.q_and, Py.andE_ok, Py.andE_exc, Py.q_or, Py.orE_ok, Py.q_chain, Py.q_xbool, Py.toB_ok, Py.toB_exc, Py.q_xtru, Py.q_xnot, Py.q_xand, Py.andT_ok, Py.q_xor, Py.orT_ok, Py.orT_exc, Py.q_evn, Py.q_evc, Py.cns_ok, Py.cns_e1, Py.cns_e2, Py.q_tup, Py.tup_ok, Py.tup_exc, Py.q_lst, Py.lst_ok, Py.lst_exc, Py.q_call, Py.q_blt, Py.blt_ok, Py.blt_exc, Py.q_pin, Py.q_pis, Py.toI_ok, Py.q_sl, Py.sl3_ok, Py.q_one, Py.q_yes, Py.q_lc, Py.lcK_ok, Py.q_for, Py.forK_ok, Py.forI_some, Py.for_nil, Py.for_cons, Py.forN_some, Py.bd_name, Py.bd_tup, Py.bd_nil, Py.bd_cons, Py.q_bindS, Py.q_setS, Py.q_prep, Py.ap_l, Py.ap_t, Py.ap_s, Py.ap_i, Py.ap_d, Py.ap_2, Py.ap_n, Py.apR_n, Py.apR_v, Py.apR_u, Py.apR_e, Py.lenNe_l, Py.lenNe_t, Py.lenNe_d, Py.frz_no, Py.frz_nil, Py.frz_val, Py.frz_un, Py.frz_err, Py.flat_int, Py.flat_bool, Py.flat_none, Py.flat_str, Py.flat_tup, Py.flat_list, Py.flat_dict, Py.imm_dict, Py.q_free, Py.q_freeL, Py.q_freeI, Py.q_free2, Py.q_free0, Py.fin_nx, Py.fin_rt, Py.fin_exc, Py.noexc_ok, Py.wipe_nil, Py.wipe_cons, Py.ite_bool, Py.ite_bool', Py.ite_okb, Py.ite_okb', Py.q_lcI, Py.lcX_some, Py.lcY_ok, Py.lcZ_ok, Py.lcFin_ok, Py.lcM_nil, Py.lcM_cons, Py.lcN_none, Py.lcN_some, Py.lcM_map, Py.lcM_up, Py.lcM_all, Py.lcM_filter, Py.lcM_filterP, Py.apd_ok, Py.q_lc2, Py.lc2K_ok, Py.lc2I_some, Py.lc2B_some, Py.lc2T_ok, Py.lc2F_ok, Py.lc2J_some, Py.lcJ_nil, Py.lcJ_cons, Py.lcJ_map, Py.lcJ_up, Py.lcJ_all, Py.q_pick, Py.pick_n, Py.pickB_some, Py.atI_0, Py.atI_1, Py.atI_2, Py.atI_3, Py.q_try, Py.tryK_nx, Py.tryK_rt, Py.q_app, Py.appK_ok, Py.q_rem, Py.q_ext, Py.extK_ok, Py.allD_map, Py.anyB_map, Py.sumD_map, Py.sumT_map, Py.sortedD_l, Py.sortedD_t, Py.rgD_t, Py.rgD_l, Py.iEnum_l, Py.iEnum_t, Py.iZip_l, Py.iZip_t, Py.tupleD_l, Py.tupleD_t, Py.listD_l, Py.listD_t, Py.intD_i, Py.intD_b, Py.maxD_m, Py.minD_m, Py.allD_m, Py.anyB_m, Py.sumD_m, Py.sumT_m, Py.isNone_n, Py.isNone_i, Py.isNone_b, Py.isNone_t, Py.isNone_l, Py.isNone_s, Py.immAll_map, Py.okAll_map, Py.immAll_up, Py.okAll_up, Py.up_len, Py.z_g0, Py.z_gs, Py.z_s0, Py.z_ss, Py.z_lc, Py.z_ln, Py.z_lm, Py.z_mc, Py.z_mn, Py.z_ca, Py.z_na, Py.z_bs, Py.z_rl, Py.z_ft, Py.z_tf, Py.z_at, Py.z_ta, Py.z_af, Py.z_fa, Py.z_ot, Py.z_to, Py.z_of, Py.z_fo, Py.z_nt, Py.z_nf, Py.z_nn, Py.z_bb, Py.z_tb, Py.z_bf, Py.z_fb, Py.z_it, Py.z_if, Py.z_dt, Py.z_df, Py.z_de, Py.z_0a, Py.z_cast, Py.z_res, Py.z_exc, Py.z_ofs, Py.z_eqt, Py.z_tn, Py.z_d0, Py.z_ds, Py.z_bq, Py.z_all, *])
local macro_rules | `(tactic| walk_at "d0") => `(tactic| first | assumption | omega | (simp only [seval, Py.okAll_ints, Py.okD_none, Py.okD_bool, Py.okD_int, Py.okD_list, Py.okD_tuple, Py.okAll_nil, Py.okAll_cons, Py.eqvAll_nil, Py.eqvAll_nc, Py.imm_int, Py.imm_bool, Py.imm_none, Py.imm_str, Py.imm_tuple, Py.imm_list, Py.immAll_nil, Py.immAll_cons, Py.flat_int, Py.flat_bool, Py.flat_none, Py.flat_str, Py.flat_tup, Py.flat_list, Py.flat_dict, Py.imm_dict, Py.q_free, Py.q_freeL, Py.q_freeI, Py.q_free2, Py.q_free0, Py.isNone_n, Py.isNone_i, Py.isNone_b, Py.isNone_t, Py.isNone_l, Py.isNone_s, Py.immAll_map, Py.okAll_map, Py.immAll_up, Py.okAll_up, Py.up_len, Py.z_g0, Py.z_gs, Py.z_s0, Py.z_ss, Py.z_lc, Py.z_ln, Py.z_lm, Py.z_mc, Py.z_mn, Py.z_ca, Py.z_na, Py.z_bs, Py.z_rl, Py.z_ft, Py.z_tf, Py.z_at, Py.z_ta, Py.z_af, Py.z_fa, Py.z_ot, Py.z_to, Py.z_of, Py.z_fo, Py.z_nt, Py.z_nf, Py.z_nn, Py.z_bb, Py.z_tb, Py.z_bf, Py.z_fb, Py.z_it, Py.z_if, Py.z_dt, Py.z_df, Py.z_de, Py.z_0a, Py.z_cast, Py.z_res, Py.z_exc, Py.z_ofs, Py.z_eqt, Py.z_tn, Py.z_d0, Py.z_ds, Py.z_bq, Py.z_all] <;> omega))
local macro_rules | `(tactic| walk_at "d") => `(tactic| first | assumption | omega | (simp (disch := walk_at "d0") only [seval, Py.okAll_ints, Py.okD_none, Py.okD_bool, Py.okD_int, Py.okD_list, Py.okD_tuple, Py.okAll_nil, Py.okAll_cons, Py.eqvAll_nil, Py.eqvAll_nc, Py.imm_int, Py.imm_bool, Py.imm_none, Py.imm_str, Py.imm_tuple, Py.imm_list, Py.immAll_nil, Py.immAll_cons, Py.flat_int, Py.flat_bool, Py.flat_none, Py.flat_str, Py.flat_tup, Py.flat_list, Py.flat_dict, Py.imm_dict, Py.q_free, Py.q_freeL, Py.q_freeI, Py.q_free2, Py.q_free0, Py.isNone_n, Py.isNone_i, Py.isNone_b, Py.isNone_t, Py.isNone_l, Py.isNone_s, Py.immAll_map, Py.okAll_map, Py.immAll_up, Py.okAll_up, Py.up_len, Py.z_g0, Py.z_gs, Py.z_s0, Py.z_ss, Py.z_lc, Py.z_ln, Py.z_lm, Py.z_mc, Py.z_mn, Py.z_ca, Py.z_na, Py.z_bs, Py.z_rl, Py.z_ft, Py.z_tf, Py.z_at, Py.z_ta, Py.z_af, Py.z_fa, Py.z_ot, Py.z_to, Py.z_of, Py.z_fo, Py.z_nt, Py.z_nf, Py.z_nn, Py.z_bb, Py.z_tb, Py.z_bf, Py.z_fb, Py.z_it, Py.z_if, Py.z_dt, Py.z_df, Py.z_de, Py.z_0a, Py.z_cast, Py.z_res, Py.z_exc, Py.z_ofs, Py.z_eqt, Py.z_tn, Py.z_d0, Py.z_ds, Py.z_bq, Py.z_all] <;> omega))
local macro_rules | `(tactic| walk_at "o") => `(tactic| try simp (disch := walk_at "d") only [seval, Py.eqD_ok, Py.neD_ok, Py.okAll_ints, Py.okD_none, Py.okD_bool, Py.okD_int, Py.okD_list, Py.okD_tuple, Py.okAll_nil, Py.okAll_cons, Py.eqv_int, Py.eqv_bool, Py.eqv_none, Py.eqv_tuple, Py.eqv_list, Py.eqvAll_nil, Py.eqvAll_cons, Py.eqvAll_cn, Py.eqvAll_nc, Py.addD_i, Py.addD_l, Py.addD_t, Py.subD_i, Py.mulD_a, Py.mulD_b, Py.fdivD_i, Py.modD_i, Py.leD_i, Py.ltD_i, Py.gtD_i, Py.geD_i, Py.getD_t0, Py.getD_t1, Py.getD_t2, Py.getD_l0, Py.getD_l1, Py.getD_l2, Py.negD_i, Py.truD_b, Py.truD_i, Py.truD_l, Py.truD_t, Py.truD_n, Py.lenD_l, Py.lenD_t, Py.maxD_i, Py.minD_i, Py.imm_int, Py.imm_bool, Py.imm_none, Py.imm_str, Py.imm_tuple, Py.imm_list, Py.immAll_nil, Py.immAll_cons, Py.iSeq_l, Py.iSeq_t, Py.iRange_1, Py.iRange_2, Py.isD_bb, Py.isNotD_bb, Py.isD_n, Py.isNotD_n, Py.isi_int, Py.isi_bool, Py.isi_tuple, Py.isTupD_t, Py.isIntD_i, Py.isBoolD_b, Py.q_seq, Py.thn_nx, Py.thn_rt, Py.thn_exc, Py.thn_bad, Py.q_nil, Py.q_set, Py.nxS_ok, Py.nxS_exc, Py.q_bind, Py.nxB_ok, Py.nxB_exc, Py.optO_some, Py.q_drop, Py.nxD_ok, Py.nxD_exc, Py.q_ret, Py.nxR_ok, Py.nxR_exc, Py.q_if, Py.ifO_true, Py.ifO_false, Py.ifO_exc, Py.q_raise, Py.q_par, Py.parO_ok, Py.parO_exc, Py.setAll_nil, Py.setAll_cons, Py.q_var, Py.rd_val, Py.q_cst, Py.q_bin, Py.b2_ok, Py.b2_e1, Py.b2_e2, Py.q_un, Py.b1_ok, Py.q_not, Py.trr_ok, Py.tru_exc, Py.not_ok, Py.not_exc, Py.boo_ok, Py.q_ife, Py.ifE_true, Py.ifE_false, Py.q_and, Py.andE_ok, Py.andE_exc, Py.q_or, Py.orE_ok, Py.q_chain, Py.q_xbool, Py.toB_ok, Py.toB_exc, Py.q_xtru, Py.q_xnot, Py.q_xand, Py.andT_ok, Py.q_xor, Py.orT_ok, Py.orT_exc, Py.q_evn, Py.q_evc, Py.cns_ok, Py.cns_e1, Py.cns_e2, Py.q_tup, Py.tup_ok, Py.tup_exc, Py.q_lst, Py.lst_ok, Py.lst_exc, Py.q_call, Py.q_blt, Py.blt_ok, Py.blt_exc, Py.q_pin, Py.q_pis, Py.toI_ok, Py.q_sl, Py.sl3_ok, Py.q_one, Py.q_yes, Py.q_lc, Py.lcK_ok, Py.q_for, Py.forK_ok, Py.forI_some, Py.for_nil, Py.for_cons, Py.forN_some, Py.bd_name, Py.bd_tup, Py.bd_nil, Py.bd_cons, Py.q_bindS, Py.q_setS, Py.q_prep, Py.ap_l, Py.ap_t, Py.ap_s, Py.ap_i, Py.ap_d, Py.ap_2, Py.ap_n, Py.apR_n, Py.apR_v, Py.apR_u, Py.apR_e, Py.lenNe_l, Py.lenNe_t, Py.lenNe_d, Py.frz_no, Py.frz_nil, Py.frz_val, Py.frz_un, Py.frz_err, Py.flat_int, Py.flat_bool, Py.flat_none, Py.flat_str, Py.flat_tup, Py.flat_list, Py.flat_dict, Py.imm_dict, Py.q_free, Py.q_freeL, Py.q_freeI, Py.q_free2, Py.q_free0, Py.fin_nx, Py.fin_rt, Py.fin_exc, Py.noexc_ok, Py.wipe_nil, Py.wipe_cons, Py.ite_bool, Py.ite_bool', Py.ite_okb, Py.ite_okb', Py.q_lcI, Py.lcX_some, Py.lcY_ok, Py.lcZ_ok, Py.lcFin_ok, Py.lcM_nil, Py.lcM_cons, Py.lcN_none, Py.lcN_some, Py.lcM_map, Py.lcM_up, Py.lcM_all, Py.lcM_filter, Py.lcM_filterP, Py.apd_ok, Py.q_lc2, Py.lc2K_ok, Py.lc2I_some, Py.lc2B_some, Py.lc2T_ok, Py.lc2F_ok, Py.lc2J_some, Py.lcJ_nil, Py.lcJ_cons, Py.lcJ_map, Py.lcJ_up, Py.lcJ_all, Py.q_pick, Py.pick_n, Py.pickB_some, Py.atI_0, Py.atI_1, Py.atI_2, Py.atI_3, Py.q_try, Py.tryK_nx, Py.tryK_rt, Py.q_app, Py.appK_ok, Py.q_rem, Py.q_ext, Py.extK_ok, Py.allD_map, Py.anyB_map, Py.sumD_map, Py.sumT_map, Py.sortedD_l, Py.sortedD_t, Py.rgD_t, Py.rgD_l, Py.iEnum_l, Py.iEnum_t, Py.iZip_l, Py.iZip_t, Py.tupleD_l, Py.tupleD_t, Py.listD_l, Py.listD_t, Py.intD_i, Py.intD_b, Py.maxD_m, Py.minD_m, Py.allD_m, Py.anyB_m, Py.sumD_m, Py.sumT_m, Py.isNone_n, Py.isNone_i, Py.isNone_b, Py.isNone_t, Py.isNone_l, Py.isNone_s, Py.immAll_map, Py.okAll_map, Py.immAll_up, Py.okAll_up, Py.up_len, Py.z_g0, Py.z_gs, Py.z_s0, Py.z_ss, Py.z_lc, Py.z_ln, Py.z_lm, Py.z_mc, Py.z_mn, Py.z_ca, Py.z_na, Py.z_bs, Py.z_rl, Py.z_ft, Py.z_tf, Py.z_at, Py.z_ta, Py.z_af, Py.z_fa, Py.z_ot, Py.z_to, Py.z_of, Py.z_fo, Py.z_nt, Py.z_nf, Py.z_nn, Py.z_bb, Py.z_tb, Py.z_bf, Py.z_fb, Py.z_it, Py.z_if, Py.z_dt, Py.z_df, Py.z_de, Py.z_0a, Py.z_cast, Py.z_res, Py.z_exc, Py.z_ofs, Py.z_eqt, Py.z_tn, Py.z_d0, Py.z_ds, Py.z_bq, Py.z_all])
local macro_rules | `(tactic| walk_at "oh") => `(tactic| try simp (disch := walk_at "d") only [seval, Py.eqD_ok, Py.neD_ok, Py.okAll_ints, Py.okD_none, Py.okD_bool, Py.okD_int, Py.okD_list, Py.okD_tuple, Py.okAll_nil, Py.okAll_cons, Py.eqv_int, Py.eqv_bool, Py.eqv_none, Py.eqv_tuple, Py.eqv_list, Py.eqvAll_nil, Py.eqvAll_cons, Py.eqvAll_cn, Py.eqvAll_nc, Py.addD_i, Py.addD_l, Py.addD_t, Py.subD_i, Py.mulD_a, Py.mulD_b, Py.fdivD_i, Py.modD_i, Py.leD_i, Py.ltD_i, Py.gtD_i, Py.geD_i, Py.getD_t0, Py.getD_t1, Py.getD_t2, Py.getD_l0, Py.getD_l1, Py.getD_l2, Py.negD_i, Py.truD_b, Py.truD_i, Py.truD_l, Py.truD_t, Py.truD_n, Py.lenD_l, Py.lenD_t, Py.maxD_i, Py.minD_i, Py.imm_int, Py.imm_bool, Py.imm_none, Py.imm_str, Py.imm_tuple, Py.imm_list, Py.immAll_nil, Py.immAll_cons, Py.iSeq_l, Py.iSeq_t, Py.iRange_1, Py.iRange_2, Py.isD_bb, Py.isNotD_bb, Py.isD_n, Py.isNotD_n, Py.isi_int, Py.isi_bool, Py.isi_tuple, Py.isTupD_t, Py.isIntD_i, Py.isBoolD_b, Py.q_seq, Py.thn_nx, Py.thn_rt, Py.thn_exc, Py.thn_bad, Py.q_nil, Py.q_set, Py.nxS_ok, Py.nxS_exc, Py.q_bind, Py.nxB_ok, Py.nxB_exc, Py.optO_some, Py.q_drop, Py.nxD_ok, Py.nxD_exc, Py.q_ret, Py.nxR_ok, Py.nxR_exc, Py.q_if, Py.ifO_true, Py.ifO_false, Py.ifO_exc, Py.q_raise, Py.q_par, Py.parO_ok, Py.parO_exc, Py.setAll_nil, Py.setAll_cons, Py.q_var, Py.rd_val, Py.q_cst, Py.q_bin, Py.b2_ok, Py.b2_e1, Py.b2_e2, Py.q_un, Py.b1_ok, Py.q_not, Py.trr_ok, Py.tru_exc, Py.not_ok, Py.not_exc, Py.boo_ok, Py.q_ife, Py.ifE_true, Py.ifE_false, Py.q_and, Py.andE_ok, Py.andE_exc, Py.q_or, Py.orE_ok, Py.q_chain, Py.q_xbool, Py.toB_ok, Py.toB_exc, Py.q_xtru, Py.q_xnot, Py.q_xand, Py.andT_ok, Py.q_xor, Py.orT_ok, Py.orT_exc, Py.q_evn, Py.q_evc, Py.cns_ok, Py.cns_e1, Py.cns_e2, Py.q_tup, Py.tup_ok, Py.tup_exc, Py.q_lst, Py.lst_ok, Py.lst_exc, Py.q_call, Py.q_blt, Py.blt_ok, Py.blt_exc, Py.q_pin, Py.q_pis, Py.toI_ok, Py.q_sl, Py.sl3_ok, Py.q_one, Py.q_yes, Py.q_lc, Py.lcK_ok, Py.q_for, Py.forK_ok, Py.forI_some, Py.for_nil, Py.for_cons, Py.forN_some, Py.bd_name, Py.bd_tup, Py.bd_nil, Py.bd_cons, Py.q_bindS, Py.q_setS, Py.q_prep, Py.ap_l, Py.ap_t, Py.ap_s, Py.ap_i, Py.ap_d, Py.ap_2, Py.ap_n, Py.apR_n, Py.apR_v, Py.apR_u, Py.apR_e, Py.lenNe_l, Py.lenNe_t, Py.lenNe_d, Py.frz_no, Py.frz_nil, Py.frz_val, Py.frz_un, Py.frz_err, Py.flat_int, Py.flat_bool, Py.flat_none, Py.flat_str, Py.flat_tup, Py.flat_list, Py.flat_dict, Py.imm_dict, Py.q_free, Py.q_freeL, Py.q_freeI, Py.q_free2, Py.q_free0, Py.fin_nx, Py.fin_rt, Py.fin_exc, Py.noexc_ok, Py.wipe_nil, Py.wipe_cons, Py.ite_bool, Py.ite_bool', Py.ite_okb, Py.ite_okb', Py.q_lcI, Py.lcX_some, Py.lcY_ok, Py.lcZ_ok, Py.lcFin_ok, Py.lcM_nil, Py.lcM_cons, Py.lcN_none, Py.lcN_some, Py.lcM_map, Py.lcM_up, Py.lcM_all, Py.lcM_filter, Py.lcM_filterP, Py.apd_ok, Py.q_lc2, Py.lc2K_ok, Py.lc2I_some, Py.lc2B_some, Py.lc2T_ok, Py.lc2F_ok, Py.lc2J_some, Py.lcJ_nil, Py.lcJ_cons, Py.lcJ_map, Py.lcJ_up, Py.lcJ_all, Py.q_pick, Py.pick_n, Py.pickB_some, Py.atI_0, Py.atI_1, Py.atI_2, Py.atI_3, Py.q_try, Py.tryK_nx, Py.tryK_rt, Py.q_app, Py.appK_ok, Py.q_rem, Py.q_ext, Py.extK_ok, Py.allD_map, Py.anyB_map, Py.sumD_map, Py.sumT_map, Py.sortedD_l, Py.sortedD_t, Py.rgD_t, Py.rgD_l, Py.iEnum_l, Py.iEnum_t, Py.iZip_l, Py.iZip_t, Py.tupleD_l, Py.tupleD_t, Py.listD_l, Py.listD_t, Py.intD_i, Py.intD_b, Py.maxD_m, Py.minD_m, Py.allD_m, Py.anyB_m, Py.sumD_m, Py.sumT_m, Py.isNone_n, Py.isNone_i, Py.isNone_b, Py.isNone_t, Py.isNone_l, Py.isNone_s, Py.immAll_map, Py.okAll_map, Py.immAll_up, Py.okAll_up, Py.up_len, Py.z_g0, Py.z_gs, Py.z_s0, Py.z_ss, Py.z_lc, Py.z_ln, Py.z_lm, Py.z_mc, Py.z_mn, Py.z_ca, Py.z_na, Py.z_bs, Py.z_rl, Py.z_ft, Py.z_tf, Py.z_at, Py.z_ta, Py.z_af, Py.z_fa, Py.z_ot, Py.z_to, Py.z_of, Py.z_fo, Py.z_nt, Py.z_nf, Py.z_nn, Py.z_bb, Py.z_tb, Py.z_bf, Py.z_fb, Py.z_it, Py.z_if, Py.z_dt, Py.z_df, Py.z_de, Py.z_0a, Py.z_cast, Py.z_res, Py.z_exc, Py.z_ofs, Py.z_eqt, Py.z_tn, Py.z_d0, Py.z_ds, Py.z_bq, Py.z_all, *])
theorem body (n : Nat) (ns : List Int) (hl : ns.length ≤ 63) (i : Int) (h0 : 0 ≤ i) (h1 : i < 100) (j2 j3 j4 j5 j6 j7 j8 j9 j10 j11 j12 j13 j14 j15 j16 : Sl) : ∃ p2 p3 p4 p5 p6 p7 p8 p9 p10 p11 p12 p13 p14 p15 p16, B22l0 (callN recs (n + 19)) [.val false (.list (ns.map .int)), .val false (.int i), j2, j3, j4, j5, j6, j7, j8, j9, j10, j11, j12, j13, j14, j15, j16] = .nx [.val false (.list (ns.map .int)), .val false (.int i), p2, p3, p4, p5, p6, p7, p8, p9, p10, p11, p12, p13, p14, p15, p16] := by
  obtain ⟨v1, e1, a1, b1⟩ := pickN (n + 18) ns hl (20 * i) 4 (by omega) (by omega) (by omega)
  obtain ⟨v2, e2, a2, b2⟩ := pickN (n + 18) ns hl (20 * i + 1) 4 (by omega) (by omega) (by omega)
  obtain ⟨v3, e3, a3, b3⟩ := pickN (n + 18) ns hl (20 * i + 2) 2 (by omega) (by omega) (by omega)
  obtain ⟨v4, e4, a4, b4⟩ := pickN (n + 18) ns hl (20 * i + 3) 20 (by omega) (by omega) (by omega)
  obtain ⟨v5, e5, a5, b5⟩ := pickN (n + 18) ns hl (20 * i + 4) 2 (by omega) (by omega) (by omega)
  have w1 := wayD_get v1 a1 b1
  have iw : imm (wayD v1.toNat) = true := by
    unfold wayD
    split <;> rfl
  rw [body_eq]
  have q1 : S0 (callN recs (n + 19)) [.val false (.list (ns.map .int)), .val false (.int i), j2, j3, j4, j5, j6, j7, j8, j9, j10, j11, j12, j13, j14, j15, j16] = .nx [.val false (.list (ns.map .int)), .val false (.int i), .val false (wayD v1.toNat), j3, j4, j5, j6, j7, j8, j9, j10, j11, j12, j13, j14, j15, j16] := by
    unfold S0
    walk_at "o"
    rw [e1]
    walk_at "o"
    rw [w1]
    walk_at "o"
    rw [iw]
    walk_at "o"
  rw [seq_nx q1]
  have q2 : S1 (callN recs (n + 19)) [.val false (.list (ns.map .int)), .val false (.int i), .val false (wayD v1.toNat), j3, j4, j5, j6, j7, j8, j9, j10, j11, j12, j13, j14, j15, j16] = .nx [.val false (.list (ns.map .int)), .val false (.int i), .val false (wayD v1.toNat), .val false (dW (1 + v2).toNat (decide (v3 = 0))), j4, j5, j6, j7, j8, j9, j10, j11, j12, j13, j14, j15, j16] := by
    unfold S1
    walk_at "o"
    rw [e2, e3]
    walk_at "o"
    unfold dW
    rw [show (((1 + v2).toNat : Nat) : Int) = 1 + v2 by omega]
  rw [seq_nx q2]
  obtain ⟨ρ, r1, r2, r3⟩ := seen_nx (small n (.list (ns.map .int)) (.int i) j4 j5 j6 j7 j8 j9 j10 j11 j12 j13 j14 j15 j16 v1.toNat (1 + v2).toNat (decide (v3 = 0)) (by omega) (by omega) (by omega))
  obtain ⟨c0, c1, c2, c3, c4, c5, c6, c7, c8, c9, c10, c11, c12, c13, c14, c15, c16, rfl⟩ := env17 r3
  simp only [List.take_succ_cons, List.take_zero, List.cons.injEq, and_true] at r2
  obtain ⟨rfl, rfl, rfl, rfl⟩ := r2
  rw [seq_nx r1]
  have q3 : S6 (callN recs (n + 19)) [.val false (.list (ns.map .int)), .val false (.int i), .val false (wayD v1.toNat), .val false (dW (1 + v2).toNat (decide (v3 = 0))), c4, c5, c6, c7, c8, c9, c10, c11, c12, c13, c14, c15, c16] = .nx [.val false (.list (ns.map .int)), .val false (.int i), .val false (wayD v1.toNat), .val false (dW (1 + v2).toNat (decide (v3 = 0))), c4, c5, c6, c7, c8, c9, c10, c11, c12, c13, .val false (dW (5 + v4).toNat (decide (v5 = 0))), c15, c16] := by
    unfold S6
    walk_at "o"
    rw [e4, e5]
    walk_at "o"
    unfold dW
    rw [show (((5 + v4).toNat : Nat) : Int) = 5 + v4 by omega]
  rw [seq_nx q3]
  obtain ⟨ρ, r1, r2, r3⟩ := seen_nx (large n (.list (ns.map .int)) (.int i) (dW (1 + v2).toNat (decide (v3 = 0))) c4 c5 c6 c7 c8 c9 c10 c11 c12 c13 c15 c16 v1.toNat (5 + v4).toNat (decide (v5 = 0)) (by omega) (by omega) (by omega))
  obtain ⟨d0, d1, d2, d3, d4, d5, d6, d7, d8, d9, d10, d11, d12, d13, d14, d15, d16, rfl⟩ := env17 r3
  simp only [List.take_succ_cons, List.take_zero, List.cons.injEq, and_true] at r2
  obtain ⟨rfl, rfl⟩ := r2
  rw [seq_nx r1]
  exact ⟨_, _, _, _, _, _, _, _, _, _, _, _, _, _, _, rfl⟩
theorem bNm {i : Nat} {d : D} {ρ : Env'} (h : imm d = true) : bName i d ρ = some (ρ.set i (.val false d)) := by
  show some (bindS i d ρ) = _
  rw [bindS_eq, if_pos h]
theorem law_true (n : Nat) (ns : List Int) (hl : ns.length ≤ 63) : callN recs (n + 20) 22 [.list (ns.map .int)] = .ok (.bool true) := by
  rw [E22]
  unfold B22
  walk_at "o"
  obtain ⟨p2, p3, p4, p5, p6, p7, p8, p9, p10, p11, p12, p13, p14, p15, p16, e⟩ := body n ns hl 0 (by omega) (by omega) .un .un .un .un .un .un .un .un .un .un .un .un .un .un .un
  obtain ⟨q2, q3, q4, q5, q6, q7, q8, q9, q10, q11, q12, q13, q14, q15, q16, e'⟩ := body n ns hl 1 (by omega) (by omega) p2 p3 p4 p5 p6 p7 p8 p9 p10 p11 p12 p13 p14 p15 p16
  have F : forGo (bName 1) (B22l0 (callN recs (n + 19))) (upFrom 0 2) [.val false (.list (ns.map .int)), .un, .un, .un, .un, .un, .un, .un, .un, .un, .un, .un, .un, .un, .un, .un, .un] = .nx [.val false (.list (ns.map .int)), .val false (.int 1), q2, q3, q4, q5, q6, q7, q8, q9, q10, q11, q12, q13, q14, q15, q16] := by
    rw [show upFrom 0 2 = [.int 0, .int 1] from rfl]
    unfold forGo
    rw [bNm rfl]
    simp only [List.set_cons_succ, List.set_cons_zero]
    rw [e]
    simp only
    unfold forGo
    rw [bNm rfl]
    simp only [List.set_cons_succ, List.set_cons_zero]
    rw [e']
    simp only
    unfold forGo
    rfl
  rw [F]
  walk_at "o"

end K64

open PySem PySem.W PySem.Calls
theorem PySem.Challenge.cw_safesums_k64_whole_means_holds : PySem.Challenge.rw_safesums_k64_whole_means.Holds := by
  w_on; o_law
  refine HandSHeadRun.head_any (r := OpenLaw.row PySem.Challenge.rw_safesums_k64_whole_means) (q := view (OpenLaw.row PySem.Challenge.rw_safesums_k64_whole_means).prog [36]) (H := K64.hk) (ob := K64.ob) (M := 8000) (loose := K64.loose) (d := HandSHeadRun.topDef (OpenLaw.row PySem.Challenge.rw_safesums_k64_whole_means).prog 36) (kwd := []) K64.ob_eq
    (by kernel_rfl) (fun s => by kernel_rfl) K64.run (by kernel_rfl) (by kernel_rfl) (by kernel_rfl) (by rfl) (by first | assumption | decide +kernel) (by decide +kernel) ⟨rfl, rfl, rfl, rfl, rfl, by decide +kernel⟩ ?hw ?hc
  case hw => w_witness2
  case hc =>
    refine Py.walkE (l := PySem.Challenge.rw_safesums_k64_whole_means) (m := 63) (k := 200) (CW := fun w => L2.CX (OpenLaw.row PySem.Challenge.rw_safesums_k64_whole_means).prog w) (x := "script") rfl (by decide) (by kernel_rfl) ⟨rfl, by decide, by decide⟩ ?F (fun _ _ _ _ _ z => (by obtain ⟨_, _, _, _, _, _, _, _, _, _, _, _, z⟩ := z; exact z.elim))
    intro w mg fa h Y G hmg0
    obtain ⟨K, KX, c, d⟩ := Y
    have hmg : mg ("law" : PySem.Str) = some (.ref fa) := by
      have e : (HandSHeadRun.topDef (OpenLaw.row PySem.Challenge.rw_safesums_k64_whole_means).prog 36).name = ("law" : PySem.Str) := by kernel_rfl
      rw [← e]
      exact hmg0
    exact Py.law_end (T := K64.T) (i := 22) (r := K64.R22) (n := 199) K64.wf KX G c d rfl rfl rfl hmg (fun ns hl => K64.law_true 180 ns hl)
