import PyProof.Rows.All
import Wide.All
import OpenK.AllK
import Wide.FinOn
import HandS.ForMost
import HandS.ForExc
import HandS.Walk
import HandS.Zip
import HandS.TupAny
import HandS.TupMul
import HandS.IsInst
import HandS.Style
import HandS.Flow
import HandS.HotCalls
import HandS.ExcIs
import KE.SortData
import KE.DataMinMax
import KE.DataFind
import KE.DataAny
import KE.DataIsa
import HandS.Deep
import HandS.Conv
import KE.GoesNew
import KE.KDictZip
import KE.KDictItemsList
import KE.KTupSum
import HandS.Text
import HandS.SetFor
import HandS.Dict
import HandS.More
import HandS.Ends
import PySem.Challenge.RW_duewheels_k78_serving
set_option Elab.async false
set_option maxRecDepth 100000
set_option maxHeartbeats 4000000
set_option linter.all false
/-! The data layer, part A: data, results, how data stand in the abstract heap. -/
namespace DW
open PySem PySem.Spec PyProof.Rows L2

abbrev D := PyData
abbrev St := L2.St

/-- a result: a value, an exception of a class (by its name), or nothing known -/
inductive R (α : Type) where
  | ok (a : α)
  | exn (c : Str)
  | bad
def R.bind {α β : Type} (r : R α) (f : α → R β) : R β := match r with
  | .ok a => f a
  | .exn c => .exn c
  | .bad => .bad
instance : Monad R where
  pure := R.ok
  bind := R.bind
@[simp] theorem R.bind_ok {α β : Type} (a : α) (f : α → R β) : R.bind (.ok a) f = f a := rfl
@[simp] theorem R.bind_exn {α β : Type} (c : Str) (f : α → R β) : R.bind (.exn c) f = .exn c := rfl
@[simp] theorem R.bind_bad {α β : Type} (f : α → R β) : R.bind .bad f = .bad := rfl
@[simp] theorem R.do_ok {α β : Type} (a : α) (f : α → R β) : (R.ok a >>= f) = f a := rfl
@[simp] theorem R.do_exn {α β : Type} (c : Str) (f : α → R β) : ((R.exn c : R α) >>= f) = .exn c := rfl
@[simp] theorem R.do_bad {α β : Type} (f : α → R β) : ((R.bad : R α) >>= f) = .bad := rfl

def kD : Key → D
  | .inl i => .int i
  | .inr x => .str x

/-- the script: a datum that no other thing is -/
def scriptD (ns : List Int) : D := .dict ((.none, .none) :: ns.map fun i => (.int i, .none))

mutual
/-- the value v stands for the datum d in H -/
inductive Rp (K : PySem.W.Frag) (H : Hp) : V → D → Prop
  | non : Rp K H .non .none
  | bl (b : Bool) : Rp K H (.bl b) (.bool b)
  | int (i : Int) : Rp K H (.int i) (.int i)
  | str (x : Str) : Rp K H (.str x) (.str x)
  | lst {a : Addr} {xs : List V} {ds : List D} : H a = some (.lst xs) → RpL K H xs ds → ds.length ≤ sizeLine → Rp K H (.ref a) (.list ds)
  | tup {a : Addr} {xs : List V} {ds : List D} : H a = some (.tup xs) → RpL K H xs ds → ds.length ≤ sizeLine → Rp K H (.ref a) (.tuple ds)
  | dct {a : Addr} {kvs : List (Key × V)} {ds : List (D × D)} : H a = some (.dK kvs) → RpK K H kvs ds → ds.length ≤ sizeLine → Rp K H (.ref a) (.dict ds)
  | scr {a : Addr} {ns : List Int} : SqL K H a (ns.map V.int) → ns.length ≤ 63 → Rp K H (.ref a) (scriptD ns)
inductive RpL (K : PySem.W.Frag) (H : Hp) : List V → List D → Prop
  | nil : RpL K H [] []
  | cons {v : V} {vs : List V} {d : D} {ds : List D} : Rp K H v d → RpL K H vs ds → RpL K H (v :: vs) (d :: ds)
inductive RpK (K : PySem.W.Frag) (H : Hp) : List (Key × V) → List (D × D) → Prop
  | nil : RpK K H [] []
  | cons {k : Key} {v : V} {kvs : List (Key × V)} {d : D} {ds : List (D × D)} : Rp K H v d → RpK K H kvs ds → RpK K H ((k, v) :: kvs) ((kD k, d) :: ds)
end

theorem Same.seqT {K : PySem.W.Frag} {H H' : Hp} {a : Addr} {xs : List V} (e : Same H H') (h : SqT K H a xs) : SqT K H' a xs := by
  rcases h with (h | ⟨o, h⟩) | h
  · exact .inl (.inl (e _ _ h))
  · exact .inl (.inr ⟨o, e _ _ h⟩)
  · exact .inr h

section
variable {K : PySem.W.Frag} {H H' : Hp}
mutual
theorem Rp.mono (s : Same H H') : ∀ {v : V} {d : D}, Rp K H v d → Rp K H' v d
  | _, _, .non => .non
  | _, _, .bl b => .bl b
  | _, _, .int i => .int i
  | _, _, .str x => .str x
  | _, _, .lst q r z => .lst (s _ _ q) (RpL.mono s r) z
  | _, _, .tup q r z => .tup (s _ _ q) (RpL.mono s r) z
  | _, _, .dct q r z => .dct (s _ _ q) (RpK.mono s r) z
  | _, _, .scr q z => .scr (s.seq q) z
theorem RpL.mono (s : Same H H') : ∀ {v : List V} {d : List D}, RpL K H v d → RpL K H' v d
  | _, _, .nil => .nil
  | _, _, .cons a b => .cons (Rp.mono s a) (RpL.mono s b)
theorem RpK.mono (s : Same H H') : ∀ {v : List (Key × V)} {d : List (D × D)}, RpK K H v d → RpK K H' v d
  | _, _, .nil => .nil
  | _, _, .cons a b => .cons (Rp.mono s a) (RpK.mono s b)
end
mutual
theorem Rp.dp : ∀ {v : V} {d : D}, Rp K H v d → d.canLay0 = true → Dp K H v d
  | _, _, .non, _ => .non
  | _, _, .bl b, _ => .bl b
  | _, _, .int i, _ => .int i
  | _, _, .str x, _ => .str x
  | _, _, .lst q r _, h => .lst (SqL.of q) (RpL.dp r (by simpa [PyData.canLay0] using h))
  | _, _, .tup q r _, h => .tup (SqT.of q) (RpL.dp r (by simpa [PyData.canLay0] using h))
  | _, _, .dct q r _, h => by simp [PyData.canLay0] at h
  | _, _, .scr q _, h => by simp [PyData.canLay0, scriptD] at h
theorem RpL.dp : ∀ {v : List V} {d : List D}, RpL K H v d → PyData.canLayAll0 d = true → DpAll K H v d
  | _, _, .nil, _ => .nil
  | _, _, .cons a b, h => by
    rw [PyData.canLayAll0, Bool.and_eq_true] at h
    exact .cons (Rp.dp a h.1) (RpL.dp b h.2)
end
theorem RpL.length : ∀ {v : List V} {d : List D}, RpL K H v d → v.length = d.length
  | _, _, .nil => rfl
  | _, _, .cons _ b => by rw [List.length_cons, List.length_cons, RpL.length b]
theorem RpL.append : ∀ {v : List V} {d : List D} {v' : List V} {d' : List D}, RpL K H v d → RpL K H v' d' → RpL K H (v ++ v') (d ++ d')
  | _, _, _, _, .nil, h => h
  | _, _, _, _, .cons a b, h => .cons a (RpL.append b h)
theorem RpL.get : ∀ {v : List V} {d : List D} {i : Nat} {x : D}, RpL K H v d → d[i]? = some x → ∃ y, v[i]? = some y ∧ Rp K H y x
  | _, _, i, x, .nil, h => by simp at h
  | _, _, 0, x, .cons a b, h => ⟨_, rfl, by simp at h; subst h; exact a⟩
  | _, _, i + 1, x, .cons a b, h => by
    obtain ⟨y, h1, h2⟩ := RpL.get (i := i) (x := x) b (by simpa using h)
    exact ⟨y, by simpa using h1, h2⟩
theorem RpL.getV : ∀ {v : List V} {d : List D} {i : Nat} {x : V}, RpL K H v d → v[i]? = some x → ∃ y, d[i]? = some y ∧ Rp K H x y
  | _, _, i, x, .nil, h => by simp at h
  | _, _, 0, x, .cons a b, h => ⟨_, rfl, by simp at h; subst h; exact a⟩
  | _, _, i + 1, x, .cons a b, h => by
    obtain ⟨y, h1, h2⟩ := RpL.getV (i := i) (x := x) b (by simpa using h)
    exact ⟨y, by simpa using h1, h2⟩
theorem RpL.take : ∀ {v : List V} {d : List D} (n : Nat), RpL K H v d → RpL K H (v.take n) (d.take n)
  | _, _, 0, _ => .nil
  | _, _, _ + 1, .nil => .nil
  | _, _, n + 1, .cons a b => .cons a (RpL.take n b)
theorem RpL.drop : ∀ {v : List V} {d : List D} (n : Nat), RpL K H v d → RpL K H (v.drop n) (d.drop n)
  | _, _, 0, h => h
  | _, _, _ + 1, .nil => .nil
  | _, _, n + 1, .cons _ b => RpL.drop n b
theorem RpL.reverse : ∀ {v : List V} {d : List D}, RpL K H v d → RpL K H v.reverse d.reverse
  | _, _, .nil => .nil
  | _, _, .cons a b => by
    rw [List.reverse_cons, List.reverse_cons]
    exact (RpL.reverse b).append (.cons a .nil)
theorem RpL.rep {v : List V} {d : List D} (h : RpL K H v d) : ∀ n : Nat, RpL K H (List.replicate n v).flatten (List.replicate n d).flatten
  | 0 => .nil
  | n + 1 => by
    rw [List.replicate_succ, List.replicate_succ, List.flatten_cons, List.flatten_cons]
    exact h.append (RpL.rep h n)
theorem RpL.ints : ∀ ns : List Int, RpL K H (ns.map V.int) (ns.map PyData.int)
  | [] => .nil
  | n :: ns => .cons (.int n) (RpL.ints ns)
theorem RpL.nilD {v : List V} (h : RpL K H v []) : v = [] := by cases h; rfl
theorem RpL.set : ∀ {v : List V} {d : List D} {x : V} {y : D} (i : Nat), RpL K H v d → Rp K H x y → RpL K H (v.set i x) (d.set i y)
  | _, _, _, _, _, .nil, _ => .nil
  | _, _, _, _, 0, .cons a b, r => .cons r b
  | _, _, _, _, i + 1, .cons a b, r => .cons a (RpL.set i b r)
end

/-- the heaps grow: F the frozen part, H all -/
structure Ext (F H F' H' : Hp) : Prop where
  ff : Same F F'
  hh : Same H H'
  fh : Same F' H'
  fr : ∀ a o, F' a = some o → F a = some o ∨ H a = none
theorem Ext.refl {F H : Hp} (s : Same F H) : Ext F H F H := ⟨Same.refl _, Same.refl _, s, fun _ _ h => .inl h⟩
theorem Ext.trans {F H F1 H1 F2 H2 : Hp} (a : Ext F H F1 H1) (b : Ext F1 H1 F2 H2) : Ext F H F2 H2 :=
  ⟨a.ff.trans b.ff, a.hh.trans b.hh, b.fh, fun c o h => by
    rcases b.fr c o h with h | h
    · exact a.fr c o h
    · exact .inr (a.hh.free h)⟩
theorem Same.upd {F H : Hp} {p : Addr} {o : HO} (s : Same F H) : Same (upd F p o) (upd H p o) := fun b u h => by
  by_cases e : b = p
  · subst e; rw [upd_same] at h ⊢; exact h
  · rw [upd_ne e] at h ⊢; exact s _ _ h
theorem Same.new {H : Hp} {p : Addr} {o : HO} (h : H p = none) : Same H (L2.upd H p o) := fun b u e => by
  rw [upd_ne (ne_of_none e h)]; exact e
/-- a new frozen object -/
theorem Ext.new {F H : Hp} {p : Addr} {o : HO} (s : Same F H) (h : H p = none) : Ext F H (L2.upd F p o) (L2.upd H p o) :=
  ⟨Same.new (s.free h), Same.new h, Same.upd s, fun a u e => by
    by_cases q : a = p
    · subst q; exact .inr h
    · rw [upd_ne q] at e; exact .inl e⟩
/-- a new object that is not frozen -/
theorem Ext.own {F H : Hp} {p : Addr} {o : HO} (s : Same F H) (h : H p = none) : Ext F H F (L2.upd H p o) :=
  ⟨Same.refl _, Same.new h, s.trans (Same.new h), fun _ _ e => .inl e⟩
/-- a new list of data, frozen -/
theorem Rp.newL {K : PySem.W.Frag} {F H : Hp} {p : Addr} {xs : List V} {ds : List D} (s : Same F H) (h : H p = none) (r : RpL K F xs ds) (z : ds.length ≤ sizeLine) : Rp K (L2.upd F p (.lst xs)) (.ref p) (.list ds) :=
  .lst upd_same (r.mono (Same.new (s.free h))) z
theorem Rp.newT {K : PySem.W.Frag} {F H : Hp} {p : Addr} {xs : List V} {ds : List D} (s : Same F H) (h : H p = none) (r : RpL K F xs ds) (z : ds.length ≤ sizeLine) : Rp K (L2.upd F p (.tup xs)) (.ref p) (.tuple ds) :=
  .tup upd_same (r.mono (Same.new (s.free h))) z
end DW
/-! The data layer, part B: slots, what is wanted of a result, the judgements. -/
namespace DW
open PySem PySem.Spec PyProof.Rows L2

/-- a slot: unset, a shared datum, a list or a dict that this def alone holds -/
inductive Sl where
  | un
  | sh (d : D)
  | ol (ds : List D)
  | od (kvs : List (D × D))
  | rf (a : Addr)
abbrev Sls := List Sl

def lk (δ : Sls) (i : Nat) : R D := match δ[i]? with
  | some (.sh d) => .ok d
  | _ => .bad

/-- slot i holds a list, a dict of its own at a -/
def Own (K : PySem.W.Frag) (F H : Hp) (σ : St) (δ : Sls) (i : Nat) (a : Addr) : Prop :=
  σ[i]? = some (some (.ref a)) ∧ F a = none ∧ match δ[i]? with
    | some (.ol ds) => ∃ vs, H a = some (.lst vs) ∧ RpL K F vs ds ∧ ds.length ≤ sizeLine
    | some (.od kvs) => ∃ vs, H a = some (.dK vs) ∧ RpK K F vs kvs ∧ kvs.length ≤ sizeLine
    | _ => False

def isOwn : Option Sl → Prop
  | some (.ol _) => True
  | some (.od _) => True
  | _ => False

structure RS (K : PySem.W.Frag) (F H : Hp) (σ : St) (δ : Sls) : Prop where
  same : Same F H
  len : σ.length = δ.length
  sh : ∀ (i : Nat) (d : D), δ[i]? = some (.sh d) → ∃ v, σ[i]? = some (some v) ∧ Rp K F v d
  rf : ∀ (i : Nat) (a : Addr), δ[i]? = some (.rf a) → σ[i]? = some (some (.ref a))
  own : ∀ (i : Nat), isOwn δ[i]? → ∃ a, Own K F H σ δ i a
  apart : ∀ (i j : Nat) (a : Addr), isOwn δ[i]? → isOwn δ[j]? → σ[i]? = some (some (.ref a)) → σ[j]? = some (some (.ref a)) → i = j

section
variable {K : PySem.W.Frag} {F H F' H' : Hp} {σ : St} {δ : Sls}
theorem RS.ext (r : RS K F H σ δ) (e : Ext F H F' H') : RS K F' H' σ δ := by
  refine ⟨e.fh, r.len, fun i d h => ?_, r.rf, fun i h => ?_, r.apart⟩
  · obtain ⟨v, h1, h2⟩ := r.sh i d h
    exact ⟨v, h1, h2.mono e.ff⟩
  · obtain ⟨a, h1, h2, h3⟩ := r.own i h
    have nf : ∀ o, H a = some o → F' a = none := fun o q => by
      cases z : F' a with
      | none => rfl
      | some u =>
        rcases e.fr a u z with z | z
        · rw [h2] at z; cases z
        · rw [q] at z; cases z
    match q : δ[i]?, h3 with
    | some (.ol ds), h3 =>
      obtain ⟨vs, q1, q2, q3⟩ := h3
      exact ⟨a, h1, nf _ q1, by rw [q]; exact ⟨vs, e.hh _ _ q1, q2.mono e.ff, q3⟩⟩
    | some (.od ds), h3 =>
      obtain ⟨vs, q1, q2, q3⟩ := h3
      exact ⟨a, h1, nf _ q1, by rw [q]; exact ⟨vs, e.hh _ _ q1, q2.mono e.ff, q3⟩⟩
end

/-- what is wanted behind: of a value, of an exception -/
def Post {α β : Type} (mg : Str → Option Value) (W : WX) (σ : St) (rel : Hp → β → α → Prop) (F H : Hp) (r : R α) (Q : β → Hp → Prop) : Prop := match r with
  | .ok a => ∀ b F' H', Ext F H F' H' → rel F' b a → Q b H'
  | .exn c => ∀ F' H', Ext F H F' H' → ∀ u, mg c = some u → W u none σ H'
  | .bad => False
section
variable {α β γ ε : Type} {mg : Str → Option Value} {W : WX} {σ : St} {rel : Hp → β → α → Prop} {rel' : Hp → ε → γ → Prop} {F H F' H' : Hp}
theorem Post.ext {r : R α} {Q : β → Hp → Prop} (e : Ext F H F' H') (h : Post mg W σ rel F H r Q) : Post mg W σ rel F' H' r Q := by
  cases r with
  | ok a => exact fun b F2 H2 e2 q => h b F2 H2 (e.trans e2) q
  | exn c => exact fun F2 H2 e2 => h F2 H2 (e.trans e2)
  | bad => exact h
theorem Post.seq {r : R α} {k : α → R γ} {Q1 : β → Hp → Prop} {Q : ε → Hp → Prop} (h : Post mg W σ rel' F H (R.bind r k) Q)
    (g : ∀ b a F' H', Ext F H F' H' → rel F' b a → Post mg W σ rel' F' H' (k a) Q → Q1 b H') : Post mg W σ rel F H r Q1 := by
  cases r with
  | ok a => exact fun b F2 H2 e2 q => g b a F2 H2 e2 q (Post.ext e2 h)
  | exn c => exact h
  | bad => exact h
theorem Post.mono {r : R α} {Q Q' : β → Hp → Prop} (h : Post mg W σ rel F H r Q) (g : ∀ b H', Q b H' → Q' b H') : Post mg W σ rel F H r Q' := by
  cases r with
  | ok a => exact fun b F2 H2 e2 q => g _ _ (h b F2 H2 e2 q)
  | exn c => exact h
  | bad => exact h
/-- where the heaps stand as they are -/
theorem Post.here {a : α} {b : β} {Q : β → Hp → Prop} (s : Same F H) (h : Post mg W σ rel F H (.ok a) Q) (r : rel F b a) : Q b H := h b F H (Ext.refl s) r
end

/-- an expression is worth f -/
def DE (X : Cx) (W : WX) (e : Expr) (f : Sls → R D) : Prop :=
  ∃ t, PE X e t ∧ ∀ (σ : St) (F H : Hp) (δ : Sls) (Q : VK), RS X.K F H σ δ → Post X.mg W σ (Rp X.K) F H (f δ) Q → t σ H Q
def DA (X : Cx) (W : WX) (es : List Expr) (f : Sls → R (List D)) : Prop :=
  ∃ t, PA X es t ∧ ∀ (σ : St) (F H : Hp) (δ : Sls) (Q : List V → Hp → Prop), RS X.K F H σ δ → Post X.mg W σ (RpL X.K) F H (f δ) Q → t σ H Q
def DT (X : Cx) (W : WX) (e : Expr) (f : Sls → R Bool) : Prop :=
  ∃ t, PT X e t ∧ ∀ (σ : St) (F H : Hp) (δ : Sls) (Q : Bool → Hp → Prop), RS X.K F H σ δ → Post X.mg W σ (fun _ b c => b = c) F H (f δ) Q → t σ H Q
/-- and, or: whatever the whole is -/
def DW' (X : Cx) (W : WX) (e : Expr) (f : Sls → R Bool) : Prop :=
  ∃ t, PW X e t ∧ ∀ (σ : St) (F H : Hp) (δ : Sls) (Q : Bool → Hp → Prop), RS X.K F H σ δ → Post X.mg W σ (fun _ b c => b = c) F H (f δ) Q → t σ H Q

def asB : D → R Bool
  | .bool b => .ok b
  | _ => .bad

section
variable {X : Cx} {W : WX}
theorem de_var {i : Nat} {x : Str} {pos : Pos} (hN : X.N[i]? = some x) (hv : Vis X.env.scope x) (hd : (x == ("__debug__" : Str)) = false) (hcd : (x == ("__classdict__" : Str)) = false) : DE X W (.Name x pos) (fun δ => lk δ i) := by
  refine ⟨_, pe_var hN hv hd hcd, fun σ F H δ Q r h => ?_⟩
  have h : Post X.mg W σ (Rp X.K) F H (lk δ i) Q := h
  unfold lk at h
  split at h
  · rename_i d q
    obtain ⟨v, h1, h2⟩ := r.sh i d q
    exact ⟨v, h1, Post.here r.same h h2⟩
  · exact h.elim
theorem de_c {e : Expr} {v : V} {d : D} (h : PE X e (tC v)) (r : ∀ F, Rp X.K F v d) : DE X W e (fun _ => .ok d) :=
  ⟨_, h, fun σ F H δ Q rs h => Post.here rs.same h (r F)⟩

/-- an operation on two data -/
def OpD (X : Cx) (f : Value → Value → Sem Value) (g : D → D → R D) : Prop :=
  ∃ r, OpR X f r ∧ ∀ (mg : Str → Option Value) (W : WX) (σ : St) (x y : V) (d e : D) (F H : Hp) (Q : VK), Same F H → Rp X.K F x d → Rp X.K F y e → Post mg W σ (Rp X.K) F H (g d e) Q → r x y H Q
variable {a b c : Expr} {f g k : Sls → R D} {pos : Pos}
theorem bin2 {ta tb : TE} {r : R2} {o : D → D → R D} {σ : St} {F H : Hp} {δ : Sls} {Q : VK}
    (ha : ∀ (σ : St) (F H : Hp) (δ : Sls) (Q : VK), RS X.K F H σ δ → Post X.mg W σ (Rp X.K) F H (f δ) Q → ta σ H Q)
    (hb : ∀ (σ : St) (F H : Hp) (δ : Sls) (Q : VK), RS X.K F H σ δ → Post X.mg W σ (Rp X.K) F H (g δ) Q → tb σ H Q)
    (ho : ∀ (mg : Str → Option Value) (W : WX) (σ : St) (x y : V) (d e : D) (F H : Hp) (Q : VK), Same F H → Rp X.K F x d → Rp X.K F y e → Post mg W σ (Rp X.K) F H (o d e) Q → r x y H Q)
    (rs : RS X.K F H σ δ) (h : Post X.mg W σ (Rp X.K) F H ((f δ).bind fun x => (g δ).bind fun y => o x y) Q) : tOp r ta tb σ H Q := by
  refine ha σ F H δ _ rs (Post.seq h fun x d F1 H1 e1 r1 h1 => ?_)
  refine hb σ F1 H1 δ _ (rs.ext e1) (Post.seq h1 fun y e F2 H2 e2 r2 h2 => ?_)
  exact ho _ _ _ x y d e F2 H2 Q e2.fh (r1.mono e2.ff) r2 h2
theorem de_bin {op : Operator} {o : D → D → R D} (ho : OpD X (binaryOp op) o) (ha : DE X W a f) (hb : DE X W b g) : DE X W (.BinOp a op b pos) (fun δ => (f δ).bind fun x => (g δ).bind fun y => o x y) := by
  obtain ⟨r, h0, h1⟩ := ho
  obtain ⟨ta, pa, ha⟩ := ha
  obtain ⟨tb, pb, hb⟩ := hb
  exact ⟨_, pe_op h0 pa pb, fun σ F H δ Q rs h => bin2 ha hb h1 rs h⟩
theorem de_cmp {op : CmpOp} {o : D → D → R D} (ho : OpD X (compareOp op) o) (ha : DE X W a f) (hb : DE X W b g) (hm : behindInMarks op b = false) : DE X W (.Compare a [op] [b] pos) (fun δ => (f δ).bind fun x => (g δ).bind fun y => o x y) := by
  obtain ⟨r, h0, h1⟩ := ho
  obtain ⟨ta, pa, ha⟩ := ha
  obtain ⟨tb, pb, hb⟩ := hb
  exact ⟨_, pe_cmpR h0 pa pb hm, fun σ F H δ Q rs h => bin2 ha hb h1 rs h⟩
/-- a bool's value as a test -/
theorem post_asB {t : TE} {σ : St} {F H : Hp} {δ : Sls} {Q : Bool → Hp → Prop}
    (ha : ∀ (σ : St) (F H : Hp) (δ : Sls) (Q : VK), RS X.K F H σ δ → Post X.mg W σ (Rp X.K) F H (f δ) Q → t σ H Q)
    (rs : RS X.K F H σ δ) (h : Post X.mg W σ (fun _ (b : Bool) c => b = c) F H ((f δ).bind asB) Q) : t σ H fun x H1 => ∃ c, x = .bl c ∧ Q c H1 := by
  refine ha σ F H δ _ rs (Post.seq h fun x d F1 H1 e1 r1 h1 => ?_)
  cases r1 with
  | bl c => exact ⟨c, rfl, Post.here e1.fh h1 rfl⟩
  | _ => exact h1.elim
theorem dt_cmp {op : CmpOp} {o : D → D → R D} (ho : OpD X (compareOp op) o) (ha : DE X W a f) (hb : DE X W b g) (hm : behindInMarks op b = false) : DT X W (.Compare a [op] [b] pos) (fun δ => ((f δ).bind fun x => (g δ).bind fun y => o x y).bind asB) := by
  obtain ⟨r, h0, h1⟩ := ho
  obtain ⟨ta, pa, ha⟩ := ha
  obtain ⟨tb, pb, hb⟩ := hb
  refine ⟨_, pt_cmpR h0 pa pb hm, fun σ F H δ Q rs h => ?_⟩
  exact post_asB (f := fun δ => (f δ).bind fun x => (g δ).bind fun y => o x y) (t := tOp r ta tb) (fun σ F H δ Q rs h => bin2 ha hb h1 rs h) rs h
theorem dt_val (ha : DE X W a f) (he : ∀ whole, isTrue a X.env whole = (do let v ← whole; standAt a.pos; holding [v] (truthy v))) : DT X W a (fun δ => (f δ).bind asB) := by
  obtain ⟨ta, pa, ha⟩ := ha
  exact ⟨_, pt_val pa he, fun σ F H δ Q rs h => post_asB ha rs h⟩
variable {p q : Sls → R Bool}
theorem dt_not (ha : DT X W a p) : DT X W (.UnaryOp .Not a pos) (fun δ => (p δ).bind fun c => .ok (!c)) := by
  obtain ⟨ta, pa, ha⟩ := ha
  refine ⟨_, pt_not pa, fun σ F H δ Q rs h => ?_⟩
  refine ha σ F H δ _ rs (Post.seq h fun x d F1 H1 e1 r1 h1 => ?_)
  subst r1
  exact Post.here e1.fh h1 rfl
theorem dw_and1 (ha : DT X W a p) : DW' X W (.BoolOp .And [a] pos) p := by
  obtain ⟨ta, pa, ha⟩ := ha
  exact ⟨_, pw_and1 pa, ha⟩
theorem dw_or1 (ha : DT X W a p) : DW' X W (.BoolOp .Or [a] pos) p := by
  obtain ⟨ta, pa, ha⟩ := ha
  exact ⟨_, pw_or1 pa, ha⟩
theorem dw_and {rest : List Expr} (ha : DT X W a p) (hb : DW' X W (.BoolOp .And (b :: rest) pos) q) : DW' X W (.BoolOp .And (a :: b :: rest) pos) (fun δ => (p δ).bind fun c => if c then q δ else .ok false) := by
  obtain ⟨ta, pa, ha⟩ := ha
  obtain ⟨tb, pb, hb⟩ := hb
  refine ⟨_, pw_and pa pb, fun σ F H δ Q rs h => ?_⟩
  refine ha σ F H δ _ rs (Post.seq h fun x d F1 H1 e1 r1 h1 => ?_)
  subst r1
  cases x with
  | true => exact iteT (hb σ F1 H1 δ _ (rs.ext e1) h1)
  | false => exact iteF (Post.here e1.fh h1 rfl)
theorem dw_or {rest : List Expr} (ha : DT X W a p) (hb : DW' X W (.BoolOp .Or (b :: rest) pos) q) : DW' X W (.BoolOp .Or (a :: b :: rest) pos) (fun δ => (p δ).bind fun c => if c then .ok true else q δ) := by
  obtain ⟨ta, pa, ha⟩ := ha
  obtain ⟨tb, pb, hb⟩ := hb
  refine ⟨_, pw_or pa pb, fun σ F H δ Q rs h => ?_⟩
  refine ha σ F H δ _ rs (Post.seq h fun x d F1 H1 e1 r1 h1 => ?_)
  subst r1
  cases x with
  | true => exact iteT (Post.here e1.fh h1 rfl)
  | false => exact iteF (hb σ F1 H1 δ _ (rs.ext e1) h1)
theorem DW'.dt (h : DW' X W a p) : DT X W a p := by
  obtain ⟨t, h1, h2⟩ := h
  exact ⟨t, h1.pt, h2⟩
/-- .. as values -/
theorem de_one {op : BoolOp} (ha : DE X W a f) : DE X W (.BoolOp op [a] pos) f := by
  obtain ⟨ta, pa, ha⟩ := ha
  exact ⟨_, pe_one pa, ha⟩
theorem de_and {rest : List Expr} (ha : DE X W a f) (hb : DE X W (.BoolOp .And (b :: rest) pos) g) : DE X W (.BoolOp .And (a :: b :: rest) pos) (fun δ => (f δ).bind fun x => (asB x).bind fun c => if c then g δ else .ok (.bool false)) := by
  obtain ⟨ta, pa, ha⟩ := ha
  obtain ⟨tb, pb, hb⟩ := hb
  refine ⟨_, pe_and pa pb, fun σ F H δ Q rs h => ?_⟩
  refine ha σ F H δ _ rs (Post.seq h fun x d F1 H1 e1 r1 h1 => ?_)
  cases r1 with
  | bl c =>
    refine ⟨c, rfl, ?_⟩
    cases c with
    | true => exact iteT (hb σ F1 H1 δ _ (rs.ext e1) h1)
    | false => exact iteF (Post.here e1.fh h1 (.bl false))
  | _ => exact h1.elim
theorem de_or {rest : List Expr} (ha : DE X W a f) (hb : DE X W (.BoolOp .Or (b :: rest) pos) g) : DE X W (.BoolOp .Or (a :: b :: rest) pos) (fun δ => (f δ).bind fun x => (asB x).bind fun c => if c then .ok (.bool true) else g δ) := by
  obtain ⟨ta, pa, ha⟩ := ha
  obtain ⟨tb, pb, hb⟩ := hb
  refine ⟨_, pe_or pa pb, fun σ F H δ Q rs h => ?_⟩
  refine ha σ F H δ _ rs (Post.seq h fun x d F1 H1 e1 r1 h1 => ?_)
  cases r1 with
  | bl c =>
    refine ⟨c, rfl, ?_⟩
    cases c with
    | true => exact iteT (Post.here e1.fh h1 (.bl true))
    | false => exact iteF (hb σ F1 H1 δ _ (rs.ext e1) h1)
  | _ => exact h1.elim
theorem de_not (ha : DE X W a f) : DE X W (.UnaryOp .Not a pos) (fun δ => (f δ).bind fun x => (asB x).bind fun c => .ok (.bool (!c))) := by
  obtain ⟨ta, pa, ha⟩ := ha
  refine ⟨_, pe_not pa, fun σ F H δ Q rs h => ?_⟩
  refine ha σ F H δ _ rs (Post.seq h fun x d F1 H1 e1 r1 h1 => ?_)
  cases r1 with
  | bl c => exact ⟨c, rfl, Post.here e1.fh h1 (.bl _)⟩
  | _ => exact h1.elim
theorem de_ite (hc : DT X W c p) (ha : DE X W a f) (hb : DE X W b g) : DE X W (.IfExp c a b pos) (fun δ => (p δ).bind fun t => if t then f δ else g δ) := by
  obtain ⟨tc, pc, hc⟩ := hc
  obtain ⟨ta, pa, ha⟩ := ha
  obtain ⟨tb, pb, hb⟩ := hb
  refine ⟨_, pe_ifExp pc pa pb, fun σ F H δ Q rs h => ?_⟩
  refine hc σ F H δ _ rs (Post.seq h fun x d F1 H1 e1 r1 h1 => ?_)
  subst r1
  cases x with
  | true => exact iteT (ha σ F1 H1 δ _ (rs.ext e1) h1)
  | false => exact iteF (hb σ F1 H1 δ _ (rs.ext e1) h1)
/-- a op b op' c -/
theorem chain2 {ta tb tc : TE} {r r' : R2} {o o' : D → D → R D} {σ : St} {F H : Hp} {δ : Sls} {Q : VK}
    (ha : ∀ (σ : St) (F H : Hp) (δ : Sls) (Q : VK), RS X.K F H σ δ → Post X.mg W σ (Rp X.K) F H (f δ) Q → ta σ H Q)
    (hb : ∀ (σ : St) (F H : Hp) (δ : Sls) (Q : VK), RS X.K F H σ δ → Post X.mg W σ (Rp X.K) F H (g δ) Q → tb σ H Q)
    (hc : ∀ (σ : St) (F H : Hp) (δ : Sls) (Q : VK), RS X.K F H σ δ → Post X.mg W σ (Rp X.K) F H (k δ) Q → tc σ H Q)
    (h1 : ∀ (mg : Str → Option Value) (W : WX) (σ : St) (x y : V) (d e : D) (F H : Hp) (Q : VK), Same F H → Rp X.K F x d → Rp X.K F y e → Post mg W σ (Rp X.K) F H (o d e) Q → r x y H Q)
    (h1' : ∀ (mg : Str → Option Value) (W : WX) (σ : St) (x y : V) (d e : D) (F H : Hp) (Q : VK), Same F H → Rp X.K F x d → Rp X.K F y e → Post mg W σ (Rp X.K) F H (o' d e) Q → r' x y H Q)
    (rs : RS X.K F H σ δ) (h : Post X.mg W σ (Rp X.K) F H ((f δ).bind fun x => (g δ).bind fun y => (o x y).bind fun z => (asB z).bind fun t => if t then (k δ).bind fun w => o' y w else .ok (.bool false)) Q) : tChain r r' ta tb tc σ H Q := by
  refine ha σ F H δ _ rs (Post.seq h fun x d F1 H1 e1 r1 q1 => ?_)
  refine hb σ F1 H1 δ _ (rs.ext e1) (Post.seq q1 fun y e F2 H2 e2 r2 q2 => ?_)
  refine h1 _ _ _ x y d e F2 H2 _ e2.fh (r1.mono e2.ff) r2 (Post.seq q2 fun z u F3 H3 e3 r3 q3 => ?_)
  cases r3 with
  | bl t =>
    refine ⟨t, rfl, ?_⟩
    cases t with
    | true =>
      refine iteT (hc σ F3 H3 δ _ ((rs.ext (e1.trans e2)).ext e3) (Post.seq q3 fun w u F4 H4 e4 r4 q4 => ?_))
      exact h1' _ _ _ y w e u F4 H4 Q e4.fh (r2.mono (e3.ff.trans e4.ff)) r4 q4
    | false => exact iteF (Post.here e3.fh q3 (.bl false))
  | _ => exact q3.elim
theorem de_chain {op op' : CmpOp} {o o' : D → D → R D} (ho : OpD X (compareOp op) o) (ho' : OpD X (compareOp op') o') (ha : DE X W a f) (hb : DE X W b g) (hc : DE X W c k) (hm : behindInMarks op' c = false) :
    DE X W (.Compare a [op, op'] [b, c] pos) (fun δ => (f δ).bind fun x => (g δ).bind fun y => (o x y).bind fun z => (asB z).bind fun t => if t then (k δ).bind fun w => o' y w else .ok (.bool false)) := by
  obtain ⟨r, h0, h1⟩ := ho
  obtain ⟨r', h0', h1'⟩ := ho'
  obtain ⟨ta, pa, ha⟩ := ha
  obtain ⟨tb, pb, hb⟩ := hb
  obtain ⟨tc, pc, hc⟩ := hc
  exact ⟨_, pe_chain h0 h0' pa pb pc hm, fun σ F H δ Q rs h => chain2 ha hb hc h1 h1' rs h⟩
theorem dt_chain {op op' : CmpOp} {o o' : D → D → R D} (ho : OpD X (compareOp op) o) (ho' : OpD X (compareOp op') o') (ha : DE X W a f) (hb : DE X W b g) (hc : DE X W c k) (hm : behindInMarks op' c = false) :
    DT X W (.Compare a [op, op'] [b, c] pos) (fun δ => ((f δ).bind fun x => (g δ).bind fun y => (o x y).bind fun z => (asB z).bind fun t => if t then (k δ).bind fun w => o' y w else .ok (.bool false)).bind asB) := by
  obtain ⟨r, h0, h1⟩ := ho
  obtain ⟨r', h0', h1'⟩ := ho'
  obtain ⟨ta, pa, ha⟩ := ha
  obtain ⟨tb, pb, hb⟩ := hb
  obtain ⟨tc, pc, hc⟩ := hc
  refine ⟨_, pt_chain h0 h0' pa pb pc hm, fun σ F H δ Q rs h => ?_⟩
  exact post_asB (f := fun δ => (f δ).bind fun x => (g δ).bind fun y => (o x y).bind fun z => (asB z).bind fun t => if t then (k δ).bind fun w => o' y w else .ok (.bool false)) (t := tChain r r' ta tb tc)
    (fun σ F H δ Q rs h => chain2 ha hb hc h1 h1' rs h) rs h
/-- arguments -/
theorem da_nil : DA X W [] (fun _ => .ok []) := ⟨_, pa_nil, fun σ F H δ Q rs h => Post.here rs.same h .nil⟩
theorem da_cons {e : Expr} {es : List Expr} {fs : Sls → R (List D)} (ha : DE X W e f) (hr : DA X W es fs) (hs : starEach (e :: es) X.env = (false, eval e X.env) :: starEach es X.env) :
    DA X W (e :: es) (fun δ => (f δ).bind fun d => (fs δ).bind fun ds => .ok (d :: ds)) := by
  obtain ⟨ta, pa, ha⟩ := ha
  obtain ⟨tr, pr, hr⟩ := hr
  refine ⟨_, pa_cons pa pr hs, fun σ F H δ Q rs h => ?_⟩
  refine ha σ F H δ _ rs (Post.seq h fun x d F1 H1 e1 r1 q1 => ?_)
  refine hr σ F1 H1 δ _ (rs.ext e1) (Post.seq q1 fun y e F2 H2 e2 r2 q2 => ?_)
  exact Post.here e2.fh q2 (.cons (r1.mono e2.ff) r2)
/-- displays -/
def mkT (ds : List D) : R D := if ds.length ≤ sizeLine then .ok (.tuple ds) else .bad
def mkL (ds : List D) : R D := if ds.length ≤ sizeLine then .ok (.list ds) else .bad
variable {es : List Expr} {fs : Sls → R (List D)}
theorem post_mkL {mg : Str → Option Value} {σ : St} {F H : Hp} {Q : VK} {xs : List V} {ds : List D} (s : Same F H) (r : RpL X.K F xs ds) (h : Post mg W σ (Rp X.K) F H (mkL ds) Q) : xs.length ≤ sizeLine ∧ ∀ p, H p = none → Q (.ref p) (upd H p (.lst xs)) := by
  unfold mkL at h
  split at h
  · rename_i z
    exact ⟨by rw [r.length]; exact z, fun p hp => h _ _ _ (Ext.new s hp) (Rp.newL s hp r z)⟩
  · exact h.elim
theorem post_mkT {mg : Str → Option Value} {σ : St} {F H : Hp} {Q : VK} {xs : List V} {ds : List D} (s : Same F H) (r : RpL X.K F xs ds) (h : Post mg W σ (Rp X.K) F H (mkT ds) Q) : xs.length ≤ sizeLine ∧ ∀ p, H p = none → Q (.ref p) (upd H p (.tup xs)) := by
  unfold mkT at h
  split at h
  · rename_i z
    exact ⟨by rw [r.length]; exact z, fun p hp => h _ _ _ (Ext.new s hp) (Rp.newT s hp r z)⟩
  · exact h.elim
theorem de_tup {n : Nat} (ha : DA X W es fs) : DE X W (.Tuple es n pos) (fun δ => (fs δ).bind mkT) := by
  obtain ⟨ta, pa, ha⟩ := ha
  refine ⟨_, pe_tup pa, fun σ F H δ Q rs h => ?_⟩
  exact ha σ F H δ _ rs (Post.seq h fun xs ds F1 H1 e1 r1 q1 => post_mkT e1.fh r1 q1)
theorem de_lst (ha : DA X W es fs) : DE X W (.List es pos) (fun δ => (fs δ).bind mkL) := by
  obtain ⟨ta, pa, ha⟩ := ha
  refine ⟨_, pe_lst pa, fun σ F H δ Q rs h => ?_⟩
  exact ha σ F H δ _ rs (Post.seq h fun xs ds F1 H1 e1 r1 q1 => post_mkL e1.fh r1 q1)
end
end DW
/-! The data layer, part C: operations on data. -/
namespace DW
open PySem PySem.Spec PyProof.Rows L2

theorem opd_of {X : Cx} {f : Value → Value → Sem Value} {g : D → D → R D}
    (h : ∀ (pins : List (Addr × Obj)) (s : Shared) (σ : St) (H : Hp) (x y : V) (v u : Value) (Q : VK) (mg : Str → Option Value) (W : WX) (σ' : St) (F : Hp) (d e : D), Inv X pins σ H s → RelV x v → RelV y u → Same F H → Rp X.K F x d → Rp X.K F y e →
      Post mg W σ' (Rp X.K) F H (g d e) Q → wpAny (model X.prog X.w) X.A (f v u) (EP X pins σ Q) X.xe s) : OpD X f g := by
  refine ⟨fun x y H Q => ∃ mg W σ' F d e, Same F H ∧ Rp X.K F x d ∧ Rp X.K F y e ∧ Post mg W σ' (Rp X.K) F H (g d e) Q, ?_, fun mg W σ x y d e F H Q s r1 r2 p => ⟨mg, W, σ, F, d, e, s, r1, r2, p⟩⟩
  intro pins s σ H x y v u Q I rx ry ⟨mg, W, σ', F, d, e, sm, r1, r2, p⟩
  exact h pins s σ H x y v u Q mg W σ' F d e I rx ry sm r1 r2 p

theorem post_if {α β : Type} {mg : Str → Option Value} {W : WX} {σ : St} {rel : Hp → β → α → Prop} {F H : Hp} {c : Prop} [Decidable c] {r : R α} {Q : β → Hp → Prop} (h : Post mg W σ rel F H (if c then r else .bad) Q) : c ∧ Post mg W σ rel F H r Q := by
  split at h
  · exact ⟨by assumption, h⟩
  · exact h.elim
/-- what the script's datum is -/
theorem Rp.isScr {K : PySem.W.Frag} {H : Hp} {x : V} {ns : List (D × D)} (r : Rp K H x (.dict ((.none, .none) :: ns))) : ∃ (a : Addr) (ms : List Int), x = .ref a ∧ ns = ms.map (fun i => (PyData.int i, PyData.none)) ∧ SqL K H a (ms.map V.int) ∧ ms.length ≤ 63 := by
  generalize e : PyData.dict ((.none, .none) :: ns) = d at r
  cases r with
  | dct q r z =>
    injection e with e
    subst e
    generalize e2 : ((PyData.none, PyData.none) :: ns) = l at r
    cases r with
    | nil => cases e2
    | @cons k _ _ _ _ _ _ =>
      injection e2 with e3 _
      cases k with
      | inl _ => injection e3 with e4 _; cases e4
      | inr _ => injection e3 with e4 _; cases e4
  | @scr a ms q z =>
    unfold scriptD at e
    injection e with e
    injection e with _ e
    exact ⟨a, ms, rfl, e, q, z⟩
  | _ => cases e

def dAdd : D → D → R D
  | .int i, .int j => .ok (.int (i + j))
  | .str x, .str y => if x.length + y.length ≤ sizeLine then .ok (.str (x ++ y)) else .bad
  | .list xs, .list ys => mkL (xs ++ ys)
  | .tuple xs, .tuple ys => mkT (xs ++ ys)
  | _, _ => .bad
def dSub : D → D → R D
  | .int i, .int j => .ok (.int (i - j))
  | _, _ => .bad
def dMul : D → D → R D
  | .int i, .int j => if (-(2 ^ 64) < i ∧ i < 2 ^ 64) ∨ (-(2 ^ 64) < j ∧ j < 2 ^ 64) then .ok (.int (i * j)) else .bad
  | .list xs, .int k => if -(2 ^ 63) ≤ k ∧ k < 2 ^ 63 ∧ xs.length * k.toNat ≤ sizeLine then .ok (.list (List.replicate k.toNat xs).flatten) else .bad
  | .tuple xs, .int k => if xs ≠ [] ∧ 2 ≤ k ∧ k ≤ 1000 ∧ xs.length ≤ 1000 then .ok (.tuple (List.replicate k.toNat xs).flatten) else .bad
  | _, _ => .bad
def dDiv : D → D → R D
  | .int i, .int j => if 0 < j ∧ j < 1073741824 then .ok (.int (i / j)) else .bad
  | _, _ => .bad
def dMod : D → D → R D
  | .int i, .int j => if 0 < j then .ok (.int (i % j)) else .bad
  | _, _ => .bad
theorem rep_len {α : Type} (xs : List α) : ∀ n : Nat, (List.replicate n xs).flatten.length = xs.length * n
  | 0 => by simp
  | n + 1 => by rw [List.replicate_succ, List.flatten_cons, List.length_append, rep_len xs n, Nat.mul_succ, Nat.add_comm]
section
variable {X : Cx}
theorem od_add : OpD X (binaryOp .Add) dAdd := opd_of fun pins s σ H x y v u Q mg W σ' F d e I rx ry sm r1 r2 p => by
  cases r1 with
  | int i => cases r2 with
    | int j => exact op_add pins s σ H _ _ v u Q I rx ry ⟨_, _, rfl, rfl, Post.here sm p (.int _)⟩
    | _ => exact p.elim
  | str i => cases r2 with
    | str j =>
      obtain ⟨z, p⟩ := post_if p
      exact op_add_str pins s σ H _ _ v u Q I rx ry ⟨_, _, rfl, rfl, z, Post.here sm p (.str _)⟩
    | _ => exact p.elim
  | lst q r z => cases r2 with
    | lst q' r' z' =>
      have p' := post_mkL sm (r.append r') p
      rw [List.length_append] at p'
      exact op_cat pins s σ H _ _ v u Q I rx ry ⟨_, _, _, _, rfl, rfl, sm _ _ q, sm _ _ q', p'.1, p'.2⟩
    | _ => exact p.elim
  | @tup a xs ds q r z => cases r2 with
    | @tup b ys es q' r' z' =>
      have p' := post_mkT sm (r.append r') p
      rw [List.length_append] at p'
      have z2 : (ds ++ es).length ≤ sizeLine := by
        have := p'.1
        rw [List.length_append, ← r.length, ← r'.length]; exact this
      have p2 : ∀ b F' H', Ext F H F' H' → Rp X.K F' b (.tuple (ds ++ es)) → Q b H' := by
        have : mkT (ds ++ es) = .ok (.tuple (ds ++ es)) := by unfold mkT; rw [if_pos z2]
        have p3 : Post mg W σ' (Rp X.K) F H (mkT (ds ++ es)) Q := p
        rw [this] at p3
        exact p3
      refine op_catA pins s σ H _ _ v u Q I rx ry ⟨_, _, _, _, rfl, rfl, SqT.of (sm _ _ q), SqT.of (sm _ _ q'), p'.1, fun e => ?_, fun _ e => ?_, fun _ _ => p'.2⟩
      · subst e
        cases r
        exact p2 _ F H (Ext.refl sm) (.tup q' r' z')
      · subst e
        cases r'
        exact p2 _ F H (Ext.refl sm) (by rw [List.append_nil]; exact .tup q r z)
    | _ => exact p.elim
  | _ => exact p.elim
theorem od_sub : OpD X (binaryOp .Sub) dSub := opd_of fun pins s σ H x y v u Q mg W σ' F d e I rx ry sm r1 r2 p => by
  cases r1 with
  | int i => cases r2 with
    | int j => exact op_sub pins s σ H _ _ v u Q I rx ry ⟨_, _, rfl, rfl, Post.here sm p (.int _)⟩
    | _ => exact p.elim
  | _ => exact p.elim
theorem od_mul : OpD X (binaryOp .Mult) dMul := opd_of fun pins s σ H x y v u Q mg W σ' F d e I rx ry sm r1 r2 p => by
  cases r1 with
  | int i => cases r2 with
    | int j =>
      obtain ⟨z, p⟩ := post_if p
      exact op_mul pins s σ H _ _ v u Q I rx ry ⟨_, _, rfl, rfl, z, Post.here sm p (.int _)⟩
    | _ => exact p.elim
  | lst q r z => cases r2 with
    | int j =>
      obtain ⟨z, p⟩ := post_if p
      refine op_rep pins s σ H _ _ v u Q I rx ry ⟨_, _, _, rfl, rfl, sm _ _ q, z.1, z.2.1, by rw [r.length]; exact z.2.2, fun a ha => ?_⟩
      exact p _ _ _ (Ext.new sm ha) (Rp.newL sm ha (r.rep _) (by rw [rep_len]; exact z.2.2))
    | _ => exact p.elim
  | tup q r z => cases r2 with
    | int j =>
      obtain ⟨z, p⟩ := post_if p
      refine op_repT pins s σ H _ _ v u Q I rx ry ⟨_, _, _, rfl, rfl, SqT.of (sm _ _ q), (fun e => z.1 (by subst e; cases r; rfl)), z.2.1, z.2.2.1, by rw [r.length]; exact z.2.2.2, fun a ha => ?_⟩
      refine p _ _ _ (Ext.new sm ha) (Rp.newT sm ha (r.rep _) ?_)
      rw [rep_len, sizeLine_eq]
      have h1 : j.toNat ≤ 1000 := by omega
      have h2 := z.2.2.2
      exact Nat.le_trans (Nat.mul_le_mul h2 h1) (by decide)
    | _ => exact p.elim
  | _ => exact p.elim
theorem od_div : OpD X (binaryOp .FloorDiv) dDiv := opd_of fun pins s σ H x y v u Q mg W σ' F d e I rx ry sm r1 r2 p => by
  cases r1 with
  | int i => cases r2 with
    | int j =>
      obtain ⟨z, p⟩ := post_if p
      exact op_fdiv pins s σ H _ _ v u Q I rx ry ⟨_, _, rfl, rfl, z, Post.here sm p (.int _)⟩
    | _ => exact p.elim
  | _ => exact p.elim
theorem od_mod : OpD X (binaryOp .Mod) dMod := opd_of fun pins s σ H x y v u Q mg W σ' F d e I rx ry sm r1 r2 p => by
  cases r1 with
  | int i => cases r2 with
    | int j =>
      obtain ⟨z, p⟩ := post_if p
      exact op_mod pins s σ H _ _ v u Q I rx ry ⟨_, _, rfl, rfl, z, Post.here sm p (.int _)⟩
    | _ => exact p.elim
  | _ => exact p.elim
end

/-! ### comparisons -/
/-- the script beside an empty list -/
def dEq : D → D → R D
  | .dict ((.none, .none) :: ns), .list [] => .ok (.bool ns.isEmpty)
  | d, e => if SeqAt.shaped d = true ∧ SeqAt.shaped e = true then .ok (.bool (PyData.eqv d e)) else .bad
def dNe (d e : D) : R D := if SeqAt.shaped d = true ∧ SeqAt.shaped e = true then .ok (.bool (!PyData.eqv d e)) else .bad
/-- may be told by its reading: laid plainly, not deep -/
def flat (d : D) : Bool := d.canLay0 && decide (d.depth ≤ 8)
theorem flat_lay {d : D} (h : flat d = true) : d.canLay0 = true ∧ d.depth ≤ 8 := by
  unfold flat at h
  rw [Bool.and_eq_true, decide_eq_true_eq] at h
  exact h
def dLt : D → D → R D
  | .int i, .int j => .ok (.bool (decide (i < j)))
  | .str i, .str j => .ok (.bool (decide (i.cps.toList < j.cps.toList)))
  | .tuple xs, .tuple ys => if flat (.tuple xs) = true ∧ flat (.tuple ys) = true ∧ PySem.W.alike (.tuple xs) (.tuple ys) = true then .ok (.bool (PySem.W.dataLt (.tuple xs) (.tuple ys))) else .bad
  | _, _ => .bad
def dLe : D → D → R D
  | .int i, .int j => .ok (.bool (decide (i ≤ j)))
  | .str i, .str j => .ok (.bool (!decide (j.cps.toList < i.cps.toList)))
  | _, _ => .bad
def dGt : D → D → R D
  | .int i, .int j => .ok (.bool (decide (j < i)))
  | _, _ => .bad
def dGe : D → D → R D
  | .int i, .int j => .ok (.bool (decide (j ≤ i)))
  | _, _ => .bad
def isNone : D → Bool
  | .none => true
  | _ => false
def dIs : D → D → R D
  | d, .none => .ok (.bool (isNone d))
  | _, _ => .bad
def dIsNot : D → D → R D
  | d, .none => .ok (.bool (!isNone d))
  | _, _ => .bad
section
variable {X : Cx}
theorem shaped_lay {d : D} (h : SeqAt.shaped d = true) : d.canLay0 = true := SeqAt.canLay_of_shaped h
theorem lay_ints : ∀ ns : List Int, PyData.canLayAll0 (ns.map PyData.int) = true
  | [] => rfl
  | n :: ns => by rw [List.map_cons, PyData.canLayAll0, lay_ints ns]; rfl
theorem od_eq (hu : X.A.units + 64 < cLine) : OpD X (compareOp .Eq) dEq := opd_of fun pins s σ H x y v u Q mg W σ' F d e I rx ry sm r1 r2 p => by
  unfold dEq at p
  split at p
  · obtain ⟨a, ms, rfl, rfl, q, z⟩ := r1.isScr
    have h1 : Dp X.K H (.ref a) (.list (ms.map PyData.int)) := .lst (sm.seq q) (RpL.dp (RpL.ints (H := H) ms) (lay_ints ms))
    have h2 : SeqAt.shaped (.list (ms.map PyData.int)) = true := by
      unfold SeqAt.shaped
      rw [PyData.canLay0, lay_ints, PyData.depth, PySem.W.depth_ints]
      decide
    refine op_eqD hu pins s σ H _ _ v u Q I rx ry ⟨_, .list [], h1, (r2.mono sm).dp rfl, h2, rfl, ?_⟩
    have e : PyData.eqv (.list (ms.map PyData.int)) (.list []) = (ms.map (fun i => (PyData.int i, PyData.none))).isEmpty := by
      cases ms with
      | nil => rfl
      | cons m ms => rfl
    rw [e]
    exact Post.here sm p (.bl _)
  · obtain ⟨z, p⟩ := post_if p
    exact op_eqD hu pins s σ H _ _ v u Q I rx ry ⟨d, e, (r1.mono sm).dp (shaped_lay z.1), (r2.mono sm).dp (shaped_lay z.2), z.1, z.2, Post.here sm p (.bl _)⟩
theorem od_ne (hu : X.A.units + 64 < cLine) : OpD X (compareOp .NotEq) dNe := opd_of fun pins s σ H x y v u Q mg W σ' F d e I rx ry sm r1 r2 p => by
  unfold dNe at p
  split at p
  · rename_i z
    exact op_neD hu pins s σ H _ _ v u Q I rx ry ⟨d, e, (r1.mono sm).dp (shaped_lay z.1), (r2.mono sm).dp (shaped_lay z.2), z.1, z.2, Post.here sm p (.bl _)⟩
  · exact p.elim
theorem od_lt (hu : X.A.units + 64 < cLine) : OpD X (compareOp .Lt) dLt := opd_of fun pins s σ H x y v u Q mg W σ' F d e I rx ry sm r1 r2 p => by
  cases r1 with
  | int i => cases r2 with
    | int j => exact op_lt pins s σ H _ _ v u Q I rx ry ⟨_, _, rfl, rfl, Post.here sm p (.bl _)⟩
    | _ => exact p.elim
  | str i => cases r2 with
    | str j => exact op_lt_str pins s σ H _ _ v u Q I rx ry ⟨_, _, rfl, rfl, Post.here sm p (.bl _)⟩
    | _ => exact p.elim
  | @tup a xs ds q1 q2 q3 => cases r2 with
    | @tup b ys es q4 q5 q6 =>
      obtain ⟨z, p⟩ := post_if p
      obtain ⟨f1, f2⟩ := flat_lay z.1
      obtain ⟨g1, g2⟩ := flat_lay z.2.1
      obtain ⟨as, ra⟩ := Dp.reads I _ _ _ (((Rp.tup q1 q2 q3 : Rp X.K F _ _).mono sm).dp f1) rx
      obtain ⟨bs, rb⟩ := Dp.reads I _ _ _ (((Rp.tup q4 q5 q6 : Rp X.K F _ _).mono sm).dp g1) ry
      exact PySem.W.lt_data ra rb z.2.2 (fun h => nomatch h) (by omega) ⟨.bl _, H, I, rfl, Post.here sm p (.bl _)⟩
    | _ => exact p.elim
  | _ => exact p.elim
theorem od_le : OpD X (compareOp .LtE) dLe := opd_of fun pins s σ H x y v u Q mg W σ' F d e I rx ry sm r1 r2 p => by
  cases r1 with
  | int i => cases r2 with
    | int j => exact op_le pins s σ H _ _ v u Q I rx ry ⟨_, _, rfl, rfl, Post.here sm p (.bl _)⟩
    | _ => exact p.elim
  | str i => cases r2 with
    | str j => exact op_le_str pins s σ H _ _ v u Q I rx ry ⟨_, _, rfl, rfl, Post.here sm p (.bl _)⟩
    | _ => exact p.elim
  | _ => exact p.elim
theorem od_gt : OpD X (compareOp .Gt) dGt := opd_of fun pins s σ H x y v u Q mg W σ' F d e I rx ry sm r1 r2 p => by
  cases r1 with
  | int i => cases r2 with
    | int j => exact op_gt pins s σ H _ _ v u Q I rx ry ⟨_, _, rfl, rfl, Post.here sm p (.bl _)⟩
    | _ => exact p.elim
  | _ => exact p.elim
theorem od_ge : OpD X (compareOp .GtE) dGe := opd_of fun pins s σ H x y v u Q mg W σ' F d e I rx ry sm r1 r2 p => by
  cases r1 with
  | int i => cases r2 with
    | int j => exact op_ge pins s σ H _ _ v u Q I rx ry ⟨_, _, rfl, rfl, Post.here sm p (.bl _)⟩
    | _ => exact p.elim
  | _ => exact p.elim
theorem isNone_of {K : PySem.W.Frag} {F : Hp} {x : V} {d : D} (r : Rp K F x d) : decide (x = V.non) = isNone d := by cases r <;> rfl
theorem od_is : OpD X (compareOp .Is) dIs := opd_of fun pins s σ H x y v u Q mg W σ' F d e I rx ry sm r1 r2 p => by
  cases r2 with
  | non => exact op_isN pins s σ H _ _ v u Q I rx ry ⟨rfl, by rw [isNone_of r1]; exact Post.here sm p (.bl _)⟩
  | _ => exact p.elim
theorem od_isNot : OpD X (compareOp .IsNot) dIsNot := opd_of fun pins s σ H x y v u Q mg W σ' F d e I rx ry sm r1 r2 p => by
  cases r2 with
  | non => exact op_notN pins s σ H _ _ v u Q I rx ry ⟨rfl, by rw [isNone_of r1]; exact Post.here sm p (.bl _)⟩
  | _ => exact p.elim
end
end DW
/-! The data layer, part D: built-in functions on data. -/
namespace DW
open PySem PySem.Spec PyProof.Rows L2

/-- a call of a known value (a built-in, a type) with data -/
def CallD (X : Cx) (f : Value) (g : List D → R D) : Prop :=
  ∃ r, CallR X f r ∧ ∀ (mg : Str → Option Value) (W : WX) (σ : St) (xs : List V) (ds : List D) (F H : Hp) (Q : VK), Same F H → RpL X.K F xs ds → Post mg W σ (Rp X.K) F H (g ds) Q → r xs H Q
theorem calld_of {X : Cx} {f : Value} {g : List D → R D}
    (h : ∀ (pins : List (Addr × Obj)) (s : Shared) (σ : St) (H : Hp) (xs : List V) (us : List Value) (Q : VK) (mg : Str → Option Value) (W : WX) (σ' : St) (F : Hp) (ds : List D), Inv X pins σ H s → Vals xs us → Same F H → RpL X.K F xs ds →
      Post mg W σ' (Rp X.K) F H (g ds) Q → wpAny (model X.prog X.w) X.A (call f us) (EP X pins σ Q) X.xe s) : CallD X f g := by
  refine ⟨fun xs H Q => ∃ mg W σ' F ds, Same F H ∧ RpL X.K F xs ds ∧ Post mg W σ' (Rp X.K) F H (g ds) Q, ?_, fun mg W σ xs ds F H Q s r p => ⟨mg, W, σ, F, ds, s, r, p⟩⟩
  intro pins s σ H xs us Q I rv ⟨mg, W, σ', F, ds, sm, r, p⟩
  exact h pins s σ H xs us Q mg W σ' F ds I rv sm r p

/-! ### isinstance -/
inductive Ty where | int | bool | tuple | str | list
def Ty.name : Ty → String
  | .int => "int" | .bool => "bool" | .tuple => "tuple" | .str => "str" | .list => "list"
def isi : Ty → D → Bool
  | .int, .int _ => true
  | .int, .bool _ => true
  | .bool, .bool _ => true
  | .tuple, .tuple _ => true
  | .str, .str _ => true
  | .list, .list _ => true
  | _, _ => false
def dIsi (T : Ty) : D → R D
  | .dict _ => .bad
  | d => .ok (.bool (isi T d))
theorem kitTy {K : PySem.W.Frag} (T : Ty) : PySem.W.kitOne K (.type "NoneType") (.type T.name) = some false ∧ PySem.W.kitOne K (.type "bool") (.type T.name) = some (isi T (.bool true)) ∧
    PySem.W.kitOne K (.type "int") (.type T.name) = some (isi T (.int 0)) ∧ PySem.W.kitOne K (.type "str") (.type T.name) = some (isi T (.str Str.empty)) ∧ PySem.W.kitOne K (.type "list") (.type T.name) = some (isi T (.list [])) ∧
    PySem.W.kitOne K (.type "tuple") (.type T.name) = some (isi T (.tuple [])) := by
  cases T <;> exact ⟨kit_ty (by decide +kernel), kit_ty (by decide +kernel), kit_ty (by decide +kernel), kit_ty (by decide +kernel), kit_ty (by decide +kernel), kit_ty (by decide +kernel)⟩
section
variable {X : Cx} {W : WX}
theorem call_dIsi (T : Ty) {pins : List (Addr × Obj)} {s : Shared} {σ σ' : St} {H F : Hp} {x : V} {d : D} {us : List Value} {Q : VK} {mg : Str → Option Value} {W : WX} (I : Inv X pins σ H s) (rv : Vals [x, .ty T.name] us) (sm : Same F H) (r : Rp X.K F x d)
    (p : Post mg W σ' (Rp X.K) F H (dIsi T d) Q) : wpAny (model X.prog X.w) X.A (call (.builtin "isinstance") us) (EP X pins σ Q) X.xe s := by
  obtain ⟨h1, h2, h3, h4, h5, h6⟩ := kitTy (K := X.K) T
  have cl : ClsV (.ty T.name) (.type T.name) := by first | exact .ty _ | constructor
  cases r with
  | non => exact call_isi pins s σ H _ us Q I rv ⟨_, _, _, _, _, rfl, cl, .base .non, h1, Post.here sm p (by cases T <;> exact .bl _)⟩
  | bl b => exact call_isi pins s σ H _ us Q I rv ⟨_, _, _, _, _, rfl, cl, .base (.bl b), h2, Post.here sm p (by cases T <;> exact .bl _)⟩
  | int i => exact call_isi pins s σ H _ us Q I rv ⟨_, _, _, _, _, rfl, cl, .base (.int i), h3, Post.here sm p (by cases T <;> exact .bl _)⟩
  | str z => exact call_isi pins s σ H _ us Q I rv ⟨_, _, _, _, _, rfl, cl, .base (.str z), h4, Post.here sm p (by cases T <;> exact .bl _)⟩
  | lst q r z => exact call_isi pins s σ H _ us Q I rv ⟨_, _, _, _, _, rfl, cl, .base (.lst (sm _ _ q)), h5, Post.here sm p (by cases T <;> exact .bl _)⟩
  | tup q r z => exact call_isi pins s σ H _ us Q I rv ⟨_, _, _, _, _, rfl, cl, .base (.tup (sm _ _ q)), h6, Post.here sm p (by cases T <;> exact .bl _)⟩
  | dct q r z => exact p.elim
  | scr q z => exact p.elim
theorem de_isi {T : Ty} {a : Expr} {f : Sls → R D} {p p2 pos : Pos} (hg : Gl X "isinstance") (hm : X.mg "isinstance" = none) (hgT : Gl X (Str.ofString T.name)) (hmT : X.mg (Str.ofString T.name) = none) (ha : DE X W a f)
    (hs : ∀ es, starEach (a :: es) X.env = (false, eval a X.env) :: starEach es X.env) :
    DE X W (.Call (.Name "isinstance" p) [a, .Name (Str.ofString T.name) p2] [] pos) (fun δ => (f δ).bind (dIsi T)) := by
  obtain ⟨ta, pa, ha⟩ := ha
  have hb : PE X (.Name (Str.ofString T.name) p2) (tC (.ty T.name)) := by
    cases T <;> exact pe_bltn hgT hmT (by decide +kernel) rfl (by decide) (by decide)
  have hc : CallR X (.builtin "isinstance") (fun xs H Q => ∃ (mg : Str → Option Value) (W : WX) (σ' : St) (F : Hp) (x : V) (d : D), xs = [x, .ty T.name] ∧ Same F H ∧ Rp X.K F x d ∧ Post mg W σ' (Rp X.K) F H (dIsi T d) Q) := by
    intro pins s σ H xs us Q I rv ⟨mg, W, σ', F, x, d, e, sm, r, q⟩
    subst e
    exact call_dIsi T I rv sm r q
  refine ⟨_, pe_callB hc hg hm (by decide +kernel) (pa_cons pa (pa_cons hb pa_nil (by cases T <;> rfl)) (hs _)) (by decide) (by decide) (hs _) (by cases T <;> rfl), fun σ F H δ Q rs h => ?_⟩
  refine ha σ F H δ _ rs (Post.seq h fun x d F1 H1 e1 r1 h1 => ?_)
  exact ⟨_, _, σ, F1, x, d, rfl, e1.fh, r1, h1⟩
end

/-! ### len, all, list, tuple, min, max, int, str, sum -/
def dLen : List D → R D
  | [.list xs] => .ok (.int xs.length)
  | [.tuple xs] => .ok (.int xs.length)
  | [.str x] => if x.length ≤ sizeLine then .ok (.int x.length) else .bad
  | [.dict ((.none, .none) :: ns)] => .ok (.int ns.length)
  | [.dict kvs] => .ok (.int kvs.length)
  | _ => .bad
def bools : List D → Option (List Bool)
  | [] => some []
  | .bool b :: ds => (bools ds).map (b :: ·)
  | _ :: _ => none
def dAll : List D → R D
  | [.list ds] => match bools ds with | some bs => .ok (.bool (bs.all id)) | none => .bad
  | _ => .bad
def dList : List D → R D
  | [.list xs] => .ok (.list xs)
  | [.tuple xs] => .ok (.list xs)
  | _ => .bad
def dTuple : List D → R D
  | [.list xs] => .ok (.tuple xs)
  | [.tuple xs] => .ok (.tuple xs)
  | _ => .bad
def dMin2 : List D → R D
  | [.int i, .int j] => .ok (.int (if j < i then j else i))
  | _ => .bad
def dMax2 : List D → R D
  | [.int i, .int j] => .ok (.int (if j > i then j else i))
  | _ => .bad
def dInt : List D → R D
  | [.int i] => .ok (.int i)
  | [.bool b] => .ok (.int (if b then 1 else 0))
  | _ => .bad
def dStr : List D → R D
  | [.int i] => if i.natAbs.log2 < 1920 then .ok (.str (toString i)) else .bad
  | _ => .bad
def intsOf : List D → Option (List Int)
  | [] => some []
  | .int b :: ds => (intsOf ds).map (b :: ·)
  | _ :: _ => none
theorem bools_rp {K : PySem.W.Frag} {F : Hp} : ∀ {xs : List V} {ds : List D} {bs : List Bool}, RpL K F xs ds → bools ds = some bs → xs = bs.map V.bl
  | _, _, _, .nil, h => by cases h; rfl
  | _, _, bs, .cons a b, h => by
    cases a with
    | bl c =>
      rw [bools, Option.map_eq_some_iff] at h
      obtain ⟨cs, h1, rfl⟩ := h
      rw [bools_rp b h1]; rfl
    | _ => cases h
theorem ints_rp {K : PySem.W.Frag} {F : Hp} : ∀ {xs : List V} {ds : List D} {bs : List Int}, RpL K F xs ds → intsOf ds = some bs → xs = bs.map V.int
  | _, _, _, .nil, h => by cases h; rfl
  | _, _, bs, .cons a b, h => by
    cases a with
    | int c =>
      rw [intsOf, Option.map_eq_some_iff] at h
      obtain ⟨cs, h1, rfl⟩ := h
      rw [ints_rp b h1]; rfl
    | _ => cases h
theorem RpK.length {K : PySem.W.Frag} {F : Hp} : ∀ {v : List (Key × V)} {d : List (D × D)}, RpK K F v d → v.length = d.length
  | _, _, .nil => rfl
  | _, _, .cons _ b => by rw [List.length_cons, List.length_cons, RpK.length b]
section
variable {X : Cx}
theorem cd_len : CallD X (.builtin "len") dLen := calld_of fun pins s σ H xs us Q mg W σ' F ds I rv sm r p => by
  unfold dLen at p
  split at p
  · cases r with | cons a b => cases b; cases a with
      | lst q r z => exact call_len pins s σ H _ us Q I rv ⟨_, _, rfl, .inl ⟨_, SqL.of (sm _ _ q), rfl⟩, by rw [r.length]; exact Post.here sm p (.int _)⟩
  · cases r with | cons a b => cases b; cases a with
      | tup q r z => exact call_len pins s σ H _ us Q I rv ⟨_, _, rfl, .inr ⟨_, SqT.of (sm _ _ q), rfl⟩, by rw [r.length]; exact Post.here sm p (.int _)⟩
  · cases r with | cons a b => cases b; cases a with
      | str x =>
        obtain ⟨z, p⟩ := post_if p
        exact call_len pins s σ H _ us Q I rv ⟨_, _, rfl, ⟨z, rfl⟩, Post.here sm p (.int _)⟩
  · cases r with | cons a b =>
      cases b
      obtain ⟨c, ms, rfl, rfl, q, z⟩ := a.isScr
      refine call_len pins s σ H _ us Q I rv ⟨_, _, rfl, .inl ⟨_, sm.seq q, rfl⟩, ?_⟩
      have p := Post.here sm p (.int _)
      rw [List.length_map] at p ⊢
      exact p
  · rename_i kvs hn
    cases r with | cons a b =>
      cases b
      cases a with
      | dct q r z => exact call_lenD pins s σ H _ us Q I rv ⟨_, _, rfl, sm _ _ q, by rw [r.length]; exact Post.here sm p (.int _)⟩
      | scr q z => exact (hn _ rfl).elim
  · exact p.elim
theorem cd_all (hc : X.calm = true) : CallD X (.builtin "all") dAll := calld_of fun pins s σ H xs us Q mg W σ' F ds I rv sm r p => by
  unfold dAll at p
  split at p
  · cases r with | cons a b => cases b; cases a with
      | lst q r z =>
        split at p
        · rename_i bs e
          have e2 := bools_rp r e
          subst e2
          exact cr_all hc pins s σ H _ us Q I rv ⟨_, _, rfl, SqL.of (sm _ _ q), Post.here sm p (.bl _)⟩
        · exact p.elim
  · exact p.elim
theorem cd_list : CallD X (.type "list") dList := calld_of fun pins s σ H xs us Q mg W σ' F ds I rv sm r p => by
  unfold dList at p
  split at p
  · cases r with | cons a b => cases b; cases a with
      | lst q r z => exact call_list_of pins s σ H _ us Q I rv ⟨_, _, rfl, .inl (SqL.of (sm _ _ q)), fun l hl => p _ _ _ (Ext.new sm hl) (Rp.newL sm hl r z)⟩
  · cases r with | cons a b => cases b; cases a with
      | tup q r z => exact call_list_of pins s σ H _ us Q I rv ⟨_, _, rfl, .inr (SqT.of (sm _ _ q)), fun l hl => p _ _ _ (Ext.new sm hl) (Rp.newL sm hl r z)⟩
  · exact p.elim
theorem cd_tuple : CallD X (.type "tuple") dTuple := calld_of fun pins s σ H xs us Q mg W σ' F ds I rv sm r p => by
  unfold dTuple at p
  split at p
  · cases r with | cons a b => cases b; cases a with
      | lst q r z => exact call_tuple_of pins s σ H _ us Q I rv ⟨_, _, rfl, .inl ⟨SqL.of (sm _ _ q), fun l hl => p _ _ _ (Ext.new sm hl) (Rp.newT sm hl r z)⟩⟩
  · cases r with | cons a b => cases b; cases a with
      | tup q r z => exact call_tuple_of pins s σ H _ us Q I rv ⟨_, _, rfl, .inr ⟨SqT.of (sm _ _ q), Post.here sm p (.tup q r z)⟩⟩
  · exact p.elim
theorem cd_min2 (hc : X.calm = true) : CallD X (.builtin "min") dMin2 := calld_of fun pins s σ H xs us Q mg W σ' F ds I rv sm r p => by
  unfold dMin2 at p
  split at p
  · cases r with | cons a b => cases b with | cons b c => cases c; cases a with | int i => cases b with
      | int j => exact call_min2 hc pins s σ H _ us Q I rv ⟨_, _, rfl, Post.here sm p (.int _)⟩
  · exact p.elim
theorem cd_max2 (hc : X.calm = true) : CallD X (.builtin "max") dMax2 := calld_of fun pins s σ H xs us Q mg W σ' F ds I rv sm r p => by
  unfold dMax2 at p
  split at p
  · cases r with | cons a b => cases b with | cons b c => cases c; cases a with | int i => cases b with
      | int j => exact call_max2 hc pins s σ H _ us Q I rv ⟨_, _, rfl, Post.here sm p (.int _)⟩
  · exact p.elim
theorem cd_int : CallD X (.type "int") dInt := calld_of fun pins s σ H xs us Q mg W σ' F ds I rv sm r p => by
  unfold dInt at p
  split at p
  · cases r with | cons a b => cases b; cases a with
      | int i => exact call_int1 pins s σ H _ us Q I rv (.inl ⟨_, rfl, Post.here sm p (.int _)⟩)
  · cases r with | cons a b => cases b; cases a with
      | bl i => exact call_int1 pins s σ H _ us Q I rv (.inr ⟨_, rfl, Post.here sm p (.int _)⟩)
  · exact p.elim
theorem cd_str : CallD X (.type "str") dStr := calld_of fun pins s σ H xs us Q mg W σ' F ds I rv sm r p => by
  unfold dStr at p
  split at p
  · cases r with | cons a b => cases b; cases a with
      | int i =>
        obtain ⟨z, p⟩ := post_if p
        exact call_str_int pins s σ H _ us Q I rv ⟨_, rfl, z, Post.here sm p (.str _)⟩
  · exact p.elim
end
end DW
/-! The data layer, part D2: subscripts, slices, methods. -/
namespace DW
open PySem PySem.Spec PyProof.Rows L2

def ofO {α : Type} : Option α → R α
  | some a => .ok a
  | none => .bad
def dIdxI (x : D) (i : Int) : R D := match x with
  | .list xs => ofO (atI xs i)
  | .tuple xs => ofO (atI xs i)
  | .str x => if x.length ≤ sizeLine then ofO ((atI x.cps.toList i).map fun c => .str ⟨#[c]⟩) else .bad
  | .dict ((.none, .none) :: ns) => ofO ((atI ns i).map (·.1))
  | _ => .bad
def dIdx (x y : D) : R D := match y with
  | .int i => dIdxI x i
  | _ => .bad
/-- d[lo:hi] of data -/
def cutD (xs : List D) (lo hi : Option Int) : List D := (xs.drop (HT.sIx xs.length 0 lo)).take (HT.sIx xs.length xs.length hi - HT.sIx xs.length 0 lo)
def dCut (x : D) (lo hi : Option Int) : R D := match x with
  | .list xs => .ok (.list (cutD xs lo hi))
  | .tuple xs => .ok (.tuple (cutD xs lo hi))
  | .str z => if z.length ≤ sizeLine then .ok (.str (cutS z lo hi)) else .bad
  | _ => .bad
def dRev : D → R D
  | .list xs => .ok (.list xs.reverse)
  | _ => .bad
def dNeg : D → R D
  | .int i => .ok (.int (-i))
  | _ => .bad
def dInt? : D → R Int
  | .int i => .ok i
  | _ => .bad

theorem RpL.atI {K : PySem.W.Frag} {F : Hp} {xs : List V} {ds : List D} {i : Int} {d : D} (r : RpL K F xs ds) (h : L2.atI ds i = some d) : ∃ v, L2.atI xs i = some v ∧ Rp K F v d := by
  unfold L2.atI at h ⊢
  rw [r.length]
  cases e : ixN ds.length i with
  | none => rw [e] at h; cases h
  | some j =>
    rw [e] at h
    exact r.get h
theorem RpL.cut {K : PySem.W.Frag} {F : Hp} {xs : List V} {ds : List D} (lo hi : Option Int) (r : RpL K F xs ds) : RpL K F (cutV xs lo hi) (cutD ds lo hi) := by
  unfold cutV cutD
  rw [r.length]
  exact (r.drop _).take _
theorem cutD_length (xs : List D) (lo hi : Option Int) : (cutD xs lo hi).length ≤ xs.length := by
  unfold cutD
  rw [List.length_take, List.length_drop]
  omega
theorem post_ofO {α β : Type} {mg : Str → Option Value} {W : WX} {σ : St} {rel : Hp → β → α → Prop} {F H : Hp} {o : Option α} {Q : β → Hp → Prop} (h : Post mg W σ rel F H (ofO o) Q) : ∃ a, o = some a ∧ Post mg W σ rel F H (.ok a) Q := by
  cases o with
  | none => exact h.elim
  | some a => exact ⟨a, rfl, h⟩
/-! ### subscripts -/
section
variable {X : Cx} {W : WX} {a b : Expr} {f g : Sls → R D} {pos p2 : Pos}
theorem de_idx (ha : DE X W a f) (hb : DE X W b g) (hs : PlainIx b) : DE X W (.Subscript a b pos) (fun δ => (f δ).bind fun x => (g δ).bind fun y => dIdx x y) := by
  obtain ⟨ta, pa, ha⟩ := ha
  obtain ⟨tb, pb, hb⟩ := hb
  refine ⟨_, pe_ix ix_seq pa pb hs, fun σ F H δ Q rs h => bin2 (o := dIdx) ha hb (fun mg W σ x y d e F H Q sm r1 r2 p => ?_) rs h⟩
  cases r2 with
  | int i =>
    have p : Post mg W σ (Rp X.K) F H (dIdxI d i) Q := p
    unfold dIdxI at p
    split at p
    · cases r1 with
      | lst q r z =>
        obtain ⟨d, e, p⟩ := post_ofO p
        obtain ⟨v, e1, r1⟩ := r.atI e
        exact .inl ⟨_, _, _, v, rfl, rfl, SqL.of (sm _ _ q), e1, Post.here sm p r1⟩
    · cases r1 with
      | tup q r z =>
        obtain ⟨d, e, p⟩ := post_ofO p
        obtain ⟨v, e1, r1⟩ := r.atI e
        exact .inr (.inl ⟨_, _, _, v, rfl, rfl, SqT.of (sm _ _ q), e1, Post.here sm p r1⟩)
    · cases r1 with
      | str x =>
        obtain ⟨z, p⟩ := post_if p
        obtain ⟨d, e, p⟩ := post_ofO p
        rw [Option.map_eq_some_iff] at e
        obtain ⟨c, e1, rfl⟩ := e
        exact .inr (.inr ⟨_, _, c, rfl, rfl, z, e1, Post.here sm p (.str _)⟩)
    · obtain ⟨c, ms, rfl, rfl, q, z⟩ := r1.isScr
      obtain ⟨d, e, p⟩ := post_ofO p
      rw [Option.map_eq_some_iff] at e
      obtain ⟨u, e1, rfl⟩ := e
      have e2 : atI (ms.map V.int) i = some (match u.1 with | .int n => V.int n | _ => .non) ∧ ∃ n, u.1 = .int n := by
        unfold atI at e1 ⊢
        rw [List.length_map] at e1 ⊢
        cases e3 : ixN ms.length i with
        | none => rw [e3] at e1; cases e1
        | some j =>
          rw [e3, Option.bind_some, List.getElem?_map, Option.map_eq_some_iff] at e1
          obtain ⟨n, e4, rfl⟩ := e1
          exact ⟨by rw [Option.bind_some, List.getElem?_map, e4]; rfl, n, rfl⟩
      obtain ⟨e2, n, e3⟩ := e2
      rw [e3] at e2
      exact .inl ⟨_, _, _, _, rfl, rfl, sm.seq q, e2, Post.here sm p (by rw [e3]; exact .int n)⟩
    · exact p.elim
  | _ => exact p.elim
def DO (X : Cx) (W : WX) (e : Option Expr) (f : Sls → R (Option Int)) : Prop :=
  ∃ t, PO X e t ∧ ∀ (σ : St) (F H : Hp) (δ : Sls) (Q : Option Int → Hp → Prop), RS X.K F H σ δ → Post X.mg W σ (fun _ b c => b = c) F H (f δ) Q → t σ H Q
theorem do_none : DO X W none (fun _ => .ok none) := ⟨_, po_none, fun σ F H δ Q rs h => Post.here rs.same h rfl⟩
theorem do_some (ha : DE X W a f) : DO X W (some a) (fun δ => (f δ).bind fun d => (dInt? d).bind fun i => .ok (some i)) := by
  obtain ⟨ta, pa, ha⟩ := ha
  refine ⟨_, po_some pa, fun σ F H δ Q rs h => ?_⟩
  refine ha σ F H δ _ rs (Post.seq h fun x d F1 H1 e1 r1 h1 => ?_)
  cases r1 with
  | int i => exact ⟨i, rfl, Post.here e1.fh h1 rfl⟩
  | _ => exact h1.elim
theorem sl_all : SlR X (fun x lo hi H Q => rSlL X.K x lo hi H Q ∨ rSlA X.K x lo hi H Q ∨ rSlS x lo hi H Q) := SlR.or sl_list (SlR.or sl_tupA sl_str)
theorem de_cut {lo hi : Option Expr} {fl fh : Sls → R (Option Int)} (ha : DE X W a f) (hl : DO X W lo fl) (hh : DO X W hi fh) : DE X W (.Subscript a (.Slice lo hi none p2) pos) (fun δ => (f δ).bind fun x => (fl δ).bind fun l => (fh δ).bind fun h => dCut x l h) := by
  obtain ⟨ta, pa, ha⟩ := ha
  obtain ⟨tl, pl, hl⟩ := hl
  obtain ⟨th, ph, hh⟩ := hh
  refine ⟨_, pe_slice sl_all pa pl ph, fun σ F H δ Q rs h => ?_⟩
  refine ha σ F H δ _ rs (Post.seq h fun x d F1 H1 e1 r1 h1 => ?_)
  refine hl σ F1 H1 δ _ (rs.ext e1) (Post.seq h1 fun l l' F2 H2 e2 r2 h2 => ?_)
  subst r2
  refine hh σ F2 H2 δ _ ((rs.ext e1).ext e2) (Post.seq h2 fun u u' F3 H3 e3 r3 h3 => ?_)
  subst r3
  have r1 := r1.mono (e2.ff.trans e3.ff)
  have sm := e3.fh
  cases r1 with
  | lst q r z => exact .inl ⟨_, _, rfl, SqL.of (sm _ _ q), fun p hp => h3 _ _ _ (Ext.new sm hp) (Rp.newL sm hp (r.cut l u) (Nat.le_trans (cutD_length _ _ _) z))⟩
  | @tup c xs ds q r z =>
    refine .inr (.inl ⟨_, _, rfl, SqT.of (sm _ _ q), fun hw => ?_, fun _ p hp => h3 _ _ _ (Ext.new sm hp) (Rp.newT sm hp (r.cut l u) (Nat.le_trans (cutD_length _ _ _) z))⟩)
    refine h3 _ _ _ (Ext.refl sm) ?_
    have : cutD ds l u = ds := by
      unfold cutD
      rw [r.length] at hw
      rw [hw.1, hw.2]
      simp
    rw [this]
    exact .tup q r z
  | str x =>
    obtain ⟨z, p⟩ := post_if h3
    exact .inr (.inr ⟨_, rfl, z, Post.here sm p (.str _)⟩)
  | _ => exact h3.elim
theorem de_rev {k : Nat} {p1 p3 : Pos} (ha : DE X W a f) : DE X W (.Subscript a (.Slice none none (some (.UnaryOp .USub (.Constant (.int 1) k p1) p2)) p3) pos) (fun δ => (f δ).bind dRev) := by
  obtain ⟨ta, pa, ha⟩ := ha
  refine ⟨_, pe_revL pa, fun σ F H δ Q rs h => ?_⟩
  refine ha σ F H δ _ rs (Post.seq h fun x d F1 H1 e1 r1 h1 => ?_)
  cases r1 with
  | lst q r z => exact ⟨_, _, rfl, SqL.of (e1.fh _ _ q), fun p hp => h1 _ _ _ (Ext.new e1.fh hp) (Rp.newL e1.fh hp r.reverse (by rw [List.length_reverse]; exact z))⟩
  | _ => exact h1.elim
theorem de_neg (ha : DE X W a f) : DE X W (.UnaryOp .USub a pos) (fun δ => (f δ).bind dNeg) := by
  obtain ⟨ta, pa, ha⟩ := ha
  refine ⟨_, pe_un un_neg pa, fun σ F H δ Q rs h => ?_⟩
  refine ha σ F H δ _ rs (Post.seq h fun x d F1 H1 e1 r1 h1 => ?_)
  cases r1 with
  | int i => exact ⟨_, rfl, Post.here e1.fh h1 (.int _)⟩
  | _ => exact h1.elim
/-- f(..) of a built-in, of a type -/
theorem de_callB {x : Str} {id : String} {g : List D → R D} {p : Pos} {e : Expr} {es : List Expr} {fs : Sls → R (List D)} (hc : CallD X (.builtin id) g) (hg : Gl X x) (hm : X.mg x = none) (hv : bootBuiltins x = some (.builtin id)) (ha : DA X W (e :: es) fs) (hn : x ≠ "__name__") (hdb : (x == ("__debug__" : Str)) = false)
    (he : starEach (e :: es) X.env = (false, eval e X.env) :: starEach es X.env) (hpl : (backTo pos (starEach es X.env)).any (·.1) = false) : DE X W (.Call (.Name x p) (e :: es) [] pos) (fun δ => (fs δ).bind g) := by
  obtain ⟨r, h0, h1⟩ := hc
  obtain ⟨ta, pa, ha⟩ := ha
  refine ⟨_, pe_callB h0 hg hm hv pa hn hdb he hpl, fun σ F H δ Q rs h => ?_⟩
  exact ha σ F H δ _ rs (Post.seq h fun xs ds F1 H1 e1 r1 q1 => h1 _ _ _ xs ds F1 H1 Q e1.fh r1 q1)
theorem de_callTy {x : Str} {T : String} {g : List D → R D} {p : Pos} {e : Expr} {es : List Expr} {fs : Sls → R (List D)} (hc : CallD X (.type T) g) (hg : Gl X x) (hm : X.mg x = none) (hv : bootBuiltins x = some (.type T)) (ha : DA X W (e :: es) fs) (hn : x ≠ "__name__") (hdb : (x == ("__debug__" : Str)) = false)
    (he : starEach (e :: es) X.env = (false, eval e X.env) :: starEach es X.env) (hpl : (backTo pos (starEach es X.env)).any (·.1) = false) : DE X W (.Call (.Name x p) (e :: es) [] pos) (fun δ => (fs δ).bind g) := by
  obtain ⟨r, h0, h1⟩ := hc
  obtain ⟨ta, pa, ha⟩ := ha
  refine ⟨_, pe_callTy h0 hg hm hv pa hn hdb he hpl, fun σ F H δ Q rs h => ?_⟩
  exact ha σ F H δ _ rs (Post.seq h fun xs ds F1 H1 e1 r1 q1 => h1 _ _ _ xs ds F1 H1 Q e1.fh r1 q1)
end

/-! ### defs -/
/-- the promise of a def that is worth G -/
def spD (K : PySem.W.Frag) (mg : Str → Option Value) (n : Nat) (G : List D → R D) : Sp := fun vs H Q E => ∃ (F : Hp) (ds : List D), vs.length = n ∧ Same F H ∧ RpL K F vs ds ∧ Post mg (fun u d _ H' => E u d H') [] (Rp K) F H (G ds) Q
/-- the def x of n parameters keeps it, at level k -/
def FnD (P : Program) (w : World) (K : PySem.W.Frag) (mg : Str → Option Value) (base : Heap) (k : Nat) (x : Str) (n : Nat) (G : List D → R D) : Prop :=
  ∃ (f : Addr) (fd : FuncData) (ps : List Str), mg x = some (.ref f) ∧ PySem.W.keepIn K (.ref f) = true ∧ ps.length = n ∧ Binds K fd ps [] ∧ FnOk P w K mg base (L2N.CX P w) k f fd ps (spD K mg n G)
theorem FnD.mono {P : Program} {w : World} {K : PySem.W.Frag} {mg : Str → Option Value} {base : Heap} {j k : Nat} {x : Str} {n : Nat} {G : List D → R D} (h : FnD P w K mg base j x n G) (l : j ≤ k) : FnD P w K mg base k x n G := by
  obtain ⟨f, fd, ps, h1, h2, h3, h4, h5⟩ := h
  exact ⟨f, fd, ps, h1, h2, h3, h4, h5.mono l⟩
section
variable {X : Cx} {W : WX} {pos p : Pos}
theorem post_sp {mg : Str → Option Value} {σ σ' : St} {K : PySem.W.Frag} {F H : Hp} {r : R D} {Q : VK} (h : Post mg W σ (Rp K) F H r Q) : Post mg (fun u d _ H' => W u d σ H') σ' (Rp K) F H r Q := by
  cases r with
  | ok a => exact h
  | exn c => exact h
  | bad => exact h
theorem de_call {x : Str} {k n : Nat} {G : List D → R D} {e : Expr} {es : List Expr} {fs : Sls → R (List D)} (hf : FnD X.prog X.w X.K X.mg X.base k x n G) (hr : Room k X.A) (hg : Gl X x) (tk : L2N.Takes X W) (hlen : (e :: es).length = n) (hl : ∀ δ ds, fs δ = .ok ds → ds.length = n) (ha : DA X W (e :: es) fs) (hdb : (x == ("__debug__" : Str)) = false)
    (he : starEach (e :: es) X.env = (false, eval e X.env) :: starEach es X.env) (hpl : (backTo pos (starEach es X.env)).any (·.1) = false) : DE X W (.Call (.Name x p) (e :: es) [] pos) (fun δ => (fs δ).bind G) := by
  obtain ⟨f, fd, ps, h1, h2, h3, h4, h5⟩ := hf
  obtain ⟨ta, pa, ha⟩ := ha
  refine ⟨_, pe_callS (E := WE W) h5 hr hg h1 h2 h4 (fun σ => L2N.passAt tk σ) pa hdb he hpl, fun σ F H δ Q rs h => ?_⟩
  cases q : fs δ with
  | ok ds =>
    have h' : Post X.mg W σ (Rp X.K) F H ((fs δ).bind G) Q := h
    rw [q] at h'
    refine ha σ F H δ _ rs ?_
    rw [q]
    intro xs F1 H1 e1 r1
    exact ⟨F1, ds, by rw [r1.length, hl δ ds q], e1.fh, r1, post_sp (Post.ext e1 h')⟩
  | exn c =>
    have h' : Post X.mg W σ (Rp X.K) F H ((fs δ).bind G) Q := h
    rw [q] at h'
    refine ha σ F H δ _ rs ?_
    rw [q]
    exact h'
  | bad =>
    have h' : Post X.mg W σ (Rp X.K) F H ((fs δ).bind G) Q := h
    rw [q] at h'
    exact h'.elim
theorem de_call0 {x : Str} {k : Nat} {G : List D → R D} (hf : FnD X.prog X.w X.K X.mg X.base k x 0 G) (hr : Room k X.A) (hg : Gl X x) (tk : L2N.Takes X W) (hdb : (x == ("__debug__" : Str)) = false) : DE X W (.Call (.Name x p) [] [] pos) (fun δ => G []) := by
  obtain ⟨f, fd, ps, h1, h2, h3, h4, h5⟩ := hf
  refine ⟨fun σ H Q => spD X.K X.mg 0 G [] H Q (WE W σ), ⟨fun pins s σ H Q I h => ?_⟩, fun σ F H δ Q rs h => ⟨F, [], rfl, rs.same, .nil, post_sp h⟩⟩
  refine wpAny_Call_Name_kw (ld_glob I hg h1 ?_ hdb)
  exact PySem.W.callWith_K0 I.kIn h2 (run_fnS (us := []) (E := WE W) h5 hr h4 (L2N.passAt tk σ) I .nil h)
end
end DW
/-! The data layer, part E: what is walked, targets, comprehensions. -/
namespace DW
open PySem PySem.Spec PyProof.Rows L2

/-- J goes over the data ds, whatever grows behind F -/
structure IW (K : PySem.W.Frag) (F : Hp) (J : It) (ds : List D) : Prop where
  ex : ∃ G Y, Walk J ds.length G Y ∧ (∀ H', Same F H' → G H') ∧
    ∀ (i : Nat) (F' H' : Hp) (x : V) (H'' : Hp), i < ds.length → Same F F' → Same F' H' → Y i H' x H'' → ∃ F'' d, Ext F' H' F'' H'' ∧ ds[i]? = some d ∧ Rp K F'' x d
def DI (X : Cx) (W : WX) (tg iter : Expr) (f : Sls → R (List D)) : Prop :=
  ∃ wi, PI X tg iter wi ∧ ∀ (σ : St) (F H : Hp) (δ : Sls) (Q : It → Hp → Prop), RS X.K F H σ δ → Post X.mg W σ (IW X.K) F H (f δ) Q → wi σ H Q

def listOf : D → R (List D)
  | .list xs => .ok xs
  | _ => .bad
def tupOf : D → R (List D)
  | .tuple xs => .ok xs
  | _ => .bad
def signsOf : D → R (List D)
  | .str x => .ok (x.cps.toList.map fun c => .str ⟨#[c]⟩)
  | _ => .bad
def upTo (lo : Int) (n : Nat) : List D := (List.range n).map fun i => .int (lo + (i : Nat))
def stepTo (lo c : Int) (n : Nat) : List D := (List.range n).map fun i => .int (lo + (i : Nat) * c)
def small62 (i : Int) : Bool := decide (-(2 ^ 62) ≤ i) && decide (i < 2 ^ 62)
def range1 : D → R (List D)
  | .int j => if small62 j = true then .ok (upTo 0 j.toNat) else .bad
  | _ => .bad
def range2 : D → D → R (List D)
  | .int i, .int j => if small62 i = true ∧ small62 j = true then .ok (upTo i (j - i).toNat) else .bad
  | _, _ => .bad
def range3 : D → D → D → R (List D)
  | .int i, .int j, .int c => if c ≠ 0 ∧ c.natAbs < 1073741824 ∧ Builtin.Range.small i j c = true then .ok (stepTo i c (Builtin.Range.rangeSize i j c).toNat) else .bad
  | _, _, _ => .bad
def zipD (xs ys : List D) : List D := List.zipWith (fun x y => .tuple [x, y]) xs ys
def zipOf : D → D → R (List D)
  | .list xs, .list ys => .ok (zipD xs ys)
  | .tuple xs, .tuple ys => .ok (zipD xs ys)
  | _, _ => .bad
theorem upTo_length (lo : Int) (n : Nat) : (upTo lo n).length = n := by unfold upTo; rw [List.length_map, List.length_range]
theorem stepTo_length (lo c : Int) (n : Nat) : (stepTo lo c n).length = n := by unfold stepTo; rw [List.length_map, List.length_range]
theorem upTo_get {lo : Int} {n i : Nat} (h : i < n) : (upTo lo n)[i]? = some (.int (lo + i)) := by
  unfold upTo; rw [List.getElem?_map, List.getElem?_range h]; rfl
theorem stepTo_get {lo c : Int} {n i : Nat} (h : i < n) : (stepTo lo c n)[i]? = some (.int (lo + i * c)) := by
  unfold stepTo; rw [List.getElem?_map, List.getElem?_range h]; rfl
theorem zipD_length (xs ys : List D) : (zipD xs ys).length = min xs.length ys.length := by unfold zipD; rw [List.length_zipWith]

section
variable {K : PySem.W.Frag} {F H : Hp}
theorem iw_list {a : Addr} {xs : List V} {ds : List D} (q : F a = some (.lst xs)) (r : RpL K F xs ds) : IW K F (Itl K a) ds := by
  refine ⟨_, _, by rw [← r.length]; exact walk_list (xs := xs), fun H' s => SqL.of (s _ _ q), fun i F' H' x H'' hi s1 s2 y => ?_⟩
  obtain ⟨rfl, e⟩ := y
  obtain ⟨d, e1, r1⟩ := r.getV e
  exact ⟨F', d, Ext.refl s2, e1, r1.mono s1⟩
theorem iw_tup {a : Addr} {xs : List V} {ds : List D} (q : F a = some (.tup xs)) (r : RpL K F xs ds) : IW K F (Itt K a) ds := by
  refine ⟨_, _, by rw [← r.length]; exact walk_tup (xs := xs), fun H' s => SqT.of (s _ _ q), fun i F' H' x H'' hi s1 s2 y => ?_⟩
  obtain ⟨rfl, e⟩ := y
  obtain ⟨d, e1, r1⟩ := r.getV e
  exact ⟨F', d, Ext.refl s2, e1, r1.mono s1⟩
theorem iw_range {lo : Int} {n : Nat} : IW K F (Itr lo n) (upTo lo n) := by
  refine ⟨_, _, by rw [upTo_length]; exact walk_range, fun H' s => trivial, fun i F' H' x H'' hi s1 s2 y => ?_⟩
  obtain ⟨rfl, rfl⟩ := y
  rw [upTo_length] at hi
  exact ⟨F', _, Ext.refl s2, upTo_get hi, .int _⟩
theorem iw_rangeC {lo c : Int} {n : Nat} : IW K F (Itc lo c n) (stepTo lo c n) := by
  refine ⟨_, _, by rw [stepTo_length]; exact walk_rangeC, fun H' s => trivial, fun i F' H' x H'' hi s1 s2 y => ?_⟩
  obtain ⟨rfl, rfl⟩ := y
  rw [stepTo_length] at hi
  exact ⟨F', _, Ext.refl s2, stepTo_get hi, .int _⟩
theorem iw_str {z : Str} : IW K F (Its z) (z.cps.toList.map fun c => .str ⟨#[c]⟩) := by
  refine ⟨_, _, by rw [List.length_map, Array.length_toList]; exact walk_str, fun H' s => trivial, fun i F' H' x H'' hi s1 s2 y => ?_⟩
  obtain ⟨rfl, c, e, rfl⟩ := y
  refine ⟨F', _, Ext.refl s2, ?_, .str _⟩
  rw [List.getElem?_map, Array.getElem?_toList, e]; rfl
/-- pairs -/
theorem iw_pair {J : It} {G : Hp → Prop} {xs ys : List V} {ds es : List D} (w : Walk J (min xs.length ys.length) G (YPair (fun i => xs[i]?) (fun i => ys[i]?))) (hG : ∀ H', Same F H' → G H') (r : RpL K F xs ds) (r' : RpL K F ys es) : IW K F J (zipD ds es) := by
  refine ⟨_, _, by rw [zipD_length, ← r.length, ← r'.length]; exact w, hG, fun i F' H' x H'' hi s1 s2 y => ?_⟩
  obtain ⟨T, u, v, rfl, hT, rfl, e1, e2⟩ := y
  obtain ⟨d, e3, r1⟩ := r.getV e1
  obtain ⟨e, e4, r2⟩ := r'.getV e2
  refine ⟨_, .tuple [d, e], Ext.new s2 hT, ?_, Rp.newT s2 hT (.cons (r1.mono s1) (.cons (r2.mono s1) .nil)) (by rw [sizeLine_eq]; show 2 ≤ 16777216; decide)⟩
  unfold zipD
  rw [List.getElem?_zipWith, e3, e4]
end
section
variable {X : Cx} {W : WX} {tg a b : Expr} {f g : Sls → R D} {pos p : Pos} {es : List Expr} {fs : Sls → R (List D)}
theorem di_list (ha : DE X W a f) : DI X W tg a (fun δ => (f δ).bind listOf) := by
  obtain ⟨ta, pa, ha⟩ := ha
  refine ⟨_, pi_list pa, fun σ F H δ Q rs h => ?_⟩
  refine ha σ F H δ _ rs (Post.seq h fun x d F1 H1 e1 r1 h1 => ?_)
  cases r1 with
  | lst q r z => exact ⟨_, rfl, ⟨_, SqL.of (e1.fh _ _ q)⟩, Post.here e1.fh h1 (iw_list q r)⟩
  | _ => exact h1.elim
theorem di_tup (ha : DE X W a f) : DI X W tg a (fun δ => (f δ).bind tupOf) := by
  obtain ⟨ta, pa, ha⟩ := ha
  refine ⟨_, pi_tup pa, fun σ F H δ Q rs h => ?_⟩
  refine ha σ F H δ _ rs (Post.seq h fun x d F1 H1 e1 r1 h1 => ?_)
  cases r1 with
  | tup q r z => exact ⟨_, rfl, ⟨_, SqT.of (e1.fh _ _ q)⟩, Post.here e1.fh h1 (iw_tup q r)⟩
  | _ => exact h1.elim
theorem di_str (ha : DE X W a f) : DI X W tg a (fun δ => (f δ).bind signsOf) := by
  obtain ⟨ta, pa, ha⟩ := ha
  refine ⟨_, pi_str pa, fun σ F H δ Q rs h => ?_⟩
  refine ha σ F H δ _ rs (Post.seq h fun x d F1 H1 e1 r1 h1 => ?_)
  cases r1 with
  | str z => exact ⟨_, rfl, Post.here e1.fh h1 iw_str⟩
  | _ => exact h1.elim
theorem small62_iff {i : Int} : small62 i = true ↔ -(2 ^ 62) ≤ i ∧ i < 2 ^ 62 := by
  unfold small62; rw [Bool.and_eq_true, decide_eq_true_eq, decide_eq_true_eq]
variable {c : Expr} {k : Sls → R D}
theorem di_range1 (hg : Gl X "range") (hm : X.mg "range" = none) (ha : DE X W a f) (hs : ∀ es, starEach (a :: es) X.env = (false, eval a X.env) :: starEach es X.env) : DI X W tg (.Call (.Name "range" p) [a] [] pos) (fun δ => (f δ).bind range1) := by
  obtain ⟨ta, pa, ha⟩ := ha
  refine ⟨_, pi_range1 hg hm (pa_cons pa pa_nil (hs _)) (by rw [hs]; rfl), fun σ F H δ Q rs h => ?_⟩
  refine ha σ F H δ _ rs (Post.seq h fun x d F1 H1 e1 r1 h1 => ?_)
  cases r1 with
  | int j =>
    obtain ⟨z, h1⟩ := post_if h1
    exact ⟨_, rfl, (small62_iff.mp z).1, (small62_iff.mp z).2, Post.here e1.fh h1 iw_range⟩
  | _ => exact h1.elim
theorem di_range2 (hg : Gl X "range") (hm : X.mg "range" = none) (ha : DE X W a f) (hb : DE X W b g) (hs : ∀ es, starEach (a :: es) X.env = (false, eval a X.env) :: starEach es X.env) (hs' : ∀ es, starEach (b :: es) X.env = (false, eval b X.env) :: starEach es X.env) :
    DI X W tg (.Call (.Name "range" p) [a, b] [] pos) (fun δ => (f δ).bind fun x => (g δ).bind fun y => range2 x y) := by
  obtain ⟨ta, pa, ha⟩ := ha
  obtain ⟨tb, pb, hb⟩ := hb
  refine ⟨_, pi_range2 hg hm (pa_cons pa (pa_cons pb pa_nil (hs' _)) (hs _)) (by rw [hs, hs']; rfl) (by rw [hs']; rfl), fun σ F H δ Q rs h => ?_⟩
  refine ha σ F H δ _ rs (Post.seq h fun x d F1 H1 e1 r1 h1 => ?_)
  refine hb σ F1 H1 δ _ (rs.ext e1) (Post.seq h1 fun y e F2 H2 e2 r2 h2 => ?_)
  cases r1 with
  | int i => cases r2 with
    | int j =>
      obtain ⟨z, h2⟩ := post_if h2
      exact ⟨_, _, rfl, ⟨(small62_iff.mp z.1).1, (small62_iff.mp z.1).2, (small62_iff.mp z.2).1, (small62_iff.mp z.2).2⟩, Post.here e2.fh h2 iw_range⟩
    | _ => exact h2.elim
  | _ => exact h2.elim
theorem di_range3 (hg : Gl X "range") (hm : X.mg "range" = none) (ha : DE X W a f) (hb : DE X W b g) (hc : DE X W c k) (hs : ∀ es, starEach (a :: es) X.env = (false, eval a X.env) :: starEach es X.env) (hs' : ∀ es, starEach (b :: es) X.env = (false, eval b X.env) :: starEach es X.env) (hs2 : ∀ es, starEach (c :: es) X.env = (false, eval c X.env) :: starEach es X.env) :
    DI X W tg (.Call (.Name "range" p) [a, b, c] [] pos) (fun δ => (f δ).bind fun x => (g δ).bind fun y => (k δ).bind fun z => range3 x y z) := by
  obtain ⟨ta, pa, ha⟩ := ha
  obtain ⟨tb, pb, hb⟩ := hb
  obtain ⟨tc, pc, hc⟩ := hc
  refine ⟨_, pi_range3 hg hm (pa_cons pa (pa_cons pb (pa_cons pc pa_nil (hs2 _)) (hs' _)) (hs _)) (hs _) (by rw [hs', hs2]; rfl), fun σ F H δ Q rs h => ?_⟩
  refine ha σ F H δ _ rs (Post.seq h fun x d F1 H1 e1 r1 h1 => ?_)
  refine hb σ F1 H1 δ _ (rs.ext e1) (Post.seq h1 fun y e F2 H2 e2 r2 h2 => ?_)
  refine hc σ F2 H2 δ _ ((rs.ext e1).ext e2) (Post.seq h2 fun z u F3 H3 e3 r3 h3 => ?_)
  cases r1 with
  | int i => cases r2 with
    | int j => cases r3 with
      | int l =>
        obtain ⟨z, h3⟩ := post_if h3
        exact ⟨_, _, _, _, rfl, ⟨z.1, z.2.1, z.2.2, PyProof.Rows.rangeSize_toNat _ _ _⟩, Post.here e3.fh h3 iw_rangeC⟩
      | _ => exact h3.elim
    | _ => exact h3.elim
  | _ => exact h3.elim
theorem walk_zipT {K : PySem.W.Frag} {a b : Addr} {xs ys : List V} : Walk (RZ.ItzT K a b) (min xs.length ys.length) (fun H => SqT K H a xs ∧ SqT K H b ys) (YPair (fun i => xs[i]?) (fun i => ys[i]?)) := by
  refine ⟨fun i _ hi q => ?_, fun _ q => ⟨xs, ys, q.1, q.2, by omega⟩, fun i H v H' _ q y => ?_⟩
  · have h1 : i < xs.length := by omega
    have h2 : i < ys.length := by omega
    exact ⟨xs, ys, xs[i], ys[i], q.1, q.2, by simp [h1], by simp [h2]⟩
  · obtain ⟨T, x, z, h1, h2, h3, h4, h5⟩ := y
    exact ⟨T, x, z, h1, h2, h3, h4 xs q.1, h5 ys q.2⟩
theorem di_zip {elts : List Expr} {kk : Nat} {tpos : Pos} (hg : Gl X "zip") (hm : X.mg "zip" = none) (ha : DE X W a f) (hb : DE X W b g) (hs : ∀ es, starEach (a :: es) X.env = (false, eval a X.env) :: starEach es X.env) (hs' : ∀ es, starEach (b :: es) X.env = (false, eval b X.env) :: starEach es X.env) :
    DI X W (.Tuple elts kk tpos) (.Call (.Name "zip" p) [a, b] [] pos) (fun δ => (f δ).bind fun x => (g δ).bind fun y => zipOf x y) := by
  obtain ⟨ta, pa, ha⟩ := ha
  obtain ⟨tb, pb, hb⟩ := hb
  refine ⟨_, RZ.pi_zipA hg hm (pa_cons pa (pa_cons pb pa_nil (hs' _)) (hs _)) (hs _) (by rw [hs']; rfl), fun σ F H δ Q rs h => ?_⟩
  refine ha σ F H δ _ rs (Post.seq h fun x d F1 H1 e1 r1 h1 => ?_)
  refine hb σ F1 H1 δ _ (rs.ext e1) (Post.seq h1 fun y e F2 H2 e2 r2 h2 => ?_)
  have r1 := r1.mono e2.ff
  cases r1 with
  | lst q r z => cases r2 with
    | lst q' r' z' =>
      exact ⟨_, _, _, _, rfl, .inl ⟨SqL.of (e2.fh _ _ q), SqL.of (e2.fh _ _ q'), Post.here e2.fh h2 (iw_pair (walk_zip rfl) (fun H' s => ⟨SqL.of (s _ _ q), SqL.of (s _ _ q')⟩) r r')⟩⟩
    | _ => exact h2.elim
  | tup q r z => cases r2 with
    | tup q' r' z' =>
      exact ⟨_, _, _, _, rfl, .inr ⟨SqT.of (e2.fh _ _ q), SqT.of (e2.fh _ _ q'), Post.here e2.fh h2 (iw_pair walk_zipT (fun H' s => ⟨SqT.of (s _ _ q), SqT.of (s _ _ q')⟩) r r')⟩⟩
    | _ => exact h2.elim
  | _ => exact h2.elim
end

/-! ### targets -/
section
variable {K : PySem.W.Frag} {F H : Hp} {σ : St} {δ : Sls}
theorem get_set_ne {α : Type} {l : List α} {i j : Nat} {a b : α} (h : (l.set i a)[j]? = some b) (hne : j ≠ i) : l[j]? = some b := by
  rw [List.getElem?_set_ne (Ne.symm hne)] at h; exact h
theorem RS.set_sh (r : RS K F H σ δ) {i : Nat} {v : V} {d : D} (q : Rp K F v d) : RS K F H (σ.set i (some v)) (δ.set i (.sh d)) := by
  refine ⟨r.same, by rw [List.length_set, List.length_set]; exact r.len, fun j e h => ?_, fun j a h => ?_, fun j h => ?_, fun j k a h1 h2 h3 h4 => ?_⟩
  · by_cases hj : j = i
    · subst hj
      have hl : j < δ.length := by
        rcases List.getElem?_eq_some_iff.mp h with ⟨z, _⟩
        rw [List.length_set] at z; exact z
      rw [List.getElem?_set_self hl] at h
      cases h
      exact ⟨v, by rw [List.getElem?_set_self (by rw [r.len]; exact hl)], q⟩
    · obtain ⟨u, h1, h2⟩ := r.sh j e (get_set_ne h hj)
      exact ⟨u, by rw [List.getElem?_set_ne (Ne.symm hj)]; exact h1, h2⟩
  · have hj : j ≠ i := by
      rintro rfl
      by_cases hl : j < δ.length
      · rw [List.getElem?_set_self hl] at h; cases h
      · rw [List.getElem?_eq_none (by rw [List.length_set]; omega)] at h; cases h
    rw [List.getElem?_set_ne (Ne.symm hj)] at h ⊢
    exact r.rf j a h
  · by_cases hj : j = i
    · subst hj
      exfalso
      by_cases hl : j < δ.length
      · rw [List.getElem?_set_self hl] at h; exact h
      · rw [List.getElem?_eq_none (by rw [List.length_set]; omega)] at h; exact h
    · rw [List.getElem?_set_ne (Ne.symm hj)] at h
      obtain ⟨a, h1, h2, h3⟩ := r.own j h
      exact ⟨a, by rw [List.getElem?_set_ne (Ne.symm hj)]; exact h1, h2, by rw [List.getElem?_set_ne (Ne.symm hj)]; exact h3⟩
  · have ne : ∀ {j : Nat}, isOwn (δ.set i (.sh d))[j]? → j ≠ i := fun {j} h e => by
      subst e
      by_cases hl : j < δ.length
      · rw [List.getElem?_set_self hl] at h; exact h
      · rw [List.getElem?_eq_none (by rw [List.length_set]; omega)] at h; exact h
    have n1 := ne h1
    have n2 := ne h2
    rw [List.getElem?_set_ne (Ne.symm n1)] at h1 h3
    rw [List.getElem?_set_ne (Ne.symm n2)] at h2 h4
    exact r.apart j k a h1 h2 h3 h4
end
mutual
/-- a target: a name's slot, or several -/
inductive Tg where
  | nm (i : Nat)
  | tp (ts : Tgs)
inductive Tgs where
  | nil
  | cons (t : Tg) (ts : Tgs)
end
mutual
def bindT : Tg → D → Sls → R Sls
  | .nm i, d, δ => .ok (δ.set i (.sh d))
  | .tp ts, .tuple ds, δ => bindTs ts ds δ
  | .tp _, _, _ => .bad
def bindTs : Tgs → List D → Sls → R Sls
  | .nil, [], δ => .ok δ
  | .cons t ts, d :: ds, δ => (bindT t d δ).bind fun δ' => bindTs ts ds δ'
  | _, _, _ => .bad
end
mutual
def slotsT : Tg → List Nat
  | .nm i => [i]
  | .tp ts => slotsTs ts
def slotsTs : Tgs → List Nat
  | .nil => []
  | .cons t ts => slotsT t ++ slotsTs ts
end
theorem wipe_in {σ : St} {i : Nat} : ∀ {vs : List Nat}, i ∈ vs → i < σ.length → (wipe σ vs)[i]? = some none
  | v :: vs, h, hl => by
    unfold wipe
    by_cases e : v = i
    · subst e
      rw [List.getElem?_set_self (by rw [wipe_length]; exact hl)]
    · rw [List.getElem?_set_ne e]
      exact wipe_in ((List.mem_cons.mp h).resolve_left (Ne.symm e)) hl
/-- the slots but those of vs are as they were -/
def Wiped (vs : List Nat) (σ σ' : St) : Prop := ∀ ws : List Nat, (∀ i ∈ vs, i ∈ ws) → wipe σ' ws = wipe σ ws
theorem Wiped.trans {vs us : List Nat} {σ σ1 σ2 : St} (a : Wiped vs σ σ1) (b : Wiped us σ1 σ2) : Wiped (vs ++ us) σ σ2 := fun ws h =>
  (b ws fun i hi => h i (List.mem_append_right _ hi)).trans (a ws fun i hi => h i (List.mem_append_left _ hi))
theorem Wiped.set {σ : St} {i : Nat} {v : Option V} : Wiped [i] σ (σ.set i v) := fun ws h => by
  have hi := h i (by simp)
  apply List.ext_getElem?
  intro j
  by_cases hj : j ∈ ws
  · by_cases hl : j < σ.length
    · rw [wipe_in hj (by rw [List.length_set]; exact hl), wipe_in hj hl]
    · rw [List.getElem?_eq_none (by rw [wipe_length, List.length_set]; omega), List.getElem?_eq_none (by rw [wipe_length]; omega)]
  · rw [wipe_out hj, wipe_out hj, List.getElem?_set_ne (by rintro rfl; exact hj hi)]
/-- what is one's own was so -/
def OwnSub (σ : St) (δ : Sls) (σ' : St) (δ' : Sls) : Prop := ∀ (i : Nat) (a : Addr), isOwn δ'[i]? → σ'[i]? = some (some (.ref a)) → isOwn δ[i]? ∧ σ[i]? = some (some (.ref a))
theorem OwnSub.trans {σ σ1 σ2 : St} {δ δ1 δ2 : Sls} (a : OwnSub σ δ σ1 δ1) (b : OwnSub σ1 δ1 σ2 δ2) : OwnSub σ δ σ2 δ2 := fun i c h1 h2 => let ⟨q1, q2⟩ := b i c h1 h2; a i c q1 q2
theorem OwnSub.set {σ : St} {δ : Sls} {i : Nat} {v : Option V} {d : D} : OwnSub σ δ (σ.set i v) (δ.set i (.sh d)) := fun j a h1 h2 => by
  have hj : j ≠ i := by
    rintro rfl
    by_cases hl : j < δ.length
    · rw [List.getElem?_set_self hl] at h1; exact h1
    · rw [List.getElem?_eq_none (by rw [List.length_set]; omega)] at h1; exact h1
  rw [List.getElem?_set_ne (Ne.symm hj)] at h1 h2
  exact ⟨h1, h2⟩
/-- what is wanted behind a store -/
def PostG (K : PySem.W.Frag) (vs : List Nat) (σ : St) (δ : Sls) (F H : Hp) (r : R Sls) (Q : St → Hp → Prop) : Prop := match r with
  | .ok δ' => ∀ σ', RS K F H σ' δ' → Wiped vs σ σ' → OwnSub σ δ σ' δ' → Q σ' H
  | _ => False
/-- the least that is asked -/
def cG (K : PySem.W.Frag) (vs : List Nat) (g : D → Sls → R Sls) : TG := fun x σ H Q => ∃ d F δ, RS K F H σ δ ∧ Rp K F x d ∧ PostG K vs σ δ F H (g d δ) Q
def cGs (K : PySem.W.Frag) (vs : List Nat) (g : List D → Sls → R Sls) : TGs := fun xs σ H Q => ∃ ds F δ, RS K F H σ δ ∧ RpL K F xs ds ∧ PostG K vs σ δ F H (g ds δ) Q
section
variable {X : Cx}
theorem PG.imp {e : Expr} {t t' : TG} (h : PG X e t) (q : ∀ x σ H Q, t' x σ H Q → t x σ H Q) : PG X e t' := ⟨fun pins s σ H v u Q I r hw => h.run pins s σ H v u Q I r (q _ _ _ _ hw)⟩
theorem PGs.imp {e : List Expr} {t t' : TGs} (h : PGs X e t) (q : ∀ x σ H Q, t' x σ H Q → t x σ H Q) : PGs X e t' := ⟨fun pins s σ H v u Q I r hw => h.run pins s σ H v u Q I r (q _ _ _ _ hw)⟩
theorem dg_name {i : Nat} {x : Str} {pos : Pos} (hN : X.N.Nodup) (hi : X.N[i]? = some x) (hx : Loc X.env.scope x) (hf : X.fn x = true ∨ X.env.scope.names.lookup x = some .local) : PG X (.Name x pos) (cG X.K (slotsT (.nm i)) (bindT (.nm i))) :=
  PG.imp (pg_name hN hi hx hf) fun x σ H Q ⟨d, F, δ, rs, r, h⟩ => h _ (rs.set_sh r) Wiped.set OwnSub.set
theorem dgs_nil : PGs X [] (cGs X.K (slotsTs .nil) (bindTs .nil)) := PGs.imp pgs_nil fun xs σ H Q ⟨ds, F, δ, rs, r, h⟩ => by
  cases r with
  | nil => exact ⟨rfl, h _ rs (fun ws _ => rfl) fun i a h1 h2 => ⟨h1, h2⟩⟩
  | cons a b => exact h.elim
theorem dgs_cons {e : Expr} {es : List Expr} {t : Tg} {ts : Tgs} (h1 : PG X e (cG X.K (slotsT t) (bindT t))) (h2 : PGs X es (cGs X.K (slotsTs ts) (bindTs ts))) (hs : (assignEach (e :: es) X.env).map (·.2) = assign e X.env :: (assignEach es X.env).map (·.2)) : PGs X (e :: es) (cGs X.K (slotsTs (.cons t ts)) (bindTs (.cons t ts))) := by
  refine PGs.imp (pgs_cons h1 h2 hs) fun xs σ H Q ⟨ds, F, δ, rs, r, h⟩ => ?_
  cases r with
  | nil => exact h.elim
  | @cons v vs d ds a b =>
    have h : PostG X.K (slotsTs (.cons t ts)) σ δ F H ((bindT t d δ).bind fun δ' => bindTs ts ds δ') Q := h
    refine ⟨v, vs, rfl, d, F, δ, rs, a, ?_⟩
    cases e1 : bindT t d δ with
    | ok δ' =>
      rw [e1] at h
      refine fun σ' rs' w1 o1 => ⟨ds, F, δ', rs', b, ?_⟩
      have h : PostG X.K (slotsTs (.cons t ts)) σ δ F H (bindTs ts ds δ') Q := h
      cases e2 : bindTs ts ds δ' with
      | ok δ2 =>
        rw [e2] at h
        exact fun σ2 rs2 w2 o2 => h σ2 rs2 (w1.trans w2) (o1.trans o2)
      | exn c => rw [e2] at h; exact h.elim
      | bad => rw [e2] at h; exact h.elim
    | exn c => rw [e1] at h; exact h.elim
    | bad => rw [e1] at h; exact h.elim
def lenTs : Tgs → Nat
  | .nil => 0
  | .cons _ ts => lenTs ts + 1
theorem bindTs_len : ∀ {ts : Tgs} {ds : List D} {δ δ' : Sls}, bindTs ts ds δ = .ok δ' → ds.length = lenTs ts
  | .nil, [], _, _, _ => rfl
  | .nil, _ :: _, _, _, h => by cases h
  | .cons t ts, [], _, _, h => by cases h
  | .cons t ts, d :: ds, δ, δ', h => by
    rw [bindTs] at h
    cases e : bindT t d δ with
    | ok δ1 => rw [e] at h; rw [List.length_cons, bindTs_len (ts := ts) h]; rfl
    | exn c => rw [e] at h; cases h
    | bad => rw [e] at h; cases h
theorem dg_tup {es : List Expr} {k : Nat} {pos : Pos} {ts : Tgs} (hc : X.calm = true) (h : PGs X es (cGs X.K (slotsTs ts) (bindTs ts))) (hn : (assignEach es X.env).length = lenTs ts) (hst : (assignEach es X.env).findIdx? (·.1) = none) : PG X (.Tuple es k pos) (cG X.K (slotsT (.tp ts)) (bindT (.tp ts))) := by
  refine PG.imp (pg_tup hc h hn hst) fun x σ H Q ⟨d, F, δ, rs, r, q⟩ => ?_
  cases r with
  | tup q' r' z' =>
    have q : PostG X.K (slotsTs ts) σ δ F H (bindTs ts _ δ) Q := q
    cases e : bindTs ts _ δ with
    | ok δ' => exact ⟨_, _, rfl, SqT.of (rs.same _ _ q'), by rw [r'.length]; exact bindTs_len e, _, F, δ, rs, r', q⟩
    | exn c => rw [e] at q; exact q.elim
    | bad => rw [e] at q; exact q.elim
  | _ => exact q.elim
end
end DW
/-! The data layer, part F: comprehensions, statements. -/
namespace DW
open PySem PySem.Spec PyProof.Rows L2

/-- the least that is asked of an expression, a test -/
def cE (K : PySem.W.Frag) (mg : Str → Option Value) (W : WX) (f : Sls → R D) : TE := fun σ H Q => ∃ F δ, RS K F H σ δ ∧ Post mg W σ (Rp K) F H (f δ) Q
def cT (K : PySem.W.Frag) (mg : Str → Option Value) (W : WX) (f : Sls → R Bool) : TT := fun σ H Q => ∃ F δ, RS K F H σ δ ∧ Post mg W σ (fun _ b c => b = c) F H (f δ) Q
section
variable {X : Cx} {W : WX} {e : Expr}
theorem DE.pe {f : Sls → R D} (h : DE X W e f) : PE X e (cE X.K X.mg W f) := by
  obtain ⟨t, p, h⟩ := h
  exact ⟨fun pins s σ H Q I ⟨F, δ, rs, q⟩ => p.run pins s σ H Q I (h σ F H δ Q rs q)⟩
theorem DT.pt {f : Sls → R Bool} (h : DT X W e f) : PT X e (cT X.K X.mg W f) := by
  obtain ⟨t, p, h⟩ := h
  exact ⟨fun pins s σ H Q I ⟨F, δ, rs, q⟩ => p.run pins s σ H Q I (h σ F H δ Q rs q)⟩
end
/-- no exception is wished for -/
abbrev W0 : WX := fun _ _ _ _ => False
theorem takesW0 {X : Cx} : L2N.Takes X W0 := fun u s' ⟨a, B, sI, pins, σ, H, cls, d, e, I, nb, up, sky, na, os, ag, w⟩ => w.elim

def noExn {α : Type} : R α → R α
  | .ok a => .ok a
  | _ => .bad
def wipeD (δ : Sls) : List Nat → Sls
  | [] => δ
  | v :: vs => (wipeD δ vs).set v .un
theorem wipeD_length (δ : Sls) : ∀ vs : List Nat, (wipeD δ vs).length = δ.length
  | [] => rfl
  | v :: vs => by unfold wipeD; rw [List.length_set, wipeD_length δ vs]
/-- the items of [e for g in .. if c] -/
def lcD (g : D → Sls → R Sls) (c : Sls → R Bool) (e : Sls → R D) (δ : Sls) : List D → R (List D)
  | [] => .ok []
  | d :: ds => (g d δ).bind fun δ1 => (c δ1).bind fun t => if t then (e δ1).bind fun y => (lcD g c e δ ds).bind fun ys => .ok (y :: ys) else lcD g c e δ ds
def lcR (g : D → Sls → R Sls) (c : Sls → R Bool) (e : Sls → R D) (δ : Sls) (ds : List D) : R D :=
  if ds.length ≤ sizeLine then (noExn (lcD g c e δ ds)).bind fun ys => .ok (.list ys) else .bad
theorem lcD_len {g : D → Sls → R Sls} {c : Sls → R Bool} {e : Sls → R D} {δ : Sls} : ∀ {ds ys : List D}, lcD g c e δ ds = .ok ys → ys.length ≤ ds.length
  | [], ys, h => by cases h; exact Nat.le_refl _
  | d :: ds, ys, h => by
    rw [lcD] at h
    cases e1 : g d δ with
    | ok δ1 =>
      rw [e1, R.bind_ok] at h
      cases e2 : c δ1 with
      | ok t =>
        rw [e2, R.bind_ok] at h
        cases t with
        | true =>
          rw [if_pos rfl] at h
          cases e3 : e δ1 with
          | ok y =>
            rw [e3, R.bind_ok] at h
            cases e4 : lcD g c e δ ds with
            | ok zs =>
              rw [e4, R.bind_ok] at h
              cases h
              have := lcD_len e4
              rw [List.length_cons, List.length_cons]; omega
            | exn c => rw [e4] at h; cases h
            | bad => rw [e4] at h; cases h
          | exn c => rw [e3] at h; cases h
          | bad => rw [e3] at h; cases h
        | false =>
          rw [if_neg (by decide)] at h
          have := lcD_len h
          rw [List.length_cons]; omega
      | exn c => rw [e2] at h; cases h
      | bad => rw [e2] at h; cases h
    | exn c => rw [e1] at h; cases h
    | bad => rw [e1] at h; cases h

section
variable {K : PySem.W.Frag} {F H : Hp} {σ : St} {δ : Sls}
theorem RS.set_un (r : RS K F H σ δ) {i : Nat} : RS K F H (σ.set i none) (δ.set i .un) := by
  have noun : ¬ isOwn (δ.set i .un)[i]? := fun h => by
    by_cases hl : i < δ.length
    · rw [List.getElem?_set_self hl] at h; exact h
    · rw [List.getElem?_eq_none (by rw [List.length_set]; omega)] at h; exact h
  refine ⟨r.same, by rw [List.length_set, List.length_set]; exact r.len, fun j e h => ?_, fun j a h => ?_, fun j h => ?_, fun j k a h1 h2 h3 h4 => ?_⟩
  · have hj : j ≠ i := by
      rintro rfl
      by_cases hl : j < δ.length
      · rw [List.getElem?_set_self hl] at h; cases h
      · rw [List.getElem?_eq_none (by rw [List.length_set]; omega)] at h; cases h
    obtain ⟨u, h1, h2⟩ := r.sh j e (get_set_ne h hj)
    exact ⟨u, by rw [List.getElem?_set_ne (Ne.symm hj)]; exact h1, h2⟩
  · have hj : j ≠ i := by
      rintro rfl
      by_cases hl : j < δ.length
      · rw [List.getElem?_set_self hl] at h; cases h
      · rw [List.getElem?_eq_none (by rw [List.length_set]; omega)] at h; cases h
    rw [List.getElem?_set_ne (Ne.symm hj)] at h ⊢
    exact r.rf j a h
  · have hj : j ≠ i := by rintro rfl; exact noun h
    rw [List.getElem?_set_ne (Ne.symm hj)] at h
    obtain ⟨a, h1, h2, h3⟩ := r.own j h
    exact ⟨a, by rw [List.getElem?_set_ne (Ne.symm hj)]; exact h1, h2, by rw [List.getElem?_set_ne (Ne.symm hj)]; exact h3⟩
  · have n1 : j ≠ i := by rintro rfl; exact noun h1
    have n2 : k ≠ i := by rintro rfl; exact noun h2
    rw [List.getElem?_set_ne (Ne.symm n1)] at h1 h3
    rw [List.getElem?_set_ne (Ne.symm n2)] at h2 h4
    exact r.apart j k a h1 h2 h3 h4
theorem RS.wipe (r : RS K F H σ δ) : ∀ vs : List Nat, RS K F H (L2.wipe σ vs) (wipeD δ vs)
  | [] => r
  | v :: vs => (RS.wipe r vs).set_un
end

/-- what is walked, and what a turn of a comprehension asks -/
theorem lc_sound {K : PySem.W.Frag} {mg : Str → Option Value} {J : It} {ds tot : List D} {F1 H1 : Hp} {g : D → Sls → R Sls} {us vs : List Nat} {c : Sls → R Bool} {e : Sls → R D} {σ : St} {δ : Sls} {Q : VK} {D0 : Addr}
    (iw : IW K F1 J ds) (rs : RS K F1 H1 σ δ) (hD : H1 D0 = none) (hz : ds.length ≤ sizeLine) (hu : ∀ i ∈ us, i ∈ vs) (ht : lcD g c e (wipeD δ vs) ds = .ok tot)
    (hQ : ∀ F acc H, Ext F1 H1 F H → F D0 = none → H D0 = some (.lst acc) → RpL K F acc tot → tot.length ≤ sizeLine → Q (.ref D0) H) :
    ∃ W : Nat → Nat → Hp → Prop, (∃ m, W 0 m (upd H1 D0 (.lst []))) ∧ ∀ i m H, W i m H →
      (J.stop i H ∧ Q (.ref D0) H) ∨ (J.go i H ∧ ∃ Nx : Hp → Prop, (∀ H', Nx H' → ∃ m', m' < m ∧ W (i + 1) m' H') ∧ ∀ x H', J.yld i H x H' → cG K us g x (L2.wipe σ vs) H' fun σ2 H2 => L2.wipe σ2 vs = L2.wipe σ vs ∧ cT K mg W0 c σ2 H2 fun b H3 =>
        if b = true then cE K mg W0 e σ2 H3 fun y H4 => ∃ acc, H4 D0 = some (.lst acc) ∧ acc.length < sizeLine ∧ Nx (upd H4 D0 (.lst (acc ++ [y]))) else Nx H3) := by
  obtain ⟨G, Y, w, hG, hY⟩ := iw.ex
  have ww : ∀ σ0 : St, L2.wipe (L2.wipe σ0 vs) vs = L2.wipe σ0 vs := fun σ0 => by
    apply List.ext_getElem?
    intro j
    by_cases hj : j ∈ vs
    · by_cases hl : j < σ0.length
      · rw [wipe_in hj (by rw [wipe_length]; exact hl), wipe_in hj hl]
      · rw [List.getElem?_eq_none (by rw [wipe_length, wipe_length]; omega), List.getElem?_eq_none (by rw [wipe_length]; omega)]
    · rw [wipe_out hj]
  refine lc_it w (Qd := fun H => Q (.ref D0) H) (fun i H => ∃ F acc ys rest, Ext F1 H1 F H ∧ F D0 = none ∧ H D0 = some (.lst acc) ∧ RpL K F acc ys ∧ ys.length ≤ i ∧ lcD g c e (wipeD δ vs) (ds.drop i) = .ok rest ∧ ys ++ rest = tot) ?_ ?_ ?_ ?_
  · exact ⟨F1, [], [], tot, Ext.own rs.same hD, rs.same.free hD, upd_same, .nil, Nat.le_refl _, ht, rfl⟩
  · rintro i H _ ⟨F, acc, ys, rest, ex, _⟩
    exact hG H (ex.ff.trans ex.fh)
  · rintro i x H H' hi ⟨F, acc, ys, rest, ex, fd, hd, ra, hl, hlc, htot⟩ y
    obtain ⟨F2, d, e2, hd2, r2⟩ := hY i F H x H' hi ex.ff ex.fh y
    have ex2 := ex.trans e2
    have hdrop : ds.drop i = d :: ds.drop (i + 1) := by
      rw [← List.getElem_cons_drop (h := hi)]
      rw [List.getElem?_eq_getElem hi] at hd2
      rw [Option.some.inj hd2]
    rw [hdrop, lcD] at hlc
    have own : ∀ {F' Ha Hb : Hp}, Ext F Ha F' Hb → Ha D0 = some (.lst acc) → F' D0 = none := fun {F' Ha Hb} e q => by
      cases z : F' D0 with
      | none => rfl
      | some o =>
        rcases e.fr _ _ z with z | z
        · rw [fd] at z; cases z
        · rw [q] at z; cases z
    cases q1 : g d (wipeD δ vs) with
    | exn _ => rw [q1] at hlc; cases hlc
    | bad => rw [q1] at hlc; cases hlc
    | ok δ1 =>
    rw [q1, R.bind_ok] at hlc
    refine ⟨d, F2, wipeD δ vs, (rs.ext ex2).wipe vs, r2, ?_⟩
    rw [q1]
    intro σ2 rs2 w2 _
    refine ⟨by rw [w2 vs hu, ww], F2, δ1, rs2, ?_⟩
    cases q2 : c δ1 with
    | exn _ => rw [q2] at hlc; cases hlc
    | bad => rw [q2] at hlc; cases hlc
    | ok t =>
    rw [q2, R.bind_ok] at hlc
    intro b F3 H3 e3 hb
    subst hb
    have ex3 := ex2.trans e3
    have hd3 : H3 D0 = some (.lst acc) := e3.hh _ _ (e2.hh _ _ hd)
    cases b with
    | false =>
      rw [if_neg (by decide)] at hlc
      refine iteF ⟨F3, acc, ys, rest, ex3, own (e2.trans e3) hd, hd3, ra.mono (e2.ff.trans e3.ff), by omega, hlc, htot⟩
    | true =>
      rw [if_pos rfl] at hlc
      refine iteT ⟨F3, δ1, rs2.ext e3, ?_⟩
      cases q3 : e δ1 with
      | exn _ => rw [q3] at hlc; cases hlc
      | bad => rw [q3] at hlc; cases hlc
      | ok y =>
      rw [q3, R.bind_ok] at hlc
      intro v F4 H4 e4 r4
      have hd4 : H4 D0 = some (.lst acc) := e4.hh _ _ hd3
      have ex4 := ex3.trans e4
      have fd4 : F4 D0 = none := own ((e2.trans e3).trans e4) hd
      cases q4 : lcD g c e (wipeD δ vs) (ds.drop (i + 1)) with
      | exn _ => rw [q4] at hlc; cases hlc
      | bad => rw [q4] at hlc; cases hlc
      | ok zs =>
      rw [q4, R.bind_ok] at hlc
      cases hlc
      refine ⟨acc, hd4, by rw [ra.length]; omega, F4, acc ++ [v], ys ++ [y], zs, ⟨ex4.ff, fun a o h => ?_, fun a o h => ?_, ex4.fr⟩, fd4, upd_same, ((ra.mono (e2.ff.trans (e3.ff.trans e4.ff))).append (.cons r4 .nil)), by rw [List.length_append, List.length_singleton]; omega, rfl, by rw [List.append_assoc]; exact htot⟩
      · rw [upd_ne (ne_of_none h hD)]; exact ex4.hh _ _ h
      · rw [upd_ne (ne_of_none h fd4)]; exact ex4.fh _ _ h
  · rintro H ⟨F, acc, ys, rest, ex, fd, hd, ra, hl, hlc, htot⟩
    rw [List.drop_length] at hlc
    cases hlc
    rw [List.append_nil] at htot
    subst htot
    exact hQ F acc H ex fd hd ra (Nat.le_trans hl hz)
/-- the new list as a datum -/
theorem lc_frz {K : PySem.W.Frag} {F1 H1 : Hp} {D0 : Addr} {tot : List D} {Q : VK} (hD : H1 D0 = none) (hQ : ∀ v F' H', Ext F1 H1 F' H' → Rp K F' v (.list tot) → Q v H') :
    ∀ F acc H, Ext F1 H1 F H → F D0 = none → H D0 = some (.lst acc) → RpL K F acc tot → tot.length ≤ sizeLine → Q (.ref D0) H := fun F acc H ex fd hd ra hz => by
  refine hQ (.ref D0) (upd F D0 (.lst acc)) H ⟨ex.ff.trans (Same.new fd), ex.hh, fun a o h => ?_, fun a o h => ?_⟩ (.lst upd_same (ra.mono (Same.new fd)) hz)
  · by_cases q : a = D0
    · subst q; rw [upd_same] at h; cases h; exact hd
    · rw [upd_ne q] at h; exact ex.fh _ _ h
  · by_cases q : a = D0
    · subst q; exact .inr hD
    · rw [upd_ne q] at h; exact ex.fr _ _ h
section
variable {X : Cx} {W : WX}
/-- the contexts of a comprehension's block -/
abbrev Blk (X : Cx) (scope : Scope) (Z : Cx → Prop) : Prop := ∀ (s : Shared) (H : Hp) (C : Addr) (cl : List (Str × Addr)) (fp : List Addr), Z (X.blk s H scope (compEnvC scope cl C X.env) fp)
theorem post_lc {σ : St} {F H : Hp} {δ : Sls} {ds : List D} {g : D → Sls → R Sls} {c : Sls → R Bool} {e : Sls → R D} {mg : Str → Option Value} {K : PySem.W.Frag} {Q : VK} (h : Post mg W σ (Rp K) F H (lcR g c e δ ds) Q) :
    ds.length ≤ sizeLine ∧ ∃ tot, lcD g c e δ ds = .ok tot ∧ ∀ v F' H', Ext F H F' H' → Rp K F' v (.list tot) → Q v H' := by
  obtain ⟨z, h⟩ := post_if h
  cases q : lcD g c e δ ds with
  | ok tot => rw [q] at h; exact ⟨z, tot, rfl, h⟩
  | exn _ => rw [q] at h; exact h.elim
  | bad => rw [q] at h; exact h.elim
theorem de_lc {elt tg iter : Expr} {ifs : List Expr} {scope : Scope} {own : List (Str × Nat)} {pos : Pos} {fi : Sls → R (List D)} {us : List Nat} {g : D → Sls → R Sls} {c : Sls → R Bool} {e : Sls → R D} (hc : X.calm = true) (hN : X.N.Nodup) (hi : DI X W tg iter fi) (ok : BlkOk X.N X.env.scope scope own)
    (hg : Blk X scope fun Z => PG Z tg (cG X.K us g)) (hu : ∀ i ∈ us, i ∈ own.map (·.2)) (ht : Blk X scope fun Z => PTs Z ifs (cT X.K X.mg W0 c)) (he : Blk X scope fun Z => PE Z elt (cE X.K X.mg W0 e)) (hs : ∀ x, foldedSetIterable iter X.env x = pure x) :
    DE X W (.ListComp elt [⟨tg, iter, ifs, 0⟩] scope pos) (fun δ => (fi δ).bind (lcR g c e (wipeD δ (own.map (·.2))))) := by
  obtain ⟨wi, pi, hi⟩ := hi
  refine ⟨_, pe_lc hc hN pi ok hg ht he hs, fun σ F H δ Q rs h => ?_⟩
  refine hi σ F H δ _ rs (Post.seq h fun J ds F1 H1 e1 r1 h1 => fun D0 hD => ?_)
  obtain ⟨z, tot, h2, h3⟩ := post_lc h1
  exact lc_sound r1 (rs.ext e1) hD z hu h2 (lc_frz hD h3)
end
end DW
/-! The data layer, part G: statements. -/
namespace DW
open PySem PySem.Spec PyProof.Rows L2

/-- how a statement ends: it goes on, or the def gives out a datum -/
inductive Fl where
  | nx (δ : Sls)
  | rt (d : D)

structure RSB (K : PySem.W.Frag) (F0 B F H : Hp) (σ : St) (δ : Sls) : Prop where
  rs : RS K F H σ δ
  ex : Ext F0 B F H
  nb : ∀ (i : Nat) (a : Addr), isOwn δ[i]? → σ[i]? = some (some (.ref a)) → B a = none
theorem RSB.ext {K : PySem.W.Frag} {F0 B F H F' H' : Hp} {σ : St} {δ : Sls} (r : RSB K F0 B F H σ δ) (e : Ext F H F' H') : RSB K F0 B F' H' σ δ := ⟨r.rs.ext e, r.ex.trans e, r.nb⟩

def PostS (K : PySem.W.Frag) (mg : Str → Option Value) (W : WX) (F0 B : Hp) (r : R Fl) (E : Ends) : Prop := match r with
  | .ok (.nx δ) => ∀ σ F H, RSB K F0 B F H σ δ → E.nx σ H
  | .ok (.rt d) => ∀ v F H, Ext F0 B F H → Rp K F v d → E.rt v H
  | .exn c => ∀ σ F H, Ext F0 B F H → ∀ u, mg c = some u → W u none σ H
  | .bad => False
/-- the least that is asked of a block -/
def cS (K : PySem.W.Frag) (mg : Str → Option Value) (W : WX) (f : Sls → R Fl) : TS := fun E σ H => ∃ F0 B F δ, RSB K F0 B F H σ δ ∧ PostS K mg W F0 B (f δ) E
abbrev DS (X : Cx) (W : WX) (st : Stmt) (f : Sls → R Fl) : Prop := PS X st (cS X.K X.mg W f)
abbrev DSs (X : Cx) (W : WX) (sts : List Stmt) (f : Sls → R Fl) : Prop := PSs X sts (cS X.K X.mg W f)
theorem PS.imp {X : Cx} {st : Stmt} {t t' : TS} (h : PS X st t) (q : ∀ E σ H, t' E σ H → t E σ H) : PS X st t' := ⟨fun pins s σ H D I hw => h.run pins s σ H D I (q _ _ _ hw)⟩
theorem PSs.imp {X : Cx} {st : List Stmt} {t t' : TS} (h : PSs X st t) (q : ∀ E σ H, t' E σ H → t E σ H) : PSs X st t' := ⟨fun pins s σ H D I hw => h.run pins s σ H D I (q _ _ _ hw)⟩
def andThen (r : R Fl) (g : Sls → R Fl) : R Fl := r.bind fun
  | .nx δ => g δ
  | .rt d => .ok (.rt d)
section
variable {X : Cx} {W : WX}
theorem PostS.seq {K : PySem.W.Frag} {mg : Str → Option Value} {F0 B : Hp} {r : R Fl} {g : Sls → R Fl} {E : Ends} (h : PostS K mg W F0 B (andThen r g) E) : PostS K mg W F0 B r { E with nx := cS K mg W g E } := by
  cases r with
  | ok fl => cases fl with
    | nx δ => exact fun σ F H rs => ⟨F0, B, F, δ, rs, h⟩
    | rt d => exact h
  | exn c => exact h
  | bad => exact h
theorem dss_nil : DSs X W [] (fun δ => .ok (.nx δ)) := PSs.imp pss_nil fun E σ H ⟨F0, B, F, δ, rs, h⟩ => h σ F H rs
theorem dss_cons {st : Stmt} {sts : List Stmt} {f g : Sls → R Fl} (h1 : DS X W st f) (h2 : DSs X W sts g) : DSs X W (st :: sts) (fun δ => andThen (f δ) g) :=
  PSs.imp (pss_cons h1 h2) fun E σ H ⟨F0, B, F, δ, rs, h⟩ => ⟨F0, B, F, δ, rs, PostS.seq h⟩

/-! ### all lists and dicts of one's own, for a while as data -/
def shSl : Sl → Sl
  | .ol ds => .sh (.list ds)
  | .od kvs => .sh (.dict kvs)
  | s => s
def view (δ : Sls) : Sls := δ.map shSl
theorem view_get {δ : Sls} {i : Nat} : (view δ)[i]? = δ[i]?.map shSl := List.getElem?_map ..
theorem view_noOwn {δ : Sls} {i : Nat} : ¬ isOwn (view δ)[i]? := by
  rw [view_get]
  cases δ[i]? with
  | none => exact fun h => h
  | some s => cases s <;> exact fun h => h
def OwnAt (σ : St) (δ : Sls) (a : Addr) : Prop := ∃ i : Nat, isOwn δ[i]? ∧ σ[i]? = some (some (.ref a))
open Classical in
noncomputable def frzHp (F H : Hp) (σ : St) (δ : Sls) : Hp := fun a => if OwnAt σ δ a then H a else F a
open Classical in
noncomputable def thwHp (F : Hp) (σ : St) (δ : Sls) : Hp := fun a => if OwnAt σ δ a then none else F a
theorem RS.ownF {K : PySem.W.Frag} {F H : Hp} {σ : St} {δ : Sls} (r : RS K F H σ δ) {a : Addr} (h : OwnAt σ δ a) : F a = none ∧ ∃ o, H a = some o := by
  obtain ⟨i, h1, h2⟩ := h
  obtain ⟨b, h3, h4, h5⟩ := r.own i h1
  rw [h2] at h3
  cases h3
  refine ⟨h4, ?_⟩
  split at h5
  · obtain ⟨vs, q, _⟩ := h5; exact ⟨_, q⟩
  · obtain ⟨vs, q, _⟩ := h5; exact ⟨_, q⟩
  · exact h5.elim
theorem RSB.freeze {K : PySem.W.Frag} {F0 B F H : Hp} {σ : St} {δ : Sls} (r : RSB K F0 B F H σ δ) : RSB K F0 B (frzHp F H σ δ) H σ (view δ) := by
  have ff : Same F (frzHp F H σ δ) := fun a o h => by
    unfold frzHp
    split
    · rename_i q; rw [(r.rs.ownF q).1] at h; cases h
    · exact h
  have fh : Same (frzHp F H σ δ) H := fun a o h => by
    unfold frzHp at h
    split at h
    · exact h
    · exact r.rs.same _ _ h
  refine ⟨⟨fh, by unfold view; rw [List.length_map]; exact r.rs.len, fun i d h => ?_, fun i a h => ?_, fun i h => (view_noOwn h).elim, fun i j a h => (view_noOwn h).elim⟩, ⟨r.ex.ff.trans ff, r.ex.hh, fh, fun a o h => ?_⟩, fun i a h => (view_noOwn h).elim⟩
  · rw [view_get, Option.map_eq_some_iff] at h
    obtain ⟨s, h1, h2⟩ := h
    cases s with
    | un => cases h2
    | sh e =>
      cases h2
      obtain ⟨v, q1, q2⟩ := r.rs.sh i d h1
      exact ⟨v, q1, q2.mono ff⟩
    | ol ds =>
      cases h2
      have io : isOwn δ[i]? := by rw [h1]; trivial
      obtain ⟨a, q1, q2, q3⟩ := r.rs.own i io
      rw [h1] at q3
      obtain ⟨vs, q4, q5, q6⟩ := q3
      refine ⟨_, q1, .lst ?_ (q5.mono ff) q6⟩
      unfold frzHp
      rw [if_pos ⟨i, io, q1⟩]; exact q4
    | od kvs =>
      cases h2
      have io : isOwn δ[i]? := by rw [h1]; trivial
      obtain ⟨a, q1, q2, q3⟩ := r.rs.own i io
      rw [h1] at q3
      obtain ⟨vs, q4, q5, q6⟩ := q3
      refine ⟨_, q1, .dct ?_ (q5.mono ff) q6⟩
      unfold frzHp
      rw [if_pos ⟨i, io, q1⟩]; exact q4
    | rf a => cases h2
  · rw [view_get, Option.map_eq_some_iff] at h
    obtain ⟨s, h1, h2⟩ := h
    cases s with
    | rf b => cases h2; exact r.rs.rf i a h1
    | _ => cases h2
  · unfold frzHp at h
    split at h
    · rename_i q
      obtain ⟨i, h1, h2⟩ := q
      exact .inr (r.nb i a h1 h2)
    · exact r.ex.fr _ _ h
theorem RSB.thaw {K : PySem.W.Frag} {F0 B F H F1 H1 : Hp} {σ : St} {δ : Sls} (r : RSB K F0 B F H σ δ) (e : Ext (frzHp F H σ δ) H F1 H1) : RSB K F0 B (thwHp F1 σ δ) H1 σ δ := by
  have ff : Same F (thwHp F1 σ δ) := fun a o h => by
    unfold thwHp
    split
    · rename_i q; rw [(r.rs.ownF q).1] at h; cases h
    · rename_i q
      refine e.ff _ _ ?_
      unfold frzHp
      rw [if_neg q]; exact h
  have t1 : Same (thwHp F1 σ δ) F1 := fun a o h => by
    unfold thwHp at h
    split at h
    · cases h
    · exact h
  refine ⟨⟨t1.trans e.fh, r.rs.len, fun i d h => ?_, r.rs.rf, fun i h => ?_, r.rs.apart⟩, ⟨r.ex.ff.trans ff, r.ex.hh.trans e.hh, t1.trans e.fh, fun a o h => ?_⟩, r.nb⟩
  · obtain ⟨v, h1, h2⟩ := r.rs.sh i d h
    exact ⟨v, h1, h2.mono ff⟩
  · obtain ⟨a, h1, h2, h3⟩ := r.rs.own i h
    have tn : thwHp F1 σ δ a = none := by unfold thwHp; rw [if_pos ⟨i, h, h1⟩]
    refine ⟨a, h1, tn, ?_⟩
    split at h3
    · obtain ⟨vs, q1, q2, q3⟩ := h3
      exact ⟨vs, e.hh _ _ q1, q2.mono ff, q3⟩
    · obtain ⟨vs, q1, q2, q3⟩ := h3
      exact ⟨vs, e.hh _ _ q1, q2.mono ff, q3⟩
    · exact h3.elim
  · have h' := t1 _ _ h
    rcases e.fr _ _ h' with q | q
    · unfold frzHp at q
      unfold thwHp at h
      split at h
      · cases h
      · rename_i z
        rw [if_neg z] at q
        exact r.ex.fr _ _ q
    · exact .inr (r.ex.hh.free q)
def scal : D → Bool
  | .none => true
  | .bool _ => true
  | .int _ => true
  | .str _ => true
  | _ => false
theorem Rp.scal {K : PySem.W.Frag} {F F' : Hp} {v : V} {d : D} (r : Rp K F v d) (h : DW.scal d = true) : Rp K F' v d := by
  cases r with
  | non => exact .non
  | bl b => exact .bl b
  | int i => exact .int i
  | str x => exact .str x
  | _ => cases h

/-! ### the statements -/
variable {e : Expr} {f : Sls → R D} {pos : Pos}
theorem ext_exn {K : PySem.W.Frag} {mg : Str → Option Value} {F0 B F H : Hp} {σ : St} {δ : Sls} {c : Str} {E : Ends} (r : RSB K F0 B F H σ δ) (h : PostS K mg W F0 B (.exn c) E) : ∀ F' H', Ext F H F' H' → ∀ u, mg c = some u → W u none σ H' := fun F' H' e u hu => h σ F' H' (r.ex.trans e) u hu
/-- return e -/
def sRet (f : Sls → R D) : Sls → R Fl := fun δ => (f (view δ)).bind fun d => .ok (.rt d)
theorem ds_ret (ha : DE X W e f) : DS X W (.Return (some e) pos) (sRet f) := by
  refine PS.imp (ps_ret ha.pe) fun E σ H ⟨F0, B, F, δ, rs, h⟩ => ?_
  refine ⟨_, view δ, rs.freeze.rs, ?_⟩
  have h : PostS X.K X.mg W F0 B ((f (view δ)).bind fun d => .ok (.rt d)) E := h
  cases q : f (view δ) with
  | ok d => rw [q] at h; exact fun v F' H' e r => h v F' H' (rs.freeze.ex.trans e) r
  | exn c => rw [q] at h; exact ext_exn rs.freeze h
  | bad => rw [q] at h; exact h.elim
def sRetN : Sls → R Fl := fun _ => .ok (.rt .none)
theorem ds_retN : DS X W (.Return none pos) sRetN := PS.imp ps_retN fun E σ H ⟨F0, B, F, δ, rs, h⟩ => h .non F H rs.ex .non
def sPass : Sls → R Fl := fun δ => .ok (.nx δ)
theorem ds_pass : DS X W (.Pass pos) sPass := PS.imp ps_pass fun E σ H ⟨F0, B, F, δ, rs, h⟩ => h σ F H rs
theorem ds_doc {x j pos pos'} : DS X W (.Expr (.Constant (.str x) j pos) pos') sPass := PS.imp ps_doc fun E σ H ⟨F0, B, F, δ, rs, h⟩ => h σ F H rs
/-- e -/
def sExpr (f : Sls → R D) : Sls → R Fl := fun δ => (f δ).bind fun _ => .ok (.nx δ)
theorem ds_expr (ha : DE X W e f) (hs : swapsWith e none pos.line X.env = pure false) : DS X W (.Expr e pos) (sExpr f) := by
  refine PS.imp (ps_expr ha.pe hs) fun E σ H ⟨F0, B, F, δ, rs, h⟩ => ?_
  refine ⟨F, δ, rs.rs, ?_⟩
  have h : PostS X.K X.mg W F0 B ((f δ).bind fun _ => .ok (.nx δ)) E := h
  cases q : f δ with
  | ok d => rw [q] at h; exact fun v F' H' e r => h σ F' H' (rs.ext e)
  | exn c => rw [q] at h; exact ext_exn rs h
  | bad => rw [q] at h; exact h.elim
/-- if c: .. else: .. -/
def sIf (c : Sls → R Bool) (f g : Sls → R Fl) : Sls → R Fl := fun δ => (c (view δ)).bind fun t => if t then f δ else g δ
theorem ds_if {c : Expr} {p : Sls → R Bool} {a b : List Stmt} {f g : Sls → R Fl} (hc : DT X W c p) (ha : DSs X W a f) (hb : DSs X W b g) : DS X W (.If c a b pos) (sIf p f g) := by
  refine PS.imp (ps_if hc.pt ha hb) fun E σ H ⟨F0, B, F, δ, rs, h⟩ => ?_
  refine ⟨_, view δ, rs.freeze.rs, ?_⟩
  have h : PostS X.K X.mg W F0 B ((p (view δ)).bind fun t => if t then f δ else g δ) E := h
  cases q : p (view δ) with
  | ok t =>
    rw [q] at h
    intro b F' H' e hb
    subst hb
    cases b with
    | true => exact iteT ⟨F0, B, _, δ, rs.thaw e, h⟩
    | false => exact iteF ⟨F0, B, _, δ, rs.thaw e, h⟩
  | exn c => rw [q] at h; exact ext_exn rs.freeze h
  | bad => rw [q] at h; exact h.elim
theorem RSB.set_sh {K : PySem.W.Frag} {F0 B F H : Hp} {σ : St} {δ : Sls} (r : RSB K F0 B F H σ δ) {i : Nat} {v : V} {d : D} (q : Rp K F v d) : RSB K F0 B F H (σ.set i (some v)) (δ.set i (.sh d)) := by
  refine ⟨r.rs.set_sh q, r.ex, fun j a h1 h2 => ?_⟩
  have hj : j ≠ i := by
    rintro rfl
    by_cases hl : j < δ.length
    · rw [List.getElem?_set_self hl] at h1; exact h1
    · rw [List.getElem?_eq_none (by rw [List.length_set]; omega)] at h1; exact h1
  rw [List.getElem?_set_ne (Ne.symm hj)] at h1 h2
  exact r.nb j a h1 h2
/-- x = e -/
def sSet (i : Nat) (f : Sls → R D) : Sls → R Fl := fun δ => (f δ).bind fun d => .ok (.nx (δ.set i (.sh d)))
theorem ts_set {K : PySem.W.Frag} {mg : Str → Option Value} {i : Nat} {E : Ends} {σ : St} {H : Hp} (h : cS K mg W (sSet i f) E σ H) : tAsg (cE K mg W f) (gName i) E σ H := by
  obtain ⟨F0, B, F, δ, rs, h⟩ := h
  refine ⟨F, δ, rs.rs, ?_⟩
  have h : PostS K mg W F0 B ((f δ).bind fun d => .ok (.nx (δ.set i (.sh d)))) E := h
  cases q : f δ with
  | ok d => rw [q] at h; exact fun v F' H' e r => h _ F' H' ((rs.ext e).set_sh r)
  | exn c => rw [q] at h; exact ext_exn rs h
  | bad => rw [q] at h; exact h.elim
theorem ds_set {i : Nat} {x : Str} {pos' : Pos} (hN : X.N.Nodup) (hi : X.N[i]? = some x) (hx : Loc X.env.scope x) (ha : DE X W e f) (hs : swapsWith e (some (.Name x pos')) pos.line X.env = pure false) (hf : X.fn x = true ∨ X.env.scope.names.lookup x = some .local) : DS X W (.Assign [.Name x pos'] e pos) (sSet i f) :=
  PS.imp (ps_set hN hi hx ha.pe hs hf) fun E σ H h => ts_set h
/-- x = e, e of lists of one's own too: a flat datum -/
def sSetV (i : Nat) (f : Sls → R D) : Sls → R Fl := fun δ => (f (view δ)).bind fun d => if scal d = true then .ok (.nx (δ.set i (.sh d))) else .bad
theorem ds_setV {i : Nat} {x : Str} {pos' : Pos} (hN : X.N.Nodup) (hi : X.N[i]? = some x) (hx : Loc X.env.scope x) (ha : DE X W e f) (hs : swapsWith e (some (.Name x pos')) pos.line X.env = pure false) (hf : X.fn x = true ∨ X.env.scope.names.lookup x = some .local) : DS X W (.Assign [.Name x pos'] e pos) (sSetV i f) := by
  refine PS.imp (ps_set hN hi hx ha.pe hs hf) fun E σ H ⟨F0, B, F, δ, rs, h⟩ => ?_
  refine ⟨_, view δ, rs.freeze.rs, ?_⟩
  have h : PostS X.K X.mg W F0 B ((f (view δ)).bind fun d => if scal d = true then .ok (.nx (δ.set i (.sh d))) else .bad) E := h
  cases q : f (view δ) with
  | ok d =>
    rw [q, R.bind_ok] at h
    split at h
    · rename_i z
      exact fun v F' H' e r => h _ _ H' ((rs.thaw e).set_sh (r.scal z))
    · exact h.elim
  | exn c => rw [q] at h; exact ext_exn rs.freeze h
  | bad => rw [q] at h; exact h.elim
/-- a, b = e -/
def sAsg (t : Tg) (f : Sls → R D) : Sls → R Fl := fun δ => (f δ).bind fun d => (noExn (bindT t d δ)).bind fun δ' => .ok (.nx δ')
theorem ts_bind {K : PySem.W.Frag} {mg : Str → Option Value} {F0 B F H : Hp} {σ : St} {δ : Sls} {t : Tg} {v : V} {d : D} {E : Ends} {k : Sls → R Fl} (rs : RSB K F0 B F H σ δ) (r : Rp K F v d) (h : PostS K mg W F0 B ((noExn (bindT t d δ)).bind k) E) {Q : St → Hp → Prop}
    (g : ∀ σ' δ', RSB K F0 B F H σ' δ' → PostS K mg W F0 B (k δ') E → Q σ' H) : cG K (slotsT t) (bindT t) v σ H Q := by
  refine ⟨d, F, δ, rs.rs, r, ?_⟩
  cases q : bindT t d δ with
  | ok δ' =>
    rw [q] at h
    exact fun σ' rs' _ o => g σ' δ' ⟨rs', rs.ex, fun i a h1 h2 => let ⟨q1, q2⟩ := o i a h1 h2; rs.nb i a q1 q2⟩ h
  | exn c => rw [q] at h; exact h.elim
  | bad => rw [q] at h; exact h.elim
theorem ds_asg {tg : Expr} {t : Tg} (ha : DE X W e f) (hg : PG X tg (cG X.K (slotsT t) (bindT t))) (hs : swapsWithSole [tg] e pos.line X.env = pure false) (hw : swappedStores [tg] e X.env = pure none) (h1 : (assignEach [tg] X.env).map (·.2) = [assign tg X.env]) :
    DS X W (.Assign [tg] e pos) (sAsg t f) := by
  refine PS.imp (ps_asg ha.pe hg hs hw h1) fun E σ H ⟨F0, B, F, δ, rs, h⟩ => ?_
  refine ⟨F, δ, rs.rs, ?_⟩
  have h : PostS X.K X.mg W F0 B ((f δ).bind fun d => (noExn (bindT t d δ)).bind fun δ' => .ok (.nx δ')) E := h
  cases q : f δ with
  | ok d => rw [q] at h; exact fun v F' H' e r => ts_bind (rs.ext e) r h fun σ' δ' rs' p => p σ' F' H' rs'
  | exn c => rw [q] at h; exact ext_exn rs h
  | bad => rw [q] at h; exact h.elim
/-- what is frozen now stays so: another floor -/
def flo (B F : Hp) : Hp := fun a => match F a with
  | some o => some o
  | none => B a
theorem flo_none {B F : Hp} {a : Addr} (h : flo B F a = none) : F a = none ∧ B a = none := by
  unfold flo at h
  split at h
  · cases h
  · exact ⟨by assumption, h⟩
theorem RSB.floor {K : PySem.W.Frag} {F0 B F H : Hp} {σ : St} {δ : Sls} (r : RSB K F0 B F H σ δ) : RSB K F (flo B F) F H σ δ := by
  refine ⟨r.rs, ⟨Same.refl _, fun a o h => ?_, r.rs.same, fun a o h => .inl h⟩, fun i a h1 h2 => ?_⟩
  · unfold flo at h
    split at h
    · rename_i q; cases h; exact r.rs.same _ _ q
    · exact r.ex.hh _ _ h
  · have q1 := (r.rs.ownF ⟨i, h1, h2⟩).1
    unfold flo
    rw [q1]
    exact r.nb i a h1 h2
theorem flo_same {F0 B F H : Hp} (ex : Ext F0 B F H) : Same B (flo B F) := fun a o h => by
  unfold flo
  split
  · rename_i u q
    have e1 := ex.fh _ _ q
    rw [ex.hh _ _ h] at e1
    exact e1.symm
  · exact h
theorem Ext.unfloor {F0 B F H F3 H3 : Hp} (ex : Ext F0 B F H) (e : Ext F (flo B F) F3 H3) : Ext F0 B F3 H3 :=
  ⟨ex.ff.trans e.ff, (flo_same ex).trans e.hh, e.fh, fun a o h => by
    rcases e.fr _ _ h with q | q
    · exact ex.fr _ _ q
    · exact .inr (flo_none q).2⟩
theorem RSB.unfloor {K : PySem.W.Frag} {F0 B F H F3 H3 : Hp} {σ : St} {δ : Sls} (ex : Ext F0 B F H) (r : RSB K F (flo B F) F3 H3 σ δ) : RSB K F0 B F3 H3 σ δ :=
  ⟨r.rs, ex.unfloor r.ex, fun i a h1 h2 => (flo_none (r.nb i a h1 h2)).2⟩
/-- for t in ..: .. -/
def forD (t : Tg) (body : Sls → R Fl) : List D → Sls → R Fl
  | [], δ => .ok (.nx δ)
  | d :: ds, δ => (noExn (bindT t d δ)).bind fun δ1 => andThen (body δ1) (forD t body ds)
def sFor (t : Tg) (fi : Sls → R (List D)) (body : Sls → R Fl) : Sls → R Fl := fun δ => (fi δ).bind fun ds => forD t body ds δ
theorem ds_for {tg iter : Expr} {t : Tg} {fi : Sls → R (List D)} {body : List Stmt} {fb : Sls → R Fl} (hp : PassesOwn (model X.prog X.w) X.A X.env X.xe) (hc : X.calm = true) (hi : DI X W tg iter fi) (hg : PG X tg (cG X.K (slotsT t) (bindT t))) (hb : DSs X W body fb) (hs : ∀ x, foldedSetIterable iter X.env x = pure x) :
    DS X W (.For tg iter body [] pos) (sFor t fi fb) := by
  obtain ⟨wi, pi, hi⟩ := hi
  refine PS.imp (ps_for hp hc pi hg hb hs) fun E σ H ⟨F0, B, F, δ, rs, h⟩ => ?_
  refine hi σ F H δ _ rs.rs ?_
  have h : PostS X.K X.mg W F0 B ((fi δ).bind fun ds => forD t fb ds δ) E := h
  cases q : fi δ with
  | exn c => rw [q] at h; exact ext_exn rs h
  | bad => rw [q] at h; exact h.elim
  | ok ds =>
  rw [q, R.bind_ok] at h
  intro J F1 H1 e1 iw
  obtain ⟨G, Y, w, hG, hY⟩ := iw.ex
  refine for_it w (D := E) (fun i σ H => ∃ F δ, RSB X.K F0 B F H σ δ ∧ Same F1 F ∧ PostS X.K X.mg W F0 B (forD t fb (ds.drop i) δ) E) ⟨F1, δ, rs.ext e1, Same.refl _, h⟩ ?_ ?_ ?_
  · rintro i σ H _ ⟨F, δ, rs, s1, _⟩
    exact hG H (s1.trans rs.rs.same)
  · rintro i x σ H H' hi ⟨F, δ, rs, s1, h⟩ y
    obtain ⟨F2, d, e2, hd2, r2⟩ := hY i F H x H' hi s1 rs.rs.same y
    have hdrop : ds.drop i = d :: ds.drop (i + 1) := by
      rw [← List.getElem_cons_drop (h := hi)]
      rw [List.getElem?_eq_getElem hi] at hd2
      rw [Option.some.inj hd2]
    rw [hdrop, forD] at h
    refine ts_bind (rs.ext e2) r2 h fun σ' δ' rs' p => ⟨F2, flo B F2, F2, δ', rs'.floor, ?_⟩
    cases q1 : fb δ' with
    | exn c => rw [q1] at p; exact fun σ3 F3 H3 e3 => p σ3 F3 H3 (rs'.ex.unfloor e3)
    | bad => rw [q1] at p; exact p
    | ok fl =>
      cases fl with
      | rt d => rw [q1] at p; exact fun v F3 H3 e3 => p v F3 H3 (rs'.ex.unfloor e3)
      | nx δ2 =>
        rw [q1] at p
        exact fun σ3 F3 H3 rs3 => ⟨F3, δ2, rs3.unfloor rs'.ex, (s1.trans e2.ff).trans rs3.ex.ff, p⟩
  · rintro σ H ⟨F, δ, rs, s1, h⟩
    rw [List.drop_length] at h
    exact h σ F H rs
end
end DW
/-! The data layer, part H: lists and dicts of one's own, while, raise. -/
namespace DW
open PySem PySem.Spec PyProof.Rows L2

section
variable {K : PySem.W.Frag} {F0 B F H : Hp} {σ : St} {δ : Sls}
theorem own_at {σ : St} {δ : Sls} {i : Nat} {s : Sl} (h : ¬ isOwn (some s)) : ¬ isOwn (δ.set i s)[i]? := fun q => by
  by_cases hl : i < δ.length
  · rw [List.getElem?_set_self hl] at q; exact h q
  · rw [List.getElem?_eq_none (by rw [List.length_set]; omega)] at q; exact q
/-- slot i gets a thing of its own at p: what else is so stands as it was -/
theorem RSB.set_own (r : RSB K F0 B F H σ δ) {H' : Hp} {i : Nat} {p : Addr} {s : Sl} (hB : B p = none) (hF : F p = none) (hH : ∀ a o, a ≠ p → H a = some o → H' a = some o) (hap : ∀ j, j ≠ i → isOwn δ[j]? → σ[j]? ≠ some (some (.ref p)))
    (hs : match s with | .ol ds => ∃ vs, H' p = some (.lst vs) ∧ RpL K F vs ds ∧ ds.length ≤ sizeLine | .od kvs => ∃ vs, H' p = some (.dK vs) ∧ RpK K F vs kvs ∧ kvs.length ≤ sizeLine | _ => False) : RSB K F0 B F H' (σ.set i (some (.ref p))) (δ.set i s) := by
  have hFH : Same F H' := fun a o h => hH a o (by rintro rfl; rw [hF] at h; cases h) (r.rs.same _ _ h)
  have at_i : ∀ {x : Sl}, (δ.set i s)[i]? = some x → x = s ∧ i < δ.length := fun {x} h => by
    have hl : i < δ.length := by
      rcases List.getElem?_eq_some_iff.mp h with ⟨z, _⟩
      rw [List.length_set] at z; exact z
    rw [List.getElem?_set_self hl] at h
    exact ⟨(Option.some.inj h).symm, hl⟩
  refine ⟨⟨hFH, by rw [List.length_set, List.length_set]; exact r.rs.len, fun j d h => ?_, fun j a h => ?_, fun j h => ?_, fun j k a h1 h2 h3 h4 => ?_⟩, ⟨r.ex.ff, fun a o h => hH a o (by rintro rfl; rw [hB] at h; cases h) (r.ex.hh _ _ h), hFH, r.ex.fr⟩, fun j a h1 h2 => ?_⟩
  · by_cases hj : j = i
    · subst hj
      obtain ⟨e, _⟩ := at_i h
      subst e
      exact hs.elim
    · obtain ⟨u, h1, h2⟩ := r.rs.sh j d (get_set_ne h hj)
      exact ⟨u, by rw [List.getElem?_set_ne (Ne.symm hj)]; exact h1, h2⟩
  · by_cases hj : j = i
    · subst hj
      obtain ⟨e, _⟩ := at_i h
      subst e
      exact hs.elim
    · rw [List.getElem?_set_ne (Ne.symm hj)] at h ⊢
      exact r.rs.rf j a h
  · by_cases hj : j = i
    · subst hj
      by_cases hl : j < δ.length
      · refine ⟨p, List.getElem?_set_self (by rw [r.rs.len]; exact hl), hF, ?_⟩
        rw [List.getElem?_set_self hl] at h ⊢
        cases s with
        | ol ds => exact hs
        | od kvs => exact hs
        | _ => exact h.elim
      · rw [List.getElem?_eq_none (by rw [List.length_set]; omega)] at h; exact h.elim
    · rw [List.getElem?_set_ne (Ne.symm hj)] at h
      obtain ⟨a, h1, h2, h3⟩ := r.rs.own j h
      have nap : a ≠ p := by rintro rfl; exact hap j hj h h1
      refine ⟨a, by rw [List.getElem?_set_ne (Ne.symm hj)]; exact h1, h2, ?_⟩
      rw [List.getElem?_set_ne (Ne.symm hj)]
      revert h3
      cases δ[j]? with
      | none => exact fun z => z
      | some s' => cases s' with
        | ol ds => exact fun ⟨vs, q1, q2⟩ => ⟨vs, hH _ _ nap q1, q2⟩
        | od ds => exact fun ⟨vs, q1, q2⟩ => ⟨vs, hH _ _ nap q1, q2⟩
        | un => exact fun z => z
        | sh d => exact fun z => z
        | rf b => exact fun z => z
  · have get : ∀ {j : Nat} {a : Addr}, isOwn (δ.set i s)[j]? → (σ.set i (some (.ref p)))[j]? = some (some (.ref a)) → (j = i ∧ a = p) ∨ (j ≠ i ∧ isOwn δ[j]? ∧ σ[j]? = some (some (.ref a))) := fun {j a} h1 h2 => by
      by_cases hj : j = i
      · subst hj
        have hl : j < σ.length := by
          rcases List.getElem?_eq_some_iff.mp h2 with ⟨z, _⟩
          rw [List.length_set] at z; exact z
        rw [List.getElem?_set_self hl] at h2
        cases h2
        exact .inl ⟨rfl, rfl⟩
      · rw [List.getElem?_set_ne (Ne.symm hj)] at h1 h2
        exact .inr ⟨hj, h1, h2⟩
    rcases get h1 h3 with ⟨e1, e2⟩ | ⟨n1, o1, s1⟩ <;> rcases get h2 h4 with ⟨e3, e4⟩ | ⟨n2, o2, s2⟩
    · rw [e1, e3]
    · subst e2; exact (hap k n2 o2 s2).elim
    · subst e4; exact (hap j n1 o1 s1).elim
    · exact r.rs.apart j k a o1 o2 s1 s2
  · by_cases hj : j = i
    · subst hj
      have hl : j < σ.length := by
        rcases List.getElem?_eq_some_iff.mp h2 with ⟨z, _⟩
        rw [List.length_set] at z; exact z
      rw [List.getElem?_set_self hl] at h2
      cases h2
      exact hB
    · rw [List.getElem?_set_ne (Ne.symm hj)] at h1 h2
      exact r.nb j a h1 h2
/-- a new thing -/
theorem RSB.new_own (r : RSB K F0 B F H σ δ) {i : Nat} {p : Addr} {s : Sl} {o : HO} (hp : H p = none)
    (hs : match s with | .ol ds => ∃ vs, o = .lst vs ∧ RpL K F vs ds ∧ ds.length ≤ sizeLine | .od kvs => ∃ vs, o = .dK vs ∧ RpK K F vs kvs ∧ kvs.length ≤ sizeLine | _ => False) : RSB K F0 B F (upd H p o) (σ.set i (some (.ref p))) (δ.set i s) := by
  refine r.set_own (r.ex.hh.free hp) (r.rs.same.free hp) (fun a o ne h => by rw [upd_ne ne]; exact h) (fun j _ h1 h2 => ?_) ?_
  · obtain ⟨_, o, q⟩ := r.rs.ownF ⟨j, h1, h2⟩
    rw [hp] at q; cases q
  · cases s with
    | ol ds => obtain ⟨vs, e, q⟩ := hs; exact ⟨vs, by rw [upd_same, e], q⟩
    | od kvs => obtain ⟨vs, e, q⟩ := hs; exact ⟨vs, by rw [upd_same, e], q⟩
    | _ => exact hs.elim
/-- a thing of one's own changed: the slot stands as it is -/
theorem RSB.upd_own (r : RSB K F0 B F H σ δ) {i : Nat} {p : Addr} {s : Sl} {o : HO} (ho : isOwn δ[i]?) (hp : σ[i]? = some (some (.ref p)))
    (hs : match s with | .ol ds => ∃ vs, o = .lst vs ∧ RpL K F vs ds ∧ ds.length ≤ sizeLine | .od kvs => ∃ vs, o = .dK vs ∧ RpK K F vs kvs ∧ kvs.length ≤ sizeLine | _ => False) : RSB K F0 B F (upd H p o) σ (δ.set i s) := by
  have e : σ.set i (some (.ref p)) = σ := by
    apply List.ext_getElem?
    intro j
    by_cases hj : j = i
    · subst hj
      rcases List.getElem?_eq_some_iff.mp hp with ⟨z, _⟩
      rw [List.getElem?_set_self z, hp]
    · rw [List.getElem?_set_ne (Ne.symm hj)]
  have q : RSB K F0 B F (upd H p o) (σ.set i (some (.ref p))) (δ.set i s) := by
    refine r.set_own (r.nb i p ho hp) (r.rs.ownF ⟨i, ho, hp⟩).1 (fun a o ne h => by rw [upd_ne ne]; exact h) (fun j hj h1 h2 => hj (r.rs.apart j i p h1 ho h2 hp)) ?_
    cases s with
    | ol ds => obtain ⟨vs, e, q⟩ := hs; exact ⟨vs, by rw [upd_same, e], q⟩
    | od kvs => obtain ⟨vs, e, q⟩ := hs; exact ⟨vs, by rw [upd_same, e], q⟩
    | _ => exact hs.elim
  rw [e] at q
  exact q
end
section
variable {X : Cx} {W : WX} {e : Expr} {f : Sls → R D} {pos pos' : Pos} {es : List Expr} {fs : Sls → R (List D)}
/-- x = [..], x's own -/
def sOwn (i : Nat) (fs : Sls → R (List D)) : Sls → R Fl := fun δ => (fs δ).bind fun ds => if ds.length ≤ sizeLine then .ok (.nx (δ.set i (.ol ds))) else .bad
theorem ds_own {i : Nat} {x : Str} {p2 : Pos} (hN : X.N.Nodup) (hi : X.N[i]? = some x) (hx : Loc X.env.scope x) (ha : DA X W es fs) (hs : swapsWith (.List es p2) (some (.Name x pos')) pos.line X.env = pure false) (hf : X.fn x = true ∨ X.env.scope.names.lookup x = some .local) : DS X W (.Assign [.Name x pos'] (.List es p2) pos) (sOwn i fs) := by
  obtain ⟨ta, pa, ha⟩ := ha
  refine PS.imp (ps_set hN hi hx (pe_lst pa) hs hf) fun E σ H ⟨F0, B, F, δ, rs, h⟩ => ?_
  have h : PostS X.K X.mg W F0 B ((fs δ).bind fun ds => if ds.length ≤ sizeLine then .ok (.nx (δ.set i (.ol ds))) else .bad) E := h
  refine ha σ F H δ _ rs.rs ?_
  cases q : fs δ with
  | ok ds =>
    rw [q, R.bind_ok] at h
    split at h
    · rename_i z
      intro xs F' H' e r
      refine ⟨by rw [r.length]; exact z, fun p hp => ?_⟩
      exact h _ F' _ ((rs.ext e).new_own hp ⟨_, rfl, r, z⟩)
    · exact h.elim
  | exn c => rw [q] at h; exact ext_exn rs h
  | bad => rw [q] at h; exact h.elim
/-- x = {}, x's own -/
def sOwnD (i : Nat) : Sls → R Fl := fun δ => .ok (.nx (δ.set i (.od [])))
theorem ds_ownD {i : Nat} {x : Str} {p2 : Pos} (hN : X.N.Nodup) (hi : X.N[i]? = some x) (hx : Loc X.env.scope x) (hs : swapsWith (.Dict [] [] p2) (some (.Name x pos')) pos.line X.env = pure false) (hf : X.fn x = true ∨ X.env.scope.names.lookup x = some .local) : DS X W (.Assign [.Name x pos'] (.Dict [] [] p2) pos) (sOwnD i) := by
  refine PS.imp (ps_set hN hi hx pe_dnewK hs hf) fun E σ H ⟨F0, B, F, δ, rs, h⟩ => ?_
  exact fun p hp => h _ F _ (rs.new_own hp ⟨_, rfl, .nil, Nat.zero_le _⟩)
/-- x = [.. for ..], x's own -/
def sOwnLc (i : Nat) (fi : Sls → R (List D)) (g : D → Sls → R Sls) (c : Sls → R Bool) (e : Sls → R D) (vs : List Nat) : Sls → R Fl := fun δ => (fi δ).bind fun ds => if ds.length ≤ sizeLine then (noExn (lcD g c e (wipeD δ vs) ds)).bind fun ys => .ok (.nx (δ.set i (.ol ys))) else .bad
theorem ts_ownLc {K : PySem.W.Frag} {mg : Str → Option Value} {i : Nat} {wi : TI} {fi : Sls → R (List D)} {us vs : List Nat} {g : D → Sls → R Sls} {c : Sls → R Bool} {e : Sls → R D} {E : Ends} {σ : St} {H : Hp}
    (hi : ∀ (σ : St) (F H : Hp) (δ : Sls) (Q : It → Hp → Prop), RS K F H σ δ → Post mg W σ (IW K) F H (fi δ) Q → wi σ H Q) (hu : ∀ i ∈ us, i ∈ vs) (h : cS K mg W (sOwnLc i fi g c e vs) E σ H) : tAsg (tLc wi (cG K us g) (cT K mg W0 c) (cE K mg W0 e) vs) (gName i) E σ H := by
  obtain ⟨F0, B, F, δ, rs, h⟩ := h
  have h : PostS K mg W F0 B ((fi δ).bind fun ds => if ds.length ≤ sizeLine then (noExn (lcD g c e (wipeD δ vs) ds)).bind fun ys => .ok (.nx (δ.set i (.ol ys))) else .bad) E := h
  refine hi σ F H δ _ rs.rs ?_
  cases q : fi δ with
  | exn c => rw [q] at h; exact ext_exn rs h
  | bad => rw [q] at h; exact h.elim
  | ok ds =>
  rw [q, R.bind_ok] at h
  intro J F1 H1 e1 iw D0 hD
  split at h
  · rename_i z
    cases q1 : lcD g c e (wipeD δ vs) ds with
    | exn c => rw [q1] at h; exact h.elim
    | bad => rw [q1] at h; exact h.elim
    | ok tot =>
    rw [q1] at h
    have rs1 := rs.ext e1
    refine lc_sound (Q := fun x H1 => gName i x σ H1 E.nx) iw rs1.rs hD z hu q1 fun F2 acc H2 e2 fd hd ra hz => ?_
    refine h _ F2 H2 ?_
    refine (rs1.ext e2).set_own (rs1.ex.hh.free hD) fd (fun a o ne h => h) (fun j _ h1 h2 => ?_) ⟨acc, hd, ra, hz⟩
    obtain ⟨_, o, q⟩ := rs1.rs.ownF ⟨j, h1, h2⟩
    rw [hD] at q; cases q
  · exact h.elim
theorem ds_ownLc {i : Nat} {y : Str} {py spos : Pos} {elt tg iter : Expr} {ifs : List Expr} {scope : Scope} {own : List (Str × Nat)} {fi : Sls → R (List D)} {us : List Nat} {g : D → Sls → R Sls} {c : Sls → R Bool} {e : Sls → R D} (hc : X.calm = true) (hN : X.N.Nodup) (hy : X.N[i]? = some y) (hyl : X.env.scope.names.lookup y = some .local)
    (hsw : swapsWith (.ListComp elt [⟨tg, iter, ifs, 0⟩] scope pos) (some (.Name y py)) spos.line X.env = pure true) (hi : DI X W tg iter fi) (ok : BlkOk X.N X.env.scope scope own)
    (hg : Blk X scope fun Z => PG Z tg (cG X.K us g)) (hu : ∀ i ∈ us, i ∈ own.map (·.2)) (ht : Blk X scope fun Z => PTs Z ifs (cT X.K X.mg W0 c)) (he : Blk X scope fun Z => PE Z elt (cE X.K X.mg W0 e)) (hs : ∀ x, foldedSetIterable iter X.env x = pure x) :
    DS X W (.Assign [.Name y py] (.ListComp elt [⟨tg, iter, ifs, 0⟩] scope pos) spos) (sOwnLc i fi g c e (own.map (·.2))) := by
  obtain ⟨wi, pi, hi⟩ := hi
  exact PS.imp (ps_setLc hc hN hy hyl hsw pi ok hg ht he hs) fun E σ H h => ts_ownLc hi hu h
/-- y = [.. for ..] as a datum -/
theorem ds_setLc {i : Nat} {y : Str} {py spos : Pos} {elt tg iter : Expr} {ifs : List Expr} {scope : Scope} {own : List (Str × Nat)} {fi : Sls → R (List D)} {us : List Nat} {g : D → Sls → R Sls} {c : Sls → R Bool} {e : Sls → R D} (hc : X.calm = true) (hN : X.N.Nodup) (hy : X.N[i]? = some y) (hyl : X.env.scope.names.lookup y = some .local)
    (hsw : swapsWith (.ListComp elt [⟨tg, iter, ifs, 0⟩] scope pos) (some (.Name y py)) spos.line X.env = pure true) (hi : DI X W tg iter fi) (ok : BlkOk X.N X.env.scope scope own)
    (hg : Blk X scope fun Z => PG Z tg (cG X.K us g)) (hu : ∀ i ∈ us, i ∈ own.map (·.2)) (ht : Blk X scope fun Z => PTs Z ifs (cT X.K X.mg W0 c)) (he : Blk X scope fun Z => PE Z elt (cE X.K X.mg W0 e)) (hs : ∀ x, foldedSetIterable iter X.env x = pure x) :
    DS X W (.Assign [.Name y py] (.ListComp elt [⟨tg, iter, ifs, 0⟩] scope pos) spos) (sSet i (fun δ => (fi δ).bind (lcR g c e (wipeD δ (own.map (·.2)))))) := by
  obtain ⟨wi, pi, hi⟩ := hi
  refine PS.imp (ps_setLc hc hN hy hyl hsw pi ok hg ht he hs) fun E σ H h => ?_
  have h := ts_set h
  obtain ⟨F, δ, rs, h⟩ := h
  refine hi σ F H δ _ rs (Post.seq h fun J ds F1 H1 e1 r1 h1 => fun D0 hD => ?_)
  obtain ⟨z, tot, h2, h3⟩ := post_lc h1
  exact lc_sound (Q := fun x H1 => gName i x σ H1 E.nx) r1 (rs.ext e1) hD z hu h2 (lc_frz hD h3)
/-- x.append(e) -/
def sApp (i : Nat) (f : Sls → R D) : Sls → R Fl := fun δ => match δ[i]? with
  | some (.ol ds) => (f δ).bind fun d => if ds.length < sizeLine then .ok (.nx (δ.set i (.ol (ds ++ [d])))) else .bad
  | _ => .bad
def sAppV (i : Nat) (f : Sls → R D) : Sls → R Fl := fun δ => match δ[i]? with
  | some (.ol ds) => (f (view δ)).bind fun d => if scal d = true ∧ ds.length < sizeLine then .ok (.nx (δ.set i (.ol (ds ++ [d])))) else .bad
  | _ => .bad
theorem pe_append {i : Nat} {x : Str} {p apos : Pos} {te : TE} (hN : X.N[i]? = some x) (hv : Vis X.env.scope x) (hd : (x == ("__debug__" : Str)) = false) (hcd : (x == ("__classdict__" : Str)) = false) (he : PE X e te)
    (hl : (apos.endLine == pos.line) = true) (hs : ∀ es, starEach (e :: es) X.env = (false, eval e X.env) :: starEach es X.env) : PE X (.Call (.Attribute (.Name x p) "append" apos) [e] [] pos) (tBM X.K "list" rAppend (tVar i) (tCons te tNil)) := by
  refine pe_bm PySem.F.plainAttrs_list PySem.F.slot_list_append PySem.F.type_list_append mt_append (pe_var hN hv hd hcd) (pa_cons he pa_nil (hs _)) rfl ?_ hl (hs _) rfl
  rw [hs]; rfl
theorem ds_app {i : Nat} {x : Str} {p apos : Pos} (hN : X.N[i]? = some x) (hv : Vis X.env.scope x) (hd : (x == ("__debug__" : Str)) = false) (hcd : (x == ("__classdict__" : Str)) = false) (ha : DE X W e f)
    (hl : (apos.endLine == pos.line) = true) (hs : ∀ es, starEach (e :: es) X.env = (false, eval e X.env) :: starEach es X.env) : DS X W (.Expr (.Call (.Attribute (.Name x p) "append" apos) [e] [] pos) pos') (sApp i f) := by
  refine PS.imp (ps_expr (pe_append hN hv hd hcd ha.pe hl hs) rfl) fun E σ H ⟨F0, B, F, δ, rs, h⟩ => ?_
  have h : PostS X.K X.mg W F0 B (match δ[i]? with
    | some (.ol ds) => (f δ).bind fun d => if ds.length < sizeLine then .ok (.nx (δ.set i (.ol (ds ++ [d])))) else .bad
    | _ => .bad) E := h
  split at h
  · rename_i ds q
    have io : isOwn δ[i]? := by rw [q]; trivial
    obtain ⟨a, q1, q2, q3⟩ := rs.rs.own i io
    rw [q] at q3
    obtain ⟨vs, q4, q5, q6⟩ := q3
    refine ⟨_, q1, .inl ⟨rfl, _, SqL.of q4⟩, F, δ, rs.rs, ?_⟩
    cases qf : f δ with
    | ok d =>
      rw [qf, R.bind_ok] at h
      split at h
      · rename_i z
        intro v F' H' e r
        refine ⟨a, vs, v, rfl, rfl, e.hh _ _ q4, by rw [q5.length]; exact z, ?_⟩
        exact h _ F' _ ((rs.ext e).upd_own io q1 ⟨_, rfl, (q5.mono e.ff).append (.cons r .nil), by rw [List.length_append, List.length_singleton]; omega⟩)
      · exact h.elim
    | exn c => rw [qf] at h; exact ext_exn rs h
    | bad => rw [qf] at h; exact h.elim
  · exact h.elim
theorem ds_appV {i : Nat} {x : Str} {p apos : Pos} (hN : X.N[i]? = some x) (hv : Vis X.env.scope x) (hd : (x == ("__debug__" : Str)) = false) (hcd : (x == ("__classdict__" : Str)) = false) (ha : DE X W e f)
    (hl : (apos.endLine == pos.line) = true) (hs : ∀ es, starEach (e :: es) X.env = (false, eval e X.env) :: starEach es X.env) : DS X W (.Expr (.Call (.Attribute (.Name x p) "append" apos) [e] [] pos) pos') (sAppV i f) := by
  refine PS.imp (ps_expr (pe_append hN hv hd hcd ha.pe hl hs) rfl) fun E σ H ⟨F0, B, F, δ, rs, h⟩ => ?_
  have h : PostS X.K X.mg W F0 B (match δ[i]? with
    | some (.ol ds) => (f (view δ)).bind fun d => if scal d = true ∧ ds.length < sizeLine then .ok (.nx (δ.set i (.ol (ds ++ [d])))) else .bad
    | _ => .bad) E := h
  split at h
  · rename_i ds q
    have io : isOwn δ[i]? := by rw [q]; trivial
    obtain ⟨a, q1, q2, q3⟩ := rs.rs.own i io
    rw [q] at q3
    obtain ⟨vs, q4, q5, q6⟩ := q3
    refine ⟨_, q1, .inl ⟨rfl, _, SqL.of q4⟩, _, view δ, rs.freeze.rs, ?_⟩
    cases qf : f (view δ) with
    | ok d =>
      rw [qf, R.bind_ok] at h
      split at h
      · rename_i z
        intro v F' H' e r
        have rt := rs.thaw e
        obtain ⟨a', p1, p2, p3⟩ := rt.rs.own i io
        rw [q1] at p1
        cases p1
        rw [q] at p3
        obtain ⟨vs', p4, p5, p6⟩ := p3
        rw [e.hh _ _ q4] at p4
        cases p4
        refine ⟨a, vs, v, rfl, rfl, e.hh _ _ q4, by rw [q5.length]; exact z.2, ?_⟩
        exact h _ _ _ (rt.upd_own io q1 ⟨_, rfl, p5.append (.cons (r.scal z.1) .nil), by rw [List.length_append, List.length_singleton]; omega⟩)
      · exact h.elim
    | exn c => rw [qf] at h; exact ext_exn rs.freeze h
    | bad => rw [qf] at h; exact h.elim
  · exact h.elim
/-- a list of one's own becomes a datum (no statement of the text) -/
def sFrz (i : Nat) : Sls → R Fl := fun δ => match δ[i]? with
  | some (.ol ds) => .ok (.nx (δ.set i (.sh (.list ds))))
  | _ => .bad
/-- while c: .. -/
def whileD (c : Sls → R Bool) (body : Sls → R Fl) : Nat → Sls → R Fl
  | 0, _ => .bad
  | n + 1, δ => (c (view δ)).bind fun t => if t then andThen (body δ) (whileD c body n) else .ok (.nx δ)
theorem ds_while {c : Expr} {p : Sls → R Bool} {body : List Stmt} {fb : Sls → R Fl} {n : Nat} (hp : PassesOwn (model X.prog X.w) X.A X.env X.xe) (hc : DT X W c p) (hb : DSs X W body fb) : DS X W (.While c body [] pos) (whileD p fb n) := by
  refine PS.imp (ps_while hp hc.pt hb) fun E σ H ⟨F0, B, F, δ, rs, h⟩ => ?_
  refine ⟨fun m σ H => ∃ F δ, RSB X.K F0 B F H σ δ ∧ PostS X.K X.mg W F0 B (whileD p fb m δ) E, ⟨n, F, δ, rs, h⟩, ?_⟩
  rintro m σ H ⟨F, δ, rs, h⟩
  cases m with
  | zero => exact h.elim
  | succ m =>
  refine ⟨_, view δ, rs.freeze.rs, ?_⟩
  have h : PostS X.K X.mg W F0 B ((p (view δ)).bind fun t => if t then andThen (fb δ) (whileD p fb m) else .ok (.nx δ)) E := h
  cases q : p (view δ) with
  | exn c => rw [q] at h; exact ext_exn rs.freeze h
  | bad => rw [q] at h; exact h.elim
  | ok t =>
  rw [q, R.bind_ok] at h
  intro b F' H' e hb
  subst hb
  cases b with
  | false => exact iteF (h σ _ H' (rs.thaw e))
  | true =>
    rw [if_pos rfl] at h
    refine iteT ⟨fun σ H => ∃ F δ, RSB X.K F0 B F H σ δ ∧ PostS X.K X.mg W F0 B (whileD p fb m δ) E, fun σ' H' q => ⟨m, Nat.lt_succ_self _, q⟩, F0, B, _, δ, rs.thaw e, ?_⟩
    cases q1 : fb δ with
    | exn c => rw [q1] at h; exact h
    | bad => rw [q1] at h; exact h
    | ok fl =>
      cases fl with
      | rt d => rw [q1] at h; exact h
      | nx δ2 => rw [q1] at h; exact fun σ3 F3 H3 rs3 => ⟨F3, δ2, rs3, h⟩
end
/-! ### raise -/
/-- an own class of exceptions over ValueError -/
structure ExcT (K : PySem.W.Frag) (mg : Str → Option Value) (c : Str) : Prop where
  ex : ∃ (C : Addr) (B newId initId : String) (bmB : List Value), ExcBaseFacts B newId initId bmB ∧ PySem.W.excIn K C bmB newId = true ∧ mg c = some (.ref C) ∧ PySem.W.keepIn K (.ref C) = true ∧
    PySem.W.subIn K (.ref C) (.type "BaseException") = some true ∧ PySem.W.typeIn K (.ref C) = some (.type "type")
def sRaise (c : Str) : Sls → R Fl := fun _ => .exn c
theorem ds_raise {X : Cx} {W : WX} {c m : Str} {j : Nat} {p p2 p3 pos : Pos} (hc : X.calm = true) (tk : L2N.Takes X W) (T : ExcT X.K X.mg c) (hg : Gl X c) (hdb : (c == ("__debug__" : Str)) = false) : DS X W (.Raise (some (.Call (.Name c p) [.Constant (.str m) j p2] [] p3)) none pos) (sRaise c) := by
  obtain ⟨C, B, newId, initId, bmB, h1, h2, h3, h4, h5, h6⟩ := T.ex
  refine PS.imp (L2N.ps_raise hc tk (L2N.pmk_own h1 h2 h3 h4 (raises_own h5 h6) hg hdb)) fun E σ H ⟨F0, B, F, δ, rs, h⟩ => ?_
  exact h σ F H rs.ex _ h3
end DW
/-! The data layer, part L: zip and enumerate over lists and tuples alike. -/
namespace DW
open PySem PySem.Spec PyProof.Rows L2

/-- a list, or a tuple -/
inductive Sc where
  | l (a : Addr)
  | t (a : Addr)
def Sc.ad : Sc → Addr
  | .l a => a
  | .t a => a
def ScH (K : PySem.W.Frag) (H : Hp) (xs : List V) : Sc → Prop
  | .l a => SqL K H a xs
  | .t a => SqT K H a xs
def ScI (h : Heap) (it : Addr) (i : Nat) : Sc → Prop
  | .l a => h.IsListIter it a i
  | .t a => h.IsTupleIter it a i
def ScP (h : Heap) (us : Array Value) : Sc → Prop
  | .l a => h.IsList a us
  | .t a => h.IsTuple a us
def scO : Sc → Obj
  | .l a => { cls := .type "list_iterator", data := .fields #[.ref a, .int 0 0] }
  | .t a => { cls := .type "tuple_iterator", data := .fields #[.ref a, .int 0 0] }
theorem sc_draws {P : Program} {w : World} {A : Around} (hh : A.handled = none) (it : Addr) (c : Sc) (hne : c.ad ≠ it) (us : Array Value) :
    Draws P w A it [it, c.ad] us.size (fun i v => us[i]? = some v) (fun i h => ScI h it i c ∧ ScP h us c) := by
  cases c with
  | l a => exact Draws.list hh it a hne us
  | t a => exact Draws.tuple hh it a hne us
theorem sc_begins (c : Sc) (us : Array Value) : Begins (.ref c.ad) (scO c) fun h => ScP h us c := by
  cases c with
  | l a => exact begins_list a us
  | t a => exact begins_tuple a us
theorem sc_start {c : Sc} {h : Heap} {it : Addr} (e : h.get? it = some (scO c)) : ScI h it 0 c := by
  cases c with
  | l a => exact ⟨_, e, rfl, rfl⟩
  | t a => exact ⟨_, e, rfl, rfl⟩
theorem ScI.cell {c : Sc} {h : Heap} {it : Addr} {i : Nat} (q : ScI h it i c) : ∃ o, h.get? it = some o ∧ ∀ v, o.data ≠ .cell v := by
  cases c with
  | l a => obtain ⟨o, e, _, d⟩ := q; exact ⟨o, e, fun v z => by rw [d] at z; cases z⟩
  | t a => obtain ⟨o, e, _, d⟩ := q; exact ⟨o, e, fun v z => by rw [d] at z; cases z⟩
theorem ScI.to {c : Sc} {h h' : Heap} {it : Addr} {i : Nat} (q : ScI h it i c) (k : ∀ o, h.get? it = some o → h'.get? it = some o) : ScI h' it i c := by
  cases c with
  | l a => exact Heap.IsListIter.at q k
  | t a => exact Heap.IsTupleIter.at q k
theorem ScP.to {c : Sc} {h h' : Heap} {us : Array Value} (q : ScP h us c) (k : ∀ o, h.get? c.ad = some o → h'.get? c.ad = some o) : ScP h' us c := by
  cases c with
  | l a => exact Heap.IsList.at q k
  | t a => exact Heap.IsTuple.at q k
theorem ScP.low {c : Sc} {h : Heap} {us : Array Value} (q : ScP h us c) : c.ad < h.objs.size := by
  cases c with
  | l a => obtain ⟨o, e, _⟩ := q; exact Heap.lt_size e
  | t a => obtain ⟨o, e, _⟩ := q; exact Heap.lt_size e
section
variable {X : Cx} {pins : List (Addr × Obj)} {σ : St} {H : Hp} {s : Shared}
theorem sc_inv {c : Sc} {xs : List V} (I : Inv X pins σ H s) (q : ScH X.K H xs c) : ∃ us : List Value, Vals xs us ∧ ScP s.heap us.toArray c := by
  cases c with
  | l a => obtain ⟨us, r, p, _⟩ := I.list q; exact ⟨us, r, p.isList⟩
  | t a => obtain ⟨us, r, p, _⟩ := I.tuple q; exact ⟨us, r, p⟩
theorem sc_inj {c : Sc} {xs ys : List V} (I : Inv X pins σ H s) (q : ScH X.K H xs c) (q' : ScH X.K H ys c) : xs = ys := by
  cases c with
  | l a => exact I.list_inj q q'
  | t a => exact I.tuple_inj q q'
end
theorem vals_get {xs : List V} {us : List Value} (r : Vals xs us) {i : Nat} {u : Value} (h : us.toArray[i]? = some u) : ∃ x, xs[i]? = some x ∧ RelV x u := by
  have h : us[i]? = some u := by simpa using h
  have hl : i < us.length := (List.getElem?_eq_some_iff.mp h).1
  have hl' : i < xs.length := by rw [r.length]; exact hl
  obtain ⟨u', e, q⟩ := r.get (List.getElem?_eq_getElem hl')
  rw [h] at e; cases e
  exact ⟨_, List.getElem?_eq_getElem hl', q⟩

/-- pairs of what stands at c and d -/
def Itm (K : PySem.W.Frag) (c d : Sc) : It :=
  ⟨fun i H => ∃ xs ys : List V, ScH K H xs c ∧ ScH K H ys d ∧ i < min xs.length ys.length,
    fun i H v H' => ∃ T x y, v = .ref T ∧ H T = none ∧ H' = upd H T (.tup [x, y]) ∧ (∀ xs, ScH K H xs c → xs[i]? = some x) ∧ ∀ ys, ScH K H ys d → ys[i]? = some y,
    fun i H => ∃ xs ys : List V, ScH K H xs c ∧ ScH K H ys d ∧ i = min xs.length ys.length⟩
theorem walk_m {K : PySem.W.Frag} {c d : Sc} {xs ys : List V} : Walk (Itm K c d) (min xs.length ys.length) (fun H => ScH K H xs c ∧ ScH K H ys d) (YPair (fun i => xs[i]?) (fun i => ys[i]?)) := by
  refine ⟨fun i _ hi q => ⟨xs, ys, q.1, q.2, hi⟩, fun _ q => ⟨xs, ys, q.1, q.2, rfl⟩, fun i H v H' _ q y => ?_⟩
  obtain ⟨T, x, z, h1, h2, h3, h4, h5⟩ := y
  exact ⟨T, x, z, h1, h2, h3, h4 xs q.1, h5 ys q.2⟩
theorem tup2_new {P : Program} {w : World} {H : Hp} {h : Heap} {T : Addr} {x y : V} {u u' : Value} (rx : RelV x u) (ry : RelV y u') (ht : h.IsTuple T #[u, u']) : ObjOk P w (upd H T (.tup [x, y])) h T (.tup [x, y]) :=
  ⟨by show 2 ≤ sizeLine; decide, [u, u'], .cons rx (.cons ry .nil), ht⟩
theorem turn_m {P : Program} {w : World} {K : PySem.W.Frag} {elts : List Expr} {kk : Nat} {tpos : Pos} {c d : Sc} {z TI TO j k : Addr} (S : ZipSep2 z TI TO j k [j, c.ad] [k, d.ad]) (nj : c.ad ≠ j) (nk : d.ad ≠ k) :
    Turn P w K (.Tuple elts kk tpos) (Itm K c d) [z, TI, TO, j, k] z (fun i h => IsZip h z TI TO .none ∧ IsTupOf2 h TI (.ref j) (.ref k) ∧ (∃ p q, IsTupOf2 h TO p q) ∧ ScI h j i c ∧ ScI h k i d) where
  mem := by simp
  obj := fun i h st b hb => by
    obtain ⟨hz, hI, ⟨p, q, hO⟩, h1, h2⟩ := st
    have e : b = z ∨ b = TI ∨ b = TO ∨ b = j ∨ b = k := by simpa using hb
    rcases e with rfl | rfl | rfl | rfl | rfl
    · exact ⟨_, hz, fun v q => nomatch q⟩
    · exact ⟨_, hI, fun v q => nomatch q⟩
    · exact ⟨_, hO, fun v q => nomatch q⟩
    · exact h1.cell
    · exact h2.cell
  keep := fun i h h' st kp => by
    obtain ⟨hz, hI, ⟨p, q, hO⟩, h1, h2⟩ := st
    exact ⟨kp z (by simp) _ hz, kp TI (by simp) _ hI, ⟨p, q, kp TO (by simp) _ hO⟩, h1.to fun o => kp j (by simp) o, h2.to fun o => kp k (by simp) o⟩
  item := by
    intro X hP hw hK hc i pins s σ H E I hf st hg
    subst hP hw hK
    obtain ⟨hz, hI, hO, h1, h2⟩ := st
    obtain ⟨xs, ys, qx, qy, hi⟩ := hg
    obtain ⟨us, rx, px⟩ := sc_inv I qx
    obtain ⟨vs, ry, py⟩ := sc_inv I qy
    have hA : X.A.in1.handled = none := I.ok.hd hc
    have G := GoesN.zip2 (A := X.A) (elts := elts) (x1 := kk) (pos := tpos) S (sc_draws (P := X.prog) (w := X.w) hA j c nj us.toArray) (sc_draws (P := X.prog) (w := X.w) hA k d nk vs.toArray)
    refine G.goes i s _ E (by rw [List.size_toArray, List.size_toArray, ← rx.length, ← ry.length]; exact hi) ⟨hz, hI, hO, ⟨h1, px⟩, ⟨h2, py⟩⟩ fun v h' tk hY st' hk _ => ?_
    obtain ⟨T, u, u', rfl, hT, e1, e2, ht⟩ := hY
    obtain ⟨hz', hI', hO', ⟨h1', _⟩, ⟨h2', _⟩⟩ := st'
    obtain ⟨x, ex, r1⟩ := vals_get rx e1
    obtain ⟨y, ey, r2⟩ := vals_get ry e2
    have hf' : ∀ b ∈ [z, TO, j, k], FpOk X pins H b := fun b hb => hf b (by
      have e : b = z ∨ b = TO ∨ b = j ∨ b = k := by simpa using hb
      rcases e with rfl | rfl | rfl | rfl <;> simp)
    refine ⟨.ref T, _, I.turnedNew (t' := tk) (ch := [z, TO, j, k]) hk hf' hT (tup2_new r1 r2 ht), rfl, ⟨T, x, y, rfl, I.hok.fresh hT, rfl, fun l q => by rw [sc_inj I q qx]; exact ex, fun l q => by rw [sc_inj I q qy]; exact ey⟩, ⟨hz', hI', hO', h1', h2'⟩, fun b hb => ?_⟩
    have hlt : b < s.heap.objs.size := by
      have e : b = z ∨ b = TI ∨ b = TO ∨ b = j ∨ b = k := by simpa using hb
      rcases e with rfl | rfl | rfl | rfl | rfl
      · exact Heap.lt_size hz
      · exact Heap.lt_size hI
      · obtain ⟨_, _, hO⟩ := hO; exact Heap.lt_size hO
      · obtain ⟨o, e, _⟩ := h1.cell; exact Heap.lt_size e
      · obtain ⟨o, e, _⟩ := h2.cell; exact Heap.lt_size e
    rw [upd_ne (Nat.ne_of_lt (Nat.lt_of_lt_of_le hlt hT))]
    exact (hf b hb).1
  done := by
    intro X hP hw hK hc i pins s σ H E I hf st hg
    subst hP hw hK
    obtain ⟨hz, hI, hO, h1, h2⟩ := st
    obtain ⟨xs, ys, qx, qy, hi⟩ := hg
    obtain ⟨us, rx, px⟩ := sc_inv I qx
    obtain ⟨vs, ry, py⟩ := sc_inv I qy
    have hA : X.A.in1.handled = none := I.ok.hd hc
    have G := GoesN.zip2 (A := X.A) (elts := elts) (x1 := kk) (pos := tpos) S (sc_draws (P := X.prog) (w := X.w) hA j c nj us.toArray) (sc_draws (P := X.prog) (w := X.w) hA k d nk vs.toArray)
    have hf' : ∀ b ∈ [z, TO, j, k], FpOk X pins H b := fun b hb => hf b (by
      have e : b = z ∨ b = TO ∨ b = j ∨ b = k := by simpa using hb
      rcases e with rfl | rfl | rfl | rfl <;> simp)
    rw [rx.length, ry.length] at hi
    have hi' : i = min us.toArray.size vs.toArray.size := by simpa using hi
    subst hi'
    exact G.stops s _ E ⟨hz, hI, hO, ⟨h1, px⟩, ⟨h2, py⟩⟩ fun h' tk hk _ => I.turnedL (t' := tk) (ch := [z, TO, j, k]) hk hf'
  self := fun A i s Q E st h => wpAny_pyIter_zip st.1 h

/-- what stands at c, counted -/
def Ite (K : PySem.W.Frag) (c : Sc) : It :=
  ⟨fun i H => ∃ xs : List V, ScH K H xs c ∧ i < xs.length,
    fun i H v H' => ∃ T x, v = .ref T ∧ H T = none ∧ H' = upd H T (.tup [.int (i : Nat), x]) ∧ ∀ xs, ScH K H xs c → xs[i]? = some x,
    fun i H => ∃ xs : List V, ScH K H xs c ∧ i = xs.length⟩
theorem turn_e {P : Program} {w : World} {K : PySem.W.Frag} {elts : List Expr} {kk : Nat} {tpos : Pos} {c : Sc} {z j : Addr} (nz : z ≠ j) (nf : z ∉ [j, c.ad]) (nj : c.ad ≠ j) :
    Turn P w K (.Tuple elts kk tpos) (Ite K c) [z, j] z (fun i h => (∃ old, IsEnum h z j (0 + (i : Int)) old) ∧ ScI h j i c) where
  mem := by simp
  obj := fun i h st b hb => by
    obtain ⟨⟨old, hz⟩, h1⟩ := st
    have e : b = z ∨ b = j := by simpa using hb
    rcases e with rfl | rfl
    · exact ⟨_, hz, fun v q => nomatch q⟩
    · exact h1.cell
  keep := fun i h h' st kp => by
    obtain ⟨⟨old, hz⟩, h1⟩ := st
    exact ⟨⟨old, kp z (by simp) _ hz⟩, h1.to fun o => kp j (by simp) o⟩
  item := by
    intro X hP hw hK hc i pins s σ H E I hf st hg
    subst hP hw hK
    obtain ⟨hz, h1⟩ := st
    obtain ⟨xs, qx, hi⟩ := hg
    obtain ⟨us, rx, px⟩ := sc_inv I qx
    have hA : X.A.in1.handled = none := I.ok.hd hc
    have G := GoesN.enumFrom (A := X.A) (elts := elts) (x1 := kk) (pos := tpos) 0 (sc_draws (P := X.prog) (w := X.w) hA j c nj us.toArray) z nz nf (by simp)
    refine G.goes i s _ E (by rw [List.size_toArray, ← rx.length]; exact hi) ⟨hz, ⟨h1, px⟩⟩ fun v h' tk hY st' hk _ => ?_
    obtain ⟨T, t, u, rfl, hT, e1, ht⟩ := hY
    obtain ⟨hz', ⟨h1', _⟩⟩ := st'
    obtain ⟨x, ex, r1⟩ := vals_get rx e1
    have r0 : RelV (.int ((i : Nat) : Int)) (.int (0 + (i : Int)) t) := ⟨t, by rw [Int.zero_add]⟩
    refine ⟨.ref T, _, I.turnedNew (t' := tk) (ch := [z, j]) hk hf hT (tup2_new r0 r1 ht), rfl, ⟨T, x, rfl, I.hok.fresh hT, rfl, fun l q => by rw [sc_inj I q qx]; exact ex⟩, ⟨hz', h1'⟩, fun b hb => ?_⟩
    have hlt : b < s.heap.objs.size := by
      have e : b = z ∨ b = j := by simpa using hb
      rcases e with rfl | rfl
      · obtain ⟨_, hz⟩ := hz; exact Heap.lt_size hz
      · obtain ⟨o, e, _⟩ := h1.cell; exact Heap.lt_size e
    rw [upd_ne (Nat.ne_of_lt (Nat.lt_of_lt_of_le hlt hT))]
    exact (hf b hb).1
  done := by
    intro X hP hw hK hc i pins s σ H E I hf st hg
    subst hP hw hK
    obtain ⟨hz, h1⟩ := st
    obtain ⟨xs, qx, hi⟩ := hg
    obtain ⟨us, rx, px⟩ := sc_inv I qx
    have hA : X.A.in1.handled = none := I.ok.hd hc
    have G := GoesN.enumFrom (A := X.A) (elts := elts) (x1 := kk) (pos := tpos) 0 (sc_draws (P := X.prog) (w := X.w) hA j c nj us.toArray) z nz nf (by simp)
    rw [rx.length] at hi
    have hi' : i = us.toArray.size := by simpa using hi
    subst hi'
    exact G.stops s _ E ⟨hz, ⟨h1, px⟩⟩ fun h' tk hk _ => I.turnedL (t' := tk) (ch := [z, j]) hk hf
  self := fun A i s Q E st h => let ⟨⟨_, e⟩, _⟩ := st; wpAny_pyIter_enum e h

/-- enumerate(v) begins -/
theorem meets_enum1 {v : Value} {o : Obj} {G : Heap → Prop} (B : Begins v o G) :
    Meets (Builtin.«enumerate.__new__» ⟨[.type "enumerate", v], []⟩) (fun _ R s => G s.heap ∧
      R (.ok (.ret (.ref (s.heap.push o).objs.size))) { s with heap := (s.heap.push o).push { cls := .type "enumerate", data := .fields #[.none, .bool false, .ref s.heap.objs.size, rawInt 0, .none, .none] } }) :=
  .of_wp fun prog w A R s h => by
    obtain ⟨hp, g, d, tk, os⟩ := s; obtain ⟨h1, h⟩ := h
    have hsub := sub_enumerate
    have qi : ∀ {A' : Around} {E : Value → Shared → Prop} {Q : Value → Shared → Prop}, Q (.ref hp.objs.size) ⟨hp.push o, g, d, tk, os⟩ → wpAny (model prog w) A' (pyIter v) Q E ⟨hp, g, d, tk, os⟩ :=
      fun q => B.iter prog w _ _ ⟨hp, g, d, tk, os⟩ _ h1 q
    wp_walk using qi
    refine wpAny_stack_any fun st => wpAny_pure ?_
    split
    · rename_i c _ _ _ _ _
      cases (c == Value.type "enumerate")
      · wp_walk using qi
        exact ⟨_, rfl, h⟩
      · wp_walk using qi
        exact ⟨_, rfl, h⟩
    · wp_walk using qi
      exact ⟨_, rfl, h⟩
theorem enum_begins1 {P : Program} {w : World} {A : Around} {E : Value → Shared → Prop} {s : Shared} {v : Value} {o : Obj} {G : Heap → Prop} {Q : Value → Shared → Prop} (B : Begins v o G) (h1 : G s.heap)
    (h : ∀ h', IsEnum h' (s.heap.objs.size + 1) s.heap.objs.size 0 .none → h'.get? s.heap.objs.size = some o → (∀ b o, s.heap.get? b = some o → h'.get? b = some o) → Q (.ref (s.heap.objs.size + 1)) { s with heap := h' }) :
    wpAny (model P w) A (call (.type "enumerate") [v]) Q E s := by
  refine callType_new F.called_enumerate (by decide) (F.typeCall_enumerate_1 _) (F.newCall_enumerate_1 _) (fun ob => F.args_object_init_2 ob _) F.entry_enumerate_new (meets_enum1 B) ⟨h1, ?_⟩
  have ez : (s.heap.push o).objs.size = s.heap.objs.size + 1 := Heap.size_push ..
  show _ ∧ _
  rw [ez]
  have he : IsEnum ((s.heap.push o).push { cls := .type "enumerate", data := .fields #[.none, .bool false, .ref s.heap.objs.size, rawInt 0, .none, .none] }) (s.heap.objs.size + 1) s.heap.objs.size 0 .none := by
    have q := Heap.get?_push_size (s.heap.push o) (o := { cls := .type "enumerate", data := .fields #[.none, .bool false, .ref s.heap.objs.size, rawInt 0, .none, .none] }) rfl
    rw [ez] at q; exact q
  exact ⟨⟨_, he, rfl⟩, h _ he (Heap.get?_push_of_some _ (Heap.get?_push_size _ B.free)) fun b o x => Heap.get?_push_of_some _ (Heap.get?_push_of_some _ x)⟩

def iZipM (K : PySem.W.Frag) (ta : TA) : TI := fun σ H R => ta σ H fun vs H1 => ∃ (c d : Sc) (xs ys : List V), vs = [.ref c.ad, .ref d.ad] ∧ ScH K H1 xs c ∧ ScH K H1 ys d ∧ R (Itm K c d) H1
theorem pi_zipM {X : Cx} {e e2 : Expr} {ta : TA} {p pos tpos : Pos} {elts : List Expr} {kk : Nat} (hg : Gl X "zip") (hm : X.mg "zip" = none) (ha : PA X [e, e2] ta)
    (hs : starEach [e, e2] X.env = (false, eval e X.env) :: starEach [e2] X.env) (hpl : (backTo pos (starEach [e2] X.env)).any (·.1) = false) :
    PI X (.Tuple elts kk tpos) (.Call (.Name "zip" p) [e, e2] [] pos) (iZipM X.K ta) := by
  refine ⟨fun pins s σ H R I h => ?_⟩
  refine Call_ (ld_blt I hg hm PyProof.Rows.boot_zip (PyProof.Rows.callWith_type1 (thn (ha.run pos pins s σ H _ I h) fun us s1 ⟨vs, H1, I1, r1, q1⟩ => ?_) hs hpl))
  obtain ⟨c, d, xs, ys, rfl, qx, qy, q1⟩ := q1
  cases r1 with
  | cons r rr => cases rr with
    | cons r' rr =>
      cases rr; cases r; cases r'
      obtain ⟨us, rx, px⟩ := sc_inv I1 qx
      obtain ⟨vs, ry, py⟩ := sc_inv I1 qy
      have lc := px.low
      have ld := py.low
      refine zip_begins2 (sc_begins c us.toArray) (sc_begins d vs.toArray) px py fun h' hz hTI hTO g1 g2 hsz hk => wpAny_pyIter_zip hz ?_
      have I2 : Inv X pins σ H1 { s1 with heap := h' } := I1.kept (t' := s1.toks) hk
      have S := zip_sep2 (N := s1.heap.objs.size) (fp1 := [c.ad]) (fp2 := [d.ad]) (fun b hb => by rw [List.mem_singleton.mp hb]; exact lc) (fun b hb => by rw [List.mem_singleton.mp hb]; exact ld)
      refine ⟨_, [s1.heap.objs.size + 4, s1.heap.objs.size + 2, s1.heap.objs.size + 3, s1.heap.objs.size, s1.heap.objs.size + 1], _, _, H1, rfl, I2, turn_m S (Nat.ne_of_lt lc) (Nat.ne_of_lt (Nat.lt_of_lt_of_le ld (Nat.le_add_right _ _))), ⟨hz, hTI, ⟨_, _, hTO⟩, sc_start g1, sc_start g2⟩, fun b hb => ?_, q1⟩
      have hle : s1.heap.objs.size ≤ b := by
        have e : b = s1.heap.objs.size + 4 ∨ b = s1.heap.objs.size + 2 ∨ b = s1.heap.objs.size + 3 ∨ b = s1.heap.objs.size ∨ b = s1.heap.objs.size + 1 := by simpa using hb
        rcases e with e | e | e | e | e <;> rw [e] <;> first | exact Nat.le_refl _ | exact Nat.le_add_right _ _
      exact I1.fpOk hle (I1.hok.fresh hle)
def iEnumM (K : PySem.W.Frag) (ta : TA) : TI := fun σ H R => ta σ H fun vs H1 => ∃ (c : Sc) (xs : List V), vs = [.ref c.ad] ∧ ScH K H1 xs c ∧ R (Ite K c) H1
theorem pi_enumM {X : Cx} {e : Expr} {ta : TA} {p pos tpos : Pos} {elts : List Expr} {kk : Nat} (hg : Gl X "enumerate") (hm : X.mg "enumerate" = none) (ha : PA X [e] ta) (hs : starEach [e] X.env = [(false, eval e X.env)]) :
    PI X (.Tuple elts kk tpos) (.Call (.Name "enumerate" p) [e] [] pos) (iEnumM X.K ta) := by
  refine ⟨fun pins s σ H R I h => ?_⟩
  refine Call_ (ld_blt I hg hm boot_enumerate (PyProof.Rows.callWith_type1 (thn (ha.run pos pins s σ H _ I h) fun us s1 ⟨vs, H1, I1, r1, q1⟩ => ?_) hs rfl))
  obtain ⟨c, xs, rfl, qx, q1⟩ := q1
  cases r1 with
  | cons r rr =>
    cases rr; cases r
    obtain ⟨us, rx, px⟩ := sc_inv I1 qx
    have lc := px.low
    refine enum_begins1 (sc_begins c us.toArray) px fun h' hz g1 hk => wpAny_pyIter_enum hz ?_
    have I2 : Inv X pins σ H1 { s1 with heap := h' } := I1.kept (t' := s1.toks) hk
    have nz : (s1.heap.objs.size + 1 : Nat) ≠ s1.heap.objs.size := Nat.succ_ne_self _
    refine ⟨_, [s1.heap.objs.size + 1, s1.heap.objs.size], _, _, H1, rfl, I2, turn_e nz (fun hb => ?_) (Nat.ne_of_lt lc), ⟨⟨_, hz⟩, sc_start g1⟩, fun b hb => ?_, q1⟩
    · have e : s1.heap.objs.size + 1 = s1.heap.objs.size ∨ s1.heap.objs.size + 1 = c.ad := by simpa using hb
      rcases e with e | e
      · exact nz e
      · exact absurd (e ▸ lc) (Nat.not_lt.mpr (Nat.le_succ _))
    · have hle : s1.heap.objs.size ≤ b := by
        have e : b = s1.heap.objs.size + 1 ∨ b = s1.heap.objs.size := by simpa using hb
        rcases e with e | e <;> rw [e] <;> first | exact Nat.le_refl _ | exact Nat.le_add_right _ _
      exact I1.fpOk hle (I1.hok.fresh hle)

/-- what is in a list, or in a tuple -/
def seqOf : D → R (List D)
  | .list xs => .ok xs
  | .tuple xs => .ok xs
  | _ => .bad
theorem seqOf_ne {d : D} {c : Str} (h : seqOf d = .exn c) : False := by cases d <;> cases h
def enumD (xs : List D) : List D := xs.mapIdx fun i x => .tuple [.int (i : Nat), x]
theorem rp_seq {K : PySem.W.Frag} {F H : Hp} {v : V} {d : D} {ds : List D} (r : Rp K F v d) (e : seqOf d = .ok ds) (s : Same F H) : ∃ c xs, v = .ref c.ad ∧ ScH K F xs c ∧ (∀ H', Same F H' → ScH K H' xs c) ∧ RpL K F xs ds := by
  cases r with
  | lst q r z => cases e; exact ⟨.l _, _, rfl, SqL.of q, fun H' s => SqL.of (s _ _ q), r⟩
  | tup q r z => cases e; exact ⟨.t _, _, rfl, SqT.of q, fun H' s => SqT.of (s _ _ q), r⟩
  | _ => cases e
section
variable {X : Cx} {W : WX} {a b : Expr} {f g : Sls → R D} {pos p tpos : Pos} {elts : List Expr} {kk : Nat}
theorem di_zipM (hg : Gl X "zip") (hm : X.mg "zip" = none) (ha : DE X W a f) (hb : DE X W b g) (hs : ∀ es, starEach (a :: es) X.env = (false, eval a X.env) :: starEach es X.env) (hs' : ∀ es, starEach (b :: es) X.env = (false, eval b X.env) :: starEach es X.env) :
    DI X W (.Tuple elts kk tpos) (.Call (.Name "zip" p) [a, b] [] pos) (fun δ => (f δ).bind fun x => (g δ).bind fun y => (seqOf x).bind fun xs => (seqOf y).bind fun ys => .ok (zipD xs ys)) := by
  obtain ⟨ta, pa, ha⟩ := ha
  obtain ⟨tb, pb, hb⟩ := hb
  refine ⟨_, pi_zipM hg hm (pa_cons pa (pa_cons pb pa_nil (hs' _)) (hs _)) (hs _) (by rw [hs']; rfl), fun σ F H δ Q rs h => ?_⟩
  refine ha σ F H δ _ rs (Post.seq h fun x d F1 H1 e1 r1 h1 => ?_)
  refine hb σ F1 H1 δ _ (rs.ext e1) (Post.seq h1 fun y e F2 H2 e2 r2 h2 => ?_)
  have r1 := r1.mono e2.ff
  cases q1 : seqOf d with
  | ok xs =>
    rw [q1] at h2
    cases q2 : seqOf e with
    | ok ys =>
      rw [q2] at h2
      obtain ⟨c, us, rfl, qc, kc, rc⟩ := rp_seq r1 q1 e2.fh
      obtain ⟨c', us', rfl, qc', kc', rc'⟩ := rp_seq r2 q2 e2.fh
      exact ⟨c, c', us, us', rfl, kc _ e2.fh, kc' _ e2.fh, Post.here e2.fh h2 (iw_pair walk_m (fun H' s => ⟨kc _ s, kc' _ s⟩) rc rc')⟩
    | exn c => exact (seqOf_ne q2).elim
    | bad => rw [q2] at h2; exact h2.elim
  | exn c => exact (seqOf_ne q1).elim
  | bad => rw [q1] at h2; exact h2.elim
theorem iw_enum {K : PySem.W.Frag} {F : Hp} {c : Sc} {xs : List V} {ds : List D} (kc : ∀ H', Same F H' → ScH K H' xs c) (r : RpL K F xs ds) : IW K F (Ite K c) (enumD ds) := by
  refine ⟨fun H' => ScH K H' xs c, fun i H v H' => ∃ T x, v = .ref T ∧ H T = none ∧ H' = upd H T (.tup [.int (i : Nat), x]) ∧ xs[i]? = some x, ⟨fun i H hi q => ⟨xs, q, ?_⟩, fun H q => ⟨xs, q, ?_⟩, fun i H v H' hi q y => ?_⟩, kc, fun i F' H' x H'' hi s1 s2 y => ?_⟩
  · unfold enumD at hi; rw [List.length_mapIdx, ← r.length] at hi; exact hi
  · unfold enumD; rw [List.length_mapIdx, ← r.length]
  · obtain ⟨T, x, h1, h2, h3, h4⟩ := y
    exact ⟨T, x, h1, h2, h3, h4 xs q⟩
  · obtain ⟨T, u, rfl, hT, rfl, e1⟩ := y
    obtain ⟨d, e3, r1⟩ := r.getV e1
    refine ⟨_, .tuple [.int (i : Nat), d], Ext.new s2 hT, ?_, Rp.newT s2 hT (.cons (.int _) (.cons (r1.mono s1) .nil)) (by rw [sizeLine_eq]; show 2 ≤ 16777216; decide)⟩
    unfold enumD
    rw [List.getElem?_mapIdx, e3]; rfl
theorem di_enumM (hg : Gl X "enumerate") (hm : X.mg "enumerate" = none) (ha : DE X W a f) (hs : ∀ es, starEach (a :: es) X.env = (false, eval a X.env) :: starEach es X.env) :
    DI X W (.Tuple elts kk tpos) (.Call (.Name "enumerate" p) [a] [] pos) (fun δ => (f δ).bind fun x => (seqOf x).bind fun xs => .ok (enumD xs)) := by
  obtain ⟨ta, pa, ha⟩ := ha
  refine ⟨_, pi_enumM hg hm (pa_cons pa pa_nil (hs _)) (hs _), fun σ F H δ Q rs h => ?_⟩
  refine ha σ F H δ _ rs (Post.seq h fun x d F1 H1 e1 r1 h1 => ?_)
  cases q1 : seqOf d with
  | ok xs =>
    rw [q1] at h1
    obtain ⟨c, us, rfl, qc, kc, rc⟩ := rp_seq r1 q1 e1.fh
    exact ⟨c, us, rfl, kc _ e1.fh, Post.here e1.fh h1 (iw_enum kc rc)⟩
  | exn c => exact (seqOf_ne q1).elim
  | bad => rw [q1] at h1; exact h1.elim
end
end DW
/-! The data layer, part M: list(zip(..)). -/
namespace DW
open PySem PySem.Spec PyProof.Rows L2


section
variable {P : Program} {w : World} {A : Around} {E : Value → Shared → Prop} {s : Shared} {z TI TO i1 i2 T : Addr} {fp1 fp2 : List Addr} {n1 n2 i : Nat} {P1 P2 : Nat → Value → Prop} {St1 St2 : Nat → Heap → Prop} {f : Bool} {oT : Obj}
theorem zh_item {Q : Value → Shared → Prop} (S : ZipSep2 z TI TO i1 i2 fp1 fp2) (D1 : Draws P w A i1 fp1 n1 P1 St1) (D2 : Draws P w A i2 fp2 n2 P2 St2)
    (hz : IsZipHeld s.heap z TI TO T f) (hT : s.heap.get? T = some oT) (hTI : IsTupOf2 s.heap TI (.ref i1) (.ref i2)) (st1 : St1 i s.heap) (st2 : St2 i s.heap) (l1 : i < n1) (l2 : i < n2)
    (hQ : ∀ x y h' tk, P1 i x → P2 i y → IsZipHeld h' z TI TO T true → St1 (i + 1) h' → St2 (i + 1) h' → IsTupOf2 h' s.heap.objs.size x y →
      (∀ c o, c ≠ z → c ≠ i1 → c ≠ i2 → s.heap.get? c = some o → h'.get? c = some o) → Q (.ref s.heap.objs.size) { s with heap := h', toks := tk }) :
    wpAny (model P w) A (Builtin.«zip.__next__» ⟨[.ref z], []⟩) (fun fin s' => ∃ v, fin = .done (.ret v) ∧ Q v s') E s := by
  obtain ⟨hp, g, d, tk0, os⟩ := s
  show wpAny _ _ (field (.ref z) 2 >>= _) _ _ _
  refine wpAny_bind (wpAny_field hz rfl (x := .bool false) rfl ?_)
  show wpAny _ _ (field (.ref z) 3 >>= _) _ _ _
  refine wpAny_bind (wpAny_field hz rfl (x := .ref TI) rfl ?_)
  refine wpAny_bind (wpAny_seqItems hTI rfl ?_)
  show wpAny _ _ (Builtin.SmallTypes.ownedTupleIsFree (.ref z) >>= _) _ _ _
  refine wpAny_bind (wpAny_tupleHeld_zip hz hT fun g0 hz0 k0 => ?_)
  replace k0 : Heap.SameBut z hp g0 := k0
  simp only [Bool.false_eq_true, if_false]
  refine wpAny_bind ?_
  rw [← Array.forIn_toList]
  simp only [List.forIn_cons, List.forIn_nil]
  refine wpAny_bind (wpAny_bind (wpAny_holding ?_))
  show wpAny _ _ (Builtin.SmallTypes.nextOf (.ref i1) >>= _) _ _ ⟨g0, g, d, tk0, os⟩
  refine wpAny_bind (D1.item i _ _ _ l1 (D1.over st1 k0 S.zf1) fun x g1 tk1 hx s1 k1 => wpAny_pure ?_)
  replace k1 : Heap.SameBut i1 g0 g1 := k1
  refine wpAny_pure ?_
  refine wpAny_bind (wpAny_bind (wpAny_holding ?_))
  show wpAny _ _ (Builtin.SmallTypes.nextOf (.ref i2) >>= _) _ _ ⟨g1, g, d, tk1, os⟩
  refine wpAny_bind (D2.item i _ _ _ l2 (D2.over (D2.over st2 k0 S.zf2) k1 S.sep1_2) fun y g2 tk2 hy s2 k2 => wpAny_pure ?_)
  replace k2 : Heap.SameBut i2 g1 g2 := k2
  refine wpAny_pure (wpAny_pure ?_)
  show wpAny _ _ (newTuple [x, y] >>= _) _ _ ⟨g2, g, d, tk2, os⟩
  refine wpAny_bind (wpAny_newTuple ?_)
  have hsz : g2.objs.size = hp.objs.size := by rw [k2.1, k1.1, k0.1]
  have hz2 : IsZipHeld g2 z TI TO T true := k2.extBut _ _ S.zi2 (k1.extBut _ _ S.zi1 hz0)
  have t1 : St1 (i + 1) g2 := D1.over s1 k2 S.sep2_1
  have kk : ∀ c o, c ≠ z → c ≠ i1 → c ≠ i2 → hp.get? c = some o → g2.get? c = some o := fun c o c0 c1 c2 e => k2.extBut _ _ c2 (k1.extBut _ _ c1 (k0.extBut _ _ c0 e))
  refine wpAny_pure ⟨_, rfl, ?_⟩
  show Q (.ref g2.objs.size) ⟨g2.push { cls := .type "tuple", data := .seq #[x, y] }, g, d, tk2, os⟩
  have hn : IsTupOf2 (g2.push { cls := .type "tuple", data := .seq #[x, y] }) g2.objs.size x y := Heap.get?_push_size _ rfl
  rw [hsz] at hn ⊢
  exact hQ x y _ tk2 hx hy (Heap.get?_push_of_some _ hz2) (D1.frame _ _ _ t1 fun b _ o e => Heap.get?_push_of_some _ e) (D2.frame _ _ _ s2 fun b _ o e => Heap.get?_push_of_some _ e) hn fun c o c0 c1 c2 e => Heap.get?_push_of_some _ (kk c o c0 c1 c2 e)
theorem zh_end {Q : Fin → Shared → Prop} (S : ZipSep2 z TI TO i1 i2 fp1 fp2) (D1 : Draws P w A i1 fp1 n1 P1 St1) (D2 : Draws P w A i2 fp2 n2 P2 St2)
    (hz : IsZipHeld s.heap z TI TO T f) (hT : s.heap.get? T = some oT) (hTI : IsTupOf2 s.heap TI (.ref i1) (.ref i2)) (st1 : St1 i s.heap) (st2 : St2 i s.heap) (l1 : i ≤ n1) (l2 : i ≤ n2) (hend : i = n1 ∨ i = n2)
    (hE : ∀ h' tk e, (∀ c o, c ≠ z → c ≠ i1 → c ≠ i2 → s.heap.get? c = some o → h'.get? c = some o) → (∃ o, h'.get? e = some o ∧ o.cls = .type "StopIteration") → E (.ref e) { s with heap := h', toks := tk }) :
    wpAny (model P w) A (Builtin.«zip.__next__» ⟨[.ref z], []⟩) Q E s := by
  obtain ⟨hp, g, d, tk0, os⟩ := s
  show wpAny _ _ (field (.ref z) 2 >>= _) _ _ _
  refine wpAny_bind (wpAny_field hz rfl (x := .bool false) rfl ?_)
  show wpAny _ _ (field (.ref z) 3 >>= _) _ _ _
  refine wpAny_bind (wpAny_field hz rfl (x := .ref TI) rfl ?_)
  refine wpAny_bind (wpAny_seqItems hTI rfl ?_)
  show wpAny _ _ (Builtin.SmallTypes.ownedTupleIsFree (.ref z) >>= _) _ _ _
  refine wpAny_bind (wpAny_tupleHeld_zip hz hT fun g0 hz0 k0 => ?_)
  replace k0 : Heap.SameBut z hp g0 := k0
  simp only [Bool.false_eq_true, if_false]
  refine wpAny_bind ?_
  rw [← Array.forIn_toList]
  simp only [List.forIn_cons, List.forIn_nil]
  refine wpAny_bind (wpAny_bind (wpAny_holding ?_))
  show wpAny _ _ (Builtin.SmallTypes.nextOf (.ref i1) >>= _) _ _ ⟨g0, g, d, tk0, os⟩
  by_cases hlt : i < n1
  · refine wpAny_bind (D1.item i _ _ _ hlt (D1.over st1 k0 S.zf1) fun x g1 tk1 hx s1 k1 => wpAny_pure ?_)
    replace k1 : Heap.SameBut i1 g0 g1 := k1
    refine wpAny_pure ?_
    have e2 : i = n2 := by omega
    refine wpAny_bind (wpAny_bind (wpAny_holding ?_))
    show wpAny _ _ (Builtin.SmallTypes.nextOf (.ref i2) >>= _) _ _ ⟨g1, g, d, tk1, os⟩
    refine wpAny_bind (D2.done ⟨g1, g, d, tk1, os⟩ _ _ (by rw [← e2]; exact D2.over (D2.over st2 k0 S.zf2) k1 S.sep1_2) fun q e hq he => ?_)
    exact hE q tk1 e (fun c o c0 c1 c2 y => hq _ _ c2 (k1.extBut _ _ c1 (k0.extBut _ _ c0 y))) he
  · have e1 : i = n1 := by omega
    refine wpAny_bind (D1.done ⟨g0, g, d, tk0, os⟩ _ _ (by rw [← e1]; exact D1.over st1 k0 S.zf1) fun q e hq he => ?_)
    exact hE q tk0 e (fun c o c0 c1 c2 y => hq _ _ c1 (k0.extBut _ _ c0 y)) he
theorem zhn_item {Q : Option Value → Shared → Prop} (S : ZipSep2 z TI TO i1 i2 fp1 fp2) (D1 : Draws P w A.in1 i1 fp1 n1 P1 St1) (D2 : Draws P w A.in1 i2 fp2 n2 P2 St2)
    (hz : IsZipHeld s.heap z TI TO T f) (hT : s.heap.get? T = some oT) (hTI : IsTupOf2 s.heap TI (.ref i1) (.ref i2)) (st1 : St1 i s.heap) (st2 : St2 i s.heap) (l1 : i < n1) (l2 : i < n2)
    (hQ : ∀ x y h' tk, P1 i x → P2 i y → IsZipHeld h' z TI TO T true → St1 (i + 1) h' → St2 (i + 1) h' → IsTupOf2 h' s.heap.objs.size x y →
      (∀ c o, c ≠ z → c ≠ i1 → c ≠ i2 → s.heap.get? c = some o → h'.get? c = some o) → Q (some (.ref s.heap.objs.size)) { s with heap := h', toks := tk }) :
    wpAny (model P w) A (pyNext (.ref z)) Q E s := by
  have hY : s.TypeIs (.ref z) "zip" := ⟨_, hz, rfl⟩
  unfold pyNext
  exact wpAny_bind (wpAny_attempt (wpAny_callSpecial?_slot (name := Str.ofString "__next__") hY F.slot_zip_next
    (wpAny_call_entry F.slot_zip_next hY F.entry_zip_next (zh_item S D1 D2 hz hT hTI st1 st2 l1 l2 fun x y h' tk a b c d e k q => wpAny_pure (hQ x y h' tk a b c d e k q)) (F.args_zip_next_1 _))))
theorem zhn_end {Q : Option Value → Shared → Prop} (S : ZipSep2 z TI TO i1 i2 fp1 fp2) (D1 : Draws P w A.in1 i1 fp1 n1 P1 St1) (D2 : Draws P w A.in1 i2 fp2 n2 P2 St2)
    (hz : IsZipHeld s.heap z TI TO T f) (hT : s.heap.get? T = some oT) (hTI : IsTupOf2 s.heap TI (.ref i1) (.ref i2)) (st1 : St1 i s.heap) (st2 : St2 i s.heap) (l1 : i ≤ n1) (l2 : i ≤ n2) (hend : i = n1 ∨ i = n2)
    (hQ : ∀ h' tk, (∀ c o, c ≠ z → c ≠ i1 → c ≠ i2 → s.heap.get? c = some o → h'.get? c = some o) → Q none { s with heap := h', toks := tk }) : wpAny (model P w) A (pyNext (.ref z)) Q E s := by
  have hY : s.TypeIs (.ref z) "zip" := ⟨_, hz, rfl⟩
  unfold pyNext
  refine wpAny_bind (wpAny_attempt (wpAny_callSpecial?_slot (name := Str.ofString "__next__") hY F.slot_zip_next
    (wpAny_call_entry F.slot_zip_next hY F.entry_zip_next (zh_end S D1 D2 hz hT hTI st1 st2 l1 l2 hend fun h' tk e hk he => ?_) (F.args_zip_next_1 _))))
  obtain ⟨o, ho, hc⟩ := he
  exact wpAny_bind (wpAny_isInstance (T := "StopIteration") (b := true) ⟨o, ho, hc⟩ isSubtype_stop (wpAny_pure (hQ _ _ hk)))
end

/-- an iterator of new tuples that stay -/
structure NextsT (P : Program) (w : World) (A : Around) (J S : Addr) (wr : List Addr) (n : Nat) (Pt : Nat → Array Value → Prop) (Sn : Nat → Heap → Prop) : Prop where
  frame : ∀ i h h', Sn i h → (∀ b o, b ≠ S → h.get? b = some o → h'.get? b = some o) → Sn i h'
  item : ∀ i (s : Shared) (Q : Option Value → Shared → Prop) (E : Value → Shared → Prop), i < n → Sn i s.heap → S < s.heap.objs.size →
    (∀ vals h' tk, Pt i vals → Sn (i + 1) h' → h'.get? s.heap.objs.size = some { cls := .type "tuple", data := .seq vals } → (∀ b o, b ∉ wr → s.heap.get? b = some o → h'.get? b = some o) → Q (some (.ref s.heap.objs.size)) { s with heap := h', toks := tk }) →
    wpAny (model P w) A (pyNext (.ref J)) Q E s
  done : ∀ (s : Shared) (Q : Option Value → Shared → Prop) (E : Value → Shared → Prop), Sn n s.heap →
    (∀ h' tk, (∀ b o, b ∉ wr → s.heap.get? b = some o → h'.get? b = some o) → Q none { s with heap := h', toks := tk }) → wpAny (model P w) A (pyNext (.ref J)) Q E s

theorem nexts_zip {P : Program} {w : World} {A : Around} {z TI TO i1 i2 S : Addr} {fp1 fp2 : List Addr} {n1 n2 : Nat} {P1 P2 : Nat → Value → Prop} {St1 St2 : Nat → Heap → Prop} (Z : ZipSep2 z TI TO i1 i2 fp1 fp2) (D1 : Draws P w A.in1 i1 fp1 n1 P1 St1) (D2 : Draws P w A.in1 i2 fp2 n2 P2 St2)
    (hS : ∀ b ∈ z :: TI :: TO :: (fp1 ++ fp2), b ≠ S) :
    NextsT P w A z S [z, TO, i1, i2] (min n1 n2) (fun i vals => ∃ x y, P1 i x ∧ P2 i y ∧ vals = #[x, y])
      (fun i h => IsTupOf2 h TI (.ref i1) (.ref i2) ∧ St1 i h ∧ St2 i h ∧ ((IsZip h z TI TO .none ∧ ∃ p q, IsTupOf2 h TO p q) ∨ ∃ T f oT, IsZipHeld h z TI TO T f ∧ h.get? T = some oT ∧ T ≠ S ∧ T ≠ z ∧ T ≠ i1 ∧ T ≠ i2)) where
  frame := fun i h h' st k => by
    obtain ⟨h1, h2, h3, h4⟩ := st
    refine ⟨k _ _ (hS TI (by simp)) h1, D1.frame _ _ _ h2 fun b hb o e => k b o (hS b (by simp [hb])) e, D2.frame _ _ _ h3 fun b hb o e => k b o (hS b (by simp [hb])) e, ?_⟩
    rcases h4 with ⟨hz, p, q, hO⟩ | ⟨T, f, oT, hz, hT, nS, n1, n2, n3⟩
    · exact .inl ⟨k _ _ (hS z (by simp)) hz, p, q, k _ _ (hS TO (by simp)) hO⟩
    · exact .inr ⟨T, f, oT, k _ _ (hS z (by simp)) hz, k _ _ nS hT, nS, n1, n2, n3⟩
  item := fun i s Q E hi st hl hQ => by
    obtain ⟨h1, h2, h3, h4⟩ := st
    have l1 : i < n1 := by omega
    have l2 : i < n2 := by omega
    have ne : ∀ {c o}, s.heap.get? c = some o → s.heap.objs.size ≠ c := fun e => Nat.ne_of_gt (Heap.lt_size e)
    have e1 : s.heap.objs.size ≠ i1 := by obtain ⟨_, e⟩ := D1.live _ _ h2; exact ne e
    have e2 : s.heap.objs.size ≠ i2 := by obtain ⟨_, e⟩ := D2.live _ _ h3; exact ne e
    rcases h4 with ⟨hz, p, q, hO⟩ | ⟨T, f, oT, hz, hT, nS, m1, m2, m3⟩
    · refine wpAny_pyNext_zipD2_item Z D1 D2 hz h1 hO h2 h3 l1 l2 fun x y h' tk hx hy b1 b2 d1 d2 b5 b6 k => ?_
      exact hQ #[x, y] h' tk ⟨x, y, hx, hy, rfl⟩ ⟨k _ _ Z.TIz Z.TITO Z.TIi1 Z.TIi2 h1, d1, d2, .inr ⟨_, false, _, b1, b5, Nat.ne_of_gt hl, ne hz, e1, e2⟩⟩ b5
        fun b o hb e => k b o (fun y => hb (by simp [y])) (fun y => hb (by simp [y])) (fun y => hb (by simp [y])) (fun y => hb (by simp [y])) e
    · refine zhn_item Z D1 D2 hz hT h1 h2 h3 l1 l2 fun x y h' tk hx hy b1 d1 d2 b5 k => ?_
      exact hQ #[x, y] h' tk ⟨x, y, hx, hy, rfl⟩ ⟨k _ _ Z.TIz Z.TIi1 Z.TIi2 h1, d1, d2, .inr ⟨T, true, oT, b1, k _ _ m1 m2 m3 hT, nS, m1, m2, m3⟩⟩ b5
        fun b o hb e => k b o (fun y => hb (by simp [y])) (fun y => hb (by simp [y])) (fun y => hb (by simp [y])) e
  done := fun s Q E st hQ => by
    obtain ⟨h1, h2, h3, h4⟩ := st
    rcases h4 with ⟨hz, p, q, hO⟩ | ⟨T, f, oT, hz, hT, nS, m1, m2, m3⟩
    · exact wpAny_pyNext_zipD2_end Z D1 D2 hz h1 hO h2 h3 (by omega) (by omega) (by omega) fun h' tk k => hQ h' tk fun b o hb e =>
        k b o (fun y => hb (by simp [y])) (fun y => hb (by simp [y])) (fun y => hb (by simp [y])) (fun y => hb (by simp [y])) e
    · exact zhn_end Z D1 D2 hz hT h1 h2 h3 (by omega) (by omega) (by omega) fun h' tk k => hQ h' tk fun b o hb e => k b o (fun y => hb (by simp [y])) (fun y => hb (by simp [y])) (fun y => hb (by simp [y])) e

/-- the tuples handed out so far -/
structure Handed (Pt : Nat → Array Value → Prop) (N : Nat) (h : Heap) (ts : List Addr) : Prop where
  rise : ts.Pairwise (· < ·)
  above : ∀ a ∈ ts, N ≤ a
  at_ : ∀ (j : Nat) (a : Addr), ts[j]? = some a → ∃ vals, Pt j vals ∧ h.get? a = some { cls := .type "tuple", data := .seq vals }
theorem Handed.keep {Pt : Nat → Array Value → Prop} {N : Nat} {h h' : Heap} {ts : List Addr} (g : Handed Pt N h ts) (k : ∀ b o, N ≤ b → h.get? b = some o → h'.get? b = some o) : Handed Pt N h' ts :=
  ⟨g.rise, g.above, fun j a e => let ⟨vals, p, q⟩ := g.at_ j a e; ⟨vals, p, k a _ (g.above a (List.mem_of_getElem? e)) q⟩⟩
theorem Handed.low {Pt : Nat → Array Value → Prop} {N : Nat} {h : Heap} {ts : List Addr} (g : Handed Pt N h ts) {a : Addr} (m : a ∈ ts) : a < h.objs.size := by
  obtain ⟨j, e⟩ := List.mem_iff_getElem?.mp m
  obtain ⟨_, _, q⟩ := g.at_ j a e
  exact Heap.lt_size q
theorem Handed.more {Pt : Nat → Array Value → Prop} {N : Nat} {h h' : Heap} {ts : List Addr} {a : Addr} {vals : Array Value} (g : Handed Pt N h ts) (ha : h.objs.size = a) (hN : N ≤ h.objs.size) (k : ∀ b o, N ≤ b → h.get? b = some o → h'.get? b = some o) (p : Pt ts.length vals) (e : h'.get? a = some { cls := .type "tuple", data := .seq vals }) :
    Handed Pt N h' (ts ++ [a]) := by
  refine ⟨List.pairwise_append.mpr ⟨g.rise, List.pairwise_singleton _ _, fun x hx y hy => ?_⟩, fun x hx => ?_, fun j x hx => ?_⟩
  · rw [List.mem_singleton.mp hy, ← ha]; exact g.low hx
  · rcases List.mem_append.mp hx with hx | hx
    · exact g.above x hx
    · rw [List.mem_singleton.mp hx, ← ha]; exact hN
  · rcases Nat.lt_trichotomy j ts.length with q | q | q
    · rw [List.getElem?_append_left q] at hx
      obtain ⟨vs, p1, p2⟩ := g.at_ j x hx
      exact ⟨vs, p1, k x _ (g.above x (List.mem_of_getElem? hx)) p2⟩
    · subst q
      have ex : a = x := by simpa using hx
      subst ex
      exact ⟨vals, p, e⟩
    · rw [List.getElem?_eq_none (by rw [List.length_append, List.length_singleton]; omega)] at hx; cases hx

theorem gather_loop {P : Program} {w : World} {A : Around} {J S : Addr} {wr : List Addr} {n N : Nat} {Pt : Nat → Array Value → Prop} {Sn : Nat → Heap → Prop} {s : Shared} {R : Result → Shared → Prop} (W : NextsT P w A.in1 J S wr n Pt Sn)
    (hS : S < N) (hwr : ∀ b ∈ wr, b < N) (hSw : S ∉ wr) (hn : n ≤ sizeLine) (res : Value) {h₁ : Heap}
    (hR : ∀ h' tk acc c ts, (∀ b o, b ≠ S → b ∉ wr → h₁.get? b = some o → h'.get? b = some o) → h'.get? S = some { cls := .type "list", dict := none, data := .seq acc c, slots := #[] } → ts.length = n → Handed Pt N h' ts → acc.toList = ts.map Value.ref → R (.ok (.ret res)) { s with heap := h', toks := tk }) :
    ∀ (k i : Nat) (h : Heap) (tk c : Nat) (acc : Array Value) (ts : List Addr), n - i = k → i ≤ n → Sn i h → (∀ b o, b ≠ S → b ∉ wr → h₁.get? b = some o → h.get? b = some o) →
      h.get? S = some { cls := .type "list", dict := none, data := .seq acc c, slots := #[] } → acc.toList = ts.map Value.ref → ts.length = i → Handed Pt N h ts → N ≤ h.objs.size →
      codeAny (model P w) A (.builtin "list.extend.loop" ⟨[.ref S, .ref J, res], []⟩) R { s with heap := h, toks := tk } := by
  have far : ∀ b, N ≤ b → b ∉ wr := fun b h m => absurd (hwr b m) (Nat.not_lt.mpr h)
  have farS : ∀ b, N ≤ b → b ≠ S := fun b h e => absurd (e ▸ hS) (Nat.not_lt.mpr h)
  intro k
  induction k with
  | zero =>
    intro i h tk c acc ts hk hi hst kp hL hacc hl hG hN
    have e : i = n := by omega
    subst e
    refine codeAny_builtin PySem.F.entry_extend_loop ?_
    rw [Around.under_plainId PySem.F.plain_extend_loop _]
    show wpAny _ A.in1 (pyNext (.ref J) >>= _) _ _ _
    refine wpAny_bind (W.done { s with heap := h, toks := tk } _ _ hst fun h' tk' kk => ?_)
    exact wpAny_pure (hR h' tk' acc c ts (fun b o h1 h2 e => kk b o h2 (kp b o h1 h2 e)) (kk S _ hSw hL) hl (hG.keep fun b o hb e => kk b o (far b hb) e) hacc)
  | succ k ih =>
    intro i h tk c acc ts hk hi hst kp hL hacc hl hG hN
    have hlt : i < n := by omega
    have hsz : acc.size = i := by rw [← Array.length_toList, hacc, List.length_map, hl]
    refine codeAny_builtin PySem.F.entry_extend_loop ?_
    rw [Around.under_plainId PySem.F.plain_extend_loop _]
    show wpAny _ A.in1 (pyNext (.ref J) >>= _) _ _ _
    refine wpAny_bind (W.item i { s with heap := h, toks := tk } _ _ hlt hst (Heap.lt_size hL) fun vals h' tk' hp hst' ht kk => ?_)
    dsimp only at ht kk ⊢
    have hL' := kk S _ hSw hL
    have up : ∀ b o, b ≠ S → h'.get? b = some o → (h'.update S (Obj.mapSeq (·.push (Value.ref h.objs.size)))).get? b = some o := fun b o hb e => (Heap.get?_update_other _ _ (Ne.symm hb)).trans e
    have ht' := up _ _ (farS _ hN) ht
    show wpAny _ A.in1 (updateSeq S (·.push (Value.ref h.objs.size)) >>= _) _ _ _
    refine wpAny_bind ?_
    refine wpAny_updateSeq hL' rfl (wpAny_pure ⟨plainId_quiet PySem.F.plain_extend_loop _, ih (i + 1) _ tk' _ (acc.push (Value.ref h.objs.size)) (ts ++ [h.objs.size]) (by omega) hlt (W.frame _ _ _ hst' up)
      (fun b o h1 h2 e => up b o h1 (kk b o h2 (kp b o h1 h2 e))) (Heap.get?_update_self _ hL' rfl) (by rw [Array.toList_push, hacc, List.map_append]; rfl) (by rw [List.length_append, hl]; rfl)
      (hG.more rfl hN (fun b o hb e => up b o (farS b hb) (kk b o (far b hb) e)) (by rw [hl]; exact hp) ht') (Nat.le_of_lt (Nat.lt_of_le_of_lt hN (Heap.lt_size ht')))⟩) (by rw [hsz]; omega) (by show (acc.push (Value.ref h.objs.size)).size ≤ sizeLine + 1; rw [Array.size_push, hsz]; omega)

theorem zip_nolen : typeLookup (.type "zip") "__len__" = pure none := by rw [typeLookup_type, builtinLookup_eq_fast]; kernel_rfl
theorem zip_nohint : typeLookup (.type "zip") "__length_hint__" = pure none := by rw [typeLookup_type, builtinLookup_eq_fast]; kernel_rfl
theorem zip_hint {P : Program} {w : World} {A : Around} {E : Value → Shared → Prop} {s : Shared} {z : Addr} {Q : Bool → Shared → Prop} (hT : s.TypeIs (.ref z) "zip") (h : Q true s) : wpAny (model P w) A (Builtin.List.listLengthHint (.ref z)) Q E s := by
  unfold Builtin.List.listLengthHint
  refine wpAny_bind (wpAny_specialOf hT zip_nolen ?_)
  show wpAny _ _ (specialOf (Value.ref z) (Str.ofString "__length_hint__") >>= _) _ _ _
  exact wpAny_bind (wpAny_specialOf hT zip_nohint (wpAny_pure h))

section
variable {P : Program} {w : World} {A : Around} {E : Value → Shared → Prop} {s : Shared}
theorem gather_zip {R : Result → Shared → Prop} {J S : Addr} {wr : List Addr} {n N c₀ : Nat} {Pt : Nat → Array Value → Prop} {Sn : Nat → Heap → Prop} (W : NextsT P w A.in1 J S wr n Pt Sn) (hJ : ∃ TI TO, IsZip s.heap J TI TO .none) (hSJ : S ≠ J) (hst : Sn 0 s.heap)
    (hS : S < N) (hN : N ≤ s.heap.objs.size) (hwr : ∀ b ∈ wr, b < N) (hSw : S ∉ wr) (hn : n ≤ sizeLine) (res : Value) (hL : s.heap.get? S = some { cls := .type "list", data := .seq #[] c₀ })
    (hR : ∀ h' tk acc c ts, (∀ b o, b ≠ S → b ∉ wr → s.heap.get? b = some o → h'.get? b = some o) → h'.get? S = some { cls := .type "list", dict := none, data := .seq acc c, slots := #[] } → ts.length = n → Handed Pt N h' ts → acc.toList = ts.map Value.ref → R (.ok (.ret res)) { s with heap := h', toks := tk }) :
    wpAny (model P w) A.in1 (Builtin.List.listExtendWith (.ref S) (.ref J) res)
      (fun fin s' => match fin with | .done f => R (.ok f) s' | .again c' => c'.quiet = true ∧ codeAny (model P w) A c' R s') (fun e s' => R (.error e) s') s := by
  obtain ⟨TI, TO, hJ⟩ := hJ
  have hT : s.TypeIs (.ref J) "zip" := ⟨_, hJ, rfl⟩
  have key : ∀ (h : Heap) (c₁ tk : Nat), (∀ b o, b ≠ S → s.heap.get? b = some o → h.get? b = some o) → N ≤ h.objs.size → h.get? S = some { cls := .type "list", data := .seq #[] c₁ } → codeAny (model P w) A (.builtin "list.extend.loop" ⟨[.ref S, .ref J, res], []⟩) R { s with heap := h, toks := tk } := by
    intro h c₁ tk kp hN hL1
    exact gather_loop (s := s) W hS hwr hSw hn res (h₁ := s.heap) hR n 0 h tk c₁ #[] [] (Nat.sub_zero _) (Nat.zero_le _) (W.frame _ _ _ hst kp) (fun b o hb _ e => kp b o hb e) hL1 rfl rfl ⟨.nil, (fun _ m => nomatch m), (fun j a e => by simp at e)⟩ hN
  unfold Builtin.List.listExtendWith
  refine wpAny_bind (wpAny_typeOf (T := "zip") hT ?_)
  have e1 : Builtin.List.listSameRef (.ref S) (.ref J) = false := by simp [Builtin.List.listSameRef, hSJ]
  have e2 : (Value.type "zip" == Value.type "list") = false := by decide
  have e3 : (Value.type "zip" == Value.type "tuple") = false := by decide
  simp only [e1, e2, e3, Bool.or_false, Bool.false_eq_true, if_false]
  refine wpAny_bind (wpAny_pyIter_zip hJ ?_)
  refine wpAny_bind (wpAny_holding (zip_hint hT ?_))
  refine wpAny_ite_split (fun _ => ?_) (fun _ => wpAny_pure ⟨plainId_quiet PySem.F.plain_extend_loop _, key _ c₀ _ (fun b o _ e => e) hN hL⟩)
  refine wpAny_bind (wpAny_rule ?_)
  refine wpAny_bind ?_
  show wpAny _ _ (updateSeq S (·.push .none) >>= fun _ => updateSeq S (·.pop)) _ _ _
  refine wpAny_bind (wpAny_updateSeq hL rfl ?_)
  have hL2 := Heap.get?_update_self (Obj.mapSeq (·.push Value.none)) hL rfl
  refine wpAny_updateSeq (hz := by seq_fits) hL2 rfl ?_
  have hL3 := Heap.get?_update_self (Obj.mapSeq (·.pop)) hL2 rfl
  refine wpAny_pure ⟨plainId_quiet PySem.F.plain_extend_loop _, key _ _ _ (fun b o hb e => ?_) ?_ hL3⟩
  · exact (Heap.get?_update_other _ _ (Ne.symm hb)).trans ((Heap.get?_update_other _ _ (Ne.symm hb)).trans e)
  · rw [Heap.size_update, Heap.size_update]; exact hN

theorem list_of_zip {Q : Value → Shared → Prop} {J TI TO : Addr} {wr : List Addr} {n : Nat} {Pt : Nat → Array Value → Prop} {Sn : Nat → Heap → Prop} (W : NextsT P w A.in1.in1 J s.heap.objs.size wr n Pt Sn) (hJ : IsZip s.heap J TI TO .none) (hst : Sn 0 s.heap) (hwr : ∀ b ∈ wr, b < s.heap.objs.size) (hn : n ≤ sizeLine)
    (hQ : ∀ h' tk acc c ts, (∀ b o, b ∉ wr → s.heap.get? b = some o → h'.get? b = some o) → h'.get? s.heap.objs.size = some { cls := .type "list", dict := none, data := .seq acc c, slots := #[] } → ts.length = n → Handed Pt (s.heap.objs.size + 1) h' ts → acc.toList = ts.map Value.ref → Q (.ref s.heap.objs.size) { s with heap := h', toks := tk }) :
    wpAny (model P w) A (call (.type "list") [.ref J]) Q E s := by
  refine callType_codes (Q₁ := fun obj s₁ => obj = .ref s.heap.objs.size ∧ s₁ = { s with heap := s.heap.push { cls := .type "list", data := .seq #[] } }) PySem.F.called_list (PySem.F.typeCall_list_1 _) PySem.F.entry_list_init
    (code_list_new _ ⟨rfl, rfl⟩) fun ob s₁ h₁ => ?_
  obtain ⟨rfl, rfl⟩ := h₁
  have hL : (s.heap.push { cls := .type "list", data := .seq #[] }).get? s.heap.objs.size = some { cls := .type "list", data := .seq #[] } := Heap.get?_push_size _ rfl
  have lJ : J < s.heap.objs.size := Heap.lt_size hJ
  have ez : (s.heap.push { cls := .type "list", data := .seq #[] }).objs.size = s.heap.objs.size + 1 := Heap.size_push ..
  refine ⟨⟨_, hL, rfl⟩, PySem.F.args_list_init_2 _ _, ?_⟩
  show wpAny _ _ (do let old ← Builtin.List.listItems (.ref s.heap.objs.size); Builtin.List.listUpdate (.ref s.heap.objs.size) (fun _ => #[]); letGo old.toList.reverse; Builtin.List.listExtendWith (.ref s.heap.objs.size) (.ref J) .none) _ _ _
  refine wpAny_bind ?_
  unfold Builtin.List.listItems
  refine wpAny_bind (wpAny_seqItems hL rfl (wpAny_pure ?_))
  show wpAny _ _ (updateSeq s.heap.objs.size (fun _ => #[]) >>= fun _ => letGo (#[] : Array Value).toList.reverse >>= fun _ => Builtin.List.listExtendWith (.ref s.heap.objs.size) (.ref J) .none) _ _ _
  refine wpAny_bind (wpAny_updateSeq hL rfl ?_)
  have hL2 := Heap.get?_update_self (Obj.mapSeq (fun _ => (#[] : Array Value))) hL rfl
  have oth : ∀ b o, b ≠ s.heap.objs.size → s.heap.get? b = some o → ((s.heap.push { cls := .type "list", data := .seq #[] }).update s.heap.objs.size (Obj.mapSeq (fun _ => (#[] : Array Value)))).get? b = some o :=
    fun b o hb e => (Heap.get?_update_other _ _ (Ne.symm hb)).trans (Heap.get?_push_of_some _ e)
  refine wpAny_bind (wpAny_letGo ?_)
  refine gather_zip (A := A.in1) (N := s.heap.objs.size + 1) W ⟨TI, TO, oth J _ (Nat.ne_of_lt lJ) hJ⟩ (Nat.ne_of_gt lJ) (W.frame _ _ _ hst oth) (Nat.lt_succ_self _) (by show s.heap.objs.size + 1 ≤ (Heap.update _ _ _).objs.size; rw [Heap.size_update, ez]; exact Nat.le_refl _) (fun b hb => Nat.lt_succ_of_lt (hwr b hb)) (fun m => Nat.lt_irrefl _ (hwr _ m)) hn .none hL2 fun h' tk acc c ts kp hL' hl hG hacc => ?_
  exact ⟨rfl, hQ h' tk acc c ts (fun b o hb e => kp b o (Nat.ne_of_lt (Heap.lt_size e)) hb (oth b o (Nat.ne_of_lt (Heap.lt_size e)) e)) hL' hl hG hacc⟩
end

/-- many new ones -/
theorem Inv.grown {X : Cx} {pins : List (Addr × Obj)} {σ : St} {H H' : Hp} {s : Shared} {h' : Heap} {tk : Nat} (I : Inv X pins σ H s) (kp : Same H H') (hk : ∀ b o, s.heap.get? b = some o → h'.get? b = some o) (old : ∀ b o, s.heap.get? b = some o → H' b = H b)
    (new : ∀ b u, H' b = some u → H b = some u ∨ ObjOk X.prog X.w H' h' b u) : Inv X pins σ H' { s with heap := h', toks := tk } := by
  refine I.call' (ch := []) rfl ⟨fun b o q _ _ _ => hk b o q, fun b o q _ _ _ => ⟨o.slots, hk b o q⟩, fun b o q n _ => ?_, fun b o q _ => ⟨o, hk b o q⟩, fun b xs q => kp b _ q, fun b o u q => kp b _ q, fun b ps q => ⟨#[], by rw [kp b _ q]; simp⟩⟩ (fun b u q => ?_) I.bare fun b z => by simp at z
  · rw [old b o q]; exact n
  · rcases new b u q with e | e
    · exact (I.hok b u e).stay (fun d v _ y => hk d v y) (fun d y => kp d _ y) fun d xs y => kp d _ y
    · exact e
/-- tuples laid down -/
def putL : Hp → List Addr → List (List V) → Hp
  | H, t :: ts, l :: ls => putL (upd H t (.tup l)) ts ls
  | H, _, _ => H
theorem putL_off {b : Addr} : ∀ {ts : List Addr} {ls : List (List V)} {H : Hp}, b ∉ ts → putL H ts ls b = H b
  | [], _, _, _ => rfl
  | _ :: _, [], _, _ => rfl
  | t :: ts, l :: ls, H, h => by
    rw [putL, putL_off (fun m => h (List.mem_cons_of_mem _ m)), upd_ne (fun e => h (by rw [e]; exact List.mem_cons_self))]
theorem putL_at : ∀ {ts : List Addr} {ls : List (List V)} {H : Hp}, ts.Nodup → ts.length = ls.length → ∀ {j : Nat} {t : Addr}, ts[j]? = some t → ∃ l, ls[j]? = some l ∧ putL H ts ls t = some (.tup l)
  | [], _, _, _, _, j, t, h => by simp at h
  | _ :: _, [], _, _, hl, _, _, _ => by cases hl
  | t :: ts, l :: ls, H, hn, hl, 0, x, h => by
    have e : t = x := by simpa using h
    subst e
    exact ⟨l, rfl, by rw [putL, putL_off (List.nodup_cons.mp hn).1, upd_same]⟩
  | t :: ts, l :: ls, H, hn, hl, j + 1, x, h => putL_at (H := upd H t (.tup l)) (List.nodup_cons.mp hn).2 (Nat.succ.inj hl) (by simpa using h)
theorem putL_ext : ∀ {ts : List Addr} {ls : List (List V)} {F H : Hp}, Same F H → ts.Nodup → (∀ t ∈ ts, H t = none) → Ext F H (putL F ts ls) (putL H ts ls)
  | [], _, _, _, s, _, _ => Ext.refl s
  | _ :: _, [], _, _, s, _, _ => Ext.refl s
  | t :: ts, l :: ls, F, H, s, hn, h => by
    have e1 : Ext F H (upd F t (.tup l)) (upd H t (.tup l)) := Ext.new s (h t List.mem_cons_self)
    refine e1.trans (putL_ext e1.fh (List.nodup_cons.mp hn).2 fun b hb => ?_)
    rw [upd_ne (fun e : b = t => (List.nodup_cons.mp hn).1 (by rw [← e]; exact hb))]
    exact h b (List.mem_cons_of_mem _ hb)
def pairs (xs ys : List V) : List (List V) := List.zipWith (fun x y => [x, y]) xs ys
def tListZip (K : PySem.W.Frag) (ta : TA) : TE := fun σ H Q => ta σ H fun vs H1 => ∃ (c d : Sc) (xs ys : List V), vs = [.ref c.ad, .ref d.ad] ∧ ScH K H1 xs c ∧ ScH K H1 ys d ∧ xs.length ≤ sizeLine ∧
  ∀ (S : Addr) (ts : List Addr), H1 S = none → (∀ t ∈ ts, H1 t = none) → ts.Nodup → S ∉ ts → ts.length = (pairs xs ys).length → Q (.ref S) (upd (putL H1 ts (pairs xs ys)) S (.lst (ts.map V.ref)))
theorem refs_vals : ∀ ts : List Addr, Vals (ts.map V.ref) (ts.map Value.ref)
  | [] => .nil
  | _ :: ts => .cons rfl (refs_vals ts)
theorem pe_listZip {X : Cx} {e e2 : Expr} {ta : TA} {p p2 pos pos2 : Pos} (hc : X.calm = true) (hg : Gl X "zip") (hm : X.mg "zip" = none) (hg2 : Gl X "list") (hm2 : X.mg "list" = none) (hv2 : bootBuiltins "list" = some (.type "list")) (ha : PA X [e, e2] ta)
    (hs : starEach [e, e2] X.env = (false, eval e X.env) :: starEach [e2] X.env) (hpl : (backTo pos (starEach [e2] X.env)).any (·.1) = false)
    (hz : starEach [.Call (.Name "zip" p) [e, e2] [] pos] X.env = (false, eval (.Call (.Name "zip" p) [e, e2] [] pos) X.env) :: starEach [] X.env) :
    PE X (.Call (.Name "list" p2) [.Call (.Name "zip" p) [e, e2] [] pos] [] pos2) (tListZip X.K ta) := by
  refine ⟨fun pins s σ H Q I h => ?_⟩
  refine Call_ (ld_blt I hg2 hm2 hv2 ?_)
  refine PyProof.Rows.callWith_type1 (PyProof.Rows.args_cons ?_ hz) hz rfl
  refine Call_ (ld_blt I hg hm PyProof.Rows.boot_zip (PyProof.Rows.callWith_type1 (thn (ha.run pos pins s σ H _ I h) fun us s1 ⟨vs, H1, I1, r1, q1⟩ => ?_) hs hpl))
  obtain ⟨c, d, xs, ys, rfl, qx, qy, hsz, q1⟩ := q1
  cases r1 with
  | cons r rr => cases rr with
    | cons r' rr =>
      cases rr; cases r; cases r'
      obtain ⟨us, rx, px⟩ := sc_inv I1 qx
      obtain ⟨vs, ry, py⟩ := sc_inv I1 qy
      have lc := px.low
      have ld := py.low
      refine zip_begins2 (sc_begins c us.toArray) (sc_begins d vs.toArray) px py fun h' hz hTI hTO g1 g2 hsz' hk => ?_
      refine PyProof.Rows.args_nil ?_
      have Z := zip_sep2 (N := s1.heap.objs.size) (fp1 := [c.ad]) (fp2 := [d.ad]) (fun b hb => by rw [List.mem_singleton.mp hb]; exact lc) (fun b hb => by rw [List.mem_singleton.mp hb]; exact ld)
      have hA : X.A.in1.in1.in1.handled = none := I1.ok.hd hc
      have W := nexts_zip (A := X.A.in1.in1) (S := h'.objs.size) Z (sc_draws (P := X.prog) (w := X.w) hA s1.heap.objs.size c (Nat.ne_of_lt lc) us.toArray) (sc_draws (P := X.prog) (w := X.w) hA (s1.heap.objs.size + 1) d (Nat.ne_of_lt (Nat.lt_of_lt_of_le ld (Nat.le_add_right _ _))) vs.toArray) (fun b hb => by
        rw [hsz']
        have hb : b = s1.heap.objs.size + 4 ∨ b = s1.heap.objs.size + 2 ∨ b = s1.heap.objs.size + 3 ∨ b = s1.heap.objs.size ∨ b = c.ad ∨ b = s1.heap.objs.size + 1 ∨ b = d.ad := by simpa using hb
        have lc' : (c.ad : Nat) < s1.heap.objs.size := lc
        have ld' : (d.ad : Nat) < s1.heap.objs.size := ld
        rcases hb with q | q | q | q | q | q | q <;> rw [q] <;> first | exact Nat.ne_of_lt (Nat.add_lt_add_left (by decide) _) | exact Nat.ne_of_lt (Nat.lt_add_of_pos_right (by decide)) | exact Nat.ne_of_lt (Nat.lt_of_lt_of_le lc' (Nat.le_add_right _ _)) | exact Nat.ne_of_lt (Nat.lt_of_lt_of_le ld' (Nat.le_add_right _ _)))
      refine list_of_zip (s := { s1 with heap := h' }) W hz ⟨hTI, ⟨sc_start g1, px.to fun o e => hk _ _ e⟩, ⟨sc_start g2, py.to fun o e => hk _ _ e⟩, .inl ⟨hz, _, _, hTO⟩⟩ (fun b hb => ?_) ?_ fun h2 tk acc cc ts kp hL hl hG hacc => ?_
      · show b < h'.objs.size
        rw [hsz']
        have hb : b = s1.heap.objs.size + 4 ∨ b = s1.heap.objs.size + 3 ∨ b = s1.heap.objs.size ∨ b = s1.heap.objs.size + 1 := by simpa using hb
        rcases hb with q | q | q | q <;> rw [q] <;> first | exact Nat.lt_add_of_pos_right (by decide) | exact Nat.add_lt_add_left (by decide) _
      · rw [List.size_toArray, ← rx.length]; exact Nat.le_trans (Nat.min_le_left _ _) hsz
      · have hl : ts.length = min us.length vs.length := by simpa using hl
        have big : ∀ t ∈ ts, s1.heap.objs.size ≤ t := fun t m => by
          have q : h'.objs.size + 1 ≤ t := hG.above t m
          rw [hsz'] at q
          exact Nat.le_trans (Nat.le_add_right _ 6) q
        have bigS : s1.heap.objs.size ≤ h'.objs.size := by rw [hsz']; exact Nat.le_add_right _ _
        have nS : h'.objs.size ∉ ts := fun m => Nat.lt_irrefl _ (hG.above _ m)
        have nd : ts.Nodup := List.Pairwise.imp (fun {a b} (h : a < b) => Nat.ne_of_lt h) hG.rise
        have n1 : ∀ t ∈ ts, H1 t = none := fun t m => I1.hok.fresh (big t m)
        have n0 : H1 h'.objs.size = none := I1.hok.fresh bigS
        have hlen : ts.length = (pairs xs ys).length := by unfold pairs; rw [List.length_zipWith, rx.length, ry.length]; exact hl
        have sm : Same H1 (upd (putL H1 ts (pairs xs ys)) h'.objs.size (.lst (ts.map V.ref))) := fun b u e => by
          rw [upd_ne (fun q => by rw [q, n0] at e; cases e), putL_off (fun m => by rw [n1 b m] at e; cases e)]; exact e
        have old : ∀ b o, s1.heap.get? b = some o → upd (putL H1 ts (pairs xs ys)) h'.objs.size (.lst (ts.map V.ref)) b = H1 b := fun b o e => by
          have lb : b < s1.heap.objs.size := Heap.lt_size e
          rw [upd_ne (Nat.ne_of_lt (Nat.lt_of_lt_of_le lb bigS)), putL_off (fun m => absurd lb (Nat.not_lt.mpr (big b m)))]
        have J : Inv X pins σ (upd (putL H1 ts (pairs xs ys)) h'.objs.size (.lst (ts.map V.ref))) { s1 with heap := h2, toks := tk } := by
          refine Inv.grown I1 sm (fun b o e => kp b o (fun m => ?_) (hk b o e)) old fun b u e => ?_
          · have lb : b < s1.heap.objs.size := Heap.lt_size e
            have m : b = s1.heap.objs.size + 4 ∨ b = s1.heap.objs.size + 3 ∨ b = s1.heap.objs.size ∨ b = s1.heap.objs.size + 1 := by simpa using m
            rcases m with q | q | q | q <;> rw [q] at lb <;> first | exact Nat.lt_irrefl _ lb | exact absurd lb (Nat.not_lt.mpr (Nat.le_add_right _ _))
          · by_cases hb : b = h'.objs.size
            · subst hb
              rw [upd_same] at e
              cases e
              refine .inr ⟨by rw [List.length_map, hlen]; unfold pairs; rw [List.length_zipWith]; exact Nat.le_trans (Nat.min_le_left _ _) hsz, acc.toList, cc, by rw [hacc]; exact refs_vals ts, ?_⟩
              rw [Array.toArray_toList]
              exact hL
            · rw [upd_ne hb] at e
              by_cases hb2 : b ∈ ts
              · obtain ⟨j, ej⟩ := List.mem_iff_getElem?.mp hb2
                obtain ⟨l, el, e2⟩ := putL_at (H := H1) nd hlen ej
                rw [e2] at e
                cases e
                obtain ⟨vals, ⟨u, v, eu, ev, rfl⟩, ht⟩ := hG.at_ j b ej
                obtain ⟨x, ex, r1⟩ := vals_get rx eu
                obtain ⟨y, ey, r2⟩ := vals_get ry ev
                have el : (pairs xs ys)[j]? = some l := el
                unfold pairs at el
                rw [List.getElem?_zipWith, ex, ey] at el
                cases el
                exact .inr ⟨by show 2 ≤ sizeLine; decide, [u, v], .cons r1 (.cons r2 .nil), ⟨_, ht, rfl, _, rfl⟩⟩
              · rw [putL_off hb2] at e
                exact .inl e
        exact ⟨.ref _, _, J, rfl, q1 _ ts n0 n1 nd nS hlen⟩
theorem rp_pairs {K : PySem.W.Frag} : ∀ {ts : List Addr} {xs ys : List V} {ds es : List D} {F H : Hp}, Same F H → ts.Nodup → (∀ t ∈ ts, H t = none) → ts.length = (pairs xs ys).length → RpL K F xs ds → RpL K F ys es → RpL K (putL F ts (pairs xs ys)) (ts.map V.ref) (zipD ds es)
  | ts, [], ys, [], es, F, H, s, hn, h, hl, .nil, r' => by
    have e : ts = [] := List.length_eq_zero_iff.mp hl
    subst e
    exact .nil
  | ts, x :: xs, [], d :: ds, [], F, H, s, hn, h, hl, r, .nil => by
    have e : ts = [] := List.length_eq_zero_iff.mp hl
    subst e
    exact .nil
  | [], x :: xs, y :: ys, d :: ds, e :: es, F, H, s, hn, h, hl, r, r' => by cases hl
  | t :: ts, x :: xs, y :: ys, d :: ds, e :: es, F, H, s, hn, h, hl, .cons r rs, .cons r' rs' => by
    have ht := h t List.mem_cons_self
    have e1 : Ext F H (upd F t (.tup [x, y])) (upd H t (.tup [x, y])) := Ext.new s ht
    have nw : ∀ b ∈ ts, upd H t (.tup [x, y]) b = none := fun b hb => by
      rw [upd_ne (fun e : b = t => (List.nodup_cons.mp hn).1 (by rw [← e]; exact hb))]
      exact h b (List.mem_cons_of_mem _ hb)
    have ih := rp_pairs e1.fh (List.nodup_cons.mp hn).2 nw (Nat.succ.inj hl) (rs.mono e1.ff) (rs'.mono e1.ff)
    have e2 := putL_ext (ls := pairs xs ys) e1.fh (List.nodup_cons.mp hn).2 nw
    exact .cons ((Rp.newT s ht (.cons r (.cons r' .nil)) (by rw [sizeLine_eq]; show 2 ≤ 16777216; decide)).mono e2.ff) ih
theorem rpl_size {K : PySem.W.Frag} {F H : Hp} {v : V} {d : D} {ds : List D} (r : Rp K F v d) (e : seqOf d = .ok ds) : ds.length ≤ sizeLine := by
  cases r with
  | lst q r z => cases e; exact z
  | tup q r z => cases e; exact z
  | _ => cases e
theorem de_listZip {X : Cx} {W : WX} {a b : Expr} {f g : Sls → R D} {p p2 pos pos2 : Pos} (hc : X.calm = true) (hg : Gl X "zip") (hm : X.mg "zip" = none) (hg2 : Gl X "list") (hm2 : X.mg "list" = none) (ha : DE X W a f) (hb : DE X W b g)
    (hs : ∀ es, starEach (a :: es) X.env = (false, eval a X.env) :: starEach es X.env) (hs' : ∀ es, starEach (b :: es) X.env = (false, eval b X.env) :: starEach es X.env) :
    DE X W (.Call (.Name "list" p2) [.Call (.Name "zip" p) [a, b] [] pos] [] pos2) (fun δ => (f δ).bind fun x => (g δ).bind fun y => (seqOf x).bind fun xs => (seqOf y).bind fun ys => .ok (.list (zipD xs ys))) := by
  obtain ⟨ta, pa, ha⟩ := ha
  obtain ⟨tb, pb, hb⟩ := hb
  refine ⟨_, pe_listZip hc hg hm hg2 hm2 (by decide +kernel) (pa_cons pa (pa_cons pb pa_nil (hs' _)) (hs _)) (hs _) (by rw [hs']; rfl) rfl, fun σ F H δ Q rs h => ?_⟩
  refine ha σ F H δ _ rs (Post.seq h fun x d F1 H1 e1 r1 h1 => ?_)
  refine hb σ F1 H1 δ _ (rs.ext e1) (Post.seq h1 fun y e F2 H2 e2 r2 h2 => ?_)
  have r1 := r1.mono e2.ff
  cases q1 : seqOf d with
  | ok xs =>
    rw [q1] at h2
    cases q2 : seqOf e with
    | ok ys =>
      rw [q2] at h2
      obtain ⟨c, us, rfl, qc, kc, rc⟩ := rp_seq r1 q1 e2.fh
      obtain ⟨c', us', rfl, qc', kc', rc'⟩ := rp_seq r2 q2 e2.fh
      refine ⟨c, c', us, us', rfl, kc _ e2.fh, kc' _ e2.fh, by rw [rc.length]; exact rpl_size (H := H2) r1 q1, fun S ts n0 n1 nd nS hl => ?_⟩
      have x1 : Ext F2 H2 (putL F2 ts (pairs us us')) (putL H2 ts (pairs us us')) := putL_ext e2.fh nd n1
      have n0' : putL H2 ts (pairs us us') S = none := by rw [putL_off nS]; exact n0
      refine h2 _ _ _ (x1.trans (Ext.new x1.fh n0')) (Rp.newL x1.fh n0' (rp_pairs e2.fh nd n1 hl rc rc') ?_)
      rw [zipD_length]
      exact Nat.le_trans (Nat.min_le_left _ _) (rpl_size (H := H2) r1 q1)
    | exn c => exact (seqOf_ne q2).elim
    | bad => rw [q2] at h2; exact h2.elim
  | exn c => exact (seqOf_ne q1).elim
  | bad => rw [q1] at h2; exact h2.elim
end DW
/-! The data layer, part N: more built-ins. -/
namespace DW
open PySem PySem.Spec PyProof.Rows L2
def dSum : List D → R D
  | [.list ds] => match intsOf ds with | some ns => .ok (.int ns.sum) | none => .bad
  | [.tuple ds] => match intsOf ds with | some ns => .ok (.int ns.sum) | none => .bad
  | _ => .bad
theorem sumT_raw {P : Program} {w : World} {A : Around} {E : Value → Shared → Prop} {s : Shared} {l : Addr} {its : List Value} {ns : List Int} {Q : Value → Shared → Prop} (hh : A.handled = none) (hl : s.heap.IsTuple l its.toArray) (hi : IntsAre its ns)
    (h : ∀ h' tk t', (∀ b o, s.heap.get? b = some o → h'.get? b = some o) → Q (.int ns.sum t') { s with heap := h', toks := tk }) : wpAny (model P w) A (call (.builtin "sum") [.ref l]) Q E s := by
  obtain ⟨xs, ex⟩ := hi.allInts.items
  have en : numsOf (intItems xs).toList = ns := by rw [← ex]; exact hi.numsOf
  rw [nums_intItems] at en
  rw [ex] at hl
  refine PySem.W.ktm_sumG hh hl fun h' tk t' hk => ?_
  have q := h h' tk t' hk
  rw [preSum_eq, List.take_of_length_le (by simp), en]; exact q
variable {X : Cx}
theorem cd_sum (hc : X.calm = true) : CallD X (.builtin "sum") dSum := calld_of fun pins s σ H xs us Q mg W σ' F ds I rv sm r p => by
  unfold dSum at p
  split at p
  · cases r with | cons a b => cases b; cases a with
      | lst q r z =>
        split at p
        · rename_i ns e
          have e2 := ints_rp r e
          subst e2
          exact cr_sum hc pins s σ H _ us Q I rv ⟨_, _, rfl, SqL.of (sm _ _ q), Post.here sm p (.int _)⟩
        · exact p.elim
  · cases r with | cons a b => cases b; cases a with
      | tup q r z =>
        split at p
        · rename_i ns e
          have e2 := ints_rp r e
          subst e2
          obtain ⟨its, r1, pl, _⟩ := I.tuple (SqT.of (K := X.K) (sm _ _ q))
          rw [Vals.ref1 rv]
          exact sumT_raw (I.ok.hd hc) pl r1.ints fun h' tk t' hk => ⟨.int _, H, I.kept hk, ⟨_, rfl⟩, Post.here sm p (.int _)⟩
        · exact p.elim
  · exact p.elim
end DW
/-! The data layer, part N2: in, sorted, min, max, count, index. -/
namespace DW
open PySem PySem.Spec PyProof.Rows L2
open PySem.W (alike dataLt AlikeAll minD maxD min_list_data max_list_data)
def flats (ds : List D) : Bool := PyData.canLayAll0 ds && decide (PyData.depthAll ds ≤ 8)
section
variable {X : Cx} {pins : List (Addr × Obj)} {σ : St} {H F : Hp} {s : Shared}
theorem flats_lay {d : List D} (h : flats d = true) : PyData.canLayAll0 d = true ∧ PyData.depthAll d ≤ 8 := by
  unfold flats at h
  rw [Bool.and_eq_true, decide_eq_true_eq] at h
  exact h
theorem rp_reads (I : Inv X pins σ H s) (sm : Same F H) {v : V} {d : D} {u : Value} (r : Rp X.K F v d) (h : d.canLay0 = true) (rv : RelV v u) : ∃ as, Reads s.heap u d as := Dp.reads I d v u ((r.mono sm).dp h) rv
theorem rp_readsL (I : Inv X pins σ H s) (sm : Same F H) {v : List V} {d : List D} {u : List Value} (r : RpL X.K F v d) (h : PyData.canLayAll0 d = true) (rv : Vals v u) : ∃ as, ReadsAll s.heap u d as := Dp.readsAll I d v u ((r.mono sm).dp h) rv
theorem rp_list (I : Inv X pins σ H s) (sm : Same F H) {a : Addr} {xs : List V} {ds : List D} (q : F a = some (.lst xs)) (r : RpL X.K F xs ds) (h : PyData.canLayAll0 ds = true) : ∃ us as, Vals xs us ∧ s.heap.IsList a us.toArray ∧ ReadsAll s.heap us ds as := by
  obtain ⟨us, rv, p, _⟩ := I.list (SqL.of (K := X.K) (sm _ _ q))
  obtain ⟨as, ra⟩ := rp_readsL I sm r h rv
  exact ⟨us, as, rv, p.isList, ra⟩
end
/-! ### in -/
def dIn : D → D → R D
  | .str x, .str y => match x.cps.toList with
    | [c] => .ok (.bool (decide (c ∈ y.cps.toList)))
    | _ => .bad
  | d, .list ds => if flat d = true ∧ PyData.canLayAll0 ds = true then .ok (.bool (ds.any fun z => PyData.eqv z d)) else .bad
  | _, _ => .bad
def dNotIn : D → D → R D
  | d, .list ds => if flat d = true ∧ PyData.canLayAll0 ds = true then .ok (.bool (!ds.any fun z => PyData.eqv z d)) else .bad
  | _, _ => .bad
section
variable {X : Cx}
theorem od_in (hu : X.A.units + 64 < cLine) : OpD X (compareOp .In) dIn := opd_of fun pins s σ H x y v u Q mg W σ' F d e I rx ry sm r1 r2 p => by
  unfold dIn at p
  split at p
  · rename_i x0 y0
    split at p
    · rename_i c ex
      have ex : x0 = ⟨#[c]⟩ := by
        obtain ⟨⟨l⟩⟩ := x0
        have : l = [c] := ex
        rw [this]
      subst ex
      cases r1; cases r2
      exact op_in_sign pins s σ H _ _ v u Q I rx ry ⟨_, _, rfl, rfl, Post.here sm p (.bl _)⟩
    · exact p.elim
  · rename_i ds
    obtain ⟨z, p⟩ := post_if p
    obtain ⟨f1, f2⟩ := flat_lay z.1
    obtain ⟨as, ra⟩ := rp_reads I sm r1 f1 rx
    obtain ⟨bs, rb⟩ := rp_reads I sm r2 (d := .list ds) z.2 ry
    exact SeqAt.in_list_reads rb ra z.2 f1 (by omega) ⟨.bl _, H, I, rfl, Post.here sm p (.bl _)⟩
  · exact p.elim
theorem od_notIn (hu : X.A.units + 64 < cLine) : OpD X (compareOp .NotIn) dNotIn := opd_of fun pins s σ H x y v u Q mg W σ' F d e I rx ry sm r1 r2 p => by
  unfold dNotIn at p
  split at p
  · rename_i ds
    obtain ⟨z, p⟩ := post_if p
    obtain ⟨f1, f2⟩ := flat_lay z.1
    obtain ⟨as, ra⟩ := rp_reads I sm r1 f1 rx
    obtain ⟨bs, rb⟩ := rp_reads I sm r2 (d := .list ds) z.2 ry
    exact SeqAt.notIn_list_reads rb ra z.2 f1 (by omega) ⟨.bl _, H, I, rfl, Post.here sm p (.bl _)⟩
  · exact p.elim
end
/-! ### min(xs), max(xs) -/
def likeB (ds : List D) : Bool := ds.all fun x => !isNone x && ds.all fun y => alike x y
theorem likeB_ok {ds : List D} (h : likeB ds = true) : AlikeAll ds := by
  unfold likeB at h
  rw [List.all_eq_true] at h
  refine ⟨fun x hx y hy => ?_, fun x hx => ?_⟩
  · have q := h x hx
    rw [Bool.and_eq_true, List.all_eq_true] at q
    exact q.2 y hy
  · have q := h x hx
    rw [Bool.and_eq_true] at q
    rintro rfl
    exact absurd q.1 (by decide)
def dMin1 : List D → R D
  | [.list (d :: ds)] => if flats (d :: ds) = true ∧ likeB (d :: ds) = true then .ok (minD d ds) else .bad
  | _ => .bad
def dMax1 : List D → R D
  | [.list (d :: ds)] => if flats (d :: ds) = true ∧ likeB (d :: ds) = true then .ok (maxD d ds) else .bad
  | _ => .bad
theorem lay_mem {d : D} : ∀ {ds : List D}, PyData.canLayAll0 ds = true → d ∈ ds → d.canLay0 = true
  | e :: ds, h, m => by
    rw [PyData.canLayAll0, Bool.and_eq_true] at h
    rcases List.mem_cons.mp m with rfl | m
    · exact h.1
    · exact lay_mem h.2 m
theorem fold_mem {f : D → D → Bool} : ∀ {ds : List D} {d : D}, ds.foldl (fun a y => if f y a then y else a) d ∈ d :: ds
  | [], d => by simp
  | e :: ds, d => by
    rw [List.foldl_cons]
    by_cases h : f e d = true
    · rw [if_pos h]
      exact List.mem_cons_of_mem _ (fold_mem (ds := ds) (d := e))
    · rw [if_neg h]
      rcases List.mem_cons.mp (fold_mem (f := f) (ds := ds) (d := d)) with q | q
      · rw [q]; exact List.mem_cons_self
      · exact List.mem_cons_of_mem _ (List.mem_cons_of_mem _ q)
theorem minD_mem {d : D} {ds : List D} : minD d ds ∈ d :: ds := fold_mem (f := fun y a => dataLt y a)
theorem maxD_mem {d : D} {ds : List D} : maxD d ds ∈ d :: ds := fold_mem (f := fun y a => dataLt a y)
theorem getV' {K : PySem.W.Frag} {F : Hp} {xs : List V} {ds : List D} {us : List Value} (r : RpL K F xs ds) (rv : Vals xs us) {i : Nat} {u : Value} (h : us.toArray[i]? = some u) : ∃ x d, RelV x u ∧ ds[i]? = some d ∧ Rp K F x d := by
  obtain ⟨x, e, q⟩ := vals_get rv h
  obtain ⟨d, e1, r1⟩ := r.getV e
  exact ⟨x, d, q, e1, r1⟩
section
variable {X : Cx}
theorem cd_min1 (hc : X.calm = true) (hu : X.A.units + 64 < cLine) : CallD X (.builtin "min") dMin1 := calld_of fun pins s σ H xs us Q mg W σ' F ds I rv sm r p => by
  unfold dMin1 at p
  split at p
  · rename_i d ds
    obtain ⟨z, p⟩ := post_if p
    obtain ⟨f1, f2⟩ := flats_lay z.1
    cases r with | cons a b => cases b; cases a with
      | lst q r zz =>
        obtain ⟨vs, as, r1, pl, ra⟩ := rp_list I sm q r f1
        rw [Vals.ref1 rv]
        refine min_list_data (I.ok.hd hc) pl ra (likeB_ok z.2) (by omega) fun i v h' tk bs hv hr hk => ?_
        obtain ⟨x, e, q1, q2, q3⟩ := getV' r r1 hv
        obtain ⟨cs, rc⟩ := rp_reads I sm q3 (lay_mem f1 (List.mem_of_getElem? q2)) q1
        have e1 := SeqAt.readOf_eq (lay_mem f1 (List.mem_of_getElem? q2)) (Reads.keeps hk rc)
        have e2 := SeqAt.readOf_eq (lay_mem f1 minD_mem) hr
        rw [e1] at e2
        subst e2
        exact ⟨x, H, I.kept hk, q1, Post.here sm p q3⟩
  · exact p.elim
theorem cd_max1 (hc : X.calm = true) (hu : X.A.units + 64 < cLine) : CallD X (.builtin "max") dMax1 := calld_of fun pins s σ H xs us Q mg W σ' F ds I rv sm r p => by
  unfold dMax1 at p
  split at p
  · rename_i d ds
    obtain ⟨z, p⟩ := post_if p
    obtain ⟨f1, f2⟩ := flats_lay z.1
    cases r with | cons a b => cases b; cases a with
      | lst q r zz =>
        obtain ⟨vs, as, r1, pl, ra⟩ := rp_list I sm q r f1
        rw [Vals.ref1 rv]
        refine max_list_data (I.ok.hd hc) pl ra (likeB_ok z.2) (by omega) fun i v h' tk bs hv hr hk => ?_
        obtain ⟨x, e, q1, q2, q3⟩ := getV' r r1 hv
        obtain ⟨cs, rc⟩ := rp_reads I sm q3 (lay_mem f1 (List.mem_of_getElem? q2)) q1
        have e1 := SeqAt.readOf_eq (lay_mem f1 (List.mem_of_getElem? q2)) (Reads.keeps hk rc)
        have e2 := SeqAt.readOf_eq (lay_mem f1 maxD_mem) hr
        rw [e1] at e2
        subst e2
        exact ⟨x, H, I.kept hk, q1, Post.here sm p q3⟩
  · exact p.elim
end
/-! ### sorted(xs) -/
def tup1 : D → Bool
  | .tuple (_ :: _) => true
  | _ => false
def notTup : D → Bool
  | .tuple _ => false
  | .none => false
  | _ => true
def sortB (ds : List D) : Bool := ds.all tup1 || ds.all notTup
theorem sortB_ok {ds : List D} (h : sortB ds = true) : PySem.W.Sortable ds := by
  unfold sortB at h
  rw [Bool.or_eq_true, List.all_eq_true, List.all_eq_true] at h
  rcases h with h | h
  · refine .inl fun d hd => ?_
    have q := h d hd
    match d, q with
    | .tuple (x :: r), _ => exact ⟨x, r, rfl⟩
  · refine .inr fun d hd => ?_
    have q := h d hd
    refine ⟨?_, fun xs => ?_⟩
    · rintro rfl; cases q
    · rintro rfl; cases q
/-- data in their order -/
def sortD (ds : List D) : List D := ds.mergeSort (PySem.W.dataLe false id)
def dSorted : List D → R D
  | [.list ds] => if flats ds = true ∧ likeB ds = true ∧ sortB ds = true then .ok (.list (sortD ds)) else .bad
  | _ => .bad
theorem each_zip {K : PySem.W.Frag} {F : Hp} : ∀ {xs : List V} {ds : List D} {us : List Value}, RpL K F xs ds → Vals xs us → PySem.W.EachIs (fun u (p : V × D) => RelV p.1 u ∧ Rp K F p.1 p.2) us (xs.zip ds)
  | _, _, _, .nil, .nil => .nil
  | _, _, _, .cons r rs, .cons q qs => .cons ⟨q, r⟩ (each_zip rs qs)
theorem zip_snd {K : PySem.W.Frag} {F : Hp} : ∀ {xs : List V} {ds : List D}, RpL K F xs ds → (xs.zip ds).map (·.2) = ds
  | _, _, .nil => rfl
  | _, _, .cons r rs => by rw [List.zip_cons_cons, List.map_cons, zip_snd rs]
theorem each_out {K : PySem.W.Frag} {F : Hp} : ∀ {us : List Value} {ps : List (V × D)}, PySem.W.EachIs (fun u (p : V × D) => RelV p.1 u ∧ Rp K F p.1 p.2) us ps → Vals (ps.map (·.1)) us ∧ RpL K F (ps.map (·.1)) (ps.map (·.2))
  | _, _, .nil => ⟨.nil, .nil⟩
  | _, _, .cons h t => ⟨.cons h.1 (each_out t).1, .cons h.2 (each_out t).2⟩
theorem depth_mem {d : D} : ∀ {ds : List D}, d ∈ ds → d.depth ≤ PyData.depthAll ds
  | e :: ds, m => by
    rw [PyData.depthAll]
    rcases List.mem_cons.mp m with rfl | m
    · exact Nat.le_max_left _ _
    · exact Nat.le_trans (depth_mem m) (Nat.le_max_right _ _)
theorem each_reads {X : Cx} {pins : List (Addr × Obj)} {σ : St} {H F : Hp} {s : Shared} (I : Inv X pins σ H s) (sm : Same F H) : ∀ {us : List Value} {ps : List (V × D)}, (∀ p ∈ ps, p.2.canLay0 = true) → PySem.W.EachIs (fun u (p : V × D) => RelV p.1 u ∧ Rp X.K F p.1 p.2) us ps → PySem.W.EachIs (fun v p => ∃ as, Reads s.heap v ((fun p : V × D => p.2) p) as) us ps
  | _, _, _, .nil => .nil
  | _, _, h, .cons q t => .cons (rp_reads I sm q.2 (h _ List.mem_cons_self) q.1) (each_reads I sm (fun p m => h p (List.mem_cons_of_mem _ m)) t)
section
variable {X : Cx}
theorem cd_sorted (hu : X.A.units + 64 < cLine) : CallD X (.builtin "sorted") dSorted := calld_of fun pins s σ H xs us Q mg W σ' F ds I rv sm r p => by
  unfold dSorted at p
  split at p
  · rename_i ds
    obtain ⟨z, p⟩ := post_if p
    obtain ⟨f1, f2⟩ := flats_lay z.1
    cases r with | cons a b => cases b; cases a with
      | @lst a xs _ q r zz =>
        obtain ⟨vs, as, r1, pl, ra⟩ := rp_list I sm q r f1
        rw [Vals.ref1 rv]
        have ez := each_zip r r1
        have es := zip_snd r
        have mem : ∀ p ∈ xs.zip ds, p.2 ∈ ds := fun p hp => (List.of_mem_zip hp).2
        have al := likeB_ok z.2.1
        refine PySem.W.sorted_data (enc := fun p : V × D => p.2) (bs := xs.zip ds) pl ez (each_reads I sm (fun p hp => lay_mem f1 (mem p hp)) ez) (by rw [es]; exact al.1) (by rw [es]; exact sortB_ok z.2.2) (by rw [List.length_zip, r.length, Nat.min_self]; exact zz)
          (fun p hp => by have := depth_mem (mem p hp); omega) fun out ho hE => ?_
        obtain ⟨c, hat⟩ := sortedAll_at s.heap vs out.toArray
        obtain ⟨v1, v2⟩ := each_out hE
        have e2 : ((xs.zip ds).mergeSort (PySem.W.dataLe false fun p : V × D => p.2)).map (·.2) = sortD ds := by
          have q := List.map_mergeSort (r := PySem.W.dataLe false fun p : V × D => p.2) (s := PySem.W.dataLe false id) (f := fun p : V × D => p.2) (l := xs.zip ds) (fun _ _ _ _ => rfl)
          rw [q, es]; rfl
        rw [e2] at v2
        have hlen : (sortD ds).length = ds.length := by unfold sortD; exact List.length_mergeSort ds
        have hn : H (s.heap.objs.size + 1) = none := I.hok.fresh (Nat.le_succ _)
        refine ⟨.ref _, upd H (s.heap.objs.size + 1) (.lst _), I.laid (t' := s.toks) (fun _ _ q => sortedAll_old q) (Nat.le_succ _) ?_, rfl, p _ _ _ (Ext.new sm hn) (Rp.newL sm hn v2 (by rw [hlen]; exact zz))⟩
        exact ⟨by rw [v2.length, hlen]; exact zz, out, c, v1, hat⟩
  · exact p.elim
end
/-! ### list(range(..)) -/
def lr (r : R (List D)) : R D := r.bind fun ds => if ds.length ≤ 16777216 then .ok (.list ds) else .bad
theorem lr_ok {ds : List D} {mg : Str → Option Value} {W : WX} {σ : St} {K : PySem.W.Frag} {F H : Hp} {Q : VK} (h : Post mg W σ (Rp K) F H (lr (.ok ds)) Q) : ds.length ≤ 16777216 ∧ Post mg W σ (Rp K) F H (.ok (.list ds)) Q := post_if h
theorem rp_upTo {K : PySem.W.Frag} {F : Hp} (a : Int) (n : Nat) : RpL K F ((List.range n).map fun i => V.int (a + (i : Nat))) (DW.upTo a n) := by
  unfold DW.upTo
  induction List.range n with
  | nil => exact .nil
  | cons x xs ih => exact .cons (.int _) ih
section
variable {X : Cx} {W : WX} {a b c : Expr} {f g k : Sls → R D} {pos pos2 p p2 : Pos}
theorem de_lrange1 (hc : X.calm = true) (hg : Gl X "range") (hm : X.mg "range" = none) (hg2 : Gl X "list") (hm2 : X.mg "list" = none) (ha : DE X W a f) (hs : ∀ es, starEach (a :: es) X.env = (false, eval a X.env) :: starEach es X.env) :
    DE X W (.Call (.Name "list" p2) [.Call (.Name "range" p) [a] [] pos] [] pos2) (fun δ => lr ((f δ).bind range1)) := by
  obtain ⟨ta, pa, ha⟩ := ha
  refine ⟨_, pe_listRg hc hg2 hm2 (prg_1 hg hm pa (hs _)) rfl, fun σ F H δ Q rs h => ?_⟩
  have h : Post X.mg W σ (Rp X.K) F H ((f δ).bind fun d => lr (range1 d)) Q := by
    revert h
    show Post X.mg W σ (Rp X.K) F H (lr ((f δ).bind range1)) Q → _
    cases f δ <;> exact fun h => h
  refine ha σ F H δ _ rs (Post.seq h fun x d F1 H1 e1 r1 h1 => ?_)
  cases r1 with
  | int j =>
    have h1 : Post X.mg W σ (Rp X.K) F1 H1 (lr (if small62 j = true then .ok (DW.upTo 0 j.toNat) else .bad)) Q := h1
    by_cases z : small62 j = true
    · rw [if_pos z] at h1
      obtain ⟨l, h1⟩ := lr_ok h1
      rw [upTo_length] at l
      obtain ⟨b1, b2⟩ := small62_iff.mp z
      refine ⟨j, rfl, ⟨by omega, by omega, b1, b2, by omega⟩, fun q hq => ?_⟩
      have e : rgV 0 j = (List.range j.toNat).map fun i => V.int (0 + (i : Nat)) := by unfold rgV; rw [Int.sub_zero]
      rw [e]
      exact h1 _ _ _ (Ext.new e1.fh hq) (Rp.newL e1.fh hq (rp_upTo 0 j.toNat) (by rw [upTo_length, sizeLine_eq]; omega))
    · rw [if_neg z] at h1; exact h1.elim
  | _ => exact h1.elim
theorem de_lrange2 (hc : X.calm = true) (hg : Gl X "range") (hm : X.mg "range" = none) (hg2 : Gl X "list") (hm2 : X.mg "list" = none) (ha : DE X W a f) (hb : DE X W b g) (hs : ∀ es, starEach (a :: es) X.env = (false, eval a X.env) :: starEach es X.env) (hs' : ∀ es, starEach (b :: es) X.env = (false, eval b X.env) :: starEach es X.env) :
    DE X W (.Call (.Name "list" p2) [.Call (.Name "range" p) [a, b] [] pos] [] pos2) (fun δ => lr ((f δ).bind fun x => (g δ).bind fun y => range2 x y)) := by
  obtain ⟨ta, pa, ha⟩ := ha
  obtain ⟨tb, pb, hb⟩ := hb
  refine ⟨_, pe_listRg hc hg2 hm2 (prg_2 hg hm pa pb (hs _) (hs' _) (by rw [hs']; rfl)) rfl, fun σ F H δ Q rs h => ?_⟩
  have h : Post X.mg W σ (Rp X.K) F H ((f δ).bind fun x => (g δ).bind fun y => lr (range2 x y)) Q := by
    revert h
    show Post X.mg W σ (Rp X.K) F H (lr ((f δ).bind fun x => (g δ).bind fun y => range2 x y)) Q → _
    cases f δ <;> first | exact fun h => h | (cases g δ <;> exact fun h => h)
  refine ha σ F H δ _ rs (Post.seq h fun x d F1 H1 e1 r1 h1 => ?_)
  refine hb σ F1 H1 δ _ (rs.ext e1) (Post.seq h1 fun y e F2 H2 e2 r2 h2 => ?_)
  cases r1 with
  | int i => cases r2 with
    | int j =>
      have h2 : Post X.mg W σ (Rp X.K) F2 H2 (lr (if small62 i = true ∧ small62 j = true then .ok (DW.upTo i (j - i).toNat) else .bad)) Q := h2
      by_cases z : small62 i = true ∧ small62 j = true
      · rw [if_pos z] at h2
        obtain ⟨l, h2⟩ := lr_ok h2
        rw [upTo_length] at l
        obtain ⟨b1, b2⟩ := small62_iff.mp z.1
        obtain ⟨b3, b4⟩ := small62_iff.mp z.2
        refine ⟨i, j, rfl, rfl, ⟨b1, b2, b3, b4, by omega⟩, fun q hq => ?_⟩
        exact h2 _ _ _ (Ext.new e2.fh hq) (Rp.newL e2.fh hq (rp_upTo i (j - i).toNat) (by rw [upTo_length, sizeLine_eq]; omega))
      · rw [if_neg z] at h2; exact h2.elim
    | _ => exact h2.elim
  | _ => exact h2.elim
end
end DW
/-! The data layer, part N3: sorted(set(xs)) of ints. -/
namespace DW
open PySem PySem.Spec PyProof.Rows L2
section
variable {P : Program} {w : World} {A : Around} {E : Value → Shared → Prop} {s : Shared}
abbrev set0 (w : World) : Obj := { cls := .type "set", dict := none, data := .set #[] 0 (.fresh 0 0 (!w.params.followText "set-order")) }
/-- T(args), where the init's own check may look at what was made -/
theorem type_made {T nid iid : String} {as : List Value} {Q Q₁ : Value → Shared → Prop} (tc : TypeCalled T nid iid) (hck : checkTypeCall T ⟨as, []⟩ = pure ())
    (hn : codeAny (model P w) A.in1 (.call (.builtin nid) ⟨.type T :: as, []⟩) (wants Q₁ E) s)
    (hx : ∀ ob s₁, Q₁ ob s₁ → s₁.TypeIs ob T ∧ codeAny (model P w) A.in1 (.call (.builtin iid) ⟨ob :: as, []⟩) (wants (fun r s₂ => r = .none ∧ Q ob s₂) E) s₁) :
    wpAny (model P w) A (call (.type T) as) Q E s := by
  obtain ⟨mc, mt, m1⟩ := tc.mro
  have m2 := tc.made
  have m3 := tc.sub
  have m4 := tc.notType
  have m5 := tc.canCreate
  refine wpAny_call (codeAny_of_tree (show wpAny _ _ (callAny (.type T) _) _ _ _ from wpAny_pure ⟨Code.quiet_builtin _ (by decide +kernel), codeAny_builtin F.entry_type_call ?_⟩))
  rw [Around.under_plain (weight_type_call_type T as []) rfl]
  repeat (any_goals (first | assumption | wp_step))
  refine codeAny_mono hn fun res sn hres => ?_
  cases res with
  | error er => exact hres
  | ok fl => cases fl with
    | ret ob =>
      obtain ⟨t1, t2⟩ := hx _ _ hres
      have b1 := tc.init.lookup
      have b2 := tc.init.bind ob
      repeat (any_goals (first | assumption | wp_step))
      refine codeAny_mono t2 fun r2 sm hr2 => ?_
      cases r2 with
      | error er => exact hr2
      | ok f2 => cases f2 with
        | ret v =>
          obtain ⟨rfl, q⟩ := hr2
          repeat (any_goals (first | assumption | wp_step))
        | _ => exact hr2.elim
    | _ => exact hres.elim
theorem set_of_list {l : Addr} {us : Array Value} (ns : List Int) {Q : Value → Shared → Prop} (hh : A.handled = none) (hl : s.heap.IsList l us) (hi : IntsAre us.toList ns) (hb : ns.length + 1 < scanBound)
    (h : ∀ (h' : Heap) (tk c : Nat), SetR w h' s.heap.objs.size (fun j => decide (j ∈ ns)) c → c ≤ ns.length → (∀ b o, s.heap.get? b = some o → h'.get? b = some o) → Q (.ref s.heap.objs.size) { s with heap := h', toks := tk }) :
    wpAny (model P w) A (call (.type "set") [.ref l]) Q E s := by
  refine type_made (Q₁ := fun ob s₁ => ob = .ref s.heap.objs.size ∧ s₁ = { s with heap := s.heap.push (set0 w) }) F.called_set (F.typeCall_set_1 _) (code_set_led1 _ ⟨rfl, rfl⟩) fun ob s₁ h₁ => ?_
  obtain ⟨rfl, rfl⟩ := h₁
  have gS : (s.heap.push (set0 w)).get? s.heap.objs.size = some (set0 w) := Heap.get?_push_size _ rfl
  have hT : Shared.TypeIs { s with heap := s.heap.push (set0 w) } (.ref s.heap.objs.size) "set" := ⟨_, gS, rfl⟩
  refine ⟨hT, codeAny_call_builtin F.called_set.init.plain F.entry_set_init (check_set_init_1 hT ?_)⟩
  have hz : us.size = ns.length := by rw [← Array.length_toList]; exact hi.length
  have hl0 := hl
  obtain ⟨⟨oc, od, ot, os⟩, go, ec, nn, ed⟩ := hl
  simp only at ec ed
  subst ec ed
  have gl : (s.heap.push (set0 w)).get? l = some { cls := .type "list", dict := od, data := .seq us nn, slots := os } := Heap.get?_push_of_some _ go
  have hl1 : (s.heap.push (set0 w)).IsList l us := hl0.at fun o e => Heap.get?_push_of_some _ e
  have h1 := F.sub_list_set
  have h2 := F.sub_list_frozenset
  have h3 : (Value.type "list" == Value.type "dict") = false := by decide
  unfold Builtin.«set.__init__» noKeywords Builtin.Frozenset.updateFrom
  generalize hPI : pyIter = PI
  wp_walk
  subst hPI
  refine wpAny_pyIter_list hl1 ?_
  refine wpAny_bind (wpAny_runValue ?_)
  have hlt : l < s.heap.objs.size := Heap.lt_size go
  have ez : (s.heap.push (set0 w)).objs.size = s.heap.objs.size + 1 := Heap.size_push ..
  have hA : A.in1.in1.in1.handled = none := by simp [hh]
  have nI : l ≠ (s.heap.push (set0 w)).objs.size := by rw [ez]; exact Nat.ne_of_lt (Nat.lt_succ_of_lt hlt)
  have vl : ∀ (i : Nat) (v : Value), us[i]? = some v → ∃ k t, ns[i]? = some k ∧ v = .int k t := fun i v hv => by
    have hx : i < ns.length := by rw [← hz]; exact (Array.getElem?_eq_some_iff.mp hv).1
    obtain ⟨t, e⟩ := PyProof.Rows.IntsAre.int_at hi i v (by rw [Array.getElem?_toList]; exact hv)
    refine ⟨ns[i], t, List.getElem?_eq_getElem hx, ?_⟩
    rw [e, List.getD_eq_getElem?_getD, List.getElem?_eq_getElem hx]; rfl
  refine set_update_ints ((Walks.list hA _ l nI us).toS) s.heap.objs.size ?_ ns hz hb vl us.size 0 _ (Nat.sub_zero _) (Nat.zero_le _) ⟨⟨_, Heap.get?_push_size _ rfl, rfl, rfl⟩, hl1.at fun o e => Heap.get?_push_of_some _ e⟩ ⟨0, Nat.le_refl 0, setR_new_at (Heap.get?_push_of_some _ gS)⟩ ?_
  · intro hm
    have hm : s.heap.objs.size = (s.heap.push (set0 w)).objs.size ∨ s.heap.objs.size = l := by simpa using hm
    rw [ez] at hm
    rcases hm with e | e
    · exact absurd e (Nat.ne_of_lt (Nat.lt_succ_self _))
    · exact absurd e (Nat.ne_of_gt hlt)
  · intro s' c' mv hc hS
    obtain ⟨h', g2, d2, tk2, os2⟩ := s'
    obtain rfl : g2 = s.gens := mv.gens
    obtain rfl : d2 = s.drawn := mv.drawn
    obtain rfl : os2 = s.os := mv.os
    refine wpAny_pure (wpAny_pure ⟨rfl, h h' tk2 c' hS (by rw [← hz]; exact hc) fun b o e => ?_⟩)
    have hb0 : b < s.heap.objs.size := Heap.lt_size e
    refine mv.heap b o (fun hm => ?_) (Heap.get?_push_of_some _ (Heap.get?_push_of_some _ e))
    have hm : b = s.heap.objs.size ∨ b = (s.heap.push (set0 w)).objs.size := by simpa using hm
    rw [ez] at hm
    rcases hm with e | e
    · exact absurd e (Nat.ne_of_lt hb0)
    · exact absurd e (Nat.ne_of_lt (Nat.lt_succ_of_lt hb0))
end
/-- in order, each once -/
def insU (x : Int) : List Int → List Int
  | [] => [x]
  | y :: ys => if x < y then x :: y :: ys else if x = y then y :: ys else y :: insU x ys
def sortU (ns : List Int) : List Int := ns.foldr insU []
theorem insU_mem (x k : Int) : ∀ ys : List Int, k ∈ insU x ys ↔ k = x ∨ k ∈ ys
  | [] => by simp [insU]
  | y :: ys => by
    rw [insU]
    split
    · simp
    · split
      · rename_i h; subst h; simp
      · simp only [List.mem_cons, insU_mem x k ys]
        constructor
        · rintro (h | h | h)
          · exact .inr (.inl h)
          · exact .inl h
          · exact .inr (.inr h)
        · rintro (h | h | h)
          · exact .inr (.inl h)
          · exact .inl h
          · exact .inr (.inr h)
theorem insU_rise (x : Int) : ∀ {ys : List Int}, ys.Pairwise (· < ·) → (insU x ys).Pairwise (· < ·)
  | [], _ => by simp [insU]
  | y :: ys, h => by
    obtain ⟨h1, h2⟩ := List.pairwise_cons.mp h
    rw [insU]
    split
    · rename_i hx
      refine List.pairwise_cons.mpr ⟨fun z hz => ?_, h⟩
      rcases List.mem_cons.mp hz with rfl | hz
      · exact hx
      · exact Int.lt_trans hx (h1 z hz)
    · split
      · exact h
      · refine List.pairwise_cons.mpr ⟨fun z hz => ?_, insU_rise x h2⟩
        rcases (insU_mem x z ys).mp hz with rfl | hz
        · omega
        · exact h1 z hz
theorem sortU_rise : ∀ ns : List Int, (sortU ns).Pairwise (· < ·)
  | [] => .nil
  | n :: ns => insU_rise n (sortU_rise ns)
theorem sortU_mem (k : Int) : ∀ ns : List Int, k ∈ sortU ns ↔ k ∈ ns
  | [] => by simp [sortU]
  | n :: ns => by
    show k ∈ insU n (sortU ns) ↔ _
    rw [insU_mem, sortU_mem k ns, List.mem_cons]
theorem rise_one : ∀ {xs ys : List Int}, xs.Pairwise (· < ·) → ys.Pairwise (· < ·) → (∀ k, k ∈ xs ↔ k ∈ ys) → xs = ys
  | [], [], _, _, _ => rfl
  | [], y :: ys, _, _, h => absurd ((h y).mpr List.mem_cons_self) (by simp)
  | x :: xs, [], _, _, h => absurd ((h x).mp List.mem_cons_self) (by simp)
  | x :: xs, y :: ys, hx, hy, h => by
    obtain ⟨a1, a2⟩ := List.pairwise_cons.mp hx
    obtain ⟨b1, b2⟩ := List.pairwise_cons.mp hy
    have e : x = y := by
      rcases List.mem_cons.mp ((h x).mp List.mem_cons_self) with e | e
      · exact e
      · rcases List.mem_cons.mp ((h y).mpr List.mem_cons_self) with e' | e'
        · exact e'.symm
        · have := a1 y e'
          have := b1 x e
          omega
    subst e
    rw [rise_one a2 b2 fun k => ⟨fun hk => ?_, fun hk => ?_⟩]
    · rcases List.mem_cons.mp ((h k).mp (List.mem_cons_of_mem _ hk)) with e | e
      · have := a1 k hk; omega
      · exact e
    · rcases List.mem_cons.mp ((h k).mpr (List.mem_cons_of_mem _ hk)) with e | e
      · have := b1 k hk; omega
      · exact e
def dSset (d : D) : R D := match d with
  | .list ds => match intsOf ds with
    | some ns => if ns.length ≤ 1000 ∧ (sortU ns).length < 64 then .ok (.list ((sortU ns).map .int)) else .bad
    | none => .bad
  | _ => .bad
theorem insU_len (x : Int) : ∀ ys : List Int, (insU x ys).length ≤ ys.length + 1
  | [] => by simp [insU]
  | y :: ys => by
    rw [insU]
    have := insU_len x ys
    split
    · simp
    · split
      · simp
      · simp only [List.length_cons]; omega
theorem sortU_len : ∀ ns : List Int, (sortU ns).length ≤ ns.length
  | [] => Nat.le_refl _
  | n :: ns => by
    have h1 := sortU_len ns
    have h2 := insU_len n (sortU ns)
    show (insU n (sortU ns)).length ≤ ns.length + 1
    omega
section
variable {X : Cx} {W : WX} {a : Expr} {f : Sls → R D} {p p2 pos pos2 : Pos}
def tSset (K : PySem.W.Frag) (ta : TE) : TE := fun σ H Q => ta σ H fun x H1 => ∃ (l : Addr) (ns : List Int), x = .ref l ∧ SqL K H1 l (ns.map V.int) ∧ (ns.length ≤ 1000 ∧ (sortU ns).length < 64) ∧ ∀ q, H1 q = none → Q (.ref q) (upd H1 q (.lst ((sortU ns).map V.int)))
theorem pe_sset {ta : TE} (hc : X.calm = true) (hg : Gl X "set") (hm : X.mg "set" = none) (hg2 : Gl X "sorted") (hm2 : X.mg "sorted" = none) (ha : PE X a ta) (hs : starEach [a] X.env = (false, eval a X.env) :: starEach [] X.env) :
    PE X (.Call (.Name "sorted" p2) [.Call (.Name "set" p) [a] [] pos] [] pos2) (tSset X.K ta) := by
  refine ⟨fun pins s σ H Q I h => ?_⟩
  refine Call_ (ld_blt I hg2 hm2 (show bootBuiltins "sorted" = some (.builtin "sorted") by decide +kernel) ?_)
  refine PyProof.Rows.callWith_builtin1 (PyProof.Rows.args_cons ?_ rfl) rfl rfl
  refine Call_ (ld_blt I hg hm boot_set ?_)
  refine PyProof.Rows.callWith_type1 (PyProof.Rows.args_cons (thn (ha.run pins s σ H _ I h) fun v s1 ⟨x, H1, I1, r1, q1⟩ => PyProof.Rows.args_nil ?_) hs) hs rfl
  obtain ⟨l, ns, rfl, hq, hl, q1⟩ := q1
  cases r1
  obtain ⟨its, r, pl, hz⟩ := I1.list hq
  refine set_of_list ns (I1.ok.hd hc) pl.isList r.ints (by unfold scanBound; omega) fun h' tk c hS hcl hk => ?_
  refine PyProof.Rows.args_nil ?_
  have I2 : Inv X pins σ H1 { s1 with heap := h', toks := tk } := I1.kept hk
  have card : c = (sortU ns).length := by
    obtain ⟨o, es, ep, t, _, _, _, _, nd, hm, _, _, hn, _, _⟩ := hS
    have nd2 : (sortU ns).Nodup := (sortU_rise ns).imp fun {a b} hab => by omega
    have pm := (List.perm_ext_iff_of_nodup nd nd2).mpr fun k => by rw [← hm k, sortU_mem]; simp
    have := pm.length_eq
    rw [List.length_map, Array.length_toList, hn] at this
    exact this
  refine sorted_set (s := { s1 with heap := h', toks := tk }) hS (I1.ok.hd hc) (by omega) fun s' q out cc ms k g o hp hg' hi hr hmem hlen => ?_
  have em : ms = sortU ns := rise_one hr (sortU_rise ns) fun k => by rw [hmem k, sortU_mem]; simp
  have hn : H1 q = none := I2.hok.fresh hp
  have ln := sortU_len ns
  have J : Inv X pins σ (upd H1 q (.lst (ms.map V.int))) { s1 with heap := s'.heap, gens := s'.gens, drawn := s'.drawn, toks := s'.toks } :=
    Inv.call (s := { s1 with heap := h', toks := tk }) (g' := s'.gens) (d' := s'.drawn) (t' := s'.toks) (h' := s'.heap) (ch := []) I2 (Un.laid k hp hn) (I2.hok.laid k hp ⟨by rw [List.length_map, em, sizeLine_eq]; omega, out.toList, cc, vals_of_ints hi, hg'⟩) (by rw [g]; exact I2.bare) (fun _ z => nomatch z)
  obtain ⟨sh, sg, sd, st, so⟩ := s'
  obtain rfl : so = s1.os := o
  subst em
  exact ⟨.ref q, _, J, rfl, q1 q hn⟩
theorem rpl_ints {K : PySem.W.Frag} {F : Hp} : ∀ ns : List Int, RpL K F (ns.map V.int) (ns.map PyData.int)
  | [] => .nil
  | n :: ns => .cons (.int n) (rpl_ints ns)
theorem de_sset (hc : X.calm = true) (hg : Gl X "set") (hm : X.mg "set" = none) (hg2 : Gl X "sorted") (hm2 : X.mg "sorted" = none) (ha : DE X W a f) (hs : ∀ es, starEach (a :: es) X.env = (false, eval a X.env) :: starEach es X.env) :
    DE X W (.Call (.Name "sorted" p2) [.Call (.Name "set" p) [a] [] pos] [] pos2) (fun δ => (f δ).bind dSset) := by
  obtain ⟨ta, pa, ha⟩ := ha
  refine ⟨_, pe_sset hc hg hm hg2 hm2 pa (hs _), fun σ F H δ Q rs h => ?_⟩
  refine ha σ F H δ _ rs (Post.seq h fun x d F1 H1 e1 r1 h1 => ?_)
  cases r1 with
  | @lst l xs ds q r z =>
    have h1 : Post X.mg W σ (Rp X.K) F1 H1 (match intsOf ds with
      | some ns => if ns.length ≤ 1000 ∧ (sortU ns).length < 64 then .ok (.list ((sortU ns).map .int)) else .bad
      | none => .bad) Q := h1
    cases e : intsOf ds with
    | none => rw [e] at h1; exact h1.elim
    | some ns =>
      rw [e] at h1
      have e2 := ints_rp r e
      subst e2
      obtain ⟨zl, h1⟩ := post_if h1
      have ln := sortU_len ns
      exact ⟨l, ns, rfl, SqL.of (e1.fh _ _ q), zl, fun p hp => h1 _ _ _ (Ext.new e1.fh hp) (Rp.newL e1.fh hp (rpl_ints _) (by rw [List.length_map, sizeLine_eq]; omega))⟩
  | _ => exact h1.elim
end
end DW
/-! The data layer, part N4: x.m(y). -/
namespace DW
open PySem PySem.Spec PyProof.Rows L2
def strsOf : List D → Option (List Str)
  | [] => some []
  | .str b :: ds => (strsOf ds).map (b :: ·)
  | _ :: _ => none
theorem strs_rp {K : PySem.W.Frag} {F : Hp} : ∀ {xs : List V} {ds : List D} {bs : List Str}, RpL K F xs ds → strsOf ds = some bs → xs = bs.map V.str
  | _, _, _, .nil, h => by cases h; rfl
  | _, _, bs, .cons a b, h => by
    cases a with
    | str c =>
      rw [strsOf, Option.map_eq_some_iff] at h
      obtain ⟨cs, h1, rfl⟩ := h
      rw [strs_rp b h1]; rfl
    | _ => cases h
theorem rpl_strs {K : PySem.W.Frag} {F : Hp} : ∀ ns : List Str, RpL K F (ns.map V.str) (ns.map PyData.str)
  | [] => .nil
  | n :: ns => .cons (.str n) (rpl_strs ns)
def dCount : D → D → R D
  | .list ds, .int k => match intsOf ds with
    | some ns => .ok (.int (ns.count k : Nat))
    | none => .bad
  | _, _ => .bad
def dIndex : D → D → R D
  | .list ds, .int k => match intsOf ds with
    | some ns => if k ∈ ns then .ok (.int (ns.idxOf k : Nat)) else .bad
    | none => .bad
  | _, _ => .bad
def dJoin : D → D → R D
  | .str a, .list ds => match strsOf ds with
    | some ys => if (ys.map (·.length)).sum + ys.length * a.length ≤ 16777216 then .ok (.str (Txt.join a ys)) else .bad
    | none => .bad
  | _, _ => .bad
def dSplit : D → D → R D
  | .str a, .str b => if (b.length == 0) = false ∧ a.length + 2 ≤ sizeLine ∧ (Txt.split a b).length ≤ sizeLine then .ok (.list ((Txt.split a b).map .str)) else .bad
  | _, _ => .bad
/-- a method keeps it -/
def MthD (X : Cx) (T : String) (id : String) (g : D → D → R D) : Prop := ∃ r : V → List V → Hp → VK → Prop, MtR X id r ∧
  ∀ (mg : Str → Option Value) (W : WX) (σ : St) (F H : Hp) (x y : V) (d e : D) (Q : VK), Same F H → Rp X.K F x d → Rp X.K F y e → Post mg W σ (Rp X.K) F H (g d e) Q → r x [y] H Q
section
variable {X : Cx}
theorem md_count : MthD X "list" "list.count" dCount := ⟨_, mt_lcount, fun mg W σ F H x y d e Q sm r1 r2 p => by
  unfold dCount at p
  split at p
  · rename_i ds k
    split at p
    · rename_i ns en
      cases r2
      cases r1 with
      | lst q r z =>
        have e2 := ints_rp r en
        subst e2
        exact ⟨_, ns, k, rfl, rfl, SqL.of (sm _ _ q), Post.here sm p (.int _)⟩
    · exact p.elim
  · exact p.elim⟩
theorem md_index : MthD X "list" "list.index" dIndex := ⟨_, mt_index, fun mg W σ F H x y d e Q sm r1 r2 p => by
  unfold dIndex at p
  split at p
  · rename_i ds k
    split at p
    · rename_i ns en
      obtain ⟨hm, p⟩ := post_if p
      cases r2
      cases r1 with
      | lst q r z =>
        have e2 := ints_rp r en
        subst e2
        have hlt := List.idxOf_lt_length_iff.mpr hm
        refine ⟨_, _, _, ns.idxOf k, V.int k, rfl, rfl, SqL.of (sm _ _ q), rfl, ?_, ?_, ?_, ?_, Post.here sm p (.int _)⟩
        · rw [List.all_map]; exact List.all_eq_true.mpr fun _ _ => rfl
        · rw [List.getElem?_map, List.getElem?_eq_getElem hlt, List.getElem_idxOf hlt]; rfl
        · simp [eqV]
        · intro m z' hm' hz
          rw [List.getElem?_map] at hz
          cases hx : ns[m]? with
          | none => rw [hx] at hz; cases hz
          | some i =>
          rw [hx] at hz
          cases hz
          have := List.not_of_lt_findIdx (p := (· == k)) (xs := ns) hm'
          obtain ⟨hml, he⟩ := List.getElem?_eq_some_iff.mp hx
          have hne : i ≠ k := by
            intro e
            rw [he] at this
            simp [e] at this
          simp [eqV, hne]
    · exact p.elim
  · exact p.elim⟩
theorem md_join : MthD X "str" "str.join" dJoin := ⟨_, mt_join, fun mg W σ F H x y d e Q sm r1 r2 p => by
  unfold dJoin at p
  split at p
  · rename_i a ds
    split at p
    · rename_i ys en
      obtain ⟨hz, p⟩ := post_if p
      cases r1
      cases r2 with
      | lst q r z =>
        have e2 := strs_rp r en
        subst e2
        exact ⟨a, _, ys, rfl, rfl, .inl (SqL.of (sm _ _ q)), hz, Post.here sm p (.str _)⟩
    · exact p.elim
  · exact p.elim⟩
theorem md_split : MthD X "str" "str.split" dSplit := ⟨_, mt_split, fun mg W σ F H x y d e Q sm r1 r2 p => by
  unfold dSplit at p
  split at p
  · rename_i a b
    obtain ⟨⟨h1, h2, h3⟩, p⟩ := post_if p
    cases r1
    cases r2
    exact ⟨a, b, rfl, rfl, h1, h2, fun p0 hp => p _ _ _ (Ext.new sm hp) (Rp.newL sm hp (rpl_strs _) (by rw [List.length_map]; exact h3))⟩
  · exact p.elim⟩
end
/-! ### count, index of any plain data -/
theorem mthd_of {X : Cx} {T id : String} {g : D → D → R D}
    (h : ∀ (pins : List (Addr × Obj)) (s : Shared) (σ : St) (H : Hp) (x y : V) (v u : Value) (Q : VK) (mg : Str → Option Value) (W : WX) (σ' : St) (F : Hp) (d e : D), Inv X pins σ H s → RelV x v → RelV y u → Same F H → Rp X.K F x d → Rp X.K F y e →
      Post mg W σ' (Rp X.K) F H (g d e) Q → wpAny (model X.prog X.w) X.A (call (.builtin id) [v, u]) (EP X pins σ Q) X.xe s) : MthD X T id g := by
  refine ⟨fun x ys H Q => ∃ y mg W σ' F d e, ys = [y] ∧ Same F H ∧ Rp X.K F x d ∧ Rp X.K F y e ∧ Post mg W σ' (Rp X.K) F H (g d e) Q, ?_, fun mg W σ F H x y d e Q s r1 r2 p => ⟨y, mg, W, σ, F, d, e, rfl, s, r1, r2, p⟩⟩
  intro pins s σ H x ys v us Q I rx rys ⟨y, mg, W, σ', F, d, e, ey, sm, r1, r2, p⟩
  subst ey
  obtain ⟨u, rfl, ru⟩ := rys.one
  exact h pins s σ H x y v u Q mg W σ' F d e I rx ru sm r1 r2 p
def dCountD : D → D → R D
  | .list ds, d => if flats ds = true ∧ flat d = true ∧ PyData.plainAll ds = true ∧ d.plain = true then .ok (.int ((ds.countP fun y => PyData.eqv y d : Nat) : Int)) else .bad
  | _, _ => .bad
def dIndexD : D → D → R D
  | .list ds, d => if flats ds = true ∧ flat d = true then match ds.findIdx? (fun y => PyData.eqv y d) with
    | some j => .ok (.int (j : Nat))
    | none => .bad
    else .bad
  | _, _ => .bad
theorem md_countD {X : Cx} (hu : X.A.units + 64 < cLine) : MthD X "list" "list.count" dCountD := mthd_of fun pins s σ H x y v u Q mg W σ' F d e I rx ry sm r1 r2 p => by
  unfold dCountD at p
  split at p
  · rename_i ds
    obtain ⟨⟨z1, z2, z3, z4⟩, p⟩ := post_if p
    obtain ⟨f1, f2⟩ := flats_lay z1
    obtain ⟨f3, f4⟩ := flat_lay z2
    cases r1 with
    | lst q r z =>
      cases rx
      obtain ⟨us, as, rv, il, ra⟩ := rp_list I sm q r f1
      obtain ⟨bs, rb⟩ := rp_reads I sm r2 f3 ry
      exact SeqAt.count_list_data il (by rw [List.toList_toArray]; exact ra) rb z3 z4 (by omega) ⟨.int _, H, I.tok _, ⟨_, rfl⟩, Post.here sm p (.int _)⟩
  · exact p.elim
theorem sh_flats {ds : List D} (h : flats ds = true) : SeqAt.shaped (.list ds : D) = true := by
  obtain ⟨f1, f2⟩ := flats_lay h
  unfold SeqAt.shaped
  rw [PyData.canLay0, f1, PyData.depth, Bool.true_and, decide_eq_true_eq]
  omega
theorem sh_flat {d : D} (h : flat d = true) : SeqAt.shaped d = true := by
  obtain ⟨f1, f2⟩ := flat_lay h
  unfold SeqAt.shaped
  rw [f1, Bool.true_and, decide_eq_true_eq]
  omega
theorem md_indexD {X : Cx} (hu : X.A.units + 65 < cLine) : MthD X "list" "list.index" dIndexD := ⟨_, mt_indexD hu, fun mg W σ F H x y d e Q sm r1 r2 p => by
  unfold dIndexD at p
  split at p
  · rename_i ds
    obtain ⟨⟨z1, z2⟩, p⟩ := post_if p
    obtain ⟨f1, f2⟩ := flats_lay z1
    obtain ⟨f3, f4⟩ := flat_lay z2
    split at p
    · rename_i j ej
      obtain ⟨hj, h1, h2⟩ := List.findIdx?_eq_some_iff_getElem.mp ej
      cases r1 with
      | lst q r z =>
        refine ⟨_, y, e, ds, j, ds[j], rfl, rfl, ((Rp.lst q r z).mono sm).dp (d := .list ds) f1, (r2.mono sm).dp f3, sh_flats z1, sh_flat z2, List.getElem?_eq_getElem hj, h1, fun m z' hm hz => ?_, Post.here sm p (.int _)⟩
        have hml : m < ds.length := by omega
        rw [List.getElem?_eq_getElem hml] at hz
        cases hz
        have := h2 m hm
        simpa using this
    · exact p.elim
  · exact p.elim⟩
/-- methods by their names -/
inductive Mth where | count | index | join | split | countD | indexD
def Mth.nm : Mth → Str
  | .count => "count" | .index => "index" | .join => "join" | .split => "split" | .countD => "count" | .indexD => "index"
def Mth.ty : Mth → String
  | .count => "list" | .index => "list" | .join => "str" | .split => "str" | .countD => "list" | .indexD => "list"
def Mth.id : Mth → String
  | .count => "list.count" | .index => "list.index" | .join => "str.join" | .split => "str.split" | .countD => "list.count" | .indexD => "list.index"
def Mth.fn : Mth → D → D → R D
  | .count => dCount | .index => dIndex | .join => dJoin | .split => dSplit | .countD => dCountD | .indexD => dIndexD
def Mth.on : Mth → D → Bool
  | .count, .list _ => true | .index, .list _ => true | .countD, .list _ => true | .indexD, .list _ => true | .join, .str _ => true | .split, .str _ => true | _, _ => false
theorem Mth.keeps {X : Cx} (hu : X.A.units + 65 < cLine) (m : Mth) : MthD X m.ty m.id m.fn := by
  cases m
  · exact md_count
  · exact md_index
  · exact md_join
  · exact md_split
  · exact md_countD (by omega)
  · exact md_indexD hu
theorem Mth.pa (m : Mth) : PlainAttrs m.ty := by
  cases m
  · exact PySem.F.plainAttrs_list
  · exact PySem.F.plainAttrs_list
  · exact PySem.F.plainAttrs_str
  · exact PySem.F.plainAttrs_str
  · exact PySem.F.plainAttrs_list
  · exact PySem.F.plainAttrs_list
theorem Mth.slot (m : Mth) : Slot m.ty m.nm m.id := by
  cases m
  · exact PySem.F.slot_list_count
  · exact PySem.F.slot_list_index
  · exact PySem.F.slot_str_join
  · exact PySem.F.slot_str_split
  · exact PySem.F.slot_list_count
  · exact PySem.F.slot_list_index
theorem Mth.of (m : Mth) : typeOf (.builtin m.id) = pure (.type "method_descriptor") := by
  cases m
  · exact PySem.F.type_list_count
  · exact PySem.F.type_list_index
  · exact PySem.F.type_str_join
  · exact PySem.F.type_str_split
  · exact PySem.F.type_list_count
  · exact PySem.F.type_list_index
theorem Mth.tyOk {K : PySem.W.Frag} {F H : Hp} {m : Mth} {x : V} {d : D} (sm : Same F H) (r : Rp K F x d) (h : m.on d = true) : tyV K m.ty x H := by
  cases m <;> cases d <;> first
    | exact Bool.noConfusion h
    | (cases r; exact rfl)
    | (cases r with | lst q r z => exact .inl ⟨rfl, _, SqL.of (sm _ _ q)⟩)
theorem de_meth {X : Cx} {W : WX} {a b : Expr} {f g : Sls → R D} {apos pos : Pos} (hu : X.A.units + 65 < cLine) (m : Mth) (ha : DE X W a f) (hb : DE X W b g) (hbase : attributeBase a m.nm X.env (eval a X.env) = eval a X.env) (hl : (apos.endLine == pos.line) = true)
    (hs : ∀ es, starEach (b :: es) X.env = (false, eval b X.env) :: starEach es X.env) :
    DE X W (.Call (.Attribute a m.nm apos) [b] [] pos) (fun δ => (f δ).bind fun x => if m.on x = true then (g δ).bind fun y => m.fn x y else .bad) := by
  obtain ⟨ta, pa, ha⟩ := ha
  obtain ⟨tb, pb, hb⟩ := hb
  obtain ⟨r, mt, mk⟩ := m.keeps hu
  refine ⟨_, pe_bm m.pa m.slot m.of mt pa (pa_cons pb pa_nil (hs _)) hbase ?_ hl (hs _) rfl, fun σ F H δ Q rs h => ?_⟩
  · rw [hs]; rfl
  refine ha σ F H δ _ rs (Post.seq h fun x d F1 H1 e1 r1 h1 => ?_)
  obtain ⟨on, h1⟩ := post_if h1
  refine ⟨m.tyOk e1.fh r1 on, ?_⟩
  refine hb σ F1 H1 δ _ (rs.ext e1) (Post.seq h1 fun y d2 F2 H2 e2 r2 h2 => ?_)
  exact mk _ _ _ _ _ _ _ _ _ _ e2.fh (r1.mono e2.ff) r2 h2
end DW
/-! The data layer, part N5: dicts, list(range(a, b, c)). -/
namespace DW
open PySem PySem.Spec PyProof.Rows L2
def keyOf : D → Option Key
  | .int i => some (.inl i)
  | .str x => some (.inr x)
  | _ => none
theorem keyOf_kD (k : Key) : keyOf (kD k) = some k := by cases k <;> rfl
def valD (kvs : List (D × D)) (k : Key) : Option D := (kvs.find? fun kv => decide (keyOf kv.1 = some k)).map (·.2)
def putD (kvs : List (D × D)) (k : Key) (v : D) : List (D × D) :=
  if (kvs.any fun kv => decide (keyOf kv.1 = some k)) = true then kvs.map (fun kv => if keyOf kv.1 = some k then (kv.1, v) else kv) else kvs ++ [(kD k, v)]
def okK (kvs : List (D × D)) : Bool := kvs.all fun kv => (keyOf kv.1).isSome
section
variable {K : PySem.W.Frag} {F H : Hp}
theorem rp_key {v : V} {d : D} {k : Key} (r : Rp K F v d) (h : keyOf d = some k) : v = kV k ∧ d = kD k := by
  cases r <;> cases h <;> exact ⟨rfl, rfl⟩
theorem rpk_ok : ∀ {vs : List (Key × V)} {ds : List (D × D)}, RpK K F vs ds → okK ds = true
  | _, _, .nil => rfl
  | _, _, .cons (k := k) a b => by
    unfold okK
    rw [List.all_cons, keyOf_kD]
    exact rpk_ok b
theorem rpk_val {k : Key} : ∀ {vs : List (Key × V)} {ds : List (D × D)}, RpK K F vs ds → (∃ v d, valV vs k = some v ∧ valD ds k = some d ∧ Rp K F v d) ∨ (valV vs k = none ∧ valD ds k = none)
  | _, _, .nil => .inr ⟨rfl, rfl⟩
  | _, _, .cons (k := j) (v := v) (kvs := vs) (d := d) (ds := ds) a b => by
    by_cases e : j = k
    · subst e
      refine .inl ⟨v, d, valV_pos rfl, ?_, a⟩
      unfold valD
      rw [List.find?_cons_of_pos (by simp [keyOf_kD])]; rfl
    · have e2 : valD ((kD j, d) :: ds) k = valD ds k := by
        unfold valD
        rw [List.find?_cons_of_neg (by simp [keyOf_kD, e])]
      rw [valV_neg e, e2]
      exact rpk_val b
theorem rpk_any {k : Key} : ∀ {vs : List (Key × V)} {ds : List (D × D)}, RpK K F vs ds → (vs.any fun kv => decide (kv.1 = k)) = ds.any fun kv => decide (keyOf kv.1 = some k)
  | _, _, .nil => rfl
  | _, _, .cons (k := j) a b => by
    rw [List.any_cons, List.any_cons, rpk_any b, keyOf_kD]
    simp
theorem rpk_map {k : Key} {x : V} {y : D} (r : Rp K F x y) : ∀ {vs : List (Key × V)} {ds : List (D × D)}, RpK K F vs ds → RpK K F (vs.map fun kv => if kv.1 = k then (kv.1, x) else kv) (ds.map fun kv => if keyOf kv.1 = some k then (kv.1, y) else kv)
  | _, _, .nil => .nil
  | _, _, .cons (k := j) (v := v) (d := d) a b => by
    rw [List.map_cons, List.map_cons]
    by_cases e : j = k
    · rw [if_pos e, if_pos (by rw [keyOf_kD, e])]
      exact .cons r (rpk_map r b)
    · rw [if_neg e, if_neg (by rw [keyOf_kD]; simpa using e)]
      exact .cons a (rpk_map r b)
theorem rpk_snoc {k : Key} {x : V} {y : D} (r : Rp K F x y) : ∀ {vs : List (Key × V)} {ds : List (D × D)}, RpK K F vs ds → RpK K F (vs ++ [(k, x)]) (ds ++ [(kD k, y)])
  | _, _, .nil => .cons r .nil
  | _, _, .cons a b => .cons a (rpk_snoc r b)
theorem rpk_put {k : Key} {x : V} {y : D} (r : Rp K F x y) {vs : List (Key × V)} {ds : List (D × D)} (h : RpK K F vs ds) : RpK K F (putK vs k x) (putD ds k y) := by
  unfold putK putD
  rw [rpk_any h]
  split
  · exact rpk_map r h
  · exact rpk_snoc r h
theorem rpk_len : ∀ {vs : List (Key × V)} {ds : List (D × D)}, RpK K F vs ds → vs.length = ds.length
  | _, _, .nil => rfl
  | _, _, .cons a b => by rw [List.length_cons, List.length_cons, rpk_len b]
end
/-! ### in -/
def dIn2 (x y : D) : R D := match y with
  | .dict kvs => match keyOf x with
    | some k => if okK kvs = true then .ok (.bool (valD kvs k).isSome) else .bad
    | none => .bad
  | y => dIn x y
theorem not_scr {ns : List Int} : okK ((.none, .none) :: ns.map fun i => ((.int i : D), (.none : D))) = false := rfl
section
variable {X : Cx}
theorem od_in2 (hu : X.A.units + 64 < cLine) : OpD X (compareOp .In) dIn2 := opd_of fun pins s σ H x y v u Q mg W σ' F d e I rx ry sm r1 r2 p => by
  unfold dIn2 at p
  split at p
  · rename_i kvs
    split at p
    · rename_i k ek
      obtain ⟨z, p⟩ := post_if p
      obtain ⟨e1, e2⟩ := rp_key r1 ek
      subst e1 e2
      cases r2 with
      | dct q r zz =>
        cases ry
        rcases rpk_val (k := k) r with ⟨v, d, h1, h2, _⟩ | ⟨h1, h2⟩
        · refine d_in (by omega) I (DGet.k (sm _ _ q)) rx fun s' I' => ⟨.bl true, H, I', by rw [h1]; rfl, ?_⟩
          rw [h2] at p
          exact Post.here sm p (.bl true)
        · refine d_in (by omega) I (DGet.k (sm _ _ q)) rx fun s' I' => ⟨.bl false, H, I', by rw [h1]; rfl, ?_⟩
          rw [h2] at p
          exact Post.here sm p (.bl false)
      | scr q zz => rw [not_scr] at z; cases z
    · exact p.elim
  · obtain ⟨r, o1, o2⟩ := od_in (X := X) hu
    exact o1 pins s σ H x y v u Q I rx ry (o2 mg W σ' x y d e F H Q sm r1 r2 p)
/-! ### d[k] -/
def dGetD (x y : D) : R D := match x with
  | .dict kvs => match keyOf y with
    | some k => if okK kvs = true then ofO (valD kvs k) else .bad
    | none => .bad
  | _ => .bad
theorem de_dget {W : WX} {a b : Expr} {f g : Sls → R D} {pos : Pos} (hu : X.A.units + 64 < cLine) (ha : DE X W a f) (hb : DE X W b g) (hs : NoSl b) : DE X W (.Subscript a b pos) (fun δ => (f δ).bind fun x => (g δ).bind fun y => dGetD x y) := by
  obtain ⟨ta, pa, ha⟩ := ha
  obtain ⟨tb, pb, hb⟩ := hb
  refine ⟨_, pe_dget (by omega) pa pb hs, fun σ F H δ Q rs h => ?_⟩
  refine ha σ F H δ _ rs (Post.seq h fun x d F1 H1 e1 r1 h1 => ?_)
  refine hb σ F1 H1 δ _ (rs.ext e1) (Post.seq h1 fun y e F2 H2 e2 r2 h2 => ?_)
  unfold dGetD at h2
  split at h2
  · rename_i kvs
    split at h2
    · rename_i k ek
      obtain ⟨z, h2⟩ := post_if h2
      obtain ⟨q1, q2⟩ := rp_key r2 ek
      subst q1 q2
      cases r1 with
      | dct q r zz =>
        obtain ⟨d, ed, h2⟩ := post_ofO h2
        rcases rpk_val (k := k) r with ⟨v, d', g1, g2, g3⟩ | ⟨g1, g2⟩
        · rw [ed] at g2
          cases g2
          refine ⟨_, v, rfl, ?_, Post.here e2.fh h2 (g3.mono e2.ff)⟩
          rw [← g1]
          exact DGet.k (e2.fh _ _ (e2.ff _ _ q))
        · rw [ed] at g2; cases g2
      | scr q zz => rw [not_scr] at z; cases z
    · exact h2.elim
  · exact h2.elim
/-! ### dict([(k, v), ..]) -/
def pairOf : D → Option (Key × D)
  | .tuple [k, v] => (keyOf k).map fun k => (k, v)
  | _ => none
def pairsOf : List D → Option (List (Key × D))
  | [] => some []
  | d :: ds => match pairOf d, pairsOf ds with
    | some p, some l => some (p :: l)
    | _, _ => none
def mergeD (kvs : List (D × D)) (l : List (Key × D)) : List (D × D) := l.foldl (fun acc kv => putD acc kv.1 kv.2) kvs
def dDict : List D → R D
  | [.list ds] => match pairsOf ds with
    | some l => .ok (.dict (mergeD [] l))
    | none => .bad
  | _ => .bad
theorem rp_pairs2 {K : PySem.W.Frag} {F H : Hp} (sm : Same F H) : ∀ {xs : List V} {ds : List D} {l : List (Key × D)}, RpL K F xs ds → pairsOf ds = some l → ∃ (ps : List Addr) (kvs : List (Key × V)), xs = ps.map V.ref ∧ Paired (fun p (kv : Key × V) => SqT K H p [kV kv.1, kv.2]) ps kvs ∧ Paired (fun (kv : Key × V) (ld : Key × D) => kv.1 = ld.1 ∧ Rp K F kv.2 ld.2) kvs l
  | _, _, _, .nil, h => by cases h; exact ⟨[], [], rfl, .nil, .nil⟩
  | _, _, l, .cons (d := d) (ds := ds) a b, h => by
    rw [pairsOf] at h
    split at h
    · rename_i p l' hp hl
      cases h
      obtain ⟨ps, kvs, e1, e2, e3⟩ := rp_pairs2 sm b hl
      unfold pairOf at hp
      split at hp
      · rename_i k v
        obtain ⟨k', ek, rfl⟩ := Option.map_eq_some_iff.mp hp
        cases a with
        | @tup q xs _ hq hr z =>
          cases hr with
          | cons r1 hr =>
          cases hr with
          | cons r2 hr =>
          cases hr
          obtain ⟨q1, q2⟩ := rp_key r1 ek
          subst q1
          exact ⟨q :: ps, (k', _) :: kvs, by rw [e1]; rfl, .cons (SqT.of (sm _ _ hq)) e2, .cons ⟨rfl, r2⟩ e3⟩
      · cases hp
    · cases h
theorem rpk_merge {K : PySem.W.Frag} {F : Hp} : ∀ {kvs : List (Key × V)} {l : List (Key × D)} {vs : List (Key × V)} {ds : List (D × D)}, Paired (fun (kv : Key × V) (ld : Key × D) => kv.1 = ld.1 ∧ Rp K F kv.2 ld.2) kvs l → RpK K F vs ds → RpK K F (mergeK vs kvs) (mergeD ds l)
  | _, _, _, _, .nil, h => h
  | _, _, vs, ds, .cons (a := a) (b := b) q r, h => by
    have : RpK K F (putK vs a.1 a.2) (putD ds b.1 b.2) := by rw [q.1]; exact rpk_put q.2 h
    exact (rpk_merge r this : RpK K F (mergeK (putK vs a.1 a.2) _) (mergeD (putD ds b.1 b.2) _))
theorem cd_dict (hc : X.calm = true) : CallD X (.type "dict") dDict := calld_of fun pins s σ H xs us Q mg W σ' F ds I rv sm r p => by
  unfold dDict at p
  split at p
  · rename_i ds
    split at p
    · rename_i l hl
      cases r with | cons a b => cases b; cases a with
        | @lst a xs _ q r z =>
          obtain ⟨ps, kvs, e1, e2, e3⟩ := rp_pairs2 sm r hl
          subst e1
          have rk := rpk_merge e3 (.nil : RpK X.K F [] [])
          refine call_dictP hc pins s σ H _ us Q I rv ⟨a, ps, kvs, rfl, SqL.of (sm _ _ q), e2, fun p0 hp => p _ _ _ (Ext.new sm hp) (.dct upd_same (rk.mono (Same.new (sm.free hp))) ?_)⟩
          have h1 := rpk_len rk
          have h2 := length_mergeK kvs []
          have h3 := e2.length
          have h4 := r.length
          rw [List.length_map] at h4
          rw [List.length_nil] at h2
          omega
    · exact p.elim
  · exact p.elim
end
/-! ### list(range(a, b, c)) -/
theorem rp_stepTo {K : PySem.W.Frag} {F : Hp} (a c : Int) (n : Nat) : RpL K F ((List.range n).map fun i => V.int (a + (i : Nat) * c)) (stepTo a c n) := by
  unfold stepTo
  induction List.range n with
  | nil => exact .nil
  | cons x xs ih => exact .cons (.int _) ih
section
variable {X : Cx} {W : WX} {a b c : Expr} {f g k : Sls → R D} {pos pos2 p p2 : Pos}
def tLr3 (ta : TA) : TE := fun σ H Q => ta σ H fun vs H1 => ∃ (i j c : Int) (n : Nat), vs = [.int i, .int j, .int c] ∧ RgC i j c n ∧ n ≤ 2 ^ 24 ∧ ∀ q, H1 q = none → Q (.ref q) (upd H1 q (.lst ((List.range n).map fun m => V.int (i + (m : Nat) * c))))
theorem pe_lr3 {ta : TA} (hc : X.calm = true) (hg : Gl X "range") (hm : X.mg "range" = none) (hg2 : Gl X "list") (hm2 : X.mg "list" = none) (ha : PA X [a, b, c] ta) (hs : starEach [a, b, c] X.env = (false, eval a X.env) :: starEach [b, c] X.env) (hpl : (backTo pos (starEach [b, c] X.env)).any (·.1) = false) :
    PE X (.Call (.Name "list" p2) [.Call (.Name "range" p) [a, b, c] [] pos] [] pos2) (tLr3 ta) := by
  refine ⟨fun pins s σ H Q I h => ?_⟩
  refine Call_ (ld_blt I hg2 hm2 boot_list (PyProof.Rows.callWith_type1 (args_cons ?_ rfl) rfl))
  refine Call_ (ld_blt I hg hm boot_range (PyProof.Rows.callWith_type1 (thn (ha.run pos pins s σ H _ I h) fun us s1 ⟨vs, H1, I1, r1, i, j, l, n, ev, hR, hn, hQ⟩ => ?_) hs hpl))
  subst ev
  obtain ⟨u1, us1, rfl, ⟨t1, rfl⟩, q1⟩ : ∃ u us', us = u :: us' ∧ RelV (.int i) u ∧ Vals [.int j, .int l] us' := by cases r1 with | cons a b => exact ⟨_, _, rfl, a, b⟩
  obtain ⟨u2, u3, rfl, ⟨t2, rfl⟩, ⟨t3, rfl⟩⟩ := q1.two
  refine call_range_3 hR.1 (args_nil ?_) (.inl (PyProof.noPylong_small hR.2.1))
  have I2 : Inv X pins σ H1 { s1 with heap := s1.heap.push { cls := .type "range", data := .fields #[.int i t1, .int j t2, .int l t3] } } := I1.kept (t' := s1.toks) fun b o e => Heap.get?_push_of_some _ e
  refine call_list_range (n := n) (I2.ok.hd hc) (IsRange.new ..) hR.2.2.1 hR.2.2.2 hn fun h' tk acc c' hk e' hi => ?_
  have hl : acc.toList.length = n := by rw [Array.length_toList]; exact hi.1
  have rv : Vals ((List.range n).map fun m => V.int (i + (m : Nat) * l)) acc.toList := by
    rw [← hl]
    exact vals_of_get acc.toList _ fun m u hm => hi.2 m u (by rw [← hm, Array.getElem?_toList])
  refine ⟨.ref _, upd H1 _ (.lst ((List.range n).map fun m => V.int (i + (m : Nat) * l))), I2.laid hk (Nat.le_refl _) (show ObjOk X.prog X.w _ _ _ (.lst _) from ⟨?_, acc.toList, c', rv, ?_⟩), rfl, hQ _ (I2.hok.fresh (Nat.le_refl _))⟩
  · rw [List.length_map, List.length_range, sizeLine_eq]; omega
  · rw [Array.toArray_toList]; exact e'
theorem de_lrange3 (hcl : X.calm = true) (hg : Gl X "range") (hm : X.mg "range" = none) (hg2 : Gl X "list") (hm2 : X.mg "list" = none) (ha : DE X W a f) (hb : DE X W b g) (hc : DE X W c k) (hs : ∀ es, starEach (a :: es) X.env = (false, eval a X.env) :: starEach es X.env) (hs' : ∀ es, starEach (b :: es) X.env = (false, eval b X.env) :: starEach es X.env) (hs2 : ∀ es, starEach (c :: es) X.env = (false, eval c X.env) :: starEach es X.env) :
    DE X W (.Call (.Name "list" p2) [.Call (.Name "range" p) [a, b, c] [] pos] [] pos2) (fun δ => lr ((f δ).bind fun x => (g δ).bind fun y => (k δ).bind fun z => range3 x y z)) := by
  obtain ⟨ta, pa, ha⟩ := ha
  obtain ⟨tb, pb, hb⟩ := hb
  obtain ⟨tc, pc, hc⟩ := hc
  refine ⟨_, pe_lr3 hcl hg hm hg2 hm2 (pa_cons pa (pa_cons pb (pa_cons pc pa_nil (hs2 _)) (hs' _)) (hs _)) (hs _) (by rw [hs', hs2]; rfl), fun σ F H δ Q rs h => ?_⟩
  have h : Post X.mg W σ (Rp X.K) F H ((f δ).bind fun x => (g δ).bind fun y => (k δ).bind fun z => lr (range3 x y z)) Q := by
    revert h
    show Post X.mg W σ (Rp X.K) F H (lr ((f δ).bind fun x => (g δ).bind fun y => (k δ).bind fun z => range3 x y z)) Q → _
    cases f δ <;> first | exact fun h => h | (cases g δ <;> first | exact fun h => h | (cases k δ <;> exact fun h => h))
  refine ha σ F H δ _ rs (Post.seq h fun x d F1 H1 e1 r1 h1 => ?_)
  refine hb σ F1 H1 δ _ (rs.ext e1) (Post.seq h1 fun y e F2 H2 e2 r2 h2 => ?_)
  refine hc σ F2 H2 δ _ ((rs.ext e1).ext e2) (Post.seq h2 fun z u F3 H3 e3 r3 h3 => ?_)
  cases r1 with
  | int i => cases r2 with
    | int j => cases r3 with
      | int l =>
        have h3 : Post X.mg W σ (Rp X.K) F3 H3 (lr (if l ≠ 0 ∧ l.natAbs < 1073741824 ∧ Builtin.Range.small i j l = true then .ok (stepTo i l (Builtin.Range.rangeSize i j l).toNat) else .bad)) Q := h3
        by_cases z : l ≠ 0 ∧ l.natAbs < 1073741824 ∧ Builtin.Range.small i j l = true
        · rw [if_pos z] at h3
          obtain ⟨ln, h3⟩ := lr_ok h3
          have hst : (stepTo i l (Builtin.Range.rangeSize i j l).toNat).length = (Builtin.Range.rangeSize i j l).toNat := by unfold stepTo; rw [List.length_map, List.length_range]
          rw [hst] at ln
          refine ⟨i, j, l, _, rfl, ⟨z.1, z.2.1, z.2.2, PyProof.Rows.rangeSize_toNat _ _ _⟩, by omega, fun q hq => ?_⟩
          exact h3 _ _ _ (Ext.new e3.fh hq) (Rp.newL e3.fh hq (rp_stepTo i l _) (by rw [hst, sizeLine_eq]; omega))
        · rw [if_neg z] at h3; exact h3.elim
      | _ => exact h3.elim
    | _ => exact h3.elim
  | _ => exact h3.elim
end
/-! ### sorted(d) -/
def strKeys : List (D × D) → Option (List Str)
  | [] => some []
  | (.str k, _) :: r => (strKeys r).map (k :: ·)
  | _ :: _ => none
def dSorted2 : List D → R D
  | [.dict kvs] => match strKeys kvs with
    | some ks => if ks.length < 64 then .ok (.list (sortD (ks.map .str))) else .bad
    | none => .bad
  | ds => dSorted ds
theorem keys_rp {K : PySem.W.Frag} {F : Hp} : ∀ {vs : List (Key × V)} {ds : List (D × D)} {ks : List Str}, RpK K F vs ds → strKeys ds = some ks → vs.map (·.1) = ks.map Sum.inr
  | _, _, _, .nil, h => by cases h; rfl
  | _, _, ks, .cons (k := k) a b, h => by
    cases k with
    | inl i => cases h
    | inr x =>
      have h : (strKeys _).map (x :: ·) = some ks := h
      obtain ⟨l, e1, rfl⟩ := Option.map_eq_some_iff.mp h
      rw [List.map_cons, keys_rp b e1]; rfl
def leS (a b : Str) : Bool := decide (a.cps.toList ≤ b.cps.toList)
theorem leS_trans (a b c : Str) (h1 : leS a b = true) (h2 : leS b c = true) : leS a c = true := decide_eq_true (List.le_trans (of_decide_eq_true h1) (of_decide_eq_true h2))
theorem leS_total (a b : Str) : (leS a b || leS b a) = true := by
  rw [Bool.or_eq_true]
  rcases List.le_total a.cps.toList b.cps.toList with h | h
  · exact .inl (decide_eq_true h)
  · exact .inr (decide_eq_true h)
theorem leS_anti {a b : Str} (h1 : leS a b = true) (h2 : leS b a = true) : a = b := by
  have h := List.le_antisymm (of_decide_eq_true h1) (of_decide_eq_true h2)
  obtain ⟨⟨a⟩⟩ := a
  obtain ⟨⟨b⟩⟩ := b
  have h : a = b := h
  rw [h]
theorem sortD_strs (ks : List Str) : sortD (ks.map .str) = (ks.mergeSort leS).map .str := by
  unfold sortD
  refine (List.map_mergeSort fun a _ b _ => ?_).symm
  have := congrFun (congrFun (PySem.W.dataLe_str (fun b : Str => b)) a) b
  exact this.symm
theorem rising_pair : ∀ (ys : List Str) (p : Str), PyProof.Rows.risingS p ys = true → (p :: ys).Pairwise (fun a b => leS a b = true)
  | [], p, _ => by simp
  | y :: ys, p, h => by
    have h : (!ltCps y.cps.toList p.cps.toList && PyProof.Rows.risingS y ys) = true := h
    rw [Bool.and_eq_true] at h
    have ih := rising_pair ys y h.2
    have hp : leS p y = true := by
      have h1 := h.1
      rw [PyProof.Rows.ltCps_eq] at h1
      have h2 : ¬ y.cps.toList < p.cps.toList := by simpa using h1
      exact decide_eq_true (List.not_lt.mp h2)
    refine List.pairwise_cons.mpr ⟨fun z hz => ?_, ih⟩
    rcases List.mem_cons.mp hz with rfl | hz
    · exact hp
    · exact leS_trans _ _ _ hp ((List.pairwise_cons.mp ih).1 z hz)
theorem sort_strs {ys ks : List Str} (hp : ys.Perm ks) (hs : PyProof.Rows.sortedS ys = true) : ys.map PyData.str = sortD (ks.map .str) := by
  rw [sortD_strs]
  congr 1
  have h1 : ys.Pairwise (fun a b => leS a b = true) := by
    cases ys with
    | nil => exact .nil
    | cons y ys => exact rising_pair ys y hs
  exact List.Perm.eq_of_pairwise (fun a b _ _ => leS_anti) h1 (List.pairwise_mergeSort leS_trans leS_total ks) (hp.trans (List.mergeSort_perm ks leS).symm)
theorem cd_sorted2 {X : Cx} (hc : X.calm = true) (hu : X.A.units + 64 < cLine) : CallD X (.builtin "sorted") dSorted2 := calld_of fun pins s σ H xs us Q mg W σ' F ds I rv sm r p => by
  unfold dSorted2 at p
  split at p
  · rename_i kvs
    split at p
    · rename_i ks hk
      obtain ⟨z, p⟩ := post_if p
      cases r with | cons a b => cases b; cases a with
        | @dct a vs _ q r zz =>
          refine call_sortedD hc pins s σ H _ us Q I rv ⟨a, vs, ks, rfl, .inl (sm _ _ q), keys_rp r hk, z, fun ys p0 hp hs h0 => p _ _ _ (Ext.new sm h0) (Rp.newL sm h0 ?_ ?_)⟩
          · rw [← sort_strs hp hs]; exact rpl_strs ys
          · rw [← sort_strs hp hs, List.length_map, hp.length_eq, sizeLine_eq]; omega
        | scr q zz => cases hk
    · exact p.elim
  · obtain ⟨r0, o1, o2⟩ := cd_sorted (X := X) hu
    exact o1 pins s σ H xs us Q I rv (o2 mg W σ' xs _ F H Q sm r p)
end DW
/-! The data layer, part H2: x.extend(e), d[k] = v. -/
namespace DW
open PySem PySem.Spec PyProof.Rows L2
section
variable {X : Cx} {W : WX} {e v : Expr} {f g : Sls → R D} {pos pos' : Pos}
def sExt (i : Nat) (f : Sls → R D) : Sls → R Fl := fun δ => match δ[i]? with
  | some (.ol ds) => (f δ).bind fun d => match d with
    | .list es => if ds.length + es.length ≤ sizeLine then .ok (.nx (δ.set i (.ol (ds ++ es)))) else .bad
    | _ => .bad
  | _ => .bad
theorem ds_ext {i : Nat} {x : Str} {p apos : Pos} (hN : X.N[i]? = some x) (hv : Vis X.env.scope x) (hd : (x == ("__debug__" : Str)) = false) (hcd : (x == ("__classdict__" : Str)) = false) (ha : DE X W e f)
    (hl : (apos.endLine == pos.line) = true) (hs : ∀ es, starEach (e :: es) X.env = (false, eval e X.env) :: starEach es X.env) : DS X W (.Expr (.Call (.Attribute (.Name x p) "extend" apos) [e] [] pos) pos') (sExt i f) := by
  have pe : PE X (.Call (.Attribute (.Name x p) "extend" apos) [e] [] pos) (tBM X.K "list" rExtend (tVar i) (tCons (cE X.K X.mg W f) tNil)) := by
    refine pe_bm PySem.F.plainAttrs_list PySem.F.slot_list_extend PySem.F.type_list_extend mt_extend (pe_var hN hv hd hcd) (pa_cons ha.pe pa_nil (hs _)) rfl ?_ hl (hs _) rfl
    rw [hs]; rfl
  refine PS.imp (ps_expr pe rfl) fun E σ H ⟨F0, B, F, δ, rs, h⟩ => ?_
  have h : PostS X.K X.mg W F0 B (match δ[i]? with
    | some (.ol ds) => (f δ).bind fun d => match d with
      | .list es => if ds.length + es.length ≤ sizeLine then .ok (.nx (δ.set i (.ol (ds ++ es)))) else .bad
      | _ => .bad
    | _ => .bad) E := h
  split at h
  · rename_i ds q
    have io : isOwn δ[i]? := by rw [q]; trivial
    obtain ⟨a, q1, q2, q3⟩ := rs.rs.own i io
    rw [q] at q3
    obtain ⟨vs, q4, q5, q6⟩ := q3
    refine ⟨_, q1, .inl ⟨rfl, _, SqL.of q4⟩, F, δ, rs.rs, ?_⟩
    cases qf : f δ with
    | ok d =>
      rw [qf, R.bind_ok] at h
      split at h
      · rename_i es
        split at h
        · rename_i z
          intro v F' H' e r
          cases r with
          | @lst b zs _ hb hr hz =>
            refine ⟨a, b, vs, zs, rfl, rfl, e.hh _ _ q4, e.fh _ _ hb, by rw [q5.length, hr.length]; exact z, ?_⟩
            exact h _ F' _ ((rs.ext e).upd_own io q1 ⟨_, rfl, (q5.mono e.ff).append hr, by rw [List.length_append]; exact z⟩)
        · exact h.elim
      · exact h.elim
    | exn c => rw [qf] at h; exact ext_exn rs h
    | bad => rw [qf] at h; exact h.elim
  · exact h.elim
def sPut (i : Nat) (fk fv : Sls → R D) : Sls → R Fl := fun δ => match δ[i]? with
  | some (.od kvs) => (fv δ).bind fun y => (fk δ).bind fun k => match keyOf k with
    | some key => if kvs.length < sizeLine then .ok (.nx (δ.set i (.od (putD kvs key y)))) else .bad
    | none => .bad
  | _ => .bad
theorem putD_len (kvs : List (D × D)) (k : Key) (v : D) : (putD kvs k v).length ≤ kvs.length + 1 := by
  unfold putD
  split
  · rw [List.length_map]; omega
  · rw [List.length_append, List.length_singleton]; omega
theorem ds_put {i : Nat} {x : Str} {p spos : Pos} (hu : X.A.units + 64 < cLine) (hN : X.N[i]? = some x) (hv : Vis X.env.scope x) (hd : (x == ("__debug__" : Str)) = false) (hcd : (x == ("__classdict__" : Str)) = false) (hk : DE X W e f) (hy : DE X W v g)
    (hs : swapsWith v (some (.Subscript (.Name x p) e spos)) pos.line X.env = pure false) : DS X W (.Assign [.Subscript (.Name x p) e spos] v pos) (sPut i f g) := by
  refine PS.imp (ps_dput (by omega) (pe_var hN hv hd hcd) hk.pe hy.pe hs) fun E σ H ⟨F0, B, F, δ, rs, h⟩ => ?_
  have h : PostS X.K X.mg W F0 B (match δ[i]? with
    | some (.od kvs) => (g δ).bind fun y => (f δ).bind fun k => match keyOf k with
      | some key => if kvs.length < sizeLine then .ok (.nx (δ.set i (.od (putD kvs key y)))) else .bad
      | none => .bad
    | _ => .bad) E := h
  split at h
  · rename_i kvs q
    have io : isOwn δ[i]? := by rw [q]; trivial
    obtain ⟨a, q1, q2, q3⟩ := rs.rs.own i io
    rw [q] at q3
    obtain ⟨vs, q4, q5, q6⟩ := q3
    refine ⟨F, δ, rs.rs, ?_⟩
    cases qg : g δ with
    | exn c => rw [qg] at h; exact ext_exn rs h
    | bad => rw [qg] at h; exact h.elim
    | ok y =>
    rw [qg, R.bind_ok] at h
    intro vy F1 H1 e1 r1
    refine ⟨_, q1, F1, δ, rs.rs.ext e1, ?_⟩
    cases qf : f δ with
    | exn c => rw [qf] at h; exact ext_exn (rs.ext e1) h
    | bad => rw [qf] at h; exact h.elim
    | ok k =>
    rw [qf, R.bind_ok] at h
    intro vk F2 H2 e2 r2
    split at h
    · rename_i key ek
      split at h
      · rename_i z
        obtain ⟨k1, k2⟩ := rp_key r2 ek
        subst k1
        have q5' := q5.mono (e1.ff.trans e2.ff)
        refine ⟨a, _, rfl, DPut.k (e2.hh _ _ (e1.hh _ _ q4)) (by rw [rpk_len q5]; exact z), ?_⟩
        exact h _ F2 _ (((rs.ext e1).ext e2).upd_own io q1 ⟨_, rfl, rpk_put (r1.mono e2.ff) q5', by have := putD_len kvs key y; omega⟩)
      · exact h.elim
    · exact h.elim
  · exact h.elim
end
end DW
/-! The data layer, part I: a small syntax, what it is worth, and whether a text is written so. -/
namespace DW
open PySem PySem.Spec PyProof.Rows L2

inductive Bop where | add | sub | mul | div | mod
def Bop.op : Bop → Operator
  | .add => .Add | .sub => .Sub | .mul => .Mult | .div => .FloorDiv | .mod => .Mod
def Bop.fn : Bop → D → D → R D
  | .add => dAdd | .sub => dSub | .mul => dMul | .div => dDiv | .mod => dMod
inductive Cop where | eq | ne | lt | le | gt | ge | is | isnot | inn | notin
def Cop.op : Cop → CmpOp
  | .eq => .Eq | .ne => .NotEq | .lt => .Lt | .le => .LtE | .gt => .Gt | .ge => .GtE | .is => .Is | .isnot => .IsNot | .inn => .In | .notin => .NotIn
def Cop.fn : Cop → D → D → R D
  | .eq => dEq | .ne => dNe | .lt => dLt | .le => dLe | .gt => dGt | .ge => dGe | .is => dIs | .isnot => dIsNot | .inn => dIn2 | .notin => dNotIn
/-- built-ins by their names -/
inductive Bi where | len | all | list | tuple | min2 | max2 | int | str | sum | sorted | min1 | max1 | dict
def Bi.nm : Bi → String
  | .len => "len" | .all => "all" | .list => "list" | .tuple => "tuple" | .min2 => "min" | .max2 => "max" | .int => "int" | .str => "str" | .sum => "sum" | .sorted => "sorted" | .min1 => "min" | .max1 => "max" | .dict => "dict"
def Bi.fn : Bi → List D → R D
  | .len => dLen | .all => dAll | .list => dList | .tuple => dTuple | .min2 => dMin2 | .max2 => dMax2 | .int => dInt | .str => dStr | .sum => dSum | .sorted => dSorted2 | .min1 => dMin1 | .max1 => dMax1 | .dict => dDict
/-- the built-ins' names that no module's name hides -/
def bnames : List Str := ["len", "all", "list", "tuple", "min", "max", "int", "str", "isinstance", "bool", "range", "zip", "sum", "enumerate", "sorted", "set", "dict"]

mutual
inductive Ex where
  | var (i : Nat)
  | int (i : Int)
  | str (s : Str)
  | bl (b : Bool)
  | non
  | gint (x : Str) (i : Int)
  | gstr (x : Str) (s : Str)
  | bin (o : Bop) (a b : Ex)
  | neg (a : Ex)
  | cmp (o : Cop) (a b : Ex)
  | chain (o o' : Cop) (a b c : Ex)
  | and (a b : Ex)
  | or (a b : Ex)
  | not (a : Ex)
  | ite (c a b : Ex)
  | tup (es : Exs)
  | lst (es : Exs)
  | call (f : Str) (n : Nat) (G : List D → R D) (es : Exs)
  | bi (b : Bi) (es : Exs)
  | isi (T : Ty) (a : Ex)
  | idx (a b : Ex)
  | dget (a b : Ex)
  | cut (a : Ex) (lo hi : Exo)
  | rev (a : Ex)
  | lzip (a b : Ex)
  | lrange (it : Exi)
  | sset (a : Ex)
  | meth (m : Mth) (a b : Ex)
  | comp (e : Ex) (t : Tg) (it : Exi) (c : Exo) (own : List (Str × Nat))
inductive Exs where
  | nil
  | cons (a : Ex) (r : Exs)
inductive Exo where
  | none
  | some (a : Ex)
inductive Exi where
  | list (a : Ex)
  | tup (a : Ex)
  | str (a : Ex)
  | r1 (a : Ex)
  | r2 (a b : Ex)
  | r3 (a b c : Ex)
  | zip (a b : Ex)
  | enum (a : Ex)
end

mutual
def sem : Ex → Sls → R D
  | .var i, δ => lk δ i
  | .int i, _ => .ok (.int i)
  | .str s, _ => .ok (.str s)
  | .bl b, _ => .ok (.bool b)
  | .non, _ => .ok .none
  | .gint _ i, _ => .ok (.int i)
  | .gstr _ s, _ => .ok (.str s)
  | .bin o a b, δ => (sem a δ).bind fun x => (sem b δ).bind fun y => o.fn x y
  | .neg a, δ => (sem a δ).bind dNeg
  | .cmp o a b, δ => (sem a δ).bind fun x => (sem b δ).bind fun y => o.fn x y
  | .chain o o' a b c, δ => (sem a δ).bind fun x => (sem b δ).bind fun y => (o.fn x y).bind fun z => (asB z).bind fun t => if t then (sem c δ).bind fun w => o'.fn y w else .ok (.bool false)
  | .and a b, δ => (sem a δ).bind fun x => (asB x).bind fun c => if c then sem b δ else .ok (.bool false)
  | .or a b, δ => (sem a δ).bind fun x => (asB x).bind fun c => if c then .ok (.bool true) else sem b δ
  | .not a, δ => (sem a δ).bind fun x => (asB x).bind fun c => .ok (.bool (!c))
  | .ite c a b, δ => ((sem c δ).bind asB).bind fun t => if t then sem a δ else sem b δ
  | .tup es, δ => (semL es δ).bind mkT
  | .lst es, δ => (semL es δ).bind mkL
  | .call _ _ G es, δ => (semL es δ).bind G
  | .bi b es, δ => (semL es δ).bind b.fn
  | .isi T a, δ => (sem a δ).bind (dIsi T)
  | .idx a b, δ => (sem a δ).bind fun x => (sem b δ).bind fun y => dIdx x y
  | .dget a b, δ => (sem a δ).bind fun x => (sem b δ).bind fun y => dGetD x y
  | .cut a lo hi, δ => (sem a δ).bind fun x => (semO lo δ).bind fun l => (semO hi δ).bind fun h => dCut x l h
  | .rev a, δ => (sem a δ).bind dRev
  | .lzip a b, δ => (sem a δ).bind fun x => (sem b δ).bind fun y => (seqOf x).bind fun xs => (seqOf y).bind fun ys => .ok (.list (zipD xs ys))
  | .lrange it, δ => lr (semI it δ)
  | .sset a, δ => (sem a δ).bind dSset
  | .meth m a b, δ => (sem a δ).bind fun x => if m.on x = true then (sem b δ).bind fun y => m.fn x y else .bad
  | .comp e t it c own, δ => (semI it δ).bind (lcR (bindT t) (semC c) (sem e) (wipeD δ (own.map (·.2))))
def semL : Exs → Sls → R (List D)
  | .nil, _ => .ok []
  | .cons a r, δ => (sem a δ).bind fun d => (semL r δ).bind fun ds => .ok (d :: ds)
def semO : Exo → Sls → R (Option Int)
  | .none, _ => .ok .none
  | .some a, δ => (sem a δ).bind fun d => (dInt? d).bind fun i => .ok (.some i)
def semC : Exo → Sls → R Bool
  | .none, _ => .ok true
  | .some a, δ => (sem a δ).bind asB
def semI : Exi → Sls → R (List D)
  | .list a, δ => (sem a δ).bind listOf
  | .tup a, δ => (sem a δ).bind tupOf
  | .str a, δ => (sem a δ).bind signsOf
  | .r1 a, δ => (sem a δ).bind range1
  | .r2 a b, δ => (sem a δ).bind fun x => (sem b δ).bind fun y => range2 x y
  | .r3 a b c, δ => (sem a δ).bind fun x => (sem b δ).bind fun y => (sem c δ).bind fun z => range3 x y z
  | .zip a b, δ => (sem a δ).bind fun x => (sem b δ).bind fun y => (seqOf x).bind fun xs => (seqOf y).bind fun ys => .ok (zipD xs ys)
  | .enum a, δ => (sem a δ).bind fun x => (seqOf x).bind fun xs => .ok (enumD xs)
end

/-! ### whether a text is written so -/
def plainE : Expr → Bool
  | .Set .. => false
  | .Starred .. => false
  | .Slice .. => false
  | _ => true
def isComp : Expr → Bool
  | .ListComp .. => true
  | .SetComp .. => true
  | .DictComp .. => true
  | _ => false
def visB (sc : Scope) (x : Str) : Bool := match sc.names.lookup x with
  | some .local => true
  | some .cell => true
  | some .free => true
  | _ => false
def locB (sc : Scope) (x : Str) : Bool := match sc.names.lookup x with
  | some .local => true
  | some .cell => true
  | _ => false
def glB (sc : Scope) (x : Str) : Bool := decide (sc.names.lookup x = some .globalImplicit)
def noDbg (x : Str) : Bool := !(x == ("__debug__" : Str)) && !(x == ("__classdict__" : Str))
/-- a slot's name that may be stored -/
def tgB (N : List Str) (sc : Scope) (fb : Str → Bool) (i : Nat) (x : Str) : Bool := decide (N[i]? = some x) && locB sc x && (fb x || decide (sc.names.lookup x = some .local))
mutual
def isT (N : List Str) (sc : Scope) (fb : Str → Bool) : Tg → Expr → Bool
  | .nm i, e => match e with
    | .Name x _ => tgB N sc fb i x
    | _ => false
  | .tp ts, e => match e with
    | .Tuple es _ _ => isTs N sc fb ts es
    | _ => false
def isTs (N : List Str) (sc : Scope) (fb : Str → Bool) : Tgs → List Expr → Bool
  | .nil, es => match es with
    | [] => true
    | _ => false
  | .cons t ts, es => match es with
    | e :: es => isT N sc fb t e && isTs N sc fb ts es
    | _ => false
end
def isRg : Exi → Bool
  | .r1 _ => true
  | .r2 _ _ => true
  | .r3 _ _ _ => true
  | _ => false
def notIte : Ex → Bool
  | .ite .. => false
  | _ => true
def isTup : Expr → Bool
  | .Tuple .. => true
  | _ => false
def recvB : Expr → Bool
  | .Call (.Name _ _) [] [] _ => false
  | _ => true
mutual
def isE (N : List Str) (sc : Scope) : Ex → Expr → Bool
  | .var i, e => match e with
    | .Name x _ => decide (N[i]? = some x) && visB sc x && noDbg x
    | _ => false
  | .int i, e => match e with
    | .Constant (.int j) _ _ => decide (i = j)
    | _ => false
  | .str s, e => match e with
    | .Constant (.str j) _ _ => decide (s = j)
    | _ => false
  | .bl s, e => match e with
    | .Constant (.bool j) _ _ => decide (s = j)
    | _ => false
  | .non, e => match e with
    | .Constant .none _ _ => true
    | _ => false
  | .gint x _, e => match e with
    | .Name y _ => decide (x = y) && glB sc y && noDbg y
    | _ => false
  | .gstr x _, e => match e with
    | .Name y _ => decide (x = y) && glB sc y && noDbg y
    | _ => false
  | .bin o a b, e => match e with
    | .BinOp l op r _ => decide (op = o.op) && isE N sc a l && isE N sc b r
    | _ => false
  | .neg a, e => match e with
    | .UnaryOp .USub x _ => isE N sc a x
    | _ => false
  | .cmp o a b, e => match e with
    | .Compare l [op] [r] _ => decide (op = o.op) && isE N sc a l && isE N sc b r
    | _ => false
  | .chain o o' a b c, e => match e with
    | .Compare l [op, op'] [m, r] _ => decide (op = o.op) && decide (op' = o'.op) && isE N sc a l && isE N sc b m && isE N sc c r
    | _ => false
  | .and a b, e => match e with
    | .BoolOp .And [x, y] _ => isE N sc a x && isE N sc b y && notIte a && notIte b
    | .BoolOp .And (x :: y :: z :: r) p => isE N sc a x && isE N sc b (.BoolOp .And (y :: z :: r) p) && notIte a && notIte b
    | _ => false
  | .or a b, e => match e with
    | .BoolOp .Or [x, y] _ => isE N sc a x && isE N sc b y && notIte a && notIte b
    | .BoolOp .Or (x :: y :: z :: r) p => isE N sc a x && isE N sc b (.BoolOp .Or (y :: z :: r) p) && notIte a && notIte b
    | _ => false
  | .not a, e => match e with
    | .UnaryOp .Not x _ => isE N sc a x && notIte a
    | _ => false
  | .ite c a b, e => match e with
    | .IfExp t x y _ => isE N sc c t && notIte c && isE N sc a x && isE N sc b y
    | _ => false
  | .tup es, e => match e with
    | .Tuple l _ _ => isEs N sc es l
    | _ => false
  | .lst es, e => match e with
    | .List l _ => isEs N sc es l
    | _ => false
  | .call f n _ es, e => match e with
    | .Call (.Name x _) l [] _ => decide (f = x) && glB sc x && noDbg x && decide (l.length = n) && isEs N sc es l
    | _ => false
  | .bi b es, e => match e with
    | .Call (.Name x _) (a :: l) [] _ => decide (x = Str.ofString b.nm) && glB sc x && isEs N sc es (a :: l)
    | _ => false
  | .isi T a, e => match e with
    | .Call (.Name x _) [l, .Name y _] [] _ => decide (x = "isinstance") && glB sc x && decide (y = Str.ofString T.name) && glB sc y && isE N sc a l
    | _ => false
  | .idx a b, e => match e with
    | .Subscript l r _ => isE N sc a l && isE N sc b r
    | _ => false
  | .dget a b, e => match e with
    | .Subscript l r _ => isE N sc a l && isE N sc b r
    | _ => false
  | .cut a lo hi, e => match e with
    | .Subscript l (.Slice x y none _) _ => isE N sc a l && isEo N sc lo x && isEo N sc hi y
    | _ => false
  | .rev a, e => match e with
    | .Subscript l (.Slice none none (some (.UnaryOp .USub (.Constant (.int 1) _ _) _)) _) _ => isE N sc a l
    | _ => false
  | .lzip a b, e => match e with
    | .Call (.Name x _) [.Call (.Name y _) [l, r] [] _] [] _ => decide (x = "list") && glB sc x && decide (y = "zip") && glB sc y && isE N sc a l && isE N sc b r
    | _ => false
  | .lrange it, e => match e with
    | .Call (.Name x _) [l] [] _ => decide (x = "list") && glB sc x && isRg it && isEi N sc it l l
    | _ => false
  | .sset a, e => match e with
    | .Call (.Name x _) [.Call (.Name y _) [l] [] _] [] _ => decide (x = "sorted") && glB sc x && decide (y = "set") && glB sc y && isE N sc a l
    | _ => false
  | .meth m a b, e => match e with
    | .Call (.Attribute l x ap) [r] [] p => decide (x = m.nm) && (ap.endLine == p.line) && recvB l && isE N sc a l && isE N sc b r
    | _ => false
  | .comp x t it c own, e => match e with
    | .ListComp elt [⟨tg, iter, ifs, 0⟩] scope _ => isT N (relS scope sc) (fun y => scope.names.lookup y == some .cell) t tg && isEi N sc it tg iter && isEc N (relS scope sc) c ifs && isE N (relS scope sc) x elt && blkC N sc scope own && (slotsT t).all (fun i => decide (i ∈ own.map (·.2)))
    | _ => false
def isEs (N : List Str) (sc : Scope) : Exs → List Expr → Bool
  | .nil, es => match es with
    | [] => true
    | _ => false
  | .cons a r, es => match es with
    | e :: es => isE N sc a e && isEs N sc r es
    | _ => false
def isEo (N : List Str) (sc : Scope) : Exo → Option Expr → Bool
  | .none, o => match o with
    | none => true
    | _ => false
  | .some a, o => match o with
    | some e => isE N sc a e
    | _ => false
def isEc (N : List Str) (sc : Scope) : Exo → List Expr → Bool
  | .none, es => match es with
    | [] => true
    | _ => false
  | .some a, es => match es with
    | [e] => isE N sc a e && notIte a
    | _ => false
def isEi (N : List Str) (sc : Scope) : Exi → Expr → Expr → Bool
  | .list a, _, e => isE N sc a e
  | .tup a, _, e => isE N sc a e
  | .str a, _, e => isE N sc a e
  | .r1 a, _, e => match e with
    | .Call (.Name x _) [l] [] _ => decide (x = "range") && glB sc x && isE N sc a l
    | _ => false
  | .r2 a b, _, e => match e with
    | .Call (.Name x _) [l, r] [] _ => decide (x = "range") && glB sc x && isE N sc a l && isE N sc b r
    | _ => false
  | .r3 a b c, _, e => match e with
    | .Call (.Name x _) [l, r, s] [] _ => decide (x = "range") && glB sc x && isE N sc a l && isE N sc b r && isE N sc c s
    | _ => false
  | .zip a b, tg, e => match e with
    | .Call (.Name x _) [l, r] [] _ => isTup tg && decide (x = "zip") && glB sc x && isE N sc a l && isE N sc b r
    | _ => false
  | .enum a, tg, e => match e with
    | .Call (.Name x _) [l] [] _ => isTup tg && decide (x = "enumerate") && glB sc x && isE N sc a l
    | _ => false
end
/-! ### what it needs of the module -/
structure Gm where
  P : Program
  w : World
  K : PySem.W.Frag
  mg : Str → Option Value
  base : Heap
  k : Nat
mutual
def Need (Γ : Gm) : Ex → Prop
  | .gint x i => ∃ t, Γ.mg x = some (.int i t)
  | .gstr x s => ∃ t, Γ.mg x = some (.str s t)
  | .bin _ a b => Need Γ a ∧ Need Γ b
  | .neg a => Need Γ a
  | .cmp _ a b => Need Γ a ∧ Need Γ b
  | .chain _ _ a b c => Need Γ a ∧ Need Γ b ∧ Need Γ c
  | .and a b => Need Γ a ∧ Need Γ b
  | .or a b => Need Γ a ∧ Need Γ b
  | .not a => Need Γ a
  | .ite c a b => Need Γ c ∧ Need Γ a ∧ Need Γ b
  | .tup es => NeedL Γ es
  | .lst es => NeedL Γ es
  | .call f n G es => FnD Γ.P Γ.w Γ.K Γ.mg Γ.base Γ.k f n G ∧ NeedL Γ es
  | .bi _ es => NeedL Γ es
  | .isi _ a => Need Γ a
  | .idx a b => Need Γ a ∧ Need Γ b
  | .dget a b => Need Γ a ∧ Need Γ b
  | .cut a lo hi => Need Γ a ∧ NeedO Γ lo ∧ NeedO Γ hi
  | .rev a => Need Γ a
  | .lzip a b => Need Γ a ∧ Need Γ b
  | .lrange it => NeedI Γ it
  | .sset a => Need Γ a
  | .meth _ a b => Need Γ a ∧ Need Γ b
  | .comp e _ it c _ => Need Γ e ∧ NeedI Γ it ∧ NeedO Γ c
  | _ => True
def NeedL (Γ : Gm) : Exs → Prop
  | .nil => True
  | .cons a r => Need Γ a ∧ NeedL Γ r
def NeedO (Γ : Gm) : Exo → Prop
  | .none => True
  | .some a => Need Γ a
def NeedI (Γ : Gm) : Exi → Prop
  | .list a => Need Γ a
  | .tup a => Need Γ a
  | .str a => Need Γ a
  | .r1 a => Need Γ a
  | .r2 a b => Need Γ a ∧ Need Γ b
  | .r3 a b c => Need Γ a ∧ Need Γ b ∧ Need Γ c
  | .zip a b => Need Γ a ∧ Need Γ b
  | .enum a => Need Γ a
end
end DW
/-! The data layer, part J: a text that is written so is worth that. -/
namespace DW
open PySem PySem.Spec PyProof.Rows L2

structure CtxOk (Γ : Gm) (N : List Str) (sc : Scope) (X : Cx) : Prop where
  eP : X.prog = Γ.P
  eW : X.w = Γ.w
  eK : X.K = Γ.K
  eG : X.mg = Γ.mg
  eB : X.base = Γ.base
  eN : X.N = N
  eS : X.env.scope = sc
  calm : X.calm = true
  room : Room Γ.k X.A
  nd : N.Nodup
  bl : ∀ x ∈ bnames, Γ.mg x = none

section
variable {Γ : Gm} {N : List Str} {sc : Scope} {X : Cx} {W : WX}
theorem plain_star {e : Expr} (h : plainE e = true) (env : Env) : ∀ es, starEach (e :: es) env = (false, eval e env) :: starEach es env := fun es => by
  cases e <;> first | rfl | cases h
theorem plain_ix {e : Expr} (h : plainE e = true) : PlainIx e := fun o i => by
  cases e <;> first | rfl | cases h
theorem plain_nosl {e : Expr} (h : plainE e = true) : NoSl e := fun o i => by
  cases e <;> first | rfl | cases h
theorem plain_in {e : Expr} (h : plainE e = true) (op : CmpOp) : behindInMarks op e = false := by
  cases e <;> first | rfl | cases h
theorem plain_fold {e : Expr} (h : plainE e = true) (env : Env) (x : Value) : foldedSetIterable e env x = pure x := by
  cases e <;> first | rfl | cases h
theorem isE_plain {x : Ex} {e : Expr} (h : isE N sc x e = true) : plainE e = true := by
  cases e with
  | Set a b c => cases x <;> simp [isE] at h
  | Starred a b => cases x <;> simp [isE] at h
  | Slice a b c d => cases x <;> simp [isE] at h
  | _ => rfl
theorem recv_base {o : Expr} {attr : Str} {env : Env} {wh : Sem Value} (h : recvB o = true) : attributeBase o attr env wh = wh := by
  unfold attributeBase
  split
  · cases h
  · rfl
theorem vis_of {x : Str} (h : visB sc x = true) : Vis sc x := by
  unfold visB at h
  split at h
  · exact .inl (by assumption)
  · exact .inr (.inl (by assumption))
  · exact .inr (.inr (by assumption))
  · cases h
theorem loc_of {x : Str} (h : locB sc x = true) : Loc sc x := by
  unfold locB at h
  split at h
  · exact .inl (by assumption)
  · exact .inr (by assumption)
  · cases h
theorem CtxOk.gl (c : CtxOk Γ N sc X) {x : Str} (h : glB sc x = true) : Gl X x := by
  show X.env.scope.names.lookup x = _
  rw [c.eS]
  exact of_decide_eq_true h
theorem dbg_of {x : Str} (h : noDbg x = true) : (x == ("__debug__" : Str)) = false ∧ (x == ("__classdict__" : Str)) = false := by
  unfold noDbg at h
  rw [Bool.and_eq_true, Bool.not_eq_true', Bool.not_eq_true'] at h
  exact h
theorem CtxOk.fn (c : CtxOk Γ N sc X) {x : Str} {n : Nat} {G : List D → R D} (h : FnD Γ.P Γ.w Γ.K Γ.mg Γ.base Γ.k x n G) : FnD X.prog X.w X.K X.mg X.base Γ.k x n G := by
  rw [c.eP, c.eW, c.eK, c.eG, c.eB]; exact h
theorem CtxOk.none (c : CtxOk Γ N sc X) {x : Str} (h : x ∈ bnames) : X.mg x = none := by rw [c.eG]; exact c.bl x h
theorem CtxOk.blk (c : CtxOk Γ N sc X) {scope : Scope} {s : Shared} {H : Hp} {C : Addr} {cl : List (Str × Addr)} {fp : List Addr} : CtxOk Γ N (relS scope sc) (X.blk s H scope (compEnvC scope cl C X.env) fp) :=
  ⟨c.eP, c.eW, c.eK, c.eG, c.eB, c.eN, by
    show relS scope X.env.scope = _
    rw [c.eS], c.calm, c.room, c.nd, c.bl⟩
theorem CtxOk.units (c : CtxOk Γ N sc X) : X.A.units + 64 < cLine := c.room.units
theorem CtxOk.units65 (c : CtxOk Γ N sc X) : X.A.units + 65 < cLine := by have := c.room.un; omega
theorem od_bop (o : Bop) : OpD X (binaryOp o.op) o.fn := by
  cases o
  · exact od_add
  · exact od_sub
  · exact od_mul
  · exact od_div
  · exact od_mod
theorem od_cop (hu : X.A.units + 64 < cLine) (o : Cop) : OpD X (compareOp o.op) o.fn := by
  cases o
  · exact od_eq hu
  · exact od_ne hu
  · exact od_lt hu
  · exact od_le
  · exact od_gt
  · exact od_ge
  · exact od_is
  · exact od_isNot
  · exact od_in2 hu
  · exact od_notIn hu
theorem back_plain {es : List Expr} {pos : Pos} : ∀ {xs : Exs}, isEs N sc xs es = true → ∀ env, (backTo pos (starEach es env)).any (·.1) = false := by
  induction es with
  | nil => intro _ _ _; rfl
  | cons e es ih =>
    intro xs h env
    cases xs with
    | nil => simp [isEs] at h
    | cons a r =>
      simp only [isEs, Bool.and_eq_true] at h
      rw [plain_star (isE_plain h.1)]
      exact ih h.2 env
theorem semL_len : ∀ {xs : Exs} {es : List Expr} {δ : Sls} {ds : List D}, isEs N sc xs es = true → semL xs δ = .ok ds → ds.length = es.length
  | .nil, es, δ, ds, h, q => by
    cases es with
    | nil => cases q; rfl
    | cons _ _ => simp [isEs] at h
  | .cons a r, es, δ, ds, h, q => by
    cases es with
    | nil => simp [isEs] at h
    | cons e es =>
      simp only [isEs, Bool.and_eq_true] at h
      rw [semL] at q
      cases q1 : sem a δ with
      | ok d =>
        rw [q1, R.bind_ok] at q
        cases q2 : semL r δ with
        | ok ds' =>
          rw [q2] at q
          cases q
          rw [List.length_cons, List.length_cons, semL_len h.2 q2]
        | exn _ => rw [q2] at q; cases q
        | bad => rw [q2] at q; cases q
      | exn _ => rw [q1] at q; cases q
      | bad => rw [q1] at q; cases q
theorem DT.congr {e : Expr} {f g : Sls → R Bool} (h : DT X W e f) (q : ∀ δ, f δ = g δ) : DT X W e g := by
  have : f = g := funext q
  rw [← this]; exact h
theorem DE.congr {e : Expr} {f g : Sls → R D} (h : DE X W e f) (q : ∀ δ, f δ = g δ) : DE X W e g := by
  have : f = g := funext q
  rw [← this]; exact h
/-- targets -/
theorem tg_of {fb : Str → Bool} {i : Nat} {x : Str} (h : tgB N sc fb i x = true) : N[i]? = some x ∧ Loc sc x ∧ (fb x = true ∨ sc.names.lookup x = some .local) := by
  unfold tgB at h
  rw [Bool.and_eq_true, Bool.and_eq_true, Bool.or_eq_true, decide_eq_true_eq, decide_eq_true_eq] at h
  exact ⟨h.1.1, loc_of h.1.2, h.2⟩
end
section
variable {Γ : Gm} {N : List Str}
theorem tgs_shape {sc : Scope} {fb : Str → Bool} : ∀ {ts : Tgs} {es : List Expr} {env : Env}, isTs N sc fb ts es = true → (assignEach es env).length = lenTs ts ∧ (assignEach es env).findIdx? (·.1) = none := by
  intro ts es
  induction es generalizing ts with
  | nil =>
    intro env h
    cases ts with
    | nil => exact ⟨rfl, rfl⟩
    | cons t ts => simp [isTs] at h
  | cons e es ih =>
    intro env h
    cases ts with
    | nil => simp [isTs] at h
    | cons t ts =>
      simp only [isTs, Bool.and_eq_true] at h
      obtain ⟨h1, h2⟩ := ih (env := env) h.2
      have : assignEach (e :: es) env = (false, assign e env) :: assignEach es env := by
        cases t with
        | nm i => cases e <;> first | rfl | simp [isT] at h
        | tp ts => cases e <;> first | rfl | simp [isT] at h
      rw [this]
      refine ⟨by rw [List.length_cons, h1]; rfl, ?_⟩
      rw [List.findIdx?_cons, h2]; rfl
mutual
theorem soundG {sc : Scope} {X : Cx} {fb : Str → Bool} (c : CtxOk Γ N sc X) (hf : ∀ x, fb x = true → X.fn x = true) : ∀ (t : Tg) (e : Expr), isT N sc fb t e = true → PG X e (cG X.K (slotsT t) (bindT t))
  | .nm i, e, h => by
    cases e with
    | Name x pos =>
      simp only [isT] at h
      obtain ⟨h1, h2, h3⟩ := tg_of h
      exact dg_name (by rw [c.eN]; exact c.nd) (by rw [c.eN]; exact h1) (by rw [c.eS]; exact h2) (by rw [c.eS]; exact h3.imp (hf x) id)
    | _ => simp [isT] at h
  | .tp ts, e, h => by
    cases e with
    | Tuple es k pos =>
      simp only [isT] at h
      obtain ⟨h1, h2⟩ := tgs_shape (env := X.env) h
      exact dg_tup c.calm (soundGs c hf ts es h) h1 h2
    | _ => simp [isT] at h
theorem soundGs {sc : Scope} {X : Cx} {fb : Str → Bool} (c : CtxOk Γ N sc X) (hf : ∀ x, fb x = true → X.fn x = true) : ∀ (ts : Tgs) (es : List Expr), isTs N sc fb ts es = true → PGs X es (cGs X.K (slotsTs ts) (bindTs ts))
  | .nil, es, h => by
    cases es with
    | nil => exact dgs_nil
    | cons _ _ => simp [isTs] at h
  | .cons t ts, es, h => by
    cases es with
    | nil => simp [isTs] at h
    | cons e es =>
      simp only [isTs, Bool.and_eq_true] at h
      have hs : (assignEach (e :: es) X.env).map (·.2) = assign e X.env :: (assignEach es X.env).map (·.2) := by
        cases t with
        | nm i => cases e <;> first | rfl | simp [isT] at h
        | tp ts => cases e <;> first | rfl | simp [isT] at h
      exact dgs_cons (soundG c hf t e h.1) (soundGs c hf ts es h.2) hs
end
/-- a test that is its value's truth -/
def valTest : Expr → Bool
  | .UnaryOp .Not _ _ => false
  | .BoolOp .. => false
  | .IfExp .. => false
  | .Compare .. => false
  | _ => true
theorem val_test {e : Expr} (h : valTest e = true) (env : Env) (whole : Sem Value) : isTrue e env whole = (do let v ← whole; standAt e.pos; holding [v] (truthy v)) := by
  cases e with
  | UnaryOp op a p => cases op <;> first | rfl | cases h
  | BoolOp a b c => cases h
  | IfExp a b c d => cases h
  | Compare a b c d => cases h
  | _ => rfl
/-- what is no test of its own -/
def kindVal : Ex → Bool
  | .cmp .. => false
  | .chain .. => false
  | .and .. => false
  | .or .. => false
  | .not .. => false
  | .ite .. => false
  | _ => true
theorem isE_val {sc : Scope} {x : Ex} {e : Expr} (h : isE N sc x e = true) (k : kindVal x = true) : valTest e = true := by
  cases e with
  | BoolOp a b c => cases x <;> first | (exfalso; simp [isE] at h; done) | (cases k; done)
  | IfExp a b c d => cases x <;> first | (exfalso; simp [isE] at h; done) | (cases k; done)
  | Compare a b c d => cases x <;> first | (exfalso; simp [isE] at h; done) | (cases k; done)
  | UnaryOp op a p => cases x <;> first | (exfalso; simp [isE] at h; done) | (cases k; done) | (cases op <;> first | rfl | (exfalso; simp [isE] at h; done))
  | _ => rfl
theorem call_bi {X : Cx} (hc : X.calm = true) (hu : X.A.units + 64 < cLine) (b : Bi) : (∃ id, CallD X (.builtin id) b.fn ∧ bootBuiltins (Str.ofString b.nm) = some (.builtin id)) ∨ ∃ T, CallD X (.type T) b.fn ∧ bootBuiltins (Str.ofString b.nm) = some (.type T) := by
  cases b
  · exact .inl ⟨_, cd_len, by decide +kernel⟩
  · exact .inl ⟨_, cd_all hc, by decide +kernel⟩
  · exact .inr ⟨_, cd_list, by decide +kernel⟩
  · exact .inr ⟨_, cd_tuple, by decide +kernel⟩
  · exact .inl ⟨_, cd_min2 hc, by decide +kernel⟩
  · exact .inl ⟨_, cd_max2 hc, by decide +kernel⟩
  · exact .inr ⟨_, cd_int, by decide +kernel⟩
  · exact .inr ⟨_, cd_str, by decide +kernel⟩
  · exact .inl ⟨_, cd_sum hc, by decide +kernel⟩
  · exact .inl ⟨_, cd_sorted2 hc hu, by decide +kernel⟩
  · exact .inl ⟨_, cd_min1 hc hu, by decide +kernel⟩
  · exact .inl ⟨_, cd_max1 hc hu, by decide +kernel⟩
  · exact .inr ⟨_, cd_dict hc, by decide +kernel⟩
theorem bi_mem (b : Bi) : Str.ofString b.nm ∈ bnames ∧ Str.ofString b.nm ≠ "__name__" ∧ (Str.ofString b.nm == ("__debug__" : Str)) = false := by
  cases b <;> exact ⟨by decide +kernel, by decide +kernel, by decide +kernel⟩
theorem ty_mem (T : Ty) : Str.ofString T.name ∈ bnames := by
  cases T <;> decide +kernel
theorem DW'.congr {X : Cx} {W : WX} {e : Expr} {f g : Sls → R Bool} (h : DW' X W e f) (q : ∀ δ, f δ = g δ) : DW' X W e g := by
  have : f = g := funext q
  rw [← this]; exact h
theorem sem_not (a : Ex) (δ : Sls) : (((sem a δ).bind asB).bind fun c => R.ok (!c)) = (sem (.not a) δ).bind asB := by
  rw [sem]
  cases sem a δ with
  | ok d => cases d <;> rfl
  | exn _ => rfl
  | bad => rfl
theorem sem_and (a b : Ex) (δ : Sls) : (((sem a δ).bind asB).bind fun c => if c = true then (sem b δ).bind asB else R.ok false) = (sem (.and a b) δ).bind asB := by
  rw [sem]
  cases sem a δ with
  | ok d => cases d with
    | bool t => cases t <;> rfl
    | _ => rfl
  | exn _ => rfl
  | bad => rfl
theorem sem_or (a b : Ex) (δ : Sls) : (((sem a δ).bind asB).bind fun c => if c = true then R.ok true else (sem b δ).bind asB) = (sem (.or a b) δ).bind asB := by
  rw [sem]
  cases sem a δ with
  | ok d => cases d with
    | bool t => cases t <;> rfl
    | _ => rfl
  | exn _ => rfl
  | bad => rfl
theorem isEi_plain {sc : Scope} {x : Exi} {tg e : Expr} (h : isEi N sc x tg e = true) : plainE e = true := by
  cases x with
  | list a => exact isE_plain h
  | tup a => exact isE_plain h
  | str a => exact isE_plain h
  | _ => cases e <;> first | rfl | simp [isEi] at h
mutual
theorem soundB : ∀ (x : Ex) {sc : Scope} {X : Cx} {W : WX}, CtxOk Γ N sc X → L2N.Takes X W → (∀ e : Expr, isE N sc x e = true → Need Γ x → DE X W e (sem x)) ∧ (∀ e : Expr, isE N sc x e = true → notIte x = true → Need Γ x → DT X W e (fun δ => (sem x δ).bind asB)) ∧
    (∀ op vs pos, isE N sc x (.BoolOp op vs pos) = true → Need Γ x → DW' X W (.BoolOp op vs pos) (fun δ => (sem x δ).bind asB))
  | .var i, sc, X, W, c, tk => by
    have hE : ∀ e : Expr, isE N sc (.var i) e = true → Need Γ (.var i) → DE X W e (sem (.var i)) := fun e h nd => by
      cases e with
      | Name x pos =>
        simp only [isE, Bool.and_eq_true, decide_eq_true_eq] at h
        exact de_var (by rw [c.eN]; exact h.1.1) (by rw [c.eS]; exact vis_of h.1.2) (dbg_of h.2).1 (dbg_of h.2).2
      | _ => simp [isE] at h
    exact ⟨hE, fun e h ni nd => dt_val (hE e h nd) (val_test (isE_val h rfl) _), fun op vs pos h nd => by simp [isE] at h⟩
  | .int i, sc, X, W, c, tk => by
    have hE : ∀ e : Expr, isE N sc (.int i) e = true → Need Γ (.int i) → DE X W e (sem (.int i)) := fun e h nd => by
      cases e with
      | Constant k j pos => cases k with
        | int v =>
          simp only [isE, decide_eq_true_eq] at h
          subst h
          exact de_c pe_int fun F => .int _
        | _ => simp [isE] at h
      | _ => simp [isE] at h
    exact ⟨hE, fun e h ni nd => dt_val (hE e h nd) (val_test (isE_val h rfl) _), fun op vs pos h nd => by simp [isE] at h⟩
  | .str i, sc, X, W, c, tk => by
    have hE : ∀ e : Expr, isE N sc (.str i) e = true → Need Γ (.str i) → DE X W e (sem (.str i)) := fun e h nd => by
      cases e with
      | Constant k j pos => cases k with
        | str v =>
          simp only [isE, decide_eq_true_eq] at h
          subst h
          exact de_c pe_str fun F => .str _
        | _ => simp [isE] at h
      | _ => simp [isE] at h
    exact ⟨hE, fun e h ni nd => dt_val (hE e h nd) (val_test (isE_val h rfl) _), fun op vs pos h nd => by simp [isE] at h⟩
  | .bl i, sc, X, W, c, tk => by
    have hE : ∀ e : Expr, isE N sc (.bl i) e = true → Need Γ (.bl i) → DE X W e (sem (.bl i)) := fun e h nd => by
      cases e with
      | Constant k j pos => cases k with
        | bool v =>
          simp only [isE, decide_eq_true_eq] at h
          subst h
          exact de_c pe_bl fun F => .bl _
        | _ => simp [isE] at h
      | _ => simp [isE] at h
    exact ⟨hE, fun e h ni nd => dt_val (hE e h nd) (val_test (isE_val h rfl) _), fun op vs pos h nd => by simp [isE] at h⟩
  | .non, sc, X, W, c, tk => by
    have hE : ∀ e : Expr, isE N sc (.non) e = true → Need Γ (.non) → DE X W e (sem (.non)) := fun e h nd => by
      cases e with
      | Constant k j pos => cases k with
        | none => exact de_c pe_non fun F => .non
        | _ => simp [isE] at h
      | _ => simp [isE] at h
    exact ⟨hE, fun e h ni nd => dt_val (hE e h nd) (val_test (isE_val h rfl) _), fun op vs pos h nd => by simp [isE] at h⟩
  | .gint x i, sc, X, W, c, tk => by
    have hE : ∀ e : Expr, isE N sc (.gint x i) e = true → Need Γ (.gint x i) → DE X W e (sem (.gint x i)) := fun e h nd => by
      cases e with
      | Name y pos =>
        simp only [isE, Bool.and_eq_true, decide_eq_true_eq] at h
        obtain ⟨⟨rfl, h2⟩, h3⟩ := h
        obtain ⟨t, ht⟩ := nd
        exact de_c (pe_glob (c.gl h2) (by rw [c.eG]; exact ht) (v := .int i) ⟨t, rfl⟩ (dbg_of h3).1) fun F => .int _
      | _ => simp [isE] at h
    exact ⟨hE, fun e h ni nd => dt_val (hE e h nd) (val_test (isE_val h rfl) _), fun op vs pos h nd => by simp [isE] at h⟩
  | .gstr x i, sc, X, W, c, tk => by
    have hE : ∀ e : Expr, isE N sc (.gstr x i) e = true → Need Γ (.gstr x i) → DE X W e (sem (.gstr x i)) := fun e h nd => by
      cases e with
      | Name y pos =>
        simp only [isE, Bool.and_eq_true, decide_eq_true_eq] at h
        obtain ⟨⟨rfl, h2⟩, h3⟩ := h
        obtain ⟨t, ht⟩ := nd
        exact de_c (pe_glob (c.gl h2) (by rw [c.eG]; exact ht) (v := .str i) ⟨t, rfl⟩ (dbg_of h3).1) fun F => .str _
      | _ => simp [isE] at h
    exact ⟨hE, fun e h ni nd => dt_val (hE e h nd) (val_test (isE_val h rfl) _), fun op vs pos h nd => by simp [isE] at h⟩
  | .bin o a b, sc, X, W, c, tk => by
    have hE : ∀ e : Expr, isE N sc (.bin o a b) e = true → Need Γ (.bin o a b) → DE X W e (sem (.bin o a b)) := fun e h nd => by
      cases e with
      | BinOp l op r pos =>
        simp only [isE, Bool.and_eq_true, decide_eq_true_eq] at h
        obtain ⟨⟨rfl, h1⟩, h2⟩ := h
        exact de_bin (od_bop o) ((soundB a c tk).1 l h1 nd.1) ((soundB b c tk).1 r h2 nd.2)
      | _ => simp [isE] at h
    exact ⟨hE, fun e h ni nd => dt_val (hE e h nd) (val_test (isE_val h rfl) _), fun op vs pos h nd => by simp [isE] at h⟩
  | .neg a, sc, X, W, c, tk => by
    have hE : ∀ e : Expr, isE N sc (.neg a) e = true → Need Γ (.neg a) → DE X W e (sem (.neg a)) := fun e h nd => by
      cases e with
      | UnaryOp op x pos => cases op with
        | USub =>
          simp only [isE] at h
          exact de_neg ((soundB a c tk).1 x h nd)
        | _ => simp [isE] at h
      | _ => simp [isE] at h
    exact ⟨hE, fun e h ni nd => dt_val (hE e h nd) (val_test (isE_val h rfl) _), fun op vs pos h nd => by simp [isE] at h⟩
  | .cmp o a b, sc, X, W, c, tk => by
    have hE : ∀ e : Expr, isE N sc (.cmp o a b) e = true → Need Γ (.cmp o a b) → DE X W e (sem (.cmp o a b)) := fun e h nd => by
      cases e with
      | Compare l ops rs pos =>
        simp only [isE] at h
        split at h
        · rename_i l' op r p' e1
          cases e1
          simp only [Bool.and_eq_true, decide_eq_true_eq] at h
          obtain ⟨⟨rfl, h1⟩, h2⟩ := h
          exact de_cmp (od_cop c.units o) ((soundB a c tk).1 _ h1 nd.1) ((soundB b c tk).1 _ h2 nd.2) (plain_in (isE_plain h2) _)
        · cases h
      | _ => simp [isE] at h
    refine ⟨hE, fun e h ni nd => ?_, fun op vs pos h nd => by simp [isE] at h⟩
    cases e with
    | Compare l ops rs pos =>
      simp only [isE] at h
      split at h
      · rename_i e1
        cases e1
        simp only [Bool.and_eq_true, decide_eq_true_eq] at h
        obtain ⟨⟨rfl, h1⟩, h2⟩ := h
        exact dt_cmp (od_cop c.units o) ((soundB a c tk).1 _ h1 nd.1) ((soundB b c tk).1 _ h2 nd.2) (plain_in (isE_plain h2) _)
      · cases h
    | _ => simp [isE] at h
  | .chain o o' a b d, sc, X, W, c, tk => by
    have hE : ∀ e : Expr, isE N sc (.chain o o' a b d) e = true → Need Γ (.chain o o' a b d) → DE X W e (sem (.chain o o' a b d)) := fun e h nd => by
      cases e with
      | Compare l ops rs pos =>
        simp only [isE] at h
        split at h
        · rename_i e1
          cases e1
          simp only [Bool.and_eq_true, decide_eq_true_eq] at h
          obtain ⟨⟨⟨⟨rfl, rfl⟩, h1⟩, h2⟩, h3⟩ := h
          exact de_chain (od_cop c.units o) (od_cop c.units o') ((soundB a c tk).1 _ h1 nd.1) ((soundB b c tk).1 _ h2 nd.2.1) ((soundB d c tk).1 _ h3 nd.2.2) (plain_in (isE_plain h3) _)
        · cases h
      | _ => simp [isE] at h
    refine ⟨hE, fun e h ni nd => ?_, fun op vs pos h nd => by simp [isE] at h⟩
    cases e with
    | Compare l ops rs pos =>
      simp only [isE] at h
      split at h
      · rename_i e1
        cases e1
        simp only [Bool.and_eq_true, decide_eq_true_eq] at h
        obtain ⟨⟨⟨⟨rfl, rfl⟩, h1⟩, h2⟩, h3⟩ := h
        exact dt_chain (od_cop c.units o) (od_cop c.units o') ((soundB a c tk).1 _ h1 nd.1) ((soundB b c tk).1 _ h2 nd.2.1) ((soundB d c tk).1 _ h3 nd.2.2) (plain_in (isE_plain h3) _)
      · cases h
    | _ => simp [isE] at h
  | .and a b, sc, X, W, c, tk => by
    have hE : ∀ e : Expr, isE N sc (.and a b) e = true → Need Γ (.and a b) → DE X W e (sem (.and a b)) := fun e h nd => by
      cases e with
      | BoolOp op vs pos =>
        simp only [isE] at h
        split at h
        · rename_i e1
          cases e1
          simp only [Bool.and_eq_true] at h
          exact de_and ((soundB a c tk).1 _ h.1.1.1 nd.1) (de_one ((soundB b c tk).1 _ h.1.1.2 nd.2))
        · rename_i e1
          cases e1
          simp only [Bool.and_eq_true] at h
          exact de_and ((soundB a c tk).1 _ h.1.1.1 nd.1) ((soundB b c tk).1 _ h.1.1.2 nd.2)
        · cases h
      | _ => simp [isE] at h
    have hW : ∀ op vs pos, isE N sc (.and a b) (.BoolOp op vs pos) = true → Need Γ (.and a b) → DW' X W (.BoolOp op vs pos) (fun δ => (sem (.and a b) δ).bind asB) := fun op vs pos h nd => by
      simp only [isE] at h
      split at h
      · rename_i e1
        cases e1
        simp only [Bool.and_eq_true] at h
        exact DW'.congr (dw_and ((soundB a c tk).2.1 _ h.1.1.1 h.1.2 nd.1) (dw_and1 ((soundB b c tk).2.1 _ h.1.1.2 h.2 nd.2))) (sem_and a b)
      · rename_i e1
        cases e1
        simp only [Bool.and_eq_true] at h
        exact DW'.congr (dw_and ((soundB a c tk).2.1 _ h.1.1.1 h.1.2 nd.1) ((soundB b c tk).2.2 _ _ _ h.1.1.2 nd.2)) (sem_and a b)
      · cases h
    refine ⟨hE, fun e h ni nd => ?_, hW⟩
    cases e with
    | BoolOp op vs pos => exact (hW op vs pos h nd).dt
    | _ => simp [isE] at h
  | .or a b, sc, X, W, c, tk => by
    have hE : ∀ e : Expr, isE N sc (.or a b) e = true → Need Γ (.or a b) → DE X W e (sem (.or a b)) := fun e h nd => by
      cases e with
      | BoolOp op vs pos =>
        simp only [isE] at h
        split at h
        · rename_i e1
          cases e1
          simp only [Bool.and_eq_true] at h
          exact de_or ((soundB a c tk).1 _ h.1.1.1 nd.1) (de_one ((soundB b c tk).1 _ h.1.1.2 nd.2))
        · rename_i e1
          cases e1
          simp only [Bool.and_eq_true] at h
          exact de_or ((soundB a c tk).1 _ h.1.1.1 nd.1) ((soundB b c tk).1 _ h.1.1.2 nd.2)
        · cases h
      | _ => simp [isE] at h
    have hW : ∀ op vs pos, isE N sc (.or a b) (.BoolOp op vs pos) = true → Need Γ (.or a b) → DW' X W (.BoolOp op vs pos) (fun δ => (sem (.or a b) δ).bind asB) := fun op vs pos h nd => by
      simp only [isE] at h
      split at h
      · rename_i e1
        cases e1
        simp only [Bool.and_eq_true] at h
        exact DW'.congr (dw_or ((soundB a c tk).2.1 _ h.1.1.1 h.1.2 nd.1) (dw_or1 ((soundB b c tk).2.1 _ h.1.1.2 h.2 nd.2))) (sem_or a b)
      · rename_i e1
        cases e1
        simp only [Bool.and_eq_true] at h
        exact DW'.congr (dw_or ((soundB a c tk).2.1 _ h.1.1.1 h.1.2 nd.1) ((soundB b c tk).2.2 _ _ _ h.1.1.2 nd.2)) (sem_or a b)
      · cases h
    refine ⟨hE, fun e h ni nd => ?_, hW⟩
    cases e with
    | BoolOp op vs pos => exact (hW op vs pos h nd).dt
    | _ => simp [isE] at h
  | .not a, sc, X, W, c, tk => by
    have hE : ∀ e : Expr, isE N sc (.not a) e = true → Need Γ (.not a) → DE X W e (sem (.not a)) := fun e h nd => by
      cases e with
      | UnaryOp op x pos => cases op with
        | Not =>
          simp only [isE, Bool.and_eq_true] at h
          exact de_not ((soundB a c tk).1 x h.1 nd)
        | _ => simp [isE] at h
      | _ => simp [isE] at h
    refine ⟨hE, fun e h ni nd => ?_, fun op vs pos h nd => by simp [isE] at h⟩
    cases e with
    | UnaryOp op x pos => cases op with
      | Not =>
        simp only [isE, Bool.and_eq_true] at h
        exact DT.congr (dt_not ((soundB a c tk).2.1 x h.1 h.2 nd)) (sem_not a)
      | _ => simp [isE] at h
    | _ => simp [isE] at h
  | .ite t a b, sc, X, W, c, tk => by
    have hE : ∀ e : Expr, isE N sc (.ite t a b) e = true → Need Γ (.ite t a b) → DE X W e (sem (.ite t a b)) := fun e h nd => by
      cases e with
      | IfExp x y z pos =>
        simp only [isE, Bool.and_eq_true] at h
        obtain ⟨⟨⟨h1, h2⟩, h3⟩, h4⟩ := h
        exact de_ite ((soundB t c tk).2.1 x h1 h2 nd.1) ((soundB a c tk).1 y h3 nd.2.1) ((soundB b c tk).1 z h4 nd.2.2)
      | _ => simp [isE] at h
    exact ⟨hE, (fun e h ni nd => by cases ni), (fun op vs pos h nd => by simp [isE] at h)⟩
  | .tup es, sc, X, W, c, tk => by
    have hE : ∀ e : Expr, isE N sc (.tup es) e = true → Need Γ (.tup es) → DE X W e (sem (.tup es)) := fun e h nd => by
      cases e with
      | Tuple l k pos =>
        simp only [isE] at h
        exact de_tup (soundL es c tk l h nd)
      | _ => simp [isE] at h
    exact ⟨hE, fun e h ni nd => dt_val (hE e h nd) (val_test (isE_val h rfl) _), fun op vs pos h nd => by simp [isE] at h⟩
  | .lst es, sc, X, W, c, tk => by
    have hE : ∀ e : Expr, isE N sc (.lst es) e = true → Need Γ (.lst es) → DE X W e (sem (.lst es)) := fun e h nd => by
      cases e with
      | List l pos =>
        simp only [isE] at h
        exact de_lst (soundL es c tk l h nd)
      | _ => simp [isE] at h
    exact ⟨hE, fun e h ni nd => dt_val (hE e h nd) (val_test (isE_val h rfl) _), fun op vs pos h nd => by simp [isE] at h⟩
  | .call f n G es, sc, X, W, c, tk => by
    have hE : ∀ e : Expr, isE N sc (.call f n G es) e = true → Need Γ (.call f n G es) → DE X W e (sem (.call f n G es)) := fun e h nd => by
      cases e with
      | Call fn args kws pos =>
        simp only [isE] at h
        split at h
        · rename_i x p l pos' e1
          cases e1
          simp only [Bool.and_eq_true, decide_eq_true_eq] at h
          obtain ⟨⟨⟨⟨rfl, h2⟩, h3⟩, h4⟩, h5⟩ := h
          have da := soundL es c tk args h5 nd.2
          cases args with
          | nil =>
            subst h4
            cases es with
            | nil => exact de_call0 (c.fn nd.1) c.room (c.gl h2) tk (dbg_of h3).1
            | cons a r => simp [isEs] at h5
          | cons e0 l =>
            have h5' := h5
            cases es with
            | nil => simp [isEs] at h5
            | cons a r =>
              simp only [isEs, Bool.and_eq_true] at h5
              exact de_call (c.fn nd.1) c.room (c.gl h2) tk h4 (fun δ ds q => (semL_len h5' q).trans h4) da (dbg_of h3).1 (plain_star (isE_plain h5.1) _ _) (back_plain h5.2 _)
        · cases h
      | _ => simp [isE] at h
    exact ⟨hE, fun e h ni nd => dt_val (hE e h nd) (val_test (isE_val h rfl) _), fun op vs pos h nd => by simp [isE] at h⟩
  | .bi b es, sc, X, W, c, tk => by
    have hE : ∀ e : Expr, isE N sc (.bi b es) e = true → Need Γ (.bi b es) → DE X W e (sem (.bi b es)) := fun e h nd => by
      cases e with
      | Call fn args kws pos =>
        simp only [isE] at h
        split at h
        · rename_i x p a l pos' e1
          cases e1
          simp only [Bool.and_eq_true, decide_eq_true_eq] at h
          obtain ⟨⟨rfl, h2⟩, h3⟩ := h
          have da := soundL es c tk _ h3 nd
          obtain ⟨m1, m2, m3⟩ := bi_mem b
          cases es with
          | nil => simp [isEs] at h3
          | cons y r =>
            have h3' := h3
            simp only [isEs, Bool.and_eq_true] at h3
            rcases call_bi c.calm c.units b with ⟨id, h5, h6⟩ | ⟨T, h5, h6⟩
            · exact de_callB h5 (c.gl h2) (c.none m1) h6 da m2 m3 (plain_star (isE_plain h3.1) _ _) (back_plain h3.2 _)
            · exact de_callTy h5 (c.gl h2) (c.none m1) h6 da m2 m3 (plain_star (isE_plain h3.1) _ _) (back_plain h3.2 _)
        · cases h
      | _ => simp [isE] at h
    exact ⟨hE, fun e h ni nd => dt_val (hE e h nd) (val_test (isE_val h rfl) _), fun op vs pos h nd => by simp [isE] at h⟩
  | .isi T a, sc, X, W, c, tk => by
    have hE : ∀ e : Expr, isE N sc (.isi T a) e = true → Need Γ (.isi T a) → DE X W e (sem (.isi T a)) := fun e h nd => by
      cases e with
      | Call fn args kws pos =>
        simp only [isE] at h
        split at h
        · rename_i x p l y p2 pos' e1
          cases e1
          simp only [Bool.and_eq_true, decide_eq_true_eq] at h
          obtain ⟨⟨⟨⟨rfl, h2⟩, rfl⟩, h4⟩, h5⟩ := h
          exact de_isi (c.gl h2) (c.none (by decide +kernel)) (c.gl h4) (c.none (ty_mem T)) ((soundB a c tk).1 _ h5 nd) (plain_star (isE_plain h5) _)
        · cases h
      | _ => simp [isE] at h
    exact ⟨hE, fun e h ni nd => dt_val (hE e h nd) (val_test (isE_val h rfl) _), fun op vs pos h nd => by simp [isE] at h⟩
  | .idx a b, sc, X, W, c, tk => by
    have hE : ∀ e : Expr, isE N sc (.idx a b) e = true → Need Γ (.idx a b) → DE X W e (sem (.idx a b)) := fun e h nd => by
      cases e with
      | Subscript l r pos =>
        simp only [isE, Bool.and_eq_true] at h
        exact de_idx ((soundB a c tk).1 l h.1 nd.1) ((soundB b c tk).1 r h.2 nd.2) (plain_ix (isE_plain h.2))
      | _ => simp [isE] at h
    exact ⟨hE, fun e h ni nd => dt_val (hE e h nd) (val_test (isE_val h rfl) _), fun op vs pos h nd => by simp [isE] at h⟩
  | .dget a b, sc, X, W, c, tk => by
    have hE : ∀ e : Expr, isE N sc (.dget a b) e = true → Need Γ (.dget a b) → DE X W e (sem (.dget a b)) := fun e h nd => by
      cases e with
      | Subscript l r pos =>
        simp only [isE, Bool.and_eq_true] at h
        exact de_dget c.units ((soundB a c tk).1 l h.1 nd.1) ((soundB b c tk).1 r h.2 nd.2) (plain_nosl (isE_plain h.2))
      | _ => simp [isE] at h
    exact ⟨hE, fun e h ni nd => dt_val (hE e h nd) (val_test (isE_val h rfl) _), fun op vs pos h nd => by simp [isE] at h⟩
  | .cut a lo hi, sc, X, W, c, tk => by
    have hE : ∀ e : Expr, isE N sc (.cut a lo hi) e = true → Need Γ (.cut a lo hi) → DE X W e (sem (.cut a lo hi)) := fun e h nd => by
      cases e with
      | Subscript l r pos =>
        simp only [isE] at h
        split at h
        · rename_i e1
          cases e1
          simp only [Bool.and_eq_true] at h
          exact de_cut ((soundB a c tk).1 l h.1.1 nd.1) (soundO lo c tk _ h.1.2 nd.2.1) (soundO hi c tk _ h.2 nd.2.2)
        · cases h
      | _ => simp [isE] at h
    exact ⟨hE, fun e h ni nd => dt_val (hE e h nd) (val_test (isE_val h rfl) _), fun op vs pos h nd => by simp [isE] at h⟩
  | .rev a, sc, X, W, c, tk => by
    have hE : ∀ e : Expr, isE N sc (.rev a) e = true → Need Γ (.rev a) → DE X W e (sem (.rev a)) := fun e h nd => by
      cases e with
      | Subscript l r pos =>
        simp only [isE] at h
        split at h
        · rename_i e1
          cases e1
          exact de_rev ((soundB a c tk).1 l h nd)
        · cases h
      | _ => simp [isE] at h
    exact ⟨hE, fun e h ni nd => dt_val (hE e h nd) (val_test (isE_val h rfl) _), fun op vs pos h nd => by simp [isE] at h⟩
  | .lzip a b, sc, X, W, c, tk => by
    have hE : ∀ e : Expr, isE N sc (.lzip a b) e = true → Need Γ (.lzip a b) → DE X W e (sem (.lzip a b)) := fun e h nd => by
      cases e with
      | Call fn args kws pos =>
        simp only [isE] at h
        split at h
        · rename_i e1
          cases e1
          simp only [Bool.and_eq_true, decide_eq_true_eq] at h
          obtain ⟨⟨⟨⟨⟨rfl, h1⟩, rfl⟩, h2⟩, h3⟩, h4⟩ := h
          exact de_listZip c.calm (c.gl h2) (c.none (by decide +kernel)) (c.gl h1) (c.none (by decide +kernel)) ((soundB a c tk).1 _ h3 nd.1) ((soundB b c tk).1 _ h4 nd.2) (plain_star (isE_plain h3) _) (plain_star (isE_plain h4) _)
        · cases h
      | _ => simp [isE] at h
    exact ⟨hE, fun e h ni nd => dt_val (hE e h nd) (val_test (isE_val h rfl) _), fun op vs pos h nd => by simp [isE] at h⟩
  | .lrange it, sc, X, W, c, tk => by
    have hE : ∀ e : Expr, isE N sc (.lrange it) e = true → Need Γ (.lrange it) → DE X W e (sem (.lrange it)) := fun e h nd => by
      cases e with
      | Call fn args kws pos =>
        simp only [isE] at h
        split at h
        · rename_i e1
          cases e1
          simp only [Bool.and_eq_true, decide_eq_true_eq] at h
          obtain ⟨⟨⟨rfl, h1⟩, h2⟩, h3⟩ := h
          cases it with
          | r1 a =>
            simp only [isEi] at h3
            split at h3
            · simp only [Bool.and_eq_true, decide_eq_true_eq] at h3
              obtain ⟨⟨rfl, h4⟩, h5⟩ := h3
              exact de_lrange1 c.calm (c.gl h4) (c.none (by decide +kernel)) (c.gl h1) (c.none (by decide +kernel)) ((soundB a c tk).1 _ h5 nd) (plain_star (isE_plain h5) _)
            · cases h3
          | r2 a b =>
            simp only [isEi] at h3
            split at h3
            · simp only [Bool.and_eq_true, decide_eq_true_eq] at h3
              obtain ⟨⟨⟨rfl, h4⟩, h5⟩, h6⟩ := h3
              exact de_lrange2 c.calm (c.gl h4) (c.none (by decide +kernel)) (c.gl h1) (c.none (by decide +kernel)) ((soundB a c tk).1 _ h5 nd.1) ((soundB b c tk).1 _ h6 nd.2) (plain_star (isE_plain h5) _) (plain_star (isE_plain h6) _)
            · cases h3
          | r3 a b d =>
            simp only [isEi] at h3
            split at h3
            · simp only [Bool.and_eq_true, decide_eq_true_eq] at h3
              obtain ⟨⟨⟨⟨rfl, h4⟩, h5⟩, h6⟩, h7⟩ := h3
              exact de_lrange3 c.calm (c.gl h4) (c.none (by decide +kernel)) (c.gl h1) (c.none (by decide +kernel)) ((soundB a c tk).1 _ h5 nd.1) ((soundB b c tk).1 _ h6 nd.2.1) ((soundB d c tk).1 _ h7 nd.2.2) (plain_star (isE_plain h5) _) (plain_star (isE_plain h6) _) (plain_star (isE_plain h7) _)
            · cases h3
          | _ => cases h2
        · cases h
      | _ => simp [isE] at h
    exact ⟨hE, fun e h ni nd => dt_val (hE e h nd) (val_test (isE_val h rfl) _), fun op vs pos h nd => by simp [isE] at h⟩
  | .sset a, sc, X, W, c, tk => by
    have hE : ∀ e : Expr, isE N sc (.sset a) e = true → Need Γ (.sset a) → DE X W e (sem (.sset a)) := fun e h nd => by
      cases e with
      | Call fn args kws pos =>
        simp only [isE] at h
        split at h
        · rename_i e1
          cases e1
          simp only [Bool.and_eq_true, decide_eq_true_eq] at h
          obtain ⟨⟨⟨⟨rfl, h1⟩, rfl⟩, h2⟩, h3⟩ := h
          exact de_sset c.calm (c.gl h2) (c.none (by decide +kernel)) (c.gl h1) (c.none (by decide +kernel)) ((soundB a c tk).1 _ h3 nd) (plain_star (isE_plain h3) _)
        · cases h
      | _ => simp [isE] at h
    exact ⟨hE, fun e h ni nd => dt_val (hE e h nd) (val_test (isE_val h rfl) _), fun op vs pos h nd => by simp [isE] at h⟩
  | .meth m a b, sc, X, W, c, tk => by
    have hE : ∀ e : Expr, isE N sc (.meth m a b) e = true → Need Γ (.meth m a b) → DE X W e (sem (.meth m a b)) := fun e h nd => by
      cases e with
      | Call fn args kws pos =>
        simp only [isE] at h
        split at h
        · rename_i e1
          cases e1
          simp only [Bool.and_eq_true, decide_eq_true_eq] at h
          obtain ⟨⟨⟨⟨rfl, h1⟩, h2⟩, h3⟩, h4⟩ := h
          exact de_meth c.units65 m ((soundB a c tk).1 _ h3 nd.1) ((soundB b c tk).1 _ h4 nd.2) (recv_base h2) h1 (plain_star (isE_plain h4) _)
        · cases h
      | _ => simp [isE] at h
    exact ⟨hE, fun e h ni nd => dt_val (hE e h nd) (val_test (isE_val h rfl) _), fun op vs pos h nd => by simp [isE] at h⟩
  | .comp x t it d own, sc, X, W, c, tk => by
    have hE : ∀ e : Expr, isE N sc (.comp x t it d own) e = true → Need Γ (.comp x t it d own) → DE X W e (sem (.comp x t it d own)) := fun e h nd => by
      cases e with
      | ListComp elt gs scope pos =>
        simp only [isE] at h
        split at h
        · rename_i e1
          cases e1
          simp only [Bool.and_eq_true] at h
          obtain ⟨⟨⟨⟨⟨h1, h2⟩, h3⟩, h4⟩, h5⟩, h6⟩ := h
          have ok := blkOk_by h5
          refine de_lc c.calm (by rw [c.eN]; exact c.nd) (soundI it c tk _ _ h2 nd.2.1) (by rw [c.eN, c.eS]; exact ok) (fun s H C cl fp => soundG c.blk (fun x h => h) t _ h1) (fun i hi => of_decide_eq_true (List.all_eq_true.mp h6 i hi)) (fun s H C cl fp => ?_) (fun s H C cl fp => ((soundB x c.blk takesW0).1 _ h4 nd.1).pe) (plain_fold (isEi_plain h2) _)
          exact soundC d c.blk takesW0 _ h3 nd.2.2
        · cases h
      | _ => simp [isE] at h
    exact ⟨hE, fun e h ni nd => dt_val (hE e h nd) (val_test (isE_val h rfl) _), fun op vs pos h nd => by simp [isE] at h⟩
theorem soundL : ∀ (xs : Exs) {sc : Scope} {X : Cx} {W : WX}, CtxOk Γ N sc X → L2N.Takes X W → ∀ es : List Expr, isEs N sc xs es = true → NeedL Γ xs → DA X W es (semL xs)
  | .nil, sc, X, W, c, tk, es, h, nd => by
    cases es with
    | nil => exact da_nil
    | cons _ _ => simp [isEs] at h
  | .cons a r, sc, X, W, c, tk, es, h, nd => by
    cases es with
    | nil => simp [isEs] at h
    | cons e es =>
      simp only [isEs, Bool.and_eq_true] at h
      exact da_cons ((soundB a c tk).1 e h.1 nd.1) (soundL r c tk es h.2 nd.2) (plain_star (isE_plain h.1) _ _)
theorem soundO : ∀ (x : Exo) {sc : Scope} {X : Cx} {W : WX}, CtxOk Γ N sc X → L2N.Takes X W → ∀ e : Option Expr, isEo N sc x e = true → NeedO Γ x → DO X W e (semO x)
  | .none, sc, X, W, c, tk, e, h, nd => by
    cases e with
    | none => exact do_none
    | some _ => simp [isEo] at h
  | .some a, sc, X, W, c, tk, e, h, nd => by
    cases e with
    | none => simp [isEo] at h
    | some e =>
      simp only [isEo] at h
      exact do_some ((soundB a c tk).1 e h nd)
theorem soundC : ∀ (x : Exo) {sc : Scope} {X : Cx} {W : WX}, CtxOk Γ N sc X → L2N.Takes X W → ∀ es : List Expr, isEc N sc x es = true → NeedO Γ x → PTs X es (cT X.K X.mg W (semC x))
  | .none, sc, X, W, c, tk, es, h, nd => by
    cases es with
    | nil => exact ⟨fun pins s σ H Q I ⟨F, δ, rs, q⟩ => pts_nil.run pins s σ H Q I (Post.here rs.same q rfl)⟩
    | cons _ _ => simp [isEc] at h
  | .some a, sc, X, W, c, tk, es, h, nd => by
    cases es with
    | nil => simp [isEc] at h
    | cons e es => cases es with
      | nil =>
        simp only [isEc, Bool.and_eq_true] at h
        exact pts_one ((soundB a c tk).2.1 e h.1 h.2 nd).pt
      | cons _ _ => simp [isEc] at h
theorem soundI : ∀ (x : Exi) {sc : Scope} {X : Cx} {W : WX}, CtxOk Γ N sc X → L2N.Takes X W → ∀ tg e : Expr, isEi N sc x tg e = true → NeedI Γ x → DI X W tg e (semI x)
  | .list a, sc, X, W, c, tk, tg, e, h, nd => by
    simp only [isEi] at h
    exact di_list ((soundB a c tk).1 e h nd)
  | .tup a, sc, X, W, c, tk, tg, e, h, nd => by
    simp only [isEi] at h
    exact di_tup ((soundB a c tk).1 e h nd)
  | .str a, sc, X, W, c, tk, tg, e, h, nd => by
    simp only [isEi] at h
    exact di_str ((soundB a c tk).1 e h nd)
  | .r1 a, sc, X, W, c, tk, tg, e, h, nd => by
    simp only [isEi] at h
    split at h
    · simp only [Bool.and_eq_true, decide_eq_true_eq] at h
      obtain ⟨⟨rfl, h2⟩, h3⟩ := h
      exact di_range1 (c.gl h2) (c.none (by decide +kernel)) ((soundB a c tk).1 _ h3 nd) (plain_star (isE_plain h3) _)
    · cases h
  | .r2 a b, sc, X, W, c, tk, tg, e, h, nd => by
    simp only [isEi] at h
    split at h
    · simp only [Bool.and_eq_true, decide_eq_true_eq] at h
      obtain ⟨⟨⟨rfl, h2⟩, h3⟩, h4⟩ := h
      exact di_range2 (c.gl h2) (c.none (by decide +kernel)) ((soundB a c tk).1 _ h3 nd.1) ((soundB b c tk).1 _ h4 nd.2) (plain_star (isE_plain h3) _) (plain_star (isE_plain h4) _)
    · cases h
  | .r3 a b d, sc, X, W, c, tk, tg, e, h, nd => by
    simp only [isEi] at h
    split at h
    · simp only [Bool.and_eq_true, decide_eq_true_eq] at h
      obtain ⟨⟨⟨⟨rfl, h2⟩, h3⟩, h4⟩, h5⟩ := h
      exact di_range3 (c.gl h2) (c.none (by decide +kernel)) ((soundB a c tk).1 _ h3 nd.1) ((soundB b c tk).1 _ h4 nd.2.1) ((soundB d c tk).1 _ h5 nd.2.2) (plain_star (isE_plain h3) _) (plain_star (isE_plain h4) _) (plain_star (isE_plain h5) _)
    · cases h
  | .zip a b, sc, X, W, c, tk, tg, e, h, nd => by
    simp only [isEi] at h
    split at h
    · simp only [Bool.and_eq_true, decide_eq_true_eq] at h
      obtain ⟨⟨⟨⟨h0, rfl⟩, h2⟩, h3⟩, h4⟩ := h
      cases tg with
      | Tuple es k p => exact di_zipM (c.gl h2) (c.none (by decide +kernel)) ((soundB a c tk).1 _ h3 nd.1) ((soundB b c tk).1 _ h4 nd.2) (plain_star (isE_plain h3) _) (plain_star (isE_plain h4) _)
      | _ => cases h0
    · cases h
  | .enum a, sc, X, W, c, tk, tg, e, h, nd => by
    simp only [isEi] at h
    split at h
    · simp only [Bool.and_eq_true, decide_eq_true_eq] at h
      obtain ⟨⟨⟨h0, rfl⟩, h2⟩, h3⟩ := h
      cases tg with
      | Tuple es k p => exact di_enumM (c.gl h2) (c.none (by decide +kernel)) ((soundB a c tk).1 _ h3 nd) (plain_star (isE_plain h3) _)
      | _ => cases h0
    · cases h
end
end
end DW
/-! The data layer, part S: try, except .. as e: return f(e). -/
namespace DW
open PySem PySem.Spec PyProof.Rows L2
abbrev noX : XK := fun _ _ _ => False
/-- what a def promises that is handed the exception which is handled: it raises nothing -/
def FnE (P : Program) (w : World) (K : PySem.W.Frag) (mg : Str → Option Value) (base : Heap) (k : Nat) (f : Addr) (fd : FuncData) (ps : List Str) (sp : Addr × Obj → List V → Hp → VK → Prop) : Prop :=
  ∀ (A : Around) (outer : List Env) (s : Shared) (H : Hp) (us : List Value) (vs : List V) (Q : VK) (p : Addr × Obj), L2H.RoomH k A → L2H.PinOk outer H s p → Env0 P w K mg base A outer s H → BindsTo s fd ⟨us, []⟩ (ps.zip us) → vs.length = ps.length → Vals vs us → sp p vs H Q →
    codeAny (model P w) A (.call (.ref f) ⟨us, []⟩) (CR (L2N.CX P w) outer P w H s Q noX) s
section
variable {P : Program} {w : World} {K : PySem.W.Frag} {mg : Str → Option Value} {base : Heap} {k : Nat}
theorem fn_hot {f : Addr} {nm qn : Str} {pr : Arguments} {bd : List Stmt} {sc : Scope} {v1 v2 v3 v4 cdv v5 oc : Value} {an od : Option Addr} {osl : Array (Option Value)} {N ps : List Str} {sp : Addr × Obj → List V → Hp → VK → Prop}
    (look : K.lookup f = some ⟨oc, od, .func (PySem.W.fnOf nm qn pr bd sc v1 v2 v3 v4 an cdv v5), osl⟩) (code : PySem.W.codeIn K cdv qn = true) (S : FnScope N ps sc)
    (body : ∀ (A : Around) (outer : List Env) (s : Shared) (H : Hp) (vs : List V) (Q : VK) (p : Addr × Obj), vs.length = ps.length → L2H.RoomH k (A.deeper (envOfC qn sc s.heap.objs.size f cdv)) → sp p vs H Q →
      ∃ t, PSs (L2H.cxH (L2N.CX P w) P w K mg base N qn sc f cdv A outer s H noX p) bd t ∧ t { nx := fun _ H' => Q .non H', rt := Q } (L2.start N vs) H) :
    FnE P w K mg base (k + 1) f (PySem.W.fnOf nm qn pr bd sc v1 v2 v3 v4 an cdv v5) ps sp := by
  intro A outer s H us vs Q p room pin e0 bi hlen rel hsp
  have inK : K.In s.heap := e0.mod.kin.keeps fun b o q => (e0.bs b o q).1
  have free := e0.mod.nolimit.keeps fun b o q => (e0.bs b o q).1
  refine codeAny_call_function room.depth (inK _ _ look) rfl S.co S.gen rfl (PySem.W.codeRec_of inK code) ?_
  refine bi _ _ _ _ (wpAny_newFunctionEnv_cells S.kind (fun y hy => ?_) fun env he s1 there => ?_)
  · exact (S.par y.1 (List.of_mem_zip hy).1).elim .inl fun q => .inr ⟨q, PySem.W.cellsFrom_some _ _ _ (.inl q)⟩
  · subst he
    obtain ⟨t, run, wish⟩ := body A outer s H vs Q p hlen (room.deeper _) hsp
    have I0 := L2H.inv_startH (CX := L2N.CX P w) (P := P) (w := w) (K := K) (mg := mg) (base := base) (N := N) (ps := ps) (qual := qn) (scope := sc) (f := f) (cd := cdv) (A := A) (outer := outer) (E := noX) S pin e0 hlen rel there
    refine ⟨free.keeps there.toInCall.keep, codeAny_func (wpAny_mono (run.run [] s1 _ H _ I0 wish) (fun fl s' q => ?_) fun e s' q => q)⟩
    cases fl with
    | ret u => exact let ⟨v, _, H', J, r, z⟩ := q; ⟨v, H', J.os, J.bare, J.base, J.hok, r, z⟩
    | next => exact let ⟨_, H', J, z⟩ := q; ⟨.non, H', J.os, J.bare, J.base, J.hok, rfl, z⟩
    | brk => exact let ⟨_, _, _, z⟩ := q; z.elim
    | cont => exact let ⟨_, _, _, z⟩ := q; z.elim
end
section
variable {X : Cx} {k : Nat} {f : Addr} {fd : FuncData} {ps : List Str} {sp : Addr × Obj → List V → Hp → VK → Prop}
/-- f(e), e the exception that is handled -/
theorem pe_hot {x e : Str} {i : Nat} {p : Addr × Obj} {q q2 pos : Pos} (F : FnE X.prog X.w X.K X.mg X.base k f fd ps sp) (hr : L2H.RoomH k X.A) (hg : Gl X x) (hm : X.mg x = some (.ref f)) (hk : PySem.W.keepIn X.K (.ref f) = true) (hb : Binds X.K fd ps []) (hps : ps.length = 1) (hp : p ∈ X.pn)
    (hdb : (x == ("__debug__" : Str)) = false) (hN : X.N[i]? = some e) (hv : Vis X.env.scope e) (hd : (e == ("__debug__" : Str)) = false) (hcd : (e == ("__classdict__" : Str)) = false) :
    PE X (.Call (.Name x q) [.Name e q2] [] pos) (fun σ H Q => σ.length = X.N.length → ∃ v, σ[i]? = some (some v) ∧ sp p [v] H Q) := by
  have arg : PA X [.Name e q2] (tCons (tVar i) tNil) := pa_cons (pe_var hN hv hd hcd) pa_nil rfl
  refine ⟨fun pins s σ H Q I hh => ?_⟩
  obtain ⟨v, hσ, hsp⟩ := hh I.len
  refine wpAny_Call_Name_kw (ld_glob I hg hm ?_ hdb)
  refine PySem.W.callWith_K (h₀ := X.base) I.ok.mod.kin hk (thn (arg.run pos pins s σ H (fun vs H1 => vs = [v] ∧ H1 = H) I ⟨v, hσ, rfl, rfl⟩) fun us s1 ⟨vs, H1, I1, rel, ev, eH⟩ => ⟨I1.kIn, ?_⟩) rfl rfl
  subst ev eH
  have hl : us.length = ps.length := by rw [← rel.length, hps]; rfl
  have bs := hb s1 us I1.kIn (by rw [List.append_nil]; exact hl)
  rw [List.append_nil] at bs
  obtain ⟨a1, a2, a3, a4, a5⟩ := I1.pin p (List.mem_append_left _ hp)
  refine wpAny_call (codeAny_mono (F X.A X.stack s1 H1 us [v] Q p hr ⟨a1, a2, fun hm => (List.mem_cons.mp (I1.stkSub p.1 hm)).elim a3 a4, a5⟩ I1.env0 bs (by rw [hps]; rfl) rel hsp) fun r s' hq => ?_)
  cases r with
  | error e =>
    obtain ⟨_, _, _, _, _, _, _, _, _, _, _, _, z⟩ := hq
    exact z.elim
  | ok fl =>
    cases fl with
    | ret u => exact I1.after hq
    | next => exact False.elim hq
    | brk => exact False.elim hq
    | cont => exact False.elim hq
end
/-- what f(e) is worth, by the name of e's class -/
def spE (K : PySem.W.Frag) (mg : Str → Option Value) (G : Str → R D) : Addr × Obj → List V → Hp → VK → Prop := fun p vs H Q =>
  vs = [.ref p.1] ∧ p.2.dict = none ∧ (∃ fs, p.2.data = .fields fs) ∧ ∃ c d F, G c = .ok d ∧ mg c = some p.2.cls ∧ Same F H ∧ ∀ v F' H', Ext F H F' H' → Rp K F' v d → Q v H'
/-- the class that is caught, and the def that tells of it -/
structure TryOk (Γ : Gm) (f : Str) (G : Str → R D) : Prop where
  ex : ∃ (CD fa : Addr) (fd : FuncData) (ps : List Str), Γ.mg "DueError" = some (.ref CD) ∧ Γ.mg f = some (.ref fa) ∧ PySem.W.keepIn Γ.K (.ref fa) = true ∧ ps.length = 1 ∧ Binds Γ.K fd ps [] ∧
    (∀ c d u, G c = .ok d → Γ.mg c = some u → PySem.W.exmOne Γ.K u (.ref CD) = some true) ∧ FnE Γ.P Γ.w Γ.K Γ.mg Γ.base Γ.k fa fd ps (spE Γ.K Γ.mg G)
def sTry (fb : Sls → R Fl) (G : Str → R D) : Sls → R Fl := fun δ => match fb δ with
  | .ok fl => .ok fl
  | .exn c => (noExn (G c)).bind fun d => .ok (.rt d)
  | .bad => .bad
theorem CtxOk.tr {Γ : Gm} {N : List Str} {sc : Scope} {X : Cx} (c : CtxOk Γ N sc X) (pn : List (Addr × Obj)) (xe : Value → Shared → Prop) : CtxOk Γ N sc (X.tr pn xe) := ⟨c.eP, c.eW, c.eK, c.eG, c.eB, c.eN, c.eS, c.calm, c.room, c.nd, c.bl⟩
theorem ds_try {Γ : Gm} {N : List Str} {sc : Scope} {X : Cx} {W : WX} {f e : Str} {G : Str → R D} {i : Nat} {body : List Stmt} {fb : Sls → R Fl} {np q q2 cpos rpos pos' pos : Pos} (c : CtxOk Γ N sc X) (T : TryOk Γ f G) (hs : X.stack = X.env :: X.outer) (hf : X.env.frame = some X.env.locals) (tk : L2N.Takes X W)
    (hgD : Gl X "DueError") (hg : Gl X f) (hdb : (f == ("__debug__" : Str)) = false) (hi : N[i]? = some e) (hl : sc.names.lookup e = some .local) (hd : (e == ("__debug__" : Str)) = false) (hcd : (e == ("__classdict__" : Str)) = false)
    (hb : ∀ (W : WX) (pn : List (Addr × Obj)) (xe : Value → Shared → Prop), L2N.Takes (X.tr pn xe) W → PassesOwn (model X.prog X.w) X.A X.env xe → DSs (X.tr pn xe) W body fb) :
    DS X W (.Try body [.ExceptHandler (some (.Name "DueError" np)) (some e) [.Return (some (.Call (.Name f q) [.Name e q2] [] cpos)) rpos] pos'] [] [] pos) (sTry fb G) := by
  obtain ⟨CD, fa, fd, ps, h1, h2, h3, h4, h5, h6, h7⟩ := T.ex
  have hiX : X.N[i]? = some e := by rw [c.eN]; exact hi
  have hlX : X.env.scope.names.lookup e = some .local := by rw [c.eS]; exact hl
  have hlt : i < X.N.length := (List.getElem?_eq_some_iff.mp hiX).1
  have nm : Names X "DueError" (.ref CD) := ⟨hgD, by decide, .inl (by rw [c.eG]; exact h1)⟩
  let ts : Addr → Value → Option Addr → TS := fun a cls d => fun E σ H => σ.length = X.N.length → σ[i]? = some (some (.ref a)) ∧ d = none ∧ ∃ k d F, G k = .ok d ∧ X.mg k = some cls ∧ Same F H ∧ ∀ v F' H', Ext F H F' H' → Rp X.K F' v d → E.rt v H'
  refine PS.imp (L2N.ps_try_as (Wout := W) (tb := fun W => cS X.K X.mg W fb) (ts := ts) hs hf (by rw [c.eN]; exact c.nd) hiX hlX nm tk hb fun a oe cls d pn hz hfs => ?_) fun E σ H ⟨F0, B, F, δ, rs, h⟩ => ⟨F0, B, F, δ, rs, ?_⟩
  · have FX : FnE X.prog X.w X.K X.mg X.base Γ.k fa fd ps (spE Γ.K Γ.mg G) := by rw [c.eP, c.eW, c.eK, c.eG, c.eB]; exact h7
    have room : L2H.RoomH Γ.k (X.suite a ((a, oe) :: pn)).A := ⟨c.room.dp, c.room.un⟩
    refine PSs.imp (pss_cons (ps_ret (pe_hot (X := X.suite a ((a, oe) :: pn)) (p := (a, oe)) FX room hg (by show X.mg f = _; rw [c.eG]; exact h2) (by show PySem.W.keepIn X.K _ = _; rw [c.eK]; exact h3) (by show Binds X.K _ _ _; rw [c.eK]; exact h5) h4 List.mem_cons_self hdb hiX (.inl hlX) hd hcd)) pss_nil) fun E σ H h => ?_
    intro hlen
    obtain ⟨z1, z2, k, d', F, g1, g2, g3, g4⟩ := h hlen
    refine ⟨.ref a, z1, rfl, by rw [hz.2.1]; exact z2, hfs, k, d', F, g1, ?_, g3, fun v F' H' e r => g4 v F' H' e (by rw [c.eK]; exact r)⟩
    show Γ.mg k = some oe.cls
    rw [hz.1, ← c.eG]; exact g2
  · have h : PostS X.K X.mg W F0 B (match fb δ with
      | .ok fl => .ok fl
      | .exn c => (noExn (G c)).bind fun d => .ok (.rt d)
      | .bad => .bad) E := h
    cases hq : fb δ with
    | ok fl =>
      rw [hq] at h
      cases fl with
      | nx δ' => exact h
      | rt d => exact h
    | bad => rw [hq] at h; exact h.elim
    | exn k =>
      rw [hq] at h
      cases hG : G k with
      | bad => simp only [hG] at h; exact h.elim
      | exn k' => simp only [hG] at h; exact h.elim
      | ok d =>
        simp only [hG] at h
        intro σ' F' H' ext u hu
        refine ⟨true, by rw [c.eK]; exact h6 k d u hG (by rw [← c.eG]; exact hu), fun _ a ha hlen => ?_, fun z => nomatch z⟩
        rw [List.length_set] at hlen
        exact ⟨List.getElem?_set_self (by omega), rfl, k, d, F', hG, hu, ext.fh, fun v F2 H2 e2 r2 => h v F2 H2 (ext.trans e2) r2⟩
end DW
/-! The data layer, part K: statements and defs, checked. -/
namespace DW
open PySem PySem.Spec PyProof.Rows L2

mutual
inductive Sx where
  | ret (e : Ex)
  | retN
  | pass
  | expr (e : Ex)
  | ife (c : Ex) (a b : Ss)
  | set (i : Nat) (e : Ex)
  | setV (i : Nat) (e : Ex)
  | asg (t : Tg) (e : Ex)
  | loop (t : Tg) (it : Exi) (b : Ss)
  | while (n : Nat) (c : Ex) (b : Ss)
  | own (i : Nat) (es : Exs)
  | ownD (i : Nat)
  | ownLc (i : Nat) (e : Ex) (t : Tg) (it : Exi) (c : Exo) (own : List (Str × Nat))
  | app (i : Nat) (e : Ex)
  | appV (i : Nat) (e : Ex)
  | ext (i : Nat) (e : Ex)
  | put (i : Nat) (k v : Ex)
  | raise (c : Str)
  | tryR (i : Nat) (b : Ss) (f : Str) (G : Str → R D)
inductive Ss where
  | nil
  | cons (s : Sx) (r : Ss)
  | frz (i : Nat) (r : Ss)
end
mutual
def semS : Sx → Sls → R Fl
  | .ret e => sRet (sem e)
  | .retN => sRetN
  | .pass => sPass
  | .expr e => sExpr (sem e)
  | .ife c a b => sIf (fun δ => (sem c δ).bind asB) (semSs a) (semSs b)
  | .set i e => sSet i (sem e)
  | .setV i e => sSetV i (sem e)
  | .asg t e => sAsg t (sem e)
  | .loop t it b => sFor t (semI it) (semSs b)
  | .while n c b => whileD (fun δ => (sem c δ).bind asB) (semSs b) n
  | .own i es => sOwn i (semL es)
  | .ownD i => sOwnD i
  | .ownLc i e t it c own => sOwnLc i (semI it) (bindT t) (semC c) (sem e) (own.map (·.2))
  | .app i e => sApp i (sem e)
  | .appV i e => sAppV i (sem e)
  | .ext i e => sExt i (sem e)
  | .put i k v => sPut i (sem k) (sem v)
  | .raise c => sRaise c
  | .tryR _ b _ G => sTry (semSs b) G
def semSs : Ss → Sls → R Fl
  | .nil => fun δ => .ok (.nx δ)
  | .cons s r => fun δ => andThen (semS s δ) (semSs r)
  | .frz i r => fun δ => andThen (sFrz i δ) (semSs r)
end
/-- a comprehension that is stored within its own frame -/
def swC (sc : Scope) (x : Str) (px : Pos) : Expr → Bool
  | .ListComp _ _ scope pos => decide (sc.names.lookup x = some .local) && (px.line == pos.line) && !(scope.names.any fun (n, k) => n == x && (k == .local || k == .cell))
  | _ => false
def isLc : Expr → Bool
  | .ListComp .. => true
  | _ => false
/-- what may be stored as a value: no comprehension but a list's -/
def stC (v : Expr) : Bool := !isComp v || isLc v
mutual
def isS (N : List Str) (sc : Scope) : Sx → Stmt → Bool
  | .ret e, s => match s with
    | .Return (some v) _ => isE N sc e v
    | _ => false
  | .retN, s => match s with
    | .Return none _ => true
    | _ => false
  | .pass, s => match s with
    | .Pass _ => true
    | .Expr (.Constant (.str _) _ _) _ => true
    | _ => false
  | .expr e, s => match s with
    | .Expr v _ => isE N sc e v && !isComp v
    | _ => false
  | .ife c a b, s => match s with
    | .If t x y _ => isE N sc c t && notIte c && isSs N sc a x && isSs N sc b y
    | _ => false
  | .set i e, s => match s with
    | .Assign [.Name x px] v _ => isE N sc e v && stC v && tgB N sc (fun _ => true) i x
    | _ => false
  | .setV i e, s => match s with
    | .Assign [.Name x _] v _ => isE N sc e v && !isComp v && tgB N sc (fun _ => true) i x
    | _ => false
  | .asg t e, s => match s with
    | .Assign [tg] v _ => isTup tg && isT N sc (fun _ => true) t tg && isE N sc e v && !isTup v
    | _ => false
  | .loop t it b, s => match s with
    | .For tg iter body [] _ => isT N sc (fun _ => true) t tg && isEi N sc it tg iter && isSs N sc b body
    | _ => false
  | .while _ c b, s => match s with
    | .While t body [] _ => isE N sc c t && notIte c && isSs N sc b body
    | _ => false
  | .own i es, s => match s with
    | .Assign [.Name x _] (.List l _) _ => isEs N sc es l && tgB N sc (fun _ => true) i x
    | _ => false
  | .ownD i, s => match s with
    | .Assign [.Name x _] (.Dict [] [] _) _ => tgB N sc (fun _ => true) i x
    | _ => false
  | .ownLc i e t it c own, s => match s with
    | .Assign [.Name x px] v _ => swC sc x px v && isE N sc (.comp e t it c own) v && tgB N sc (fun _ => true) i x
    | _ => false
  | .app i e, s => match s with
    | .Expr (.Call (.Attribute (.Name x _) m ap) [v] [] p) _ => decide (m = "append") && (ap.endLine == p.line) && isE N sc (.var i) (.Name x p) && isE N sc e v
    | _ => false
  | .appV i e, s => match s with
    | .Expr (.Call (.Attribute (.Name x _) m ap) [v] [] p) _ => decide (m = "append") && (ap.endLine == p.line) && isE N sc (.var i) (.Name x p) && isE N sc e v
    | _ => false
  | .ext i e, s => match s with
    | .Expr (.Call (.Attribute (.Name x _) m ap) [v] [] p) _ => decide (m = "extend") && (ap.endLine == p.line) && isE N sc (.var i) (.Name x p) && isE N sc e v
    | _ => false
  | .put i k v, s => match s with
    | .Assign [.Subscript (.Name x px) y _] w _ => isE N sc (.var i) (.Name x px) && isE N sc k y && isE N sc v w && !isComp w
    | _ => false
  | .raise c, s => match s with
    | .Raise (some (.Call (.Name x _) [.Constant (.str _) _ _] [] _)) none _ => decide (c = x) && glB sc x && noDbg x
    | _ => false
  | .tryR i b f _, s => match s with
    | .Try body [.ExceptHandler (some (.Name x _)) (some e) [.Return (some (.Call (.Name y _) [.Name z _] [] _)) _] _] [] [] _ => decide (x = "DueError") && glB sc x && decide (y = f) && glB sc y && noDbg y && decide (z = e) && decide (N[i]? = some e) && decide (sc.names.lookup e = some .local) && noDbg e && isSs N sc b body
    | _ => false
def isSs (N : List Str) (sc : Scope) : Ss → List Stmt → Bool
  | .nil, l => match l with
    | [] => true
    | _ => false
  | .cons s r, l => match l with
    | st :: l => isS N sc s st && isSs N sc r l
    | _ => false
  | .frz _ r, l => isSs N sc r l
end
mutual
def NeedS (Γ : Gm) : Sx → Prop
  | .ret e => Need Γ e
  | .expr e => Need Γ e
  | .ife c a b => Need Γ c ∧ NeedSs Γ a ∧ NeedSs Γ b
  | .set _ e => Need Γ e
  | .setV _ e => Need Γ e
  | .asg _ e => Need Γ e
  | .loop _ it b => NeedI Γ it ∧ NeedSs Γ b
  | .while _ c b => Need Γ c ∧ NeedSs Γ b
  | .own _ es => NeedL Γ es
  | .ownLc _ e _ it c _ => Need Γ e ∧ NeedI Γ it ∧ NeedO Γ c
  | .app _ e => Need Γ e
  | .appV _ e => Need Γ e
  | .ext _ e => Need Γ e
  | .put _ k v => Need Γ k ∧ Need Γ v
  | .raise c => ExcT Γ.K Γ.mg c
  | .tryR _ b f G => NeedSs Γ b ∧ TryOk Γ f G
  | _ => True
def NeedSs (Γ : Gm) : Ss → Prop
  | .nil => True
  | .cons s r => NeedS Γ s ∧ NeedSs Γ r
  | .frz _ r => NeedSs Γ r
end
section
variable {Γ : Gm} {N : List Str}
theorem sw_no {e : Expr} (h : (!isComp e) = true) (t : Option Expr) (l : Nat) (env : Env) : swapsWith e t l env = pure false := by
  cases e <;> first | rfl | cases h
theorem sw_lc {elt : Expr} {gs : List Comprehension} {scope : Scope} {pos py : Pos} {y : Str} {l : Nat} {env : Env} (hk : env.scope.kind = .function) : swapsWith (.ListComp elt gs scope pos) (some (.Name y py)) l env = pure (swC env.scope y py (.ListComp elt gs scope pos)) := by
  have hb : env.blockKind = .function := by unfold Env.blockKind; rw [hk]; rfl
  unfold swapsWith swC
  simp only [hb, Expr.pos]
  have e1 : (env.kindOf y == some NameKind.local) = decide (env.scope.names.lookup y = some .local) := by
    unfold Env.kindOf
    cases q : env.scope.names.lookup y with
    | none => rfl
    | some k => cases k <;> rfl
  rw [e1]
  rfl
theorem RSB.frz1 {K : PySem.W.Frag} {F0 B F H : Hp} {σ : St} {δ : Sls} {i : Nat} {ds : List D} (r : RSB K F0 B F H σ δ) (h : δ[i]? = some (.ol ds)) : ∃ F', RSB K F0 B F' H σ (δ.set i (.sh (.list ds))) := by
  have io : isOwn δ[i]? := by rw [h]; trivial
  obtain ⟨a, q1, q2, q3⟩ := r.rs.own i io
  rw [h] at q3
  obtain ⟨vs, q4, q5, q6⟩ := q3
  have hl : i < δ.length := (List.getElem?_eq_some_iff.mp h).1
  have ff : Same F (upd F a (.lst vs)) := Same.new q2
  have fh : Same (upd F a (.lst vs)) H := fun b o e => by
    by_cases z : b = a
    · subst z; rw [upd_same] at e; cases e; exact q4
    · rw [upd_ne z] at e; exact r.rs.same _ _ e
  have noti : ∀ {j : Nat}, isOwn (δ.set i (.sh (.list ds)))[j]? → j ≠ i ∧ isOwn δ[j]? := fun {j} q => by
    by_cases z : j = i
    · subst z; rw [List.getElem?_set_self hl] at q; exact q.elim
    · rw [List.getElem?_set_ne (Ne.symm z)] at q; exact ⟨z, q⟩
  refine ⟨upd F a (.lst vs), ⟨fh, by rw [List.length_set]; exact r.rs.len, fun j d q => ?_, fun j b q => ?_, fun j q => ?_, fun j k b p1 p2 p3 p4 => r.rs.apart j k b (noti p1).2 (noti p2).2 p3 p4⟩, ⟨r.ex.ff.trans ff, r.ex.hh, fh, fun b o e => ?_⟩, fun j b p1 p2 => r.nb j b (noti p1).2 p2⟩
  · by_cases z : j = i
    · subst z
      rw [List.getElem?_set_self hl] at q
      cases q
      exact ⟨_, q1, .lst upd_same (q5.mono ff) q6⟩
    · obtain ⟨u, p1, p2⟩ := r.rs.sh j d (get_set_ne q z)
      exact ⟨u, p1, p2.mono ff⟩
  · by_cases z : j = i
    · subst z; rw [List.getElem?_set_self hl] at q; cases q
    · exact r.rs.rf j b (get_set_ne q z)
  · obtain ⟨z, p⟩ := noti q
    obtain ⟨b, p1, p2, p3⟩ := r.rs.own j p
    have nb : b ≠ a := by
      rintro rfl
      exact z (r.rs.apart j i b p io p1 q1)
    refine ⟨b, p1, by rw [upd_ne nb]; exact p2, ?_⟩
    rw [List.getElem?_set_ne (Ne.symm z)]
    revert p3
    cases δ[j]? with
    | none => exact fun z => z
    | some s' => cases s' with
      | ol es => exact fun ⟨us, p4, p5, p6⟩ => ⟨us, p4, p5.mono ff, p6⟩
      | od es => exact fun ⟨us, p4, p5, p6⟩ => ⟨us, p4, p5.mono ff, p6⟩
      | un => exact fun z => z
      | sh d => exact fun z => z
      | rf b => exact fun z => z
  · by_cases z : b = a
    · subst z; exact .inr (r.nb i b io q1)
    · rw [upd_ne z] at e; exact r.ex.fr _ _ e
theorem dss_frz {X : Cx} {W : WX} {i : Nat} {sts : List Stmt} {g : Sls → R Fl} (h : DSs X W sts g) : DSs X W sts (fun δ => andThen (sFrz i δ) g) := by
  refine PSs.imp h fun E σ H ⟨F0, B, F, δ, rs, q⟩ => ?_
  have q : PostS X.K X.mg W F0 B (andThen (match δ[i]? with
    | some (.ol ds) => .ok (.nx (δ.set i (.sh (.list ds))))
    | _ => .bad) g) E := q
  split at q
  · rename_i ds e
    obtain ⟨F', rs'⟩ := rs.frz1 e
    exact ⟨F0, B, F', _, rs', q⟩
  · exact q.elim
variable {sc : Scope} {X : Cx} {W : WX}
mutual
theorem soundS {X : Cx} {W : WX} (hst : X.stack = X.env :: X.outer ∧ X.env.frame = some X.env.locals) (hk : sc.kind = .function) (hfn : ∀ x, X.fn x = true) (c : CtxOk Γ N sc X) (tk : L2N.Takes X W) (hp : PassesOwn (model X.prog X.w) X.A X.env X.xe) : ∀ (x : Sx) (s : Stmt), isS N sc x s = true → NeedS Γ x → DS X W s (semS x)
  | .ret e, s, h, nd => by
    cases s with
    | Return v pos => cases v with
      | none => simp [isS] at h
      | some v =>
        simp only [isS] at h
        rw [semS]
        exact ds_ret ((soundB e c tk).1 v h nd)
    | _ => simp [isS] at h
  | .retN, s, h, nd => by
    cases s with
    | Return v pos => cases v with
      | none => rw [semS]; exact ds_retN
      | some v => simp [isS] at h
    | _ => simp [isS] at h
  | .pass, s, h, nd => by
    simp only [isS] at h
    split at h
    · rw [semS]; exact ds_pass
    · rw [semS]; exact ds_doc
    · cases h
  | .expr e, s, h, nd => by
    cases s with
    | Expr v pos =>
      simp only [isS, Bool.and_eq_true] at h
      rw [semS]
      exact ds_expr ((soundB e c tk).1 v h.1 nd) (sw_no h.2 _ _ _)
    | _ => simp [isS] at h
  | .ife t a b, s, h, nd => by
    cases s with
    | If u x y pos =>
      simp only [isS, Bool.and_eq_true] at h
      obtain ⟨⟨⟨h1, h2⟩, h3⟩, h4⟩ := h
      rw [semS]
      exact ds_if ((soundB t c tk).2.1 u h1 h2 nd.1) (soundSs hst hk hfn c tk hp a x h3 nd.2.1) (soundSs hst hk hfn c tk hp b y h4 nd.2.2)
    | _ => simp [isS] at h
  | .set i e, s, h, nd => by
    simp only [isS] at h
    split at h
    · rename_i x px v pos
      simp only [Bool.and_eq_true] at h
      obtain ⟨⟨h1, h2⟩, h3⟩ := h
      obtain ⟨t1, t2, t3⟩ := tg_of h3
      have kN : X.N.Nodup := by rw [c.eN]; exact c.nd
      have ki : X.N[i]? = some x := by rw [c.eN]; exact t1
      have kl : Loc X.env.scope x := by rw [c.eS]; exact t2
      rw [semS]
      cases q : isComp v with
      | false => exact ds_set kN ki kl ((soundB e c tk).1 v h1 nd) (sw_no (by rw [q]; rfl) _ _ _) (.inl (hfn x))
      | true =>
        cases v with
        | ListComp elt gs scope p2 =>
          have hsw := sw_lc (elt := elt) (gs := gs) (scope := scope) (pos := p2) (py := px) (y := x) (l := pos.line) (env := X.env) (by rw [c.eS]; exact hk)
          cases q2 : swC X.env.scope x px (.ListComp elt gs scope p2) with
          | false => exact ds_set kN ki kl ((soundB e c tk).1 _ h1 nd) (by rw [hsw, q2]) (.inl (hfn x))
          | true =>
            rw [q2] at hsw
            cases e with
            | comp y t it d own =>
              simp only [isE] at h1
              split at h1
              · rename_i e1
                cases e1
                simp only [Bool.and_eq_true] at h1
                obtain ⟨⟨⟨⟨⟨g1, g2⟩, g3⟩, g4⟩, g5⟩, g6⟩ := h1
                have ok := blkOk_by g5
                have hyl : X.env.scope.names.lookup x = some .local := by
                  unfold swC at q2
                  rw [Bool.and_eq_true, Bool.and_eq_true, decide_eq_true_eq] at q2
                  exact q2.1.1
                have : sem (.comp y t it d own) = fun δ => (semI it δ).bind (lcR (bindT t) (semC d) (sem y) (wipeD δ (own.map (·.2)))) := by
                  funext δ; rw [sem]
                rw [this]
                refine ds_setLc c.calm kN ki hyl hsw (soundI it c tk _ _ g2 nd.2.1) (by rw [c.eN, c.eS]; exact ok) (fun s H C cl fp => soundG c.blk (fun x h => h) t _ g1) (fun i hi => of_decide_eq_true (List.all_eq_true.mp g6 i hi)) (fun s H C cl fp => ?_) (fun s H C cl fp => ((soundB y c.blk takesW0).1 _ g4 nd.1).pe) (plain_fold (isEi_plain g2) _)
                exact soundC d c.blk takesW0 _ g3 nd.2.2
              · cases h1
            | _ => simp [isE] at h1
        | SetComp a b d e => cases h2
        | DictComp a b d e f => cases h2
        | _ => cases q
    · cases h
  | .setV i e, s, h, nd => by
    simp only [isS] at h
    split at h
    · rename_i x px v pos
      simp only [Bool.and_eq_true] at h
      obtain ⟨⟨h1, h2⟩, h3⟩ := h
      obtain ⟨t1, t2, t3⟩ := tg_of h3
      rw [semS]
      exact ds_setV (by rw [c.eN]; exact c.nd) (by rw [c.eN]; exact t1) (by rw [c.eS]; exact t2) ((soundB e c tk).1 v h1 nd) (sw_no h2 _ _ _) (.inl (hfn x))
    · cases h
  | .asg t e, s, h, nd => by
    simp only [isS] at h
    split at h
    · rename_i tg v pos
      simp only [Bool.and_eq_true] at h
      obtain ⟨⟨⟨h1, h2⟩, h3⟩, h4⟩ := h
      rw [semS]
      cases tg with
      | Tuple es k p =>
        refine ds_asg ((soundB e c tk).1 v h3 nd) (soundG c (fun x _ => hfn x) t _ h2) ?_ ?_ rfl
        · cases v <;> first | rfl | cases h4
        · cases v <;> first | rfl | cases h4
      | _ => cases h1
    · cases h
  | .loop t it b, s, h, nd => by
    simp only [isS] at h
    split at h
    · simp only [Bool.and_eq_true] at h
      obtain ⟨⟨h1, h2⟩, h3⟩ := h
      rw [semS]
      exact ds_for hp c.calm (soundI it c tk _ _ h2 nd.1) (soundG c (fun x _ => hfn x) t _ h1) (soundSs hst hk hfn c tk hp b _ h3 nd.2) (plain_fold (isEi_plain h2) _)
    · cases h
  | .while n t b, s, h, nd => by
    simp only [isS] at h
    split at h
    · simp only [Bool.and_eq_true] at h
      obtain ⟨⟨h1, h2⟩, h3⟩ := h
      rw [semS]
      exact ds_while hp ((soundB t c tk).2.1 _ h1 h2 nd.1) (soundSs hst hk hfn c tk hp b _ h3 nd.2)
    · cases h
  | .own i es, s, h, nd => by
    simp only [isS] at h
    split at h
    · simp only [Bool.and_eq_true] at h
      obtain ⟨t1, t2, t3⟩ := tg_of h.2
      rw [semS]
      exact ds_own (by rw [c.eN]; exact c.nd) (by rw [c.eN]; exact t1) (by rw [c.eS]; exact t2) (soundL es c tk _ h.1 nd) rfl (.inl (hfn _))
    · cases h
  | .ownD i, s, h, nd => by
    simp only [isS] at h
    split at h
    · obtain ⟨t1, t2, t3⟩ := tg_of h
      rw [semS]
      exact ds_ownD (by rw [c.eN]; exact c.nd) (by rw [c.eN]; exact t1) (by rw [c.eS]; exact t2) rfl (.inl (hfn _))
    · cases h
  | .ownLc i e t it d own, s, h, nd => by
    simp only [isS] at h
    split at h
    · rename_i x px v pos
      simp only [Bool.and_eq_true] at h
      obtain ⟨⟨h1, h2⟩, h3⟩ := h
      obtain ⟨t1, t2, t3⟩ := tg_of h3
      rw [semS]
      cases v with
      | ListComp elt gs scope p2 =>
        have hsw := sw_lc (elt := elt) (gs := gs) (scope := scope) (pos := p2) (py := px) (y := x) (l := pos.line) (env := X.env) (by rw [c.eS]; exact hk)
        rw [c.eS, h1] at hsw
        simp only [isE] at h2
        split at h2
        · rename_i e1
          cases e1
          simp only [Bool.and_eq_true] at h2
          obtain ⟨⟨⟨⟨⟨g1, g2⟩, g3⟩, g4⟩, g5⟩, g6⟩ := h2
          have ok := blkOk_by g5
          have hyl : X.env.scope.names.lookup x = some .local := by
            rw [c.eS]
            unfold swC at h1
            rw [Bool.and_eq_true, Bool.and_eq_true, decide_eq_true_eq] at h1
            exact h1.1.1
          refine ds_ownLc c.calm (by rw [c.eN]; exact c.nd) (by rw [c.eN]; exact t1) hyl hsw (soundI it c tk _ _ g2 nd.2.1) (by rw [c.eN, c.eS]; exact ok) (fun s H C cl fp => soundG c.blk (fun x h => h) t _ g1) (fun i hi => of_decide_eq_true (List.all_eq_true.mp g6 i hi)) (fun s H C cl fp => ?_) (fun s H C cl fp => ((soundB e c.blk takesW0).1 _ g4 nd.1).pe) (plain_fold (isEi_plain g2) _)
          exact soundC d c.blk takesW0 _ g3 nd.2.2
        · cases h2
      | _ => cases h1
    · cases h
  | .app i e, s, h, nd => by
    simp only [isS] at h
    split at h
    · simp only [Bool.and_eq_true, decide_eq_true_eq, isE] at h
      obtain ⟨⟨⟨rfl, h2⟩, ⟨⟨h3, h4⟩, h5⟩⟩, h6⟩ := h
      rw [semS]
      exact ds_app (by rw [c.eN]; exact h3) (by rw [c.eS]; exact vis_of h4) (dbg_of h5).1 (dbg_of h5).2 ((soundB e c tk).1 _ h6 nd) h2 (plain_star (isE_plain h6) _)
    · cases h
  | .appV i e, s, h, nd => by
    simp only [isS] at h
    split at h
    · simp only [Bool.and_eq_true, decide_eq_true_eq, isE] at h
      obtain ⟨⟨⟨rfl, h2⟩, ⟨⟨h3, h4⟩, h5⟩⟩, h6⟩ := h
      rw [semS]
      exact ds_appV (by rw [c.eN]; exact h3) (by rw [c.eS]; exact vis_of h4) (dbg_of h5).1 (dbg_of h5).2 ((soundB e c tk).1 _ h6 nd) h2 (plain_star (isE_plain h6) _)
    · cases h
  | .ext i e, s, h, nd => by
    simp only [isS] at h
    split at h
    · simp only [Bool.and_eq_true, decide_eq_true_eq, isE] at h
      obtain ⟨⟨⟨rfl, h2⟩, ⟨⟨h3, h4⟩, h5⟩⟩, h6⟩ := h
      rw [semS]
      exact ds_ext (by rw [c.eN]; exact h3) (by rw [c.eS]; exact vis_of h4) (dbg_of h5).1 (dbg_of h5).2 ((soundB e c tk).1 _ h6 nd) h2 (plain_star (isE_plain h6) _)
    · cases h
  | .put i k v, s, h, nd => by
    simp only [isS] at h
    split at h
    · simp only [Bool.and_eq_true] at h
      obtain ⟨⟨⟨h1, h6⟩, h7⟩, h8⟩ := h
      simp only [isE, Bool.and_eq_true, decide_eq_true_eq] at h1
      obtain ⟨⟨h3, h4⟩, h5⟩ := h1
      rw [semS]
      exact ds_put c.units (by rw [c.eN]; exact h3) (by rw [c.eS]; exact vis_of h4) (dbg_of h5).1 (dbg_of h5).2 ((soundB k c tk).1 _ h6 nd.1) ((soundB v c tk).1 _ h7 nd.2) (sw_no h8 _ _ _)
    · cases h
  | .raise k, s, h, nd => by
    simp only [isS] at h
    split at h
    · simp only [Bool.and_eq_true, decide_eq_true_eq] at h
      obtain ⟨⟨rfl, h2⟩, h3⟩ := h
      rw [semS]
      exact ds_raise c.calm tk (by rw [c.eK, c.eG]; exact nd) (c.gl h2) (dbg_of h3).1
    · cases h
  | .tryR i b f G, s, h, nd => by
    simp only [isS] at h
    split at h
    · simp only [Bool.and_eq_true, decide_eq_true_eq] at h
      obtain ⟨⟨⟨⟨⟨⟨⟨⟨⟨rfl, h2⟩, rfl⟩, h4⟩, h5⟩, rfl⟩, h7⟩, h8⟩, h9⟩, h10⟩ := h
      rw [semS]
      exact ds_try c nd.2 hst.1 hst.2 tk (c.gl h2) (c.gl h4) (dbg_of h5).1 h7 h8 (dbg_of h9).1 (dbg_of h9).2 fun W' pn xe tk' hp' => soundSs (X := X.tr pn xe) (W := W') hst hk hfn (c.tr pn xe) tk' hp' b _ h10 nd.1
    · cases h
theorem soundSs {X : Cx} {W : WX} (hst : X.stack = X.env :: X.outer ∧ X.env.frame = some X.env.locals) (hk : sc.kind = .function) (hfn : ∀ x, X.fn x = true) (c : CtxOk Γ N sc X) (tk : L2N.Takes X W) (hp : PassesOwn (model X.prog X.w) X.A X.env X.xe) : ∀ (x : Ss) (l : List Stmt), isSs N sc x l = true → NeedSs Γ x → DSs X W l (semSs x)
  | .nil, l, h, nd => by
    cases l with
    | nil => rw [semSs]; exact dss_nil
    | cons _ _ => simp [isSs] at h
  | .cons s r, l, h, nd => by
    cases l with
    | nil => simp [isSs] at h
    | cons st l =>
      simp only [isSs, Bool.and_eq_true] at h
      rw [semSs]
      exact dss_cons (soundS hst hk hfn c tk hp s st h.1 nd.1) (soundSs hst hk hfn c tk hp r l h.2 nd.2)
  | .frz i r, l, h, nd => by
    simp only [isSs] at h
    rw [semSs]
    exact dss_frz (soundSs hst hk hfn c tk hp r l h nd)
end
end

/-! ### a def -/
/-- what a def's body is worth -/
def runD (n : Nat) (body : Ss) (ds : List D) : R D := (semSs body (ds.map Sl.sh ++ List.replicate (n - ds.length) Sl.un)).bind fun
  | .nx _ => .ok .none
  | .rt d => .ok d
theorem start_rs {K : PySem.W.Frag} {F H : Hp} {N : List Str} {vs : List V} {ds : List D} (sm : Same F H) (r : RpL K F vs ds) : RS K F H (L2.start N vs) (ds.map Sl.sh ++ List.replicate (N.length - ds.length) Sl.un) := by
  have hl := r.length
  have no : ∀ j : Nat, ¬ isOwn (ds.map Sl.sh ++ List.replicate (N.length - ds.length) Sl.un)[j]? := fun j h => by
    by_cases hj : j < ds.length
    · rw [List.getElem?_append_left (by rw [List.length_map]; exact hj), List.getElem?_map, List.getElem?_eq_getElem hj] at h
      exact h
    · rw [List.getElem?_append_right (by rw [List.length_map]; omega)] at h
      cases q : (List.replicate (N.length - ds.length) Sl.un)[j - (List.map Sl.sh ds).length]? with
      | none => rw [q] at h; exact h
      | some s =>
        rw [q] at h
        have := List.eq_of_mem_replicate (List.mem_of_getElem? q)
        subst this
        exact h
  refine ⟨sm, ?_, fun i d h => ?_, fun i a h => ?_, fun i h => (no i h).elim, fun i j a h => (no i h).elim⟩
  · unfold L2.start
    rw [List.length_append, List.length_append, List.length_map, List.length_map, List.length_replicate, List.length_replicate, hl]
  · by_cases hj : i < ds.length
    · rw [List.getElem?_append_left (by rw [List.length_map]; exact hj), List.getElem?_map, List.getElem?_eq_getElem hj] at h
      cases h
      obtain ⟨v, q1, q2⟩ := r.get (List.getElem?_eq_getElem hj)
      refine ⟨v, ?_, q2⟩
      unfold L2.start
      rw [List.getElem?_append_left (by rw [List.length_map, hl]; exact hj), List.getElem?_map, q1]; rfl
    · rw [List.getElem?_append_right (by rw [List.length_map]; omega)] at h
      have := List.eq_of_mem_replicate (List.mem_of_getElem? h)
      cases this
  · exfalso
    by_cases hj : i < ds.length
    · rw [List.getElem?_append_left (by rw [List.length_map]; exact hj), List.getElem?_map, List.getElem?_eq_getElem hj] at h
      cases h
    · rw [List.getElem?_append_right (by rw [List.length_map]; omega)] at h
      have := List.eq_of_mem_replicate (List.mem_of_getElem? h)
      cases this
/-- whether a def of the text has this body -/
def isDef (N ps : List Str) (body : Ss) (st : Stmt) : Bool :=
  decide ((defScope st).kind = .function) && !(defScope st).isCoroutine && !(defScope st).isGenerator && decide N.Nodup && decide (N.take ps.length = ps) &&
    ps.all (fun x => locB (defScope st) x) && (defScope st).names.all (fun y => decide (y.2 ≠ .free)) && isSs N (defScope st) body (defBody st)
theorem isDef_scope {N ps : List Str} {body : Ss} {st : Stmt} (h : isDef N ps body st = true) : FnScope N ps (defScope st) ∧ isSs N (defScope st) body (defBody st) = true := by
  unfold isDef at h
  simp only [Bool.and_eq_true, decide_eq_true_eq, Bool.not_eq_true', List.all_eq_true] at h
  obtain ⟨⟨⟨⟨⟨⟨⟨h1, h2⟩, h3⟩, h4⟩, h5⟩, h6⟩, h7⟩, h8⟩ := h
  exact ⟨⟨h1, h2, h3, h4, h5, fun x hx => loc_of (h6 x hx), h7⟩, h8⟩
theorem fn_ok {Γ : Gm} {x qual : Str} {st : Stmt} {f : Addr} {fd : FuncData} {N ps : List Str} {body : Ss} (F : Fun Γ.K x qual st f fd) (hbl : ∀ x ∈ bnames, Γ.mg x = none) (h : isDef N ps body st = true) (nd : NeedSs Γ body) :
    FnOk Γ.P Γ.w Γ.K Γ.mg Γ.base (L2N.CX Γ.P Γ.w) (Γ.k + 1) f fd ps (spD Γ.K Γ.mg ps.length (runD N.length body)) := by
  obtain ⟨S, hs⟩ := isDef_scope h
  obtain ⟨oc, od, kV, doc, pm, an, cdv, ct, osl, e, lk, hcd⟩ := F.ex
  subst e
  refine fn_of lk hcd S (fun vs H Q E ⟨_, _, h, _⟩ => h) fun A outer s H vs Q E hr hsp => ?_
  obtain ⟨F0, ds, hl, sm, r, p⟩ := hsp
  have c : CtxOk Γ N (defScope st) (cxOf (L2N.CX Γ.P Γ.w) Γ.P Γ.w Γ.K Γ.mg Γ.base N qual (defScope st) f cdv A outer s H E) := ⟨rfl, rfl, rfl, rfl, rfl, rfl, rfl, rfl, hr, S.nd, hbl⟩
  refine ⟨_, soundSs (W := fun cls d _ H => E cls d H) ⟨rfl, rfl⟩ S.kind (fun _ => rfl) c (L2N.takes_of rfl rfl rfl rfl) (passes_of rfl) body _ hs nd, F0, H, F0, _, ⟨start_rs sm r, Ext.refl sm, fun i a h => ?_⟩, ?_⟩
  · have := (start_rs (N := N) sm r).own i h
    obtain ⟨b, _, _, q⟩ := this
    exfalso
    revert q h
    by_cases hj : i < ds.length
    · rw [List.getElem?_append_left (by rw [List.length_map]; exact hj), List.getElem?_map, List.getElem?_eq_getElem hj]
      exact fun h _ => h
    · rw [List.getElem?_append_right (by rw [List.length_map]; omega)]
      cases q : (List.replicate (N.length - ds.length) Sl.un)[i - (List.map Sl.sh ds).length]? with
      | none => exact fun h _ => h
      | some s' =>
        have := List.eq_of_mem_replicate (List.mem_of_getElem? q)
        subst this
        exact fun h _ => h
  · have p : Post Γ.mg (fun u d _ H' => E u d H') [] (Rp Γ.K) F0 H ((semSs body (ds.map Sl.sh ++ List.replicate (N.length - ds.length) Sl.un)).bind fun
      | .nx _ => .ok .none
      | .rt d => .ok d) Q := p
    cases q : semSs body (ds.map Sl.sh ++ List.replicate (N.length - ds.length) Sl.un) with
    | ok fl =>
      rw [q] at p
      cases fl with
      | nx δ => exact fun σ F' H' rs => p _ F' H' rs.ex .non
      | rt d => exact fun v F' H' e r => p v F' H' e r
    | exn c => rw [q] at p; exact fun σ F' H' e u hu => p F' H' e u hu
    | bad => rw [q] at p; exact p
theorem fn_def {Γ : Gm} {x qual : Str} {st : Stmt} {f : Addr} {fd : FuncData} {N ps : List Str} {body : Ss} (F : Fun Γ.K x qual st f fd) (hm : Γ.mg x = some (.ref f)) (hb : Binds Γ.K fd ps []) (hbl : ∀ x ∈ bnames, Γ.mg x = none) (h : isDef N ps body st = true) (nd : NeedSs Γ body) :
    FnD Γ.P Γ.w Γ.K Γ.mg Γ.base (Γ.k + 1) x ps.length (runD N.length body) := ⟨f, fd, ps, hm, F.kp, rfl, hb, fn_ok F hbl h nd⟩
end DW
/-! The data layer, part O: what a module has written, and the end. -/
namespace DW
open PySem PySem.Spec PyProof.Rows L2
/-- the module has the def x of this text -/
def HasFn (K : PySem.W.Frag) (x : Str) (st : Stmt) : Prop := ∃ (f : Addr) (oc : Value) (od : Option Addr) (kV dc pm : Value) (an : Option Addr) (cd ct : Value) (sl : Array (Option Value)),
  PySem.W.nsIn K mainGlobals x = some (some (.ref f)) ∧ K.lookup f = some ⟨oc, od, .func (PySem.W.fnOf x x (defArgs st) (defBody st) (defScope st) .none kV dc pm an cd ct), sl⟩ ∧ PySem.W.codeIn K cd x = true ∧ PySem.W.keepIn K (.ref f) = true
/-- the module has the class c of exceptions -/
def HasExc (K : PySem.W.Frag) (c : Str) : Prop := ∃ (C : Addr) (B newId initId : String) (bmB : List Value), ExcBaseFacts B newId initId bmB ∧ PySem.W.nsIn K mainGlobals c = some (some (.ref C)) ∧ PySem.W.excIn K C bmB newId = true ∧ PySem.W.keepIn K (.ref C) = true ∧
    PySem.W.subIn K (.ref C) (.type "BaseException") = some true ∧ PySem.W.typeIn K (.ref C) = some (.type "type")
def HasInt (K : PySem.W.Frag) (x : Str) (i : Int) : Prop := ∃ t, PySem.W.nsIn K mainGlobals x = some (some (.int i t))
def HasStr (K : PySem.W.Frag) (x : Str) (i : Str) : Prop := ∃ t, PySem.W.nsIn K mainGlobals x = some (some (.str i t))
def HasNo (K : PySem.W.Frag) (x : Str) : Prop := PySem.W.nsIn K mainGlobals x = some none
theorem mkFn {K : PySem.W.Frag} {x : Str} {st : Stmt} {f : Addr} {oc : Value} {od : Option Addr} {kV dc pm : Value} {an : Option Addr} {cd ct : Value} {sl : Array (Option Value)} (a : PySem.W.nsIn K mainGlobals x = some (some (.ref f)))
    (b : K.lookup f = some ⟨oc, od, .func (PySem.W.fnOf x x (defArgs st) (defBody st) (defScope st) .none kV dc pm an cd ct), sl⟩) (c : PySem.W.codeIn K cd x = true) (d : PySem.W.keepIn K (.ref f) = true) : HasFn K x st := ⟨f, oc, od, kV, dc, pm, an, cd, ct, sl, a, b, c, d⟩
theorem mkExc {K : PySem.W.Frag} {x : Str} {C : Addr} {B newId initId : String} {bmB : List Value} (h : ExcBaseFacts B newId initId bmB) (a : PySem.W.nsIn K mainGlobals x = some (some (.ref C))) (b : PySem.W.excIn K C bmB newId = true) (c : PySem.W.keepIn K (.ref C) = true)
    (d : PySem.W.subIn K (.ref C) (.type "BaseException") = some true) (e : PySem.W.typeIn K (.ref C) = some (.type "type")) : HasExc K x := ⟨C, B, newId, initId, bmB, h, a, b, c, d, e⟩
theorem mkInt' {K : PySem.W.Frag} {x : Str} {i : Int} {t : Tok} (a : PySem.W.nsIn K mainGlobals x = some (some (.int i t))) : HasInt K x i := ⟨t, a⟩
theorem mkStr' {K : PySem.W.Frag} {x : Str} {i : Str} {t : Tok} (a : PySem.W.nsIn K mainGlobals x = some (some (.str i t))) : HasStr K x i := ⟨t, a⟩
def Bound (st : Stmt) (x : Str) (ps : List Str) : Prop := ∀ (kV doc pm : Value) (an : Option Addr) (cdv ct : Value) (us : List Value), us.length = ps.length → bindArgs (PySem.W.fnOf x x (defArgs st) (defBody st) (defScope st) .none kV doc pm an cdv ct) ⟨us, []⟩ = pure (ps.zip us)
section
variable {Γ : Gm} {h : Heap}
theorem has_fn (X : Γ.K.In h) (G : h.Ns mainGlobals Γ.mg) {x : Str} {st : Stmt} {N ps : List Str} {body : Ss} (q : HasFn Γ.K x st) (hbl : ∀ x ∈ bnames, Γ.mg x = none) (hd : isDef N ps body st = true) (hb : Bound st x ps) (nd : NeedSs Γ body) :
    FnD Γ.P Γ.w Γ.K Γ.mg Γ.base (Γ.k + 1) x ps.length (runD N.length body) := by
  obtain ⟨f, oc, od, kV, dc, pm, an, cd, ct, sl, h1, h2, h3, h4⟩ := q
  have F := fun_mk (st := st) h2 h3 h4
  exact fn_def F (PySem.W.mg_of X G h1) (F.binds hb) hbl hd nd
theorem has_exc (X : Γ.K.In h) (G : h.Ns mainGlobals Γ.mg) {c : Str} (q : HasExc Γ.K c) : ExcT Γ.K Γ.mg c := by
  obtain ⟨C, B, n, i, bm, h1, h2, h3, h4, h5, h6⟩ := q
  exact ⟨C, B, n, i, bm, h1, h3, PySem.W.mg_of X G h2, h4, h5, h6⟩
theorem has_int (X : Γ.K.In h) (G : h.Ns mainGlobals Γ.mg) {x : Str} {i : Int} (q : HasInt Γ.K x i) : ∃ t, Γ.mg x = some (.int i t) := let ⟨t, e⟩ := q; ⟨t, PySem.W.mg_of X G e⟩
theorem has_str (X : Γ.K.In h) (G : h.Ns mainGlobals Γ.mg) {x : Str} {i : Str} (q : HasStr Γ.K x i) : ∃ t, Γ.mg x = some (.str i t) := let ⟨t, e⟩ := q; ⟨t, PySem.W.mg_of X G e⟩
theorem has_no (X : Γ.K.In h) (G : h.Ns mainGlobals Γ.mg) (q : ∀ x ∈ bnames, HasNo Γ.K x) : ∀ x ∈ bnames, Γ.mg x = none := fun x hx => PySem.W.mg_none_of X G (q x hx)
end
def spLaw (K : PySem.W.Frag) : Sp := fun vs H Q _ => ∃ (a : Addr) (ns : List Int), vs = [.ref a] ∧ SqL K H a (ns.map V.int) ∧ ns.length ≤ 63 ∧ ∀ H', Q (.bl true) H'
/-- the law's def -/
theorem law_ok {P : Program} {w : World} {K : PySem.W.Frag} {mg : Str → Option Value} {h : Heap} {k : Nat} {fa : Addr} (X : K.In h) (G : h.Ns mainGlobals mg) (hfa : mg "law" = some (.ref fa)) {st : Stmt} {N : List Str} {body : Ss} (q : HasFn K "law" st) (qn : ∀ x ∈ bnames, HasNo K x) (hd : isDef N ["script"] body st = true) (hb : Bound st "law" ["script"])
    (nd : ∀ base : Heap, NeedSs ⟨P, w, K, mg, base, k⟩ body) (pure : ∀ ns : List Int, ns.length ≤ 63 → runD N.length body [scriptD ns] = .ok (.bool true)) :
    ∃ fd : FuncData, (∀ (s : Shared) (u : Value), BindsTo s fd ⟨[u], []⟩ [("script", u)]) ∧ ∀ base : Heap, K.In base → base.Ns mainGlobals mg → FnOk P w K mg base (L2N.CX P w) (k + 1) fa fd ["script"] (spLaw K) := by
  obtain ⟨f, oc, od, kV, dc, pm, an, cd, ct, sl, h1, h2, h3, h4⟩ := q
  have e := hfa.symm.trans (PySem.W.mg_of X G h1)
  cases e
  have F := fun_mk (st := st) h2 h3 h4
  refine ⟨_, fun s u => .of_eq (hb kV dc pm an cd ct [u] rfl), fun base _ _ => ?_⟩
  refine FnOk.imp (fn_ok (Γ := ⟨P, w, K, mg, base, k⟩) F (has_no (Γ := ⟨P, w, K, mg, base, k⟩) X G qn) hd (nd base)) fun vs H Q E hs => ?_
  obtain ⟨a, ns, rfl, hS, hl, hQ⟩ := hs
  refine ⟨H, [scriptD ns], rfl, Same.refl _, .cons (.scr hS hl) .nil, ?_⟩
  rw [pure ns hl]
  intro v F' H' _ r
  cases r
  exact hQ H'
theorem walk_data {l : PySem.W.OpenLaw} {k : Nat} {q : Program} {loose : List Str} {XP : (Str → Option Value) → Heap → Prop} {YP : World → Heap → Prop} {d : DefRec} {K : Params → PySem.W.Frag} (hn : l.most = some 63) (hdf : d.params.defaults = []) (hr : Room k callerA)
    (hY : ∀ (w : World) (h : Heap), YP w h → (K w.params).In h)
    (F : ∀ (w : World) (mg : Str → Option Value) (fa : Addr) (h : Heap), (K w.params).In h → h.Ns mainGlobals mg → mg d.name = some (.ref fa) →
      ∃ fd : FuncData, (∀ (s : Shared) (u : Value), BindsTo s fd ⟨[u], []⟩ [("script", u)]) ∧ ∀ base : Heap, (K w.params).In base → base.Ns mainGlobals mg → FnOk l.prog w (K w.params) mg base (L2N.CX l.prog w) k fa fd ["script"] (spLaw (K w.params))) :
    PySem.W.WalkO q loose XP YP l.row.toRowW d [] (fun f vs => PySem.call f vs) :=
  L2.walk_of (n := 63) (k := k) (x := "script") (CX := fun w => L2N.CX l.prog w) (sp := fun w => spLaw (K w.params)) hn (by decide) hdf hr hY F (fun _ _ a ns hl _ hS => ⟨a, ns, rfl, hS, hl, fun _ => rfl⟩) fun _ _ _ _ _ z => by
    obtain ⟨a, B, H', cls, d, _, _, _, _, _, _, _, hE⟩ := z
    exact hE
end DW
/-! The data layer, part P: how a literal is worked out, step by step. -/
namespace DW
open PySem L2
/-- two worked out, then put together -/
def two (f : D → D → R D) (r s : R D) : R D := r.bind fun x => s.bind fun y => f x y
theorem two_ok (f : D → D → R D) (x y : D) : two f (.ok x) (.ok y) = f x y := rfl
theorem two_exn (f : D → D → R D) (c : Str) (s : R D) : two f (.exn c) s = .exn c := rfl
def one (f : D → R D) (r : R D) : R D := r.bind f
theorem one_ok (f : D → R D) (x : D) : one f (.ok x) = f x := rfl
theorem one_exn (f : D → R D) (c : Str) : one f (.exn c) = .exn c := rfl
def many (f : List D → R D) (r : R (List D)) : R D := r.bind f
theorem many_ok (f : List D → R D) (x : List D) : many f (.ok x) = f x := rfl
theorem many_exn (f : List D → R D) (c : Str) : many f (.exn c) = .exn c := rfl
def consR (r : R D) (s : R (List D)) : R (List D) := r.bind fun d => s.bind fun ds => .ok (d :: ds)
theorem consR_ok (d : D) (ds : List D) : consR (.ok d) (.ok ds) = .ok (d :: ds) := rfl
theorem consR_exn (c : Str) (s : R (List D)) : consR (.exn c) s = .exn c := rfl
def andP (r : R D) (b : Ex) (δ : Sls) : R D := r.bind fun x => (asB x).bind fun c => if c then sem b δ else .ok (.bool false)
theorem andP_t (b : Ex) (δ : Sls) : andP (.ok (.bool true)) b δ = sem b δ := rfl
theorem andP_f (b : Ex) (δ : Sls) : andP (.ok (.bool false)) b δ = .ok (.bool false) := rfl
def orP (r : R D) (b : Ex) (δ : Sls) : R D := r.bind fun x => (asB x).bind fun c => if c then .ok (.bool true) else sem b δ
theorem orP_t (b : Ex) (δ : Sls) : orP (.ok (.bool true)) b δ = .ok (.bool true) := rfl
theorem orP_f (b : Ex) (δ : Sls) : orP (.ok (.bool false)) b δ = sem b δ := rfl
def notP (r : R D) : R D := r.bind fun x => (asB x).bind fun c => .ok (.bool (!c))
theorem notP_ok (b : Bool) : notP (.ok (.bool b)) = .ok (.bool (!b)) := rfl
theorem notP_exn (c : Str) : notP (.exn c) = .exn c := rfl
def chP (o' : Cop) (y : D) (r : R D) (c : Ex) (δ : Sls) : R D := r.bind fun z => (asB z).bind fun t => if t then (sem c δ).bind fun w => o'.fn y w else .ok (.bool false)
theorem chP_t (o' : Cop) (y : D) (c : Ex) (δ : Sls) : chP o' y (.ok (.bool true)) c δ = one (o'.fn y) (sem c δ) := rfl
theorem chP_f (o' : Cop) (y : D) (c : Ex) (δ : Sls) : chP o' y (.ok (.bool false)) c δ = .ok (.bool false) := rfl
def chQ (o o' : Cop) (r s : R D) (c : Ex) (δ : Sls) : R D := r.bind fun x => s.bind fun y => chP o' y (o.fn x y) c δ
theorem chQ_ok (o o' : Cop) (x y : D) (c : Ex) (δ : Sls) : chQ o o' (.ok x) (.ok y) c δ = chP o' y (o.fn x y) c δ := rfl
def iteP (r : R D) (a b : Ex) (δ : Sls) : R D := (r.bind asB).bind fun t => if t then sem a δ else sem b δ
theorem iteP_t (a b : Ex) (δ : Sls) : iteP (.ok (.bool true)) a b δ = sem a δ := rfl
theorem iteP_f (a b : Ex) (δ : Sls) : iteP (.ok (.bool false)) a b δ = sem b δ := rfl
section
variable (δ : Sls)
theorem ev_var (i : Nat) : sem (.var i) δ = lk δ i := rfl
theorem ev_int (i : Int) : sem (.int i) δ = .ok (.int i) := rfl
theorem ev_str (s : Str) : sem (.str s) δ = .ok (.str s) := rfl
theorem ev_bl (b : Bool) : sem (.bl b) δ = .ok (.bool b) := rfl
theorem ev_non : sem .non δ = .ok .none := rfl
theorem ev_gint (x : Str) (i : Int) : sem (.gint x i) δ = .ok (.int i) := rfl
theorem ev_gstr (x : Str) (i : Str) : sem (.gstr x i) δ = .ok (.str i) := rfl
theorem ev_bin (o : Bop) (a b : Ex) : sem (.bin o a b) δ = two o.fn (sem a δ) (sem b δ) := rfl
theorem ev_neg (a : Ex) : sem (.neg a) δ = one dNeg (sem a δ) := rfl
theorem ev_cmp (o : Cop) (a b : Ex) : sem (.cmp o a b) δ = two o.fn (sem a δ) (sem b δ) := rfl
theorem ev_chain (o o' : Cop) (a b c : Ex) : sem (.chain o o' a b c) δ = chQ o o' (sem a δ) (sem b δ) c δ := rfl
theorem ev_and (a b : Ex) : sem (.and a b) δ = andP (sem a δ) b δ := rfl
theorem ev_or (a b : Ex) : sem (.or a b) δ = orP (sem a δ) b δ := rfl
theorem ev_not (a : Ex) : sem (.not a) δ = notP (sem a δ) := rfl
theorem ev_ite (c a b : Ex) : sem (.ite c a b) δ = iteP (sem c δ) a b δ := rfl
theorem ev_tup (es : Exs) : sem (.tup es) δ = many mkT (semL es δ) := rfl
theorem ev_lst (es : Exs) : sem (.lst es) δ = many mkL (semL es δ) := rfl
theorem ev_call (f : Str) (n : Nat) (G : List D → R D) (es : Exs) : sem (.call f n G es) δ = many G (semL es δ) := rfl
theorem ev_bi (b : Bi) (es : Exs) : sem (.bi b es) δ = many b.fn (semL es δ) := rfl
theorem ev_isi (T : Ty) (a : Ex) : sem (.isi T a) δ = one (dIsi T) (sem a δ) := rfl
theorem ev_idx (a b : Ex) : sem (.idx a b) δ = two dIdx (sem a δ) (sem b δ) := rfl
theorem ev_rev (a : Ex) : sem (.rev a) δ = one dRev (sem a δ) := rfl
theorem ev_nil : semL .nil δ = .ok [] := rfl
theorem ev_cons (a : Ex) (r : Exs) : semL (.cons a r) δ = consR (sem a δ) (semL r δ) := rfl
end
/-- the ends of slices -/
def cutP (r : R D) (s t : R (Option Int)) : R D := r.bind fun x => s.bind fun l => t.bind fun h => dCut x l h
theorem cutP_ok (x : D) (l h : Option Int) : cutP (.ok x) (.ok l) (.ok h) = dCut x l h := rfl
theorem ev_cut (a : Ex) (lo hi : Exo) (δ : Sls) : sem (.cut a lo hi) δ = cutP (sem a δ) (semO lo δ) (semO hi δ) := rfl
theorem ev_oN (δ : Sls) : semO .none δ = .ok none := rfl
def oP (r : R D) : R (Option Int) := r.bind fun d => (dInt? d).bind fun i => .ok (.some i)
theorem oP_ok (i : Int) : oP (.ok (.int i)) = .ok (some i) := rfl
theorem ev_oS (a : Ex) (δ : Sls) : semO (.some a) δ = oP (sem a δ) := rfl
/-! ### what is walked -/
def itP (f : D → R (List D)) (r : R D) : R (List D) := r.bind f
theorem itP_ok (f : D → R (List D)) (d : D) : itP f (.ok d) = f d := rfl
def itP2 (f : D → D → R (List D)) (r s : R D) : R (List D) := r.bind fun x => s.bind fun y => f x y
theorem itP2_ok (f : D → D → R (List D)) (x y : D) : itP2 f (.ok x) (.ok y) = f x y := rfl
def itP3 (f : D → D → D → R (List D)) (r s t : R D) : R (List D) := r.bind fun x => s.bind fun y => t.bind fun z => f x y z
theorem itP3_ok (f : D → D → D → R (List D)) (x y z : D) : itP3 f (.ok x) (.ok y) (.ok z) = f x y z := rfl
def zipS (x y : D) : R (List D) := (seqOf x).bind fun xs => (seqOf y).bind fun ys => .ok (zipD xs ys)
def lzipS (x y : D) : R D := (seqOf x).bind fun xs => (seqOf y).bind fun ys => .ok (.list (zipD xs ys))
def enumS (x : D) : R (List D) := (seqOf x).bind fun xs => .ok (enumD xs)
section
variable (δ : Sls)
theorem ev_lzip (a b : Ex) : sem (.lzip a b) δ = two lzipS (sem a δ) (sem b δ) := rfl
theorem ev_dget (a b : Ex) : sem (.dget a b) δ = two dGetD (sem a δ) (sem b δ) := rfl
theorem ev_sset (a : Ex) : sem (.sset a) δ = one dSset (sem a δ) := rfl
def mthP (m : Mth) (r s : R D) : R D := r.bind fun x => if m.on x = true then s.bind fun y => m.fn x y else .bad
theorem ev_meth (m : Mth) (a b : Ex) : sem (.meth m a b) δ = mthP m (sem a δ) (sem b δ) := rfl
theorem mth_count (ds : List D) (y : D) : mthP .count (.ok (.list ds)) (.ok y) = dCount (.list ds) y := rfl
theorem mth_index (ds : List D) (y : D) : mthP .index (.ok (.list ds)) (.ok y) = dIndex (.list ds) y := rfl
theorem mth_join (a : Str) (y : D) : mthP .join (.ok (.str a)) (.ok y) = dJoin (.str a) y := rfl
theorem mth_split (a : Str) (y : D) : mthP .split (.ok (.str a)) (.ok y) = dSplit (.str a) y := rfl
theorem ev_lrange (it : Exi) : sem (.lrange it) δ = lr (semI it δ) := rfl
theorem ev_iL (a : Ex) : semI (.list a) δ = itP listOf (sem a δ) := rfl
theorem ev_iT (a : Ex) : semI (.tup a) δ = itP tupOf (sem a δ) := rfl
theorem ev_iS (a : Ex) : semI (.str a) δ = itP signsOf (sem a δ) := rfl
theorem ev_r1 (a : Ex) : semI (.r1 a) δ = itP range1 (sem a δ) := rfl
theorem ev_r2 (a b : Ex) : semI (.r2 a b) δ = itP2 range2 (sem a δ) (sem b δ) := rfl
theorem ev_r3 (a b c : Ex) : semI (.r3 a b c) δ = itP3 range3 (sem a δ) (sem b δ) (sem c δ) := rfl
theorem ev_zip (a b : Ex) : semI (.zip a b) δ = itP2 zipS (sem a δ) (sem b δ) := rfl
theorem ev_enum (a : Ex) : semI (.enum a) δ = itP enumS (sem a δ) := rfl
theorem ev_cN : semC .none δ = .ok true := rfl
def cP (r : R D) : R Bool := r.bind asB
theorem cP_ok (b : Bool) : cP (.ok (.bool b)) = .ok b := rfl
theorem ev_cS (a : Ex) : semC (.some a) δ = cP (sem a δ) := rfl
end
/-- [e for t in ds if c] -/
def compP (e : Ex) (t : Tg) (c : Exo) (δ : Sls) (r : R (List D)) : R D := r.bind (lcR (bindT t) (semC c) (sem e) δ)
def compG (e : Ex) (t : Tg) (c : Exo) (δ : Sls) (ds : List D) : R (List D) := noExn (lcD (bindT t) (semC c) (sem e) δ ds)
def listR (r : R (List D)) : R D := r.bind fun ys => .ok (.list ys)
theorem listR_ok (ys : List D) : listR (.ok ys) = .ok (.list ys) := rfl
theorem compP_ok {e : Ex} {t : Tg} {c : Exo} {δ : Sls} {ds : List D} (h : ds.length ≤ 16777216) : compP e t c δ (.ok ds) = listR (compG e t c δ ds) := by
  show lcR _ _ _ δ ds = _
  unfold lcR
  rw [if_pos (by rw [sizeLine_eq]; exact h)]; rfl
theorem ev_comp (e : Ex) (t : Tg) (it : Exi) (c : Exo) (own : List (Str × Nat)) (δ : Sls) : sem (.comp e t it c own) δ = compP e t c (wipeD δ (own.map (·.2))) (semI it δ) := rfl
theorem compG_nil (e : Ex) (t : Tg) (c : Exo) (δ : Sls) : compG e t c δ [] = .ok [] := rfl
def compK (e : Ex) (c : Exo) (r : R Bool) (δ1 : Sls) (s : R (List D)) : R (List D) := noExn (r.bind fun b => if b then (sem e δ1).bind fun y => s.bind fun ys => .ok (y :: ys) else s)
/-- all items, each told -/
theorem compG_map {e : Ex} {t : Tg} {δ : Sls} {α : Type} (g : α → D) (f : α → D) : ∀ (xs : List α), (∀ x ∈ xs, ∃ δ1, bindT t (g x) δ = .ok δ1 ∧ sem e δ1 = .ok (f x)) → compG e t .none δ (xs.map g) = .ok (xs.map f)
  | [], _ => rfl
  | x :: xs, h => by
    obtain ⟨δ1, h1, h2⟩ := h x List.mem_cons_self
    have ih := compG_map g f xs fun y hy => h y (List.mem_cons_of_mem _ hy)
    unfold compG at ih ⊢
    rw [List.map_cons, lcD, h1]
    cases q : lcD (bindT t) (semC .none) (sem e) δ (xs.map g) with
    | ok ys =>
      rw [q] at ih
      have ih : R.ok ys = R.ok (xs.map f) := ih
      cases ih
      show noExn ((sem e δ1).bind fun y => (R.ok (xs.map f)).bind fun ys => .ok (y :: ys)) = _
      rw [h2]; rfl
    | exn c => rw [q] at ih; cases ih
    | bad => rw [q] at ih; cases ih
/-- those that are wanted -/
theorem compG_filter {e c : Ex} {t : Tg} {δ : Sls} {α : Type} (g : α → D) (p : α → Bool) (f : α → D) : ∀ (xs : List α), (∀ x ∈ xs, ∃ δ1, bindT t (g x) δ = .ok δ1 ∧ sem c δ1 = .ok (.bool (p x)) ∧ (p x = true → sem e δ1 = .ok (f x))) → compG e t (.some c) δ (xs.map g) = .ok ((xs.filter p).map f)
  | [], _ => rfl
  | x :: xs, h => by
    obtain ⟨δ1, h1, h2, h3⟩ := h x List.mem_cons_self
    have ih := compG_filter g p f xs fun y hy => h y (List.mem_cons_of_mem _ hy)
    unfold compG at ih ⊢
    rw [List.map_cons, lcD, h1, R.bind_ok]
    have hc : semC (.some c) δ1 = .ok (p x) := by
      show (sem c δ1).bind asB = _
      rw [h2]; rfl
    rw [hc, R.bind_ok]
    cases q : lcD (bindT t) (semC (.some c)) (sem e) δ (xs.map g) with
    | ok ys =>
      rw [q] at ih
      have ih : R.ok ys = R.ok ((xs.filter p).map f) := ih
      cases ih
      cases hp : p x with
      | true => rw [if_pos rfl, h3 hp, List.filter_cons_of_pos hp]; rfl
      | false => rw [if_neg (by simp), List.filter_cons_of_neg (by simp [hp])]; rfl
    | exn c => rw [q] at ih; cases ih
    | bad => rw [q] at ih; cases ih
/-! ### statements -/
def retP (r : R D) : R Fl := r.bind fun d => .ok (.rt d)
theorem retP_ok (d : D) : retP (.ok d) = .ok (.rt d) := rfl
def pick (r : R D) (a b : Ss) (δ : Sls) : R Fl := (r.bind asB).bind fun t => if t then semSs a δ else semSs b δ
theorem pick_t (a b : Ss) (δ : Sls) : pick (.ok (.bool true)) a b δ = semSs a δ := rfl
theorem pick_f (a b : Ss) (δ : Sls) : pick (.ok (.bool false)) a b δ = semSs b δ := rfl
theorem pick_exn (c : Str) (a b : Ss) (δ : Sls) : pick (.exn c) a b δ = .exn c := rfl
def exP (r : R D) (δ : Sls) : R Fl := r.bind fun _ => .ok (.nx δ)
theorem exP_ok (d : D) (δ : Sls) : exP (.ok d) δ = .ok (.nx δ) := rfl
theorem exP_exn (c : Str) (δ : Sls) : exP (.exn c) δ = .exn c := rfl
def setP (i : Nat) (r : R D) (δ : Sls) : R Fl := r.bind fun d => .ok (.nx (δ.set i (.sh d)))
theorem setP_ok (i : Nat) (d : D) (δ : Sls) : setP i (.ok d) δ = .ok (.nx (δ.set i (.sh d))) := rfl
theorem setP_exn (i : Nat) (c : Str) (δ : Sls) : setP i (.exn c) δ = .exn c := rfl
def setVP (i : Nat) (r : R D) (δ : Sls) : R Fl := r.bind fun d => if scal d = true then .ok (.nx (δ.set i (.sh d))) else .bad
theorem setVP_ok (i : Nat) (d : D) (δ : Sls) (h : scal d = true) : setVP i (.ok d) δ = .ok (.nx (δ.set i (.sh d))) := if_pos h
def asgP (t : Tg) (r : R D) (δ : Sls) : R Fl := r.bind fun d => (noExn (bindT t d δ)).bind fun δ' => .ok (.nx δ')
theorem asgP_ok {t : Tg} {d : D} {δ δ' : Sls} (h : bindT t d δ = .ok δ') : asgP t (.ok d) δ = .ok (.nx δ') := by
  show (noExn (bindT t d δ)).bind _ = _
  rw [h]; rfl
def ownP (i : Nat) (r : R (List D)) (δ : Sls) : R Fl := r.bind fun ds => if ds.length ≤ sizeLine then .ok (.nx (δ.set i (.ol ds))) else .bad
theorem ownP_ok {i : Nat} {ds : List D} {δ : Sls} (h : ds.length ≤ 16777216) : ownP i (.ok ds) δ = .ok (.nx (δ.set i (.ol ds))) := if_pos (by rw [sizeLine_eq]; exact h)
def forP (t : Tg) (b : Ss) (δ : Sls) (r : R (List D)) : R Fl := r.bind fun ds => forD t (semSs b) ds δ
theorem forP_ok (t : Tg) (b : Ss) (δ : Sls) (ds : List D) : forP t b δ (.ok ds) = forD t (semSs b) ds δ := rfl
def appP (i : Nat) (s : Option Sl) (r : R D) (δ : Sls) : R Fl := match s with
  | some (.ol ds) => r.bind fun d => if ds.length < sizeLine then .ok (.nx (δ.set i (.ol (ds ++ [d])))) else .bad
  | _ => .bad
theorem appP_ok {i : Nat} {ds : List D} {d : D} {δ : Sls} (h : ds.length < 16777216) : appP i (some (.ol ds)) (.ok d) δ = .ok (.nx (δ.set i (.ol (ds ++ [d])))) := if_pos (by rw [sizeLine_eq]; exact h)
def appVP (i : Nat) (s : Option Sl) (r : R D) (δ : Sls) : R Fl := match s with
  | some (.ol ds) => r.bind fun d => if scal d = true ∧ ds.length < sizeLine then .ok (.nx (δ.set i (.ol (ds ++ [d])))) else .bad
  | _ => .bad
theorem appVP_ok {i : Nat} {ds : List D} {d : D} {δ : Sls} (s : scal d = true) (h : ds.length < 16777216) : appVP i (some (.ol ds)) (.ok d) δ = .ok (.nx (δ.set i (.ol (ds ++ [d])))) := if_pos ⟨s, by rw [sizeLine_eq]; exact h⟩
def extP (i : Nat) (s : Option Sl) (r : R D) (δ : Sls) : R Fl := match s with
  | some (.ol ds) => r.bind fun d => match d with
    | .list es => if ds.length + es.length ≤ sizeLine then .ok (.nx (δ.set i (.ol (ds ++ es)))) else .bad
    | _ => .bad
  | _ => .bad
theorem extP_ok {i : Nat} {ds es : List D} {δ : Sls} (h : ds.length + es.length ≤ 16777216) : extP i (some (.ol ds)) (.ok (.list es)) δ = .ok (.nx (δ.set i (.ol (ds ++ es)))) := if_pos (by rw [sizeLine_eq]; exact h)
def putP (i : Nat) (s : Option Sl) (r t : R D) (δ : Sls) : R Fl := match s with
  | some (.od kvs) => t.bind fun y => r.bind fun k => match keyOf k with
    | some key => if kvs.length < sizeLine then .ok (.nx (δ.set i (.od (putD kvs key y)))) else .bad
    | none => .bad
  | _ => .bad
theorem putP_s {i : Nat} {kvs : List (D × D)} {x : Str} {y : D} {δ : Sls} (h : kvs.length < 16777216) : putP i (some (.od kvs)) (.ok (.str x)) (.ok y) δ = .ok (.nx (δ.set i (.od (putD kvs (.inr x) y)))) := if_pos (by rw [sizeLine_eq]; exact h)
theorem putP_i {i : Nat} {kvs : List (D × D)} {x : Int} {y : D} {δ : Sls} (h : kvs.length < 16777216) : putP i (some (.od kvs)) (.ok (.int x)) (.ok y) δ = .ok (.nx (δ.set i (.od (putD kvs (.inl x) y)))) := if_pos (by rw [sizeLine_eq]; exact h)
def whP (n : Nat) (c : Ex) (b : Ss) (δ : Sls) : R Fl := whileD (fun δ => (sem c δ).bind asB) (semSs b) n δ
theorem wh_t {n : Nat} {c : Ex} {b : Ss} {δ : Sls} (h : sem c (view δ) = .ok (.bool true)) : whP (n + 1) c b δ = andThen (semSs b δ) (whP n c b) := by
  show ((sem c (view δ)).bind asB).bind _ = _
  rw [h]; rfl
theorem wh_f {n : Nat} {c : Ex} {b : Ss} {δ : Sls} (h : sem c (view δ) = .ok (.bool false)) : whP (n + 1) c b δ = .ok (.nx δ) := by
  show ((sem c (view δ)).bind asB).bind _ = _
  rw [h]; rfl
section
variable (δ : Sls)
theorem st_ext (i : Nat) (e : Ex) : semS (.ext i e) δ = extP i δ[i]? (sem e δ) δ := rfl
theorem st_put (i : Nat) (k v : Ex) : semS (.put i k v) δ = putP i δ[i]? (sem k δ) (sem v δ) δ := rfl
theorem st_ownD (i : Nat) : semS (.ownD i) δ = .ok (.nx (δ.set i (.od []))) := rfl
theorem st_while (n : Nat) (c : Ex) (b : Ss) : semS (.while n c b) δ = whP n c b δ := rfl
theorem st_ret (e : Ex) : semS (.ret e) δ = retP (sem e (view δ)) := rfl
theorem st_retN : semS .retN δ = .ok (.rt .none) := rfl
theorem st_pass : semS .pass δ = .ok (.nx δ) := rfl
theorem st_expr (e : Ex) : semS (.expr e) δ = exP (sem e δ) δ := rfl
theorem st_ife (c : Ex) (a b : Ss) : semS (.ife c a b) δ = pick (sem c (view δ)) a b δ := rfl
theorem st_set (i : Nat) (e : Ex) : semS (.set i e) δ = setP i (sem e δ) δ := rfl
theorem st_setV (i : Nat) (e : Ex) : semS (.setV i e) δ = setVP i (sem e (view δ)) δ := rfl
theorem st_asg (t : Tg) (e : Ex) : semS (.asg t e) δ = asgP t (sem e δ) δ := rfl
theorem st_loop (t : Tg) (it : Exi) (b : Ss) : semS (.loop t it b) δ = forP t b δ (semI it δ) := rfl
theorem st_own (i : Nat) (es : Exs) : semS (.own i es) δ = ownP i (semL es δ) δ := rfl
theorem st_app (i : Nat) (e : Ex) : semS (.app i e) δ = appP i δ[i]? (sem e δ) δ := rfl
theorem st_appV (i : Nat) (e : Ex) : semS (.appV i e) δ = appVP i δ[i]? (sem e (view δ)) δ := rfl
theorem st_raise (c : Str) : semS (.raise c) δ = .exn c := rfl
theorem ss_nil : semSs .nil δ = .ok (.nx δ) := rfl
theorem ss_cons (s : Sx) (r : Ss) : semSs (.cons s r) δ = andThen (semS s δ) (semSs r) := rfl
theorem ss_frz (i : Nat) (r : Ss) : semSs (.frz i r) δ = andThen (sFrz i δ) (semSs r) := rfl
end
theorem at_nx (δ : Sls) (g : Sls → R Fl) : andThen (.ok (.nx δ)) g = g δ := rfl
theorem at_rt (d : D) (g : Sls → R Fl) : andThen (.ok (.rt d)) g = .ok (.rt d) := rfl
theorem at_exn (c : Str) (g : Sls → R Fl) : andThen (.exn c) g = .exn c := rfl
def endP (r : R Fl) : R D := r.bind fun
  | .nx _ => .ok .none
  | .rt d => .ok d
theorem endP_nx (δ : Sls) : endP (.ok (.nx δ)) = .ok .none := rfl
theorem endP_rt (d : D) : endP (.ok (.rt d)) = .ok d := rfl
theorem endP_exn (c : Str) : endP (.exn c) = .exn c := rfl
theorem run_eq (n : Nat) (b : Ss) (ds : List D) : runD n b ds = endP (semSs b (ds.map Sl.sh ++ List.replicate (n - ds.length) Sl.un)) := rfl
theorem for_nil (t : Tg) (b : Sls → R Fl) (δ : Sls) : forD t b [] δ = .ok (.nx δ) := rfl
theorem for_cons {t : Tg} {b : Sls → R Fl} {d : D} {ds : List D} {δ δ1 : Sls} (h : bindT t d δ = .ok δ1) : forD t b (d :: ds) δ = andThen (b δ1) (forD t b ds) := by
  show (noExn (bindT t d δ)).bind _ = _
  rw [h]; rfl
/-- a loop by what stands behind i turns -/
theorem for_inv {t : Tg} {b : Sls → R Fl} (I : Nat → Sls) : ∀ (ds : List D) (i : Nat), (∀ j (h : j < ds.length), ∃ δ1, bindT t ds[j] (I (i + j)) = .ok δ1 ∧ b δ1 = .ok (.nx (I (i + j + 1)))) → forD t b ds (I i) = .ok (.nx (I (i + ds.length)))
  | [], i, _ => rfl
  | d :: ds, i, h => by
    obtain ⟨δ1, h1, h2⟩ := h 0 (by simp)
    rw [for_cons (δ1 := δ1) (by simpa using h1), h2, at_nx]
    have ih := for_inv I ds (i + 1) fun j hj => by
      obtain ⟨δ2, q1, q2⟩ := h (j + 1) (by simpa using hj)
      refine ⟨δ2, ?_, ?_⟩
      · rw [show i + 1 + j = i + (j + 1) by omega]; simpa using q1
      · rw [show i + 1 + j + 1 = i + (j + 1) + 1 by omega]; exact q2
    rw [show i + 0 + 1 = i + 1 by omega, ih, List.length_cons, show i + 1 + ds.length = i + (ds.length + 1) by omega]
/-! ### the operations at data told -/
theorem add_ii (i j : Int) : dAdd (.int i) (.int j) = .ok (.int (i + j)) := rfl
theorem add_ll (xs ys : List D) : dAdd (.list xs) (.list ys) = mkL (xs ++ ys) := rfl
theorem add_tt (xs ys : List D) : dAdd (.tuple xs) (.tuple ys) = mkT (xs ++ ys) := rfl
theorem sub_ii (i j : Int) : dSub (.int i) (.int j) = .ok (.int (i - j)) := rfl
theorem mul_ii (i j : Int) : dMul (.int i) (.int j) = if (-(2 ^ 64) < i ∧ i < 2 ^ 64) ∨ (-(2 ^ 64) < j ∧ j < 2 ^ 64) then .ok (.int (i * j)) else .bad := rfl
theorem div_ii (i j : Int) : dDiv (.int i) (.int j) = if 0 < j ∧ j < 1073741824 then .ok (.int (i / j)) else .bad := rfl
theorem mod_ii (i j : Int) : dMod (.int i) (.int j) = if 0 < j then .ok (.int (i % j)) else .bad := rfl
theorem lt_ii (i j : Int) : dLt (.int i) (.int j) = .ok (.bool (decide (i < j))) := rfl
theorem le_ii (i j : Int) : dLe (.int i) (.int j) = .ok (.bool (decide (i ≤ j))) := rfl
theorem gt_ii (i j : Int) : dGt (.int i) (.int j) = .ok (.bool (decide (j < i))) := rfl
theorem ge_ii (i j : Int) : dGe (.int i) (.int j) = .ok (.bool (decide (j ≤ i))) := rfl
theorem is_n : dIs .none .none = .ok (.bool true) := rfl
theorem is_t (xs : List D) : dIs (.tuple xs) .none = .ok (.bool false) := rfl
theorem is_i (i : Int) : dIs (.int i) .none = .ok (.bool false) := rfl
theorem isnot_n : dIsNot .none .none = .ok (.bool false) := rfl
theorem isnot_t (xs : List D) : dIsNot (.tuple xs) .none = .ok (.bool true) := rfl
theorem isnot_i (i : Int) : dIsNot (.int i) .none = .ok (.bool true) := rfl
theorem isi_i (T : Ty) (i : Int) : dIsi T (.int i) = .ok (.bool (isi T (.int i))) := rfl
theorem isi_b (T : Ty) (i : Bool) : dIsi T (.bool i) = .ok (.bool (isi T (.bool i))) := rfl
theorem isi_n (T : Ty) : dIsi T .none = .ok (.bool (isi T .none)) := rfl
theorem isi_s (T : Ty) (i : Str) : dIsi T (.str i) = .ok (.bool (isi T (.str i))) := rfl
theorem isi_l (T : Ty) (i : List D) : dIsi T (.list i) = .ok (.bool (isi T (.list i))) := rfl
theorem isi_t (T : Ty) (i : List D) : dIsi T (.tuple i) = .ok (.bool (isi T (.tuple i))) := rfl
theorem len_l (xs : List D) : dLen [.list xs] = .ok (.int xs.length) := rfl
theorem len_t (xs : List D) : dLen [.tuple xs] = .ok (.int xs.length) := rfl
theorem len_c (ns : List (D × D)) : dLen [.dict ((.none, .none) :: ns)] = .ok (.int ns.length) := rfl
theorem tuple_l (xs : List D) : dTuple [.list xs] = .ok (.tuple xs) := rfl
theorem tuple_t (xs : List D) : dTuple [.tuple xs] = .ok (.tuple xs) := rfl
theorem list_l (xs : List D) : dList [.list xs] = .ok (.list xs) := rfl
theorem list_t (xs : List D) : dList [.tuple xs] = .ok (.list xs) := rfl
theorem int_i (i : Int) : dInt [.int i] = .ok (.int i) := rfl
theorem int_b (b : Bool) : dInt [.bool b] = .ok (.int (if b then 1 else 0)) := rfl
theorem neg_i (i : Int) : dNeg (.int i) = .ok (.int (-i)) := rfl
theorem idx_l (xs : List D) (i : Int) : dIdx (.list xs) (.int i) = ofO (atI xs i) := rfl
theorem idx_t (xs : List D) (i : Int) : dIdx (.tuple xs) (.int i) = ofO (atI xs i) := rfl
theorem idx_c (ns : List (D × D)) (i : Int) : dIdx (.dict ((.none, .none) :: ns)) (.int i) = ofO ((atI ns i).map (·.1)) := rfl
theorem ofO_some (d : D) : ofO (some d) = .ok d := rfl
theorem rev_l (xs : List D) : dRev (.list xs) = .ok (.list xs.reverse) := rfl
theorem cut_l (xs : List D) (a b : Option Int) : dCut (.list xs) a b = .ok (.list (cutD xs a b)) := rfl
theorem cut_t (xs : List D) (a b : Option Int) : dCut (.tuple xs) a b = .ok (.tuple (cutD xs a b)) := rfl
theorem lof_l (xs : List D) : DW.listOf (.list xs) = .ok xs := rfl
theorem tof_t (xs : List D) : DW.tupOf (.tuple xs) = .ok xs := rfl
theorem sof_l (xs : List D) : DW.seqOf (.list xs) = .ok xs := rfl
theorem sof_t (xs : List D) : DW.seqOf (.tuple xs) = .ok xs := rfl
theorem bind_nm (i : Nat) (d : D) (δ : Sls) : bindT (.nm i) d δ = .ok (δ.set i (.sh d)) := rfl
theorem bind_tp (ts : Tgs) (ds : List D) (δ : Sls) : bindT (.tp ts) (.tuple ds) δ = bindTs ts ds δ := rfl
theorem bind_nil (δ : Sls) : bindTs .nil [] δ = .ok δ := rfl
theorem bind_cons (t : Tg) (ts : Tgs) (d : D) (ds : List D) (δ : Sls) : bindTs (.cons t ts) (d :: ds) δ = (bindT t d δ).bind fun δ' => bindTs ts ds δ' := rfl
end DW
/-! The data layer, part S2: the def that tells which refusal it is. -/
namespace DW
open PySem PySem.Spec PyProof.Rows L2
/-- an exception's class c among others -/
structure ExK (K : PySem.W.Frag) (mg : Str → Option Value) (cs : List Str) (c : Str) : Prop where
  ex : ∃ D : Addr, mg c = some (.ref D) ∧ ExcC K D ∧ PySem.W.kitOne K (.ref D) (.type "ValueError") = some true ∧ ∀ x ∈ cs, ∃ C : Addr, mg x = some (.ref C) ∧ PySem.W.kitOne K (.ref D) (.ref C) = some (decide (c = x))
/-- isinstance(e, C), e the exception that is pinned -/
theorem call_pin {X : Cx} {p : Addr × Obj} {D : Addr} (C : ExcC X.K D) (hp : p ∈ X.pn) (hc : p.2.cls = .ref D) (hd : p.2.dict = none) (hf : ∃ vs, p.2.data = .fields vs) : CallR X (.builtin "isinstance") (rIsE X.K D p.1) := by
  obtain ⟨a, oc, od, da, sl⟩ := p
  obtain ⟨vs, hf⟩ := hf
  dsimp only at hc hd hf
  subst hc hd hf
  intro pins s σ H xs us Q I r h
  obtain ⟨c, cv, b, e1, hcv, hb, q⟩ := h
  subst e1
  obtain ⟨u1, u2, rfl, r1, r2⟩ := r.two
  cases r1
  obtain rfl := hcv _ r2
  have kx := PySem.W.handS_kitx_exc (x := a) (ox := ⟨.ref D, none, .fields vs, sl⟩) C.hg C.hk C.hs C.hd C.ha C.hn C.ht C.hm
  have there := (I.pin _ (List.mem_append_left _ hp)).1
  refine PySem.W.kia_one kx I.kIn ⟨there, rfl, rfl, trivial⟩ hb (by intro z; cases z) fun k => ?_
  exact ⟨.bl b, H, I.kept (t' := k) fun _ _ g => g, rfl, q⟩
/-! ### its text -/
def isAsk (sc : Scope) (en c : Str) : Expr → Bool
  | .Call (.Name x _) [.Name y _, .Name z _] [] _ => decide (x = "isinstance") && glB sc x && decide (y = en) && decide (z = c) && glB sc z && noDbg z
  | _ => false
def isAsks (sc : Scope) (en : Str) : List Str → List Expr → Bool
  | [], es => match es with
    | [] => true
    | _ => false
  | c :: cs, es => match es with
    | e :: es => isAsk sc en c e && isAsks sc en cs es
    | _ => false
def isEnd (sc : Scope) (en fn : Str) : List Stmt → Bool
  | [.If (.BoolOp .Or [.Compare (.Call (.Attribute (.Name f1 _) m1 ap1) [.Constant (.bool true) _ _] [] cp1) [.NotEq] [.Constant (.int 1) _ _] _, .UnaryOp .Not v _] _) [.Return (some (.Tuple [.Constant (.str s1) _ _, .UnaryOp .USub (.Constant (.int 1) _ _) _] _ _)) _] [] _,
     .Return (some (.Tuple [.Constant (.str s2) _ _, .Call (.Attribute (.Name f2 _) m2 ap2) [.Constant (.bool true) _ _] [] cp2] _ _)) _] =>
    decide (f1 = fn) && decide (m1 = "count") && (ap1.endLine == cp1.line) && isAsk sc en "ValueError" v && decide (s1 = "refused") && decide (s2 = "refused") && decide (f2 = fn) && decide (m2 = "index") && (ap2.endLine == cp2.line)
  | _ => false
def isTell (sc : Scope) (en fn : Str) (cs : List Str) (ds : Option (List Str)) (l : List Stmt) : Bool := match ds with
  | none => match l with
    | .Assign [.Name x _] (.List es _) _ :: r => decide (x = fn) && isAsks sc en cs es && isEnd sc en fn r
    | _ => false
  | some ds => match l with
    | .Assign [.Name x _] (.List es _) _ :: .Assign [.Name y _] (.BinOp (.Name z _) .Add (.List es2 _) _) _ :: r => decide (x = fn) && isAsks sc en cs es && decide (y = fn) && decide (z = fn) && isAsks sc en ds es2 && isEnd sc en fn r
    | _ => false
/-! ### what it is worth -/
def flagsD (bs : List Bool) (ds : Option (List Bool)) : R D := match ds with
  | none => mkL (bs.map .bool)
  | some ds => (mkL (bs.map .bool)).bind fun l => (mkL (ds.map .bool)).bind fun k => dAdd l k
def endD (l : D) : R D := if Mth.on .countD l = true then (((dCountD l (.bool true)).bind fun n => dNe n (.int 1)).bind asB).bind fun t => if t then mkT [.str "refused", .int (-1)] else (dIndexD l (.bool true)).bind fun i => mkT [.str "refused", i] else .bad
def tellD (rs cs : List Str) (ds : Option (List Str)) (c : Str) : R D := if c ∈ rs then (flagsD (cs.map fun x => decide (c = x)) (ds.map fun l => l.map fun x => decide (c = x))).bind endD else .bad
/-! ### the walk -/
def fAsk (a : Addr) (b : Bool) (δ : Sls) : R D := match δ[(0 : Nat)]? with
  | some (.rf x) => if x = a then .ok (.bool b) else .bad
  | _ => .bad
def fAsks (a : Addr) : List Bool → Sls → R (List D)
  | [], _ => .ok []
  | b :: bs, δ => (fAsk a b δ).bind fun d => (fAsks a bs δ).bind fun ds => .ok (d :: ds)
theorem fAsks_ok (a : Addr) (s : Sl) : ∀ bs : List Bool, fAsks a bs [.rf a, s] = .ok (bs.map .bool)
  | [] => rfl
  | b :: bs => by
    rw [fAsks, fAsks_ok a s bs]
    have : fAsk a b [.rf a, s] = .ok (.bool b) := if_pos rfl
    rw [this]; rfl
section
variable {X : Cx} {W : WX} {sc : Scope} {en fn : Str} {p : Addr × Obj} {Dc : Addr}
structure HotOk (X : Cx) (sc : Scope) (en fn : Str) (p : Addr × Obj) (Dc : Addr) : Prop where
  eS : X.env.scope = sc
  eN : X.N = [en, fn]
  nd : X.N.Nodup
  le : locB sc en = true
  lf : locB sc fn = true
  fnt : ∀ x, X.fn x = true
  de : noDbg en = true
  df : noDbg fn = true
  bi : X.mg "isinstance" = none
  ve : X.mg "ValueError" = none
  un : X.A.units + 65 < cLine
  C : ExcC X.K Dc
  hp : p ∈ X.pn
  hc : p.2.cls = .ref Dc
  hd : p.2.dict = none
  hf : ∃ vs, p.2.data = .fields vs
theorem vis_loc {x : Str} (h : locB sc x = true) : Vis sc x := by
  rcases loc_of h with q | q
  · exact .inl q
  · exact .inr (.inl q)
theorem HotOk.gl (h : HotOk X sc en fn p Dc) {x : Str} (g : glB sc x = true) : Gl X x := by
  show X.env.scope.names.lookup x = _
  rw [h.eS]
  exact of_decide_eq_true g
theorem de_ask (h : HotOk X sc en fn p Dc) {c : Str} {b : Bool} {e : Expr} (q : isAsk sc en c e = true) (hk : (∃ C : Addr, X.mg c = some (.ref C) ∧ PySem.W.kitOne X.K (.ref Dc) (.ref C) = some b) ∨ (c = "ValueError" ∧ PySem.W.kitOne X.K (.ref Dc) (.type "ValueError") = some b)) :
    DE X W e (fAsk p.1 b) ∧ (plainE e = true ∧ ∀ env whole, isTrue e env whole = (do let v ← whole; standAt e.pos; holding [v] (truthy v))) := by
  unfold isAsk at q
  split at q
  · rename_i x p1 y p2 z p3 p4
    simp only [Bool.and_eq_true, decide_eq_true_eq] at q
    obtain ⟨⟨⟨⟨⟨ex, g1⟩, ey⟩, ez⟩, g2⟩, g3⟩ := q
    subst ex ey ez
    refine ⟨?_, rfl, fun env whole => rfl⟩
    have pe0 : PE X (.Name y p2) (tVar 0) := pe_var (by rw [h.eN]; rfl) (by rw [h.eS]; exact vis_loc h.le) (dbg_of h.de).1 (dbg_of h.de).2
    have key : ∀ (v : V) (cv : Value), PE X (.Name z p3) (tC v) → (∀ u, RelV v u → u = cv) → PySem.W.kitOne X.K (.ref Dc) cv = some b → DE X W (.Call (.Name "isinstance" p1) [.Name y p2, .Name z p3] [] p4) (fAsk p.1 b) := fun v cv pv hv hb => by
      refine ⟨_, pe_callB (call_pin h.C h.hp h.hc h.hd h.hf) (h.gl g1) h.bi (by decide +kernel) (pa_cons pe0 (pa_cons pv pa_nil rfl) rfl) (by decide) (by decide) rfl rfl, fun σ F H δ Q rs hpost => ?_⟩
      have hpost : Post X.mg W σ (Rp X.K) F H (match δ[(0 : Nat)]? with
        | some (.rf x) => if x = p.1 then .ok (.bool b) else .bad
        | _ => .bad) Q := hpost
      split at hpost
      · rename_i x ex
        obtain ⟨e2, h2⟩ := post_if hpost
        subst e2
        exact ⟨_, rs.rf 0 _ ex, v, cv, b, rfl, hv, hb, Post.here rs.same h2 (.bl b)⟩
      · exact hpost.elim
    rcases hk with ⟨C, hm, hb⟩ | ⟨rfl, hb⟩
    · exact key (.ref C) (.ref C) (pe_glob (h.gl g2) hm rfl (dbg_of g3).1) (fun u r => r) hb
    · exact key (.ty "ValueError") (.type "ValueError") (pe_bltn (h.gl g2) h.ve (by decide +kernel) rfl (by decide) (by decide)) (fun u r => r) hb
  · cases q
theorem da_asks (h : HotOk X sc en fn p Dc) {k : Str} : ∀ {cs : List Str} {es : List Expr}, isAsks sc en cs es = true → (∀ c ∈ cs, ∃ C : Addr, X.mg c = some (.ref C) ∧ PySem.W.kitOne X.K (.ref Dc) (.ref C) = some (decide (k = c))) → DA X W es (fAsks p.1 (cs.map fun c => decide (k = c)))
  | [], es, q, _ => by
    cases es with
    | nil => exact da_nil
    | cons _ _ => cases q
  | c :: cs, es, q, hk => by
    cases es with
    | nil => cases q
    | cons e es =>
      have q : (isAsk sc en c e && isAsks sc en cs es) = true := q
      rw [Bool.and_eq_true] at q
      obtain ⟨d1, d2, d3⟩ := de_ask (W := W) h q.1 (.inl (hk c List.mem_cons_self))
      exact da_cons d1 (da_asks h q.2 fun x hx => hk x (List.mem_cons_of_mem _ hx)) (plain_star d2 _ _)
theorem HotOk.var1 (h : HotOk X sc en fn p Dc) {pos : Pos} : DE X W (.Name fn pos) (fun δ => lk δ 1) := de_var (by rw [h.eN]; rfl) (by rw [h.eS]; exact vis_loc h.lf) (dbg_of h.df).1 (dbg_of h.df).2
theorem de_true {j : Nat} {pos : Pos} : DE X W (.Constant (.bool true) j pos) (fun _ => .ok (.bool true)) := de_c pe_bl fun F => .bl _
theorem de_one1 {j : Nat} {pos : Pos} : DE X W (.Constant (.int 1) j pos) (fun _ => .ok (.int 1)) := de_c pe_int fun F => .int _
theorem de_word {w : Str} {j : Nat} {pos : Pos} : DE X W (.Constant (.str w) j pos) (fun _ => .ok (.str w)) := de_c pe_str fun F => .str _
theorem de_on (h : HotOk X sc en fn p Dc) (m : Mth) {ap cp p1 p2 : Pos} {j : Nat} (l : (ap.endLine == cp.line) = true) : DE X W (.Call (.Attribute (.Name fn p1) m.nm ap) [.Constant (.bool true) j p2] [] cp) (fun δ => (lk δ 1).bind fun x => if m.on x = true then (R.ok (.bool true)).bind fun y => m.fn x y else .bad) :=
  de_meth h.un m h.var1 de_true (recv_base rfl) l (plain_star rfl _)
/-- flags, then the end -/
theorem dss_end (h : HotOk X sc en fn p Dc) (hv : PySem.W.kitOne X.K (.ref Dc) (.type "ValueError") = some true) {l : List Stmt} (q : isEnd sc en fn l = true) :
    ∃ g, DSs X W l g ∧ ∀ d, g [.rf p.1, .sh d] = (endD d).bind fun r => .ok (.rt r) := by
  unfold isEnd at q
  split at q
  · simp only [Bool.and_eq_true, decide_eq_true_eq] at q
    obtain ⟨⟨⟨⟨⟨⟨⟨⟨rfl, rfl⟩, l1⟩, hi⟩, rfl⟩, rfl⟩, rfl⟩, rfl⟩, l2⟩ := q
    obtain ⟨d1, d2, d3⟩ := de_ask (W := W) h hi (.inr ⟨rfl, hv⟩)
    refine ⟨_, dss_cons (ds_if (dw_or (dt_cmp (od_ne (by have := h.un; omega)) (de_on h .countD l1) de_one1 rfl) (dw_or1 (dt_not (dt_val d1 (d3 _))))).dt (dss_cons (ds_ret (de_tup (da_cons de_word (da_cons (de_neg de_one1) da_nil rfl) rfl))) dss_nil) dss_nil) (dss_cons (ds_ret (de_tup (da_cons de_word (da_cons (de_on h .indexD l2) da_nil rfl) rfl))) dss_nil), fun d => ?_⟩
    have hw : view [.rf p.1, .sh d] = [.rf p.1, .sh d] := rfl
    have hl : lk [.rf p.1, .sh d] 1 = .ok d := rfl
    have ha : fAsk p.1 true [.rf p.1, .sh d] = .ok (.bool true) := if_pos rfl
    have ho : Mth.on .indexD d = Mth.on .countD d := by cases d <;> rfl
    have n1 : dNeg (.int 1) = .ok (.int (-1)) := rfl
    have ab : asB (.bool true) = .ok true := rfl
    simp only [sIf, sRet, hw, hl, ha, ho, R.bind_ok, endD, Mth.fn, n1, ab]
    by_cases on : Mth.on .countD d = true
    · simp only [on, if_true]
      cases dCountD d (.bool true) with
      | exn c => rfl
      | bad => rfl
      | ok n =>
        simp only [R.bind_ok]
        cases dNe n (.int 1) with
        | exn c => rfl
        | bad => rfl
        | ok t =>
          simp only [R.bind_ok]
          cases asB t with
          | exn c => rfl
          | bad => rfl
          | ok b =>
            simp only [R.bind_ok]
            cases b with
            | true =>
              simp only [if_true, R.bind_ok]
              cases mkT [.str "refused", .int (-1)] <;> rfl
            | false =>
              simp only [Bool.false_eq_true, if_false, R.bind_ok, Bool.not_true, at_nx, hw, hl, ho, on, if_true]
              cases dIndexD d (.bool true) with
              | exn c => rfl
              | bad => rfl
              | ok n =>
                simp only [R.bind_ok]
                cases mkT [.str "refused", n] <;> rfl
    · rw [if_neg on, if_neg on]
      rfl
  · cases q
theorem tell_sound (h : HotOk X sc en fn p Dc) (hv : PySem.W.kitOne X.K (.ref Dc) (.type "ValueError") = some true) {k : Str} {cs : List Str} {ds : Option (List Str)} (hk : ∀ c ∈ cs ++ ds.getD [], ∃ C : Addr, X.mg c = some (.ref C) ∧ PySem.W.kitOne X.K (.ref Dc) (.ref C) = some (decide (k = c)))
    {l : List Stmt} (q : isTell sc en fn cs ds l = true) : ∃ g, DSs X W l g ∧ g [.rf p.1, .un] = ((flagsD (cs.map fun x => decide (k = x)) (ds.map fun l => l.map fun x => decide (k = x))).bind endD).bind fun r => .ok (.rt r) := by
  have hN : X.N[1]? = some fn := by rw [h.eN]; rfl
  have hL : Loc X.env.scope fn := by rw [h.eS]; exact loc_of h.lf
  cases ds with
  | none =>
    unfold isTell at q
    dsimp only at q
    split at q
    · simp only [Bool.and_eq_true, decide_eq_true_eq] at q
      obtain ⟨⟨rfl, q1⟩, q2⟩ := q
      obtain ⟨g, d1, d2⟩ := dss_end (W := W) h hv q2
      refine ⟨_, dss_cons (ds_set h.nd hN hL (de_lst (da_asks h q1 fun c hc => hk c (List.mem_append_left _ hc))) rfl (.inl (h.fnt _))) d1, ?_⟩
      show andThen (((fAsks p.1 _ [.rf p.1, .un]).bind mkL).bind fun d => .ok (.nx ([.rf p.1, .un].set 1 (.sh d)))) g = _
      rw [fAsks_ok, R.bind_ok]
      show _ = ((mkL ((cs.map fun x => decide (k = x)).map .bool)).bind endD).bind _
      cases mkL ((cs.map fun x => decide (k = x)).map .bool) with
      | exn c => rfl
      | bad => rfl
      | ok d => exact d2 d
    · cases q
  | some ds =>
    unfold isTell at q
    dsimp only at q
    split at q
    · simp only [Bool.and_eq_true, decide_eq_true_eq] at q
      obtain ⟨⟨⟨⟨⟨rfl, q1⟩, rfl⟩, rfl⟩, q2⟩, q3⟩ := q
      obtain ⟨g, d1, d2⟩ := dss_end (W := W) h hv q3
      refine ⟨_, dss_cons (ds_set h.nd hN hL (de_lst (da_asks h q1 fun c hc => hk c (List.mem_append_left _ hc))) rfl (.inl (h.fnt _))) (dss_cons (ds_set h.nd hN hL (de_bin od_add h.var1 (de_lst (da_asks h q2 fun c hc => hk c (List.mem_append_right _ hc)))) rfl (.inl (h.fnt _))) d1), ?_⟩
      show andThen (((fAsks p.1 _ [.rf p.1, .un]).bind mkL).bind fun d => .ok (.nx ([.rf p.1, .un].set 1 (.sh d)))) (fun δ => andThen (((lk δ 1).bind fun x => ((fAsks p.1 _ δ).bind mkL).bind fun y => dAdd x y).bind fun d => .ok (.nx (δ.set 1 (.sh d)))) g) = _
      rw [fAsks_ok, R.bind_ok]
      show _ = (((mkL ((cs.map fun x => decide (k = x)).map .bool)).bind fun l => (mkL ((ds.map fun x => decide (k = x)).map .bool)).bind fun y => dAdd l y).bind endD).bind _
      cases mkL ((cs.map fun x => decide (k = x)).map .bool) with
      | exn c => rfl
      | bad => rfl
      | ok d =>
        show andThen (((fAsks p.1 _ [.rf p.1, .sh d]).bind mkL).bind (fun y => dAdd d y) |>.bind fun d' => .ok (.nx ([.rf p.1, .sh d].set 1 (.sh d')))) g = _
        rw [fAsks_ok, R.bind_ok]
        simp only [R.bind_ok]
        cases mkL ((ds.map fun x => decide (k = x)).map .bool) with
        | exn c => rfl
        | bad => rfl
        | ok d' =>
          simp only [R.bind_ok]
          cases dAdd d d' with
          | exn c => rfl
          | bad => rfl
          | ok d'' => exact d2 d''
    · cases q
end
def isTellDef (en fn : Str) (cs : List Str) (ds : Option (List Str)) (st : Stmt) : Bool :=
  decide ((defScope st).kind = .function) && !(defScope st).isCoroutine && !(defScope st).isGenerator && decide ([en, fn].Nodup) && locB (defScope st) en && locB (defScope st) fn && (defScope st).names.all (fun y => decide (y.2 ≠ .free)) && noDbg en && noDbg fn && isTell (defScope st) en fn cs ds (defBody st)
theorem tell_try {Γ : Gm} {h : Heap} (X : Γ.K.In h) (G : h.Ns mainGlobals Γ.mg) {f en fn : Str} {st : Stmt} {rs cs : List Str} {ds : Option (List Str)} (q : HasFn Γ.K f st) (hb : Bound st f [en]) (hd : isTellDef en fn cs ds st = true) (hk : ∀ c ∈ rs, ExK Γ.K Γ.mg (cs ++ ds.getD []) c)
    (hD : ∃ CD : Addr, Γ.mg "DueError" = some (.ref CD) ∧ ∀ c ∈ rs, ∀ u, Γ.mg c = some u → PySem.W.exmOne Γ.K u (.ref CD) = some true) (hbi : Γ.mg "isinstance" = none) (hve : Γ.mg "ValueError" = none) (kk : Γ.k ≠ 0) : TryOk Γ f (tellD rs cs ds) := by
  obtain ⟨fa, oc, od, kV, dc, pm, an, cd, ct, sl, h1, h2, h3, h4⟩ := q
  have F := fun_mk (st := st) h2 h3 h4
  obtain ⟨CD, e1, e2⟩ := hD
  obtain ⟨k, ek⟩ : ∃ k, Γ.k = k + 1 := ⟨Γ.k - 1, by omega⟩
  unfold isTellDef at hd
  simp only [Bool.and_eq_true, decide_eq_true_eq, Bool.not_eq_true', List.all_eq_true] at hd
  obtain ⟨⟨⟨⟨⟨⟨⟨⟨⟨z1, z2⟩, z3⟩, z4⟩, z5⟩, z6⟩, z7⟩, z8⟩, z9⟩, z10⟩ := hd
  have S : FnScope [en, fn] [en] (defScope st) := ⟨z1, z2, z3, z4, rfl, fun x hx => by cases List.mem_singleton.mp hx; exact loc_of z5, z7⟩
  have inr : ∀ {c : Str} {d : D}, tellD rs cs ds c = .ok d → c ∈ rs ∧ (flagsD (cs.map fun x => decide (c = x)) (ds.map fun l => l.map fun x => decide (c = x))).bind endD = .ok d := fun {c d} e => by
    unfold tellD at e
    split at e
    · exact ⟨by assumption, e⟩
    · cases e
  refine ⟨CD, fa, _, [en], e1, PySem.W.mg_of X G h1, h4, rfl, F.binds hb, fun c d u hG hu => e2 c (inr hG).1 u hu, ?_⟩
  rw [ek]
  refine fn_hot (k := k) h2 h3 S fun A outer s H vs Q p hl room hsp => ?_
  obtain ⟨rfl, g1, g2, c, d, F0, g3, g4, g5, g6⟩ := hsp
  obtain ⟨hr, hrun⟩ := inr g3
  obtain ⟨D0, x1, x2, x3, x4⟩ := (hk c hr).ex
  have hcl : p.2.cls = .ref D0 := by rw [x1] at g4; exact (Option.some.inj g4).symm
  have hot : HotOk (L2H.cxH (L2N.CX Γ.P Γ.w) Γ.P Γ.w Γ.K Γ.mg Γ.base [en, fn] f (defScope st) fa cd A outer s H noX p) (defScope st) en fn p D0 :=
    ⟨rfl, rfl, z4, z5, z6, fun _ => rfl, z8, z9, hbi, hve, by have := room.un; show (A.deeper _).units + 65 < cLine; omega, x2, List.mem_cons_self, hcl, g1, g2⟩
  obtain ⟨g, b1, b2⟩ := tell_sound (W := W0) hot x3 x4 z10
  refine ⟨_, b1, F0, H, F0, [.rf p.1, .un], ⟨⟨g5, rfl, fun i d e => ?_, fun i a e => ?_, fun i e => ?_, fun i j a e => ?_⟩, Ext.refl g5, fun i a e => ?_⟩, ?_⟩
  · match i, e with
    | 0, e => cases e
    | 1, e => cases e
    | i + 2, e => simp at e
  · match i, e with
    | 0, e => cases e; rfl
    | 1, e => cases e
    | i + 2, e => simp at e
  · match i, e with
    | 0, e => exact e.elim
    | 1, e => exact e.elim
    | i + 2, e => simp [isOwn] at e
  · match i, e with
    | 0, e => exact e.elim
    | 1, e => exact e.elim
    | i + 2, e => simp [isOwn] at e
  · match i, e with
    | 0, e => exact e.elim
    | 1, e => exact e.elim
    | i + 2, e => simp [isOwn] at e
  · rw [b2, hrun]
    exact fun v F' H' e r => g6 v F' H' e r
/-! ### of the module -/
def HasAsk (K : PySem.W.Frag) (c x : Str) (b : Bool) : Prop := ∃ C C' : Addr, PySem.W.nsIn K mainGlobals c = some (some (.ref C)) ∧ PySem.W.nsIn K mainGlobals x = some (some (.ref C')) ∧ PySem.W.kitOne K (.ref C) (.ref C') = some b
theorem mkAsk {K : PySem.W.Frag} {c x : Str} {b : Bool} {C C' : Addr} (h1 : PySem.W.nsIn K mainGlobals c = some (some (.ref C))) (h2 : PySem.W.nsIn K mainGlobals x = some (some (.ref C'))) (h3 : PySem.W.kitOne K (.ref C) (.ref C') = some b) : HasAsk K c x b := ⟨C, C', h1, h2, h3⟩
def HasTold (K : PySem.W.Frag) (c : Str) : Prop := ∃ C CD : Addr, PySem.W.nsIn K mainGlobals c = some (some (.ref C)) ∧ PySem.W.nsIn K mainGlobals "DueError" = some (some (.ref CD)) ∧ ExcC K C ∧ PySem.W.kitOne K (.ref C) (.type "ValueError") = some true ∧ PySem.W.exmOne K (.ref C) (.ref CD) = some true
theorem mkTold {K : PySem.W.Frag} {c : Str} {C CD : Addr} (h1 : PySem.W.nsIn K mainGlobals c = some (some (.ref C))) (h2 : PySem.W.nsIn K mainGlobals "DueError" = some (some (.ref CD)))
    (a1 : PySem.W.findIn K (.ref C) "__getattribute__" = some (some (.builtin "BaseException.__getattribute__"))) (a2 : PySem.W.findIn K (.ref C) "__getattr__" = some none) (a3 : PySem.W.subIn K (.ref C) (.type "BaseException") = some true) (a4 : PySem.W.hasDictIn K C = true)
    (a5 : PySem.W.findIn K (.ref C) "__class__" = some (some (.builtin "object.__class__"))) (a6 : PySem.W.specialIn K (.builtin "object.__class__") "__get__" = some (some (.builtin "getset_descriptor.__get__"))) (a7 : PySem.W.takesIn K (.builtin "object.__class__") = some true) (a8 : PySem.W.mroIn K C (.type "object") = some true)
    (h3 : PySem.W.kitOne K (.ref C) (.type "ValueError") = some true) (b1 : PySem.W.subIn K (.ref CD) (.type "BaseException") = some true) (b2 : PySem.W.hasDictIn K CD = true) (b3 : PySem.W.typeIn K (.ref CD) = some (.type "type")) (b4 : PySem.W.subIn K (.ref C) (.ref CD) = some true) : HasTold K c :=
  ⟨C, CD, h1, h2, ⟨a1, a2, a3, a4, a5, a6, a7, a8⟩, h3, PySem.W.exm_ref b1 b2 b3 b4⟩
section
variable {Γ : Gm} {h : Heap}
theorem has_exk (X : Γ.K.In h) (G : h.Ns mainGlobals Γ.mg) {c : Str} {cs : List Str} (q : HasTold Γ.K c) (qs : ∀ x ∈ cs, HasAsk Γ.K c x (decide (c = x))) : ExK Γ.K Γ.mg cs c := by
  obtain ⟨C, CD, h1, h2, h3, h4, h5⟩ := q
  have m := PySem.W.mg_of X G h1
  refine ⟨C, m, h3, h4, fun x hx => ?_⟩
  obtain ⟨C1, C2, e1, e2, e3⟩ := qs x hx
  have e := m.symm.trans (PySem.W.mg_of X G e1)
  cases e
  exact ⟨C2, PySem.W.mg_of X G e2, e3⟩
theorem has_due (X : Γ.K.In h) (G : h.Ns mainGlobals Γ.mg) {r : Str} {rs : List Str} (qs : ∀ x ∈ r :: rs, HasTold Γ.K x) : ∃ CD : Addr, Γ.mg "DueError" = some (.ref CD) ∧ ∀ c ∈ r :: rs, ∀ u, Γ.mg c = some u → PySem.W.exmOne Γ.K u (.ref CD) = some true := by
  obtain ⟨C, CD, h1, h2, _⟩ := qs r List.mem_cons_self
  have m := PySem.W.mg_of X G h2
  refine ⟨CD, m, fun c hc u hu => ?_⟩
  obtain ⟨C', CD', e1, e2, _, _, e5⟩ := qs c hc
  have e := m.symm.trans (PySem.W.mg_of X G e2)
  cases e
  have e := hu.symm.trans (PySem.W.mg_of X G e1)
  cases e
  exact e5
/-- a def that calls itself: nothing is promised of the innermost call -/
theorem has_bad (X : Γ.K.In h) (G : h.Ns mainGlobals Γ.mg) {x : Str} {st : Stmt} {N ps : List Str} {body : Ss} (q : HasFn Γ.K x st) (hd : isDef N ps body st = true) (hb : Bound st x ps) : FnD Γ.P Γ.w Γ.K Γ.mg Γ.base (Γ.k + 1) x ps.length (fun _ => .bad) := by
  obtain ⟨f, oc, od, kV, dc, pm, an, cd, ct, sl, h1, h2, h3, h4⟩ := q
  have F := fun_mk (st := st) h2 h3 h4
  refine ⟨f, _, ps, PySem.W.mg_of X G h1, F.kp, rfl, F.binds hb, fn_of h2 h3 (isDef_scope hd).1 (fun vs H Q E ⟨_, _, h, _⟩ => h) fun A outer s H vs Q E hr hsp => ?_⟩
  obtain ⟨F0, ds, _, _, _, p⟩ := hsp
  exact p.elim
end
/-! ### evaluation -/
def tryP (r : R Fl) (G : Str → R D) : R Fl := match r with
  | .ok fl => .ok fl
  | .exn c => (noExn (G c)).bind fun d => .ok (.rt d)
  | .bad => .bad
theorem st_try (i : Nat) (b : Ss) (f : Str) (G : Str → R D) (δ : Sls) : semS (.tryR i b f G) δ = tryP (semSs b δ) G := rfl
theorem tryP_ok (fl : Fl) (G : Str → R D) : tryP (.ok fl) G = .ok fl := rfl
theorem tryP_exn (c : Str) (G : Str → R D) : tryP (.exn c) G = (noExn (G c)).bind fun d => .ok (.rt d) := rfl
end DW
/-! Shapes, moments, draws: the literals, and what they are worth. -/
namespace DW
open PySem L2
def n_is_number : List Str := ["thing", "low", "high"]
def p_is_number : List Str := ["thing", "low", "high"]
def b_is_number : Ss := .cons (.ret (.and (.isi .int (.var 0)) (.and (.not (.isi .bool (.var 0))) (.chain .le .le (.var 1) (.var 0) (.var 2))))) (.nil)
def f_is_number : List D → R D := runD 3 b_is_number

def n_is_shape : List Str := ["thing", "one"]
def p_is_shape : List Str := ["thing"]
def b_is_shape : Ss := .cons (.ife (.or (.not (.isi .tuple (.var 0))) (.not (.chain .le .le (.int 1) (.bi .len (.cons (.var 0) (.nil))) (.gint "MOST_WHEELS" (4))))) (.cons (.ret (.bl false)) (.nil)) (.nil)) (.cons (.ret (.bi .all (.cons (.comp (.call "is_number" 3 f_is_number (.cons (.var 1) (.cons (.int 2) (.cons (.gint "MOST_BOXES" (8)) (.nil))))) (.nm 1) (.tup (.var 0)) .none [("one", 1)]) (.nil)))) (.nil))
def f_is_shape : List D → R D := runD 2 b_is_shape

def n_need_shape : List Str := ["shape"]
def p_need_shape : List Str := ["shape"]
def b_need_shape : Ss := .cons (.ife (.not (.call "is_shape" 1 f_is_shape (.cons (.var 0) (.nil)))) (.cons (.raise "NoShape") (.nil)) (.nil)) (.nil)
def f_need_shape : List D → R D := runD 1 b_need_shape

def n_is_time : List Str := ["thing"]
def p_is_time : List Str := ["thing"]
def b_is_time : Ss := .cons (.ret (.call "is_number" 3 f_is_number (.cons (.var 0) (.cons (.int 0) (.cons (.gint "MOST_TIME" (9999)) (.nil)))))) (.nil)
def f_is_time : List D → R D := runD 1 b_is_time

def n_need_time : List Str := ["time"]
def p_need_time : List Str := ["time"]
def b_need_time : Ss := .cons (.ife (.not (.call "is_time" 1 f_is_time (.cons (.var 0) (.nil)))) (.cons (.raise "NoTime") (.nil)) (.nil)) (.nil)
def f_need_time : List D → R D := runD 1 b_need_time

def n_rounds : List Str := ["shape", "found", "many"]
def p_rounds : List Str := ["shape"]
def b_rounds : Ss := .cons (.expr (.call "need_shape" 1 f_need_shape (.cons (.var 0) (.nil)))) (.cons (.own 1 (.cons (.int 1) (.nil))) (.cons (.loop (.nm 2) (.tup (.var 0)) (.cons (.appV 1 (.bin .mul (.idx (.var 1) (.neg (.int 1))) (.var 2))) (.nil))) (.cons (.ret (.var 1)) (.nil))))
def f_rounds : List D → R D := runD 3 b_rounds

def n_hands : List Str := ["shape", "time", "found", "many"]
def p_hands : List Str := ["shape", "time"]
def b_hands : Ss := .cons (.expr (.call "need_shape" 1 f_need_shape (.cons (.var 0) (.nil)))) (.cons (.expr (.call "need_time" 1 f_need_time (.cons (.var 1) (.nil)))) (.cons (.own 2 (.nil)) (.cons (.loop (.nm 3) (.tup (.var 0)) (.cons (.app 2 (.bin .mod (.var 1) (.var 3))) (.cons (.set 1 (.bin .div (.var 1) (.var 3))) (.nil)))) (.cons (.ret (.bin .add (.var 2) (.lst (.cons (.var 1) (.nil))))) (.nil)))))
def f_hands : List D → R D := runD 4 b_hands

def n_time_of : List Str := ["shape", "places", "found", "many", "place"]
def p_time_of : List Str := ["shape", "places"]
def b_time_of : Ss := .cons (.set 2 (.idx (.var 1) (.neg (.int 1)))) (.cons (.loop (.tp (.cons (.nm 3) (.cons (.nm 4) (.nil)))) (.list (.rev (.lzip (.var 0) (.var 1)))) (.cons (.set 2 (.bin .add (.bin .mul (.var 2) (.var 3)) (.var 4))) (.nil))) (.cons (.ret (.var 2)) (.nil)))
def f_time_of : List D → R D := runD 5 b_time_of

def n_law_cell : List Str := ["script", "k"]
def p_law_cell : List Str := ["script", "k"]
def b_law_cell : Ss := .cons (.ife (.cmp .eq (.var 0) (.lst (.nil))) (.cons (.ret (.bin .mul (.int 7) (.var 1))) (.nil)) (.nil)) (.cons (.ret (.bin .add (.idx (.var 0) (.bin .mod (.var 1) (.bi .len (.cons (.var 0) (.nil))))) (.bin .mul (.int 6553) (.bin .div (.var 1) (.bi .len (.cons (.var 0) (.nil))))))) (.nil))
def f_law_cell : List D → R D := runD 2 b_law_cell

def n_law_drawn : List Str := ["script", "k", "many", "cell"]
def p_law_drawn : List Str := ["script", "k", "many"]
def b_law_drawn : Ss := .cons (.set 3 (.bin .mod (.bin .add (.bin .mul (.bin .mod (.call "_law_cell" 2 f_law_cell (.cons (.var 0) (.cons (.var 1) (.nil)))) (.int 2147483563)) (.int 69069)) (.bin .mul (.int 104723) (.bin .add (.var 1) (.int 1)))) (.int 2147483563))) (.cons (.set 3 (.bin .mod (.bin .add (.bin .mul (.var 3) (.var 3)) (.bin .div (.var 3) (.int 3))) (.int 2147483399))) (.cons (.ret (.bin .mod (.bin .div (.bin .mod (.bin .add (.bin .mul (.var 3) (.var 3)) (.bin .div (.var 3) (.int 7))) (.int 2147483647)) (.int 11)) (.var 2))) (.nil)))
def f_law_drawn : List D → R D := runD 4 b_law_drawn

def n_law_shape : List Str := ["script", "at", "wheels", "k"]
def p_law_shape : List Str := ["script", "at"]
def b_law_shape : Ss := .cons (.set 2 (.bin .add (.int 1) (.call "_law_drawn" 3 f_law_drawn (.cons (.var 0) (.cons (.var 1) (.cons (.int 4) (.nil))))))) (.cons (.ret (.bi .tuple (.cons (.comp (.bin .add (.int 2) (.call "_law_drawn" 3 f_law_drawn (.cons (.var 0) (.cons (.bin .add (.bin .add (.var 1) (.int 1)) (.var 3)) (.cons (.idx (.lst (.cons (.int 7) (.cons (.int 4) (.cons (.int 3) (.cons (.int 2) (.nil)))))) (.var 3)) (.nil)))))) (.nm 3) (.r1 (.var 2)) .none [("k", 3)]) (.nil)))) (.nil))
def f_law_shape : List D → R D := runD 4 b_law_shape

/-! ### numbers -/
theorem is_number_int (i lo hi : Int) : f_is_number [.int i, .int lo, .int hi] = .ok (.bool (decide (lo ≤ i) && decide (i ≤ hi))) := by
  simp -implicitDefEqProofs only [f_is_number, run_eq, b_is_number, ss_cons, ss_nil, st_ret, st_retN, st_pass, st_expr, st_ife, st_set, st_setV, st_asg, st_loop, st_ext, st_put, st_ownD, st_while, st_own, st_app, st_appV, st_raise, st_try, tryP_ok, tryP_exn, at_nx, at_rt, at_exn, endP_nx, endP_rt, endP_exn, ev_var, ev_int, ev_str, ev_bl, ev_non, ev_gint, ev_gstr, ev_bin, ev_neg, ev_cmp, ev_chain, ev_and, ev_or, ev_not, ev_ite, ev_tup, ev_lst, ev_call, ev_bi, ev_isi, ev_idx, ev_rev, ev_nil, ev_cons, ev_cut, ev_oN, ev_oS, ev_lzip, ev_dget, ev_lrange, ev_sset, ev_meth, mth_count, mth_index, mth_join, mth_split, ev_iL, ev_iT, ev_iS, ev_r1, ev_r2, ev_r3, ev_zip, ev_enum, ev_cN, ev_cS, ev_comp, two_ok, two_exn, one_ok, one_exn, many_ok, many_exn, consR_ok, consR_exn, andP_t, andP_f, orP_t, orP_f, notP_ok, notP_exn, chP_t, chP_f, chQ_ok, iteP_t, iteP_f, cutP_ok, oP_ok, itP_ok, itP2_ok, itP3_ok, cP_ok, listR_ok, retP_ok, pick_t, pick_f, pick_exn, exP_ok, exP_exn, setP_ok, setP_exn, forP_ok, view, shSl, lk, List.map_cons, List.map_nil, List.length_cons, List.length_nil, List.append_nil, List.nil_append, List.cons_append, List.getElem?_cons_zero, List.getElem?_cons_succ, List.set_cons_zero, List.set_cons_succ, List.set_nil, List.replicate_zero, List.replicate_succ, Nat.sub_self, Nat.zero_add, Nat.reduceAdd, Nat.reduceSub, Bop.fn, Cop.fn, Bi.fn, add_ii, add_ll, add_tt, sub_ii, mul_ii, div_ii, mod_ii, lt_ii, le_ii, gt_ii, ge_ii, is_n, is_t, is_i, isnot_n, isnot_t, isnot_i, isi_i, isi_b, isi_n, isi_s, isi_l, isi_t, isi, DW.len_l, DW.len_t, DW.len_c, tuple_l, tuple_t, list_l, list_t, int_i, int_b, neg_i, idx_l, idx_t, idx_c, ofO_some, rev_l, cut_l, cut_t, lof_l, tof_t, sof_l, sof_t, lzipS, zipS, enumS, R.bind_ok, if_true, if_false, ite_true, ite_false, Bool.not_true, Bool.not_false, bind_nm, bind_tp, bind_nil, bind_cons, DW.scal, DW.wipeD]
  cases decide (lo ≤ i) <;> simp -implicitDefEqProofs only [ss_cons, ss_nil, st_ret, st_retN, st_pass, st_expr, st_ife, st_set, st_setV, st_asg, st_loop, st_ext, st_put, st_ownD, st_while, st_own, st_app, st_appV, st_raise, st_try, tryP_ok, tryP_exn, at_nx, at_rt, at_exn, endP_nx, endP_rt, endP_exn, ev_var, ev_int, ev_str, ev_bl, ev_non, ev_gint, ev_gstr, ev_bin, ev_neg, ev_cmp, ev_chain, ev_and, ev_or, ev_not, ev_ite, ev_tup, ev_lst, ev_call, ev_bi, ev_isi, ev_idx, ev_rev, ev_nil, ev_cons, ev_cut, ev_oN, ev_oS, ev_lzip, ev_dget, ev_lrange, ev_sset, ev_meth, mth_count, mth_index, mth_join, mth_split, ev_iL, ev_iT, ev_iS, ev_r1, ev_r2, ev_r3, ev_zip, ev_enum, ev_cN, ev_cS, ev_comp, two_ok, two_exn, one_ok, one_exn, many_ok, many_exn, consR_ok, consR_exn, andP_t, andP_f, orP_t, orP_f, notP_ok, notP_exn, chP_t, chP_f, chQ_ok, iteP_t, iteP_f, cutP_ok, oP_ok, itP_ok, itP2_ok, itP3_ok, cP_ok, listR_ok, retP_ok, pick_t, pick_f, pick_exn, exP_ok, exP_exn, setP_ok, setP_exn, forP_ok, view, shSl, lk, List.map_cons, List.map_nil, List.length_cons, List.length_nil, List.append_nil, List.nil_append, List.cons_append, List.getElem?_cons_zero, List.getElem?_cons_succ, List.set_cons_zero, List.set_cons_succ, List.set_nil, List.replicate_zero, List.replicate_succ, Nat.sub_self, Nat.zero_add, Nat.reduceAdd, Nat.reduceSub, Bop.fn, Cop.fn, Bi.fn, add_ii, add_ll, add_tt, sub_ii, mul_ii, div_ii, mod_ii, lt_ii, le_ii, gt_ii, ge_ii, is_n, is_t, is_i, isnot_n, isnot_t, isnot_i, isi_i, isi_b, isi_n, isi_s, isi_l, isi_t, isi, DW.len_l, DW.len_t, DW.len_c, tuple_l, tuple_t, list_l, list_t, int_i, int_b, neg_i, idx_l, idx_t, idx_c, ofO_some, rev_l, cut_l, cut_t, lof_l, tof_t, sof_l, sof_t, lzipS, zipS, enumS, R.bind_ok, if_true, if_false, ite_true, ite_false, Bool.not_true, Bool.not_false, bind_nm, bind_tp, bind_nil, bind_cons, DW.scal, DW.wipeD, Bool.true_and, Bool.false_and]
theorem is_number_no (d : D) (lo hi : Int) (h : isi .int d = false ∨ isi .bool d = true) (hd : ∀ kvs, d ≠ .dict kvs) : f_is_number [d, .int lo, .int hi] = .ok (.bool false) := by
  cases d <;> simp [isi] at h <;> first | rfl | exact absurd rfl (hd _)
/-- a shape: up to four wheels of two to eight boxes -/
structure Shp (xs : List Int) : Prop where
  l1 : 1 ≤ xs.length
  l4 : xs.length ≤ 4
  lo : ∀ x ∈ xs, 2 ≤ x
  hi : ∀ x ∈ xs, x ≤ 8
def nms (xs : List Int) : List D := xs.map .int
def shD (xs : List Int) : D := .tuple (nms xs)
theorem nms_len (xs : List Int) : (nms xs).length = xs.length := List.length_map ..
theorem nms_cons (x : Int) (xs : List Int) : nms (x :: xs) = .int x :: nms xs := rfl
theorem nms_nil : nms [] = [] := rfl
theorem bools_map : ∀ (bs : List Bool), bools (bs.map .bool) = some bs
  | [] => rfl
  | b :: bs => by rw [List.map_cons, bools, bools_map bs]; rfl
theorem intsOf_map : ∀ (bs : List Int), intsOf (nms bs) = some bs
  | [] => rfl
  | b :: bs => by rw [nms_cons, intsOf, intsOf_map bs]; rfl
theorem is_shape_ints (xs : List Int) (hl : xs.length ≤ 1000) : f_is_shape [shD xs] = .ok (.bool (decide (1 ≤ xs.length ∧ xs.length ≤ 4) && xs.all fun x => decide (2 ≤ x) && decide (x ≤ 8))) := by
  have hc : ∀ δ : Sls, compG (.call "is_number" 3 f_is_number (.cons (.var 1) (.cons (.int 2) (.cons (.gint "MOST_BOXES" (8)) (.nil))))) (.nm 1) .none [δ.getD 0 .un, .un] (nms xs) = .ok ((xs.map fun x => decide (2 ≤ x) && decide (x ≤ 8)).map .bool) := fun δ => by
    rw [List.map_map]
    refine compG_map .int _ xs fun x _ => ⟨_, rfl, ?_⟩
    simp -implicitDefEqProofs only [ss_cons, ss_nil, st_ret, st_retN, st_pass, st_expr, st_ife, st_set, st_setV, st_asg, st_loop, st_ext, st_put, st_ownD, st_while, st_own, st_app, st_appV, st_raise, st_try, tryP_ok, tryP_exn, at_nx, at_rt, at_exn, endP_nx, endP_rt, endP_exn, ev_var, ev_int, ev_str, ev_bl, ev_non, ev_gint, ev_gstr, ev_bin, ev_neg, ev_cmp, ev_chain, ev_and, ev_or, ev_not, ev_ite, ev_tup, ev_lst, ev_call, ev_bi, ev_isi, ev_idx, ev_rev, ev_nil, ev_cons, ev_cut, ev_oN, ev_oS, ev_lzip, ev_dget, ev_lrange, ev_sset, ev_meth, mth_count, mth_index, mth_join, mth_split, ev_iL, ev_iT, ev_iS, ev_r1, ev_r2, ev_r3, ev_zip, ev_enum, ev_cN, ev_cS, ev_comp, two_ok, two_exn, one_ok, one_exn, many_ok, many_exn, consR_ok, consR_exn, andP_t, andP_f, orP_t, orP_f, notP_ok, notP_exn, chP_t, chP_f, chQ_ok, iteP_t, iteP_f, cutP_ok, oP_ok, itP_ok, itP2_ok, itP3_ok, cP_ok, listR_ok, retP_ok, pick_t, pick_f, pick_exn, exP_ok, exP_exn, setP_ok, setP_exn, forP_ok, view, shSl, lk, List.map_cons, List.map_nil, List.length_cons, List.length_nil, List.append_nil, List.nil_append, List.cons_append, List.getElem?_cons_zero, List.getElem?_cons_succ, List.set_cons_zero, List.set_cons_succ, List.set_nil, List.replicate_zero, List.replicate_succ, Nat.sub_self, Nat.zero_add, Nat.reduceAdd, Nat.reduceSub, Bop.fn, Cop.fn, Bi.fn, add_ii, add_ll, add_tt, sub_ii, mul_ii, div_ii, mod_ii, lt_ii, le_ii, gt_ii, ge_ii, is_n, is_t, is_i, isnot_n, isnot_t, isnot_i, isi_i, isi_b, isi_n, isi_s, isi_l, isi_t, isi, DW.len_l, DW.len_t, DW.len_c, tuple_l, tuple_t, list_l, list_t, int_i, int_b, neg_i, idx_l, idx_t, idx_c, ofO_some, rev_l, cut_l, cut_t, lof_l, tof_t, sof_l, sof_t, lzipS, zipS, enumS, R.bind_ok, if_true, if_false, ite_true, ite_false, Bool.not_true, Bool.not_false, bind_nm, bind_tp, bind_nil, bind_cons, DW.scal, DW.wipeD, is_number_int, Function.comp]
  simp -implicitDefEqProofs only [f_is_shape, run_eq, b_is_shape, shD, ss_cons, ss_nil, st_ret, st_retN, st_pass, st_expr, st_ife, st_set, st_setV, st_asg, st_loop, st_ext, st_put, st_ownD, st_while, st_own, st_app, st_appV, st_raise, st_try, tryP_ok, tryP_exn, at_nx, at_rt, at_exn, endP_nx, endP_rt, endP_exn, ev_var, ev_int, ev_str, ev_bl, ev_non, ev_gint, ev_gstr, ev_bin, ev_neg, ev_cmp, ev_chain, ev_and, ev_or, ev_not, ev_ite, ev_tup, ev_lst, ev_call, ev_bi, ev_isi, ev_idx, ev_rev, ev_nil, ev_cons, ev_cut, ev_oN, ev_oS, ev_lzip, ev_dget, ev_lrange, ev_sset, ev_meth, mth_count, mth_index, mth_join, mth_split, ev_iL, ev_iT, ev_iS, ev_r1, ev_r2, ev_r3, ev_zip, ev_enum, ev_cN, ev_cS, ev_comp, two_ok, two_exn, one_ok, one_exn, many_ok, many_exn, consR_ok, consR_exn, andP_t, andP_f, orP_t, orP_f, notP_ok, notP_exn, chP_t, chP_f, chQ_ok, iteP_t, iteP_f, cutP_ok, oP_ok, itP_ok, itP2_ok, itP3_ok, cP_ok, listR_ok, retP_ok, pick_t, pick_f, pick_exn, exP_ok, exP_exn, setP_ok, setP_exn, forP_ok, view, shSl, lk, List.map_cons, List.map_nil, List.length_cons, List.length_nil, List.append_nil, List.nil_append, List.cons_append, List.getElem?_cons_zero, List.getElem?_cons_succ, List.set_cons_zero, List.set_cons_succ, List.set_nil, List.replicate_zero, List.replicate_succ, Nat.sub_self, Nat.zero_add, Nat.reduceAdd, Nat.reduceSub, Bop.fn, Cop.fn, Bi.fn, add_ii, add_ll, add_tt, sub_ii, mul_ii, div_ii, mod_ii, lt_ii, le_ii, gt_ii, ge_ii, is_n, is_t, is_i, isnot_n, isnot_t, isnot_i, isi_i, isi_b, isi_n, isi_s, isi_l, isi_t, isi, DW.len_l, DW.len_t, DW.len_c, tuple_l, tuple_t, list_l, list_t, int_i, int_b, neg_i, idx_l, idx_t, idx_c, ofO_some, rev_l, cut_l, cut_t, lof_l, tof_t, sof_l, sof_t, lzipS, zipS, enumS, R.bind_ok, if_true, if_false, ite_true, ite_false, Bool.not_true, Bool.not_false, bind_nm, bind_tp, bind_nil, bind_cons, DW.scal, DW.wipeD]
  by_cases h1 : 1 ≤ xs.length
  · by_cases h2 : xs.length ≤ 4
    · have e1 : decide ((1 : Int) ≤ ((nms xs).length : Nat)) = true := decide_eq_true (by rw [nms_len]; omega)
      have e2 : decide (((nms xs).length : Int) ≤ 4) = true := decide_eq_true (by rw [nms_len]; omega)
      have hcc := hc [.sh (.tuple (nms xs))]
      simp only [List.getD_cons_zero] at hcc
      simp -implicitDefEqProofs only [ss_cons, ss_nil, st_ret, st_retN, st_pass, st_expr, st_ife, st_set, st_setV, st_asg, st_loop, st_ext, st_put, st_ownD, st_while, st_own, st_app, st_appV, st_raise, st_try, tryP_ok, tryP_exn, at_nx, at_rt, at_exn, endP_nx, endP_rt, endP_exn, ev_var, ev_int, ev_str, ev_bl, ev_non, ev_gint, ev_gstr, ev_bin, ev_neg, ev_cmp, ev_chain, ev_and, ev_or, ev_not, ev_ite, ev_tup, ev_lst, ev_call, ev_bi, ev_isi, ev_idx, ev_rev, ev_nil, ev_cons, ev_cut, ev_oN, ev_oS, ev_lzip, ev_dget, ev_lrange, ev_sset, ev_meth, mth_count, mth_index, mth_join, mth_split, ev_iL, ev_iT, ev_iS, ev_r1, ev_r2, ev_r3, ev_zip, ev_enum, ev_cN, ev_cS, ev_comp, two_ok, two_exn, one_ok, one_exn, many_ok, many_exn, consR_ok, consR_exn, andP_t, andP_f, orP_t, orP_f, notP_ok, notP_exn, chP_t, chP_f, chQ_ok, iteP_t, iteP_f, cutP_ok, oP_ok, itP_ok, itP2_ok, itP3_ok, cP_ok, listR_ok, retP_ok, pick_t, pick_f, pick_exn, exP_ok, exP_exn, setP_ok, setP_exn, forP_ok, view, shSl, lk, List.map_cons, List.map_nil, List.length_cons, List.length_nil, List.append_nil, List.nil_append, List.cons_append, List.getElem?_cons_zero, List.getElem?_cons_succ, List.set_cons_zero, List.set_cons_succ, List.set_nil, List.replicate_zero, List.replicate_succ, Nat.sub_self, Nat.zero_add, Nat.reduceAdd, Nat.reduceSub, Bop.fn, Cop.fn, Bi.fn, add_ii, add_ll, add_tt, sub_ii, mul_ii, div_ii, mod_ii, lt_ii, le_ii, gt_ii, ge_ii, is_n, is_t, is_i, isnot_n, isnot_t, isnot_i, isi_i, isi_b, isi_n, isi_s, isi_l, isi_t, isi, DW.len_l, DW.len_t, DW.len_c, tuple_l, tuple_t, list_l, list_t, int_i, int_b, neg_i, idx_l, idx_t, idx_c, ofO_some, rev_l, cut_l, cut_t, lof_l, tof_t, sof_l, sof_t, lzipS, zipS, enumS, R.bind_ok, if_true, if_false, ite_true, ite_false, Bool.not_true, Bool.not_false, bind_nm, bind_tp, bind_nil, bind_cons, DW.scal, DW.wipeD, e1, e2, compP_ok (show (nms xs).length ≤ 16777216 by rw [nms_len]; omega), hcc, dAll, bools_map, h1, h2, and_self, decide_true, Bool.true_and]
      rw [List.all_map]; rfl
    · have e1 : decide ((1 : Int) ≤ ((nms xs).length : Nat)) = true := decide_eq_true (by rw [nms_len]; omega)
      have e2 : decide (((nms xs).length : Int) ≤ 4) = false := decide_eq_false (by rw [nms_len]; omega)
      simp -implicitDefEqProofs only [ss_cons, ss_nil, st_ret, st_retN, st_pass, st_expr, st_ife, st_set, st_setV, st_asg, st_loop, st_ext, st_put, st_ownD, st_while, st_own, st_app, st_appV, st_raise, st_try, tryP_ok, tryP_exn, at_nx, at_rt, at_exn, endP_nx, endP_rt, endP_exn, ev_var, ev_int, ev_str, ev_bl, ev_non, ev_gint, ev_gstr, ev_bin, ev_neg, ev_cmp, ev_chain, ev_and, ev_or, ev_not, ev_ite, ev_tup, ev_lst, ev_call, ev_bi, ev_isi, ev_idx, ev_rev, ev_nil, ev_cons, ev_cut, ev_oN, ev_oS, ev_lzip, ev_dget, ev_lrange, ev_sset, ev_meth, mth_count, mth_index, mth_join, mth_split, ev_iL, ev_iT, ev_iS, ev_r1, ev_r2, ev_r3, ev_zip, ev_enum, ev_cN, ev_cS, ev_comp, two_ok, two_exn, one_ok, one_exn, many_ok, many_exn, consR_ok, consR_exn, andP_t, andP_f, orP_t, orP_f, notP_ok, notP_exn, chP_t, chP_f, chQ_ok, iteP_t, iteP_f, cutP_ok, oP_ok, itP_ok, itP2_ok, itP3_ok, cP_ok, listR_ok, retP_ok, pick_t, pick_f, pick_exn, exP_ok, exP_exn, setP_ok, setP_exn, forP_ok, view, shSl, lk, List.map_cons, List.map_nil, List.length_cons, List.length_nil, List.append_nil, List.nil_append, List.cons_append, List.getElem?_cons_zero, List.getElem?_cons_succ, List.set_cons_zero, List.set_cons_succ, List.set_nil, List.replicate_zero, List.replicate_succ, Nat.sub_self, Nat.zero_add, Nat.reduceAdd, Nat.reduceSub, Bop.fn, Cop.fn, Bi.fn, add_ii, add_ll, add_tt, sub_ii, mul_ii, div_ii, mod_ii, lt_ii, le_ii, gt_ii, ge_ii, is_n, is_t, is_i, isnot_n, isnot_t, isnot_i, isi_i, isi_b, isi_n, isi_s, isi_l, isi_t, isi, DW.len_l, DW.len_t, DW.len_c, tuple_l, tuple_t, list_l, list_t, int_i, int_b, neg_i, idx_l, idx_t, idx_c, ofO_some, rev_l, cut_l, cut_t, lof_l, tof_t, sof_l, sof_t, lzipS, zipS, enumS, R.bind_ok, if_true, if_false, ite_true, ite_false, Bool.not_true, Bool.not_false, bind_nm, bind_tp, bind_nil, bind_cons, DW.scal, DW.wipeD, e1, e2, h2, and_false, decide_false, Bool.false_and]
  · have e1 : decide ((1 : Int) ≤ ((nms xs).length : Nat)) = false := decide_eq_false (by rw [nms_len]; omega)
    simp -implicitDefEqProofs only [ss_cons, ss_nil, st_ret, st_retN, st_pass, st_expr, st_ife, st_set, st_setV, st_asg, st_loop, st_ext, st_put, st_ownD, st_while, st_own, st_app, st_appV, st_raise, st_try, tryP_ok, tryP_exn, at_nx, at_rt, at_exn, endP_nx, endP_rt, endP_exn, ev_var, ev_int, ev_str, ev_bl, ev_non, ev_gint, ev_gstr, ev_bin, ev_neg, ev_cmp, ev_chain, ev_and, ev_or, ev_not, ev_ite, ev_tup, ev_lst, ev_call, ev_bi, ev_isi, ev_idx, ev_rev, ev_nil, ev_cons, ev_cut, ev_oN, ev_oS, ev_lzip, ev_dget, ev_lrange, ev_sset, ev_meth, mth_count, mth_index, mth_join, mth_split, ev_iL, ev_iT, ev_iS, ev_r1, ev_r2, ev_r3, ev_zip, ev_enum, ev_cN, ev_cS, ev_comp, two_ok, two_exn, one_ok, one_exn, many_ok, many_exn, consR_ok, consR_exn, andP_t, andP_f, orP_t, orP_f, notP_ok, notP_exn, chP_t, chP_f, chQ_ok, iteP_t, iteP_f, cutP_ok, oP_ok, itP_ok, itP2_ok, itP3_ok, cP_ok, listR_ok, retP_ok, pick_t, pick_f, pick_exn, exP_ok, exP_exn, setP_ok, setP_exn, forP_ok, view, shSl, lk, List.map_cons, List.map_nil, List.length_cons, List.length_nil, List.append_nil, List.nil_append, List.cons_append, List.getElem?_cons_zero, List.getElem?_cons_succ, List.set_cons_zero, List.set_cons_succ, List.set_nil, List.replicate_zero, List.replicate_succ, Nat.sub_self, Nat.zero_add, Nat.reduceAdd, Nat.reduceSub, Bop.fn, Cop.fn, Bi.fn, add_ii, add_ll, add_tt, sub_ii, mul_ii, div_ii, mod_ii, lt_ii, le_ii, gt_ii, ge_ii, is_n, is_t, is_i, isnot_n, isnot_t, isnot_i, isi_i, isi_b, isi_n, isi_s, isi_l, isi_t, isi, DW.len_l, DW.len_t, DW.len_c, tuple_l, tuple_t, list_l, list_t, int_i, int_b, neg_i, idx_l, idx_t, idx_c, ofO_some, rev_l, cut_l, cut_t, lof_l, tof_t, sof_l, sof_t, lzipS, zipS, enumS, R.bind_ok, if_true, if_false, ite_true, ite_false, Bool.not_true, Bool.not_false, bind_nm, bind_tp, bind_nil, bind_cons, DW.scal, DW.wipeD, e1, h1, false_and, decide_false, Bool.false_and]
theorem is_shape_ok {xs : List Int} (s : Shp xs) : f_is_shape [shD xs] = .ok (.bool true) := by
  rw [is_shape_ints xs (by have := s.l4; omega), decide_eq_true ⟨s.l1, s.l4⟩]
  have : (xs.all fun x => decide (2 ≤ x) && decide (x ≤ 8)) = true := List.all_eq_true.mpr fun x hx => by simp [s.lo x hx, s.hi x hx]
  rw [this]; rfl
theorem need_shape_ok {xs : List Int} (s : Shp xs) : f_need_shape [shD xs] = .ok .none := by
  simp -implicitDefEqProofs only [f_need_shape, run_eq, b_need_shape, ss_cons, ss_nil, st_ret, st_retN, st_pass, st_expr, st_ife, st_set, st_setV, st_asg, st_loop, st_ext, st_put, st_ownD, st_while, st_own, st_app, st_appV, st_raise, st_try, tryP_ok, tryP_exn, at_nx, at_rt, at_exn, endP_nx, endP_rt, endP_exn, ev_var, ev_int, ev_str, ev_bl, ev_non, ev_gint, ev_gstr, ev_bin, ev_neg, ev_cmp, ev_chain, ev_and, ev_or, ev_not, ev_ite, ev_tup, ev_lst, ev_call, ev_bi, ev_isi, ev_idx, ev_rev, ev_nil, ev_cons, ev_cut, ev_oN, ev_oS, ev_lzip, ev_dget, ev_lrange, ev_sset, ev_meth, mth_count, mth_index, mth_join, mth_split, ev_iL, ev_iT, ev_iS, ev_r1, ev_r2, ev_r3, ev_zip, ev_enum, ev_cN, ev_cS, ev_comp, two_ok, two_exn, one_ok, one_exn, many_ok, many_exn, consR_ok, consR_exn, andP_t, andP_f, orP_t, orP_f, notP_ok, notP_exn, chP_t, chP_f, chQ_ok, iteP_t, iteP_f, cutP_ok, oP_ok, itP_ok, itP2_ok, itP3_ok, cP_ok, listR_ok, retP_ok, pick_t, pick_f, pick_exn, exP_ok, exP_exn, setP_ok, setP_exn, forP_ok, view, shSl, lk, List.map_cons, List.map_nil, List.length_cons, List.length_nil, List.append_nil, List.nil_append, List.cons_append, List.getElem?_cons_zero, List.getElem?_cons_succ, List.set_cons_zero, List.set_cons_succ, List.set_nil, List.replicate_zero, List.replicate_succ, Nat.sub_self, Nat.zero_add, Nat.reduceAdd, Nat.reduceSub, Bop.fn, Cop.fn, Bi.fn, add_ii, add_ll, add_tt, sub_ii, mul_ii, div_ii, mod_ii, lt_ii, le_ii, gt_ii, ge_ii, is_n, is_t, is_i, isnot_n, isnot_t, isnot_i, isi_i, isi_b, isi_n, isi_s, isi_l, isi_t, isi, DW.len_l, DW.len_t, DW.len_c, tuple_l, tuple_t, list_l, list_t, int_i, int_b, neg_i, idx_l, idx_t, idx_c, ofO_some, rev_l, cut_l, cut_t, lof_l, tof_t, sof_l, sof_t, lzipS, zipS, enumS, R.bind_ok, if_true, if_false, ite_true, ite_false, Bool.not_true, Bool.not_false, bind_nm, bind_tp, bind_nil, bind_cons, DW.scal, DW.wipeD, is_shape_ok s]
theorem is_time_int (t : Int) : f_is_time [.int t] = .ok (.bool (decide (0 ≤ t) && decide (t ≤ 9999))) := by
  simp -implicitDefEqProofs only [f_is_time, run_eq, b_is_time, ss_cons, ss_nil, st_ret, st_retN, st_pass, st_expr, st_ife, st_set, st_setV, st_asg, st_loop, st_ext, st_put, st_ownD, st_while, st_own, st_app, st_appV, st_raise, st_try, tryP_ok, tryP_exn, at_nx, at_rt, at_exn, endP_nx, endP_rt, endP_exn, ev_var, ev_int, ev_str, ev_bl, ev_non, ev_gint, ev_gstr, ev_bin, ev_neg, ev_cmp, ev_chain, ev_and, ev_or, ev_not, ev_ite, ev_tup, ev_lst, ev_call, ev_bi, ev_isi, ev_idx, ev_rev, ev_nil, ev_cons, ev_cut, ev_oN, ev_oS, ev_lzip, ev_dget, ev_lrange, ev_sset, ev_meth, mth_count, mth_index, mth_join, mth_split, ev_iL, ev_iT, ev_iS, ev_r1, ev_r2, ev_r3, ev_zip, ev_enum, ev_cN, ev_cS, ev_comp, two_ok, two_exn, one_ok, one_exn, many_ok, many_exn, consR_ok, consR_exn, andP_t, andP_f, orP_t, orP_f, notP_ok, notP_exn, chP_t, chP_f, chQ_ok, iteP_t, iteP_f, cutP_ok, oP_ok, itP_ok, itP2_ok, itP3_ok, cP_ok, listR_ok, retP_ok, pick_t, pick_f, pick_exn, exP_ok, exP_exn, setP_ok, setP_exn, forP_ok, view, shSl, lk, List.map_cons, List.map_nil, List.length_cons, List.length_nil, List.append_nil, List.nil_append, List.cons_append, List.getElem?_cons_zero, List.getElem?_cons_succ, List.set_cons_zero, List.set_cons_succ, List.set_nil, List.replicate_zero, List.replicate_succ, Nat.sub_self, Nat.zero_add, Nat.reduceAdd, Nat.reduceSub, Bop.fn, Cop.fn, Bi.fn, add_ii, add_ll, add_tt, sub_ii, mul_ii, div_ii, mod_ii, lt_ii, le_ii, gt_ii, ge_ii, is_n, is_t, is_i, isnot_n, isnot_t, isnot_i, isi_i, isi_b, isi_n, isi_s, isi_l, isi_t, isi, DW.len_l, DW.len_t, DW.len_c, tuple_l, tuple_t, list_l, list_t, int_i, int_b, neg_i, idx_l, idx_t, idx_c, ofO_some, rev_l, cut_l, cut_t, lof_l, tof_t, sof_l, sof_t, lzipS, zipS, enumS, R.bind_ok, if_true, if_false, ite_true, ite_false, Bool.not_true, Bool.not_false, bind_nm, bind_tp, bind_nil, bind_cons, DW.scal, DW.wipeD, is_number_int]
theorem need_time_ok {t : Int} (h0 : 0 ≤ t) (h1 : t ≤ 9999) : f_need_time [.int t] = .ok .none := by
  simp -implicitDefEqProofs only [f_need_time, run_eq, b_need_time, ss_cons, ss_nil, st_ret, st_retN, st_pass, st_expr, st_ife, st_set, st_setV, st_asg, st_loop, st_ext, st_put, st_ownD, st_while, st_own, st_app, st_appV, st_raise, st_try, tryP_ok, tryP_exn, at_nx, at_rt, at_exn, endP_nx, endP_rt, endP_exn, ev_var, ev_int, ev_str, ev_bl, ev_non, ev_gint, ev_gstr, ev_bin, ev_neg, ev_cmp, ev_chain, ev_and, ev_or, ev_not, ev_ite, ev_tup, ev_lst, ev_call, ev_bi, ev_isi, ev_idx, ev_rev, ev_nil, ev_cons, ev_cut, ev_oN, ev_oS, ev_lzip, ev_dget, ev_lrange, ev_sset, ev_meth, mth_count, mth_index, mth_join, mth_split, ev_iL, ev_iT, ev_iS, ev_r1, ev_r2, ev_r3, ev_zip, ev_enum, ev_cN, ev_cS, ev_comp, two_ok, two_exn, one_ok, one_exn, many_ok, many_exn, consR_ok, consR_exn, andP_t, andP_f, orP_t, orP_f, notP_ok, notP_exn, chP_t, chP_f, chQ_ok, iteP_t, iteP_f, cutP_ok, oP_ok, itP_ok, itP2_ok, itP3_ok, cP_ok, listR_ok, retP_ok, pick_t, pick_f, pick_exn, exP_ok, exP_exn, setP_ok, setP_exn, forP_ok, view, shSl, lk, List.map_cons, List.map_nil, List.length_cons, List.length_nil, List.append_nil, List.nil_append, List.cons_append, List.getElem?_cons_zero, List.getElem?_cons_succ, List.set_cons_zero, List.set_cons_succ, List.set_nil, List.replicate_zero, List.replicate_succ, Nat.sub_self, Nat.zero_add, Nat.reduceAdd, Nat.reduceSub, Bop.fn, Cop.fn, Bi.fn, add_ii, add_ll, add_tt, sub_ii, mul_ii, div_ii, mod_ii, lt_ii, le_ii, gt_ii, ge_ii, is_n, is_t, is_i, isnot_n, isnot_t, isnot_i, isi_i, isi_b, isi_n, isi_s, isi_l, isi_t, isi, DW.len_l, DW.len_t, DW.len_c, tuple_l, tuple_t, list_l, list_t, int_i, int_b, neg_i, idx_l, idx_t, idx_c, ofO_some, rev_l, cut_l, cut_t, lof_l, tof_t, sof_l, sof_t, lzipS, zipS, enumS, R.bind_ok, if_true, if_false, ite_true, ite_false, Bool.not_true, Bool.not_false, bind_nm, bind_tp, bind_nil, bind_cons, DW.scal, DW.wipeD, is_time_int, h0, h1, decide_true, Bool.and_self]
theorem need_time_no {t : Int} (h : ¬ (0 ≤ t ∧ t ≤ 9999)) : f_need_time [.int t] = .exn "NoTime" := by
  have e : (decide (0 ≤ t) && decide (t ≤ 9999)) = false := by
    by_cases h0 : 0 ≤ t
    · simp [h0]; omega
    · simp [h0]
  simp -implicitDefEqProofs only [f_need_time, run_eq, b_need_time, ss_cons, ss_nil, st_ret, st_retN, st_pass, st_expr, st_ife, st_set, st_setV, st_asg, st_loop, st_ext, st_put, st_ownD, st_while, st_own, st_app, st_appV, st_raise, st_try, tryP_ok, tryP_exn, at_nx, at_rt, at_exn, endP_nx, endP_rt, endP_exn, ev_var, ev_int, ev_str, ev_bl, ev_non, ev_gint, ev_gstr, ev_bin, ev_neg, ev_cmp, ev_chain, ev_and, ev_or, ev_not, ev_ite, ev_tup, ev_lst, ev_call, ev_bi, ev_isi, ev_idx, ev_rev, ev_nil, ev_cons, ev_cut, ev_oN, ev_oS, ev_lzip, ev_dget, ev_lrange, ev_sset, ev_meth, mth_count, mth_index, mth_join, mth_split, ev_iL, ev_iT, ev_iS, ev_r1, ev_r2, ev_r3, ev_zip, ev_enum, ev_cN, ev_cS, ev_comp, two_ok, two_exn, one_ok, one_exn, many_ok, many_exn, consR_ok, consR_exn, andP_t, andP_f, orP_t, orP_f, notP_ok, notP_exn, chP_t, chP_f, chQ_ok, iteP_t, iteP_f, cutP_ok, oP_ok, itP_ok, itP2_ok, itP3_ok, cP_ok, listR_ok, retP_ok, pick_t, pick_f, pick_exn, exP_ok, exP_exn, setP_ok, setP_exn, forP_ok, view, shSl, lk, List.map_cons, List.map_nil, List.length_cons, List.length_nil, List.append_nil, List.nil_append, List.cons_append, List.getElem?_cons_zero, List.getElem?_cons_succ, List.set_cons_zero, List.set_cons_succ, List.set_nil, List.replicate_zero, List.replicate_succ, Nat.sub_self, Nat.zero_add, Nat.reduceAdd, Nat.reduceSub, Bop.fn, Cop.fn, Bi.fn, add_ii, add_ll, add_tt, sub_ii, mul_ii, div_ii, mod_ii, lt_ii, le_ii, gt_ii, ge_ii, is_n, is_t, is_i, isnot_n, isnot_t, isnot_i, isi_i, isi_b, isi_n, isi_s, isi_l, isi_t, isi, DW.len_l, DW.len_t, DW.len_c, tuple_l, tuple_t, list_l, list_t, int_i, int_b, neg_i, idx_l, idx_t, idx_c, ofO_some, rev_l, cut_l, cut_t, lof_l, tof_t, sof_l, sof_t, lzipS, zipS, enumS, R.bind_ok, if_true, if_false, ite_true, ite_false, Bool.not_true, Bool.not_false, bind_nm, bind_tp, bind_nil, bind_cons, DW.scal, DW.wipeD, is_time_int, e]
/-! ### rounds, hands -/
theorem atI_last {α : Type} (l : List α) (x : α) : atI (l ++ [x]) (-1) = some x := by
  unfold atI ixN
  rw [if_neg (by omega), if_pos (by rw [List.length_append, List.length_singleton]; omega)]
  have e : (-1 + ((l ++ [x]).length : Int)).toNat = l.length := by rw [List.length_append, List.length_singleton]; omega
  rw [e]
  simp
theorem atI_nat {α : Type} {l : List α} {i : Int} (h0 : 0 ≤ i) (h1 : i < l.length) : atI l i = l[i.toNat]? := by
  unfold atI ixN
  rw [if_pos h0, if_pos h1]; rfl
def rnds (a : Int) : List Int → List Int
  | [] => [a]
  | x :: xs => a :: rnds (a * x) xs
def hnds (t : Int) : List Int → List Int
  | [] => [t]
  | x :: xs => t % x :: hnds (t / x) xs
/-- the hands but the last -/
def hand (t : Int) : List Int → List Int
  | [] => []
  | x :: xs => t % x :: hand (t / x) xs
/-- what is left -/
def left (t : Int) : List Int → Int
  | [] => t
  | x :: xs => left (t / x) xs
theorem hnds_eq : ∀ (xs : List Int) (t : Int), hnds t xs = hand t xs ++ [left t xs]
  | [], t => rfl
  | x :: xs, t => by rw [hnds, hand, left, hnds_eq xs]; rfl
theorem hnds_len : ∀ (xs : List Int) (t : Int), (hnds t xs).length = xs.length + 1
  | [], t => rfl
  | x :: xs, t => by rw [hnds, List.length_cons, hnds_len xs, List.length_cons]
theorem rnds_len : ∀ (xs : List Int) (t : Int), (rnds t xs).length = xs.length + 1
  | [], t => rfl
  | x :: xs, t => by rw [rnds, List.length_cons, rnds_len xs, List.length_cons]
def bodyR : Ss := .cons (.appV 1 (.bin .mul (.idx (.var 1) (.neg (.int 1))) (.var 2))) (.nil)
theorem rounds_loop (S : Sl) : ∀ (xs : List Int) (acc : List D) (a : Int) (m : Sl), (∀ x ∈ xs, 2 ≤ x ∧ x ≤ 8) → acc.length + xs.length ≤ 1000 →
    ∃ m', forD (.nm 2) (semSs bodyR) (nms xs) [S, .ol (acc ++ [.int a]), m] = .ok (.nx [S, .ol (acc ++ nms (rnds a xs)), m'])
  | [], acc, a, m, _, _ => ⟨m, rfl⟩
  | x :: xs, acc, a, m, h, hl => by
    obtain ⟨h1, h2⟩ := h x List.mem_cons_self
    rw [List.length_cons] at hl
    obtain ⟨m', ih⟩ := rounds_loop S xs (acc ++ [.int a]) (a * x) (.sh (.int x)) (fun y hy => h y (List.mem_cons_of_mem _ hy)) (by rw [List.length_append, List.length_singleton]; omega)
    refine ⟨m', ?_⟩
    rw [nms_cons, for_cons (δ1 := [S, .ol (acc ++ [.int a]), .sh (.int x)]) rfl]
    have e : semSs bodyR [S, .ol (acc ++ [.int a]), .sh (.int x)] = .ok (.nx [S, .ol (acc ++ [.int a] ++ [.int (a * x)]), .sh (.int x)]) := by
      simp -implicitDefEqProofs only [bodyR, ss_cons, ss_nil, st_ret, st_retN, st_pass, st_expr, st_ife, st_set, st_setV, st_asg, st_loop, st_ext, st_put, st_ownD, st_while, st_own, st_app, st_appV, st_raise, st_try, tryP_ok, tryP_exn, at_nx, at_rt, at_exn, endP_nx, endP_rt, endP_exn, ev_var, ev_int, ev_str, ev_bl, ev_non, ev_gint, ev_gstr, ev_bin, ev_neg, ev_cmp, ev_chain, ev_and, ev_or, ev_not, ev_ite, ev_tup, ev_lst, ev_call, ev_bi, ev_isi, ev_idx, ev_rev, ev_nil, ev_cons, ev_cut, ev_oN, ev_oS, ev_lzip, ev_dget, ev_lrange, ev_sset, ev_meth, mth_count, mth_index, mth_join, mth_split, ev_iL, ev_iT, ev_iS, ev_r1, ev_r2, ev_r3, ev_zip, ev_enum, ev_cN, ev_cS, ev_comp, two_ok, two_exn, one_ok, one_exn, many_ok, many_exn, consR_ok, consR_exn, andP_t, andP_f, orP_t, orP_f, notP_ok, notP_exn, chP_t, chP_f, chQ_ok, iteP_t, iteP_f, cutP_ok, oP_ok, itP_ok, itP2_ok, itP3_ok, cP_ok, listR_ok, retP_ok, pick_t, pick_f, pick_exn, exP_ok, exP_exn, setP_ok, setP_exn, forP_ok, view, shSl, lk, List.map_cons, List.map_nil, List.length_cons, List.length_nil, List.append_nil, List.nil_append, List.cons_append, List.getElem?_cons_zero, List.getElem?_cons_succ, List.set_cons_zero, List.set_cons_succ, List.set_nil, List.replicate_zero, List.replicate_succ, Nat.sub_self, Nat.zero_add, Nat.reduceAdd, Nat.reduceSub, Bop.fn, Cop.fn, Bi.fn, add_ii, add_ll, add_tt, sub_ii, mul_ii, div_ii, mod_ii, lt_ii, le_ii, gt_ii, ge_ii, is_n, is_t, is_i, isnot_n, isnot_t, isnot_i, isi_i, isi_b, isi_n, isi_s, isi_l, isi_t, isi, DW.len_l, DW.len_t, DW.len_c, tuple_l, tuple_t, list_l, list_t, int_i, int_b, neg_i, idx_l, idx_t, idx_c, ofO_some, rev_l, cut_l, cut_t, lof_l, tof_t, sof_l, sof_t, lzipS, zipS, enumS, R.bind_ok, if_true, if_false, ite_true, ite_false, Bool.not_true, Bool.not_false, bind_nm, bind_tp, bind_nil, bind_cons, DW.scal, DW.wipeD, atI_last, ofO]
      rw [if_pos (.inr ⟨by omega, by omega⟩), appVP_ok rfl (by simp; omega)]
      simp -implicitDefEqProofs only [ss_cons, ss_nil, st_ret, st_retN, st_pass, st_expr, st_ife, st_set, st_setV, st_asg, st_loop, st_ext, st_put, st_ownD, st_while, st_own, st_app, st_appV, st_raise, st_try, tryP_ok, tryP_exn, at_nx, at_rt, at_exn, endP_nx, endP_rt, endP_exn, ev_var, ev_int, ev_str, ev_bl, ev_non, ev_gint, ev_gstr, ev_bin, ev_neg, ev_cmp, ev_chain, ev_and, ev_or, ev_not, ev_ite, ev_tup, ev_lst, ev_call, ev_bi, ev_isi, ev_idx, ev_rev, ev_nil, ev_cons, ev_cut, ev_oN, ev_oS, ev_lzip, ev_dget, ev_lrange, ev_sset, ev_meth, mth_count, mth_index, mth_join, mth_split, ev_iL, ev_iT, ev_iS, ev_r1, ev_r2, ev_r3, ev_zip, ev_enum, ev_cN, ev_cS, ev_comp, two_ok, two_exn, one_ok, one_exn, many_ok, many_exn, consR_ok, consR_exn, andP_t, andP_f, orP_t, orP_f, notP_ok, notP_exn, chP_t, chP_f, chQ_ok, iteP_t, iteP_f, cutP_ok, oP_ok, itP_ok, itP2_ok, itP3_ok, cP_ok, listR_ok, retP_ok, pick_t, pick_f, pick_exn, exP_ok, exP_exn, setP_ok, setP_exn, forP_ok, view, shSl, lk, List.map_cons, List.map_nil, List.length_cons, List.length_nil, List.append_nil, List.nil_append, List.cons_append, List.getElem?_cons_zero, List.getElem?_cons_succ, List.set_cons_zero, List.set_cons_succ, List.set_nil, List.replicate_zero, List.replicate_succ, Nat.sub_self, Nat.zero_add, Nat.reduceAdd, Nat.reduceSub, Bop.fn, Cop.fn, Bi.fn, add_ii, add_ll, add_tt, sub_ii, mul_ii, div_ii, mod_ii, lt_ii, le_ii, gt_ii, ge_ii, is_n, is_t, is_i, isnot_n, isnot_t, isnot_i, isi_i, isi_b, isi_n, isi_s, isi_l, isi_t, isi, DW.len_l, DW.len_t, DW.len_c, tuple_l, tuple_t, list_l, list_t, int_i, int_b, neg_i, idx_l, idx_t, idx_c, ofO_some, rev_l, cut_l, cut_t, lof_l, tof_t, sof_l, sof_t, lzipS, zipS, enumS, R.bind_ok, if_true, if_false, ite_true, ite_false, Bool.not_true, Bool.not_false, bind_nm, bind_tp, bind_nil, bind_cons, DW.scal, DW.wipeD]
    rw [e, at_nx, ih, rnds, nms_cons, List.append_assoc]; rfl
theorem rounds_ok {xs : List Int} (s : Shp xs) : f_rounds [shD xs] = .ok (.list (nms (rnds 1 xs))) := by
  have h4 := s.l4
  obtain ⟨m', e⟩ := rounds_loop (.sh (shD xs)) xs [] 1 .un (fun x hx => ⟨s.lo x hx, s.hi x hx⟩) (by simp; omega)
  simp -implicitDefEqProofs only [f_rounds, run_eq, b_rounds, ss_cons, ss_nil, st_ret, st_retN, st_pass, st_expr, st_ife, st_set, st_setV, st_asg, st_loop, st_ext, st_put, st_ownD, st_while, st_own, st_app, st_appV, st_raise, st_try, tryP_ok, tryP_exn, at_nx, at_rt, at_exn, endP_nx, endP_rt, endP_exn, ev_var, ev_int, ev_str, ev_bl, ev_non, ev_gint, ev_gstr, ev_bin, ev_neg, ev_cmp, ev_chain, ev_and, ev_or, ev_not, ev_ite, ev_tup, ev_lst, ev_call, ev_bi, ev_isi, ev_idx, ev_rev, ev_nil, ev_cons, ev_cut, ev_oN, ev_oS, ev_lzip, ev_dget, ev_lrange, ev_sset, ev_meth, mth_count, mth_index, mth_join, mth_split, ev_iL, ev_iT, ev_iS, ev_r1, ev_r2, ev_r3, ev_zip, ev_enum, ev_cN, ev_cS, ev_comp, two_ok, two_exn, one_ok, one_exn, many_ok, many_exn, consR_ok, consR_exn, andP_t, andP_f, orP_t, orP_f, notP_ok, notP_exn, chP_t, chP_f, chQ_ok, iteP_t, iteP_f, cutP_ok, oP_ok, itP_ok, itP2_ok, itP3_ok, cP_ok, listR_ok, retP_ok, pick_t, pick_f, pick_exn, exP_ok, exP_exn, setP_ok, setP_exn, forP_ok, view, shSl, lk, List.map_cons, List.map_nil, List.length_cons, List.length_nil, List.append_nil, List.nil_append, List.cons_append, List.getElem?_cons_zero, List.getElem?_cons_succ, List.set_cons_zero, List.set_cons_succ, List.set_nil, List.replicate_zero, List.replicate_succ, Nat.sub_self, Nat.zero_add, Nat.reduceAdd, Nat.reduceSub, Bop.fn, Cop.fn, Bi.fn, add_ii, add_ll, add_tt, sub_ii, mul_ii, div_ii, mod_ii, lt_ii, le_ii, gt_ii, ge_ii, is_n, is_t, is_i, isnot_n, isnot_t, isnot_i, isi_i, isi_b, isi_n, isi_s, isi_l, isi_t, isi, DW.len_l, DW.len_t, DW.len_c, tuple_l, tuple_t, list_l, list_t, int_i, int_b, neg_i, idx_l, idx_t, idx_c, ofO_some, rev_l, cut_l, cut_t, lof_l, tof_t, sof_l, sof_t, lzipS, zipS, enumS, R.bind_ok, if_true, if_false, ite_true, ite_false, Bool.not_true, Bool.not_false, bind_nm, bind_tp, bind_nil, bind_cons, DW.scal, DW.wipeD, need_shape_ok s]
  rw [ownP_ok (by simp)]
  simp -implicitDefEqProofs only [ss_cons, ss_nil, st_ret, st_retN, st_pass, st_expr, st_ife, st_set, st_setV, st_asg, st_loop, st_ext, st_put, st_ownD, st_while, st_own, st_app, st_appV, st_raise, st_try, tryP_ok, tryP_exn, at_nx, at_rt, at_exn, endP_nx, endP_rt, endP_exn, ev_var, ev_int, ev_str, ev_bl, ev_non, ev_gint, ev_gstr, ev_bin, ev_neg, ev_cmp, ev_chain, ev_and, ev_or, ev_not, ev_ite, ev_tup, ev_lst, ev_call, ev_bi, ev_isi, ev_idx, ev_rev, ev_nil, ev_cons, ev_cut, ev_oN, ev_oS, ev_lzip, ev_dget, ev_lrange, ev_sset, ev_meth, mth_count, mth_index, mth_join, mth_split, ev_iL, ev_iT, ev_iS, ev_r1, ev_r2, ev_r3, ev_zip, ev_enum, ev_cN, ev_cS, ev_comp, two_ok, two_exn, one_ok, one_exn, many_ok, many_exn, consR_ok, consR_exn, andP_t, andP_f, orP_t, orP_f, notP_ok, notP_exn, chP_t, chP_f, chQ_ok, iteP_t, iteP_f, cutP_ok, oP_ok, itP_ok, itP2_ok, itP3_ok, cP_ok, listR_ok, retP_ok, pick_t, pick_f, pick_exn, exP_ok, exP_exn, setP_ok, setP_exn, forP_ok, view, shSl, lk, List.map_cons, List.map_nil, List.length_cons, List.length_nil, List.append_nil, List.nil_append, List.cons_append, List.getElem?_cons_zero, List.getElem?_cons_succ, List.set_cons_zero, List.set_cons_succ, List.set_nil, List.replicate_zero, List.replicate_succ, Nat.sub_self, Nat.zero_add, Nat.reduceAdd, Nat.reduceSub, Bop.fn, Cop.fn, Bi.fn, add_ii, add_ll, add_tt, sub_ii, mul_ii, div_ii, mod_ii, lt_ii, le_ii, gt_ii, ge_ii, is_n, is_t, is_i, isnot_n, isnot_t, isnot_i, isi_i, isi_b, isi_n, isi_s, isi_l, isi_t, isi, DW.len_l, DW.len_t, DW.len_c, tuple_l, tuple_t, list_l, list_t, int_i, int_b, neg_i, idx_l, idx_t, idx_c, ofO_some, rev_l, cut_l, cut_t, lof_l, tof_t, sof_l, sof_t, lzipS, zipS, enumS, R.bind_ok, if_true, if_false, ite_true, ite_false, Bool.not_true, Bool.not_false, bind_nm, bind_tp, bind_nil, bind_cons, DW.scal, DW.wipeD, shD]
  simp only [List.nil_append, shD, bodyR] at e
  rw [e]
  simp -implicitDefEqProofs only [ss_cons, ss_nil, st_ret, st_retN, st_pass, st_expr, st_ife, st_set, st_setV, st_asg, st_loop, st_ext, st_put, st_ownD, st_while, st_own, st_app, st_appV, st_raise, st_try, tryP_ok, tryP_exn, at_nx, at_rt, at_exn, endP_nx, endP_rt, endP_exn, ev_var, ev_int, ev_str, ev_bl, ev_non, ev_gint, ev_gstr, ev_bin, ev_neg, ev_cmp, ev_chain, ev_and, ev_or, ev_not, ev_ite, ev_tup, ev_lst, ev_call, ev_bi, ev_isi, ev_idx, ev_rev, ev_nil, ev_cons, ev_cut, ev_oN, ev_oS, ev_lzip, ev_dget, ev_lrange, ev_sset, ev_meth, mth_count, mth_index, mth_join, mth_split, ev_iL, ev_iT, ev_iS, ev_r1, ev_r2, ev_r3, ev_zip, ev_enum, ev_cN, ev_cS, ev_comp, two_ok, two_exn, one_ok, one_exn, many_ok, many_exn, consR_ok, consR_exn, andP_t, andP_f, orP_t, orP_f, notP_ok, notP_exn, chP_t, chP_f, chQ_ok, iteP_t, iteP_f, cutP_ok, oP_ok, itP_ok, itP2_ok, itP3_ok, cP_ok, listR_ok, retP_ok, pick_t, pick_f, pick_exn, exP_ok, exP_exn, setP_ok, setP_exn, forP_ok, view, shSl, lk, List.map_cons, List.map_nil, List.length_cons, List.length_nil, List.append_nil, List.nil_append, List.cons_append, List.getElem?_cons_zero, List.getElem?_cons_succ, List.set_cons_zero, List.set_cons_succ, List.set_nil, List.replicate_zero, List.replicate_succ, Nat.sub_self, Nat.zero_add, Nat.reduceAdd, Nat.reduceSub, Bop.fn, Cop.fn, Bi.fn, add_ii, add_ll, add_tt, sub_ii, mul_ii, div_ii, mod_ii, lt_ii, le_ii, gt_ii, ge_ii, is_n, is_t, is_i, isnot_n, isnot_t, isnot_i, isi_i, isi_b, isi_n, isi_s, isi_l, isi_t, isi, DW.len_l, DW.len_t, DW.len_c, tuple_l, tuple_t, list_l, list_t, int_i, int_b, neg_i, idx_l, idx_t, idx_c, ofO_some, rev_l, cut_l, cut_t, lof_l, tof_t, sof_l, sof_t, lzipS, zipS, enumS, R.bind_ok, if_true, if_false, ite_true, ite_false, Bool.not_true, Bool.not_false, bind_nm, bind_tp, bind_nil, bind_cons, DW.scal, DW.wipeD]
def bodyH : Ss := .cons (.app 2 (.bin .mod (.var 1) (.var 3))) (.cons (.set 1 (.bin .div (.var 1) (.var 3))) (.nil))
theorem hands_loop (S : Sl) : ∀ (xs : List Int) (acc : List D) (t : Int) (m : Sl), (∀ x ∈ xs, 2 ≤ x ∧ x ≤ 8) → acc.length + xs.length ≤ 1000 →
    ∃ m', forD (.nm 3) (semSs bodyH) (nms xs) [S, .sh (.int t), .ol acc, m] = .ok (.nx [S, .sh (.int (left t xs)), .ol (acc ++ nms (hand t xs)), m'])
  | [], acc, a, m, _, _ => ⟨m, by rw [hand, left, nms_nil, List.append_nil]; rfl⟩
  | x :: xs, acc, t, m, h, hl => by
    obtain ⟨h1, h2⟩ := h x List.mem_cons_self
    rw [List.length_cons] at hl
    obtain ⟨m', ih⟩ := hands_loop S xs (acc ++ [.int (t % x)]) (t / x) (.sh (.int x)) (fun y hy => h y (List.mem_cons_of_mem _ hy)) (by rw [List.length_append, List.length_singleton]; omega)
    refine ⟨m', ?_⟩
    rw [nms_cons, for_cons (δ1 := [S, .sh (.int t), .ol acc, .sh (.int x)]) rfl]
    have e : semSs bodyH [S, .sh (.int t), .ol acc, .sh (.int x)] = .ok (.nx [S, .sh (.int (t / x)), .ol (acc ++ [.int (t % x)]), .sh (.int x)]) := by
      simp -implicitDefEqProofs only [bodyH, ss_cons, ss_nil, st_ret, st_retN, st_pass, st_expr, st_ife, st_set, st_setV, st_asg, st_loop, st_ext, st_put, st_ownD, st_while, st_own, st_app, st_appV, st_raise, st_try, tryP_ok, tryP_exn, at_nx, at_rt, at_exn, endP_nx, endP_rt, endP_exn, ev_var, ev_int, ev_str, ev_bl, ev_non, ev_gint, ev_gstr, ev_bin, ev_neg, ev_cmp, ev_chain, ev_and, ev_or, ev_not, ev_ite, ev_tup, ev_lst, ev_call, ev_bi, ev_isi, ev_idx, ev_rev, ev_nil, ev_cons, ev_cut, ev_oN, ev_oS, ev_lzip, ev_dget, ev_lrange, ev_sset, ev_meth, mth_count, mth_index, mth_join, mth_split, ev_iL, ev_iT, ev_iS, ev_r1, ev_r2, ev_r3, ev_zip, ev_enum, ev_cN, ev_cS, ev_comp, two_ok, two_exn, one_ok, one_exn, many_ok, many_exn, consR_ok, consR_exn, andP_t, andP_f, orP_t, orP_f, notP_ok, notP_exn, chP_t, chP_f, chQ_ok, iteP_t, iteP_f, cutP_ok, oP_ok, itP_ok, itP2_ok, itP3_ok, cP_ok, listR_ok, retP_ok, pick_t, pick_f, pick_exn, exP_ok, exP_exn, setP_ok, setP_exn, forP_ok, view, shSl, lk, List.map_cons, List.map_nil, List.length_cons, List.length_nil, List.append_nil, List.nil_append, List.cons_append, List.getElem?_cons_zero, List.getElem?_cons_succ, List.set_cons_zero, List.set_cons_succ, List.set_nil, List.replicate_zero, List.replicate_succ, Nat.sub_self, Nat.zero_add, Nat.reduceAdd, Nat.reduceSub, Bop.fn, Cop.fn, Bi.fn, add_ii, add_ll, add_tt, sub_ii, mul_ii, div_ii, mod_ii, lt_ii, le_ii, gt_ii, ge_ii, is_n, is_t, is_i, isnot_n, isnot_t, isnot_i, isi_i, isi_b, isi_n, isi_s, isi_l, isi_t, isi, DW.len_l, DW.len_t, DW.len_c, tuple_l, tuple_t, list_l, list_t, int_i, int_b, neg_i, idx_l, idx_t, idx_c, ofO_some, rev_l, cut_l, cut_t, lof_l, tof_t, sof_l, sof_t, lzipS, zipS, enumS, R.bind_ok, if_true, if_false, ite_true, ite_false, Bool.not_true, Bool.not_false, bind_nm, bind_tp, bind_nil, bind_cons, DW.scal, DW.wipeD]
      rw [if_pos (by omega), appP_ok (by omega)]
      simp -implicitDefEqProofs only [ss_cons, ss_nil, st_ret, st_retN, st_pass, st_expr, st_ife, st_set, st_setV, st_asg, st_loop, st_ext, st_put, st_ownD, st_while, st_own, st_app, st_appV, st_raise, st_try, tryP_ok, tryP_exn, at_nx, at_rt, at_exn, endP_nx, endP_rt, endP_exn, ev_var, ev_int, ev_str, ev_bl, ev_non, ev_gint, ev_gstr, ev_bin, ev_neg, ev_cmp, ev_chain, ev_and, ev_or, ev_not, ev_ite, ev_tup, ev_lst, ev_call, ev_bi, ev_isi, ev_idx, ev_rev, ev_nil, ev_cons, ev_cut, ev_oN, ev_oS, ev_lzip, ev_dget, ev_lrange, ev_sset, ev_meth, mth_count, mth_index, mth_join, mth_split, ev_iL, ev_iT, ev_iS, ev_r1, ev_r2, ev_r3, ev_zip, ev_enum, ev_cN, ev_cS, ev_comp, two_ok, two_exn, one_ok, one_exn, many_ok, many_exn, consR_ok, consR_exn, andP_t, andP_f, orP_t, orP_f, notP_ok, notP_exn, chP_t, chP_f, chQ_ok, iteP_t, iteP_f, cutP_ok, oP_ok, itP_ok, itP2_ok, itP3_ok, cP_ok, listR_ok, retP_ok, pick_t, pick_f, pick_exn, exP_ok, exP_exn, setP_ok, setP_exn, forP_ok, view, shSl, lk, List.map_cons, List.map_nil, List.length_cons, List.length_nil, List.append_nil, List.nil_append, List.cons_append, List.getElem?_cons_zero, List.getElem?_cons_succ, List.set_cons_zero, List.set_cons_succ, List.set_nil, List.replicate_zero, List.replicate_succ, Nat.sub_self, Nat.zero_add, Nat.reduceAdd, Nat.reduceSub, Bop.fn, Cop.fn, Bi.fn, add_ii, add_ll, add_tt, sub_ii, mul_ii, div_ii, mod_ii, lt_ii, le_ii, gt_ii, ge_ii, is_n, is_t, is_i, isnot_n, isnot_t, isnot_i, isi_i, isi_b, isi_n, isi_s, isi_l, isi_t, isi, DW.len_l, DW.len_t, DW.len_c, tuple_l, tuple_t, list_l, list_t, int_i, int_b, neg_i, idx_l, idx_t, idx_c, ofO_some, rev_l, cut_l, cut_t, lof_l, tof_t, sof_l, sof_t, lzipS, zipS, enumS, R.bind_ok, if_true, if_false, ite_true, ite_false, Bool.not_true, Bool.not_false, bind_nm, bind_tp, bind_nil, bind_cons, DW.scal, DW.wipeD]
      rw [if_pos (by omega)]
      simp -implicitDefEqProofs only [ss_cons, ss_nil, st_ret, st_retN, st_pass, st_expr, st_ife, st_set, st_setV, st_asg, st_loop, st_ext, st_put, st_ownD, st_while, st_own, st_app, st_appV, st_raise, st_try, tryP_ok, tryP_exn, at_nx, at_rt, at_exn, endP_nx, endP_rt, endP_exn, ev_var, ev_int, ev_str, ev_bl, ev_non, ev_gint, ev_gstr, ev_bin, ev_neg, ev_cmp, ev_chain, ev_and, ev_or, ev_not, ev_ite, ev_tup, ev_lst, ev_call, ev_bi, ev_isi, ev_idx, ev_rev, ev_nil, ev_cons, ev_cut, ev_oN, ev_oS, ev_lzip, ev_dget, ev_lrange, ev_sset, ev_meth, mth_count, mth_index, mth_join, mth_split, ev_iL, ev_iT, ev_iS, ev_r1, ev_r2, ev_r3, ev_zip, ev_enum, ev_cN, ev_cS, ev_comp, two_ok, two_exn, one_ok, one_exn, many_ok, many_exn, consR_ok, consR_exn, andP_t, andP_f, orP_t, orP_f, notP_ok, notP_exn, chP_t, chP_f, chQ_ok, iteP_t, iteP_f, cutP_ok, oP_ok, itP_ok, itP2_ok, itP3_ok, cP_ok, listR_ok, retP_ok, pick_t, pick_f, pick_exn, exP_ok, exP_exn, setP_ok, setP_exn, forP_ok, view, shSl, lk, List.map_cons, List.map_nil, List.length_cons, List.length_nil, List.append_nil, List.nil_append, List.cons_append, List.getElem?_cons_zero, List.getElem?_cons_succ, List.set_cons_zero, List.set_cons_succ, List.set_nil, List.replicate_zero, List.replicate_succ, Nat.sub_self, Nat.zero_add, Nat.reduceAdd, Nat.reduceSub, Bop.fn, Cop.fn, Bi.fn, add_ii, add_ll, add_tt, sub_ii, mul_ii, div_ii, mod_ii, lt_ii, le_ii, gt_ii, ge_ii, is_n, is_t, is_i, isnot_n, isnot_t, isnot_i, isi_i, isi_b, isi_n, isi_s, isi_l, isi_t, isi, DW.len_l, DW.len_t, DW.len_c, tuple_l, tuple_t, list_l, list_t, int_i, int_b, neg_i, idx_l, idx_t, idx_c, ofO_some, rev_l, cut_l, cut_t, lof_l, tof_t, sof_l, sof_t, lzipS, zipS, enumS, R.bind_ok, if_true, if_false, ite_true, ite_false, Bool.not_true, Bool.not_false, bind_nm, bind_tp, bind_nil, bind_cons, DW.scal, DW.wipeD]
    rw [e, at_nx, ih, left, hand, nms_cons, List.append_assoc]; rfl
theorem mkL_ok {ds : List D} (h : ds.length ≤ 16777216) : mkL ds = .ok (.list ds) := if_pos (by rw [sizeLine_eq]; exact h)
theorem mkT_ok {ds : List D} (h : ds.length ≤ 16777216) : mkT ds = .ok (.tuple ds) := if_pos (by rw [sizeLine_eq]; exact h)
theorem hand_len : ∀ (xs : List Int) (t : Int), (hand t xs).length = xs.length
  | [], t => rfl
  | x :: xs, t => by rw [hand, List.length_cons, hand_len xs, List.length_cons]
theorem hands_ok {xs : List Int} (s : Shp xs) {t : Int} (h0 : 0 ≤ t) (h1 : t ≤ 9999) : f_hands [shD xs, .int t] = .ok (.list (nms (hnds t xs))) := by
  have h4 := s.l4
  obtain ⟨m', e⟩ := hands_loop (.sh (shD xs)) xs [] t .un (fun x hx => ⟨s.lo x hx, s.hi x hx⟩) (by simp; omega)
  simp -implicitDefEqProofs only [f_hands, run_eq, b_hands, ss_cons, ss_nil, st_ret, st_retN, st_pass, st_expr, st_ife, st_set, st_setV, st_asg, st_loop, st_ext, st_put, st_ownD, st_while, st_own, st_app, st_appV, st_raise, st_try, tryP_ok, tryP_exn, at_nx, at_rt, at_exn, endP_nx, endP_rt, endP_exn, ev_var, ev_int, ev_str, ev_bl, ev_non, ev_gint, ev_gstr, ev_bin, ev_neg, ev_cmp, ev_chain, ev_and, ev_or, ev_not, ev_ite, ev_tup, ev_lst, ev_call, ev_bi, ev_isi, ev_idx, ev_rev, ev_nil, ev_cons, ev_cut, ev_oN, ev_oS, ev_lzip, ev_dget, ev_lrange, ev_sset, ev_meth, mth_count, mth_index, mth_join, mth_split, ev_iL, ev_iT, ev_iS, ev_r1, ev_r2, ev_r3, ev_zip, ev_enum, ev_cN, ev_cS, ev_comp, two_ok, two_exn, one_ok, one_exn, many_ok, many_exn, consR_ok, consR_exn, andP_t, andP_f, orP_t, orP_f, notP_ok, notP_exn, chP_t, chP_f, chQ_ok, iteP_t, iteP_f, cutP_ok, oP_ok, itP_ok, itP2_ok, itP3_ok, cP_ok, listR_ok, retP_ok, pick_t, pick_f, pick_exn, exP_ok, exP_exn, setP_ok, setP_exn, forP_ok, view, shSl, lk, List.map_cons, List.map_nil, List.length_cons, List.length_nil, List.append_nil, List.nil_append, List.cons_append, List.getElem?_cons_zero, List.getElem?_cons_succ, List.set_cons_zero, List.set_cons_succ, List.set_nil, List.replicate_zero, List.replicate_succ, Nat.sub_self, Nat.zero_add, Nat.reduceAdd, Nat.reduceSub, Bop.fn, Cop.fn, Bi.fn, add_ii, add_ll, add_tt, sub_ii, mul_ii, div_ii, mod_ii, lt_ii, le_ii, gt_ii, ge_ii, is_n, is_t, is_i, isnot_n, isnot_t, isnot_i, isi_i, isi_b, isi_n, isi_s, isi_l, isi_t, isi, DW.len_l, DW.len_t, DW.len_c, tuple_l, tuple_t, list_l, list_t, int_i, int_b, neg_i, idx_l, idx_t, idx_c, ofO_some, rev_l, cut_l, cut_t, lof_l, tof_t, sof_l, sof_t, lzipS, zipS, enumS, R.bind_ok, if_true, if_false, ite_true, ite_false, Bool.not_true, Bool.not_false, bind_nm, bind_tp, bind_nil, bind_cons, DW.scal, DW.wipeD, need_shape_ok s, need_time_ok h0 h1]
  rw [ownP_ok (by simp)]
  simp -implicitDefEqProofs only [ss_cons, ss_nil, st_ret, st_retN, st_pass, st_expr, st_ife, st_set, st_setV, st_asg, st_loop, st_ext, st_put, st_ownD, st_while, st_own, st_app, st_appV, st_raise, st_try, tryP_ok, tryP_exn, at_nx, at_rt, at_exn, endP_nx, endP_rt, endP_exn, ev_var, ev_int, ev_str, ev_bl, ev_non, ev_gint, ev_gstr, ev_bin, ev_neg, ev_cmp, ev_chain, ev_and, ev_or, ev_not, ev_ite, ev_tup, ev_lst, ev_call, ev_bi, ev_isi, ev_idx, ev_rev, ev_nil, ev_cons, ev_cut, ev_oN, ev_oS, ev_lzip, ev_dget, ev_lrange, ev_sset, ev_meth, mth_count, mth_index, mth_join, mth_split, ev_iL, ev_iT, ev_iS, ev_r1, ev_r2, ev_r3, ev_zip, ev_enum, ev_cN, ev_cS, ev_comp, two_ok, two_exn, one_ok, one_exn, many_ok, many_exn, consR_ok, consR_exn, andP_t, andP_f, orP_t, orP_f, notP_ok, notP_exn, chP_t, chP_f, chQ_ok, iteP_t, iteP_f, cutP_ok, oP_ok, itP_ok, itP2_ok, itP3_ok, cP_ok, listR_ok, retP_ok, pick_t, pick_f, pick_exn, exP_ok, exP_exn, setP_ok, setP_exn, forP_ok, view, shSl, lk, List.map_cons, List.map_nil, List.length_cons, List.length_nil, List.append_nil, List.nil_append, List.cons_append, List.getElem?_cons_zero, List.getElem?_cons_succ, List.set_cons_zero, List.set_cons_succ, List.set_nil, List.replicate_zero, List.replicate_succ, Nat.sub_self, Nat.zero_add, Nat.reduceAdd, Nat.reduceSub, Bop.fn, Cop.fn, Bi.fn, add_ii, add_ll, add_tt, sub_ii, mul_ii, div_ii, mod_ii, lt_ii, le_ii, gt_ii, ge_ii, is_n, is_t, is_i, isnot_n, isnot_t, isnot_i, isi_i, isi_b, isi_n, isi_s, isi_l, isi_t, isi, DW.len_l, DW.len_t, DW.len_c, tuple_l, tuple_t, list_l, list_t, int_i, int_b, neg_i, idx_l, idx_t, idx_c, ofO_some, rev_l, cut_l, cut_t, lof_l, tof_t, sof_l, sof_t, lzipS, zipS, enumS, R.bind_ok, if_true, if_false, ite_true, ite_false, Bool.not_true, Bool.not_false, bind_nm, bind_tp, bind_nil, bind_cons, DW.scal, DW.wipeD, shD]
  simp only [List.nil_append, shD, bodyH] at e
  rw [e]
  simp -implicitDefEqProofs only [ss_cons, ss_nil, st_ret, st_retN, st_pass, st_expr, st_ife, st_set, st_setV, st_asg, st_loop, st_ext, st_put, st_ownD, st_while, st_own, st_app, st_appV, st_raise, st_try, tryP_ok, tryP_exn, at_nx, at_rt, at_exn, endP_nx, endP_rt, endP_exn, ev_var, ev_int, ev_str, ev_bl, ev_non, ev_gint, ev_gstr, ev_bin, ev_neg, ev_cmp, ev_chain, ev_and, ev_or, ev_not, ev_ite, ev_tup, ev_lst, ev_call, ev_bi, ev_isi, ev_idx, ev_rev, ev_nil, ev_cons, ev_cut, ev_oN, ev_oS, ev_lzip, ev_dget, ev_lrange, ev_sset, ev_meth, mth_count, mth_index, mth_join, mth_split, ev_iL, ev_iT, ev_iS, ev_r1, ev_r2, ev_r3, ev_zip, ev_enum, ev_cN, ev_cS, ev_comp, two_ok, two_exn, one_ok, one_exn, many_ok, many_exn, consR_ok, consR_exn, andP_t, andP_f, orP_t, orP_f, notP_ok, notP_exn, chP_t, chP_f, chQ_ok, iteP_t, iteP_f, cutP_ok, oP_ok, itP_ok, itP2_ok, itP3_ok, cP_ok, listR_ok, retP_ok, pick_t, pick_f, pick_exn, exP_ok, exP_exn, setP_ok, setP_exn, forP_ok, view, shSl, lk, List.map_cons, List.map_nil, List.length_cons, List.length_nil, List.append_nil, List.nil_append, List.cons_append, List.getElem?_cons_zero, List.getElem?_cons_succ, List.set_cons_zero, List.set_cons_succ, List.set_nil, List.replicate_zero, List.replicate_succ, Nat.sub_self, Nat.zero_add, Nat.reduceAdd, Nat.reduceSub, Bop.fn, Cop.fn, Bi.fn, add_ii, add_ll, add_tt, sub_ii, mul_ii, div_ii, mod_ii, lt_ii, le_ii, gt_ii, ge_ii, is_n, is_t, is_i, isnot_n, isnot_t, isnot_i, isi_i, isi_b, isi_n, isi_s, isi_l, isi_t, isi, DW.len_l, DW.len_t, DW.len_c, tuple_l, tuple_t, list_l, list_t, int_i, int_b, neg_i, idx_l, idx_t, idx_c, ofO_some, rev_l, cut_l, cut_t, lof_l, tof_t, sof_l, sof_t, lzipS, zipS, enumS, R.bind_ok, if_true, if_false, ite_true, ite_false, Bool.not_true, Bool.not_false, bind_nm, bind_tp, bind_nil, bind_cons, DW.scal, DW.wipeD]
  rw [mkL_ok (by simp)]
  simp -implicitDefEqProofs only [ss_cons, ss_nil, st_ret, st_retN, st_pass, st_expr, st_ife, st_set, st_setV, st_asg, st_loop, st_ext, st_put, st_ownD, st_while, st_own, st_app, st_appV, st_raise, st_try, tryP_ok, tryP_exn, at_nx, at_rt, at_exn, endP_nx, endP_rt, endP_exn, ev_var, ev_int, ev_str, ev_bl, ev_non, ev_gint, ev_gstr, ev_bin, ev_neg, ev_cmp, ev_chain, ev_and, ev_or, ev_not, ev_ite, ev_tup, ev_lst, ev_call, ev_bi, ev_isi, ev_idx, ev_rev, ev_nil, ev_cons, ev_cut, ev_oN, ev_oS, ev_lzip, ev_dget, ev_lrange, ev_sset, ev_meth, mth_count, mth_index, mth_join, mth_split, ev_iL, ev_iT, ev_iS, ev_r1, ev_r2, ev_r3, ev_zip, ev_enum, ev_cN, ev_cS, ev_comp, two_ok, two_exn, one_ok, one_exn, many_ok, many_exn, consR_ok, consR_exn, andP_t, andP_f, orP_t, orP_f, notP_ok, notP_exn, chP_t, chP_f, chQ_ok, iteP_t, iteP_f, cutP_ok, oP_ok, itP_ok, itP2_ok, itP3_ok, cP_ok, listR_ok, retP_ok, pick_t, pick_f, pick_exn, exP_ok, exP_exn, setP_ok, setP_exn, forP_ok, view, shSl, lk, List.map_cons, List.map_nil, List.length_cons, List.length_nil, List.append_nil, List.nil_append, List.cons_append, List.getElem?_cons_zero, List.getElem?_cons_succ, List.set_cons_zero, List.set_cons_succ, List.set_nil, List.replicate_zero, List.replicate_succ, Nat.sub_self, Nat.zero_add, Nat.reduceAdd, Nat.reduceSub, Bop.fn, Cop.fn, Bi.fn, add_ii, add_ll, add_tt, sub_ii, mul_ii, div_ii, mod_ii, lt_ii, le_ii, gt_ii, ge_ii, is_n, is_t, is_i, isnot_n, isnot_t, isnot_i, isi_i, isi_b, isi_n, isi_s, isi_l, isi_t, isi, DW.len_l, DW.len_t, DW.len_c, tuple_l, tuple_t, list_l, list_t, int_i, int_b, neg_i, idx_l, idx_t, idx_c, ofO_some, rev_l, cut_l, cut_t, lof_l, tof_t, sof_l, sof_t, lzipS, zipS, enumS, R.bind_ok, if_true, if_false, ite_true, ite_false, Bool.not_true, Bool.not_false, bind_nm, bind_tp, bind_nil, bind_cons, DW.scal, DW.wipeD]
  rw [mkL_ok (by rw [List.length_append, nms_len, hand_len]; simp; omega), hnds_eq]
  simp -implicitDefEqProofs only [ss_cons, ss_nil, st_ret, st_retN, st_pass, st_expr, st_ife, st_set, st_setV, st_asg, st_loop, st_ext, st_put, st_ownD, st_while, st_own, st_app, st_appV, st_raise, st_try, tryP_ok, tryP_exn, at_nx, at_rt, at_exn, endP_nx, endP_rt, endP_exn, ev_var, ev_int, ev_str, ev_bl, ev_non, ev_gint, ev_gstr, ev_bin, ev_neg, ev_cmp, ev_chain, ev_and, ev_or, ev_not, ev_ite, ev_tup, ev_lst, ev_call, ev_bi, ev_isi, ev_idx, ev_rev, ev_nil, ev_cons, ev_cut, ev_oN, ev_oS, ev_lzip, ev_dget, ev_lrange, ev_sset, ev_meth, mth_count, mth_index, mth_join, mth_split, ev_iL, ev_iT, ev_iS, ev_r1, ev_r2, ev_r3, ev_zip, ev_enum, ev_cN, ev_cS, ev_comp, two_ok, two_exn, one_ok, one_exn, many_ok, many_exn, consR_ok, consR_exn, andP_t, andP_f, orP_t, orP_f, notP_ok, notP_exn, chP_t, chP_f, chQ_ok, iteP_t, iteP_f, cutP_ok, oP_ok, itP_ok, itP2_ok, itP3_ok, cP_ok, listR_ok, retP_ok, pick_t, pick_f, pick_exn, exP_ok, exP_exn, setP_ok, setP_exn, forP_ok, view, shSl, lk, List.map_cons, List.map_nil, List.length_cons, List.length_nil, List.append_nil, List.nil_append, List.cons_append, List.getElem?_cons_zero, List.getElem?_cons_succ, List.set_cons_zero, List.set_cons_succ, List.set_nil, List.replicate_zero, List.replicate_succ, Nat.sub_self, Nat.zero_add, Nat.reduceAdd, Nat.reduceSub, Bop.fn, Cop.fn, Bi.fn, add_ii, add_ll, add_tt, sub_ii, mul_ii, div_ii, mod_ii, lt_ii, le_ii, gt_ii, ge_ii, is_n, is_t, is_i, isnot_n, isnot_t, isnot_i, isi_i, isi_b, isi_n, isi_s, isi_l, isi_t, isi, DW.len_l, DW.len_t, DW.len_c, tuple_l, tuple_t, list_l, list_t, int_i, int_b, neg_i, idx_l, idx_t, idx_c, ofO_some, rev_l, cut_l, cut_t, lof_l, tof_t, sof_l, sof_t, lzipS, zipS, enumS, R.bind_ok, if_true, if_false, ite_true, ite_false, Bool.not_true, Bool.not_false, bind_nm, bind_tp, bind_nil, bind_cons, DW.scal, DW.wipeD, nms, List.map_append]
/-! ### the moment of hands -/
def tmof (f : Int) : List (Int × Int) → Int
  | [] => f
  | (m, p) :: r => tmof f r * m + p
theorem for_append (t : Tg) (b : Sls → R Fl) : ∀ (xs ys : List D) (δ : Sls), forD t b (xs ++ ys) δ = andThen (forD t b xs δ) (forD t b ys)
  | [], ys, δ => rfl
  | x :: xs, ys, δ => by
    show (noExn (bindT t x δ)).bind (fun δ1 => andThen (b δ1) (forD t b (xs ++ ys))) = andThen ((noExn (bindT t x δ)).bind fun δ1 => andThen (b δ1) (forD t b xs)) (forD t b ys)
    cases noExn (bindT t x δ) with
    | exn c => rfl
    | bad => rfl
    | ok δ1 =>
      show andThen (b δ1) (forD t b (xs ++ ys)) = andThen (andThen (b δ1) (forD t b xs)) (forD t b ys)
      cases b δ1 with
      | exn c => rfl
      | bad => rfl
      | ok fl => cases fl with
        | rt d => rfl
        | nx δ2 => exact for_append t b xs ys δ2
def pairD (p : Int × Int) : D := .tuple [.int p.1, .int p.2]
theorem zip_nms : ∀ (xs ys : List Int), zipD (nms xs) (nms ys) = (xs.zip ys).map pairD
  | [], ys => by simp [zipD, nms]
  | x :: xs, [] => by simp [zipD, nms]
  | x :: xs, y :: ys => by
    have ih := zip_nms xs ys
    unfold zipD at ih ⊢
    rw [nms_cons, nms_cons, List.zipWith_cons_cons, ih]; rfl
def bodyT : Ss := .cons (.set 2 (.bin .add (.bin .mul (.var 2) (.var 3)) (.var 4))) (.nil)
def tgT : Tg := .tp (.cons (.nm 3) (.cons (.nm 4) (.nil)))
theorem time_loop (S P : Sl) : ∀ (l : List (Int × Int)) (f : Int) (m p : Sl), (∀ x ∈ l, 2 ≤ x.1 ∧ x.1 ≤ 8) →
    ∃ m' p', forD tgT (semSs bodyT) ((l.map pairD).reverse) [S, P, .sh (.int f), m, p] = .ok (.nx [S, P, .sh (.int (tmof f l)), m', p'])
  | [], f, m, p, _ => ⟨m, p, rfl⟩
  | (a, b) :: l, f, m, p, h => by
    obtain ⟨h1, h2⟩ := h _ List.mem_cons_self
    obtain ⟨m', p', ih⟩ := time_loop S P l f m p (fun y hy => h y (List.mem_cons_of_mem _ hy))
    have h1 : 2 ≤ a := h1
    have h2 : a ≤ 8 := h2
    refine ⟨.sh (.int a), .sh (.int b), ?_⟩
    rw [List.map_cons, List.reverse_cons, for_append, ih, at_nx, for_cons (δ1 := [S, P, .sh (.int (tmof f l)), .sh (.int a), .sh (.int b)]) rfl]
    simp -implicitDefEqProofs only [bodyT, ss_cons, ss_nil, st_ret, st_retN, st_pass, st_expr, st_ife, st_set, st_setV, st_asg, st_loop, st_ext, st_put, st_ownD, st_while, st_own, st_app, st_appV, st_raise, st_try, tryP_ok, tryP_exn, at_nx, at_rt, at_exn, endP_nx, endP_rt, endP_exn, ev_var, ev_int, ev_str, ev_bl, ev_non, ev_gint, ev_gstr, ev_bin, ev_neg, ev_cmp, ev_chain, ev_and, ev_or, ev_not, ev_ite, ev_tup, ev_lst, ev_call, ev_bi, ev_isi, ev_idx, ev_rev, ev_nil, ev_cons, ev_cut, ev_oN, ev_oS, ev_lzip, ev_dget, ev_lrange, ev_sset, ev_meth, mth_count, mth_index, mth_join, mth_split, ev_iL, ev_iT, ev_iS, ev_r1, ev_r2, ev_r3, ev_zip, ev_enum, ev_cN, ev_cS, ev_comp, two_ok, two_exn, one_ok, one_exn, many_ok, many_exn, consR_ok, consR_exn, andP_t, andP_f, orP_t, orP_f, notP_ok, notP_exn, chP_t, chP_f, chQ_ok, iteP_t, iteP_f, cutP_ok, oP_ok, itP_ok, itP2_ok, itP3_ok, cP_ok, listR_ok, retP_ok, pick_t, pick_f, pick_exn, exP_ok, exP_exn, setP_ok, setP_exn, forP_ok, view, shSl, lk, List.map_cons, List.map_nil, List.length_cons, List.length_nil, List.append_nil, List.nil_append, List.cons_append, List.getElem?_cons_zero, List.getElem?_cons_succ, List.set_cons_zero, List.set_cons_succ, List.set_nil, List.replicate_zero, List.replicate_succ, Nat.sub_self, Nat.zero_add, Nat.reduceAdd, Nat.reduceSub, Bop.fn, Cop.fn, Bi.fn, add_ii, add_ll, add_tt, sub_ii, mul_ii, div_ii, mod_ii, lt_ii, le_ii, gt_ii, ge_ii, is_n, is_t, is_i, isnot_n, isnot_t, isnot_i, isi_i, isi_b, isi_n, isi_s, isi_l, isi_t, isi, DW.len_l, DW.len_t, DW.len_c, tuple_l, tuple_t, list_l, list_t, int_i, int_b, neg_i, idx_l, idx_t, idx_c, ofO_some, rev_l, cut_l, cut_t, lof_l, tof_t, sof_l, sof_t, lzipS, zipS, enumS, R.bind_ok, if_true, if_false, ite_true, ite_false, Bool.not_true, Bool.not_false, bind_nm, bind_tp, bind_nil, bind_cons, DW.scal, DW.wipeD]
    rw [if_pos (.inr ⟨by omega, by omega⟩)]
    simp -implicitDefEqProofs only [ss_cons, ss_nil, st_ret, st_retN, st_pass, st_expr, st_ife, st_set, st_setV, st_asg, st_loop, st_ext, st_put, st_ownD, st_while, st_own, st_app, st_appV, st_raise, st_try, tryP_ok, tryP_exn, at_nx, at_rt, at_exn, endP_nx, endP_rt, endP_exn, ev_var, ev_int, ev_str, ev_bl, ev_non, ev_gint, ev_gstr, ev_bin, ev_neg, ev_cmp, ev_chain, ev_and, ev_or, ev_not, ev_ite, ev_tup, ev_lst, ev_call, ev_bi, ev_isi, ev_idx, ev_rev, ev_nil, ev_cons, ev_cut, ev_oN, ev_oS, ev_lzip, ev_dget, ev_lrange, ev_sset, ev_meth, mth_count, mth_index, mth_join, mth_split, ev_iL, ev_iT, ev_iS, ev_r1, ev_r2, ev_r3, ev_zip, ev_enum, ev_cN, ev_cS, ev_comp, two_ok, two_exn, one_ok, one_exn, many_ok, many_exn, consR_ok, consR_exn, andP_t, andP_f, orP_t, orP_f, notP_ok, notP_exn, chP_t, chP_f, chQ_ok, iteP_t, iteP_f, cutP_ok, oP_ok, itP_ok, itP2_ok, itP3_ok, cP_ok, listR_ok, retP_ok, pick_t, pick_f, pick_exn, exP_ok, exP_exn, setP_ok, setP_exn, forP_ok, view, shSl, lk, List.map_cons, List.map_nil, List.length_cons, List.length_nil, List.append_nil, List.nil_append, List.cons_append, List.getElem?_cons_zero, List.getElem?_cons_succ, List.set_cons_zero, List.set_cons_succ, List.set_nil, List.replicate_zero, List.replicate_succ, Nat.sub_self, Nat.zero_add, Nat.reduceAdd, Nat.reduceSub, Bop.fn, Cop.fn, Bi.fn, add_ii, add_ll, add_tt, sub_ii, mul_ii, div_ii, mod_ii, lt_ii, le_ii, gt_ii, ge_ii, is_n, is_t, is_i, isnot_n, isnot_t, isnot_i, isi_i, isi_b, isi_n, isi_s, isi_l, isi_t, isi, DW.len_l, DW.len_t, DW.len_c, tuple_l, tuple_t, list_l, list_t, int_i, int_b, neg_i, idx_l, idx_t, idx_c, ofO_some, rev_l, cut_l, cut_t, lof_l, tof_t, sof_l, sof_t, lzipS, zipS, enumS, R.bind_ok, if_true, if_false, ite_true, ite_false, Bool.not_true, Bool.not_false, bind_nm, bind_tp, bind_nil, bind_cons, DW.scal, DW.wipeD, for_nil, tmof]
theorem time_of_ok {xs : List Int} (s : Shp xs) (ps : List Int) (f : Int) : f_time_of [shD xs, .list (nms (ps ++ [f]))] = .ok (.int (tmof f (xs.zip (ps ++ [f])))) := by
  obtain ⟨m', p', e⟩ := time_loop (.sh (shD xs)) (.sh (.list (nms (ps ++ [f])))) (xs.zip (ps ++ [f])) f .un .un fun x hx => by
    have := (List.of_mem_zip hx).1
    exact ⟨s.lo _ this, s.hi _ this⟩
  have q : nms (ps ++ [f]) = nms ps ++ [.int f] := by simp [nms]
  rw [q] at e ⊢
  simp -implicitDefEqProofs only [f_time_of, run_eq, b_time_of, ss_cons, ss_nil, st_ret, st_retN, st_pass, st_expr, st_ife, st_set, st_setV, st_asg, st_loop, st_ext, st_put, st_ownD, st_while, st_own, st_app, st_appV, st_raise, st_try, tryP_ok, tryP_exn, at_nx, at_rt, at_exn, endP_nx, endP_rt, endP_exn, ev_var, ev_int, ev_str, ev_bl, ev_non, ev_gint, ev_gstr, ev_bin, ev_neg, ev_cmp, ev_chain, ev_and, ev_or, ev_not, ev_ite, ev_tup, ev_lst, ev_call, ev_bi, ev_isi, ev_idx, ev_rev, ev_nil, ev_cons, ev_cut, ev_oN, ev_oS, ev_lzip, ev_dget, ev_lrange, ev_sset, ev_meth, mth_count, mth_index, mth_join, mth_split, ev_iL, ev_iT, ev_iS, ev_r1, ev_r2, ev_r3, ev_zip, ev_enum, ev_cN, ev_cS, ev_comp, two_ok, two_exn, one_ok, one_exn, many_ok, many_exn, consR_ok, consR_exn, andP_t, andP_f, orP_t, orP_f, notP_ok, notP_exn, chP_t, chP_f, chQ_ok, iteP_t, iteP_f, cutP_ok, oP_ok, itP_ok, itP2_ok, itP3_ok, cP_ok, listR_ok, retP_ok, pick_t, pick_f, pick_exn, exP_ok, exP_exn, setP_ok, setP_exn, forP_ok, view, shSl, lk, List.map_cons, List.map_nil, List.length_cons, List.length_nil, List.append_nil, List.nil_append, List.cons_append, List.getElem?_cons_zero, List.getElem?_cons_succ, List.set_cons_zero, List.set_cons_succ, List.set_nil, List.replicate_zero, List.replicate_succ, Nat.sub_self, Nat.zero_add, Nat.reduceAdd, Nat.reduceSub, Bop.fn, Cop.fn, Bi.fn, add_ii, add_ll, add_tt, sub_ii, mul_ii, div_ii, mod_ii, lt_ii, le_ii, gt_ii, ge_ii, is_n, is_t, is_i, isnot_n, isnot_t, isnot_i, isi_i, isi_b, isi_n, isi_s, isi_l, isi_t, isi, DW.len_l, DW.len_t, DW.len_c, tuple_l, tuple_t, list_l, list_t, int_i, int_b, neg_i, idx_l, idx_t, idx_c, ofO_some, rev_l, cut_l, cut_t, lof_l, tof_t, sof_l, sof_t, lzipS, zipS, enumS, R.bind_ok, if_true, if_false, ite_true, ite_false, Bool.not_true, Bool.not_false, bind_nm, bind_tp, bind_nil, bind_cons, DW.scal, DW.wipeD, atI_last, ofO, shD]
  have z : zipD (nms xs) (nms ps ++ [.int f]) = (xs.zip (ps ++ [f])).map pairD := by rw [← q, zip_nms]
  rw [z]
  simp only [tgT, bodyT, shD] at e
  rw [e]
  simp -implicitDefEqProofs only [ss_cons, ss_nil, st_ret, st_retN, st_pass, st_expr, st_ife, st_set, st_setV, st_asg, st_loop, st_ext, st_put, st_ownD, st_while, st_own, st_app, st_appV, st_raise, st_try, tryP_ok, tryP_exn, at_nx, at_rt, at_exn, endP_nx, endP_rt, endP_exn, ev_var, ev_int, ev_str, ev_bl, ev_non, ev_gint, ev_gstr, ev_bin, ev_neg, ev_cmp, ev_chain, ev_and, ev_or, ev_not, ev_ite, ev_tup, ev_lst, ev_call, ev_bi, ev_isi, ev_idx, ev_rev, ev_nil, ev_cons, ev_cut, ev_oN, ev_oS, ev_lzip, ev_dget, ev_lrange, ev_sset, ev_meth, mth_count, mth_index, mth_join, mth_split, ev_iL, ev_iT, ev_iS, ev_r1, ev_r2, ev_r3, ev_zip, ev_enum, ev_cN, ev_cS, ev_comp, two_ok, two_exn, one_ok, one_exn, many_ok, many_exn, consR_ok, consR_exn, andP_t, andP_f, orP_t, orP_f, notP_ok, notP_exn, chP_t, chP_f, chQ_ok, iteP_t, iteP_f, cutP_ok, oP_ok, itP_ok, itP2_ok, itP3_ok, cP_ok, listR_ok, retP_ok, pick_t, pick_f, pick_exn, exP_ok, exP_exn, setP_ok, setP_exn, forP_ok, view, shSl, lk, List.map_cons, List.map_nil, List.length_cons, List.length_nil, List.append_nil, List.nil_append, List.cons_append, List.getElem?_cons_zero, List.getElem?_cons_succ, List.set_cons_zero, List.set_cons_succ, List.set_nil, List.replicate_zero, List.replicate_succ, Nat.sub_self, Nat.zero_add, Nat.reduceAdd, Nat.reduceSub, Bop.fn, Cop.fn, Bi.fn, add_ii, add_ll, add_tt, sub_ii, mul_ii, div_ii, mod_ii, lt_ii, le_ii, gt_ii, ge_ii, is_n, is_t, is_i, isnot_n, isnot_t, isnot_i, isi_i, isi_b, isi_n, isi_s, isi_l, isi_t, isi, DW.len_l, DW.len_t, DW.len_c, tuple_l, tuple_t, list_l, list_t, int_i, int_b, neg_i, idx_l, idx_t, idx_c, ofO_some, rev_l, cut_l, cut_t, lof_l, tof_t, sof_l, sof_t, lzipS, zipS, enumS, R.bind_ok, if_true, if_false, ite_true, ite_false, Bool.not_true, Bool.not_false, bind_nm, bind_tp, bind_nil, bind_cons, DW.scal, DW.wipeD]
theorem tmof_hnds : ∀ (xs : List Int) (t : Int), tmof (left t xs) (xs.zip (hnds t xs)) = t
  | [], t => rfl
  | x :: xs, t => by
    rw [left, hnds, List.zip_cons_cons, tmof, tmof_hnds xs]
    exact Int.ediv_mul_add_emod t x
theorem time_of_hands {xs : List Int} (s : Shp xs) (t : Int) : f_time_of [shD xs, .list (nms (hnds t xs))] = .ok (.int t) := by
  rw [hnds_eq, time_of_ok s, ← hnds_eq, tmof_hnds]
/-! ### draws -/
theorem cell_ok {ns : List Int} (hn : ns.length ≤ 63) (k : Int) : ∃ c, f_law_cell [scriptD ns, .int k] = .ok (.int c) := by
  cases ns with
  | nil =>
    refine ⟨7 * k, ?_⟩
    simp -implicitDefEqProofs only [f_law_cell, run_eq, b_law_cell, ss_cons, ss_nil, st_ret, st_retN, st_pass, st_expr, st_ife, st_set, st_setV, st_asg, st_loop, st_ext, st_put, st_ownD, st_while, st_own, st_app, st_appV, st_raise, st_try, tryP_ok, tryP_exn, at_nx, at_rt, at_exn, endP_nx, endP_rt, endP_exn, ev_var, ev_int, ev_str, ev_bl, ev_non, ev_gint, ev_gstr, ev_bin, ev_neg, ev_cmp, ev_chain, ev_and, ev_or, ev_not, ev_ite, ev_tup, ev_lst, ev_call, ev_bi, ev_isi, ev_idx, ev_rev, ev_nil, ev_cons, ev_cut, ev_oN, ev_oS, ev_lzip, ev_dget, ev_lrange, ev_sset, ev_meth, mth_count, mth_index, mth_join, mth_split, ev_iL, ev_iT, ev_iS, ev_r1, ev_r2, ev_r3, ev_zip, ev_enum, ev_cN, ev_cS, ev_comp, two_ok, two_exn, one_ok, one_exn, many_ok, many_exn, consR_ok, consR_exn, andP_t, andP_f, orP_t, orP_f, notP_ok, notP_exn, chP_t, chP_f, chQ_ok, iteP_t, iteP_f, cutP_ok, oP_ok, itP_ok, itP2_ok, itP3_ok, cP_ok, listR_ok, retP_ok, pick_t, pick_f, pick_exn, exP_ok, exP_exn, setP_ok, setP_exn, forP_ok, view, shSl, lk, List.map_cons, List.map_nil, List.length_cons, List.length_nil, List.append_nil, List.nil_append, List.cons_append, List.getElem?_cons_zero, List.getElem?_cons_succ, List.set_cons_zero, List.set_cons_succ, List.set_nil, List.replicate_zero, List.replicate_succ, Nat.sub_self, Nat.zero_add, Nat.reduceAdd, Nat.reduceSub, Bop.fn, Cop.fn, Bi.fn, add_ii, add_ll, add_tt, sub_ii, mul_ii, div_ii, mod_ii, lt_ii, le_ii, gt_ii, ge_ii, is_n, is_t, is_i, isnot_n, isnot_t, isnot_i, isi_i, isi_b, isi_n, isi_s, isi_l, isi_t, isi, DW.len_l, DW.len_t, DW.len_c, tuple_l, tuple_t, list_l, list_t, int_i, int_b, neg_i, idx_l, idx_t, idx_c, ofO_some, rev_l, cut_l, cut_t, lof_l, tof_t, sof_l, sof_t, lzipS, zipS, enumS, R.bind_ok, if_true, if_false, ite_true, ite_false, Bool.not_true, Bool.not_false, bind_nm, bind_tp, bind_nil, bind_cons, DW.scal, DW.wipeD, scriptD]
    rw [mkL_ok (by simp)]
    simp -implicitDefEqProofs only [ss_cons, ss_nil, st_ret, st_retN, st_pass, st_expr, st_ife, st_set, st_setV, st_asg, st_loop, st_ext, st_put, st_ownD, st_while, st_own, st_app, st_appV, st_raise, st_try, tryP_ok, tryP_exn, at_nx, at_rt, at_exn, endP_nx, endP_rt, endP_exn, ev_var, ev_int, ev_str, ev_bl, ev_non, ev_gint, ev_gstr, ev_bin, ev_neg, ev_cmp, ev_chain, ev_and, ev_or, ev_not, ev_ite, ev_tup, ev_lst, ev_call, ev_bi, ev_isi, ev_idx, ev_rev, ev_nil, ev_cons, ev_cut, ev_oN, ev_oS, ev_lzip, ev_dget, ev_lrange, ev_sset, ev_meth, mth_count, mth_index, mth_join, mth_split, ev_iL, ev_iT, ev_iS, ev_r1, ev_r2, ev_r3, ev_zip, ev_enum, ev_cN, ev_cS, ev_comp, two_ok, two_exn, one_ok, one_exn, many_ok, many_exn, consR_ok, consR_exn, andP_t, andP_f, orP_t, orP_f, notP_ok, notP_exn, chP_t, chP_f, chQ_ok, iteP_t, iteP_f, cutP_ok, oP_ok, itP_ok, itP2_ok, itP3_ok, cP_ok, listR_ok, retP_ok, pick_t, pick_f, pick_exn, exP_ok, exP_exn, setP_ok, setP_exn, forP_ok, view, shSl, lk, List.map_cons, List.map_nil, List.length_cons, List.length_nil, List.append_nil, List.nil_append, List.cons_append, List.getElem?_cons_zero, List.getElem?_cons_succ, List.set_cons_zero, List.set_cons_succ, List.set_nil, List.replicate_zero, List.replicate_succ, Nat.sub_self, Nat.zero_add, Nat.reduceAdd, Nat.reduceSub, Bop.fn, Cop.fn, Bi.fn, add_ii, add_ll, add_tt, sub_ii, mul_ii, div_ii, mod_ii, lt_ii, le_ii, gt_ii, ge_ii, is_n, is_t, is_i, isnot_n, isnot_t, isnot_i, isi_i, isi_b, isi_n, isi_s, isi_l, isi_t, isi, DW.len_l, DW.len_t, DW.len_c, tuple_l, tuple_t, list_l, list_t, int_i, int_b, neg_i, idx_l, idx_t, idx_c, ofO_some, rev_l, cut_l, cut_t, lof_l, tof_t, sof_l, sof_t, lzipS, zipS, enumS, R.bind_ok, if_true, if_false, ite_true, ite_false, Bool.not_true, Bool.not_false, bind_nm, bind_tp, bind_nil, bind_cons, DW.scal, DW.wipeD, dEq, List.isEmpty_nil]
    rw [if_pos (.inl ⟨by omega, by omega⟩)]
    simp -implicitDefEqProofs only [ss_cons, ss_nil, st_ret, st_retN, st_pass, st_expr, st_ife, st_set, st_setV, st_asg, st_loop, st_ext, st_put, st_ownD, st_while, st_own, st_app, st_appV, st_raise, st_try, tryP_ok, tryP_exn, at_nx, at_rt, at_exn, endP_nx, endP_rt, endP_exn, ev_var, ev_int, ev_str, ev_bl, ev_non, ev_gint, ev_gstr, ev_bin, ev_neg, ev_cmp, ev_chain, ev_and, ev_or, ev_not, ev_ite, ev_tup, ev_lst, ev_call, ev_bi, ev_isi, ev_idx, ev_rev, ev_nil, ev_cons, ev_cut, ev_oN, ev_oS, ev_lzip, ev_dget, ev_lrange, ev_sset, ev_meth, mth_count, mth_index, mth_join, mth_split, ev_iL, ev_iT, ev_iS, ev_r1, ev_r2, ev_r3, ev_zip, ev_enum, ev_cN, ev_cS, ev_comp, two_ok, two_exn, one_ok, one_exn, many_ok, many_exn, consR_ok, consR_exn, andP_t, andP_f, orP_t, orP_f, notP_ok, notP_exn, chP_t, chP_f, chQ_ok, iteP_t, iteP_f, cutP_ok, oP_ok, itP_ok, itP2_ok, itP3_ok, cP_ok, listR_ok, retP_ok, pick_t, pick_f, pick_exn, exP_ok, exP_exn, setP_ok, setP_exn, forP_ok, view, shSl, lk, List.map_cons, List.map_nil, List.length_cons, List.length_nil, List.append_nil, List.nil_append, List.cons_append, List.getElem?_cons_zero, List.getElem?_cons_succ, List.set_cons_zero, List.set_cons_succ, List.set_nil, List.replicate_zero, List.replicate_succ, Nat.sub_self, Nat.zero_add, Nat.reduceAdd, Nat.reduceSub, Bop.fn, Cop.fn, Bi.fn, add_ii, add_ll, add_tt, sub_ii, mul_ii, div_ii, mod_ii, lt_ii, le_ii, gt_ii, ge_ii, is_n, is_t, is_i, isnot_n, isnot_t, isnot_i, isi_i, isi_b, isi_n, isi_s, isi_l, isi_t, isi, DW.len_l, DW.len_t, DW.len_c, tuple_l, tuple_t, list_l, list_t, int_i, int_b, neg_i, idx_l, idx_t, idx_c, ofO_some, rev_l, cut_l, cut_t, lof_l, tof_t, sof_l, sof_t, lzipS, zipS, enumS, R.bind_ok, if_true, if_false, ite_true, ite_false, Bool.not_true, Bool.not_false, bind_nm, bind_tp, bind_nil, bind_cons, DW.scal, DW.wipeD]
  | cons n ns =>
    have l0 : 0 < (((n :: ns).map fun i : Int => ((.int i : D), (.none : D))).length : Int) := by simp
    have l1 : (((n :: ns).map fun i : Int => ((.int i : D), (.none : D))).length : Int) < 1073741824 := by rw [List.length_map]; omega
    have m0 := Int.emod_nonneg k (Int.ne_of_gt l0)
    have m1 := Int.emod_lt_of_pos k l0
    generalize hL : ((n :: ns).map fun i : Int => ((.int i : D), (.none : D))) = L at l0 l1 m0 m1
    have hx := atI_nat m0 m1
    obtain ⟨v, hv⟩ : ∃ v : Int, L[(k % (L.length : Int)).toNat]? = some (.int v, .none) := by
      have hi : (k % (L.length : Int)).toNat < L.length := by omega
      rw [List.getElem?_eq_getElem hi]
      have hm : L[(k % (L.length : Int)).toNat] ∈ L := List.getElem_mem hi
      generalize L[(k % (L.length : Int)).toNat] = y at hm
      rw [← hL, List.mem_map] at hm
      obtain ⟨i, _, e⟩ := hm
      exact ⟨i, by rw [e]⟩
    refine ⟨v + 6553 * (k / (L.length : Int)), ?_⟩
    have hne : L.isEmpty = false := by rw [← hL]; rfl
    have eS : scriptD (n :: ns) = .dict ((.none, .none) :: L) := by rw [scriptD, hL]
    rw [eS]
    simp -implicitDefEqProofs only [f_law_cell, run_eq, b_law_cell, ss_cons, ss_nil, st_ret, st_retN, st_pass, st_expr, st_ife, st_set, st_setV, st_asg, st_loop, st_ext, st_put, st_ownD, st_while, st_own, st_app, st_appV, st_raise, st_try, tryP_ok, tryP_exn, at_nx, at_rt, at_exn, endP_nx, endP_rt, endP_exn, ev_var, ev_int, ev_str, ev_bl, ev_non, ev_gint, ev_gstr, ev_bin, ev_neg, ev_cmp, ev_chain, ev_and, ev_or, ev_not, ev_ite, ev_tup, ev_lst, ev_call, ev_bi, ev_isi, ev_idx, ev_rev, ev_nil, ev_cons, ev_cut, ev_oN, ev_oS, ev_lzip, ev_dget, ev_lrange, ev_sset, ev_meth, mth_count, mth_index, mth_join, mth_split, ev_iL, ev_iT, ev_iS, ev_r1, ev_r2, ev_r3, ev_zip, ev_enum, ev_cN, ev_cS, ev_comp, two_ok, two_exn, one_ok, one_exn, many_ok, many_exn, consR_ok, consR_exn, andP_t, andP_f, orP_t, orP_f, notP_ok, notP_exn, chP_t, chP_f, chQ_ok, iteP_t, iteP_f, cutP_ok, oP_ok, itP_ok, itP2_ok, itP3_ok, cP_ok, listR_ok, retP_ok, pick_t, pick_f, pick_exn, exP_ok, exP_exn, setP_ok, setP_exn, forP_ok, view, shSl, lk, List.map_cons, List.map_nil, List.length_cons, List.length_nil, List.append_nil, List.nil_append, List.cons_append, List.getElem?_cons_zero, List.getElem?_cons_succ, List.set_cons_zero, List.set_cons_succ, List.set_nil, List.replicate_zero, List.replicate_succ, Nat.sub_self, Nat.zero_add, Nat.reduceAdd, Nat.reduceSub, Bop.fn, Cop.fn, Bi.fn, add_ii, add_ll, add_tt, sub_ii, mul_ii, div_ii, mod_ii, lt_ii, le_ii, gt_ii, ge_ii, is_n, is_t, is_i, isnot_n, isnot_t, isnot_i, isi_i, isi_b, isi_n, isi_s, isi_l, isi_t, isi, DW.len_l, DW.len_t, DW.len_c, tuple_l, tuple_t, list_l, list_t, int_i, int_b, neg_i, idx_l, idx_t, idx_c, ofO_some, rev_l, cut_l, cut_t, lof_l, tof_t, sof_l, sof_t, lzipS, zipS, enumS, R.bind_ok, if_true, if_false, ite_true, ite_false, Bool.not_true, Bool.not_false, bind_nm, bind_tp, bind_nil, bind_cons, DW.scal, DW.wipeD]
    rw [mkL_ok (by simp)]
    simp -implicitDefEqProofs only [ss_cons, ss_nil, st_ret, st_retN, st_pass, st_expr, st_ife, st_set, st_setV, st_asg, st_loop, st_ext, st_put, st_ownD, st_while, st_own, st_app, st_appV, st_raise, st_try, tryP_ok, tryP_exn, at_nx, at_rt, at_exn, endP_nx, endP_rt, endP_exn, ev_var, ev_int, ev_str, ev_bl, ev_non, ev_gint, ev_gstr, ev_bin, ev_neg, ev_cmp, ev_chain, ev_and, ev_or, ev_not, ev_ite, ev_tup, ev_lst, ev_call, ev_bi, ev_isi, ev_idx, ev_rev, ev_nil, ev_cons, ev_cut, ev_oN, ev_oS, ev_lzip, ev_dget, ev_lrange, ev_sset, ev_meth, mth_count, mth_index, mth_join, mth_split, ev_iL, ev_iT, ev_iS, ev_r1, ev_r2, ev_r3, ev_zip, ev_enum, ev_cN, ev_cS, ev_comp, two_ok, two_exn, one_ok, one_exn, many_ok, many_exn, consR_ok, consR_exn, andP_t, andP_f, orP_t, orP_f, notP_ok, notP_exn, chP_t, chP_f, chQ_ok, iteP_t, iteP_f, cutP_ok, oP_ok, itP_ok, itP2_ok, itP3_ok, cP_ok, listR_ok, retP_ok, pick_t, pick_f, pick_exn, exP_ok, exP_exn, setP_ok, setP_exn, forP_ok, view, shSl, lk, List.map_cons, List.map_nil, List.length_cons, List.length_nil, List.append_nil, List.nil_append, List.cons_append, List.getElem?_cons_zero, List.getElem?_cons_succ, List.set_cons_zero, List.set_cons_succ, List.set_nil, List.replicate_zero, List.replicate_succ, Nat.sub_self, Nat.zero_add, Nat.reduceAdd, Nat.reduceSub, Bop.fn, Cop.fn, Bi.fn, add_ii, add_ll, add_tt, sub_ii, mul_ii, div_ii, mod_ii, lt_ii, le_ii, gt_ii, ge_ii, is_n, is_t, is_i, isnot_n, isnot_t, isnot_i, isi_i, isi_b, isi_n, isi_s, isi_l, isi_t, isi, DW.len_l, DW.len_t, DW.len_c, tuple_l, tuple_t, list_l, list_t, int_i, int_b, neg_i, idx_l, idx_t, idx_c, ofO_some, rev_l, cut_l, cut_t, lof_l, tof_t, sof_l, sof_t, lzipS, zipS, enumS, R.bind_ok, if_true, if_false, ite_true, ite_false, Bool.not_true, Bool.not_false, bind_nm, bind_tp, bind_nil, bind_cons, DW.scal, DW.wipeD, dEq, hne]
    rw [if_pos l0]
    simp -implicitDefEqProofs only [ss_cons, ss_nil, st_ret, st_retN, st_pass, st_expr, st_ife, st_set, st_setV, st_asg, st_loop, st_ext, st_put, st_ownD, st_while, st_own, st_app, st_appV, st_raise, st_try, tryP_ok, tryP_exn, at_nx, at_rt, at_exn, endP_nx, endP_rt, endP_exn, ev_var, ev_int, ev_str, ev_bl, ev_non, ev_gint, ev_gstr, ev_bin, ev_neg, ev_cmp, ev_chain, ev_and, ev_or, ev_not, ev_ite, ev_tup, ev_lst, ev_call, ev_bi, ev_isi, ev_idx, ev_rev, ev_nil, ev_cons, ev_cut, ev_oN, ev_oS, ev_lzip, ev_dget, ev_lrange, ev_sset, ev_meth, mth_count, mth_index, mth_join, mth_split, ev_iL, ev_iT, ev_iS, ev_r1, ev_r2, ev_r3, ev_zip, ev_enum, ev_cN, ev_cS, ev_comp, two_ok, two_exn, one_ok, one_exn, many_ok, many_exn, consR_ok, consR_exn, andP_t, andP_f, orP_t, orP_f, notP_ok, notP_exn, chP_t, chP_f, chQ_ok, iteP_t, iteP_f, cutP_ok, oP_ok, itP_ok, itP2_ok, itP3_ok, cP_ok, listR_ok, retP_ok, pick_t, pick_f, pick_exn, exP_ok, exP_exn, setP_ok, setP_exn, forP_ok, view, shSl, lk, List.map_cons, List.map_nil, List.length_cons, List.length_nil, List.append_nil, List.nil_append, List.cons_append, List.getElem?_cons_zero, List.getElem?_cons_succ, List.set_cons_zero, List.set_cons_succ, List.set_nil, List.replicate_zero, List.replicate_succ, Nat.sub_self, Nat.zero_add, Nat.reduceAdd, Nat.reduceSub, Bop.fn, Cop.fn, Bi.fn, add_ii, add_ll, add_tt, sub_ii, mul_ii, div_ii, mod_ii, lt_ii, le_ii, gt_ii, ge_ii, is_n, is_t, is_i, isnot_n, isnot_t, isnot_i, isi_i, isi_b, isi_n, isi_s, isi_l, isi_t, isi, DW.len_l, DW.len_t, DW.len_c, tuple_l, tuple_t, list_l, list_t, int_i, int_b, neg_i, idx_l, idx_t, idx_c, ofO_some, rev_l, cut_l, cut_t, lof_l, tof_t, sof_l, sof_t, lzipS, zipS, enumS, R.bind_ok, if_true, if_false, ite_true, ite_false, Bool.not_true, Bool.not_false, bind_nm, bind_tp, bind_nil, bind_cons, DW.scal, DW.wipeD, hx, hv, Option.map_some, ofO]
    rw [if_pos ⟨l0, l1⟩]
    simp -implicitDefEqProofs only [ss_cons, ss_nil, st_ret, st_retN, st_pass, st_expr, st_ife, st_set, st_setV, st_asg, st_loop, st_ext, st_put, st_ownD, st_while, st_own, st_app, st_appV, st_raise, st_try, tryP_ok, tryP_exn, at_nx, at_rt, at_exn, endP_nx, endP_rt, endP_exn, ev_var, ev_int, ev_str, ev_bl, ev_non, ev_gint, ev_gstr, ev_bin, ev_neg, ev_cmp, ev_chain, ev_and, ev_or, ev_not, ev_ite, ev_tup, ev_lst, ev_call, ev_bi, ev_isi, ev_idx, ev_rev, ev_nil, ev_cons, ev_cut, ev_oN, ev_oS, ev_lzip, ev_dget, ev_lrange, ev_sset, ev_meth, mth_count, mth_index, mth_join, mth_split, ev_iL, ev_iT, ev_iS, ev_r1, ev_r2, ev_r3, ev_zip, ev_enum, ev_cN, ev_cS, ev_comp, two_ok, two_exn, one_ok, one_exn, many_ok, many_exn, consR_ok, consR_exn, andP_t, andP_f, orP_t, orP_f, notP_ok, notP_exn, chP_t, chP_f, chQ_ok, iteP_t, iteP_f, cutP_ok, oP_ok, itP_ok, itP2_ok, itP3_ok, cP_ok, listR_ok, retP_ok, pick_t, pick_f, pick_exn, exP_ok, exP_exn, setP_ok, setP_exn, forP_ok, view, shSl, lk, List.map_cons, List.map_nil, List.length_cons, List.length_nil, List.append_nil, List.nil_append, List.cons_append, List.getElem?_cons_zero, List.getElem?_cons_succ, List.set_cons_zero, List.set_cons_succ, List.set_nil, List.replicate_zero, List.replicate_succ, Nat.sub_self, Nat.zero_add, Nat.reduceAdd, Nat.reduceSub, Bop.fn, Cop.fn, Bi.fn, add_ii, add_ll, add_tt, sub_ii, mul_ii, div_ii, mod_ii, lt_ii, le_ii, gt_ii, ge_ii, is_n, is_t, is_i, isnot_n, isnot_t, isnot_i, isi_i, isi_b, isi_n, isi_s, isi_l, isi_t, isi, DW.len_l, DW.len_t, DW.len_c, tuple_l, tuple_t, list_l, list_t, int_i, int_b, neg_i, idx_l, idx_t, idx_c, ofO_some, rev_l, cut_l, cut_t, lof_l, tof_t, sof_l, sof_t, lzipS, zipS, enumS, R.bind_ok, if_true, if_false, ite_true, ite_false, Bool.not_true, Bool.not_false, bind_nm, bind_tp, bind_nil, bind_cons, DW.scal, DW.wipeD]
    rw [if_pos (.inl ⟨by omega, by omega⟩)]
    simp -implicitDefEqProofs only [ss_cons, ss_nil, st_ret, st_retN, st_pass, st_expr, st_ife, st_set, st_setV, st_asg, st_loop, st_ext, st_put, st_ownD, st_while, st_own, st_app, st_appV, st_raise, st_try, tryP_ok, tryP_exn, at_nx, at_rt, at_exn, endP_nx, endP_rt, endP_exn, ev_var, ev_int, ev_str, ev_bl, ev_non, ev_gint, ev_gstr, ev_bin, ev_neg, ev_cmp, ev_chain, ev_and, ev_or, ev_not, ev_ite, ev_tup, ev_lst, ev_call, ev_bi, ev_isi, ev_idx, ev_rev, ev_nil, ev_cons, ev_cut, ev_oN, ev_oS, ev_lzip, ev_dget, ev_lrange, ev_sset, ev_meth, mth_count, mth_index, mth_join, mth_split, ev_iL, ev_iT, ev_iS, ev_r1, ev_r2, ev_r3, ev_zip, ev_enum, ev_cN, ev_cS, ev_comp, two_ok, two_exn, one_ok, one_exn, many_ok, many_exn, consR_ok, consR_exn, andP_t, andP_f, orP_t, orP_f, notP_ok, notP_exn, chP_t, chP_f, chQ_ok, iteP_t, iteP_f, cutP_ok, oP_ok, itP_ok, itP2_ok, itP3_ok, cP_ok, listR_ok, retP_ok, pick_t, pick_f, pick_exn, exP_ok, exP_exn, setP_ok, setP_exn, forP_ok, view, shSl, lk, List.map_cons, List.map_nil, List.length_cons, List.length_nil, List.append_nil, List.nil_append, List.cons_append, List.getElem?_cons_zero, List.getElem?_cons_succ, List.set_cons_zero, List.set_cons_succ, List.set_nil, List.replicate_zero, List.replicate_succ, Nat.sub_self, Nat.zero_add, Nat.reduceAdd, Nat.reduceSub, Bop.fn, Cop.fn, Bi.fn, add_ii, add_ll, add_tt, sub_ii, mul_ii, div_ii, mod_ii, lt_ii, le_ii, gt_ii, ge_ii, is_n, is_t, is_i, isnot_n, isnot_t, isnot_i, isi_i, isi_b, isi_n, isi_s, isi_l, isi_t, isi, DW.len_l, DW.len_t, DW.len_c, tuple_l, tuple_t, list_l, list_t, int_i, int_b, neg_i, idx_l, idx_t, idx_c, ofO_some, rev_l, cut_l, cut_t, lof_l, tof_t, sof_l, sof_t, lzipS, zipS, enumS, R.bind_ok, if_true, if_false, ite_true, ite_false, Bool.not_true, Bool.not_false, bind_nm, bind_tp, bind_nil, bind_cons, DW.scal, DW.wipeD]
theorem drawn_ok {ns : List Int} (hn : ns.length ≤ 63) (k m : Int) (hm : 0 < m) : ∃ v, f_law_drawn [scriptD ns, .int k, .int m] = .ok (.int v) ∧ 0 ≤ v ∧ v < m := by
  obtain ⟨c, hc⟩ := cell_ok hn k
  have b1 := Int.emod_nonneg c (show (2147483563 : Int) ≠ 0 by omega)
  have b2 := Int.emod_lt_of_pos c (show (0 : Int) < 2147483563 by omega)
  generalize hx : (c % 2147483563 * 69069 + 104723 * (k + 1)) % 2147483563 = x
  have x1 : 0 ≤ x := by rw [← hx]; exact Int.emod_nonneg _ (by omega)
  have x2 : x < 2147483563 := by rw [← hx]; exact Int.emod_lt_of_pos _ (by omega)
  generalize hy : (x * x + x / 3) % 2147483399 = y
  have y1 : 0 ≤ y := by rw [← hy]; exact Int.emod_nonneg _ (by omega)
  have y2 : y < 2147483399 := by rw [← hy]; exact Int.emod_lt_of_pos _ (by omega)
  refine ⟨(y * y + y / 7) % 2147483647 / 11 % m, ?_, Int.emod_nonneg _ (by omega), Int.emod_lt_of_pos _ hm⟩
  simp -implicitDefEqProofs only [f_law_drawn, run_eq, b_law_drawn, ss_cons, ss_nil, st_ret, st_retN, st_pass, st_expr, st_ife, st_set, st_setV, st_asg, st_loop, st_ext, st_put, st_ownD, st_while, st_own, st_app, st_appV, st_raise, st_try, tryP_ok, tryP_exn, at_nx, at_rt, at_exn, endP_nx, endP_rt, endP_exn, ev_var, ev_int, ev_str, ev_bl, ev_non, ev_gint, ev_gstr, ev_bin, ev_neg, ev_cmp, ev_chain, ev_and, ev_or, ev_not, ev_ite, ev_tup, ev_lst, ev_call, ev_bi, ev_isi, ev_idx, ev_rev, ev_nil, ev_cons, ev_cut, ev_oN, ev_oS, ev_lzip, ev_dget, ev_lrange, ev_sset, ev_meth, mth_count, mth_index, mth_join, mth_split, ev_iL, ev_iT, ev_iS, ev_r1, ev_r2, ev_r3, ev_zip, ev_enum, ev_cN, ev_cS, ev_comp, two_ok, two_exn, one_ok, one_exn, many_ok, many_exn, consR_ok, consR_exn, andP_t, andP_f, orP_t, orP_f, notP_ok, notP_exn, chP_t, chP_f, chQ_ok, iteP_t, iteP_f, cutP_ok, oP_ok, itP_ok, itP2_ok, itP3_ok, cP_ok, listR_ok, retP_ok, pick_t, pick_f, pick_exn, exP_ok, exP_exn, setP_ok, setP_exn, forP_ok, view, shSl, lk, List.map_cons, List.map_nil, List.length_cons, List.length_nil, List.append_nil, List.nil_append, List.cons_append, List.getElem?_cons_zero, List.getElem?_cons_succ, List.set_cons_zero, List.set_cons_succ, List.set_nil, List.replicate_zero, List.replicate_succ, Nat.sub_self, Nat.zero_add, Nat.reduceAdd, Nat.reduceSub, Bop.fn, Cop.fn, Bi.fn, add_ii, add_ll, add_tt, sub_ii, mul_ii, div_ii, mod_ii, lt_ii, le_ii, gt_ii, ge_ii, is_n, is_t, is_i, isnot_n, isnot_t, isnot_i, isi_i, isi_b, isi_n, isi_s, isi_l, isi_t, isi, DW.len_l, DW.len_t, DW.len_c, tuple_l, tuple_t, list_l, list_t, int_i, int_b, neg_i, idx_l, idx_t, idx_c, ofO_some, rev_l, cut_l, cut_t, lof_l, tof_t, sof_l, sof_t, lzipS, zipS, enumS, R.bind_ok, if_true, if_false, ite_true, ite_false, Bool.not_true, Bool.not_false, bind_nm, bind_tp, bind_nil, bind_cons, DW.scal, DW.wipeD, hc]
  rw [if_pos (by omega)]
  simp -implicitDefEqProofs only [ss_cons, ss_nil, st_ret, st_retN, st_pass, st_expr, st_ife, st_set, st_setV, st_asg, st_loop, st_ext, st_put, st_ownD, st_while, st_own, st_app, st_appV, st_raise, st_try, tryP_ok, tryP_exn, at_nx, at_rt, at_exn, endP_nx, endP_rt, endP_exn, ev_var, ev_int, ev_str, ev_bl, ev_non, ev_gint, ev_gstr, ev_bin, ev_neg, ev_cmp, ev_chain, ev_and, ev_or, ev_not, ev_ite, ev_tup, ev_lst, ev_call, ev_bi, ev_isi, ev_idx, ev_rev, ev_nil, ev_cons, ev_cut, ev_oN, ev_oS, ev_lzip, ev_dget, ev_lrange, ev_sset, ev_meth, mth_count, mth_index, mth_join, mth_split, ev_iL, ev_iT, ev_iS, ev_r1, ev_r2, ev_r3, ev_zip, ev_enum, ev_cN, ev_cS, ev_comp, two_ok, two_exn, one_ok, one_exn, many_ok, many_exn, consR_ok, consR_exn, andP_t, andP_f, orP_t, orP_f, notP_ok, notP_exn, chP_t, chP_f, chQ_ok, iteP_t, iteP_f, cutP_ok, oP_ok, itP_ok, itP2_ok, itP3_ok, cP_ok, listR_ok, retP_ok, pick_t, pick_f, pick_exn, exP_ok, exP_exn, setP_ok, setP_exn, forP_ok, view, shSl, lk, List.map_cons, List.map_nil, List.length_cons, List.length_nil, List.append_nil, List.nil_append, List.cons_append, List.getElem?_cons_zero, List.getElem?_cons_succ, List.set_cons_zero, List.set_cons_succ, List.set_nil, List.replicate_zero, List.replicate_succ, Nat.sub_self, Nat.zero_add, Nat.reduceAdd, Nat.reduceSub, Bop.fn, Cop.fn, Bi.fn, add_ii, add_ll, add_tt, sub_ii, mul_ii, div_ii, mod_ii, lt_ii, le_ii, gt_ii, ge_ii, is_n, is_t, is_i, isnot_n, isnot_t, isnot_i, isi_i, isi_b, isi_n, isi_s, isi_l, isi_t, isi, DW.len_l, DW.len_t, DW.len_c, tuple_l, tuple_t, list_l, list_t, int_i, int_b, neg_i, idx_l, idx_t, idx_c, ofO_some, rev_l, cut_l, cut_t, lof_l, tof_t, sof_l, sof_t, lzipS, zipS, enumS, R.bind_ok, if_true, if_false, ite_true, ite_false, Bool.not_true, Bool.not_false, bind_nm, bind_tp, bind_nil, bind_cons, DW.scal, DW.wipeD]
  rw [if_pos (.inl ⟨by omega, by omega⟩), if_pos (.inl ⟨by omega, by omega⟩)]
  simp -implicitDefEqProofs only [ss_cons, ss_nil, st_ret, st_retN, st_pass, st_expr, st_ife, st_set, st_setV, st_asg, st_loop, st_ext, st_put, st_ownD, st_while, st_own, st_app, st_appV, st_raise, st_try, tryP_ok, tryP_exn, at_nx, at_rt, at_exn, endP_nx, endP_rt, endP_exn, ev_var, ev_int, ev_str, ev_bl, ev_non, ev_gint, ev_gstr, ev_bin, ev_neg, ev_cmp, ev_chain, ev_and, ev_or, ev_not, ev_ite, ev_tup, ev_lst, ev_call, ev_bi, ev_isi, ev_idx, ev_rev, ev_nil, ev_cons, ev_cut, ev_oN, ev_oS, ev_lzip, ev_dget, ev_lrange, ev_sset, ev_meth, mth_count, mth_index, mth_join, mth_split, ev_iL, ev_iT, ev_iS, ev_r1, ev_r2, ev_r3, ev_zip, ev_enum, ev_cN, ev_cS, ev_comp, two_ok, two_exn, one_ok, one_exn, many_ok, many_exn, consR_ok, consR_exn, andP_t, andP_f, orP_t, orP_f, notP_ok, notP_exn, chP_t, chP_f, chQ_ok, iteP_t, iteP_f, cutP_ok, oP_ok, itP_ok, itP2_ok, itP3_ok, cP_ok, listR_ok, retP_ok, pick_t, pick_f, pick_exn, exP_ok, exP_exn, setP_ok, setP_exn, forP_ok, view, shSl, lk, List.map_cons, List.map_nil, List.length_cons, List.length_nil, List.append_nil, List.nil_append, List.cons_append, List.getElem?_cons_zero, List.getElem?_cons_succ, List.set_cons_zero, List.set_cons_succ, List.set_nil, List.replicate_zero, List.replicate_succ, Nat.sub_self, Nat.zero_add, Nat.reduceAdd, Nat.reduceSub, Bop.fn, Cop.fn, Bi.fn, add_ii, add_ll, add_tt, sub_ii, mul_ii, div_ii, mod_ii, lt_ii, le_ii, gt_ii, ge_ii, is_n, is_t, is_i, isnot_n, isnot_t, isnot_i, isi_i, isi_b, isi_n, isi_s, isi_l, isi_t, isi, DW.len_l, DW.len_t, DW.len_c, tuple_l, tuple_t, list_l, list_t, int_i, int_b, neg_i, idx_l, idx_t, idx_c, ofO_some, rev_l, cut_l, cut_t, lof_l, tof_t, sof_l, sof_t, lzipS, zipS, enumS, R.bind_ok, if_true, if_false, ite_true, ite_false, Bool.not_true, Bool.not_false, bind_nm, bind_tp, bind_nil, bind_cons, DW.scal, DW.wipeD]
  rw [if_pos (by omega)]
  simp -implicitDefEqProofs only [ss_cons, ss_nil, st_ret, st_retN, st_pass, st_expr, st_ife, st_set, st_setV, st_asg, st_loop, st_ext, st_put, st_ownD, st_while, st_own, st_app, st_appV, st_raise, st_try, tryP_ok, tryP_exn, at_nx, at_rt, at_exn, endP_nx, endP_rt, endP_exn, ev_var, ev_int, ev_str, ev_bl, ev_non, ev_gint, ev_gstr, ev_bin, ev_neg, ev_cmp, ev_chain, ev_and, ev_or, ev_not, ev_ite, ev_tup, ev_lst, ev_call, ev_bi, ev_isi, ev_idx, ev_rev, ev_nil, ev_cons, ev_cut, ev_oN, ev_oS, ev_lzip, ev_dget, ev_lrange, ev_sset, ev_meth, mth_count, mth_index, mth_join, mth_split, ev_iL, ev_iT, ev_iS, ev_r1, ev_r2, ev_r3, ev_zip, ev_enum, ev_cN, ev_cS, ev_comp, two_ok, two_exn, one_ok, one_exn, many_ok, many_exn, consR_ok, consR_exn, andP_t, andP_f, orP_t, orP_f, notP_ok, notP_exn, chP_t, chP_f, chQ_ok, iteP_t, iteP_f, cutP_ok, oP_ok, itP_ok, itP2_ok, itP3_ok, cP_ok, listR_ok, retP_ok, pick_t, pick_f, pick_exn, exP_ok, exP_exn, setP_ok, setP_exn, forP_ok, view, shSl, lk, List.map_cons, List.map_nil, List.length_cons, List.length_nil, List.append_nil, List.nil_append, List.cons_append, List.getElem?_cons_zero, List.getElem?_cons_succ, List.set_cons_zero, List.set_cons_succ, List.set_nil, List.replicate_zero, List.replicate_succ, Nat.sub_self, Nat.zero_add, Nat.reduceAdd, Nat.reduceSub, Bop.fn, Cop.fn, Bi.fn, add_ii, add_ll, add_tt, sub_ii, mul_ii, div_ii, mod_ii, lt_ii, le_ii, gt_ii, ge_ii, is_n, is_t, is_i, isnot_n, isnot_t, isnot_i, isi_i, isi_b, isi_n, isi_s, isi_l, isi_t, isi, DW.len_l, DW.len_t, DW.len_c, tuple_l, tuple_t, list_l, list_t, int_i, int_b, neg_i, idx_l, idx_t, idx_c, ofO_some, rev_l, cut_l, cut_t, lof_l, tof_t, sof_l, sof_t, lzipS, zipS, enumS, R.bind_ok, if_true, if_false, ite_true, ite_false, Bool.not_true, Bool.not_false, bind_nm, bind_tp, bind_nil, bind_cons, DW.scal, DW.wipeD, hx]
  rw [if_pos (.inl ⟨by omega, by omega⟩), if_pos (by omega)]
  simp -implicitDefEqProofs only [ss_cons, ss_nil, st_ret, st_retN, st_pass, st_expr, st_ife, st_set, st_setV, st_asg, st_loop, st_ext, st_put, st_ownD, st_while, st_own, st_app, st_appV, st_raise, st_try, tryP_ok, tryP_exn, at_nx, at_rt, at_exn, endP_nx, endP_rt, endP_exn, ev_var, ev_int, ev_str, ev_bl, ev_non, ev_gint, ev_gstr, ev_bin, ev_neg, ev_cmp, ev_chain, ev_and, ev_or, ev_not, ev_ite, ev_tup, ev_lst, ev_call, ev_bi, ev_isi, ev_idx, ev_rev, ev_nil, ev_cons, ev_cut, ev_oN, ev_oS, ev_lzip, ev_dget, ev_lrange, ev_sset, ev_meth, mth_count, mth_index, mth_join, mth_split, ev_iL, ev_iT, ev_iS, ev_r1, ev_r2, ev_r3, ev_zip, ev_enum, ev_cN, ev_cS, ev_comp, two_ok, two_exn, one_ok, one_exn, many_ok, many_exn, consR_ok, consR_exn, andP_t, andP_f, orP_t, orP_f, notP_ok, notP_exn, chP_t, chP_f, chQ_ok, iteP_t, iteP_f, cutP_ok, oP_ok, itP_ok, itP2_ok, itP3_ok, cP_ok, listR_ok, retP_ok, pick_t, pick_f, pick_exn, exP_ok, exP_exn, setP_ok, setP_exn, forP_ok, view, shSl, lk, List.map_cons, List.map_nil, List.length_cons, List.length_nil, List.append_nil, List.nil_append, List.cons_append, List.getElem?_cons_zero, List.getElem?_cons_succ, List.set_cons_zero, List.set_cons_succ, List.set_nil, List.replicate_zero, List.replicate_succ, Nat.sub_self, Nat.zero_add, Nat.reduceAdd, Nat.reduceSub, Bop.fn, Cop.fn, Bi.fn, add_ii, add_ll, add_tt, sub_ii, mul_ii, div_ii, mod_ii, lt_ii, le_ii, gt_ii, ge_ii, is_n, is_t, is_i, isnot_n, isnot_t, isnot_i, isi_i, isi_b, isi_n, isi_s, isi_l, isi_t, isi, DW.len_l, DW.len_t, DW.len_c, tuple_l, tuple_t, list_l, list_t, int_i, int_b, neg_i, idx_l, idx_t, idx_c, ofO_some, rev_l, cut_l, cut_t, lof_l, tof_t, sof_l, sof_t, lzipS, zipS, enumS, R.bind_ok, if_true, if_false, ite_true, ite_false, Bool.not_true, Bool.not_false, bind_nm, bind_tp, bind_nil, bind_cons, DW.scal, DW.wipeD]
  rw [if_pos (by omega)]
  simp -implicitDefEqProofs only [ss_cons, ss_nil, st_ret, st_retN, st_pass, st_expr, st_ife, st_set, st_setV, st_asg, st_loop, st_ext, st_put, st_ownD, st_while, st_own, st_app, st_appV, st_raise, st_try, tryP_ok, tryP_exn, at_nx, at_rt, at_exn, endP_nx, endP_rt, endP_exn, ev_var, ev_int, ev_str, ev_bl, ev_non, ev_gint, ev_gstr, ev_bin, ev_neg, ev_cmp, ev_chain, ev_and, ev_or, ev_not, ev_ite, ev_tup, ev_lst, ev_call, ev_bi, ev_isi, ev_idx, ev_rev, ev_nil, ev_cons, ev_cut, ev_oN, ev_oS, ev_lzip, ev_dget, ev_lrange, ev_sset, ev_meth, mth_count, mth_index, mth_join, mth_split, ev_iL, ev_iT, ev_iS, ev_r1, ev_r2, ev_r3, ev_zip, ev_enum, ev_cN, ev_cS, ev_comp, two_ok, two_exn, one_ok, one_exn, many_ok, many_exn, consR_ok, consR_exn, andP_t, andP_f, orP_t, orP_f, notP_ok, notP_exn, chP_t, chP_f, chQ_ok, iteP_t, iteP_f, cutP_ok, oP_ok, itP_ok, itP2_ok, itP3_ok, cP_ok, listR_ok, retP_ok, pick_t, pick_f, pick_exn, exP_ok, exP_exn, setP_ok, setP_exn, forP_ok, view, shSl, lk, List.map_cons, List.map_nil, List.length_cons, List.length_nil, List.append_nil, List.nil_append, List.cons_append, List.getElem?_cons_zero, List.getElem?_cons_succ, List.set_cons_zero, List.set_cons_succ, List.set_nil, List.replicate_zero, List.replicate_succ, Nat.sub_self, Nat.zero_add, Nat.reduceAdd, Nat.reduceSub, Bop.fn, Cop.fn, Bi.fn, add_ii, add_ll, add_tt, sub_ii, mul_ii, div_ii, mod_ii, lt_ii, le_ii, gt_ii, ge_ii, is_n, is_t, is_i, isnot_n, isnot_t, isnot_i, isi_i, isi_b, isi_n, isi_s, isi_l, isi_t, isi, DW.len_l, DW.len_t, DW.len_c, tuple_l, tuple_t, list_l, list_t, int_i, int_b, neg_i, idx_l, idx_t, idx_c, ofO_some, rev_l, cut_l, cut_t, lof_l, tof_t, sof_l, sof_t, lzipS, zipS, enumS, R.bind_ok, if_true, if_false, ite_true, ite_false, Bool.not_true, Bool.not_false, bind_nm, bind_tp, bind_nil, bind_cons, DW.scal, DW.wipeD, hy]
  rw [if_pos (.inl ⟨by omega, by omega⟩), if_pos (by omega)]
  simp -implicitDefEqProofs only [ss_cons, ss_nil, st_ret, st_retN, st_pass, st_expr, st_ife, st_set, st_setV, st_asg, st_loop, st_ext, st_put, st_ownD, st_while, st_own, st_app, st_appV, st_raise, st_try, tryP_ok, tryP_exn, at_nx, at_rt, at_exn, endP_nx, endP_rt, endP_exn, ev_var, ev_int, ev_str, ev_bl, ev_non, ev_gint, ev_gstr, ev_bin, ev_neg, ev_cmp, ev_chain, ev_and, ev_or, ev_not, ev_ite, ev_tup, ev_lst, ev_call, ev_bi, ev_isi, ev_idx, ev_rev, ev_nil, ev_cons, ev_cut, ev_oN, ev_oS, ev_lzip, ev_dget, ev_lrange, ev_sset, ev_meth, mth_count, mth_index, mth_join, mth_split, ev_iL, ev_iT, ev_iS, ev_r1, ev_r2, ev_r3, ev_zip, ev_enum, ev_cN, ev_cS, ev_comp, two_ok, two_exn, one_ok, one_exn, many_ok, many_exn, consR_ok, consR_exn, andP_t, andP_f, orP_t, orP_f, notP_ok, notP_exn, chP_t, chP_f, chQ_ok, iteP_t, iteP_f, cutP_ok, oP_ok, itP_ok, itP2_ok, itP3_ok, cP_ok, listR_ok, retP_ok, pick_t, pick_f, pick_exn, exP_ok, exP_exn, setP_ok, setP_exn, forP_ok, view, shSl, lk, List.map_cons, List.map_nil, List.length_cons, List.length_nil, List.append_nil, List.nil_append, List.cons_append, List.getElem?_cons_zero, List.getElem?_cons_succ, List.set_cons_zero, List.set_cons_succ, List.set_nil, List.replicate_zero, List.replicate_succ, Nat.sub_self, Nat.zero_add, Nat.reduceAdd, Nat.reduceSub, Bop.fn, Cop.fn, Bi.fn, add_ii, add_ll, add_tt, sub_ii, mul_ii, div_ii, mod_ii, lt_ii, le_ii, gt_ii, ge_ii, is_n, is_t, is_i, isnot_n, isnot_t, isnot_i, isi_i, isi_b, isi_n, isi_s, isi_l, isi_t, isi, DW.len_l, DW.len_t, DW.len_c, tuple_l, tuple_t, list_l, list_t, int_i, int_b, neg_i, idx_l, idx_t, idx_c, ofO_some, rev_l, cut_l, cut_t, lof_l, tof_t, sof_l, sof_t, lzipS, zipS, enumS, R.bind_ok, if_true, if_false, ite_true, ite_false, Bool.not_true, Bool.not_false, bind_nm, bind_tp, bind_nil, bind_cons, DW.scal, DW.wipeD]
  rw [if_pos (by omega)]
  simp -implicitDefEqProofs only [ss_cons, ss_nil, st_ret, st_retN, st_pass, st_expr, st_ife, st_set, st_setV, st_asg, st_loop, st_ext, st_put, st_ownD, st_while, st_own, st_app, st_appV, st_raise, st_try, tryP_ok, tryP_exn, at_nx, at_rt, at_exn, endP_nx, endP_rt, endP_exn, ev_var, ev_int, ev_str, ev_bl, ev_non, ev_gint, ev_gstr, ev_bin, ev_neg, ev_cmp, ev_chain, ev_and, ev_or, ev_not, ev_ite, ev_tup, ev_lst, ev_call, ev_bi, ev_isi, ev_idx, ev_rev, ev_nil, ev_cons, ev_cut, ev_oN, ev_oS, ev_lzip, ev_dget, ev_lrange, ev_sset, ev_meth, mth_count, mth_index, mth_join, mth_split, ev_iL, ev_iT, ev_iS, ev_r1, ev_r2, ev_r3, ev_zip, ev_enum, ev_cN, ev_cS, ev_comp, two_ok, two_exn, one_ok, one_exn, many_ok, many_exn, consR_ok, consR_exn, andP_t, andP_f, orP_t, orP_f, notP_ok, notP_exn, chP_t, chP_f, chQ_ok, iteP_t, iteP_f, cutP_ok, oP_ok, itP_ok, itP2_ok, itP3_ok, cP_ok, listR_ok, retP_ok, pick_t, pick_f, pick_exn, exP_ok, exP_exn, setP_ok, setP_exn, forP_ok, view, shSl, lk, List.map_cons, List.map_nil, List.length_cons, List.length_nil, List.append_nil, List.nil_append, List.cons_append, List.getElem?_cons_zero, List.getElem?_cons_succ, List.set_cons_zero, List.set_cons_succ, List.set_nil, List.replicate_zero, List.replicate_succ, Nat.sub_self, Nat.zero_add, Nat.reduceAdd, Nat.reduceSub, Bop.fn, Cop.fn, Bi.fn, add_ii, add_ll, add_tt, sub_ii, mul_ii, div_ii, mod_ii, lt_ii, le_ii, gt_ii, ge_ii, is_n, is_t, is_i, isnot_n, isnot_t, isnot_i, isi_i, isi_b, isi_n, isi_s, isi_l, isi_t, isi, DW.len_l, DW.len_t, DW.len_c, tuple_l, tuple_t, list_l, list_t, int_i, int_b, neg_i, idx_l, idx_t, idx_c, ofO_some, rev_l, cut_l, cut_t, lof_l, tof_t, sof_l, sof_t, lzipS, zipS, enumS, R.bind_ok, if_true, if_false, ite_true, ite_false, Bool.not_true, Bool.not_false, bind_nm, bind_tp, bind_nil, bind_cons, DW.scal, DW.wipeD]
  rw [if_pos (by omega)]
  simp -implicitDefEqProofs only [ss_cons, ss_nil, st_ret, st_retN, st_pass, st_expr, st_ife, st_set, st_setV, st_asg, st_loop, st_ext, st_put, st_ownD, st_while, st_own, st_app, st_appV, st_raise, st_try, tryP_ok, tryP_exn, at_nx, at_rt, at_exn, endP_nx, endP_rt, endP_exn, ev_var, ev_int, ev_str, ev_bl, ev_non, ev_gint, ev_gstr, ev_bin, ev_neg, ev_cmp, ev_chain, ev_and, ev_or, ev_not, ev_ite, ev_tup, ev_lst, ev_call, ev_bi, ev_isi, ev_idx, ev_rev, ev_nil, ev_cons, ev_cut, ev_oN, ev_oS, ev_lzip, ev_dget, ev_lrange, ev_sset, ev_meth, mth_count, mth_index, mth_join, mth_split, ev_iL, ev_iT, ev_iS, ev_r1, ev_r2, ev_r3, ev_zip, ev_enum, ev_cN, ev_cS, ev_comp, two_ok, two_exn, one_ok, one_exn, many_ok, many_exn, consR_ok, consR_exn, andP_t, andP_f, orP_t, orP_f, notP_ok, notP_exn, chP_t, chP_f, chQ_ok, iteP_t, iteP_f, cutP_ok, oP_ok, itP_ok, itP2_ok, itP3_ok, cP_ok, listR_ok, retP_ok, pick_t, pick_f, pick_exn, exP_ok, exP_exn, setP_ok, setP_exn, forP_ok, view, shSl, lk, List.map_cons, List.map_nil, List.length_cons, List.length_nil, List.append_nil, List.nil_append, List.cons_append, List.getElem?_cons_zero, List.getElem?_cons_succ, List.set_cons_zero, List.set_cons_succ, List.set_nil, List.replicate_zero, List.replicate_succ, Nat.sub_self, Nat.zero_add, Nat.reduceAdd, Nat.reduceSub, Bop.fn, Cop.fn, Bi.fn, add_ii, add_ll, add_tt, sub_ii, mul_ii, div_ii, mod_ii, lt_ii, le_ii, gt_ii, ge_ii, is_n, is_t, is_i, isnot_n, isnot_t, isnot_i, isi_i, isi_b, isi_n, isi_s, isi_l, isi_t, isi, DW.len_l, DW.len_t, DW.len_c, tuple_l, tuple_t, list_l, list_t, int_i, int_b, neg_i, idx_l, idx_t, idx_c, ofO_some, rev_l, cut_l, cut_t, lof_l, tof_t, sof_l, sof_t, lzipS, zipS, enumS, R.bind_ok, if_true, if_false, ite_true, ite_false, Bool.not_true, Bool.not_false, bind_nm, bind_tp, bind_nil, bind_cons, DW.scal, DW.wipeD]
  rw [if_pos hm]
  simp -implicitDefEqProofs only [ss_cons, ss_nil, st_ret, st_retN, st_pass, st_expr, st_ife, st_set, st_setV, st_asg, st_loop, st_ext, st_put, st_ownD, st_while, st_own, st_app, st_appV, st_raise, st_try, tryP_ok, tryP_exn, at_nx, at_rt, at_exn, endP_nx, endP_rt, endP_exn, ev_var, ev_int, ev_str, ev_bl, ev_non, ev_gint, ev_gstr, ev_bin, ev_neg, ev_cmp, ev_chain, ev_and, ev_or, ev_not, ev_ite, ev_tup, ev_lst, ev_call, ev_bi, ev_isi, ev_idx, ev_rev, ev_nil, ev_cons, ev_cut, ev_oN, ev_oS, ev_lzip, ev_dget, ev_lrange, ev_sset, ev_meth, mth_count, mth_index, mth_join, mth_split, ev_iL, ev_iT, ev_iS, ev_r1, ev_r2, ev_r3, ev_zip, ev_enum, ev_cN, ev_cS, ev_comp, two_ok, two_exn, one_ok, one_exn, many_ok, many_exn, consR_ok, consR_exn, andP_t, andP_f, orP_t, orP_f, notP_ok, notP_exn, chP_t, chP_f, chQ_ok, iteP_t, iteP_f, cutP_ok, oP_ok, itP_ok, itP2_ok, itP3_ok, cP_ok, listR_ok, retP_ok, pick_t, pick_f, pick_exn, exP_ok, exP_exn, setP_ok, setP_exn, forP_ok, view, shSl, lk, List.map_cons, List.map_nil, List.length_cons, List.length_nil, List.append_nil, List.nil_append, List.cons_append, List.getElem?_cons_zero, List.getElem?_cons_succ, List.set_cons_zero, List.set_cons_succ, List.set_nil, List.replicate_zero, List.replicate_succ, Nat.sub_self, Nat.zero_add, Nat.reduceAdd, Nat.reduceSub, Bop.fn, Cop.fn, Bi.fn, add_ii, add_ll, add_tt, sub_ii, mul_ii, div_ii, mod_ii, lt_ii, le_ii, gt_ii, ge_ii, is_n, is_t, is_i, isnot_n, isnot_t, isnot_i, isi_i, isi_b, isi_n, isi_s, isi_l, isi_t, isi, DW.len_l, DW.len_t, DW.len_c, tuple_l, tuple_t, list_l, list_t, int_i, int_b, neg_i, idx_l, idx_t, idx_c, ofO_some, rev_l, cut_l, cut_t, lof_l, tof_t, sof_l, sof_t, lzipS, zipS, enumS, R.bind_ok, if_true, if_false, ite_true, ite_false, Bool.not_true, Bool.not_false, bind_nm, bind_tp, bind_nil, bind_cons, DW.scal, DW.wipeD]
/-- what is drawn -/
def drawV (ns : List Int) (k m : Int) : Int := match f_law_drawn [scriptD ns, .int k, .int m] with
  | .ok (.int v) => v
  | _ => 0
theorem drawV_ok {ns : List Int} (hn : ns.length ≤ 63) (k m : Int) (hm : 0 < m) : f_law_drawn [scriptD ns, .int k, .int m] = .ok (.int (drawV ns k m)) ∧ 0 ≤ drawV ns k m ∧ drawV ns k m < m := by
  obtain ⟨v, h, h0, h1⟩ := drawn_ok hn k m hm
  have e : drawV ns k m = v := by unfold drawV; rw [h]
  rw [e]
  exact ⟨h, h0, h1⟩
theorem small_of {i : Int} (h0 : -1000000 ≤ i) (h1 : i ≤ 1000000) : small62 i = true := small62_iff.mpr ⟨by omega, by omega⟩
theorem range1_ok {i : Int} (h0 : -1000000 ≤ i) (h1 : i ≤ 1000000) : range1 (.int i) = .ok (upTo 0 i.toNat) := if_pos (small_of h0 h1)
def spot (k : Nat) : Int := [7, 4, 3, 2].getD k 2
theorem spot_pos (k : Nat) : 2 ≤ spot k ∧ spot k ≤ 7 := by
  unfold spot
  match k with
  | 0 => decide
  | 1 => decide
  | 2 => decide
  | 3 => decide
  | k + 4 => simp
theorem shape_ok {ns : List Int} (hn : ns.length ≤ 63) (a : Int) : ∃ xs, f_law_shape [scriptD ns, .int a] = .ok (shD xs) ∧ Shp xs := by
  obtain ⟨hw, w0, w4⟩ := drawV_ok hn a 4 (by omega)
  generalize drawV ns a 4 = w at hw w0 w4
  have hc : ∀ A B : Sl, compG (.bin .add (.int 2) (.call "_law_drawn" 3 f_law_drawn (.cons (.var 0) (.cons (.bin .add (.bin .add (.var 1) (.int 1)) (.var 3)) (.cons (.idx (.lst (.cons (.int 7) (.cons (.int 4) (.cons (.int 3) (.cons (.int 2) (.nil)))))) (.var 3)) (.nil)))))) (.nm 3) .none [.sh (scriptD ns), .sh (.int a), A, B] (upTo 0 (1 + w).toNat)
      = .ok ((List.range (1 + w).toNat).map fun k => .int (2 + drawV ns (a + 1 + (k : Nat)) (spot k))) := fun A B => by
    unfold upTo
    refine compG_map (fun i : Nat => (PyData.int (0 + (i : Nat)) : D)) _ _ fun k hk => ⟨_, rfl, ?_⟩
    have hk : k < 4 := by
      have := List.mem_range.mp hk
      omega
    have hs := spot_pos k
    obtain ⟨hd, _, _⟩ := drawV_ok hn (a + 1 + (k : Nat)) (spot k) (by omega)
    have hx : atI ([.int 7, .int 4, .int 3, .int 2] : List D) (k : Nat) = some (.int (spot k)) := by
      match k, hk with
      | 0, _ => rfl
      | 1, _ => rfl
      | 2, _ => rfl
      | 3, _ => rfl
    simp -implicitDefEqProofs only [ss_cons, ss_nil, st_ret, st_retN, st_pass, st_expr, st_ife, st_set, st_setV, st_asg, st_loop, st_ext, st_put, st_ownD, st_while, st_own, st_app, st_appV, st_raise, st_try, tryP_ok, tryP_exn, at_nx, at_rt, at_exn, endP_nx, endP_rt, endP_exn, ev_var, ev_int, ev_str, ev_bl, ev_non, ev_gint, ev_gstr, ev_bin, ev_neg, ev_cmp, ev_chain, ev_and, ev_or, ev_not, ev_ite, ev_tup, ev_lst, ev_call, ev_bi, ev_isi, ev_idx, ev_rev, ev_nil, ev_cons, ev_cut, ev_oN, ev_oS, ev_lzip, ev_dget, ev_lrange, ev_sset, ev_meth, mth_count, mth_index, mth_join, mth_split, ev_iL, ev_iT, ev_iS, ev_r1, ev_r2, ev_r3, ev_zip, ev_enum, ev_cN, ev_cS, ev_comp, two_ok, two_exn, one_ok, one_exn, many_ok, many_exn, consR_ok, consR_exn, andP_t, andP_f, orP_t, orP_f, notP_ok, notP_exn, chP_t, chP_f, chQ_ok, iteP_t, iteP_f, cutP_ok, oP_ok, itP_ok, itP2_ok, itP3_ok, cP_ok, listR_ok, retP_ok, pick_t, pick_f, pick_exn, exP_ok, exP_exn, setP_ok, setP_exn, forP_ok, view, shSl, lk, List.map_cons, List.map_nil, List.length_cons, List.length_nil, List.append_nil, List.nil_append, List.cons_append, List.getElem?_cons_zero, List.getElem?_cons_succ, List.set_cons_zero, List.set_cons_succ, List.set_nil, List.replicate_zero, List.replicate_succ, Nat.sub_self, Nat.zero_add, Nat.reduceAdd, Nat.reduceSub, Bop.fn, Cop.fn, Bi.fn, add_ii, add_ll, add_tt, sub_ii, mul_ii, div_ii, mod_ii, lt_ii, le_ii, gt_ii, ge_ii, is_n, is_t, is_i, isnot_n, isnot_t, isnot_i, isi_i, isi_b, isi_n, isi_s, isi_l, isi_t, isi, DW.len_l, DW.len_t, DW.len_c, tuple_l, tuple_t, list_l, list_t, int_i, int_b, neg_i, idx_l, idx_t, idx_c, ofO_some, rev_l, cut_l, cut_t, lof_l, tof_t, sof_l, sof_t, lzipS, zipS, enumS, R.bind_ok, if_true, if_false, ite_true, ite_false, Bool.not_true, Bool.not_false, bind_nm, bind_tp, bind_nil, bind_cons, DW.scal, DW.wipeD, Int.zero_add]
    rw [mkL_ok (by simp)]
    simp -implicitDefEqProofs only [ss_cons, ss_nil, st_ret, st_retN, st_pass, st_expr, st_ife, st_set, st_setV, st_asg, st_loop, st_ext, st_put, st_ownD, st_while, st_own, st_app, st_appV, st_raise, st_try, tryP_ok, tryP_exn, at_nx, at_rt, at_exn, endP_nx, endP_rt, endP_exn, ev_var, ev_int, ev_str, ev_bl, ev_non, ev_gint, ev_gstr, ev_bin, ev_neg, ev_cmp, ev_chain, ev_and, ev_or, ev_not, ev_ite, ev_tup, ev_lst, ev_call, ev_bi, ev_isi, ev_idx, ev_rev, ev_nil, ev_cons, ev_cut, ev_oN, ev_oS, ev_lzip, ev_dget, ev_lrange, ev_sset, ev_meth, mth_count, mth_index, mth_join, mth_split, ev_iL, ev_iT, ev_iS, ev_r1, ev_r2, ev_r3, ev_zip, ev_enum, ev_cN, ev_cS, ev_comp, two_ok, two_exn, one_ok, one_exn, many_ok, many_exn, consR_ok, consR_exn, andP_t, andP_f, orP_t, orP_f, notP_ok, notP_exn, chP_t, chP_f, chQ_ok, iteP_t, iteP_f, cutP_ok, oP_ok, itP_ok, itP2_ok, itP3_ok, cP_ok, listR_ok, retP_ok, pick_t, pick_f, pick_exn, exP_ok, exP_exn, setP_ok, setP_exn, forP_ok, view, shSl, lk, List.map_cons, List.map_nil, List.length_cons, List.length_nil, List.append_nil, List.nil_append, List.cons_append, List.getElem?_cons_zero, List.getElem?_cons_succ, List.set_cons_zero, List.set_cons_succ, List.set_nil, List.replicate_zero, List.replicate_succ, Nat.sub_self, Nat.zero_add, Nat.reduceAdd, Nat.reduceSub, Bop.fn, Cop.fn, Bi.fn, add_ii, add_ll, add_tt, sub_ii, mul_ii, div_ii, mod_ii, lt_ii, le_ii, gt_ii, ge_ii, is_n, is_t, is_i, isnot_n, isnot_t, isnot_i, isi_i, isi_b, isi_n, isi_s, isi_l, isi_t, isi, DW.len_l, DW.len_t, DW.len_c, tuple_l, tuple_t, list_l, list_t, int_i, int_b, neg_i, idx_l, idx_t, idx_c, ofO_some, rev_l, cut_l, cut_t, lof_l, tof_t, sof_l, sof_t, lzipS, zipS, enumS, R.bind_ok, if_true, if_false, ite_true, ite_false, Bool.not_true, Bool.not_false, bind_nm, bind_tp, bind_nil, bind_cons, DW.scal, DW.wipeD, hx, ofO, hd]
  refine ⟨(List.range (1 + w).toNat).map fun k => 2 + drawV ns (a + 1 + (k : Nat)) (spot k), ?_, ⟨?_, ?_, ?_, ?_⟩⟩
  · simp -implicitDefEqProofs only [f_law_shape, run_eq, b_law_shape, ss_cons, ss_nil, st_ret, st_retN, st_pass, st_expr, st_ife, st_set, st_setV, st_asg, st_loop, st_ext, st_put, st_ownD, st_while, st_own, st_app, st_appV, st_raise, st_try, tryP_ok, tryP_exn, at_nx, at_rt, at_exn, endP_nx, endP_rt, endP_exn, ev_var, ev_int, ev_str, ev_bl, ev_non, ev_gint, ev_gstr, ev_bin, ev_neg, ev_cmp, ev_chain, ev_and, ev_or, ev_not, ev_ite, ev_tup, ev_lst, ev_call, ev_bi, ev_isi, ev_idx, ev_rev, ev_nil, ev_cons, ev_cut, ev_oN, ev_oS, ev_lzip, ev_dget, ev_lrange, ev_sset, ev_meth, mth_count, mth_index, mth_join, mth_split, ev_iL, ev_iT, ev_iS, ev_r1, ev_r2, ev_r3, ev_zip, ev_enum, ev_cN, ev_cS, ev_comp, two_ok, two_exn, one_ok, one_exn, many_ok, many_exn, consR_ok, consR_exn, andP_t, andP_f, orP_t, orP_f, notP_ok, notP_exn, chP_t, chP_f, chQ_ok, iteP_t, iteP_f, cutP_ok, oP_ok, itP_ok, itP2_ok, itP3_ok, cP_ok, listR_ok, retP_ok, pick_t, pick_f, pick_exn, exP_ok, exP_exn, setP_ok, setP_exn, forP_ok, view, shSl, lk, List.map_cons, List.map_nil, List.length_cons, List.length_nil, List.append_nil, List.nil_append, List.cons_append, List.getElem?_cons_zero, List.getElem?_cons_succ, List.set_cons_zero, List.set_cons_succ, List.set_nil, List.replicate_zero, List.replicate_succ, Nat.sub_self, Nat.zero_add, Nat.reduceAdd, Nat.reduceSub, Bop.fn, Cop.fn, Bi.fn, add_ii, add_ll, add_tt, sub_ii, mul_ii, div_ii, mod_ii, lt_ii, le_ii, gt_ii, ge_ii, is_n, is_t, is_i, isnot_n, isnot_t, isnot_i, isi_i, isi_b, isi_n, isi_s, isi_l, isi_t, isi, DW.len_l, DW.len_t, DW.len_c, tuple_l, tuple_t, list_l, list_t, int_i, int_b, neg_i, idx_l, idx_t, idx_c, ofO_some, rev_l, cut_l, cut_t, lof_l, tof_t, sof_l, sof_t, lzipS, zipS, enumS, R.bind_ok, if_true, if_false, ite_true, ite_false, Bool.not_true, Bool.not_false, bind_nm, bind_tp, bind_nil, bind_cons, DW.scal, DW.wipeD, hw, range1_ok (show -1000000 ≤ 1 + w by omega) (show 1 + w ≤ 1000000 by omega)]
    rw [compP_ok (by rw [upTo_length]; omega), hc]
    simp -implicitDefEqProofs only [ss_cons, ss_nil, st_ret, st_retN, st_pass, st_expr, st_ife, st_set, st_setV, st_asg, st_loop, st_ext, st_put, st_ownD, st_while, st_own, st_app, st_appV, st_raise, st_try, tryP_ok, tryP_exn, at_nx, at_rt, at_exn, endP_nx, endP_rt, endP_exn, ev_var, ev_int, ev_str, ev_bl, ev_non, ev_gint, ev_gstr, ev_bin, ev_neg, ev_cmp, ev_chain, ev_and, ev_or, ev_not, ev_ite, ev_tup, ev_lst, ev_call, ev_bi, ev_isi, ev_idx, ev_rev, ev_nil, ev_cons, ev_cut, ev_oN, ev_oS, ev_lzip, ev_dget, ev_lrange, ev_sset, ev_meth, mth_count, mth_index, mth_join, mth_split, ev_iL, ev_iT, ev_iS, ev_r1, ev_r2, ev_r3, ev_zip, ev_enum, ev_cN, ev_cS, ev_comp, two_ok, two_exn, one_ok, one_exn, many_ok, many_exn, consR_ok, consR_exn, andP_t, andP_f, orP_t, orP_f, notP_ok, notP_exn, chP_t, chP_f, chQ_ok, iteP_t, iteP_f, cutP_ok, oP_ok, itP_ok, itP2_ok, itP3_ok, cP_ok, listR_ok, retP_ok, pick_t, pick_f, pick_exn, exP_ok, exP_exn, setP_ok, setP_exn, forP_ok, view, shSl, lk, List.map_cons, List.map_nil, List.length_cons, List.length_nil, List.append_nil, List.nil_append, List.cons_append, List.getElem?_cons_zero, List.getElem?_cons_succ, List.set_cons_zero, List.set_cons_succ, List.set_nil, List.replicate_zero, List.replicate_succ, Nat.sub_self, Nat.zero_add, Nat.reduceAdd, Nat.reduceSub, Bop.fn, Cop.fn, Bi.fn, add_ii, add_ll, add_tt, sub_ii, mul_ii, div_ii, mod_ii, lt_ii, le_ii, gt_ii, ge_ii, is_n, is_t, is_i, isnot_n, isnot_t, isnot_i, isi_i, isi_b, isi_n, isi_s, isi_l, isi_t, isi, DW.len_l, DW.len_t, DW.len_c, tuple_l, tuple_t, list_l, list_t, int_i, int_b, neg_i, idx_l, idx_t, idx_c, ofO_some, rev_l, cut_l, cut_t, lof_l, tof_t, sof_l, sof_t, lzipS, zipS, enumS, R.bind_ok, if_true, if_false, ite_true, ite_false, Bool.not_true, Bool.not_false, bind_nm, bind_tp, bind_nil, bind_cons, DW.scal, DW.wipeD, shD, nms, List.map_map, Function.comp_def]
  · rw [List.length_map, List.length_range]; omega
  · rw [List.length_map, List.length_range]; omega
  · intro x hx
    obtain ⟨k, _, rfl⟩ := List.mem_map.mp hx
    have hs := spot_pos k
    have := drawV_ok hn (a + 1 + (k : Nat)) (spot k) (by omega)
    omega
  · intro x hx
    obtain ⟨k, _, rfl⟩ := List.mem_map.mp hx
    have hs := spot_pos k
    have := drawV_ok hn (a + 1 + (k : Nat)) (spot k) (by omega)
    omega
/-! ### alike or not -/
theorem sh_int (i : Int) : SeqAt.shaped (.int i : D) = true := rfl
theorem lay_nms : ∀ xs : List Int, PyData.canLayAll0 (nms xs) = true
  | [] => rfl
  | x :: xs => by rw [nms_cons, PyData.canLayAll0, lay_nms xs]; rfl
theorem dep_nms : ∀ xs : List Int, PyData.depthAll (nms xs) = 0
  | [] => rfl
  | x :: xs => by rw [nms_cons, PyData.depthAll, dep_nms xs]; rfl
theorem sh_nms (xs : List Int) : SeqAt.shaped (.list (nms xs) : D) = true := by
  unfold SeqAt.shaped
  rw [PyData.canLay0, lay_nms, PyData.depth, dep_nms]; rfl
theorem eqv_nms : ∀ xs ys : List Int, PyData.eqvAll (nms xs) (nms ys) = decide (xs = ys)
  | [], [] => rfl
  | [], _ :: _ => rfl
  | _ :: _, [] => rfl
  | x :: xs, y :: ys => by
    rw [nms_cons, nms_cons, PyData.eqvAll, eqv_nms xs ys, PyData.eqv]
    by_cases h : x = y
    · subst h; simp
    · simp [h]
theorem ne_int (a b : Int) : dNe (.int a) (.int b) = .ok (.bool (!decide (a = b))) := by
  unfold dNe
  rw [if_pos ⟨rfl, rfl⟩, PyData.eqv]
  rfl
theorem eq_int (a b : Int) : dEq (.int a) (.int b) = .ok (.bool (decide (a = b))) := by
  show (if SeqAt.shaped (.int a : D) = true ∧ SeqAt.shaped (.int b : D) = true then R.ok (PyData.bool (PyData.eqv (.int a) (.int b))) else .bad) = _
  rw [if_pos ⟨rfl, rfl⟩, PyData.eqv]
  rfl
theorem ne_nms (xs ys : List Int) : dNe (.list (nms xs)) (.list (nms ys)) = .ok (.bool (!decide (xs = ys))) := by
  unfold dNe
  rw [if_pos ⟨sh_nms _, sh_nms _⟩, PyData.eqv, eqv_nms]
theorem eq_nms (xs ys : List Int) : dEq (.list (nms xs)) (.list (nms ys)) = .ok (.bool (decide (xs = ys))) := by
  show (if SeqAt.shaped (.list (nms xs) : D) = true ∧ SeqAt.shaped (.list (nms ys) : D) = true then R.ok (PyData.bool (PyData.eqv (.list (nms xs)) (.list (nms ys)))) else .bad) = _
  rw [if_pos ⟨sh_nms _, sh_nms _⟩, PyData.eqv, eqv_nms]
/-- a loop that keeps something -/
theorem for_keep {t : Tg} {b : Sls → R Fl} (I : Sls → Prop) : ∀ (ds : List D), (∀ d ∈ ds, ∀ δ, I δ → ∃ δ1 δ2, bindT t d δ = .ok δ1 ∧ b δ1 = .ok (.nx δ2) ∧ I δ2) → ∀ δ, I δ → ∃ δ', forD t b ds δ = .ok (.nx δ') ∧ I δ'
  | [], _, δ, h => ⟨δ, rfl, h⟩
  | d :: ds, h, δ, hI => by
    obtain ⟨δ1, δ2, h1, h2, h3⟩ := h d List.mem_cons_self δ hI
    obtain ⟨δ', h4, h5⟩ := for_keep I ds (fun e he => h e (List.mem_cons_of_mem _ he)) δ2 h3
    exact ⟨δ', by rw [for_cons h1, h2, at_nx, h4], h5⟩
theorem nms_getD (xs : List Int) (i : Nat) : (nms xs)[i]? = xs[i]?.map .int := List.getElem?_map ..
theorem at_nms {xs : List Int} {i : Int} (h0 : 0 ≤ i) (h1 : i < xs.length) : atI (nms xs) i = some (.int (xs.getD i.toNat 0)) := by
  rw [atI_nat h0 (by rw [nms_len]; exact h1), nms_getD]
  have : i.toNat < xs.length := by omega
  rw [List.getElem?_eq_getElem this, List.getD_eq_getElem?_getD, List.getElem?_eq_getElem this]; rfl
end DW
/-! Boxes: the literals, and what they are worth. -/
namespace DW
open PySem L2
def n_box_for : List Str := ["shape", "now", "due", "mine", "yours", "wheel"]
def p_box_for : List Str := ["shape", "now", "due"]
def b_box_for_l1 : Ss := .cons (.ife (.cmp .ne (.idx (.var 3) (.var 5)) (.idx (.var 4) (.var 5))) (.cons (.ret (.tup (.cons (.var 5) (.cons (.idx (.var 4) (.var 5)) (.nil))))) (.nil)) (.nil)) (.nil)
def b_box_for : Ss := .cons (.set 3 (.call "hands" 2 f_hands (.cons (.var 0) (.cons (.var 1) (.nil))))) (.cons (.set 4 (.call "hands" 2 f_hands (.cons (.var 0) (.cons (.var 2) (.nil))))) (.cons (.ife (.cmp .ne (.idx (.var 3) (.neg (.int 1))) (.idx (.var 4) (.neg (.int 1)))) (.cons (.ret (.non)) (.nil)) (.nil)) (.cons (.loop (.nm 5) (.list (.rev (.lrange (.r1 (.bi .len (.cons (.var 0) (.nil))))))) (b_box_for_l1)) (.cons (.ret (.tup (.cons (.int 0) (.cons (.idx (.var 4) (.int 0)) (.nil))))) (.nil)))))
def f_box_for : List D → R D := runD 6 b_box_for

def n_box_at : List Str := ["shape", "now", "due"]
def p_box_at : List Str := ["shape", "now", "due"]
def b_box_at : Ss := .cons (.expr (.call "need_shape" 1 f_need_shape (.cons (.var 0) (.nil)))) (.cons (.expr (.call "need_time" 1 f_need_time (.cons (.var 1) (.nil)))) (.cons (.expr (.call "need_time" 1 f_need_time (.cons (.var 2) (.nil)))) (.cons (.ife (.cmp .lt (.var 2) (.var 1)) (.cons (.raise "NoTime") (.nil)) (.nil)) (.cons (.ret (.call "box_for" 3 f_box_for (.cons (.var 0) (.cons (.var 1) (.cons (.var 2) (.nil)))))) (.nil)))))
def f_box_at : List D → R D := runD 3 b_box_at

def n_box_time : List Str := ["shape", "now", "box", "wheel", "place", "places", "first"]
def p_box_time : List Str := ["shape", "now", "box"]
def b_box_time : Ss := .cons (.asg (.tp (.cons (.nm 3) (.cons (.nm 4) (.nil)))) (.var 2)) (.cons (.set 5 (.call "hands" 2 f_hands (.cons (.var 0) (.cons (.var 1) (.nil))))) (.cons (.set 6 (.call "time_of" 2 f_time_of (.cons (.var 0) (.cons (.bin .add (.bin .add (.bin .mul (.lst (.cons (.int 0) (.nil))) (.var 3)) (.lst (.cons (.var 4) (.nil)))) (.cut (.var 5) (.some (.bin .add (.var 3) (.int 1))) .none)) (.nil))))) (.cons (.ret (.tup (.cons (.var 6) (.cons (.bin .sub (.bin .add (.var 6) (.idx (.call "rounds" 1 f_rounds (.cons (.var 0) (.nil))) (.var 3))) (.int 1)) (.nil))))) (.nil))))
def f_box_time : List D → R D := runD 7 b_box_time

def n_box_span : List Str := ["shape", "now", "wheel", "place"]
def p_box_span : List Str := ["shape", "now", "wheel", "place"]
def b_box_span : Ss := .cons (.expr (.call "need_shape" 1 f_need_shape (.cons (.var 0) (.nil)))) (.cons (.expr (.call "need_time" 1 f_need_time (.cons (.var 1) (.nil)))) (.cons (.ife (.or (.not (.call "is_number" 3 f_is_number (.cons (.var 2) (.cons (.int 0) (.cons (.bin .sub (.bi .len (.cons (.var 0) (.nil))) (.int 1)) (.nil)))))) (.not (.call "is_number" 3 f_is_number (.cons (.var 3) (.cons (.int 0) (.cons (.bin .sub (.idx (.var 0) (.var 2)) (.int 1)) (.nil))))))) (.cons (.raise "NoShape") (.nil)) (.nil)) (.cons (.ret (.call "box_time" 3 f_box_time (.cons (.var 0) (.cons (.var 1) (.cons (.tup (.cons (.var 2) (.cons (.var 3) (.nil)))) (.nil)))))) (.nil))))
def f_box_span : List D → R D := runD 4 b_box_span

/-! ### plain -/
/-- the nearest wheel on which both lie together, the box of d there -/
def bx (n d : Int) : List Int → Option (Nat × Int)
  | [] => none
  | x :: xs => if n / x = d / x then some (0, d % x) else (bx (n / x) (d / x) xs).map fun q => (q.1 + 1, q.2)
def lastDiff : List Int → List Int → Option (Nat × Int)
  | m :: ms, y :: ys => match lastDiff ms ys with
    | some q => some (q.1 + 1, q.2)
    | none => if m ≠ y then some (0, y) else none
  | _, _ => none
theorem emod_ne {n d x : Int} (h : n / x = d / x) (hn : n ≠ d) : n % x ≠ d % x := fun e => hn (by
  have a := Int.mul_ediv_add_emod n x
  have b := Int.mul_ediv_add_emod d x
  rw [h, e] at a
  omega)
theorem lastDiff_self : ∀ (xs : List Int) (n : Int), lastDiff (hand n xs) (hand n xs) = none
  | [], n => rfl
  | x :: xs, n => by rw [hand, lastDiff, lastDiff_self xs]; simp
theorem lastDiff_bx : ∀ (xs : List Int) (n d : Int), left n xs = left d xs → n ≠ d → lastDiff (hand n xs) (hand d xs) = bx n d xs ∧ (bx n d xs).isSome = true
  | [], n, d, h, hn => absurd h hn
  | x :: xs, n, d, h, hn => by
    rw [left, left] at h
    rw [hand, hand, lastDiff, bx]
    by_cases e : n / x = d / x
    · rw [if_pos e, e, lastDiff_self]
      show (if n % x ≠ d % x then some (0, d % x) else none) = _ ∧ _
      rw [if_pos (emod_ne e hn)]
      exact ⟨rfl, rfl⟩
    · obtain ⟨a, b⟩ := lastDiff_bx xs (n / x) (d / x) h e
      rw [if_neg e, a]
      cases q : bx (n / x) (d / x) xs with
      | none => rw [q] at b; cases b
      | some w => exact ⟨rfl, rfl⟩
theorem bx_left : ∀ (xs : List Int) (n d : Int), (bx n d xs).isSome = true → left n xs = left d xs
  | [], n, d, h => by cases h
  | x :: xs, n, d, h => by
    rw [bx] at h
    rw [left, left]
    by_cases e : n / x = d / x
    · rw [e]
    · rw [if_neg e, Option.isSome_map] at h
      exact bx_left xs _ _ h
theorem bx_self (x : Int) (xs : List Int) (n : Int) : bx n n (x :: xs) = some (0, n % x) := by rw [bx, if_pos rfl]
theorem lastDiff_snoc : ∀ (ms ys : List Int) (m y : Int), ms.length = ys.length → lastDiff (ms ++ [m]) (ys ++ [y]) = if m ≠ y then some (ms.length, y) else lastDiff ms ys
  | [], [], m, y, _ => by
    show (if m ≠ y then some (0, y) else none) = _
    rfl
  | [], _ :: _, _, _, h => by cases h
  | _ :: _, [], _, _, h => by cases h
  | a :: ms, b :: ys, m, y, h => by
    rw [List.cons_append, List.cons_append, lastDiff, lastDiff_snoc ms ys m y (Nat.succ.inj h)]
    by_cases e : m ≠ y
    · rw [if_pos e, if_pos e]; rfl
    · rw [if_neg e, if_neg e]; rfl
/-! ### the walk of box_for -/
theorem upTo_succ (k : Nat) : (DW.upTo 0 (k + 1)).reverse = .int (k : Nat) :: (DW.upTo 0 k).reverse := by
  unfold DW.upTo
  rw [List.range_succ, List.map_append, List.reverse_append, List.map_cons, List.map_nil, Int.zero_add]; rfl
theorem scan_loop (S A B : Sl) (ms ys : List Int) (hl : ms.length = ys.length) : ∀ (k : Nat) (W : Sl), k ≤ ms.length →
    (∃ j v, lastDiff (ms.take k) (ys.take k) = some (j, v) ∧ forD (.nm 5) (semSs b_box_for_l1) ((DW.upTo 0 k).reverse) [S, A, B, .sh (.list (nms ms)), .sh (.list (nms ys)), W] = .ok (.rt (.tuple [.int (j : Nat), .int v]))) ∨
    (lastDiff (ms.take k) (ys.take k) = none ∧ ∃ W', forD (.nm 5) (semSs b_box_for_l1) ((DW.upTo 0 k).reverse) [S, A, B, .sh (.list (nms ms)), .sh (.list (nms ys)), W] = .ok (.nx [S, A, B, .sh (.list (nms ms)), .sh (.list (nms ys)), W']))
  | 0, W, _ => .inr ⟨rfl, W, rfl⟩
  | k + 1, W, h => by
    have h1 : k < ms.length := h
    have h2 : k < ys.length := by omega
    have e1 : ms.take (k + 1) = ms.take k ++ [ms[k]] := by rw [List.take_add_one, List.getElem?_eq_getElem h1]; rfl
    have e2 : ys.take (k + 1) = ys.take k ++ [ys[k]] := by rw [List.take_add_one, List.getElem?_eq_getElem h2]; rfl
    have a1 : atI (nms ms) ((k : Nat) : Int) = some (.int ms[k]) := by
      rw [at_nms (by omega) (by omega), Int.toNat_natCast, List.getD_eq_getElem?_getD, List.getElem?_eq_getElem h1]; rfl
    have a2 : atI (nms ys) ((k : Nat) : Int) = some (.int ys[k]) := by
      rw [at_nms (by omega) (by omega), Int.toNat_natCast, List.getD_eq_getElem?_getD, List.getElem?_eq_getElem h2]; rfl
    have le : (ms.take k).length = k := by rw [List.length_take]; omega
    rw [e1, e2, lastDiff_snoc _ _ _ _ (by rw [List.length_take, List.length_take]; omega), le, upTo_succ, for_cons (δ1 := [S, A, B, .sh (.list (nms ms)), .sh (.list (nms ys)), .sh (.int (k : Nat))]) rfl]
    by_cases hne : ms[k] = ys[k]
    · rw [if_neg (fun z => z hne)]
      have eb : semSs b_box_for_l1 [S, A, B, .sh (.list (nms ms)), .sh (.list (nms ys)), .sh (.int (k : Nat))] = .ok (.nx [S, A, B, .sh (.list (nms ms)), .sh (.list (nms ys)), .sh (.int (k : Nat))]) := by
        simp -implicitDefEqProofs only [b_box_for_l1, ss_cons, ss_nil, st_ret, st_retN, st_pass, st_expr, st_ife, st_set, st_setV, st_asg, st_loop, st_ext, st_put, st_ownD, st_while, st_own, st_app, st_appV, st_raise, st_try, tryP_ok, tryP_exn, at_nx, at_rt, at_exn, endP_nx, endP_rt, endP_exn, ev_var, ev_int, ev_str, ev_bl, ev_non, ev_gint, ev_gstr, ev_bin, ev_neg, ev_cmp, ev_chain, ev_and, ev_or, ev_not, ev_ite, ev_tup, ev_lst, ev_call, ev_bi, ev_isi, ev_idx, ev_rev, ev_nil, ev_cons, ev_cut, ev_oN, ev_oS, ev_lzip, ev_dget, ev_lrange, ev_sset, ev_meth, mth_count, mth_index, mth_join, mth_split, ev_iL, ev_iT, ev_iS, ev_r1, ev_r2, ev_r3, ev_zip, ev_enum, ev_cN, ev_cS, ev_comp, two_ok, two_exn, one_ok, one_exn, many_ok, many_exn, consR_ok, consR_exn, andP_t, andP_f, orP_t, orP_f, notP_ok, notP_exn, chP_t, chP_f, chQ_ok, iteP_t, iteP_f, cutP_ok, oP_ok, itP_ok, itP2_ok, itP3_ok, cP_ok, listR_ok, retP_ok, pick_t, pick_f, pick_exn, exP_ok, exP_exn, setP_ok, setP_exn, forP_ok, view, shSl, lk, List.map_cons, List.map_nil, List.length_cons, List.length_nil, List.append_nil, List.nil_append, List.cons_append, List.getElem?_cons_zero, List.getElem?_cons_succ, List.set_cons_zero, List.set_cons_succ, List.set_nil, List.replicate_zero, List.replicate_succ, Nat.sub_self, Nat.zero_add, Nat.reduceAdd, Nat.reduceSub, Bop.fn, Cop.fn, Bi.fn, add_ii, add_ll, add_tt, sub_ii, mul_ii, div_ii, mod_ii, lt_ii, le_ii, gt_ii, ge_ii, is_n, is_t, is_i, isnot_n, isnot_t, isnot_i, isi_i, isi_b, isi_n, isi_s, isi_l, isi_t, isi, DW.len_l, DW.len_t, DW.len_c, tuple_l, tuple_t, list_l, list_t, int_i, int_b, neg_i, idx_l, idx_t, idx_c, ofO_some, rev_l, cut_l, cut_t, lof_l, tof_t, sof_l, sof_t, lzipS, zipS, enumS, R.bind_ok, if_true, if_false, ite_true, ite_false, Bool.not_true, Bool.not_false, bind_nm, bind_tp, bind_nil, bind_cons, DW.scal, DW.wipeD, a1, a2, ne_int, hne, decide_true]
      rw [eb, at_nx]
      exact scan_loop S A B ms ys hl k _ (by omega)
    · rw [if_pos hne]
      refine .inl ⟨k, ys[k], rfl, ?_⟩
      simp -implicitDefEqProofs only [b_box_for_l1, ss_cons, ss_nil, st_ret, st_retN, st_pass, st_expr, st_ife, st_set, st_setV, st_asg, st_loop, st_ext, st_put, st_ownD, st_while, st_own, st_app, st_appV, st_raise, st_try, tryP_ok, tryP_exn, at_nx, at_rt, at_exn, endP_nx, endP_rt, endP_exn, ev_var, ev_int, ev_str, ev_bl, ev_non, ev_gint, ev_gstr, ev_bin, ev_neg, ev_cmp, ev_chain, ev_and, ev_or, ev_not, ev_ite, ev_tup, ev_lst, ev_call, ev_bi, ev_isi, ev_idx, ev_rev, ev_nil, ev_cons, ev_cut, ev_oN, ev_oS, ev_lzip, ev_dget, ev_lrange, ev_sset, ev_meth, mth_count, mth_index, mth_join, mth_split, ev_iL, ev_iT, ev_iS, ev_r1, ev_r2, ev_r3, ev_zip, ev_enum, ev_cN, ev_cS, ev_comp, two_ok, two_exn, one_ok, one_exn, many_ok, many_exn, consR_ok, consR_exn, andP_t, andP_f, orP_t, orP_f, notP_ok, notP_exn, chP_t, chP_f, chQ_ok, iteP_t, iteP_f, cutP_ok, oP_ok, itP_ok, itP2_ok, itP3_ok, cP_ok, listR_ok, retP_ok, pick_t, pick_f, pick_exn, exP_ok, exP_exn, setP_ok, setP_exn, forP_ok, view, shSl, lk, List.map_cons, List.map_nil, List.length_cons, List.length_nil, List.append_nil, List.nil_append, List.cons_append, List.getElem?_cons_zero, List.getElem?_cons_succ, List.set_cons_zero, List.set_cons_succ, List.set_nil, List.replicate_zero, List.replicate_succ, Nat.sub_self, Nat.zero_add, Nat.reduceAdd, Nat.reduceSub, Bop.fn, Cop.fn, Bi.fn, add_ii, add_ll, add_tt, sub_ii, mul_ii, div_ii, mod_ii, lt_ii, le_ii, gt_ii, ge_ii, is_n, is_t, is_i, isnot_n, isnot_t, isnot_i, isi_i, isi_b, isi_n, isi_s, isi_l, isi_t, isi, DW.len_l, DW.len_t, DW.len_c, tuple_l, tuple_t, list_l, list_t, int_i, int_b, neg_i, idx_l, idx_t, idx_c, ofO_some, rev_l, cut_l, cut_t, lof_l, tof_t, sof_l, sof_t, lzipS, zipS, enumS, R.bind_ok, if_true, if_false, ite_true, ite_false, Bool.not_true, Bool.not_false, bind_nm, bind_tp, bind_nil, bind_cons, DW.scal, DW.wipeD, a1, a2, ne_int, hne, decide_false]
      rw [mkT_ok (by simp)]
      simp -implicitDefEqProofs only [ss_cons, ss_nil, st_ret, st_retN, st_pass, st_expr, st_ife, st_set, st_setV, st_asg, st_loop, st_ext, st_put, st_ownD, st_while, st_own, st_app, st_appV, st_raise, st_try, tryP_ok, tryP_exn, at_nx, at_rt, at_exn, endP_nx, endP_rt, endP_exn, ev_var, ev_int, ev_str, ev_bl, ev_non, ev_gint, ev_gstr, ev_bin, ev_neg, ev_cmp, ev_chain, ev_and, ev_or, ev_not, ev_ite, ev_tup, ev_lst, ev_call, ev_bi, ev_isi, ev_idx, ev_rev, ev_nil, ev_cons, ev_cut, ev_oN, ev_oS, ev_lzip, ev_dget, ev_lrange, ev_sset, ev_meth, mth_count, mth_index, mth_join, mth_split, ev_iL, ev_iT, ev_iS, ev_r1, ev_r2, ev_r3, ev_zip, ev_enum, ev_cN, ev_cS, ev_comp, two_ok, two_exn, one_ok, one_exn, many_ok, many_exn, consR_ok, consR_exn, andP_t, andP_f, orP_t, orP_f, notP_ok, notP_exn, chP_t, chP_f, chQ_ok, iteP_t, iteP_f, cutP_ok, oP_ok, itP_ok, itP2_ok, itP3_ok, cP_ok, listR_ok, retP_ok, pick_t, pick_f, pick_exn, exP_ok, exP_exn, setP_ok, setP_exn, forP_ok, view, shSl, lk, List.map_cons, List.map_nil, List.length_cons, List.length_nil, List.append_nil, List.nil_append, List.cons_append, List.getElem?_cons_zero, List.getElem?_cons_succ, List.set_cons_zero, List.set_cons_succ, List.set_nil, List.replicate_zero, List.replicate_succ, Nat.sub_self, Nat.zero_add, Nat.reduceAdd, Nat.reduceSub, Bop.fn, Cop.fn, Bi.fn, add_ii, add_ll, add_tt, sub_ii, mul_ii, div_ii, mod_ii, lt_ii, le_ii, gt_ii, ge_ii, is_n, is_t, is_i, isnot_n, isnot_t, isnot_i, isi_i, isi_b, isi_n, isi_s, isi_l, isi_t, isi, DW.len_l, DW.len_t, DW.len_c, tuple_l, tuple_t, list_l, list_t, int_i, int_b, neg_i, idx_l, idx_t, idx_c, ofO_some, rev_l, cut_l, cut_t, lof_l, tof_t, sof_l, sof_t, lzipS, zipS, enumS, R.bind_ok, if_true, if_false, ite_true, ite_false, Bool.not_true, Bool.not_false, bind_nm, bind_tp, bind_nil, bind_cons, DW.scal, DW.wipeD]
/-- what box_for tells -/
def boxD : Option (Nat × Int) → D
  | none => .none
  | some q => .tuple [.int (q.1 : Nat), .int q.2]
theorem take_hnds (xs : List Int) (t : Int) : (hnds t xs).take xs.length = hand t xs := by
  rw [hnds_eq, List.take_left' (hand_len xs t)]
theorem last_hnds (xs : List Int) (t : Int) : atI (nms (hnds t xs)) (-1) = some (.int (left t xs)) := by
  rw [hnds_eq]
  have : nms (hand t xs ++ [left t xs]) = nms (hand t xs) ++ [.int (left t xs)] := by simp [nms]
  rw [this, DW.atI_last]
theorem box_for_ok {xs : List Int} (s : Shp xs) {n d : Int} (n0 : 0 ≤ n) (n1 : n ≤ 9999) (d0 : 0 ≤ d) (d1 : d ≤ 9999) : f_box_for [shD xs, .int n, .int d] = .ok (boxD (bx n d xs)) := by
  have h4 := s.l4
  have h1 := s.l1
  have le : dLen [shD xs] = .ok (.int (xs.length : Nat)) := by rw [shD, dLen, nms_len]
  have er : range1 (.int (xs.length : Nat)) = .ok (DW.upTo 0 xs.length) := by
    have h := range1_ok (show -1000000 ≤ (xs.length : Int) by omega) (show (xs.length : Int) ≤ 1000000 by omega)
    rw [Int.toNat_natCast] at h
    exact h
  simp -implicitDefEqProofs only [f_box_for, run_eq, b_box_for, ss_cons, ss_nil, st_ret, st_retN, st_pass, st_expr, st_ife, st_set, st_setV, st_asg, st_loop, st_ext, st_put, st_ownD, st_while, st_own, st_app, st_appV, st_raise, st_try, tryP_ok, tryP_exn, at_nx, at_rt, at_exn, endP_nx, endP_rt, endP_exn, ev_var, ev_int, ev_str, ev_bl, ev_non, ev_gint, ev_gstr, ev_bin, ev_neg, ev_cmp, ev_chain, ev_and, ev_or, ev_not, ev_ite, ev_tup, ev_lst, ev_call, ev_bi, ev_isi, ev_idx, ev_rev, ev_nil, ev_cons, ev_cut, ev_oN, ev_oS, ev_lzip, ev_dget, ev_lrange, ev_sset, ev_meth, mth_count, mth_index, mth_join, mth_split, ev_iL, ev_iT, ev_iS, ev_r1, ev_r2, ev_r3, ev_zip, ev_enum, ev_cN, ev_cS, ev_comp, two_ok, two_exn, one_ok, one_exn, many_ok, many_exn, consR_ok, consR_exn, andP_t, andP_f, orP_t, orP_f, notP_ok, notP_exn, chP_t, chP_f, chQ_ok, iteP_t, iteP_f, cutP_ok, oP_ok, itP_ok, itP2_ok, itP3_ok, cP_ok, listR_ok, retP_ok, pick_t, pick_f, pick_exn, exP_ok, exP_exn, setP_ok, setP_exn, forP_ok, view, shSl, lk, List.map_cons, List.map_nil, List.length_cons, List.length_nil, List.append_nil, List.nil_append, List.cons_append, List.getElem?_cons_zero, List.getElem?_cons_succ, List.set_cons_zero, List.set_cons_succ, List.set_nil, List.replicate_zero, List.replicate_succ, Nat.sub_self, Nat.zero_add, Nat.reduceAdd, Nat.reduceSub, Bop.fn, Cop.fn, Bi.fn, add_ii, add_ll, add_tt, sub_ii, mul_ii, div_ii, mod_ii, lt_ii, le_ii, gt_ii, ge_ii, is_n, is_t, is_i, isnot_n, isnot_t, isnot_i, isi_i, isi_b, isi_n, isi_s, isi_l, isi_t, isi, DW.len_l, DW.len_t, DW.len_c, tuple_l, tuple_t, list_l, list_t, int_i, int_b, neg_i, idx_l, idx_t, idx_c, ofO_some, rev_l, cut_l, cut_t, lof_l, tof_t, sof_l, sof_t, lzipS, zipS, enumS, R.bind_ok, if_true, if_false, ite_true, ite_false, Bool.not_true, Bool.not_false, bind_nm, bind_tp, bind_nil, bind_cons, DW.scal, DW.wipeD, hands_ok s n0 n1, hands_ok s d0 d1, Int.reduceNeg, last_hnds, ne_int]
  by_cases e : left n xs = left d xs
  · rw [decide_eq_true e]
    have elr : lr (.ok (DW.upTo 0 xs.length)) = .ok (.list (DW.upTo 0 xs.length)) := if_pos (by rw [upTo_length]; omega)
    simp -implicitDefEqProofs only [ss_cons, ss_nil, st_ret, st_retN, st_pass, st_expr, st_ife, st_set, st_setV, st_asg, st_loop, st_ext, st_put, st_ownD, st_while, st_own, st_app, st_appV, st_raise, st_try, tryP_ok, tryP_exn, at_nx, at_rt, at_exn, endP_nx, endP_rt, endP_exn, ev_var, ev_int, ev_str, ev_bl, ev_non, ev_gint, ev_gstr, ev_bin, ev_neg, ev_cmp, ev_chain, ev_and, ev_or, ev_not, ev_ite, ev_tup, ev_lst, ev_call, ev_bi, ev_isi, ev_idx, ev_rev, ev_nil, ev_cons, ev_cut, ev_oN, ev_oS, ev_lzip, ev_dget, ev_lrange, ev_sset, ev_meth, mth_count, mth_index, mth_join, mth_split, ev_iL, ev_iT, ev_iS, ev_r1, ev_r2, ev_r3, ev_zip, ev_enum, ev_cN, ev_cS, ev_comp, two_ok, two_exn, one_ok, one_exn, many_ok, many_exn, consR_ok, consR_exn, andP_t, andP_f, orP_t, orP_f, notP_ok, notP_exn, chP_t, chP_f, chQ_ok, iteP_t, iteP_f, cutP_ok, oP_ok, itP_ok, itP2_ok, itP3_ok, cP_ok, listR_ok, retP_ok, pick_t, pick_f, pick_exn, exP_ok, exP_exn, setP_ok, setP_exn, forP_ok, view, shSl, lk, List.map_cons, List.map_nil, List.length_cons, List.length_nil, List.append_nil, List.nil_append, List.cons_append, List.getElem?_cons_zero, List.getElem?_cons_succ, List.set_cons_zero, List.set_cons_succ, List.set_nil, List.replicate_zero, List.replicate_succ, Nat.sub_self, Nat.zero_add, Nat.reduceAdd, Nat.reduceSub, Bop.fn, Cop.fn, Bi.fn, add_ii, add_ll, add_tt, sub_ii, mul_ii, div_ii, mod_ii, lt_ii, le_ii, gt_ii, ge_ii, is_n, is_t, is_i, isnot_n, isnot_t, isnot_i, isi_i, isi_b, isi_n, isi_s, isi_l, isi_t, isi, DW.len_l, DW.len_t, DW.len_c, tuple_l, tuple_t, list_l, list_t, int_i, int_b, neg_i, idx_l, idx_t, idx_c, ofO_some, rev_l, cut_l, cut_t, lof_l, tof_t, sof_l, sof_t, lzipS, zipS, enumS, R.bind_ok, if_true, if_false, ite_true, ite_false, Bool.not_true, Bool.not_false, bind_nm, bind_tp, bind_nil, bind_cons, DW.scal, DW.wipeD, ev_lrange, le, er, elr]
    rcases scan_loop (.sh (shD xs)) (.sh (.int n)) (.sh (.int d)) (hnds n xs) (hnds d xs) (by rw [hnds_len, hnds_len]) xs.length .un (by rw [hnds_len]; omega) with ⟨j, v, q1, q2⟩ | ⟨q1, W', q2⟩
    · rw [q2]
      rw [take_hnds, take_hnds] at q1
      have hne : n ≠ d := by
        rintro rfl
        rw [lastDiff_self] at q1; cases q1
      rw [(lastDiff_bx xs n d e hne).1] at q1
      rw [q1]
      simp -implicitDefEqProofs only [ss_cons, ss_nil, st_ret, st_retN, st_pass, st_expr, st_ife, st_set, st_setV, st_asg, st_loop, st_ext, st_put, st_ownD, st_while, st_own, st_app, st_appV, st_raise, st_try, tryP_ok, tryP_exn, at_nx, at_rt, at_exn, endP_nx, endP_rt, endP_exn, ev_var, ev_int, ev_str, ev_bl, ev_non, ev_gint, ev_gstr, ev_bin, ev_neg, ev_cmp, ev_chain, ev_and, ev_or, ev_not, ev_ite, ev_tup, ev_lst, ev_call, ev_bi, ev_isi, ev_idx, ev_rev, ev_nil, ev_cons, ev_cut, ev_oN, ev_oS, ev_lzip, ev_dget, ev_lrange, ev_sset, ev_meth, mth_count, mth_index, mth_join, mth_split, ev_iL, ev_iT, ev_iS, ev_r1, ev_r2, ev_r3, ev_zip, ev_enum, ev_cN, ev_cS, ev_comp, two_ok, two_exn, one_ok, one_exn, many_ok, many_exn, consR_ok, consR_exn, andP_t, andP_f, orP_t, orP_f, notP_ok, notP_exn, chP_t, chP_f, chQ_ok, iteP_t, iteP_f, cutP_ok, oP_ok, itP_ok, itP2_ok, itP3_ok, cP_ok, listR_ok, retP_ok, pick_t, pick_f, pick_exn, exP_ok, exP_exn, setP_ok, setP_exn, forP_ok, view, shSl, lk, List.map_cons, List.map_nil, List.length_cons, List.length_nil, List.append_nil, List.nil_append, List.cons_append, List.getElem?_cons_zero, List.getElem?_cons_succ, List.set_cons_zero, List.set_cons_succ, List.set_nil, List.replicate_zero, List.replicate_succ, Nat.sub_self, Nat.zero_add, Nat.reduceAdd, Nat.reduceSub, Bop.fn, Cop.fn, Bi.fn, add_ii, add_ll, add_tt, sub_ii, mul_ii, div_ii, mod_ii, lt_ii, le_ii, gt_ii, ge_ii, is_n, is_t, is_i, isnot_n, isnot_t, isnot_i, isi_i, isi_b, isi_n, isi_s, isi_l, isi_t, isi, DW.len_l, DW.len_t, DW.len_c, tuple_l, tuple_t, list_l, list_t, int_i, int_b, neg_i, idx_l, idx_t, idx_c, ofO_some, rev_l, cut_l, cut_t, lof_l, tof_t, sof_l, sof_t, lzipS, zipS, enumS, R.bind_ok, if_true, if_false, ite_true, ite_false, Bool.not_true, Bool.not_false, bind_nm, bind_tp, bind_nil, bind_cons, DW.scal, DW.wipeD, boxD]
    · rw [q2]
      rw [take_hnds, take_hnds] at q1
      have hne : n = d := Classical.byContradiction fun hne => by
        obtain ⟨a, b⟩ := lastDiff_bx xs n d e hne
        rw [a] at q1
        rw [q1] at b; cases b
      subst hne
      have a0 : atI (nms (hnds n xs)) 0 = some (.int ((hnds n xs).getD 0 0)) := at_nms (by omega) (by rw [hnds_len]; omega)
      simp -implicitDefEqProofs only [ss_cons, ss_nil, st_ret, st_retN, st_pass, st_expr, st_ife, st_set, st_setV, st_asg, st_loop, st_ext, st_put, st_ownD, st_while, st_own, st_app, st_appV, st_raise, st_try, tryP_ok, tryP_exn, at_nx, at_rt, at_exn, endP_nx, endP_rt, endP_exn, ev_var, ev_int, ev_str, ev_bl, ev_non, ev_gint, ev_gstr, ev_bin, ev_neg, ev_cmp, ev_chain, ev_and, ev_or, ev_not, ev_ite, ev_tup, ev_lst, ev_call, ev_bi, ev_isi, ev_idx, ev_rev, ev_nil, ev_cons, ev_cut, ev_oN, ev_oS, ev_lzip, ev_dget, ev_lrange, ev_sset, ev_meth, mth_count, mth_index, mth_join, mth_split, ev_iL, ev_iT, ev_iS, ev_r1, ev_r2, ev_r3, ev_zip, ev_enum, ev_cN, ev_cS, ev_comp, two_ok, two_exn, one_ok, one_exn, many_ok, many_exn, consR_ok, consR_exn, andP_t, andP_f, orP_t, orP_f, notP_ok, notP_exn, chP_t, chP_f, chQ_ok, iteP_t, iteP_f, cutP_ok, oP_ok, itP_ok, itP2_ok, itP3_ok, cP_ok, listR_ok, retP_ok, pick_t, pick_f, pick_exn, exP_ok, exP_exn, setP_ok, setP_exn, forP_ok, view, shSl, lk, List.map_cons, List.map_nil, List.length_cons, List.length_nil, List.append_nil, List.nil_append, List.cons_append, List.getElem?_cons_zero, List.getElem?_cons_succ, List.set_cons_zero, List.set_cons_succ, List.set_nil, List.replicate_zero, List.replicate_succ, Nat.sub_self, Nat.zero_add, Nat.reduceAdd, Nat.reduceSub, Bop.fn, Cop.fn, Bi.fn, add_ii, add_ll, add_tt, sub_ii, mul_ii, div_ii, mod_ii, lt_ii, le_ii, gt_ii, ge_ii, is_n, is_t, is_i, isnot_n, isnot_t, isnot_i, isi_i, isi_b, isi_n, isi_s, isi_l, isi_t, isi, DW.len_l, DW.len_t, DW.len_c, tuple_l, tuple_t, list_l, list_t, int_i, int_b, neg_i, idx_l, idx_t, idx_c, ofO_some, rev_l, cut_l, cut_t, lof_l, tof_t, sof_l, sof_t, lzipS, zipS, enumS, R.bind_ok, if_true, if_false, ite_true, ite_false, Bool.not_true, Bool.not_false, bind_nm, bind_tp, bind_nil, bind_cons, DW.scal, DW.wipeD, a0]
      rw [mkT_ok (by simp)]
      cases xs with
      | nil => simp at h1
      | cons x xs =>
        rw [bx_self]
        simp -implicitDefEqProofs only [ss_cons, ss_nil, st_ret, st_retN, st_pass, st_expr, st_ife, st_set, st_setV, st_asg, st_loop, st_ext, st_put, st_ownD, st_while, st_own, st_app, st_appV, st_raise, st_try, tryP_ok, tryP_exn, at_nx, at_rt, at_exn, endP_nx, endP_rt, endP_exn, ev_var, ev_int, ev_str, ev_bl, ev_non, ev_gint, ev_gstr, ev_bin, ev_neg, ev_cmp, ev_chain, ev_and, ev_or, ev_not, ev_ite, ev_tup, ev_lst, ev_call, ev_bi, ev_isi, ev_idx, ev_rev, ev_nil, ev_cons, ev_cut, ev_oN, ev_oS, ev_lzip, ev_dget, ev_lrange, ev_sset, ev_meth, mth_count, mth_index, mth_join, mth_split, ev_iL, ev_iT, ev_iS, ev_r1, ev_r2, ev_r3, ev_zip, ev_enum, ev_cN, ev_cS, ev_comp, two_ok, two_exn, one_ok, one_exn, many_ok, many_exn, consR_ok, consR_exn, andP_t, andP_f, orP_t, orP_f, notP_ok, notP_exn, chP_t, chP_f, chQ_ok, iteP_t, iteP_f, cutP_ok, oP_ok, itP_ok, itP2_ok, itP3_ok, cP_ok, listR_ok, retP_ok, pick_t, pick_f, pick_exn, exP_ok, exP_exn, setP_ok, setP_exn, forP_ok, view, shSl, lk, List.map_cons, List.map_nil, List.length_cons, List.length_nil, List.append_nil, List.nil_append, List.cons_append, List.getElem?_cons_zero, List.getElem?_cons_succ, List.set_cons_zero, List.set_cons_succ, List.set_nil, List.replicate_zero, List.replicate_succ, Nat.sub_self, Nat.zero_add, Nat.reduceAdd, Nat.reduceSub, Bop.fn, Cop.fn, Bi.fn, add_ii, add_ll, add_tt, sub_ii, mul_ii, div_ii, mod_ii, lt_ii, le_ii, gt_ii, ge_ii, is_n, is_t, is_i, isnot_n, isnot_t, isnot_i, isi_i, isi_b, isi_n, isi_s, isi_l, isi_t, isi, DW.len_l, DW.len_t, DW.len_c, tuple_l, tuple_t, list_l, list_t, int_i, int_b, neg_i, idx_l, idx_t, idx_c, ofO_some, rev_l, cut_l, cut_t, lof_l, tof_t, sof_l, sof_t, lzipS, zipS, enumS, R.bind_ok, if_true, if_false, ite_true, ite_false, Bool.not_true, Bool.not_false, bind_nm, bind_tp, bind_nil, bind_cons, DW.scal, DW.wipeD, boxD, hnds, List.getD_cons_zero]; rfl
  · rw [decide_eq_false e]
    have : bx n d xs = none := by
      cases q : bx n d xs with
      | none => rfl
      | some w => exact absurd (bx_left xs n d (by rw [q]; rfl)) e
    rw [this]
    simp -implicitDefEqProofs only [ss_cons, ss_nil, st_ret, st_retN, st_pass, st_expr, st_ife, st_set, st_setV, st_asg, st_loop, st_ext, st_put, st_ownD, st_while, st_own, st_app, st_appV, st_raise, st_try, tryP_ok, tryP_exn, at_nx, at_rt, at_exn, endP_nx, endP_rt, endP_exn, ev_var, ev_int, ev_str, ev_bl, ev_non, ev_gint, ev_gstr, ev_bin, ev_neg, ev_cmp, ev_chain, ev_and, ev_or, ev_not, ev_ite, ev_tup, ev_lst, ev_call, ev_bi, ev_isi, ev_idx, ev_rev, ev_nil, ev_cons, ev_cut, ev_oN, ev_oS, ev_lzip, ev_dget, ev_lrange, ev_sset, ev_meth, mth_count, mth_index, mth_join, mth_split, ev_iL, ev_iT, ev_iS, ev_r1, ev_r2, ev_r3, ev_zip, ev_enum, ev_cN, ev_cS, ev_comp, two_ok, two_exn, one_ok, one_exn, many_ok, many_exn, consR_ok, consR_exn, andP_t, andP_f, orP_t, orP_f, notP_ok, notP_exn, chP_t, chP_f, chQ_ok, iteP_t, iteP_f, cutP_ok, oP_ok, itP_ok, itP2_ok, itP3_ok, cP_ok, listR_ok, retP_ok, pick_t, pick_f, pick_exn, exP_ok, exP_exn, setP_ok, setP_exn, forP_ok, view, shSl, lk, List.map_cons, List.map_nil, List.length_cons, List.length_nil, List.append_nil, List.nil_append, List.cons_append, List.getElem?_cons_zero, List.getElem?_cons_succ, List.set_cons_zero, List.set_cons_succ, List.set_nil, List.replicate_zero, List.replicate_succ, Nat.sub_self, Nat.zero_add, Nat.reduceAdd, Nat.reduceSub, Bop.fn, Cop.fn, Bi.fn, add_ii, add_ll, add_tt, sub_ii, mul_ii, div_ii, mod_ii, lt_ii, le_ii, gt_ii, ge_ii, is_n, is_t, is_i, isnot_n, isnot_t, isnot_i, isi_i, isi_b, isi_n, isi_s, isi_l, isi_t, isi, DW.len_l, DW.len_t, DW.len_c, tuple_l, tuple_t, list_l, list_t, int_i, int_b, neg_i, idx_l, idx_t, idx_c, ofO_some, rev_l, cut_l, cut_t, lof_l, tof_t, sof_l, sof_t, lzipS, zipS, enumS, R.bind_ok, if_true, if_false, ite_true, ite_false, Bool.not_true, Bool.not_false, bind_nm, bind_tp, bind_nil, bind_cons, DW.scal, DW.wipeD, boxD]
theorem box_at_ok {xs : List Int} (s : Shp xs) {n d : Int} (n0 : 0 ≤ n) (nd : n ≤ d) (d1 : d ≤ 9999) : f_box_at [shD xs, .int n, .int d] = .ok (boxD (bx n d xs)) := by
  simp -implicitDefEqProofs only [f_box_at, run_eq, b_box_at, ss_cons, ss_nil, st_ret, st_retN, st_pass, st_expr, st_ife, st_set, st_setV, st_asg, st_loop, st_ext, st_put, st_ownD, st_while, st_own, st_app, st_appV, st_raise, st_try, tryP_ok, tryP_exn, at_nx, at_rt, at_exn, endP_nx, endP_rt, endP_exn, ev_var, ev_int, ev_str, ev_bl, ev_non, ev_gint, ev_gstr, ev_bin, ev_neg, ev_cmp, ev_chain, ev_and, ev_or, ev_not, ev_ite, ev_tup, ev_lst, ev_call, ev_bi, ev_isi, ev_idx, ev_rev, ev_nil, ev_cons, ev_cut, ev_oN, ev_oS, ev_lzip, ev_dget, ev_lrange, ev_sset, ev_meth, mth_count, mth_index, mth_join, mth_split, ev_iL, ev_iT, ev_iS, ev_r1, ev_r2, ev_r3, ev_zip, ev_enum, ev_cN, ev_cS, ev_comp, two_ok, two_exn, one_ok, one_exn, many_ok, many_exn, consR_ok, consR_exn, andP_t, andP_f, orP_t, orP_f, notP_ok, notP_exn, chP_t, chP_f, chQ_ok, iteP_t, iteP_f, cutP_ok, oP_ok, itP_ok, itP2_ok, itP3_ok, cP_ok, listR_ok, retP_ok, pick_t, pick_f, pick_exn, exP_ok, exP_exn, setP_ok, setP_exn, forP_ok, view, shSl, lk, List.map_cons, List.map_nil, List.length_cons, List.length_nil, List.append_nil, List.nil_append, List.cons_append, List.getElem?_cons_zero, List.getElem?_cons_succ, List.set_cons_zero, List.set_cons_succ, List.set_nil, List.replicate_zero, List.replicate_succ, Nat.sub_self, Nat.zero_add, Nat.reduceAdd, Nat.reduceSub, Bop.fn, Cop.fn, Bi.fn, add_ii, add_ll, add_tt, sub_ii, mul_ii, div_ii, mod_ii, lt_ii, le_ii, gt_ii, ge_ii, is_n, is_t, is_i, isnot_n, isnot_t, isnot_i, isi_i, isi_b, isi_n, isi_s, isi_l, isi_t, isi, DW.len_l, DW.len_t, DW.len_c, tuple_l, tuple_t, list_l, list_t, int_i, int_b, neg_i, idx_l, idx_t, idx_c, ofO_some, rev_l, cut_l, cut_t, lof_l, tof_t, sof_l, sof_t, lzipS, zipS, enumS, R.bind_ok, if_true, if_false, ite_true, ite_false, Bool.not_true, Bool.not_false, bind_nm, bind_tp, bind_nil, bind_cons, DW.scal, DW.wipeD, need_shape_ok s, need_time_ok n0 (show n ≤ 9999 by omega), need_time_ok (show 0 ≤ d by omega) d1, decide_eq_false (show ¬ d < n by omega), box_for_ok s n0 (show n ≤ 9999 by omega) (show 0 ≤ d by omega) d1]
/-! ### rounds as products -/
def rp : Nat → List Int → Int
  | 0, _ => 1
  | _ + 1, [] => 1
  | w + 1, x :: xs => x * rp w xs
theorem rp_pos : ∀ (w : Nat) (xs : List Int), (∀ x ∈ xs, 2 ≤ x) → 0 < rp w xs
  | 0, _, _ => by simp [rp]
  | _ + 1, [], _ => by simp [rp]
  | w + 1, x :: xs, h => by
    have hx := h x List.mem_cons_self
    exact Int.mul_pos (by omega) (rp_pos w xs fun y hy => h y (List.mem_cons_of_mem _ hy))
theorem rnds_rp : ∀ (xs : List Int) (a : Int) (w : Nat), w ≤ xs.length → (rnds a xs).getD w 0 = a * rp w xs
  | xs, a, 0, _ => by cases xs <;> simp [rnds, rp]
  | [], a, w + 1, h => by simp at h
  | x :: xs, a, w + 1, h => by
    rw [rnds, List.getD_cons_succ, rnds_rp xs (a * x) w (by simpa using h), rp, Int.mul_assoc]
theorem rp_succ : ∀ (w : Nat) (xs : List Int), w < xs.length → rp (w + 1) xs = rp w xs * xs.getD w 0
  | _, [], h => by simp at h
  | 0, x :: xs, h => by simp [rp]
  | w + 1, x :: xs, h => by
    rw [rp, rp_succ w xs (by simpa using h), rp, List.getD_cons_succ, Int.mul_assoc]
theorem div_mul {n a b : Int} (ha : 0 < a) : n / (a * b) = n / a / b := (Int.ediv_ediv_of_nonneg (Int.le_of_lt ha)).symm
theorem left_rp : ∀ (xs : List Int) (n : Int), (∀ x ∈ xs, 2 ≤ x) → left n xs = n / rp xs.length xs
  | [], n, _ => by rw [left]; exact (Int.ediv_one n).symm
  | x :: xs, n, h => by
    have hx := h x List.mem_cons_self
    rw [left, left_rp xs (n / x) fun y hy => h y (List.mem_cons_of_mem _ hy), List.length_cons, rp, div_mul (by omega)]
/-- what a box tells -/
theorem bx_told : ∀ (xs : List Int) (n d : Int) (w : Nat) (p : Int), (∀ x ∈ xs, 2 ≤ x) → bx n d xs = some (w, p) → w < xs.length ∧ p = d / rp w xs % xs.getD w 0 ∧ n / rp (w + 1) xs = d / rp (w + 1) xs ∧ (0 < w → n / rp w xs ≠ d / rp w xs)
  | [], n, d, w, p, _, h => by cases h
  | x :: xs, n, d, w, p, hx, h => by
    have h2 := hx x List.mem_cons_self
    rw [bx] at h
    by_cases e : n / x = d / x
    · rw [if_pos e] at h
      cases h
      exact ⟨by simp, by simp [rp], by simp only [rp, Int.mul_one]; exact e, fun z => absurd z (by omega)⟩
    · rw [if_neg e] at h
      cases q : bx (n / x) (d / x) xs with
      | none => rw [q] at h; cases h
      | some r =>
        rw [q] at h
        obtain ⟨w', p'⟩ := r
        cases h
        obtain ⟨a1, a2, a3, a4⟩ := bx_told xs (n / x) (d / x) w' p' (fun y hy => hx y (List.mem_cons_of_mem _ hy)) q
        refine ⟨by simpa using a1, ?_, ?_, fun _ => ?_⟩
        · rw [rp, List.getD_cons_succ, div_mul (by omega)]; exact a2
        · rw [rp, div_mul (by omega), div_mul (by omega)]; exact a3
        · rw [rp, div_mul (by omega), div_mul (by omega)]
          by_cases hw : 0 < w'
          · exact a4 hw
          · have : w' = 0 := by omega
            subst this
            rw [rp, Int.ediv_one, Int.ediv_one]; exact e
theorem bx_of : ∀ (xs : List Int) (n d : Int) (w : Nat), (∀ x ∈ xs, 2 ≤ x) → w < xs.length → n / rp (w + 1) xs = d / rp (w + 1) xs → (0 < w → n / rp w xs ≠ d / rp w xs) → bx n d xs = some (w, d / rp w xs % xs.getD w 0)
  | [], n, d, w, _, h, _, _ => by simp at h
  | x :: xs, n, d, 0, hx, _, h, _ => by
    simp only [rp, Int.mul_one] at h
    rw [bx, if_pos h]; simp [rp]
  | x :: xs, n, d, w + 1, hx, hl, h, hn => by
    have h2 := hx x List.mem_cons_self
    have hn := hn (by omega)
    rw [rp, div_mul (by omega), div_mul (by omega)] at h hn
    have e : n / x ≠ d / x := fun e => hn (by rw [e])
    rw [bx, if_neg e, bx_of xs (n / x) (d / x) w (fun y hy => hx y (List.mem_cons_of_mem _ hy)) (by simpa using hl) h (fun _ => hn), rp, div_mul (by omega), List.getD_cons_succ]; rfl
/-! ### the moment of a box -/
def bpl (w : Nat) (p n : Int) (xs : List Int) : List Int := List.replicate w 0 ++ [p] ++ (hand n xs).drop (w + 1)
theorem tmof_box : ∀ (xs : List Int) (w : Nat) (p n : Int), (∀ x ∈ xs, 2 ≤ x) → w < xs.length → tmof (left n xs) (xs.zip (bpl w p n xs ++ [left n xs])) = rp w xs * (p + xs.getD w 0 * (n / rp (w + 1) xs))
  | [], w, p, n, _, h => by simp at h
  | x :: xs, 0, p, n, hx, _ => by
    have e : bpl 0 p n (x :: xs) ++ [left n (x :: xs)] = p :: hnds (n / x) xs := by
      rw [hnds_eq]; rfl
    rw [e, List.zip_cons_cons, tmof, left, tmof_hnds]
    simp only [rp, Int.mul_one, Int.one_mul, List.getD_cons_zero]
    rw [Int.mul_comm x]; omega
  | x :: xs, w + 1, p, n, hx, hl => by
    have h2 := hx x List.mem_cons_self
    have e : bpl (w + 1) p n (x :: xs) ++ [left n (x :: xs)] = 0 :: (bpl w p (n / x) xs ++ [left (n / x) xs]) := rfl
    rw [e, List.zip_cons_cons, tmof, left, tmof_box xs w p (n / x) (fun y hy => hx y (List.mem_cons_of_mem _ hy)) (by simpa using hl), rp, rp, div_mul (by omega), List.getD_cons_succ, Int.add_zero]
    rw [Int.mul_comm _ x, Int.mul_assoc]
/-- first moment of the box in which d lies -/
theorem first_of {xs : List Int} {n d : Int} {w : Nat} {p : Int} (hx : ∀ x ∈ xs, 2 ≤ x) (h : bx n d xs = some (w, p)) : rp w xs * (p + xs.getD w 0 * (n / rp (w + 1) xs)) = rp w xs * (d / rp w xs) := by
  obtain ⟨a1, a2, a3, a4⟩ := bx_told xs n d w p hx h
  have hp := rp_pos w xs hx
  rw [a3, rp_succ w xs a1, div_mul hp, a2]
  congr 1
  have := Int.mul_ediv_add_emod (d / rp w xs) (xs.getD w 0)
  omega
theorem cut_from {l : List D} {i : Int} (h0 : 0 ≤ i) (h1 : i ≤ l.length) : cutD l (some i) none = l.drop i.toNat := by
  unfold cutD
  have e1 : HT.sIx l.length 0 (some i) = min i.toNat l.length := if_neg (by omega)
  have e2 : HT.sIx l.length l.length none = l.length := rfl
  have e3 : min i.toNat l.length = i.toNat := by omega
  rw [e1, e2, e3, List.take_of_length_le (by rw [List.length_drop]; omega)]
theorem mulL_ok {ds : List D} {k : Int} (h0 : 0 ≤ k) (h1 : k ≤ 1000) (h2 : ds.length ≤ 1000) : dMul (.list ds) (.int k) = .ok (.list (List.replicate k.toNat ds).flatten) := by
  have : ds.length * k.toNat ≤ 1000 * 1000 := Nat.mul_le_mul h2 (by omega)
  rw [dMul, if_pos ⟨by omega, by omega, by rw [sizeLine_eq]; omega⟩]
theorem rep_nms (k : Nat) (x : Int) : (List.replicate k [(.int x : D)]).flatten = nms (List.replicate k x) := by
  induction k with
  | zero => rfl
  | succ k ih => rw [List.replicate_succ, List.flatten_cons, ih]; rfl
theorem nms_drop (xs : List Int) (i : Nat) : (nms xs).drop i = nms (xs.drop i) := by simp [nms]
theorem nms_append (xs ys : List Int) : nms xs ++ nms ys = nms (xs ++ ys) := by simp [nms]
theorem box_time_ok {xs : List Int} (s : Shp xs) {n : Int} (n0 : 0 ≤ n) (n1 : n ≤ 9999) {w : Nat} (hw : w < xs.length) (p : Int) :
    f_box_time [shD xs, .int n, .tuple [.int (w : Nat), .int p]] = .ok (.tuple [.int (rp w xs * (p + xs.getD w 0 * (n / rp (w + 1) xs))), .int (rp w xs * (p + xs.getD w 0 * (n / rp (w + 1) xs)) + rp w xs - 1)]) := by
  have h4 := s.l4
  have eb : bindT (.tp (.cons (.nm 3) (.cons (.nm 4) (.nil)))) (.tuple [.int (w : Nat), .int p]) [.sh (shD xs), .sh (.int n), .sh (.tuple [.int (w : Nat), .int p]), .un, .un, .un, .un] = .ok [.sh (shD xs), .sh (.int n), .sh (.tuple [.int (w : Nat), .int p]), .sh (.int (w : Nat)), .sh (.int p), .un, .un] := rfl
  have ec : (nms (hnds n xs)).drop (w + 1) = nms ((hand n xs).drop (w + 1) ++ [left n xs]) := by
    rw [nms_drop, hnds_eq, List.drop_append_of_le_length (by rw [hand_len]; omega)]
  have er : atI (nms (rnds 1 xs)) (w : Nat) = some (.int (rp w xs)) := by
    rw [at_nms (by omega) (by rw [rnds_len]; omega), Int.toNat_natCast, rnds_rp xs 1 w (by omega), Int.one_mul]
  simp -implicitDefEqProofs only [f_box_time, run_eq, b_box_time, ss_cons, ss_nil, st_ret, st_retN, st_pass, st_expr, st_ife, st_set, st_setV, st_asg, st_loop, st_ext, st_put, st_ownD, st_while, st_own, st_app, st_appV, st_raise, st_try, tryP_ok, tryP_exn, at_nx, at_rt, at_exn, endP_nx, endP_rt, endP_exn, ev_var, ev_int, ev_str, ev_bl, ev_non, ev_gint, ev_gstr, ev_bin, ev_neg, ev_cmp, ev_chain, ev_and, ev_or, ev_not, ev_ite, ev_tup, ev_lst, ev_call, ev_bi, ev_isi, ev_idx, ev_rev, ev_nil, ev_cons, ev_cut, ev_oN, ev_oS, ev_lzip, ev_dget, ev_lrange, ev_sset, ev_meth, mth_count, mth_index, mth_join, mth_split, ev_iL, ev_iT, ev_iS, ev_r1, ev_r2, ev_r3, ev_zip, ev_enum, ev_cN, ev_cS, ev_comp, two_ok, two_exn, one_ok, one_exn, many_ok, many_exn, consR_ok, consR_exn, andP_t, andP_f, orP_t, orP_f, notP_ok, notP_exn, chP_t, chP_f, chQ_ok, iteP_t, iteP_f, cutP_ok, oP_ok, itP_ok, itP2_ok, itP3_ok, cP_ok, listR_ok, retP_ok, pick_t, pick_f, pick_exn, exP_ok, exP_exn, setP_ok, setP_exn, forP_ok, view, shSl, lk, List.map_cons, List.map_nil, List.length_cons, List.length_nil, List.append_nil, List.nil_append, List.cons_append, List.getElem?_cons_zero, List.getElem?_cons_succ, List.set_cons_zero, List.set_cons_succ, List.set_nil, List.replicate_zero, List.replicate_succ, Nat.sub_self, Nat.zero_add, Nat.reduceAdd, Nat.reduceSub, Bop.fn, Cop.fn, Bi.fn, add_ii, add_ll, add_tt, sub_ii, mul_ii, div_ii, mod_ii, lt_ii, le_ii, gt_ii, ge_ii, is_n, is_t, is_i, isnot_n, isnot_t, isnot_i, isi_i, isi_b, isi_n, isi_s, isi_l, isi_t, isi, DW.len_l, DW.len_t, DW.len_c, tuple_l, tuple_t, list_l, list_t, int_i, int_b, neg_i, idx_l, idx_t, idx_c, ofO_some, rev_l, cut_l, cut_t, lof_l, tof_t, sof_l, sof_t, lzipS, zipS, enumS, R.bind_ok, if_true, if_false, ite_true, ite_false, Bool.not_true, Bool.not_false, bind_nm, bind_tp, bind_nil, bind_cons, DW.scal, DW.wipeD]
  rw [asgP_ok eb]
  simp -implicitDefEqProofs only [ss_cons, ss_nil, st_ret, st_retN, st_pass, st_expr, st_ife, st_set, st_setV, st_asg, st_loop, st_ext, st_put, st_ownD, st_while, st_own, st_app, st_appV, st_raise, st_try, tryP_ok, tryP_exn, at_nx, at_rt, at_exn, endP_nx, endP_rt, endP_exn, ev_var, ev_int, ev_str, ev_bl, ev_non, ev_gint, ev_gstr, ev_bin, ev_neg, ev_cmp, ev_chain, ev_and, ev_or, ev_not, ev_ite, ev_tup, ev_lst, ev_call, ev_bi, ev_isi, ev_idx, ev_rev, ev_nil, ev_cons, ev_cut, ev_oN, ev_oS, ev_lzip, ev_dget, ev_lrange, ev_sset, ev_meth, mth_count, mth_index, mth_join, mth_split, ev_iL, ev_iT, ev_iS, ev_r1, ev_r2, ev_r3, ev_zip, ev_enum, ev_cN, ev_cS, ev_comp, two_ok, two_exn, one_ok, one_exn, many_ok, many_exn, consR_ok, consR_exn, andP_t, andP_f, orP_t, orP_f, notP_ok, notP_exn, chP_t, chP_f, chQ_ok, iteP_t, iteP_f, cutP_ok, oP_ok, itP_ok, itP2_ok, itP3_ok, cP_ok, listR_ok, retP_ok, pick_t, pick_f, pick_exn, exP_ok, exP_exn, setP_ok, setP_exn, forP_ok, view, shSl, lk, List.map_cons, List.map_nil, List.length_cons, List.length_nil, List.append_nil, List.nil_append, List.cons_append, List.getElem?_cons_zero, List.getElem?_cons_succ, List.set_cons_zero, List.set_cons_succ, List.set_nil, List.replicate_zero, List.replicate_succ, Nat.sub_self, Nat.zero_add, Nat.reduceAdd, Nat.reduceSub, Bop.fn, Cop.fn, Bi.fn, add_ii, add_ll, add_tt, sub_ii, mul_ii, div_ii, mod_ii, lt_ii, le_ii, gt_ii, ge_ii, is_n, is_t, is_i, isnot_n, isnot_t, isnot_i, isi_i, isi_b, isi_n, isi_s, isi_l, isi_t, isi, DW.len_l, DW.len_t, DW.len_c, tuple_l, tuple_t, list_l, list_t, int_i, int_b, neg_i, idx_l, idx_t, idx_c, ofO_some, rev_l, cut_l, cut_t, lof_l, tof_t, sof_l, sof_t, lzipS, zipS, enumS, R.bind_ok, if_true, if_false, ite_true, ite_false, Bool.not_true, Bool.not_false, bind_nm, bind_tp, bind_nil, bind_cons, DW.scal, DW.wipeD, hands_ok s n0 n1, mkL_ok (show ([.int 0] : List D).length ≤ 16777216 by simp), mkL_ok (show ([.int p] : List D).length ≤ 16777216 by simp), mulL_ok (show (0 : Int) ≤ (w : Nat) by omega) (show ((w : Nat) : Int) ≤ 1000 by omega) (show ([.int 0] : List D).length ≤ 1000 by simp), Int.toNat_natCast, rep_nms]
  rw [mkL_ok (by rw [List.length_append, nms_len]; simp; omega)]
  simp -implicitDefEqProofs only [ss_cons, ss_nil, st_ret, st_retN, st_pass, st_expr, st_ife, st_set, st_setV, st_asg, st_loop, st_ext, st_put, st_ownD, st_while, st_own, st_app, st_appV, st_raise, st_try, tryP_ok, tryP_exn, at_nx, at_rt, at_exn, endP_nx, endP_rt, endP_exn, ev_var, ev_int, ev_str, ev_bl, ev_non, ev_gint, ev_gstr, ev_bin, ev_neg, ev_cmp, ev_chain, ev_and, ev_or, ev_not, ev_ite, ev_tup, ev_lst, ev_call, ev_bi, ev_isi, ev_idx, ev_rev, ev_nil, ev_cons, ev_cut, ev_oN, ev_oS, ev_lzip, ev_dget, ev_lrange, ev_sset, ev_meth, mth_count, mth_index, mth_join, mth_split, ev_iL, ev_iT, ev_iS, ev_r1, ev_r2, ev_r3, ev_zip, ev_enum, ev_cN, ev_cS, ev_comp, two_ok, two_exn, one_ok, one_exn, many_ok, many_exn, consR_ok, consR_exn, andP_t, andP_f, orP_t, orP_f, notP_ok, notP_exn, chP_t, chP_f, chQ_ok, iteP_t, iteP_f, cutP_ok, oP_ok, itP_ok, itP2_ok, itP3_ok, cP_ok, listR_ok, retP_ok, pick_t, pick_f, pick_exn, exP_ok, exP_exn, setP_ok, setP_exn, forP_ok, view, shSl, lk, List.map_cons, List.map_nil, List.length_cons, List.length_nil, List.append_nil, List.nil_append, List.cons_append, List.getElem?_cons_zero, List.getElem?_cons_succ, List.set_cons_zero, List.set_cons_succ, List.set_nil, List.replicate_zero, List.replicate_succ, Nat.sub_self, Nat.zero_add, Nat.reduceAdd, Nat.reduceSub, Bop.fn, Cop.fn, Bi.fn, add_ii, add_ll, add_tt, sub_ii, mul_ii, div_ii, mod_ii, lt_ii, le_ii, gt_ii, ge_ii, is_n, is_t, is_i, isnot_n, isnot_t, isnot_i, isi_i, isi_b, isi_n, isi_s, isi_l, isi_t, isi, DW.len_l, DW.len_t, DW.len_c, tuple_l, tuple_t, list_l, list_t, int_i, int_b, neg_i, idx_l, idx_t, idx_c, ofO_some, rev_l, cut_l, cut_t, lof_l, tof_t, sof_l, sof_t, lzipS, zipS, enumS, R.bind_ok, if_true, if_false, ite_true, ite_false, Bool.not_true, Bool.not_false, bind_nm, bind_tp, bind_nil, bind_cons, DW.scal, DW.wipeD, cut_from (show (0 : Int) ≤ (w : Nat) + 1 by omega) (show ((w : Nat) : Int) + 1 ≤ (nms (hnds n xs)).length by rw [nms_len, hnds_len]; omega)]
  rw [show (((w : Nat) : Int) + 1).toNat = w + 1 by omega, ec]
  rw [mkL_ok (by rw [List.length_append, List.length_append, nms_len, nms_len, List.length_append, List.length_drop, hand_len]; simp; omega)]
  have el : nms (List.replicate w 0) ++ [.int p] ++ nms ((hand n xs).drop (w + 1) ++ [left n xs]) = nms (bpl w p n xs ++ [left n xs]) := by
    rw [show ([.int p] : List D) = nms [p] from rfl, nms_append, nms_append, bpl, List.append_assoc, List.append_assoc, List.append_assoc]
  rw [el]
  simp -implicitDefEqProofs only [ss_cons, ss_nil, st_ret, st_retN, st_pass, st_expr, st_ife, st_set, st_setV, st_asg, st_loop, st_ext, st_put, st_ownD, st_while, st_own, st_app, st_appV, st_raise, st_try, tryP_ok, tryP_exn, at_nx, at_rt, at_exn, endP_nx, endP_rt, endP_exn, ev_var, ev_int, ev_str, ev_bl, ev_non, ev_gint, ev_gstr, ev_bin, ev_neg, ev_cmp, ev_chain, ev_and, ev_or, ev_not, ev_ite, ev_tup, ev_lst, ev_call, ev_bi, ev_isi, ev_idx, ev_rev, ev_nil, ev_cons, ev_cut, ev_oN, ev_oS, ev_lzip, ev_dget, ev_lrange, ev_sset, ev_meth, mth_count, mth_index, mth_join, mth_split, ev_iL, ev_iT, ev_iS, ev_r1, ev_r2, ev_r3, ev_zip, ev_enum, ev_cN, ev_cS, ev_comp, two_ok, two_exn, one_ok, one_exn, many_ok, many_exn, consR_ok, consR_exn, andP_t, andP_f, orP_t, orP_f, notP_ok, notP_exn, chP_t, chP_f, chQ_ok, iteP_t, iteP_f, cutP_ok, oP_ok, itP_ok, itP2_ok, itP3_ok, cP_ok, listR_ok, retP_ok, pick_t, pick_f, pick_exn, exP_ok, exP_exn, setP_ok, setP_exn, forP_ok, view, shSl, lk, List.map_cons, List.map_nil, List.length_cons, List.length_nil, List.append_nil, List.nil_append, List.cons_append, List.getElem?_cons_zero, List.getElem?_cons_succ, List.set_cons_zero, List.set_cons_succ, List.set_nil, List.replicate_zero, List.replicate_succ, Nat.sub_self, Nat.zero_add, Nat.reduceAdd, Nat.reduceSub, Bop.fn, Cop.fn, Bi.fn, add_ii, add_ll, add_tt, sub_ii, mul_ii, div_ii, mod_ii, lt_ii, le_ii, gt_ii, ge_ii, is_n, is_t, is_i, isnot_n, isnot_t, isnot_i, isi_i, isi_b, isi_n, isi_s, isi_l, isi_t, isi, DW.len_l, DW.len_t, DW.len_c, tuple_l, tuple_t, list_l, list_t, int_i, int_b, neg_i, idx_l, idx_t, idx_c, ofO_some, rev_l, cut_l, cut_t, lof_l, tof_t, sof_l, sof_t, lzipS, zipS, enumS, R.bind_ok, if_true, if_false, ite_true, ite_false, Bool.not_true, Bool.not_false, bind_nm, bind_tp, bind_nil, bind_cons, DW.scal, DW.wipeD, time_of_ok s, tmof_box xs w p n s.lo hw, rounds_ok s, er]
  rw [mkT_ok (by simp)]
  simp -implicitDefEqProofs only [ss_cons, ss_nil, st_ret, st_retN, st_pass, st_expr, st_ife, st_set, st_setV, st_asg, st_loop, st_ext, st_put, st_ownD, st_while, st_own, st_app, st_appV, st_raise, st_try, tryP_ok, tryP_exn, at_nx, at_rt, at_exn, endP_nx, endP_rt, endP_exn, ev_var, ev_int, ev_str, ev_bl, ev_non, ev_gint, ev_gstr, ev_bin, ev_neg, ev_cmp, ev_chain, ev_and, ev_or, ev_not, ev_ite, ev_tup, ev_lst, ev_call, ev_bi, ev_isi, ev_idx, ev_rev, ev_nil, ev_cons, ev_cut, ev_oN, ev_oS, ev_lzip, ev_dget, ev_lrange, ev_sset, ev_meth, mth_count, mth_index, mth_join, mth_split, ev_iL, ev_iT, ev_iS, ev_r1, ev_r2, ev_r3, ev_zip, ev_enum, ev_cN, ev_cS, ev_comp, two_ok, two_exn, one_ok, one_exn, many_ok, many_exn, consR_ok, consR_exn, andP_t, andP_f, orP_t, orP_f, notP_ok, notP_exn, chP_t, chP_f, chQ_ok, iteP_t, iteP_f, cutP_ok, oP_ok, itP_ok, itP2_ok, itP3_ok, cP_ok, listR_ok, retP_ok, pick_t, pick_f, pick_exn, exP_ok, exP_exn, setP_ok, setP_exn, forP_ok, view, shSl, lk, List.map_cons, List.map_nil, List.length_cons, List.length_nil, List.append_nil, List.nil_append, List.cons_append, List.getElem?_cons_zero, List.getElem?_cons_succ, List.set_cons_zero, List.set_cons_succ, List.set_nil, List.replicate_zero, List.replicate_succ, Nat.sub_self, Nat.zero_add, Nat.reduceAdd, Nat.reduceSub, Bop.fn, Cop.fn, Bi.fn, add_ii, add_ll, add_tt, sub_ii, mul_ii, div_ii, mod_ii, lt_ii, le_ii, gt_ii, ge_ii, is_n, is_t, is_i, isnot_n, isnot_t, isnot_i, isi_i, isi_b, isi_n, isi_s, isi_l, isi_t, isi, DW.len_l, DW.len_t, DW.len_c, tuple_l, tuple_t, list_l, list_t, int_i, int_b, neg_i, idx_l, idx_t, idx_c, ofO_some, rev_l, cut_l, cut_t, lof_l, tof_t, sof_l, sof_t, lzipS, zipS, enumS, R.bind_ok, if_true, if_false, ite_true, ite_false, Bool.not_true, Bool.not_false, bind_nm, bind_tp, bind_nil, bind_cons, DW.scal, DW.wipeD]
theorem box_span_ok {xs : List Int} (s : Shp xs) {n : Int} (n0 : 0 ≤ n) (n1 : n ≤ 9999) {w : Nat} (hw : w < xs.length) {p : Int} (p0 : 0 ≤ p) (p1 : p < xs.getD w 0) :
    f_box_span [shD xs, .int n, .int (w : Nat), .int p] = .ok (.tuple [.int (rp w xs * (p + xs.getD w 0 * (n / rp (w + 1) xs))), .int (rp w xs * (p + xs.getD w 0 * (n / rp (w + 1) xs)) + rp w xs - 1)]) := by
  have le : dLen [shD xs] = .ok (.int (xs.length : Nat)) := by rw [shD, dLen, nms_len]
  have ix : dIdx (shD xs) (.int (w : Nat)) = .ok (.int (xs.getD w 0)) := by
    rw [shD, idx_t, at_nms (by omega) (by omega), Int.toNat_natCast]; rfl
  have b1 : (decide ((0 : Int) ≤ (w : Nat)) && decide (((w : Nat) : Int) ≤ (xs.length : Int) - 1)) = true := by simp; omega
  have b2 : (decide ((0 : Int) ≤ p) && decide (p ≤ xs.getD w 0 - 1)) = true := by simp only [Bool.and_eq_true, decide_eq_true_eq]; omega
  simp -implicitDefEqProofs only [f_box_span, run_eq, b_box_span, ss_cons, ss_nil, st_ret, st_retN, st_pass, st_expr, st_ife, st_set, st_setV, st_asg, st_loop, st_ext, st_put, st_ownD, st_while, st_own, st_app, st_appV, st_raise, st_try, tryP_ok, tryP_exn, at_nx, at_rt, at_exn, endP_nx, endP_rt, endP_exn, ev_var, ev_int, ev_str, ev_bl, ev_non, ev_gint, ev_gstr, ev_bin, ev_neg, ev_cmp, ev_chain, ev_and, ev_or, ev_not, ev_ite, ev_tup, ev_lst, ev_call, ev_bi, ev_isi, ev_idx, ev_rev, ev_nil, ev_cons, ev_cut, ev_oN, ev_oS, ev_lzip, ev_dget, ev_lrange, ev_sset, ev_meth, mth_count, mth_index, mth_join, mth_split, ev_iL, ev_iT, ev_iS, ev_r1, ev_r2, ev_r3, ev_zip, ev_enum, ev_cN, ev_cS, ev_comp, two_ok, two_exn, one_ok, one_exn, many_ok, many_exn, consR_ok, consR_exn, andP_t, andP_f, orP_t, orP_f, notP_ok, notP_exn, chP_t, chP_f, chQ_ok, iteP_t, iteP_f, cutP_ok, oP_ok, itP_ok, itP2_ok, itP3_ok, cP_ok, listR_ok, retP_ok, pick_t, pick_f, pick_exn, exP_ok, exP_exn, setP_ok, setP_exn, forP_ok, view, shSl, lk, List.map_cons, List.map_nil, List.length_cons, List.length_nil, List.append_nil, List.nil_append, List.cons_append, List.getElem?_cons_zero, List.getElem?_cons_succ, List.set_cons_zero, List.set_cons_succ, List.set_nil, List.replicate_zero, List.replicate_succ, Nat.sub_self, Nat.zero_add, Nat.reduceAdd, Nat.reduceSub, Bop.fn, Cop.fn, Bi.fn, add_ii, add_ll, add_tt, sub_ii, mul_ii, div_ii, mod_ii, lt_ii, le_ii, gt_ii, ge_ii, is_n, is_t, is_i, isnot_n, isnot_t, isnot_i, isi_i, isi_b, isi_n, isi_s, isi_l, isi_t, isi, DW.len_l, DW.len_t, DW.len_c, tuple_l, tuple_t, list_l, list_t, int_i, int_b, neg_i, idx_l, idx_t, idx_c, ofO_some, rev_l, cut_l, cut_t, lof_l, tof_t, sof_l, sof_t, lzipS, zipS, enumS, R.bind_ok, if_true, if_false, ite_true, ite_false, Bool.not_true, Bool.not_false, bind_nm, bind_tp, bind_nil, bind_cons, DW.scal, DW.wipeD, need_shape_ok s, need_time_ok n0 n1, le, is_number_int, b1, ix, b2, mkT_ok (show ([.int (w : Nat), .int p] : List D).length ≤ 16777216 by simp), box_time_ok s n0 n1 hw]
/-! ### stretches -/
def n_need_span : List Str := ["first", "last"]
def p_need_span : List Str := ["first", "last"]
def b_need_span : Ss := .cons (.expr (.call "need_time" 1 f_need_time (.cons (.var 0) (.nil)))) (.cons (.expr (.call "need_time" 1 f_need_time (.cons (.var 1) (.nil)))) (.cons (.ife (.cmp .lt (.var 1) (.var 0)) (.cons (.raise "NoTime") (.nil)) (.nil)) (.nil)))
def f_need_span : List D → R D := runD 2 b_need_span

theorem need_span_ok {a b : Int} (h0 : 0 ≤ a) (h1 : a ≤ b) (h2 : b ≤ 9999) : f_need_span [.int a, .int b] = .ok .none := by
  simp -implicitDefEqProofs only [f_need_span, run_eq, b_need_span, ss_cons, ss_nil, st_ret, st_retN, st_pass, st_expr, st_ife, st_set, st_setV, st_asg, st_loop, st_ext, st_put, st_ownD, st_while, st_own, st_app, st_appV, st_raise, st_try, tryP_ok, tryP_exn, at_nx, at_rt, at_exn, endP_nx, endP_rt, endP_exn, ev_var, ev_int, ev_str, ev_bl, ev_non, ev_gint, ev_gstr, ev_bin, ev_neg, ev_cmp, ev_chain, ev_and, ev_or, ev_not, ev_ite, ev_tup, ev_lst, ev_call, ev_bi, ev_isi, ev_idx, ev_rev, ev_nil, ev_cons, ev_cut, ev_oN, ev_oS, ev_lzip, ev_dget, ev_lrange, ev_sset, ev_meth, mth_count, mth_index, mth_join, mth_split, ev_iL, ev_iT, ev_iS, ev_r1, ev_r2, ev_r3, ev_zip, ev_enum, ev_cN, ev_cS, ev_comp, two_ok, two_exn, one_ok, one_exn, many_ok, many_exn, consR_ok, consR_exn, andP_t, andP_f, orP_t, orP_f, notP_ok, notP_exn, chP_t, chP_f, chQ_ok, iteP_t, iteP_f, cutP_ok, oP_ok, itP_ok, itP2_ok, itP3_ok, cP_ok, listR_ok, retP_ok, pick_t, pick_f, pick_exn, exP_ok, exP_exn, setP_ok, setP_exn, forP_ok, view, shSl, lk, List.map_cons, List.map_nil, List.length_cons, List.length_nil, List.append_nil, List.nil_append, List.cons_append, List.getElem?_cons_zero, List.getElem?_cons_succ, List.set_cons_zero, List.set_cons_succ, List.set_nil, List.replicate_zero, List.replicate_succ, Nat.sub_self, Nat.zero_add, Nat.reduceAdd, Nat.reduceSub, Bop.fn, Cop.fn, Bi.fn, add_ii, add_ll, add_tt, sub_ii, mul_ii, div_ii, mod_ii, lt_ii, le_ii, gt_ii, ge_ii, is_n, is_t, is_i, isnot_n, isnot_t, isnot_i, isi_i, isi_b, isi_n, isi_s, isi_l, isi_t, isi, DW.len_l, DW.len_t, DW.len_c, tuple_l, tuple_t, list_l, list_t, int_i, int_b, neg_i, idx_l, idx_t, idx_c, ofO_some, rev_l, cut_l, cut_t, lof_l, tof_t, sof_l, sof_t, lzipS, zipS, enumS, R.bind_ok, if_true, if_false, ite_true, ite_false, Bool.not_true, Bool.not_false, bind_nm, bind_tp, bind_nil, bind_cons, DW.scal, DW.wipeD, need_time_ok h0 (show a ≤ 9999 by omega), need_time_ok (show 0 ≤ b by omega) h2, decide_eq_false (show ¬ b < a by omega)]
end DW
/-! Deeds and plans: the literals, and what they are worth. -/
namespace DW
open PySem L2
def n_is_name : List Str := ["thing", "sign"]
def p_is_name : List Str := ["thing"]
def e_is_name_c1 : Ex := .comp (.cmp .inn (.var 1) (.gstr "SIGNS" "abcdefghijklmnopqrstuvwxyz")) (.nm 1) (.str (.var 0)) .none [("sign", 1)]
def b_is_name : Ss := .cons (.ret (.and (.isi .str (.var 0)) (.and (.chain .le .le (.int 1) (.bi .len (.cons (.var 0) (.nil))) (.gint "MOST_NAME" (6))) (.bi .all (.cons (e_is_name_c1) (.nil)))))) (.nil)
def f_is_name : List D → R D := runD 2 b_is_name

def n_is_every : List Str := ["thing"]
def p_is_every : List Str := ["thing"]
def b_is_every : Ss := .cons (.ret (.call "is_number" 3 f_is_number (.cons (.var 0) (.cons (.int 0) (.cons (.gint "MOST_TIME" (9999)) (.nil)))))) (.nil)
def f_is_every : List D → R D := runD 1 b_is_every

def n_is_deed : List Str := ["thing"]
def p_is_deed : List Str := ["thing"]
def b_is_deed : Ss := .cons (.ife (.or (.not (.isi .tuple (.var 0))) (.cmp .ne (.bi .len (.cons (.var 0) (.nil))) (.int 3))) (.cons (.ret (.bl false)) (.nil)) (.nil)) (.cons (.ret (.and (.call "is_name" 1 f_is_name (.cons (.idx (.var 0) (.int 0)) (.nil))) (.and (.call "is_time" 1 f_is_time (.cons (.idx (.var 0) (.int 1)) (.nil))) (.call "is_every" 1 f_is_every (.cons (.idx (.var 0) (.int 2)) (.nil)))))) (.nil))
def f_is_deed : List D → R D := runD 1 b_is_deed

def n_is_plan : List Str := ["thing", "one", "other"]
def p_is_plan : List Str := ["thing"]
def e_is_plan_c1 : Ex := .comp (.call "is_deed" 1 f_is_deed (.cons (.var 1) (.nil))) (.nm 1) (.tup (.var 0)) .none [("one", 1)]
def e_is_plan_c2 : Ex := .comp (.cmp .lt (.idx (.var 1) (.int 0)) (.idx (.var 2) (.int 0))) (.tp (.cons (.nm 1) (.cons (.nm 2) (.nil)))) (.zip (.var 0) (.cut (.var 0) (.some (.int 1)) .none)) .none [("one", 1), ("other", 2)]
def b_is_plan : Ss := .cons (.ife (.or (.not (.isi .tuple (.var 0))) (.or (.cmp .gt (.bi .len (.cons (.var 0) (.nil))) (.gint "MOST_DEEDS" (12))) (.not (.bi .all (.cons (e_is_plan_c1) (.nil)))))) (.cons (.ret (.bl false)) (.nil)) (.nil)) (.cons (.ret (.bi .all (.cons (e_is_plan_c2) (.nil)))) (.nil))
def f_is_plan : List D → R D := runD 3 b_is_plan

def n_need_plan : List Str := ["plan"]
def p_need_plan : List Str := ["plan"]
def b_need_plan : Ss := .cons (.ife (.not (.call "is_plan" 1 f_is_plan (.cons (.var 0) (.nil)))) (.cons (.raise "NoPlan") (.nil)) (.nil)) (.nil)
def f_need_plan : List D → R D := runD 1 b_need_plan

def n_times_of : List Str := ["deed", "first", "last", "name", "due", "every", "skipped"]
def p_times_of : List Str := ["deed", "first", "last"]
def b_times_of : Ss := .cons (.asg (.tp (.cons (.nm 3) (.cons (.nm 4) (.cons (.nm 5) (.nil))))) (.var 0)) (.cons (.ife (.cmp .eq (.var 5) (.int 0)) (.cons (.ret (.ite (.chain .le .le (.var 1) (.var 4) (.var 2)) (.lst (.cons (.var 4) (.nil))) (.lst (.nil)))) (.nil)) (.nil)) (.cons (.set 6 (.bi .max2 (.cons (.int 0) (.cons (.bin .div (.bin .sub (.bin .add (.bin .sub (.var 1) (.var 4)) (.var 5)) (.int 1)) (.var 5)) (.nil))))) (.cons (.ret (.lrange (.r3 (.bin .add (.var 4) (.bin .mul (.var 6) (.var 5))) (.bin .add (.var 2) (.int 1)) (.var 5)))) (.nil))))
def f_times_of : List D → R D := runD 7 b_times_of


/-! ### names, deeds -/
def signs : Str := "abcdefghijklmnopqrstuvwxyz"
structure NameOk (s : Str) : Prop where
  l1 : 1 ≤ s.length
  l6 : s.length ≤ 6
  ok : ∀ c ∈ s.cps.toList, c ∈ signs.cps.toList
theorem len_s {s : Str} (h : s.length ≤ 1000) : dLen [.str s] = .ok (.int (s.length : Nat)) := if_pos (by rw [sizeLine_eq]; omega)
theorem in_sign (c : Nat) (y : Str) : dIn2 (.str ⟨#[c]⟩) (.str y) = .ok (.bool (decide (c ∈ y.cps.toList))) := rfl
theorem len_cps (s : Str) : s.cps.toList.length = s.length := Array.length_toList ..
theorem is_name_len (s : Str) (h6 : s.length ≤ 6) (h1 : 1 ≤ s.length) : f_is_name [.str s] = .ok (.bool (s.cps.toList.all fun c => decide (c ∈ signs.cps.toList))) := by
  have hc : compG (.cmp .inn (.var 1) (.gstr "SIGNS" "abcdefghijklmnopqrstuvwxyz")) (.nm 1) .none [.sh (.str s), .un] (s.cps.toList.map fun c => .str ⟨#[c]⟩) = .ok ((s.cps.toList.map fun c => decide (c ∈ signs.cps.toList)).map .bool) := by
    rw [List.map_map]
    refine compG_map (fun c : Nat => (.str ⟨#[c]⟩ : D)) _ _ fun c _ => ⟨_, rfl, ?_⟩
    simp -implicitDefEqProofs only [ss_cons, ss_nil, st_ret, st_retN, st_pass, st_expr, st_ife, st_set, st_setV, st_asg, st_loop, st_ext, st_put, st_ownD, st_while, st_own, st_app, st_appV, st_raise, st_try, tryP_ok, tryP_exn, at_nx, at_rt, at_exn, endP_nx, endP_rt, endP_exn, ev_var, ev_int, ev_str, ev_bl, ev_non, ev_gint, ev_gstr, ev_bin, ev_neg, ev_cmp, ev_chain, ev_and, ev_or, ev_not, ev_ite, ev_tup, ev_lst, ev_call, ev_bi, ev_isi, ev_idx, ev_rev, ev_nil, ev_cons, ev_cut, ev_oN, ev_oS, ev_lzip, ev_dget, ev_lrange, ev_sset, ev_meth, mth_count, mth_index, mth_join, mth_split, ev_iL, ev_iT, ev_iS, ev_r1, ev_r2, ev_r3, ev_zip, ev_enum, ev_cN, ev_cS, ev_comp, two_ok, two_exn, one_ok, one_exn, many_ok, many_exn, consR_ok, consR_exn, andP_t, andP_f, orP_t, orP_f, notP_ok, notP_exn, chP_t, chP_f, chQ_ok, iteP_t, iteP_f, cutP_ok, oP_ok, itP_ok, itP2_ok, itP3_ok, cP_ok, listR_ok, retP_ok, pick_t, pick_f, pick_exn, exP_ok, exP_exn, setP_ok, setP_exn, forP_ok, view, shSl, lk, List.map_cons, List.map_nil, List.length_cons, List.length_nil, List.append_nil, List.nil_append, List.cons_append, List.getElem?_cons_zero, List.getElem?_cons_succ, List.set_cons_zero, List.set_cons_succ, List.set_nil, List.replicate_zero, List.replicate_succ, Nat.sub_self, Nat.zero_add, Nat.reduceAdd, Nat.reduceSub, Bop.fn, Cop.fn, Bi.fn, add_ii, add_ll, add_tt, sub_ii, mul_ii, div_ii, mod_ii, lt_ii, le_ii, gt_ii, ge_ii, is_n, is_t, is_i, isnot_n, isnot_t, isnot_i, isi_i, isi_b, isi_n, isi_s, isi_l, isi_t, isi, DW.len_l, DW.len_t, DW.len_c, tuple_l, tuple_t, list_l, list_t, int_i, int_b, neg_i, idx_l, idx_t, idx_c, ofO_some, rev_l, cut_l, cut_t, lof_l, tof_t, sof_l, sof_t, lzipS, zipS, enumS, R.bind_ok, if_true, if_false, ite_true, ite_false, Bool.not_true, Bool.not_false, bind_nm, bind_tp, bind_nil, bind_cons, DW.scal, DW.wipeD, in_sign]; rfl
  have sg : signsOf (.str s) = .ok (s.cps.toList.map fun c => .str ⟨#[c]⟩) := rfl
  simp -implicitDefEqProofs only [f_is_name, run_eq, b_is_name, e_is_name_c1, ss_cons, ss_nil, st_ret, st_retN, st_pass, st_expr, st_ife, st_set, st_setV, st_asg, st_loop, st_ext, st_put, st_ownD, st_while, st_own, st_app, st_appV, st_raise, st_try, tryP_ok, tryP_exn, at_nx, at_rt, at_exn, endP_nx, endP_rt, endP_exn, ev_var, ev_int, ev_str, ev_bl, ev_non, ev_gint, ev_gstr, ev_bin, ev_neg, ev_cmp, ev_chain, ev_and, ev_or, ev_not, ev_ite, ev_tup, ev_lst, ev_call, ev_bi, ev_isi, ev_idx, ev_rev, ev_nil, ev_cons, ev_cut, ev_oN, ev_oS, ev_lzip, ev_dget, ev_lrange, ev_sset, ev_meth, mth_count, mth_index, mth_join, mth_split, ev_iL, ev_iT, ev_iS, ev_r1, ev_r2, ev_r3, ev_zip, ev_enum, ev_cN, ev_cS, ev_comp, two_ok, two_exn, one_ok, one_exn, many_ok, many_exn, consR_ok, consR_exn, andP_t, andP_f, orP_t, orP_f, notP_ok, notP_exn, chP_t, chP_f, chQ_ok, iteP_t, iteP_f, cutP_ok, oP_ok, itP_ok, itP2_ok, itP3_ok, cP_ok, listR_ok, retP_ok, pick_t, pick_f, pick_exn, exP_ok, exP_exn, setP_ok, setP_exn, forP_ok, view, shSl, lk, List.map_cons, List.map_nil, List.length_cons, List.length_nil, List.append_nil, List.nil_append, List.cons_append, List.getElem?_cons_zero, List.getElem?_cons_succ, List.set_cons_zero, List.set_cons_succ, List.set_nil, List.replicate_zero, List.replicate_succ, Nat.sub_self, Nat.zero_add, Nat.reduceAdd, Nat.reduceSub, Bop.fn, Cop.fn, Bi.fn, add_ii, add_ll, add_tt, sub_ii, mul_ii, div_ii, mod_ii, lt_ii, le_ii, gt_ii, ge_ii, is_n, is_t, is_i, isnot_n, isnot_t, isnot_i, isi_i, isi_b, isi_n, isi_s, isi_l, isi_t, isi, DW.len_l, DW.len_t, DW.len_c, tuple_l, tuple_t, list_l, list_t, int_i, int_b, neg_i, idx_l, idx_t, idx_c, ofO_some, rev_l, cut_l, cut_t, lof_l, tof_t, sof_l, sof_t, lzipS, zipS, enumS, R.bind_ok, if_true, if_false, ite_true, ite_false, Bool.not_true, Bool.not_false, bind_nm, bind_tp, bind_nil, bind_cons, DW.scal, DW.wipeD, len_s (show s.length ≤ 1000 by omega), decide_eq_true (show (1 : Int) ≤ (s.length : Nat) by omega), decide_eq_true (show ((s.length : Nat) : Int) ≤ 6 by omega), sg]
  rw [compP_ok (by rw [List.length_map, len_cps]; omega), hc]
  simp -implicitDefEqProofs only [ss_cons, ss_nil, st_ret, st_retN, st_pass, st_expr, st_ife, st_set, st_setV, st_asg, st_loop, st_ext, st_put, st_ownD, st_while, st_own, st_app, st_appV, st_raise, st_try, tryP_ok, tryP_exn, at_nx, at_rt, at_exn, endP_nx, endP_rt, endP_exn, ev_var, ev_int, ev_str, ev_bl, ev_non, ev_gint, ev_gstr, ev_bin, ev_neg, ev_cmp, ev_chain, ev_and, ev_or, ev_not, ev_ite, ev_tup, ev_lst, ev_call, ev_bi, ev_isi, ev_idx, ev_rev, ev_nil, ev_cons, ev_cut, ev_oN, ev_oS, ev_lzip, ev_dget, ev_lrange, ev_sset, ev_meth, mth_count, mth_index, mth_join, mth_split, ev_iL, ev_iT, ev_iS, ev_r1, ev_r2, ev_r3, ev_zip, ev_enum, ev_cN, ev_cS, ev_comp, two_ok, two_exn, one_ok, one_exn, many_ok, many_exn, consR_ok, consR_exn, andP_t, andP_f, orP_t, orP_f, notP_ok, notP_exn, chP_t, chP_f, chQ_ok, iteP_t, iteP_f, cutP_ok, oP_ok, itP_ok, itP2_ok, itP3_ok, cP_ok, listR_ok, retP_ok, pick_t, pick_f, pick_exn, exP_ok, exP_exn, setP_ok, setP_exn, forP_ok, view, shSl, lk, List.map_cons, List.map_nil, List.length_cons, List.length_nil, List.append_nil, List.nil_append, List.cons_append, List.getElem?_cons_zero, List.getElem?_cons_succ, List.set_cons_zero, List.set_cons_succ, List.set_nil, List.replicate_zero, List.replicate_succ, Nat.sub_self, Nat.zero_add, Nat.reduceAdd, Nat.reduceSub, Bop.fn, Cop.fn, Bi.fn, add_ii, add_ll, add_tt, sub_ii, mul_ii, div_ii, mod_ii, lt_ii, le_ii, gt_ii, ge_ii, is_n, is_t, is_i, isnot_n, isnot_t, isnot_i, isi_i, isi_b, isi_n, isi_s, isi_l, isi_t, isi, DW.len_l, DW.len_t, DW.len_c, tuple_l, tuple_t, list_l, list_t, int_i, int_b, neg_i, idx_l, idx_t, idx_c, ofO_some, rev_l, cut_l, cut_t, lof_l, tof_t, sof_l, sof_t, lzipS, zipS, enumS, R.bind_ok, if_true, if_false, ite_true, ite_false, Bool.not_true, Bool.not_false, bind_nm, bind_tp, bind_nil, bind_cons, DW.scal, DW.wipeD, dAll, bools_map]
  rw [List.all_map]; rfl
theorem is_name_ok {s : Str} (h : NameOk s) : f_is_name [.str s] = .ok (.bool true) := by
  rw [is_name_len s h.l6 h.l1]
  have : (s.cps.toList.all fun c => decide (c ∈ signs.cps.toList)) = true := List.all_eq_true.mpr fun c hc => decide_eq_true (h.ok c hc)
  rw [this]
theorem is_every_int (t : Int) : f_is_every [.int t] = .ok (.bool (decide (0 ≤ t) && decide (t ≤ 9999))) := by
  simp -implicitDefEqProofs only [f_is_every, run_eq, b_is_every, ss_cons, ss_nil, st_ret, st_retN, st_pass, st_expr, st_ife, st_set, st_setV, st_asg, st_loop, st_ext, st_put, st_ownD, st_while, st_own, st_app, st_appV, st_raise, st_try, tryP_ok, tryP_exn, at_nx, at_rt, at_exn, endP_nx, endP_rt, endP_exn, ev_var, ev_int, ev_str, ev_bl, ev_non, ev_gint, ev_gstr, ev_bin, ev_neg, ev_cmp, ev_chain, ev_and, ev_or, ev_not, ev_ite, ev_tup, ev_lst, ev_call, ev_bi, ev_isi, ev_idx, ev_rev, ev_nil, ev_cons, ev_cut, ev_oN, ev_oS, ev_lzip, ev_dget, ev_lrange, ev_sset, ev_meth, mth_count, mth_index, mth_join, mth_split, ev_iL, ev_iT, ev_iS, ev_r1, ev_r2, ev_r3, ev_zip, ev_enum, ev_cN, ev_cS, ev_comp, two_ok, two_exn, one_ok, one_exn, many_ok, many_exn, consR_ok, consR_exn, andP_t, andP_f, orP_t, orP_f, notP_ok, notP_exn, chP_t, chP_f, chQ_ok, iteP_t, iteP_f, cutP_ok, oP_ok, itP_ok, itP2_ok, itP3_ok, cP_ok, listR_ok, retP_ok, pick_t, pick_f, pick_exn, exP_ok, exP_exn, setP_ok, setP_exn, forP_ok, view, shSl, lk, List.map_cons, List.map_nil, List.length_cons, List.length_nil, List.append_nil, List.nil_append, List.cons_append, List.getElem?_cons_zero, List.getElem?_cons_succ, List.set_cons_zero, List.set_cons_succ, List.set_nil, List.replicate_zero, List.replicate_succ, Nat.sub_self, Nat.zero_add, Nat.reduceAdd, Nat.reduceSub, Bop.fn, Cop.fn, Bi.fn, add_ii, add_ll, add_tt, sub_ii, mul_ii, div_ii, mod_ii, lt_ii, le_ii, gt_ii, ge_ii, is_n, is_t, is_i, isnot_n, isnot_t, isnot_i, isi_i, isi_b, isi_n, isi_s, isi_l, isi_t, isi, DW.len_l, DW.len_t, DW.len_c, tuple_l, tuple_t, list_l, list_t, int_i, int_b, neg_i, idx_l, idx_t, idx_c, ofO_some, rev_l, cut_l, cut_t, lof_l, tof_t, sof_l, sof_t, lzipS, zipS, enumS, R.bind_ok, if_true, if_false, ite_true, ite_false, Bool.not_true, Bool.not_false, bind_nm, bind_tp, bind_nil, bind_cons, DW.scal, DW.wipeD, is_number_int]
abbrev Dd := Str × Int × Int
def deedD (x : Dd) : D := .tuple [.str x.1, .int x.2.1, .int x.2.2]
structure DeedOk (x : Dd) : Prop where
  nm : NameOk x.1
  d0 : 0 ≤ x.2.1
  d1 : x.2.1 ≤ 9999
  e0 : 0 ≤ x.2.2
  e1 : x.2.2 ≤ 9999
theorem is_deed_ok {x : Dd} (h : DeedOk x) : f_is_deed [deedD x] = .ok (.bool true) := by
  have x0 : ∀ a b c : D, atI [a, b, c] 0 = some a := fun _ _ _ => rfl
  have x1 : ∀ a b c : D, atI [a, b, c] 1 = some b := fun _ _ _ => rfl
  have x2 : ∀ a b c : D, atI [a, b, c] 2 = some c := fun _ _ _ => rfl
  have b1 : (decide (0 ≤ x.2.1) && decide (x.2.1 ≤ 9999)) = true := by simp [h.d0, h.d1]
  have b2 : (decide (0 ≤ x.2.2) && decide (x.2.2 ≤ 9999)) = true := by simp [h.e0, h.e1]
  simp -implicitDefEqProofs only [f_is_deed, run_eq, b_is_deed, deedD, ss_cons, ss_nil, st_ret, st_retN, st_pass, st_expr, st_ife, st_set, st_setV, st_asg, st_loop, st_ext, st_put, st_ownD, st_while, st_own, st_app, st_appV, st_raise, st_try, tryP_ok, tryP_exn, at_nx, at_rt, at_exn, endP_nx, endP_rt, endP_exn, ev_var, ev_int, ev_str, ev_bl, ev_non, ev_gint, ev_gstr, ev_bin, ev_neg, ev_cmp, ev_chain, ev_and, ev_or, ev_not, ev_ite, ev_tup, ev_lst, ev_call, ev_bi, ev_isi, ev_idx, ev_rev, ev_nil, ev_cons, ev_cut, ev_oN, ev_oS, ev_lzip, ev_dget, ev_lrange, ev_sset, ev_meth, mth_count, mth_index, mth_join, mth_split, ev_iL, ev_iT, ev_iS, ev_r1, ev_r2, ev_r3, ev_zip, ev_enum, ev_cN, ev_cS, ev_comp, two_ok, two_exn, one_ok, one_exn, many_ok, many_exn, consR_ok, consR_exn, andP_t, andP_f, orP_t, orP_f, notP_ok, notP_exn, chP_t, chP_f, chQ_ok, iteP_t, iteP_f, cutP_ok, oP_ok, itP_ok, itP2_ok, itP3_ok, cP_ok, listR_ok, retP_ok, pick_t, pick_f, pick_exn, exP_ok, exP_exn, setP_ok, setP_exn, forP_ok, view, shSl, lk, List.map_cons, List.map_nil, List.length_cons, List.length_nil, List.append_nil, List.nil_append, List.cons_append, List.getElem?_cons_zero, List.getElem?_cons_succ, List.set_cons_zero, List.set_cons_succ, List.set_nil, List.replicate_zero, List.replicate_succ, Nat.sub_self, Nat.zero_add, Nat.reduceAdd, Nat.reduceSub, Bop.fn, Cop.fn, Bi.fn, add_ii, add_ll, add_tt, sub_ii, mul_ii, div_ii, mod_ii, lt_ii, le_ii, gt_ii, ge_ii, is_n, is_t, is_i, isnot_n, isnot_t, isnot_i, isi_i, isi_b, isi_n, isi_s, isi_l, isi_t, isi, DW.len_l, DW.len_t, DW.len_c, tuple_l, tuple_t, list_l, list_t, int_i, int_b, neg_i, idx_l, idx_t, idx_c, ofO_some, rev_l, cut_l, cut_t, lof_l, tof_t, sof_l, sof_t, lzipS, zipS, enumS, R.bind_ok, if_true, if_false, ite_true, ite_false, Bool.not_true, Bool.not_false, bind_nm, bind_tp, bind_nil, bind_cons, DW.scal, DW.wipeD, ne_int, Nat.reduceAdd, Int.reduceEq, Int.cast_ofNat_Int, Int.natCast_succ, Int.natCast_zero, Int.reduceAdd, decide_true, x0, x1, x2, is_name_ok h.nm, is_time_int, b1, is_every_int, b2]
def planD (ps : List Dd) : D := .tuple (ps.map deedD)
/-- rising names -/
def rise (ps : List Dd) : Bool := (ps.zip (ps.drop 1)).all fun q => decide (q.1.1.cps.toList < q.2.1.cps.toList)
theorem zip_map {α : Type} (f : α → D) : ∀ (xs ys : List α), zipD (xs.map f) (ys.map f) = (xs.zip ys).map fun q => .tuple [f q.1, f q.2]
  | [], ys => by simp [zipD]
  | x :: xs, [] => by simp [zipD]
  | x :: xs, y :: ys => by
    have ih := zip_map f xs ys
    unfold zipD at ih ⊢
    rw [List.map_cons, List.map_cons, List.zipWith_cons_cons, ih]; rfl
theorem is_plan_of (ps : List Dd) (h : ∀ x ∈ ps, DeedOk x) (hl : ps.length ≤ 12) : f_is_plan [planD ps] = .ok (.bool (rise ps)) := by
  have x0 : ∀ a b c : D, atI [a, b, c] 0 = some a := fun _ _ _ => rfl
  have c1 : ∀ A B : Sl, compG (.call "is_deed" 1 f_is_deed (.cons (.var 1) (.nil))) (.nm 1) .none [.sh (planD ps), .un, A] (ps.map deedD) = .ok ((ps.map fun _ => true).map .bool) := fun A B => by
    rw [List.map_map]
    refine compG_map deedD _ ps fun x hx => ⟨_, rfl, ?_⟩
    simp -implicitDefEqProofs only [ss_cons, ss_nil, st_ret, st_retN, st_pass, st_expr, st_ife, st_set, st_setV, st_asg, st_loop, st_ext, st_put, st_ownD, st_while, st_own, st_app, st_appV, st_raise, st_try, tryP_ok, tryP_exn, at_nx, at_rt, at_exn, endP_nx, endP_rt, endP_exn, ev_var, ev_int, ev_str, ev_bl, ev_non, ev_gint, ev_gstr, ev_bin, ev_neg, ev_cmp, ev_chain, ev_and, ev_or, ev_not, ev_ite, ev_tup, ev_lst, ev_call, ev_bi, ev_isi, ev_idx, ev_rev, ev_nil, ev_cons, ev_cut, ev_oN, ev_oS, ev_lzip, ev_dget, ev_lrange, ev_sset, ev_meth, mth_count, mth_index, mth_join, mth_split, ev_iL, ev_iT, ev_iS, ev_r1, ev_r2, ev_r3, ev_zip, ev_enum, ev_cN, ev_cS, ev_comp, two_ok, two_exn, one_ok, one_exn, many_ok, many_exn, consR_ok, consR_exn, andP_t, andP_f, orP_t, orP_f, notP_ok, notP_exn, chP_t, chP_f, chQ_ok, iteP_t, iteP_f, cutP_ok, oP_ok, itP_ok, itP2_ok, itP3_ok, cP_ok, listR_ok, retP_ok, pick_t, pick_f, pick_exn, exP_ok, exP_exn, setP_ok, setP_exn, forP_ok, view, shSl, lk, List.map_cons, List.map_nil, List.length_cons, List.length_nil, List.append_nil, List.nil_append, List.cons_append, List.getElem?_cons_zero, List.getElem?_cons_succ, List.set_cons_zero, List.set_cons_succ, List.set_nil, List.replicate_zero, List.replicate_succ, Nat.sub_self, Nat.zero_add, Nat.reduceAdd, Nat.reduceSub, Bop.fn, Cop.fn, Bi.fn, add_ii, add_ll, add_tt, sub_ii, mul_ii, div_ii, mod_ii, lt_ii, le_ii, gt_ii, ge_ii, is_n, is_t, is_i, isnot_n, isnot_t, isnot_i, isi_i, isi_b, isi_n, isi_s, isi_l, isi_t, isi, DW.len_l, DW.len_t, DW.len_c, tuple_l, tuple_t, list_l, list_t, int_i, int_b, neg_i, idx_l, idx_t, idx_c, ofO_some, rev_l, cut_l, cut_t, lof_l, tof_t, sof_l, sof_t, lzipS, zipS, enumS, R.bind_ok, if_true, if_false, ite_true, ite_false, Bool.not_true, Bool.not_false, bind_nm, bind_tp, bind_nil, bind_cons, DW.scal, DW.wipeD, is_deed_ok (h x hx)]; rfl
  have c2 : compG (.cmp .lt (.idx (.var 1) (.int 0)) (.idx (.var 2) (.int 0))) (.tp (.cons (.nm 1) (.cons (.nm 2) (.nil)))) .none [.sh (planD ps), .un, .un] ((ps.zip (ps.drop 1)).map fun q => .tuple [deedD q.1, deedD q.2]) = .ok (((ps.zip (ps.drop 1)).map fun q => decide (q.1.1.cps.toList < q.2.1.cps.toList)).map .bool) := by
    rw [List.map_map]
    refine compG_map (fun q : Dd × Dd => .tuple [deedD q.1, deedD q.2]) _ _ fun q _ => ⟨_, rfl, ?_⟩
    simp -implicitDefEqProofs only [ss_cons, ss_nil, st_ret, st_retN, st_pass, st_expr, st_ife, st_set, st_setV, st_asg, st_loop, st_ext, st_put, st_ownD, st_while, st_own, st_app, st_appV, st_raise, st_try, tryP_ok, tryP_exn, at_nx, at_rt, at_exn, endP_nx, endP_rt, endP_exn, ev_var, ev_int, ev_str, ev_bl, ev_non, ev_gint, ev_gstr, ev_bin, ev_neg, ev_cmp, ev_chain, ev_and, ev_or, ev_not, ev_ite, ev_tup, ev_lst, ev_call, ev_bi, ev_isi, ev_idx, ev_rev, ev_nil, ev_cons, ev_cut, ev_oN, ev_oS, ev_lzip, ev_dget, ev_lrange, ev_sset, ev_meth, mth_count, mth_index, mth_join, mth_split, ev_iL, ev_iT, ev_iS, ev_r1, ev_r2, ev_r3, ev_zip, ev_enum, ev_cN, ev_cS, ev_comp, two_ok, two_exn, one_ok, one_exn, many_ok, many_exn, consR_ok, consR_exn, andP_t, andP_f, orP_t, orP_f, notP_ok, notP_exn, chP_t, chP_f, chQ_ok, iteP_t, iteP_f, cutP_ok, oP_ok, itP_ok, itP2_ok, itP3_ok, cP_ok, listR_ok, retP_ok, pick_t, pick_f, pick_exn, exP_ok, exP_exn, setP_ok, setP_exn, forP_ok, view, shSl, lk, List.map_cons, List.map_nil, List.length_cons, List.length_nil, List.append_nil, List.nil_append, List.cons_append, List.getElem?_cons_zero, List.getElem?_cons_succ, List.set_cons_zero, List.set_cons_succ, List.set_nil, List.replicate_zero, List.replicate_succ, Nat.sub_self, Nat.zero_add, Nat.reduceAdd, Nat.reduceSub, Bop.fn, Cop.fn, Bi.fn, add_ii, add_ll, add_tt, sub_ii, mul_ii, div_ii, mod_ii, lt_ii, le_ii, gt_ii, ge_ii, is_n, is_t, is_i, isnot_n, isnot_t, isnot_i, isi_i, isi_b, isi_n, isi_s, isi_l, isi_t, isi, DW.len_l, DW.len_t, DW.len_c, tuple_l, tuple_t, list_l, list_t, int_i, int_b, neg_i, idx_l, idx_t, idx_c, ofO_some, rev_l, cut_l, cut_t, lof_l, tof_t, sof_l, sof_t, lzipS, zipS, enumS, R.bind_ok, if_true, if_false, ite_true, ite_false, Bool.not_true, Bool.not_false, bind_nm, bind_tp, bind_nil, bind_cons, DW.scal, DW.wipeD, deedD, x0]; rfl
  have al : (ps.map fun _ => true).all id = true := List.all_eq_true.mpr fun b hb => by
    obtain ⟨_, _, rfl⟩ := List.mem_map.mp hb
    rfl
  have it : dIsi .tuple (planD ps) = .ok (.bool true) := rfl
  have le : dLen [planD ps] = .ok (.int (ps.length : Nat)) := by rw [planD, dLen, List.length_map]
  have to : DW.tupOf (planD ps) = .ok (ps.map deedD) := rfl
  have so : DW.seqOf (planD ps) = .ok (ps.map deedD) := rfl
  have cu : dCut (planD ps) (some 1) none = .ok (.tuple ((ps.drop 1).map deedD)) := by
    rw [planD, cut_t]
    by_cases hz : ps = []
    · subst hz; rfl
    · have : 1 ≤ ps.length := by
        cases ps with
        | nil => exact absurd rfl hz
        | cons _ _ => simp
      rw [cut_from (by omega) (by rw [List.length_map]; omega), ← List.map_drop]; rfl
  have zz : (ps.zip (ps.drop 1)).length ≤ 12 := by rw [List.length_zip]; omega
  simp -implicitDefEqProofs only [f_is_plan, run_eq, b_is_plan, e_is_plan_c1, e_is_plan_c2, ss_cons, ss_nil, st_ret, st_retN, st_pass, st_expr, st_ife, st_set, st_setV, st_asg, st_loop, st_ext, st_put, st_ownD, st_while, st_own, st_app, st_appV, st_raise, st_try, tryP_ok, tryP_exn, at_nx, at_rt, at_exn, endP_nx, endP_rt, endP_exn, ev_var, ev_int, ev_str, ev_bl, ev_non, ev_gint, ev_gstr, ev_bin, ev_neg, ev_cmp, ev_chain, ev_and, ev_or, ev_not, ev_ite, ev_tup, ev_lst, ev_call, ev_bi, ev_isi, ev_idx, ev_rev, ev_nil, ev_cons, ev_cut, ev_oN, ev_oS, ev_lzip, ev_dget, ev_lrange, ev_sset, ev_meth, mth_count, mth_index, mth_join, mth_split, ev_iL, ev_iT, ev_iS, ev_r1, ev_r2, ev_r3, ev_zip, ev_enum, ev_cN, ev_cS, ev_comp, two_ok, two_exn, one_ok, one_exn, many_ok, many_exn, consR_ok, consR_exn, andP_t, andP_f, orP_t, orP_f, notP_ok, notP_exn, chP_t, chP_f, chQ_ok, iteP_t, iteP_f, cutP_ok, oP_ok, itP_ok, itP2_ok, itP3_ok, cP_ok, listR_ok, retP_ok, pick_t, pick_f, pick_exn, exP_ok, exP_exn, setP_ok, setP_exn, forP_ok, view, shSl, lk, List.map_cons, List.map_nil, List.length_cons, List.length_nil, List.append_nil, List.nil_append, List.cons_append, List.getElem?_cons_zero, List.getElem?_cons_succ, List.set_cons_zero, List.set_cons_succ, List.set_nil, List.replicate_zero, List.replicate_succ, Nat.sub_self, Nat.zero_add, Nat.reduceAdd, Nat.reduceSub, Bop.fn, Cop.fn, Bi.fn, add_ii, add_ll, add_tt, sub_ii, mul_ii, div_ii, mod_ii, lt_ii, le_ii, gt_ii, ge_ii, is_n, is_t, is_i, isnot_n, isnot_t, isnot_i, isi_i, isi_b, isi_n, isi_s, isi_l, isi_t, isi, DW.len_l, DW.len_t, DW.len_c, tuple_l, tuple_t, list_l, list_t, int_i, int_b, neg_i, idx_l, idx_t, idx_c, ofO_some, rev_l, cut_l, cut_t, lof_l, tof_t, sof_l, sof_t, lzipS, zipS, enumS, R.bind_ok, if_true, if_false, ite_true, ite_false, Bool.not_true, Bool.not_false, bind_nm, bind_tp, bind_nil, bind_cons, DW.scal, DW.wipeD, it, le, to, decide_eq_false (show ¬ (12 : Int) < (ps.length : Nat) by omega)]
  rw [compP_ok (by rw [List.length_map]; omega), c1 _ .un]
  simp -implicitDefEqProofs only [ss_cons, ss_nil, st_ret, st_retN, st_pass, st_expr, st_ife, st_set, st_setV, st_asg, st_loop, st_ext, st_put, st_ownD, st_while, st_own, st_app, st_appV, st_raise, st_try, tryP_ok, tryP_exn, at_nx, at_rt, at_exn, endP_nx, endP_rt, endP_exn, ev_var, ev_int, ev_str, ev_bl, ev_non, ev_gint, ev_gstr, ev_bin, ev_neg, ev_cmp, ev_chain, ev_and, ev_or, ev_not, ev_ite, ev_tup, ev_lst, ev_call, ev_bi, ev_isi, ev_idx, ev_rev, ev_nil, ev_cons, ev_cut, ev_oN, ev_oS, ev_lzip, ev_dget, ev_lrange, ev_sset, ev_meth, mth_count, mth_index, mth_join, mth_split, ev_iL, ev_iT, ev_iS, ev_r1, ev_r2, ev_r3, ev_zip, ev_enum, ev_cN, ev_cS, ev_comp, two_ok, two_exn, one_ok, one_exn, many_ok, many_exn, consR_ok, consR_exn, andP_t, andP_f, orP_t, orP_f, notP_ok, notP_exn, chP_t, chP_f, chQ_ok, iteP_t, iteP_f, cutP_ok, oP_ok, itP_ok, itP2_ok, itP3_ok, cP_ok, listR_ok, retP_ok, pick_t, pick_f, pick_exn, exP_ok, exP_exn, setP_ok, setP_exn, forP_ok, view, shSl, lk, List.map_cons, List.map_nil, List.length_cons, List.length_nil, List.append_nil, List.nil_append, List.cons_append, List.getElem?_cons_zero, List.getElem?_cons_succ, List.set_cons_zero, List.set_cons_succ, List.set_nil, List.replicate_zero, List.replicate_succ, Nat.sub_self, Nat.zero_add, Nat.reduceAdd, Nat.reduceSub, Bop.fn, Cop.fn, Bi.fn, add_ii, add_ll, add_tt, sub_ii, mul_ii, div_ii, mod_ii, lt_ii, le_ii, gt_ii, ge_ii, is_n, is_t, is_i, isnot_n, isnot_t, isnot_i, isi_i, isi_b, isi_n, isi_s, isi_l, isi_t, isi, DW.len_l, DW.len_t, DW.len_c, tuple_l, tuple_t, list_l, list_t, int_i, int_b, neg_i, idx_l, idx_t, idx_c, ofO_some, rev_l, cut_l, cut_t, lof_l, tof_t, sof_l, sof_t, lzipS, zipS, enumS, R.bind_ok, if_true, if_false, ite_true, ite_false, Bool.not_true, Bool.not_false, bind_nm, bind_tp, bind_nil, bind_cons, DW.scal, DW.wipeD, dAll, bools_map, al, cu, so, zip_map]
  rw [compP_ok (by rw [List.length_map]; omega), c2]
  simp -implicitDefEqProofs only [ss_cons, ss_nil, st_ret, st_retN, st_pass, st_expr, st_ife, st_set, st_setV, st_asg, st_loop, st_ext, st_put, st_ownD, st_while, st_own, st_app, st_appV, st_raise, st_try, tryP_ok, tryP_exn, at_nx, at_rt, at_exn, endP_nx, endP_rt, endP_exn, ev_var, ev_int, ev_str, ev_bl, ev_non, ev_gint, ev_gstr, ev_bin, ev_neg, ev_cmp, ev_chain, ev_and, ev_or, ev_not, ev_ite, ev_tup, ev_lst, ev_call, ev_bi, ev_isi, ev_idx, ev_rev, ev_nil, ev_cons, ev_cut, ev_oN, ev_oS, ev_lzip, ev_dget, ev_lrange, ev_sset, ev_meth, mth_count, mth_index, mth_join, mth_split, ev_iL, ev_iT, ev_iS, ev_r1, ev_r2, ev_r3, ev_zip, ev_enum, ev_cN, ev_cS, ev_comp, two_ok, two_exn, one_ok, one_exn, many_ok, many_exn, consR_ok, consR_exn, andP_t, andP_f, orP_t, orP_f, notP_ok, notP_exn, chP_t, chP_f, chQ_ok, iteP_t, iteP_f, cutP_ok, oP_ok, itP_ok, itP2_ok, itP3_ok, cP_ok, listR_ok, retP_ok, pick_t, pick_f, pick_exn, exP_ok, exP_exn, setP_ok, setP_exn, forP_ok, view, shSl, lk, List.map_cons, List.map_nil, List.length_cons, List.length_nil, List.append_nil, List.nil_append, List.cons_append, List.getElem?_cons_zero, List.getElem?_cons_succ, List.set_cons_zero, List.set_cons_succ, List.set_nil, List.replicate_zero, List.replicate_succ, Nat.sub_self, Nat.zero_add, Nat.reduceAdd, Nat.reduceSub, Bop.fn, Cop.fn, Bi.fn, add_ii, add_ll, add_tt, sub_ii, mul_ii, div_ii, mod_ii, lt_ii, le_ii, gt_ii, ge_ii, is_n, is_t, is_i, isnot_n, isnot_t, isnot_i, isi_i, isi_b, isi_n, isi_s, isi_l, isi_t, isi, DW.len_l, DW.len_t, DW.len_c, tuple_l, tuple_t, list_l, list_t, int_i, int_b, neg_i, idx_l, idx_t, idx_c, ofO_some, rev_l, cut_l, cut_t, lof_l, tof_t, sof_l, sof_t, lzipS, zipS, enumS, R.bind_ok, if_true, if_false, ite_true, ite_false, Bool.not_true, Bool.not_false, bind_nm, bind_tp, bind_nil, bind_cons, DW.scal, DW.wipeD, dAll, bools_map]
  rw [List.all_map]; rfl
theorem need_plan_ok {ps : List Dd} (h : ∀ x ∈ ps, DeedOk x) (hl : ps.length ≤ 12) (hr : rise ps = true) : f_need_plan [planD ps] = .ok .none := by
  simp -implicitDefEqProofs only [f_need_plan, run_eq, b_need_plan, ss_cons, ss_nil, st_ret, st_retN, st_pass, st_expr, st_ife, st_set, st_setV, st_asg, st_loop, st_ext, st_put, st_ownD, st_while, st_own, st_app, st_appV, st_raise, st_try, tryP_ok, tryP_exn, at_nx, at_rt, at_exn, endP_nx, endP_rt, endP_exn, ev_var, ev_int, ev_str, ev_bl, ev_non, ev_gint, ev_gstr, ev_bin, ev_neg, ev_cmp, ev_chain, ev_and, ev_or, ev_not, ev_ite, ev_tup, ev_lst, ev_call, ev_bi, ev_isi, ev_idx, ev_rev, ev_nil, ev_cons, ev_cut, ev_oN, ev_oS, ev_lzip, ev_dget, ev_lrange, ev_sset, ev_meth, mth_count, mth_index, mth_join, mth_split, ev_iL, ev_iT, ev_iS, ev_r1, ev_r2, ev_r3, ev_zip, ev_enum, ev_cN, ev_cS, ev_comp, two_ok, two_exn, one_ok, one_exn, many_ok, many_exn, consR_ok, consR_exn, andP_t, andP_f, orP_t, orP_f, notP_ok, notP_exn, chP_t, chP_f, chQ_ok, iteP_t, iteP_f, cutP_ok, oP_ok, itP_ok, itP2_ok, itP3_ok, cP_ok, listR_ok, retP_ok, pick_t, pick_f, pick_exn, exP_ok, exP_exn, setP_ok, setP_exn, forP_ok, view, shSl, lk, List.map_cons, List.map_nil, List.length_cons, List.length_nil, List.append_nil, List.nil_append, List.cons_append, List.getElem?_cons_zero, List.getElem?_cons_succ, List.set_cons_zero, List.set_cons_succ, List.set_nil, List.replicate_zero, List.replicate_succ, Nat.sub_self, Nat.zero_add, Nat.reduceAdd, Nat.reduceSub, Bop.fn, Cop.fn, Bi.fn, add_ii, add_ll, add_tt, sub_ii, mul_ii, div_ii, mod_ii, lt_ii, le_ii, gt_ii, ge_ii, is_n, is_t, is_i, isnot_n, isnot_t, isnot_i, isi_i, isi_b, isi_n, isi_s, isi_l, isi_t, isi, DW.len_l, DW.len_t, DW.len_c, tuple_l, tuple_t, list_l, list_t, int_i, int_b, neg_i, idx_l, idx_t, idx_c, ofO_some, rev_l, cut_l, cut_t, lof_l, tof_t, sof_l, sof_t, lzipS, zipS, enumS, R.bind_ok, if_true, if_false, ite_true, ite_false, Bool.not_true, Bool.not_false, bind_nm, bind_tp, bind_nil, bind_cons, DW.scal, DW.wipeD, is_plan_of ps h hl, hr]
theorem need_plan_no {d : D} (h : f_is_plan [d] = .ok (.bool false)) : f_need_plan [d] = .exn "NoPlan" := by
  simp -implicitDefEqProofs only [f_need_plan, run_eq, b_need_plan, ss_cons, ss_nil, st_ret, st_retN, st_pass, st_expr, st_ife, st_set, st_setV, st_asg, st_loop, st_ext, st_put, st_ownD, st_while, st_own, st_app, st_appV, st_raise, st_try, tryP_ok, tryP_exn, at_nx, at_rt, at_exn, endP_nx, endP_rt, endP_exn, ev_var, ev_int, ev_str, ev_bl, ev_non, ev_gint, ev_gstr, ev_bin, ev_neg, ev_cmp, ev_chain, ev_and, ev_or, ev_not, ev_ite, ev_tup, ev_lst, ev_call, ev_bi, ev_isi, ev_idx, ev_rev, ev_nil, ev_cons, ev_cut, ev_oN, ev_oS, ev_lzip, ev_dget, ev_lrange, ev_sset, ev_meth, mth_count, mth_index, mth_join, mth_split, ev_iL, ev_iT, ev_iS, ev_r1, ev_r2, ev_r3, ev_zip, ev_enum, ev_cN, ev_cS, ev_comp, two_ok, two_exn, one_ok, one_exn, many_ok, many_exn, consR_ok, consR_exn, andP_t, andP_f, orP_t, orP_f, notP_ok, notP_exn, chP_t, chP_f, chQ_ok, iteP_t, iteP_f, cutP_ok, oP_ok, itP_ok, itP2_ok, itP3_ok, cP_ok, listR_ok, retP_ok, pick_t, pick_f, pick_exn, exP_ok, exP_exn, setP_ok, setP_exn, forP_ok, view, shSl, lk, List.map_cons, List.map_nil, List.length_cons, List.length_nil, List.append_nil, List.nil_append, List.cons_append, List.getElem?_cons_zero, List.getElem?_cons_succ, List.set_cons_zero, List.set_cons_succ, List.set_nil, List.replicate_zero, List.replicate_succ, Nat.sub_self, Nat.zero_add, Nat.reduceAdd, Nat.reduceSub, Bop.fn, Cop.fn, Bi.fn, add_ii, add_ll, add_tt, sub_ii, mul_ii, div_ii, mod_ii, lt_ii, le_ii, gt_ii, ge_ii, is_n, is_t, is_i, isnot_n, isnot_t, isnot_i, isi_i, isi_b, isi_n, isi_s, isi_l, isi_t, isi, DW.len_l, DW.len_t, DW.len_c, tuple_l, tuple_t, list_l, list_t, int_i, int_b, neg_i, idx_l, idx_t, idx_c, ofO_some, rev_l, cut_l, cut_t, lof_l, tof_t, sof_l, sof_t, lzipS, zipS, enumS, R.bind_ok, if_true, if_false, ite_true, ite_false, Bool.not_true, Bool.not_false, bind_nm, bind_tp, bind_nil, bind_cons, DW.scal, DW.wipeD, h]
/-! ### when it is due -/
def startOf (d e F : Int) : Int := d + (if (F - d + e - 1) / e > 0 then (F - d + e - 1) / e else 0) * e
def times (d e F L : Int) : List Int := if e = 0 then (if F ≤ d ∧ d ≤ L then [d] else []) else (List.range (Builtin.Range.rangeSize (startOf d e F) (L + 1) e).toNat).map fun i => startOf d e F + (i : Nat) * e
def Due (p : Int × Int) (t : Int) : Prop := p.1 ≤ t ∧ (if p.2 = 0 then t = p.1 else (t - p.1) % p.2 = 0)
instance (p : Int × Int) (t : Int) : Decidable (Due p t) := by unfold Due; exact inferInstance
theorem start_facts {d e F : Int} (he : 0 < e) : d ≤ startOf d e F ∧ F ≤ startOf d e F ∧ (startOf d e F - d) % e = 0 ∧ (startOf d e F < d + e ∨ startOf d e F < F + e) := by
  unfold startOf
  have h1 := Int.mul_ediv_add_emod (F - d + e - 1) e
  have h2 := Int.emod_nonneg (F - d + e - 1) (show e ≠ 0 by omega)
  have h3 := Int.emod_lt_of_pos (F - d + e - 1) he
  generalize hq : (F - d + e - 1) / e = q at *
  have hm : e * q = q * e := Int.mul_comm _ _
  split
  · rename_i hp
    have : 0 ≤ q * e := Int.mul_nonneg (by omega) (by omega)
    refine ⟨by omega, by omega, ?_, by omega⟩
    rw [show d + q * e - d = q * e by omega]
    exact Int.mul_emod_left _ _
  · rename_i hp
    have hq0 : q ≤ 0 := by omega
    have : q * e ≤ 0 := Int.mul_nonpos_of_nonpos_of_nonneg hq0 (by omega)
    refine ⟨by omega, by omega, by simp, by omega⟩
theorem size_pos {a b c : Int} (hc : 0 < c) : ((Builtin.Range.rangeSize a b c).toNat : Int) = if a < b then (b - a - 1) / c + 1 else 0 := by
  unfold Builtin.Range.rangeSize
  rw [if_pos hc]
  split
  · have := Int.ediv_nonneg (show 0 ≤ b - a - 1 by omega) (show 0 ≤ c by omega)
    omega
  · rfl
theorem mem_times {d e F L t : Int} (he : 0 ≤ e) : t ∈ times d e F L ↔ F ≤ t ∧ t ≤ L ∧ Due (d, e) t := by
  unfold times Due
  by_cases h : e = 0
  · rw [if_pos h]
    subst h
    constructor
    · intro ht
      split at ht
      · cases List.mem_singleton.mp ht
        exact ⟨by omega, by omega, by simp, by simp⟩
      · cases ht
    · rintro ⟨h1, h2, h3, h4⟩
      have h4 : t = d := by simpa using h4
      subst h4
      rw [if_pos ⟨h1, h2⟩]; simp
  · have hp : 0 < e := by omega
    rw [if_neg h]
    obtain ⟨s1, s2, s3, s4⟩ := start_facts (d := d) (F := F) hp
    generalize startOf d e F = s at *
    have hn := size_pos (a := s) (b := L + 1) hp
    generalize (Builtin.Range.rangeSize s (L + 1) e).toNat = n at *
    show _ ↔ F ≤ t ∧ t ≤ L ∧ d ≤ t ∧ (if e = 0 then t = d else (t - d) % e = 0)
    rw [if_neg h]
    constructor
    · intro ht
      obtain ⟨i, hi, rfl⟩ := List.mem_map.mp ht
      have hi := List.mem_range.mp hi
      have hie : 0 ≤ (i : Int) * e := Int.mul_nonneg (by omega) he
      split at hn
      · have hi' : (i : Int) ≤ (L + 1 - s - 1) / e := by omega
        have := (Int.le_ediv_iff_mul_le hp).mp hi'
        refine ⟨by omega, by omega, by omega, ?_⟩
        rw [show s + (i : Nat) * e - d = (s - d) + (i : Nat) * e by omega, Int.add_mul_emod_self_right]
        exact s3
      · omega
    · rintro ⟨h1, h2, h3, h4⟩
      have hst : s ≤ t := by
        have e1 := Int.emod_add_mul_ediv (s - d) e
        have e2 := Int.emod_add_mul_ediv (t - d) e
        rw [s3] at e1
        rw [h4] at e2
        generalize (s - d) / e = a at *
        generalize (t - d) / e = b at *
        by_cases hab : a ≤ b
        · have := Int.mul_le_mul_of_nonneg_left hab he
          omega
        · exfalso
          have h5 := Int.mul_le_mul_of_nonneg_left (show b + 1 ≤ a by omega) he
          rw [Int.mul_add, Int.mul_one] at h5
          omega
      have hm : (t - s) % e = 0 := by
        rw [show t - s = (t - d) - (s - d) by omega, Int.sub_emod, h4, s3]; simp
      have e3 := Int.emod_add_mul_ediv (t - s) e
      rw [hm] at e3
      have h0 := Int.ediv_nonneg (show 0 ≤ t - s by omega) he
      rw [if_pos (by omega)] at hn
      have hle : (t - s) / e ≤ (L + 1 - s - 1) / e := Int.ediv_le_ediv hp (by omega)
      refine List.mem_map.mpr ⟨((t - s) / e).toNat, List.mem_range.mpr (by omega), ?_⟩
      rw [Int.toNat_of_nonneg h0, Int.mul_comm]; omega
theorem times_rise {d e F L : Int} (he : 0 ≤ e) : (times d e F L).Pairwise (· < ·) := by
  unfold times
  split
  · split <;> simp
  · rw [List.pairwise_map]
    refine List.Pairwise.imp ?_ List.pairwise_lt_range
    intro a b hab
    have := Int.mul_lt_mul_of_pos_right (show (a : Int) < (b : Int) by omega) (show 0 < e by omega)
    omega
theorem times_len {d e F L : Int} (he : 0 ≤ e) (hF : 0 ≤ F) (hL : L ≤ 9999) : (times d e F L).length ≤ 10001 := by
  unfold times
  split
  · split <;> simp
  · rename_i h
    have hp : 0 < e := by omega
    obtain ⟨s1, s2, s3, s4⟩ := start_facts (d := d) (F := F) hp
    generalize startOf d e F = s at *
    have hn := size_pos (a := s) (b := L + 1) hp
    rw [List.length_map, List.length_range]
    split at hn
    · have := Int.ediv_le_self (a := L + 1 - s - 1) e (by omega)
      omega
    · omega
theorem small_up {a b c : Int} (hc : 0 < c) (hc1 : c ≤ 100000) (a0 : -100000000 ≤ a) (a1 : a ≤ 100000000) (b0 : -100000000 ≤ b) (b1 : b ≤ 100000000) : Builtin.Range.small a b c = true := by
  have hn := size_pos (a := a) (b := b) hc
  have hs : Builtin.Range.rangeSize a b c = if a < b then (b - a - 1) / c + 1 else 0 := by
    unfold Builtin.Range.rangeSize
    rw [if_pos hc]
  unfold Builtin.Range.small
  rw [hs]
  simp only [Builtin.Range.rangeFitsLong, Bool.and_eq_true, Bool.or_eq_true, decide_eq_true_eq, beq_iff_eq, hc, if_true]
  split
  · rename_i hab
    have h1 := Int.ediv_le_self (a := b - a - 1) c (by omega)
    have h2 := Int.ediv_nonneg (show 0 ≤ b - a - 1 by omega) (show 0 ≤ c by omega)
    omega
  · omega
theorem times_of_ok {x : Dd} (e0 : 0 ≤ x.2.2) (e1 : x.2.2 ≤ 9999) (d0 : 0 ≤ x.2.1) (d1 : x.2.1 ≤ 9999) {F L : Int} (F0 : 0 ≤ F) (F1 : F ≤ 9999) (L0 : 0 ≤ L) (L1 : L ≤ 9999) : f_times_of [deedD x, .int F, .int L] = .ok (.list (nms (times x.2.1 x.2.2 F L))) := by
  obtain ⟨n, d, e⟩ := x
  have e0 : 0 ≤ e := e0
  have e1 : e ≤ 9999 := e1
  have d0 : 0 ≤ d := d0
  have d1 : d ≤ 9999 := d1
  show f_times_of [deedD (n, d, e), .int F, .int L] = .ok (.list (nms (times d e F L)))
  have eb : bindT (.tp (.cons (.nm 3) (.cons (.nm 4) (.cons (.nm 5) (.nil))))) (deedD (n, d, e)) [.sh (deedD (n, d, e)), .sh (.int F), .sh (.int L), .un, .un, .un, .un] = .ok [.sh (deedD (n, d, e)), .sh (.int F), .sh (.int L), .sh (.str n), .sh (.int d), .sh (.int e), .un] := rfl
  have mx : ∀ j : Int, dMax2 [.int 0, .int j] = .ok (.int (if j > 0 then j else 0)) := fun _ => rfl
  simp -implicitDefEqProofs only [f_times_of, run_eq, b_times_of, ss_cons, ss_nil, st_ret, st_retN, st_pass, st_expr, st_ife, st_set, st_setV, st_asg, st_loop, st_ext, st_put, st_ownD, st_while, st_own, st_app, st_appV, st_raise, st_try, tryP_ok, tryP_exn, at_nx, at_rt, at_exn, endP_nx, endP_rt, endP_exn, ev_var, ev_int, ev_str, ev_bl, ev_non, ev_gint, ev_gstr, ev_bin, ev_neg, ev_cmp, ev_chain, ev_and, ev_or, ev_not, ev_ite, ev_tup, ev_lst, ev_call, ev_bi, ev_isi, ev_idx, ev_rev, ev_nil, ev_cons, ev_cut, ev_oN, ev_oS, ev_lzip, ev_dget, ev_lrange, ev_sset, ev_meth, mth_count, mth_index, mth_join, mth_split, ev_iL, ev_iT, ev_iS, ev_r1, ev_r2, ev_r3, ev_zip, ev_enum, ev_cN, ev_cS, ev_comp, two_ok, two_exn, one_ok, one_exn, many_ok, many_exn, consR_ok, consR_exn, andP_t, andP_f, orP_t, orP_f, notP_ok, notP_exn, chP_t, chP_f, chQ_ok, iteP_t, iteP_f, cutP_ok, oP_ok, itP_ok, itP2_ok, itP3_ok, cP_ok, listR_ok, retP_ok, pick_t, pick_f, pick_exn, exP_ok, exP_exn, setP_ok, setP_exn, forP_ok, view, shSl, lk, List.map_cons, List.map_nil, List.length_cons, List.length_nil, List.append_nil, List.nil_append, List.cons_append, List.getElem?_cons_zero, List.getElem?_cons_succ, List.set_cons_zero, List.set_cons_succ, List.set_nil, List.replicate_zero, List.replicate_succ, Nat.sub_self, Nat.zero_add, Nat.reduceAdd, Nat.reduceSub, Bop.fn, Cop.fn, Bi.fn, add_ii, add_ll, add_tt, sub_ii, mul_ii, div_ii, mod_ii, lt_ii, le_ii, gt_ii, ge_ii, is_n, is_t, is_i, isnot_n, isnot_t, isnot_i, isi_i, isi_b, isi_n, isi_s, isi_l, isi_t, isi, DW.len_l, DW.len_t, DW.len_c, tuple_l, tuple_t, list_l, list_t, int_i, int_b, neg_i, idx_l, idx_t, idx_c, ofO_some, rev_l, cut_l, cut_t, lof_l, tof_t, sof_l, sof_t, lzipS, zipS, enumS, R.bind_ok, if_true, if_false, ite_true, ite_false, Bool.not_true, Bool.not_false, bind_nm, bind_tp, bind_nil, bind_cons, DW.scal, DW.wipeD]
  rw [asgP_ok eb]
  by_cases h : e = 0
  · simp -implicitDefEqProofs only [ss_cons, ss_nil, st_ret, st_retN, st_pass, st_expr, st_ife, st_set, st_setV, st_asg, st_loop, st_ext, st_put, st_ownD, st_while, st_own, st_app, st_appV, st_raise, st_try, tryP_ok, tryP_exn, at_nx, at_rt, at_exn, endP_nx, endP_rt, endP_exn, ev_var, ev_int, ev_str, ev_bl, ev_non, ev_gint, ev_gstr, ev_bin, ev_neg, ev_cmp, ev_chain, ev_and, ev_or, ev_not, ev_ite, ev_tup, ev_lst, ev_call, ev_bi, ev_isi, ev_idx, ev_rev, ev_nil, ev_cons, ev_cut, ev_oN, ev_oS, ev_lzip, ev_dget, ev_lrange, ev_sset, ev_meth, mth_count, mth_index, mth_join, mth_split, ev_iL, ev_iT, ev_iS, ev_r1, ev_r2, ev_r3, ev_zip, ev_enum, ev_cN, ev_cS, ev_comp, two_ok, two_exn, one_ok, one_exn, many_ok, many_exn, consR_ok, consR_exn, andP_t, andP_f, orP_t, orP_f, notP_ok, notP_exn, chP_t, chP_f, chQ_ok, iteP_t, iteP_f, cutP_ok, oP_ok, itP_ok, itP2_ok, itP3_ok, cP_ok, listR_ok, retP_ok, pick_t, pick_f, pick_exn, exP_ok, exP_exn, setP_ok, setP_exn, forP_ok, view, shSl, lk, List.map_cons, List.map_nil, List.length_cons, List.length_nil, List.append_nil, List.nil_append, List.cons_append, List.getElem?_cons_zero, List.getElem?_cons_succ, List.set_cons_zero, List.set_cons_succ, List.set_nil, List.replicate_zero, List.replicate_succ, Nat.sub_self, Nat.zero_add, Nat.reduceAdd, Nat.reduceSub, Bop.fn, Cop.fn, Bi.fn, add_ii, add_ll, add_tt, sub_ii, mul_ii, div_ii, mod_ii, lt_ii, le_ii, gt_ii, ge_ii, is_n, is_t, is_i, isnot_n, isnot_t, isnot_i, isi_i, isi_b, isi_n, isi_s, isi_l, isi_t, isi, DW.len_l, DW.len_t, DW.len_c, tuple_l, tuple_t, list_l, list_t, int_i, int_b, neg_i, idx_l, idx_t, idx_c, ofO_some, rev_l, cut_l, cut_t, lof_l, tof_t, sof_l, sof_t, lzipS, zipS, enumS, R.bind_ok, if_true, if_false, ite_true, ite_false, Bool.not_true, Bool.not_false, bind_nm, bind_tp, bind_nil, bind_cons, DW.scal, DW.wipeD, eq_int, decide_eq_true h]
    by_cases h1 : F ≤ d
    · by_cases h2 : d ≤ L
      · simp -implicitDefEqProofs only [ss_cons, ss_nil, st_ret, st_retN, st_pass, st_expr, st_ife, st_set, st_setV, st_asg, st_loop, st_ext, st_put, st_ownD, st_while, st_own, st_app, st_appV, st_raise, st_try, tryP_ok, tryP_exn, at_nx, at_rt, at_exn, endP_nx, endP_rt, endP_exn, ev_var, ev_int, ev_str, ev_bl, ev_non, ev_gint, ev_gstr, ev_bin, ev_neg, ev_cmp, ev_chain, ev_and, ev_or, ev_not, ev_ite, ev_tup, ev_lst, ev_call, ev_bi, ev_isi, ev_idx, ev_rev, ev_nil, ev_cons, ev_cut, ev_oN, ev_oS, ev_lzip, ev_dget, ev_lrange, ev_sset, ev_meth, mth_count, mth_index, mth_join, mth_split, ev_iL, ev_iT, ev_iS, ev_r1, ev_r2, ev_r3, ev_zip, ev_enum, ev_cN, ev_cS, ev_comp, two_ok, two_exn, one_ok, one_exn, many_ok, many_exn, consR_ok, consR_exn, andP_t, andP_f, orP_t, orP_f, notP_ok, notP_exn, chP_t, chP_f, chQ_ok, iteP_t, iteP_f, cutP_ok, oP_ok, itP_ok, itP2_ok, itP3_ok, cP_ok, listR_ok, retP_ok, pick_t, pick_f, pick_exn, exP_ok, exP_exn, setP_ok, setP_exn, forP_ok, view, shSl, lk, List.map_cons, List.map_nil, List.length_cons, List.length_nil, List.append_nil, List.nil_append, List.cons_append, List.getElem?_cons_zero, List.getElem?_cons_succ, List.set_cons_zero, List.set_cons_succ, List.set_nil, List.replicate_zero, List.replicate_succ, Nat.sub_self, Nat.zero_add, Nat.reduceAdd, Nat.reduceSub, Bop.fn, Cop.fn, Bi.fn, add_ii, add_ll, add_tt, sub_ii, mul_ii, div_ii, mod_ii, lt_ii, le_ii, gt_ii, ge_ii, is_n, is_t, is_i, isnot_n, isnot_t, isnot_i, isi_i, isi_b, isi_n, isi_s, isi_l, isi_t, isi, DW.len_l, DW.len_t, DW.len_c, tuple_l, tuple_t, list_l, list_t, int_i, int_b, neg_i, idx_l, idx_t, idx_c, ofO_some, rev_l, cut_l, cut_t, lof_l, tof_t, sof_l, sof_t, lzipS, zipS, enumS, R.bind_ok, if_true, if_false, ite_true, ite_false, Bool.not_true, Bool.not_false, bind_nm, bind_tp, bind_nil, bind_cons, DW.scal, DW.wipeD, decide_eq_true h1, decide_eq_true h2]
        rw [mkL_ok (by simp)]
        simp -implicitDefEqProofs only [ss_cons, ss_nil, st_ret, st_retN, st_pass, st_expr, st_ife, st_set, st_setV, st_asg, st_loop, st_ext, st_put, st_ownD, st_while, st_own, st_app, st_appV, st_raise, st_try, tryP_ok, tryP_exn, at_nx, at_rt, at_exn, endP_nx, endP_rt, endP_exn, ev_var, ev_int, ev_str, ev_bl, ev_non, ev_gint, ev_gstr, ev_bin, ev_neg, ev_cmp, ev_chain, ev_and, ev_or, ev_not, ev_ite, ev_tup, ev_lst, ev_call, ev_bi, ev_isi, ev_idx, ev_rev, ev_nil, ev_cons, ev_cut, ev_oN, ev_oS, ev_lzip, ev_dget, ev_lrange, ev_sset, ev_meth, mth_count, mth_index, mth_join, mth_split, ev_iL, ev_iT, ev_iS, ev_r1, ev_r2, ev_r3, ev_zip, ev_enum, ev_cN, ev_cS, ev_comp, two_ok, two_exn, one_ok, one_exn, many_ok, many_exn, consR_ok, consR_exn, andP_t, andP_f, orP_t, orP_f, notP_ok, notP_exn, chP_t, chP_f, chQ_ok, iteP_t, iteP_f, cutP_ok, oP_ok, itP_ok, itP2_ok, itP3_ok, cP_ok, listR_ok, retP_ok, pick_t, pick_f, pick_exn, exP_ok, exP_exn, setP_ok, setP_exn, forP_ok, view, shSl, lk, List.map_cons, List.map_nil, List.length_cons, List.length_nil, List.append_nil, List.nil_append, List.cons_append, List.getElem?_cons_zero, List.getElem?_cons_succ, List.set_cons_zero, List.set_cons_succ, List.set_nil, List.replicate_zero, List.replicate_succ, Nat.sub_self, Nat.zero_add, Nat.reduceAdd, Nat.reduceSub, Bop.fn, Cop.fn, Bi.fn, add_ii, add_ll, add_tt, sub_ii, mul_ii, div_ii, mod_ii, lt_ii, le_ii, gt_ii, ge_ii, is_n, is_t, is_i, isnot_n, isnot_t, isnot_i, isi_i, isi_b, isi_n, isi_s, isi_l, isi_t, isi, DW.len_l, DW.len_t, DW.len_c, tuple_l, tuple_t, list_l, list_t, int_i, int_b, neg_i, idx_l, idx_t, idx_c, ofO_some, rev_l, cut_l, cut_t, lof_l, tof_t, sof_l, sof_t, lzipS, zipS, enumS, R.bind_ok, if_true, if_false, ite_true, ite_false, Bool.not_true, Bool.not_false, bind_nm, bind_tp, bind_nil, bind_cons, DW.scal, DW.wipeD, times, if_pos h, if_pos (show F ≤ d ∧ d ≤ L from ⟨h1, h2⟩)]; rfl
      · simp -implicitDefEqProofs only [ss_cons, ss_nil, st_ret, st_retN, st_pass, st_expr, st_ife, st_set, st_setV, st_asg, st_loop, st_ext, st_put, st_ownD, st_while, st_own, st_app, st_appV, st_raise, st_try, tryP_ok, tryP_exn, at_nx, at_rt, at_exn, endP_nx, endP_rt, endP_exn, ev_var, ev_int, ev_str, ev_bl, ev_non, ev_gint, ev_gstr, ev_bin, ev_neg, ev_cmp, ev_chain, ev_and, ev_or, ev_not, ev_ite, ev_tup, ev_lst, ev_call, ev_bi, ev_isi, ev_idx, ev_rev, ev_nil, ev_cons, ev_cut, ev_oN, ev_oS, ev_lzip, ev_dget, ev_lrange, ev_sset, ev_meth, mth_count, mth_index, mth_join, mth_split, ev_iL, ev_iT, ev_iS, ev_r1, ev_r2, ev_r3, ev_zip, ev_enum, ev_cN, ev_cS, ev_comp, two_ok, two_exn, one_ok, one_exn, many_ok, many_exn, consR_ok, consR_exn, andP_t, andP_f, orP_t, orP_f, notP_ok, notP_exn, chP_t, chP_f, chQ_ok, iteP_t, iteP_f, cutP_ok, oP_ok, itP_ok, itP2_ok, itP3_ok, cP_ok, listR_ok, retP_ok, pick_t, pick_f, pick_exn, exP_ok, exP_exn, setP_ok, setP_exn, forP_ok, view, shSl, lk, List.map_cons, List.map_nil, List.length_cons, List.length_nil, List.append_nil, List.nil_append, List.cons_append, List.getElem?_cons_zero, List.getElem?_cons_succ, List.set_cons_zero, List.set_cons_succ, List.set_nil, List.replicate_zero, List.replicate_succ, Nat.sub_self, Nat.zero_add, Nat.reduceAdd, Nat.reduceSub, Bop.fn, Cop.fn, Bi.fn, add_ii, add_ll, add_tt, sub_ii, mul_ii, div_ii, mod_ii, lt_ii, le_ii, gt_ii, ge_ii, is_n, is_t, is_i, isnot_n, isnot_t, isnot_i, isi_i, isi_b, isi_n, isi_s, isi_l, isi_t, isi, DW.len_l, DW.len_t, DW.len_c, tuple_l, tuple_t, list_l, list_t, int_i, int_b, neg_i, idx_l, idx_t, idx_c, ofO_some, rev_l, cut_l, cut_t, lof_l, tof_t, sof_l, sof_t, lzipS, zipS, enumS, R.bind_ok, if_true, if_false, ite_true, ite_false, Bool.not_true, Bool.not_false, bind_nm, bind_tp, bind_nil, bind_cons, DW.scal, DW.wipeD, decide_eq_true h1, decide_eq_false h2]
        rw [mkL_ok (by simp)]
        simp -implicitDefEqProofs only [ss_cons, ss_nil, st_ret, st_retN, st_pass, st_expr, st_ife, st_set, st_setV, st_asg, st_loop, st_ext, st_put, st_ownD, st_while, st_own, st_app, st_appV, st_raise, st_try, tryP_ok, tryP_exn, at_nx, at_rt, at_exn, endP_nx, endP_rt, endP_exn, ev_var, ev_int, ev_str, ev_bl, ev_non, ev_gint, ev_gstr, ev_bin, ev_neg, ev_cmp, ev_chain, ev_and, ev_or, ev_not, ev_ite, ev_tup, ev_lst, ev_call, ev_bi, ev_isi, ev_idx, ev_rev, ev_nil, ev_cons, ev_cut, ev_oN, ev_oS, ev_lzip, ev_dget, ev_lrange, ev_sset, ev_meth, mth_count, mth_index, mth_join, mth_split, ev_iL, ev_iT, ev_iS, ev_r1, ev_r2, ev_r3, ev_zip, ev_enum, ev_cN, ev_cS, ev_comp, two_ok, two_exn, one_ok, one_exn, many_ok, many_exn, consR_ok, consR_exn, andP_t, andP_f, orP_t, orP_f, notP_ok, notP_exn, chP_t, chP_f, chQ_ok, iteP_t, iteP_f, cutP_ok, oP_ok, itP_ok, itP2_ok, itP3_ok, cP_ok, listR_ok, retP_ok, pick_t, pick_f, pick_exn, exP_ok, exP_exn, setP_ok, setP_exn, forP_ok, view, shSl, lk, List.map_cons, List.map_nil, List.length_cons, List.length_nil, List.append_nil, List.nil_append, List.cons_append, List.getElem?_cons_zero, List.getElem?_cons_succ, List.set_cons_zero, List.set_cons_succ, List.set_nil, List.replicate_zero, List.replicate_succ, Nat.sub_self, Nat.zero_add, Nat.reduceAdd, Nat.reduceSub, Bop.fn, Cop.fn, Bi.fn, add_ii, add_ll, add_tt, sub_ii, mul_ii, div_ii, mod_ii, lt_ii, le_ii, gt_ii, ge_ii, is_n, is_t, is_i, isnot_n, isnot_t, isnot_i, isi_i, isi_b, isi_n, isi_s, isi_l, isi_t, isi, DW.len_l, DW.len_t, DW.len_c, tuple_l, tuple_t, list_l, list_t, int_i, int_b, neg_i, idx_l, idx_t, idx_c, ofO_some, rev_l, cut_l, cut_t, lof_l, tof_t, sof_l, sof_t, lzipS, zipS, enumS, R.bind_ok, if_true, if_false, ite_true, ite_false, Bool.not_true, Bool.not_false, bind_nm, bind_tp, bind_nil, bind_cons, DW.scal, DW.wipeD, times, if_pos h, if_neg (show ¬ (F ≤ d ∧ d ≤ L) from fun z => h2 z.2)]; rfl
    · simp -implicitDefEqProofs only [ss_cons, ss_nil, st_ret, st_retN, st_pass, st_expr, st_ife, st_set, st_setV, st_asg, st_loop, st_ext, st_put, st_ownD, st_while, st_own, st_app, st_appV, st_raise, st_try, tryP_ok, tryP_exn, at_nx, at_rt, at_exn, endP_nx, endP_rt, endP_exn, ev_var, ev_int, ev_str, ev_bl, ev_non, ev_gint, ev_gstr, ev_bin, ev_neg, ev_cmp, ev_chain, ev_and, ev_or, ev_not, ev_ite, ev_tup, ev_lst, ev_call, ev_bi, ev_isi, ev_idx, ev_rev, ev_nil, ev_cons, ev_cut, ev_oN, ev_oS, ev_lzip, ev_dget, ev_lrange, ev_sset, ev_meth, mth_count, mth_index, mth_join, mth_split, ev_iL, ev_iT, ev_iS, ev_r1, ev_r2, ev_r3, ev_zip, ev_enum, ev_cN, ev_cS, ev_comp, two_ok, two_exn, one_ok, one_exn, many_ok, many_exn, consR_ok, consR_exn, andP_t, andP_f, orP_t, orP_f, notP_ok, notP_exn, chP_t, chP_f, chQ_ok, iteP_t, iteP_f, cutP_ok, oP_ok, itP_ok, itP2_ok, itP3_ok, cP_ok, listR_ok, retP_ok, pick_t, pick_f, pick_exn, exP_ok, exP_exn, setP_ok, setP_exn, forP_ok, view, shSl, lk, List.map_cons, List.map_nil, List.length_cons, List.length_nil, List.append_nil, List.nil_append, List.cons_append, List.getElem?_cons_zero, List.getElem?_cons_succ, List.set_cons_zero, List.set_cons_succ, List.set_nil, List.replicate_zero, List.replicate_succ, Nat.sub_self, Nat.zero_add, Nat.reduceAdd, Nat.reduceSub, Bop.fn, Cop.fn, Bi.fn, add_ii, add_ll, add_tt, sub_ii, mul_ii, div_ii, mod_ii, lt_ii, le_ii, gt_ii, ge_ii, is_n, is_t, is_i, isnot_n, isnot_t, isnot_i, isi_i, isi_b, isi_n, isi_s, isi_l, isi_t, isi, DW.len_l, DW.len_t, DW.len_c, tuple_l, tuple_t, list_l, list_t, int_i, int_b, neg_i, idx_l, idx_t, idx_c, ofO_some, rev_l, cut_l, cut_t, lof_l, tof_t, sof_l, sof_t, lzipS, zipS, enumS, R.bind_ok, if_true, if_false, ite_true, ite_false, Bool.not_true, Bool.not_false, bind_nm, bind_tp, bind_nil, bind_cons, DW.scal, DW.wipeD, decide_eq_false h1]
      rw [mkL_ok (by simp)]
      simp -implicitDefEqProofs only [ss_cons, ss_nil, st_ret, st_retN, st_pass, st_expr, st_ife, st_set, st_setV, st_asg, st_loop, st_ext, st_put, st_ownD, st_while, st_own, st_app, st_appV, st_raise, st_try, tryP_ok, tryP_exn, at_nx, at_rt, at_exn, endP_nx, endP_rt, endP_exn, ev_var, ev_int, ev_str, ev_bl, ev_non, ev_gint, ev_gstr, ev_bin, ev_neg, ev_cmp, ev_chain, ev_and, ev_or, ev_not, ev_ite, ev_tup, ev_lst, ev_call, ev_bi, ev_isi, ev_idx, ev_rev, ev_nil, ev_cons, ev_cut, ev_oN, ev_oS, ev_lzip, ev_dget, ev_lrange, ev_sset, ev_meth, mth_count, mth_index, mth_join, mth_split, ev_iL, ev_iT, ev_iS, ev_r1, ev_r2, ev_r3, ev_zip, ev_enum, ev_cN, ev_cS, ev_comp, two_ok, two_exn, one_ok, one_exn, many_ok, many_exn, consR_ok, consR_exn, andP_t, andP_f, orP_t, orP_f, notP_ok, notP_exn, chP_t, chP_f, chQ_ok, iteP_t, iteP_f, cutP_ok, oP_ok, itP_ok, itP2_ok, itP3_ok, cP_ok, listR_ok, retP_ok, pick_t, pick_f, pick_exn, exP_ok, exP_exn, setP_ok, setP_exn, forP_ok, view, shSl, lk, List.map_cons, List.map_nil, List.length_cons, List.length_nil, List.append_nil, List.nil_append, List.cons_append, List.getElem?_cons_zero, List.getElem?_cons_succ, List.set_cons_zero, List.set_cons_succ, List.set_nil, List.replicate_zero, List.replicate_succ, Nat.sub_self, Nat.zero_add, Nat.reduceAdd, Nat.reduceSub, Bop.fn, Cop.fn, Bi.fn, add_ii, add_ll, add_tt, sub_ii, mul_ii, div_ii, mod_ii, lt_ii, le_ii, gt_ii, ge_ii, is_n, is_t, is_i, isnot_n, isnot_t, isnot_i, isi_i, isi_b, isi_n, isi_s, isi_l, isi_t, isi, DW.len_l, DW.len_t, DW.len_c, tuple_l, tuple_t, list_l, list_t, int_i, int_b, neg_i, idx_l, idx_t, idx_c, ofO_some, rev_l, cut_l, cut_t, lof_l, tof_t, sof_l, sof_t, lzipS, zipS, enumS, R.bind_ok, if_true, if_false, ite_true, ite_false, Bool.not_true, Bool.not_false, bind_nm, bind_tp, bind_nil, bind_cons, DW.scal, DW.wipeD, times, if_pos h, if_neg (show ¬ (F ≤ d ∧ d ≤ L) from fun z => h1 z.1)]; rfl
  · have hp : 0 < e := by omega
    obtain ⟨s1, s2, s3, s4⟩ := start_facts (d := d) (F := F) hp
    have hl := times_len (d := d) (F := F) (L := L) e0 F0 L1
    have es : d + (if (F - d + e - 1) / e > 0 then (F - d + e - 1) / e else 0) * e = startOf d e F := rfl
    simp -implicitDefEqProofs only [ss_cons, ss_nil, st_ret, st_retN, st_pass, st_expr, st_ife, st_set, st_setV, st_asg, st_loop, st_ext, st_put, st_ownD, st_while, st_own, st_app, st_appV, st_raise, st_try, tryP_ok, tryP_exn, at_nx, at_rt, at_exn, endP_nx, endP_rt, endP_exn, ev_var, ev_int, ev_str, ev_bl, ev_non, ev_gint, ev_gstr, ev_bin, ev_neg, ev_cmp, ev_chain, ev_and, ev_or, ev_not, ev_ite, ev_tup, ev_lst, ev_call, ev_bi, ev_isi, ev_idx, ev_rev, ev_nil, ev_cons, ev_cut, ev_oN, ev_oS, ev_lzip, ev_dget, ev_lrange, ev_sset, ev_meth, mth_count, mth_index, mth_join, mth_split, ev_iL, ev_iT, ev_iS, ev_r1, ev_r2, ev_r3, ev_zip, ev_enum, ev_cN, ev_cS, ev_comp, two_ok, two_exn, one_ok, one_exn, many_ok, many_exn, consR_ok, consR_exn, andP_t, andP_f, orP_t, orP_f, notP_ok, notP_exn, chP_t, chP_f, chQ_ok, iteP_t, iteP_f, cutP_ok, oP_ok, itP_ok, itP2_ok, itP3_ok, cP_ok, listR_ok, retP_ok, pick_t, pick_f, pick_exn, exP_ok, exP_exn, setP_ok, setP_exn, forP_ok, view, shSl, lk, List.map_cons, List.map_nil, List.length_cons, List.length_nil, List.append_nil, List.nil_append, List.cons_append, List.getElem?_cons_zero, List.getElem?_cons_succ, List.set_cons_zero, List.set_cons_succ, List.set_nil, List.replicate_zero, List.replicate_succ, Nat.sub_self, Nat.zero_add, Nat.reduceAdd, Nat.reduceSub, Bop.fn, Cop.fn, Bi.fn, add_ii, add_ll, add_tt, sub_ii, mul_ii, div_ii, mod_ii, lt_ii, le_ii, gt_ii, ge_ii, is_n, is_t, is_i, isnot_n, isnot_t, isnot_i, isi_i, isi_b, isi_n, isi_s, isi_l, isi_t, isi, DW.len_l, DW.len_t, DW.len_c, tuple_l, tuple_t, list_l, list_t, int_i, int_b, neg_i, idx_l, idx_t, idx_c, ofO_some, rev_l, cut_l, cut_t, lof_l, tof_t, sof_l, sof_t, lzipS, zipS, enumS, R.bind_ok, if_true, if_false, ite_true, ite_false, Bool.not_true, Bool.not_false, bind_nm, bind_tp, bind_nil, bind_cons, DW.scal, DW.wipeD, eq_int, decide_eq_false h]
    rw [if_pos ⟨hp, by omega⟩]
    simp -implicitDefEqProofs only [ss_cons, ss_nil, st_ret, st_retN, st_pass, st_expr, st_ife, st_set, st_setV, st_asg, st_loop, st_ext, st_put, st_ownD, st_while, st_own, st_app, st_appV, st_raise, st_try, tryP_ok, tryP_exn, at_nx, at_rt, at_exn, endP_nx, endP_rt, endP_exn, ev_var, ev_int, ev_str, ev_bl, ev_non, ev_gint, ev_gstr, ev_bin, ev_neg, ev_cmp, ev_chain, ev_and, ev_or, ev_not, ev_ite, ev_tup, ev_lst, ev_call, ev_bi, ev_isi, ev_idx, ev_rev, ev_nil, ev_cons, ev_cut, ev_oN, ev_oS, ev_lzip, ev_dget, ev_lrange, ev_sset, ev_meth, mth_count, mth_index, mth_join, mth_split, ev_iL, ev_iT, ev_iS, ev_r1, ev_r2, ev_r3, ev_zip, ev_enum, ev_cN, ev_cS, ev_comp, two_ok, two_exn, one_ok, one_exn, many_ok, many_exn, consR_ok, consR_exn, andP_t, andP_f, orP_t, orP_f, notP_ok, notP_exn, chP_t, chP_f, chQ_ok, iteP_t, iteP_f, cutP_ok, oP_ok, itP_ok, itP2_ok, itP3_ok, cP_ok, listR_ok, retP_ok, pick_t, pick_f, pick_exn, exP_ok, exP_exn, setP_ok, setP_exn, forP_ok, view, shSl, lk, List.map_cons, List.map_nil, List.length_cons, List.length_nil, List.append_nil, List.nil_append, List.cons_append, List.getElem?_cons_zero, List.getElem?_cons_succ, List.set_cons_zero, List.set_cons_succ, List.set_nil, List.replicate_zero, List.replicate_succ, Nat.sub_self, Nat.zero_add, Nat.reduceAdd, Nat.reduceSub, Bop.fn, Cop.fn, Bi.fn, add_ii, add_ll, add_tt, sub_ii, mul_ii, div_ii, mod_ii, lt_ii, le_ii, gt_ii, ge_ii, is_n, is_t, is_i, isnot_n, isnot_t, isnot_i, isi_i, isi_b, isi_n, isi_s, isi_l, isi_t, isi, DW.len_l, DW.len_t, DW.len_c, tuple_l, tuple_t, list_l, list_t, int_i, int_b, neg_i, idx_l, idx_t, idx_c, ofO_some, rev_l, cut_l, cut_t, lof_l, tof_t, sof_l, sof_t, lzipS, zipS, enumS, R.bind_ok, if_true, if_false, ite_true, ite_false, Bool.not_true, Bool.not_false, bind_nm, bind_tp, bind_nil, bind_cons, DW.scal, DW.wipeD, mx]
    rw [if_pos (.inr ⟨by omega, by omega⟩)]
    simp -implicitDefEqProofs only [ss_cons, ss_nil, st_ret, st_retN, st_pass, st_expr, st_ife, st_set, st_setV, st_asg, st_loop, st_ext, st_put, st_ownD, st_while, st_own, st_app, st_appV, st_raise, st_try, tryP_ok, tryP_exn, at_nx, at_rt, at_exn, endP_nx, endP_rt, endP_exn, ev_var, ev_int, ev_str, ev_bl, ev_non, ev_gint, ev_gstr, ev_bin, ev_neg, ev_cmp, ev_chain, ev_and, ev_or, ev_not, ev_ite, ev_tup, ev_lst, ev_call, ev_bi, ev_isi, ev_idx, ev_rev, ev_nil, ev_cons, ev_cut, ev_oN, ev_oS, ev_lzip, ev_dget, ev_lrange, ev_sset, ev_meth, mth_count, mth_index, mth_join, mth_split, ev_iL, ev_iT, ev_iS, ev_r1, ev_r2, ev_r3, ev_zip, ev_enum, ev_cN, ev_cS, ev_comp, two_ok, two_exn, one_ok, one_exn, many_ok, many_exn, consR_ok, consR_exn, andP_t, andP_f, orP_t, orP_f, notP_ok, notP_exn, chP_t, chP_f, chQ_ok, iteP_t, iteP_f, cutP_ok, oP_ok, itP_ok, itP2_ok, itP3_ok, cP_ok, listR_ok, retP_ok, pick_t, pick_f, pick_exn, exP_ok, exP_exn, setP_ok, setP_exn, forP_ok, view, shSl, lk, List.map_cons, List.map_nil, List.length_cons, List.length_nil, List.append_nil, List.nil_append, List.cons_append, List.getElem?_cons_zero, List.getElem?_cons_succ, List.set_cons_zero, List.set_cons_succ, List.set_nil, List.replicate_zero, List.replicate_succ, Nat.sub_self, Nat.zero_add, Nat.reduceAdd, Nat.reduceSub, Bop.fn, Cop.fn, Bi.fn, add_ii, add_ll, add_tt, sub_ii, mul_ii, div_ii, mod_ii, lt_ii, le_ii, gt_ii, ge_ii, is_n, is_t, is_i, isnot_n, isnot_t, isnot_i, isi_i, isi_b, isi_n, isi_s, isi_l, isi_t, isi, DW.len_l, DW.len_t, DW.len_c, tuple_l, tuple_t, list_l, list_t, int_i, int_b, neg_i, idx_l, idx_t, idx_c, ofO_some, rev_l, cut_l, cut_t, lof_l, tof_t, sof_l, sof_t, lzipS, zipS, enumS, R.bind_ok, if_true, if_false, ite_true, ite_false, Bool.not_true, Bool.not_false, bind_nm, bind_tp, bind_nil, bind_cons, DW.scal, DW.wipeD, es]
    have r3 : range3 (.int (startOf d e F)) (.int (L + 1)) (.int e) = .ok (nms (times d e F L)) := by
      show (if e ≠ 0 ∧ e.natAbs < 1073741824 ∧ Builtin.Range.small (startOf d e F) (L + 1) e = true then R.ok (stepTo (startOf d e F) e (Builtin.Range.rangeSize (startOf d e F) (L + 1) e).toNat) else .bad) = _
      rw [if_pos ⟨h, by omega, small_up hp (by omega) (by omega) (by omega) (by omega) (by omega)⟩, times, if_neg h, nms, List.map_map]; rfl
    rw [r3]
    have : lr (.ok (nms (times d e F L))) = .ok (.list (nms (times d e F L))) := if_pos (by rw [nms_len]; omega)
    rw [this]
    simp -implicitDefEqProofs only [ss_cons, ss_nil, st_ret, st_retN, st_pass, st_expr, st_ife, st_set, st_setV, st_asg, st_loop, st_ext, st_put, st_ownD, st_while, st_own, st_app, st_appV, st_raise, st_try, tryP_ok, tryP_exn, at_nx, at_rt, at_exn, endP_nx, endP_rt, endP_exn, ev_var, ev_int, ev_str, ev_bl, ev_non, ev_gint, ev_gstr, ev_bin, ev_neg, ev_cmp, ev_chain, ev_and, ev_or, ev_not, ev_ite, ev_tup, ev_lst, ev_call, ev_bi, ev_isi, ev_idx, ev_rev, ev_nil, ev_cons, ev_cut, ev_oN, ev_oS, ev_lzip, ev_dget, ev_lrange, ev_sset, ev_meth, mth_count, mth_index, mth_join, mth_split, ev_iL, ev_iT, ev_iS, ev_r1, ev_r2, ev_r3, ev_zip, ev_enum, ev_cN, ev_cS, ev_comp, two_ok, two_exn, one_ok, one_exn, many_ok, many_exn, consR_ok, consR_exn, andP_t, andP_f, orP_t, orP_f, notP_ok, notP_exn, chP_t, chP_f, chQ_ok, iteP_t, iteP_f, cutP_ok, oP_ok, itP_ok, itP2_ok, itP3_ok, cP_ok, listR_ok, retP_ok, pick_t, pick_f, pick_exn, exP_ok, exP_exn, setP_ok, setP_exn, forP_ok, view, shSl, lk, List.map_cons, List.map_nil, List.length_cons, List.length_nil, List.append_nil, List.nil_append, List.cons_append, List.getElem?_cons_zero, List.getElem?_cons_succ, List.set_cons_zero, List.set_cons_succ, List.set_nil, List.replicate_zero, List.replicate_succ, Nat.sub_self, Nat.zero_add, Nat.reduceAdd, Nat.reduceSub, Bop.fn, Cop.fn, Bi.fn, add_ii, add_ll, add_tt, sub_ii, mul_ii, div_ii, mod_ii, lt_ii, le_ii, gt_ii, ge_ii, is_n, is_t, is_i, isnot_n, isnot_t, isnot_i, isi_i, isi_b, isi_n, isi_s, isi_l, isi_t, isi, DW.len_l, DW.len_t, DW.len_c, tuple_l, tuple_t, list_l, list_t, int_i, int_b, neg_i, idx_l, idx_t, idx_c, ofO_some, rev_l, cut_l, cut_t, lof_l, tof_t, sof_l, sof_t, lzipS, zipS, enumS, R.bind_ok, if_true, if_false, ite_true, ite_false, Bool.not_true, Bool.not_false, bind_nm, bind_tp, bind_nil, bind_cons, DW.scal, DW.wipeD]
end DW
/-! Plans drawn, and what is told. -/
namespace DW
open PySem L2
def n_told : List Str := ["plan", "first", "last", "rows", "deed", "time"]
def p_told : List Str := ["plan", "first", "last"]
def e_told_c1 : Ex := .comp (.tup (.cons (.var 5) (.cons (.idx (.var 4) (.int 0)) (.nil)))) (.nm 5) (.list (.call "times_of" 3 f_times_of (.cons (.var 4) (.cons (.var 1) (.cons (.var 2) (.nil)))))) .none [("time", 5)]
def b_told_l1 : Ss := .cons (.ext 3 (e_told_c1)) (.nil)
def b_told : Ss := .cons (.expr (.call "need_plan" 1 f_need_plan (.cons (.var 0) (.nil)))) (.cons (.expr (.call "need_span" 2 f_need_span (.cons (.var 1) (.cons (.var 2) (.nil))))) (.cons (.own 3 (.nil)) (.cons (.loop (.nm 4) (.tup (.var 0)) (b_told_l1)) (.cons (.ret (.bi .sorted (.cons (.var 3) (.nil)))) (.nil)))))
def f_told : List D → R D := runD 6 b_told

def n_law_name : List Str := ["script", "at", "k"]
def p_law_name : List Str := ["script", "at"]
def e_law_name_c1 : Ex := .comp (.idx (.str "abz") (.call "_law_drawn" 3 f_law_drawn (.cons (.var 0) (.cons (.bin .add (.bin .add (.var 1) (.int 1)) (.var 2)) (.cons (.int 3) (.nil)))))) (.nm 2) (.r1 (.bin .add (.int 1) (.call "_law_drawn" 3 f_law_drawn (.cons (.var 0) (.cons (.var 1) (.cons (.int 3) (.nil))))))) .none [("k", 2)]
def b_law_name : Ss := .cons (.ret (.meth .join (.str "") (e_law_name_c1))) (.nil)
def f_law_name : List D → R D := runD 3 b_law_name

def n_law_plan : List Str := ["script", "at", "most", "low", "high", "made", "k", "name", "due"]
def p_law_plan : List Str := ["script", "at", "most", "low", "high"]
def b_law_plan_l1 : Ss := .cons (.set 7 (.call "_law_name" 2 f_law_name (.cons (.var 0) (.cons (.bin .add (.bin .add (.var 1) (.int 1)) (.bin .mul (.int 8) (.var 6))) (.nil))))) (.cons (.set 8 (.bin .add (.var 3) (.call "_law_drawn" 3 f_law_drawn (.cons (.var 0) (.cons (.bin .add (.bin .add (.var 1) (.int 6)) (.bin .mul (.int 8) (.var 6))) (.cons (.bin .add (.bin .sub (.var 4) (.var 3)) (.int 1)) (.nil))))))) (.cons (.put 5 (.var 7) (.tup (.cons (.var 7) (.cons (.var 8) (.cons (.idx (.lst (.cons (.int 0) (.cons (.int 0) (.cons (.int 1) (.cons (.int 2) (.cons (.int 3) (.cons (.int 7) (.cons (.int 50) (.nil))))))))) (.call "_law_drawn" 3 f_law_drawn (.cons (.var 0) (.cons (.bin .add (.bin .add (.var 1) (.int 7)) (.bin .mul (.int 8) (.var 6))) (.cons (.int 7) (.nil)))))) (.nil)))))) (.nil)))
def e_law_plan_c1 : Ex := .comp (.dget (.var 5) (.var 7)) (.nm 7) (.list (.bi .sorted (.cons (.var 5) (.nil)))) .none [("name", 7)]
def b_law_plan : Ss := .cons (.ownD 5) (.cons (.loop (.nm 6) (.r1 (.call "_law_drawn" 3 f_law_drawn (.cons (.var 0) (.cons (.var 1) (.cons (.bin .add (.var 2) (.int 1)) (.nil)))))) (b_law_plan_l1)) (.cons (.ret (.bi .tuple (.cons (e_law_plan_c1) (.nil)))) (.nil)))
def f_law_plan : List D → R D := runD 9 b_law_plan


/-! ### names -/
theorem join_tl (ys : List Str) : (Txt.join "" ys).cps.toList = (ys.map fun y => y.cps.toList).flatten := by
  have h1 : Txt.join "" ys = Str.join "" ys := StrLaws.glued_eq_join _ _
  have h := TL.tl_join "" ys
  have e : ∀ l : List (List Nat), TL.joinL [] l = l.flatten := by
    intro l
    induction l with
    | nil => rfl
    | cons p l ih =>
      cases l with
      | nil => simp [TL.joinL]
      | cons q r => rw [TL.joinL, ih]; simp
  rw [h1]
  have h2 : (Str.join "" ys).cps.toList = TL.joinL [] (ys.map fun y => y.cps.toList) := h
  rw [h2, e]
theorem strsOf_map : ∀ ys : List Str, strsOf (ys.map .str) = some ys
  | [] => rfl
  | y :: ys => by rw [List.map_cons, strsOf, strsOf_map ys]; rfl
theorem sign3 (v : Int) (h0 : 0 ≤ v) (h1 : v < 3) : ∃ c, dIdx (.str "abz") (.int v) = .ok (.str ⟨#[c]⟩) ∧ c ∈ signs.cps.toList := by
  have hz : (("abz" : Str).length ≤ sizeLine) := by rw [sizeLine_eq]; decide +kernel
  have e : ∀ i : Int, dIdx (.str "abz") (.int i) = ofO ((atI ("abz" : Str).cps.toList i).map fun c => (.str ⟨#[c]⟩ : D)) := fun i => by
    show (if ("abz" : Str).length ≤ sizeLine then ofO ((atI ("abz" : Str).cps.toList i).map fun c => (.str ⟨#[c]⟩ : D)) else .bad) = _
    rw [if_pos hz]
  have h3 : v = 0 ∨ v = 1 ∨ v = 2 := by omega
  rcases h3 with rfl | rfl | rfl
  · exact ⟨97, by rw [e]; rfl, by decide +kernel⟩
  · exact ⟨98, by rw [e]; rfl, by decide +kernel⟩
  · exact ⟨122, by rw [e]; rfl, by decide +kernel⟩
theorem law_name_ok {ns : List Int} (hn : ns.length ≤ 63) (a : Int) : ∃ s, f_law_name [scriptD ns, .int a] = .ok (.str s) ∧ NameOk s := by
  obtain ⟨dr, w0, w1⟩ := drawV_ok hn a 3 (by omega)
  generalize drawV ns a 3 = w at *
  have hx : ∀ k : Nat, ∃ c, dIdx (.str "abz") (.int (drawV ns (a + 1 + (k : Nat)) 3)) = .ok (.str ⟨#[c]⟩) ∧ c ∈ signs.cps.toList := fun k => by
    obtain ⟨_, v0, v1⟩ := drawV_ok hn (a + 1 + (k : Nat)) 3 (by omega)
    exact sign3 _ v0 v1
  obtain ⟨c, hc⟩ := Classical.axiomOfChoice hx
  generalize hys : (List.range (1 + w).toNat).map (fun k : Nat => (⟨#[c k]⟩ : Str)) = ys
  have hc1 : ∀ A : Sl, compG (.idx (.str "abz") (.call "_law_drawn" 3 f_law_drawn (.cons (.var 0) (.cons (.bin .add (.bin .add (.var 1) (.int 1)) (.var 2)) (.cons (.int 3) (.nil)))))) (.nm 2) .none [.sh (scriptD ns), .sh (.int a), .un] (upTo 0 (1 + w).toNat) = .ok (ys.map .str) := fun A => by
    rw [← hys, List.map_map]
    unfold upTo
    refine compG_map (fun i : Nat => (PyData.int (0 + (i : Nat)) : D)) _ _ fun k hk => ⟨_, rfl, ?_⟩
    obtain ⟨dv, _, _⟩ := drawV_ok hn (a + 1 + (k : Nat)) 3 (by omega)
    simp -implicitDefEqProofs only [ss_cons, ss_nil, st_ret, st_retN, st_pass, st_expr, st_ife, st_set, st_setV, st_asg, st_loop, st_ext, st_put, st_ownD, st_while, st_own, st_app, st_appV, st_raise, st_try, tryP_ok, tryP_exn, at_nx, at_rt, at_exn, endP_nx, endP_rt, endP_exn, ev_var, ev_int, ev_str, ev_bl, ev_non, ev_gint, ev_gstr, ev_bin, ev_neg, ev_cmp, ev_chain, ev_and, ev_or, ev_not, ev_ite, ev_tup, ev_lst, ev_call, ev_bi, ev_isi, ev_idx, ev_rev, ev_nil, ev_cons, ev_cut, ev_oN, ev_oS, ev_lzip, ev_dget, ev_lrange, ev_sset, ev_meth, mth_count, mth_index, mth_join, mth_split, ev_iL, ev_iT, ev_iS, ev_r1, ev_r2, ev_r3, ev_zip, ev_enum, ev_cN, ev_cS, ev_comp, two_ok, two_exn, one_ok, one_exn, many_ok, many_exn, consR_ok, consR_exn, andP_t, andP_f, orP_t, orP_f, notP_ok, notP_exn, chP_t, chP_f, chQ_ok, iteP_t, iteP_f, cutP_ok, oP_ok, itP_ok, itP2_ok, itP3_ok, cP_ok, listR_ok, retP_ok, pick_t, pick_f, pick_exn, exP_ok, exP_exn, setP_ok, setP_exn, forP_ok, view, shSl, lk, List.map_cons, List.map_nil, List.length_cons, List.length_nil, List.append_nil, List.nil_append, List.cons_append, List.getElem?_cons_zero, List.getElem?_cons_succ, List.set_cons_zero, List.set_cons_succ, List.set_nil, List.replicate_zero, List.replicate_succ, Nat.sub_self, Nat.zero_add, Nat.reduceAdd, Nat.reduceSub, Bop.fn, Cop.fn, Bi.fn, add_ii, add_ll, add_tt, sub_ii, mul_ii, div_ii, mod_ii, lt_ii, le_ii, gt_ii, ge_ii, is_n, is_t, is_i, isnot_n, isnot_t, isnot_i, isi_i, isi_b, isi_n, isi_s, isi_l, isi_t, isi, DW.len_l, DW.len_t, DW.len_c, tuple_l, tuple_t, list_l, list_t, int_i, int_b, neg_i, idx_l, idx_t, idx_c, ofO_some, rev_l, cut_l, cut_t, lof_l, tof_t, sof_l, sof_t, lzipS, zipS, enumS, R.bind_ok, if_true, if_false, ite_true, ite_false, Bool.not_true, Bool.not_false, bind_nm, bind_tp, bind_nil, bind_cons, DW.scal, DW.wipeD, Int.zero_add, dv, (hc k).1]; rfl
  have yl : ys.length = (1 + w).toNat := by rw [← hys, List.length_map, List.length_range]
  have ym : ∀ y ∈ ys, y.length = 1 := fun y hy => by
    rw [← hys] at hy
    obtain ⟨k, _, rfl⟩ := List.mem_map.mp hy
    rfl
  have ysum : (ys.map fun z : Str => z.length).sum = ys.length := by
    have : (ys.map fun z : Str => z.length) = List.replicate ys.length 1 := List.eq_replicate_iff.mpr ⟨by simp, fun b hb => by
      obtain ⟨y, hy, rfl⟩ := List.mem_map.mp hb
      exact ym y hy⟩
    rw [this]; simp
  have jl : dJoin (.str "") (.list (ys.map .str)) = .ok (.str (Txt.join "" ys)) := by
    show (match strsOf (ys.map .str) with
      | some zs => if (zs.map fun z : Str => z.length).sum + zs.length * ("" : Str).length ≤ 16777216 then R.ok (PyData.str (Txt.join "" zs)) else .bad
      | none => .bad) = _
    rw [strsOf_map]
    exact if_pos (by
      have : ("" : Str).length = 0 := rfl
      rw [ysum, this]; omega)
  have tl : (Txt.join "" ys).cps.toList = (List.range (1 + w).toNat).map c := by
    rw [join_tl, ← hys, List.map_map]
    induction List.range (1 + w).toNat with
    | nil => rfl
    | cons x l ih => rw [List.map_cons, List.flatten_cons, ih]; rfl
  refine ⟨Txt.join "" ys, ?_, ?_, ?_, fun d hd => ?_⟩
  · simp -implicitDefEqProofs only [f_law_name, run_eq, b_law_name, e_law_name_c1, ss_cons, ss_nil, st_ret, st_retN, st_pass, st_expr, st_ife, st_set, st_setV, st_asg, st_loop, st_ext, st_put, st_ownD, st_while, st_own, st_app, st_appV, st_raise, st_try, tryP_ok, tryP_exn, at_nx, at_rt, at_exn, endP_nx, endP_rt, endP_exn, ev_var, ev_int, ev_str, ev_bl, ev_non, ev_gint, ev_gstr, ev_bin, ev_neg, ev_cmp, ev_chain, ev_and, ev_or, ev_not, ev_ite, ev_tup, ev_lst, ev_call, ev_bi, ev_isi, ev_idx, ev_rev, ev_nil, ev_cons, ev_cut, ev_oN, ev_oS, ev_lzip, ev_dget, ev_lrange, ev_sset, ev_meth, mth_count, mth_index, mth_join, mth_split, ev_iL, ev_iT, ev_iS, ev_r1, ev_r2, ev_r3, ev_zip, ev_enum, ev_cN, ev_cS, ev_comp, two_ok, two_exn, one_ok, one_exn, many_ok, many_exn, consR_ok, consR_exn, andP_t, andP_f, orP_t, orP_f, notP_ok, notP_exn, chP_t, chP_f, chQ_ok, iteP_t, iteP_f, cutP_ok, oP_ok, itP_ok, itP2_ok, itP3_ok, cP_ok, listR_ok, retP_ok, pick_t, pick_f, pick_exn, exP_ok, exP_exn, setP_ok, setP_exn, forP_ok, view, shSl, lk, List.map_cons, List.map_nil, List.length_cons, List.length_nil, List.append_nil, List.nil_append, List.cons_append, List.getElem?_cons_zero, List.getElem?_cons_succ, List.set_cons_zero, List.set_cons_succ, List.set_nil, List.replicate_zero, List.replicate_succ, Nat.sub_self, Nat.zero_add, Nat.reduceAdd, Nat.reduceSub, Bop.fn, Cop.fn, Bi.fn, add_ii, add_ll, add_tt, sub_ii, mul_ii, div_ii, mod_ii, lt_ii, le_ii, gt_ii, ge_ii, is_n, is_t, is_i, isnot_n, isnot_t, isnot_i, isi_i, isi_b, isi_n, isi_s, isi_l, isi_t, isi, DW.len_l, DW.len_t, DW.len_c, tuple_l, tuple_t, list_l, list_t, int_i, int_b, neg_i, idx_l, idx_t, idx_c, ofO_some, rev_l, cut_l, cut_t, lof_l, tof_t, sof_l, sof_t, lzipS, zipS, enumS, R.bind_ok, if_true, if_false, ite_true, ite_false, Bool.not_true, Bool.not_false, bind_nm, bind_tp, bind_nil, bind_cons, DW.scal, DW.wipeD, dr, range1_ok (show -1000000 ≤ 1 + w by omega) (show 1 + w ≤ 1000000 by omega)]
    rw [compP_ok (by rw [upTo_length]; omega), hc1 .un]
    simp -implicitDefEqProofs only [ss_cons, ss_nil, st_ret, st_retN, st_pass, st_expr, st_ife, st_set, st_setV, st_asg, st_loop, st_ext, st_put, st_ownD, st_while, st_own, st_app, st_appV, st_raise, st_try, tryP_ok, tryP_exn, at_nx, at_rt, at_exn, endP_nx, endP_rt, endP_exn, ev_var, ev_int, ev_str, ev_bl, ev_non, ev_gint, ev_gstr, ev_bin, ev_neg, ev_cmp, ev_chain, ev_and, ev_or, ev_not, ev_ite, ev_tup, ev_lst, ev_call, ev_bi, ev_isi, ev_idx, ev_rev, ev_nil, ev_cons, ev_cut, ev_oN, ev_oS, ev_lzip, ev_dget, ev_lrange, ev_sset, ev_meth, mth_count, mth_index, mth_join, mth_split, ev_iL, ev_iT, ev_iS, ev_r1, ev_r2, ev_r3, ev_zip, ev_enum, ev_cN, ev_cS, ev_comp, two_ok, two_exn, one_ok, one_exn, many_ok, many_exn, consR_ok, consR_exn, andP_t, andP_f, orP_t, orP_f, notP_ok, notP_exn, chP_t, chP_f, chQ_ok, iteP_t, iteP_f, cutP_ok, oP_ok, itP_ok, itP2_ok, itP3_ok, cP_ok, listR_ok, retP_ok, pick_t, pick_f, pick_exn, exP_ok, exP_exn, setP_ok, setP_exn, forP_ok, view, shSl, lk, List.map_cons, List.map_nil, List.length_cons, List.length_nil, List.append_nil, List.nil_append, List.cons_append, List.getElem?_cons_zero, List.getElem?_cons_succ, List.set_cons_zero, List.set_cons_succ, List.set_nil, List.replicate_zero, List.replicate_succ, Nat.sub_self, Nat.zero_add, Nat.reduceAdd, Nat.reduceSub, Bop.fn, Cop.fn, Bi.fn, add_ii, add_ll, add_tt, sub_ii, mul_ii, div_ii, mod_ii, lt_ii, le_ii, gt_ii, ge_ii, is_n, is_t, is_i, isnot_n, isnot_t, isnot_i, isi_i, isi_b, isi_n, isi_s, isi_l, isi_t, isi, DW.len_l, DW.len_t, DW.len_c, tuple_l, tuple_t, list_l, list_t, int_i, int_b, neg_i, idx_l, idx_t, idx_c, ofO_some, rev_l, cut_l, cut_t, lof_l, tof_t, sof_l, sof_t, lzipS, zipS, enumS, R.bind_ok, if_true, if_false, ite_true, ite_false, Bool.not_true, Bool.not_false, bind_nm, bind_tp, bind_nil, bind_cons, DW.scal, DW.wipeD, jl]
  · rw [← len_cps, tl, List.length_map, List.length_range]; omega
  · rw [← len_cps, tl, List.length_map, List.length_range]; omega
  · rw [tl] at hd
    obtain ⟨k, _, rfl⟩ := List.mem_map.mp hd
    exact (hc k).2
/-! ### plans -/
structure Good (lo hi : Int) (x : Dd) : Prop where
  ok : DeedOk x
  lo : lo ≤ x.2.1
  hi : x.2.1 ≤ hi
  e : x.2.2 ≤ 50
def entD (x : Dd) : D × D := (.str x.1, deedD x)
theorem key_ent (x : Dd) (n : Str) : (DW.keyOf (entD x).1 = some (.inr n)) ↔ x.1 = n := by
  show some (Sum.inr x.1) = some (Sum.inr n) ↔ _
  constructor
  · intro h; exact Sum.inr.inj (Option.some.inj h)
  · rintro rfl; rfl
theorem put_ents (ps : List Dd) (x : Dd) : ∃ qs : List Dd, putD (ps.map entD) (.inr x.1) (deedD x) = qs.map entD ∧ (∀ q ∈ qs, q = x ∨ q ∈ ps) ∧ qs.length ≤ ps.length + 1 ∧ ((ps.map (·.1)).Nodup → (qs.map (·.1)).Nodup) := by
  unfold putD
  by_cases h : ((ps.map entD).any fun kv => decide (DW.keyOf kv.1 = some (.inr x.1))) = true
  · rw [if_pos h]
    refine ⟨ps.map fun y => if y.1 = x.1 then x else y, ?_, ?_, by rw [List.length_map]; omega, fun nd => ?_⟩
    · rw [List.map_map, List.map_map]
      apply List.map_congr_left
      intro y _
      simp only [Function.comp]
      by_cases e : y.1 = x.1
      · rw [if_pos ((key_ent y x.1).mpr e), if_pos e]
        show (PyData.str y.1, deedD x) = (PyData.str x.1, deedD x)
        rw [e]
      · rw [if_neg (fun z => e ((key_ent y x.1).mp z)), if_neg e]
    · intro q hq
      obtain ⟨y, hy, rfl⟩ := List.mem_map.mp hq
      split
      · exact .inl rfl
      · exact .inr hy
    · rw [List.map_map]
      have : ((fun z : Dd => z.1) ∘ fun y : Dd => if y.1 = x.1 then x else y) = fun y : Dd => y.1 := by
        funext y
        simp only [Function.comp]
        split
        · rename_i e; exact e.symm
        · rfl
      rw [this]; exact nd
  · rw [if_neg h]
    refine ⟨ps ++ [x], by rw [List.map_append]; rfl, fun q hq => ?_, by rw [List.length_append, List.length_singleton]; omega, fun nd => ?_⟩
    · rcases List.mem_append.mp hq with hq | hq
      · exact .inr hq
      · exact .inl (List.mem_singleton.mp hq)
    · rw [List.map_append, List.nodup_append]
      refine ⟨nd, by simp, fun a ha b hb => ?_⟩
      have hb : b = x.1 := by simpa using hb
      subst hb
      rintro rfl
      apply h
      obtain ⟨y, hy, e⟩ := List.mem_map.mp ha
      rw [List.any_map, List.any_eq_true]
      exact ⟨y, hy, decide_eq_true ((key_ent y _).mpr e)⟩
theorem strKeys_ents : ∀ ps : List Dd, strKeys (ps.map entD) = some (ps.map (·.1))
  | [] => rfl
  | x :: ps => by
    show (strKeys (ps.map entD)).map (x.1 :: ·) = _
    rw [strKeys_ents ps]; rfl
theorem okK_ents (ps : List Dd) : okK (ps.map entD) = true := by
  unfold okK
  rw [List.all_map, List.all_eq_true]
  intro x _; rfl
theorem val_ents {n : Str} : ∀ {ps : List Dd} {x : Dd}, (ps.map (·.1)).Nodup → x ∈ ps → x.1 = n → valD (ps.map entD) (.inr n) = some (deedD x)
  | y :: ps, x, nd, hx, hn => by
    unfold valD
    rw [List.map_cons] at nd
    obtain ⟨n1, n2⟩ := List.nodup_cons.mp nd
    by_cases e : y.1 = n
    · rw [List.map_cons, List.find?_cons_of_pos (by exact decide_eq_true ((key_ent y n).mpr e))]
      have : x = y := by
        rcases List.mem_cons.mp hx with h | h
        · exact h
        · exact absurd (List.mem_map.mpr ⟨x, h, by rw [hn, e]⟩) n1
      rw [this]; rfl
    · rw [List.map_cons, List.find?_cons_of_neg (by simp only [decide_eq_true_eq]; exact fun z => e ((key_ent y n).mp z))]
      rcases List.mem_cons.mp hx with h | h
      · rw [← h] at e; exact absurd hn e
      · exact val_ents n2 h hn
/-- what is drawn -/
structure Plan (m : Nat) (lo hi : Int) (ps : List Dd) : Prop where
  good : ∀ x ∈ ps, Good lo hi x
  len : ps.length ≤ m
  ris : ps.Pairwise fun x y => x.1.cps.toList < y.1.cps.toList
theorem rise_of : ∀ {ps : List Dd}, (ps.Pairwise fun x y => x.1.cps.toList < y.1.cps.toList) → rise ps = true
  | [], _ => rfl
  | [x], _ => rfl
  | x :: y :: ps, h => by
    obtain ⟨h1, h2⟩ := List.pairwise_cons.mp h
    have ih := rise_of h2
    unfold rise at ih ⊢
    show (decide (x.1.cps.toList < y.1.cps.toList) && _) = true
    rw [decide_eq_true (h1 y List.mem_cons_self), Bool.true_and]
    exact ih
theorem Plan.rise {m : Nat} {lo hi : Int} {ps : List Dd} (h : Plan m lo hi ps) : rise ps = true := rise_of h.ris
theorem every7 (w : Int) (w0 : 0 ≤ w) (w1 : w < 7) : ∃ e : Int, atI ([.int 0, .int 0, .int 1, .int 2, .int 3, .int 7, .int 50] : List D) w = some (.int e) ∧ 0 ≤ e ∧ e ≤ 50 := by
  obtain ⟨k, rfl⟩ : ∃ k : Nat, w = (k : Int) := ⟨w.toNat, by omega⟩
  match k, w1 with
  | 0, _ => exact ⟨0, rfl, by omega, by omega⟩
  | 1, _ => exact ⟨0, rfl, by omega, by omega⟩
  | 2, _ => exact ⟨1, rfl, by omega, by omega⟩
  | 3, _ => exact ⟨2, rfl, by omega, by omega⟩
  | 4, _ => exact ⟨3, rfl, by omega, by omega⟩
  | 5, _ => exact ⟨7, rfl, by omega, by omega⟩
  | 6, _ => exact ⟨50, rfl, by omega, by omega⟩
  | k + 7, h => omega
theorem plan_loop {ns : List Int} (hn : ns.length ≤ 63) (a lo hi : Int) (M : Sl) (h0 : 0 ≤ lo) (h1 : lo ≤ hi) (h2 : hi ≤ 9000) : ∀ (ks : List Nat) (ps : List Dd) (A B C : Sl), (∀ k ∈ ks, k ≤ 1000) → (∀ x ∈ ps, Good lo hi x) → (ps.map (·.1)).Nodup → ps.length + ks.length ≤ 1000 →
    ∃ (qs : List Dd) (A' B' C' : Sl), forD (.nm 6) (semSs b_law_plan_l1) (ks.map fun k => .int (0 + (k : Nat))) [.sh (scriptD ns), .sh (.int a), M, .sh (.int lo), .sh (.int hi), .od (ps.map entD), A, B, C] = .ok (.nx [.sh (scriptD ns), .sh (.int a), M, .sh (.int lo), .sh (.int hi), .od (qs.map entD), A', B', C']) ∧ (∀ x ∈ qs, Good lo hi x) ∧ (qs.map (·.1)).Nodup ∧ qs.length ≤ ps.length + ks.length
  | [], ps, A, B, C, _, hp, nd, _ => ⟨ps, A, B, C, rfl, hp, nd, by simp⟩
  | k :: ks, ps, A, B, C, hk, hp, nd, hl => by
    rw [List.length_cons] at hl
    have hk0 := hk k List.mem_cons_self
    obtain ⟨s, f1, hs⟩ := law_name_ok hn (a + 1 + 8 * (k : Nat))
    obtain ⟨f2, v0, v1⟩ := drawV_ok hn (a + 6 + 8 * (k : Nat)) (hi - lo + 1) (by omega)
    generalize drawV ns (a + 6 + 8 * (k : Nat)) (hi - lo + 1) = v at *
    obtain ⟨f3, w0, w1⟩ := drawV_ok hn (a + 7 + 8 * (k : Nat)) 7 (by omega)
    generalize drawV ns (a + 7 + 8 * (k : Nat)) 7 = w at *
    obtain ⟨e, f4, e0, e1⟩ := every7 w w0 w1
    have gx : Good lo hi (s, lo + v, e) := ⟨⟨hs, by show 0 ≤ lo + v; omega, by show lo + v ≤ 9999; omega, e0, by show e ≤ 9999; omega⟩, by show lo ≤ lo + v; omega, by show lo + v ≤ hi; omega, e1⟩
    obtain ⟨qs, p1, p2, p3, p4⟩ := put_ents ps (s, lo + v, e)
    obtain ⟨rs, A', B', C', i1, i2, i3, i4⟩ := plan_loop hn a lo hi M h0 h1 h2 ks qs (.sh (.int (0 + (k : Nat)))) (.sh (.str s)) (.sh (.int (lo + v))) (fun j hj => hk j (List.mem_cons_of_mem _ hj)) (fun x hx => (p2 x hx).elim (fun z => by rw [z]; exact gx) (hp x)) (p4 nd) (by omega)
    refine ⟨rs, A', B', C', ?_, i2, i3, by rw [List.length_cons]; omega⟩
    have m8 : ((-(2 ^ 64) < (8 : Int) ∧ (8 : Int) < 2 ^ 64) ∨ (-(2 ^ 64) < ((k : Nat) : Int) ∧ ((k : Nat) : Int) < 2 ^ 64)) = True := eq_true (.inl ⟨by omega, by omega⟩)
    have ml : mkL ([.int 0, .int 0, .int 1, .int 2, .int 3, .int 7, .int 50] : List D) = .ok (.list [.int 0, .int 0, .int 1, .int 2, .int 3, .int 7, .int 50]) := mkL_ok (by simp)
    have mt : mkT ([.str s, .int (lo + v), .int e] : List D) = .ok (deedD (s, lo + v, e)) := mkT_ok (by simp)
    have pp : putP 5 (some (.od (ps.map entD))) (.ok (.str s)) (.ok (deedD (s, lo + v, e))) [.sh (scriptD ns), .sh (.int a), M, .sh (.int lo), .sh (.int hi), .od (ps.map entD), .sh (.int ((k : Nat) : Int)), .sh (.str s), .sh (.int (lo + v))] = .ok (.nx [.sh (scriptD ns), .sh (.int a), M, .sh (.int lo), .sh (.int hi), .od (qs.map entD), .sh (.int ((k : Nat) : Int)), .sh (.str s), .sh (.int (lo + v))]) := by
      rw [putP_s (by rw [List.length_map]; omega)]
      have : putD (ps.map entD) (.inr s) (deedD (s, lo + v, e)) = qs.map entD := p1
      rw [this]; rfl
    rw [List.map_cons, for_cons (δ1 := [.sh (scriptD ns), .sh (.int a), M, .sh (.int lo), .sh (.int hi), .od (ps.map entD), .sh (.int (0 + (k : Nat))), B, C]) rfl]
    have eb : semSs b_law_plan_l1 [.sh (scriptD ns), .sh (.int a), M, .sh (.int lo), .sh (.int hi), .od (ps.map entD), .sh (.int (0 + (k : Nat))), B, C] = .ok (.nx [.sh (scriptD ns), .sh (.int a), M, .sh (.int lo), .sh (.int hi), .od (qs.map entD), .sh (.int (0 + (k : Nat))), .sh (.str s), .sh (.int (lo + v))]) := by
      simp -implicitDefEqProofs only [b_law_plan_l1, ss_cons, ss_nil, st_ret, st_retN, st_pass, st_expr, st_ife, st_set, st_setV, st_asg, st_loop, st_ext, st_put, st_ownD, st_while, st_own, st_app, st_appV, st_raise, st_try, tryP_ok, tryP_exn, at_nx, at_rt, at_exn, endP_nx, endP_rt, endP_exn, ev_var, ev_int, ev_str, ev_bl, ev_non, ev_gint, ev_gstr, ev_bin, ev_neg, ev_cmp, ev_chain, ev_and, ev_or, ev_not, ev_ite, ev_tup, ev_lst, ev_call, ev_bi, ev_isi, ev_idx, ev_rev, ev_nil, ev_cons, ev_cut, ev_oN, ev_oS, ev_lzip, ev_dget, ev_lrange, ev_sset, ev_meth, mth_count, mth_index, mth_join, mth_split, ev_iL, ev_iT, ev_iS, ev_r1, ev_r2, ev_r3, ev_zip, ev_enum, ev_cN, ev_cS, ev_comp, two_ok, two_exn, one_ok, one_exn, many_ok, many_exn, consR_ok, consR_exn, andP_t, andP_f, orP_t, orP_f, notP_ok, notP_exn, chP_t, chP_f, chQ_ok, iteP_t, iteP_f, cutP_ok, oP_ok, itP_ok, itP2_ok, itP3_ok, cP_ok, listR_ok, retP_ok, pick_t, pick_f, pick_exn, exP_ok, exP_exn, setP_ok, setP_exn, forP_ok, view, shSl, lk, List.map_cons, List.map_nil, List.length_cons, List.length_nil, List.append_nil, List.nil_append, List.cons_append, List.getElem?_cons_zero, List.getElem?_cons_succ, List.set_cons_zero, List.set_cons_succ, List.set_nil, List.replicate_zero, List.replicate_succ, Nat.sub_self, Nat.zero_add, Nat.reduceAdd, Nat.reduceSub, Bop.fn, Cop.fn, Bi.fn, add_ii, add_ll, add_tt, sub_ii, mul_ii, div_ii, mod_ii, lt_ii, le_ii, gt_ii, ge_ii, is_n, is_t, is_i, isnot_n, isnot_t, isnot_i, isi_i, isi_b, isi_n, isi_s, isi_l, isi_t, isi, DW.len_l, DW.len_t, DW.len_c, tuple_l, tuple_t, list_l, list_t, int_i, int_b, neg_i, idx_l, idx_t, idx_c, ofO_some, rev_l, cut_l, cut_t, lof_l, tof_t, sof_l, sof_t, lzipS, zipS, enumS, R.bind_ok, if_true, if_false, ite_true, ite_false, Bool.not_true, Bool.not_false, bind_nm, bind_tp, bind_nil, bind_cons, DW.scal, DW.wipeD, Int.zero_add, m8, f1, f2, f3, ml, f4, mt, pp]
    rw [eb, at_nx]
    exact i1
theorem sort_lt {l : List Str} (h : l.Nodup) : (l.mergeSort leS).Pairwise fun a b => a.cps.toList < b.cps.toList := by
  have h1 := List.pairwise_mergeSort leS_trans leS_total l
  have h2 : (l.mergeSort leS).Nodup := (List.mergeSort_perm l leS).nodup_iff.mpr h
  refine (List.Pairwise.and h1 h2).imp fun {a b} hab => ?_
  have h3 : a.cps.toList ≤ b.cps.toList := of_decide_eq_true hab.1
  refine Classical.byContradiction fun hn => hab.2 ?_
  exact leS_anti hab.1 (decide_eq_true (List.not_lt.mp hn))
theorem law_plan_ok {ns : List Int} (hn : ns.length ≤ 63) (a : Int) (m : Nat) (lo hi : Int) (hm : m ≤ 12) (h0 : 0 ≤ lo) (h1 : lo ≤ hi) (h2 : hi ≤ 9000) : ∃ ps, f_law_plan [scriptD ns, .int a, .int (m : Nat), .int lo, .int hi] = .ok (planD ps) ∧ Plan m lo hi ps := by
  obtain ⟨dr, v0, v1⟩ := drawV_ok hn a ((m : Nat) + 1) (by omega)
  generalize drawV ns a ((m : Nat) + 1) = v at *
  obtain ⟨j, rfl⟩ : ∃ j : Nat, v = (j : Int) := ⟨v.toNat, by omega⟩
  obtain ⟨ps, A', B', C', lp, g1, g2, g3⟩ := plan_loop hn a lo hi (.sh (.int (m : Nat))) h0 h1 h2 (List.range j) [] .un .un .un (fun k hk => by have := List.mem_range.mp hk; omega) (by simp) (by simp) (by simp; omega)
  rw [List.length_nil, List.length_range, Nat.zero_add] at g3
  have hx : ∀ n : Str, ∃ x : Dd, n ∈ ps.map (·.1) → x ∈ ps ∧ x.1 = n := fun n => by
    by_cases h : n ∈ ps.map (·.1)
    · obtain ⟨x, hx, e⟩ := List.mem_map.mp h
      exact ⟨x, fun _ => ⟨hx, e⟩⟩
    · exact ⟨("", 0, 0), fun z => absurd z h⟩
  obtain ⟨lup, hlk⟩ := Classical.axiomOfChoice hx
  have mem : ∀ n ∈ (ps.map (·.1)).mergeSort leS, n ∈ ps.map (·.1) := fun n h => (List.mergeSort_perm _ leS).mem_iff.mp h
  refine ⟨((ps.map (·.1)).mergeSort leS).map lup, ?_, fun x hx => ?_, ?_, ?_⟩
  · have rg : range1 (.int (j : Nat)) = .ok ((List.range j).map fun k => .int (0 + (k : Nat))) := by
      have h := range1_ok (show -1000000 ≤ ((j : Nat) : Int) by omega) (show ((j : Nat) : Int) ≤ 1000000 by omega)
      rw [Int.toNat_natCast] at h
      exact h
    have so : dSorted2 [.dict (ps.map entD)] = .ok (.list (((ps.map (·.1)).mergeSort leS).map .str)) := by
      show (match strKeys (ps.map entD) with
        | some ks => if ks.length < 64 then R.ok (PyData.list (sortD (ks.map .str))) else .bad
        | none => .bad) = _
      rw [strKeys_ents]
      show (if (ps.map (·.1)).length < 64 then R.ok (PyData.list (sortD ((ps.map (·.1)).map .str))) else .bad) = _
      rw [if_pos (by rw [List.length_map]; omega), sortD_strs]
    have hc : compG (.dget (.var 5) (.var 7)) (.nm 7) .none [.sh (scriptD ns), .sh (.int a), .sh (.int (m : Nat)), .sh (.int lo), .sh (.int hi), .sh (.dict (ps.map entD)), shSl A', .un, shSl C'] (((ps.map (·.1)).mergeSort leS).map .str) = .ok (((ps.map (·.1)).mergeSort leS).map fun n => deedD (lup n)) := by
      refine compG_map .str _ _ fun n hn' => ⟨_, rfl, ?_⟩
      obtain ⟨q1, q2⟩ := hlk n (mem n hn')
      have dg : dGetD (.dict (ps.map entD)) (.str n) = .ok (deedD (lup n)) := by
        show (if okK (ps.map entD) = true then ofO (valD (ps.map entD) (.inr n)) else .bad) = _
        rw [if_pos (okK_ents ps), val_ents g2 q1 q2]; rfl
      simp -implicitDefEqProofs only [ss_cons, ss_nil, st_ret, st_retN, st_pass, st_expr, st_ife, st_set, st_setV, st_asg, st_loop, st_ext, st_put, st_ownD, st_while, st_own, st_app, st_appV, st_raise, st_try, tryP_ok, tryP_exn, at_nx, at_rt, at_exn, endP_nx, endP_rt, endP_exn, ev_var, ev_int, ev_str, ev_bl, ev_non, ev_gint, ev_gstr, ev_bin, ev_neg, ev_cmp, ev_chain, ev_and, ev_or, ev_not, ev_ite, ev_tup, ev_lst, ev_call, ev_bi, ev_isi, ev_idx, ev_rev, ev_nil, ev_cons, ev_cut, ev_oN, ev_oS, ev_lzip, ev_dget, ev_lrange, ev_sset, ev_meth, mth_count, mth_index, mth_join, mth_split, ev_iL, ev_iT, ev_iS, ev_r1, ev_r2, ev_r3, ev_zip, ev_enum, ev_cN, ev_cS, ev_comp, two_ok, two_exn, one_ok, one_exn, many_ok, many_exn, consR_ok, consR_exn, andP_t, andP_f, orP_t, orP_f, notP_ok, notP_exn, chP_t, chP_f, chQ_ok, iteP_t, iteP_f, cutP_ok, oP_ok, itP_ok, itP2_ok, itP3_ok, cP_ok, listR_ok, retP_ok, pick_t, pick_f, pick_exn, exP_ok, exP_exn, setP_ok, setP_exn, forP_ok, view, shSl, lk, List.map_cons, List.map_nil, List.length_cons, List.length_nil, List.append_nil, List.nil_append, List.cons_append, List.getElem?_cons_zero, List.getElem?_cons_succ, List.set_cons_zero, List.set_cons_succ, List.set_nil, List.replicate_zero, List.replicate_succ, Nat.sub_self, Nat.zero_add, Nat.reduceAdd, Nat.reduceSub, Bop.fn, Cop.fn, Bi.fn, add_ii, add_ll, add_tt, sub_ii, mul_ii, div_ii, mod_ii, lt_ii, le_ii, gt_ii, ge_ii, is_n, is_t, is_i, isnot_n, isnot_t, isnot_i, isi_i, isi_b, isi_n, isi_s, isi_l, isi_t, isi, DW.len_l, DW.len_t, DW.len_c, tuple_l, tuple_t, list_l, list_t, int_i, int_b, neg_i, idx_l, idx_t, idx_c, ofO_some, rev_l, cut_l, cut_t, lof_l, tof_t, sof_l, sof_t, lzipS, zipS, enumS, R.bind_ok, if_true, if_false, ite_true, ite_false, Bool.not_true, Bool.not_false, bind_nm, bind_tp, bind_nil, bind_cons, DW.scal, DW.wipeD, dg]
    simp only [shSl] at hc
    simp -implicitDefEqProofs only [f_law_plan, run_eq, b_law_plan, e_law_plan_c1, ss_cons, ss_nil, st_ret, st_retN, st_pass, st_expr, st_ife, st_set, st_setV, st_asg, st_loop, st_ext, st_put, st_ownD, st_while, st_own, st_app, st_appV, st_raise, st_try, tryP_ok, tryP_exn, at_nx, at_rt, at_exn, endP_nx, endP_rt, endP_exn, ev_var, ev_int, ev_str, ev_bl, ev_non, ev_gint, ev_gstr, ev_bin, ev_neg, ev_cmp, ev_chain, ev_and, ev_or, ev_not, ev_ite, ev_tup, ev_lst, ev_call, ev_bi, ev_isi, ev_idx, ev_rev, ev_nil, ev_cons, ev_cut, ev_oN, ev_oS, ev_lzip, ev_dget, ev_lrange, ev_sset, ev_meth, mth_count, mth_index, mth_join, mth_split, ev_iL, ev_iT, ev_iS, ev_r1, ev_r2, ev_r3, ev_zip, ev_enum, ev_cN, ev_cS, ev_comp, two_ok, two_exn, one_ok, one_exn, many_ok, many_exn, consR_ok, consR_exn, andP_t, andP_f, orP_t, orP_f, notP_ok, notP_exn, chP_t, chP_f, chQ_ok, iteP_t, iteP_f, cutP_ok, oP_ok, itP_ok, itP2_ok, itP3_ok, cP_ok, listR_ok, retP_ok, pick_t, pick_f, pick_exn, exP_ok, exP_exn, setP_ok, setP_exn, forP_ok, view, shSl, lk, List.map_cons, List.map_nil, List.length_cons, List.length_nil, List.append_nil, List.nil_append, List.cons_append, List.getElem?_cons_zero, List.getElem?_cons_succ, List.set_cons_zero, List.set_cons_succ, List.set_nil, List.replicate_zero, List.replicate_succ, Nat.sub_self, Nat.zero_add, Nat.reduceAdd, Nat.reduceSub, Bop.fn, Cop.fn, Bi.fn, add_ii, add_ll, add_tt, sub_ii, mul_ii, div_ii, mod_ii, lt_ii, le_ii, gt_ii, ge_ii, is_n, is_t, is_i, isnot_n, isnot_t, isnot_i, isi_i, isi_b, isi_n, isi_s, isi_l, isi_t, isi, DW.len_l, DW.len_t, DW.len_c, tuple_l, tuple_t, list_l, list_t, int_i, int_b, neg_i, idx_l, idx_t, idx_c, ofO_some, rev_l, cut_l, cut_t, lof_l, tof_t, sof_l, sof_t, lzipS, zipS, enumS, R.bind_ok, if_true, if_false, ite_true, ite_false, Bool.not_true, Bool.not_false, bind_nm, bind_tp, bind_nil, bind_cons, DW.scal, DW.wipeD, dr, rg]
    have lp' := lp
    rw [List.map_nil] at lp'
    rw [lp']
    simp -implicitDefEqProofs only [ss_cons, ss_nil, st_ret, st_retN, st_pass, st_expr, st_ife, st_set, st_setV, st_asg, st_loop, st_ext, st_put, st_ownD, st_while, st_own, st_app, st_appV, st_raise, st_try, tryP_ok, tryP_exn, at_nx, at_rt, at_exn, endP_nx, endP_rt, endP_exn, ev_var, ev_int, ev_str, ev_bl, ev_non, ev_gint, ev_gstr, ev_bin, ev_neg, ev_cmp, ev_chain, ev_and, ev_or, ev_not, ev_ite, ev_tup, ev_lst, ev_call, ev_bi, ev_isi, ev_idx, ev_rev, ev_nil, ev_cons, ev_cut, ev_oN, ev_oS, ev_lzip, ev_dget, ev_lrange, ev_sset, ev_meth, mth_count, mth_index, mth_join, mth_split, ev_iL, ev_iT, ev_iS, ev_r1, ev_r2, ev_r3, ev_zip, ev_enum, ev_cN, ev_cS, ev_comp, two_ok, two_exn, one_ok, one_exn, many_ok, many_exn, consR_ok, consR_exn, andP_t, andP_f, orP_t, orP_f, notP_ok, notP_exn, chP_t, chP_f, chQ_ok, iteP_t, iteP_f, cutP_ok, oP_ok, itP_ok, itP2_ok, itP3_ok, cP_ok, listR_ok, retP_ok, pick_t, pick_f, pick_exn, exP_ok, exP_exn, setP_ok, setP_exn, forP_ok, view, shSl, lk, List.map_cons, List.map_nil, List.length_cons, List.length_nil, List.append_nil, List.nil_append, List.cons_append, List.getElem?_cons_zero, List.getElem?_cons_succ, List.set_cons_zero, List.set_cons_succ, List.set_nil, List.replicate_zero, List.replicate_succ, Nat.sub_self, Nat.zero_add, Nat.reduceAdd, Nat.reduceSub, Bop.fn, Cop.fn, Bi.fn, add_ii, add_ll, add_tt, sub_ii, mul_ii, div_ii, mod_ii, lt_ii, le_ii, gt_ii, ge_ii, is_n, is_t, is_i, isnot_n, isnot_t, isnot_i, isi_i, isi_b, isi_n, isi_s, isi_l, isi_t, isi, DW.len_l, DW.len_t, DW.len_c, tuple_l, tuple_t, list_l, list_t, int_i, int_b, neg_i, idx_l, idx_t, idx_c, ofO_some, rev_l, cut_l, cut_t, lof_l, tof_t, sof_l, sof_t, lzipS, zipS, enumS, R.bind_ok, if_true, if_false, ite_true, ite_false, Bool.not_true, Bool.not_false, bind_nm, bind_tp, bind_nil, bind_cons, DW.scal, DW.wipeD, so]
    rw [compP_ok (by rw [List.length_map, (List.mergeSort_perm _ leS).length_eq, List.length_map]; omega), hc]
    simp -implicitDefEqProofs only [ss_cons, ss_nil, st_ret, st_retN, st_pass, st_expr, st_ife, st_set, st_setV, st_asg, st_loop, st_ext, st_put, st_ownD, st_while, st_own, st_app, st_appV, st_raise, st_try, tryP_ok, tryP_exn, at_nx, at_rt, at_exn, endP_nx, endP_rt, endP_exn, ev_var, ev_int, ev_str, ev_bl, ev_non, ev_gint, ev_gstr, ev_bin, ev_neg, ev_cmp, ev_chain, ev_and, ev_or, ev_not, ev_ite, ev_tup, ev_lst, ev_call, ev_bi, ev_isi, ev_idx, ev_rev, ev_nil, ev_cons, ev_cut, ev_oN, ev_oS, ev_lzip, ev_dget, ev_lrange, ev_sset, ev_meth, mth_count, mth_index, mth_join, mth_split, ev_iL, ev_iT, ev_iS, ev_r1, ev_r2, ev_r3, ev_zip, ev_enum, ev_cN, ev_cS, ev_comp, two_ok, two_exn, one_ok, one_exn, many_ok, many_exn, consR_ok, consR_exn, andP_t, andP_f, orP_t, orP_f, notP_ok, notP_exn, chP_t, chP_f, chQ_ok, iteP_t, iteP_f, cutP_ok, oP_ok, itP_ok, itP2_ok, itP3_ok, cP_ok, listR_ok, retP_ok, pick_t, pick_f, pick_exn, exP_ok, exP_exn, setP_ok, setP_exn, forP_ok, view, shSl, lk, List.map_cons, List.map_nil, List.length_cons, List.length_nil, List.append_nil, List.nil_append, List.cons_append, List.getElem?_cons_zero, List.getElem?_cons_succ, List.set_cons_zero, List.set_cons_succ, List.set_nil, List.replicate_zero, List.replicate_succ, Nat.sub_self, Nat.zero_add, Nat.reduceAdd, Nat.reduceSub, Bop.fn, Cop.fn, Bi.fn, add_ii, add_ll, add_tt, sub_ii, mul_ii, div_ii, mod_ii, lt_ii, le_ii, gt_ii, ge_ii, is_n, is_t, is_i, isnot_n, isnot_t, isnot_i, isi_i, isi_b, isi_n, isi_s, isi_l, isi_t, isi, DW.len_l, DW.len_t, DW.len_c, tuple_l, tuple_t, list_l, list_t, int_i, int_b, neg_i, idx_l, idx_t, idx_c, ofO_some, rev_l, cut_l, cut_t, lof_l, tof_t, sof_l, sof_t, lzipS, zipS, enumS, R.bind_ok, if_true, if_false, ite_true, ite_false, Bool.not_true, Bool.not_false, bind_nm, bind_tp, bind_nil, bind_cons, DW.scal, DW.wipeD, planD, List.map_map]; rfl
  · obtain ⟨n, hn', rfl⟩ := List.mem_map.mp hx
    exact g1 _ (hlk n (mem n hn')).1
  · rw [List.length_map, (List.mergeSort_perm _ leS).length_eq, List.length_map]; omega
  · rw [List.pairwise_map]
    refine (sort_lt g2).imp_of_mem fun {a b} ha hb hab => ?_
    rw [(hlk a (mem a ha)).2, (hlk b (mem b hb)).2]; exact hab
/-! ### what is told -/
abbrev Rw := Int × Str
def rowD (r : Rw) : D := .tuple [.int r.1, .str r.2]
def leR (a b : Rw) : Bool := decide (a.1 < b.1 ∨ (a.1 = b.1 ∧ a.2.cps.toList ≤ b.2.cps.toList))
theorem leR_iff {a b : Rw} : leR a b = true ↔ a.1 < b.1 ∨ (a.1 = b.1 ∧ a.2.cps.toList ≤ b.2.cps.toList) := decide_eq_true_iff
theorem leR_trans (a b c : Rw) (h1 : leR a b = true) (h2 : leR b c = true) : leR a c = true := by
  rw [leR_iff] at *
  rcases h1 with h1 | ⟨h1, h1'⟩ <;> rcases h2 with h2 | ⟨h2, h2'⟩
  · exact .inl (by omega)
  · exact .inl (by omega)
  · exact .inl (by omega)
  · exact .inr ⟨by omega, List.le_trans h1' h2'⟩
theorem leR_total (a b : Rw) : (leR a b || leR b a) = true := by
  rw [Bool.or_eq_true, leR_iff, leR_iff]
  rcases Int.lt_trichotomy a.1 b.1 with h | h | h
  · exact .inl (.inl h)
  · rcases List.le_total a.2.cps.toList b.2.cps.toList with g | g
    · exact .inl (.inr ⟨h, g⟩)
    · exact .inr (.inr ⟨h.symm, g⟩)
  · exact .inr (.inl h)
theorem leR_anti {a b : Rw} (h1 : leR a b = true) (h2 : leR b a = true) : a = b := by
  rw [leR_iff] at *
  rcases h1 with h1 | ⟨h1, h1'⟩ <;> rcases h2 with h2 | ⟨h2, h2'⟩
  · omega
  · omega
  · omega
  · exact Prod.ext h1 (leS_anti (decide_eq_true h1') (decide_eq_true h2'))
theorem dlt_row (a b : Rw) : PySem.W.dataLt (rowD a) (rowD b) = decide (a.1 < b.1 ∨ (a.1 = b.1 ∧ a.2.cps.toList < b.2.cps.toList)) := by
  unfold rowD
  rw [PySem.W.dataLt_pair (by simp [PySem.W.alike]) (by simp [PySem.W.alike]), PySem.W.dataLt_int, PySem.W.dataLt_str]
  simp only [PyData.eqv, beq_iff_eq]
  by_cases h1 : a.1 = b.1
  · by_cases h2 : a.2 = b.2
    · rw [if_pos h1, if_pos h2]
      have : ¬ (a.1 < b.1 ∨ (a.1 = b.1 ∧ a.2.cps.toList < b.2.cps.toList)) := by
        rintro (z | ⟨_, z⟩)
        · omega
        · rw [h2] at z; exact List.lt_irrefl _ z
      rw [decide_eq_false this]
    · rw [if_pos h1, if_neg h2]
      congr 1
      apply propext
      constructor
      · intro z; exact .inr ⟨h1, z⟩
      · rintro (z | ⟨_, z⟩)
        · omega
        · exact z
  · rw [if_neg h1]
    congr 1
    apply propext
    constructor
    · intro z; exact .inl z
    · rintro (z | ⟨z, _⟩)
      · exact z
      · exact absurd z h1
theorem dle_row (a b : Rw) : PySem.W.dataLe false id (rowD a) (rowD b) = leR a b := by
  show (!PySem.W.dataLt (rowD b) (rowD a)) = _
  rw [dlt_row, leR]
  by_cases h : b.1 < a.1 ∨ (b.1 = a.1 ∧ b.2.cps.toList < a.2.cps.toList)
  · have : ¬ (a.1 < b.1 ∨ (a.1 = b.1 ∧ a.2.cps.toList ≤ b.2.cps.toList)) := by
      rintro (z | ⟨z, w⟩)
      · omega
      · rcases h with h | ⟨_, h⟩
        · omega
        · exact List.not_lt.mpr w h
    rw [decide_eq_true h, decide_eq_false this]; rfl
  · have : a.1 < b.1 ∨ (a.1 = b.1 ∧ a.2.cps.toList ≤ b.2.cps.toList) := by
      rcases Int.lt_trichotomy a.1 b.1 with g | g | g
      · exact .inl g
      · exact .inr ⟨g, List.not_lt.mp fun z => h (.inr ⟨g.symm, z⟩)⟩
      · exact absurd (.inl g) h
    rw [decide_eq_false h, decide_eq_true this]; rfl
theorem sortD_rows (l : List Rw) : sortD (l.map rowD) = (l.mergeSort leR).map rowD := by
  unfold sortD
  exact (List.map_mergeSort fun a _ b _ => (dle_row a b).symm).symm
theorem sort_one {l m : List Rw} (h : l.Pairwise fun a b => leR a b = true) (hp : l.Perm m) : l = m.mergeSort leR :=
  List.Perm.eq_of_pairwise (fun a b _ _ => leR_anti) h (List.pairwise_mergeSort leR_trans leR_total m) (hp.trans (List.mergeSort_perm m leR).symm)
def rowsOf (ps : List Dd) (F L : Int) : List Rw := (ps.map fun x => (times x.2.1 x.2.2 F L).map fun t => (t, x.1)).flatten
def toldOf (ps : List Dd) (F L : Int) : List Rw := (rowsOf ps F L).mergeSort leR
theorem strOk_of {s : Str} (h : NameOk s) : PyData.strOk s = true := by
  unfold PyData.strOk
  rw [← Array.all_toList, List.all_eq_true]
  intro c hc
  have hm := h.ok c hc
  have : ∀ c ∈ signs.cps.toList, c < 0x110000 := by decide +kernel
  exact decide_eq_true (this c hm)
theorem lay_rows' : ∀ {l : List Rw}, (∀ r ∈ l, NameOk r.2) → PyData.canLayAll0 (l.map rowD) = true
  | [], _ => rfl
  | r :: l, h => by
    rw [List.map_cons, PyData.canLayAll0, lay_rows' fun y hy => h y (List.mem_cons_of_mem _ hy), Bool.and_true]
    show PyData.canLayAll0 [.int r.1, .str r.2] = true
    simp only [PyData.canLayAll0, PyData.canLay0, strOk_of (h r List.mem_cons_self), Bool.and_self]
theorem dep_rows' : ∀ l : List Rw, PyData.depthAll (l.map rowD) ≤ 1
  | [] => by simp [PyData.depthAll]
  | x :: l => by
    have e : PyData.depth (rowD x) = 1 := rfl
    have := dep_rows' l
    rw [List.map_cons, PyData.depthAll, e]; omega
theorem flats_rows {l : List Rw} (h : ∀ r ∈ l, NameOk r.2) : flats (l.map rowD) = true := by
  unfold flats
  have := dep_rows' l
  rw [lay_rows' h, Bool.true_and, decide_eq_true_eq]; omega
theorem sh_rows' {l : List Rw} (h : ∀ r ∈ l, NameOk r.2) : SeqAt.shaped (.list (l.map rowD)) = true := by
  have := dep_rows' l
  unfold SeqAt.shaped
  rw [PyData.canLay0, lay_rows' h, PyData.depth, Bool.true_and, decide_eq_true_eq]; omega
theorem like_rows (l : List Rw) : likeB (l.map rowD) = true := by
  unfold likeB
  rw [List.all_map, List.all_eq_true]
  intro a _
  rw [Function.comp, List.all_map, Bool.and_eq_true]
  refine ⟨rfl, List.all_eq_true.mpr fun b _ => ?_⟩
  simp [rowD, PySem.W.alike, PySem.W.alikeAll]
theorem sortB_rows (l : List Rw) : sortB (l.map rowD) = true := by
  unfold sortB
  rw [Bool.or_eq_true]
  refine .inl ?_
  rw [List.all_map, List.all_eq_true]
  intro a _; rfl
theorem sorted_rows {l : List Rw} (h : ∀ r ∈ l, NameOk r.2) : dSorted2 [.list (l.map rowD)] = .ok (.list ((l.mergeSort leR).map rowD)) := by
  show (if flats (l.map rowD) = true ∧ likeB (l.map rowD) = true ∧ sortB (l.map rowD) = true then R.ok (PyData.list (sortD (l.map rowD))) else .bad) = _
  rw [if_pos ⟨flats_rows h, like_rows l, sortB_rows l⟩, sortD_rows]
theorem eqv_row (a b : Rw) : PyData.eqv (rowD a) (rowD b) = decide (a = b) := by
  unfold rowD
  simp only [PyData.eqv, PyData.eqvAll, Bool.and_true]
  by_cases h1 : a.1 = b.1
  · by_cases h2 : a.2 = b.2
    · have : a = b := Prod.ext h1 h2
      subst this; simp
    · have : ¬ a = b := fun z => h2 (by rw [z])
      simp [h1, h2, this]
  · have : ¬ a = b := fun z => h1 (by rw [z])
    simp [h1, this]
theorem eqv_rows' : ∀ l m : List Rw, PyData.eqvAll (l.map rowD) (m.map rowD) = decide (l = m)
  | [], [] => rfl
  | [], _ :: _ => rfl
  | _ :: _, [] => rfl
  | a :: l, b :: m => by
    rw [List.map_cons, List.map_cons, PyData.eqvAll, eqv_row, eqv_rows' l m]
    by_cases h : a = b
    · subst h; simp
    · simp [h]
theorem ne_rows' {l m : List Rw} (h : ∀ r ∈ l, NameOk r.2) (h' : ∀ r ∈ m, NameOk r.2) : dNe (.list (l.map rowD)) (.list (m.map rowD)) = .ok (.bool (!decide (l = m))) := by
  unfold dNe
  rw [if_pos ⟨sh_rows' h, sh_rows' h'⟩, PyData.eqv, eqv_rows']
theorem told_loop (S : Sl) (F L : Int) (F0 : 0 ≤ F) (F1 : F ≤ 9999) (L0 : 0 ≤ L) (L1 : L ≤ 9999) : ∀ (ps : List Dd) (acc : List Rw) (A B : Sl), (∀ x ∈ ps, DeedOk x) → acc.length + 10001 * ps.length ≤ 1000000 →
    ∃ A' B', forD (.nm 4) (semSs b_told_l1) (ps.map deedD) [S, .sh (.int F), .sh (.int L), .ol (acc.map rowD), A, B] = .ok (.nx [S, .sh (.int F), .sh (.int L), .ol ((acc ++ rowsOf ps F L).map rowD), A', B'])
  | [], acc, A, B, _, _ => ⟨A, B, by
      have : acc ++ rowsOf [] F L = acc := List.append_nil _
      rw [this]; rfl⟩
  | x :: ps, acc, A, B, h, hl => by
    have hx := h x List.mem_cons_self
    have tl := times_len (d := x.2.1) (F := F) (L := L) hx.e0 F0 L1
    rw [List.length_cons] at hl
    obtain ⟨A', B', ih⟩ := told_loop S F L F0 F1 L0 L1 ps (acc ++ (times x.2.1 x.2.2 F L).map fun t => (t, x.1)) (.sh (deedD x)) B (fun y hy => h y (List.mem_cons_of_mem _ hy)) (by rw [List.length_append, List.length_map]; omega)
    refine ⟨A', B', ?_⟩
    have c1 : compG (.tup (.cons (.var 5) (.cons (.idx (.var 4) (.int 0)) (.nil)))) (.nm 5) .none [S, .sh (.int F), .sh (.int L), .ol (acc.map rowD), .sh (deedD x), .un] (nms (times x.2.1 x.2.2 F L)) = .ok (((times x.2.1 x.2.2 F L).map fun t => ((t, x.1) : Rw)).map rowD) := by
      rw [List.map_map]
      unfold nms
      refine compG_map .int _ _ fun t _ => ⟨_, rfl, ?_⟩
      have x0 : ∀ a b c : D, atI [a, b, c] 0 = some a := fun _ _ _ => rfl
      simp -implicitDefEqProofs only [ss_cons, ss_nil, st_ret, st_retN, st_pass, st_expr, st_ife, st_set, st_setV, st_asg, st_loop, st_ext, st_put, st_ownD, st_while, st_own, st_app, st_appV, st_raise, st_try, tryP_ok, tryP_exn, at_nx, at_rt, at_exn, endP_nx, endP_rt, endP_exn, ev_var, ev_int, ev_str, ev_bl, ev_non, ev_gint, ev_gstr, ev_bin, ev_neg, ev_cmp, ev_chain, ev_and, ev_or, ev_not, ev_ite, ev_tup, ev_lst, ev_call, ev_bi, ev_isi, ev_idx, ev_rev, ev_nil, ev_cons, ev_cut, ev_oN, ev_oS, ev_lzip, ev_dget, ev_lrange, ev_sset, ev_meth, mth_count, mth_index, mth_join, mth_split, ev_iL, ev_iT, ev_iS, ev_r1, ev_r2, ev_r3, ev_zip, ev_enum, ev_cN, ev_cS, ev_comp, two_ok, two_exn, one_ok, one_exn, many_ok, many_exn, consR_ok, consR_exn, andP_t, andP_f, orP_t, orP_f, notP_ok, notP_exn, chP_t, chP_f, chQ_ok, iteP_t, iteP_f, cutP_ok, oP_ok, itP_ok, itP2_ok, itP3_ok, cP_ok, listR_ok, retP_ok, pick_t, pick_f, pick_exn, exP_ok, exP_exn, setP_ok, setP_exn, forP_ok, view, shSl, lk, List.map_cons, List.map_nil, List.length_cons, List.length_nil, List.append_nil, List.nil_append, List.cons_append, List.getElem?_cons_zero, List.getElem?_cons_succ, List.set_cons_zero, List.set_cons_succ, List.set_nil, List.replicate_zero, List.replicate_succ, Nat.sub_self, Nat.zero_add, Nat.reduceAdd, Nat.reduceSub, Bop.fn, Cop.fn, Bi.fn, add_ii, add_ll, add_tt, sub_ii, mul_ii, div_ii, mod_ii, lt_ii, le_ii, gt_ii, ge_ii, is_n, is_t, is_i, isnot_n, isnot_t, isnot_i, isi_i, isi_b, isi_n, isi_s, isi_l, isi_t, isi, DW.len_l, DW.len_t, DW.len_c, tuple_l, tuple_t, list_l, list_t, int_i, int_b, neg_i, idx_l, idx_t, idx_c, ofO_some, rev_l, cut_l, cut_t, lof_l, tof_t, sof_l, sof_t, lzipS, zipS, enumS, R.bind_ok, if_true, if_false, ite_true, ite_false, Bool.not_true, Bool.not_false, bind_nm, bind_tp, bind_nil, bind_cons, DW.scal, DW.wipeD, deedD, x0]
      rw [mkT_ok (by simp)]; rfl
    rw [List.map_cons, for_cons (δ1 := [S, .sh (.int F), .sh (.int L), .ol (acc.map rowD), .sh (deedD x), B]) rfl]
    have eb : semSs b_told_l1 [S, .sh (.int F), .sh (.int L), .ol (acc.map rowD), .sh (deedD x), B] = .ok (.nx [S, .sh (.int F), .sh (.int L), .ol ((acc ++ (times x.2.1 x.2.2 F L).map fun t => (t, x.1)).map rowD), .sh (deedD x), B]) := by
      simp -implicitDefEqProofs only [b_told_l1, e_told_c1, ss_cons, ss_nil, st_ret, st_retN, st_pass, st_expr, st_ife, st_set, st_setV, st_asg, st_loop, st_ext, st_put, st_ownD, st_while, st_own, st_app, st_appV, st_raise, st_try, tryP_ok, tryP_exn, at_nx, at_rt, at_exn, endP_nx, endP_rt, endP_exn, ev_var, ev_int, ev_str, ev_bl, ev_non, ev_gint, ev_gstr, ev_bin, ev_neg, ev_cmp, ev_chain, ev_and, ev_or, ev_not, ev_ite, ev_tup, ev_lst, ev_call, ev_bi, ev_isi, ev_idx, ev_rev, ev_nil, ev_cons, ev_cut, ev_oN, ev_oS, ev_lzip, ev_dget, ev_lrange, ev_sset, ev_meth, mth_count, mth_index, mth_join, mth_split, ev_iL, ev_iT, ev_iS, ev_r1, ev_r2, ev_r3, ev_zip, ev_enum, ev_cN, ev_cS, ev_comp, two_ok, two_exn, one_ok, one_exn, many_ok, many_exn, consR_ok, consR_exn, andP_t, andP_f, orP_t, orP_f, notP_ok, notP_exn, chP_t, chP_f, chQ_ok, iteP_t, iteP_f, cutP_ok, oP_ok, itP_ok, itP2_ok, itP3_ok, cP_ok, listR_ok, retP_ok, pick_t, pick_f, pick_exn, exP_ok, exP_exn, setP_ok, setP_exn, forP_ok, view, shSl, lk, List.map_cons, List.map_nil, List.length_cons, List.length_nil, List.append_nil, List.nil_append, List.cons_append, List.getElem?_cons_zero, List.getElem?_cons_succ, List.set_cons_zero, List.set_cons_succ, List.set_nil, List.replicate_zero, List.replicate_succ, Nat.sub_self, Nat.zero_add, Nat.reduceAdd, Nat.reduceSub, Bop.fn, Cop.fn, Bi.fn, add_ii, add_ll, add_tt, sub_ii, mul_ii, div_ii, mod_ii, lt_ii, le_ii, gt_ii, ge_ii, is_n, is_t, is_i, isnot_n, isnot_t, isnot_i, isi_i, isi_b, isi_n, isi_s, isi_l, isi_t, isi, DW.len_l, DW.len_t, DW.len_c, tuple_l, tuple_t, list_l, list_t, int_i, int_b, neg_i, idx_l, idx_t, idx_c, ofO_some, rev_l, cut_l, cut_t, lof_l, tof_t, sof_l, sof_t, lzipS, zipS, enumS, R.bind_ok, if_true, if_false, ite_true, ite_false, Bool.not_true, Bool.not_false, bind_nm, bind_tp, bind_nil, bind_cons, DW.scal, DW.wipeD, times_of_ok hx.e0 hx.e1 hx.d0 hx.d1 F0 F1 L0 L1]
      rw [compP_ok (by rw [nms_len]; omega), c1]
      simp -implicitDefEqProofs only [ss_cons, ss_nil, st_ret, st_retN, st_pass, st_expr, st_ife, st_set, st_setV, st_asg, st_loop, st_ext, st_put, st_ownD, st_while, st_own, st_app, st_appV, st_raise, st_try, tryP_ok, tryP_exn, at_nx, at_rt, at_exn, endP_nx, endP_rt, endP_exn, ev_var, ev_int, ev_str, ev_bl, ev_non, ev_gint, ev_gstr, ev_bin, ev_neg, ev_cmp, ev_chain, ev_and, ev_or, ev_not, ev_ite, ev_tup, ev_lst, ev_call, ev_bi, ev_isi, ev_idx, ev_rev, ev_nil, ev_cons, ev_cut, ev_oN, ev_oS, ev_lzip, ev_dget, ev_lrange, ev_sset, ev_meth, mth_count, mth_index, mth_join, mth_split, ev_iL, ev_iT, ev_iS, ev_r1, ev_r2, ev_r3, ev_zip, ev_enum, ev_cN, ev_cS, ev_comp, two_ok, two_exn, one_ok, one_exn, many_ok, many_exn, consR_ok, consR_exn, andP_t, andP_f, orP_t, orP_f, notP_ok, notP_exn, chP_t, chP_f, chQ_ok, iteP_t, iteP_f, cutP_ok, oP_ok, itP_ok, itP2_ok, itP3_ok, cP_ok, listR_ok, retP_ok, pick_t, pick_f, pick_exn, exP_ok, exP_exn, setP_ok, setP_exn, forP_ok, view, shSl, lk, List.map_cons, List.map_nil, List.length_cons, List.length_nil, List.append_nil, List.nil_append, List.cons_append, List.getElem?_cons_zero, List.getElem?_cons_succ, List.set_cons_zero, List.set_cons_succ, List.set_nil, List.replicate_zero, List.replicate_succ, Nat.sub_self, Nat.zero_add, Nat.reduceAdd, Nat.reduceSub, Bop.fn, Cop.fn, Bi.fn, add_ii, add_ll, add_tt, sub_ii, mul_ii, div_ii, mod_ii, lt_ii, le_ii, gt_ii, ge_ii, is_n, is_t, is_i, isnot_n, isnot_t, isnot_i, isi_i, isi_b, isi_n, isi_s, isi_l, isi_t, isi, DW.len_l, DW.len_t, DW.len_c, tuple_l, tuple_t, list_l, list_t, int_i, int_b, neg_i, idx_l, idx_t, idx_c, ofO_some, rev_l, cut_l, cut_t, lof_l, tof_t, sof_l, sof_t, lzipS, zipS, enumS, R.bind_ok, if_true, if_false, ite_true, ite_false, Bool.not_true, Bool.not_false, bind_nm, bind_tp, bind_nil, bind_cons, DW.scal, DW.wipeD]
      rw [extP_ok (by rw [List.length_map, List.length_map, List.length_map]; omega), ← List.map_append]
      simp -implicitDefEqProofs only [ss_cons, ss_nil, st_ret, st_retN, st_pass, st_expr, st_ife, st_set, st_setV, st_asg, st_loop, st_ext, st_put, st_ownD, st_while, st_own, st_app, st_appV, st_raise, st_try, tryP_ok, tryP_exn, at_nx, at_rt, at_exn, endP_nx, endP_rt, endP_exn, ev_var, ev_int, ev_str, ev_bl, ev_non, ev_gint, ev_gstr, ev_bin, ev_neg, ev_cmp, ev_chain, ev_and, ev_or, ev_not, ev_ite, ev_tup, ev_lst, ev_call, ev_bi, ev_isi, ev_idx, ev_rev, ev_nil, ev_cons, ev_cut, ev_oN, ev_oS, ev_lzip, ev_dget, ev_lrange, ev_sset, ev_meth, mth_count, mth_index, mth_join, mth_split, ev_iL, ev_iT, ev_iS, ev_r1, ev_r2, ev_r3, ev_zip, ev_enum, ev_cN, ev_cS, ev_comp, two_ok, two_exn, one_ok, one_exn, many_ok, many_exn, consR_ok, consR_exn, andP_t, andP_f, orP_t, orP_f, notP_ok, notP_exn, chP_t, chP_f, chQ_ok, iteP_t, iteP_f, cutP_ok, oP_ok, itP_ok, itP2_ok, itP3_ok, cP_ok, listR_ok, retP_ok, pick_t, pick_f, pick_exn, exP_ok, exP_exn, setP_ok, setP_exn, forP_ok, view, shSl, lk, List.map_cons, List.map_nil, List.length_cons, List.length_nil, List.append_nil, List.nil_append, List.cons_append, List.getElem?_cons_zero, List.getElem?_cons_succ, List.set_cons_zero, List.set_cons_succ, List.set_nil, List.replicate_zero, List.replicate_succ, Nat.sub_self, Nat.zero_add, Nat.reduceAdd, Nat.reduceSub, Bop.fn, Cop.fn, Bi.fn, add_ii, add_ll, add_tt, sub_ii, mul_ii, div_ii, mod_ii, lt_ii, le_ii, gt_ii, ge_ii, is_n, is_t, is_i, isnot_n, isnot_t, isnot_i, isi_i, isi_b, isi_n, isi_s, isi_l, isi_t, isi, DW.len_l, DW.len_t, DW.len_c, tuple_l, tuple_t, list_l, list_t, int_i, int_b, neg_i, idx_l, idx_t, idx_c, ofO_some, rev_l, cut_l, cut_t, lof_l, tof_t, sof_l, sof_t, lzipS, zipS, enumS, R.bind_ok, if_true, if_false, ite_true, ite_false, Bool.not_true, Bool.not_false, bind_nm, bind_tp, bind_nil, bind_cons, DW.scal, DW.wipeD]
    rw [eb, at_nx, ih, List.append_assoc]; rfl
theorem mem_rows {ps : List Dd} {F L : Int} (h : ∀ x ∈ ps, DeedOk x) {r : Rw} : r ∈ rowsOf ps F L ↔ ∃ x ∈ ps, r.2 = x.1 ∧ F ≤ r.1 ∧ r.1 ≤ L ∧ Due (x.2.1, x.2.2) r.1 := by
  unfold rowsOf
  rw [List.mem_flatten]
  constructor
  · rintro ⟨l, hl, hr⟩
    obtain ⟨x, hx, rfl⟩ := List.mem_map.mp hl
    obtain ⟨t, ht, rfl⟩ := List.mem_map.mp hr
    exact ⟨x, hx, rfl, (mem_times (h x hx).e0).mp ht⟩
  · rintro ⟨x, hx, e, ht⟩
    exact ⟨_, List.mem_map.mpr ⟨x, hx, rfl⟩, List.mem_map.mpr ⟨r.1, (mem_times (h x hx).e0).mpr ht, Prod.ext rfl e.symm⟩⟩
theorem mem_told {ps : List Dd} {F L : Int} (h : ∀ x ∈ ps, DeedOk x) {r : Rw} : r ∈ toldOf ps F L ↔ ∃ x ∈ ps, r.2 = x.1 ∧ F ≤ r.1 ∧ r.1 ≤ L ∧ Due (x.2.1, x.2.2) r.1 := by
  unfold toldOf
  rw [(List.mergeSort_perm _ leR).mem_iff, mem_rows h]
theorem nm_told {ps : List Dd} {F L : Int} (h : ∀ x ∈ ps, DeedOk x) : ∀ r ∈ toldOf ps F L, NameOk r.2 := fun r hr => by
  obtain ⟨x, hx, e, _⟩ := (mem_told h).mp hr
  rw [e]; exact (h x hx).nm
theorem nm_rows {ps : List Dd} {F L : Int} (h : ∀ x ∈ ps, DeedOk x) : ∀ r ∈ rowsOf ps F L, NameOk r.2 := fun r hr => by
  obtain ⟨x, hx, e, _⟩ := (mem_rows h).mp hr
  rw [e]; exact (h x hx).nm
theorem told_ok {ps : List Dd} (h : ∀ x ∈ ps, DeedOk x) (hl : ps.length ≤ 12) (hr : rise ps = true) {F L : Int} (F0 : 0 ≤ F) (FL : F ≤ L) (L1 : L ≤ 9999) : f_told [planD ps, .int F, .int L] = .ok (.list ((toldOf ps F L).map rowD)) := by
  obtain ⟨A', B', lp⟩ := told_loop (.sh (planD ps)) F L F0 (by omega) (by omega) L1 ps [] .un .un h (by simp; omega)
  rw [List.nil_append, List.map_nil] at lp
  have to : DW.tupOf (planD ps) = .ok (ps.map deedD) := rfl
  simp -implicitDefEqProofs only [f_told, run_eq, b_told, ss_cons, ss_nil, st_ret, st_retN, st_pass, st_expr, st_ife, st_set, st_setV, st_asg, st_loop, st_ext, st_put, st_ownD, st_while, st_own, st_app, st_appV, st_raise, st_try, tryP_ok, tryP_exn, at_nx, at_rt, at_exn, endP_nx, endP_rt, endP_exn, ev_var, ev_int, ev_str, ev_bl, ev_non, ev_gint, ev_gstr, ev_bin, ev_neg, ev_cmp, ev_chain, ev_and, ev_or, ev_not, ev_ite, ev_tup, ev_lst, ev_call, ev_bi, ev_isi, ev_idx, ev_rev, ev_nil, ev_cons, ev_cut, ev_oN, ev_oS, ev_lzip, ev_dget, ev_lrange, ev_sset, ev_meth, mth_count, mth_index, mth_join, mth_split, ev_iL, ev_iT, ev_iS, ev_r1, ev_r2, ev_r3, ev_zip, ev_enum, ev_cN, ev_cS, ev_comp, two_ok, two_exn, one_ok, one_exn, many_ok, many_exn, consR_ok, consR_exn, andP_t, andP_f, orP_t, orP_f, notP_ok, notP_exn, chP_t, chP_f, chQ_ok, iteP_t, iteP_f, cutP_ok, oP_ok, itP_ok, itP2_ok, itP3_ok, cP_ok, listR_ok, retP_ok, pick_t, pick_f, pick_exn, exP_ok, exP_exn, setP_ok, setP_exn, forP_ok, view, shSl, lk, List.map_cons, List.map_nil, List.length_cons, List.length_nil, List.append_nil, List.nil_append, List.cons_append, List.getElem?_cons_zero, List.getElem?_cons_succ, List.set_cons_zero, List.set_cons_succ, List.set_nil, List.replicate_zero, List.replicate_succ, Nat.sub_self, Nat.zero_add, Nat.reduceAdd, Nat.reduceSub, Bop.fn, Cop.fn, Bi.fn, add_ii, add_ll, add_tt, sub_ii, mul_ii, div_ii, mod_ii, lt_ii, le_ii, gt_ii, ge_ii, is_n, is_t, is_i, isnot_n, isnot_t, isnot_i, isi_i, isi_b, isi_n, isi_s, isi_l, isi_t, isi, DW.len_l, DW.len_t, DW.len_c, tuple_l, tuple_t, list_l, list_t, int_i, int_b, neg_i, idx_l, idx_t, idx_c, ofO_some, rev_l, cut_l, cut_t, lof_l, tof_t, sof_l, sof_t, lzipS, zipS, enumS, R.bind_ok, if_true, if_false, ite_true, ite_false, Bool.not_true, Bool.not_false, bind_nm, bind_tp, bind_nil, bind_cons, DW.scal, DW.wipeD, need_plan_ok h hl hr, need_span_ok F0 FL L1]
  rw [ownP_ok (by simp)]
  simp -implicitDefEqProofs only [ss_cons, ss_nil, st_ret, st_retN, st_pass, st_expr, st_ife, st_set, st_setV, st_asg, st_loop, st_ext, st_put, st_ownD, st_while, st_own, st_app, st_appV, st_raise, st_try, tryP_ok, tryP_exn, at_nx, at_rt, at_exn, endP_nx, endP_rt, endP_exn, ev_var, ev_int, ev_str, ev_bl, ev_non, ev_gint, ev_gstr, ev_bin, ev_neg, ev_cmp, ev_chain, ev_and, ev_or, ev_not, ev_ite, ev_tup, ev_lst, ev_call, ev_bi, ev_isi, ev_idx, ev_rev, ev_nil, ev_cons, ev_cut, ev_oN, ev_oS, ev_lzip, ev_dget, ev_lrange, ev_sset, ev_meth, mth_count, mth_index, mth_join, mth_split, ev_iL, ev_iT, ev_iS, ev_r1, ev_r2, ev_r3, ev_zip, ev_enum, ev_cN, ev_cS, ev_comp, two_ok, two_exn, one_ok, one_exn, many_ok, many_exn, consR_ok, consR_exn, andP_t, andP_f, orP_t, orP_f, notP_ok, notP_exn, chP_t, chP_f, chQ_ok, iteP_t, iteP_f, cutP_ok, oP_ok, itP_ok, itP2_ok, itP3_ok, cP_ok, listR_ok, retP_ok, pick_t, pick_f, pick_exn, exP_ok, exP_exn, setP_ok, setP_exn, forP_ok, view, shSl, lk, List.map_cons, List.map_nil, List.length_cons, List.length_nil, List.append_nil, List.nil_append, List.cons_append, List.getElem?_cons_zero, List.getElem?_cons_succ, List.set_cons_zero, List.set_cons_succ, List.set_nil, List.replicate_zero, List.replicate_succ, Nat.sub_self, Nat.zero_add, Nat.reduceAdd, Nat.reduceSub, Bop.fn, Cop.fn, Bi.fn, add_ii, add_ll, add_tt, sub_ii, mul_ii, div_ii, mod_ii, lt_ii, le_ii, gt_ii, ge_ii, is_n, is_t, is_i, isnot_n, isnot_t, isnot_i, isi_i, isi_b, isi_n, isi_s, isi_l, isi_t, isi, DW.len_l, DW.len_t, DW.len_c, tuple_l, tuple_t, list_l, list_t, int_i, int_b, neg_i, idx_l, idx_t, idx_c, ofO_some, rev_l, cut_l, cut_t, lof_l, tof_t, sof_l, sof_t, lzipS, zipS, enumS, R.bind_ok, if_true, if_false, ite_true, ite_false, Bool.not_true, Bool.not_false, bind_nm, bind_tp, bind_nil, bind_cons, DW.scal, DW.wipeD, to, lp, sorted_rows (nm_rows h)]; rfl
end DW
/-! Serving: the literals, and what they are worth. -/
namespace DW
open PySem L2
def n_served : List Str := ["plan", "first", "last", "long", "rows", "found", "free", "time", "name", "start"]
def p_served : List Str := ["plan", "first", "last", "long"]
def b_served_l1 : Ss := .cons (.set 9 (.bi .max2 (.cons (.var 6) (.cons (.var 7) (.nil))))) (.cons (.app 5 (.tup (.cons (.var 9) (.cons (.var 7) (.cons (.var 8) (.nil)))))) (.cons (.set 6 (.bin .add (.var 9) (.var 3))) (.nil)))
def b_served : Ss := .cons (.set 4 (.call "told" 3 f_told (.cons (.var 0) (.cons (.var 1) (.cons (.var 2) (.nil)))))) (.cons (.ife (.not (.call "is_number" 3 f_is_number (.cons (.var 3) (.cons (.int 1) (.cons (.gint "MOST_LONG" (99)) (.nil)))))) (.cons (.raise "NoNumber") (.nil)) (.nil)) (.cons (.own 5 (.nil)) (.cons (.set 6 (.var 1)) (.cons (.loop (.tp (.cons (.nm 7) (.cons (.nm 8) (.nil)))) (.list (.var 4)) (b_served_l1)) (.cons (.ret (.var 5)) (.nil))))))
def f_served : List D → R D := runD 10 b_served

def n_longest_wait : List Str := ["plan", "first", "last", "long", "waits", "start", "time", "name"]
def p_longest_wait : List Str := ["plan", "first", "last", "long"]
def e_longest_wait_c1 : Ex := .comp (.bin .sub (.var 5) (.var 6)) (.tp (.cons (.nm 5) (.cons (.nm 6) (.cons (.nm 7) (.nil))))) (.list (.call "served" 4 f_served (.cons (.var 0) (.cons (.var 1) (.cons (.var 2) (.cons (.var 3) (.nil))))))) .none [("start", 5), ("time", 6), ("name", 7)]
def b_longest_wait : Ss := .cons (.set 4 (e_longest_wait_c1)) (.cons (.ret (.ite (.cmp .ne (.var 4) (.lst (.nil))) (.bi .max1 (.cons (.var 4) (.nil))) (.non))) (.nil))
def f_longest_wait : List D → R D := runD 8 b_longest_wait

def n_free_again : List Str := ["plan", "first", "last", "long", "rows"]
def p_free_again : List Str := ["plan", "first", "last", "long"]
def b_free_again : Ss := .cons (.set 4 (.call "served" 4 f_served (.cons (.var 0) (.cons (.var 1) (.cons (.var 2) (.cons (.var 3) (.nil))))))) (.cons (.ret (.ite (.cmp .ne (.var 4) (.lst (.nil))) (.bin .add (.idx (.idx (.var 4) (.neg (.int 1))) (.int 0)) (.var 3)) (.var 1))) (.nil))
def f_free_again : List D → R D := runD 5 b_free_again

def n_idle : List Str := ["plan", "first", "last", "long", "found", "free", "start", "time", "name"]
def p_idle : List Str := ["plan", "first", "last", "long"]
def b_idle_l1 : Ss := .cons (.set 4 (.bin .add (.var 4) (.bi .max2 (.cons (.int 0) (.cons (.bin .sub (.bi .min2 (.cons (.var 6) (.cons (.bin .add (.var 2) (.int 1)) (.nil)))) (.var 5)) (.nil)))))) (.cons (.set 5 (.bi .min2 (.cons (.bin .add (.var 6) (.var 3)) (.cons (.bin .add (.var 2) (.int 1)) (.nil))))) (.nil))
def b_idle : Ss := .cons (.set 4 (.ite (.cmp .eq (.call "served" 4 f_served (.cons (.var 0) (.cons (.var 1) (.cons (.var 2) (.cons (.var 3) (.nil)))))) (.lst (.nil))) (.bin .add (.bin .sub (.var 2) (.var 1)) (.int 1)) (.int 0))) (.cons (.set 5 (.var 1)) (.cons (.loop (.tp (.cons (.nm 6) (.cons (.nm 7) (.cons (.nm 8) (.nil))))) (.list (.call "served" 4 f_served (.cons (.var 0) (.cons (.var 1) (.cons (.var 2) (.cons (.var 3) (.nil))))))) (b_idle_l1)) (.cons (.ret (.bin .add (.var 4) (.ite (.cmp .gt (.var 5) (.var 1)) (.bin .sub (.bin .add (.var 2) (.int 1)) (.var 5)) (.int 0)))) (.nil))))
def f_idle : List D → R D := runD 9 b_idle

theorem rise_len : ∀ {l : List Int} {F L : Int}, l.Pairwise (· < ·) → (∀ t ∈ l, F ≤ t ∧ t ≤ L) → F ≤ L + 1 → (l.length : Int) ≤ L - F + 1
  | [], F, L, _, _, h => by simp; omega
  | t :: l, F, L, hp, hm, h => by
    obtain ⟨h1, h2⟩ := List.pairwise_cons.mp hp
    obtain ⟨a, b⟩ := hm t List.mem_cons_self
    have := rise_len (F := t + 1) (L := L) h2 (fun u hu => ⟨by have := h1 u hu; omega, (hm u (List.mem_cons_of_mem _ hu)).2⟩) (by omega)
    rw [List.length_cons]; omega
theorem rows_cons (x : Dd) (ps : List Dd) (F L : Int) : rowsOf (x :: ps) F L = (times x.2.1 x.2.2 F L).map (fun t => (t, x.1)) ++ rowsOf ps F L := rfl
theorem told_perm (ps : List Dd) (F L : Int) : (toldOf ps F L).Perm (rowsOf ps F L) := List.mergeSort_perm _ leR
theorem told_sorted (ps : List Dd) (F L : Int) : (toldOf ps F L).Pairwise fun a b => leR a b = true := List.pairwise_mergeSort leR_trans leR_total _
theorem rows_length {F L : Int} (hFL : F ≤ L + 1) : ∀ {ps : List Dd}, (∀ x ∈ ps, DeedOk x) → ((rowsOf ps F L).length : Int) ≤ ps.length * (L - F + 1)
  | [], _ => by simp [rowsOf]
  | x :: ps, h => by
    have ih := rows_length hFL (ps := ps) fun y hy => h y (List.mem_cons_of_mem _ hy)
    have he := (h x List.mem_cons_self).e0
    have := rise_len (times_rise (d := x.2.1) (F := F) (L := L) he) (fun t ht => by
      have := (mem_times he).mp ht
      exact ⟨this.1, this.2.1⟩) hFL
    rw [rows_cons, List.length_append, List.length_map, List.length_cons]
    have e : ((ps.length + 1 : Nat) : Int) * (L - F + 1) = ps.length * (L - F + 1) + (L - F + 1) := by
      rw [Int.natCast_add, Int.add_mul]; simp
    rw [e]; omega
theorem fold_max : ∀ (l : List Int) (b : Int), l.foldl max b ∈ b :: l ∧ ∀ y ∈ b :: l, y ≤ l.foldl max b
  | [], b => ⟨List.mem_cons_self, fun y hy => by
      cases List.mem_singleton.mp hy
      exact Int.le_refl _⟩
  | c :: l, b => by
    obtain ⟨h1, h2⟩ := fold_max l (max b c)
    rw [List.foldl_cons]
    refine ⟨?_, fun y hy => ?_⟩
    · rcases List.mem_cons.mp h1 with q | q
      · rw [q]
        rcases Int.le_total b c with h | h
        · rw [Int.max_eq_right h]; simp
        · rw [Int.max_eq_left h]; simp
      · exact List.mem_cons_of_mem _ (List.mem_cons_of_mem _ q)
    · have h3 := h2 _ List.mem_cons_self
      rcases List.mem_cons.mp hy with rfl | hy
      · omega
      · rcases List.mem_cons.mp hy with rfl | hy
        · omega
        · exact h2 y (List.mem_cons_of_mem _ hy)
theorem like_ints (l : List Int) : likeB (nms l) = true := by
  unfold likeB nms
  rw [List.all_map, List.all_eq_true]
  intro a _
  rw [Function.comp, List.all_map, Bool.and_eq_true]
  refine ⟨rfl, List.all_eq_true.mpr fun b _ => ?_⟩
  simp [PySem.W.alike]
theorem flats_ints (l : List Int) : flats (nms l) = true := by
  unfold flats
  rw [lay_nms, dep_nms]; rfl
theorem max1_ints (b : Int) (l : List Int) : dMax1 [.list (nms (b :: l))] = .ok (.int (l.foldl max b)) := by
  have h1 := flats_ints (b :: l)
  have h2 := like_ints (b :: l)
  rw [nms_cons] at h1 h2 ⊢
  have : dMax1 [.list (.int b :: nms l)] = .ok (PySem.W.maxD (.int b) (nms l)) := if_pos ⟨h1, h2⟩
  rw [this, nms, PySem.W.maxD_ints]
theorem max1_of {l : List Int} {m : Int} (hm : m ∈ l) (h : ∀ y ∈ l, y ≤ m) : dMax1 [.list (nms l)] = .ok (.int m) := by
  cases l with
  | nil => cases hm
  | cons b l =>
    obtain ⟨g1, g2⟩ := fold_max l b
    rw [max1_ints]
    have := h _ g1
    have := g2 m hm
    congr 2; omega
theorem told_len {ps : List Dd} (h : ∀ x ∈ ps, DeedOk x) (hl : ps.length ≤ 12) {F L : Int} (FL : F ≤ L) (h60 : L - F ≤ 60) : (toldOf ps F L).length ≤ 732 := by
  have h1 := rows_length (show F ≤ L + 1 by omega) h
  have h2 : ((ps.length : Nat) : Int) * (L - F + 1) ≤ 12 * 61 := Int.mul_le_mul (by omega) (by omega) (by omega) (by omega)
  rw [(told_perm ps F L).length_eq]; omega
/-! ### serving, plain -/
abbrev Sv := Int × Rw
def svD (v : Sv) : PyData := .tuple [.int v.1, .int v.2.1, .str v.2.2]
def mx (i j : Int) : Int := if j > i then j else i
def mn (i j : Int) : Int := if j < i then j else i
theorem mx_ok (i j : Int) : dMax2 [.int i, .int j] = .ok (.int (mx i j)) := rfl
theorem mn_ok (i j : Int) : dMin2 [.int i, .int j] = .ok (.int (mn i j)) := rfl
def srv (l : Int) : Int → List Rw → List Sv
  | _, [] => []
  | a, r :: rs => (mx a r.1, r) :: srv l (mx a r.1 + l) rs
def freeOf (l : Int) : Int → List Rw → Int
  | a, [] => a
  | a, r :: rs => freeOf l (mx a r.1 + l) rs
def idl (N l : Int) : Int → List Rw → Int
  | a, [] => N - mn a N
  | a, r :: rs => (mn (mx a r.1) N - mn a N) + idl N l (mx a r.1 + l) rs
def bz (L l : Int) : Int → List Rw → Int
  | _, [] => 0
  | a, r :: rs => mx 0 (mn L (mx a r.1 + l - 1) - mx a r.1 + 1) * (if mx a r.1 ≤ L then 1 else 0) + bz L l (mx a r.1 + l) rs
theorem srv_len (l : Int) : ∀ (T : List Rw) (a : Int), (srv l a T).length = T.length
  | [], _ => rfl
  | r :: T, a => by rw [srv, List.length_cons, srv_len l T, List.length_cons]
theorem srv_snd (l : Int) : ∀ (T : List Rw) (a : Int), (srv l a T).map (·.2) = T
  | [], _ => rfl
  | r :: T, a => by rw [srv, List.map_cons, srv_snd l T]
theorem bz_idl {L l : Int} (hl : 1 ≤ l) : ∀ (T : List Rw) (a : Int), bz L l a T + idl (L + 1) l a T = L + 1 - mn a (L + 1)
  | [], a => by rw [bz, idl]; omega
  | r :: T, a => by
    have ih := bz_idl hl (L := L) T (mx a r.1 + l)
    rw [bz, idl]
    generalize mx a r.1 = s at *
    have e : mx 0 (mn L (s + l - 1) - s + 1) * (if s ≤ L then 1 else 0) = mn (s + l) (L + 1) - mn s (L + 1) := by
      unfold mx mn
      by_cases h : s ≤ L
      · rw [if_pos h, Int.mul_one]
        repeat' split <;> omega
      · rw [if_neg h, Int.mul_zero]
        repeat' split <;> omega
    rw [e]
    omega
theorem idl_mono {N l m : Int} (hlm : l ≤ m) : ∀ (T : List Rw) (a b : Int), a ≤ b → idl N m b T ≤ idl N l a T
  | [], a, b, h => by
    rw [idl, idl]
    unfold mn
    repeat' split <;> omega
  | r :: T, a, b, h => by
    have h2 : mx a r.1 + l ≤ mx b r.1 + m := by
      unfold mx
      repeat' split <;> omega
    have ih := idl_mono (N := N) hlm T _ _ h2
    rw [idl, idl]
    have h3 : mn (mx b r.1) N - mn b N ≤ mn (mx a r.1) N - mn a N := by
      unfold mx mn
      repeat' split <;> omega
    omega
theorem srv_mono {l m : Int} (hlm : l ≤ m) : ∀ (T : List Rw) (a b : Int), a ≤ b → ∀ (k : Nat) (v : Sv), (srv l a T)[k]? = some v → ∃ w, (srv m b T)[k]? = some w ∧ v.1 ≤ w.1
  | [], _, _, _, k, v, h => by rw [srv] at h; simp at h
  | r :: T, a, b, h, k, v, hv => by
    rw [srv] at hv ⊢
    cases k with
    | zero =>
      cases hv
      refine ⟨_, rfl, ?_⟩
      show mx a r.1 ≤ mx b r.1
      unfold mx
      repeat' split <;> omega
    | succ k =>
      have h2 : mx a r.1 + l ≤ mx b r.1 + m := by
        unfold mx
        repeat' split <;> omega
      exact srv_mono hlm T _ _ h2 k v hv
def shR (by_ : Int) (r : Rw) : Rw := (r.1 + by_, r.2)
def shS (by_ : Int) (v : Sv) : Sv := (v.1 + by_, shR by_ v.2)
theorem srv_sh (l c : Int) : ∀ (T : List Rw) (a : Int), srv l (a + c) (T.map (shR c)) = (srv l a T).map (shS c)
  | [], _ => rfl
  | r :: T, a => by
    have e : mx (a + c) (shR c r).1 = mx a r.1 + c := by
      show mx (a + c) (r.1 + c) = _
      unfold mx
      repeat' split <;> omega
    rw [List.map_cons, srv, srv, List.map_cons, e, show mx a r.1 + c + l = mx a r.1 + l + c by omega, srv_sh l c T]; rfl
theorem idl_sh (N l c : Int) : ∀ (T : List Rw) (a : Int), idl (N + c) l (a + c) (T.map (shR c)) = idl N l a T
  | [], a => by
    rw [List.map_nil, idl, idl]
    unfold mn
    repeat' split <;> omega
  | r :: T, a => by
    have e : mx (a + c) (shR c r).1 = mx a r.1 + c := by
      show mx (a + c) (r.1 + c) = _
      unfold mx
      repeat' split <;> omega
    rw [List.map_cons, idl, idl, e, show mx a r.1 + c + l = mx a r.1 + l + c by omega, idl_sh N l c T]
    have : mn (mx a r.1 + c) (N + c) - mn (a + c) (N + c) = mn (mx a r.1) N - mn a N := by
      unfold mn
      repeat' split <;> omega
    omega
theorem mx_ge (a b : Int) : a ≤ mx a b ∧ b ≤ mx a b := by
  unfold mx
  split <;> omega
theorem free_gt {l : Int} (hl : 1 ≤ l) : ∀ (T : List Rw) (a : Int), a ≤ freeOf l a T
  | [], a => Int.le_refl _
  | r :: T, a => by
    have := free_gt hl T (mx a r.1 + l)
    have := mx_ge a r.1
    rw [freeOf]; omega
theorem srv_last (l : Int) : ∀ (T : List Rw) (r : Rw) (a : Int), ∃ pre v, srv l a (r :: T) = pre ++ [v] ∧ v.1 + l = freeOf l a (r :: T)
  | [], r, a => ⟨[], (mx a r.1, r), rfl, rfl⟩
  | q :: T, r, a => by
    obtain ⟨pre, v, h1, h2⟩ := srv_last l T q (mx a r.1 + l)
    refine ⟨(mx a r.1, r) :: pre, v, ?_, ?_⟩
    · rw [srv, h1]; rfl
    · rw [h2]; rfl
/-- no one waits where all are far apart -/
theorem no_wait {l : Int} : ∀ (T : List Rw) (a : Int), (∀ r ∈ T.head?, a ≤ r.1) → (∀ q ∈ T.zip (T.drop 1), l ≤ q.2.1 - q.1.1) → ∀ v ∈ srv l a T, v.1 - v.2.1 = 0
  | [], _, _, _, v, hv => by cases hv
  | r :: T, a, h1, h2, v, hv => by
    have ha : a ≤ r.1 := h1 r rfl
    have es : mx a r.1 = r.1 := by unfold mx; split <;> omega
    rw [srv, es] at hv
    rcases List.mem_cons.mp hv with rfl | hv
    · show r.1 - r.1 = 0; omega
    · refine no_wait T (r.1 + l) (fun q hq => ?_) (fun q hq => ?_) v hv
      · cases T with
        | nil => cases hq
        | cons z T =>
          have ez : z = q := Option.some.inj hq
          have : l ≤ z.1 - r.1 := h2 (r, z) (by
            show (r, z) ∈ (r :: z :: T).zip (z :: T)
            simp)
          rw [← ez]
          omega
      · cases T with
        | nil => cases hq
        | cons z T =>
          refine h2 q ?_
          show q ∈ (r :: z :: T).zip (z :: T)
          rw [List.zip_cons_cons]
          exact List.mem_cons_of_mem _ hq
/-! ### the walks -/
theorem served_loop (S A B R' : Sl) (l : Int) : ∀ (T : List Rw) (acc : List Sv) (a : Int) (X Y Z : Sl), acc.length + T.length ≤ 1000 →
    ∃ f' X' Y' Z', forD (.tp (.cons (.nm 7) (.cons (.nm 8) (.nil)))) (semSs b_served_l1) (T.map rowD) [S, A, B, .sh (.int l), R', .ol (acc.map svD), .sh (.int a), X, Y, Z] = .ok (.nx [S, A, B, .sh (.int l), R', .ol ((acc ++ srv l a T).map svD), f', X', Y', Z'])
  | [], acc, a, X, Y, Z, _ => ⟨.sh (.int a), X, Y, Z, by rw [srv, List.append_nil]; rfl⟩
  | r :: T, acc, a, X, Y, Z, h => by
    rw [List.length_cons] at h
    obtain ⟨f', X', Y', Z', ih⟩ := served_loop S A B R' l T (acc ++ [(mx a r.1, r)]) (mx a r.1 + l) (.sh (.int r.1)) (.sh (.str r.2)) (.sh (.int (mx a r.1))) (by rw [List.length_append, List.length_singleton]; omega)
    refine ⟨f', X', Y', Z', ?_⟩
    rw [List.map_cons, for_cons (δ1 := [S, A, B, .sh (.int l), R', .ol (acc.map svD), .sh (.int a), .sh (.int r.1), .sh (.str r.2), Z]) rfl]
    have mt : mkT [.int (mx a r.1), .int r.1, .str r.2] = .ok (svD (mx a r.1, r)) := mkT_ok (by simp)
    have eb : semSs b_served_l1 [S, A, B, .sh (.int l), R', .ol (acc.map svD), .sh (.int a), .sh (.int r.1), .sh (.str r.2), Z] = .ok (.nx [S, A, B, .sh (.int l), R', .ol ((acc ++ [(mx a r.1, r)]).map svD), .sh (.int (mx a r.1 + l)), .sh (.int r.1), .sh (.str r.2), .sh (.int (mx a r.1))]) := by
      simp -implicitDefEqProofs only [b_served_l1, ss_cons, ss_nil, st_ret, st_retN, st_pass, st_expr, st_ife, st_set, st_setV, st_asg, st_loop, st_ext, st_put, st_ownD, st_while, st_own, st_app, st_appV, st_raise, st_try, tryP_ok, tryP_exn, at_nx, at_rt, at_exn, endP_nx, endP_rt, endP_exn, ev_var, ev_int, ev_str, ev_bl, ev_non, ev_gint, ev_gstr, ev_bin, ev_neg, ev_cmp, ev_chain, ev_and, ev_or, ev_not, ev_ite, ev_tup, ev_lst, ev_call, ev_bi, ev_isi, ev_idx, ev_rev, ev_nil, ev_cons, ev_cut, ev_oN, ev_oS, ev_lzip, ev_dget, ev_lrange, ev_sset, ev_meth, mth_count, mth_index, mth_join, mth_split, ev_iL, ev_iT, ev_iS, ev_r1, ev_r2, ev_r3, ev_zip, ev_enum, ev_cN, ev_cS, ev_comp, two_ok, two_exn, one_ok, one_exn, many_ok, many_exn, consR_ok, consR_exn, andP_t, andP_f, orP_t, orP_f, notP_ok, notP_exn, chP_t, chP_f, chQ_ok, iteP_t, iteP_f, cutP_ok, oP_ok, itP_ok, itP2_ok, itP3_ok, cP_ok, listR_ok, retP_ok, pick_t, pick_f, pick_exn, exP_ok, exP_exn, setP_ok, setP_exn, forP_ok, view, shSl, lk, List.map_cons, List.map_nil, List.length_cons, List.length_nil, List.append_nil, List.nil_append, List.cons_append, List.getElem?_cons_zero, List.getElem?_cons_succ, List.set_cons_zero, List.set_cons_succ, List.set_nil, List.replicate_zero, List.replicate_succ, Nat.sub_self, Nat.zero_add, Nat.reduceAdd, Nat.reduceSub, Bop.fn, Cop.fn, Bi.fn, add_ii, add_ll, add_tt, sub_ii, mul_ii, div_ii, mod_ii, lt_ii, le_ii, gt_ii, ge_ii, is_n, is_t, is_i, isnot_n, isnot_t, isnot_i, isi_i, isi_b, isi_n, isi_s, isi_l, isi_t, isi, DW.len_l, DW.len_t, DW.len_c, tuple_l, tuple_t, list_l, list_t, int_i, int_b, neg_i, idx_l, idx_t, idx_c, ofO_some, rev_l, cut_l, cut_t, lof_l, tof_t, sof_l, sof_t, lzipS, zipS, enumS, R.bind_ok, if_true, if_false, ite_true, ite_false, Bool.not_true, Bool.not_false, bind_nm, bind_tp, bind_nil, bind_cons, DW.scal, DW.wipeD, mx_ok, mt]
      rw [appP_ok (by rw [List.length_map]; omega), List.map_append]
      simp -implicitDefEqProofs only [ss_cons, ss_nil, st_ret, st_retN, st_pass, st_expr, st_ife, st_set, st_setV, st_asg, st_loop, st_ext, st_put, st_ownD, st_while, st_own, st_app, st_appV, st_raise, st_try, tryP_ok, tryP_exn, at_nx, at_rt, at_exn, endP_nx, endP_rt, endP_exn, ev_var, ev_int, ev_str, ev_bl, ev_non, ev_gint, ev_gstr, ev_bin, ev_neg, ev_cmp, ev_chain, ev_and, ev_or, ev_not, ev_ite, ev_tup, ev_lst, ev_call, ev_bi, ev_isi, ev_idx, ev_rev, ev_nil, ev_cons, ev_cut, ev_oN, ev_oS, ev_lzip, ev_dget, ev_lrange, ev_sset, ev_meth, mth_count, mth_index, mth_join, mth_split, ev_iL, ev_iT, ev_iS, ev_r1, ev_r2, ev_r3, ev_zip, ev_enum, ev_cN, ev_cS, ev_comp, two_ok, two_exn, one_ok, one_exn, many_ok, many_exn, consR_ok, consR_exn, andP_t, andP_f, orP_t, orP_f, notP_ok, notP_exn, chP_t, chP_f, chQ_ok, iteP_t, iteP_f, cutP_ok, oP_ok, itP_ok, itP2_ok, itP3_ok, cP_ok, listR_ok, retP_ok, pick_t, pick_f, pick_exn, exP_ok, exP_exn, setP_ok, setP_exn, forP_ok, view, shSl, lk, List.map_cons, List.map_nil, List.length_cons, List.length_nil, List.append_nil, List.nil_append, List.cons_append, List.getElem?_cons_zero, List.getElem?_cons_succ, List.set_cons_zero, List.set_cons_succ, List.set_nil, List.replicate_zero, List.replicate_succ, Nat.sub_self, Nat.zero_add, Nat.reduceAdd, Nat.reduceSub, Bop.fn, Cop.fn, Bi.fn, add_ii, add_ll, add_tt, sub_ii, mul_ii, div_ii, mod_ii, lt_ii, le_ii, gt_ii, ge_ii, is_n, is_t, is_i, isnot_n, isnot_t, isnot_i, isi_i, isi_b, isi_n, isi_s, isi_l, isi_t, isi, DW.len_l, DW.len_t, DW.len_c, tuple_l, tuple_t, list_l, list_t, int_i, int_b, neg_i, idx_l, idx_t, idx_c, ofO_some, rev_l, cut_l, cut_t, lof_l, tof_t, sof_l, sof_t, lzipS, zipS, enumS, R.bind_ok, if_true, if_false, ite_true, ite_false, Bool.not_true, Bool.not_false, bind_nm, bind_tp, bind_nil, bind_cons, DW.scal, DW.wipeD]
    rw [eb, at_nx, ih, List.append_assoc, srv]; rfl
structure Ok (ps : List Dd) (F L : Int) : Prop where
  h : ∀ x ∈ ps, DeedOk x
  l : ps.length ≤ 12
  r : rise ps = true
  F0 : 0 ≤ F
  FL : F ≤ L
  L1 : L ≤ 9999
  h60 : L - F ≤ 60
theorem served_ok {ps : List Dd} {F L : Int} (o : Ok ps F L) {l : Int} (l0 : 1 ≤ l) (l1 : l ≤ 99) : f_served [planD ps, .int F, .int L, .int l] = .ok (.list ((srv l F (toldOf ps F L)).map svD)) := by
  have tl := told_len o.h o.l o.FL o.h60
  obtain ⟨f', X', Y', Z', lp⟩ := served_loop (.sh (planD ps)) (.sh (.int F)) (.sh (.int L)) (.sh (.list ((toldOf ps F L).map rowD))) l (toldOf ps F L) [] F .un .un .un (by simp; omega)
  rw [List.nil_append, List.map_nil] at lp
  have b1 : (decide ((1 : Int) ≤ l) && decide (l ≤ 99)) = true := by simp [l0, l1]
  simp -implicitDefEqProofs only [f_served, run_eq, b_served, ss_cons, ss_nil, st_ret, st_retN, st_pass, st_expr, st_ife, st_set, st_setV, st_asg, st_loop, st_ext, st_put, st_ownD, st_while, st_own, st_app, st_appV, st_raise, st_try, tryP_ok, tryP_exn, at_nx, at_rt, at_exn, endP_nx, endP_rt, endP_exn, ev_var, ev_int, ev_str, ev_bl, ev_non, ev_gint, ev_gstr, ev_bin, ev_neg, ev_cmp, ev_chain, ev_and, ev_or, ev_not, ev_ite, ev_tup, ev_lst, ev_call, ev_bi, ev_isi, ev_idx, ev_rev, ev_nil, ev_cons, ev_cut, ev_oN, ev_oS, ev_lzip, ev_dget, ev_lrange, ev_sset, ev_meth, mth_count, mth_index, mth_join, mth_split, ev_iL, ev_iT, ev_iS, ev_r1, ev_r2, ev_r3, ev_zip, ev_enum, ev_cN, ev_cS, ev_comp, two_ok, two_exn, one_ok, one_exn, many_ok, many_exn, consR_ok, consR_exn, andP_t, andP_f, orP_t, orP_f, notP_ok, notP_exn, chP_t, chP_f, chQ_ok, iteP_t, iteP_f, cutP_ok, oP_ok, itP_ok, itP2_ok, itP3_ok, cP_ok, listR_ok, retP_ok, pick_t, pick_f, pick_exn, exP_ok, exP_exn, setP_ok, setP_exn, forP_ok, view, shSl, lk, List.map_cons, List.map_nil, List.length_cons, List.length_nil, List.append_nil, List.nil_append, List.cons_append, List.getElem?_cons_zero, List.getElem?_cons_succ, List.set_cons_zero, List.set_cons_succ, List.set_nil, List.replicate_zero, List.replicate_succ, Nat.sub_self, Nat.zero_add, Nat.reduceAdd, Nat.reduceSub, Bop.fn, Cop.fn, Bi.fn, add_ii, add_ll, add_tt, sub_ii, mul_ii, div_ii, mod_ii, lt_ii, le_ii, gt_ii, ge_ii, is_n, is_t, is_i, isnot_n, isnot_t, isnot_i, isi_i, isi_b, isi_n, isi_s, isi_l, isi_t, isi, DW.len_l, DW.len_t, DW.len_c, tuple_l, tuple_t, list_l, list_t, int_i, int_b, neg_i, idx_l, idx_t, idx_c, ofO_some, rev_l, cut_l, cut_t, lof_l, tof_t, sof_l, sof_t, lzipS, zipS, enumS, R.bind_ok, if_true, if_false, ite_true, ite_false, Bool.not_true, Bool.not_false, bind_nm, bind_tp, bind_nil, bind_cons, DW.scal, DW.wipeD, told_ok o.h o.l o.r o.F0 o.FL o.L1, is_number_int, b1]
  rw [ownP_ok (by simp)]
  simp -implicitDefEqProofs only [ss_cons, ss_nil, st_ret, st_retN, st_pass, st_expr, st_ife, st_set, st_setV, st_asg, st_loop, st_ext, st_put, st_ownD, st_while, st_own, st_app, st_appV, st_raise, st_try, tryP_ok, tryP_exn, at_nx, at_rt, at_exn, endP_nx, endP_rt, endP_exn, ev_var, ev_int, ev_str, ev_bl, ev_non, ev_gint, ev_gstr, ev_bin, ev_neg, ev_cmp, ev_chain, ev_and, ev_or, ev_not, ev_ite, ev_tup, ev_lst, ev_call, ev_bi, ev_isi, ev_idx, ev_rev, ev_nil, ev_cons, ev_cut, ev_oN, ev_oS, ev_lzip, ev_dget, ev_lrange, ev_sset, ev_meth, mth_count, mth_index, mth_join, mth_split, ev_iL, ev_iT, ev_iS, ev_r1, ev_r2, ev_r3, ev_zip, ev_enum, ev_cN, ev_cS, ev_comp, two_ok, two_exn, one_ok, one_exn, many_ok, many_exn, consR_ok, consR_exn, andP_t, andP_f, orP_t, orP_f, notP_ok, notP_exn, chP_t, chP_f, chQ_ok, iteP_t, iteP_f, cutP_ok, oP_ok, itP_ok, itP2_ok, itP3_ok, cP_ok, listR_ok, retP_ok, pick_t, pick_f, pick_exn, exP_ok, exP_exn, setP_ok, setP_exn, forP_ok, view, shSl, lk, List.map_cons, List.map_nil, List.length_cons, List.length_nil, List.append_nil, List.nil_append, List.cons_append, List.getElem?_cons_zero, List.getElem?_cons_succ, List.set_cons_zero, List.set_cons_succ, List.set_nil, List.replicate_zero, List.replicate_succ, Nat.sub_self, Nat.zero_add, Nat.reduceAdd, Nat.reduceSub, Bop.fn, Cop.fn, Bi.fn, add_ii, add_ll, add_tt, sub_ii, mul_ii, div_ii, mod_ii, lt_ii, le_ii, gt_ii, ge_ii, is_n, is_t, is_i, isnot_n, isnot_t, isnot_i, isi_i, isi_b, isi_n, isi_s, isi_l, isi_t, isi, DW.len_l, DW.len_t, DW.len_c, tuple_l, tuple_t, list_l, list_t, int_i, int_b, neg_i, idx_l, idx_t, idx_c, ofO_some, rev_l, cut_l, cut_t, lof_l, tof_t, sof_l, sof_t, lzipS, zipS, enumS, R.bind_ok, if_true, if_false, ite_true, ite_false, Bool.not_true, Bool.not_false, bind_nm, bind_tp, bind_nil, bind_cons, DW.scal, DW.wipeD, lp]
theorem sh_sv {v : Sv} (h : NameOk v.2.2) : PyData.canLay0 (svD v) = true := by
  show PyData.canLayAll0 [.int v.1, .int v.2.1, .str v.2.2] = true
  simp only [PyData.canLayAll0, PyData.canLay0, strOk_of h, Bool.and_self]
theorem lay_svs : ∀ {l : List Sv}, (∀ v ∈ l, NameOk v.2.2) → PyData.canLayAll0 (l.map svD) = true
  | [], _ => rfl
  | r :: l, h => by
    rw [List.map_cons, PyData.canLayAll0, lay_svs fun y hy => h y (List.mem_cons_of_mem _ hy), sh_sv (h r List.mem_cons_self)]; rfl
theorem dep_svs : ∀ l : List Sv, PyData.depthAll (l.map svD) ≤ 1
  | [] => by simp [PyData.depthAll]
  | x :: l => by
    have e : PyData.depth (svD x) = 1 := rfl
    have := dep_svs l
    rw [List.map_cons, PyData.depthAll, e]; omega
theorem sh_svs {l : List Sv} (h : ∀ v ∈ l, NameOk v.2.2) : SeqAt.shaped (.list (l.map svD)) = true := by
  have := dep_svs l
  unfold SeqAt.shaped
  rw [PyData.canLay0, lay_svs h, PyData.depth, Bool.true_and, decide_eq_true_eq]; omega
theorem eqv_svs : ∀ l : List Sv, PyData.eqvAll (l.map svD) (l.map svD) = true
  | [] => rfl
  | a :: l => by
    rw [List.map_cons, PyData.eqvAll, eqv_svs l, Bool.and_true]
    simp [svD, PyData.eqv, PyData.eqvAll]
theorem ne_svs {l : List Sv} (h : ∀ v ∈ l, NameOk v.2.2) : dNe (.list (l.map svD)) (.list (l.map svD)) = .ok (.bool false) := by
  unfold dNe
  rw [if_pos ⟨sh_svs h, sh_svs h⟩, PyData.eqv, eqv_svs]; rfl
theorem ne_sv_nil {l : List Sv} (h : ∀ v ∈ l, NameOk v.2.2) : dNe (.list (l.map svD)) (.list []) = .ok (.bool (!decide (l = []))) := by
  unfold dNe
  rw [if_pos ⟨sh_svs h, rfl⟩, PyData.eqv]
  cases l with
  | nil => rfl
  | cons x l => simp [PyData.eqvAll]
theorem eq_sv_nil {l : List Sv} (h : ∀ v ∈ l, NameOk v.2.2) : dEq (.list (l.map svD)) (.list []) = .ok (.bool (decide (l = []))) := by
  show (if SeqAt.shaped (.list (l.map svD) : PyData) = true ∧ SeqAt.shaped (.list [] : PyData) = true then R.ok (PyData.bool (PyData.eqv (.list (l.map svD)) (.list []))) else .bad) = _
  rw [if_pos ⟨sh_svs h, rfl⟩, PyData.eqv]
  cases l with
  | nil => rfl
  | cons x l => simp [PyData.eqvAll]
theorem nm_srv {l : Int} : ∀ {T : List Rw} {a : Int}, (∀ r ∈ T, NameOk r.2) → ∀ v ∈ srv l a T, NameOk v.2.2 := fun {T a} h v hv => by
  have : v.2 ∈ (srv l a T).map (·.2) := List.mem_map.mpr ⟨v, hv, rfl⟩
  rw [srv_snd] at this
  exact h _ this
def mxD : List Int → PyData
  | [] => .none
  | b :: l => .int (l.foldl max b)
theorem ne_mxD (W : List Int) : dNe (mxD W) (mxD W) = .ok (.bool false) := by
  cases W with
  | nil => rfl
  | cons b l => rw [mxD, ne_int, decide_eq_true rfl]; rfl
def waits (l F : Int) (T : List Rw) : List Int := (srv l F T).map fun v => v.1 - v.2.1
theorem wait_ok {ps : List Dd} {F L : Int} (o : Ok ps F L) {l : Int} (l0 : 1 ≤ l) (l1 : l ≤ 99) : f_longest_wait [planD ps, .int F, .int L, .int l] = .ok (mxD (waits l F (toldOf ps F L))) := by
  have tl := told_len o.h o.l o.FL o.h60
  have c1 : compP (.bin .sub (.var 5) (.var 6)) (.tp (.cons (.nm 5) (.cons (.nm 6) (.cons (.nm 7) (.nil))))) .none [.sh (planD ps), .sh (.int F), .sh (.int L), .sh (.int l), .un, .un, .un, .un] (.ok ((srv l F (toldOf ps F L)).map svD)) = .ok (.list (nms (waits l F (toldOf ps F L)))) := by
    rw [compP_ok (by rw [List.length_map, srv_len]; omega), nms, waits, List.map_map, compG_map svD (PyData.int ∘ fun v : Sv => v.1 - v.2.1) _ fun v _ => ⟨_, rfl, rfl⟩]; rfl
  have mle : mkL ([] : List PyData) = .ok (.list []) := mkL_ok (by simp)
  generalize waits l F (toldOf ps F L) = W at *
  have ne := ne_nms W []
  rw [nms_nil] at ne
  cases W with
  | nil =>
    rw [decide_eq_true rfl] at ne
    simp -implicitDefEqProofs only [f_longest_wait, run_eq, b_longest_wait, e_longest_wait_c1, ss_cons, ss_nil, st_ret, st_retN, st_pass, st_expr, st_ife, st_set, st_setV, st_asg, st_loop, st_ext, st_put, st_ownD, st_while, st_own, st_app, st_appV, st_raise, st_try, tryP_ok, tryP_exn, at_nx, at_rt, at_exn, endP_nx, endP_rt, endP_exn, ev_var, ev_int, ev_str, ev_bl, ev_non, ev_gint, ev_gstr, ev_bin, ev_neg, ev_cmp, ev_chain, ev_and, ev_or, ev_not, ev_ite, ev_tup, ev_lst, ev_call, ev_bi, ev_isi, ev_idx, ev_rev, ev_nil, ev_cons, ev_cut, ev_oN, ev_oS, ev_lzip, ev_dget, ev_lrange, ev_sset, ev_meth, mth_count, mth_index, mth_join, mth_split, ev_iL, ev_iT, ev_iS, ev_r1, ev_r2, ev_r3, ev_zip, ev_enum, ev_cN, ev_cS, ev_comp, two_ok, two_exn, one_ok, one_exn, many_ok, many_exn, consR_ok, consR_exn, andP_t, andP_f, orP_t, orP_f, notP_ok, notP_exn, chP_t, chP_f, chQ_ok, iteP_t, iteP_f, cutP_ok, oP_ok, itP_ok, itP2_ok, itP3_ok, cP_ok, listR_ok, retP_ok, pick_t, pick_f, pick_exn, exP_ok, exP_exn, setP_ok, setP_exn, forP_ok, view, shSl, lk, List.map_cons, List.map_nil, List.length_cons, List.length_nil, List.append_nil, List.nil_append, List.cons_append, List.getElem?_cons_zero, List.getElem?_cons_succ, List.set_cons_zero, List.set_cons_succ, List.set_nil, List.replicate_zero, List.replicate_succ, Nat.sub_self, Nat.zero_add, Nat.reduceAdd, Nat.reduceSub, Bop.fn, Cop.fn, Bi.fn, add_ii, add_ll, add_tt, sub_ii, mul_ii, div_ii, mod_ii, lt_ii, le_ii, gt_ii, ge_ii, is_n, is_t, is_i, isnot_n, isnot_t, isnot_i, isi_i, isi_b, isi_n, isi_s, isi_l, isi_t, isi, DW.len_l, DW.len_t, DW.len_c, tuple_l, tuple_t, list_l, list_t, int_i, int_b, neg_i, idx_l, idx_t, idx_c, ofO_some, rev_l, cut_l, cut_t, lof_l, tof_t, sof_l, sof_t, lzipS, zipS, enumS, R.bind_ok, if_true, if_false, ite_true, ite_false, Bool.not_true, Bool.not_false, bind_nm, bind_tp, bind_nil, bind_cons, DW.scal, DW.wipeD, served_ok o l0 l1, c1, mle, ne, mxD]
  | cons b W =>
    have e : decide ((b :: W : List Int) = []) = false := by simp
    rw [e] at ne
    have m1 := max1_ints b W
    generalize nms (b :: W) = BW at *
    simp -implicitDefEqProofs only [f_longest_wait, run_eq, b_longest_wait, e_longest_wait_c1, ss_cons, ss_nil, st_ret, st_retN, st_pass, st_expr, st_ife, st_set, st_setV, st_asg, st_loop, st_ext, st_put, st_ownD, st_while, st_own, st_app, st_appV, st_raise, st_try, tryP_ok, tryP_exn, at_nx, at_rt, at_exn, endP_nx, endP_rt, endP_exn, ev_var, ev_int, ev_str, ev_bl, ev_non, ev_gint, ev_gstr, ev_bin, ev_neg, ev_cmp, ev_chain, ev_and, ev_or, ev_not, ev_ite, ev_tup, ev_lst, ev_call, ev_bi, ev_isi, ev_idx, ev_rev, ev_nil, ev_cons, ev_cut, ev_oN, ev_oS, ev_lzip, ev_dget, ev_lrange, ev_sset, ev_meth, mth_count, mth_index, mth_join, mth_split, ev_iL, ev_iT, ev_iS, ev_r1, ev_r2, ev_r3, ev_zip, ev_enum, ev_cN, ev_cS, ev_comp, two_ok, two_exn, one_ok, one_exn, many_ok, many_exn, consR_ok, consR_exn, andP_t, andP_f, orP_t, orP_f, notP_ok, notP_exn, chP_t, chP_f, chQ_ok, iteP_t, iteP_f, cutP_ok, oP_ok, itP_ok, itP2_ok, itP3_ok, cP_ok, listR_ok, retP_ok, pick_t, pick_f, pick_exn, exP_ok, exP_exn, setP_ok, setP_exn, forP_ok, view, shSl, lk, List.map_cons, List.map_nil, List.length_cons, List.length_nil, List.append_nil, List.nil_append, List.cons_append, List.getElem?_cons_zero, List.getElem?_cons_succ, List.set_cons_zero, List.set_cons_succ, List.set_nil, List.replicate_zero, List.replicate_succ, Nat.sub_self, Nat.zero_add, Nat.reduceAdd, Nat.reduceSub, Bop.fn, Cop.fn, Bi.fn, add_ii, add_ll, add_tt, sub_ii, mul_ii, div_ii, mod_ii, lt_ii, le_ii, gt_ii, ge_ii, is_n, is_t, is_i, isnot_n, isnot_t, isnot_i, isi_i, isi_b, isi_n, isi_s, isi_l, isi_t, isi, DW.len_l, DW.len_t, DW.len_c, tuple_l, tuple_t, list_l, list_t, int_i, int_b, neg_i, idx_l, idx_t, idx_c, ofO_some, rev_l, cut_l, cut_t, lof_l, tof_t, sof_l, sof_t, lzipS, zipS, enumS, R.bind_ok, if_true, if_false, ite_true, ite_false, Bool.not_true, Bool.not_false, bind_nm, bind_tp, bind_nil, bind_cons, DW.scal, DW.wipeD, served_ok o l0 l1, c1, mle, ne, m1, mxD]
theorem free_ok {ps : List Dd} {F L : Int} (o : Ok ps F L) {l : Int} (l0 : 1 ≤ l) (l1 : l ≤ 99) : f_free_again [planD ps, .int F, .int L, .int l] = .ok (.int (freeOf l F (toldOf ps F L))) := by
  have mle : mkL ([] : List PyData) = .ok (.list []) := mkL_ok (by simp)
  have sv := served_ok o l0 l1
  have nmv := nm_srv (l := l) (a := F) (nm_told (F := F) (L := L) o.h)
  have ne := ne_sv_nil nmv
  have y0 : ∀ a b c : PyData, atI [a, b, c] 0 = some a := fun _ _ _ => rfl
  cases hT : toldOf ps F L with
  | nil =>
    rw [hT] at sv ne
    have e : decide (srv l F ([] : List Rw) = []) = true := decide_eq_true rfl
    rw [e] at ne
    simp -implicitDefEqProofs only [f_free_again, run_eq, b_free_again, ss_cons, ss_nil, st_ret, st_retN, st_pass, st_expr, st_ife, st_set, st_setV, st_asg, st_loop, st_ext, st_put, st_ownD, st_while, st_own, st_app, st_appV, st_raise, st_try, tryP_ok, tryP_exn, at_nx, at_rt, at_exn, endP_nx, endP_rt, endP_exn, ev_var, ev_int, ev_str, ev_bl, ev_non, ev_gint, ev_gstr, ev_bin, ev_neg, ev_cmp, ev_chain, ev_and, ev_or, ev_not, ev_ite, ev_tup, ev_lst, ev_call, ev_bi, ev_isi, ev_idx, ev_rev, ev_nil, ev_cons, ev_cut, ev_oN, ev_oS, ev_lzip, ev_dget, ev_lrange, ev_sset, ev_meth, mth_count, mth_index, mth_join, mth_split, ev_iL, ev_iT, ev_iS, ev_r1, ev_r2, ev_r3, ev_zip, ev_enum, ev_cN, ev_cS, ev_comp, two_ok, two_exn, one_ok, one_exn, many_ok, many_exn, consR_ok, consR_exn, andP_t, andP_f, orP_t, orP_f, notP_ok, notP_exn, chP_t, chP_f, chQ_ok, iteP_t, iteP_f, cutP_ok, oP_ok, itP_ok, itP2_ok, itP3_ok, cP_ok, listR_ok, retP_ok, pick_t, pick_f, pick_exn, exP_ok, exP_exn, setP_ok, setP_exn, forP_ok, view, shSl, lk, List.map_cons, List.map_nil, List.length_cons, List.length_nil, List.append_nil, List.nil_append, List.cons_append, List.getElem?_cons_zero, List.getElem?_cons_succ, List.set_cons_zero, List.set_cons_succ, List.set_nil, List.replicate_zero, List.replicate_succ, Nat.sub_self, Nat.zero_add, Nat.reduceAdd, Nat.reduceSub, Bop.fn, Cop.fn, Bi.fn, add_ii, add_ll, add_tt, sub_ii, mul_ii, div_ii, mod_ii, lt_ii, le_ii, gt_ii, ge_ii, is_n, is_t, is_i, isnot_n, isnot_t, isnot_i, isi_i, isi_b, isi_n, isi_s, isi_l, isi_t, isi, DW.len_l, DW.len_t, DW.len_c, tuple_l, tuple_t, list_l, list_t, int_i, int_b, neg_i, idx_l, idx_t, idx_c, ofO_some, rev_l, cut_l, cut_t, lof_l, tof_t, sof_l, sof_t, lzipS, zipS, enumS, R.bind_ok, if_true, if_false, ite_true, ite_false, Bool.not_true, Bool.not_false, bind_nm, bind_tp, bind_nil, bind_cons, DW.scal, DW.wipeD, sv, mle, ne, freeOf]
  | cons r T =>
    rw [hT] at sv ne
    obtain ⟨pre, v, h1, h2⟩ := srv_last l T r F
    rw [h1] at sv ne
    have e : decide (pre ++ [v] = []) = false := by simp
    rw [e] at ne
    have la : atI ((pre ++ [v]).map svD) (-1) = some (svD v) := by rw [List.map_append]; exact DW.atI_last _ _
    generalize (pre ++ [v]).map svD = PV at *
    simp -implicitDefEqProofs only [f_free_again, run_eq, b_free_again, ss_cons, ss_nil, st_ret, st_retN, st_pass, st_expr, st_ife, st_set, st_setV, st_asg, st_loop, st_ext, st_put, st_ownD, st_while, st_own, st_app, st_appV, st_raise, st_try, tryP_ok, tryP_exn, at_nx, at_rt, at_exn, endP_nx, endP_rt, endP_exn, ev_var, ev_int, ev_str, ev_bl, ev_non, ev_gint, ev_gstr, ev_bin, ev_neg, ev_cmp, ev_chain, ev_and, ev_or, ev_not, ev_ite, ev_tup, ev_lst, ev_call, ev_bi, ev_isi, ev_idx, ev_rev, ev_nil, ev_cons, ev_cut, ev_oN, ev_oS, ev_lzip, ev_dget, ev_lrange, ev_sset, ev_meth, mth_count, mth_index, mth_join, mth_split, ev_iL, ev_iT, ev_iS, ev_r1, ev_r2, ev_r3, ev_zip, ev_enum, ev_cN, ev_cS, ev_comp, two_ok, two_exn, one_ok, one_exn, many_ok, many_exn, consR_ok, consR_exn, andP_t, andP_f, orP_t, orP_f, notP_ok, notP_exn, chP_t, chP_f, chQ_ok, iteP_t, iteP_f, cutP_ok, oP_ok, itP_ok, itP2_ok, itP3_ok, cP_ok, listR_ok, retP_ok, pick_t, pick_f, pick_exn, exP_ok, exP_exn, setP_ok, setP_exn, forP_ok, view, shSl, lk, List.map_cons, List.map_nil, List.length_cons, List.length_nil, List.append_nil, List.nil_append, List.cons_append, List.getElem?_cons_zero, List.getElem?_cons_succ, List.set_cons_zero, List.set_cons_succ, List.set_nil, List.replicate_zero, List.replicate_succ, Nat.sub_self, Nat.zero_add, Nat.reduceAdd, Nat.reduceSub, Bop.fn, Cop.fn, Bi.fn, add_ii, add_ll, add_tt, sub_ii, mul_ii, div_ii, mod_ii, lt_ii, le_ii, gt_ii, ge_ii, is_n, is_t, is_i, isnot_n, isnot_t, isnot_i, isi_i, isi_b, isi_n, isi_s, isi_l, isi_t, isi, DW.len_l, DW.len_t, DW.len_c, tuple_l, tuple_t, list_l, list_t, int_i, int_b, neg_i, idx_l, idx_t, idx_c, ofO_some, rev_l, cut_l, cut_t, lof_l, tof_t, sof_l, sof_t, lzipS, zipS, enumS, R.bind_ok, if_true, if_false, ite_true, ite_false, Bool.not_true, Bool.not_false, bind_nm, bind_tp, bind_nil, bind_cons, DW.scal, DW.wipeD, sv, mle, ne, Int.reduceNeg, la, svD, y0, h2]
theorem idle_loop (S A : Sl) (L l : Int) : ∀ (T : List Rw) (a n : Int) (X Y Z : Sl),
    ∃ n' X' Y' Z', forD (.tp (.cons (.nm 6) (.cons (.nm 7) (.cons (.nm 8) (.nil))))) (semSs b_idle_l1) ((srv l a T).map svD) [S, A, .sh (.int L), .sh (.int l), .sh (.int n), .sh (.int (mn a (L + 1))), X, Y, Z] = .ok (.nx [S, A, .sh (.int L), .sh (.int l), .sh (.int n'), .sh (.int (mn (freeOf l a T) (L + 1))), X', Y', Z']) ∧ n' + (L + 1 - mn (freeOf l a T) (L + 1)) = n + idl (L + 1) l a T
  | [], a, n, X, Y, Z => ⟨n, X, Y, Z, rfl, rfl⟩
  | r :: T, a, n, X, Y, Z => by
    obtain ⟨n', X', Y', Z', ih, ie⟩ := idle_loop S A L l T (mx a r.1 + l) (n + (mn (mx a r.1) (L + 1) - mn a (L + 1))) (.sh (.int (mx a r.1))) (.sh (.int r.1)) (.sh (.str r.2))
    refine ⟨n', X', Y', Z', ?_, ?_⟩
    · rw [srv, List.map_cons, for_cons (δ1 := [S, A, .sh (.int L), .sh (.int l), .sh (.int n), .sh (.int (mn a (L + 1))), .sh (.int (mx a r.1)), .sh (.int r.1), .sh (.str r.2)]) rfl]
      have h0 : mx 0 (mn (mx a r.1) (L + 1) - mn a (L + 1)) = mn (mx a r.1) (L + 1) - mn a (L + 1) := by
        have := (mx_ge a r.1).1
        generalize mx a r.1 = s at *
        unfold mx mn
        repeat' split <;> omega
      have eb : semSs b_idle_l1 [S, A, .sh (.int L), .sh (.int l), .sh (.int n), .sh (.int (mn a (L + 1))), .sh (.int (mx a r.1)), .sh (.int r.1), .sh (.str r.2)] = .ok (.nx [S, A, .sh (.int L), .sh (.int l), .sh (.int (n + (mn (mx a r.1) (L + 1) - mn a (L + 1)))), .sh (.int (mn (mx a r.1 + l) (L + 1))), .sh (.int (mx a r.1)), .sh (.int r.1), .sh (.str r.2)]) := by
        simp -implicitDefEqProofs only [b_idle_l1, ss_cons, ss_nil, st_ret, st_retN, st_pass, st_expr, st_ife, st_set, st_setV, st_asg, st_loop, st_ext, st_put, st_ownD, st_while, st_own, st_app, st_appV, st_raise, st_try, tryP_ok, tryP_exn, at_nx, at_rt, at_exn, endP_nx, endP_rt, endP_exn, ev_var, ev_int, ev_str, ev_bl, ev_non, ev_gint, ev_gstr, ev_bin, ev_neg, ev_cmp, ev_chain, ev_and, ev_or, ev_not, ev_ite, ev_tup, ev_lst, ev_call, ev_bi, ev_isi, ev_idx, ev_rev, ev_nil, ev_cons, ev_cut, ev_oN, ev_oS, ev_lzip, ev_dget, ev_lrange, ev_sset, ev_meth, mth_count, mth_index, mth_join, mth_split, ev_iL, ev_iT, ev_iS, ev_r1, ev_r2, ev_r3, ev_zip, ev_enum, ev_cN, ev_cS, ev_comp, two_ok, two_exn, one_ok, one_exn, many_ok, many_exn, consR_ok, consR_exn, andP_t, andP_f, orP_t, orP_f, notP_ok, notP_exn, chP_t, chP_f, chQ_ok, iteP_t, iteP_f, cutP_ok, oP_ok, itP_ok, itP2_ok, itP3_ok, cP_ok, listR_ok, retP_ok, pick_t, pick_f, pick_exn, exP_ok, exP_exn, setP_ok, setP_exn, forP_ok, view, shSl, lk, List.map_cons, List.map_nil, List.length_cons, List.length_nil, List.append_nil, List.nil_append, List.cons_append, List.getElem?_cons_zero, List.getElem?_cons_succ, List.set_cons_zero, List.set_cons_succ, List.set_nil, List.replicate_zero, List.replicate_succ, Nat.sub_self, Nat.zero_add, Nat.reduceAdd, Nat.reduceSub, Bop.fn, Cop.fn, Bi.fn, add_ii, add_ll, add_tt, sub_ii, mul_ii, div_ii, mod_ii, lt_ii, le_ii, gt_ii, ge_ii, is_n, is_t, is_i, isnot_n, isnot_t, isnot_i, isi_i, isi_b, isi_n, isi_s, isi_l, isi_t, isi, DW.len_l, DW.len_t, DW.len_c, tuple_l, tuple_t, list_l, list_t, int_i, int_b, neg_i, idx_l, idx_t, idx_c, ofO_some, rev_l, cut_l, cut_t, lof_l, tof_t, sof_l, sof_t, lzipS, zipS, enumS, R.bind_ok, if_true, if_false, ite_true, ite_false, Bool.not_true, Bool.not_false, bind_nm, bind_tp, bind_nil, bind_cons, DW.scal, DW.wipeD, mn_ok, mx_ok, h0]
      rw [eb, at_nx]
      exact ih
    · rw [freeOf, idl]; omega
theorem idle_ok {ps : List Dd} {F L : Int} (o : Ok ps F L) {l : Int} (l0 : 1 ≤ l) (l1 : l ≤ 99) : f_idle [planD ps, .int F, .int L, .int l] = .ok (.int (idl (L + 1) l F (toldOf ps F L))) := by
  have mle : mkL ([] : List PyData) = .ok (.list []) := mkL_ok (by simp)
  have sv := served_ok o l0 l1
  have FL := o.FL
  have nmv := nm_srv (l := l) (a := F) (nm_told (F := F) (L := L) o.h)
  have eq := eq_sv_nil nmv
  have mF : mn F (L + 1) = F := by unfold mn; split <;> omega
  cases hT : toldOf ps F L with
  | nil =>
    rw [hT] at sv eq
    have e : decide (srv l F ([] : List Rw) = []) = true := decide_eq_true rfl
    rw [e] at eq
    have s0 : (srv l F []).map svD = [] := rfl
    rw [s0] at sv eq
    simp -implicitDefEqProofs only [f_idle, run_eq, b_idle, ss_cons, ss_nil, st_ret, st_retN, st_pass, st_expr, st_ife, st_set, st_setV, st_asg, st_loop, st_ext, st_put, st_ownD, st_while, st_own, st_app, st_appV, st_raise, st_try, tryP_ok, tryP_exn, at_nx, at_rt, at_exn, endP_nx, endP_rt, endP_exn, ev_var, ev_int, ev_str, ev_bl, ev_non, ev_gint, ev_gstr, ev_bin, ev_neg, ev_cmp, ev_chain, ev_and, ev_or, ev_not, ev_ite, ev_tup, ev_lst, ev_call, ev_bi, ev_isi, ev_idx, ev_rev, ev_nil, ev_cons, ev_cut, ev_oN, ev_oS, ev_lzip, ev_dget, ev_lrange, ev_sset, ev_meth, mth_count, mth_index, mth_join, mth_split, ev_iL, ev_iT, ev_iS, ev_r1, ev_r2, ev_r3, ev_zip, ev_enum, ev_cN, ev_cS, ev_comp, two_ok, two_exn, one_ok, one_exn, many_ok, many_exn, consR_ok, consR_exn, andP_t, andP_f, orP_t, orP_f, notP_ok, notP_exn, chP_t, chP_f, chQ_ok, iteP_t, iteP_f, cutP_ok, oP_ok, itP_ok, itP2_ok, itP3_ok, cP_ok, listR_ok, retP_ok, pick_t, pick_f, pick_exn, exP_ok, exP_exn, setP_ok, setP_exn, forP_ok, view, shSl, lk, List.map_cons, List.map_nil, List.length_cons, List.length_nil, List.append_nil, List.nil_append, List.cons_append, List.getElem?_cons_zero, List.getElem?_cons_succ, List.set_cons_zero, List.set_cons_succ, List.set_nil, List.replicate_zero, List.replicate_succ, Nat.sub_self, Nat.zero_add, Nat.reduceAdd, Nat.reduceSub, Bop.fn, Cop.fn, Bi.fn, add_ii, add_ll, add_tt, sub_ii, mul_ii, div_ii, mod_ii, lt_ii, le_ii, gt_ii, ge_ii, is_n, is_t, is_i, isnot_n, isnot_t, isnot_i, isi_i, isi_b, isi_n, isi_s, isi_l, isi_t, isi, DW.len_l, DW.len_t, DW.len_c, tuple_l, tuple_t, list_l, list_t, int_i, int_b, neg_i, idx_l, idx_t, idx_c, ofO_some, rev_l, cut_l, cut_t, lof_l, tof_t, sof_l, sof_t, lzipS, zipS, enumS, R.bind_ok, if_true, if_false, ite_true, ite_false, Bool.not_true, Bool.not_false, bind_nm, bind_tp, bind_nil, bind_cons, DW.scal, DW.wipeD, sv, mle, eq, for_nil, Int.lt_irrefl, decide_false, idl, mF]
    congr 2; omega
  | cons r T =>
    rw [hT] at sv eq
    have e : decide (srv l F (r :: T) = []) = false := by rw [srv]; simp
    rw [e] at eq
    obtain ⟨n', X', Y', Z', lp, ie⟩ := idle_loop (.sh (planD ps)) (.sh (.int F)) L l (r :: T) F 0 .un .un .un
    rw [mF] at lp
    have hf : F < mn (freeOf l F (r :: T)) (L + 1) := by
      have := free_gt l0 T (mx F r.1 + l)
      have := (mx_ge F r.1).1
      rw [freeOf]
      unfold mn
      split <;> omega
    generalize (srv l F (r :: T)).map svD = SV at *
    generalize mn (freeOf l F (r :: T)) (L + 1) = fe at *
    simp -implicitDefEqProofs only [f_idle, run_eq, b_idle, ss_cons, ss_nil, st_ret, st_retN, st_pass, st_expr, st_ife, st_set, st_setV, st_asg, st_loop, st_ext, st_put, st_ownD, st_while, st_own, st_app, st_appV, st_raise, st_try, tryP_ok, tryP_exn, at_nx, at_rt, at_exn, endP_nx, endP_rt, endP_exn, ev_var, ev_int, ev_str, ev_bl, ev_non, ev_gint, ev_gstr, ev_bin, ev_neg, ev_cmp, ev_chain, ev_and, ev_or, ev_not, ev_ite, ev_tup, ev_lst, ev_call, ev_bi, ev_isi, ev_idx, ev_rev, ev_nil, ev_cons, ev_cut, ev_oN, ev_oS, ev_lzip, ev_dget, ev_lrange, ev_sset, ev_meth, mth_count, mth_index, mth_join, mth_split, ev_iL, ev_iT, ev_iS, ev_r1, ev_r2, ev_r3, ev_zip, ev_enum, ev_cN, ev_cS, ev_comp, two_ok, two_exn, one_ok, one_exn, many_ok, many_exn, consR_ok, consR_exn, andP_t, andP_f, orP_t, orP_f, notP_ok, notP_exn, chP_t, chP_f, chQ_ok, iteP_t, iteP_f, cutP_ok, oP_ok, itP_ok, itP2_ok, itP3_ok, cP_ok, listR_ok, retP_ok, pick_t, pick_f, pick_exn, exP_ok, exP_exn, setP_ok, setP_exn, forP_ok, view, shSl, lk, List.map_cons, List.map_nil, List.length_cons, List.length_nil, List.append_nil, List.nil_append, List.cons_append, List.getElem?_cons_zero, List.getElem?_cons_succ, List.set_cons_zero, List.set_cons_succ, List.set_nil, List.replicate_zero, List.replicate_succ, Nat.sub_self, Nat.zero_add, Nat.reduceAdd, Nat.reduceSub, Bop.fn, Cop.fn, Bi.fn, add_ii, add_ll, add_tt, sub_ii, mul_ii, div_ii, mod_ii, lt_ii, le_ii, gt_ii, ge_ii, is_n, is_t, is_i, isnot_n, isnot_t, isnot_i, isi_i, isi_b, isi_n, isi_s, isi_l, isi_t, isi, DW.len_l, DW.len_t, DW.len_c, tuple_l, tuple_t, list_l, list_t, int_i, int_b, neg_i, idx_l, idx_t, idx_c, ofO_some, rev_l, cut_l, cut_t, lof_l, tof_t, sof_l, sof_t, lzipS, zipS, enumS, R.bind_ok, if_true, if_false, ite_true, ite_false, Bool.not_true, Bool.not_false, bind_nm, bind_tp, bind_nil, bind_cons, DW.scal, DW.wipeD, sv, mle, eq, lp, decide_eq_true hf]
    congr 2; omega
end DW
namespace K78
open PySem PySem.Spec PyProof.Rows L2 DW
/-! ### the text -/
def top (i : Nat) : Stmt := PySem.Challenge.pw_duewheels_k78_serving.main.body.getD i (.Pass ⟨0, 0, 0, 0⟩)
def g_law_refused : Str → R PyData := tellD ["NoNumber", "NoPlan", "NoTime"] ["NoPlan", "NoTime", "NoNumber"] none
theorem t_law_refused : isTellDef "e" "flags" ["NoPlan", "NoTime", "NoNumber"] none (top 34) = true := by decide +kernel
theorem w_law_refused : Bound (top 34) "_law_refused" ["e"] := fun _ _ _ _ _ _ us hl => match us, hl with | [_], _ => rfl
theorem d_is_number : isDef n_is_number p_is_number b_is_number (top 7) = true := by decide +kernel
theorem w_is_number : Bound (top 7) "is_number" p_is_number := fun _ _ _ _ _ _ us hl => match us, hl with | [_, _, _], _ => rfl
theorem d_is_time : isDef n_is_time p_is_time b_is_time (top 8) = true := by decide +kernel
theorem w_is_time : Bound (top 8) "is_time" p_is_time := fun _ _ _ _ _ _ us hl => match us, hl with | [_], _ => rfl
theorem d_need_time : isDef n_need_time p_need_time b_need_time (top 9) = true := by decide +kernel
theorem w_need_time : Bound (top 9) "need_time" p_need_time := fun _ _ _ _ _ _ us hl => match us, hl with | [_], _ => rfl
theorem d_is_name : isDef n_is_name p_is_name b_is_name (top 14) = true := by decide +kernel
theorem w_is_name : Bound (top 14) "is_name" p_is_name := fun _ _ _ _ _ _ us hl => match us, hl with | [_], _ => rfl
theorem d_is_every : isDef n_is_every p_is_every b_is_every (top 15) = true := by decide +kernel
theorem w_is_every : Bound (top 15) "is_every" p_is_every := fun _ _ _ _ _ _ us hl => match us, hl with | [_], _ => rfl
theorem d_is_deed : isDef n_is_deed p_is_deed b_is_deed (top 16) = true := by decide +kernel
theorem w_is_deed : Bound (top 16) "is_deed" p_is_deed := fun _ _ _ _ _ _ us hl => match us, hl with | [_], _ => rfl
theorem d_is_plan : isDef n_is_plan p_is_plan b_is_plan (top 17) = true := by decide +kernel
theorem w_is_plan : Bound (top 17) "is_plan" p_is_plan := fun _ _ _ _ _ _ us hl => match us, hl with | [_], _ => rfl
theorem d_need_plan : isDef n_need_plan p_need_plan b_need_plan (top 18) = true := by decide +kernel
theorem w_need_plan : Bound (top 18) "need_plan" p_need_plan := fun _ _ _ _ _ _ us hl => match us, hl with | [_], _ => rfl
theorem d_need_span : isDef n_need_span p_need_span b_need_span (top 19) = true := by decide +kernel
theorem w_need_span : Bound (top 19) "need_span" p_need_span := fun _ _ _ _ _ _ us hl => match us, hl with | [_, _], _ => rfl
theorem d_times_of : isDef n_times_of p_times_of b_times_of (top 20) = true := by decide +kernel
theorem w_times_of : Bound (top 20) "times_of" p_times_of := fun _ _ _ _ _ _ us hl => match us, hl with | [_, _, _], _ => rfl
theorem d_told : isDef n_told p_told b_told (top 21) = true := by decide +kernel
theorem w_told : Bound (top 21) "told" p_told := fun _ _ _ _ _ _ us hl => match us, hl with | [_, _, _], _ => rfl
theorem d_served : isDef n_served p_served b_served (top 24) = true := by decide +kernel
theorem w_served : Bound (top 24) "served" p_served := fun _ _ _ _ _ _ us hl => match us, hl with | [_, _, _, _], _ => rfl
theorem d_longest_wait : isDef n_longest_wait p_longest_wait b_longest_wait (top 25) = true := by decide +kernel
theorem w_longest_wait : Bound (top 25) "longest_wait" p_longest_wait := fun _ _ _ _ _ _ us hl => match us, hl with | [_, _, _, _], _ => rfl
theorem d_free_again : isDef n_free_again p_free_again b_free_again (top 26) = true := by decide +kernel
theorem w_free_again : Bound (top 26) "free_again" p_free_again := fun _ _ _ _ _ _ us hl => match us, hl with | [_, _, _, _], _ => rfl
theorem d_idle : isDef n_idle p_idle b_idle (top 27) = true := by decide +kernel
theorem w_idle : Bound (top 27) "idle" p_idle := fun _ _ _ _ _ _ us hl => match us, hl with | [_, _, _, _], _ => rfl
theorem d_law_cell : isDef n_law_cell p_law_cell b_law_cell (top 29) = true := by decide +kernel
theorem w_law_cell : Bound (top 29) "_law_cell" p_law_cell := fun _ _ _ _ _ _ us hl => match us, hl with | [_, _], _ => rfl
theorem d_law_drawn : isDef n_law_drawn p_law_drawn b_law_drawn (top 30) = true := by decide +kernel
theorem w_law_drawn : Bound (top 30) "_law_drawn" p_law_drawn := fun _ _ _ _ _ _ us hl => match us, hl with | [_, _, _], _ => rfl
theorem d_law_name : isDef n_law_name p_law_name b_law_name (top 31) = true := by decide +kernel
theorem w_law_name : Bound (top 31) "_law_name" p_law_name := fun _ _ _ _ _ _ us hl => match us, hl with | [_, _], _ => rfl
theorem d_law_plan : isDef n_law_plan p_law_plan b_law_plan (top 32) = true := by decide +kernel
theorem w_law_plan : Bound (top 32) "_law_plan" p_law_plan := fun _ _ _ _ _ _ us hl => match us, hl with | [_, _, _, _, _], _ => rfl
def n_law_times : List Str := ["deed", "first", "last", "found", "time"]
def p_law_times : List Str := ["deed", "first", "last"]
def b_law_times_l1 : Ss := .cons (.set 3 (.bin .add (.var 3) (.bin .mul (.lst (.cons (.var 4) (.nil))) (.bi .int (.cons (.cmp .ge (.var 4) (.var 1)) (.nil)))))) (.cons (.set 4 (.ite (.cmp .gt (.idx (.var 0) (.int 2)) (.int 0)) (.bin .add (.var 4) (.idx (.var 0) (.int 2))) (.bin .add (.var 2) (.int 1)))) (.nil))
def b_law_times : Ss := .cons (.set 3 (.lst (.nil))) (.cons (.set 4 (.idx (.var 0) (.int 1))) (.cons (.while 400 (.cmp .le (.var 4) (.var 2)) (b_law_times_l1)) (.cons (.ret (.var 3)) (.nil))))
def f_law_times : List D → R D := runD 5 b_law_times
theorem d_law_times : isDef n_law_times p_law_times b_law_times (top 33) = true := by decide +kernel
theorem w_law_times : Bound (top 33) "_law_times" p_law_times := fun _ _ _ _ _ _ us hl => match us, hl with | [_, _, _], _ => rfl
def n_law_told : List Str := ["way", "plan", "first", "last", "long", "e"]
def p_law_told : List Str := ["way", "plan", "first", "last", "long"]
def b_law_told : Ss := .cons (.tryR 5 (.cons (.ife (.cmp .lt (.var 0) (.int 2)) (.cons (.ret (.ite (.cmp .eq (.var 0) (.int 0)) (.call "served" 4 f_served (.cons (.var 1) (.cons (.var 2) (.cons (.var 3) (.cons (.var 4) (.nil)))))) (.call "longest_wait" 4 f_longest_wait (.cons (.var 1) (.cons (.var 2) (.cons (.var 3) (.cons (.var 4) (.nil)))))))) (.nil)) (.nil)) (.cons (.ret (.ite (.cmp .eq (.var 0) (.int 2)) (.call "free_again" 4 f_free_again (.cons (.var 1) (.cons (.var 2) (.cons (.var 3) (.cons (.var 4) (.nil)))))) (.call "idle" 4 f_idle (.cons (.var 1) (.cons (.var 2) (.cons (.var 3) (.cons (.var 4) (.nil)))))))) (.nil))) "_law_refused" g_law_refused) (.nil)
def f_law_told : List D → R D := runD 6 b_law_told
theorem d_law_told : isDef n_law_told p_law_told b_law_told (top 35) = true := by decide +kernel
theorem w_law_told : Bound (top 35) "_law_told" p_law_told := fun _ _ _ _ _ _ us hl => match us, hl with | [_, _, _, _, _], _ => rfl
def n_law : List Str := ["script", "plan", "first", "last", "long", "wait", "deed", "time", "due", "busy", "rest", "moment", "most", "start", "name", "done", "way", "bad"]
def p_law : List Str := ["script"]
def e_law_c1 : Ex := .comp (.tup (.cons (.var 7) (.cons (.idx (.var 6) (.int 0)) (.nil)))) (.nm 7) (.list (.call "_law_times" 3 f_law_times (.cons (.var 6) (.cons (.var 2) (.cons (.var 3) (.nil)))))) .none [("time", 7)]
def b_law_l1 : Ss := .cons (.set 5 (.bin .add (.var 5) (e_law_c1))) (.nil)
def b_law_l2 : Ss := .cons (.ife (.cmp .le (.idx (.idx (.var 5) (.int 0)) (.int 0)) (.var 7)) (.cons (.app 8 (.bin .add (.tup (.cons (.var 7) (.nil))) (.idx (.var 5) (.int 0)))) (.cons (.set 9 (.bin .add (.var 9) (.lrange (.r2 (.var 7) (.bin .add (.var 7) (.var 4)))))) (.cons (.set 5 (.cut (.var 5) (.some (.int 1)) .none)) (.cons (.set 7 (.bin .add (.var 7) (.var 4))) (.nil))))) (.cons (.set 7 (.bin .add (.var 7) (.int 1))) (.nil))) (.nil)
def e_law_c2 : Ex := .comp (.var 11) (.nm 11) (.r2 (.var 2) (.bin .add (.var 3) (.int 1))) (.some (.cmp .notin (.var 11) (.var 9))) [("moment", 11)]
def e_law_c3 : Ex := .comp (.bin .sub (.var 13) (.var 11)) (.tp (.cons (.nm 13) (.cons (.nm 11) (.cons (.nm 14) (.nil))))) (.list (.var 8)) .none [("start", 13), ("moment", 11), ("name", 14)]
def e_law_c4 : Ex := .comp (.call "_law_told" 5 f_law_told (.cons (.var 16) (.cons (.var 1) (.cons (.var 2) (.cons (.var 3) (.cons (.var 4) (.nil))))))) (.nm 16) (.r1 (.int 4)) .none [("way", 16)]
def e_law_c5 : Ex := .comp (.call "_law_told" 5 f_law_told (.cons (.var 16) (.cons (.var 1) (.cons (.var 17) (.cons (.non) (.cons (.non) (.nil))))))) (.nm 16) (.r1 (.int 4)) .none [("way", 16)]
def e_law_c6 : Ex := .comp (.call "_law_told" 5 f_law_told (.cons (.var 16) (.cons (.var 1) (.cons (.int 0) (.cons (.var 17) (.cons (.non) (.nil))))))) (.nm 16) (.r1 (.int 4)) .none [("way", 16)]
def e_law_c7 : Ex := .comp (.call "_law_told" 5 f_law_told (.cons (.var 16) (.cons (.var 1) (.cons (.int 0) (.cons (.int 9) (.cons (.var 17) (.nil))))))) (.nm 16) (.r1 (.int 4)) .none [("way", 16)]
def b_law_l3 : Ss := .cons (.ife (.cmp .ne (e_law_c5) (.bin .mul (.lst (.cons (.tup (.cons (.str "refused") (.cons (.int 1) (.nil)))) (.nil))) (.int 4))) (.cons (.ret (.bl false)) (.nil)) (.nil)) (.cons (.ife (.cmp .ne (e_law_c6) (.bin .mul (.lst (.cons (.tup (.cons (.str "refused") (.cons (.int 1) (.nil)))) (.nil))) (.int 4))) (.cons (.ret (.bl false)) (.nil)) (.nil)) (.cons (.ife (.cmp .ne (e_law_c7) (.bin .mul (.lst (.cons (.tup (.cons (.str "refused") (.cons (.int 2) (.nil)))) (.nil))) (.int 4))) (.cons (.ret (.bl false)) (.nil)) (.nil)) (.nil)))
def e_law_c8 : Ex := .comp (.call "_law_told" 5 f_law_told (.cons (.var 16) (.cons (.var 1) (.cons (.int 5) (.cons (.int 4) (.cons (.int 0) (.nil))))))) (.nm 16) (.r1 (.int 4)) .none [("way", 16)]
def e_law_c9 : Ex := .comp (.call "_law_told" 5 f_law_told (.cons (.int 0) (.cons (.var 1) (.cons (.int 0) (.cons (.int 9) (.cons (.var 17) (.nil))))))) (.nm 17) (.tup (.tup (.cons (.int 0) (.cons (.int 100) (.nil))))) .none [("bad", 17)]
def e_law_c10 : Ex := .comp (.call "_law_told" 5 f_law_told (.cons (.var 16) (.cons (.lst (.nil)) (.cons (.non) (.cons (.non) (.cons (.non) (.nil))))))) (.nm 16) (.r1 (.int 4)) .none [("way", 16)]
def b_law : Ss := .cons (.set 1 (.call "_law_plan" 5 f_law_plan (.cons (.var 0) (.cons (.int 0) (.cons (.int 6) (.cons (.int 0) (.cons (.int 40) (.nil)))))))) (.cons (.set 2 (.call "_law_drawn" 3 f_law_drawn (.cons (.var 0) (.cons (.int 60) (.cons (.int 30) (.nil)))))) (.cons (.set 3 (.bin .add (.var 2) (.call "_law_drawn" 3 f_law_drawn (.cons (.var 0) (.cons (.int 61) (.cons (.int 30) (.nil))))))) (.cons (.set 4 (.bin .add (.int 1) (.call "_law_drawn" 3 f_law_drawn (.cons (.var 0) (.cons (.int 62) (.cons (.int 6) (.nil))))))) (.cons (.set 5 (.lst (.nil))) (.cons (.loop (.nm 6) (.tup (.var 1)) (b_law_l1)) (.cons (.set 5 (.bi .sorted (.cons (.var 5) (.nil)))) (.cons (.own 8 (.nil)) (.cons (.set 9 (.lst (.nil))) (.cons (.set 7 (.var 2)) (.cons (.while 2000 (.cmp .ne (.var 5) (.lst (.nil))) (b_law_l2)) (.cons (.set 10 (e_law_c2)) (.frz 8 (.cons (.set 12 (.ite (.cmp .ne (.var 8) (.lst (.nil))) (.bi .max1 (.cons (e_law_c3) (.nil))) (.non))) (.cons (.set 15 (.ite (.cmp .ne (.var 9) (.lst (.nil))) (.bin .add (.idx (.var 9) (.neg (.int 1))) (.int 1)) (.var 2))) (.cons (.ife (.cmp .ne (e_law_c4) (.lst (.cons (.var 8) (.cons (.var 12) (.cons (.var 15) (.cons (.bi .len (.cons (.var 10) (.nil))) (.nil))))))) (.cons (.ret (.bl false)) (.nil)) (.nil)) (.cons (.loop (.nm 17) (.tup (.tup (.cons (.neg (.int 1)) (.cons (.int 10000) (.cons (.non) (.cons (.bl true) (.cons (.str "1") (.nil)))))))) (b_law_l3)) (.cons (.ife (.cmp .ne (e_law_c8) (.bin .mul (.lst (.cons (.tup (.cons (.str "refused") (.cons (.int 1) (.nil)))) (.nil))) (.int 4))) (.cons (.ret (.bl false)) (.nil)) (.nil)) (.cons (.ife (.cmp .ne (e_law_c9) (.bin .mul (.lst (.cons (.tup (.cons (.str "refused") (.cons (.int 2) (.nil)))) (.nil))) (.int 2))) (.cons (.ret (.bl false)) (.nil)) (.nil)) (.cons (.ret (.cmp .eq (e_law_c10) (.bin .mul (.lst (.cons (.tup (.cons (.str "refused") (.cons (.int 0) (.nil)))) (.nil))) (.int 4)))) (.nil))))))))))))))))))))
def f_law : List D → R D := runD 18 b_law
theorem d_law : isDef n_law p_law b_law (top 36) = true := by decide +kernel
theorem w_law : Bound (top 36) "law" p_law := fun _ _ _ _ _ _ us hl => match us, hl with | [_], _ => rfl
end K78
namespace K78
open PySem L2 DW
/-! ### the law's own moments -/
def lts (e F L : Int) : Nat → Int → List Int
  | 0, _ => []
  | n + 1, t => if t ≤ L then (if F ≤ t then [t] else []) ++ lts e F L n (if e > 0 then t + e else L + 1) else []
theorem lts_over {e F L : Int} : ∀ (n : Nat) (t : Int), L < t → lts e F L n t = []
  | 0, _, _ => rfl
  | n + 1, t, h => by rw [lts, if_neg (by omega)]
theorem mem_lts {e F L : Int} (he : 0 ≤ e) : ∀ (n : Nat) (t u : Int), (L - t + 1).toNat < n → (u ∈ lts e F L n t ↔ F ≤ u ∧ u ≤ L ∧ Due (t, e) u)
  | 0, _, _, h => by omega
  | n + 1, t, u, h => by
    rw [lts]
    by_cases ht : t ≤ L
    · rw [if_pos ht, List.mem_append]
      have m1 : u ∈ (if F ≤ t then [t] else []) ↔ F ≤ t ∧ u = t := by
        split
        · rename_i g; simp [g]
        · rename_i g; simp [g]
      rw [m1]
      by_cases hp : e > 0
      · rw [if_pos hp, mem_lts he n (t + e) u (by omega)]
        unfold DW.Due
        show (F ≤ t ∧ u = t) ∨ (F ≤ u ∧ u ≤ L ∧ t + e ≤ u ∧ if e = 0 then u = t + e else (u - (t + e)) % e = 0) ↔ F ≤ u ∧ u ≤ L ∧ t ≤ u ∧ if e = 0 then u = t else (u - t) % e = 0
        rw [if_neg (show ¬ e = 0 by omega), if_neg (show ¬ e = 0 by omega)]
        have e1 : (u - t) % e = (u - (t + e)) % e := by
          rw [show u - t = (u - (t + e)) + e * 1 by omega, Int.add_mul_emod_self_left]
        constructor
        · rintro (⟨a, rfl⟩ | ⟨a, b, c, d⟩)
          · exact ⟨a, ht, Int.le_refl _, by simp⟩
          · exact ⟨a, b, by omega, by rw [e1]; exact d⟩
        · rintro ⟨a, b, c, d⟩
          by_cases hu : u = t
          · exact .inl ⟨by omega, hu⟩
          · refine .inr ⟨a, b, ?_, by rw [← e1]; exact d⟩
            have := Int.emod_add_mul_ediv (u - t) e
            rw [d] at this
            have hq : 1 ≤ (u - t) / e := by
              refine Classical.byContradiction fun z => ?_
              have : e * ((u - t) / e) ≤ 0 := Int.mul_nonpos_of_nonneg_of_nonpos (by omega) (by omega)
              omega
            have := Int.mul_le_mul_of_nonneg_left hq he
            omega
      · have e0 : e = 0 := by omega
        rw [if_neg hp, lts_over n (L + 1) (by omega)]
        unfold DW.Due
        show (F ≤ t ∧ u = t) ∨ u ∈ [] ↔ F ≤ u ∧ u ≤ L ∧ t ≤ u ∧ if e = 0 then u = t else (u - t) % e = 0
        rw [if_pos e0]
        constructor
        · rintro (⟨a, rfl⟩ | a)
          · exact ⟨a, ht, Int.le_refl _, rfl⟩
          · cases a
        · rintro ⟨a, b, c, rfl⟩
          exact .inl ⟨a, rfl⟩
    · rw [if_neg ht]
      constructor
      · intro a; cases a
      · rintro ⟨a, b, c, _⟩
        have c : t ≤ u := c
        omega
theorem rise_lts {e F L : Int} (he : 0 ≤ e) : ∀ (n : Nat) (t : Int), (L - t + 1).toNat < n → (lts e F L n t).Pairwise (· < ·)
  | 0, _, h => by omega
  | n + 1, t, h => by
    rw [lts]
    by_cases ht : t ≤ L
    · rw [if_pos ht]
      have key : ∀ t', t < t' → (L - t' + 1).toNat < n ∨ L < t' → ((if F ≤ t then [t] else []) ++ lts e F L n t').Pairwise (· < ·) := fun t' h1 h2 => by
        rw [List.pairwise_append]
        refine ⟨by split <;> simp, ?_, fun a ha b hb => ?_⟩
        · rcases h2 with h2 | h2
          · exact rise_lts he n t' h2
          · rw [lts_over n t' h2]; exact .nil
        · have ha : a = t := by
            split at ha
            · simpa using ha
            · cases ha
          rcases h2 with h2 | h2
          · have := ((mem_lts he n t' b h2).mp hb).2.2.1
            have this : t' ≤ b := this
            omega
          · rw [lts_over n t' h2] at hb; cases hb
      by_cases hp : e > 0
      · rw [if_pos hp]; exact key (t + e) (by omega) (.inl (by omega))
      · rw [if_neg hp]; exact key (L + 1) (by omega) (.inr (by omega))
    · rw [if_neg ht]; exact .nil
theorem lts_loop {x : Dd} (F L : Int) (e0 : 0 ≤ x.2.2) : ∀ (n : Nat) (t : Int) (acc : List Int), (L - t + 1).toNat < n → acc.length + n ≤ 2000 →
    ∃ t', whP n (.cmp .le (.var 4) (.var 2)) b_law_times_l1 [.sh (deedD x), .sh (.int F), .sh (.int L), .sh (.list (nms acc)), .sh (.int t)] = .ok (.nx [.sh (deedD x), .sh (.int F), .sh (.int L), .sh (.list (nms (acc ++ lts x.2.2 F L n t))), t'])
  | 0, _, _, h, _ => by omega
  | n + 1, t, acc, h, hl => by
    have x2 : ∀ a b c : PyData, atI [a, b, c] 2 = some c := fun _ _ _ => rfl
    rw [lts]
    by_cases ht : t ≤ L
    · rw [if_pos ht, wh_t (by simp -implicitDefEqProofs only [ss_cons, ss_nil, st_ret, st_retN, st_pass, st_expr, st_ife, st_set, st_setV, st_asg, st_loop, st_ext, st_put, st_ownD, st_while, st_own, st_app, st_appV, st_raise, st_try, tryP_ok, tryP_exn, at_nx, at_rt, at_exn, endP_nx, endP_rt, endP_exn, ev_var, ev_int, ev_str, ev_bl, ev_non, ev_gint, ev_gstr, ev_bin, ev_neg, ev_cmp, ev_chain, ev_and, ev_or, ev_not, ev_ite, ev_tup, ev_lst, ev_call, ev_bi, ev_isi, ev_idx, ev_rev, ev_nil, ev_cons, ev_cut, ev_oN, ev_oS, ev_lzip, ev_dget, ev_lrange, ev_sset, ev_meth, mth_count, mth_index, mth_join, mth_split, ev_iL, ev_iT, ev_iS, ev_r1, ev_r2, ev_r3, ev_zip, ev_enum, ev_cN, ev_cS, ev_comp, two_ok, two_exn, one_ok, one_exn, many_ok, many_exn, consR_ok, consR_exn, andP_t, andP_f, orP_t, orP_f, notP_ok, notP_exn, chP_t, chP_f, chQ_ok, iteP_t, iteP_f, cutP_ok, oP_ok, itP_ok, itP2_ok, itP3_ok, cP_ok, listR_ok, retP_ok, pick_t, pick_f, pick_exn, exP_ok, exP_exn, setP_ok, setP_exn, forP_ok, view, shSl, lk, List.map_cons, List.map_nil, List.length_cons, List.length_nil, List.append_nil, List.nil_append, List.cons_append, List.getElem?_cons_zero, List.getElem?_cons_succ, List.set_cons_zero, List.set_cons_succ, List.set_nil, List.replicate_zero, List.replicate_succ, Nat.sub_self, Nat.zero_add, Nat.reduceAdd, Nat.reduceSub, Bop.fn, Cop.fn, Bi.fn, add_ii, add_ll, add_tt, sub_ii, mul_ii, div_ii, mod_ii, lt_ii, le_ii, gt_ii, ge_ii, is_n, is_t, is_i, isnot_n, isnot_t, isnot_i, isi_i, isi_b, isi_n, isi_s, isi_l, isi_t, isi, DW.len_l, DW.len_t, DW.len_c, tuple_l, tuple_t, list_l, list_t, int_i, int_b, neg_i, idx_l, idx_t, idx_c, ofO_some, rev_l, cut_l, cut_t, lof_l, tof_t, sof_l, sof_t, lzipS, zipS, enumS, R.bind_ok, if_true, if_false, ite_true, ite_false, Bool.not_true, Bool.not_false, bind_nm, bind_tp, bind_nil, bind_cons, DW.scal, DW.wipeD, decide_eq_true ht])]
      have mu : dMul (.list [.int t]) (.int (if decide (F ≤ t) = true then 1 else 0)) = .ok (.list (nms (if F ≤ t then [t] else []))) := by
        by_cases h1 : F ≤ t
        · rw [if_pos (decide_eq_true h1), if_pos h1, mulL_ok (by omega) (by omega) (by simp)]; rfl
        · rw [if_neg (by simp [h1]), if_neg h1, mulL_ok (by omega) (by omega) (by simp)]; rfl
      have la : (acc ++ (if F ≤ t then [t] else [])).length + n ≤ 2000 := by
        rw [List.length_append]
        split
        · simp; omega
        · simp; omega
      have lb : (acc ++ (if F ≤ t then [t] else [])).length ≤ 2000 := by omega
      have ml : mkL (nms acc ++ nms (if F ≤ t then [t] else [])) = .ok (.list (nms (acc ++ (if F ≤ t then [t] else [])))) := by
        rw [nms_append]
        exact mkL_ok (by rw [nms_len]; omega)
      have m1 : mkL [.int t] = .ok (.list [.int t]) := mkL_ok (by simp)
      have step : ∀ t', (if x.2.2 > 0 then t + x.2.2 else L + 1) = t' → semSs b_law_times_l1 [.sh (deedD x), .sh (.int F), .sh (.int L), .sh (.list (nms acc)), .sh (.int t)] = .ok (.nx [.sh (deedD x), .sh (.int F), .sh (.int L), .sh (.list (nms (acc ++ (if F ≤ t then [t] else [])))), .sh (.int t')]) := fun t' et => by
        by_cases hp : x.2.2 > 0
        · rw [if_pos hp] at et
          simp -implicitDefEqProofs only [b_law_times_l1, ss_cons, ss_nil, st_ret, st_retN, st_pass, st_expr, st_ife, st_set, st_setV, st_asg, st_loop, st_ext, st_put, st_ownD, st_while, st_own, st_app, st_appV, st_raise, st_try, tryP_ok, tryP_exn, at_nx, at_rt, at_exn, endP_nx, endP_rt, endP_exn, ev_var, ev_int, ev_str, ev_bl, ev_non, ev_gint, ev_gstr, ev_bin, ev_neg, ev_cmp, ev_chain, ev_and, ev_or, ev_not, ev_ite, ev_tup, ev_lst, ev_call, ev_bi, ev_isi, ev_idx, ev_rev, ev_nil, ev_cons, ev_cut, ev_oN, ev_oS, ev_lzip, ev_dget, ev_lrange, ev_sset, ev_meth, mth_count, mth_index, mth_join, mth_split, ev_iL, ev_iT, ev_iS, ev_r1, ev_r2, ev_r3, ev_zip, ev_enum, ev_cN, ev_cS, ev_comp, two_ok, two_exn, one_ok, one_exn, many_ok, many_exn, consR_ok, consR_exn, andP_t, andP_f, orP_t, orP_f, notP_ok, notP_exn, chP_t, chP_f, chQ_ok, iteP_t, iteP_f, cutP_ok, oP_ok, itP_ok, itP2_ok, itP3_ok, cP_ok, listR_ok, retP_ok, pick_t, pick_f, pick_exn, exP_ok, exP_exn, setP_ok, setP_exn, forP_ok, view, shSl, lk, List.map_cons, List.map_nil, List.length_cons, List.length_nil, List.append_nil, List.nil_append, List.cons_append, List.getElem?_cons_zero, List.getElem?_cons_succ, List.set_cons_zero, List.set_cons_succ, List.set_nil, List.replicate_zero, List.replicate_succ, Nat.sub_self, Nat.zero_add, Nat.reduceAdd, Nat.reduceSub, Bop.fn, Cop.fn, Bi.fn, add_ii, add_ll, add_tt, sub_ii, mul_ii, div_ii, mod_ii, lt_ii, le_ii, gt_ii, ge_ii, is_n, is_t, is_i, isnot_n, isnot_t, isnot_i, isi_i, isi_b, isi_n, isi_s, isi_l, isi_t, isi, DW.len_l, DW.len_t, DW.len_c, tuple_l, tuple_t, list_l, list_t, int_i, int_b, neg_i, idx_l, idx_t, idx_c, ofO_some, rev_l, cut_l, cut_t, lof_l, tof_t, sof_l, sof_t, lzipS, zipS, enumS, R.bind_ok, if_true, if_false, ite_true, ite_false, Bool.not_true, Bool.not_false, bind_nm, bind_tp, bind_nil, bind_cons, DW.scal, DW.wipeD, m1, mu, ml, deedD, x2, decide_eq_true (show (0 : Int) < x.2.2 from hp), et]
        · rw [if_neg hp] at et
          simp -implicitDefEqProofs only [b_law_times_l1, ss_cons, ss_nil, st_ret, st_retN, st_pass, st_expr, st_ife, st_set, st_setV, st_asg, st_loop, st_ext, st_put, st_ownD, st_while, st_own, st_app, st_appV, st_raise, st_try, tryP_ok, tryP_exn, at_nx, at_rt, at_exn, endP_nx, endP_rt, endP_exn, ev_var, ev_int, ev_str, ev_bl, ev_non, ev_gint, ev_gstr, ev_bin, ev_neg, ev_cmp, ev_chain, ev_and, ev_or, ev_not, ev_ite, ev_tup, ev_lst, ev_call, ev_bi, ev_isi, ev_idx, ev_rev, ev_nil, ev_cons, ev_cut, ev_oN, ev_oS, ev_lzip, ev_dget, ev_lrange, ev_sset, ev_meth, mth_count, mth_index, mth_join, mth_split, ev_iL, ev_iT, ev_iS, ev_r1, ev_r2, ev_r3, ev_zip, ev_enum, ev_cN, ev_cS, ev_comp, two_ok, two_exn, one_ok, one_exn, many_ok, many_exn, consR_ok, consR_exn, andP_t, andP_f, orP_t, orP_f, notP_ok, notP_exn, chP_t, chP_f, chQ_ok, iteP_t, iteP_f, cutP_ok, oP_ok, itP_ok, itP2_ok, itP3_ok, cP_ok, listR_ok, retP_ok, pick_t, pick_f, pick_exn, exP_ok, exP_exn, setP_ok, setP_exn, forP_ok, view, shSl, lk, List.map_cons, List.map_nil, List.length_cons, List.length_nil, List.append_nil, List.nil_append, List.cons_append, List.getElem?_cons_zero, List.getElem?_cons_succ, List.set_cons_zero, List.set_cons_succ, List.set_nil, List.replicate_zero, List.replicate_succ, Nat.sub_self, Nat.zero_add, Nat.reduceAdd, Nat.reduceSub, Bop.fn, Cop.fn, Bi.fn, add_ii, add_ll, add_tt, sub_ii, mul_ii, div_ii, mod_ii, lt_ii, le_ii, gt_ii, ge_ii, is_n, is_t, is_i, isnot_n, isnot_t, isnot_i, isi_i, isi_b, isi_n, isi_s, isi_l, isi_t, isi, DW.len_l, DW.len_t, DW.len_c, tuple_l, tuple_t, list_l, list_t, int_i, int_b, neg_i, idx_l, idx_t, idx_c, ofO_some, rev_l, cut_l, cut_t, lof_l, tof_t, sof_l, sof_t, lzipS, zipS, enumS, R.bind_ok, if_true, if_false, ite_true, ite_false, Bool.not_true, Bool.not_false, bind_nm, bind_tp, bind_nil, bind_cons, DW.scal, DW.wipeD, m1, mu, ml, deedD, x2, decide_eq_false (show ¬ (0 : Int) < x.2.2 from hp), et]
      rw [step _ rfl, at_nx]
      by_cases hp : x.2.2 > 0
      · obtain ⟨t', ih⟩ := lts_loop F L e0 n (t + x.2.2) (acc ++ (if F ≤ t then [t] else [])) (by omega) la
        rw [if_pos hp]
        exact ⟨t', by rw [ih, List.append_assoc]⟩
      · rw [if_neg hp]
        cases n with
        | zero => omega
        | succ n =>
          obtain ⟨t', ih⟩ := lts_loop F L e0 (n + 1) (L + 1) (acc ++ (if F ≤ t then [t] else [])) (by omega) la
          exact ⟨t', by rw [ih, List.append_assoc]⟩
    · rw [if_neg ht, List.append_nil]
      exact ⟨_, wh_f (by simp -implicitDefEqProofs only [ss_cons, ss_nil, st_ret, st_retN, st_pass, st_expr, st_ife, st_set, st_setV, st_asg, st_loop, st_ext, st_put, st_ownD, st_while, st_own, st_app, st_appV, st_raise, st_try, tryP_ok, tryP_exn, at_nx, at_rt, at_exn, endP_nx, endP_rt, endP_exn, ev_var, ev_int, ev_str, ev_bl, ev_non, ev_gint, ev_gstr, ev_bin, ev_neg, ev_cmp, ev_chain, ev_and, ev_or, ev_not, ev_ite, ev_tup, ev_lst, ev_call, ev_bi, ev_isi, ev_idx, ev_rev, ev_nil, ev_cons, ev_cut, ev_oN, ev_oS, ev_lzip, ev_dget, ev_lrange, ev_sset, ev_meth, mth_count, mth_index, mth_join, mth_split, ev_iL, ev_iT, ev_iS, ev_r1, ev_r2, ev_r3, ev_zip, ev_enum, ev_cN, ev_cS, ev_comp, two_ok, two_exn, one_ok, one_exn, many_ok, many_exn, consR_ok, consR_exn, andP_t, andP_f, orP_t, orP_f, notP_ok, notP_exn, chP_t, chP_f, chQ_ok, iteP_t, iteP_f, cutP_ok, oP_ok, itP_ok, itP2_ok, itP3_ok, cP_ok, listR_ok, retP_ok, pick_t, pick_f, pick_exn, exP_ok, exP_exn, setP_ok, setP_exn, forP_ok, view, shSl, lk, List.map_cons, List.map_nil, List.length_cons, List.length_nil, List.append_nil, List.nil_append, List.cons_append, List.getElem?_cons_zero, List.getElem?_cons_succ, List.set_cons_zero, List.set_cons_succ, List.set_nil, List.replicate_zero, List.replicate_succ, Nat.sub_self, Nat.zero_add, Nat.reduceAdd, Nat.reduceSub, Bop.fn, Cop.fn, Bi.fn, add_ii, add_ll, add_tt, sub_ii, mul_ii, div_ii, mod_ii, lt_ii, le_ii, gt_ii, ge_ii, is_n, is_t, is_i, isnot_n, isnot_t, isnot_i, isi_i, isi_b, isi_n, isi_s, isi_l, isi_t, isi, DW.len_l, DW.len_t, DW.len_c, tuple_l, tuple_t, list_l, list_t, int_i, int_b, neg_i, idx_l, idx_t, idx_c, ofO_some, rev_l, cut_l, cut_t, lof_l, tof_t, sof_l, sof_t, lzipS, zipS, enumS, R.bind_ok, if_true, if_false, ite_true, ite_false, Bool.not_true, Bool.not_false, bind_nm, bind_tp, bind_nil, bind_cons, DW.scal, DW.wipeD, decide_eq_false ht])⟩
theorem law_times_ok {x : Dd} (hx : DeedOk x) {F L : Int} (L1 : L ≤ 300) : f_law_times [deedD x, .int F, .int L] = .ok (.list (nms (times x.2.1 x.2.2 F L))) := by
  have d0 := hx.d0
  obtain ⟨t', lp⟩ := lts_loop F L hx.e0 400 x.2.1 [] (by omega) (by simp)
  have e : lts x.2.2 F L 400 x.2.1 = times x.2.1 x.2.2 F L := rise_one (rise_lts hx.e0 400 _ (by omega)) (times_rise hx.e0) fun u => by rw [mem_lts hx.e0 400 _ u (by omega), mem_times hx.e0]
  rw [List.nil_append, e, nms_nil] at lp
  have x1 : ∀ a b c : PyData, atI [a, b, c] 1 = some b := fun _ _ _ => rfl
  have i1 : dIdx (deedD x) (.int 1) = .ok (.int x.2.1) := rfl
  simp -implicitDefEqProofs only [f_law_times, run_eq, b_law_times, ss_cons, ss_nil, st_ret, st_retN, st_pass, st_expr, st_ife, st_set, st_setV, st_asg, st_loop, st_ext, st_put, st_ownD, st_while, st_own, st_app, st_appV, st_raise, st_try, tryP_ok, tryP_exn, at_nx, at_rt, at_exn, endP_nx, endP_rt, endP_exn, ev_var, ev_int, ev_str, ev_bl, ev_non, ev_gint, ev_gstr, ev_bin, ev_neg, ev_cmp, ev_chain, ev_and, ev_or, ev_not, ev_ite, ev_tup, ev_lst, ev_call, ev_bi, ev_isi, ev_idx, ev_rev, ev_nil, ev_cons, ev_cut, ev_oN, ev_oS, ev_lzip, ev_dget, ev_lrange, ev_sset, ev_meth, mth_count, mth_index, mth_join, mth_split, ev_iL, ev_iT, ev_iS, ev_r1, ev_r2, ev_r3, ev_zip, ev_enum, ev_cN, ev_cS, ev_comp, two_ok, two_exn, one_ok, one_exn, many_ok, many_exn, consR_ok, consR_exn, andP_t, andP_f, orP_t, orP_f, notP_ok, notP_exn, chP_t, chP_f, chQ_ok, iteP_t, iteP_f, cutP_ok, oP_ok, itP_ok, itP2_ok, itP3_ok, cP_ok, listR_ok, retP_ok, pick_t, pick_f, pick_exn, exP_ok, exP_exn, setP_ok, setP_exn, forP_ok, view, shSl, lk, List.map_cons, List.map_nil, List.length_cons, List.length_nil, List.append_nil, List.nil_append, List.cons_append, List.getElem?_cons_zero, List.getElem?_cons_succ, List.set_cons_zero, List.set_cons_succ, List.set_nil, List.replicate_zero, List.replicate_succ, Nat.sub_self, Nat.zero_add, Nat.reduceAdd, Nat.reduceSub, Bop.fn, Cop.fn, Bi.fn, add_ii, add_ll, add_tt, sub_ii, mul_ii, div_ii, mod_ii, lt_ii, le_ii, gt_ii, ge_ii, is_n, is_t, is_i, isnot_n, isnot_t, isnot_i, isi_i, isi_b, isi_n, isi_s, isi_l, isi_t, isi, DW.len_l, DW.len_t, DW.len_c, tuple_l, tuple_t, list_l, list_t, int_i, int_b, neg_i, idx_l, idx_t, idx_c, ofO_some, rev_l, cut_l, cut_t, lof_l, tof_t, sof_l, sof_t, lzipS, zipS, enumS, R.bind_ok, if_true, if_false, ite_true, ite_false, Bool.not_true, Bool.not_false, bind_nm, bind_tp, bind_nil, bind_cons, DW.scal, DW.wipeD]
  rw [mkL_ok (by simp)]
  simp -implicitDefEqProofs only [ss_cons, ss_nil, st_ret, st_retN, st_pass, st_expr, st_ife, st_set, st_setV, st_asg, st_loop, st_ext, st_put, st_ownD, st_while, st_own, st_app, st_appV, st_raise, st_try, tryP_ok, tryP_exn, at_nx, at_rt, at_exn, endP_nx, endP_rt, endP_exn, ev_var, ev_int, ev_str, ev_bl, ev_non, ev_gint, ev_gstr, ev_bin, ev_neg, ev_cmp, ev_chain, ev_and, ev_or, ev_not, ev_ite, ev_tup, ev_lst, ev_call, ev_bi, ev_isi, ev_idx, ev_rev, ev_nil, ev_cons, ev_cut, ev_oN, ev_oS, ev_lzip, ev_dget, ev_lrange, ev_sset, ev_meth, mth_count, mth_index, mth_join, mth_split, ev_iL, ev_iT, ev_iS, ev_r1, ev_r2, ev_r3, ev_zip, ev_enum, ev_cN, ev_cS, ev_comp, two_ok, two_exn, one_ok, one_exn, many_ok, many_exn, consR_ok, consR_exn, andP_t, andP_f, orP_t, orP_f, notP_ok, notP_exn, chP_t, chP_f, chQ_ok, iteP_t, iteP_f, cutP_ok, oP_ok, itP_ok, itP2_ok, itP3_ok, cP_ok, listR_ok, retP_ok, pick_t, pick_f, pick_exn, exP_ok, exP_exn, setP_ok, setP_exn, forP_ok, view, shSl, lk, List.map_cons, List.map_nil, List.length_cons, List.length_nil, List.append_nil, List.nil_append, List.cons_append, List.getElem?_cons_zero, List.getElem?_cons_succ, List.set_cons_zero, List.set_cons_succ, List.set_nil, List.replicate_zero, List.replicate_succ, Nat.sub_self, Nat.zero_add, Nat.reduceAdd, Nat.reduceSub, Bop.fn, Cop.fn, Bi.fn, add_ii, add_ll, add_tt, sub_ii, mul_ii, div_ii, mod_ii, lt_ii, le_ii, gt_ii, ge_ii, is_n, is_t, is_i, isnot_n, isnot_t, isnot_i, isi_i, isi_b, isi_n, isi_s, isi_l, isi_t, isi, DW.len_l, DW.len_t, DW.len_c, tuple_l, tuple_t, list_l, list_t, int_i, int_b, neg_i, idx_l, idx_t, idx_c, ofO_some, rev_l, cut_l, cut_t, lof_l, tof_t, sof_l, sof_t, lzipS, zipS, enumS, R.bind_ok, if_true, if_false, ite_true, ite_false, Bool.not_true, Bool.not_false, bind_nm, bind_tp, bind_nil, bind_cons, DW.scal, DW.wipeD, i1, lp]
/-! ### going from moment to moment -/
def up (a l : Int) : List Int := (List.range l.toNat).map fun k : Nat => a + (k : Nat)
theorem up_len (a l : Int) : (up a l).length = l.toNat := by unfold up; rw [List.length_map, List.length_range]
theorem mem_up {a l m : Int} : m ∈ up a l ↔ a ≤ m ∧ m < a + l := by
  unfold up
  rw [List.mem_map]
  constructor
  · rintro ⟨k, hk, rfl⟩
    have := List.mem_range.mp hk
    omega
  · rintro ⟨h1, h2⟩
    exact ⟨(m - a).toNat, List.mem_range.mpr (by omega), by omega⟩
theorem up_app {a l m : Int} (hl : 0 ≤ l) (hm : 0 ≤ m) : up a (l + m) = up a l ++ up (a + l) m := by
  unfold up
  rw [show (l + m).toNat = l.toNat + m.toNat by omega, List.range_add, List.map_append, List.map_map]
  congr 1
  apply List.map_congr_left
  intro k _
  simp only [Function.comp]
  omega
def bsy (l : Int) : Int → List Rw → List Int
  | _, [] => []
  | a, r :: rs => up (mx a r.1) l ++ bsy l (mx a r.1 + l) rs
theorem bsy_ge {l : Int} (hl : 0 ≤ l) : ∀ (T : List Rw) (a m : Int), m ∈ bsy l a T → a ≤ m
  | [], _, _, h => by cases h
  | r :: T, a, m, h => by
    rw [bsy, List.mem_append] at h
    have := mx_ge a r.1
    rcases h with h | h
    · have := mem_up.mp h; omega
    · have := bsy_ge hl T _ m h; omega
theorem filter_all {l : List Int} {p : Int → Bool} (h : ∀ x ∈ l, p x = true) : l.filter p = l := List.filter_eq_self.mpr h
theorem filter_no {l : List Int} {p : Int → Bool} (h : ∀ x ∈ l, p x = false) : l.filter p = [] := List.filter_eq_nil_iff.mpr fun x hx => by simp [h x hx]
/-- those moments at which none is served -/
theorem idle_count {N l : Int} (hl : 1 ≤ l) : ∀ (T : List Rw) (a : Int), (((up a (N - a)).filter fun m => !decide (m ∈ bsy l a T)).length : Int) = idl N l a T
  | [], a => by
    rw [filter_all (by simp [bsy]), up_len, idl]
    unfold mn
    split <;> omega
  | r :: T, a => by
    rw [idl]
    have hs := (mx_ge a r.1).1
    have ih := idle_count (N := N) hl T (mx a r.1 + l)
    have hb : ∀ m, m ∈ bsy l a (r :: T) ↔ m ∈ up (mx a r.1) l ∨ m ∈ bsy l (mx a r.1 + l) T := fun m => by rw [bsy, List.mem_append]
    generalize mx a r.1 = s at *
    by_cases h1 : N ≤ s
    · have e1 : mn s N = N := by unfold mn; split <;> omega
      have e0 : up (s + l) (N - (s + l)) = [] := by
        unfold up
        rw [show (N - (s + l)).toNat = 0 by omega]; rfl
      rw [e0, List.filter_nil, List.length_nil] at ih
      rw [filter_all (fun m hm => by
        have hm := mem_up.mp hm
        have : ¬ m ∈ bsy l a (r :: T) := fun z => by
          rcases (hb m).mp z with z | z
          · have := mem_up.mp z; omega
          · have := bsy_ge (by omega) T _ m z; omega
        simp [this]), up_len, e1, ← ih]
      unfold mn
      split <;> omega
    · have e1 : mn s N = s := by unfold mn; split <;> omega
      have e2 : mn a N = a := by unfold mn; split <;> omega
      have p1 : ∀ m ∈ up a (s - a), (!decide (m ∈ bsy l a (r :: T))) = true := fun m hm => by
        have hm := mem_up.mp hm
        have : ¬ m ∈ bsy l a (r :: T) := fun z => by
          rcases (hb m).mp z with z | z
          · have := mem_up.mp z; omega
          · have := bsy_ge (by omega) T _ m z; omega
        simp [this]
      by_cases h2 : N ≤ s + l
      · have e0 : up (s + l) (N - (s + l)) = [] := by
          unfold up
          rw [show (N - (s + l)).toNat = 0 by omega]; rfl
        rw [e0, List.filter_nil, List.length_nil] at ih
        have e3 : up a (N - a) = up a (s - a) ++ up s (N - s) := by
          rw [show N - a = (s - a) + (N - s) by omega, up_app (by omega) (by omega), show a + (s - a) = s by omega]
        rw [e3, List.filter_append, filter_all p1, filter_no (fun m hm => by
          have hm := mem_up.mp hm
          have : m ∈ bsy l a (r :: T) := (hb m).mpr (.inl (mem_up.mpr ⟨by omega, by omega⟩))
          simp [this]), List.append_nil, up_len, e1, e2, ← ih]
        omega
      · have e3 : up a (N - a) = up a (s - a) ++ (up s l ++ up (s + l) (N - (s + l))) := by
          rw [show N - a = (s - a) + (l + (N - (s + l))) by omega, up_app (by omega) (by omega), show a + (s - a) = s by omega, up_app (by omega) (by omega)]
        have e4 : (up (s + l) (N - (s + l))).filter (fun m => !decide (m ∈ bsy l a (r :: T))) = (up (s + l) (N - (s + l))).filter fun m => !decide (m ∈ bsy l (s + l) T) := List.filter_congr fun m hm => by
          have hm := mem_up.mp hm
          have : m ∈ bsy l a (r :: T) ↔ m ∈ bsy l (s + l) T := by
            rw [hb]
            constructor
            · rintro (z | z)
              · have := mem_up.mp z; omega
              · exact z
            · exact .inr
          simp [this]
        rw [e3, List.filter_append, List.filter_append, filter_all p1, filter_no (l := up s l) (fun m hm => by
          have : m ∈ bsy l a (r :: T) := (hb m).mpr (.inl hm)
          simp [this]), List.nil_append, e4, List.length_append, up_len, e1, e2, Int.natCast_add, ih]
        omega
theorem bsy_last {l : Int} (hl : 1 ≤ l) : ∀ (T : List Rw) (r : Rw) (a : Int), ∃ pre, bsy l a (r :: T) = pre ++ [DW.freeOf l a (r :: T) - 1]
  | [], r, a => by
    refine ⟨up (mx a r.1) (l - 1), ?_⟩
    rw [bsy, bsy, List.append_nil, DW.freeOf, DW.freeOf, show up (mx a r.1) l = up (mx a r.1) ((l - 1) + 1) by rw [show l - 1 + 1 = l by omega], up_app (by omega) (by omega)]
    congr 1
    unfold up
    show [mx a r.1 + (l - 1) + ((0 : Nat) : Int)] = _
    congr 1; omega
  | q :: T, r, a => by
    obtain ⟨pre, h⟩ := bsy_last hl T q (mx a r.1 + l)
    refine ⟨up (mx a r.1) l ++ pre, ?_⟩
    rw [bsy, h, ← List.append_assoc]; rfl
theorem bsy_len {l : Int} : ∀ (T : List Rw) (a : Int), (bsy l a T).length = T.length * l.toNat
  | [], _ => by simp [bsy]
  | r :: T, a => by rw [bsy, List.length_append, up_len, bsy_len T, List.length_cons, Nat.succ_mul]; omega
theorem cut_rows (r : Rw) (T : List Rw) : cutD ((r :: T).map rowD) (some 1) none = T.map rowD := by
  rw [cut_from (by omega) (by rw [List.length_map, List.length_cons]; omega)]; rfl
theorem at_rows (r : Rw) (T : List Rw) : atI ((r :: T).map rowD) 0 = some (rowD r) := by
  rw [atI_nat (by omega) (by rw [List.length_map, List.length_cons]; omega)]; rfl
theorem ne_nil {l : List Rw} (h : ∀ r ∈ l, NameOk r.2) : dNe (.list (l.map rowD)) (.list []) = .ok (.bool (!decide (l = []))) := by
  have := ne_rows' (m := []) h (by simp)
  rw [List.map_nil] at this
  exact this
theorem sim_loop (ns : List Int) (A B C D : Sl) (l M : Int) (l0 : 1 ≤ l) (l1 : l ≤ 99) : ∀ (n : Nat) (T : List Rw) (a : Int) (acc : List Sv) (bs : List Int), (∀ r ∈ T, NameOk r.2 ∧ r.1 ≤ M) → T.length + (M - a).toNat + 1 ≤ n → 0 ≤ a → a ≤ 100000 → T.length * 99 + a.toNat + (M - a).toNat ≤ 100000 → acc.length + T.length ≤ 1000 → bs.length + 99 * T.length ≤ 100000 →
    ∃ t', whP n (.cmp .ne (.var 5) (.lst (.nil))) b_law_l2 [.sh (scriptD ns), A, B, C, .sh (.int l), .sh (.list (T.map rowD)), D, .sh (.int a), .ol (acc.map svD), .sh (.list (nms bs)), .un, .un, .un, .un, .un, .un, .un, .un] = .ok (.nx [.sh (scriptD ns), A, B, C, .sh (.int l), .sh (.list []), D, t', .ol ((acc ++ srv l a T).map svD), .sh (.list (nms (bs ++ bsy l a T))), .un, .un, .un, .un, .un, .un, .un, .un])
  | 0, _, _, _, _, _, h, _, _, _, _, _ => by omega
  | n + 1, [], a, acc, bs, hT, h, _, _, _, _, _ => by
    refine ⟨.sh (.int a), ?_⟩
    have ne : dNe (.list []) (.list []) = .ok (.bool false) := rfl
    have ml : mkL ([] : List PyData) = .ok (.list []) := mkL_ok (by simp)
    rw [srv, bsy, List.append_nil, List.append_nil]
    exact wh_f (by simp -implicitDefEqProofs only [ss_cons, ss_nil, st_ret, st_retN, st_pass, st_expr, st_ife, st_set, st_setV, st_asg, st_loop, st_ext, st_put, st_ownD, st_while, st_own, st_app, st_appV, st_raise, st_try, tryP_ok, tryP_exn, at_nx, at_rt, at_exn, endP_nx, endP_rt, endP_exn, ev_var, ev_int, ev_str, ev_bl, ev_non, ev_gint, ev_gstr, ev_bin, ev_neg, ev_cmp, ev_chain, ev_and, ev_or, ev_not, ev_ite, ev_tup, ev_lst, ev_call, ev_bi, ev_isi, ev_idx, ev_rev, ev_nil, ev_cons, ev_cut, ev_oN, ev_oS, ev_lzip, ev_dget, ev_lrange, ev_sset, ev_meth, mth_count, mth_index, mth_join, mth_split, ev_iL, ev_iT, ev_iS, ev_r1, ev_r2, ev_r3, ev_zip, ev_enum, ev_cN, ev_cS, ev_comp, two_ok, two_exn, one_ok, one_exn, many_ok, many_exn, consR_ok, consR_exn, andP_t, andP_f, orP_t, orP_f, notP_ok, notP_exn, chP_t, chP_f, chQ_ok, iteP_t, iteP_f, cutP_ok, oP_ok, itP_ok, itP2_ok, itP3_ok, cP_ok, listR_ok, retP_ok, pick_t, pick_f, pick_exn, exP_ok, exP_exn, setP_ok, setP_exn, forP_ok, view, shSl, lk, List.map_cons, List.map_nil, List.length_cons, List.length_nil, List.append_nil, List.nil_append, List.cons_append, List.getElem?_cons_zero, List.getElem?_cons_succ, List.set_cons_zero, List.set_cons_succ, List.set_nil, List.replicate_zero, List.replicate_succ, Nat.sub_self, Nat.zero_add, Nat.reduceAdd, Nat.reduceSub, Bop.fn, Cop.fn, Bi.fn, add_ii, add_ll, add_tt, sub_ii, mul_ii, div_ii, mod_ii, lt_ii, le_ii, gt_ii, ge_ii, is_n, is_t, is_i, isnot_n, isnot_t, isnot_i, isi_i, isi_b, isi_n, isi_s, isi_l, isi_t, isi, DW.len_l, DW.len_t, DW.len_c, tuple_l, tuple_t, list_l, list_t, int_i, int_b, neg_i, idx_l, idx_t, idx_c, ofO_some, rev_l, cut_l, cut_t, lof_l, tof_t, sof_l, sof_t, lzipS, zipS, enumS, R.bind_ok, if_true, if_false, ite_true, ite_false, Bool.not_true, Bool.not_false, bind_nm, bind_tp, bind_nil, bind_cons, DW.scal, DW.wipeD, ml, ne])
  | n + 1, r :: T, a, acc, bs, hT, h, a0, a1, hz, h1, h2 => by
    rw [List.length_cons] at h hz h1 h2
    have ml : mkL ([] : List PyData) = .ok (.list []) := mkL_ok (by simp)
    have ne := ne_nil (l := r :: T) fun q hq => (hT q hq).1
    have en : decide ((r :: T : List Rw) = []) = false := by simp
    rw [en] at ne
    have y0 : ∀ x y : PyData, atI [x, y] 0 = some x := fun _ _ => rfl
    have a00 := at_rows r T
    have cr := cut_rows r T
    have hM := (hT r List.mem_cons_self).2
    generalize hRT : (r :: T).map rowD = RT at *
    rw [wh_t (by simp -implicitDefEqProofs only [ss_cons, ss_nil, st_ret, st_retN, st_pass, st_expr, st_ife, st_set, st_setV, st_asg, st_loop, st_ext, st_put, st_ownD, st_while, st_own, st_app, st_appV, st_raise, st_try, tryP_ok, tryP_exn, at_nx, at_rt, at_exn, endP_nx, endP_rt, endP_exn, ev_var, ev_int, ev_str, ev_bl, ev_non, ev_gint, ev_gstr, ev_bin, ev_neg, ev_cmp, ev_chain, ev_and, ev_or, ev_not, ev_ite, ev_tup, ev_lst, ev_call, ev_bi, ev_isi, ev_idx, ev_rev, ev_nil, ev_cons, ev_cut, ev_oN, ev_oS, ev_lzip, ev_dget, ev_lrange, ev_sset, ev_meth, mth_count, mth_index, mth_join, mth_split, ev_iL, ev_iT, ev_iS, ev_r1, ev_r2, ev_r3, ev_zip, ev_enum, ev_cN, ev_cS, ev_comp, two_ok, two_exn, one_ok, one_exn, many_ok, many_exn, consR_ok, consR_exn, andP_t, andP_f, orP_t, orP_f, notP_ok, notP_exn, chP_t, chP_f, chQ_ok, iteP_t, iteP_f, cutP_ok, oP_ok, itP_ok, itP2_ok, itP3_ok, cP_ok, listR_ok, retP_ok, pick_t, pick_f, pick_exn, exP_ok, exP_exn, setP_ok, setP_exn, forP_ok, view, shSl, lk, List.map_cons, List.map_nil, List.length_cons, List.length_nil, List.append_nil, List.nil_append, List.cons_append, List.getElem?_cons_zero, List.getElem?_cons_succ, List.set_cons_zero, List.set_cons_succ, List.set_nil, List.replicate_zero, List.replicate_succ, Nat.sub_self, Nat.zero_add, Nat.reduceAdd, Nat.reduceSub, Bop.fn, Cop.fn, Bi.fn, add_ii, add_ll, add_tt, sub_ii, mul_ii, div_ii, mod_ii, lt_ii, le_ii, gt_ii, ge_ii, is_n, is_t, is_i, isnot_n, isnot_t, isnot_i, isi_i, isi_b, isi_n, isi_s, isi_l, isi_t, isi, DW.len_l, DW.len_t, DW.len_c, tuple_l, tuple_t, list_l, list_t, int_i, int_b, neg_i, idx_l, idx_t, idx_c, ofO_some, rev_l, cut_l, cut_t, lof_l, tof_t, sof_l, sof_t, lzipS, zipS, enumS, R.bind_ok, if_true, if_false, ite_true, ite_false, Bool.not_true, Bool.not_false, bind_nm, bind_tp, bind_nil, bind_cons, DW.scal, DW.wipeD, ml, ne])]
    by_cases hw : r.1 ≤ a
    · have em : mx a r.1 = a := by unfold mx; split <;> omega
      obtain ⟨t', ih⟩ := sim_loop ns A B C D l M l0 l1 n T (a + l) (acc ++ [(a, r)]) (bs ++ up a l) (fun q hq => hT q (List.mem_cons_of_mem _ hq)) (by omega) (by omega) (by omega) (by omega) (by rw [List.length_append, List.length_singleton]; omega) (by rw [List.length_append, up_len]; omega)
      refine ⟨t', ?_⟩
      have mt1 : mkT [.int a] = .ok (.tuple [.int a]) := mkT_ok (by simp)
      have mt : dAdd (.tuple [.int a]) (rowD r) = .ok (svD (a, r)) := by
        show mkT [.int a, .int r.1, .str r.2] = _
        rw [mkT_ok (by simp)]; rfl
      have rg : range2 (.int a) (.int (a + l)) = .ok (DW.upTo a l.toNat) := by
        show (if small62 a = true ∧ small62 (a + l) = true then R.ok (DW.upTo a (a + l - a).toNat) else .bad) = _
        rw [if_pos ⟨small_of (by omega) (by omega), small_of (by omega) (by omega)⟩]
        congr 2; omega
      have lre : lr (.ok (DW.upTo a l.toNat)) = .ok (.list (nms (up a l))) := by
        have e : DW.upTo a l.toNat = nms (up a l) := by
          unfold DW.upTo nms up
          rw [List.map_map]; rfl
        have : lr (.ok (DW.upTo a l.toNat)) = .ok (.list (DW.upTo a l.toNat)) := if_pos (by rw [upTo_length]; omega)
        rw [this, e]
      have mlb : mkL (nms bs ++ nms (up a l)) = .ok (.list (nms (bs ++ up a l))) := by
        rw [nms_append]
        exact mkL_ok (by rw [nms_len, List.length_append, up_len]; omega)
      have eb : semSs b_law_l2 [.sh (scriptD ns), A, B, C, .sh (.int l), .sh (.list RT), D, .sh (.int a), .ol (acc.map svD), .sh (.list (nms bs)), .un, .un, .un, .un, .un, .un, .un, .un] = .ok (.nx [.sh (scriptD ns), A, B, C, .sh (.int l), .sh (.list (T.map rowD)), D, .sh (.int (a + l)), .ol ((acc ++ [(a, r)]).map svD), .sh (.list (nms (bs ++ up a l))), .un, .un, .un, .un, .un, .un, .un, .un]) := by
        have ap : appP 8 (some (.ol (acc.map svD))) (.ok (svD (a, r))) [.sh (scriptD ns), A, B, C, .sh (.int l), .sh (.list RT), D, .sh (.int a), .ol (acc.map svD), .sh (.list (nms bs)), .un, .un, .un, .un, .un, .un, .un, .un] = .ok (.nx [.sh (scriptD ns), A, B, C, .sh (.int l), .sh (.list RT), D, .sh (.int a), .ol ((acc ++ [(a, r)]).map svD), .sh (.list (nms bs)), .un, .un, .un, .un, .un, .un, .un, .un]) := by
          rw [appP_ok (by rw [List.length_map]; omega), List.map_append]; rfl
        have rr : rowD r = .tuple [.int r.1, .str r.2] := rfl
        have i0 : dIdx (rowD r) (.int 0) = .ok (.int r.1) := rfl
        simp -implicitDefEqProofs only [b_law_l2, ss_cons, ss_nil, st_ret, st_retN, st_pass, st_expr, st_ife, st_set, st_setV, st_asg, st_loop, st_ext, st_put, st_ownD, st_while, st_own, st_app, st_appV, st_raise, st_try, tryP_ok, tryP_exn, at_nx, at_rt, at_exn, endP_nx, endP_rt, endP_exn, ev_var, ev_int, ev_str, ev_bl, ev_non, ev_gint, ev_gstr, ev_bin, ev_neg, ev_cmp, ev_chain, ev_and, ev_or, ev_not, ev_ite, ev_tup, ev_lst, ev_call, ev_bi, ev_isi, ev_idx, ev_rev, ev_nil, ev_cons, ev_cut, ev_oN, ev_oS, ev_lzip, ev_dget, ev_lrange, ev_sset, ev_meth, mth_count, mth_index, mth_join, mth_split, ev_iL, ev_iT, ev_iS, ev_r1, ev_r2, ev_r3, ev_zip, ev_enum, ev_cN, ev_cS, ev_comp, two_ok, two_exn, one_ok, one_exn, many_ok, many_exn, consR_ok, consR_exn, andP_t, andP_f, orP_t, orP_f, notP_ok, notP_exn, chP_t, chP_f, chQ_ok, iteP_t, iteP_f, cutP_ok, oP_ok, itP_ok, itP2_ok, itP3_ok, cP_ok, listR_ok, retP_ok, pick_t, pick_f, pick_exn, exP_ok, exP_exn, setP_ok, setP_exn, forP_ok, view, shSl, lk, List.map_cons, List.map_nil, List.length_cons, List.length_nil, List.append_nil, List.nil_append, List.cons_append, List.getElem?_cons_zero, List.getElem?_cons_succ, List.set_cons_zero, List.set_cons_succ, List.set_nil, List.replicate_zero, List.replicate_succ, Nat.sub_self, Nat.zero_add, Nat.reduceAdd, Nat.reduceSub, Bop.fn, Cop.fn, Bi.fn, add_ii, add_ll, add_tt, sub_ii, mul_ii, div_ii, mod_ii, lt_ii, le_ii, gt_ii, ge_ii, is_n, is_t, is_i, isnot_n, isnot_t, isnot_i, isi_i, isi_b, isi_n, isi_s, isi_l, isi_t, isi, DW.len_l, DW.len_t, DW.len_c, tuple_l, tuple_t, list_l, list_t, int_i, int_b, neg_i, idx_l, idx_t, idx_c, ofO_some, rev_l, cut_l, cut_t, lof_l, tof_t, sof_l, sof_t, lzipS, zipS, enumS, R.bind_ok, if_true, if_false, ite_true, ite_false, Bool.not_true, Bool.not_false, bind_nm, bind_tp, bind_nil, bind_cons, DW.scal, DW.wipeD, a00, i0, decide_eq_true hw, mt1, mt, ap, rg, lre, mlb, cr]
      rw [eb, at_nx, ih, srv, bsy, em, List.append_assoc, List.append_assoc]; rfl
    · have em : mx (a + 1) r.1 = mx a r.1 := by
        unfold mx
        repeat' split <;> omega
      obtain ⟨t', ih⟩ := sim_loop ns A B C D l M l0 l1 n (r :: T) (a + 1) acc bs hT (by rw [List.length_cons]; omega) (by omega) (by omega) (by rw [List.length_cons]; omega) (by rw [List.length_cons]; omega) (by rw [List.length_cons]; omega)
      refine ⟨t', ?_⟩
      have eb : semSs b_law_l2 [.sh (scriptD ns), A, B, C, .sh (.int l), .sh (.list RT), D, .sh (.int a), .ol (acc.map svD), .sh (.list (nms bs)), .un, .un, .un, .un, .un, .un, .un, .un] = .ok (.nx [.sh (scriptD ns), A, B, C, .sh (.int l), .sh (.list RT), D, .sh (.int (a + 1)), .ol (acc.map svD), .sh (.list (nms bs)), .un, .un, .un, .un, .un, .un, .un, .un]) := by
        have i0 : dIdx (rowD r) (.int 0) = .ok (.int r.1) := rfl
        simp -implicitDefEqProofs only [b_law_l2, ss_cons, ss_nil, st_ret, st_retN, st_pass, st_expr, st_ife, st_set, st_setV, st_asg, st_loop, st_ext, st_put, st_ownD, st_while, st_own, st_app, st_appV, st_raise, st_try, tryP_ok, tryP_exn, at_nx, at_rt, at_exn, endP_nx, endP_rt, endP_exn, ev_var, ev_int, ev_str, ev_bl, ev_non, ev_gint, ev_gstr, ev_bin, ev_neg, ev_cmp, ev_chain, ev_and, ev_or, ev_not, ev_ite, ev_tup, ev_lst, ev_call, ev_bi, ev_isi, ev_idx, ev_rev, ev_nil, ev_cons, ev_cut, ev_oN, ev_oS, ev_lzip, ev_dget, ev_lrange, ev_sset, ev_meth, mth_count, mth_index, mth_join, mth_split, ev_iL, ev_iT, ev_iS, ev_r1, ev_r2, ev_r3, ev_zip, ev_enum, ev_cN, ev_cS, ev_comp, two_ok, two_exn, one_ok, one_exn, many_ok, many_exn, consR_ok, consR_exn, andP_t, andP_f, orP_t, orP_f, notP_ok, notP_exn, chP_t, chP_f, chQ_ok, iteP_t, iteP_f, cutP_ok, oP_ok, itP_ok, itP2_ok, itP3_ok, cP_ok, listR_ok, retP_ok, pick_t, pick_f, pick_exn, exP_ok, exP_exn, setP_ok, setP_exn, forP_ok, view, shSl, lk, List.map_cons, List.map_nil, List.length_cons, List.length_nil, List.append_nil, List.nil_append, List.cons_append, List.getElem?_cons_zero, List.getElem?_cons_succ, List.set_cons_zero, List.set_cons_succ, List.set_nil, List.replicate_zero, List.replicate_succ, Nat.sub_self, Nat.zero_add, Nat.reduceAdd, Nat.reduceSub, Bop.fn, Cop.fn, Bi.fn, add_ii, add_ll, add_tt, sub_ii, mul_ii, div_ii, mod_ii, lt_ii, le_ii, gt_ii, ge_ii, is_n, is_t, is_i, isnot_n, isnot_t, isnot_i, isi_i, isi_b, isi_n, isi_s, isi_l, isi_t, isi, DW.len_l, DW.len_t, DW.len_c, tuple_l, tuple_t, list_l, list_t, int_i, int_b, neg_i, idx_l, idx_t, idx_c, ofO_some, rev_l, cut_l, cut_t, lof_l, tof_t, sof_l, sof_t, lzipS, zipS, enumS, R.bind_ok, if_true, if_false, ite_true, ite_false, Bool.not_true, Bool.not_false, bind_nm, bind_tp, bind_nil, bind_cons, DW.scal, DW.wipeD, a00, i0, decide_eq_false hw]
      rw [eb, at_nx]
      rw [hRT] at ih
      rw [ih, srv, srv, bsy, bsy, em]
/-! ### refusals -/
def refd (i : Int) : PyData := .tuple [.str "refused", .int i]
theorem g_plan : g_law_refused "NoPlan" = .ok (refd 0) := rfl
theorem g_time : g_law_refused "NoTime" = .ok (refd 1) := rfl
theorem g_num : g_law_refused "NoNumber" = .ok (refd 2) := rfl
theorem retP_exn (c : Str) : retP (.exn c) = .exn c := rfl
theorem compP_exn (e : Ex) (t : Tg) (c : Exo) (δ : Sls) (x : Str) : compP e t c δ (.exn x) = .exn x := rfl
theorem itP_exn (f : PyData → R (List PyData)) (c : Str) : itP f (.exn c) = .exn c := rfl
theorem iteP_exn (c : Str) (a b : Ex) (δ : Sls) : iteP (.exn c) a b δ = .exn c := rfl
theorem told_refused {p f l g : PyData} {c : Str} {d : PyData} (h : f_served [p, f, l, g] = .exn c) (hg : g_law_refused c = .ok d) (w : Int) (hw : w = 0 ∨ w = 1 ∨ w = 2 ∨ w = 3) : f_law_told [.int w, p, f, l, g] = .ok d := by
  have w1 : f_longest_wait [p, f, l, g] = .exn c := by simp -implicitDefEqProofs only [f_longest_wait, run_eq, b_longest_wait, e_longest_wait_c1, ss_cons, ss_nil, st_ret, st_retN, st_pass, st_expr, st_ife, st_set, st_setV, st_asg, st_loop, st_ext, st_put, st_ownD, st_while, st_own, st_app, st_appV, st_raise, st_try, tryP_ok, tryP_exn, at_nx, at_rt, at_exn, endP_nx, endP_rt, endP_exn, ev_var, ev_int, ev_str, ev_bl, ev_non, ev_gint, ev_gstr, ev_bin, ev_neg, ev_cmp, ev_chain, ev_and, ev_or, ev_not, ev_ite, ev_tup, ev_lst, ev_call, ev_bi, ev_isi, ev_idx, ev_rev, ev_nil, ev_cons, ev_cut, ev_oN, ev_oS, ev_lzip, ev_dget, ev_lrange, ev_sset, ev_meth, mth_count, mth_index, mth_join, mth_split, ev_iL, ev_iT, ev_iS, ev_r1, ev_r2, ev_r3, ev_zip, ev_enum, ev_cN, ev_cS, ev_comp, two_ok, two_exn, one_ok, one_exn, many_ok, many_exn, consR_ok, consR_exn, andP_t, andP_f, orP_t, orP_f, notP_ok, notP_exn, chP_t, chP_f, chQ_ok, iteP_t, iteP_f, cutP_ok, oP_ok, itP_ok, itP2_ok, itP3_ok, cP_ok, listR_ok, retP_ok, pick_t, pick_f, pick_exn, exP_ok, exP_exn, setP_ok, setP_exn, forP_ok, view, shSl, lk, List.map_cons, List.map_nil, List.length_cons, List.length_nil, List.append_nil, List.nil_append, List.cons_append, List.getElem?_cons_zero, List.getElem?_cons_succ, List.set_cons_zero, List.set_cons_succ, List.set_nil, List.replicate_zero, List.replicate_succ, Nat.sub_self, Nat.zero_add, Nat.reduceAdd, Nat.reduceSub, Bop.fn, Cop.fn, Bi.fn, add_ii, add_ll, add_tt, sub_ii, mul_ii, div_ii, mod_ii, lt_ii, le_ii, gt_ii, ge_ii, is_n, is_t, is_i, isnot_n, isnot_t, isnot_i, isi_i, isi_b, isi_n, isi_s, isi_l, isi_t, isi, DW.len_l, DW.len_t, DW.len_c, tuple_l, tuple_t, list_l, list_t, int_i, int_b, neg_i, idx_l, idx_t, idx_c, ofO_some, rev_l, cut_l, cut_t, lof_l, tof_t, sof_l, sof_t, lzipS, zipS, enumS, R.bind_ok, if_true, if_false, ite_true, ite_false, Bool.not_true, Bool.not_false, bind_nm, bind_tp, bind_nil, bind_cons, DW.scal, DW.wipeD, h, itP_exn, compP_exn]
  have w2 : f_free_again [p, f, l, g] = .exn c := by simp -implicitDefEqProofs only [f_free_again, run_eq, b_free_again, ss_cons, ss_nil, st_ret, st_retN, st_pass, st_expr, st_ife, st_set, st_setV, st_asg, st_loop, st_ext, st_put, st_ownD, st_while, st_own, st_app, st_appV, st_raise, st_try, tryP_ok, tryP_exn, at_nx, at_rt, at_exn, endP_nx, endP_rt, endP_exn, ev_var, ev_int, ev_str, ev_bl, ev_non, ev_gint, ev_gstr, ev_bin, ev_neg, ev_cmp, ev_chain, ev_and, ev_or, ev_not, ev_ite, ev_tup, ev_lst, ev_call, ev_bi, ev_isi, ev_idx, ev_rev, ev_nil, ev_cons, ev_cut, ev_oN, ev_oS, ev_lzip, ev_dget, ev_lrange, ev_sset, ev_meth, mth_count, mth_index, mth_join, mth_split, ev_iL, ev_iT, ev_iS, ev_r1, ev_r2, ev_r3, ev_zip, ev_enum, ev_cN, ev_cS, ev_comp, two_ok, two_exn, one_ok, one_exn, many_ok, many_exn, consR_ok, consR_exn, andP_t, andP_f, orP_t, orP_f, notP_ok, notP_exn, chP_t, chP_f, chQ_ok, iteP_t, iteP_f, cutP_ok, oP_ok, itP_ok, itP2_ok, itP3_ok, cP_ok, listR_ok, retP_ok, pick_t, pick_f, pick_exn, exP_ok, exP_exn, setP_ok, setP_exn, forP_ok, view, shSl, lk, List.map_cons, List.map_nil, List.length_cons, List.length_nil, List.append_nil, List.nil_append, List.cons_append, List.getElem?_cons_zero, List.getElem?_cons_succ, List.set_cons_zero, List.set_cons_succ, List.set_nil, List.replicate_zero, List.replicate_succ, Nat.sub_self, Nat.zero_add, Nat.reduceAdd, Nat.reduceSub, Bop.fn, Cop.fn, Bi.fn, add_ii, add_ll, add_tt, sub_ii, mul_ii, div_ii, mod_ii, lt_ii, le_ii, gt_ii, ge_ii, is_n, is_t, is_i, isnot_n, isnot_t, isnot_i, isi_i, isi_b, isi_n, isi_s, isi_l, isi_t, isi, DW.len_l, DW.len_t, DW.len_c, tuple_l, tuple_t, list_l, list_t, int_i, int_b, neg_i, idx_l, idx_t, idx_c, ofO_some, rev_l, cut_l, cut_t, lof_l, tof_t, sof_l, sof_t, lzipS, zipS, enumS, R.bind_ok, if_true, if_false, ite_true, ite_false, Bool.not_true, Bool.not_false, bind_nm, bind_tp, bind_nil, bind_cons, DW.scal, DW.wipeD, h]
  have w3 : f_idle [p, f, l, g] = .exn c := by simp -implicitDefEqProofs only [f_idle, run_eq, b_idle, ss_cons, ss_nil, st_ret, st_retN, st_pass, st_expr, st_ife, st_set, st_setV, st_asg, st_loop, st_ext, st_put, st_ownD, st_while, st_own, st_app, st_appV, st_raise, st_try, tryP_ok, tryP_exn, at_nx, at_rt, at_exn, endP_nx, endP_rt, endP_exn, ev_var, ev_int, ev_str, ev_bl, ev_non, ev_gint, ev_gstr, ev_bin, ev_neg, ev_cmp, ev_chain, ev_and, ev_or, ev_not, ev_ite, ev_tup, ev_lst, ev_call, ev_bi, ev_isi, ev_idx, ev_rev, ev_nil, ev_cons, ev_cut, ev_oN, ev_oS, ev_lzip, ev_dget, ev_lrange, ev_sset, ev_meth, mth_count, mth_index, mth_join, mth_split, ev_iL, ev_iT, ev_iS, ev_r1, ev_r2, ev_r3, ev_zip, ev_enum, ev_cN, ev_cS, ev_comp, two_ok, two_exn, one_ok, one_exn, many_ok, many_exn, consR_ok, consR_exn, andP_t, andP_f, orP_t, orP_f, notP_ok, notP_exn, chP_t, chP_f, chQ_ok, iteP_t, iteP_f, cutP_ok, oP_ok, itP_ok, itP2_ok, itP3_ok, cP_ok, listR_ok, retP_ok, pick_t, pick_f, pick_exn, exP_ok, exP_exn, setP_ok, setP_exn, forP_ok, view, shSl, lk, List.map_cons, List.map_nil, List.length_cons, List.length_nil, List.append_nil, List.nil_append, List.cons_append, List.getElem?_cons_zero, List.getElem?_cons_succ, List.set_cons_zero, List.set_cons_succ, List.set_nil, List.replicate_zero, List.replicate_succ, Nat.sub_self, Nat.zero_add, Nat.reduceAdd, Nat.reduceSub, Bop.fn, Cop.fn, Bi.fn, add_ii, add_ll, add_tt, sub_ii, mul_ii, div_ii, mod_ii, lt_ii, le_ii, gt_ii, ge_ii, is_n, is_t, is_i, isnot_n, isnot_t, isnot_i, isi_i, isi_b, isi_n, isi_s, isi_l, isi_t, isi, DW.len_l, DW.len_t, DW.len_c, tuple_l, tuple_t, list_l, list_t, int_i, int_b, neg_i, idx_l, idx_t, idx_c, ofO_some, rev_l, cut_l, cut_t, lof_l, tof_t, sof_l, sof_t, lzipS, zipS, enumS, R.bind_ok, if_true, if_false, ite_true, ite_false, Bool.not_true, Bool.not_false, bind_nm, bind_tp, bind_nil, bind_cons, DW.scal, DW.wipeD, h, iteP_exn]
  rcases hw with rfl | rfl | rfl | rfl
  · simp -implicitDefEqProofs only [f_law_told, run_eq, b_law_told, ss_cons, ss_nil, st_ret, st_retN, st_pass, st_expr, st_ife, st_set, st_setV, st_asg, st_loop, st_ext, st_put, st_ownD, st_while, st_own, st_app, st_appV, st_raise, st_try, tryP_ok, tryP_exn, at_nx, at_rt, at_exn, endP_nx, endP_rt, endP_exn, ev_var, ev_int, ev_str, ev_bl, ev_non, ev_gint, ev_gstr, ev_bin, ev_neg, ev_cmp, ev_chain, ev_and, ev_or, ev_not, ev_ite, ev_tup, ev_lst, ev_call, ev_bi, ev_isi, ev_idx, ev_rev, ev_nil, ev_cons, ev_cut, ev_oN, ev_oS, ev_lzip, ev_dget, ev_lrange, ev_sset, ev_meth, mth_count, mth_index, mth_join, mth_split, ev_iL, ev_iT, ev_iS, ev_r1, ev_r2, ev_r3, ev_zip, ev_enum, ev_cN, ev_cS, ev_comp, two_ok, two_exn, one_ok, one_exn, many_ok, many_exn, consR_ok, consR_exn, andP_t, andP_f, orP_t, orP_f, notP_ok, notP_exn, chP_t, chP_f, chQ_ok, iteP_t, iteP_f, cutP_ok, oP_ok, itP_ok, itP2_ok, itP3_ok, cP_ok, listR_ok, retP_ok, pick_t, pick_f, pick_exn, exP_ok, exP_exn, setP_ok, setP_exn, forP_ok, view, shSl, lk, List.map_cons, List.map_nil, List.length_cons, List.length_nil, List.append_nil, List.nil_append, List.cons_append, List.getElem?_cons_zero, List.getElem?_cons_succ, List.set_cons_zero, List.set_cons_succ, List.set_nil, List.replicate_zero, List.replicate_succ, Nat.sub_self, Nat.zero_add, Nat.reduceAdd, Nat.reduceSub, Bop.fn, Cop.fn, Bi.fn, add_ii, add_ll, add_tt, sub_ii, mul_ii, div_ii, mod_ii, lt_ii, le_ii, gt_ii, ge_ii, is_n, is_t, is_i, isnot_n, isnot_t, isnot_i, isi_i, isi_b, isi_n, isi_s, isi_l, isi_t, isi, DW.len_l, DW.len_t, DW.len_c, tuple_l, tuple_t, list_l, list_t, int_i, int_b, neg_i, idx_l, idx_t, idx_c, ofO_some, rev_l, cut_l, cut_t, lof_l, tof_t, sof_l, sof_t, lzipS, zipS, enumS, R.bind_ok, if_true, if_false, ite_true, ite_false, Bool.not_true, Bool.not_false, bind_nm, bind_tp, bind_nil, bind_cons, DW.scal, DW.wipeD, eq_int, show decide ((0 : Int) < 2) = true by decide, decide_true, h, retP_exn, hg, noExn]
  · simp -implicitDefEqProofs only [f_law_told, run_eq, b_law_told, ss_cons, ss_nil, st_ret, st_retN, st_pass, st_expr, st_ife, st_set, st_setV, st_asg, st_loop, st_ext, st_put, st_ownD, st_while, st_own, st_app, st_appV, st_raise, st_try, tryP_ok, tryP_exn, at_nx, at_rt, at_exn, endP_nx, endP_rt, endP_exn, ev_var, ev_int, ev_str, ev_bl, ev_non, ev_gint, ev_gstr, ev_bin, ev_neg, ev_cmp, ev_chain, ev_and, ev_or, ev_not, ev_ite, ev_tup, ev_lst, ev_call, ev_bi, ev_isi, ev_idx, ev_rev, ev_nil, ev_cons, ev_cut, ev_oN, ev_oS, ev_lzip, ev_dget, ev_lrange, ev_sset, ev_meth, mth_count, mth_index, mth_join, mth_split, ev_iL, ev_iT, ev_iS, ev_r1, ev_r2, ev_r3, ev_zip, ev_enum, ev_cN, ev_cS, ev_comp, two_ok, two_exn, one_ok, one_exn, many_ok, many_exn, consR_ok, consR_exn, andP_t, andP_f, orP_t, orP_f, notP_ok, notP_exn, chP_t, chP_f, chQ_ok, iteP_t, iteP_f, cutP_ok, oP_ok, itP_ok, itP2_ok, itP3_ok, cP_ok, listR_ok, retP_ok, pick_t, pick_f, pick_exn, exP_ok, exP_exn, setP_ok, setP_exn, forP_ok, view, shSl, lk, List.map_cons, List.map_nil, List.length_cons, List.length_nil, List.append_nil, List.nil_append, List.cons_append, List.getElem?_cons_zero, List.getElem?_cons_succ, List.set_cons_zero, List.set_cons_succ, List.set_nil, List.replicate_zero, List.replicate_succ, Nat.sub_self, Nat.zero_add, Nat.reduceAdd, Nat.reduceSub, Bop.fn, Cop.fn, Bi.fn, add_ii, add_ll, add_tt, sub_ii, mul_ii, div_ii, mod_ii, lt_ii, le_ii, gt_ii, ge_ii, is_n, is_t, is_i, isnot_n, isnot_t, isnot_i, isi_i, isi_b, isi_n, isi_s, isi_l, isi_t, isi, DW.len_l, DW.len_t, DW.len_c, tuple_l, tuple_t, list_l, list_t, int_i, int_b, neg_i, idx_l, idx_t, idx_c, ofO_some, rev_l, cut_l, cut_t, lof_l, tof_t, sof_l, sof_t, lzipS, zipS, enumS, R.bind_ok, if_true, if_false, ite_true, ite_false, Bool.not_true, Bool.not_false, bind_nm, bind_tp, bind_nil, bind_cons, DW.scal, DW.wipeD, eq_int, show decide ((1 : Int) < 2) = true by decide, show decide ((1 : Int) = 0) = false by decide, w1, retP_exn, hg, noExn]
  · simp -implicitDefEqProofs only [f_law_told, run_eq, b_law_told, ss_cons, ss_nil, st_ret, st_retN, st_pass, st_expr, st_ife, st_set, st_setV, st_asg, st_loop, st_ext, st_put, st_ownD, st_while, st_own, st_app, st_appV, st_raise, st_try, tryP_ok, tryP_exn, at_nx, at_rt, at_exn, endP_nx, endP_rt, endP_exn, ev_var, ev_int, ev_str, ev_bl, ev_non, ev_gint, ev_gstr, ev_bin, ev_neg, ev_cmp, ev_chain, ev_and, ev_or, ev_not, ev_ite, ev_tup, ev_lst, ev_call, ev_bi, ev_isi, ev_idx, ev_rev, ev_nil, ev_cons, ev_cut, ev_oN, ev_oS, ev_lzip, ev_dget, ev_lrange, ev_sset, ev_meth, mth_count, mth_index, mth_join, mth_split, ev_iL, ev_iT, ev_iS, ev_r1, ev_r2, ev_r3, ev_zip, ev_enum, ev_cN, ev_cS, ev_comp, two_ok, two_exn, one_ok, one_exn, many_ok, many_exn, consR_ok, consR_exn, andP_t, andP_f, orP_t, orP_f, notP_ok, notP_exn, chP_t, chP_f, chQ_ok, iteP_t, iteP_f, cutP_ok, oP_ok, itP_ok, itP2_ok, itP3_ok, cP_ok, listR_ok, retP_ok, pick_t, pick_f, pick_exn, exP_ok, exP_exn, setP_ok, setP_exn, forP_ok, view, shSl, lk, List.map_cons, List.map_nil, List.length_cons, List.length_nil, List.append_nil, List.nil_append, List.cons_append, List.getElem?_cons_zero, List.getElem?_cons_succ, List.set_cons_zero, List.set_cons_succ, List.set_nil, List.replicate_zero, List.replicate_succ, Nat.sub_self, Nat.zero_add, Nat.reduceAdd, Nat.reduceSub, Bop.fn, Cop.fn, Bi.fn, add_ii, add_ll, add_tt, sub_ii, mul_ii, div_ii, mod_ii, lt_ii, le_ii, gt_ii, ge_ii, is_n, is_t, is_i, isnot_n, isnot_t, isnot_i, isi_i, isi_b, isi_n, isi_s, isi_l, isi_t, isi, DW.len_l, DW.len_t, DW.len_c, tuple_l, tuple_t, list_l, list_t, int_i, int_b, neg_i, idx_l, idx_t, idx_c, ofO_some, rev_l, cut_l, cut_t, lof_l, tof_t, sof_l, sof_t, lzipS, zipS, enumS, R.bind_ok, if_true, if_false, ite_true, ite_false, Bool.not_true, Bool.not_false, bind_nm, bind_tp, bind_nil, bind_cons, DW.scal, DW.wipeD, eq_int, show decide ((2 : Int) < 2) = false by decide, decide_true, w2, retP_exn, hg, noExn]
  · simp -implicitDefEqProofs only [f_law_told, run_eq, b_law_told, ss_cons, ss_nil, st_ret, st_retN, st_pass, st_expr, st_ife, st_set, st_setV, st_asg, st_loop, st_ext, st_put, st_ownD, st_while, st_own, st_app, st_appV, st_raise, st_try, tryP_ok, tryP_exn, at_nx, at_rt, at_exn, endP_nx, endP_rt, endP_exn, ev_var, ev_int, ev_str, ev_bl, ev_non, ev_gint, ev_gstr, ev_bin, ev_neg, ev_cmp, ev_chain, ev_and, ev_or, ev_not, ev_ite, ev_tup, ev_lst, ev_call, ev_bi, ev_isi, ev_idx, ev_rev, ev_nil, ev_cons, ev_cut, ev_oN, ev_oS, ev_lzip, ev_dget, ev_lrange, ev_sset, ev_meth, mth_count, mth_index, mth_join, mth_split, ev_iL, ev_iT, ev_iS, ev_r1, ev_r2, ev_r3, ev_zip, ev_enum, ev_cN, ev_cS, ev_comp, two_ok, two_exn, one_ok, one_exn, many_ok, many_exn, consR_ok, consR_exn, andP_t, andP_f, orP_t, orP_f, notP_ok, notP_exn, chP_t, chP_f, chQ_ok, iteP_t, iteP_f, cutP_ok, oP_ok, itP_ok, itP2_ok, itP3_ok, cP_ok, listR_ok, retP_ok, pick_t, pick_f, pick_exn, exP_ok, exP_exn, setP_ok, setP_exn, forP_ok, view, shSl, lk, List.map_cons, List.map_nil, List.length_cons, List.length_nil, List.append_nil, List.nil_append, List.cons_append, List.getElem?_cons_zero, List.getElem?_cons_succ, List.set_cons_zero, List.set_cons_succ, List.set_nil, List.replicate_zero, List.replicate_succ, Nat.sub_self, Nat.zero_add, Nat.reduceAdd, Nat.reduceSub, Bop.fn, Cop.fn, Bi.fn, add_ii, add_ll, add_tt, sub_ii, mul_ii, div_ii, mod_ii, lt_ii, le_ii, gt_ii, ge_ii, is_n, is_t, is_i, isnot_n, isnot_t, isnot_i, isi_i, isi_b, isi_n, isi_s, isi_l, isi_t, isi, DW.len_l, DW.len_t, DW.len_c, tuple_l, tuple_t, list_l, list_t, int_i, int_b, neg_i, idx_l, idx_t, idx_c, ofO_some, rev_l, cut_l, cut_t, lof_l, tof_t, sof_l, sof_t, lzipS, zipS, enumS, R.bind_ok, if_true, if_false, ite_true, ite_false, Bool.not_true, Bool.not_false, bind_nm, bind_tp, bind_nil, bind_cons, DW.scal, DW.wipeD, eq_int, show decide ((3 : Int) < 2) = false by decide, show decide ((3 : Int) = 2) = false by decide, w3, retP_exn, hg, noExn]
theorem srv_time1 {ps : List Dd} (h : ∀ x ∈ ps, DeedOk x) (hl : ps.length ≤ 12) (hr : rise ps = true) {b : PyData} (hb : f_need_time [b] = .exn "NoTime") (x y : PyData) : f_served [planD ps, b, x, y] = .exn "NoTime" := by
  have s : f_need_span [b, x] = .exn "NoTime" := by simp -implicitDefEqProofs only [f_need_span, run_eq, b_need_span, ss_cons, ss_nil, st_ret, st_retN, st_pass, st_expr, st_ife, st_set, st_setV, st_asg, st_loop, st_ext, st_put, st_ownD, st_while, st_own, st_app, st_appV, st_raise, st_try, tryP_ok, tryP_exn, at_nx, at_rt, at_exn, endP_nx, endP_rt, endP_exn, ev_var, ev_int, ev_str, ev_bl, ev_non, ev_gint, ev_gstr, ev_bin, ev_neg, ev_cmp, ev_chain, ev_and, ev_or, ev_not, ev_ite, ev_tup, ev_lst, ev_call, ev_bi, ev_isi, ev_idx, ev_rev, ev_nil, ev_cons, ev_cut, ev_oN, ev_oS, ev_lzip, ev_dget, ev_lrange, ev_sset, ev_meth, mth_count, mth_index, mth_join, mth_split, ev_iL, ev_iT, ev_iS, ev_r1, ev_r2, ev_r3, ev_zip, ev_enum, ev_cN, ev_cS, ev_comp, two_ok, two_exn, one_ok, one_exn, many_ok, many_exn, consR_ok, consR_exn, andP_t, andP_f, orP_t, orP_f, notP_ok, notP_exn, chP_t, chP_f, chQ_ok, iteP_t, iteP_f, cutP_ok, oP_ok, itP_ok, itP2_ok, itP3_ok, cP_ok, listR_ok, retP_ok, pick_t, pick_f, pick_exn, exP_ok, exP_exn, setP_ok, setP_exn, forP_ok, view, shSl, lk, List.map_cons, List.map_nil, List.length_cons, List.length_nil, List.append_nil, List.nil_append, List.cons_append, List.getElem?_cons_zero, List.getElem?_cons_succ, List.set_cons_zero, List.set_cons_succ, List.set_nil, List.replicate_zero, List.replicate_succ, Nat.sub_self, Nat.zero_add, Nat.reduceAdd, Nat.reduceSub, Bop.fn, Cop.fn, Bi.fn, add_ii, add_ll, add_tt, sub_ii, mul_ii, div_ii, mod_ii, lt_ii, le_ii, gt_ii, ge_ii, is_n, is_t, is_i, isnot_n, isnot_t, isnot_i, isi_i, isi_b, isi_n, isi_s, isi_l, isi_t, isi, DW.len_l, DW.len_t, DW.len_c, tuple_l, tuple_t, list_l, list_t, int_i, int_b, neg_i, idx_l, idx_t, idx_c, ofO_some, rev_l, cut_l, cut_t, lof_l, tof_t, sof_l, sof_t, lzipS, zipS, enumS, R.bind_ok, if_true, if_false, ite_true, ite_false, Bool.not_true, Bool.not_false, bind_nm, bind_tp, bind_nil, bind_cons, DW.scal, DW.wipeD, hb]
  have t : f_told [planD ps, b, x] = .exn "NoTime" := by simp -implicitDefEqProofs only [f_told, run_eq, b_told, ss_cons, ss_nil, st_ret, st_retN, st_pass, st_expr, st_ife, st_set, st_setV, st_asg, st_loop, st_ext, st_put, st_ownD, st_while, st_own, st_app, st_appV, st_raise, st_try, tryP_ok, tryP_exn, at_nx, at_rt, at_exn, endP_nx, endP_rt, endP_exn, ev_var, ev_int, ev_str, ev_bl, ev_non, ev_gint, ev_gstr, ev_bin, ev_neg, ev_cmp, ev_chain, ev_and, ev_or, ev_not, ev_ite, ev_tup, ev_lst, ev_call, ev_bi, ev_isi, ev_idx, ev_rev, ev_nil, ev_cons, ev_cut, ev_oN, ev_oS, ev_lzip, ev_dget, ev_lrange, ev_sset, ev_meth, mth_count, mth_index, mth_join, mth_split, ev_iL, ev_iT, ev_iS, ev_r1, ev_r2, ev_r3, ev_zip, ev_enum, ev_cN, ev_cS, ev_comp, two_ok, two_exn, one_ok, one_exn, many_ok, many_exn, consR_ok, consR_exn, andP_t, andP_f, orP_t, orP_f, notP_ok, notP_exn, chP_t, chP_f, chQ_ok, iteP_t, iteP_f, cutP_ok, oP_ok, itP_ok, itP2_ok, itP3_ok, cP_ok, listR_ok, retP_ok, pick_t, pick_f, pick_exn, exP_ok, exP_exn, setP_ok, setP_exn, forP_ok, view, shSl, lk, List.map_cons, List.map_nil, List.length_cons, List.length_nil, List.append_nil, List.nil_append, List.cons_append, List.getElem?_cons_zero, List.getElem?_cons_succ, List.set_cons_zero, List.set_cons_succ, List.set_nil, List.replicate_zero, List.replicate_succ, Nat.sub_self, Nat.zero_add, Nat.reduceAdd, Nat.reduceSub, Bop.fn, Cop.fn, Bi.fn, add_ii, add_ll, add_tt, sub_ii, mul_ii, div_ii, mod_ii, lt_ii, le_ii, gt_ii, ge_ii, is_n, is_t, is_i, isnot_n, isnot_t, isnot_i, isi_i, isi_b, isi_n, isi_s, isi_l, isi_t, isi, DW.len_l, DW.len_t, DW.len_c, tuple_l, tuple_t, list_l, list_t, int_i, int_b, neg_i, idx_l, idx_t, idx_c, ofO_some, rev_l, cut_l, cut_t, lof_l, tof_t, sof_l, sof_t, lzipS, zipS, enumS, R.bind_ok, if_true, if_false, ite_true, ite_false, Bool.not_true, Bool.not_false, bind_nm, bind_tp, bind_nil, bind_cons, DW.scal, DW.wipeD, need_plan_ok h hl hr, s]
  simp -implicitDefEqProofs only [f_served, run_eq, b_served, ss_cons, ss_nil, st_ret, st_retN, st_pass, st_expr, st_ife, st_set, st_setV, st_asg, st_loop, st_ext, st_put, st_ownD, st_while, st_own, st_app, st_appV, st_raise, st_try, tryP_ok, tryP_exn, at_nx, at_rt, at_exn, endP_nx, endP_rt, endP_exn, ev_var, ev_int, ev_str, ev_bl, ev_non, ev_gint, ev_gstr, ev_bin, ev_neg, ev_cmp, ev_chain, ev_and, ev_or, ev_not, ev_ite, ev_tup, ev_lst, ev_call, ev_bi, ev_isi, ev_idx, ev_rev, ev_nil, ev_cons, ev_cut, ev_oN, ev_oS, ev_lzip, ev_dget, ev_lrange, ev_sset, ev_meth, mth_count, mth_index, mth_join, mth_split, ev_iL, ev_iT, ev_iS, ev_r1, ev_r2, ev_r3, ev_zip, ev_enum, ev_cN, ev_cS, ev_comp, two_ok, two_exn, one_ok, one_exn, many_ok, many_exn, consR_ok, consR_exn, andP_t, andP_f, orP_t, orP_f, notP_ok, notP_exn, chP_t, chP_f, chQ_ok, iteP_t, iteP_f, cutP_ok, oP_ok, itP_ok, itP2_ok, itP3_ok, cP_ok, listR_ok, retP_ok, pick_t, pick_f, pick_exn, exP_ok, exP_exn, setP_ok, setP_exn, forP_ok, view, shSl, lk, List.map_cons, List.map_nil, List.length_cons, List.length_nil, List.append_nil, List.nil_append, List.cons_append, List.getElem?_cons_zero, List.getElem?_cons_succ, List.set_cons_zero, List.set_cons_succ, List.set_nil, List.replicate_zero, List.replicate_succ, Nat.sub_self, Nat.zero_add, Nat.reduceAdd, Nat.reduceSub, Bop.fn, Cop.fn, Bi.fn, add_ii, add_ll, add_tt, sub_ii, mul_ii, div_ii, mod_ii, lt_ii, le_ii, gt_ii, ge_ii, is_n, is_t, is_i, isnot_n, isnot_t, isnot_i, isi_i, isi_b, isi_n, isi_s, isi_l, isi_t, isi, DW.len_l, DW.len_t, DW.len_c, tuple_l, tuple_t, list_l, list_t, int_i, int_b, neg_i, idx_l, idx_t, idx_c, ofO_some, rev_l, cut_l, cut_t, lof_l, tof_t, sof_l, sof_t, lzipS, zipS, enumS, R.bind_ok, if_true, if_false, ite_true, ite_false, Bool.not_true, Bool.not_false, bind_nm, bind_tp, bind_nil, bind_cons, DW.scal, DW.wipeD, t]
theorem srv_time2 {ps : List Dd} (h : ∀ x ∈ ps, DeedOk x) (hl : ps.length ≤ 12) (hr : rise ps = true) {b : PyData} (hb : f_need_time [b] = .exn "NoTime") (y : PyData) : f_served [planD ps, .int 0, b, y] = .exn "NoTime" := by
  have s : f_need_span [.int 0, b] = .exn "NoTime" := by simp -implicitDefEqProofs only [f_need_span, run_eq, b_need_span, ss_cons, ss_nil, st_ret, st_retN, st_pass, st_expr, st_ife, st_set, st_setV, st_asg, st_loop, st_ext, st_put, st_ownD, st_while, st_own, st_app, st_appV, st_raise, st_try, tryP_ok, tryP_exn, at_nx, at_rt, at_exn, endP_nx, endP_rt, endP_exn, ev_var, ev_int, ev_str, ev_bl, ev_non, ev_gint, ev_gstr, ev_bin, ev_neg, ev_cmp, ev_chain, ev_and, ev_or, ev_not, ev_ite, ev_tup, ev_lst, ev_call, ev_bi, ev_isi, ev_idx, ev_rev, ev_nil, ev_cons, ev_cut, ev_oN, ev_oS, ev_lzip, ev_dget, ev_lrange, ev_sset, ev_meth, mth_count, mth_index, mth_join, mth_split, ev_iL, ev_iT, ev_iS, ev_r1, ev_r2, ev_r3, ev_zip, ev_enum, ev_cN, ev_cS, ev_comp, two_ok, two_exn, one_ok, one_exn, many_ok, many_exn, consR_ok, consR_exn, andP_t, andP_f, orP_t, orP_f, notP_ok, notP_exn, chP_t, chP_f, chQ_ok, iteP_t, iteP_f, cutP_ok, oP_ok, itP_ok, itP2_ok, itP3_ok, cP_ok, listR_ok, retP_ok, pick_t, pick_f, pick_exn, exP_ok, exP_exn, setP_ok, setP_exn, forP_ok, view, shSl, lk, List.map_cons, List.map_nil, List.length_cons, List.length_nil, List.append_nil, List.nil_append, List.cons_append, List.getElem?_cons_zero, List.getElem?_cons_succ, List.set_cons_zero, List.set_cons_succ, List.set_nil, List.replicate_zero, List.replicate_succ, Nat.sub_self, Nat.zero_add, Nat.reduceAdd, Nat.reduceSub, Bop.fn, Cop.fn, Bi.fn, add_ii, add_ll, add_tt, sub_ii, mul_ii, div_ii, mod_ii, lt_ii, le_ii, gt_ii, ge_ii, is_n, is_t, is_i, isnot_n, isnot_t, isnot_i, isi_i, isi_b, isi_n, isi_s, isi_l, isi_t, isi, DW.len_l, DW.len_t, DW.len_c, tuple_l, tuple_t, list_l, list_t, int_i, int_b, neg_i, idx_l, idx_t, idx_c, ofO_some, rev_l, cut_l, cut_t, lof_l, tof_t, sof_l, sof_t, lzipS, zipS, enumS, R.bind_ok, if_true, if_false, ite_true, ite_false, Bool.not_true, Bool.not_false, bind_nm, bind_tp, bind_nil, bind_cons, DW.scal, DW.wipeD, need_time_ok (show (0 : Int) ≤ 0 by omega) (show (0 : Int) ≤ 9999 by omega), hb]
  have t : f_told [planD ps, .int 0, b] = .exn "NoTime" := by simp -implicitDefEqProofs only [f_told, run_eq, b_told, ss_cons, ss_nil, st_ret, st_retN, st_pass, st_expr, st_ife, st_set, st_setV, st_asg, st_loop, st_ext, st_put, st_ownD, st_while, st_own, st_app, st_appV, st_raise, st_try, tryP_ok, tryP_exn, at_nx, at_rt, at_exn, endP_nx, endP_rt, endP_exn, ev_var, ev_int, ev_str, ev_bl, ev_non, ev_gint, ev_gstr, ev_bin, ev_neg, ev_cmp, ev_chain, ev_and, ev_or, ev_not, ev_ite, ev_tup, ev_lst, ev_call, ev_bi, ev_isi, ev_idx, ev_rev, ev_nil, ev_cons, ev_cut, ev_oN, ev_oS, ev_lzip, ev_dget, ev_lrange, ev_sset, ev_meth, mth_count, mth_index, mth_join, mth_split, ev_iL, ev_iT, ev_iS, ev_r1, ev_r2, ev_r3, ev_zip, ev_enum, ev_cN, ev_cS, ev_comp, two_ok, two_exn, one_ok, one_exn, many_ok, many_exn, consR_ok, consR_exn, andP_t, andP_f, orP_t, orP_f, notP_ok, notP_exn, chP_t, chP_f, chQ_ok, iteP_t, iteP_f, cutP_ok, oP_ok, itP_ok, itP2_ok, itP3_ok, cP_ok, listR_ok, retP_ok, pick_t, pick_f, pick_exn, exP_ok, exP_exn, setP_ok, setP_exn, forP_ok, view, shSl, lk, List.map_cons, List.map_nil, List.length_cons, List.length_nil, List.append_nil, List.nil_append, List.cons_append, List.getElem?_cons_zero, List.getElem?_cons_succ, List.set_cons_zero, List.set_cons_succ, List.set_nil, List.replicate_zero, List.replicate_succ, Nat.sub_self, Nat.zero_add, Nat.reduceAdd, Nat.reduceSub, Bop.fn, Cop.fn, Bi.fn, add_ii, add_ll, add_tt, sub_ii, mul_ii, div_ii, mod_ii, lt_ii, le_ii, gt_ii, ge_ii, is_n, is_t, is_i, isnot_n, isnot_t, isnot_i, isi_i, isi_b, isi_n, isi_s, isi_l, isi_t, isi, DW.len_l, DW.len_t, DW.len_c, tuple_l, tuple_t, list_l, list_t, int_i, int_b, neg_i, idx_l, idx_t, idx_c, ofO_some, rev_l, cut_l, cut_t, lof_l, tof_t, sof_l, sof_t, lzipS, zipS, enumS, R.bind_ok, if_true, if_false, ite_true, ite_false, Bool.not_true, Bool.not_false, bind_nm, bind_tp, bind_nil, bind_cons, DW.scal, DW.wipeD, need_plan_ok h hl hr, s]
  simp -implicitDefEqProofs only [f_served, run_eq, b_served, ss_cons, ss_nil, st_ret, st_retN, st_pass, st_expr, st_ife, st_set, st_setV, st_asg, st_loop, st_ext, st_put, st_ownD, st_while, st_own, st_app, st_appV, st_raise, st_try, tryP_ok, tryP_exn, at_nx, at_rt, at_exn, endP_nx, endP_rt, endP_exn, ev_var, ev_int, ev_str, ev_bl, ev_non, ev_gint, ev_gstr, ev_bin, ev_neg, ev_cmp, ev_chain, ev_and, ev_or, ev_not, ev_ite, ev_tup, ev_lst, ev_call, ev_bi, ev_isi, ev_idx, ev_rev, ev_nil, ev_cons, ev_cut, ev_oN, ev_oS, ev_lzip, ev_dget, ev_lrange, ev_sset, ev_meth, mth_count, mth_index, mth_join, mth_split, ev_iL, ev_iT, ev_iS, ev_r1, ev_r2, ev_r3, ev_zip, ev_enum, ev_cN, ev_cS, ev_comp, two_ok, two_exn, one_ok, one_exn, many_ok, many_exn, consR_ok, consR_exn, andP_t, andP_f, orP_t, orP_f, notP_ok, notP_exn, chP_t, chP_f, chQ_ok, iteP_t, iteP_f, cutP_ok, oP_ok, itP_ok, itP2_ok, itP3_ok, cP_ok, listR_ok, retP_ok, pick_t, pick_f, pick_exn, exP_ok, exP_exn, setP_ok, setP_exn, forP_ok, view, shSl, lk, List.map_cons, List.map_nil, List.length_cons, List.length_nil, List.append_nil, List.nil_append, List.cons_append, List.getElem?_cons_zero, List.getElem?_cons_succ, List.set_cons_zero, List.set_cons_succ, List.set_nil, List.replicate_zero, List.replicate_succ, Nat.sub_self, Nat.zero_add, Nat.reduceAdd, Nat.reduceSub, Bop.fn, Cop.fn, Bi.fn, add_ii, add_ll, add_tt, sub_ii, mul_ii, div_ii, mod_ii, lt_ii, le_ii, gt_ii, ge_ii, is_n, is_t, is_i, isnot_n, isnot_t, isnot_i, isi_i, isi_b, isi_n, isi_s, isi_l, isi_t, isi, DW.len_l, DW.len_t, DW.len_c, tuple_l, tuple_t, list_l, list_t, int_i, int_b, neg_i, idx_l, idx_t, idx_c, ofO_some, rev_l, cut_l, cut_t, lof_l, tof_t, sof_l, sof_t, lzipS, zipS, enumS, R.bind_ok, if_true, if_false, ite_true, ite_false, Bool.not_true, Bool.not_false, bind_nm, bind_tp, bind_nil, bind_cons, DW.scal, DW.wipeD, t]
theorem srv_turned {ps : List Dd} (h : ∀ x ∈ ps, DeedOk x) (hl : ps.length ≤ 12) (hr : rise ps = true) (y : PyData) : f_served [planD ps, .int 5, .int 4, y] = .exn "NoTime" := by
  have s : f_need_span [.int 5, .int 4] = .exn "NoTime" := by simp -implicitDefEqProofs only [f_need_span, run_eq, b_need_span, ss_cons, ss_nil, st_ret, st_retN, st_pass, st_expr, st_ife, st_set, st_setV, st_asg, st_loop, st_ext, st_put, st_ownD, st_while, st_own, st_app, st_appV, st_raise, st_try, tryP_ok, tryP_exn, at_nx, at_rt, at_exn, endP_nx, endP_rt, endP_exn, ev_var, ev_int, ev_str, ev_bl, ev_non, ev_gint, ev_gstr, ev_bin, ev_neg, ev_cmp, ev_chain, ev_and, ev_or, ev_not, ev_ite, ev_tup, ev_lst, ev_call, ev_bi, ev_isi, ev_idx, ev_rev, ev_nil, ev_cons, ev_cut, ev_oN, ev_oS, ev_lzip, ev_dget, ev_lrange, ev_sset, ev_meth, mth_count, mth_index, mth_join, mth_split, ev_iL, ev_iT, ev_iS, ev_r1, ev_r2, ev_r3, ev_zip, ev_enum, ev_cN, ev_cS, ev_comp, two_ok, two_exn, one_ok, one_exn, many_ok, many_exn, consR_ok, consR_exn, andP_t, andP_f, orP_t, orP_f, notP_ok, notP_exn, chP_t, chP_f, chQ_ok, iteP_t, iteP_f, cutP_ok, oP_ok, itP_ok, itP2_ok, itP3_ok, cP_ok, listR_ok, retP_ok, pick_t, pick_f, pick_exn, exP_ok, exP_exn, setP_ok, setP_exn, forP_ok, view, shSl, lk, List.map_cons, List.map_nil, List.length_cons, List.length_nil, List.append_nil, List.nil_append, List.cons_append, List.getElem?_cons_zero, List.getElem?_cons_succ, List.set_cons_zero, List.set_cons_succ, List.set_nil, List.replicate_zero, List.replicate_succ, Nat.sub_self, Nat.zero_add, Nat.reduceAdd, Nat.reduceSub, Bop.fn, Cop.fn, Bi.fn, add_ii, add_ll, add_tt, sub_ii, mul_ii, div_ii, mod_ii, lt_ii, le_ii, gt_ii, ge_ii, is_n, is_t, is_i, isnot_n, isnot_t, isnot_i, isi_i, isi_b, isi_n, isi_s, isi_l, isi_t, isi, DW.len_l, DW.len_t, DW.len_c, tuple_l, tuple_t, list_l, list_t, int_i, int_b, neg_i, idx_l, idx_t, idx_c, ofO_some, rev_l, cut_l, cut_t, lof_l, tof_t, sof_l, sof_t, lzipS, zipS, enumS, R.bind_ok, if_true, if_false, ite_true, ite_false, Bool.not_true, Bool.not_false, bind_nm, bind_tp, bind_nil, bind_cons, DW.scal, DW.wipeD, need_time_ok (show (0 : Int) ≤ 5 by omega) (show (5 : Int) ≤ 9999 by omega), need_time_ok (show (0 : Int) ≤ 4 by omega) (show (4 : Int) ≤ 9999 by omega), show decide ((4 : Int) < 5) = true by decide]
  have t : f_told [planD ps, .int 5, .int 4] = .exn "NoTime" := by simp -implicitDefEqProofs only [f_told, run_eq, b_told, ss_cons, ss_nil, st_ret, st_retN, st_pass, st_expr, st_ife, st_set, st_setV, st_asg, st_loop, st_ext, st_put, st_ownD, st_while, st_own, st_app, st_appV, st_raise, st_try, tryP_ok, tryP_exn, at_nx, at_rt, at_exn, endP_nx, endP_rt, endP_exn, ev_var, ev_int, ev_str, ev_bl, ev_non, ev_gint, ev_gstr, ev_bin, ev_neg, ev_cmp, ev_chain, ev_and, ev_or, ev_not, ev_ite, ev_tup, ev_lst, ev_call, ev_bi, ev_isi, ev_idx, ev_rev, ev_nil, ev_cons, ev_cut, ev_oN, ev_oS, ev_lzip, ev_dget, ev_lrange, ev_sset, ev_meth, mth_count, mth_index, mth_join, mth_split, ev_iL, ev_iT, ev_iS, ev_r1, ev_r2, ev_r3, ev_zip, ev_enum, ev_cN, ev_cS, ev_comp, two_ok, two_exn, one_ok, one_exn, many_ok, many_exn, consR_ok, consR_exn, andP_t, andP_f, orP_t, orP_f, notP_ok, notP_exn, chP_t, chP_f, chQ_ok, iteP_t, iteP_f, cutP_ok, oP_ok, itP_ok, itP2_ok, itP3_ok, cP_ok, listR_ok, retP_ok, pick_t, pick_f, pick_exn, exP_ok, exP_exn, setP_ok, setP_exn, forP_ok, view, shSl, lk, List.map_cons, List.map_nil, List.length_cons, List.length_nil, List.append_nil, List.nil_append, List.cons_append, List.getElem?_cons_zero, List.getElem?_cons_succ, List.set_cons_zero, List.set_cons_succ, List.set_nil, List.replicate_zero, List.replicate_succ, Nat.sub_self, Nat.zero_add, Nat.reduceAdd, Nat.reduceSub, Bop.fn, Cop.fn, Bi.fn, add_ii, add_ll, add_tt, sub_ii, mul_ii, div_ii, mod_ii, lt_ii, le_ii, gt_ii, ge_ii, is_n, is_t, is_i, isnot_n, isnot_t, isnot_i, isi_i, isi_b, isi_n, isi_s, isi_l, isi_t, isi, DW.len_l, DW.len_t, DW.len_c, tuple_l, tuple_t, list_l, list_t, int_i, int_b, neg_i, idx_l, idx_t, idx_c, ofO_some, rev_l, cut_l, cut_t, lof_l, tof_t, sof_l, sof_t, lzipS, zipS, enumS, R.bind_ok, if_true, if_false, ite_true, ite_false, Bool.not_true, Bool.not_false, bind_nm, bind_tp, bind_nil, bind_cons, DW.scal, DW.wipeD, need_plan_ok h hl hr, s]
  simp -implicitDefEqProofs only [f_served, run_eq, b_served, ss_cons, ss_nil, st_ret, st_retN, st_pass, st_expr, st_ife, st_set, st_setV, st_asg, st_loop, st_ext, st_put, st_ownD, st_while, st_own, st_app, st_appV, st_raise, st_try, tryP_ok, tryP_exn, at_nx, at_rt, at_exn, endP_nx, endP_rt, endP_exn, ev_var, ev_int, ev_str, ev_bl, ev_non, ev_gint, ev_gstr, ev_bin, ev_neg, ev_cmp, ev_chain, ev_and, ev_or, ev_not, ev_ite, ev_tup, ev_lst, ev_call, ev_bi, ev_isi, ev_idx, ev_rev, ev_nil, ev_cons, ev_cut, ev_oN, ev_oS, ev_lzip, ev_dget, ev_lrange, ev_sset, ev_meth, mth_count, mth_index, mth_join, mth_split, ev_iL, ev_iT, ev_iS, ev_r1, ev_r2, ev_r3, ev_zip, ev_enum, ev_cN, ev_cS, ev_comp, two_ok, two_exn, one_ok, one_exn, many_ok, many_exn, consR_ok, consR_exn, andP_t, andP_f, orP_t, orP_f, notP_ok, notP_exn, chP_t, chP_f, chQ_ok, iteP_t, iteP_f, cutP_ok, oP_ok, itP_ok, itP2_ok, itP3_ok, cP_ok, listR_ok, retP_ok, pick_t, pick_f, pick_exn, exP_ok, exP_exn, setP_ok, setP_exn, forP_ok, view, shSl, lk, List.map_cons, List.map_nil, List.length_cons, List.length_nil, List.append_nil, List.nil_append, List.cons_append, List.getElem?_cons_zero, List.getElem?_cons_succ, List.set_cons_zero, List.set_cons_succ, List.set_nil, List.replicate_zero, List.replicate_succ, Nat.sub_self, Nat.zero_add, Nat.reduceAdd, Nat.reduceSub, Bop.fn, Cop.fn, Bi.fn, add_ii, add_ll, add_tt, sub_ii, mul_ii, div_ii, mod_ii, lt_ii, le_ii, gt_ii, ge_ii, is_n, is_t, is_i, isnot_n, isnot_t, isnot_i, isi_i, isi_b, isi_n, isi_s, isi_l, isi_t, isi, DW.len_l, DW.len_t, DW.len_c, tuple_l, tuple_t, list_l, list_t, int_i, int_b, neg_i, idx_l, idx_t, idx_c, ofO_some, rev_l, cut_l, cut_t, lof_l, tof_t, sof_l, sof_t, lzipS, zipS, enumS, R.bind_ok, if_true, if_false, ite_true, ite_false, Bool.not_true, Bool.not_false, bind_nm, bind_tp, bind_nil, bind_cons, DW.scal, DW.wipeD, t]
theorem srv_num {ps : List Dd} (h : ∀ x ∈ ps, DeedOk x) (hl : ps.length ≤ 12) (hr : rise ps = true) {b : PyData} (hb : f_is_number [b, .int 1, .int 99] = .ok (.bool false)) : f_served [planD ps, .int 0, .int 9, b] = .exn "NoNumber" := by
  simp -implicitDefEqProofs only [f_served, run_eq, b_served, ss_cons, ss_nil, st_ret, st_retN, st_pass, st_expr, st_ife, st_set, st_setV, st_asg, st_loop, st_ext, st_put, st_ownD, st_while, st_own, st_app, st_appV, st_raise, st_try, tryP_ok, tryP_exn, at_nx, at_rt, at_exn, endP_nx, endP_rt, endP_exn, ev_var, ev_int, ev_str, ev_bl, ev_non, ev_gint, ev_gstr, ev_bin, ev_neg, ev_cmp, ev_chain, ev_and, ev_or, ev_not, ev_ite, ev_tup, ev_lst, ev_call, ev_bi, ev_isi, ev_idx, ev_rev, ev_nil, ev_cons, ev_cut, ev_oN, ev_oS, ev_lzip, ev_dget, ev_lrange, ev_sset, ev_meth, mth_count, mth_index, mth_join, mth_split, ev_iL, ev_iT, ev_iS, ev_r1, ev_r2, ev_r3, ev_zip, ev_enum, ev_cN, ev_cS, ev_comp, two_ok, two_exn, one_ok, one_exn, many_ok, many_exn, consR_ok, consR_exn, andP_t, andP_f, orP_t, orP_f, notP_ok, notP_exn, chP_t, chP_f, chQ_ok, iteP_t, iteP_f, cutP_ok, oP_ok, itP_ok, itP2_ok, itP3_ok, cP_ok, listR_ok, retP_ok, pick_t, pick_f, pick_exn, exP_ok, exP_exn, setP_ok, setP_exn, forP_ok, view, shSl, lk, List.map_cons, List.map_nil, List.length_cons, List.length_nil, List.append_nil, List.nil_append, List.cons_append, List.getElem?_cons_zero, List.getElem?_cons_succ, List.set_cons_zero, List.set_cons_succ, List.set_nil, List.replicate_zero, List.replicate_succ, Nat.sub_self, Nat.zero_add, Nat.reduceAdd, Nat.reduceSub, Bop.fn, Cop.fn, Bi.fn, add_ii, add_ll, add_tt, sub_ii, mul_ii, div_ii, mod_ii, lt_ii, le_ii, gt_ii, ge_ii, is_n, is_t, is_i, isnot_n, isnot_t, isnot_i, isi_i, isi_b, isi_n, isi_s, isi_l, isi_t, isi, DW.len_l, DW.len_t, DW.len_c, tuple_l, tuple_t, list_l, list_t, int_i, int_b, neg_i, idx_l, idx_t, idx_c, ofO_some, rev_l, cut_l, cut_t, lof_l, tof_t, sof_l, sof_t, lzipS, zipS, enumS, R.bind_ok, if_true, if_false, ite_true, ite_false, Bool.not_true, Bool.not_false, bind_nm, bind_tp, bind_nil, bind_cons, DW.scal, DW.wipeD, told_ok h hl hr (show (0 : Int) ≤ 0 by omega) (show (0 : Int) ≤ 9 by omega) (show (9 : Int) ≤ 9999 by omega), hb]
theorem srv_plan (x y z : PyData) : f_served [.list [], x, y, z] = .exn "NoPlan" := by
  have i : f_is_plan [.list []] = .ok (.bool false) := rfl
  have t : f_told [.list [], x, y] = .exn "NoPlan" := by simp -implicitDefEqProofs only [f_told, run_eq, b_told, ss_cons, ss_nil, st_ret, st_retN, st_pass, st_expr, st_ife, st_set, st_setV, st_asg, st_loop, st_ext, st_put, st_ownD, st_while, st_own, st_app, st_appV, st_raise, st_try, tryP_ok, tryP_exn, at_nx, at_rt, at_exn, endP_nx, endP_rt, endP_exn, ev_var, ev_int, ev_str, ev_bl, ev_non, ev_gint, ev_gstr, ev_bin, ev_neg, ev_cmp, ev_chain, ev_and, ev_or, ev_not, ev_ite, ev_tup, ev_lst, ev_call, ev_bi, ev_isi, ev_idx, ev_rev, ev_nil, ev_cons, ev_cut, ev_oN, ev_oS, ev_lzip, ev_dget, ev_lrange, ev_sset, ev_meth, mth_count, mth_index, mth_join, mth_split, ev_iL, ev_iT, ev_iS, ev_r1, ev_r2, ev_r3, ev_zip, ev_enum, ev_cN, ev_cS, ev_comp, two_ok, two_exn, one_ok, one_exn, many_ok, many_exn, consR_ok, consR_exn, andP_t, andP_f, orP_t, orP_f, notP_ok, notP_exn, chP_t, chP_f, chQ_ok, iteP_t, iteP_f, cutP_ok, oP_ok, itP_ok, itP2_ok, itP3_ok, cP_ok, listR_ok, retP_ok, pick_t, pick_f, pick_exn, exP_ok, exP_exn, setP_ok, setP_exn, forP_ok, view, shSl, lk, List.map_cons, List.map_nil, List.length_cons, List.length_nil, List.append_nil, List.nil_append, List.cons_append, List.getElem?_cons_zero, List.getElem?_cons_succ, List.set_cons_zero, List.set_cons_succ, List.set_nil, List.replicate_zero, List.replicate_succ, Nat.sub_self, Nat.zero_add, Nat.reduceAdd, Nat.reduceSub, Bop.fn, Cop.fn, Bi.fn, add_ii, add_ll, add_tt, sub_ii, mul_ii, div_ii, mod_ii, lt_ii, le_ii, gt_ii, ge_ii, is_n, is_t, is_i, isnot_n, isnot_t, isnot_i, isi_i, isi_b, isi_n, isi_s, isi_l, isi_t, isi, DW.len_l, DW.len_t, DW.len_c, tuple_l, tuple_t, list_l, list_t, int_i, int_b, neg_i, idx_l, idx_t, idx_c, ofO_some, rev_l, cut_l, cut_t, lof_l, tof_t, sof_l, sof_t, lzipS, zipS, enumS, R.bind_ok, if_true, if_false, ite_true, ite_false, Bool.not_true, Bool.not_false, bind_nm, bind_tp, bind_nil, bind_cons, DW.scal, DW.wipeD, need_plan_no i]
  simp -implicitDefEqProofs only [f_served, run_eq, b_served, ss_cons, ss_nil, st_ret, st_retN, st_pass, st_expr, st_ife, st_set, st_setV, st_asg, st_loop, st_ext, st_put, st_ownD, st_while, st_own, st_app, st_appV, st_raise, st_try, tryP_ok, tryP_exn, at_nx, at_rt, at_exn, endP_nx, endP_rt, endP_exn, ev_var, ev_int, ev_str, ev_bl, ev_non, ev_gint, ev_gstr, ev_bin, ev_neg, ev_cmp, ev_chain, ev_and, ev_or, ev_not, ev_ite, ev_tup, ev_lst, ev_call, ev_bi, ev_isi, ev_idx, ev_rev, ev_nil, ev_cons, ev_cut, ev_oN, ev_oS, ev_lzip, ev_dget, ev_lrange, ev_sset, ev_meth, mth_count, mth_index, mth_join, mth_split, ev_iL, ev_iT, ev_iS, ev_r1, ev_r2, ev_r3, ev_zip, ev_enum, ev_cN, ev_cS, ev_comp, two_ok, two_exn, one_ok, one_exn, many_ok, many_exn, consR_ok, consR_exn, andP_t, andP_f, orP_t, orP_f, notP_ok, notP_exn, chP_t, chP_f, chQ_ok, iteP_t, iteP_f, cutP_ok, oP_ok, itP_ok, itP2_ok, itP3_ok, cP_ok, listR_ok, retP_ok, pick_t, pick_f, pick_exn, exP_ok, exP_exn, setP_ok, setP_exn, forP_ok, view, shSl, lk, List.map_cons, List.map_nil, List.length_cons, List.length_nil, List.append_nil, List.nil_append, List.cons_append, List.getElem?_cons_zero, List.getElem?_cons_succ, List.set_cons_zero, List.set_cons_succ, List.set_nil, List.replicate_zero, List.replicate_succ, Nat.sub_self, Nat.zero_add, Nat.reduceAdd, Nat.reduceSub, Bop.fn, Cop.fn, Bi.fn, add_ii, add_ll, add_tt, sub_ii, mul_ii, div_ii, mod_ii, lt_ii, le_ii, gt_ii, ge_ii, is_n, is_t, is_i, isnot_n, isnot_t, isnot_i, isi_i, isi_b, isi_n, isi_s, isi_l, isi_t, isi, DW.len_l, DW.len_t, DW.len_c, tuple_l, tuple_t, list_l, list_t, int_i, int_b, neg_i, idx_l, idx_t, idx_c, ofO_some, rev_l, cut_l, cut_t, lof_l, tof_t, sof_l, sof_t, lzipS, zipS, enumS, R.bind_ok, if_true, if_false, ite_true, ite_false, Bool.not_true, Bool.not_false, bind_nm, bind_tp, bind_nil, bind_cons, DW.scal, DW.wipeD, t]
theorem time_no {x : PyData} (h : f_is_number [x, .int 0, .int 9999] = .ok (.bool false)) : f_need_time [x] = .exn "NoTime" := by
  simp -implicitDefEqProofs only [f_need_time, run_eq, b_need_time, ss_cons, ss_nil, st_ret, st_retN, st_pass, st_expr, st_ife, st_set, st_setV, st_asg, st_loop, st_ext, st_put, st_ownD, st_while, st_own, st_app, st_appV, st_raise, st_try, tryP_ok, tryP_exn, at_nx, at_rt, at_exn, endP_nx, endP_rt, endP_exn, ev_var, ev_int, ev_str, ev_bl, ev_non, ev_gint, ev_gstr, ev_bin, ev_neg, ev_cmp, ev_chain, ev_and, ev_or, ev_not, ev_ite, ev_tup, ev_lst, ev_call, ev_bi, ev_isi, ev_idx, ev_rev, ev_nil, ev_cons, ev_cut, ev_oN, ev_oS, ev_lzip, ev_dget, ev_lrange, ev_sset, ev_meth, mth_count, mth_index, mth_join, mth_split, ev_iL, ev_iT, ev_iS, ev_r1, ev_r2, ev_r3, ev_zip, ev_enum, ev_cN, ev_cS, ev_comp, two_ok, two_exn, one_ok, one_exn, many_ok, many_exn, consR_ok, consR_exn, andP_t, andP_f, orP_t, orP_f, notP_ok, notP_exn, chP_t, chP_f, chQ_ok, iteP_t, iteP_f, cutP_ok, oP_ok, itP_ok, itP2_ok, itP3_ok, cP_ok, listR_ok, retP_ok, pick_t, pick_f, pick_exn, exP_ok, exP_exn, setP_ok, setP_exn, forP_ok, view, shSl, lk, List.map_cons, List.map_nil, List.length_cons, List.length_nil, List.append_nil, List.nil_append, List.cons_append, List.getElem?_cons_zero, List.getElem?_cons_succ, List.set_cons_zero, List.set_cons_succ, List.set_nil, List.replicate_zero, List.replicate_succ, Nat.sub_self, Nat.zero_add, Nat.reduceAdd, Nat.reduceSub, Bop.fn, Cop.fn, Bi.fn, add_ii, add_ll, add_tt, sub_ii, mul_ii, div_ii, mod_ii, lt_ii, le_ii, gt_ii, ge_ii, is_n, is_t, is_i, isnot_n, isnot_t, isnot_i, isi_i, isi_b, isi_n, isi_s, isi_l, isi_t, isi, DW.len_l, DW.len_t, DW.len_c, tuple_l, tuple_t, list_l, list_t, int_i, int_b, neg_i, idx_l, idx_t, idx_c, ofO_some, rev_l, cut_l, cut_t, lof_l, tof_t, sof_l, sof_t, lzipS, zipS, enumS, R.bind_ok, if_true, if_false, ite_true, ite_false, Bool.not_true, Bool.not_false, bind_nm, bind_tp, bind_nil, bind_cons, DW.scal, DW.wipeD, f_is_time, b_is_time, h]
theorem bads : ∀ d ∈ ([.int (-1), .int 10000, .none, .bool true, .str "1"] : List PyData), f_need_time [d] = .exn "NoTime" ∧ f_is_number [d, .int 1, .int 99] = .ok (.bool false) := by
  simp only [List.forall_mem_cons, List.not_mem_nil, false_imp_iff, implies_true, and_true]
  exact ⟨⟨time_no rfl, rfl⟩, ⟨time_no rfl, rfl⟩, ⟨time_no rfl, rfl⟩, ⟨time_no rfl, rfl⟩, ⟨time_no rfl, rfl⟩⟩
theorem eqv_ref (i : Int) : PyData.eqv (refd i) (refd i) = true := by simp [refd, PyData.eqv, PyData.eqvAll]
theorem lay_ref (i : Int) : PyData.canLay0 (refd i) = true := by
  have : PyData.strOk "refused" = true := by decide +kernel
  show PyData.canLayAll0 [.str "refused", .int i] = true
  simp only [PyData.canLayAll0, PyData.canLay0, this, Bool.and_self]
theorem ne_refs (i : Int) : dNe (.list [refd i, refd i, refd i, refd i]) (.list [refd i, refd i, refd i, refd i]) = .ok (.bool false) := by
  unfold dNe
  have sh : SeqAt.shaped (.list [refd i, refd i, refd i, refd i]) = true := by
    unfold SeqAt.shaped
    rw [PyData.canLay0]
    simp only [PyData.canLayAll0, lay_ref, Bool.and_self, Bool.true_and]
    rfl
  rw [if_pos ⟨sh, sh⟩, PyData.eqv]
  simp [PyData.eqvAll, eqv_ref]
theorem eq_refs (i : Int) : dEq (.list [refd i, refd i, refd i, refd i]) (.list [refd i, refd i, refd i, refd i]) = .ok (.bool true) := by
  have sh : SeqAt.shaped (.list [refd i, refd i, refd i, refd i]) = true := by
    unfold SeqAt.shaped
    rw [PyData.canLay0]
    simp only [PyData.canLayAll0, lay_ref, Bool.and_self, Bool.true_and]
    rfl
  show (if SeqAt.shaped (.list [refd i, refd i, refd i, refd i]) = true ∧ SeqAt.shaped (.list [refd i, refd i, refd i, refd i]) = true then R.ok (PyData.bool (PyData.eqv (.list [refd i, refd i, refd i, refd i]) (.list [refd i, refd i, refd i, refd i]))) else .bad) = _
  rw [if_pos ⟨sh, sh⟩, PyData.eqv]
  simp [PyData.eqvAll, eqv_ref]
theorem ne_refs2 (i : Int) : dNe (.list [refd i, refd i]) (.list [refd i, refd i]) = .ok (.bool false) := by
  unfold dNe
  have sh : SeqAt.shaped (.list [refd i, refd i]) = true := by
    unfold SeqAt.shaped
    rw [PyData.canLay0]
    simp only [PyData.canLayAll0, lay_ref, Bool.and_self, Bool.true_and]
    rfl
  rw [if_pos ⟨sh, sh⟩, PyData.eqv]
  simp [PyData.eqvAll, eqv_ref]
theorem mul4 (i : Int) : dMul (.list [refd i]) (.int 4) = .ok (.list [refd i, refd i, refd i, refd i]) := by rw [mulL_ok (by omega) (by omega) (by simp)]; rfl
theorem mul2 (i : Int) : dMul (.list [refd i]) (.int 2) = .ok (.list [refd i, refd i]) := by rw [mulL_ok (by omega) (by omega) (by simp)]; rfl
/-- four ways -/
theorem ways {δ : Sls} {e : Ex} {f : Int → PyData} (h : ∀ w : Int, w = 0 ∨ w = 1 ∨ w = 2 ∨ w = 3 → sem e (δ.set 16 (.sh (.int w))) = .ok (f w)) : compP e (.nm 16) .none δ (.ok (DW.upTo 0 4)) = .ok (.list [f 0, f 1, f 2, f 3]) := by
  have u : DW.upTo 0 4 = ([0, 1, 2, 3] : List Int).map .int := rfl
  rw [compP_ok (by rw [upTo_length]; omega), u, compG_map .int f [0, 1, 2, 3] fun w hw => ⟨_, rfl, h w (by simpa using hw)⟩]; rfl
theorem notin_nms (t : Int) (l : List Int) : dNotIn (.int t) (.list (nms l)) = .ok (.bool (!decide (t ∈ l))) := by
  show (if flat (.int t) = true ∧ PyData.canLayAll0 (nms l) = true then R.ok (PyData.bool (!(nms l).any fun z => PyData.eqv z (.int t))) else .bad) = _
  rw [if_pos ⟨rfl, lay_nms l⟩]
  congr 3
  unfold nms
  rw [List.any_map, Bool.eq_iff_iff, List.any_eq_true, decide_eq_true_eq]
  constructor
  · rintro ⟨x, hx, e⟩
    have e : PyData.eqv (.int x) (.int t) = true := e
    rw [PyData.eqv] at e
    have : x = t := by simpa using e
    rw [← this]; exact hx
  · intro h
    exact ⟨t, h, by show PyData.eqv (.int t) (.int t) = true; rw [PyData.eqv]; simp⟩
theorem rows_loop (ns : List Int) (A : Sl) (F L : Int) (L1 : L ≤ 300) (FL : F ≤ L) (F0 : 0 ≤ F) (l : Sl) : ∀ (ps : List Dd) (acc : List Rw) (D E : Sl), (∀ x ∈ ps, DeedOk x) → acc.length + 301 * ps.length ≤ 10000 →
    ∃ D', forD (.nm 6) (semSs b_law_l1) (ps.map deedD) [.sh (scriptD ns), A, .sh (.int F), .sh (.int L), l, .sh (.list (acc.map rowD)), D, .un, .un, .un, .un, .un, .un, .un, .un, .un, .un, .un] = .ok (.nx [.sh (scriptD ns), A, .sh (.int F), .sh (.int L), l, .sh (.list ((acc ++ rowsOf ps F L).map rowD)), D', .un, .un, .un, .un, .un, .un, .un, .un, .un, .un, .un])
  | [], acc, D, E, _, _ => ⟨D, by
      have : acc ++ rowsOf [] F L = acc := List.append_nil _
      rw [this]; rfl⟩
  | x :: ps, acc, D, E, h, hl => by
    have hx := h x List.mem_cons_self
    rw [List.length_cons] at hl
    have tl : ((times x.2.1 x.2.2 F L).length : Int) ≤ L - F + 1 := rise_len (times_rise hx.e0) (fun t ht => by
      have := (mem_times hx.e0).mp ht
      exact ⟨this.1, this.2.1⟩) (by omega)
    obtain ⟨D', ih⟩ := rows_loop ns A F L L1 FL F0 l ps (acc ++ (times x.2.1 x.2.2 F L).map fun t => (t, x.1)) (.sh (deedD x)) E (fun y hy => h y (List.mem_cons_of_mem _ hy)) (by rw [List.length_append, List.length_map]; omega)
    refine ⟨D', ?_⟩
    have c1 : compP (.tup (.cons (.var 7) (.cons (.idx (.var 6) (.int 0)) (.nil)))) (.nm 7) .none [.sh (scriptD ns), A, .sh (.int F), .sh (.int L), l, .sh (.list (acc.map rowD)), .sh (deedD x), .un, .un, .un, .un, .un, .un, .un, .un, .un, .un, .un] (.ok (nms (times x.2.1 x.2.2 F L))) = .ok (.list (((times x.2.1 x.2.2 F L).map fun t => ((t, x.1) : Rw)).map rowD)) := by
      rw [compP_ok (by rw [nms_len]; omega), List.map_map]
      unfold nms
      rw [compG_map .int (rowD ∘ fun t => ((t, x.1) : Rw)) _ fun t _ => ⟨_, rfl, ?_⟩]
      · rfl
      · have x0 : ∀ a b c : PyData, atI [a, b, c] 0 = some a := fun _ _ _ => rfl
        simp -implicitDefEqProofs only [ss_cons, ss_nil, st_ret, st_retN, st_pass, st_expr, st_ife, st_set, st_setV, st_asg, st_loop, st_ext, st_put, st_ownD, st_while, st_own, st_app, st_appV, st_raise, st_try, tryP_ok, tryP_exn, at_nx, at_rt, at_exn, endP_nx, endP_rt, endP_exn, ev_var, ev_int, ev_str, ev_bl, ev_non, ev_gint, ev_gstr, ev_bin, ev_neg, ev_cmp, ev_chain, ev_and, ev_or, ev_not, ev_ite, ev_tup, ev_lst, ev_call, ev_bi, ev_isi, ev_idx, ev_rev, ev_nil, ev_cons, ev_cut, ev_oN, ev_oS, ev_lzip, ev_dget, ev_lrange, ev_sset, ev_meth, mth_count, mth_index, mth_join, mth_split, ev_iL, ev_iT, ev_iS, ev_r1, ev_r2, ev_r3, ev_zip, ev_enum, ev_cN, ev_cS, ev_comp, two_ok, two_exn, one_ok, one_exn, many_ok, many_exn, consR_ok, consR_exn, andP_t, andP_f, orP_t, orP_f, notP_ok, notP_exn, chP_t, chP_f, chQ_ok, iteP_t, iteP_f, cutP_ok, oP_ok, itP_ok, itP2_ok, itP3_ok, cP_ok, listR_ok, retP_ok, pick_t, pick_f, pick_exn, exP_ok, exP_exn, setP_ok, setP_exn, forP_ok, view, shSl, lk, List.map_cons, List.map_nil, List.length_cons, List.length_nil, List.append_nil, List.nil_append, List.cons_append, List.getElem?_cons_zero, List.getElem?_cons_succ, List.set_cons_zero, List.set_cons_succ, List.set_nil, List.replicate_zero, List.replicate_succ, Nat.sub_self, Nat.zero_add, Nat.reduceAdd, Nat.reduceSub, Bop.fn, Cop.fn, Bi.fn, add_ii, add_ll, add_tt, sub_ii, mul_ii, div_ii, mod_ii, lt_ii, le_ii, gt_ii, ge_ii, is_n, is_t, is_i, isnot_n, isnot_t, isnot_i, isi_i, isi_b, isi_n, isi_s, isi_l, isi_t, isi, DW.len_l, DW.len_t, DW.len_c, tuple_l, tuple_t, list_l, list_t, int_i, int_b, neg_i, idx_l, idx_t, idx_c, ofO_some, rev_l, cut_l, cut_t, lof_l, tof_t, sof_l, sof_t, lzipS, zipS, enumS, R.bind_ok, if_true, if_false, ite_true, ite_false, Bool.not_true, Bool.not_false, bind_nm, bind_tp, bind_nil, bind_cons, DW.scal, DW.wipeD, deedD, x0]
        rw [mkT_ok (by simp)]; rfl
    have ml : mkL (acc.map rowD ++ ((times x.2.1 x.2.2 F L).map fun t => ((t, x.1) : Rw)).map rowD) = .ok (.list ((acc ++ (times x.2.1 x.2.2 F L).map fun t => (t, x.1)).map rowD)) := by
      rw [← List.map_append]
      exact mkL_ok (by rw [List.length_map, List.length_append, List.length_map]; omega)
    rw [List.map_cons, for_cons (δ1 := [.sh (scriptD ns), A, .sh (.int F), .sh (.int L), l, .sh (.list (acc.map rowD)), .sh (deedD x), .un, .un, .un, .un, .un, .un, .un, .un, .un, .un, .un]) rfl]
    have eb : semSs b_law_l1 [.sh (scriptD ns), A, .sh (.int F), .sh (.int L), l, .sh (.list (acc.map rowD)), .sh (deedD x), .un, .un, .un, .un, .un, .un, .un, .un, .un, .un, .un] = .ok (.nx [.sh (scriptD ns), A, .sh (.int F), .sh (.int L), l, .sh (.list ((acc ++ (times x.2.1 x.2.2 F L).map fun t => (t, x.1)).map rowD)), .sh (deedD x), .un, .un, .un, .un, .un, .un, .un, .un, .un, .un, .un]) := by
      simp -implicitDefEqProofs only [b_law_l1, e_law_c1, ss_cons, ss_nil, st_ret, st_retN, st_pass, st_expr, st_ife, st_set, st_setV, st_asg, st_loop, st_ext, st_put, st_ownD, st_while, st_own, st_app, st_appV, st_raise, st_try, tryP_ok, tryP_exn, at_nx, at_rt, at_exn, endP_nx, endP_rt, endP_exn, ev_var, ev_int, ev_str, ev_bl, ev_non, ev_gint, ev_gstr, ev_bin, ev_neg, ev_cmp, ev_chain, ev_and, ev_or, ev_not, ev_ite, ev_tup, ev_lst, ev_call, ev_bi, ev_isi, ev_idx, ev_rev, ev_nil, ev_cons, ev_cut, ev_oN, ev_oS, ev_lzip, ev_dget, ev_lrange, ev_sset, ev_meth, mth_count, mth_index, mth_join, mth_split, ev_iL, ev_iT, ev_iS, ev_r1, ev_r2, ev_r3, ev_zip, ev_enum, ev_cN, ev_cS, ev_comp, two_ok, two_exn, one_ok, one_exn, many_ok, many_exn, consR_ok, consR_exn, andP_t, andP_f, orP_t, orP_f, notP_ok, notP_exn, chP_t, chP_f, chQ_ok, iteP_t, iteP_f, cutP_ok, oP_ok, itP_ok, itP2_ok, itP3_ok, cP_ok, listR_ok, retP_ok, pick_t, pick_f, pick_exn, exP_ok, exP_exn, setP_ok, setP_exn, forP_ok, view, shSl, lk, List.map_cons, List.map_nil, List.length_cons, List.length_nil, List.append_nil, List.nil_append, List.cons_append, List.getElem?_cons_zero, List.getElem?_cons_succ, List.set_cons_zero, List.set_cons_succ, List.set_nil, List.replicate_zero, List.replicate_succ, Nat.sub_self, Nat.zero_add, Nat.reduceAdd, Nat.reduceSub, Bop.fn, Cop.fn, Bi.fn, add_ii, add_ll, add_tt, sub_ii, mul_ii, div_ii, mod_ii, lt_ii, le_ii, gt_ii, ge_ii, is_n, is_t, is_i, isnot_n, isnot_t, isnot_i, isi_i, isi_b, isi_n, isi_s, isi_l, isi_t, isi, DW.len_l, DW.len_t, DW.len_c, tuple_l, tuple_t, list_l, list_t, int_i, int_b, neg_i, idx_l, idx_t, idx_c, ofO_some, rev_l, cut_l, cut_t, lof_l, tof_t, sof_l, sof_t, lzipS, zipS, enumS, R.bind_ok, if_true, if_false, ite_true, ite_false, Bool.not_true, Bool.not_false, bind_nm, bind_tp, bind_nil, bind_cons, DW.scal, DW.wipeD, law_times_ok hx L1, c1, ml]
    rw [eb, at_nx, ih, List.append_assoc]; rfl
theorem told_way {p f l g a b c d : PyData} (h0 : f_served [p, f, l, g] = .ok a) (h1 : f_longest_wait [p, f, l, g] = .ok b) (h2 : f_free_again [p, f, l, g] = .ok c) (h3 : f_idle [p, f, l, g] = .ok d) (w : Int) (hw : w = 0 ∨ w = 1 ∨ w = 2 ∨ w = 3) :
    f_law_told [.int w, p, f, l, g] = .ok (if w = 0 then a else if w = 1 then b else if w = 2 then c else d) := by
  rcases hw with rfl | rfl | rfl | rfl
  · simp -implicitDefEqProofs only [f_law_told, run_eq, b_law_told, ss_cons, ss_nil, st_ret, st_retN, st_pass, st_expr, st_ife, st_set, st_setV, st_asg, st_loop, st_ext, st_put, st_ownD, st_while, st_own, st_app, st_appV, st_raise, st_try, tryP_ok, tryP_exn, at_nx, at_rt, at_exn, endP_nx, endP_rt, endP_exn, ev_var, ev_int, ev_str, ev_bl, ev_non, ev_gint, ev_gstr, ev_bin, ev_neg, ev_cmp, ev_chain, ev_and, ev_or, ev_not, ev_ite, ev_tup, ev_lst, ev_call, ev_bi, ev_isi, ev_idx, ev_rev, ev_nil, ev_cons, ev_cut, ev_oN, ev_oS, ev_lzip, ev_dget, ev_lrange, ev_sset, ev_meth, mth_count, mth_index, mth_join, mth_split, ev_iL, ev_iT, ev_iS, ev_r1, ev_r2, ev_r3, ev_zip, ev_enum, ev_cN, ev_cS, ev_comp, two_ok, two_exn, one_ok, one_exn, many_ok, many_exn, consR_ok, consR_exn, andP_t, andP_f, orP_t, orP_f, notP_ok, notP_exn, chP_t, chP_f, chQ_ok, iteP_t, iteP_f, cutP_ok, oP_ok, itP_ok, itP2_ok, itP3_ok, cP_ok, listR_ok, retP_ok, pick_t, pick_f, pick_exn, exP_ok, exP_exn, setP_ok, setP_exn, forP_ok, view, shSl, lk, List.map_cons, List.map_nil, List.length_cons, List.length_nil, List.append_nil, List.nil_append, List.cons_append, List.getElem?_cons_zero, List.getElem?_cons_succ, List.set_cons_zero, List.set_cons_succ, List.set_nil, List.replicate_zero, List.replicate_succ, Nat.sub_self, Nat.zero_add, Nat.reduceAdd, Nat.reduceSub, Bop.fn, Cop.fn, Bi.fn, add_ii, add_ll, add_tt, sub_ii, mul_ii, div_ii, mod_ii, lt_ii, le_ii, gt_ii, ge_ii, is_n, is_t, is_i, isnot_n, isnot_t, isnot_i, isi_i, isi_b, isi_n, isi_s, isi_l, isi_t, isi, DW.len_l, DW.len_t, DW.len_c, tuple_l, tuple_t, list_l, list_t, int_i, int_b, neg_i, idx_l, idx_t, idx_c, ofO_some, rev_l, cut_l, cut_t, lof_l, tof_t, sof_l, sof_t, lzipS, zipS, enumS, R.bind_ok, if_true, if_false, ite_true, ite_false, Bool.not_true, Bool.not_false, bind_nm, bind_tp, bind_nil, bind_cons, DW.scal, DW.wipeD, eq_int, show decide ((0 : Int) < 2) = true by decide, decide_true, h0]
  · simp -implicitDefEqProofs only [f_law_told, run_eq, b_law_told, ss_cons, ss_nil, st_ret, st_retN, st_pass, st_expr, st_ife, st_set, st_setV, st_asg, st_loop, st_ext, st_put, st_ownD, st_while, st_own, st_app, st_appV, st_raise, st_try, tryP_ok, tryP_exn, at_nx, at_rt, at_exn, endP_nx, endP_rt, endP_exn, ev_var, ev_int, ev_str, ev_bl, ev_non, ev_gint, ev_gstr, ev_bin, ev_neg, ev_cmp, ev_chain, ev_and, ev_or, ev_not, ev_ite, ev_tup, ev_lst, ev_call, ev_bi, ev_isi, ev_idx, ev_rev, ev_nil, ev_cons, ev_cut, ev_oN, ev_oS, ev_lzip, ev_dget, ev_lrange, ev_sset, ev_meth, mth_count, mth_index, mth_join, mth_split, ev_iL, ev_iT, ev_iS, ev_r1, ev_r2, ev_r3, ev_zip, ev_enum, ev_cN, ev_cS, ev_comp, two_ok, two_exn, one_ok, one_exn, many_ok, many_exn, consR_ok, consR_exn, andP_t, andP_f, orP_t, orP_f, notP_ok, notP_exn, chP_t, chP_f, chQ_ok, iteP_t, iteP_f, cutP_ok, oP_ok, itP_ok, itP2_ok, itP3_ok, cP_ok, listR_ok, retP_ok, pick_t, pick_f, pick_exn, exP_ok, exP_exn, setP_ok, setP_exn, forP_ok, view, shSl, lk, List.map_cons, List.map_nil, List.length_cons, List.length_nil, List.append_nil, List.nil_append, List.cons_append, List.getElem?_cons_zero, List.getElem?_cons_succ, List.set_cons_zero, List.set_cons_succ, List.set_nil, List.replicate_zero, List.replicate_succ, Nat.sub_self, Nat.zero_add, Nat.reduceAdd, Nat.reduceSub, Bop.fn, Cop.fn, Bi.fn, add_ii, add_ll, add_tt, sub_ii, mul_ii, div_ii, mod_ii, lt_ii, le_ii, gt_ii, ge_ii, is_n, is_t, is_i, isnot_n, isnot_t, isnot_i, isi_i, isi_b, isi_n, isi_s, isi_l, isi_t, isi, DW.len_l, DW.len_t, DW.len_c, tuple_l, tuple_t, list_l, list_t, int_i, int_b, neg_i, idx_l, idx_t, idx_c, ofO_some, rev_l, cut_l, cut_t, lof_l, tof_t, sof_l, sof_t, lzipS, zipS, enumS, R.bind_ok, if_true, if_false, ite_true, ite_false, Bool.not_true, Bool.not_false, bind_nm, bind_tp, bind_nil, bind_cons, DW.scal, DW.wipeD, eq_int, show decide ((1 : Int) < 2) = true by decide, show decide ((1 : Int) = 0) = false by decide, h1]; rfl
  · simp -implicitDefEqProofs only [f_law_told, run_eq, b_law_told, ss_cons, ss_nil, st_ret, st_retN, st_pass, st_expr, st_ife, st_set, st_setV, st_asg, st_loop, st_ext, st_put, st_ownD, st_while, st_own, st_app, st_appV, st_raise, st_try, tryP_ok, tryP_exn, at_nx, at_rt, at_exn, endP_nx, endP_rt, endP_exn, ev_var, ev_int, ev_str, ev_bl, ev_non, ev_gint, ev_gstr, ev_bin, ev_neg, ev_cmp, ev_chain, ev_and, ev_or, ev_not, ev_ite, ev_tup, ev_lst, ev_call, ev_bi, ev_isi, ev_idx, ev_rev, ev_nil, ev_cons, ev_cut, ev_oN, ev_oS, ev_lzip, ev_dget, ev_lrange, ev_sset, ev_meth, mth_count, mth_index, mth_join, mth_split, ev_iL, ev_iT, ev_iS, ev_r1, ev_r2, ev_r3, ev_zip, ev_enum, ev_cN, ev_cS, ev_comp, two_ok, two_exn, one_ok, one_exn, many_ok, many_exn, consR_ok, consR_exn, andP_t, andP_f, orP_t, orP_f, notP_ok, notP_exn, chP_t, chP_f, chQ_ok, iteP_t, iteP_f, cutP_ok, oP_ok, itP_ok, itP2_ok, itP3_ok, cP_ok, listR_ok, retP_ok, pick_t, pick_f, pick_exn, exP_ok, exP_exn, setP_ok, setP_exn, forP_ok, view, shSl, lk, List.map_cons, List.map_nil, List.length_cons, List.length_nil, List.append_nil, List.nil_append, List.cons_append, List.getElem?_cons_zero, List.getElem?_cons_succ, List.set_cons_zero, List.set_cons_succ, List.set_nil, List.replicate_zero, List.replicate_succ, Nat.sub_self, Nat.zero_add, Nat.reduceAdd, Nat.reduceSub, Bop.fn, Cop.fn, Bi.fn, add_ii, add_ll, add_tt, sub_ii, mul_ii, div_ii, mod_ii, lt_ii, le_ii, gt_ii, ge_ii, is_n, is_t, is_i, isnot_n, isnot_t, isnot_i, isi_i, isi_b, isi_n, isi_s, isi_l, isi_t, isi, DW.len_l, DW.len_t, DW.len_c, tuple_l, tuple_t, list_l, list_t, int_i, int_b, neg_i, idx_l, idx_t, idx_c, ofO_some, rev_l, cut_l, cut_t, lof_l, tof_t, sof_l, sof_t, lzipS, zipS, enumS, R.bind_ok, if_true, if_false, ite_true, ite_false, Bool.not_true, Bool.not_false, bind_nm, bind_tp, bind_nil, bind_cons, DW.scal, DW.wipeD, eq_int, show decide ((2 : Int) < 2) = false by decide, decide_true, h2]; rfl
  · simp -implicitDefEqProofs only [f_law_told, run_eq, b_law_told, ss_cons, ss_nil, st_ret, st_retN, st_pass, st_expr, st_ife, st_set, st_setV, st_asg, st_loop, st_ext, st_put, st_ownD, st_while, st_own, st_app, st_appV, st_raise, st_try, tryP_ok, tryP_exn, at_nx, at_rt, at_exn, endP_nx, endP_rt, endP_exn, ev_var, ev_int, ev_str, ev_bl, ev_non, ev_gint, ev_gstr, ev_bin, ev_neg, ev_cmp, ev_chain, ev_and, ev_or, ev_not, ev_ite, ev_tup, ev_lst, ev_call, ev_bi, ev_isi, ev_idx, ev_rev, ev_nil, ev_cons, ev_cut, ev_oN, ev_oS, ev_lzip, ev_dget, ev_lrange, ev_sset, ev_meth, mth_count, mth_index, mth_join, mth_split, ev_iL, ev_iT, ev_iS, ev_r1, ev_r2, ev_r3, ev_zip, ev_enum, ev_cN, ev_cS, ev_comp, two_ok, two_exn, one_ok, one_exn, many_ok, many_exn, consR_ok, consR_exn, andP_t, andP_f, orP_t, orP_f, notP_ok, notP_exn, chP_t, chP_f, chQ_ok, iteP_t, iteP_f, cutP_ok, oP_ok, itP_ok, itP2_ok, itP3_ok, cP_ok, listR_ok, retP_ok, pick_t, pick_f, pick_exn, exP_ok, exP_exn, setP_ok, setP_exn, forP_ok, view, shSl, lk, List.map_cons, List.map_nil, List.length_cons, List.length_nil, List.append_nil, List.nil_append, List.cons_append, List.getElem?_cons_zero, List.getElem?_cons_succ, List.set_cons_zero, List.set_cons_succ, List.set_nil, List.replicate_zero, List.replicate_succ, Nat.sub_self, Nat.zero_add, Nat.reduceAdd, Nat.reduceSub, Bop.fn, Cop.fn, Bi.fn, add_ii, add_ll, add_tt, sub_ii, mul_ii, div_ii, mod_ii, lt_ii, le_ii, gt_ii, ge_ii, is_n, is_t, is_i, isnot_n, isnot_t, isnot_i, isi_i, isi_b, isi_n, isi_s, isi_l, isi_t, isi, DW.len_l, DW.len_t, DW.len_c, tuple_l, tuple_t, list_l, list_t, int_i, int_b, neg_i, idx_l, idx_t, idx_c, ofO_some, rev_l, cut_l, cut_t, lof_l, tof_t, sof_l, sof_t, lzipS, zipS, enumS, R.bind_ok, if_true, if_false, ite_true, ite_false, Bool.not_true, Bool.not_false, bind_nm, bind_tp, bind_nil, bind_cons, DW.scal, DW.wipeD, eq_int, show decide ((3 : Int) < 2) = false by decide, show decide ((3 : Int) = 2) = false by decide, h3]; rfl
theorem lay_mxD (W : List Int) : PyData.canLay0 (mxD W) = true ∧ PyData.depth (mxD W) = 0 ∧ PyData.eqv (mxD W) (mxD W) = true := by
  cases W with
  | nil => exact ⟨rfl, rfl, rfl⟩
  | cons b l => exact ⟨rfl, rfl, by rw [mxD, PyData.eqv]; simp⟩
theorem ne_four {svs : List Sv} (h : ∀ v ∈ svs, NameOk v.2.2) (W : List Int) (a b : Int) : dNe (.list [.list (svs.map svD), mxD W, .int a, .int b]) (.list [.list (svs.map svD), mxD W, .int a, .int b]) = .ok (.bool false) := by
  obtain ⟨w1, w2, w3⟩ := lay_mxD W
  have := dep_svs svs
  have sh : SeqAt.shaped (.list [.list (svs.map svD), mxD W, .int a, .int b]) = true := by
    unfold SeqAt.shaped
    rw [PyData.canLay0]
    have l1 : PyData.canLay0 (.list (svs.map svD)) = true := by rw [PyData.canLay0]; exact lay_svs h
    have l2 : PyData.depth (.list [.list (svs.map svD), mxD W, .int a, .int b]) ≤ 64 := by
      rw [PyData.depth]
      simp only [PyData.depthAll, PyData.depth, w2]
      omega
    simp only [PyData.canLayAll0, l1, w1, PyData.canLay0, lay_svs h, Bool.and_self, Bool.true_and]
    exact decide_eq_true l2
  unfold dNe
  rw [if_pos ⟨sh, sh⟩, PyData.eqv]
  have e1 : PyData.eqv (.list (svs.map svD)) (.list (svs.map svD)) = true := by rw [PyData.eqv]; exact eqv_svs svs
  have e2 : ∀ i : Int, PyData.eqv (.int i) (.int i) = true := fun i => by rw [PyData.eqv]; simp
  simp only [PyData.eqvAll, e1, w3, e2, Bool.and_self, Bool.not_true]
theorem law_true : ∀ ns : List Int, ns.length ≤ 63 → f_law [scriptD ns] = .ok (.bool true) := fun ns hn => by
  obtain ⟨ps, hplan, P⟩ := law_plan_ok hn 0 6 0 40 (by omega) (by omega) (by omega) (by omega)
  have hplan : f_law_plan [scriptD ns, .int 0, .int 6, .int 0, .int 40] = .ok (planD ps) := hplan
  obtain ⟨d1, F0, F1⟩ := drawV_ok hn 60 30 (by omega)
  generalize drawV ns 60 30 = F at *
  obtain ⟨d2, v0, v1⟩ := drawV_ok hn 61 30 (by omega)
  generalize drawV ns 61 30 = v at *
  generalize hL : F + v = L at *
  obtain ⟨d3, w0, w1⟩ := drawV_ok hn 62 6 (by omega)
  generalize drawV ns 62 6 = w at *
  generalize hl' : 1 + w = l at *
  have o : Ok ps F L := ⟨fun y hy => (P.good y hy).ok, by have := P.len; omega, P.rise, F0, by omega, by omega, by omega⟩
  have tl := told_len o.h o.l o.FL o.h60
  have S1 := served_ok o (show 1 ≤ l by omega) (show l ≤ 99 by omega)
  have I1 := idle_ok o (show 1 ≤ l by omega) (show l ≤ 99 by omega)
  have Fr := free_ok o (show 1 ≤ l by omega) (show l ≤ 99 by omega)
  have Wt := wait_ok o (show 1 ≤ l by omega) (show l ≤ 99 by omega)
  have nmT := nm_told (F := F) (L := L) o.h
  have hts : ∀ r ∈ toldOf ps F L, NameOk r.2 ∧ r.1 ≤ L := fun r hr => by
    obtain ⟨_, _, _, _, b, _⟩ := (mem_told o.h).mp hr
    exact ⟨nmT r hr, b⟩
  have to : DW.tupOf (planD ps) = .ok (ps.map deedD) := rfl
  obtain ⟨D', rl⟩ := rows_loop ns (.sh (planD ps)) F L (by omega) o.FL F0 (.sh (.int l)) ps [] .un .un o.h (by have := P.len; simp; omega)
  rw [List.nil_append, List.map_nil] at rl
  have so : dSorted2 [.list ((rowsOf ps F L).map rowD)] = .ok (.list ((toldOf ps F L).map rowD)) := sorted_rows (nm_rows o.h)
  obtain ⟨t', sl⟩ := sim_loop ns (.sh (planD ps)) (.sh (.int F)) (.sh (.int L)) D' l L (by omega) (by omega) 2000 (toldOf ps F L) F [] [] hts (by omega) F0 (by omega) (by omega) (by simp; omega) (by simp; omega)
  rw [List.nil_append, List.nil_append, List.map_nil, nms_nil] at sl
  have ic := idle_count (N := L + 1) (show 1 ≤ l by omega) (toldOf ps F L) F
  have nmv := nm_srv (l := l) (a := F) nmT
  have bl := bsy_len (l := l) (toldOf ps F L) F
  have wys := told_way S1 Wt Fr I1
  have bne : ∀ r T, toldOf ps F L = r :: T → ∃ pre, bsy l F (toldOf ps F L) = pre ++ [DW.freeOf l F (toldOf ps F L) - 1] := fun r T e => by rw [e]; exact bsy_last (by omega) T r F
  have n4 := ne_four nmv (waits l F (toldOf ps F L)) (DW.freeOf l F (toldOf ps F L)) (idl (L + 1) l F (toldOf ps F L))
  have svl := srv_len l (toldOf ps F L) F
  have nev := ne_sv_nil nmv
  have fre : toldOf ps F L = [] → DW.freeOf l F (toldOf ps F L) = F := fun e => by rw [e]; rfl
  generalize hT : toldOf ps F L = T at *
  have e2 : ∀ δ' : Sls, (∃ A B C D E G H : Sl, δ' = [.sh (scriptD ns), .sh (planD ps), .sh (.int F), .sh (.int L), .sh (.int l), A, B, C, D, .sh (.list (nms (bsy l F T))), .un, .un, .un, .un, .un, .un, .un, .un]) → compP (.var 11) (.nm 11) (.some (.cmp .notin (.var 11) (.var 9))) δ' (.ok (DW.upTo F (L + 1 - F).toNat)) = .ok (.list (nms ((up F (L + 1 - F)).filter fun m => !decide (m ∈ bsy l F T)))) := fun δ' hδ => by
    obtain ⟨A, B, C, D, E, G, H, rfl⟩ := hδ
    have e : DW.upTo F (L + 1 - F).toNat = (up F (L + 1 - F)).map .int := by
      unfold DW.upTo up
      rw [List.map_map]; rfl
    rw [compP_ok (by rw [upTo_length]; omega), e, compG_filter .int (fun m => !decide (m ∈ bsy l F T)) .int _ fun m _ => ⟨_, rfl, by simp -implicitDefEqProofs only [ss_cons, ss_nil, st_ret, st_retN, st_pass, st_expr, st_ife, st_set, st_setV, st_asg, st_loop, st_ext, st_put, st_ownD, st_while, st_own, st_app, st_appV, st_raise, st_try, tryP_ok, tryP_exn, at_nx, at_rt, at_exn, endP_nx, endP_rt, endP_exn, ev_var, ev_int, ev_str, ev_bl, ev_non, ev_gint, ev_gstr, ev_bin, ev_neg, ev_cmp, ev_chain, ev_and, ev_or, ev_not, ev_ite, ev_tup, ev_lst, ev_call, ev_bi, ev_isi, ev_idx, ev_rev, ev_nil, ev_cons, ev_cut, ev_oN, ev_oS, ev_lzip, ev_dget, ev_lrange, ev_sset, ev_meth, mth_count, mth_index, mth_join, mth_split, ev_iL, ev_iT, ev_iS, ev_r1, ev_r2, ev_r3, ev_zip, ev_enum, ev_cN, ev_cS, ev_comp, two_ok, two_exn, one_ok, one_exn, many_ok, many_exn, consR_ok, consR_exn, andP_t, andP_f, orP_t, orP_f, notP_ok, notP_exn, chP_t, chP_f, chQ_ok, iteP_t, iteP_f, cutP_ok, oP_ok, itP_ok, itP2_ok, itP3_ok, cP_ok, listR_ok, retP_ok, pick_t, pick_f, pick_exn, exP_ok, exP_exn, setP_ok, setP_exn, forP_ok, view, shSl, lk, List.map_cons, List.map_nil, List.length_cons, List.length_nil, List.append_nil, List.nil_append, List.cons_append, List.getElem?_cons_zero, List.getElem?_cons_succ, List.set_cons_zero, List.set_cons_succ, List.set_nil, List.replicate_zero, List.replicate_succ, Nat.sub_self, Nat.zero_add, Nat.reduceAdd, Nat.reduceSub, Bop.fn, Cop.fn, Bi.fn, add_ii, add_ll, add_tt, sub_ii, mul_ii, div_ii, mod_ii, lt_ii, le_ii, gt_ii, ge_ii, is_n, is_t, is_i, isnot_n, isnot_t, isnot_i, isi_i, isi_b, isi_n, isi_s, isi_l, isi_t, isi, DW.len_l, DW.len_t, DW.len_c, tuple_l, tuple_t, list_l, list_t, int_i, int_b, neg_i, idx_l, idx_t, idx_c, ofO_some, rev_l, cut_l, cut_t, lof_l, tof_t, sof_l, sof_t, lzipS, zipS, enumS, R.bind_ok, if_true, if_false, ite_true, ite_false, Bool.not_true, Bool.not_false, bind_nm, bind_tp, bind_nil, bind_cons, DW.scal, DW.wipeD, notin_nms], fun _ => rfl⟩]; rfl
  have rgn : range2 (.int F) (.int (L + 1)) = .ok (DW.upTo F (L + 1 - F).toNat) := by
    show (if small62 F = true ∧ small62 (L + 1) = true then R.ok (DW.upTo F (L + 1 - F).toNat) else .bad) = _
    rw [if_pos ⟨small_of (by omega) (by omega), small_of (by omega) (by omega)⟩]
  have r4 : range1 (.int 4) = .ok (DW.upTo 0 4) := range1_ok (by omega) (by omega)
  have mle : mkL ([] : List PyData) = .ok (.list []) := mkL_ok (by simp)
  generalize hR : ((up F (L + 1 - F)).filter fun m => !decide (m ∈ bsy l F T)) = Rst at *
  have lnR : dLen [.list (nms Rst)] = .ok (.int (idl (L + 1) l F T)) := by rw [dLen, nms_len, ic]
  generalize hSV : (srv l F T).map svD = SV at *
  generalize hBB : nms (bsy l F T) = BB at *
  have c3 : ∀ A B : Sl, compP (.bin .sub (.var 13) (.var 11)) (.tp (.cons (.nm 13) (.cons (.nm 11) (.cons (.nm 14) (.nil))))) .none [.sh (scriptD ns), .sh (planD ps), .sh (.int F), .sh (.int L), .sh (.int l), .sh (.list []), A, B, .sh (.list SV), .sh (.list BB), .sh (.list (nms Rst)), .un, .un, .un, .un, .un, .un, .un] (.ok SV) = .ok (.list (nms (waits l F T))) := fun A B => by
    rw [← hSV, compP_ok (by rw [List.length_map, svl]; omega), compG_map svD (PyData.int ∘ fun v : Sv => v.1 - v.2.1) _ fun v _ => ⟨_, rfl, rfl⟩, waits, nms, List.map_map]; rfl
  have most : ∀ A B : Sl, iteP (.ok (.bool (!decide (srv l F T = [])))) (.bi .max1 (.cons (.comp (.bin .sub (.var 13) (.var 11)) (.tp (.cons (.nm 13) (.cons (.nm 11) (.cons (.nm 14) (.nil))))) (.list (.var 8)) .none [("start", 13), ("moment", 11), ("name", 14)]) (.nil))) .non [.sh (scriptD ns), .sh (planD ps), .sh (.int F), .sh (.int L), .sh (.int l), .sh (.list []), A, B, .sh (.list SV), .sh (.list BB), .sh (.list (nms Rst)), .un, .un, .un, .un, .un, .un, .un] = .ok (mxD (waits l F T)) := fun A B => by
    cases T with
    | nil => rfl
    | cons r T0 =>
      have e : decide (srv l F (r :: T0) = []) = false := by rw [srv]; simp
      have ew : waits l F (r :: T0) = (mx F r.1 - r.1) :: (srv l (mx F r.1 + l) T0).map fun v => v.1 - v.2.1 := rfl
      have m1 := max1_ints (mx F r.1 - r.1) ((srv l (mx F r.1 + l) T0).map fun v => v.1 - v.2.1)
      rw [e]
      have c := c3 A B
      rw [ew] at c ⊢
      generalize nms ((mx F r.1 - r.1) :: (srv l (mx F r.1 + l) T0).map fun v => v.1 - v.2.1) = WW at *
      simp -implicitDefEqProofs only [ss_cons, ss_nil, st_ret, st_retN, st_pass, st_expr, st_ife, st_set, st_setV, st_asg, st_loop, st_ext, st_put, st_ownD, st_while, st_own, st_app, st_appV, st_raise, st_try, tryP_ok, tryP_exn, at_nx, at_rt, at_exn, endP_nx, endP_rt, endP_exn, ev_var, ev_int, ev_str, ev_bl, ev_non, ev_gint, ev_gstr, ev_bin, ev_neg, ev_cmp, ev_chain, ev_and, ev_or, ev_not, ev_ite, ev_tup, ev_lst, ev_call, ev_bi, ev_isi, ev_idx, ev_rev, ev_nil, ev_cons, ev_cut, ev_oN, ev_oS, ev_lzip, ev_dget, ev_lrange, ev_sset, ev_meth, mth_count, mth_index, mth_join, mth_split, ev_iL, ev_iT, ev_iS, ev_r1, ev_r2, ev_r3, ev_zip, ev_enum, ev_cN, ev_cS, ev_comp, two_ok, two_exn, one_ok, one_exn, many_ok, many_exn, consR_ok, consR_exn, andP_t, andP_f, orP_t, orP_f, notP_ok, notP_exn, chP_t, chP_f, chQ_ok, iteP_t, iteP_f, cutP_ok, oP_ok, itP_ok, itP2_ok, itP3_ok, cP_ok, listR_ok, retP_ok, pick_t, pick_f, pick_exn, exP_ok, exP_exn, setP_ok, setP_exn, forP_ok, view, shSl, lk, List.map_cons, List.map_nil, List.length_cons, List.length_nil, List.append_nil, List.nil_append, List.cons_append, List.getElem?_cons_zero, List.getElem?_cons_succ, List.set_cons_zero, List.set_cons_succ, List.set_nil, List.replicate_zero, List.replicate_succ, Nat.sub_self, Nat.zero_add, Nat.reduceAdd, Nat.reduceSub, Bop.fn, Cop.fn, Bi.fn, add_ii, add_ll, add_tt, sub_ii, mul_ii, div_ii, mod_ii, lt_ii, le_ii, gt_ii, ge_ii, is_n, is_t, is_i, isnot_n, isnot_t, isnot_i, isi_i, isi_b, isi_n, isi_s, isi_l, isi_t, isi, DW.len_l, DW.len_t, DW.len_c, tuple_l, tuple_t, list_l, list_t, int_i, int_b, neg_i, idx_l, idx_t, idx_c, ofO_some, rev_l, cut_l, cut_t, lof_l, tof_t, sof_l, sof_t, lzipS, zipS, enumS, R.bind_ok, if_true, if_false, ite_true, ite_false, Bool.not_true, Bool.not_false, bind_nm, bind_tp, bind_nil, bind_cons, DW.scal, DW.wipeD, c, m1, mxD]
  have done : ∀ A B : Sl, iteP (.ok (.bool (!decide (bsy l F T = [])))) (.bin .add (.idx (.var 9) (.neg (.int 1))) (.int 1)) (.var 2) [.sh (scriptD ns), .sh (planD ps), .sh (.int F), .sh (.int L), .sh (.int l), .sh (.list []), A, B, .sh (.list SV), .sh (.list BB), .sh (.list (nms Rst)), .un, .sh (mxD (waits l F T)), .un, .un, .un, .un, .un] = .ok (.int (DW.freeOf l F T)) := fun A B => by
    cases hTT : T with
    | nil =>
      have e : decide (bsy l F ([] : List Rw) = []) = true := decide_eq_true rfl
      rw [e]; rfl
    | cons r T0 =>
      obtain ⟨pre, hp⟩ := bne r T0 hTT
      rw [hTT] at hp hBB
      rw [hp] at hBB
      have e : decide (bsy l F (r :: T0) = []) = false := decide_eq_false (by rw [hp]; simp)
      rw [e]
      have la : atI BB (-1) = some (.int (DW.freeOf l F (r :: T0) - 1)) := by
        rw [← hBB, ← nms_append]; exact DW.atI_last _ _
      simp -implicitDefEqProofs only [ss_cons, ss_nil, st_ret, st_retN, st_pass, st_expr, st_ife, st_set, st_setV, st_asg, st_loop, st_ext, st_put, st_ownD, st_while, st_own, st_app, st_appV, st_raise, st_try, tryP_ok, tryP_exn, at_nx, at_rt, at_exn, endP_nx, endP_rt, endP_exn, ev_var, ev_int, ev_str, ev_bl, ev_non, ev_gint, ev_gstr, ev_bin, ev_neg, ev_cmp, ev_chain, ev_and, ev_or, ev_not, ev_ite, ev_tup, ev_lst, ev_call, ev_bi, ev_isi, ev_idx, ev_rev, ev_nil, ev_cons, ev_cut, ev_oN, ev_oS, ev_lzip, ev_dget, ev_lrange, ev_sset, ev_meth, mth_count, mth_index, mth_join, mth_split, ev_iL, ev_iT, ev_iS, ev_r1, ev_r2, ev_r3, ev_zip, ev_enum, ev_cN, ev_cS, ev_comp, two_ok, two_exn, one_ok, one_exn, many_ok, many_exn, consR_ok, consR_exn, andP_t, andP_f, orP_t, orP_f, notP_ok, notP_exn, chP_t, chP_f, chQ_ok, iteP_t, iteP_f, cutP_ok, oP_ok, itP_ok, itP2_ok, itP3_ok, cP_ok, listR_ok, retP_ok, pick_t, pick_f, pick_exn, exP_ok, exP_exn, setP_ok, setP_exn, forP_ok, view, shSl, lk, List.map_cons, List.map_nil, List.length_cons, List.length_nil, List.append_nil, List.nil_append, List.cons_append, List.getElem?_cons_zero, List.getElem?_cons_succ, List.set_cons_zero, List.set_cons_succ, List.set_nil, List.replicate_zero, List.replicate_succ, Nat.sub_self, Nat.zero_add, Nat.reduceAdd, Nat.reduceSub, Bop.fn, Cop.fn, Bi.fn, add_ii, add_ll, add_tt, sub_ii, mul_ii, div_ii, mod_ii, lt_ii, le_ii, gt_ii, ge_ii, is_n, is_t, is_i, isnot_n, isnot_t, isnot_i, isi_i, isi_b, isi_n, isi_s, isi_l, isi_t, isi, DW.len_l, DW.len_t, DW.len_c, tuple_l, tuple_t, list_l, list_t, int_i, int_b, neg_i, idx_l, idx_t, idx_c, ofO_some, rev_l, cut_l, cut_t, lof_l, tof_t, sof_l, sof_t, lzipS, zipS, enumS, R.bind_ok, if_true, if_false, ite_true, ite_false, Bool.not_true, Bool.not_false, bind_nm, bind_tp, bind_nil, bind_cons, DW.scal, DW.wipeD, Int.reduceNeg, la]
      rw [show DW.freeOf l F (r :: T0) - 1 + 1 = DW.freeOf l F (r :: T0) by omega]
  have neb : dNe (.list BB) (.list []) = .ok (.bool (!decide (bsy l F T = []))) := by
    have := ne_nms (bsy l F T) []
    rw [nms_nil, hBB] at this
    exact this
  generalize hMW : mxD (waits l F T) = MW at *
  generalize hFR : DW.freeOf l F T = FR at *
  generalize hID : idl (L + 1) l F T = ID at *
  have c4 : ∀ A B C D : Sl, compP (.call "_law_told" 5 f_law_told (.cons (.var 16) (.cons (.var 1) (.cons (.var 2) (.cons (.var 3) (.cons (.var 4) (.nil))))))) (.nm 16) .none [.sh (scriptD ns), .sh (planD ps), .sh (.int F), .sh (.int L), .sh (.int l), .sh (.list []), A, B, .sh (.list SV), .sh (.list BB), .sh (.list (nms Rst)), .un, .sh MW, .un, .un, .sh (.int FR), .un, .un] (.ok (DW.upTo 0 4)) = .ok (.list [.list SV, MW, .int FR, .int ID]) := fun A B C D => by
    rw [ways (f := fun w => if w = 0 then .list SV else if w = 1 then MW else if w = 2 then .int FR else .int ID) fun w hw => by simp -implicitDefEqProofs only [ss_cons, ss_nil, st_ret, st_retN, st_pass, st_expr, st_ife, st_set, st_setV, st_asg, st_loop, st_ext, st_put, st_ownD, st_while, st_own, st_app, st_appV, st_raise, st_try, tryP_ok, tryP_exn, at_nx, at_rt, at_exn, endP_nx, endP_rt, endP_exn, ev_var, ev_int, ev_str, ev_bl, ev_non, ev_gint, ev_gstr, ev_bin, ev_neg, ev_cmp, ev_chain, ev_and, ev_or, ev_not, ev_ite, ev_tup, ev_lst, ev_call, ev_bi, ev_isi, ev_idx, ev_rev, ev_nil, ev_cons, ev_cut, ev_oN, ev_oS, ev_lzip, ev_dget, ev_lrange, ev_sset, ev_meth, mth_count, mth_index, mth_join, mth_split, ev_iL, ev_iT, ev_iS, ev_r1, ev_r2, ev_r3, ev_zip, ev_enum, ev_cN, ev_cS, ev_comp, two_ok, two_exn, one_ok, one_exn, many_ok, many_exn, consR_ok, consR_exn, andP_t, andP_f, orP_t, orP_f, notP_ok, notP_exn, chP_t, chP_f, chQ_ok, iteP_t, iteP_f, cutP_ok, oP_ok, itP_ok, itP2_ok, itP3_ok, cP_ok, listR_ok, retP_ok, pick_t, pick_f, pick_exn, exP_ok, exP_exn, setP_ok, setP_exn, forP_ok, view, shSl, lk, List.map_cons, List.map_nil, List.length_cons, List.length_nil, List.append_nil, List.nil_append, List.cons_append, List.getElem?_cons_zero, List.getElem?_cons_succ, List.set_cons_zero, List.set_cons_succ, List.set_nil, List.replicate_zero, List.replicate_succ, Nat.sub_self, Nat.zero_add, Nat.reduceAdd, Nat.reduceSub, Bop.fn, Cop.fn, Bi.fn, add_ii, add_ll, add_tt, sub_ii, mul_ii, div_ii, mod_ii, lt_ii, le_ii, gt_ii, ge_ii, is_n, is_t, is_i, isnot_n, isnot_t, isnot_i, isi_i, isi_b, isi_n, isi_s, isi_l, isi_t, isi, DW.len_l, DW.len_t, DW.len_c, tuple_l, tuple_t, list_l, list_t, int_i, int_b, neg_i, idx_l, idx_t, idx_c, ofO_some, rev_l, cut_l, cut_t, lof_l, tof_t, sof_l, sof_t, lzipS, zipS, enumS, R.bind_ok, if_true, if_false, ite_true, ite_false, Bool.not_true, Bool.not_false, bind_nm, bind_tp, bind_nil, bind_cons, DW.scal, DW.wipeD, wys w hw]]; rfl
  have k5 : ∀ (A B : Sl) (d : PyData), d ∈ ([.int (-1), .int 10000, .none, .bool true, .str "1"] : List PyData) → compP (.call "_law_told" 5 f_law_told (.cons (.var 16) (.cons (.var 1) (.cons (.var 17) (.cons (.non) (.cons (.non) (.nil))))))) (.nm 16) .none [.sh (scriptD ns), .sh (planD ps), .sh (.int F), .sh (.int L), .sh (.int l), .sh (.list []), A, B, .sh (.list SV), .sh (.list BB), .sh (.list (nms Rst)), .un, .sh MW, .un, .un, .sh (.int FR), .un, .sh d] (.ok (DW.upTo 0 4)) = .ok (.list [refd 1, refd 1, refd 1, refd 1]) := fun A B d hd => by
    rw [ways (f := fun _ => refd 1) fun w hw => by simp -implicitDefEqProofs only [ss_cons, ss_nil, st_ret, st_retN, st_pass, st_expr, st_ife, st_set, st_setV, st_asg, st_loop, st_ext, st_put, st_ownD, st_while, st_own, st_app, st_appV, st_raise, st_try, tryP_ok, tryP_exn, at_nx, at_rt, at_exn, endP_nx, endP_rt, endP_exn, ev_var, ev_int, ev_str, ev_bl, ev_non, ev_gint, ev_gstr, ev_bin, ev_neg, ev_cmp, ev_chain, ev_and, ev_or, ev_not, ev_ite, ev_tup, ev_lst, ev_call, ev_bi, ev_isi, ev_idx, ev_rev, ev_nil, ev_cons, ev_cut, ev_oN, ev_oS, ev_lzip, ev_dget, ev_lrange, ev_sset, ev_meth, mth_count, mth_index, mth_join, mth_split, ev_iL, ev_iT, ev_iS, ev_r1, ev_r2, ev_r3, ev_zip, ev_enum, ev_cN, ev_cS, ev_comp, two_ok, two_exn, one_ok, one_exn, many_ok, many_exn, consR_ok, consR_exn, andP_t, andP_f, orP_t, orP_f, notP_ok, notP_exn, chP_t, chP_f, chQ_ok, iteP_t, iteP_f, cutP_ok, oP_ok, itP_ok, itP2_ok, itP3_ok, cP_ok, listR_ok, retP_ok, pick_t, pick_f, pick_exn, exP_ok, exP_exn, setP_ok, setP_exn, forP_ok, view, shSl, lk, List.map_cons, List.map_nil, List.length_cons, List.length_nil, List.append_nil, List.nil_append, List.cons_append, List.getElem?_cons_zero, List.getElem?_cons_succ, List.set_cons_zero, List.set_cons_succ, List.set_nil, List.replicate_zero, List.replicate_succ, Nat.sub_self, Nat.zero_add, Nat.reduceAdd, Nat.reduceSub, Bop.fn, Cop.fn, Bi.fn, add_ii, add_ll, add_tt, sub_ii, mul_ii, div_ii, mod_ii, lt_ii, le_ii, gt_ii, ge_ii, is_n, is_t, is_i, isnot_n, isnot_t, isnot_i, isi_i, isi_b, isi_n, isi_s, isi_l, isi_t, isi, DW.len_l, DW.len_t, DW.len_c, tuple_l, tuple_t, list_l, list_t, int_i, int_b, neg_i, idx_l, idx_t, idx_c, ofO_some, rev_l, cut_l, cut_t, lof_l, tof_t, sof_l, sof_t, lzipS, zipS, enumS, R.bind_ok, if_true, if_false, ite_true, ite_false, Bool.not_true, Bool.not_false, bind_nm, bind_tp, bind_nil, bind_cons, DW.scal, DW.wipeD, told_refused (srv_time1 o.h o.l o.r (bads d hd).1 .none .none) g_time w hw]]
  have k6 : ∀ (A B : Sl) (d : PyData), d ∈ ([.int (-1), .int 10000, .none, .bool true, .str "1"] : List PyData) → compP (.call "_law_told" 5 f_law_told (.cons (.var 16) (.cons (.var 1) (.cons (.int 0) (.cons (.var 17) (.cons (.non) (.nil))))))) (.nm 16) .none [.sh (scriptD ns), .sh (planD ps), .sh (.int F), .sh (.int L), .sh (.int l), .sh (.list []), A, B, .sh (.list SV), .sh (.list BB), .sh (.list (nms Rst)), .un, .sh MW, .un, .un, .sh (.int FR), .un, .sh d] (.ok (DW.upTo 0 4)) = .ok (.list [refd 1, refd 1, refd 1, refd 1]) := fun A B d hd => by
    rw [ways (f := fun _ => refd 1) fun w hw => by simp -implicitDefEqProofs only [ss_cons, ss_nil, st_ret, st_retN, st_pass, st_expr, st_ife, st_set, st_setV, st_asg, st_loop, st_ext, st_put, st_ownD, st_while, st_own, st_app, st_appV, st_raise, st_try, tryP_ok, tryP_exn, at_nx, at_rt, at_exn, endP_nx, endP_rt, endP_exn, ev_var, ev_int, ev_str, ev_bl, ev_non, ev_gint, ev_gstr, ev_bin, ev_neg, ev_cmp, ev_chain, ev_and, ev_or, ev_not, ev_ite, ev_tup, ev_lst, ev_call, ev_bi, ev_isi, ev_idx, ev_rev, ev_nil, ev_cons, ev_cut, ev_oN, ev_oS, ev_lzip, ev_dget, ev_lrange, ev_sset, ev_meth, mth_count, mth_index, mth_join, mth_split, ev_iL, ev_iT, ev_iS, ev_r1, ev_r2, ev_r3, ev_zip, ev_enum, ev_cN, ev_cS, ev_comp, two_ok, two_exn, one_ok, one_exn, many_ok, many_exn, consR_ok, consR_exn, andP_t, andP_f, orP_t, orP_f, notP_ok, notP_exn, chP_t, chP_f, chQ_ok, iteP_t, iteP_f, cutP_ok, oP_ok, itP_ok, itP2_ok, itP3_ok, cP_ok, listR_ok, retP_ok, pick_t, pick_f, pick_exn, exP_ok, exP_exn, setP_ok, setP_exn, forP_ok, view, shSl, lk, List.map_cons, List.map_nil, List.length_cons, List.length_nil, List.append_nil, List.nil_append, List.cons_append, List.getElem?_cons_zero, List.getElem?_cons_succ, List.set_cons_zero, List.set_cons_succ, List.set_nil, List.replicate_zero, List.replicate_succ, Nat.sub_self, Nat.zero_add, Nat.reduceAdd, Nat.reduceSub, Bop.fn, Cop.fn, Bi.fn, add_ii, add_ll, add_tt, sub_ii, mul_ii, div_ii, mod_ii, lt_ii, le_ii, gt_ii, ge_ii, is_n, is_t, is_i, isnot_n, isnot_t, isnot_i, isi_i, isi_b, isi_n, isi_s, isi_l, isi_t, isi, DW.len_l, DW.len_t, DW.len_c, tuple_l, tuple_t, list_l, list_t, int_i, int_b, neg_i, idx_l, idx_t, idx_c, ofO_some, rev_l, cut_l, cut_t, lof_l, tof_t, sof_l, sof_t, lzipS, zipS, enumS, R.bind_ok, if_true, if_false, ite_true, ite_false, Bool.not_true, Bool.not_false, bind_nm, bind_tp, bind_nil, bind_cons, DW.scal, DW.wipeD, told_refused (srv_time2 o.h o.l o.r (bads d hd).1 .none) g_time w hw]]
  have k7 : ∀ (A B : Sl) (d : PyData), d ∈ ([.int (-1), .int 10000, .none, .bool true, .str "1"] : List PyData) → compP (.call "_law_told" 5 f_law_told (.cons (.var 16) (.cons (.var 1) (.cons (.int 0) (.cons (.int 9) (.cons (.var 17) (.nil))))))) (.nm 16) .none [.sh (scriptD ns), .sh (planD ps), .sh (.int F), .sh (.int L), .sh (.int l), .sh (.list []), A, B, .sh (.list SV), .sh (.list BB), .sh (.list (nms Rst)), .un, .sh MW, .un, .un, .sh (.int FR), .un, .sh d] (.ok (DW.upTo 0 4)) = .ok (.list [refd 2, refd 2, refd 2, refd 2]) := fun A B d hd => by
    rw [ways (f := fun _ => refd 2) fun w hw => by simp -implicitDefEqProofs only [ss_cons, ss_nil, st_ret, st_retN, st_pass, st_expr, st_ife, st_set, st_setV, st_asg, st_loop, st_ext, st_put, st_ownD, st_while, st_own, st_app, st_appV, st_raise, st_try, tryP_ok, tryP_exn, at_nx, at_rt, at_exn, endP_nx, endP_rt, endP_exn, ev_var, ev_int, ev_str, ev_bl, ev_non, ev_gint, ev_gstr, ev_bin, ev_neg, ev_cmp, ev_chain, ev_and, ev_or, ev_not, ev_ite, ev_tup, ev_lst, ev_call, ev_bi, ev_isi, ev_idx, ev_rev, ev_nil, ev_cons, ev_cut, ev_oN, ev_oS, ev_lzip, ev_dget, ev_lrange, ev_sset, ev_meth, mth_count, mth_index, mth_join, mth_split, ev_iL, ev_iT, ev_iS, ev_r1, ev_r2, ev_r3, ev_zip, ev_enum, ev_cN, ev_cS, ev_comp, two_ok, two_exn, one_ok, one_exn, many_ok, many_exn, consR_ok, consR_exn, andP_t, andP_f, orP_t, orP_f, notP_ok, notP_exn, chP_t, chP_f, chQ_ok, iteP_t, iteP_f, cutP_ok, oP_ok, itP_ok, itP2_ok, itP3_ok, cP_ok, listR_ok, retP_ok, pick_t, pick_f, pick_exn, exP_ok, exP_exn, setP_ok, setP_exn, forP_ok, view, shSl, lk, List.map_cons, List.map_nil, List.length_cons, List.length_nil, List.append_nil, List.nil_append, List.cons_append, List.getElem?_cons_zero, List.getElem?_cons_succ, List.set_cons_zero, List.set_cons_succ, List.set_nil, List.replicate_zero, List.replicate_succ, Nat.sub_self, Nat.zero_add, Nat.reduceAdd, Nat.reduceSub, Bop.fn, Cop.fn, Bi.fn, add_ii, add_ll, add_tt, sub_ii, mul_ii, div_ii, mod_ii, lt_ii, le_ii, gt_ii, ge_ii, is_n, is_t, is_i, isnot_n, isnot_t, isnot_i, isi_i, isi_b, isi_n, isi_s, isi_l, isi_t, isi, DW.len_l, DW.len_t, DW.len_c, tuple_l, tuple_t, list_l, list_t, int_i, int_b, neg_i, idx_l, idx_t, idx_c, ofO_some, rev_l, cut_l, cut_t, lof_l, tof_t, sof_l, sof_t, lzipS, zipS, enumS, R.bind_ok, if_true, if_false, ite_true, ite_false, Bool.not_true, Bool.not_false, bind_nm, bind_tp, bind_nil, bind_cons, DW.scal, DW.wipeD, told_refused (srv_num o.h o.l o.r (bads d hd).2) g_num w hw]]
  have m1 : mkT [.str "refused", .int 1] = .ok (refd 1) := mkT_ok (by simp)
  have m2 : mkT [.str "refused", .int 2] = .ok (refd 2) := mkT_ok (by simp)
  have m0 : mkT [.str "refused", .int 0] = .ok (refd 0) := mkT_ok (by simp)
  have l1 : ∀ i, mkL [refd i] = .ok (.list [refd i]) := fun i => mkL_ok (by simp)
  obtain ⟨δ3, f3, s17, rfl⟩ := for_keep (t := .nm 17) (b := semSs b_law_l3) (fun δ => ∃ s17 : Sl, δ = [.sh (scriptD ns), .sh (planD ps), .sh (.int F), .sh (.int L), .sh (.int l), .sh (.list []), D', t', .sh (.list SV), .sh (.list BB), .sh (.list (nms Rst)), .un, .sh MW, .un, .un, .sh (.int FR), .un, s17]) ([.int (-1), .int 10000, .none, .bool true, .str "1"] : List PyData) (fun d hd δ hI => by
    obtain ⟨s17, rfl⟩ := hI
    refine ⟨_, [.sh (scriptD ns), .sh (planD ps), .sh (.int F), .sh (.int L), .sh (.int l), .sh (.list []), D', t', .sh (.list SV), .sh (.list BB), .sh (.list (nms Rst)), .un, .sh MW, .un, .un, .sh (.int FR), .un, .sh d], rfl, ?_, _, rfl⟩
    have q5 := k5 (shSl D') (shSl t') d hd
    have q6 := k6 (shSl D') (shSl t') d hd
    have q7 := k7 (shSl D') (shSl t') d hd
    simp only [shSl] at q5 q6 q7
    simp -implicitDefEqProofs only [b_law_l3, e_law_c5, e_law_c6, e_law_c7, ss_cons, ss_nil, st_ret, st_retN, st_pass, st_expr, st_ife, st_set, st_setV, st_asg, st_loop, st_ext, st_put, st_ownD, st_while, st_own, st_app, st_appV, st_raise, st_try, tryP_ok, tryP_exn, at_nx, at_rt, at_exn, endP_nx, endP_rt, endP_exn, ev_var, ev_int, ev_str, ev_bl, ev_non, ev_gint, ev_gstr, ev_bin, ev_neg, ev_cmp, ev_chain, ev_and, ev_or, ev_not, ev_ite, ev_tup, ev_lst, ev_call, ev_bi, ev_isi, ev_idx, ev_rev, ev_nil, ev_cons, ev_cut, ev_oN, ev_oS, ev_lzip, ev_dget, ev_lrange, ev_sset, ev_meth, mth_count, mth_index, mth_join, mth_split, ev_iL, ev_iT, ev_iS, ev_r1, ev_r2, ev_r3, ev_zip, ev_enum, ev_cN, ev_cS, ev_comp, two_ok, two_exn, one_ok, one_exn, many_ok, many_exn, consR_ok, consR_exn, andP_t, andP_f, orP_t, orP_f, notP_ok, notP_exn, chP_t, chP_f, chQ_ok, iteP_t, iteP_f, cutP_ok, oP_ok, itP_ok, itP2_ok, itP3_ok, cP_ok, listR_ok, retP_ok, pick_t, pick_f, pick_exn, exP_ok, exP_exn, setP_ok, setP_exn, forP_ok, view, shSl, lk, List.map_cons, List.map_nil, List.length_cons, List.length_nil, List.append_nil, List.nil_append, List.cons_append, List.getElem?_cons_zero, List.getElem?_cons_succ, List.set_cons_zero, List.set_cons_succ, List.set_nil, List.replicate_zero, List.replicate_succ, Nat.sub_self, Nat.zero_add, Nat.reduceAdd, Nat.reduceSub, Bop.fn, Cop.fn, Bi.fn, add_ii, add_ll, add_tt, sub_ii, mul_ii, div_ii, mod_ii, lt_ii, le_ii, gt_ii, ge_ii, is_n, is_t, is_i, isnot_n, isnot_t, isnot_i, isi_i, isi_b, isi_n, isi_s, isi_l, isi_t, isi, DW.len_l, DW.len_t, DW.len_c, tuple_l, tuple_t, list_l, list_t, int_i, int_b, neg_i, idx_l, idx_t, idx_c, ofO_some, rev_l, cut_l, cut_t, lof_l, tof_t, sof_l, sof_t, lzipS, zipS, enumS, R.bind_ok, if_true, if_false, ite_true, ite_false, Bool.not_true, Bool.not_false, bind_nm, bind_tp, bind_nil, bind_cons, DW.scal, DW.wipeD, r4, q5, q6, q7, m1, m2, l1, mul4, ne_refs]) [.sh (scriptD ns), .sh (planD ps), .sh (.int F), .sh (.int L), .sh (.int l), .sh (.list []), D', t', .sh (.list SV), .sh (.list BB), .sh (.list (nms Rst)), .un, .sh MW, .un, .un, .sh (.int FR), .un, .un] ⟨_, rfl⟩
  have k8 : ∀ A B C : Sl, compP (.call "_law_told" 5 f_law_told (.cons (.var 16) (.cons (.var 1) (.cons (.int 5) (.cons (.int 4) (.cons (.int 0) (.nil))))))) (.nm 16) .none [.sh (scriptD ns), .sh (planD ps), .sh (.int F), .sh (.int L), .sh (.int l), .sh (.list []), A, B, .sh (.list SV), .sh (.list BB), .sh (.list (nms Rst)), .un, .sh MW, .un, .un, .sh (.int FR), .un, C] (.ok (DW.upTo 0 4)) = .ok (.list [refd 1, refd 1, refd 1, refd 1]) := fun A B C => by
    rw [ways (f := fun _ => refd 1) fun w hw => by simp -implicitDefEqProofs only [ss_cons, ss_nil, st_ret, st_retN, st_pass, st_expr, st_ife, st_set, st_setV, st_asg, st_loop, st_ext, st_put, st_ownD, st_while, st_own, st_app, st_appV, st_raise, st_try, tryP_ok, tryP_exn, at_nx, at_rt, at_exn, endP_nx, endP_rt, endP_exn, ev_var, ev_int, ev_str, ev_bl, ev_non, ev_gint, ev_gstr, ev_bin, ev_neg, ev_cmp, ev_chain, ev_and, ev_or, ev_not, ev_ite, ev_tup, ev_lst, ev_call, ev_bi, ev_isi, ev_idx, ev_rev, ev_nil, ev_cons, ev_cut, ev_oN, ev_oS, ev_lzip, ev_dget, ev_lrange, ev_sset, ev_meth, mth_count, mth_index, mth_join, mth_split, ev_iL, ev_iT, ev_iS, ev_r1, ev_r2, ev_r3, ev_zip, ev_enum, ev_cN, ev_cS, ev_comp, two_ok, two_exn, one_ok, one_exn, many_ok, many_exn, consR_ok, consR_exn, andP_t, andP_f, orP_t, orP_f, notP_ok, notP_exn, chP_t, chP_f, chQ_ok, iteP_t, iteP_f, cutP_ok, oP_ok, itP_ok, itP2_ok, itP3_ok, cP_ok, listR_ok, retP_ok, pick_t, pick_f, pick_exn, exP_ok, exP_exn, setP_ok, setP_exn, forP_ok, view, shSl, lk, List.map_cons, List.map_nil, List.length_cons, List.length_nil, List.append_nil, List.nil_append, List.cons_append, List.getElem?_cons_zero, List.getElem?_cons_succ, List.set_cons_zero, List.set_cons_succ, List.set_nil, List.replicate_zero, List.replicate_succ, Nat.sub_self, Nat.zero_add, Nat.reduceAdd, Nat.reduceSub, Bop.fn, Cop.fn, Bi.fn, add_ii, add_ll, add_tt, sub_ii, mul_ii, div_ii, mod_ii, lt_ii, le_ii, gt_ii, ge_ii, is_n, is_t, is_i, isnot_n, isnot_t, isnot_i, isi_i, isi_b, isi_n, isi_s, isi_l, isi_t, isi, DW.len_l, DW.len_t, DW.len_c, tuple_l, tuple_t, list_l, list_t, int_i, int_b, neg_i, idx_l, idx_t, idx_c, ofO_some, rev_l, cut_l, cut_t, lof_l, tof_t, sof_l, sof_t, lzipS, zipS, enumS, R.bind_ok, if_true, if_false, ite_true, ite_false, Bool.not_true, Bool.not_false, bind_nm, bind_tp, bind_nil, bind_cons, DW.scal, DW.wipeD, told_refused (srv_turned o.h o.l o.r (.int 0)) g_time w hw]]
  have k9 : ∀ A B : Sl, compP (.call "_law_told" 5 f_law_told (.cons (.int 0) (.cons (.var 1) (.cons (.int 0) (.cons (.int 9) (.cons (.var 17) (.nil))))))) (.nm 17) .none [.sh (scriptD ns), .sh (planD ps), .sh (.int F), .sh (.int L), .sh (.int l), .sh (.list []), A, B, .sh (.list SV), .sh (.list BB), .sh (.list (nms Rst)), .un, .sh MW, .un, .un, .sh (.int FR), .un, .un] (.ok [.int 0, .int 100]) = .ok (.list [refd 2, refd 2]) := fun A B => by
    have hb : ∀ d ∈ ([.int 0, .int 100] : List PyData), f_is_number [d, .int 1, .int 99] = .ok (.bool false) := by
      simp only [List.forall_mem_cons, List.not_mem_nil, false_imp_iff, implies_true, and_true]
      exact ⟨rfl, rfl⟩
    have q := compG_map (e := .call "_law_told" 5 f_law_told (.cons (.int 0) (.cons (.var 1) (.cons (.int 0) (.cons (.int 9) (.cons (.var 17) (.nil))))))) (t := .nm 17) (δ := [.sh (scriptD ns), .sh (planD ps), .sh (.int F), .sh (.int L), .sh (.int l), .sh (.list []), A, B, .sh (.list SV), .sh (.list BB), .sh (.list (nms Rst)), .un, .sh MW, .un, .un, .sh (.int FR), .un, .un]) (fun d : PyData => d) (fun _ => refd 2) [.int 0, .int 100] fun d hd => ⟨_, rfl, by
      simp -implicitDefEqProofs only [ss_cons, ss_nil, st_ret, st_retN, st_pass, st_expr, st_ife, st_set, st_setV, st_asg, st_loop, st_ext, st_put, st_ownD, st_while, st_own, st_app, st_appV, st_raise, st_try, tryP_ok, tryP_exn, at_nx, at_rt, at_exn, endP_nx, endP_rt, endP_exn, ev_var, ev_int, ev_str, ev_bl, ev_non, ev_gint, ev_gstr, ev_bin, ev_neg, ev_cmp, ev_chain, ev_and, ev_or, ev_not, ev_ite, ev_tup, ev_lst, ev_call, ev_bi, ev_isi, ev_idx, ev_rev, ev_nil, ev_cons, ev_cut, ev_oN, ev_oS, ev_lzip, ev_dget, ev_lrange, ev_sset, ev_meth, mth_count, mth_index, mth_join, mth_split, ev_iL, ev_iT, ev_iS, ev_r1, ev_r2, ev_r3, ev_zip, ev_enum, ev_cN, ev_cS, ev_comp, two_ok, two_exn, one_ok, one_exn, many_ok, many_exn, consR_ok, consR_exn, andP_t, andP_f, orP_t, orP_f, notP_ok, notP_exn, chP_t, chP_f, chQ_ok, iteP_t, iteP_f, cutP_ok, oP_ok, itP_ok, itP2_ok, itP3_ok, cP_ok, listR_ok, retP_ok, pick_t, pick_f, pick_exn, exP_ok, exP_exn, setP_ok, setP_exn, forP_ok, view, shSl, lk, List.map_cons, List.map_nil, List.length_cons, List.length_nil, List.append_nil, List.nil_append, List.cons_append, List.getElem?_cons_zero, List.getElem?_cons_succ, List.set_cons_zero, List.set_cons_succ, List.set_nil, List.replicate_zero, List.replicate_succ, Nat.sub_self, Nat.zero_add, Nat.reduceAdd, Nat.reduceSub, Bop.fn, Cop.fn, Bi.fn, add_ii, add_ll, add_tt, sub_ii, mul_ii, div_ii, mod_ii, lt_ii, le_ii, gt_ii, ge_ii, is_n, is_t, is_i, isnot_n, isnot_t, isnot_i, isi_i, isi_b, isi_n, isi_s, isi_l, isi_t, isi, DW.len_l, DW.len_t, DW.len_c, tuple_l, tuple_t, list_l, list_t, int_i, int_b, neg_i, idx_l, idx_t, idx_c, ofO_some, rev_l, cut_l, cut_t, lof_l, tof_t, sof_l, sof_t, lzipS, zipS, enumS, R.bind_ok, if_true, if_false, ite_true, ite_false, Bool.not_true, Bool.not_false, bind_nm, bind_tp, bind_nil, bind_cons, DW.scal, DW.wipeD, told_refused (srv_num o.h o.l o.r (hb d hd)) g_num 0 (.inl rfl)]⟩
    rw [List.map_id'] at q
    rw [compP_ok (by simp), q]; rfl
  have k10 : ∀ A B C : Sl, compP (.call "_law_told" 5 f_law_told (.cons (.var 16) (.cons (.lst (.nil)) (.cons (.non) (.cons (.non) (.cons (.non) (.nil))))))) (.nm 16) .none [.sh (scriptD ns), .sh (planD ps), .sh (.int F), .sh (.int L), .sh (.int l), .sh (.list []), A, B, .sh (.list SV), .sh (.list BB), .sh (.list (nms Rst)), .un, .sh MW, .un, .un, .sh (.int FR), .un, C] (.ok (DW.upTo 0 4)) = .ok (.list [refd 0, refd 0, refd 0, refd 0]) := fun A B C => by
    rw [ways (f := fun _ => refd 0) fun w hw => by simp -implicitDefEqProofs only [ss_cons, ss_nil, st_ret, st_retN, st_pass, st_expr, st_ife, st_set, st_setV, st_asg, st_loop, st_ext, st_put, st_ownD, st_while, st_own, st_app, st_appV, st_raise, st_try, tryP_ok, tryP_exn, at_nx, at_rt, at_exn, endP_nx, endP_rt, endP_exn, ev_var, ev_int, ev_str, ev_bl, ev_non, ev_gint, ev_gstr, ev_bin, ev_neg, ev_cmp, ev_chain, ev_and, ev_or, ev_not, ev_ite, ev_tup, ev_lst, ev_call, ev_bi, ev_isi, ev_idx, ev_rev, ev_nil, ev_cons, ev_cut, ev_oN, ev_oS, ev_lzip, ev_dget, ev_lrange, ev_sset, ev_meth, mth_count, mth_index, mth_join, mth_split, ev_iL, ev_iT, ev_iS, ev_r1, ev_r2, ev_r3, ev_zip, ev_enum, ev_cN, ev_cS, ev_comp, two_ok, two_exn, one_ok, one_exn, many_ok, many_exn, consR_ok, consR_exn, andP_t, andP_f, orP_t, orP_f, notP_ok, notP_exn, chP_t, chP_f, chQ_ok, iteP_t, iteP_f, cutP_ok, oP_ok, itP_ok, itP2_ok, itP3_ok, cP_ok, listR_ok, retP_ok, pick_t, pick_f, pick_exn, exP_ok, exP_exn, setP_ok, setP_exn, forP_ok, view, shSl, lk, List.map_cons, List.map_nil, List.length_cons, List.length_nil, List.append_nil, List.nil_append, List.cons_append, List.getElem?_cons_zero, List.getElem?_cons_succ, List.set_cons_zero, List.set_cons_succ, List.set_nil, List.replicate_zero, List.replicate_succ, Nat.sub_self, Nat.zero_add, Nat.reduceAdd, Nat.reduceSub, Bop.fn, Cop.fn, Bi.fn, add_ii, add_ll, add_tt, sub_ii, mul_ii, div_ii, mod_ii, lt_ii, le_ii, gt_ii, ge_ii, is_n, is_t, is_i, isnot_n, isnot_t, isnot_i, isi_i, isi_b, isi_n, isi_s, isi_l, isi_t, isi, DW.len_l, DW.len_t, DW.len_c, tuple_l, tuple_t, list_l, list_t, int_i, int_b, neg_i, idx_l, idx_t, idx_c, ofO_some, rev_l, cut_l, cut_t, lof_l, tof_t, sof_l, sof_t, lzipS, zipS, enumS, R.bind_ok, if_true, if_false, ite_true, ite_false, Bool.not_true, Bool.not_false, bind_nm, bind_tp, bind_nil, bind_cons, DW.scal, DW.wipeD, mle, told_refused (srv_plan .none .none .none) g_plan w hw]]
  have l4 : mkL [.list SV, MW, .int FR, .int ID] = .ok (.list [.list SV, MW, .int FR, .int ID]) := mkL_ok (by simp)
  have t2 : mkT [.int 0, .int 100] = .ok (.tuple [.int 0, .int 100]) := mkT_ok (by simp)
  have t5 : mkT [.int (-1), .int 10000, .none, .bool true, .str "1"] = .ok (.tuple [.int (-1), .int 10000, .none, .bool true, .str "1"]) := mkT_ok (by simp)
  have q4 := c4 (shSl D') (shSl t') .un .un
  have q8 := k8 (shSl D') (shSl t') (shSl s17)
  have q9 := k9 (shSl D') (shSl t')
  have q10 := k10 (shSl D') (shSl t') (shSl s17)
  simp only [shSl] at q4 q8 q9 q10
  have E2 := e2 _ ⟨.sh (.list []), D', t', .ol SV, .un, .un, .un, rfl⟩
  simp -implicitDefEqProofs only [f_law, run_eq, b_law, e_law_c2, e_law_c3, e_law_c4, e_law_c8, e_law_c9, e_law_c10, ss_cons, ss_nil, st_ret, st_retN, st_pass, st_expr, st_ife, st_set, st_setV, st_asg, st_loop, st_ext, st_put, st_ownD, st_while, st_own, st_app, st_appV, st_raise, st_try, tryP_ok, tryP_exn, at_nx, at_rt, at_exn, endP_nx, endP_rt, endP_exn, ev_var, ev_int, ev_str, ev_bl, ev_non, ev_gint, ev_gstr, ev_bin, ev_neg, ev_cmp, ev_chain, ev_and, ev_or, ev_not, ev_ite, ev_tup, ev_lst, ev_call, ev_bi, ev_isi, ev_idx, ev_rev, ev_nil, ev_cons, ev_cut, ev_oN, ev_oS, ev_lzip, ev_dget, ev_lrange, ev_sset, ev_meth, mth_count, mth_index, mth_join, mth_split, ev_iL, ev_iT, ev_iS, ev_r1, ev_r2, ev_r3, ev_zip, ev_enum, ev_cN, ev_cS, ev_comp, two_ok, two_exn, one_ok, one_exn, many_ok, many_exn, consR_ok, consR_exn, andP_t, andP_f, orP_t, orP_f, notP_ok, notP_exn, chP_t, chP_f, chQ_ok, iteP_t, iteP_f, cutP_ok, oP_ok, itP_ok, itP2_ok, itP3_ok, cP_ok, listR_ok, retP_ok, pick_t, pick_f, pick_exn, exP_ok, exP_exn, setP_ok, setP_exn, forP_ok, view, shSl, lk, List.map_cons, List.map_nil, List.length_cons, List.length_nil, List.append_nil, List.nil_append, List.cons_append, List.getElem?_cons_zero, List.getElem?_cons_succ, List.set_cons_zero, List.set_cons_succ, List.set_nil, List.replicate_zero, List.replicate_succ, Nat.sub_self, Nat.zero_add, Nat.reduceAdd, Nat.reduceSub, Bop.fn, Cop.fn, Bi.fn, add_ii, add_ll, add_tt, sub_ii, mul_ii, div_ii, mod_ii, lt_ii, le_ii, gt_ii, ge_ii, is_n, is_t, is_i, isnot_n, isnot_t, isnot_i, isi_i, isi_b, isi_n, isi_s, isi_l, isi_t, isi, DW.len_l, DW.len_t, DW.len_c, tuple_l, tuple_t, list_l, list_t, int_i, int_b, neg_i, idx_l, idx_t, idx_c, ofO_some, rev_l, cut_l, cut_t, lof_l, tof_t, sof_l, sof_t, lzipS, zipS, enumS, R.bind_ok, if_true, if_false, ite_true, ite_false, Bool.not_true, Bool.not_false, bind_nm, bind_tp, bind_nil, bind_cons, DW.scal, DW.wipeD, hplan, d1, d2, hL, d3, hl', mle, to, rl, so]
  rw [ownP_ok (by simp)]
  simp -implicitDefEqProofs only [ss_cons, ss_nil, st_ret, st_retN, st_pass, st_expr, st_ife, st_set, st_setV, st_asg, st_loop, st_ext, st_put, st_ownD, st_while, st_own, st_app, st_appV, st_raise, st_try, tryP_ok, tryP_exn, at_nx, at_rt, at_exn, endP_nx, endP_rt, endP_exn, ev_var, ev_int, ev_str, ev_bl, ev_non, ev_gint, ev_gstr, ev_bin, ev_neg, ev_cmp, ev_chain, ev_and, ev_or, ev_not, ev_ite, ev_tup, ev_lst, ev_call, ev_bi, ev_isi, ev_idx, ev_rev, ev_nil, ev_cons, ev_cut, ev_oN, ev_oS, ev_lzip, ev_dget, ev_lrange, ev_sset, ev_meth, mth_count, mth_index, mth_join, mth_split, ev_iL, ev_iT, ev_iS, ev_r1, ev_r2, ev_r3, ev_zip, ev_enum, ev_cN, ev_cS, ev_comp, two_ok, two_exn, one_ok, one_exn, many_ok, many_exn, consR_ok, consR_exn, andP_t, andP_f, orP_t, orP_f, notP_ok, notP_exn, chP_t, chP_f, chQ_ok, iteP_t, iteP_f, cutP_ok, oP_ok, itP_ok, itP2_ok, itP3_ok, cP_ok, listR_ok, retP_ok, pick_t, pick_f, pick_exn, exP_ok, exP_exn, setP_ok, setP_exn, forP_ok, view, shSl, lk, List.map_cons, List.map_nil, List.length_cons, List.length_nil, List.append_nil, List.nil_append, List.cons_append, List.getElem?_cons_zero, List.getElem?_cons_succ, List.set_cons_zero, List.set_cons_succ, List.set_nil, List.replicate_zero, List.replicate_succ, Nat.sub_self, Nat.zero_add, Nat.reduceAdd, Nat.reduceSub, Bop.fn, Cop.fn, Bi.fn, add_ii, add_ll, add_tt, sub_ii, mul_ii, div_ii, mod_ii, lt_ii, le_ii, gt_ii, ge_ii, is_n, is_t, is_i, isnot_n, isnot_t, isnot_i, isi_i, isi_b, isi_n, isi_s, isi_l, isi_t, isi, DW.len_l, DW.len_t, DW.len_c, tuple_l, tuple_t, list_l, list_t, int_i, int_b, neg_i, idx_l, idx_t, idx_c, ofO_some, rev_l, cut_l, cut_t, lof_l, tof_t, sof_l, sof_t, lzipS, zipS, enumS, R.bind_ok, if_true, if_false, ite_true, ite_false, Bool.not_true, Bool.not_false, bind_nm, bind_tp, bind_nil, bind_cons, DW.scal, DW.wipeD, sl, rgn, E2, ss_frz, sFrz, mle, nev, most, neb, done, r4, q4, lnR, l4, n4, Int.reduceNeg, t5, f3, q8, m1, l1, mul4, ne_refs, t2, q9, m2, mul2, ne_refs2, q10, m0, eq_refs]
end K78
namespace K78
open PySem PySem.Spec PyProof.Rows L2 DW
/-! ### the defs keep their promises -/
theorem all {P : Program} {w : World} {K : PySem.W.Frag} {h : Heap} {mg : Str → Option Value} {fa : Addr} (X : K.In h) (G : h.Ns mainGlobals mg) (hfa : mg "law" = some (.ref fa))
    (q_is_number : HasFn K "is_number" (top 7)) (q_is_time : HasFn K "is_time" (top 8)) (q_need_time : HasFn K "need_time" (top 9)) (q_is_name : HasFn K "is_name" (top 14)) (q_is_every : HasFn K "is_every" (top 15)) (q_is_deed : HasFn K "is_deed" (top 16)) (q_is_plan : HasFn K "is_plan" (top 17)) (q_need_plan : HasFn K "need_plan" (top 18)) (q_need_span : HasFn K "need_span" (top 19)) (q_times_of : HasFn K "times_of" (top 20)) (q_told : HasFn K "told" (top 21)) (q_served : HasFn K "served" (top 24)) (q_longest_wait : HasFn K "longest_wait" (top 25)) (q_free_again : HasFn K "free_again" (top 26)) (q_idle : HasFn K "idle" (top 27)) (q_law_cell : HasFn K "_law_cell" (top 29)) (q_law_drawn : HasFn K "_law_drawn" (top 30)) (q_law_name : HasFn K "_law_name" (top 31)) (q_law_plan : HasFn K "_law_plan" (top 32)) (q_law_times : HasFn K "_law_times" (top 33)) (q_law_told : HasFn K "_law_told" (top 35)) (q_law : HasFn K "law" (top 36)) (q_law_refused : HasFn K "_law_refused" (top 34)) (z_ValueError : HasNo K "ValueError") (h_NoNumber : HasTold K "NoNumber") (a_NoNumber_NoPlan : HasAsk K "NoNumber" "NoPlan" (decide (("NoNumber" : Str) = "NoPlan"))) (a_NoNumber_NoTime : HasAsk K "NoNumber" "NoTime" (decide (("NoNumber" : Str) = "NoTime"))) (a_NoNumber_NoNumber : HasAsk K "NoNumber" "NoNumber" (decide (("NoNumber" : Str) = "NoNumber"))) (h_NoPlan : HasTold K "NoPlan") (a_NoPlan_NoPlan : HasAsk K "NoPlan" "NoPlan" (decide (("NoPlan" : Str) = "NoPlan"))) (a_NoPlan_NoTime : HasAsk K "NoPlan" "NoTime" (decide (("NoPlan" : Str) = "NoTime"))) (a_NoPlan_NoNumber : HasAsk K "NoPlan" "NoNumber" (decide (("NoPlan" : Str) = "NoNumber"))) (h_NoTime : HasTold K "NoTime") (a_NoTime_NoPlan : HasAsk K "NoTime" "NoPlan" (decide (("NoTime" : Str) = "NoPlan"))) (a_NoTime_NoTime : HasAsk K "NoTime" "NoTime" (decide (("NoTime" : Str) = "NoTime"))) (a_NoTime_NoNumber : HasAsk K "NoTime" "NoNumber" (decide (("NoTime" : Str) = "NoNumber"))) (e_NoNumber : HasExc K "NoNumber") (e_NoPlan : HasExc K "NoPlan") (e_NoTime : HasExc K "NoTime") (c_MOST_DEEDS : HasInt K "MOST_DEEDS" (12)) (c_MOST_LONG : HasInt K "MOST_LONG" (99)) (c_MOST_NAME : HasInt K "MOST_NAME" (6)) (c_MOST_TIME : HasInt K "MOST_TIME" (9999)) (c_SIGNS : HasStr K "SIGNS" "abcdefghijklmnopqrstuvwxyz") (z_len : HasNo K "len") (z_all : HasNo K "all") (z_list : HasNo K "list") (z_tuple : HasNo K "tuple") (z_min : HasNo K "min") (z_max : HasNo K "max") (z_int : HasNo K "int") (z_str : HasNo K "str") (z_isinstance : HasNo K "isinstance") (z_bool : HasNo K "bool") (z_range : HasNo K "range") (z_zip : HasNo K "zip") (z_sum : HasNo K "sum") (z_enumerate : HasNo K "enumerate") (z_sorted : HasNo K "sorted") (z_set : HasNo K "set") (z_dict : HasNo K "dict") (pure : ∀ ns : List Int, ns.length ≤ 63 → f_law [scriptD ns] = .ok (.bool true)) :
    ∃ fd : FuncData, (∀ (s : Shared) (u : Value), BindsTo s fd ⟨[u], []⟩ [("script", u)]) ∧ ∀ base : Heap, K.In base → base.Ns mainGlobals mg → FnOk P w K mg base (L2N.CX P w) 10 fa fd ["script"] (spLaw K) := by
  have qn : ∀ x ∈ bnames, HasNo K x := by
    unfold bnames
    simp only [List.forall_mem_cons, List.not_mem_nil, false_imp_iff, implies_true, and_true]
    exact ⟨z_len, z_all, z_list, z_tuple, z_min, z_max, z_int, z_str, z_isinstance, z_bool, z_range, z_zip, z_sum, z_enumerate, z_sorted, z_set, z_dict⟩
  refine law_ok (k := 9) X G hfa q_law qn d_law w_law (fun base => ?_) pure
  have E_NoNumber : ExcT K mg "NoNumber" := has_exc (Γ := ⟨P, w, K, mg, base, 0⟩) X G e_NoNumber
  have E_NoPlan : ExcT K mg "NoPlan" := has_exc (Γ := ⟨P, w, K, mg, base, 0⟩) X G e_NoPlan
  have E_NoTime : ExcT K mg "NoTime" := has_exc (Γ := ⟨P, w, K, mg, base, 0⟩) X G e_NoTime
  have C_MOST_DEEDS : ∃ t, mg "MOST_DEEDS" = some (.int (12) t) := has_int (Γ := ⟨P, w, K, mg, base, 0⟩) X G c_MOST_DEEDS
  have C_MOST_LONG : ∃ t, mg "MOST_LONG" = some (.int (99) t) := has_int (Γ := ⟨P, w, K, mg, base, 0⟩) X G c_MOST_LONG
  have C_MOST_NAME : ∃ t, mg "MOST_NAME" = some (.int (6) t) := has_int (Γ := ⟨P, w, K, mg, base, 0⟩) X G c_MOST_NAME
  have C_MOST_TIME : ∃ t, mg "MOST_TIME" = some (.int (9999) t) := has_int (Γ := ⟨P, w, K, mg, base, 0⟩) X G c_MOST_TIME
  have C_SIGNS : ∃ t, mg "SIGNS" = some (.str "abcdefghijklmnopqrstuvwxyz" t) := has_str (Γ := ⟨P, w, K, mg, base, 0⟩) X G c_SIGNS
  have hbl : ∀ x ∈ bnames, mg x = none := has_no (Γ := ⟨P, w, K, mg, base, 0⟩) X G qn
  have K_NoNumber : ExK K mg ["NoPlan", "NoTime", "NoNumber"] "NoNumber" := has_exk (Γ := ⟨P, w, K, mg, base, 0⟩) X G h_NoNumber (by simp only [List.forall_mem_cons, List.not_mem_nil, false_imp_iff, implies_true, and_true]; exact ⟨a_NoNumber_NoPlan, a_NoNumber_NoTime, a_NoNumber_NoNumber⟩)
  have K_NoPlan : ExK K mg ["NoPlan", "NoTime", "NoNumber"] "NoPlan" := has_exk (Γ := ⟨P, w, K, mg, base, 0⟩) X G h_NoPlan (by simp only [List.forall_mem_cons, List.not_mem_nil, false_imp_iff, implies_true, and_true]; exact ⟨a_NoPlan_NoPlan, a_NoPlan_NoTime, a_NoPlan_NoNumber⟩)
  have K_NoTime : ExK K mg ["NoPlan", "NoTime", "NoNumber"] "NoTime" := has_exk (Γ := ⟨P, w, K, mg, base, 0⟩) X G h_NoTime (by simp only [List.forall_mem_cons, List.not_mem_nil, false_imp_iff, implies_true, and_true]; exact ⟨a_NoTime_NoPlan, a_NoTime_NoTime, a_NoTime_NoNumber⟩)
  have K_due := has_due (Γ := ⟨P, w, K, mg, base, 0⟩) X G (r := "NoNumber") (rs := ["NoPlan", "NoTime"]) (by simp only [List.forall_mem_cons, List.not_mem_nil, false_imp_iff, implies_true, and_true]; exact ⟨h_NoNumber, h_NoPlan, h_NoTime⟩)
  have K_all : ∀ c ∈ (["NoNumber", "NoPlan", "NoTime"] : List Str), ExK K mg ["NoPlan", "NoTime", "NoNumber"] c := by simp only [List.forall_mem_cons, List.not_mem_nil, false_imp_iff, implies_true, and_true]; exact ⟨K_NoNumber, K_NoPlan, K_NoTime⟩
  have F_is_number : FnD P w K mg base 1 "is_number" 3 f_is_number := by
    refine has_fn (Γ := ⟨P, w, K, mg, base, 0⟩) X G q_is_number hbl d_is_number w_is_number ?_
    simp only [b_is_number, NeedSs, NeedS, Need, NeedL, NeedO, NeedI]
    repeat' first | exact trivial | assumption | apply And.intro
  have F_is_time : FnD P w K mg base 2 "is_time" 1 f_is_time := by
    refine has_fn (Γ := ⟨P, w, K, mg, base, 1⟩) X G q_is_time hbl d_is_time w_is_time ?_
    have m_is_number : FnD P w K mg base 1 "is_number" 3 f_is_number := F_is_number.mono (by decide)
    simp only [b_is_time, NeedSs, NeedS, Need, NeedL, NeedO, NeedI]
    repeat' first | exact trivial | assumption | apply And.intro
  have F_need_time : FnD P w K mg base 3 "need_time" 1 f_need_time := by
    refine has_fn (Γ := ⟨P, w, K, mg, base, 2⟩) X G q_need_time hbl d_need_time w_need_time ?_
    have m_is_time : FnD P w K mg base 2 "is_time" 1 f_is_time := F_is_time.mono (by decide)
    simp only [b_need_time, NeedSs, NeedS, Need, NeedL, NeedO, NeedI]
    repeat' first | exact trivial | assumption | apply And.intro
  have F_is_name : FnD P w K mg base 1 "is_name" 1 f_is_name := by
    refine has_fn (Γ := ⟨P, w, K, mg, base, 0⟩) X G q_is_name hbl d_is_name w_is_name ?_
    simp only [b_is_name, e_is_name_c1, NeedSs, NeedS, Need, NeedL, NeedO, NeedI]
    repeat' first | exact trivial | assumption | apply And.intro
  have F_is_every : FnD P w K mg base 2 "is_every" 1 f_is_every := by
    refine has_fn (Γ := ⟨P, w, K, mg, base, 1⟩) X G q_is_every hbl d_is_every w_is_every ?_
    have m_is_number : FnD P w K mg base 1 "is_number" 3 f_is_number := F_is_number.mono (by decide)
    simp only [b_is_every, NeedSs, NeedS, Need, NeedL, NeedO, NeedI]
    repeat' first | exact trivial | assumption | apply And.intro
  have F_is_deed : FnD P w K mg base 3 "is_deed" 1 f_is_deed := by
    refine has_fn (Γ := ⟨P, w, K, mg, base, 2⟩) X G q_is_deed hbl d_is_deed w_is_deed ?_
    have m_is_every : FnD P w K mg base 2 "is_every" 1 f_is_every := F_is_every.mono (by decide)
    have m_is_name : FnD P w K mg base 2 "is_name" 1 f_is_name := F_is_name.mono (by decide)
    have m_is_time : FnD P w K mg base 2 "is_time" 1 f_is_time := F_is_time.mono (by decide)
    simp only [b_is_deed, NeedSs, NeedS, Need, NeedL, NeedO, NeedI]
    repeat' first | exact trivial | assumption | apply And.intro
  have F_is_plan : FnD P w K mg base 4 "is_plan" 1 f_is_plan := by
    refine has_fn (Γ := ⟨P, w, K, mg, base, 3⟩) X G q_is_plan hbl d_is_plan w_is_plan ?_
    have m_is_deed : FnD P w K mg base 3 "is_deed" 1 f_is_deed := F_is_deed.mono (by decide)
    simp only [b_is_plan, e_is_plan_c1, e_is_plan_c2, NeedSs, NeedS, Need, NeedL, NeedO, NeedI]
    repeat' first | exact trivial | assumption | apply And.intro
  have F_need_plan : FnD P w K mg base 5 "need_plan" 1 f_need_plan := by
    refine has_fn (Γ := ⟨P, w, K, mg, base, 4⟩) X G q_need_plan hbl d_need_plan w_need_plan ?_
    have m_is_plan : FnD P w K mg base 4 "is_plan" 1 f_is_plan := F_is_plan.mono (by decide)
    simp only [b_need_plan, NeedSs, NeedS, Need, NeedL, NeedO, NeedI]
    repeat' first | exact trivial | assumption | apply And.intro
  have F_need_span : FnD P w K mg base 4 "need_span" 2 f_need_span := by
    refine has_fn (Γ := ⟨P, w, K, mg, base, 3⟩) X G q_need_span hbl d_need_span w_need_span ?_
    have m_need_time : FnD P w K mg base 3 "need_time" 1 f_need_time := F_need_time.mono (by decide)
    simp only [b_need_span, NeedSs, NeedS, Need, NeedL, NeedO, NeedI]
    repeat' first | exact trivial | assumption | apply And.intro
  have F_times_of : FnD P w K mg base 1 "times_of" 3 f_times_of := by
    refine has_fn (Γ := ⟨P, w, K, mg, base, 0⟩) X G q_times_of hbl d_times_of w_times_of ?_
    simp only [b_times_of, NeedSs, NeedS, Need, NeedL, NeedO, NeedI]
    repeat' first | exact trivial | assumption | apply And.intro
  have F_told : FnD P w K mg base 6 "told" 3 f_told := by
    refine has_fn (Γ := ⟨P, w, K, mg, base, 5⟩) X G q_told hbl d_told w_told ?_
    have m_need_plan : FnD P w K mg base 5 "need_plan" 1 f_need_plan := F_need_plan.mono (by decide)
    have m_need_span : FnD P w K mg base 5 "need_span" 2 f_need_span := F_need_span.mono (by decide)
    have m_times_of : FnD P w K mg base 5 "times_of" 3 f_times_of := F_times_of.mono (by decide)
    simp only [b_told, e_told_c1, b_told_l1, NeedSs, NeedS, Need, NeedL, NeedO, NeedI]
    repeat' first | exact trivial | assumption | apply And.intro
  have F_served : FnD P w K mg base 7 "served" 4 f_served := by
    refine has_fn (Γ := ⟨P, w, K, mg, base, 6⟩) X G q_served hbl d_served w_served ?_
    have m_is_number : FnD P w K mg base 6 "is_number" 3 f_is_number := F_is_number.mono (by decide)
    have m_told : FnD P w K mg base 6 "told" 3 f_told := F_told.mono (by decide)
    simp only [b_served, b_served_l1, NeedSs, NeedS, Need, NeedL, NeedO, NeedI]
    repeat' first | exact trivial | assumption | apply And.intro
  have F_longest_wait : FnD P w K mg base 8 "longest_wait" 4 f_longest_wait := by
    refine has_fn (Γ := ⟨P, w, K, mg, base, 7⟩) X G q_longest_wait hbl d_longest_wait w_longest_wait ?_
    have m_served : FnD P w K mg base 7 "served" 4 f_served := F_served.mono (by decide)
    simp only [b_longest_wait, e_longest_wait_c1, NeedSs, NeedS, Need, NeedL, NeedO, NeedI]
    repeat' first | exact trivial | assumption | apply And.intro
  have F_free_again : FnD P w K mg base 8 "free_again" 4 f_free_again := by
    refine has_fn (Γ := ⟨P, w, K, mg, base, 7⟩) X G q_free_again hbl d_free_again w_free_again ?_
    have m_served : FnD P w K mg base 7 "served" 4 f_served := F_served.mono (by decide)
    simp only [b_free_again, NeedSs, NeedS, Need, NeedL, NeedO, NeedI]
    repeat' first | exact trivial | assumption | apply And.intro
  have F_idle : FnD P w K mg base 8 "idle" 4 f_idle := by
    refine has_fn (Γ := ⟨P, w, K, mg, base, 7⟩) X G q_idle hbl d_idle w_idle ?_
    have m_served : FnD P w K mg base 7 "served" 4 f_served := F_served.mono (by decide)
    simp only [b_idle, b_idle_l1, NeedSs, NeedS, Need, NeedL, NeedO, NeedI]
    repeat' first | exact trivial | assumption | apply And.intro
  have F_law_cell : FnD P w K mg base 1 "_law_cell" 2 f_law_cell := by
    refine has_fn (Γ := ⟨P, w, K, mg, base, 0⟩) X G q_law_cell hbl d_law_cell w_law_cell ?_
    simp only [b_law_cell, NeedSs, NeedS, Need, NeedL, NeedO, NeedI]
    repeat' first | exact trivial | assumption | apply And.intro
  have F_law_drawn : FnD P w K mg base 2 "_law_drawn" 3 f_law_drawn := by
    refine has_fn (Γ := ⟨P, w, K, mg, base, 1⟩) X G q_law_drawn hbl d_law_drawn w_law_drawn ?_
    have m_law_cell : FnD P w K mg base 1 "_law_cell" 2 f_law_cell := F_law_cell.mono (by decide)
    simp only [b_law_drawn, NeedSs, NeedS, Need, NeedL, NeedO, NeedI]
    repeat' first | exact trivial | assumption | apply And.intro
  have F_law_name : FnD P w K mg base 3 "_law_name" 2 f_law_name := by
    refine has_fn (Γ := ⟨P, w, K, mg, base, 2⟩) X G q_law_name hbl d_law_name w_law_name ?_
    have m_law_drawn : FnD P w K mg base 2 "_law_drawn" 3 f_law_drawn := F_law_drawn.mono (by decide)
    simp only [b_law_name, e_law_name_c1, NeedSs, NeedS, Need, NeedL, NeedO, NeedI]
    repeat' first | exact trivial | assumption | apply And.intro
  have F_law_plan : FnD P w K mg base 4 "_law_plan" 5 f_law_plan := by
    refine has_fn (Γ := ⟨P, w, K, mg, base, 3⟩) X G q_law_plan hbl d_law_plan w_law_plan ?_
    have m_law_drawn : FnD P w K mg base 3 "_law_drawn" 3 f_law_drawn := F_law_drawn.mono (by decide)
    have m_law_name : FnD P w K mg base 3 "_law_name" 2 f_law_name := F_law_name.mono (by decide)
    simp only [b_law_plan, b_law_plan_l1, e_law_plan_c1, NeedSs, NeedS, Need, NeedL, NeedO, NeedI]
    repeat' first | exact trivial | assumption | apply And.intro
  have F_law_times : FnD P w K mg base 1 "_law_times" 3 f_law_times := by
    refine has_fn (Γ := ⟨P, w, K, mg, base, 0⟩) X G q_law_times hbl d_law_times w_law_times ?_
    simp only [b_law_times, b_law_times_l1, NeedSs, NeedS, Need, NeedL, NeedO, NeedI]
    repeat' first | exact trivial | assumption | apply And.intro
  have F_law_told : FnD P w K mg base 9 "_law_told" 5 f_law_told := by
    refine has_fn (Γ := ⟨P, w, K, mg, base, 8⟩) X G q_law_told hbl d_law_told w_law_told ?_
    have T_law_refused : TryOk ⟨P, w, K, mg, base, 8⟩ "_law_refused" g_law_refused := tell_try (Γ := ⟨P, w, K, mg, base, 8⟩) X G q_law_refused w_law_refused t_law_refused K_all K_due (hbl _ (by decide +kernel)) (PySem.W.mg_none_of X G z_ValueError) (Nat.succ_ne_zero _)
    have m_free_again : FnD P w K mg base 8 "free_again" 4 f_free_again := F_free_again.mono (by decide)
    have m_idle : FnD P w K mg base 8 "idle" 4 f_idle := F_idle.mono (by decide)
    have m_longest_wait : FnD P w K mg base 8 "longest_wait" 4 f_longest_wait := F_longest_wait.mono (by decide)
    have m_served : FnD P w K mg base 8 "served" 4 f_served := F_served.mono (by decide)
    simp only [b_law_told, NeedSs, NeedS, Need, NeedL, NeedO, NeedI]
    repeat' first | exact trivial | assumption | apply And.intro
  have m_law_drawn : FnD P w K mg base 9 "_law_drawn" 3 f_law_drawn := F_law_drawn.mono (by decide)
  have m_law_plan : FnD P w K mg base 9 "_law_plan" 5 f_law_plan := F_law_plan.mono (by decide)
  have m_law_times : FnD P w K mg base 9 "_law_times" 3 f_law_times := F_law_times.mono (by decide)
  have m_law_told : FnD P w K mg base 9 "_law_told" 5 f_law_told := F_law_told.mono (by decide)
  simp only [b_law, e_law_c1, b_law_l1, b_law_l2, e_law_c2, e_law_c3, e_law_c4, e_law_c5, e_law_c6, e_law_c7, b_law_l3, e_law_c8, e_law_c9, e_law_c10, NeedSs, NeedS, Need, NeedL, NeedO, NeedI]
  repeat' first | exact trivial | assumption | apply And.intro
end K78
open PySem PySem.W PyProof.Rows in
set_option maxRecDepth 100000 in
set_option maxHeartbeats 0 in
theorem PySem.Challenge.cw_duewheels_k78_serving_holds : PySem.Challenge.rw_duewheels_k78_serving.Holds := by
  w_on; o_law; k_head; (case hw => w_witness2)
  k_fill
  refine DW.walk_data (l := PySem.Challenge.rw_duewheels_k78_serving) (k := 10) rfl rfl ⟨rfl, by decide, by decide⟩ (fun w h Y => PySem.W.kIn_of Y) ?F
  case F =>
    intro w mg fa h KX G hmg
    refine' K78.all KX G hmg ?q_is_number ?q_is_time ?q_need_time ?q_is_name ?q_is_every ?q_is_deed ?q_is_plan ?q_need_plan ?q_need_span ?q_times_of ?q_told ?q_served ?q_longest_wait ?q_free_again ?q_idle ?q_law_cell ?q_law_drawn ?q_law_name ?q_law_plan ?q_law_times ?q_law_told ?q_law ?q_law_refused ?z_ValueError ?h_NoNumber ?a_NoNumber_NoPlan ?a_NoNumber_NoTime ?a_NoNumber_NoNumber ?h_NoPlan ?a_NoPlan_NoPlan ?a_NoPlan_NoTime ?a_NoPlan_NoNumber ?h_NoTime ?a_NoTime_NoPlan ?a_NoTime_NoTime ?a_NoTime_NoNumber ?e_NoNumber ?e_NoPlan ?e_NoTime ?c_MOST_DEEDS ?c_MOST_LONG ?c_MOST_NAME ?c_MOST_TIME ?c_SIGNS ?z_len ?z_all ?z_list ?z_tuple ?z_min ?z_max ?z_int ?z_str ?z_isinstance ?z_bool ?z_range ?z_zip ?z_sum ?z_enumerate ?z_sorted ?z_set ?z_dict K78.law_true
    (case q_is_number => refine' DW.mkFn ?i1 ?i2 ?i3 ?i4; (case i1 => k_is); (case i2 => k_is); (case i3 => k_is); (case i4 => k_is))
    (case q_is_time => refine' DW.mkFn ?i1 ?i2 ?i3 ?i4; (case i1 => k_is); (case i2 => k_is); (case i3 => k_is); (case i4 => k_is))
    (case q_need_time => refine' DW.mkFn ?i1 ?i2 ?i3 ?i4; (case i1 => k_is); (case i2 => k_is); (case i3 => k_is); (case i4 => k_is))
    (case q_is_name => refine' DW.mkFn ?i1 ?i2 ?i3 ?i4; (case i1 => k_is); (case i2 => k_is); (case i3 => k_is); (case i4 => k_is))
    (case q_is_every => refine' DW.mkFn ?i1 ?i2 ?i3 ?i4; (case i1 => k_is); (case i2 => k_is); (case i3 => k_is); (case i4 => k_is))
    (case q_is_deed => refine' DW.mkFn ?i1 ?i2 ?i3 ?i4; (case i1 => k_is); (case i2 => k_is); (case i3 => k_is); (case i4 => k_is))
    (case q_is_plan => refine' DW.mkFn ?i1 ?i2 ?i3 ?i4; (case i1 => k_is); (case i2 => k_is); (case i3 => k_is); (case i4 => k_is))
    (case q_need_plan => refine' DW.mkFn ?i1 ?i2 ?i3 ?i4; (case i1 => k_is); (case i2 => k_is); (case i3 => k_is); (case i4 => k_is))
    (case q_need_span => refine' DW.mkFn ?i1 ?i2 ?i3 ?i4; (case i1 => k_is); (case i2 => k_is); (case i3 => k_is); (case i4 => k_is))
    (case q_times_of => refine' DW.mkFn ?i1 ?i2 ?i3 ?i4; (case i1 => k_is); (case i2 => k_is); (case i3 => k_is); (case i4 => k_is))
    (case q_told => refine' DW.mkFn ?i1 ?i2 ?i3 ?i4; (case i1 => k_is); (case i2 => k_is); (case i3 => k_is); (case i4 => k_is))
    (case q_served => refine' DW.mkFn ?i1 ?i2 ?i3 ?i4; (case i1 => k_is); (case i2 => k_is); (case i3 => k_is); (case i4 => k_is))
    (case q_longest_wait => refine' DW.mkFn ?i1 ?i2 ?i3 ?i4; (case i1 => k_is); (case i2 => k_is); (case i3 => k_is); (case i4 => k_is))
    (case q_free_again => refine' DW.mkFn ?i1 ?i2 ?i3 ?i4; (case i1 => k_is); (case i2 => k_is); (case i3 => k_is); (case i4 => k_is))
    (case q_idle => refine' DW.mkFn ?i1 ?i2 ?i3 ?i4; (case i1 => k_is); (case i2 => k_is); (case i3 => k_is); (case i4 => k_is))
    (case q_law_cell => refine' DW.mkFn ?i1 ?i2 ?i3 ?i4; (case i1 => k_is); (case i2 => k_is); (case i3 => k_is); (case i4 => k_is))
    (case q_law_drawn => refine' DW.mkFn ?i1 ?i2 ?i3 ?i4; (case i1 => k_is); (case i2 => k_is); (case i3 => k_is); (case i4 => k_is))
    (case q_law_name => refine' DW.mkFn ?i1 ?i2 ?i3 ?i4; (case i1 => k_is); (case i2 => k_is); (case i3 => k_is); (case i4 => k_is))
    (case q_law_plan => refine' DW.mkFn ?i1 ?i2 ?i3 ?i4; (case i1 => k_is); (case i2 => k_is); (case i3 => k_is); (case i4 => k_is))
    (case q_law_times => refine' DW.mkFn ?i1 ?i2 ?i3 ?i4; (case i1 => k_is); (case i2 => k_is); (case i3 => k_is); (case i4 => k_is))
    (case q_law_told => refine' DW.mkFn ?i1 ?i2 ?i3 ?i4; (case i1 => k_is); (case i2 => k_is); (case i3 => k_is); (case i4 => k_is))
    (case q_law => refine' DW.mkFn ?i1 ?i2 ?i3 ?i4; (case i1 => k_is); (case i2 => k_is); (case i3 => k_is); (case i4 => k_is))
    (case q_law_refused => refine' DW.mkFn ?i1 ?i2 ?i3 ?i4; (case i1 => k_is); (case i2 => k_is); (case i3 => k_is); (case i4 => k_is))
    (case z_ValueError => show PySem.W.nsIn _ mainGlobals _ = _; k_is)
    (case h_NoNumber => refine' DW.mkTold ?i1 ?i2 ?i3 ?i4 ?i5 ?i6 ?i7 ?i8 ?i9 ?i10 ?i11 ?i12 ?i13 ?i14 ?i15; (case i1 => k_is); (case i2 => k_is); (case i3 => k_is); (case i4 => k_is); (case i5 => k_is); (case i6 => k_is); (case i7 => k_is); (case i8 => k_is); (case i9 => k_is); (case i10 => k_is); (case i11 => kit_is); (case i12 => k_is); (case i13 => k_is); (case i14 => k_is); (case i15 => k_is))
    (case a_NoNumber_NoPlan => refine' DW.mkAsk ?i1 ?i2 ?i3; (case i1 => k_is); (case i2 => k_is); (case i3 => kit_is))
    (case a_NoNumber_NoTime => refine' DW.mkAsk ?i1 ?i2 ?i3; (case i1 => k_is); (case i2 => k_is); (case i3 => kit_is))
    (case a_NoNumber_NoNumber => refine' DW.mkAsk ?i1 ?i2 ?i3; (case i1 => k_is); (case i2 => k_is); (case i3 => kit_is))
    (case h_NoPlan => refine' DW.mkTold ?i1 ?i2 ?i3 ?i4 ?i5 ?i6 ?i7 ?i8 ?i9 ?i10 ?i11 ?i12 ?i13 ?i14 ?i15; (case i1 => k_is); (case i2 => k_is); (case i3 => k_is); (case i4 => k_is); (case i5 => k_is); (case i6 => k_is); (case i7 => k_is); (case i8 => k_is); (case i9 => k_is); (case i10 => k_is); (case i11 => kit_is); (case i12 => k_is); (case i13 => k_is); (case i14 => k_is); (case i15 => k_is))
    (case a_NoPlan_NoPlan => refine' DW.mkAsk ?i1 ?i2 ?i3; (case i1 => k_is); (case i2 => k_is); (case i3 => kit_is))
    (case a_NoPlan_NoTime => refine' DW.mkAsk ?i1 ?i2 ?i3; (case i1 => k_is); (case i2 => k_is); (case i3 => kit_is))
    (case a_NoPlan_NoNumber => refine' DW.mkAsk ?i1 ?i2 ?i3; (case i1 => k_is); (case i2 => k_is); (case i3 => kit_is))
    (case h_NoTime => refine' DW.mkTold ?i1 ?i2 ?i3 ?i4 ?i5 ?i6 ?i7 ?i8 ?i9 ?i10 ?i11 ?i12 ?i13 ?i14 ?i15; (case i1 => k_is); (case i2 => k_is); (case i3 => k_is); (case i4 => k_is); (case i5 => k_is); (case i6 => k_is); (case i7 => k_is); (case i8 => k_is); (case i9 => k_is); (case i10 => k_is); (case i11 => kit_is); (case i12 => k_is); (case i13 => k_is); (case i14 => k_is); (case i15 => k_is))
    (case a_NoTime_NoPlan => refine' DW.mkAsk ?i1 ?i2 ?i3; (case i1 => k_is); (case i2 => k_is); (case i3 => kit_is))
    (case a_NoTime_NoTime => refine' DW.mkAsk ?i1 ?i2 ?i3; (case i1 => k_is); (case i2 => k_is); (case i3 => kit_is))
    (case a_NoTime_NoNumber => refine' DW.mkAsk ?i1 ?i2 ?i3; (case i1 => k_is); (case i2 => k_is); (case i3 => kit_is))
    (case e_NoNumber => refine' DW.mkExc PySem.F.excBase_ValueError ?i1 ?i2 ?i3 ?i4 ?i5; (case i1 => k_is); (case i2 => k_exc); (case i3 => k_is); (case i4 => k_is); (case i5 => k_is))
    (case e_NoPlan => refine' DW.mkExc PySem.F.excBase_ValueError ?i1 ?i2 ?i3 ?i4 ?i5; (case i1 => k_is); (case i2 => k_exc); (case i3 => k_is); (case i4 => k_is); (case i5 => k_is))
    (case e_NoTime => refine' DW.mkExc PySem.F.excBase_ValueError ?i1 ?i2 ?i3 ?i4 ?i5; (case i1 => k_is); (case i2 => k_exc); (case i3 => k_is); (case i4 => k_is); (case i5 => k_is))
    (case c_MOST_DEEDS => refine' DW.mkInt' ?i1; (case i1 => k_is))
    (case c_MOST_LONG => refine' DW.mkInt' ?i1; (case i1 => k_is))
    (case c_MOST_NAME => refine' DW.mkInt' ?i1; (case i1 => k_is))
    (case c_MOST_TIME => refine' DW.mkInt' ?i1; (case i1 => k_is))
    (case c_SIGNS => refine' DW.mkStr' ?i1; (case i1 => k_is))
    (case z_len => show PySem.W.nsIn _ mainGlobals _ = _; k_is)
    (case z_all => show PySem.W.nsIn _ mainGlobals _ = _; k_is)
    (case z_list => show PySem.W.nsIn _ mainGlobals _ = _; k_is)
    (case z_tuple => show PySem.W.nsIn _ mainGlobals _ = _; k_is)
    (case z_min => show PySem.W.nsIn _ mainGlobals _ = _; k_is)
    (case z_max => show PySem.W.nsIn _ mainGlobals _ = _; k_is)
    (case z_int => show PySem.W.nsIn _ mainGlobals _ = _; k_is)
    (case z_str => show PySem.W.nsIn _ mainGlobals _ = _; k_is)
    (case z_isinstance => show PySem.W.nsIn _ mainGlobals _ = _; k_is)
    (case z_bool => show PySem.W.nsIn _ mainGlobals _ = _; k_is)
    (case z_range => show PySem.W.nsIn _ mainGlobals _ = _; k_is)
    (case z_zip => show PySem.W.nsIn _ mainGlobals _ = _; k_is)
    (case z_sum => show PySem.W.nsIn _ mainGlobals _ = _; k_is)
    (case z_enumerate => show PySem.W.nsIn _ mainGlobals _ = _; k_is)
    (case z_sorted => show PySem.W.nsIn _ mainGlobals _ = _; k_is)
    (case z_set => show PySem.W.nsIn _ mainGlobals _ = _; k_is)
    (case z_dict => show PySem.W.nsIn _ mainGlobals _ = _; k_is)
