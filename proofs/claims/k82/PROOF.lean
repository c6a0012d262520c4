import PyProof.Rows.All
import Wide.All
import OpenK.AllK
import Wide.FinOn
import HandS.ForMost
import HandS.ForExc
import HandS.IsInst
import HandS.TupAny
import HandS.Wide
import HandS.SortInts
import HandS.SetFor
import HandS.Strs
import KE.DataMinMax
import PyProof.ReprRoads
import HandS.Ends
import HandS.EndBits
import HandS.NoneIn
import HandS.Style
import HandS.Flow
import KE.SortData
import PySem.Challenge.RW_frugaltape_k82_cheapest_ways
set_option Elab.async false
set_option linter.all false
set_option maxRecDepth 100000
/-! HD1: data with values (Dt) over the hand layer: what a value represents, the state of a def as data, judgements by a semantic function. -/
namespace HD
open PySem PySem.Spec PyProof.Rows L2

/-- data: immutable trees -/
inductive Dt where
  | non | bl (b : Bool) | int (i : Int) | str (x : Str)
  | tup (xs : List Dt) | lst (xs : List Dt) | rol (xs : List Dt)
  | dct (kvs : List (Key × Dt))
  | obj (c : Str) (fs : List (Str × Dt))
/-- the content of an object of one's own, which may change -/
inductive Ob where
  | lst (xs : List Dt) | dct (kvs : List (Key × Dt)) | ins (c : Str) (fs : List (Str × Dt)) | dead

section
variable (K : PySem.W.Frag) (mg : Str → Option Value)
mutual
inductive Rep (F : Hp) : V → Dt → Prop
  | non : Rep F .non .non
  | bl (b : Bool) : Rep F (.bl b) (.bl b)
  | int (i : Int) : Rep F (.int i) (.int i)
  | str (x : Str) : Rep F (.str x) (.str x)
  | tup {a : Addr} {vs : List V} {ds : List Dt} (h : SqT K F a vs) (r : RepL F vs ds) : Rep F (.ref a) (.tup ds)
  | lst {a : Addr} {vs : List V} {ds : List Dt} (h : F a = some (.lst vs)) (r : RepL F vs ds) : Rep F (.ref a) (.lst ds)
  | rol {a : Addr} {vs : List V} {ds : List Dt} (h : SqL K F a vs) (r : RepL F vs ds) : Rep F (.ref a) (.rol ds)
  | dct {a : Addr} {vs : List (Key × V)} {ds : List (Key × Dt)} (h : F a = some (.dK vs)) (r : RepK F vs ds) : Rep F (.ref a) (.dct ds)
  | obj {a C dx : Addr} {c : Str} {vs : List (Str × V)} {ds : List (Str × Dt)} (hc : mg c = some (.ref C)) (h : F a = some (.ins C dx vs)) (hd : F dx = some (.own a)) (r : RepF F vs ds) : Rep F (.ref a) (.obj c ds)
inductive RepL (F : Hp) : List V → List Dt → Prop
  | nil : RepL F [] []
  | cons {v : V} {d : Dt} {vs : List V} {ds : List Dt} (h : Rep F v d) (r : RepL F vs ds) : RepL F (v :: vs) (d :: ds)
inductive RepK (F : Hp) : List (Key × V) → List (Key × Dt) → Prop
  | nil : RepK F [] []
  | cons {k : Key} {v : V} {d : Dt} {vs : List (Key × V)} {ds : List (Key × Dt)} (h : Rep F v d) (r : RepK F vs ds) : RepK F ((k, v) :: vs) ((k, d) :: ds)
inductive RepF (F : Hp) : List (Str × V) → List (Str × Dt) → Prop
  | nil : RepF F [] []
  | cons {k : Str} {v : V} {d : Dt} {vs : List (Str × V)} {ds : List (Str × Dt)} (h : Rep F v d) (r : RepF F vs ds) : RepF F ((k, v) :: vs) ((k, d) :: ds)
end
end

theorem same_seqL {K : PySem.W.Frag} {H H' : Hp} (s : Same H H') {a : Addr} {xs : List V} (h : SqL K H a xs) : SqL K H' a xs := s.seq h
theorem same_seqT {K : PySem.W.Frag} {H H' : Hp} (s : Same H H') {a : Addr} {xs : List V} (h : SqT K H a xs) : SqT K H' a xs := by
  rcases h with h | h
  · rcases h with h | ⟨o, h⟩
    · exact .inl (.inl (s _ _ h))
    · exact .inl (.inr ⟨o, s _ _ h⟩)
  · exact .inr h

section
variable {K : PySem.W.Frag} {mg : Str → Option Value} {F F' H : Hp}
mutual
theorem Rep.mono (s : Same F F') : ∀ {v : V} {d : Dt}, Rep K mg F v d → Rep K mg F' v d
  | _, _, .non => .non
  | _, _, .bl b => .bl b
  | _, _, .int i => .int i
  | _, _, .str x => .str x
  | _, _, .tup h r => .tup (same_seqT s h) (RepL.mono s r)
  | _, _, .lst h r => .lst (s _ _ h) (RepL.mono s r)
  | _, _, .rol h r => .rol (same_seqL s h) (RepL.mono s r)
  | _, _, .dct h r => .dct (s _ _ h) (RepK.mono s r)
  | _, _, .obj hc h hd r => .obj hc (s _ _ h) (s _ _ hd) (RepF.mono s r)
theorem RepL.mono (s : Same F F') : ∀ {v : List V} {d : List Dt}, RepL K mg F v d → RepL K mg F' v d
  | _, _, .nil => .nil
  | _, _, .cons h r => .cons (Rep.mono s h) (RepL.mono s r)
theorem RepK.mono (s : Same F F') : ∀ {v : List (Key × V)} {d : List (Key × Dt)}, RepK K mg F v d → RepK K mg F' v d
  | _, _, .nil => .nil
  | _, _, .cons h r => .cons (Rep.mono s h) (RepK.mono s r)
theorem RepF.mono (s : Same F F') : ∀ {v : List (Str × V)} {d : List (Str × Dt)}, RepF K mg F v d → RepF K mg F' v d
  | _, _, .nil => .nil
  | _, _, .cons h r => .cons (Rep.mono s h) (RepF.mono s r)
end
theorem RepL.length : ∀ {vs : List V} {ds : List Dt}, RepL K mg F vs ds → vs.length = ds.length
  | _, _, .nil => rfl
  | _, _, .cons _ r => congrArg (· + 1) (RepL.length r)
theorem RepL.get : ∀ {vs : List V} {ds : List Dt} {i : Nat} {d : Dt}, RepL K mg F vs ds → ds[i]? = some d → ∃ v, vs[i]? = some v ∧ Rep K mg F v d
  | _, _, i, d, .nil, e => by simp at e
  | _, _, 0, d, .cons h _, e => by simp at e; subst e; exact ⟨_, rfl, h⟩
  | _, _, i + 1, d, .cons _ r, e => by
    obtain ⟨v, e1, e2⟩ := RepL.get (i := i) (d := d) r (by simpa using e)
    exact ⟨v, by simpa using e1, e2⟩
theorem RepL.getV : ∀ {vs : List V} {ds : List Dt} {i : Nat} {v : V}, RepL K mg F vs ds → vs[i]? = some v → ∃ d, ds[i]? = some d ∧ Rep K mg F v d
  | _, _, i, d, .nil, e => by simp at e
  | _, _, 0, d, .cons h _, e => by simp at e; subst e; exact ⟨_, rfl, h⟩
  | _, _, i + 1, d, .cons _ r, e => by
    obtain ⟨v, e1, e2⟩ := RepL.getV (i := i) (v := d) r (by simpa using e)
    exact ⟨v, by simpa using e1, e2⟩
theorem RepL.append : ∀ {vs us : List V} {ds es : List Dt}, RepL K mg F vs ds → RepL K mg F us es → RepL K mg F (vs ++ us) (ds ++ es)
  | _, _, _, _, .nil, r => r
  | _, _, _, _, .cons h r, q => .cons h (RepL.append r q)
theorem RepL.take : ∀ {vs : List V} {ds : List Dt} (n : Nat), RepL K mg F vs ds → RepL K mg F (vs.take n) (ds.take n)
  | _, _, 0, _ => .nil
  | _, _, n + 1, .nil => .nil
  | _, _, n + 1, .cons h r => .cons h (RepL.take n r)
theorem RepL.drop : ∀ {vs : List V} {ds : List Dt} (n : Nat), RepL K mg F vs ds → RepL K mg F (vs.drop n) (ds.drop n)
  | _, _, 0, r => r
  | _, _, n + 1, .nil => .nil
  | _, _, n + 1, .cons h r => RepL.drop n r
theorem RepL.set : ∀ {vs : List V} {ds : List Dt} {v : V} {d : Dt} (n : Nat), RepL K mg F vs ds → Rep K mg F v d → RepL K mg F (vs.set n v) (ds.set n d)
  | _, _, _, _, _, .nil, _ => .nil
  | _, _, _, _, 0, .cons h r, q => .cons q r
  | _, _, _, _, n + 1, .cons h r, q => .cons h (RepL.set n r q)
theorem RepL.of_ints : ∀ (ns : List Int), RepL K mg F (ns.map V.int) (ns.map Dt.int)
  | [] => .nil
  | n :: r => .cons (.int n) (RepL.of_ints r)
end

/-- the state of a def: its slots (data, or one of its own objects by number), its own objects -/
inductive Zv where
  | dat (d : Dt) | ref (k : Nat)
structure Sg where
  sl : List (Option Zv)
  ob : List Ob
/-- what an expression hands back: data, an own object, a new object -/
inductive Rv where
  | dat (d : Dt) | ref (k : Nat) | new (o : Ob)
inductive Fl where
  | nx | bk | ct | rt (r : Rv)
/-- outcomes: a value and a state; an exception (class by its name, fields) and a state; no claim -/
inductive Rs (α : Type) where
  | ok (a : α) (s : Sg) | err (c : Str) (fs : List (Str × Dt)) (s : Sg) | bad
def Rs.bind {α β : Type} (r : Rs α) (f : α → Sg → Rs β) : Rs β :=
  match r with
  | .ok a s => f a s
  | .err c fs s => .err c fs s
  | .bad => .bad

section
variable (K : PySem.W.Frag) (mg : Str → Option Value)
def ObOk (F H : Hp) (a : Addr) : Ob → Prop
  | .lst ds => ∃ vs, H a = some (.lst vs) ∧ RepL K mg F vs ds
  | .dct ds => ∃ vs, H a = some (.dK vs) ∧ RepK K mg F vs ds
  | .ins c ds => ∃ C dx vs, mg c = some (.ref C) ∧ H a = some (.ins C dx vs) ∧ H dx = some (.own a) ∧ F dx = none ∧ RepF K mg F vs ds
  | .dead => True
def ZvOk (F : Hp) (ι : List Addr) (v : V) : Zv → Prop
  | .dat d => Rep K mg F v d
  | .ref k => ∃ a, ι[k]? = some a ∧ v = .ref a
/-- what holds of heap, frozen part and own addresses from a former point on -/
structure Ext (F H : Hp) (ι : List Addr) (F' H' : Hp) (ι' : List Addr) : Prop where
  f : Same F F'
  p : ∃ t, ι' = ι ++ t
  keep : ∀ b o, H b = some o → b ∉ ι → H' b = some o
  new : ∀ b o, F' b = some o → F b = some o ∨ H b = none ∨ b ∈ ι ∨ ∃ a, o = .own a ∧ (H a = none ∨ a ∈ ι)
  out : ∀ a ∈ ι', a ∈ ι ∨ H a = none
  dom : ∀ b, H b ≠ none → H' b ≠ none
structure StOk (F H : Hp) (ι : List Addr) (σ : L2.St) (s : Sg) : Prop where
  fh : Same F H
  nd : ι.Nodup
  ln : ι.length = s.ob.length
  th : ∀ a ∈ ι, H a ≠ none
  own : ∀ (k : Nat) a o, ι[k]? = some a → s.ob[k]? = some o → o ≠ .dead → F a = none ∧ ObOk K mg F H a o
  sz : σ.length = s.sl.length
  vr : ∀ (i : Nat) z, s.sl[i]? = some (some z) → ∃ v, σ[i]? = some (some v) ∧ ZvOk K mg F ι v z
/-- a value handed back; H: the heap ahead -/
def RvOk (H F' : Hp) (H' : Hp) (ι' : List Addr) (v : V) : Rv → Prop
  | .dat d => Rep K mg F' v d
  | .ref k => ∃ a, ι'[k]? = some a ∧ v = .ref a
  | .new o => ∃ p, v = .ref p ∧ H p = none ∧ F' p = none ∧ p ∉ ι' ∧ o ≠ .dead ∧ ObOk K mg F' H' p o
/-- an exception's class and dict -/
def ExOk (F H : Hp) (c : Str) (fs : List (Str × Dt)) (cls : Value) (d : Option Addr) : Prop :=
  (mg c = some cls ∧ (∃ C, cls = .ref C) ∧ ((d = none ∧ fs = []) ∨ ∃ dx vs, d = some dx ∧ H dx = some (.xd vs) ∧ RepF K mg F vs fs)) ∨ (mg c = none ∧ ∃ T, bootBuiltins c = some (.type T) ∧ cls = .type T ∧ d = none ∧ fs = [])
end

section
variable {K : PySem.W.Frag} {mg : Str → Option Value} {F F' F'' H H' H'' : Hp} {ι ι' ι'' : List Addr} {σ : L2.St} {s : Sg}
theorem Ext.refl : Ext F H ι F H ι := ⟨fun _ _ e => e, ⟨[], by simp⟩, fun _ _ e _ => e, fun _ _ e => .inl e, fun _ h => .inl h, fun _ h => h⟩
theorem Ext.sub (x : Ext F H ι F' H' ι') {a : Addr} (h : a ∈ ι) : a ∈ ι' := by
  obtain ⟨t, e⟩ := x.p
  rw [e]; exact List.mem_append_left _ h
theorem Ext.at (x : Ext F H ι F' H' ι') {a : Addr} {k : Nat} (h : ι[k]? = some a) : ι'[k]? = some a := by
  obtain ⟨t, e⟩ := x.p
  rw [e, List.getElem?_append_left (List.getElem?_eq_some_iff.mp h).1]; exact h
theorem Ext.free (x : Ext F H ι F' H' ι') {b : Addr} (h : H' b = none) : H b = none := by
  cases q : H b with
  | none => rfl
  | some u => exact absurd h (x.dom b (by rw [q]; intro z; cases z))
theorem Ext.trans (x : Ext F H ι F' H' ι') (y : Ext F' H' ι' F'' H'' ι'') : Ext F H ι F'' H'' ι'' := by
  have out : ∀ a ∈ ι', a ∈ ι ∨ H a = none := x.out
  refine ⟨fun b o e => y.f b o (x.f b o e), ?_, fun b o e hb => ?_, fun b o e => ?_, fun a ha => ?_, fun b hb => y.dom b (x.dom b hb)⟩
  · obtain ⟨t, e⟩ := x.p
    obtain ⟨u, e'⟩ := y.p
    exact ⟨t ++ u, by rw [e', e, List.append_assoc]⟩
  · refine y.keep b o (x.keep b o e hb) fun h => ?_
    rcases x.out b h with h | h
    · exact hb h
    · rw [e] at h; cases h
  · rcases y.new b o e with e | e | e | ⟨a, ea, e⟩
    · exact x.new b o e
    · exact .inr (.inl (x.free e))
    · rcases out b e with h | h
      · exact .inr (.inr (.inl h))
      · exact .inr (.inl h)
    · refine .inr (.inr (.inr ⟨a, ea, ?_⟩))
      rcases e with e | e
      · exact .inl (x.free e)
      · rcases out a e with h | h
        · exact .inr h
        · exact .inl h
  · rcases y.out a ha with h | h
    · exact x.out a h
    · exact .inr (x.free h)
theorem ZvOk.mono {v : V} {z : Zv} (x : Ext F H ι F' H' ι') (h : ZvOk K mg F ι v z) : ZvOk K mg F' ι' v z := by
  cases z with
  | dat d => exact Rep.mono x.f h
  | ref k => obtain ⟨a, e, q⟩ := h; exact ⟨a, x.at e, q⟩
end

/-! ### judgements -/
theorem _root_.L2.PE.imp {X : Cx} {e : Expr} {t t' : TE} (h : PE X e t) (f : ∀ σ H Q, t' σ H Q → t σ H Q) : PE X e t' := ⟨fun pins s σ H Q I q => h.run pins s σ H Q I (f _ _ _ q)⟩
theorem _root_.L2.PT.imp {X : Cx} {e : Expr} {t t' : TT} (h : PT X e t) (f : ∀ σ H Q, t' σ H Q → t σ H Q) : PT X e t' := ⟨fun pins s σ H Q I q => h.run pins s σ H Q I (f _ _ _ q)⟩
theorem _root_.L2.PA.imp {X : Cx} {e : List Expr} {t t' : TA} (h : PA X e t) (f : ∀ σ H Q, t' σ H Q → t σ H Q) : PA X e t' := ⟨fun pos pins s σ H Q I q => h.run pos pins s σ H Q I (f _ _ _ q)⟩
theorem _root_.L2.PS.imp {X : Cx} {e : Stmt} {t t' : TS} (h : PS X e t) (f : ∀ D σ H, t' D σ H → t D σ H) : PS X e t' := ⟨fun pins s σ H D I q => h.run pins s σ H D I (f _ _ _ q)⟩
theorem _root_.L2.PSs.imp {X : Cx} {e : List Stmt} {t t' : TS} (h : PSs X e t) (f : ∀ D σ H, t' D σ H → t D σ H) : PSs X e t' := ⟨fun pins s σ H D I q => h.run pins s σ H D I (f _ _ _ q)⟩
theorem _root_.L2.PG.imp {X : Cx} {e : Expr} {t t' : TG} (h : PG X e t) (f : ∀ v σ H Q, t' v σ H Q → t v σ H Q) : PG X e t' := ⟨fun pins s σ H v u Q I r q => h.run pins s σ H v u Q I r (f _ _ _ _ q)⟩
theorem _root_.L2.PGs.imp {X : Cx} {e : List Expr} {t t' : TGs} (h : PGs X e t) (f : ∀ v σ H Q, t' v σ H Q → t v σ H Q) : PGs X e t' := ⟨fun pins s σ H v u Q I r q => h.run pins s σ H v u Q I r (f _ _ _ _ q)⟩

abbrev SE := Sg → Rs Rv
abbrev SZ := Sg → Rs Zv
abbrev SA := Sg → Rs (List Zv)
abbrev STs := Sg → Rs Bool
abbrev SS := Sg → Rs Fl
abbrev SG := Dt → Sg → Rs Unit

section
variable (K : PySem.W.Frag) (mg : Str → Option Value) (W : WX)
/-- what is wanted behind an outcome: Q of the value, the state, the new frozen part, heap, own addresses -/
def Post {α : Type} (F H : Hp) (ι : List Addr) (σ : L2.St) (r : Rs α) (Q : α → Sg → Hp → Hp → List Addr → Prop) : Prop :=
  match r with
  | .ok a s' => ∀ F' H' ι', StOk K mg F' H' ι' σ s' → Ext F H ι F' H' ι' → Q a s' F' H' ι'
  | .err c fs s' => ∀ F' H' ι' cls d, StOk K mg F' H' ι' σ s' → Ext F H ι F' H' ι' → ExOk K mg F' H' c fs cls d → W cls d σ H'
  | .bad => False
def tE (g : SE) : TE := fun σ H Q => ∃ F ι s, StOk K mg F H ι σ s ∧ Post K mg W F H ι σ (g s) fun r s' F' H' ι' => ∀ v, RvOk K mg H F' H' ι' v r → Q v H'
def tZ (g : SZ) : TE := fun σ H Q => ∃ F ι s, StOk K mg F H ι σ s ∧ Post K mg W F H ι σ (g s) fun z s' F' H' ι' => ∀ v, ZvOk K mg F' ι' v z → Q v H'
def tT (g : STs) : TT := fun σ H Q => ∃ F ι s, StOk K mg F H ι σ s ∧ Post K mg W F H ι σ (g s) fun b s' F' H' ι' => Q b H'
def ZvsOk (F : Hp) (ι : List Addr) : List V → List Zv → Prop
  | [], [] => True
  | v :: vs, z :: zs => ZvOk K mg F ι v z ∧ ZvsOk F ι vs zs
  | _, _ => False
def tA (g : SA) : TA := fun σ H Q => ∃ F ι s, StOk K mg F H ι σ s ∧ Post K mg W F H ι σ (g s) fun zs s' F' H' ι' => ∀ vs, ZvsOk K mg F' ι' vs zs → Q vs H'
end
section
variable {K : PySem.W.Frag} {mg : Str → Option Value} {W : WX} {F F0 F1 H H0 H1 : Hp} {ι ι0 ι1 : List Addr} {σ : L2.St} {s : Sg} {α β : Type}
/-- a step from a base further back -/
theorem Post.base {r : Rs α} {Q : α → Sg → Hp → Hp → List Addr → Prop} (x : Ext F0 H0 ι0 F H ι) (p : Post K mg W F0 H0 ι0 σ r Q) : Post K mg W F H ι σ r Q := by
  cases r with
  | ok a s' => exact fun F' H' ι' st y => p F' H' ι' st (x.trans y)
  | err c fs s' => exact fun F' H' ι' cls d st y => p F' H' ι' cls d st (x.trans y)
  | bad => exact p
theorem Post.imp {r : Rs α} {Q Q' : α → Sg → Hp → Hp → List Addr → Prop} (p : Post K mg W F H ι σ r Q) (h : ∀ a s' F' H' ι', StOk K mg F' H' ι' σ s' → Ext F H ι F' H' ι' → Q a s' F' H' ι' → Q' a s' F' H' ι') : Post K mg W F H ι σ r Q' := by
  cases r with
  | ok a s' => exact fun F' H' ι' st y => h _ _ _ _ _ st y (p F' H' ι' st y)
  | err c fs s' => exact p
  | bad => exact p
theorem Post.bind {r : Rs α} {f : α → Sg → Rs β} {Q : β → Sg → Hp → Hp → List Addr → Prop} (p : Post K mg W F H ι σ (r.bind f) Q) : Post K mg W F H ι σ r fun a s' F' H' ι' => Post K mg W F H ι σ (f a s') Q := by
  cases r with
  | ok a s' => exact fun F' H' ι' st y => p
  | err c fs s' => exact p
  | bad => exact p
def optR {α β : Type} (o : Option α) (f : α → Rs β) : Rs β :=
  match o with
  | some a => f a
  | none => .bad
theorem Post.opt {o : Option α} {f : α → Rs β} {Q : β → Sg → Hp → Hp → List Addr → Prop} (p : Post K mg W F H ι σ (optR o f) Q) : ∃ a, o = some a ∧ Post K mg W F H ι σ (f a) Q := by
  cases o with
  | none => exact p.elim
  | some a => exact ⟨a, rfl, p⟩
theorem Post.ite {c : Prop} [Decidable c] {r : Rs β} {Q : β → Sg → Hp → Hp → List Addr → Prop} (p : Post K mg W F H ι σ (if c then r else .bad) Q) : c ∧ Post K mg W F H ι σ r Q := by
  by_cases h : c
  · rw [if_pos h] at p; exact ⟨h, p⟩
  · rw [if_neg h] at p; exact p.elim
/-- first an expression, then what follows -/
theorem seqE {g : SE} {f : Rv → Sg → Rs β} {Q : β → Sg → Hp → Hp → List Addr → Prop} {T : VK} (st : StOk K mg F H ι σ s) (x : Ext F0 H0 ι0 F H ι) (p : Post K mg W F0 H0 ι0 σ ((g s).bind f) Q)
    (h : ∀ v r s1 F1 H1 ι1, StOk K mg F1 H1 ι1 σ s1 → Ext F H ι F1 H1 ι1 → RvOk K mg H F1 H1 ι1 v r → Post K mg W F0 H0 ι0 σ (f r s1) Q → T v H1) : tE K mg W g σ H T :=
  ⟨F, ι, s, st, (p.bind.base x).imp fun a s' F' H' ι' st' y q v rv => h v a s' F' H' ι' st' y rv q⟩
theorem seqZ {g : SZ} {f : Zv → Sg → Rs β} {Q : β → Sg → Hp → Hp → List Addr → Prop} {T : VK} (st : StOk K mg F H ι σ s) (x : Ext F0 H0 ι0 F H ι) (p : Post K mg W F0 H0 ι0 σ ((g s).bind f) Q)
    (h : ∀ v r s1 F1 H1 ι1, StOk K mg F1 H1 ι1 σ s1 → Ext F H ι F1 H1 ι1 → ZvOk K mg F1 ι1 v r → Post K mg W F0 H0 ι0 σ (f r s1) Q → T v H1) : tZ K mg W g σ H T :=
  ⟨F, ι, s, st, (p.bind.base x).imp fun a s' F' H' ι' st' y q v rv => h v a s' F' H' ι' st' y rv q⟩
theorem seqT {g : STs} {f : Bool → Sg → Rs β} {Q : β → Sg → Hp → Hp → List Addr → Prop} {T : Bool → Hp → Prop} (st : StOk K mg F H ι σ s) (x : Ext F0 H0 ι0 F H ι) (p : Post K mg W F0 H0 ι0 σ ((g s).bind f) Q)
    (h : ∀ b s1 F1 H1 ι1, StOk K mg F1 H1 ι1 σ s1 → Ext F H ι F1 H1 ι1 → Post K mg W F0 H0 ι0 σ (f b s1) Q → T b H1) : tT K mg W g σ H T :=
  ⟨F, ι, s, st, (p.bind.base x).imp fun a s' F' H' ι' st' y q => h a s' F' H' ι' st' y q⟩
theorem seqA {g : SA} {f : List Zv → Sg → Rs β} {Q : β → Sg → Hp → Hp → List Addr → Prop} {T : List V → Hp → Prop} (st : StOk K mg F H ι σ s) (x : Ext F0 H0 ι0 F H ι) (p : Post K mg W F0 H0 ι0 σ ((g s).bind f) Q)
    (h : ∀ vs zs s1 F1 H1 ι1, StOk K mg F1 H1 ι1 σ s1 → Ext F H ι F1 H1 ι1 → ZvsOk K mg F1 ι1 vs zs → Post K mg W F0 H0 ι0 σ (f zs s1) Q → T vs H1) : tA K mg W g σ H T :=
  ⟨F, ι, s, st, (p.bind.base x).imp fun a s' F' H' ι' st' y q v rv => h v a s' F' H' ι' st' y rv q⟩
end

/-! ### freezing what is new -/
def Ob.dt : Ob → Option Dt
  | .lst ds => some (.lst ds)
  | .dct ds => some (.dct ds)
  | .ins c fs => some (.obj c fs)
  | .dead => none
def Rv.z : Rv → Option Zv
  | .dat d => some (.dat d)
  | .ref k => some (.ref k)
  | .new o => o.dt.map .dat
/-- an expression, frozen -/
def zE (g : SE) : SZ := fun s => (g s).bind fun r s' => match r.z with
  | some z => .ok z s'
  | none => .bad
section
variable {K : PySem.W.Frag} {mg : Str → Option Value} {W : WX} {F F0 F1 H H0 H1 : Hp} {ι ι0 ι1 : List Addr} {σ : L2.St} {s : Sg} {α β : Type}
theorem ObOk.monoF {a : Addr} {o : Ob} (hs : Same F F1) (hn : ∀ C dx vs, H a = some (.ins C dx vs) → H dx = some (.own a) → F dx = none → F1 dx = none) (h : ObOk K mg F H a o) : ObOk K mg F1 H a o := by
  cases o with
  | lst ds => obtain ⟨vs, e, r⟩ := h; exact ⟨vs, e, RepL.mono hs r⟩
  | dct ds => obtain ⟨vs, e, r⟩ := h; exact ⟨vs, e, RepK.mono hs r⟩
  | ins c ds => obtain ⟨C, dx, vs, hc, e, hd, hf, r⟩ := h; exact ⟨C, dx, vs, hc, e, hd, hn C dx vs e hd hf, RepF.mono hs r⟩
  | dead => exact True.intro
/-- the frozen part grows by places that are no own object's nor its dict's -/
theorem StOk.moreF (st : StOk K mg F H ι σ s) (hs : Same F F1) (h1 : Same F1 H) (ha : ∀ (k : Nat) a o, ι[k]? = some a → s.ob[k]? = some o → o ≠ .dead → F1 a = none)
    (hd : ∀ a dx, a ∈ ι → H dx = some (.own a) → F dx = none → F1 dx = none) : StOk K mg F1 H ι σ s where
  fh := h1
  nd := st.nd
  ln := st.ln
  th := st.th
  own := fun k a o e1 e2 nd => ⟨ha k a o e1 e2 nd, (st.own k a o e1 e2 nd).2.monoF hs fun C dx vs _ e f => hd a dx (List.mem_of_getElem? e1) e f⟩
  sz := st.sz
  vr := fun i z e => by
    obtain ⟨v, e1, q⟩ := st.vr i z e
    refine ⟨v, e1, ?_⟩
    cases z with
    | dat d => exact Rep.mono hs q
    | ref k => exact q
/-- one place more is frozen -/
theorem freeze1 {p : Addr} {u : HO} (st : StOk K mg F1 H1 ι1 σ s) (x : Ext F H ι F1 H1 ι1) (hp : H p = none ∨ ∃ a, u = .own a ∧ (H a = none ∨ a ∈ ι)) (fp : F1 p = none) (np : ∀ (k : Nat) o, ι1[k]? = some p → s.ob[k]? = some o → o ≠ .dead → False) (e : H1 p = some u) (hu : ∀ a, u = .own a → a ∉ ι1) :
    StOk K mg (upd F1 p u) H1 ι1 σ s ∧ Ext F H ι (upd F1 p u) H1 ι1 ∧ Same F1 (upd F1 p u) := by
  have sm : Same F1 (upd F1 p u) := fun b q eb => by rw [upd_ne (ne_of_none eb fp)]; exact eb
  have sh : Same (upd F1 p u) H1 := fun b q eb => by
    by_cases hb : b = p
    · subst hb; rw [upd_same] at eb; cases eb; exact e
    · rw [upd_ne hb] at eb; exact st.fh b q eb
  refine ⟨st.moreF sm sh (fun k a o e1 e2 nd => ?_) (fun a dx ha e1 f => ?_), ⟨fun b q eb => sm b q (x.f b q eb), x.p, x.keep, fun b q eb => ?_, x.out, x.dom⟩, sm⟩
  · have : a ≠ p := fun z => np k o (z ▸ e1) e2 nd
    rw [upd_ne this]; exact (st.own k a o e1 e2 nd).1
  · by_cases hb : dx = p
    · subst hb
      rw [e] at e1; cases e1
      exact absurd ha (hu a rfl)
    · rw [upd_ne hb]; exact f
  · by_cases hb : b = p
    · subst hb
      rw [upd_same] at eb
      cases eb
      rcases hp with hp | hp
      · exact .inr (.inl hp)
      · exact .inr (.inr (.inr hp))
    · rw [upd_ne hb] at eb; exact x.new b q eb
theorem freeze {v : V} {r : Rv} {z : Zv} (st : StOk K mg F1 H1 ι1 σ s) (x : Ext F H ι F1 H1 ι1) (rv : RvOk K mg H F1 H1 ι1 v r) (hz : r.z = some z) :
    ∃ F2, StOk K mg F2 H1 ι1 σ s ∧ Ext F H ι F2 H1 ι1 ∧ Same F1 F2 ∧ ZvOk K mg F2 ι1 v z := by
  cases r with
  | dat d => cases hz; exact ⟨F1, st, x, fun _ _ e => e, rv⟩
  | ref k => cases hz; exact ⟨F1, st, x, fun _ _ e => e, rv⟩
  | new o =>
    obtain ⟨p, rfl, hp, fp, np, nd, ok⟩ := rv
    cases o with
    | lst ds =>
      cases hz
      obtain ⟨vs, e, r⟩ := ok
      obtain ⟨a, b, sm⟩ := freeze1 st x (.inl hp) fp (fun k o e1 _ _ => np (List.mem_of_getElem? e1)) e (fun a z => nomatch z)
      exact ⟨_, a, b, sm, Rep.lst upd_same (RepL.mono sm r)⟩
    | dct ds =>
      cases hz
      obtain ⟨vs, e, r⟩ := ok
      obtain ⟨a, b, sm⟩ := freeze1 st x (.inl hp) fp (fun k o e1 _ _ => np (List.mem_of_getElem? e1)) e (fun a z => nomatch z)
      exact ⟨_, a, b, sm, Rep.dct upd_same (RepK.mono sm r)⟩
    | ins c ds =>
      cases hz
      obtain ⟨C, dx, vs, hc, e, hd, hf, r⟩ := ok
      have ne : p ≠ dx := ne_of e hd (by intro z; cases z)
      obtain ⟨a, b, sm⟩ := freeze1 st x (.inl hp) fp (fun k o e1 _ _ => np (List.mem_of_getElem? e1)) e (fun a z => nomatch z)
      have own : ∀ (k : Nat) o, ι1[k]? = some dx → s.ob[k]? = some o → o ≠ .dead → False := fun k o e1 e2 nd' => by
        have ok' := (st.own k dx o e1 e2 nd').2
        cases o with
        | lst ds => obtain ⟨vs, e', _⟩ := ok'; rw [hd] at e'; cases e'
        | dct ds => obtain ⟨vs, e', _⟩ := ok'; rw [hd] at e'; cases e'
        | ins c ds => obtain ⟨_, _, vs, _, e', _⟩ := ok'; rw [hd] at e'; cases e'
        | dead => exact nd' rfl
      obtain ⟨a2, b2, sm2⟩ := freeze1 a b (.inr ⟨p, rfl, .inl hp⟩) (by rw [upd_ne ne.symm]; exact hf) own hd (fun q z => by cases z; exact np)
      refine ⟨_, a2, b2, fun b o e => sm2 b o (sm b o e), Rep.obj (dx := dx) hc (by rw [upd_ne ne]; exact upd_same) upd_same (RepF.mono (fun b o e => sm2 b o (sm b o e)) r)⟩
    | dead => exact absurd rfl nd
theorem RvOk.base {v : V} {r : Rv} (x : Ext F0 H0 ι0 F H ι) (h : RvOk K mg H F1 H1 ι1 v r) : RvOk K mg H0 F1 H1 ι1 v r := by
  cases r with
  | dat d => exact h
  | ref k => exact h
  | new o => obtain ⟨p, e, hp, r⟩ := h; exact ⟨p, e, x.free hp, r⟩
end
end HD
set_option maxHeartbeats 1000000
/-! HD2: expressions. -/
namespace HD
open PySem PySem.Spec PyProof.Rows L2

/-- what an operation on data gives: a value, a new list, a new tuple -/
inductive Rd where
  | val (d : Dt) | newL (ds : List Dt) | newT (ds : List Dt)
def rdR (o : Rd) (s : Sg) : Rs Rv :=
  match o with
  | .val d => .ok (.dat d) s
  | .newL ds => .ok (.new (.lst ds)) s
  | .newT ds => .ok (.dat (.tup ds)) s
/-- an operand as data, as it is now -/
def vw (s : Sg) : Zv → Option Dt
  | .dat d => some d
  | .ref k => (s.ob[k]?).bind Ob.dt
def vwL (s : Sg) : List Zv → Option (List Dt)
  | [] => some []
  | z :: zs => (vw s z).bind fun d => (vwL s zs).map (d :: ·)

section
variable (K : PySem.W.Frag) (mg : Str → Option Value)
/-- v may be read as d -/
inductive Vu (F H : Hp) : V → Dt → Prop
  | fz {v : V} {d : Dt} (r : Rep K mg F v d) : Vu F H v d
  | lst {a : Addr} {vs : List V} {ds : List Dt} (h : H a = some (.lst vs)) (r : RepL K mg F vs ds) : Vu F H (.ref a) (.lst ds)
  | dct {a : Addr} {vs : List (Key × V)} {ds : List (Key × Dt)} (h : H a = some (.dK vs)) (r : RepK K mg F vs ds) : Vu F H (.ref a) (.dct ds)
  | obj {a C dx : Addr} {c : Str} {vs : List (Str × V)} {ds : List (Str × Dt)} (hc : mg c = some (.ref C)) (h : H a = some (.ins C dx vs)) (hd : H dx = some (.own a)) (r : RepF K mg F vs ds) : Vu F H (.ref a) (.obj c ds)
inductive VuL (F H : Hp) : List V → List Dt → Prop
  | nil : VuL F H [] []
  | cons {v : V} {d : Dt} {vs : List V} {ds : List Dt} (h : Vu K mg F H v d) (r : VuL F H vs ds) : VuL F H (v :: vs) (d :: ds)
def RdOk (F H H' : Hp) (v : V) : Rd → Prop
  | .val d => H' = H ∧ Rep K mg F v d
  | .newL ds => ∃ p vs, v = .ref p ∧ H p = none ∧ H' = upd H p (.lst vs) ∧ RepL K mg F vs ds
  | .newT ds => ∃ p vs, v = .ref p ∧ H p = none ∧ H' = upd H p (.tup vs) ∧ RepL K mg F vs ds
def OpD (r : R2) (f : Dt → Dt → Option Rd) : Prop := ∀ (F H : Hp) (x y : V) (d e : Dt) (o : Rd) (Q : VK), Same F H → Vu K mg F H x d → Vu K mg F H y e → f d e = some o → (∀ v H', RdOk K mg F H H' v o → Q v H') → r x y H Q
def UnD (r : V → Hp → VK → Prop) (f : Dt → Option Rd) : Prop := ∀ (F H : Hp) (x : V) (d : Dt) (o : Rd) (Q : VK), Same F H → Vu K mg F H x d → f d = some o → (∀ v H', RdOk K mg F H H' v o → Q v H') → r x H Q
def CallD (r : List V → Hp → VK → Prop) (f : List Dt → Option Rd) : Prop := ∀ (F H : Hp) (xs : List V) (ds : List Dt) (o : Rd) (Q : VK), Same F H → VuL K mg F H xs ds → f ds = some o → (∀ v H', RdOk K mg F H H' v o → Q v H') → r xs H Q
end

section
variable {K : PySem.W.Frag} {mg : Str → Option Value} {W : WX} {F F0 F1 H H0 H1 : Hp} {ι ι0 ι1 : List Addr} {σ : L2.St} {s : Sg} {α β : Type}
theorem vu_of {v : V} {z : Zv} {d : Dt} (st : StOk K mg F H ι σ s) (h : ZvOk K mg F ι v z) (e : vw s z = some d) : Vu K mg F H v d := by
  cases z with
  | dat d' => cases e; exact .fz h
  | ref k =>
    obtain ⟨a, ea, rfl⟩ := h
    obtain ⟨o, eo, ed⟩ := Option.bind_eq_some_iff.mp e
    cases o with
    | lst ds => cases ed; obtain ⟨vs, e1, r⟩ := (st.own k a _ ea eo (by intro z; cases z)).2; exact .lst e1 r
    | dct ds => cases ed; obtain ⟨vs, e1, r⟩ := (st.own k a _ ea eo (by intro z; cases z)).2; exact .dct e1 r
    | ins c ds => cases ed; obtain ⟨C, dx, vs, hc, e1, hd, _, r⟩ := (st.own k a _ ea eo (by intro z; cases z)).2; exact .obj hc e1 hd r
    | dead => cases ed
theorem vuL_of (st : StOk K mg F H ι σ s) : ∀ {vs : List V} {zs : List Zv} {ds : List Dt}, ZvsOk K mg F ι vs zs → vwL s zs = some ds → VuL K mg F H vs ds
  | [], [], _, _, e => by cases e; exact .nil
  | v :: vs, z :: zs, ds, ⟨h, hs⟩, e => by
    obtain ⟨d, e1, e2⟩ := Option.bind_eq_some_iff.mp e
    obtain ⟨ds', e3, e4⟩ := Option.map_eq_some_iff.mp e2
    subst e4
    exact .cons (vu_of st h e1) (vuL_of st hs e3)
  | [], _ :: _, _, h, _ => h.elim
  | _ :: _, [], _, h, _ => h.elim
theorem ZvsOk.mono (x : Ext F H ι F1 H1 ι1) : ∀ {vs : List V} {zs : List Zv}, ZvsOk K mg F ι vs zs → ZvsOk K mg F1 ι1 vs zs
  | [], [], _ => True.intro
  | _ :: _, _ :: _, ⟨h, hs⟩ => ⟨h.mono x, ZvsOk.mono x hs⟩
  | [], _ :: _, h => h.elim
  | _ :: _, [], h => h.elim
theorem Vu.lstOf {v : V} {ds : List Dt} (h : Vu K mg F H v (.lst ds)) (sm : Same F H) : ∃ a vs, v = .ref a ∧ H a = some (.lst vs) ∧ RepL K mg F vs ds := by
  cases h with
  | fz r => cases r with | lst h r => exact ⟨_, _, rfl, sm _ _ h, r⟩
  | lst h r => exact ⟨_, _, rfl, h, r⟩
theorem Vu.tupOf {v : V} {ds : List Dt} (h : Vu K mg F H v (.tup ds)) (sm : Same F H) : ∃ a vs, v = .ref a ∧ SqT K H a vs ∧ RepL K mg F vs ds := by
  cases h with
  | fz r => cases r with | tup h r => exact ⟨_, _, rfl, same_seqT sm h, r⟩
theorem Vu.rolOf {v : V} {ds : List Dt} (h : Vu K mg F H v (.rol ds)) (sm : Same F H) : ∃ a vs, v = .ref a ∧ SqL K H a vs ∧ RepL K mg F vs ds := by
  cases h with
  | fz r => cases r with | rol h r => exact ⟨_, _, rfl, same_seqL sm h, r⟩
theorem Vu.intOf {v : V} {i : Int} (h : Vu K mg F H v (.int i)) : v = .int i := by
  cases h with
  | fz r => cases r; rfl
theorem Vu.blOf {v : V} {i : Bool} (h : Vu K mg F H v (.bl i)) : v = .bl i := by
  cases h with
  | fz r => cases r; rfl
theorem Vu.strOf {v : V} {i : Str} (h : Vu K mg F H v (.str i)) : v = .str i := by
  cases h with
  | fz r => cases r; rfl
theorem Vu.nonOf {v : V} (h : Vu K mg F H v .non) : v = .non := by
  cases h with
  | fz r => cases r; rfl
theorem ObOk.monoH {a : Addr} {o : Ob} (hs : Same H H1) (h : ObOk K mg F H a o) : ObOk K mg F H1 a o := by
  cases o with
  | lst ds => obtain ⟨vs, e, r⟩ := h; exact ⟨vs, hs _ _ e, r⟩
  | dct ds => obtain ⟨vs, e, r⟩ := h; exact ⟨vs, hs _ _ e, r⟩
  | ins c ds => obtain ⟨C, dx, vs, hc, e, hd, hf, r⟩ := h; exact ⟨C, dx, vs, hc, hs _ _ e, hs _ _ hd, hf, r⟩
  | dead => exact True.intro
theorem same_upd {p : Addr} {o : HO} (h : H p = none) : Same H (upd H p o) := fun b x e => by rw [upd_ne (ne_of_none e h)]; exact e
theorem same_trans {A B C : Hp} (x : Same A B) (y : Same B C) : Same A C := fun b o e => y b o (x b o e)
/-- a new object is laid -/
theorem StOk.laid {p : Addr} {o : HO} (st : StOk K mg F H ι σ s) (hp : H p = none) : StOk K mg F (upd H p o) ι σ s where
  fh := same_trans st.fh (same_upd hp)
  nd := st.nd
  ln := st.ln
  th := fun a ha => by
    have := st.th a ha
    unfold upd
    split
    · intro z; cases z
    · exact this
  own := fun k a o e1 e2 nd => ⟨(st.own k a o e1 e2 nd).1, (st.own k a o e1 e2 nd).2.monoH (same_upd hp)⟩
  sz := st.sz
  vr := st.vr
theorem Ext.laid {p : Addr} {o : HO} (hp : H p = none) : Ext F H ι F (upd H p o) ι :=
  ⟨fun _ _ e => e, ⟨[], by simp⟩, fun b q e _ => same_upd hp b q e, fun _ _ e => .inl e, fun _ h => .inl h, fun b hb => by
    unfold upd
    split
    · intro z; cases z
    · exact hb⟩
theorem StOk.nin {p : Addr} (st : StOk K mg F H ι σ s) (hp : H p = none) : p ∉ ι := fun z => st.th p z hp
theorem StOk.fnone {p : Addr} (st : StOk K mg F H ι σ s) (hp : H p = none) : F p = none := by
  cases q : F p with
  | none => rfl
  | some u => rw [st.fh p u q] at hp; cases hp
/-- the end of an operation -/
theorem finR {o : Rd} {v : V} {H' : Hp} {Q : VK} (st : StOk K mg F H ι σ s) (x : Ext F0 H0 ι0 F H ι) (h : RdOk K mg F H H' v o)
    (p : Post K mg W F0 H0 ι0 σ (rdR o s) fun r s' F' H' ι' => ∀ v, RvOk K mg H0 F' H' ι' v r → Q v H') : Q v H' := by
  cases o with
  | val d =>
    obtain ⟨rfl, r⟩ := h
    exact p F H' ι st x v r
  | newL ds =>
    obtain ⟨a, vs, rfl, hp, rfl, r⟩ := h
    exact p F _ ι (st.laid hp) (x.trans (Ext.laid hp)) _ ⟨a, rfl, x.free hp, st.fnone hp, st.nin hp, (by intro z; cases z), ⟨vs, upd_same, r⟩⟩
  | newT ds =>
    obtain ⟨a, vs, rfl, hp, rfl, r⟩ := h
    have st1 := st.laid (o := .tup vs) hp
    have x1 := x.trans (Ext.laid (o := .tup vs) hp)
    obtain ⟨a1, b1, sm⟩ := freeze1 (u := .tup vs) st1 x1 (.inl (x.free hp)) (st.fnone hp) (fun k o e1 _ _ => st.nin hp (List.mem_of_getElem? e1)) upd_same (fun a z => nomatch z)
    exact p _ _ ι a1 b1 _ (Rep.tup (.inl (.inl upd_same)) (RepL.mono sm r))
end

/-! ### the judgements -/
structure DE (X : Cx) (W : WX) (e : Expr) (g : SE) : Prop where
  pe : PE X e (tE X.K X.mg W g)
structure DZ (X : Cx) (W : WX) (e : Expr) (g : SZ) : Prop where
  pe : PE X e (tZ X.K X.mg W g)
structure DT (X : Cx) (W : WX) (e : Expr) (g : STs) : Prop where
  pe : PT X e (tT X.K X.mg W g)
structure DW (X : Cx) (W : WX) (e : Expr) (g : STs) : Prop where
  pe : PW X e (tT X.K X.mg W g)
structure DA (X : Cx) (W : WX) (es : List Expr) (g : SA) : Prop where
  pe : PA X es (tA X.K X.mg W g)

section
variable {X : Cx} {W : WX} {a b c e : Expr} {es : List Expr} {pos : Pos} {ga gb gc : SZ} {g : SE} {gs : SA} {ta tb tc : STs}
/-- a value is frozen -/
theorem DE.z (h : DE X W e g) : DZ X W e (zE g) := ⟨h.pe.imp fun σ H Q q => by
  obtain ⟨F, ι, s, st, p⟩ := q
  refine seqE st Ext.refl p fun v r s1 F1 H1 ι1 st1 x rv q => ?_
  cases hz : r.z with
  | none => rw [hz] at q; exact q.elim
  | some z =>
    rw [hz] at q
    obtain ⟨F2, st2, x2, _, zv⟩ := freeze st1 x rv hz
    exact q F2 H1 ι1 st2 x2 v zv⟩
def Zv.r : Zv → Rv
  | .dat d => .dat d
  | .ref k => .ref k
/-- a name -/
def eV (i : Nat) : SE := fun s => match s.sl[i]? with
  | some (some z) => .ok z.r s
  | _ => .bad
theorem de_var {i : Nat} {x : Str} (hN : X.N[i]? = some x) (hv : Vis X.env.scope x) (hd : (x == ("__debug__" : Str)) = false := by decide) (hcd : (x == ("__classdict__" : Str)) = false := by decide) : DE X W (.Name x pos) (eV i) := ⟨(pe_var hN hv hd hcd).imp fun σ H Q q => by
  obtain ⟨F, ι, s, st, p⟩ := q
  unfold eV at p
  split at p
  · rename_i z e
    obtain ⟨v, e1, r⟩ := st.vr i z e
    refine ⟨v, e1, p F H ι st Ext.refl v ?_⟩
    cases z with
    | dat d => exact r
    | ref k => exact r
  · exact p.elim⟩
/-- a constant -/
def eC (d : Dt) : SE := fun s => .ok (.dat d) s
theorem de_of_c {t : TE} {v : V} {d : Dt} (h : PE X e (tC v)) (r : ∀ F, Rep X.K X.mg F v d) : DE X W e (eC d) := ⟨h.imp fun σ H Q q => by
  obtain ⟨F, ι, s, st, p⟩ := q
  exact p F H ι st Ext.refl v (r F)⟩
theorem de_int {i : Int} {j : Nat} : DE X W (.Constant (.int i) j pos) (eC (.int i)) := de_of_c (t := tC .non) pe_int fun _ => .int i
theorem de_bl {i : Bool} {j : Nat} : DE X W (.Constant (.bool i) j pos) (eC (.bl i)) := de_of_c (t := tC .non) pe_bl fun _ => .bl i
theorem de_str {i : Str} {j : Nat} : DE X W (.Constant (.str i) j pos) (eC (.str i)) := de_of_c (t := tC .non) pe_str fun _ => .str i
theorem de_non {j : Nat} : DE X W (.Constant .none j pos) (eC .non) := de_of_c (t := tC .non) pe_non fun _ => .non
/-- two operands -/
def bin (f : Dt → Dt → Option Rd) (ga gb : SZ) : SE := fun s => (ga s).bind fun z1 s1 => (gb s1).bind fun z2 s2 => optR (vw s2 z1) fun d => optR (vw s2 z2) fun e => optR (f d e) fun o => rdR o s2
theorem bin_ok {r : R2} {f : Dt → Dt → Option Rd} (hd : OpD X.K X.mg r f) {σ : L2.St} {H : Hp} {Q : VK} (q : tE X.K X.mg W (bin f ga gb) σ H Q) : tOp r (tZ X.K X.mg W ga) (tZ X.K X.mg W gb) σ H Q := by
  obtain ⟨F, ι, s, st, p⟩ := q
  refine seqZ st Ext.refl p fun v z1 s1 F1 H1 ι1 st1 x1 r1 q1 => ?_
  refine seqZ st1 x1 q1 fun u z2 s2 F2 H2 ι2 st2 x2 r2 q2 => ?_
  obtain ⟨d, e1, q2⟩ := q2.opt
  obtain ⟨e, e2, q2⟩ := q2.opt
  obtain ⟨o, e3, q2⟩ := q2.opt
  exact hd F2 H2 v u d e o Q st2.fh (vu_of st2 (r1.mono x2) e1) (vu_of st2 r2 e2) e3 fun v' H' ok => finR st2 (x1.trans x2) ok q2
theorem de_bin {op : Operator} {r : R2} {f : Dt → Dt → Option Rd} (ho : OpR X (binaryOp op) r) (hd : OpD X.K X.mg r f) (ha : DZ X W a ga) (hb : DZ X W b gb) : DE X W (.BinOp a op b pos) (bin f ga gb) :=
  ⟨(pe_op ho ha.pe hb.pe).imp fun _ _ _ q => bin_ok hd q⟩
theorem de_cmp {op : CmpOp} {r : R2} {f : Dt → Dt → Option Rd} (ho : OpR X (compareOp op) r) (hd : OpD X.K X.mg r f) (ha : DZ X W a ga) (hb : DZ X W b gb) (hm : behindInMarks op b = false) : DE X W (.Compare a [op] [b] pos) (bin f ga gb) :=
  ⟨(pe_cmpR ho ha.pe hb.pe hm).imp fun _ _ _ q => bin_ok hd q⟩
theorem de_ix {r : R2} {f : Dt → Dt → Option Rd} (ho : IxR X r) (hd : OpD X.K X.mg r f) (ha : DZ X W a ga) (hb : DZ X W b gb) (hs : PlainIx b) : DE X W (.Subscript a b pos) (bin f ga gb) :=
  ⟨(pe_ix ho ha.pe hb.pe hs).imp fun _ _ _ q => bin_ok hd q⟩
/-- one operand -/
def una (f : Dt → Option Rd) (ga : SZ) : SE := fun s => (ga s).bind fun z1 s1 => optR (vw s1 z1) fun d => optR (f d) fun o => rdR o s1
theorem una_ok {r : V → Hp → VK → Prop} {f : Dt → Option Rd} (hd : UnD X.K X.mg r f) {σ : L2.St} {H : Hp} {Q : VK} (q : tE X.K X.mg W (una f ga) σ H Q) : tUn r (tZ X.K X.mg W ga) σ H Q := by
  obtain ⟨F, ι, s, st, p⟩ := q
  refine seqZ st Ext.refl p fun v z1 s1 F1 H1 ι1 st1 x1 r1 q1 => ?_
  obtain ⟨d, e1, q1⟩ := q1.opt
  obtain ⟨o, e3, q1⟩ := q1.opt
  exact hd F1 H1 v d o Q st1.fh (vu_of st1 r1 e1) e3 fun v' H' ok => finR st1 x1 ok q1
theorem de_un {op : UnaryOp} {r : V → Hp → VK → Prop} {f : Dt → Option Rd} (ho : UnR X (unaryOp op) r) (hd : UnD X.K X.mg r f) (ha : DZ X W a ga) : DE X W (.UnaryOp op a pos) (una f ga) :=
  ⟨(pe_un ho ha.pe).imp fun _ _ _ q => una_ok hd q⟩
/-- arguments -/
def aN : SA := fun s => .ok [] s
def aC (ga : SZ) (gs : SA) : SA := fun s => (ga s).bind fun z s1 => (gs s1).bind fun zs s2 => .ok (z :: zs) s2
theorem da_nil : DA X W [] aN := ⟨pa_nil.imp fun σ H Q q => by
  obtain ⟨F, ι, s, st, p⟩ := q
  exact p F H ι st Ext.refl [] True.intro⟩
theorem da_cons (ha : DZ X W e ga) (hr : DA X W es gs) (hs : starEach (e :: es) X.env = (false, eval e X.env) :: starEach es X.env := by rfl) : DA X W (e :: es) (aC ga gs) := ⟨(pa_cons ha.pe hr.pe hs).imp fun σ H Q q => by
  obtain ⟨F, ι, s, st, p⟩ := q
  refine seqZ st Ext.refl p fun v z1 s1 F1 H1 ι1 st1 x1 r1 q1 => ?_
  refine seqA st1 x1 q1 fun vs zs s2 F2 H2 ι2 st2 x2 r2 q2 => ?_
  exact q2 F2 H2 ι2 st2 (x1.trans x2) _ ⟨r1.mono x2, r2⟩⟩
/-- the data of arguments that are frozen -/
def datL : List Zv → Option (List Dt)
  | [] => some []
  | .dat d :: zs => (datL zs).map (d :: ·)
  | .ref _ :: _ => none
theorem datL_ok {K : PySem.W.Frag} {mg : Str → Option Value} {F : Hp} {ι : List Addr} : ∀ {vs : List V} {zs : List Zv} {ds : List Dt}, ZvsOk K mg F ι vs zs → datL zs = some ds → RepL K mg F vs ds
  | [], [], _, _, e => by cases e; exact .nil
  | v :: vs, .dat d :: zs, ds, ⟨h, hs⟩, e => by
    obtain ⟨ds', e3, e4⟩ := Option.map_eq_some_iff.mp e
    subst e4
    exact .cons h (datL_ok hs e3)
  | _ :: _, .ref _ :: _, _, _, e => by cases e
  | [], _ :: _, _, h, _ => h.elim
  | _ :: _, [], _, h, _ => h.elim
/-- (a, b, ..), [a, b, ..] -/
def eT (gs : SA) : SE := fun s => (gs s).bind fun zs s1 => optR (datL zs) fun ds => if ds.length ≤ sizeLine then .ok (.dat (.tup ds)) s1 else .bad
def eL (gs : SA) : SE := fun s => (gs s).bind fun zs s1 => optR (datL zs) fun ds => if ds.length ≤ sizeLine then .ok (.new (.lst ds)) s1 else .bad
theorem de_tup {x1 : Nat} (h : DA X W es gs) : DE X W (.Tuple es x1 pos) (eT gs) := ⟨(pe_tup h.pe).imp fun σ H Q q => by
  obtain ⟨F, ι, s, st, p⟩ := q
  refine seqA st Ext.refl p fun vs zs s1 F1 H1 ι1 st1 x1 r1 q1 => ?_
  obtain ⟨ds, e1, q1⟩ := q1.opt
  obtain ⟨hl, q1⟩ := q1.ite
  have rl := datL_ok r1 e1
  exact ⟨by rw [rl.length]; exact hl, fun p hp => finR (o := .newT ds) st1 x1 ⟨p, vs, rfl, hp, rfl, rl⟩ q1⟩⟩
theorem de_lst (h : DA X W es gs) : DE X W (.List es pos) (eL gs) := ⟨(pe_lst h.pe).imp fun σ H Q q => by
  obtain ⟨F, ι, s, st, p⟩ := q
  refine seqA st Ext.refl p fun vs zs s1 F1 H1 ι1 st1 x1 r1 q1 => ?_
  obtain ⟨ds, e1, q1⟩ := q1.opt
  obtain ⟨hl, q1⟩ := q1.ite
  have rl := datL_ok r1 e1
  exact ⟨by rw [rl.length]; exact hl, fun p hp => finR (o := .newL ds) st1 x1 ⟨p, vs, rfl, hp, rfl, rl⟩ q1⟩⟩
/-- a built-in's call -/
def cB (f : List Dt → Option Rd) (gs : SA) : SE := fun s => (gs s).bind fun zs s1 => optR (vwL s1 zs) fun ds => optR (f ds) fun o => rdR o s1
theorem cB_ok {r : List V → Hp → VK → Prop} {f : List Dt → Option Rd} (hd : CallD X.K X.mg r f) {σ : L2.St} {H : Hp} {Q : VK} (q : tE X.K X.mg W (cB f gs) σ H Q) : tCB r (tA X.K X.mg W gs) σ H Q := by
  obtain ⟨F, ι, s, st, p⟩ := q
  refine seqA st Ext.refl p fun vs zs s1 F1 H1 ι1 st1 x1 r1 q1 => ?_
  obtain ⟨ds, e1, q1⟩ := q1.opt
  obtain ⟨o, e3, q1⟩ := q1.opt
  exact hd F1 H1 vs ds o Q st1.fh (vuL_of st1 r1 e1) e3 fun v' H' ok => finR st1 x1 ok q1
theorem de_callB {x : Str} {p : Pos} {id : String} {r : List V → Hp → VK → Prop} {f : List Dt → Option Rd} (hc : CallR X (.builtin id) r) (hd : CallD X.K X.mg r f) (hg : Gl X x) (hm : X.mg x = none) (hv : bootBuiltins x = some (.builtin id)) (ha : DA X W (e :: es) gs) (hn : x ≠ "__name__" := by decide) (hdb : (x == ("__debug__" : Str)) = false := by decide)
    (he : starEach (e :: es) X.env = (false, eval e X.env) :: starEach es X.env := by rfl) (hpl : (backTo pos (starEach es X.env)).any (·.1) = false := by rfl) : DE X W (.Call (.Name x p) (e :: es) [] pos) (cB f gs) :=
  ⟨(pe_callB hc hg hm hv ha.pe hn hdb he hpl).imp fun _ _ _ q => cB_ok hd q⟩
theorem de_callTy {x : Str} {p : Pos} {T : String} {r : List V → Hp → VK → Prop} {f : List Dt → Option Rd} (hc : CallR X (.type T) r) (hd : CallD X.K X.mg r f) (hg : Gl X x) (hm : X.mg x = none) (hv : bootBuiltins x = some (.type T)) (ha : DA X W (e :: es) gs) (hn : x ≠ "__name__" := by decide) (hdb : (x == ("__debug__" : Str)) = false := by decide)
    (he : starEach (e :: es) X.env = (false, eval e X.env) :: starEach es X.env := by rfl) (hpl : (backTo pos (starEach es X.env)).any (·.1) = false := by rfl) : DE X W (.Call (.Name x p) (e :: es) [] pos) (cB f gs) :=
  ⟨(pe_callTy hc hg hm hv ha.pe hn hdb he hpl).imp fun _ _ _ q => cB_ok hd q⟩
/-- a truth value as a test -/
def tV (ga : SZ) : STs := fun s => (ga s).bind fun z s1 => match vw s1 z with
  | some (.bl b) => .ok b s1
  | _ => .bad
theorem tV_ok {σ : L2.St} {H : Hp} {Q : Bool → Hp → Prop} (q : tT X.K X.mg W (tV ga) σ H Q) : tTest (tZ X.K X.mg W ga) σ H Q := by
  obtain ⟨F, ι, s, st, p⟩ := q
  refine seqZ st Ext.refl p fun v z1 s1 F1 H1 ι1 st1 x1 r1 q1 => ?_
  split at q1
  · rename_i b e
    exact ⟨b, (vu_of st1 r1 e).blOf, q1 F1 H1 ι1 st1 x1⟩
  · exact q1.elim
theorem dt_val (h : DZ X W e ga) (he : ∀ whole, isTrue e X.env whole = (do let v ← whole; standAt e.pos; holding [v] (truthy v)) := by intro _; rfl) : DT X W e (tV ga) := ⟨(pt_val h.pe he).imp fun _ _ _ q => tV_ok q⟩
/-- a comparison as a test -/
def tV' (g : SE) : STs := fun s => (g s).bind fun z s1 => match z with
  | .dat (.bl b) => .ok b s1
  | _ => .bad
theorem dt_cmp {op : CmpOp} {r : R2} {f : Dt → Dt → Option Rd} (ho : OpR X (compareOp op) r) (hd : OpD X.K X.mg r f) (ha : DZ X W a ga) (hb : DZ X W b gb) (hm : behindInMarks op b = false) : DT X W (.Compare a [op] [b] pos) (tV' (bin f ga gb)) :=
  ⟨(pt_cmpR ho ha.pe hb.pe hm).imp fun σ H Q q => by
    obtain ⟨F, ι, s, st, p⟩ := q
    refine bin_ok (W := W) (X := X) hd (seqE st Ext.refl p fun v r s1 F1 H1 ι1 st1 x rv q => ?_)
    split at q
    · rename_i b
      refine ⟨b, ?_, q F1 H1 ι1 st1 x⟩
      cases (show Rep X.K X.mg F1 v (.bl b) from rv); rfl
    · exact q.elim⟩
def tN (t : STs) : STs := fun s => (t s).bind fun b s1 => .ok (!b) s1
def tAn (t u : STs) : STs := fun s => (t s).bind fun b s1 => if b = true then u s1 else .ok false s1
def tOr (t u : STs) : STs := fun s => (t s).bind fun b s1 => if b = true then .ok true s1 else u s1
theorem dt_not (h : DT X W e ta) : DT X W (.UnaryOp .Not e pos) (tN ta) := ⟨(pt_not h.pe).imp fun σ H Q q => by
  obtain ⟨F, ι, s, st, p⟩ := q
  exact seqT st Ext.refl p fun b s1 F1 H1 ι1 st1 x q => q F1 H1 ι1 st1 x⟩
theorem dw_and1 (h : DT X W e ta) : DW X W (.BoolOp .And [e] pos) ta := ⟨pw_and1 h.pe⟩
theorem dw_or1 (h : DT X W e ta) : DW X W (.BoolOp .Or [e] pos) ta := ⟨pw_or1 h.pe⟩
theorem _root_.L2.PW.imp {X : Cx} {e : Expr} {t t' : TT} (h : PW X e t) (f : ∀ σ H Q, t' σ H Q → t σ H Q) : PW X e t' := ⟨fun wh pins s σ H Q I q => h.run wh pins s σ H Q I (f _ _ _ q)⟩
theorem dw_and {rest : List Expr} (ha : DT X W a ta) (hb : DW X W (.BoolOp .And (b :: rest) pos) tb) : DW X W (.BoolOp .And (a :: b :: rest) pos) (tAn ta tb) := ⟨(pw_and ha.pe hb.pe).imp fun σ H Q q => by
  obtain ⟨F, ι, s, st, p⟩ := q
  refine seqT st Ext.refl p fun b s1 F1 H1 ι1 st1 x q => ?_
  cases b with
  | true => exact ⟨F1, ι1, s1, st1, (Post.base x q).imp fun b s' F' H' ι' _ _ q => q⟩
  | false => exact q F1 H1 ι1 st1 x⟩
theorem dw_or {rest : List Expr} (ha : DT X W a ta) (hb : DW X W (.BoolOp .Or (b :: rest) pos) tb) : DW X W (.BoolOp .Or (a :: b :: rest) pos) (tOr ta tb) := ⟨(pw_or ha.pe hb.pe).imp fun σ H Q q => by
  obtain ⟨F, ι, s, st, p⟩ := q
  refine seqT st Ext.refl p fun b s1 F1 H1 ι1 st1 x q => ?_
  cases b with
  | false => exact ⟨F1, ι1, s1, st1, (Post.base x q).imp fun b s' F' H' ι' _ _ q => q⟩
  | true => exact q F1 H1 ι1 st1 x⟩
theorem DW.t (h : DW X W e ta) : DT X W e ta := ⟨h.pe.pt⟩
/-- a if t else b -/
def eIf (t : STs) (ga gb : SZ) : SE := fun s => (t s).bind fun c s1 => ((if c = true then ga s1 else gb s1) : Rs Zv).bind fun z s2 => .ok z.r s2
theorem ZvOk.rv {K : PySem.W.Frag} {mg : Str → Option Value} {F H H' : Hp} {ι : List Addr} {v : V} {z : Zv} (h : ZvOk K mg F ι v z) : RvOk K mg H F H' ι v z.r := by
  cases z with
  | dat d => exact h
  | ref k => exact h
theorem de_if (hc : DT X W c ta) (ha : DZ X W a ga) (hb : DZ X W b gb) : DE X W (.IfExp c a b pos) (eIf ta ga gb) := ⟨(pe_ifExp hc.pe ha.pe hb.pe).imp fun σ H Q q => by
  obtain ⟨F, ι, s, st, p⟩ := q
  refine seqT st Ext.refl p fun b s1 F1 H1 ι1 st1 x q => ?_
  cases b with
  | true => exact seqZ (f := fun z s2 => .ok z.r s2) st1 x q fun v z s2 F2 H2 ι2 st2 x2 r2 q2 => q2 F2 H2 ι2 st2 (x.trans x2) v r2.rv
  | false => exact seqZ (f := fun z s2 => .ok z.r s2) st1 x q fun v z s2 F2 H2 ι2 st2 x2 r2 q2 => q2 F2 H2 ι2 st2 (x.trans x2) v r2.rv⟩
end
end HD
set_option maxHeartbeats 1000000
/-! HD3: targets, statements, loops. -/
namespace HD
open PySem PySem.Spec PyProof.Rows L2

section
variable (K : PySem.W.Frag) (mg : Str → Option Value) (W : WX)
/-- what is wanted behind a statement: the slots may have changed -/
def PostS {α : Type} (F H : Hp) (ι : List Addr) (r : Rs α) (Q : α → Sg → Hp → Hp → List Addr → L2.St → Prop) : Prop :=
  match r with
  | .ok a s' => ∀ F' H' ι' σ', StOk K mg F' H' ι' σ' s' → Ext F H ι F' H' ι' → Q a s' F' H' ι' σ'
  | .err c fs s' => ∀ F' H' ι' σ' cls d, StOk K mg F' H' ι' σ' s' → Ext F H ι F' H' ι' → ExOk K mg F' H' c fs cls d → W cls d σ' H'
  | .bad => False
def endS (H0 : Hp) (D : Ends) (fl : Fl) (F' H' : Hp) (ι' : List Addr) (σ' : L2.St) : Prop :=
  match fl with
  | .nx => D.nx σ' H'
  | .bk => D.bk σ' H'
  | .ct => D.ct σ' H'
  | .rt r => ∀ v, RvOk K mg H0 F' H' ι' v r → D.rt v H'
def tS (g : SS) : TS := fun D σ H => ∃ F ι s, StOk K mg F H ι σ s ∧ PostS K mg W F H ι (g s) fun fl _ F' H' ι' σ' => endS K mg H D fl F' H' ι' σ'
/-- the slots but those in l are as before -/
def OffS (l : List Nat) (σ σ' : L2.St) : Prop := σ'.length = σ.length ∧ ∀ j, j ∉ l → σ'[j]? = σ[j]?
def tG (l : List Nat) (g : SG) : TG := fun v σ H Q => ∃ F ι s d, StOk K mg F H ι σ s ∧ Rep K mg F v d ∧ PostS K mg W F H ι (g d s) fun _ _ F' H' ι' σ' => OffS l σ σ' → Q σ' H'
def tGs (l : List Nat) (g : List Dt → Sg → Rs Unit) : TGs := fun vs σ H Q => ∃ F ι s ds, StOk K mg F H ι σ s ∧ RepL K mg F vs ds ∧ PostS K mg W F H ι (g ds s) fun _ _ F' H' ι' σ' => OffS l σ σ' → Q σ' H'
end
section
variable {K : PySem.W.Frag} {mg : Str → Option Value} {W : WX} {F F0 F1 H H0 H1 : Hp} {ι ι0 ι1 : List Addr} {σ σ1 : L2.St} {s : Sg} {α β : Type}
theorem PostS.base {r : Rs α} {Q : α → Sg → Hp → Hp → List Addr → L2.St → Prop} (x : Ext F0 H0 ι0 F H ι) (p : PostS K mg W F0 H0 ι0 r Q) : PostS K mg W F H ι r Q := by
  cases r with
  | ok a s' => exact fun F' H' ι' σ' st y => p F' H' ι' σ' st (x.trans y)
  | err c fs s' => exact fun F' H' ι' σ' cls d st y => p F' H' ι' σ' cls d st (x.trans y)
  | bad => exact p
theorem PostS.imp {r : Rs α} {Q Q' : α → Sg → Hp → Hp → List Addr → L2.St → Prop} (p : PostS K mg W F H ι r Q) (h : ∀ a s' F' H' ι' σ', StOk K mg F' H' ι' σ' s' → Ext F H ι F' H' ι' → Q a s' F' H' ι' σ' → Q' a s' F' H' ι' σ') : PostS K mg W F H ι r Q' := by
  cases r with
  | ok a s' => exact fun F' H' ι' σ' st y => h _ _ _ _ _ _ st y (p F' H' ι' σ' st y)
  | err c fs s' => exact p
  | bad => exact p
theorem PostS.bind {r : Rs α} {f : α → Sg → Rs β} {Q : β → Sg → Hp → Hp → List Addr → L2.St → Prop} (p : PostS K mg W F H ι (r.bind f) Q) : PostS K mg W F H ι r fun a s' F' H' ι' σ' => PostS K mg W F H ι (f a s') Q := by
  cases r with
  | ok a s' => exact fun F' H' ι' σ' st y => p
  | err c fs s' => exact p
  | bad => exact p
theorem PostS.opt {o : Option α} {f : α → Rs β} {Q : β → Sg → Hp → Hp → List Addr → L2.St → Prop} (p : PostS K mg W F H ι (optR o f) Q) : ∃ a, o = some a ∧ PostS K mg W F H ι (f a) Q := by
  cases o with
  | none => exact p.elim
  | some a => exact ⟨a, rfl, p⟩
theorem PostS.ite {c : Prop} [Decidable c] {r : Rs β} {Q : β → Sg → Hp → Hp → List Addr → L2.St → Prop} (p : PostS K mg W F H ι (if c then r else .bad) Q) : c ∧ PostS K mg W F H ι r Q := by
  by_cases h : c
  · rw [if_pos h] at p; exact ⟨h, p⟩
  · rw [if_neg h] at p; exact p.elim
theorem PostS.post {r : Rs α} {Q : α → Sg → Hp → Hp → List Addr → L2.St → Prop} (p : PostS K mg W F H ι r Q) : Post K mg W F H ι σ r fun a s' F' H' ι' => Q a s' F' H' ι' σ := by
  cases r with
  | ok a s' => exact fun F' H' ι' st y => p F' H' ι' σ st y
  | err c fs s' => exact fun F' H' ι' cls d st y => p F' H' ι' σ cls d st y
  | bad => exact p
theorem seqES {g : SE} {f : Rv → Sg → Rs β} {Q : β → Sg → Hp → Hp → List Addr → L2.St → Prop} {T : VK} (st : StOk K mg F H ι σ s) (x : Ext F0 H0 ι0 F H ι) (p : PostS K mg W F0 H0 ι0 ((g s).bind f) Q)
    (h : ∀ v r s1 F1 H1 ι1, StOk K mg F1 H1 ι1 σ s1 → Ext F H ι F1 H1 ι1 → RvOk K mg H F1 H1 ι1 v r → PostS K mg W F0 H0 ι0 (f r s1) Q → T v H1) : tE K mg W g σ H T :=
  ⟨F, ι, s, st, (p.bind.post.base x).imp fun a s' F' H' ι' st' y q v rv => h v a s' F' H' ι' st' y rv q⟩
theorem seqZS {g : SZ} {f : Zv → Sg → Rs β} {Q : β → Sg → Hp → Hp → List Addr → L2.St → Prop} {T : VK} (st : StOk K mg F H ι σ s) (x : Ext F0 H0 ι0 F H ι) (p : PostS K mg W F0 H0 ι0 ((g s).bind f) Q)
    (h : ∀ v r s1 F1 H1 ι1, StOk K mg F1 H1 ι1 σ s1 → Ext F H ι F1 H1 ι1 → ZvOk K mg F1 ι1 v r → PostS K mg W F0 H0 ι0 (f r s1) Q → T v H1) : tZ K mg W g σ H T :=
  ⟨F, ι, s, st, (p.bind.post.base x).imp fun a s' F' H' ι' st' y q v rv => h v a s' F' H' ι' st' y rv q⟩
theorem seqTS {g : STs} {f : Bool → Sg → Rs β} {Q : β → Sg → Hp → Hp → List Addr → L2.St → Prop} {T : Bool → Hp → Prop} (st : StOk K mg F H ι σ s) (x : Ext F0 H0 ι0 F H ι) (p : PostS K mg W F0 H0 ι0 ((g s).bind f) Q)
    (h : ∀ b s1 F1 H1 ι1, StOk K mg F1 H1 ι1 σ s1 → Ext F H ι F1 H1 ι1 → PostS K mg W F0 H0 ι0 (f b s1) Q → T b H1) : tT K mg W g σ H T :=
  ⟨F, ι, s, st, (p.bind.post.base x).imp fun a s' F' H' ι' st' y q => h a s' F' H' ι' st' y q⟩
theorem endS.base {D : Ends} {fl : Fl} {F' H' : Hp} {ι' : List Addr} {σ' : L2.St} (x : Ext F0 H0 ι0 F H ι) (h : endS K mg H0 D fl F' H' ι' σ') : endS K mg H D fl F' H' ι' σ' := by
  cases fl with
  | nx => exact h
  | bk => exact h
  | ct => exact h
  | rt r => exact fun v rv => h v (rv.base x)
/-- a block from a later base -/
theorem tS_of {g : SS} {D : Ends} (st : StOk K mg F H ι σ s) (x : Ext F0 H0 ι0 F H ι) (p : PostS K mg W F0 H0 ι0 (g s) fun fl _ F' H' ι' σ' => endS K mg H0 D fl F' H' ι' σ') : tS K mg W g D σ H :=
  ⟨F, ι, s, st, (p.base x).imp fun fl s' F' H' ι' σ' _ _ q => q.base x⟩
/-- a slot is stored -/
theorem StOk.put {i : Nat} {v : V} {z : Zv} (st : StOk K mg F H ι σ s) (h : ZvOk K mg F ι v z) : StOk K mg F H ι (σ.set i (some v)) ⟨s.sl.set i (some z), s.ob⟩ where
  fh := st.fh
  nd := st.nd
  ln := st.ln
  th := st.th
  own := st.own
  sz := by rw [List.length_set, List.length_set]; exact st.sz
  vr := fun j z' e => by
    by_cases hj : i = j
    · subst hj
      rw [List.getElem?_set] at e
      simp only [if_true] at e
      split at e
      · rename_i hl
        cases e
        refine ⟨v, ?_, h⟩
        rw [List.getElem?_set_self (by rw [st.sz]; exact hl)]
      · cases e
    · rw [List.getElem?_set_ne hj] at e
      obtain ⟨u, e1, q⟩ := st.vr j z' e
      exact ⟨u, by rw [List.getElem?_set_ne hj]; exact e1, q⟩
/-- a new object gets a number -/
theorem StOk.name {p : Addr} {o : Ob} (st : StOk K mg F H ι σ s) (fp : F p = none) (np : p ∉ ι) (nd : o ≠ .dead) (ok : ObOk K mg F H p o) : StOk K mg F H (ι ++ [p]) σ ⟨s.sl, s.ob ++ [o]⟩ where
  fh := st.fh
  nd := by
    rw [List.nodup_append]
    refine ⟨st.nd, by simp, fun a ha b hb => ?_⟩
    have e : b = p := by simpa using hb
    rw [e]; intro z; exact np (z ▸ ha)
  ln := by rw [List.length_append, List.length_append, st.ln]; rfl
  th := fun a ha => by
    rcases List.mem_append.mp ha with h | h
    · exact st.th a h
    · have e : a = p := by simpa using h
      subst e
      cases o with
      | lst ds => obtain ⟨vs, e, _⟩ := ok; rw [e]; intro z; cases z
      | dct ds => obtain ⟨vs, e, _⟩ := ok; rw [e]; intro z; cases z
      | ins c ds => obtain ⟨C, dx, vs, _, e, _⟩ := ok; rw [e]; intro z; cases z
      | dead => exact absurd rfl nd
  own := fun k a o' e1 e2 nd' => by
    by_cases hk : k < ι.length
    · rw [List.getElem?_append_left hk] at e1
      rw [List.getElem?_append_left (by rw [← st.ln]; exact hk)] at e2
      exact st.own k a o' e1 e2 nd'
    · have hk : ι.length ≤ k := by omega
      rw [List.getElem?_append_right hk] at e1
      rw [List.getElem?_append_right (by rw [← st.ln]; exact hk)] at e2
      have hz : k - ι.length = 0 := by
        have := (List.getElem?_eq_some_iff.mp e1).1
        simp at this
        omega
      rw [hz] at e1
      rw [← st.ln, hz] at e2
      cases e1
      cases e2
      exact ⟨fp, ok⟩
  sz := st.sz
  vr := fun i z e => by
    obtain ⟨v, e1, q⟩ := st.vr i z e
    refine ⟨v, e1, ?_⟩
    cases z with
    | dat d => exact q
    | ref k => obtain ⟨a, ea, q⟩ := q; exact ⟨a, by rw [List.getElem?_append_left (List.getElem?_eq_some_iff.mp ea).1]; exact ea, q⟩
theorem Ext.name {p : Addr} (x : Ext F0 H0 ι0 F H ι) (hp : H0 p = none) : Ext F0 H0 ι0 F H (ι ++ [p]) := by
  obtain ⟨t, e⟩ := x.p
  refine ⟨x.f, ⟨t ++ [p], by rw [e, List.append_assoc]⟩, x.keep, x.new, fun a ha => ?_, x.dom⟩
  rcases List.mem_append.mp ha with h | h
  · exact x.out a h
  · have e : a = p := by simpa using h
    subst e
    exact .inr hp
end

structure DG (X : Cx) (W : WX) (e : Expr) (l : List Nat) (g : SG) : Prop where
  pg : PG X e (tG X.K X.mg W l g)
structure DGs (X : Cx) (W : WX) (es : List Expr) (l : List Nat) (g : List Dt → Sg → Rs Unit) : Prop where
  pg : PGs X es (tGs X.K X.mg W l g)
structure DS (X : Cx) (W : WX) (st : Stmt) (g : SS) : Prop where
  ps : PS X st (tS X.K X.mg W g)
structure DB (X : Cx) (W : WX) (st : List Stmt) (g : SS) : Prop where
  ps : PSs X st (tS X.K X.mg W g)

section
variable {X : Cx} {W : WX} {a b c e tg : Expr} {es : List Expr} {pos : Pos} {ga gb gc : SZ} {g : SE} {gs : SA} {ta tb tc : STs} {st : Stmt} {sts body : List Stmt} {h1 : SS} {h2 : SS} {l l' : List Nat} {sg : SG} {sgs : List Dt → Sg → Rs Unit}
def putS (i : Nat) (z : Zv) (s : Sg) : Sg := ⟨s.sl.set i (some z), s.ob⟩
theorem offS_set {i : Nat} {σ : L2.St} {v : Option V} : OffS [i] σ (σ.set i v) := ⟨List.length_set, fun j hj => List.getElem?_set_ne (fun z => hj (by simp [z]))⟩
/-- a name as a target -/
def gN (i : Nat) : SG := fun d s => .ok () (putS i (.dat d) s)
theorem dg_name {i : Nat} {x : Str} (hN : X.N.Nodup) (hi : X.N[i]? = some x) (hx : Loc X.env.scope x) (hf : X.fn x = true ∨ X.env.scope.names.lookup x = some .local := by first | exact .inl rfl | exact .inr rfl | assumption) : DG X W (.Name x pos) [i] (gN i) :=
  ⟨(pg_name hN hi hx hf).imp fun v σ H Q q => by
    obtain ⟨F, ι, s, d, st, r, p⟩ := q
    exact p F H ι _ (st.put (z := .dat d) r) Ext.refl offS_set⟩
def gsN : List Dt → Sg → Rs Unit := fun ds s => match ds with
  | [] => .ok () s
  | _ => .bad
def gsC (g : SG) (gs : List Dt → Sg → Rs Unit) : List Dt → Sg → Rs Unit := fun ds s => match ds with
  | d :: ds => (g d s).bind fun _ s1 => gs ds s1
  | [] => .bad
theorem OffS.nil {σ : L2.St} : OffS [] σ σ := ⟨rfl, fun _ _ => rfl⟩
theorem dgs_nil : DGs X W [] [] gsN := ⟨pgs_nil.imp fun vs σ H Q q => by
  obtain ⟨F, ι, s, ds, st, r, p⟩ := q
  cases r with
  | nil => exact ⟨rfl, p F H ι σ st Ext.refl OffS.nil⟩
  | cons _ _ => exact p.elim⟩
theorem dgs_cons (h : DG X W e l sg) (hr : DGs X W es l' sgs) (hs : (assignEach (e :: es) X.env).map (·.2) = assign e X.env :: (assignEach es X.env).map (·.2) := by rfl) : DGs X W (e :: es) (l ++ l') (gsC sg sgs) := ⟨(pgs_cons h.pg hr.pg hs).imp fun vs σ H Q q => by
  obtain ⟨F, ι, s, ds, st, r, p⟩ := q
  cases r with
  | nil => exact p.elim
  | cons hv hr =>
    rename_i v d vs ds
    refine ⟨v, vs, rfl, F, ι, s, d, st, hv, p.bind.imp fun _ s1 F1 H1 ι1 σ1 st1 x1 q1 off => ?_⟩
    refine ⟨F1, ι1, s1, ds, st1, RepL.mono x1.f hr, (q1.base x1).imp fun _ s2 F2 H2 ι2 σ2 st2 x2 q2 off2 => q2 ⟨off2.1.trans off.1, fun j hj => ?_⟩⟩
    rw [off2.2 j fun z => hj (List.mem_append_right _ z), off.2 j fun z => hj (List.mem_append_left _ z)]⟩
def gT (gs : List Dt → Sg → Rs Unit) (n : Nat) : SG := fun d s => match d with
  | .tup ds => if ds.length = n then gs ds s else .bad
  | _ => .bad
theorem dg_tup {k n : Nat} (hc : X.calm = true) (h : DGs X W es l sgs) (hn : (assignEach es X.env).length = n := by rfl) (hst : (assignEach es X.env).findIdx? (·.1) = none := by rfl) : DG X W (.Tuple es k pos) l (gT sgs n) :=
  ⟨(pg_tup hc h.pg hn hst).imp fun v σ H Q q => by
    obtain ⟨F, ι, s, d, st, r, p⟩ := q
    unfold gT at p
    split at p
    · rename_i ds
      obtain ⟨hl, p⟩ := p.ite
      cases r with
      | tup hq rl => exact ⟨_, _, rfl, same_seqT st.fh hq, rl.length.trans hl, F, ι, s, ds, st, rl, p⟩
    · exact p.elim⟩
/-- blocks -/
def sN : SS := fun s => .ok .nx s
def sQ (h1 h2 : SS) : SS := fun s => (h1 s).bind fun fl s1 => match fl with
  | .nx => h2 s1
  | _ => .ok fl s1
theorem db_nil : DB X W [] sN := ⟨pss_nil.imp fun D σ H q => by
  obtain ⟨F, ι, s, st, p⟩ := q
  exact p F H ι σ st Ext.refl⟩
theorem db_cons (h : DS X W st h1) (hr : DB X W sts h2) : DB X W (st :: sts) (sQ h1 h2) := ⟨(pss_cons h.ps hr.ps).imp fun D σ H q => by
  obtain ⟨F, ι, s, st, p⟩ := q
  refine ⟨F, ι, s, st, p.bind.imp fun fl s1 F1 H1 ι1 σ1 st1 x1 q1 => ?_⟩
  cases fl with
  | nx => exact tS_of st1 x1 q1
  | bk => exact q1 F1 H1 ι1 σ1 st1 x1
  | ct => exact q1 F1 H1 ι1 σ1 st1 x1
  | rt r => exact q1 F1 H1 ι1 σ1 st1 x1⟩
theorem db_one (h : DS X W st h1) : DB X W [st] h1 := ⟨pss_one h.ps⟩
/-- statements -/
theorem ds_pass : DS X W (.Pass pos) sN := ⟨ps_pass.imp fun D σ H q => by
  obtain ⟨F, ι, s, st, p⟩ := q
  exact p F H ι σ st Ext.refl⟩
def sBk : SS := fun s => .ok .bk s
def sCt : SS := fun s => .ok .ct s
theorem ds_break : DS X W (.Break pos) sBk := ⟨ps_break.imp fun D σ H q => by
  obtain ⟨F, ι, s, st, p⟩ := q
  exact p F H ι σ st Ext.refl⟩
theorem ds_cont : DS X W (.Continue pos) sCt := ⟨ps_continue.imp fun D σ H q => by
  obtain ⟨F, ι, s, st, p⟩ := q
  exact p F H ι σ st Ext.refl⟩
def sRt (g : SE) : SS := fun s => (g s).bind fun r s1 => .ok (.rt r) s1
theorem ds_ret (h : DE X W e g) : DS X W (.Return (some e) pos) (sRt g) := ⟨(ps_ret h.pe).imp fun D σ H q => by
  obtain ⟨F, ι, s, st, p⟩ := q
  exact seqES st Ext.refl p fun v r s1 F1 H1 ι1 st1 x rv q => q F1 H1 ι1 σ st1 x v rv⟩
def sRtN : SS := fun s => .ok (.rt (.dat .non)) s
theorem ds_retN : DS X W (.Return none pos) sRtN := ⟨ps_retN.imp fun D σ H q => by
  obtain ⟨F, ι, s, st, p⟩ := q
  exact p F H ι σ st Ext.refl .non .non⟩
def sEx (g : SE) : SS := fun s => (g s).bind fun _ s1 => .ok .nx s1
theorem ds_expr (h : DE X W e g) (hs : swapsWith e none pos.line X.env = pure false := by rfl) : DS X W (.Expr e pos) (sEx g) := ⟨(ps_expr h.pe hs).imp fun D σ H q => by
  obtain ⟨F, ι, s, st, p⟩ := q
  exact seqES st Ext.refl p fun v r s1 F1 H1 ι1 st1 x rv q => q F1 H1 ι1 σ st1 x⟩
def sIf (t : STs) (a b : SS) : SS := fun s => (t s).bind fun c s1 => if c = true then a s1 else b s1
theorem ds_if {p q : List Stmt} (hc : DT X W c tc) (ha : DB X W p h1) (hb : DB X W q h2) : DS X W (.If c p q pos) (sIf tc h1 h2) := ⟨(ps_if hc.pe ha.ps hb.ps).imp fun D σ H q => by
  obtain ⟨F, ι, s, st, p⟩ := q
  refine seqTS st Ext.refl p fun b s1 F1 H1 ι1 st1 x q => ?_
  cases b with
  | true => exact tS_of st1 x q
  | false => exact tS_of st1 x q⟩
/-- x = e: frozen; as an own object -/
def sSet (i : Nat) (ga : SZ) : SS := fun s => (ga s).bind fun z s1 => .ok .nx (putS i z s1)
theorem ds_set {i : Nat} {x : Str} {pos' : Pos} (hN : X.N.Nodup) (hi : X.N[i]? = some x) (hx : Loc X.env.scope x) (he : DZ X W e ga) (hs : swapsWith e (some (.Name x pos')) pos.line X.env = pure false := by rfl) (hf : X.fn x = true ∨ X.env.scope.names.lookup x = some .local := by first | exact .inl rfl | exact .inr rfl | assumption) :
    DS X W (.Assign [.Name x pos'] e pos) (sSet i ga) := ⟨(ps_set hN hi hx he.pe hs hf).imp fun D σ H q => by
  obtain ⟨F, ι, s, st, p⟩ := q
  exact seqZS st Ext.refl p fun v z s1 F1 H1 ι1 st1 x r q => q F1 H1 ι1 _ (st1.put r) x⟩
def nmR (i : Nat) (r : Rv) (s : Sg) : Rs Fl :=
  match r with
  | .dat d => .ok .nx (putS i (.dat d) s)
  | .ref k => .ok .nx (putS i (.ref k) s)
  | .new o => .ok .nx ⟨s.sl.set i (some (.ref s.ob.length)), s.ob ++ [o]⟩
def sNew (i : Nat) (g : SE) : SS := fun s => (g s).bind fun r s1 => nmR i r s1
theorem nm_ok {K : PySem.W.Frag} {mg : Str → Option Value} {F0 H0 : Hp} {ι0 : List Addr} {F H : Hp} {ι : List Addr} {σ : L2.St} {s : Sg} {i : Nat} {v : V} {r : Rv} {Q : Fl → Sg → Hp → Hp → List Addr → L2.St → Prop} (st : StOk K mg F H ι σ s) (x : Ext F0 H0 ι0 F H ι) (rv : RvOk K mg H0 F H ι v r)
    (q : PostS K mg W F0 H0 ι0 (nmR i r s) Q) : ∃ F' ι' s', Q .nx s' F' H ι' (σ.set i (some v)) := by
  cases r with
  | dat d => exact ⟨F, ι, _, q F H ι _ (st.put (z := .dat d) rv) x⟩
  | ref k => exact ⟨F, ι, _, q F H ι _ (st.put (z := .ref k) rv) x⟩
  | new o =>
    obtain ⟨p, rfl, hp, fp, np, nd, ok⟩ := rv
    refine ⟨F, ι ++ [p], _, q F H (ι ++ [p]) _ ((st.name fp np nd ok).put (v := .ref p) (z := .ref s.ob.length) ⟨p, ?_, rfl⟩) (x.name hp)⟩
    rw [← st.ln, List.getElem?_append_right (Nat.le_refl _), Nat.sub_self]
    rfl
theorem ds_new {i : Nat} {x : Str} {pos' : Pos} (hN : X.N.Nodup) (hi : X.N[i]? = some x) (hx : Loc X.env.scope x) (he : DE X W e g) (hs : swapsWith e (some (.Name x pos')) pos.line X.env = pure false := by rfl) (hf : X.fn x = true ∨ X.env.scope.names.lookup x = some .local := by first | exact .inl rfl | exact .inr rfl | assumption) :
    DS X W (.Assign [.Name x pos'] e pos) (sNew i g) := ⟨(ps_set hN hi hx he.pe hs hf).imp fun D σ H q => by
  obtain ⟨F, ι, s, st, p⟩ := q
  refine seqES st Ext.refl p fun v z s1 F1 H1 ι1 st1 x r q => ?_
  obtain ⟨_, _, _, q⟩ := nm_ok st1 x r q
  exact q⟩
/-- target = e, the value frozen data -/
def sAs (sg : SG) (ga : SZ) : SS := fun s => (ga s).bind fun z s1 => match z with
  | .dat d => (sg d s1).bind fun _ s2 => .ok .nx s2
  | .ref _ => .bad
theorem ds_asg (he : DZ X W e ga) (hg : DG X W tg l sg) (hs : swapsWithSole [tg] e pos.line X.env = pure false := by rfl) (hw : swappedStores [tg] e X.env = pure none := by rfl)
    (h1 : (assignEach [tg] X.env).map (·.2) = [assign tg X.env] := by rfl) : DS X W (.Assign [tg] e pos) (sAs sg ga) := ⟨(ps_asg he.pe hg.pg hs hw h1).imp fun D σ H q => by
  obtain ⟨F, ι, s, st, p⟩ := q
  refine seqZS st Ext.refl p fun v z s1 F1 H1 ι1 st1 x r q => ?_
  cases z with
  | ref k => exact q.elim
  | dat d => exact ⟨F1, ι1, s1, d, st1, r, (q.base x).bind.imp fun _ s2 F2 H2 ι2 σ2 st2 x2 q2 _ => q2 F2 H2 ι2 σ2 st2 x2⟩⟩
end
end HD
set_option maxHeartbeats 1000000
/-! HD4: what a for walks; for, while, list comprehensions. -/
namespace HD
open PySem PySem.Spec PyProof.Rows L2

abbrev SI := Sg → Rs (List Dt)
section
variable (K : PySem.W.Frag) (mg : Str → Option Value) (W : WX)
def Rd.dt : Rd → Dt
  | .val d => d
  | .newL ds => .lst ds
  | .newT ds => .tup ds
/-- the walk J draws the data ds -/
structure ItD (J : It) (F : Hp) (ds : List Dt) : Prop where
  go : ∀ (F' H : Hp) (i : Nat) d, Same F F' → Same F' H → ds[i]? = some d → J.go i H
  yld : ∀ (F' H : Hp) (i : Nat) d x H', Same F F' → Same F' H → ds[i]? = some d → J.yld i H x H' → ∃ o, RdOk K mg F' H H' x o ∧ o.dt = d
  stop : ∀ (F' H : Hp), Same F F' → Same F' H → J.stop ds.length H
def tI (g : SI) : TI := fun σ H R => ∃ F ι s, StOk K mg F H ι σ s ∧ Post K mg W F H ι σ (g s) fun ds s' F' H' ι' => ∀ J, ItD K mg J F' ds → R J H'
end
theorem _root_.L2.PI.imp {X : Cx} {tg e : Expr} {t t' : TI} (h : PI X tg e t) (f : ∀ σ H Q, t' σ H Q → t σ H Q) : PI X tg e t' := ⟨fun pins s σ H Q I q => h.run pins s σ H Q I (f _ _ _ q)⟩
theorem _root_.L2.PI.or {X : Cx} {tg e : Expr} {t t' : TI} (h : PI X tg e t) (h' : PI X tg e t') : PI X tg e (fun σ H R => t σ H R ∨ t' σ H R) := ⟨fun pins s σ H Q I q => q.elim (h.run pins s σ H Q I) (h'.run pins s σ H Q I)⟩
structure DI (X : Cx) (W : WX) (tg e : Expr) (g : SI) : Prop where
  pi : PI X tg e (tI X.K X.mg W g)

section
variable {K : PySem.W.Frag} {mg : Str → Option Value} {F H : Hp} {ds : List Dt} {a : Addr} {vs : List V}
theorem sqL_same {F F' H : Hp} (s1 : Same F F') (s2 : Same F' H) (h : SqL K F a vs) : SqL K H a vs := same_seqL s2 (same_seqL s1 h)
theorem itd_list (h : SqL K F a vs) (r : RepL K mg F vs ds) : ItD K mg (Itl K a) F ds where
  go := fun F' H i d s1 s2 e => by
    obtain ⟨v, e1, _⟩ := r.get e
    exact ⟨vs, v, sqL_same s1 s2 h, e1⟩
  yld := fun F' H i d x H' s1 s2 e y => by
    obtain ⟨e1, y⟩ := y
    obtain ⟨v, e2, q⟩ := r.get e
    have := y vs (sqL_same s1 s2 h)
    rw [e2] at this
    cases this
    exact ⟨.val d, ⟨e1, q.mono s1⟩, rfl⟩
  stop := fun F' H s1 s2 => ⟨vs, sqL_same s1 s2 h, Nat.le_of_eq r.length⟩
theorem itd_tup (h : SqT K F a vs) (r : RepL K mg F vs ds) : ItD K mg (Itt K a) F ds where
  go := fun F' H i d s1 s2 e => by
    obtain ⟨v, e1, _⟩ := r.get e
    exact ⟨vs, v, same_seqT s2 (same_seqT s1 h), e1⟩
  yld := fun F' H i d x H' s1 s2 e y => by
    obtain ⟨e1, y⟩ := y
    obtain ⟨v, e2, q⟩ := r.get e
    have := y vs (same_seqT s2 (same_seqT s1 h))
    rw [e2] at this
    cases this
    exact ⟨.val d, ⟨e1, q.mono s1⟩, rfl⟩
  stop := fun F' H s1 s2 => ⟨vs, same_seqT s2 (same_seqT s1 h), Nat.le_of_eq r.length⟩
/-- the ints of a range -/
def rng (lo : Int) (n : Nat) : List Dt := (List.range n).map fun i : Nat => .int (lo + (i : Int))
theorem itd_rng {lo : Int} {n : Nat} : ItD K mg (Itr lo n) F (rng lo n) where
  go := fun F' H i d s1 s2 e => by
    have := (List.getElem?_eq_some_iff.mp e).1
    show i < n
    simpa [rng] using this
  yld := fun F' H i d x H' s1 s2 e y => by
    obtain ⟨e1, rfl⟩ := y
    have hi := (List.getElem?_eq_some_iff.mp e).1
    simp [rng] at hi
    simp [rng, hi] at e
    subst e
    exact ⟨.val _, ⟨e1, .int _⟩, rfl⟩
  stop := fun F' H s1 s2 => by
    show n ≤ (rng lo n).length
    simp [rng]
def enumD : List Dt → Nat → List Dt
  | [], _ => []
  | d :: ds, i => .tup [.int (i : Int), d] :: enumD ds (i + 1)
theorem enumD_get : ∀ (ds : List Dt) (k i : Nat), (enumD ds k)[i]? = (ds[i]?).map fun d => Dt.tup [.int ((k + i : Nat) : Int), d]
  | [], _, _ => by simp [enumD]
  | d :: ds, k, 0 => by simp [enumD]
  | d :: ds, k, i + 1 => by
    show (enumD ds (k + 1))[i]? = _
    rw [enumD_get ds (k + 1) i, List.getElem?_cons_succ, show k + 1 + i = k + (i + 1) by omega]
theorem enumD_length (ds : List Dt) : ∀ k, (enumD ds k).length = ds.length := by
  induction ds with
  | nil => intro k; rfl
  | cons d ds ih => intro k; show (enumD ds (k + 1)).length + 1 = _; rw [ih]; rfl
theorem itd_enum (h : SqL K F a vs) (r : RepL K mg F vs ds) : ItD K mg (Ite K a) F (enumD ds 0) where
  go := fun F' H i d s1 s2 e => by
    rw [enumD_get] at e
    obtain ⟨d', e1, _⟩ := Option.map_eq_some_iff.mp e
    obtain ⟨v, e1, _⟩ := r.get e1
    exact ⟨vs, v, sqL_same s1 s2 h, e1⟩
  yld := fun F' H i d x H' s1 s2 e y => by
    rw [enumD_get] at e
    obtain ⟨d', e1, rfl⟩ := Option.map_eq_some_iff.mp e
    obtain ⟨T, x', rfl, hT, rfl, y⟩ := y
    obtain ⟨v, e2, q⟩ := r.get e1
    have := y vs (sqL_same s1 s2 h)
    rw [e2] at this
    cases this
    exact ⟨.newT _, ⟨T, _, rfl, hT, rfl, .cons (by rw [Nat.zero_add]; exact .int _) (.cons (q.mono s1) .nil)⟩, rfl⟩
  stop := fun F' H s1 s2 => ⟨vs, sqL_same s1 s2 h, by rw [enumD_length]; exact Nat.le_of_eq r.length⟩
def zipD : List Dt → List Dt → List Dt
  | d :: ds, e :: es => .tup [d, e] :: zipD ds es
  | _, _ => []
theorem zipD_get : ∀ (ds es : List Dt) (i : Nat) (t : Dt), (zipD ds es)[i]? = some t → ∃ d e, ds[i]? = some d ∧ es[i]? = some e ∧ t = .tup [d, e]
  | d :: ds, e :: es, 0, t, h => ⟨d, e, rfl, rfl, (Option.some.inj h).symm⟩
  | d :: ds, e :: es, i + 1, t, h => zipD_get ds es i t h
  | [], _, _, _, h => by simp [zipD] at h
  | _ :: _, [], _, _, h => by simp [zipD] at h
theorem zipD_length : ∀ (ds es : List Dt), (zipD ds es).length = min ds.length es.length
  | d :: ds, e :: es => by show (zipD ds es).length + 1 = _; rw [zipD_length ds es]; simp only [List.length_cons]; omega
  | [], _ => by simp [zipD]
  | _ :: _, [] => by simp [zipD]
theorem itd_zip {b : Addr} {us : List V} {es : List Dt} (h : SqL K F a vs) (r : RepL K mg F vs ds) (h' : SqL K F b us) (r' : RepL K mg F us es) : ItD K mg (Itz K a b) F (zipD ds es) where
  go := fun F' H i d s1 s2 e => by
    obtain ⟨d1, d2, e1, e2, _⟩ := zipD_get _ _ _ _ e
    obtain ⟨v, e1, _⟩ := r.get e1
    obtain ⟨u, e2, _⟩ := r'.get e2
    exact ⟨vs, us, v, u, sqL_same s1 s2 h, sqL_same s1 s2 h', e1, e2⟩
  yld := fun F' H i d x H' s1 s2 e y => by
    obtain ⟨d1, d2, e1, e2, rfl⟩ := zipD_get _ _ _ _ e
    obtain ⟨v, e1, q1⟩ := r.get e1
    obtain ⟨u, e2, q2⟩ := r'.get e2
    obtain ⟨T, x', y', rfl, hT, rfl, y1, y2⟩ := y
    have := y1 vs (sqL_same s1 s2 h)
    rw [e1] at this
    cases this
    have := y2 us (sqL_same s1 s2 h')
    rw [e2] at this
    cases this
    exact ⟨.newT _, ⟨T, _, rfl, hT, rfl, .cons (q1.mono s1) (.cons (q2.mono s1) .nil)⟩, rfl⟩
  stop := fun F' H s1 s2 => ⟨vs, us, sqL_same s1 s2 h, sqL_same s1 s2 h', by
    have := r.length
    have := r'.length
    rw [zipD_length]
    omega⟩
end

section
variable {X : Cx} {W : WX} {a b c e tg : Expr} {es : List Expr} {pos p : Pos} {ga gb gc : SZ} {g : SE} {gs : SA} {gi : SI}
/-- a list or a tuple -/
def iS (ga : SZ) : SI := fun s => (ga s).bind fun z s1 => match z with
  | .dat (.lst ds) => .ok ds s1
  | .dat (.rol ds) => .ok ds s1
  | .dat (.tup ds) => .ok ds s1
  | _ => .bad
theorem di_seq (h : DZ X W e ga) : DI X W tg e (iS ga) := ⟨(PI.or (pi_list (tg := tg) h.pe) (pi_tup (tg := tg) h.pe)).imp fun σ H R q => by
  obtain ⟨F, ι, s, st, p⟩ := q
  cases eg : ga s with
  | bad => unfold iS at p; rw [eg] at p; exact p.elim
  | err c fs s1 =>
    unfold iS at p
    rw [eg] at p
    exact .inl ⟨F, ι, s, st, by rw [eg]; exact p⟩
  | ok z s1 =>
    unfold iS at p
    rw [eg] at p
    cases z with
    | ref k => exact p.elim
    | dat d =>
      cases d with
      | lst ds => exact .inl ⟨F, ι, s, st, by
          rw [eg]
          intro F1 H1 ι1 st1 x1 v r
          cases r with | lst h r => exact ⟨_, rfl, ⟨_, SqL.of (st1.fh _ _ h)⟩, p F1 H1 ι1 st1 x1 _ (itd_list (SqL.of h) r)⟩⟩
      | rol ds => exact .inl ⟨F, ι, s, st, by
          rw [eg]
          intro F1 H1 ι1 st1 x1 v r
          cases r with | rol h r => exact ⟨_, rfl, ⟨_, same_seqL st1.fh h⟩, p F1 H1 ι1 st1 x1 _ (itd_list h r)⟩⟩
      | tup ds => exact .inr ⟨F, ι, s, st, by
          rw [eg]
          intro F1 H1 ι1 st1 x1 v r
          cases r with | tup h r => exact ⟨_, rfl, ⟨_, same_seqT st1.fh h⟩, p F1 H1 ι1 st1 x1 _ (itd_tup h r)⟩⟩
      | non => exact p.elim
      | bl b => exact p.elim
      | int b => exact p.elim
      | str b => exact p.elim
      | dct b => exact p.elim
      | obj b fs => exact p.elim⟩
/-- range -/
def rngOk (i j : Int) : Bool := decide (-(2 ^ 62) ≤ i) && decide (i < 2 ^ 62) && decide (-(2 ^ 62) ≤ j) && decide (j < 2 ^ 62)
def iR1 (gs : SA) : SI := fun s => (gs s).bind fun zs s1 => match zs with
  | [.dat (.int j)] => if rngOk 0 j = true then .ok (rng 0 j.toNat) s1 else .bad
  | _ => .bad
def iR2 (gs : SA) : SI := fun s => (gs s).bind fun zs s1 => match zs with
  | [.dat (.int i), .dat (.int j)] => if rngOk i j = true then .ok (rng i (j - i).toNat) s1 else .bad
  | _ => .bad
theorem rngOk_of {i j : Int} (h : rngOk i j = true) : -(2 ^ 62) ≤ i ∧ i < 2 ^ 62 ∧ -(2 ^ 62) ≤ j ∧ j < 2 ^ 62 := by
  unfold rngOk at h
  simp only [Bool.and_eq_true, decide_eq_true_eq] at h
  exact ⟨h.1.1.1, h.1.1.2, h.1.2, h.2⟩
theorem zvs1 {K : PySem.W.Frag} {mg : Str → Option Value} {F : Hp} {ι : List Addr} {vs : List V} {i : Int} (h : ZvsOk K mg F ι vs [.dat (.int i)]) : vs = [.int i] := by
  match vs, h with
  | [v], ⟨h, _⟩ => cases (show Rep K mg F v (.int i) from h); rfl
theorem zvs2 {K : PySem.W.Frag} {mg : Str → Option Value} {F : Hp} {ι : List Addr} {vs : List V} {i j : Int} (h : ZvsOk K mg F ι vs [.dat (.int i), .dat (.int j)]) : vs = [.int i, .int j] := by
  match vs, h with
  | [v, u], ⟨h, h', _⟩ => cases (show Rep K mg F v (.int i) from h); cases (show Rep K mg F u (.int j) from h'); rfl
theorem di_range1 (hg : Gl X "range") (hm : X.mg "range" = none) (ha : DA X W [a] gs) (hs : starEach [a] X.env = [(false, eval a X.env)] := by rfl) : DI X W tg (.Call (.Name "range" p) [a] [] pos) (iR1 gs) := ⟨PI.imp (pi_range1 hg hm ha.pe hs) fun σ H R q => by
  obtain ⟨F, ι, s, st, p⟩ := q
  refine seqA st Ext.refl p fun vs zs s1 F1 H1 ι1 st1 x1 r1 q1 => ?_
  split at q1
  · obtain ⟨hr, q1⟩ := q1.ite
    have := rngOk_of hr
    exact ⟨_, zvs1 r1, this.2.2.1, this.2.2.2, q1 F1 H1 ι1 st1 x1 _ itd_rng⟩
  · exact q1.elim⟩
theorem di_range2 (hg : Gl X "range") (hm : X.mg "range" = none) (ha : DA X W [a, b] gs) (hs : starEach [a, b] X.env = [(false, eval a X.env), (false, eval b X.env)] := by rfl) (hs2 : starEach [b] X.env = [(false, eval b X.env)] := by rfl) : DI X W tg (.Call (.Name "range" p) [a, b] [] pos) (iR2 gs) := ⟨PI.imp (pi_range2 hg hm ha.pe hs hs2) fun σ H R q => by
  obtain ⟨F, ι, s, st, p⟩ := q
  refine seqA st Ext.refl p fun vs zs s1 F1 H1 ι1 st1 x1 r1 q1 => ?_
  split at q1
  · obtain ⟨hr, q1⟩ := q1.ite
    exact ⟨_, _, zvs2 r1, rngOk_of hr, q1 F1 H1 ι1 st1 x1 _ itd_rng⟩
  · exact q1.elim⟩
/-- enumerate of a list -/
def iE (gs : SA) : SI := fun s => (gs s).bind fun zs s1 => match zs with
  | [.dat (.lst ds)] => .ok (enumD ds 0) s1
  | _ => .bad
theorem di_enum {elts : List Expr} {kk : Nat} {tpos : Pos} (hg : Gl X "enumerate") (hm : X.mg "enumerate" = none) (ha : DA X W [e] gs) (hs : starEach [e] X.env = [(false, eval e X.env)] := by rfl) : DI X W (.Tuple elts kk tpos) (.Call (.Name "enumerate" p) [e] [] pos) (iE gs) := ⟨PI.imp (pi_enum hg hm ha.pe hs) fun σ H R q => by
  obtain ⟨F, ι, s, st, p⟩ := q
  refine seqA st Ext.refl p fun vs zs s1 F1 H1 ι1 st1 x1 r1 q1 => ?_
  split at q1
  · match vs, r1 with
    | [v], ⟨h, _⟩ =>
      cases (show Rep X.K X.mg F1 v (.lst _) from h) with
      | lst hh r => exact ⟨_, _, rfl, SqL.of (st1.fh _ _ hh), q1 F1 H1 ι1 st1 x1 _ (itd_enum (SqL.of hh) r)⟩
  · exact q1.elim⟩
/-- zip of two lists -/
def iZ (gs : SA) : SI := fun s => (gs s).bind fun zs s1 => match zs with
  | [.dat (.lst ds), .dat (.lst es)] => .ok (zipD ds es) s1
  | _ => .bad
theorem di_zip {elts : List Expr} {kk : Nat} {tpos : Pos} (hg : Gl X "zip") (hm : X.mg "zip" = none) (ha : DA X W [a, b] gs) (hs : starEach [a, b] X.env = (false, eval a X.env) :: starEach [b] X.env := by rfl) (hpl : (backTo pos (starEach [b] X.env)).any (·.1) = false := by rfl) : DI X W (.Tuple elts kk tpos) (.Call (.Name "zip" p) [a, b] [] pos) (iZ gs) := ⟨PI.imp (pi_zip hg hm ha.pe hs hpl) fun σ H R q => by
  obtain ⟨F, ι, s, st, p⟩ := q
  refine seqA st Ext.refl p fun vs zs s1 F1 H1 ι1 st1 x1 r1 q1 => ?_
  split at q1
  · match vs, r1 with
    | [v, u], ⟨h, h', _⟩ =>
      cases (show Rep X.K X.mg F1 v (.lst _) from h) with
      | lst hh r =>
        cases (show Rep X.K X.mg F1 u (.lst _) from h') with
        | lst hh' r' => exact ⟨_, _, _, _, rfl, SqL.of (st1.fh _ _ hh), SqL.of (st1.fh _ _ hh'), q1 F1 H1 ι1 st1 x1 _ (itd_zip (SqL.of hh) r (SqL.of hh') r')⟩
  · exact q1.elim⟩
end

/-! ### for -/
def forL (sg : SG) (body : SS) : List Dt → Sg → Rs Fl
  | [], s => .ok .nx s
  | d :: ds, s => (sg d s).bind fun _ s1 => (body s1).bind fun fl s2 => match fl with
    | .nx => forL sg body ds s2
    | .ct => forL sg body ds s2
    | .bk => .ok .nx s2
    | .rt r => .ok (.rt r) s2
def sFor (gi : SI) (sg : SG) (body : SS) : SS := fun s => (gi s).bind fun ds s1 => forL sg body ds s1
theorem _root_.L2.TS.x {D : Ends} : D = { nx := D.nx, rt := D.rt, bk := D.bk, ct := D.ct } := rfl
theorem RdOk.step {K : PySem.W.Frag} {mg : Str → Option Value} {F H H' F0 H0 : Hp} {ι ι0 : List Addr} {σ : L2.St} {s : Sg} {x : V} {o : Rd} (st : StOk K mg F H ι σ s) (y : Ext F0 H0 ι0 F H ι) (h : RdOk K mg F H H' x o) (hn : ∀ ds, o ≠ .newL ds) :
    ∃ F', StOk K mg F' H' ι σ s ∧ Ext F0 H0 ι0 F' H' ι ∧ Same F F' ∧ Rep K mg F' x o.dt := by
  cases o with
  | val d => obtain ⟨rfl, r⟩ := h; exact ⟨F, st, y, fun _ _ e => e, r⟩
  | newL ds => exact absurd rfl (hn ds)
  | newT ds =>
    obtain ⟨a, vs, rfl, hp, rfl, r⟩ := h
    have st1 := st.laid (o := .tup vs) hp
    have x1 := y.trans (Ext.laid (o := .tup vs) hp)
    obtain ⟨a1, b1, sm⟩ := freeze1 (u := .tup vs) st1 x1 (.inl (y.free hp)) (st.fnone hp) (fun k o e1 _ _ => st.nin hp (List.mem_of_getElem? e1)) upd_same (fun a z => nomatch z)
    exact ⟨_, a1, b1, sm, Rep.tup (.inl (.inl upd_same)) (RepL.mono sm r)⟩
theorem RdOk.step' {K : PySem.W.Frag} {mg : Str → Option Value} {F H H' F0 H0 : Hp} {ι ι0 : List Addr} {σ : L2.St} {s : Sg} {x : V} {o : Rd} (st : StOk K mg F H ι σ s) (y : Ext F0 H0 ι0 F H ι) (h : RdOk K mg F H H' x o) :
    ∃ F', StOk K mg F' H' ι σ s ∧ Ext F0 H0 ι0 F' H' ι ∧ Same F F' ∧ Rep K mg F' x o.dt := by
  cases o with
  | val d => exact RdOk.step st y h (fun _ z => by cases z)
  | newT ds => exact RdOk.step st y h (fun _ z => by cases z)
  | newL ds =>
    obtain ⟨a, vs, rfl, hp, rfl, r⟩ := h
    have st1 := st.laid (o := .lst vs) hp
    have x1 := y.trans (Ext.laid (o := .lst vs) hp)
    obtain ⟨a1, b1, sm⟩ := freeze1 (u := .lst vs) st1 x1 (.inl (y.free hp)) (st.fnone hp) (fun k o e1 _ _ => st.nin hp (List.mem_of_getElem? e1)) upd_same (fun a z => nomatch z)
    exact ⟨_, a1, b1, sm, Rep.lst upd_same (RepL.mono sm r)⟩
section
variable {X : Cx} {W : WX} {c e tg : Expr} {pos p : Pos} {gi : SI} {sg : SG} {h1 : SS} {body : List Stmt} {l : List Nat} {tc : STs}
theorem ds_for (hp : PassesOwn (model X.prog X.w) X.A X.env X.xe) (hc : X.calm = true) (hi : DI X W tg e gi) (hg : DG X W tg l sg) (hb : DB X W body h1) (hs : ∀ x, foldedSetIterable e X.env x = pure x := by intro _; rfl) : DS X W (.For tg e body [] pos) (sFor gi sg h1) :=
  ⟨(ps_for hp hc hi.pi hg.pg hb.ps hs).imp fun D σ H q => by
    obtain ⟨F, ι, s, st, p⟩ := q
    refine ⟨F, ι, s, st, p.bind.post.imp fun ds s1 F1 H1 ι1 st1 x1 q1 J hJ => ?_⟩
    refine ⟨fun i m σ' H' => m = ds.length - i ∧ i ≤ ds.length ∧ ∃ F' ι' s', StOk X.K X.mg F' H' ι' σ' s' ∧ Ext F H ι F' H' ι' ∧ Same F1 F' ∧
      PostS X.K X.mg W F H ι (forL sg h1 (ds.drop i) s') (fun fl _ F' H' ι' σ' => endS X.K X.mg H D fl F' H' ι' σ'), ⟨_, rfl, Nat.zero_le _, F1, ι1, s1, st1, x1, fun _ _ e => e, q1⟩, ?_⟩
    rintro i m σ2 H2 ⟨rfl, hi, F2, ι2, s2, st2, x2, sm2, q2⟩
    by_cases hlt : i < ds.length
    · right
      have ed : ds[i]? = some ds[i] := List.getElem?_eq_getElem hlt
      rw [List.drop_eq_getElem_cons hlt] at q2
      refine ⟨hJ.go F2 H2 i _ sm2 st2.fh ed, fun σ' H' => ∃ F' ι' s', StOk X.K X.mg F' H' ι' σ' s' ∧ Ext F H ι F' H' ι' ∧ Same F1 F' ∧
        PostS X.K X.mg W F H ι (forL sg h1 (ds.drop (i + 1)) s') (fun fl _ F' H' ι' σ' => endS X.K X.mg H D fl F' H' ι' σ'), fun σ' H' h => ⟨_, by omega, rfl, hlt, h⟩, fun x H' y => ?_⟩
      obtain ⟨o, ok, eo⟩ := hJ.yld F2 H2 i _ x H' sm2 st2.fh ed y
      obtain ⟨F3, st3, x3, sm3, r3⟩ := ok.step' st2 x2
      rw [eo] at r3
      have q2 := q2.bind
      refine ⟨F3, ι2, s2, _, st3, r3, (q2.base x3).imp fun _ s4 F4 H4 ι4 σ4 st4 x4 q4 _ => ?_⟩
      have x04 := x3.trans x4
      refine ⟨F4, ι4, s4, st4, (q4.bind.base x04).imp fun fl s5 F5 H5 ι5 σ5 st5 x5 q5 => ?_⟩
      have x05 := x04.trans x5
      have sm5 : Same F1 F5 := same_trans (same_trans (same_trans sm2 sm3) x4.f) x5.f
      cases fl with
      | nx => exact ⟨F5, ι5, s5, st5, x05, sm5, q5⟩
      | ct => exact ⟨F5, ι5, s5, st5, x05, sm5, q5⟩
      | bk => exact q5 F5 H5 ι5 σ5 st5 x05
      | rt r => exact fun v rv => q5 F5 H5 ι5 σ5 st5 x05 v (rv.base x04)
    · left
      have hi' : i = ds.length := by omega
      subst hi'
      rw [List.drop_length] at q2
      exact ⟨hJ.stop F2 H2 sm2 st2.fh, q2 F2 H2 ι2 σ2 st2 x2⟩⟩
/-! ### while -/
def whL (tc : STs) (body : SS) : Nat → Sg → Rs Fl
  | 0, _ => .bad
  | n + 1, s => (tc s).bind fun b s1 => if b = true then (body s1).bind fun fl s2 => match fl with
      | .nx => whL tc body n s2
      | .ct => whL tc body n s2
      | .bk => .ok .nx s2
      | .rt r => .ok (.rt r) s2
    else .ok .nx s1
theorem ds_while (n : Nat) (hp : PassesOwn (model X.prog X.w) X.A X.env X.xe) (hc : DT X W c tc) (hb : DB X W body h1) : DS X W (.While c body [] pos) (whL tc h1 n) :=
  ⟨(ps_while hp hc.pe hb.ps).imp fun D σ H q => by
    obtain ⟨F, ι, s, st, p⟩ := q
    refine ⟨fun m σ' H' => ∃ F' ι' s', StOk X.K X.mg F' H' ι' σ' s' ∧ Ext F H ι F' H' ι' ∧ PostS X.K X.mg W F H ι (whL tc h1 m s') (fun fl _ F' H' ι' σ' => endS X.K X.mg H D fl F' H' ι' σ'), ⟨n, F, ι, s, st, Ext.refl, p⟩, ?_⟩
    rintro m σ2 H2 ⟨F2, ι2, s2, st2, x2, q2⟩
    cases m with
    | zero => exact q2.elim
    | succ m =>
      refine seqTS st2 x2 q2 fun b s3 F3 H3 ι3 st3 x3 q3 => ?_
      have x03 := x2.trans x3
      cases b with
      | false => exact q3 F3 H3 ι3 σ2 st3 x03
      | true =>
        refine ⟨fun σ' H' => ∃ F' ι' s', StOk X.K X.mg F' H' ι' σ' s' ∧ Ext F H ι F' H' ι' ∧ PostS X.K X.mg W F H ι (whL tc h1 m s') (fun fl _ F' H' ι' σ' => endS X.K X.mg H D fl F' H' ι' σ'), fun σ' H' h => ⟨m, Nat.lt_succ_self _, h⟩, ?_⟩
        have q3 : PostS X.K X.mg W F H ι ((h1 s3).bind _) _ := q3
        refine ⟨F3, ι3, s3, st3, (q3.bind.base x03).imp fun fl s5 F5 H5 ι5 σ5 st5 x5 q5 => ?_⟩
        have x05 := x03.trans x5
        cases fl with
        | nx => exact ⟨F5, ι5, s5, st5, x05, q5⟩
        | ct => exact ⟨F5, ι5, s5, st5, x05, q5⟩
        | bk => exact q5 F5 H5 ι5 σ5 st5 x05
        | rt r => exact fun v rv => q5 F5 H5 ι5 σ5 st5 x05 v (rv.base x03)⟩
end
end HD
set_option maxHeartbeats 1000000
/-! HD5: list comprehensions. -/
namespace HD
open PySem PySem.Spec PyProof.Rows L2

def Rs.noErr {α : Type} (r : Rs α) : Rs α :=
  match r with
  | .ok a s => .ok a s
  | _ => .bad
/-- the block's own slots forgotten -/
def wipeS : List (Option Zv) → List Nat → List (Option Zv)
  | sl, [] => sl
  | sl, v :: vs => (wipeS sl vs).set v none
theorem wipeS_length (sl : List (Option Zv)) : ∀ vs, (wipeS sl vs).length = sl.length
  | [] => rfl
  | v :: vs => by unfold wipeS; rw [List.length_set, wipeS_length sl vs]
theorem wipeS_some {sl : List (Option Zv)} {i : Nat} {z : Zv} : ∀ {vs : List Nat}, (wipeS sl vs)[i]? = some (some z) → sl[i]? = some (some z) ∧ i ∉ vs
  | [], h => ⟨h, by simp⟩
  | v :: vs, h => by
    unfold wipeS at h
    by_cases hi : v = i
    · subst hi
      rw [List.getElem?_set] at h
      simp only [if_true] at h
      split at h <;> cases h
    · rw [List.getElem?_set_ne hi] at h
      have := wipeS_some h
      exact ⟨this.1, fun hm => by
        rcases List.mem_cons.mp hm with e | hm
        · exact hi e.symm
        · exact this.2 hm⟩
def compL (sg : SG) (t : STs) (ga : SZ) (vs : List Nat) (sl : List (Option Zv)) : List Dt → List Dt → Sg → Rs (List Dt)
  | [], acc, s => .ok acc s
  | d :: ds, acc, s => (sg d ⟨wipeS sl vs, s.ob⟩).noErr.bind fun _ s1 => (t s1).noErr.bind fun b s2 => if b = true then (ga s2).noErr.bind fun z s3 => match z with
      | .dat e => if acc.length < sizeLine then compL sg t ga vs sl ds (acc ++ [e]) s3 else .bad
      | .ref _ => .bad
    else compL sg t ga vs sl ds acc s2
def lcEnd (sl : List (Option Zv)) : List Dt → Sg → Rs Rv := fun es s2 => .ok (.new (.lst es)) ⟨sl, s2.ob⟩
def eLc (gi : SI) (sg : SG) (t : STs) (ga : SZ) (vs : List Nat) : SE := fun s => (gi s).bind fun ds s1 => (compL sg t ga vs s1.sl ds [] s1).bind (lcEnd s1.sl)
abbrev W0 : WX := fun _ _ _ _ => False
section
variable {K : PySem.W.Frag} {mg : Str → Option Value} {W : WX} {F F0 F1 H H0 H1 : Hp} {ι ι0 ι1 : List Addr} {σ σ1 : L2.St} {s : Sg} {α β : Type}
theorem Post.noErr {r : Rs α} {Q : α → Sg → Hp → Hp → List Addr → Prop} (p : Post K mg W F H ι σ r.noErr Q) : Post K mg W0 F H ι σ r Q := by
  cases r with
  | ok a s => exact p
  | err c fs s => exact p.elim
  | bad => exact p.elim
theorem PostS.noErr {r : Rs α} {Q : α → Sg → Hp → Hp → List Addr → L2.St → Prop} (p : PostS K mg W F H ι r.noErr Q) : PostS K mg W0 F H ι r Q := by
  cases r with
  | ok a s => exact p
  | err c fs s => exact p.elim
  | bad => exact p.elim
/-- no exception is wanted: any wish will do -/
theorem Rs.noErr_bind {r : Rs α} {f : α → Sg → Rs β} {Q : β → Sg → Hp → Hp → List Addr → Prop} (p : Post K mg W F H ι σ (r.noErr.bind f) Q) : ∃ a s, r = .ok a s ∧ Post K mg W F H ι σ (f a s) Q := by
  cases r with
  | ok a s => exact ⟨a, s, rfl, p⟩
  | err c fs s => exact p.elim
  | bad => exact p.elim
theorem wipe_eq {σ σ' : L2.St} {vs l : List Nat} (h : OffS l (wipe σ vs) σ') (hl : ∀ j ∈ l, j ∈ vs) : wipe σ' vs = wipe σ vs := by
  refine List.ext_getElem? fun j => ?_
  by_cases hj : j ∈ vs
  · have a : ∀ σ : L2.St, (wipe σ vs)[j]? = if j < σ.length then some none else none := fun σ => by
      have hlen := wipe_length σ vs
      by_cases hlt : j < σ.length
      · rw [if_pos hlt]
        have hl2 : j < (wipe σ vs).length := by omega
        rw [List.getElem?_eq_getElem hl2]
        cases e : (wipe σ vs)[j] with
        | none => rfl
        | some x =>
          have : (wipe σ vs)[j]? = some (some x) := by rw [List.getElem?_eq_getElem hl2, e]
          exact absurd hj (wipe_some this).2
      · rw [if_neg hlt, List.getElem?_eq_none_iff]
        omega
    rw [a, a]
    have := h.1
    rw [wipe_length] at this
    rw [this]
  · have h1 : (wipe σ' vs)[j]? = σ'[j]? := wipe_out hj
    rw [h1, h.2 j fun z => hj (hl j z)]
/-- the state of a block's turn -/
theorem StOk.wiped {sl : List (Option Zv)} {vs : List Nat} {ob : List Ob} (st : StOk K mg F H ι σ ⟨sl, ob⟩) : StOk K mg F H ι (wipe σ vs) ⟨wipeS sl vs, ob⟩ where
  fh := st.fh
  nd := st.nd
  ln := st.ln
  th := st.th
  own := st.own
  sz := by rw [wipe_length, wipeS_length]; exact st.sz
  vr := fun i z e => by
    obtain ⟨e1, hn⟩ := wipeS_some e
    obtain ⟨v, e2, q⟩ := st.vr i z e1
    exact ⟨v, by rw [wipe_out hn]; exact e2, q⟩
/-- the slots of another time over later objects -/
theorem StOk.slots {σ' : L2.St} {sl : List (Option Zv)} {s' : Sg} (st : StOk K mg F1 H1 ι1 σ' s') (x : Ext F H ι F1 H1 ι1) (st0 : StOk K mg F H ι σ ⟨sl, s.ob⟩) : StOk K mg F1 H1 ι1 σ ⟨sl, s'.ob⟩ where
  fh := st.fh
  nd := st.nd
  ln := st.ln
  th := st.th
  own := st.own
  sz := st0.sz
  vr := fun i z e => by
    obtain ⟨v, e2, q⟩ := st0.vr i z e
    exact ⟨v, e2, q.mono x⟩
end

section
variable {X : Cx} {W : WX} {e tg iter elt : Expr} {pos : Pos} {gi : SI} {sg : SG} {l : List Nat} {t : STs} {ga : SZ} {ifs : List Expr} {scope : Scope} {own : List (Str × Nat)}
def DGb (X : Cx) (scope : Scope) (e : Expr) (l : List Nat) (g : SG) : Prop := ∀ (s : Shared) (H : Hp) (C : Addr) (cl : List (Str × Addr)) (fp : List Addr), DG (X.blk s H scope (compEnvC scope cl C X.env) fp) W0 e l g
def DZb (X : Cx) (scope : Scope) (e : Expr) (g : SZ) : Prop := ∀ (s : Shared) (H : Hp) (C : Addr) (cl : List (Str × Addr)) (fp : List Addr), DZ (X.blk s H scope (compEnvC scope cl C X.env) fp) W0 e g
def DTb (X : Cx) (scope : Scope) (es : List Expr) (g : STs) : Prop := ∀ (s : Shared) (H : Hp) (C : Addr) (cl : List (Str × Addr)) (fp : List Addr), PTs (X.blk s H scope (compEnvC scope cl C X.env) fp) es (tT X.K X.mg W0 g)
def tY : STs := fun s => .ok true s
theorem dtb_nil : DTb X scope [] tY := fun s H C cl fp => ⟨fun pins s σ H Q I q => by
  refine pts_nil.run pins s σ H Q I ?_
  obtain ⟨F, ι, s, st, p⟩ := q
  exact p F H ι st Ext.refl⟩
theorem dtb_one (h : ∀ (s : Shared) (H : Hp) (C : Addr) (cl : List (Str × Addr)) (fp : List Addr), DT (X.blk s H scope (compEnvC scope cl C X.env) fp) W0 e t) : DTb X scope [e] t := fun s H C cl fp => pts_one (h s H C cl fp).pe
theorem keepD {K : PySem.W.Frag} {mg : Str → Option Value} {F H F' H' : Hp} {ι ι' : List Addr} {D : Addr} {v : List V} (x : Ext F H ι F' H' ι') (sm : Same F' H') (h : H D = some (.lst v)) (f : F D = none) (n : D ∉ ι) : H' D = some (.lst v) ∧ F' D = none ∧ D ∉ ι' := by
  have hk := x.keep D _ h n
  refine ⟨hk, ?_, fun z => ?_⟩
  · cases q : F' D with
    | none => rfl
    | some u =>
      rcases x.new D u q with e | e | e | ⟨a, e, _⟩
      · rw [f] at e; cases e
      · rw [h] at e; cases e
      · exact absurd e n
      · subst e
        have := sm D _ q
        rw [hk] at this; cases this
  · rcases x.out D z with e | e
    · exact n e
    · rw [h] at e; cases e
theorem StOk.chg {K : PySem.W.Frag} {mg : Str → Option Value} {F H : Hp} {ι : List Addr} {σ : L2.St} {s : Sg} {D : Addr} {v w : List V} (st : StOk K mg F H ι σ s) (h : H D = some (.lst v)) (f : F D = none) (n : D ∉ ι) : StOk K mg F (upd H D (.lst w)) ι σ s where
  fh := fun b o e => by rw [upd_ne (ne_of_none e f)]; exact st.fh b o e
  nd := st.nd
  ln := st.ln
  th := fun a ha => by
    have : a ≠ D := fun z => n (z ▸ ha)
    rw [upd_ne this]; exact st.th a ha
  own := fun k a o e1 e2 nd => by
    have hm := List.mem_of_getElem? e1
    have ha : a ≠ D := fun z => n (z ▸ hm)
    refine ⟨(st.own k a o e1 e2 nd).1, ?_⟩
    have ok := (st.own k a o e1 e2 nd).2
    cases o with
    | lst ds => obtain ⟨vs, e, r⟩ := ok; exact ⟨vs, by rw [upd_ne ha]; exact e, r⟩
    | dct ds => obtain ⟨vs, e, r⟩ := ok; exact ⟨vs, by rw [upd_ne ha]; exact e, r⟩
    | ins c ds =>
      obtain ⟨C, dx, vs, hc, e, hd, hf, r⟩ := ok
      have hx : dx ≠ D := fun z => by rw [z, h] at hd; cases hd
      exact ⟨C, dx, vs, hc, by rw [upd_ne ha]; exact e, by rw [upd_ne hx]; exact hd, hf, r⟩
    | dead => exact True.intro
  sz := st.sz
  vr := st.vr
theorem Ext.chg {F H F' H' : Hp} {ι ι' : List Addr} {D : Addr} {o : HO} (x : Ext F H ι F' H' ι') (h : H D = none) : Ext F H ι F' (upd H' D o) ι' :=
  ⟨x.f, x.p, fun b q e hb => by rw [upd_ne (ne_of_none e h)]; exact x.keep b q e hb, x.new, x.out, fun b hb => by
    have : b ≠ D := fun z => hb (z ▸ h)
    rw [upd_ne this]; exact x.dom b hb⟩
/-- the reading of a comprehension -/
theorem lc_ok {vs : List Nat} (hl : ∀ j ∈ l, j ∈ vs) {σ : L2.St} {H : Hp} {Q : VK} (q : tE X.K X.mg W (eLc gi sg t ga vs) σ H Q) :
    tLc (tI X.K X.mg W gi) (tG X.K X.mg W0 l sg) (tT X.K X.mg W0 t) (tZ X.K X.mg W0 ga) vs σ H Q := by
  obtain ⟨F, ι, s, st, p⟩ := q
  refine ⟨F, ι, s, st, p.bind.imp fun ds s1 F1 H1 ι1 st1 x1 q1 J hJ D hD => ?_⟩
  have hD0 := x1.free hD
  -- the invariant
  refine ⟨fun i m H' => m = ds.length - i ∧ i ≤ ds.length ∧ ∃ F' ι' s' acc vacc, StOk X.K X.mg F' H' ι' σ ⟨s1.sl, s'.ob⟩ ∧ Ext F H ι F' H' ι' ∧ Same F1 F' ∧
    H' D = some (.lst vacc) ∧ F' D = none ∧ D ∉ ι' ∧ RepL X.K X.mg F' vacc acc ∧
    Post X.K X.mg W F H ι σ ((compL sg t ga vs s1.sl (ds.drop i) acc s').bind (lcEnd s1.sl)) (fun r s' F' H' ι' => ∀ v, RvOk X.K X.mg H F' H' ι' v r → Q v H'),
    ⟨_, rfl, Nat.zero_le _, F1, ι1, s1, [], [], st1.laid hD, x1.trans (Ext.laid hD), fun _ _ e => e, upd_same, st1.fnone hD, st1.nin hD, .nil, q1⟩, ?_⟩
  rintro i m H2 ⟨rfl, hi, F2, ι2, s2, acc, vacc, st2, x2, sm2, hD2, fD2, nD2, racc, q2⟩
  by_cases hlt : i < ds.length
  · right
    have ed : ds[i]? = some ds[i] := List.getElem?_eq_getElem hlt
    rw [List.drop_eq_getElem_cons hlt] at q2
    refine ⟨hJ.go F2 H2 i _ sm2 st2.fh ed, fun H' => ∃ F' ι' s' acc vacc, StOk X.K X.mg F' H' ι' σ ⟨s1.sl, s'.ob⟩ ∧ Ext F H ι F' H' ι' ∧ Same F1 F' ∧
      H' D = some (.lst vacc) ∧ F' D = none ∧ D ∉ ι' ∧ RepL X.K X.mg F' vacc acc ∧
      Post X.K X.mg W F H ι σ ((compL sg t ga vs s1.sl (ds.drop (i + 1)) acc s').bind (lcEnd s1.sl)) (fun r s' F' H' ι' => ∀ v, RvOk X.K X.mg H F' H' ι' v r → Q v H'),
      fun H' h => ⟨_, by omega, rfl, hlt, h⟩, fun x H' y => ?_⟩
    obtain ⟨o, ok, eo⟩ := hJ.yld F2 H2 i _ x H' sm2 st2.fh ed y
    obtain ⟨F3, st3, x3, sm3, r3⟩ := ok.step' st2 Ext.refl
    rw [eo] at r3
    have q2 : Post X.K X.mg W F H ι σ (((sg ds[i] ⟨wipeS s1.sl vs, s2.ob⟩).noErr.bind fun _ s1' => (t s1').noErr.bind fun b s2' => if b = true then (ga s2').noErr.bind fun z s3 => match z with
      | .dat e => if acc.length < sizeLine then compL sg t ga vs s1.sl (ds.drop (i + 1)) (acc ++ [e]) s3 else .bad
      | .ref _ => .bad
      else compL sg t ga vs s1.sl (ds.drop (i + 1)) acc s2').bind (lcEnd s1.sl)) _ := q2
    cases e4 : sg ds[i] ⟨wipeS s1.sl vs, s2.ob⟩ with
    | err c fs s' => rw [e4] at q2; exact q2.elim
    | bad => rw [e4] at q2; exact q2.elim
    | ok u4 s4 =>
      rw [e4] at q2
      refine ⟨F3, ι2, ⟨wipeS s1.sl vs, s2.ob⟩, ds[i], st3.wiped, r3, ?_⟩
      rw [e4]
      intro F4 H4 ι4 σ4 st4 x4 off
      refine ⟨wipe_eq off hl, ?_⟩
      have q2 : Post X.K X.mg W F H ι σ (((t s4).noErr.bind fun b s2' => if b = true then (ga s2').noErr.bind fun z s3 => match z with
        | .dat e => if acc.length < sizeLine then compL sg t ga vs s1.sl (ds.drop (i + 1)) (acc ++ [e]) s3 else .bad
        | .ref _ => .bad
        else compL sg t ga vs s1.sl (ds.drop (i + 1)) acc s2').bind (lcEnd s1.sl)) _ := q2
      cases e5 : t s4 with
      | err c fs s' => rw [e5] at q2; exact q2.elim
      | bad => rw [e5] at q2; exact q2.elim
      | ok b s5 =>
        rw [e5] at q2
        refine ⟨F4, ι4, s4, st4, ?_⟩
        rw [e5]
        intro F5 H5 ι5 st5 x5
        have x25 := x3.trans (x4.trans x5)
        cases b with
        | false =>
          obtain ⟨k1, k2, k3⟩ := keepD (K := X.K) (mg := X.mg) x25 st5.fh hD2 fD2 nD2
          exact ⟨F5, ι5, s5, acc, vacc, st5.slots x25 st2, x2.trans x25, same_trans sm2 x25.f, k1, k2, k3, RepL.mono x25.f racc, q2⟩
        | true =>
          have q2 : Post X.K X.mg W F H ι σ (((ga s5).noErr.bind fun z s3 => match z with
            | .dat e => if acc.length < sizeLine then compL sg t ga vs s1.sl (ds.drop (i + 1)) (acc ++ [e]) s3 else .bad
            | .ref _ => .bad).bind (lcEnd s1.sl)) _ := q2
          show tZ X.K X.mg W0 ga σ4 H5 _
          cases e6 : ga s5 with
          | err c fs s' => rw [e6] at q2; exact q2.elim
          | bad => rw [e6] at q2; exact q2.elim
          | ok z s6 =>
            rw [e6] at q2
            cases z with
            | ref k => exact q2.elim
            | dat d6 =>
              have q2 : Post X.K X.mg W F H ι σ ((if acc.length < sizeLine then compL sg t ga vs s1.sl (ds.drop (i + 1)) (acc ++ [d6]) s6 else .bad).bind (lcEnd s1.sl)) _ := q2
              by_cases hz : acc.length < sizeLine
              · rw [if_pos hz] at q2
                refine ⟨F5, ι5, s5, st5, ?_⟩
                rw [e6]
                intro F6 H6 ι6 st6 x6 v6 r6
                have x26 := x25.trans x6
                obtain ⟨k1, k2, k3⟩ := keepD (K := X.K) (mg := X.mg) x26 st6.fh hD2 fD2 nD2
                refine ⟨vacc, k1, by rw [racc.length]; exact hz, F6, ι6, s6, acc ++ [d6], vacc ++ [v6], (st6.slots x26 st2).chg k1 k2 k3, (x2.trans x26).chg hD0, same_trans sm2 x26.f, upd_same, k2, k3, (RepL.mono x26.f racc).append (.cons r6 .nil), q2⟩
              · rw [if_neg hz] at q2; exact q2.elim
  · left
    have hi' : i = ds.length := by omega
    subst hi'
    rw [List.drop_length] at q2
    exact ⟨hJ.stop F2 H2 sm2 st2.fh, q2 F2 H2 ι2 st2 x2 _ ⟨D, rfl, hD0, fD2, nD2, (by intro z; cases z), ⟨vacc, hD2, racc⟩⟩⟩
theorem de_lc (hc : X.calm = true) (hN : X.N.Nodup) (hi : DI X W tg iter gi) (ok : BlkOk X.N X.env.scope scope own) (hg : DGb X scope tg l sg) (ht : DTb X scope ifs t) (he : DZb X scope elt ga) (hl : ∀ j ∈ l, j ∈ own.map (·.2)) (hs : ∀ x, foldedSetIterable iter X.env x = pure x := by intro _; rfl) :
    DE X W (.ListComp elt [⟨tg, iter, ifs, 0⟩] scope pos) (eLc gi sg t ga (own.map (·.2))) :=
  ⟨(pe_lc hc hN hi.pi ok (fun s H C cl fp => (hg s H C cl fp).pg) (fun s H C cl fp => ht s H C cl fp) (fun s H C cl fp => (he s H C cl fp).pe) hs).imp fun σ H Q q => lc_ok hl q⟩
/-- y = [..] on one line: frozen; as an own object -/
theorem ds_setLc {i : Nat} {y : Str} {py spos : Pos} (hc : X.calm = true) (hN : X.N.Nodup) (hy : X.N[i]? = some y) (hyl : X.env.scope.names.lookup y = some .local) (hsw : swapsWith (.ListComp elt [⟨tg, iter, ifs, 0⟩] scope pos) (some (.Name y py)) spos.line X.env = pure true)
    (hi : DI X W tg iter gi) (ok : BlkOk X.N X.env.scope scope own) (hg : DGb X scope tg l sg) (ht : DTb X scope ifs t) (he : DZb X scope elt ga) (hl : ∀ j ∈ l, j ∈ own.map (·.2)) (hs : ∀ x, foldedSetIterable iter X.env x = pure x := by intro _; rfl) :
    DS X W (.Assign [.Name y py] (.ListComp elt [⟨tg, iter, ifs, 0⟩] scope pos) spos) (sSet i (zE (eLc gi sg t ga (own.map (·.2))))) :=
  ⟨(ps_setLc hc hN hy hyl hsw hi.pi ok (fun s H C cl fp => (hg s H C cl fp).pg) (fun s H C cl fp => ht s H C cl fp) (fun s H C cl fp => (he s H C cl fp).pe) hs).imp fun D σ H q => by
    obtain ⟨F, ι, s, st, p⟩ := q
    have p : PostS X.K X.mg W F H ι (((eLc gi sg t ga (own.map (·.2))) s).bind fun r s1 => optR r.z fun z => Rs.ok Fl.nx (putS i z s1)) (fun fl _ F' H' ι' σ' => endS X.K X.mg H D fl F' H' ι' σ') := by
      have e : sSet i (zE (eLc gi sg t ga (own.map (·.2)))) s = ((eLc gi sg t ga (own.map (·.2))) s).bind fun r s1 => optR r.z fun z => Rs.ok Fl.nx (putS i z s1) := by
        unfold sSet zE
        cases (eLc gi sg t ga (own.map (·.2))) s with
        | ok r s1 =>
          show Rs.bind (match r.z with | some z => Rs.ok z s1 | none => Rs.bad) _ = optR r.z fun z => Rs.ok Fl.nx (putS i z s1)
          cases r.z <;> rfl
        | err c fs s1 => rfl
        | bad => rfl
      rw [← e]; exact p
    refine lc_ok (W := W) hl (seqES st Ext.refl p fun v r s1 F1 H1 ι1 st1 x1 rv q => ?_)
    obtain ⟨z, hz, q⟩ := q.opt
    obtain ⟨F2, st2, x2, _, zv⟩ := freeze st1 x1 rv hz
    exact q F2 H1 ι1 _ (st2.put zv) x2⟩
theorem ds_newLc {i : Nat} {y : Str} {py spos : Pos} (hc : X.calm = true) (hN : X.N.Nodup) (hy : X.N[i]? = some y) (hyl : X.env.scope.names.lookup y = some .local) (hsw : swapsWith (.ListComp elt [⟨tg, iter, ifs, 0⟩] scope pos) (some (.Name y py)) spos.line X.env = pure true)
    (hi : DI X W tg iter gi) (ok : BlkOk X.N X.env.scope scope own) (hg : DGb X scope tg l sg) (ht : DTb X scope ifs t) (he : DZb X scope elt ga) (hl : ∀ j ∈ l, j ∈ own.map (·.2)) (hs : ∀ x, foldedSetIterable iter X.env x = pure x := by intro _; rfl) :
    DS X W (.Assign [.Name y py] (.ListComp elt [⟨tg, iter, ifs, 0⟩] scope pos) spos) (sNew i (eLc gi sg t ga (own.map (·.2)))) :=
  ⟨(ps_setLc hc hN hy hyl hsw hi.pi ok (fun s H C cl fp => (hg s H C cl fp).pg) (fun s H C cl fp => ht s H C cl fp) (fun s H C cl fp => (he s H C cl fp).pe) hs).imp fun D σ H q => by
    obtain ⟨F, ι, s, st, p⟩ := q
    refine lc_ok (W := W) hl (seqES st Ext.refl p fun v r s1 F1 H1 ι1 st1 x1 rv q => ?_)
    obtain ⟨_, _, _, q⟩ := nm_ok st1 x1 rv q
    exact q⟩
end
end HD
set_option maxHeartbeats 1000000
/-! HD6: a def as a function on data: its promise, its body, its calls. -/
namespace HD
open PySem PySem.Spec PyProof.Rows L2

inductive Rm where
  | ok (r : Rv) (os : List Ob) | err (c : Str) (fs : List (Str × Dt)) (os : List Ob) | bad
abbrev Mir := List Zv → List Ob → Rm
def shut (n : Nat) (r : Rv) (s : Sg) : Rm :=
  match r with
  | .dat d => .ok (.dat d) (s.ob.take n)
  | .new o => .ok (.new o) (s.ob.take n)
  | .ref k => if k < n then .ok (.ref k) (s.ob.take n) else match s.ob[k]? with
    | some (.lst ds) => .ok (.new (.lst ds)) (s.ob.take n)
    | some (.dct ds) => .ok (.new (.dct ds)) (s.ob.take n)
    | some (.ins c ds) => .ok (.new (.ins c ds)) (s.ob.take n)
    | _ => .bad
def shutR (n : Nat) (r : Rs Fl) : Rm :=
  match r with
  | .ok (.rt r) s => shut n r s
  | .ok .nx s => .ok (.dat .non) (s.ob.take n)
  | .err c fs s => .err c fs (s.ob.take n)
  | _ => .bad
/-- the mirror of a def by its body: n slots -/
def mkM (n : Nat) (body : SS) : Mir := fun zs os => shutR os.length (body ⟨zs.map some ++ List.replicate (n - zs.length) none, os⟩)
section
variable (K : PySem.W.Frag) (mg : Str → Option Value)
def PostM (F H : Hp) (ι : List Addr) (r : Rm) (Q : VK) (E : XK) : Prop :=
  match r with
  | .ok r os' => ∀ v F' H', StOk K mg F' H' ι [] ⟨[], os'⟩ → Ext F H ι F' H' ι → RvOk K mg H F' H' ι v r → Q v H'
  | .err c fs os' => ∀ F' H' cls d, StOk K mg F' H' ι [] ⟨[], os'⟩ → Ext F H ι F' H' ι → ExOk K mg F' H' c fs cls d → E cls d H'
  | .bad => False
def spD (n : Nat) (m : Mir) : Sp := fun vs H Q E => ∃ F ι zs os, vs.length = n ∧ StOk K mg F H ι [] ⟨[], os⟩ ∧ ZvsOk K mg F ι vs zs ∧ PostM K mg F H ι (m zs os) Q E
end
section
variable {K : PySem.W.Frag} {mg : Str → Option Value} {W : WX} {F F0 F1 H H0 H1 : Hp} {ι ι0 ι1 : List Addr} {σ σ1 : L2.St} {s : Sg} {α β : Type}
theorem ZvsOk.length : ∀ {vs : List V} {zs : List Zv}, ZvsOk K mg F ι vs zs → vs.length = zs.length
  | [], [], _ => rfl
  | _ :: _, _ :: _, ⟨_, h⟩ => congrArg (· + 1) (ZvsOk.length h)
  | [], _ :: _, h => h.elim
  | _ :: _, [], h => h.elim
theorem ZvsOk.get : ∀ {vs : List V} {zs : List Zv} {i : Nat} {z : Zv}, ZvsOk K mg F ι vs zs → zs[i]? = some z → ∃ v, vs[i]? = some v ∧ ZvOk K mg F ι v z
  | [], [], _, _, _, e => by simp at e
  | v :: _, z :: _, 0, _, ⟨h, _⟩, e => by simp at e; subst e; exact ⟨v, rfl, h⟩
  | _ :: vs, _ :: zs, i + 1, z, ⟨_, h⟩, e => by
    obtain ⟨v, e1, q⟩ := ZvsOk.get (i := i) h (by simpa using e)
    exact ⟨v, by simpa using e1, q⟩
  | [], _ :: _, _, _, h, _ => h.elim
  | _ :: _, [], _, _, h, _ => h.elim
/-- the first own objects alone -/
theorem StOk.cut {s' : Sg} (st : StOk K mg F1 H1 ι1 σ s') (x : Ext F H ι F1 H1 ι1) : StOk K mg F1 H1 ι [] ⟨[], s'.ob.take ι.length⟩ where
  fh := st.fh
  nd := by
    obtain ⟨t, e⟩ := x.p
    have := st.nd
    rw [e] at this
    exact (List.nodup_append.mp this).1
  ln := by
    obtain ⟨t, e⟩ := x.p
    have := st.ln
    rw [e, List.length_append] at this
    show ι.length = (s'.ob.take ι.length).length
    rw [List.length_take]
    omega
  th := fun a ha => st.th a (x.sub ha)
  own := fun k a o e1 e2 nd => by
    have hk := (List.getElem?_eq_some_iff.mp e1).1
    have e2 : (s'.ob.take ι.length)[k]? = some o := e2
    rw [List.getElem?_take_of_lt hk] at e2
    exact st.own k a o (x.at e1) e2 nd
  sz := rfl
  vr := fun i z e => by
    have e : ([] : List (Option Zv))[i]? = _ := e
    simp at e
theorem Ext.cut (x : Ext F H ι F1 H1 ι1) : Ext F H ι F1 H1 ι := ⟨x.f, ⟨[], by simp⟩, x.keep, x.new, fun _ h => .inl h, x.dom⟩
theorem shut_ok {s' : Sg} {r : Rv} {v : V} {Q : VK} {E : XK} (st : StOk K mg F1 H1 ι1 σ s') (x : Ext F H ι F1 H1 ι1) (rv : RvOk K mg H F1 H1 ι1 v r) (p : PostM K mg F H ι (shut ι.length r s') Q E) : Q v H1 := by
  cases r with
  | dat d => exact p v F1 H1 (st.cut x) x.cut rv
  | new o =>
    obtain ⟨q, e, hq, fq, nq, nd, ok⟩ := rv
    exact p v F1 H1 (st.cut x) x.cut ⟨q, e, hq, fq, fun z => nq (x.sub z), nd, ok⟩
  | ref k =>
    obtain ⟨a, ea, rfl⟩ := rv
    unfold shut at p
    by_cases hk : k < ι.length
    · simp only [hk, if_true] at p
      refine p _ F1 H1 (st.cut x) x.cut ⟨a, ?_, rfl⟩
      have := x.at (List.getElem?_eq_getElem hk)
      rw [ea] at this
      rw [List.getElem?_eq_getElem hk]
      exact this.symm
    · simp only [hk, if_false] at p
      have na : a ∉ ι := fun z => by
        obtain ⟨j, hj⟩ := List.getElem?_of_mem z
        have e2 := x.at hj
        have hjl := (List.getElem?_eq_some_iff.mp hj).1
        obtain ⟨h1, g1⟩ := List.getElem?_eq_some_iff.mp e2
        obtain ⟨h2, g2⟩ := List.getElem?_eq_some_iff.mp ea
        have := (List.getElem_inj st.nd).mp (g1.trans g2.symm)
        omega
      have ha : H a = none := (x.out a (List.mem_of_getElem? ea)).elim (fun z => absurd z na) id
      have fin : ∀ o, s'.ob[k]? = some o → o ≠ .dead → PostM K mg F H ι (.ok (.new o) (s'.ob.take ι.length)) Q E → Q (V.ref a) H1 := fun o eo nd p =>
        p _ F1 H1 (st.cut x) x.cut ⟨a, rfl, ha, (st.own k a o ea eo nd).1, na, nd, (st.own k a o ea eo nd).2⟩
      split at p
      · rename_i e; exact fin _ e (by intro z; cases z) p
      · rename_i e; exact fin _ e (by intro z; cases z) p
      · rename_i e; exact fin _ e (by intro z; cases z) p
      · exact p.elim
end
/-- a def keeps a promise where no repr is under way -/
structure FnG (P : Program) (w : World) (K : PySem.W.Frag) (mg : Str → Option Value) (base : Heap) (k : Nat) (f : Addr) (fd : FuncData) (ps : List Str) (sp : Sp) : Prop where
  len : ∀ vs H Q E, sp vs H Q E → vs.length = ps.length
  run : ∀ (A : Around) (outer : List Env) (s : Shared) (H : Hp) (args : Args) (us : List Value) (vs : List V) (Q : VK) (E : XK), A.guards = some [] → Room k A → Env0 P w K mg base A outer s H → BindsTo s fd args (ps.zip us) → Vals vs us → sp vs H Q E →
    codeAny (model P w) A (.call (.ref f) args) (CR (CX P w) outer P w H s Q E) s
theorem FnG.mono {P : Program} {w : World} {K : PySem.W.Frag} {mg : Str → Option Value} {base : Heap} {j k : Nat} {f : Addr} {fd : FuncData} {ps : List Str} {sp : Sp} (F : FnG P w K mg base j f fd ps sp) (h : j ≤ k) : FnG P w K mg base k f fd ps sp :=
  ⟨F.len, fun A outer s H args us vs Q E hg hr => F.run A outer s H args us vs Q E hg (hr.mono h)⟩
theorem fn_g {P : Program} {w : World} {K : PySem.W.Frag} {mg : Str → Option Value} {base : Heap} {x qual : Str} {st : Stmt} {f : Addr} {fd : FuncData} {N ps : List Str} {k : Nat} {sp : Sp} (F : Fun K x qual st f fd) (S : FnScope N ps (defScope st))
    (len : ∀ vs H Q E, sp vs H Q E → vs.length = ps.length)
    (hb : ∀ (cdv : Value) (A : Around) (outer : List Env) (s : Shared) (H : Hp) (vs : List V) (Q : VK) (E : XK), (A.deeper (envOfC qual (defScope st) s.heap.objs.size f cdv)).guards = some [] → Room k (A.deeper (envOfC qual (defScope st) s.heap.objs.size f cdv)) → sp vs H Q E →
      ∃ t, PSs (cxOf (CX P w) P w K mg base N qual (defScope st) f cdv A outer s H E) (defBody st) t ∧ t { nx := fun _ H' => Q .non H', rt := Q } (L2.start N vs) H) :
    FnG P w K mg base (k + 1) f fd ps sp := by
  obtain ⟨oc, od, kV, doc, pm, an, cdv, ct, osl, rfl, lk, hcd⟩ := F.ex
  refine ⟨len, fun A outer s H args us vs Q E hg hr e0 hbd r hsp => ?_⟩
  have hl := len _ _ _ _ hsp
  have KX : K.In s.heap := e0.mod.kin.keeps fun b o e => (e0.bs b o e).1
  refine codeAny_call_function hr.depth (KX _ _ lk) rfl S.co S.gen rfl (PySem.W.codeRec_of KX hcd) (hbd _ _ _ _ ?_)
  refine wpAny_newFunctionEnv_cells S.kind (fun y hy => ?_) fun env he s1 xx => ?_
  · rcases S.par y.1 (List.of_mem_zip hy).1 with q | q
    · exact .inl q
    · exact .inr ⟨q, PySem.W.cellsFrom_some _ _ _ (.inl q)⟩
  subst he
  refine ⟨(e0.mod.nolimit.keeps fun b o e => (e0.bs b o e).1).keeps xx.toInCall.keep, codeAny_func ?_⟩
  obtain ⟨t, ht, hq⟩ := hb cdv A outer s H vs Q E hg (hr.deeper _) hsp
  have I := inv_start (CX := CX P w) (E := E) S hr.hd e0 hl r xx
  refine wpAny_mono (ht.run [] s1 (L2.start N vs) H _ I hq) (fun fl s' hs => ?_) fun e s' hs => hs
  match fl, hs with
  | .ret u, ⟨v, σ', H', J, rv, q⟩ => exact ⟨v, H', J.os, J.bare, J.base, J.hok, rv, q⟩
  | .next, ⟨σ', H', J, q⟩ => exact ⟨V.non, H', J.os, J.bare, J.base, J.hok, rfl, q⟩
  | .brk, ⟨_, _, _, q⟩ => exact False.elim q
  | .cont, ⟨_, _, _, q⟩ => exact False.elim q
theorem fn_d {P : Program} {w : World} {K : PySem.W.Frag} {mg : Str → Option Value} {base : Heap} {x qual : Str} {st : Stmt} {f : Addr} {fd : FuncData} {N ps : List Str} {k : Nat} {body : SS} (F : Fun K x qual st f fd) (sc : FnScope N ps (defScope st))
    (hb : ∀ (cdv : Value) (A : Around) (outer : List Env) (s : Shared) (H : Hp) (E : XK), (A.deeper (envOfC qual (defScope st) s.heap.objs.size f cdv)).guards = some [] → Room k (A.deeper (envOfC qual (defScope st) s.heap.objs.size f cdv)) →
      DB (cxOf (CX P w) P w K mg base N qual (defScope st) f cdv A outer s H E) (fun cls d _ H => E cls d H) (defBody st) body) :
    FnG P w K mg base (k + 1) f fd ps (spD K mg ps.length (mkM N.length body)) := by
  refine fn_g F sc (fun vs H Q E h => ?_) (fun cdv A outer s H vs Q E hg hr h => ?_)
  · obtain ⟨_, _, _, _, h, _⟩ := h
    exact h
  · obtain ⟨F, ι, zs, os, hl, st0, zv, p⟩ := h
    have hB := hb cdv A outer s H E hg hr
    refine ⟨_, hB.ps, F, ι, ⟨zs.map some ++ List.replicate (N.length - zs.length) none, os⟩, ?_, ?_⟩
    · have el := zv.length
      refine ⟨st0.fh, st0.nd, st0.ln, st0.th, st0.own, ?_, fun i z e => ?_⟩
      · unfold L2.start
        simp only [List.length_append, List.length_map, List.length_replicate]
        omega
      · have hi : i < zs.length := by
          by_cases hi : i < zs.length
          · exact hi
          · have e : (zs.map some ++ List.replicate (N.length - zs.length) none)[i]? = _ := e
            rw [List.getElem?_append_right (by simpa using hi), List.getElem?_replicate] at e
            split at e <;> cases e
        have e : (zs.map some ++ List.replicate (N.length - zs.length) none)[i]? = some (some z) := e
        rw [List.getElem?_append_left (by simpa using hi), List.getElem?_map] at e
        cases e2 : zs[i]? with
        | none => rw [e2] at e; cases e
        | some z' =>
          rw [e2] at e
          cases e
          obtain ⟨v, ev, q⟩ := zv.get e2
          refine ⟨v, ?_, q⟩
          unfold L2.start
          rw [List.getElem?_append_left (by simp; omega), List.getElem?_map, ev]
          rfl
    · unfold mkM at p
      have hln : os.length = ι.length := st0.ln.symm
      rw [hln] at p
      cases er : body ⟨zs.map some ++ List.replicate (N.length - zs.length) none, os⟩ with
      | bad => rw [er] at p; exact p.elim
      | err c fs s' =>
        rw [er] at p
        exact fun F' H' ι' σ' cls d st1 x1 ex => p F' H' cls d (st1.cut x1) x1.cut ex
      | ok fl s' =>
        rw [er] at p
        cases fl with
        | bk => exact p.elim
        | ct => exact p.elim
        | nx => exact fun F' H' ι' σ' st1 x1 => p .non F' H' (st1.cut x1) x1.cut .non
        | rt r => exact fun F' H' ι' σ' st1 x1 v rv => shut_ok st1 x1 rv p

/-! ### calls -/
def refsOf : List Zv → List Nat
  | [] => []
  | .dat _ :: r => refsOf r
  | .ref k :: r => k :: refsOf r
def renum : Nat → List Zv → List Zv
  | _, [] => []
  | n, .dat d :: r => .dat d :: renum n r
  | n, .ref _ :: r => .ref n :: renum (n + 1) r
def Ob.live : Ob → Bool
  | .dead => false
  | _ => true
def obsOf (ob : List Ob) : List Nat → Option (List Ob)
  | [] => some []
  | k :: ks => (ob[k]?).bind fun o => if o.live = true then (obsOf ob ks).map (o :: ·) else none
def putBack (ob : List Ob) : List Nat → List Ob → List Ob
  | [], _ => ob
  | _ :: _, [] => ob
  | k :: ks, o :: os => putBack (ob.set k o) ks os
def backR (ks : List Nat) : Rv → Option Rv
  | .dat d => some (.dat d)
  | .new o => some (.new o)
  | .ref j => (ks[j]?).map .ref
def callZ (m : Mir) (zs : List Zv) (s : Sg) : Rs Rv :=
  if (refsOf zs).Nodup then optR (obsOf s.ob (refsOf zs)) fun os => match m (renum 0 zs) os with
    | .ok r os' => optR (backR (refsOf zs) r) fun r' => .ok r' ⟨s.sl, putBack s.ob (refsOf zs) os'⟩
    | .err c fs os' => .err c fs ⟨s.sl, putBack s.ob (refsOf zs) os'⟩
    | .bad => .bad
  else .bad
def eCall (n : Nat) (m : Mir) (gs : SA) : SE := fun s => (gs s).bind fun zs s1 => if zs.length = n then callZ m zs s1 else .bad
theorem Ob.live_iff {o : Ob} : o.live = true ↔ o ≠ .dead := by cases o <;> simp [Ob.live]
theorem obsOf_get {ob : List Ob} : ∀ {ks : List Nat} {os : List Ob}, obsOf ob ks = some os → os.length = ks.length ∧ ∀ (j : Nat) k, ks[j]? = some k → ∃ o, os[j]? = some o ∧ ob[k]? = some o ∧ o ≠ .dead
  | [], _, e => by cases e; exact ⟨rfl, fun j k h => by simp at h⟩
  | k :: ks, os, e => by
    obtain ⟨o, e1, e2⟩ := Option.bind_eq_some_iff.mp e
    split at e2
    · rename_i hl
      obtain ⟨os', e3, rfl⟩ := Option.map_eq_some_iff.mp e2
      obtain ⟨h1, h2⟩ := obsOf_get e3
      refine ⟨congrArg (· + 1) h1, fun j k' h => ?_⟩
      cases j with
      | zero => cases h; exact ⟨o, rfl, e1, Ob.live_iff.mp hl⟩
      | succ j => exact h2 j k' h
    · cases e2
theorem putBack_length : ∀ (ks : List Nat) (os ob : List Ob), (putBack ob ks os).length = ob.length
  | k :: ks, o :: os, ob => by unfold putBack; rw [putBack_length ks os, List.length_set]
  | [], _, _ => by simp [putBack]
  | _ :: _, [], _ => by simp [putBack]
theorem putBack_out : ∀ {ks : List Nat} {os ob : List Ob} {k : Nat}, k ∉ ks → (putBack ob ks os)[k]? = ob[k]?
  | k' :: ks, o :: os, ob, k, h => by
    unfold putBack
    rw [putBack_out fun z => h (List.mem_cons_of_mem _ z), List.getElem?_set_ne fun z => h (by rw [z]; exact List.mem_cons_self)]
  | [], _, _, _, _ => by simp [putBack]
  | _ :: _, [], _, _, _ => by simp [putBack]
theorem putBack_in : ∀ {ks : List Nat} {os ob : List Ob} {j k : Nat}, ks.Nodup → os.length = ks.length → (∀ k ∈ ks, k < ob.length) → ks[j]? = some k → (putBack ob ks os)[k]? = os[j]?
  | k' :: ks, o :: os, ob, 0, k, nd, hl, hb, e => by
    cases e
    unfold putBack
    rw [putBack_out (List.nodup_cons.mp nd).1]
    rw [List.getElem?_set_self (hb _ List.mem_cons_self)]
    rfl
  | k' :: ks, o :: os, ob, j + 1, k, nd, hl, hb, e => by
    unfold putBack
    rw [putBack_in (j := j) (List.nodup_cons.mp nd).2 (by simpa using hl) (fun q hq => by rw [List.length_set]; exact hb q (List.mem_cons_of_mem _ hq)) (by simpa using e)]
    rfl
  | [], _, _, _, _, _, _, _, e => by simp at e
  | _ :: _, [], _, _, _, _, hl, _, _ => by simp at hl

section
variable {K : PySem.W.Frag} {mg : Str → Option Value} {W : WX} {F F0 F1 H H0 H1 : Hp} {ι ι0 ι1 : List Addr} {σ σ1 : L2.St} {s : Sg} {α β : Type}
theorem renum_ok {ic : List Addr} : ∀ {vs : List V} {zs : List Zv} (n : Nat), ZvsOk K mg F ι vs zs → (∀ (j : Nat) k, (refsOf zs)[j]? = some k → ic[n + j]? = ι[k]?) → ZvsOk K mg F ic vs (renum n zs)
  | [], [], _, _, _ => True.intro
  | v :: vs, .dat d :: zs, n, ⟨h, hs⟩, hi => ⟨h, renum_ok n hs hi⟩
  | v :: vs, .ref k :: zs, n, ⟨h, hs⟩, hi => by
    obtain ⟨a, ea, e⟩ := h
    refine ⟨⟨a, ?_, e⟩, renum_ok (n + 1) hs fun j k' h => ?_⟩
    · have := hi 0 k rfl
      rw [Nat.add_zero] at this
      rw [this]; exact ea
    · have := hi (j + 1) k' (by show (k :: refsOf zs)[j + 1]? = _; simpa using h)
      rw [← this]
      congr 1
      omega
  | [], _ :: _, _, h, _ => h.elim
  | _ :: _, [], _, h, _ => h.elim
/-- a call, seen from the caller -/
theorem call_ok {m : Mir} {n : Nat} {vs : List V} {zs : List Zv} {Q : VK} {E : XK} {QQ : Rv → Sg → Hp → Hp → List Addr → Prop} (st : StOk K mg F H ι σ s) (hn : vs.length = n) (zv : ZvsOk K mg F ι vs zs)
    (p : Post K mg W F H ι σ (callZ m zs s) QQ) (hQ : ∀ v r s' F' H' ι', RvOk K mg H F' H' ι' v r → QQ r s' F' H' ι' → Q v H') (hE : ∀ cls d H', W cls d σ H' → E cls d H') : spD K mg n m vs H Q E := by
  unfold callZ at p
  obtain ⟨nd, p⟩ := p.ite
  obtain ⟨os, eo, p⟩ := p.opt
  obtain ⟨hlen, hget⟩ := obsOf_get eo
  generalize hks : refsOf zs = ks at *
  have hlt : ∀ k ∈ ks, k < ι.length := fun k hk => by
    obtain ⟨j, hj⟩ := List.getElem?_of_mem hk
    obtain ⟨o, _, e2, _⟩ := hget j k hj
    rw [st.ln]
    exact (List.getElem?_eq_some_iff.mp e2).1
  obtain ⟨ic, hic⟩ : ∃ ic : List Addr, ic = ks.map fun k => ι.getD k 0 := ⟨_, rfl⟩
  have hat : ∀ (j : Nat) k, ks[j]? = some k → ic[j]? = ι[k]? := fun j k e => by
    have hk := hlt k (List.mem_of_getElem? e)
    rw [hic, List.getElem?_map, e]
    show some (ι.getD k 0) = _
    rw [List.getD_eq_getElem?_getD, List.getElem?_eq_getElem hk]
    rfl
  have hicl : ic.length = ks.length := by rw [hic, List.length_map]
  have hmem : ∀ a ∈ ic, ∃ j k, ks[j]? = some k ∧ ic[j]? = some a ∧ ι[k]? = some a := fun a ha => by
    obtain ⟨j, hj⟩ := List.getElem?_of_mem ha
    have hjl := (List.getElem?_eq_some_iff.mp hj).1
    have ek : ks[j]? = some ks[j] := List.getElem?_eq_getElem (by omega)
    exact ⟨j, _, ek, hj, (hat j _ ek).symm.trans hj⟩
  have hsub : ∀ a ∈ ic, a ∈ ι := fun a ha => by
    obtain ⟨j, k, _, _, e⟩ := hmem a ha
    exact List.mem_of_getElem? e
  have hnd : ic.Nodup := by
    refine List.pairwise_iff_getElem.mpr fun i j hi hj hij z => ?_
    have hi' : i < ks.length := by omega
    have hj' : j < ks.length := by omega
    have e1 := hat i _ (List.getElem?_eq_getElem hi')
    have e2 := hat j _ (List.getElem?_eq_getElem hj')
    have z : ic[i]? = ic[j]? := by rw [List.getElem?_eq_getElem hi, List.getElem?_eq_getElem hj, z]
    rw [e1, e2] at z
    have l1 := hlt _ (List.getElem_mem hi')
    have l2 := hlt _ (List.getElem_mem hj')
    rw [List.getElem?_eq_getElem l1, List.getElem?_eq_getElem l2] at z
    have z := (List.getElem_inj st.nd).mp (Option.some.inj z)
    have := (List.getElem_inj nd).mp z
    omega
  have st0 : StOk K mg F H ic [] ⟨[], os⟩ := {
    fh := st.fh
    nd := hnd
    ln := by show ic.length = os.length; omega
    th := fun a ha => st.th a (hsub a ha)
    own := fun j a o e1 e2 nd' => by
      have hj : j < ks.length := by have := (List.getElem?_eq_some_iff.mp e1).1; omega
      have ek : ks[j]? = some ks[j] := List.getElem?_eq_getElem hj
      obtain ⟨o', g1, g2, _⟩ := hget j _ ek
      have e2 : os[j]? = some o := e2
      rw [e2] at g1
      cases g1
      exact st.own _ a o ((hat j _ ek).symm.trans e1) g2 nd'
    sz := rfl
    vr := fun i z e => by
      have e : ([] : List (Option Zv))[i]? = _ := e
      simp at e }
  -- the caller's state behind
  have after : ∀ {F' H' : Hp} {os' : List Ob}, StOk K mg F' H' ic [] ⟨[], os'⟩ → Ext F H ic F' H' ic → StOk K mg F' H' ι σ ⟨s.sl, putBack s.ob ks os'⟩ ∧ Ext F H ι F' H' ι := fun {F' H' os'} st1 x1 => by
    have hol : os'.length = ks.length := by have := st1.ln; show os'.length = _; rw [← hicl]; exact this.symm
    have xx : Ext F H ι F' H' ι := ⟨x1.f, ⟨[], by simp⟩, fun b o e hb => x1.keep b o e fun z => hb (hsub b z), fun b o e => by
      rcases x1.new b o e with e | e | e | ⟨a, ea, e⟩
      · exact .inl e
      · exact .inr (.inl e)
      · exact .inr (.inr (.inl (hsub b e)))
      · exact .inr (.inr (.inr ⟨a, ea, e.imp id (hsub a)⟩)), fun a ha => .inl ha, x1.dom⟩
    refine ⟨⟨st1.fh, st.nd, by show _ = (putBack s.ob ks os').length; rw [putBack_length]; exact st.ln, fun a ha => x1.dom a (st.th a ha), fun k a o e1 e2 nd' => ?_, st.sz, fun i z e => ?_⟩, xx⟩
    · by_cases hk : k ∈ ks
      · obtain ⟨j, hj⟩ := List.getElem?_of_mem hk
        have e2 : (putBack s.ob ks os')[k]? = some o := e2
        rw [putBack_in nd hol (fun k hk => by rw [← st.ln]; exact hlt k hk) hj] at e2
        exact st1.own j a o ((hat j k hj).trans e1) e2 nd'
      · have e2 : (putBack s.ob ks os')[k]? = some o := e2
        rw [putBack_out hk] at e2
        obtain ⟨fa, ok⟩ := st.own k a o e1 e2 nd'
        have na : a ∉ ic := fun z => by
          obtain ⟨j, k', hj, _, e3⟩ := hmem a z
          obtain ⟨h1, g1⟩ := List.getElem?_eq_some_iff.mp e1
          obtain ⟨h2, g2⟩ := List.getElem?_eq_some_iff.mp e3
          have := (List.getElem_inj st.nd).mp (g1.trans g2.symm)
          subst this
          exact hk (List.mem_of_getElem? hj)
        have hth := st.th a (List.mem_of_getElem? e1)
        have frz : ∀ b u, H b = some u → b ∉ ic → F b = none → (∀ a, u = .own a → H a ≠ none ∧ a ∉ ic) → F' b = none := fun b u hb nb fb hu => by
          cases q : F' b with
          | none => rfl
          | some u' =>
            rcases x1.new b u' q with e | e | e | ⟨a', ea, e⟩
            · rw [fb] at e; cases e
            · rw [hb] at e; cases e
            · exact absurd e nb
            · subst ea
              have h1 := st1.fh b _ q
              rw [x1.keep b u hb nb] at h1
              cases h1
              obtain ⟨h2, h3⟩ := hu a' rfl
              rcases e with e | e
              · exact absurd e h2
              · exact absurd e h3
        cases o with
        | dead => exact absurd rfl nd'
        | lst ds =>
          obtain ⟨us, e, r⟩ := ok
          exact ⟨frz a _ e na fa (fun _ z => by cases z), us, x1.keep a _ e na, RepL.mono x1.f r⟩
        | dct ds =>
          obtain ⟨us, e, r⟩ := ok
          exact ⟨frz a _ e na fa (fun _ z => by cases z), us, x1.keep a _ e na, RepK.mono x1.f r⟩
        | ins c ds =>
          obtain ⟨C, dx, us, hc, e, hd, hf, r⟩ := ok
          have ndx : dx ∉ ic := fun z => by
            obtain ⟨j, k', hj, hj2, e3⟩ := hmem dx z
            obtain ⟨o', g1, g2, g3⟩ := hget j k' hj
            have ok' := (st.own k' dx o' e3 g2 g3).2
            cases o' with
            | lst ds => obtain ⟨_, e', _⟩ := ok'; rw [hd] at e'; cases e'
            | dct ds => obtain ⟨_, e', _⟩ := ok'; rw [hd] at e'; cases e'
            | ins c ds => obtain ⟨_, _, _, _, e', _⟩ := ok'; rw [hd] at e'; cases e'
            | dead => exact g3 rfl
          exact ⟨frz a _ e na fa (fun _ z => by cases z), C, dx, us, hc, x1.keep a _ e na, x1.keep dx _ hd ndx, frz dx _ hd ndx hf (fun a' z => by cases z; exact ⟨hth, na⟩), RepF.mono x1.f r⟩
    · obtain ⟨v, e1, q⟩ := st.vr i z e
      exact ⟨v, e1, q.mono xx⟩
  refine ⟨F, ic, renum 0 zs, os, hn, st0, renum_ok 0 zv (fun j k e => by rw [Nat.zero_add]; exact hat j k (by rw [← hks]; exact e)), ?_⟩
  cases em : m (renum 0 zs) os with
  | bad => rw [em] at p; exact p.elim
  | err c fs os' =>
    rw [em] at p
    exact fun F' H' cls d st1 x1 ex => hE _ _ _ (p F' H' ι cls d (after st1 x1).1 (after st1 x1).2 ex)
  | ok r os' =>
    rw [em] at p
    obtain ⟨r', er, p⟩ := p.opt
    intro v F' H' st1 x1 rv
    obtain ⟨st2, x2⟩ := after st1 x1
    refine hQ v r' _ F' H' ι ?_ (p F' H' ι st2 x2)
    cases r with
    | dat d => cases er; exact rv
    | new o =>
      cases er
      obtain ⟨q, e, hq, fq, nq, ndo, ok⟩ := rv
      exact ⟨q, e, hq, fq, fun z => st.th q z hq, ndo, ok⟩
    | ref j =>
      obtain ⟨k, ek, rfl⟩ := Option.map_eq_some_iff.mp er
      obtain ⟨a, ea, e⟩ := rv
      exact ⟨a, (hat j k ek).symm.trans ea, e⟩
end
section
variable {X : Cx} {W : WX} {k : Nat} {f : Addr} {fd : FuncData} {ps : List Str} {n : Nat} {m : Mir} {x : Str} {p pos : Pos} {e : Expr} {es : List Expr} {gs : SA}
def PassesAt' (X : Cx) (σ : L2.St) (E : XK) : Prop := ∀ (pins : List (Addr × Obj)) (H : Hp) (s : Shared) (e : Value) (s' : Shared), Inv X pins σ H s → CX X.prog X.w X.stack H s E e s' → X.xe e s'
theorem run_g {sp : Sp} {pins : List (Addr × Obj)} {σ : L2.St} {H : Hp} {s : Shared} {Q : VK} {us : List Value} {vs : List V} (F : FnG X.prog X.w X.K X.mg X.base k f fd ps sp) (hgd : X.A.guards = some []) (hr : Room k X.A) (hb : Binds X.K fd ps []) (tk : Takes X W)
    (I : Inv X pins σ H s) (r : Vals vs us) (h : sp vs H Q (WE W σ)) : wpAny (model X.prog X.w) X.A (call (.ref f) us) (EP X pins σ Q) X.xe s := by
  have hl : us.length = ps.length := by rw [← r.length]; exact F.len _ _ _ _ h
  have hbd := hb s us I.kIn (by rw [List.append_nil]; exact hl)
  rw [List.append_nil] at hbd
  refine wpAny_call (codeAny_mono (F.run X.A X.stack s H ⟨us, []⟩ us vs Q (WE W σ) hgd hr I.env0 hbd r h) fun r s' hq => ?_)
  match r, hq with
  | .error e, hq => exact passAt tk σ pins H s e s' I hq
  | .ok (.ret u), hq => exact I.after hq
  | .ok .next, hq => exact False.elim hq
  | .ok .brk, hq => exact False.elim hq
  | .ok .cont, hq => exact False.elim hq
theorem de_call (F : FnG X.prog X.w X.K X.mg X.base k f fd ps (spD X.K X.mg n m)) (hgd : X.A.guards = some []) (hr : Room k X.A) (hg : Gl X x) (hm : X.mg x = some (.ref f)) (hk : PySem.W.keepIn X.K (.ref f) = true) (hb : Binds X.K fd ps []) (tk : Takes X W)
    (ha : DA X W (e :: es) gs) (hdb : (x == ("__debug__" : Str)) = false := by decide) (he : starEach (e :: es) X.env = (false, eval e X.env) :: starEach es X.env := by rfl) (hpl : (backTo pos (starEach es X.env)).any (·.1) = false := by rfl) :
    DE X W (.Call (.Name x p) (e :: es) [] pos) (eCall n m gs) :=
  ⟨⟨fun pins s0 σ H Q I q => by
    refine wpAny_Call_Name_kw (ld_glob I hg hm ?_ hdb)
    have ha' : PA X (e :: es) (tA X.K X.mg W gs) := ha.pe
    have q' : tA X.K X.mg W gs σ H (fun vs H1 => spD X.K X.mg n m vs H1 Q (WE W σ)) := by
      obtain ⟨F, ι, s, st, p⟩ := q
      refine seqA st Ext.refl p fun vs zs s1 F1 H1 ι1 st1 x1 r1 q1 => ?_
      obtain ⟨hl, q1⟩ := q1.ite
      exact call_ok st1 (r1.length.trans hl) r1 (q1.base x1) (fun v r s' F' H' ι' rv q => q v (rv.base x1)) fun _ _ _ h => h
    refine PySem.W.callWith_K (h₀ := X.base) I.ok.mod.kin hk (thn (ha'.run pos pins s0 σ H _ I q') fun us s1 ⟨vs, H1, I1, r, h⟩ => ⟨I1.kIn, ?_⟩) he hpl
    exact run_g F hgd hr hb tk I1 r h⟩⟩
end
end HD
set_option maxHeartbeats 1000000
/-! HD7: operations on data. -/
namespace HD
open PySem PySem.Spec PyProof.Rows L2

mutual
def py : Dt → Option PyData
  | .non => some .none
  | .bl b => some (.bool b)
  | .int i => some (.int i)
  | .str x => some (.str x)
  | .tup xs => (pyL xs).map .tuple
  | .lst xs => (pyL xs).map .list
  | .rol xs => (pyL xs).map .list
  | .dct _ => none
  | .obj _ _ => none
def pyL : List Dt → Option (List PyData)
  | [] => some []
  | d :: ds => (py d).bind fun p => (pyL ds).map (p :: ·)
end
section
variable {K : PySem.W.Frag} {mg : Str → Option Value} {F H : Hp}
mutual
theorem Rep.dp (sm : Same F H) : ∀ {v : V} {d : Dt} {p : PyData}, Rep K mg F v d → py d = some p → Dp K H v p
  | _, _, _, .non, e => by simp [py] at e; subst e; exact .non
  | _, _, _, .bl b, e => by simp [py] at e; subst e; exact .bl b
  | _, _, _, .int b, e => by simp [py] at e; subst e; exact .int b
  | _, _, _, .str b, e => by simp [py] at e; subst e; exact .str b
  | _, _, _, .tup h r, e => by
    simp only [py] at e
    obtain ⟨ps, e1, rfl⟩ := Option.map_eq_some_iff.mp e
    exact .tup (same_seqT sm h) (RepL.dp sm r e1)
  | _, _, _, .lst h r, e => by
    simp only [py] at e
    obtain ⟨ps, e1, rfl⟩ := Option.map_eq_some_iff.mp e
    exact .lst (SqL.of (sm _ _ h)) (RepL.dp sm r e1)
  | _, _, _, .rol h r, e => by
    simp only [py] at e
    obtain ⟨ps, e1, rfl⟩ := Option.map_eq_some_iff.mp e
    exact .lst (same_seqL sm h) (RepL.dp sm r e1)
  | _, _, _, .dct h r, e => by simp [py] at e
  | _, _, _, .obj hc h hd r, e => by simp [py] at e
theorem RepL.dp (sm : Same F H) : ∀ {vs : List V} {ds : List Dt} {ps : List PyData}, RepL K mg F vs ds → pyL ds = some ps → DpAll K H vs ps
  | _, _, _, .nil, e => by simp [pyL] at e; subst e; exact .nil
  | _, _, _, .cons h r, e => by
    simp only [pyL] at e
    obtain ⟨p, e1, e2⟩ := Option.bind_eq_some_iff.mp e
    obtain ⟨ps, e3, rfl⟩ := Option.map_eq_some_iff.mp e2
    exact .cons (Rep.dp sm h e1) (RepL.dp sm r e3)
end
theorem Vu.dp {v : V} {d : Dt} {p : PyData} (sm : Same F H) (h : Vu K mg F H v d) (e : py d = some p) : Dp K H v p := by
  cases h with
  | fz r => exact r.dp sm e
  | lst h r =>
    simp only [py] at e
    obtain ⟨ps, e1, rfl⟩ := Option.map_eq_some_iff.mp e
    exact .lst (SqL.of h) (RepL.dp sm r e1)
  | dct h r => simp [py] at e
  | obj hc h hd r => simp [py] at e
/-- a list or a tuple read -/
def seqOf : Dt → Option (List Dt)
  | .lst ds => some ds
  | .rol ds => some ds
  | .tup ds => some ds
  | _ => none
theorem Vu.seq {v : V} {d : Dt} {ds : List Dt} (sm : Same F H) (h : Vu K mg F H v d) (e : seqOf d = some ds) : ∃ a vs, v = .ref a ∧ (SqL K H a vs ∨ SqT K H a vs) ∧ RepL K mg F vs ds := by
  cases d with
  | lst ds' => cases e; obtain ⟨a, vs, h1, h2, r⟩ := h.lstOf sm; exact ⟨a, vs, h1, .inl (SqL.of h2), r⟩
  | rol ds' => cases e; obtain ⟨a, vs, h1, h2, r⟩ := h.rolOf sm; exact ⟨a, vs, h1, .inl h2, r⟩
  | tup ds' => cases e; obtain ⟨a, vs, h1, h2, r⟩ := h.tupOf sm; exact ⟨a, vs, h1, .inr h2, r⟩
  | non => cases e
  | bl b => cases e
  | int b => cases e
  | str b => cases e
  | dct b => cases e
  | obj b c => cases e
end

/-! ### operators -/
def mulOk (i j : Int) : Bool := !(decide (Builtin.Int.intBits i > shortFactorBits) && decide (Builtin.Int.intBits j > shortFactorBits) && Builtin.Int.intTooBig (Builtin.Int.intBits i + Builtin.Int.intBits j))
def fAdd : Dt → Dt → Option Rd
  | .int i, .int j => some (.val (.int (i + j)))
  | .str a, .str b => if a.length + b.length ≤ sizeLine then some (.val (.str (a ++ b))) else none
  | .lst a, .lst b => if a.length + b.length ≤ sizeLine then some (.newL (a ++ b)) else none
  | .tup a, .tup b => if a.length + b.length ≤ sizeLine then (match a, b with
    | [], b => some (.val (.tup b))
    | x :: a, [] => some (.val (.tup (x :: a)))
    | x :: a, y :: b => some (.newT (x :: a ++ y :: b))) else none
  | _, _ => none
def fSub : Dt → Dt → Option Rd
  | .int i, .int j => some (.val (.int (i - j)))
  | _, _ => none
def fMul : Dt → Dt → Option Rd
  | .int i, .int j => if mulOk i j = true then some (.val (.int (i * j))) else none
  | .lst a, .int k => if -(2 ^ 63) ≤ k ∧ k < 2 ^ 63 ∧ a.length * k.toNat ≤ sizeLine then some (.newL (List.replicate k.toNat a).flatten) else none
  | _, _ => none
def divOk (j : Int) : Bool := decide (j ≠ 0) && decide (j.natAbs.log2 < 9000)
def fDiv : Dt → Dt → Option Rd
  | .int i, .int j => if divOk j = true then some (.val (.int (i.fdiv j))) else none
  | _, _ => none
def fMod : Dt → Dt → Option Rd
  | .int i, .int j => if j ≠ 0 then some (.val (.int (i.fmod j))) else none
  | _, _ => none
def fPow : Dt → Dt → Option Rd
  | .int i, .int j => if 0 ≤ j ∧ j ≤ 1000000 ∧ i.natAbs < 2 ^ 64 then some (.val (.int (i ^ j.toNat))) else none
  | _, _ => none
def fNeg : Dt → Option Rd
  | .int i => some (.val (.int (-i)))
  | _ => none
def fLt : Dt → Dt → Option Rd
  | .int i, .int j => some (.val (.bl (decide (i < j))))
  | .str a, .str b => some (.val (.bl (decide (a.cps.toList < b.cps.toList))))
  | _, _ => none
def fLe : Dt → Dt → Option Rd
  | .int i, .int j => some (.val (.bl (decide (i ≤ j))))
  | _, _ => none
def fGt : Dt → Dt → Option Rd
  | .int i, .int j => some (.val (.bl (decide (j < i))))
  | _, _ => none
def fGe : Dt → Dt → Option Rd
  | .int i, .int j => some (.val (.bl (decide (j ≤ i))))
  | _, _ => none
def eqD (d e : Dt) : Option Bool := (py d).bind fun p => (py e).bind fun q => if SeqAt.shaped p = true ∧ SeqAt.shaped q = true then some (PyData.eqv p q) else none
def fEq : Dt → Dt → Option Rd
  | .str a, .str b => some (.val (.bl (decide (a = b))))
  | d, e => (eqD d e).map fun b => .val (.bl b)
def fNe : Dt → Dt → Option Rd
  | .str a, .str b => some (.val (.bl (!decide (a = b))))
  | d, e => (eqD d e).map fun b => .val (.bl (!b))
def isNon : Dt → Bool
  | .non => true
  | _ => false
def fIs (d e : Dt) : Option Rd := if isNon e = true then some (.val (.bl (isNon d))) else none
def fIsN (d e : Dt) : Option Rd := if isNon e = true then some (.val (.bl (!isNon d))) else none
/-- an item -/
def fIx : Dt → Dt → Option Rd
  | .str z, .int i => if z.length ≤ sizeLine then (atI z.cps.toList i).map fun c => .val (.str ⟨#[c]⟩) else none
  | d, .int i => (seqOf d).bind fun ds => (atI ds i).map .val
  | _, _ => none
def fflat : Dt → Option V
  | .non => some .non
  | .bl b => some (.bl b)
  | .int i => some (.int i)
  | .str x => some (.str x)
  | _ => none
def fflatL : List Dt → Option (List V)
  | [] => some []
  | d :: ds => (fflat d).bind fun v => (fflatL ds).map (v :: ·)
def inD (d e : Dt) : Option Bool :=
  match d, e with
  | .str a, .str b => some (!(Builtin.Str.occurrences b a 0 b.length 1).isEmpty)
  | d, e => (fflat d).bind fun x => (seqOf e).bind fun es => (fflatL es).map fun xs => inV x xs
def fIn (d e : Dt) : Option Rd := (inD d e).map fun b => .val (.bl b)
def fNotIn (d e : Dt) : Option Rd := (inD d e).map fun b => .val (.bl (!b))

section
variable {X : Cx}
abbrev rAddD (X : Cx) : R2 := fun x y H Q => (∃ i j, x = .int i ∧ y = .int j ∧ Q (.int (i + j)) H) ∨ (∃ i j, x = .str i ∧ y = .str j ∧ i.length + j.length ≤ sizeLine ∧ Q (.str (i ++ j)) H) ∨ rCat x y H Q ∨ rCatA X.K x y H Q
theorem op_addD : OpR X (binaryOp .Add) (rAddD X) := op_add.or (op_add_str.or (op_cat.or op_catA))
theorem d_add : OpD X.K X.mg (rAddD X) fAdd := by
  intro F H x y d e o Q sm vx vy h k
  unfold fAdd at h
  split at h
  · cases h; exact .inl ⟨_, _, vx.intOf, vy.intOf, k _ _ ⟨rfl, .int _⟩⟩
  · split at h
    · rename_i hl; cases h; exact .inr (.inl ⟨_, _, vx.strOf, vy.strOf, hl, k _ _ ⟨rfl, .str _⟩⟩)
    · cases h
  · split at h
    · rename_i hl
      cases h
      obtain ⟨a, vs, rfl, ha, ra⟩ := vx.lstOf sm
      obtain ⟨b, us, rfl, hb, rb⟩ := vy.lstOf sm
      exact .inr (.inr (.inl ⟨a, b, vs, us, rfl, rfl, ha, hb, by rw [ra.length, rb.length]; exact hl, fun p hp => k _ _ ⟨p, _, rfl, hp, rfl, ra.append rb⟩⟩))
    · cases h
  · split at h
    · rename_i hl
      obtain ⟨a, vs, rfl, ha, ra⟩ := vx.tupOf sm
      obtain ⟨b, us, rfl, hb, rb⟩ := vy.tupOf sm
      refine .inr (.inr (.inr ⟨a, b, vs, us, rfl, rfl, ha, hb, by rw [ra.length, rb.length]; exact hl, fun e => ?_, fun e e2 => ?_, fun e e2 p hp => ?_⟩))
      · subst e
        cases ra
        cases h
        refine k _ _ ⟨rfl, ?_⟩
        cases vy with | fz r => exact r
      · subst e2
        cases rb
        cases ra with
        | nil => exact absurd rfl e
        | cons _ _ =>
          cases h
          refine k _ _ ⟨rfl, ?_⟩
          cases vx with | fz r => exact r
      · cases ra with
        | nil => exact absurd rfl e
        | cons h1 r1 =>
          cases rb with
          | nil => exact absurd rfl e2
          | cons h2 r2 =>
            cases h
            exact k _ _ ⟨p, _, rfl, hp, rfl, (RepL.cons h1 r1).append (.cons h2 r2)⟩
    · cases h
  · cases h
theorem d_int2 {C : Int → Int → Prop} {g : Int → Int → V} {f : Dt → Dt → Option Rd} (hf : ∀ d e o, f d e = some o → ∃ i j, d = .int i ∧ e = .int j ∧ C i j ∧ ∃ r, o = .val r ∧ ∀ K mg F, Rep K mg F (g i j) r) : OpD X.K X.mg (rI C g) f := by
  intro F H x y d e o Q sm vx vy h k
  obtain ⟨i, j, rfl, rfl, hc, r, rfl, hr⟩ := hf d e o h
  exact ⟨i, j, vx.intOf, vy.intOf, hc, k _ _ ⟨rfl, hr _ _ _⟩⟩
theorem d_int20 {g : Int → Int → V} {f : Dt → Dt → Option Rd} (hf : ∀ d e o, f d e = some o → ∃ i j, d = .int i ∧ e = .int j ∧ ∃ r, o = .val r ∧ ∀ K mg F, Rep K mg F (g i j) r) : OpD X.K X.mg (rI0 g) f := by
  intro F H x y d e o Q sm vx vy h k
  obtain ⟨i, j, rfl, rfl, r, rfl, hr⟩ := hf d e o h
  exact ⟨i, j, vx.intOf, vy.intOf, k _ _ ⟨rfl, hr _ _ _⟩⟩
theorem d_sub : OpD X.K X.mg (rI0 fun i j => .int (i - j)) fSub := d_int20 fun d e o h => by
  unfold fSub at h
  split at h
  · cases h; exact ⟨_, _, rfl, rfl, _, rfl, fun _ _ _ => .int _⟩
  · cases h
abbrev rMulD : R2 := fun x y H Q => rI (fun i j => IntMulOk i j) (fun i j => .int (i * j)) x y H Q ∨ rRep x y H Q
theorem op_mulD : OpR X (binaryOp .Mult) rMulD := OpR.or (opI fun _ _ _ _ _ _ _ hc q => mul_int q hc) op_rep
theorem mulOk_ok {i j : Int} (h : mulOk i j = true) : IntMulOk i j := by
  unfold mulOk at h
  intro z
  rw [z] at h
  cases h
theorem d_mul : OpD X.K X.mg rMulD fMul := by
  intro F H x y d e o Q sm vx vy h k
  unfold fMul at h
  split at h
  · split at h
    · rename_i hm; cases h; exact .inl ⟨_, _, vx.intOf, vy.intOf, mulOk_ok hm, k _ _ ⟨rfl, .int _⟩⟩
    · cases h
  · split at h
    · rename_i a j hk
      cases h
      obtain ⟨p, vs, rfl, hp, r⟩ := vx.lstOf sm
      refine .inr ⟨p, j, vs, rfl, vy.intOf, hp, hk.1, hk.2.1, by rw [r.length]; exact hk.2.2, fun q hq => k _ _ ⟨q, _, rfl, hq, rfl, ?_⟩⟩
      generalize j.toNat = n
      induction n with
      | zero => exact .nil
      | succ n ih => rw [List.replicate_succ, List.replicate_succ, List.flatten_cons, List.flatten_cons]; exact r.append ih
    · cases h
  · cases h
theorem op_fdivD : OpR X (binaryOp .FloorDiv) (rI (fun _ j => j ≠ 0 ∧ j.natAbs.log2 < 9000) fun i j => .int (i.fdiv j)) := opI fun _ _ _ _ _ _ _ hc q => floordiv_int hc.1 q (.inl (PyProof.noPylong_of_log2 hc.2))
theorem d_div : OpD X.K X.mg (rI (fun _ j => j ≠ 0 ∧ j.natAbs.log2 < 9000) fun i j => .int (i.fdiv j)) fDiv := d_int2 fun d e o h => by
  unfold fDiv at h
  split at h
  · split at h
    · rename_i hc
      cases h
      unfold divOk at hc
      simp only [Bool.and_eq_true, decide_eq_true_eq] at hc
      exact ⟨_, _, rfl, rfl, hc, _, rfl, fun _ _ _ => .int _⟩
    · cases h
  · cases h
theorem d_mod : OpD X.K X.mg (rI (fun _ j => j ≠ 0) fun i j => .int (i.fmod j)) fMod := d_int2 fun d e o h => by
  unfold fMod at h
  split at h
  · split at h
    · rename_i hc
      cases h
      exact ⟨_, _, rfl, rfl, hc, _, rfl, fun _ _ _ => .int _⟩
    · cases h
  · cases h
theorem d_pow : OpD X.K X.mg (rI CPow fun i j => .int (i ^ j.toNat)) fPow := d_int2 fun d e o h => by
  unfold fPow at h
  split at h
  · split at h
    · rename_i hc
      cases h
      exact ⟨_, _, rfl, rfl, hc, _, rfl, fun _ _ _ => .int _⟩
    · cases h
  · cases h
theorem d_neg : UnD X.K X.mg (rU fun i => .int (-i)) fNeg := by
  intro F H x d o Q sm vx h k
  unfold fNeg at h
  split at h
  · cases h; exact ⟨_, vx.intOf, k _ _ ⟨rfl, .int _⟩⟩
  · cases h
abbrev rLtD : R2 := fun x y H Q => rI0 (fun i j => .bl (decide (i < j))) x y H Q ∨ (∃ i j, x = .str i ∧ y = .str j ∧ Q (.bl (decide (i.cps.toList < j.cps.toList))) H)
theorem op_ltD : OpR X (compareOp .Lt) rLtD := op_lt.or op_lt_str
theorem d_lt : OpD X.K X.mg rLtD fLt := by
  intro F H x y d e o Q sm vx vy h k
  unfold fLt at h
  split at h
  · cases h; exact .inl ⟨_, _, vx.intOf, vy.intOf, k _ _ ⟨rfl, .bl _⟩⟩
  · cases h; exact .inr ⟨_, _, vx.strOf, vy.strOf, k _ _ ⟨rfl, .bl _⟩⟩
  · cases h
theorem d_le : OpD X.K X.mg (rI0 fun i j => .bl (decide (i ≤ j))) fLe := d_int20 fun d e o h => by
  unfold fLe at h
  split at h
  · cases h; exact ⟨_, _, rfl, rfl, _, rfl, fun _ _ _ => .bl _⟩
  · cases h
theorem d_gt : OpD X.K X.mg (rI0 fun i j => .bl (decide (j < i))) fGt := d_int20 fun d e o h => by
  unfold fGt at h
  split at h
  · cases h; exact ⟨_, _, rfl, rfl, _, rfl, fun _ _ _ => .bl _⟩
  · cases h
theorem d_ge : OpD X.K X.mg (rI0 fun i j => .bl (decide (j ≤ i))) fGe := d_int20 fun d e o h => by
  unfold fGe at h
  split at h
  · cases h; exact ⟨_, _, rfl, rfl, _, rfl, fun _ _ _ => .bl _⟩
  · cases h
theorem eqD_ok {F H : Hp} {x y : V} {d e : Dt} {b : Bool} (sm : Same F H) (vx : Vu X.K X.mg F H x d) (vy : Vu X.K X.mg F H y e) (h : eqD d e = some b) : ∃ p q, Dp X.K H x p ∧ Dp X.K H y q ∧ SeqAt.shaped p = true ∧ SeqAt.shaped q = true ∧ PyData.eqv p q = b := by
  unfold eqD at h
  obtain ⟨p, e1, h⟩ := Option.bind_eq_some_iff.mp h
  obtain ⟨q, e2, h⟩ := Option.bind_eq_some_iff.mp h
  split at h
  · rename_i hs
    cases h
    exact ⟨p, q, vx.dp sm e1, vy.dp sm e2, hs.1, hs.2, rfl⟩
  · cases h
abbrev rEqE (K : PySem.W.Frag) : R2 := fun x y H Q => (∃ a b, x = .str a ∧ y = .str b ∧ Q (.bl (decide (a = b))) H) ∨ rEqD K x y H Q
abbrev rNeE (K : PySem.W.Frag) : R2 := fun x y H Q => (∃ a b, x = .str a ∧ y = .str b ∧ Q (.bl (!decide (a = b))) H) ∨ rNeD K x y H Q
theorem opR_imp {m : Value → Value → Sem Value} {r r' : R2} (h : OpR X m r) (f : ∀ x y H Q, r' x y H Q → r x y H Q) : OpR X m r' := fun pins s σ H x y v u Q I rx ry q => h pins s σ H x y v u Q I rx ry (f _ _ _ _ q)
theorem V.str_inj {a b : Str} : (V.str a = V.str b) ↔ a = b := ⟨fun h => by cases h; rfl, fun h => by rw [h]⟩
theorem op_eqE (hu : X.A.units + 64 < cLine) : OpR X (compareOp .Eq) (rEqE X.K) := OpR.or (opR_imp op_eq fun x y H Q q => by
  obtain ⟨a, b, rfl, rfl, q⟩ := q
  exact ⟨rfl, by have e : decide (V.str a = V.str b) = decide (a = b) := decide_eq_decide.mpr V.str_inj
                 rw [e]; exact q⟩) (op_eqD hu)
theorem op_neE (hu : X.A.units + 64 < cLine) : OpR X (compareOp .NotEq) (rNeE X.K) := OpR.or (opR_imp op_ne fun x y H Q q => by
  obtain ⟨a, b, rfl, rfl, q⟩ := q
  exact ⟨rfl, by have e : decide (V.str a = V.str b) = decide (a = b) := decide_eq_decide.mpr V.str_inj
                 rw [e]; exact q⟩) (op_neD hu)
theorem d_eq : OpD X.K X.mg (rEqE X.K) fEq := by
  intro F H x y d e o Q sm vx vy h k
  unfold fEq at h
  split at h
  · cases h
    exact .inl ⟨_, _, vx.strOf, vy.strOf, k _ _ ⟨rfl, .bl _⟩⟩
  · obtain ⟨b, hb, rfl⟩ := Option.map_eq_some_iff.mp h
    obtain ⟨p, q, h1, h2, h3, h4, rfl⟩ := eqD_ok sm vx vy hb
    exact .inr ⟨p, q, h1, h2, h3, h4, k _ _ ⟨rfl, .bl _⟩⟩
theorem d_ne : OpD X.K X.mg (rNeE X.K) fNe := by
  intro F H x y d e o Q sm vx vy h k
  unfold fNe at h
  split at h
  · cases h
    exact .inl ⟨_, _, vx.strOf, vy.strOf, k _ _ ⟨rfl, .bl _⟩⟩
  · obtain ⟨b, hb, rfl⟩ := Option.map_eq_some_iff.mp h
    obtain ⟨p, q, h1, h2, h3, h4, rfl⟩ := eqD_ok sm vx vy hb
    exact .inr ⟨p, q, h1, h2, h3, h4, k _ _ ⟨rfl, .bl _⟩⟩
theorem Vu.non_iff {F H : Hp} {x : V} {d : Dt} (vx : Vu X.K X.mg F H x d) : decide (x = V.non) = isNon d := by
  cases vx with
  | fz r => cases r <;> rfl
  | lst _ _ => rfl
  | dct _ _ => rfl
  | obj _ _ _ _ => rfl
theorem isNon_eq {d : Dt} (h : isNon d = true) : d = .non := by cases d <;> first | rfl | cases h
theorem d_is : OpD X.K X.mg (fun x y H Q => y = V.non ∧ Q (.bl (decide (x = V.non))) H) fIs := by
  intro F H x y d e o Q sm vx vy h k
  unfold fIs at h
  split at h
  · rename_i hn
    cases h
    have := isNon_eq hn
    subst this
    exact ⟨vy.nonOf, by rw [vx.non_iff]; exact k _ _ ⟨rfl, .bl _⟩⟩
  · cases h
theorem d_isN : OpD X.K X.mg (fun x y H Q => y = V.non ∧ Q (.bl (!decide (x = V.non))) H) fIsN := by
  intro F H x y d e o Q sm vx vy h k
  unfold fIsN at h
  split at h
  · rename_i hn
    cases h
    have := isNon_eq hn
    subst this
    exact ⟨vy.nonOf, by rw [vx.non_iff]; exact k _ _ ⟨rfl, .bl _⟩⟩
  · cases h
theorem atI_rep {K : PySem.W.Frag} {mg : Str → Option Value} {F : Hp} {vs : List V} {ds : List Dt} {i : Int} {d : Dt} (r : RepL K mg F vs ds) (e : atI ds i = some d) : ∃ v, atI vs i = some v ∧ Rep K mg F v d := by
  unfold atI at e ⊢
  obtain ⟨j, e1, e2⟩ := Option.bind_eq_some_iff.mp e
  obtain ⟨v, e3, q⟩ := r.get e2
  exact ⟨v, by rw [r.length, e1]; exact e3, q⟩
theorem d_ix : OpD X.K X.mg (rIx X.K) fIx := by
  intro F H x y d e o Q sm vx vy h k
  unfold fIx at h
  split at h
  · split at h
    · rename_i hz
      obtain ⟨c, hc, rfl⟩ := Option.map_eq_some_iff.mp h
      exact .inr (.inr ⟨_, _, c, vx.strOf, vy.intOf, hz, hc, k _ _ ⟨rfl, .str _⟩⟩)
    · cases h
  · obtain ⟨ds, e1, h⟩ := Option.bind_eq_some_iff.mp h
    obtain ⟨c, hc, rfl⟩ := Option.map_eq_some_iff.mp h
    obtain ⟨a, vs, rfl, hs, r⟩ := vx.seq sm e1
    obtain ⟨v, hv, q⟩ := atI_rep r hc
    rcases hs with hs | hs
    · exact .inl ⟨a, vs, _, v, rfl, vy.intOf, hs, hv, k _ _ ⟨rfl, q⟩⟩
    · exact .inr (.inl ⟨a, vs, _, v, rfl, vy.intOf, hs, hv, k _ _ ⟨rfl, q⟩⟩)
  · cases h
theorem fflat_ok {F H : Hp} {x v : V} {d : Dt} (vx : Vu X.K X.mg F H x d) (e : fflat d = some v) : x = v ∧ flatV x = true := by
  cases d with
  | non => cases e; rw [vx.nonOf]; exact ⟨rfl, rfl⟩
  | bl b => cases e; rw [vx.blOf]; exact ⟨rfl, rfl⟩
  | int b => cases e; rw [vx.intOf]; exact ⟨rfl, rfl⟩
  | str b => cases e; rw [vx.strOf]; exact ⟨rfl, rfl⟩
  | lst ds => cases e
  | rol ds => cases e
  | tup ds => cases e
  | dct b => cases e
  | obj b c => cases e
theorem fflatL_ok {F H : Hp} : ∀ {vs us : List V} {ds : List Dt}, RepL X.K X.mg F vs ds → fflatL ds = some us → vs = us ∧ vs.all flatV = true
  | _, _, _, .nil, e => by cases e; exact ⟨rfl, rfl⟩
  | _, _, _, .cons h r, e => by
    obtain ⟨v, e1, e2⟩ := Option.bind_eq_some_iff.mp e
    obtain ⟨us, e3, rfl⟩ := Option.map_eq_some_iff.mp e2
    obtain ⟨q1, q2⟩ := fflat_ok (H := H) (.fz h) e1
    obtain ⟨q3, q4⟩ := fflatL_ok (H := H) r e3
    exact ⟨by rw [q1, q3], by rw [List.all_cons, q2, q4]; rfl⟩
abbrev rInA (K : PySem.W.Frag) : R2 := fun x y H Q => (∃ i j, x = .str i ∧ y = .str j ∧ Q (.bl (!(Builtin.Str.occurrences j i 0 j.length 1).isEmpty)) H) ∨ rIn K false x y H Q
abbrev rNotInA (K : PySem.W.Frag) : R2 := fun x y H Q => (∃ i j, x = .str i ∧ y = .str j ∧ Q (.bl (!(!(Builtin.Str.occurrences j i 0 j.length 1).isEmpty))) H) ∨ rIn K true x y H Q
theorem op_inA : OpR X (compareOp .In) (rInA X.K) := op_in_str.or op_in_seq
theorem op_notInA : OpR X (compareOp .NotIn) (rNotInA X.K) := op_notin_str.or op_notIn_seq
theorem d_in : OpD X.K X.mg (rInA X.K) fIn := by
  intro F H x y d e o Q sm vx vy h k
  obtain ⟨b, hb, rfl⟩ := Option.map_eq_some_iff.mp h
  unfold inD at hb
  split at hb
  · cases hb; exact .inl ⟨_, _, vx.strOf, vy.strOf, k _ _ ⟨rfl, .bl _⟩⟩
  · obtain ⟨u, e1, hb⟩ := Option.bind_eq_some_iff.mp hb
    obtain ⟨es, e2, hb⟩ := Option.bind_eq_some_iff.mp hb
    obtain ⟨us, e3, rfl⟩ := Option.map_eq_some_iff.mp hb
    obtain ⟨a, vs, rfl, hs, r⟩ := vy.seq sm e2
    obtain ⟨rfl, f1⟩ := fflat_ok vx e1
    obtain ⟨rfl, f2⟩ := fflatL_ok (H := H) r e3
    exact .inr ⟨a, vs, rfl, hs, f1, f2, k _ _ ⟨rfl, .bl _⟩⟩
theorem d_notIn : OpD X.K X.mg (rNotInA X.K) fNotIn := by
  intro F H x y d e o Q sm vx vy h k
  obtain ⟨b, hb, rfl⟩ := Option.map_eq_some_iff.mp h
  unfold inD at hb
  split at hb
  · cases hb; exact .inl ⟨_, _, vx.strOf, vy.strOf, k _ _ ⟨rfl, .bl _⟩⟩
  · obtain ⟨u, e1, hb⟩ := Option.bind_eq_some_iff.mp hb
    obtain ⟨es, e2, hb⟩ := Option.bind_eq_some_iff.mp hb
    obtain ⟨us, e3, rfl⟩ := Option.map_eq_some_iff.mp hb
    obtain ⟨a, vs, rfl, hs, r⟩ := vy.seq sm e2
    obtain ⟨rfl, f1⟩ := fflat_ok vx e1
    obtain ⟨rfl, f2⟩ := fflatL_ok (H := H) r e3
    exact .inr ⟨a, vs, rfl, hs, f1, f2, k _ _ ⟨rfl, .bl _⟩⟩
end
end HD
set_option maxHeartbeats 4000000
/-! HD8: set(a list of ints), sorted of it. -/
namespace HD
open PySem PySem.Spec PyProof.Rows L2
section
variable {P : Program} {w : World} {A : Around} {E : Value → Shared → Prop} {s : Shared}
abbrev eSet (w : World) : Obj := { cls := .type "set", dict := none, data := .set #[] 0 (.fresh 0 0 (!w.params.followText "set-order")) }
theorem set_ofL {l : Addr} {its : Array Value} (ns : List Int) {Q : Value → Shared → Prop} (hh : A.handled = none) (hl : s.heap.IsList l its) (hit : IntsAre its.toList ns) (hb : ns.length + 1 < scanBound)
    (k : ∀ (h' : Heap) (tk c : Nat), SetR w h' s.heap.objs.size (fun j => decide (j ∈ ns)) c → c ≤ ns.length → (∀ b o, s.heap.get? b = some o → h'.get? b = some o) → Q (.ref s.heap.objs.size) { s with heap := h', toks := tk }) :
    wpAny (model P w) A (call (.type "set") [.ref l]) Q E s := by
  have esz : its.size = ns.length := by
    have := IntsAre.length hit
    rwa [Array.length_toList] at this
  have val : ∀ (i : Nat) (v : Value), its[i]? = some v → ∃ q t, ns[i]? = some q ∧ v = .int q t := fun i v hv => by
    have lt : i < ns.length := esz ▸ (Array.getElem?_eq_some_iff.mp hv).1
    obtain ⟨t, e⟩ := IntsAre.int_at hit i v (by rw [Array.getElem?_toList]; exact hv)
    exact ⟨ns[i], t, List.getElem?_eq_getElem lt, by rw [e, List.getD_eq_getElem?_getD, List.getElem?_eq_getElem lt]; rfl⟩
  obtain ⟨c, tl, hmro⟩ := F.called_set.mro
  have a1 := F.called_set.made
  have a2 := F.called_set.sub
  have a3 := F.called_set.notType
  have a4 := F.called_set.canCreate
  have a5 := F.typeCall_set_1 (.ref l)
  refine wpAny_call (codeAny_of_tree ?_)
  show wpAny _ _ (callAny (.type "set") _) _ _ _
  refine wpAny_pure ⟨Code.quiet_builtin _ (by decide +kernel), codeAny_builtin F.entry_type_call ?_⟩
  rw [Around.under_plain (weight_type_call_type "set" [.ref l] []) rfl]
  repeat (any_goals (first | assumption | wp_step))
  refine codeAny_mono (code_set_led1 (.ref l) (E := E) (Q₁ := fun q t => q = .ref s.heap.objs.size ∧ t = { s with heap := s.heap.push (eSet w) }) ⟨rfl, rfl⟩) fun r t hr => ?_
  match r, hr with
  | .error e, hr => exact hr
  | .ok .next, hr => exact hr.elim
  | .ok .brk, hr => exact hr.elim
  | .ok .cont, hr => exact hr.elim
  | .ok (.ret q), hr =>
    obtain ⟨rfl, rfl⟩ := hr
    have at0 : (s.heap.push (eSet w)).get? s.heap.objs.size = some (eSet w) := Heap.get?_push_size _ rfl
    have ty : Shared.TypeIs { s with heap := s.heap.push (eSet w) } (.ref s.heap.objs.size) "set" := ⟨_, at0, rfl⟩
    have b1 := F.called_set.init.lookup
    have b2 := F.called_set.init.bind (.ref s.heap.objs.size)
    repeat (any_goals (first | assumption | wp_step))
    refine codeAny_mono (codeAny_call_builtin (R := wants (fun r t => r = .none ∧ ∃ h' tk c, t = { s with heap := h', toks := tk } ∧ SetR w h' s.heap.objs.size (fun j => decide (j ∈ ns)) c ∧ c ≤ ns.length ∧ ∀ b o, s.heap.get? b = some o → h'.get? b = some o) E)
      F.called_set.init.plain F.entry_set_init (check_set_init_1 ty ?_)) fun r t hr => ?_
    · obtain ⟨⟨cls, dd, dt, sl⟩, hol, hc, n, hd⟩ := hl
      simp only at hc hd
      subst hc hd
      have hol' : (s.heap.push (eSet w)).get? l = some { cls := .type "list", dict := dd, data := .seq its n, slots := sl } := Heap.get?_push_of_some _ hol
      have d1 := F.sub_list_set
      have d2 := F.sub_list_frozenset
      have d3 : (Value.type "list" == Value.type "dict") = false := by decide
      have il : (s.heap.push (eSet w)).IsList l its := ⟨_, hol', rfl, n, rfl⟩
      have lt : l < s.heap.objs.size := Heap.lt_size hol
      unfold Builtin.«set.__init__» noKeywords Builtin.Frozenset.updateFrom
      generalize hPI : pyIter = PI
      wp_walk
      subst hPI
      refine wpAny_pyIter_list il ?_
      refine wpAny_bind (wpAny_runValue ?_)
      have sz1 : (s.heap.push (eSet w)).objs.size = s.heap.objs.size + 1 := Heap.size_push ..
      have ne : l ≠ (s.heap.push (eSet w)).objs.size := by rw [sz1]; exact Nat.ne_of_lt (Nat.lt_succ_of_lt lt)
      have nf : s.heap.objs.size ∉ [(s.heap.push (eSet w)).objs.size, l] := by
        rw [sz1]
        intro z
        rcases List.mem_cons.mp z with e | z
        · exact absurd e (Nat.ne_of_lt (Nat.lt_succ_self _))
        · exact absurd (List.mem_singleton.mp z) (Nat.ne_of_gt lt)
      refine set_update_ints ((Walks.list (by simp [hh]) _ l ne its).toS) s.heap.objs.size nf ns esz hb val (its.size - 0) 0 _ (by omega) (Nat.zero_le _)
        ⟨⟨_, Heap.get?_push_size _ rfl, rfl, rfl⟩, (il.push _)⟩ ⟨0, Nat.le_refl 0, setR_new_at (Heap.get?_push_of_some _ at0)⟩ fun t c' hm hc' hS => ?_
      obtain ⟨h', g, d, tk, os⟩ := t
      obtain rfl : g = s.gens := hm.gens
      obtain rfl : d = s.drawn := hm.drawn
      obtain rfl : os = s.os := hm.os
      show wpAny _ _ _ _ _ _
      refine wpAny_pure ?_
      show wpAny _ _ (ret Value.none) _ _ _
      refine wpAny_pure ⟨rfl, h', tk, c', rfl, hS, esz ▸ hc', fun b o e => ?_⟩
      have h0 := Heap.lt_size e
      refine hm.heap b o (fun z => ?_) (Heap.get?_push_of_some _ (Heap.get?_push_of_some _ e))
      rcases List.mem_cons.mp z with q | z
      · exact absurd q (Nat.ne_of_lt h0)
      · have q := List.mem_singleton.mp z
        rw [q] at h0
        exact absurd h0 (by rw [sz1]; exact Nat.not_lt.mpr (Nat.le_succ _))
    · match r, hr with
      | .error e, hr => exact hr
      | .ok .next, hr => exact hr.elim
      | .ok .brk, hr => exact hr.elim
      | .ok .cont, hr => exact hr.elim
      | .ok (.ret q), hr =>
        obtain ⟨rfl, h', tk, c', rfl, hS, hc', hk⟩ := hr
        repeat (any_goals (first | assumption | wp_step))
        exact k _ _ _ hS hc' hk
end
section
variable {X : Cx}
abbrev rSetOfL (X : Cx) : List V → Hp → VK → Prop := fun xs H Q => ∃ (l : Addr) (ns : List Int), xs = [V.ref l] ∧ SqL X.K H l (ns.map V.int) ∧ ns.length + 1 < scanBound ∧ ∀ p n, H p = none → n ≤ ns.length → Q (.ref p) (upd H p (SetO X.w p (fun j => decide (j ∈ ns)) n))
theorem cr_setOfL (hc : X.calm = true) : CallR X (.type "set") (rSetOfL X) := by
  intro pins s σ H xs us Q I r h
  obtain ⟨l, ns, rfl, hl, hb, q⟩ := h
  rw [Vals.ref1 r]
  obtain ⟨its, rv, pl, _⟩ := I.list hl
  refine set_ofL ns (I.ok.hd hc) pl.isList (by simpa using intsAre_of rv) hb fun h' tk c R hc' k => ?_
  have hn : H s.heap.objs.size = none := I.hok.fresh (Nat.le_refl _)
  exact ⟨.ref _, _, I.laid (t' := tk) k (Nat.le_refl _) (setO_new R), rfl, q _ c hn hc'⟩
end
end HD
set_option maxHeartbeats 1000000
/-! HD9: built-ins, methods, stores. -/
namespace HD
open PySem PySem.Spec PyProof.Rows L2

def fLen : List Dt → Option Rd
  | [.str x] => if x.length ≤ sizeLine then some (.val (.int x.length)) else none
  | [d] => (seqOf d).map fun ds => .val (.int ds.length)
  | _ => none
def fAbs : List Dt → Option Rd
  | [.int i] => some (.val (.int (if i < 0 then -i else i)))
  | _ => none
def fMax2 : List Dt → Option Rd
  | [.int i, .int j] => some (.val (.int (if j > i then j else i)))
  | _ => none
def fMin2 : List Dt → Option Rd
  | [.int i, .int j] => some (.val (.int (if j < i then j else i)))
  | _ => none
def fInt : List Dt → Option Rd
  | [.int i] => some (.val (.int i))
  | [.bl b] => some (.val (.int (if b then 1 else 0)))
  | _ => none
def fList : List Dt → Option Rd
  | [d] => (seqOf d).map .newL
  | _ => none
def fTuple : List Dt → Option Rd
  | [.tup ds] => some (.val (.tup ds))
  | [.lst ds] => some (.newT ds)
  | [.rol ds] => some (.newT ds)
  | _ => none
def intsOf : List Dt → Option (List Int)
  | [] => some []
  | .int i :: ds => (intsOf ds).map (i :: ·)
  | _ :: _ => none
def boolsOf : List Dt → Option (List Bool)
  | [] => some []
  | .bl i :: ds => (boolsOf ds).map (i :: ·)
  | _ :: _ => none
def lsOf : Dt → Option (List Dt)
  | .lst ds => some ds
  | .rol ds => some ds
  | _ => none
def fSum : List Dt → Option Rd
  | [d] => (lsOf d).bind fun ds => (intsOf ds).map fun ns => .val (.int ns.sum)
  | _ => none
def fAll : List Dt → Option Rd
  | [d] => (lsOf d).bind fun ds => (boolsOf ds).map fun bs => .val (.bl (bs.all id))
  | _ => none
def fAny : List Dt → Option Rd
  | [d] => (lsOf d).bind fun ds => (boolsOf ds).map fun bs => .val (.bl (bs.any id))
  | _ => none
def minI : Int → List Int → Int
  | m, [] => m
  | m, n :: ns => minI (if n < m then n else m) ns
def maxI : Int → List Int → Int
  | m, [] => m
  | m, n :: ns => maxI (if m < n then n else m) ns
theorem minI_spec : ∀ (ns : List Int) (m : Int), (minI m ns = m ∨ minI m ns ∈ ns) ∧ minI m ns ≤ m ∧ ∀ n ∈ ns, minI m ns ≤ n
  | [], m => ⟨.inl rfl, Int.le_refl _, fun _ h => by simp at h⟩
  | n :: ns, m => by
    obtain ⟨h1, h2, h3⟩ := minI_spec ns (if n < m then n else m)
    have e : minI m (n :: ns) = minI (if n < m then n else m) ns := rfl
    rw [e]
    by_cases hn : n < m
    · simp only [hn, if_true] at h1 h2 h3 ⊢
      refine ⟨h1.elim (fun e => .inr (by rw [e]; exact List.mem_cons_self)) fun e => .inr (List.mem_cons_of_mem _ e), by omega, fun q hq => ?_⟩
      rcases List.mem_cons.mp hq with rfl | hq
      · exact h2
      · exact h3 q hq
    · simp only [hn, if_false] at h1 h2 h3 ⊢
      refine ⟨h1.elim .inl fun e => .inr (List.mem_cons_of_mem _ e), h2, fun q hq => ?_⟩
      rcases List.mem_cons.mp hq with rfl | hq
      · omega
      · exact h3 q hq
theorem maxI_spec : ∀ (ns : List Int) (m : Int), (maxI m ns = m ∨ maxI m ns ∈ ns) ∧ m ≤ maxI m ns ∧ ∀ n ∈ ns, n ≤ maxI m ns
  | [], m => ⟨.inl rfl, Int.le_refl _, fun _ h => by simp at h⟩
  | n :: ns, m => by
    obtain ⟨h1, h2, h3⟩ := maxI_spec ns (if m < n then n else m)
    have e : maxI m (n :: ns) = maxI (if m < n then n else m) ns := rfl
    rw [e]
    by_cases hn : m < n
    · simp only [hn, if_true] at h1 h2 h3 ⊢
      refine ⟨h1.elim (fun e => .inr (by rw [e]; exact List.mem_cons_self)) fun e => .inr (List.mem_cons_of_mem _ e), by omega, fun q hq => ?_⟩
      rcases List.mem_cons.mp hq with rfl | hq
      · exact h2
      · exact h3 q hq
    · simp only [hn, if_false] at h1 h2 h3 ⊢
      refine ⟨h1.elim .inl fun e => .inr (List.mem_cons_of_mem _ e), h2, fun q hq => ?_⟩
      rcases List.mem_cons.mp hq with rfl | hq
      · omega
      · exact h3 q hq
def fMin1 : List Dt → Option Rd
  | [d] => (lsOf d).bind fun ds => (intsOf ds).bind fun ns => match ns with
    | n :: ns => some (.val (.int (minI n ns)))
    | [] => none
  | _ => none
def fMax1 : List Dt → Option Rd
  | [d] => (lsOf d).bind fun ds => (intsOf ds).bind fun ns => match ns with
    | n :: ns => some (.val (.int (maxI n ns)))
    | [] => none
  | _ => none
section
variable {X : Cx}
theorem vul1 {F H : Hp} {xs : List V} {d : Dt} (h : VuL X.K X.mg F H xs [d]) : ∃ x, xs = [x] ∧ Vu X.K X.mg F H x d := by
  cases h with | cons h r => cases r; exact ⟨_, rfl, h⟩
theorem vul2 {F H : Hp} {xs : List V} {d e : Dt} (h : VuL X.K X.mg F H xs [d, e]) : ∃ x y, xs = [x, y] ∧ Vu X.K X.mg F H x d ∧ Vu X.K X.mg F H y e := by
  cases h with | cons h r => cases r with | cons h' r => cases r; exact ⟨_, _, rfl, h, h'⟩
theorem d_len : CallD X.K X.mg (fun xs H Q => ∃ x n, xs = [x] ∧ LenV X.K x H n ∧ Q (.int n) H) fLen := by
  intro F H xs ds o Q sm vx h k
  unfold fLen at h
  split at h
  · split at h
    · rename_i hl
      cases h
      obtain ⟨x, rfl, wx⟩ := vul1 vx
      exact ⟨x, _, rfl, by rw [wx.strOf]; exact ⟨hl, rfl⟩, k _ _ ⟨rfl, .int _⟩⟩
    · cases h
  · obtain ⟨ds, e, rfl⟩ := Option.map_eq_some_iff.mp h
    obtain ⟨x, rfl, wx⟩ := vul1 vx
    obtain ⟨a, vs, rfl, hs, r⟩ := wx.seq sm e
    refine ⟨_, ds.length, rfl, ?_, k _ _ ⟨rfl, .int _⟩⟩
    rcases hs with hs | hs
    · exact .inl ⟨vs, hs, r.length.symm⟩
    · exact .inr ⟨vs, hs, r.length.symm⟩
  · cases h
theorem d_abs : CallD X.K X.mg (fun xs H Q => ∃ i, xs = [.int i] ∧ Q (.int (if i < 0 then -i else i)) H) fAbs := by
  intro F H xs ds o Q sm vx h k
  unfold fAbs at h
  split at h
  · cases h
    obtain ⟨x, rfl, wx⟩ := vul1 vx
    exact ⟨_, by rw [wx.intOf], k _ _ ⟨rfl, .int _⟩⟩
  · cases h
theorem d_max2 : CallD X.K X.mg (fun xs H Q => ∃ i j, xs = [.int i, .int j] ∧ Q (.int (if j > i then j else i)) H) fMax2 := by
  intro F H xs ds o Q sm vx h k
  unfold fMax2 at h
  split at h
  · cases h
    obtain ⟨x, y, rfl, wx, wy⟩ := vul2 vx
    exact ⟨_, _, by rw [wx.intOf, wy.intOf], k _ _ ⟨rfl, .int _⟩⟩
  · cases h
theorem d_min2 : CallD X.K X.mg (fun xs H Q => ∃ i j, xs = [.int i, .int j] ∧ Q (.int (if j < i then j else i)) H) fMin2 := by
  intro F H xs ds o Q sm vx h k
  unfold fMin2 at h
  split at h
  · cases h
    obtain ⟨x, y, rfl, wx, wy⟩ := vul2 vx
    exact ⟨_, _, by rw [wx.intOf, wy.intOf], k _ _ ⟨rfl, .int _⟩⟩
  · cases h
theorem d_int : CallD X.K X.mg (fun xs H Q => (∃ i, xs = [.int i] ∧ Q (.int i) H) ∨ ∃ k, xs = [.bl k] ∧ Q (.int (if k then 1 else 0)) H) fInt := by
  intro F H xs ds o Q sm vx h k
  unfold fInt at h
  split at h
  · cases h
    obtain ⟨x, rfl, wx⟩ := vul1 vx
    exact .inl ⟨_, by rw [wx.intOf], k _ _ ⟨rfl, .int _⟩⟩
  · cases h
    obtain ⟨x, rfl, wx⟩ := vul1 vx
    exact .inr ⟨_, by rw [wx.blOf], k _ _ ⟨rfl, .int _⟩⟩
  · cases h
theorem d_list : CallD X.K X.mg (fun xs H Q => ∃ p ys, xs = [.ref p] ∧ (SqL X.K H p ys ∨ SqT X.K H p ys) ∧ ∀ l, H l = none → Q (.ref l) (upd H l (.lst ys))) fList := by
  intro F H xs ds o Q sm vx h k
  unfold fList at h
  split at h
  · obtain ⟨ds, e, rfl⟩ := Option.map_eq_some_iff.mp h
    obtain ⟨x, rfl, wx⟩ := vul1 vx
    obtain ⟨a, vs, rfl, hs, r⟩ := wx.seq sm e
    exact ⟨a, vs, rfl, hs, fun l hl => k _ _ ⟨l, vs, rfl, hl, rfl, r⟩⟩
  · cases h
theorem d_tuple : CallD X.K X.mg (fun xs H Q => ∃ p ys, xs = [.ref p] ∧ ((SqL X.K H p ys ∧ ∀ l, H l = none → Q (.ref l) (upd H l (.tup ys))) ∨ (SqT X.K H p ys ∧ Q (.ref p) H))) fTuple := by
  intro F H xs ds o Q sm vx h k
  unfold fTuple at h
  split at h
  · cases h
    obtain ⟨x, rfl, wx⟩ := vul1 vx
    obtain ⟨a, vs, rfl, hs, r⟩ := wx.tupOf sm
    exact ⟨a, vs, rfl, .inr ⟨hs, k _ _ ⟨rfl, by cases wx with | fz r => exact r⟩⟩⟩
  · cases h
    obtain ⟨x, rfl, wx⟩ := vul1 vx
    obtain ⟨a, vs, rfl, hs, r⟩ := wx.lstOf sm
    exact ⟨a, vs, rfl, .inl ⟨SqL.of hs, fun l hl => k _ _ ⟨l, vs, rfl, hl, rfl, r⟩⟩⟩
  · cases h
    obtain ⟨x, rfl, wx⟩ := vul1 vx
    obtain ⟨a, vs, rfl, hs, r⟩ := wx.rolOf sm
    exact ⟨a, vs, rfl, .inl ⟨hs, fun l hl => k _ _ ⟨l, vs, rfl, hl, rfl, r⟩⟩⟩
  · cases h
theorem intsOf_ok {F : Hp} : ∀ {vs : List V} {ds : List Dt} {ns : List Int}, RepL X.K X.mg F vs ds → intsOf ds = some ns → vs = ns.map V.int
  | _, _, _, .nil, e => by cases e; rfl
  | _, d :: ds, ns, .cons h r, e => by
    cases d with
    | int i =>
      obtain ⟨ms, e1, rfl⟩ := Option.map_eq_some_iff.mp e
      cases h
      rw [intsOf_ok r e1]
      rfl
    | _ => cases e
theorem boolsOf_ok {F : Hp} : ∀ {vs : List V} {ds : List Dt} {ns : List Bool}, RepL X.K X.mg F vs ds → boolsOf ds = some ns → vs = ns.map V.bl
  | _, _, _, .nil, e => by cases e; rfl
  | _, d :: ds, ns, .cons h r, e => by
    cases d with
    | bl i =>
      obtain ⟨ms, e1, rfl⟩ := Option.map_eq_some_iff.mp e
      cases h
      rw [boolsOf_ok r e1]
      rfl
    | _ => cases e
theorem Vu.lst' {F H : Hp} {v : V} {d : Dt} {ds : List Dt} (sm : Same F H) (h : Vu X.K X.mg F H v d) (e : lsOf d = some ds) : ∃ a vs, v = .ref a ∧ SqL X.K H a vs ∧ RepL X.K X.mg F vs ds := by
  cases d with
  | lst ds' => cases e; obtain ⟨a, vs, h1, h2, r⟩ := h.lstOf sm; exact ⟨a, vs, h1, SqL.of h2, r⟩
  | rol ds' => cases e; obtain ⟨a, vs, h1, h2, r⟩ := h.rolOf sm; exact ⟨a, vs, h1, h2, r⟩
  | _ => cases e
theorem d_sum : CallD X.K X.mg (rSum X.K) fSum := by
  intro F H xs ds o Q sm vx h k
  unfold fSum at h
  split at h
  · obtain ⟨es, e1, h⟩ := Option.bind_eq_some_iff.mp h
    obtain ⟨ns, e2, rfl⟩ := Option.map_eq_some_iff.mp h
    obtain ⟨x, rfl, wx⟩ := vul1 vx
    obtain ⟨a, vs, rfl, hs, r⟩ := wx.lst' sm e1
    exact ⟨a, ns, rfl, by rw [← intsOf_ok r e2]; exact hs, k _ _ ⟨rfl, .int _⟩⟩
  · cases h
theorem d_all : CallD X.K X.mg (rAll X.K) fAll := by
  intro F H xs ds o Q sm vx h k
  unfold fAll at h
  split at h
  · obtain ⟨es, e1, h⟩ := Option.bind_eq_some_iff.mp h
    obtain ⟨ns, e2, rfl⟩ := Option.map_eq_some_iff.mp h
    obtain ⟨x, rfl, wx⟩ := vul1 vx
    obtain ⟨a, vs, rfl, hs, r⟩ := wx.lst' sm e1
    exact ⟨a, ns, rfl, by rw [← boolsOf_ok r e2]; exact hs, k _ _ ⟨rfl, .bl _⟩⟩
  · cases h
theorem d_any : CallD X.K X.mg (rAny X.K) fAny := by
  intro F H xs ds o Q sm vx h k
  unfold fAny at h
  split at h
  · obtain ⟨es, e1, h⟩ := Option.bind_eq_some_iff.mp h
    obtain ⟨ns, e2, rfl⟩ := Option.map_eq_some_iff.mp h
    obtain ⟨x, rfl, wx⟩ := vul1 vx
    obtain ⟨a, vs, rfl, hs, r⟩ := wx.lst' sm e1
    exact ⟨a, ns, rfl, by rw [← boolsOf_ok r e2]; exact hs, k _ _ ⟨rfl, .bl _⟩⟩
  · cases h
theorem d_min1 : CallD X.K X.mg (rMin X.K) fMin1 := by
  intro F H xs ds o Q sm vx h k
  unfold fMin1 at h
  split at h
  · obtain ⟨es, e1, h⟩ := Option.bind_eq_some_iff.mp h
    obtain ⟨ns, e2, h⟩ := Option.bind_eq_some_iff.mp h
    split at h
    · rename_i n ns
      cases h
      obtain ⟨x, rfl, wx⟩ := vul1 vx
      obtain ⟨a, vs, rfl, hs, r⟩ := wx.lst' sm e1
      refine ⟨a, n :: ns, rfl, by rw [← intsOf_ok r e2]; exact hs, by simp, fun m hm hle => ?_⟩
      obtain ⟨h1, h2, h3⟩ := minI_spec ns n
      have e : m = minI n ns := by
        have a1 : m ≤ minI n ns := hle _ (by rcases h1 with e | e; · rw [e]; exact List.mem_cons_self
                                             · exact List.mem_cons_of_mem _ e)
        have a2 : minI n ns ≤ m := by
          rcases List.mem_cons.mp hm with rfl | hm
          · exact h2
          · exact h3 m hm
        omega
      rw [e]
      exact k _ _ ⟨rfl, .int _⟩
    · cases h
  · cases h
theorem d_max1 : CallD X.K X.mg (rMax X.K) fMax1 := by
  intro F H xs ds o Q sm vx h k
  unfold fMax1 at h
  split at h
  · obtain ⟨es, e1, h⟩ := Option.bind_eq_some_iff.mp h
    obtain ⟨ns, e2, h⟩ := Option.bind_eq_some_iff.mp h
    split at h
    · rename_i n ns
      cases h
      obtain ⟨x, rfl, wx⟩ := vul1 vx
      obtain ⟨a, vs, rfl, hs, r⟩ := wx.lst' sm e1
      refine ⟨a, n :: ns, rfl, by rw [← intsOf_ok r e2]; exact hs, by simp, fun m hm hle => ?_⟩
      obtain ⟨h1, h2, h3⟩ := maxI_spec ns n
      have e : m = maxI n ns := by
        have a1 : maxI n ns ≤ m := hle _ (by rcases h1 with e | e; · rw [e]; exact List.mem_cons_self
                                             · exact List.mem_cons_of_mem _ e)
        have a2 : m ≤ maxI n ns := by
          rcases List.mem_cons.mp hm with rfl | hm
          · exact h2
          · exact h3 m hm
        omega
      rw [e]
      exact k _ _ ⟨rfl, .int _⟩
    · cases h
  · cases h
end
end HD
set_option maxHeartbeats 1000000
/-! HD10: own lists changed; slices; isinstance; what is never reached. -/
namespace HD
open PySem PySem.Spec PyProof.Rows L2

def ownL (s : Sg) (z : Zv) : Option (Nat × List Dt) :=
  match z with
  | .ref k => match s.ob[k]? with
    | some (.lst ds) => some (k, ds)
    | _ => none
  | .dat _ => none
def setL (s : Sg) (k : Nat) (ds : List Dt) : Sg := ⟨s.sl, s.ob.set k (.lst ds)⟩
section
variable {K : PySem.W.Frag} {mg : Str → Option Value} {W : WX} {F F0 F1 H H0 H1 : Hp} {ι ι0 ι1 : List Addr} {σ σ1 : L2.St} {s : Sg} {α β : Type}
theorem ownL_ok {v : V} {z : Zv} {k : Nat} {ds : List Dt} (st : StOk K mg F H ι σ s) (h : ZvOk K mg F ι v z) (e : ownL s z = some (k, ds)) : ∃ a vs, v = .ref a ∧ ι[k]? = some a ∧ s.ob[k]? = some (.lst ds) ∧ H a = some (.lst vs) ∧ RepL K mg F vs ds ∧ F a = none := by
  cases z with
  | dat d => cases e
  | ref j =>
    obtain ⟨a, ea, rfl⟩ := h
    unfold ownL at e
    split at e
    · rename_i z' j' ez
      cases ez
      split at e
      · rename_i ds' eo
        cases e
        obtain ⟨fa, vs, hv, r⟩ := st.own _ a _ ea eo (by intro z; cases z)
        exact ⟨a, vs, rfl, ea, eo, hv, r, fa⟩
      · cases e
    · cases e
/-- an own list is written -/
theorem StOk.writeL {a : Addr} {k : Nat} {vs vs' : List V} {ds ds' : List Dt} (st : StOk K mg F H ι σ s) (ea : ι[k]? = some a) (eo : s.ob[k]? = some (.lst ds)) (ha : H a = some (.lst vs)) (fa : F a = none) (r : RepL K mg F vs' ds') :
    StOk K mg F (upd H a (.lst vs')) ι σ (setL s k ds') where
  fh := fun b o e => by rw [upd_ne (ne_of_none e fa)]; exact st.fh b o e
  nd := st.nd
  ln := by show _ = (s.ob.set k _).length; rw [List.length_set]; exact st.ln
  th := fun b hb => by
    by_cases e : b = a
    · subst e; rw [upd_same]; intro z; cases z
    · rw [upd_ne e]; exact st.th b hb
  own := fun j b o e1 e2 nd => by
    have e2 : (s.ob.set k (.lst ds'))[j]? = some o := e2
    by_cases hj : k = j
    · subst hj
      rw [ea] at e1
      cases e1
      rw [List.getElem?_set_self (List.getElem?_eq_some_iff.mp eo).1] at e2
      cases e2
      exact ⟨fa, vs', upd_same, r⟩
    · rw [List.getElem?_set_ne hj] at e2
      have hb : b ≠ a := fun z => by
        subst z
        obtain ⟨h1, g1⟩ := List.getElem?_eq_some_iff.mp e1
        obtain ⟨h2, g2⟩ := List.getElem?_eq_some_iff.mp ea
        exact hj ((List.getElem_inj st.nd).mp (g2.trans g1.symm))
      refine ⟨(st.own j b o e1 e2 nd).1, ?_⟩
      have ok := (st.own j b o e1 e2 nd).2
      cases o with
      | lst ds => obtain ⟨vs, e, r⟩ := ok; exact ⟨vs, by rw [upd_ne hb]; exact e, r⟩
      | dct ds => obtain ⟨vs, e, r⟩ := ok; exact ⟨vs, by rw [upd_ne hb]; exact e, r⟩
      | ins c ds =>
        obtain ⟨C, dx, vs, hc, e, hd, hf, r⟩ := ok
        have hx : dx ≠ a := fun z => by rw [z, ha] at hd; cases hd
        exact ⟨C, dx, vs, hc, by rw [upd_ne hb]; exact e, by rw [upd_ne hx]; exact hd, hf, r⟩
      | dead => exact True.intro
  sz := st.sz
  vr := st.vr
theorem Ext.writeL {a : Addr} {o : HO} (ha : a ∈ ι) : Ext F H ι F (upd H a o) ι :=
  ⟨fun _ _ e => e, ⟨[], by simp⟩, fun b q e hb => by rw [upd_ne (fun z : b = a => hb (by rw [z]; exact ha))]; exact e, fun _ _ e => .inl e, fun _ h => .inl h, fun b hb => by
    by_cases e : b = a
    · subst e; rw [upd_same]; intro z; cases z
    · rw [upd_ne e]; exact hb⟩
end
section
variable {X : Cx} {W : WX} {a b c e o i tg : Expr} {es : List Expr} {pos tpos apos cpos : Pos} {ga go gi : SZ} {g : SE} {gs : SA}
/-- o[i] = e, o an own list -/
def sSetIx (ga go gi : SZ) : SS := fun s => (ga s).bind fun z s1 => (go s1).bind fun zo s2 => (gi s2).bind fun zi s3 => match z, zi with
  | .dat d, .dat (.int j) => optR (ownL s3 zo) fun p => optR (ixN p.2.length j) fun n => .ok .nx (setL s3 p.1 (p.2.set n d))
  | _, _ => .bad
theorem ds_setIx (ha : DZ X W e ga) (ho : DZ X W o go) (hi : DZ X W i gi) (hs : swapsWithSole [.Subscript o i tpos] e pos.line X.env = pure false := by rfl) (hw : swappedStores [.Subscript o i tpos] e X.env = pure none := by rfl)
    (h1 : (assignEach [.Subscript o i tpos] X.env).map (·.2) = [assign (.Subscript o i tpos) X.env] := by rfl)
    (h2 : ∀ v, assign (.Subscript o i tpos) X.env v = (do
      let ov ← holding [v] (eval o X.env)
      let iv ← holding [v, ov] (eval i X.env)
      standAt tpos
      holding [v, ov, iv] (setItem ov iv v)
      release [v, ov, iv] []) := by intro _; rfl) : DS X W (.Assign [.Subscript o i tpos] e pos) (sSetIx ga go gi) :=
  ⟨(ps_asg ha.pe (pg_sub ho.pe hi.pe set_list h2) hs hw h1).imp fun D σ H q => by
    obtain ⟨F, ι, s, st, p⟩ := q
    refine seqZS st Ext.refl p fun v z s1 F1 H1 ι1 st1 x1 r1 q1 => ?_
    refine seqZS st1 x1 q1 fun vo zo s2 F2 H2 ι2 st2 x2 r2 q2 => ?_
    have x02 := x1.trans x2
    refine seqZS st2 x02 q2 fun vi zi s3 F3 H3 ι3 st3 x3 r3 q3 => ?_
    have x03 := x02.trans x3
    split at q3
    · rename_i d j
      obtain ⟨⟨k, ds⟩, e1, q3⟩ := q3.opt
      obtain ⟨n, e2, q3⟩ := q3.opt
      obtain ⟨a, vs, rfl, ea, eo, hv, r, fa⟩ := ownL_ok st3 (r2.mono x3) e1
      cases (show Rep X.K X.mg F3 vi (.int j) from r3)
      refine ⟨a, vs, j, n, rfl, rfl, hv, by rw [r.length]; exact e2, ?_⟩
      have rd : Rep X.K X.mg F3 v d := Rep.mono (same_trans x2.f x3.f) r1
      exact q3 F3 _ ι3 σ (st3.writeL ea eo hv fa (r.set n rd)) (x03.trans (Ext.writeL (List.mem_of_getElem? ea)))
    · exact q3.elim⟩
/-- a method that changes an own list: append, extend, pop -/
def mApp (s : Sg) (k : Nat) (ds : List Dt) (zs : List Zv) : Rs Rv :=
  match zs with
  | [.dat d] => if ds.length < sizeLine then .ok (.dat .non) (setL s k (ds ++ [d])) else .bad
  | _ => .bad
def mExt (s : Sg) (k : Nat) (ds : List Dt) (zs : List Zv) : Rs Rv :=
  match zs with
  | [.dat (.lst es)] => if ds.length + es.length ≤ sizeLine then .ok (.dat .non) (setL s k (ds ++ es)) else .bad
  | _ => .bad
def mPop (s : Sg) (k : Nat) (ds : List Dt) (zs : List Zv) : Rs Rv :=
  match zs with
  | [.dat (.int i)] => if -(2 ^ 63) ≤ i ∧ i < 2 ^ 63 then optR (seqIndex? i ds.length) fun n => optR (ds[n]?) fun d => .ok (.dat d) (setL s k (ds.eraseIdx n)) else .bad
  | _ => .bad
def eMt (m : Sg → Nat → List Dt → List Zv → Rs Rv) (go : SZ) (gs : SA) : SE := fun s => (go s).bind fun zo s1 => optR (ownL s1 zo) fun _ => (gs s1).bind fun zs s2 => optR (ownL s2 zo) fun p => m s2 p.1 p.2 zs
def MtD (X : Cx) (r : V → List V → Hp → VK → Prop) (m : Sg → Nat → List Dt → List Zv → Rs Rv) : Prop := ∀ (W : WX) (F H F0 H0 : Hp) (ι ι0 : List Addr) (σ : L2.St) (s : Sg) (k : Nat) (ds : List Dt) (a : Addr) (vs us : List V) (zs : List Zv) (Q : VK), StOk X.K X.mg F H ι σ s → Ext F0 H0 ι0 F H ι →
  ι[k]? = some a → s.ob[k]? = some (.lst ds) → H a = some (.lst vs) → RepL X.K X.mg F vs ds → F a = none → ZvsOk X.K X.mg F ι us zs →
  Post X.K X.mg W F0 H0 ι0 σ (m s k ds zs) (fun r s' F' H' ι' => ∀ v, RvOk X.K X.mg H0 F' H' ι' v r → Q v H') → r (.ref a) us H Q
theorem mt_ok {r : V → List V → Hp → VK → Prop} {m : Sg → Nat → List Dt → List Zv → Rs Rv} (hd : MtD X r m) {σ : L2.St} {H : Hp} {Q : VK} (q : tE X.K X.mg W (eMt m go gs) σ H Q) : tBM X.K "list" r (tZ X.K X.mg W go) (tA X.K X.mg W gs) σ H Q := by
  obtain ⟨F, ι, s, st, p⟩ := q
  refine seqZ st Ext.refl p fun v z1 s1 F1 H1 ι1 st1 x1 r1 q1 => ?_
  obtain ⟨⟨k1, ds1⟩, e1, q1⟩ := q1.opt
  obtain ⟨a1, us1, rfl, _, _, hv1, _, _⟩ := ownL_ok st1 r1 e1
  refine ⟨.inl ⟨rfl, us1, SqL.of hv1⟩, seqA st1 x1 q1 fun vs zs s2 F2 H2 ι2 st2 x2 r2 q2 => ?_⟩
  obtain ⟨⟨k, ds⟩, e2, q2⟩ := q2.opt
  obtain ⟨a, us, e, ea, eo, hv, r, fa⟩ := ownL_ok st2 (r1.mono x2) e2
  cases e
  exact hd W F2 H2 F H ι2 ι σ s2 k ds a1 us vs zs Q st2 (x1.trans x2) ea eo hv r fa r2 q2
theorem zvs_one {F : Hp} {ι : List Addr} {us : List V} {z : Zv} (h : ZvsOk X.K X.mg F ι us [z]) : ∃ u, us = [u] ∧ ZvOk X.K X.mg F ι u z := by
  match us, h with
  | [u], ⟨h, _⟩ => exact ⟨u, rfl, h⟩
theorem md_app : MtD X rAppend mApp := by
  intro W F H F0 H0 ι ι0 σ s k ds a vs us zs Q st x ea eo hv r fa rz p
  unfold mApp at p
  split at p
  · rename_i d
    obtain ⟨hl, p⟩ := p.ite
    obtain ⟨u, rfl, ru⟩ := zvs_one rz
    exact ⟨a, vs, u, rfl, rfl, hv, by rw [r.length]; exact hl, p F _ ι (st.writeL ea eo hv fa (r.append (.cons ru .nil))) (x.trans (Ext.writeL (List.mem_of_getElem? ea))) .non .non⟩
  · exact p.elim
theorem md_ext : MtD X rExtend mExt := by
  intro W F H F0 H0 ι ι0 σ s k ds a vs us zs Q st x ea eo hv r fa rz p
  unfold mExt at p
  split at p
  · rename_i es
    obtain ⟨hl, p⟩ := p.ite
    obtain ⟨u, rfl, ru⟩ := zvs_one rz
    cases (show Rep X.K X.mg F u (.lst es) from ru) with
    | lst hb rb => exact ⟨a, _, vs, _, rfl, rfl, hv, st.fh _ _ hb, by rw [r.length, rb.length]; exact hl, p F _ ι (st.writeL ea eo hv fa (r.append rb)) (x.trans (Ext.writeL (List.mem_of_getElem? ea))) .non .non⟩
  · exact p.elim
theorem RepL.erase {K : PySem.W.Frag} {mg : Str → Option Value} {F : Hp} : ∀ {vs : List V} {ds : List Dt} (n : Nat), RepL K mg F vs ds → RepL K mg F (vs.eraseIdx n) (ds.eraseIdx n)
  | _, _, _, .nil => by simp; exact .nil
  | _, _, 0, .cons _ r => r
  | _, _, n + 1, .cons h r => .cons h (RepL.erase n r)
theorem md_pop : MtD X rPopAt mPop := by
  intro W F H F0 H0 ι ι0 σ s k ds a vs us zs Q st x ea eo hv r fa rz p
  unfold mPop at p
  split at p
  · rename_i i
    obtain ⟨hi, p⟩ := p.ite
    obtain ⟨n, e1, p⟩ := p.opt
    obtain ⟨d, e2, p⟩ := p.opt
    obtain ⟨u, rfl, ru⟩ := zvs_one rz
    cases (show Rep X.K X.mg F u (.int i) from ru)
    obtain ⟨v, hv2, rv⟩ := r.get e2
    exact ⟨a, vs, i, n, v, rfl, rfl, hv, hi.1, hi.2, by rw [r.length]; exact e1, hv2, p F _ ι (st.writeL ea eo hv fa (r.erase n)) (x.trans (Ext.writeL (List.mem_of_getElem? ea))) v rv⟩
  · exact p.elim
theorem de_mt {name : Str} {id : String} {r : V → List V → Hp → VK → Prop} {m : Sg → Nat → List Dt → List Zv → Rs Rv} (slot : Slot "list" name id) (hty : typeOf (.builtin id) = pure (.type "method_descriptor")) (hm : MtR X id r) (hd : MtD X r m) (ho : DZ X W o go) (ha : DA X W (e :: es) gs)
    (hbase : attributeBase o name X.env (eval o X.env) = eval o X.env := by rfl)
    (hfew : ((backTo cpos (starEach (e :: es) X.env)).all (fun x => !x.1) && (backToKw cpos (keywordEach [] X.env)).all (fun x => x.1.isSome) && decide ((e :: es).length + ([] : List Keyword).length + (if ([] : List Keyword).isEmpty then 0 else 1) < 30)) = true := by rfl)
    (hline : (apos.endLine == cpos.line) = true := by rfl) (hs : starEach (e :: es) X.env = (false, eval e X.env) :: starEach es X.env := by rfl) (hplain : (backTo cpos (starEach es X.env)).any (·.1) = false := by rfl) :
    DE X W (.Call (.Attribute o name apos) (e :: es) [] cpos) (eMt m go gs) :=
  ⟨(pe_bm PySem.F.plainAttrs_list slot hty hm ho.pe ha.pe hbase hfew hline hs hplain).imp fun _ _ _ q => mt_ok hd q⟩
/-! ### slices -/
def part (g : Option SZ) : Sg → Rs (Option Int) := fun s => match g with
  | none => .ok none s
  | some g => (g s).bind fun z s1 => match z with
    | .dat (.int i) => .ok (some i) s1
    | _ => .bad
def cutD (xs : List Dt) (lo hi : Option Int) : List Dt := (xs.drop (HT.sIx xs.length 0 lo)).take (HT.sIx xs.length xs.length hi - HT.sIx xs.length 0 lo)
theorem cut_rep {K : PySem.W.Frag} {mg : Str → Option Value} {F : Hp} {vs : List V} {ds : List Dt} {lo hi : Option Int} (r : RepL K mg F vs ds) : RepL K mg F (cutV vs lo hi) (cutD ds lo hi) := by
  unfold cutV cutD
  rw [r.length]
  exact (r.drop _).take _
def fCut (d : Dt) (lo hi : Option Int) : Option Rd :=
  match d with
  | .lst ds => some (.newL (cutD ds lo hi))
  | .tup ds => if HT.sIx ds.length 0 lo = 0 ∧ HT.sIx ds.length ds.length hi = ds.length then some (.val (.tup ds)) else some (.newT (cutD ds lo hi))
  | .str z => if z.length ≤ sizeLine then some (.val (.str (cutS z lo hi))) else none
  | _ => none
def eCut (ga : SZ) (gl gh : Option SZ) : SE := fun s => (ga s).bind fun z s1 => (part gl s1).bind fun lo s2 => (part gh s2).bind fun hi s3 => optR (vw s3 z) fun d => optR (fCut d lo hi) fun o => rdR o s3
def tPt (K : PySem.W.Frag) (mg : Str → Option Value) (W : WX) (g : Sg → Rs (Option Int)) : TO := fun σ H Q => ∃ F ι s, StOk K mg F H ι σ s ∧ Post K mg W F H ι σ (g s) fun o s' F' H' ι' => Q o H'
structure DO (X : Cx) (W : WX) (e : Option Expr) (g : Option SZ) : Prop where
  po : PO X e (tPt X.K X.mg W (part g))
theorem _root_.L2.PO.imp {X : Cx} {e : Option Expr} {t t' : TO} (h : PO X e t) (f : ∀ σ H Q, t' σ H Q → t σ H Q) : PO X e t' := ⟨fun pins s σ H Q I q => h.run pins s σ H Q I (f _ _ _ q)⟩
theorem do_none : DO X W none none := ⟨po_none.imp fun σ H Q q => by
  obtain ⟨F, ι, s, st, p⟩ := q
  exact p F H ι st Ext.refl⟩
theorem do_some (h : DZ X W e ga) : DO X W (some e) (some ga) := ⟨(po_some h.pe).imp fun σ H Q q => by
  obtain ⟨F, ι, s, st, p⟩ := q
  refine seqZ st Ext.refl p fun v z s1 F1 H1 ι1 st1 x1 r1 q1 => ?_
  split at q1
  · rename_i i
    cases (show Rep X.K X.mg F1 v (.int i) from r1)
    exact ⟨i, rfl, q1 F1 H1 ι1 st1 x1⟩
  · exact q1.elim⟩
abbrev rSlD (X : Cx) : V → Option Int → Option Int → Hp → VK → Prop := fun x lo hi H Q => rSlL X.K x lo hi H Q ∨ rSlA X.K x lo hi H Q ∨ rSlS x lo hi H Q
theorem sl_D : SlR X (rSlD X) := SlR.or sl_list (SlR.or sl_tupA sl_str)
theorem de_cut {lo hi : Option Expr} {p2 : Pos} {gl gh : Option SZ} (ha : DZ X W e ga) (hl : DO X W lo gl) (hh : DO X W hi gh) : DE X W (.Subscript e (.Slice lo hi none p2) pos) (eCut ga gl gh) :=
  ⟨(pe_slice sl_D ha.pe hl.po hh.po).imp fun σ H Q q => by
    obtain ⟨F, ι, s, st, p⟩ := q
    refine seqZ st Ext.refl p fun v z s1 F1 H1 ι1 st1 x1 r1 q1 => ?_
    refine ⟨F1, ι1, s1, st1, (q1.bind.base x1).imp fun l s2 F2 H2 ι2 st2 x2 q2 => ?_⟩
    have x02 := x1.trans x2
    refine ⟨F2, ι2, s2, st2, (q2.bind.base x02).imp fun u s3 F3 H3 ι3 st3 x3 q3 => ?_⟩
    have x03 := x02.trans x3
    obtain ⟨d, e1, q3⟩ := q3.opt
    obtain ⟨o, e2, q3⟩ := q3.opt
    have vu := vu_of st3 ((r1.mono x2).mono x3) e1
    have fin : ∀ v' H', RdOk X.K X.mg F3 H3 H' v' o → Q v' H' := fun v' H' ok => finR st3 x03 ok q3
    unfold fCut at e2
    split at e2
    · cases e2
      obtain ⟨a, vs, rfl, hv, r⟩ := vu.lstOf st3.fh
      exact .inl ⟨a, vs, rfl, SqL.of hv, fun p hp => fin _ _ ⟨p, _, rfl, hp, rfl, cut_rep r⟩⟩
    · obtain ⟨a, vs, rfl, hv, r⟩ := vu.tupOf st3.fh
      refine .inr (.inl ⟨a, vs, rfl, hv, fun h => ?_, fun h p hp => ?_⟩)
      · rw [r.length] at h
        rw [if_pos h] at e2
        cases e2
        exact fin _ _ ⟨rfl, by cases vu with | fz r => exact r⟩
      · rw [r.length] at h
        rw [if_neg h] at e2
        cases e2
        exact fin _ _ ⟨p, _, rfl, hp, rfl, cut_rep r⟩
    · split at e2
      · rename_i hz
        cases e2
        exact .inr (.inr ⟨_, vu.strOf, hz, fin _ _ ⟨rfl, .str _⟩⟩)
      · cases e2
    · cases e2⟩
/-! ### isinstance of a built-in class -/
def tyN : Dt → Option String
  | .non => some "NoneType"
  | .bl _ => some "bool"
  | .int _ => some "int"
  | .str _ => some "str"
  | .tup _ => some "tuple"
  | .lst _ => some "list"
  | .rol _ => some "list"
  | .dct _ => some "dict"
  | .obj _ _ => none
theorem ty_ok {F H : Hp} {v : V} {d : Dt} {n : String} (sm : Same F H) (vu : Vu X.K X.mg F H v d) (e : tyN d = some n) : TyX X.K H v (.type n) := by
  have key : ∀ {a : Addr} {vs : List V}, SqL X.K H a vs → TyX X.K H (.ref a) (.type "list") := fun {a vs} h => by
    rcases h with (h | ⟨o, h⟩) | ⟨o, its, n, h, hc, _⟩
    · exact .base (.lst h)
    · exact .base (.frz h)
    · exact .kList h hc
  cases d with
  | non => cases e; rw [vu.nonOf]; exact .base .non
  | bl b => cases e; rw [vu.blOf]; exact .base (.bl b)
  | int b => cases e; rw [vu.intOf]; exact .base (.int b)
  | str b => cases e; rw [vu.strOf]; exact .base (.str b)
  | tup ds =>
    cases e
    obtain ⟨a, vs, rfl, h, _⟩ := vu.tupOf sm
    rcases h with (h | ⟨o, h⟩) | ⟨o, its, n, h, hc, _⟩
    · exact .base (.tup h)
    · exact .fTuple h
    · exact .kTuple h hc
  | lst ds => cases e; obtain ⟨a, vs, rfl, h, _⟩ := vu.lstOf sm; exact key (SqL.of h)
  | rol ds => cases e; obtain ⟨a, vs, rfl, h, _⟩ := vu.rolOf sm; exact key h
  | dct ds =>
    cases e
    cases vu with
    | fz r => cases r with | dct h _ => exact .base (.dK (sm _ _ h))
    | dct h _ => exact .base (.dK h)
  | obj c fs => cases e
def fIsi (T : String) (d : Dt) : Option Rd := (tyN d).bind fun n => (kitB n T).map fun b => .val (.bl b)
theorem de_isi {x : Str} {p p2 : Pos} {TT : String} (hT : bootBuiltins x = some (.type TT)) (hg : Gl X "isinstance") (hm : X.mg "isinstance" = none) (hg2 : Gl X x) (hm2 : X.mg x = none) (cl : ClsV (.ty TT) (.type TT)) (ha : DZ X W a ga)
    (hn : x ≠ "__name__" := by decide) (hdb : (x == ("__debug__" : Str)) = false := by decide) (he : starEach [a, .Name x p2] X.env = (false, eval a X.env) :: starEach [.Name x p2] X.env := by rfl) (he2 : starEach [.Name x p2] X.env = (false, eval (.Name x p2) X.env) :: starEach [] X.env := by rfl)
    (hpl : (backTo pos (starEach [.Name x p2] X.env)).any (·.1) = false := by rfl) : DE X W (.Call (.Name "isinstance" p) [a, .Name x p2] [] pos) (una (fIsi TT) ga) :=
  ⟨(pe_callB call_isi hg hm (by decide +kernel) (pa_cons ha.pe (pa_cons (pe_bltn (v := .ty TT) hg2 hm2 hT rfl hn hdb) pa_nil he2) he) (by decide) (by decide) he hpl).imp fun σ H Q q => by
    obtain ⟨F, ι, s, st, p⟩ := q
    refine seqZ st Ext.refl p fun v z s1 F1 H1 ι1 st1 x1 r1 q1 => ?_
    obtain ⟨d, e1, q1⟩ := q1.opt
    obtain ⟨o, e2, q1⟩ := q1.opt
    unfold fIsi at e2
    obtain ⟨n, e3, e2⟩ := Option.bind_eq_some_iff.mp e2
    obtain ⟨b, e4, rfl⟩ := Option.map_eq_some_iff.mp e2
    exact ⟨v, .ty TT, .type n, .type TT, b, rfl, cl, ty_ok st1.fh (vu_of st1 r1 e1) e3, kit_ty e4, finR st1 x1 (o := .val (.bl b)) ⟨rfl, .bl b⟩ q1⟩⟩
/-- what is never reached -/
def sBad : SS := fun _ => .bad
theorem ds_bad {st : Stmt} : DS X W st sBad := ⟨(ps_never (X := X) (st := st)).imp fun D σ H q => by
  obtain ⟨F, ι, s, st, p⟩ := q
  exact p.elim⟩
end
end HD
set_option maxHeartbeats 1000000
/-! HD11: repr, min of two, unpacking lists; the law's own end. -/
namespace HD
open PySem PySem.Spec PyProof.Rows L2

/-! ### the law's call -/
/-- the law answers True, whatever the script -/
def LawOk (n : Nat) (m : Mir) : Prop := ∀ ns : List Int, ns.length ≤ n → (∀ k ∈ ns, Builtin.Int.intBits k ≤ 1048576) → m [.dat (.rol (ns.map .int))] [] = .ok (.dat (.bl true)) []
theorem law_g {P : Program} {w : World} {K : PySem.W.Frag} {mg mb : Str → Option Value} {k : Nat} {fa a : Addr} {fd : FuncData} {x : Str} {m : Mir} {t : Shared} {vs : List Value} {ns : List Int}
    (KX : K.In t.heap) (hns : t.heap.Ns mainGlobals mg) (hb : t.heap.Ns builtinsNs mb) (hbb : ∀ x : Str, x ≠ "__name__" → mb x = bootBuiltins x) (hlim : t.heap.NoLimit) (hgen : t.gens = #[])
    (ha : t.heap.get? a = some { cls := .type "list", data := .seq vs.toArray }) (hi : IntsAre vs ns) (hl : ns.length ≤ sizeLine) (hr : Room k callerA)
    (F : ∀ base : Heap, K.In base → base.Ns mainGlobals mg → FnG P w K mg base k fa fd [x] (spD K mg 1 m)) (hbind : ∀ (s : Shared) (u : Value), BindsTo s fd ⟨[u], []⟩ [(x, u)])
    (ok : m [.dat (.rol (ns.map .int))] [] = .ok (.dat (.bl true)) []) :
    codeAny (model P w) callerA (.call (.ref fa) ⟨[.ref a], []⟩) (fun r s' => r = .ok (.ret (.bool true)) ∧ OldK t.heap s'.heap ∧ s'.os = t.os ∧ AllBare s'.gens) t := by
  have rv := vals_ints hi
  have nx : ∀ {b : Addr}, ¬ b ∈ ([] : List Addr) := fun z => by cases z
  have main : ∀ H : Hp, (∀ b u, H b = some u → b = a ∧ K.lookup a = none ∧ ∃ o xs, u = .frz o (.lst xs)) → SqL K H a (ns.map V.int) → HOk P w H t.heap →
      codeAny (model P w) callerA (.call (.ref fa) ⟨[.ref a], []⟩) (fun r s' => r = .ok (.ret (.bool true)) ∧ OldK t.heap s'.heap ∧ s'.os = t.os ∧ AllBare s'.gens) t := by
    intro H only hS hok
    have lone : ∀ {b : Addr} {o : Obj}, t.heap.get? b = some o → (b = a → K.lookup a = none → o = { cls := .type "list", data := .seq vs.toArray } → False) → H b = none := fun {b o} e no => by
      cases q : H b with
      | none => rfl
      | some u =>
        obtain ⟨eb, ek, _⟩ := only b u q
        refine (no eb ek ?_).elim
        subst eb
        rw [ha] at e
        exact (Option.some.inj e).symm
    have ns' : ∀ {b : Addr} {q : Str → Option Value}, t.heap.Ns b q → (hidT t.heap H).Ns b q := fun {b q} ⟨o, es, ep, e, d, r⟩ => ⟨o, es, ep, hidT_get e (lone e fun _ _ eo => by subst eo; cases d), d, r⟩
    have kin : K.In (hidT t.heap H) := fun b o e => hidT_get (KX b o e) (lone (KX b o e) fun eb ek _ => by subst eb; rw [ek] at e; cases e)
    have e0 : Env0 P w K mg (hidT t.heap H) callerA [] t H := ⟨rfl, ⟨kin, ns' hns, ⟨mb, ns' hb, hbb⟩, let ⟨mc, h1, h2⟩ := hlim; ⟨mc, ns' h1, h2⟩⟩, fun b o e => of_hidT e, Nat.le_of_eq (hidT_size _ _), trivial, fun b z => absurd z nx, hok, .of_eq hgen⟩
    have st : StOk K mg H H [] [] ⟨[], []⟩ := ⟨fun _ _ e => e, List.nodup_nil, rfl, fun b z => absurd z nx, fun k b o e => by simp at e, rfl, fun i z e => by simp at e⟩
    refine codeAny_mono ((F _ kin (ns' hns)).run callerA [] t H ⟨[.ref a], []⟩ [.ref a] [.ref a] (fun v _ => v = .bl true) (fun _ _ _ => False) rfl hr e0 (hbind t (.ref a)) (.cons rfl .nil)
      ⟨H, [], [.dat (.rol (ns.map .int))], [], rfl, st, ⟨Rep.rol hS (RepL.of_ints ns), trivial⟩, by rw [ok]; exact fun v F' H' _ _ rv => by cases (show Rep K mg F' v (.bl true) from rv); rfl⟩) fun r s' h => ?_
    match r, h with
    | .error e, ⟨_, _, _, _, _, _, _, _, _, _, _, _, z⟩ => exact z.elim
    | .ok .next, h => exact False.elim h
    | .ok .brk, h => exact False.elim h
    | .ok .cont, h => exact False.elim h
    | .ok (.ret u), ⟨v, H', os, bare, un, hok', r', q⟩ =>
      have q : v = .bl true := q
      subst q
      obtain rfl : u = Value.bool true := r'
      refine ⟨rfl, OldK.of_keep fun b o e => ?_, os, bare⟩
      cases q : H b with
      | none => exact un.keep b o e q nx nx
      | some u =>
        obtain ⟨_, _, ob, xs, eu⟩ := only b u q
        subst eu
        have e1 := (hok b _ q).1
        rw [e] at e1
        cases e1
        exact (hok' b _ (un.frzs b o _ q)).1
  cases hk : K.lookup a with
  | some o =>
    have e := KX a o hk
    rw [ha] at e
    cases e
    exact main (fun _ => none) (fun b u z => by cases z) (.inr ⟨_, vs.toArray, _, hk, rfl, rfl, rfl, by rw [List.size_toArray, hi.length]; exact hl, by simpa using rv⟩) fun b u z => by cases z
  | none =>
    refine main (fun b => if b = a then some (.frz { cls := .type "list", data := .seq vs.toArray } (.lst (ns.map V.int))) else none) (fun b u z => ?_) (.inl (.inr ⟨_, if_pos rfl⟩)) fun b u z => ?_
    · by_cases h : b = a
      · cases (if_pos h).symm.trans z; exact ⟨h, hk, _, _, rfl⟩
      · cases (if_neg h).symm.trans z
    · by_cases h : b = a
      · cases (if_pos h).symm.trans z
        subst h
        exact ⟨ha, by rw [List.length_map]; exact hl, vs, _, rv, ha⟩
      · cases (if_neg h).symm.trans z
theorem walk_g {l : PySem.W.OpenLaw} {n k : Nat} {q : Program} {loose : List Str} {XP : (Str → Option Value) → Heap → Prop} {YP : World → Heap → Prop} {d : DefRec} {K : Params → PySem.W.Frag} {x : Str} {m : World → Mir}
    (hn : l.most = some n) (hn2 : n ≤ sizeLine) (hdf : d.params.defaults = []) (hr : Room k callerA) (hY : ∀ (w : World) (h : Heap), YP w h → (K w.params).In h)
    (F : ∀ (w : World) (mg : Str → Option Value) (fa : Addr) (h : Heap), (K w.params).In h → h.Ns mainGlobals mg → mg d.name = some (.ref fa) →
      ∃ fd : FuncData, (∀ (s : Shared) (u : Value), BindsTo s fd ⟨[u], []⟩ [(x, u)]) ∧ ∀ base : Heap, (K w.params).In base → base.Ns mainGlobals mg → FnG l.prog w (K w.params) mg base k fa fd [x] (spD (K w.params) mg 1 (m w)))
    (ok : ∀ w, LawOk n (m w)) : PySem.W.WalkO q loose XP YP l.row.toRowW d [] (fun f vs => PySem.call f vs) := by
  refine Att.attach_callB hn hdf fun w s₀ t mg mb fa o pm cd doc a vs ns G Y ho hd hcd hmg hobj hints hlen hbits hg => ?_
  obtain ⟨fd, hb, hF⟩ := F w mg fa _ (hY w _ Y) G.T.g hmg
  exact law_g (hY w _ Y) G.T.g G.T.b G.T.builtins G.T.nolimit hg hobj hints (Nat.le_trans hlen hn2) hr hF hb (ok w ns hlen hbits)

/-! ### repr -/
def reprOk (p : PyData) : Bool := p.showable && !p.hasDict && decide (p.depth ≤ 60) && decide (p.shown.length ≤ sizeLine)
def fRepr : List Dt → Option Rd
  | [d] => (py d).bind fun p => if reprOk p = true then some (.val (.str p.shown)) else none
  | _ => none
section
variable {X : Cx}
abbrev rRepr (K : PySem.W.Frag) : List V → Hp → VK → Prop := fun xs H Q => ∃ x p, xs = [x] ∧ Dp K H x p ∧ reprOk p = true ∧ Q (.str p.shown) H
theorem cr_repr (hg : X.A.guards = some []) (hu : X.A.units + 64 < cLine) : CallR X (.builtin "repr") (rRepr X.K) := by
  intro pins s σ H xs us Q I r h
  obtain ⟨x, p, rfl, hp, ok, q⟩ := h
  obtain ⟨u, rfl, ru⟩ := vals1 r
  obtain ⟨as, rd⟩ := Dp.reads I p x u hp ru
  unfold reprOk at ok
  simp only [Bool.and_eq_true, decide_eq_true_eq] at ok
  obtain ⟨⟨⟨h1, h2⟩, h3⟩, h4⟩ := ok
  have fin : ∀ h' u tk, (∀ b o, s.heap.get? b = some o → h'.get? b = some o) → EP X pins σ Q (.str p.shown u) { s with heap := h', toks := tk } := fun h' u tk k => ⟨.str _, H, I.kept k, ⟨_, rfl⟩, q⟩
  have hnd : p.hasDict = true → sysModules ∉ as := fun z => by rw [z] at h2; cases h2
  cases hp with
  | lst _ _ => obtain rfl : u = Value.ref _ := ru; exact repr_of_reads' rd h1 hnd hg (by omega) (fun _ _ e => e) fin h4
  | tup _ _ => obtain rfl : u = Value.ref _ := ru; exact repr_of_reads' rd h1 hnd hg (by omega) (fun _ _ e => e) fin h4
  | non =>
    obtain rfl : u = Value.none := ru
    have e : PyData.none.shown = "None" := by simp [PyData.shown]
    rw [e] at q
    exact PySem.P.repr_of_none ⟨.str _, H, I.tok _, ⟨_, rfl⟩, q⟩
  | bl b =>
    obtain rfl : u = Value.bool b := ru
    refine PySem.P.repr_of_bool ⟨.str _, H, I.tok _, ⟨_, rfl⟩, ?_⟩
    cases b with
    | true =>
      have e : (PyData.bool true).shown = "True" := by simp [PyData.shown]
      rw [e] at q
      exact q
    | false =>
      have e : (PyData.bool false).shown = "False" := by simp [PyData.shown]
      rw [e] at q
      exact q
  | int i =>
    obtain ⟨t, rfl⟩ := (show ∃ t, u = Value.int i t from ru)
    have e : (PyData.int i).shown = toString i := by simp [PyData.shown]
    rw [e] at q
    simp only [PyData.showable, decide_eq_true_eq] at h1
    exact PySem.P.repr_of_int h1 ⟨.str _, H, I.tok _, ⟨_, rfl⟩, q⟩
  | str z =>
    obtain ⟨t, rfl⟩ := (show ∃ t, u = Value.str z t from ru)
    have e : (PyData.str z).shown = reprText z := by simp [PyData.shown]
    rw [e] at q h4
    exact PySem.P.repr_of_str ⟨.str _, H, I.tok _, ⟨_, rfl⟩, q⟩ h4
theorem d_repr : CallD X.K X.mg (rRepr X.K) fRepr := by
  intro F H xs ds o Q sm vx h k
  unfold fRepr at h
  split at h
  · obtain ⟨p, e1, h⟩ := Option.bind_eq_some_iff.mp h
    split at h
    · rename_i ok
      cases h
      obtain ⟨x, rfl, wx⟩ := vul1 vx
      exact ⟨x, p, rfl, wx.dp sm e1, ok, k _ _ ⟨rfl, .str _⟩⟩
    · cases h
  · cases h
end
/-! ### min of two data -/
section
variable {prog : Program} {w : World} {A : Around} {E : Value → Shared → Prop} {s : Shared}
theorem min_of_two {a b : Value} {p q : PyData} {as bs : List Addr} {Q : Value → Shared → Prop} (hh : A.handled = none) (ra : Reads s.heap a p as) (rb : Reads s.heap b q bs) (al : PySem.W.AlikeAll [p, q]) (hu : A.units + 2 + PyData.depthAll [p, q] < cLine)
    (k : ∀ h' tk, (∀ c o, s.heap.get? c = some o → h'.get? c = some o) → Q (if PySem.W.dataLt q p = true then b else a) { s with heap := h', toks := tk }) : wpAny (model prog w) A (call (.builtin "min") [a, b]) Q E s := by
  refine call_function_tree F.kind_min F.plain_min F.entry_min (F.args_min2 _ _) ?_
  show wpAny _ A.in1 (Builtin.Builtins.bindParams "min" ["key", "default"] 0 ⟨[], []⟩ >>= _) _ _ s
  refine wpAny_bind (wpAny_of_eq (show Builtin.Builtins.bindParams "min" ["key", "default"] 0 ⟨[], []⟩ = pure [none, none] from rfl) ?_)
  show wpAny _ A.in1 (newTuple [a, b] >>= _) _ _ s
  refine wpAny_bind (wpAny_newObj_type ?_)
  have hT : (s.heap.push { cls := .type "tuple", data := .seq #[a, b] }).IsTuple s.heap.objs.size #[a, b] := ⟨_, Heap.get?_push_size _ rfl, rfl, 0, rfl⟩
  have hr : ReadsAll (s.heap.push { cls := .type "tuple", data := .seq #[a, b] }) #[a, b].toList [p, q] _ := ReadsAll.cons (Reads.keeps (fun c o e => Heap.get?_push_of_some _ e) ra) (ReadsAll.cons (Reads.keeps (fun c o e => Heap.get?_push_of_some _ e) rb) ReadsAll.nil)
  have hname : (toString "min" ++ toString ".loop" : String) = "min.loop" := by decide
  refine wpAny_bind (PySem.W.iter_tupleW (A := A.in1) (s := { s with heap := s.heap.push { cls := .type "tuple", data := .seq #[a, b] } }) hh hT fun s₂ e W st hfp hw hk => ?_)
  refine wpAny_bind (wpAny_newObj_type ?_)
  rw [hname]
  refine wpAny_pure ⟨plainId_quiet F.plain_min_loop _, PySem.codeAny_min_loop_firstH W _ hw _ (PySem.W.cmpIn_lt (prog := prog) (w := w) (A := A.in1) (s := { s with heap := s.heap.push { cls := .type "tuple", data := .seq #[a, b] } }) hr al (by show A.units + 1 + _ < _; omega)) s₂.heap.objs.size (fun hm => Nat.lt_irrefl _ (hfp _ hm)) (PySem.fresh_in hk) _ (Nat.succ_pos _)
    (fun c o e => Heap.get?_push_of_some _ (hk c o e)) (W.frame 0 s₂ _ s₂.toks st (Nat.le_refl _) fun c _ o e => Heap.get?_push_of_some _ e) (Heap.get?_push_size _ rfl) fun v s' hP hm => ?_⟩
  obtain ⟨h', tk, rfl, hk'⟩ := PySem.W.moved_old e rfl (Moved.drop_new (tk := s₂.toks) hm (Nat.le_refl _))
  have hk2 := k h' tk fun c o e => hk' c o (Heap.get?_push_of_some _ e)
  have ev : v = if PySem.W.dataLt q p = true then b else a := by
    have hP : #[a, b][argBest (fun i j => PySem.W.dataLt ([p, q].getD i .none) ([p, q].getD j .none)) 1]? = some v := hP
    have e1 : argBest (fun i j => PySem.W.dataLt ([p, q].getD i .none) ([p, q].getD j .none)) 1 = if PySem.W.dataLt q p = true then 1 else 0 := rfl
    rw [e1] at hP
    split at hP
    · rename_i h; rw [if_pos h]; exact (Option.some.inj hP).symm
    · rename_i h; rw [if_neg h]; exact (Option.some.inj hP).symm
  rw [ev]
  exact hk2
end
def AlikeB (p q : PyData) : Bool := PySem.W.alike p p && PySem.W.alike q q && PySem.W.alike p q && PySem.W.alike q p
variable {X : Cx}
theorem alike_all {p q : PyData} (h : AlikeB p q = true) (hp : p ≠ .none) (hq : q ≠ .none) : PySem.W.AlikeAll [p, q] := by
  unfold AlikeB at h
  simp only [Bool.and_eq_true] at h
  obtain ⟨⟨⟨h1, h2⟩, h3⟩, h4⟩ := h
  refine ⟨fun x hx y hy => ?_, fun x hx => ?_⟩
  · rcases List.mem_cons.mp hx with rfl | hx
    · rcases List.mem_cons.mp hy with rfl | hy
      · exact h1
      · obtain rfl := List.mem_singleton.mp hy; exact h3
    · obtain rfl := List.mem_singleton.mp hx
      rcases List.mem_cons.mp hy with rfl | hy
      · exact h4
      · obtain rfl := List.mem_singleton.mp hy; exact h2
  · rcases List.mem_cons.mp hx with rfl | hx
    · exact hp
    · obtain rfl := List.mem_singleton.mp hx; exact hq
def isNo : PyData → Bool
  | .none => true
  | _ => false
theorem isNo_ne {p : PyData} (h : isNo p = false) : p ≠ .none := fun e => by subst e; cases h
def pairOk (p q : PyData) : Bool := AlikeB p q && !isNo p && !isNo q && decide (PyData.depthAll [p, q] ≤ 60)
def fMinP : List Dt → Option Rd
  | [.tup a, .tup b] => (py (.tup a)).bind fun p => (py (.tup b)).bind fun q => if pairOk p q = true then some (.val (if PySem.W.dataLt q p = true then .tup b else .tup a)) else none
  | _ => none
section
variable {X : Cx}
abbrev rMinP (K : PySem.W.Frag) : List V → Hp → VK → Prop := fun xs H Q => ∃ x y p q, xs = [x, y] ∧ Dp K H x p ∧ Dp K H y q ∧ pairOk p q = true ∧ Q (if PySem.W.dataLt q p = true then y else x) H
theorem cr_minP (hc : X.calm = true) (hu : X.A.units + 64 < cLine) : CallR X (.builtin "min") (rMinP X.K) := by
  intro pins s σ H xs us Q I r h
  obtain ⟨x, y, p, q, rfl, hp, hq, ok, k⟩ := h
  obtain ⟨u, v, rfl, ru, rv⟩ := vals2 r
  obtain ⟨as, ra⟩ := Dp.reads I p x u hp ru
  obtain ⟨bs, rb⟩ := Dp.reads I q y v hq rv
  unfold pairOk at ok
  simp only [Bool.and_eq_true, Bool.not_eq_true', decide_eq_true_eq] at ok
  obtain ⟨⟨⟨h1, h2⟩, h3⟩, h4⟩ := ok
  refine min_of_two (I.ok.hd hc) ra rb (alike_all h1 (isNo_ne h2) (isNo_ne h3)) (by omega) fun h' tk kp => ?_
  refine ⟨_, H, I.kept kp, ?_, k⟩
  split
  · exact rv
  · exact ru
theorem d_minP : CallD X.K X.mg (rMinP X.K) fMinP := by
  intro F H xs ds o Q sm vx h k
  unfold fMinP at h
  split at h
  · obtain ⟨p, e1, h⟩ := Option.bind_eq_some_iff.mp h
    obtain ⟨q, e2, h⟩ := Option.bind_eq_some_iff.mp h
    split at h
    · rename_i ok
      cases h
      obtain ⟨x, y, rfl, wx, wy⟩ := vul2 vx
      refine ⟨x, y, p, q, rfl, wx.dp sm e1, wy.dp sm e2, ok, k _ _ ?_⟩
      have fz : ∀ {z : V} {ds : List Dt}, Vu X.K X.mg F H z (.tup ds) → Rep X.K X.mg F z (.tup ds) := fun h => by cases h; assumption
      split
      · exact ⟨rfl, fz wy⟩
      · exact ⟨rfl, fz wx⟩
    · cases h
  · cases h
end
end HD
set_option maxHeartbeats 1000000
/-! HD12: unpacking a list; sorted(set(..)). -/
namespace HD
open PySem PySem.Spec PyProof.Rows L2

/-! ### (a, b, ..) = a list -/
def gU (gs : List Dt → Sg → Rs Unit) (n : Nat) : SG := fun d s => match d with
  | .lst ds => if ds.length = n then gs ds s else .bad
  | _ => .bad
section
variable {X : Cx} {W : WX} {es : List Expr} {l : List Nat} {sgs : List Dt → Sg → Rs Unit} {pos : Pos}
theorem dg_unl {k n : Nat} (hc : X.calm = true) (h : DGs X W es l sgs) (hn : (assignEach es X.env).length = n := by rfl) (hst : (assignEach es X.env).findIdx? (·.1) = none := by rfl) : DG X W (.Tuple es k pos) l (gU sgs n) :=
  ⟨(pg_unl hc h.pg hn hst).imp fun v σ H Q q => by
    obtain ⟨F, ι, s, d, st, r, p⟩ := q
    unfold gU at p
    split at p
    · rename_i ds
      obtain ⟨hl, p⟩ := p.ite
      cases r with
      | lst hq rl => exact ⟨_, _, rfl, SqL.of (st.fh _ _ hq), rl.length.trans hl, F, ι, s, ds, st, rl, p⟩
    · exact p.elim⟩
end
/-! ### sorted(set(ints)) -/
def insU (a : Int) : List Int → List Int
  | [] => [a]
  | b :: bs => if a < b then a :: b :: bs else if a = b then b :: bs else b :: insU a bs
def sortU (ns : List Int) : List Int := ns.foldr insU []
theorem insU_mem {a k : Int} : ∀ {bs : List Int}, k ∈ insU a bs ↔ k = a ∨ k ∈ bs
  | [] => by simp [insU]
  | b :: bs => by
    unfold insU
    split
    · simp
    · split
      · rename_i h; subst h; simp
      · simp only [List.mem_cons, insU_mem (bs := bs)]
        constructor
        · rintro (h | h | h)
          · exact .inr (.inl h)
          · exact .inl h
          · exact .inr (.inr h)
        · rintro (h | h | h)
          · exact .inr (.inl h)
          · exact .inl h
          · exact .inr (.inr h)
theorem insU_up {a : Int} : ∀ {bs : List Int}, bs.Pairwise (· < ·) → (insU a bs).Pairwise (· < ·)
  | [], _ => by simp [insU]
  | b :: bs, h => by
    have hb := List.pairwise_cons.mp h
    unfold insU
    split
    · rename_i hab
      refine List.pairwise_cons.mpr ⟨fun k hk => ?_, h⟩
      rcases List.mem_cons.mp hk with rfl | hk
      · exact hab
      · exact Int.lt_trans hab (hb.1 k hk)
    · split
      · exact h
      · refine List.pairwise_cons.mpr ⟨fun k hk => ?_, insU_up hb.2⟩
        rcases insU_mem.mp hk with rfl | hk
        · omega
        · exact hb.1 k hk
theorem sortU_mem {k : Int} : ∀ {ns : List Int}, k ∈ sortU ns ↔ k ∈ ns
  | [] => by simp [sortU]
  | n :: ns => by
    show k ∈ insU n (sortU ns) ↔ _
    rw [insU_mem, sortU_mem (ns := ns), List.mem_cons]
theorem sortU_up : ∀ {ns : List Int}, (sortU ns).Pairwise (· < ·)
  | [] => by simp [sortU]
  | n :: ns => insU_up (sortU_up (ns := ns))
theorem up_uniq : ∀ {xs ys : List Int}, xs.Pairwise (· < ·) → ys.Pairwise (· < ·) → (∀ k, k ∈ xs ↔ k ∈ ys) → xs = ys
  | [], [], _, _, _ => rfl
  | [], y :: ys, _, _, h => by have := (h y).mpr List.mem_cons_self; simp at this
  | x :: xs, [], _, _, h => by have := (h x).mp List.mem_cons_self; simp at this
  | x :: xs, y :: ys, hx, hy, h => by
    have hx' := List.pairwise_cons.mp hx
    have hy' := List.pairwise_cons.mp hy
    have e : x = y := by
      have h1 := (h x).mp List.mem_cons_self
      have h2 := (h y).mpr List.mem_cons_self
      rcases List.mem_cons.mp h1 with e | h1
      · exact e
      · rcases List.mem_cons.mp h2 with e | h2
        · exact e.symm
        · have := hx'.1 y h2
          have := hy'.1 x h1
          omega
    subst e
    rw [up_uniq hx'.2 hy'.2 fun k => ?_]
    constructor
    · intro hk
      rcases List.mem_cons.mp ((h k).mp (List.mem_cons_of_mem _ hk)) with rfl | q
      · have := hx'.1 k hk; omega
      · exact q
    · intro hk
      rcases List.mem_cons.mp ((h k).mpr (List.mem_cons_of_mem _ hk)) with rfl | q
      · have := hy'.1 k hk; omega
      · exact q
def fSortSet (d : Dt) : Option (List Dt) := (lsOf d).bind fun ds => (intsOf ds).bind fun ns => if ns.length < 63 then some ((sortU ns).map .int) else none
def eSortSet (ga : SZ) : SE := fun s => (ga s).bind fun z s1 => optR ((vw s1 z).bind fSortSet) fun ds => .ok (.new (.lst ds)) s1
section
variable {X : Cx} {W : WX} {e : Expr} {ga : SZ} {x y : Str} {p p' pos pos' : Pos}
theorem de_sortSet (hc : X.calm = true) (hg : Gl X "sorted") (hm : X.mg "sorted" = none) (hg' : Gl X "set") (hm' : X.mg "set" = none) (ha : DZ X W e ga)
    (he : starEach [e] X.env = (false, eval e X.env) :: starEach [] X.env := by rfl) (hpl : (backTo pos (starEach [] X.env)).any (·.1) = false := by rfl)
    (he2 : starEach [.Call (.Name "set" p) [e] [] pos] X.env = (false, eval (.Call (.Name "set" p) [e] [] pos) X.env) :: starEach [] X.env := by rfl) (hpl2 : (backTo pos' (starEach [] X.env)).any (·.1) = false := by rfl) :
    DE X W (.Call (.Name "sorted" p') [.Call (.Name "set" p) [e] [] pos] [] pos') (eSortSet ga) := by
  have h1 : PE X (.Call (.Name "set" p) [e] [] pos) (tCB (rSetOfL X) (tCons (tZ X.K X.mg W ga) tNil)) :=
    pe_callTy (cr_setOfL hc) hg' hm' rfl (pa_cons ha.pe pa_nil he) (he := he) (hpl := hpl)
  refine ⟨(pe_callB (cr_sortedSet hc) hg hm rfl (pa_cons h1 pa_nil he2) (he := he2) (hpl := hpl2)).imp fun σ H Q q => ?_⟩
  obtain ⟨F, ι, s, st, q⟩ := q
  have q := q
  show tZ X.K X.mg W ga σ H _
  refine seqZ st Ext.refl q fun v z s1 F1 H1 ι1 st1 x1 r1 q1 => ?_
  obtain ⟨ds, e1, q1⟩ := q1.opt
  obtain ⟨d, e2, e1⟩ := Option.bind_eq_some_iff.mp e1
  obtain ⟨es, e3, e1⟩ := Option.bind_eq_some_iff.mp e1
  obtain ⟨ns, e4, e1⟩ := Option.bind_eq_some_iff.mp e1
  split at e1
  · rename_i hl
    cases e1
    have wx := vu_of st1 r1 e2
    obtain ⟨a, vs, rfl, hs, r⟩ := wx.lst' st1.fh e3
    refine ⟨a, ns, rfl, by rw [← intsOf_ok r e4]; exact hs, by unfold scanBound; omega, fun p n hp hn => ?_⟩
    refine ⟨p, _, n, rfl, upd_same, by omega, fun ms l hup hmem hlen hl0 => ?_⟩
    have em : ms = sortU ns := up_uniq hup sortU_up fun k => by rw [hmem, sortU_mem]; simp
    subst em
    have st2 := st1.laid (o := SetO X.w p (fun j => decide (j ∈ ns)) n) hp
    have x2 := x1.trans (Ext.laid (o := SetO X.w p (fun j => decide (j ∈ ns)) n) hp)
    refine q1 _ _ ι1 (st2.laid hl0) (x2.trans (Ext.laid hl0)) _ ⟨l, rfl, x2.free hl0, st2.fnone hl0, st2.nin hl0, (by intro z; cases z), ⟨_, upd_same, ?_⟩⟩
    exact RepL.of_ints _
  · cases e1
end
end HD
set_option maxHeartbeats 1000000
/-! HD13: a, b = x, y; and/or/not as values; small helps. -/
namespace HD
open PySem PySem.Spec PyProof.Rows L2
section
variable {X : Cx} {W : WX} {a b c e : Expr} {es rest : List Expr} {ga gb : SE} {gz : SZ} {gs : SA} {ta tb : STs} {pos : Pos}
theorem takes0 : Takes X W0 := fun u s' h => by
  obtain ⟨_, _, _, _, _, _, _, _, _, _, _, _, _, _, _, _, h⟩ := h
  exact h.elim
def sPar (i j : Nat) (gs : SA) : SS := fun s => (gs s).bind fun zs s1 => match zs with
  | [z1, z2] => .ok .nx (putS j z2 (putS i z1 s1))
  | _ => .bad
theorem ds_par {i j : Nat} {x y : Str} {px py pt : Pos} {kt k2 pt2} (hc : X.calm = true) (hN : X.N.Nodup) (hi : X.N[i]? = some x) (hj : X.N[j]? = some y) (hij : i ≠ j)
    (hx : X.env.scope.names.lookup x = some .local) (hy : X.env.scope.names.lookup y = some .local) (ha : DA X W [a, b] gs)
    (hw : swappedStores [.Tuple [.Name x px, .Name y py] kt pt] (.Tuple [a, b] k2 pt2) X.env = pure (some [x, y]))
    (hs : swapsWithSole [.Tuple [.Name x px, .Name y py] kt pt] (.Tuple [a, b] k2 pt2) pos.line X.env = pure false := by rfl) :
    DS X W (.Assign [.Tuple [.Name x px, .Name y py] kt pt] (.Tuple [a, b] k2 pt2) pos) (sPar i j gs) := ⟨(ps_par hc hN hi hj hij hx hy ha.pe hw hs).imp fun D σ H q => by
  obtain ⟨F, ι, s, st, p⟩ := q
  refine ⟨F, ι, s, st, p.bind.post.imp fun zs s1 F1 H1 ι1 st1 x1 q1 vs rv => ?_⟩
  split at q1
  · rename_i z1 z2
    match vs, rv with
    | [v, w], ⟨r1, r2, _⟩ => exact ⟨v, w, rfl, q1 F1 H1 ι1 _ ((st1.put r1).put r2) x1⟩
  · exact q1.elim⟩
def sPar3 (i j l : Nat) (gs : SA) : SS := fun s => (gs s).bind fun zs s1 => match zs with
  | [z1, z2, z3] => .ok .nx (putS l z3 (putS j z2 (putS i z1 s1)))
  | _ => .bad
theorem ds_par3 {i j l : Nat} {x y z : Str} {px py pz pt : Pos} {kt k2 pt2} (hc : X.calm = true) (hN : X.N.Nodup) (hi : X.N[i]? = some x) (hj : X.N[j]? = some y) (hl : X.N[l]? = some z) (hij : i ≠ j) (hil : i ≠ l) (hjl : j ≠ l)
    (hx : X.env.scope.names.lookup x = some .local) (hy : X.env.scope.names.lookup y = some .local) (hz : X.env.scope.names.lookup z = some .local) (ha : DA X W [a, b, c] gs)
    (hw : swappedStores [.Tuple [.Name x px, .Name y py, .Name z pz] kt pt] (.Tuple [a, b, c] k2 pt2) X.env = pure (some [x, y, z]))
    (hs : swapsWithSole [.Tuple [.Name x px, .Name y py, .Name z pz] kt pt] (.Tuple [a, b, c] k2 pt2) pos.line X.env = pure false := by rfl) :
    DS X W (.Assign [.Tuple [.Name x px, .Name y py, .Name z pz] kt pt] (.Tuple [a, b, c] k2 pt2) pos) (sPar3 i j l gs) := ⟨(ps_par3 hc hN hi hj hl hij hil hjl hx hy hz ha.pe hw hs).imp fun D σ H q => by
  obtain ⟨F, ι, s, st, p⟩ := q
  refine ⟨F, ι, s, st, p.bind.post.imp fun zs s1 F1 H1 ι1 st1 x1 q1 vs rv => ?_⟩
  split at q1
  · rename_i z1 z2 z3
    match vs, rv with
    | [u, v, w], ⟨r1, r2, r3, _⟩ => exact ⟨u, v, w, rfl, q1 F1 H1 ι1 _ (((st1.put r1).put r2).put r3) x1⟩
  · exact q1.elim⟩
/-- and, or, not as values (bools) -/
def eAn (ga : SZ) (gb : SE) : SE := fun s => (ga s).bind fun z s1 => match vw s1 z with
  | some (.bl true) => gb s1
  | some (.bl false) => .ok (.dat (.bl false)) s1
  | _ => .bad
def eOr (ga : SZ) (gb : SE) : SE := fun s => (ga s).bind fun z s1 => match vw s1 z with
  | some (.bl true) => .ok (.dat (.bl true)) s1
  | some (.bl false) => gb s1
  | _ => .bad
theorem de_one {op} (h : DE X W a ga) : DE X W (.BoolOp op [a] pos) ga := ⟨pe_one h.pe⟩
theorem de_and (ha : DZ X W a gz) (hb : DE X W (.BoolOp .And (b :: rest) pos) gb) : DE X W (.BoolOp .And (a :: b :: rest) pos) (eAn gz gb) := ⟨(pe_and ha.pe hb.pe).imp fun σ H Q q => by
  obtain ⟨F, ι, s, st, p⟩ := q
  refine seqZ st Ext.refl p fun v z1 s1 F1 H1 ι1 st1 x1 r1 q1 => ?_
  split at q1
  · rename_i e1; exact ⟨true, (vu_of st1 r1 e1).blOf, F1, ι1, s1, st1, (q1.base x1).imp fun r s2 F2 H2 ι2 st2 x2 q2 v rv => q2 v (rv.base x1)⟩
  · rename_i e1; exact ⟨false, (vu_of st1 r1 e1).blOf, q1 F1 H1 ι1 st1 x1 _ (.bl false)⟩
  · exact q1.elim⟩
theorem de_or (ha : DZ X W a gz) (hb : DE X W (.BoolOp .Or (b :: rest) pos) gb) : DE X W (.BoolOp .Or (a :: b :: rest) pos) (eOr gz gb) := ⟨(pe_or ha.pe hb.pe).imp fun σ H Q q => by
  obtain ⟨F, ι, s, st, p⟩ := q
  refine seqZ st Ext.refl p fun v z1 s1 F1 H1 ι1 st1 x1 r1 q1 => ?_
  split at q1
  · rename_i e1; exact ⟨true, (vu_of st1 r1 e1).blOf, q1 F1 H1 ι1 st1 x1 _ (.bl true)⟩
  · rename_i e1; exact ⟨false, (vu_of st1 r1 e1).blOf, F1, ι1, s1, st1, (q1.base x1).imp fun r s2 F2 H2 ι2 st2 x2 q2 v rv => q2 v (rv.base x1)⟩
  · exact q1.elim⟩
def eNo (ga : SZ) : SE := fun s => (ga s).bind fun z s1 => match vw s1 z with
  | some (.bl k) => .ok (.dat (.bl (!k))) s1
  | _ => .bad
theorem de_notV (ha : DZ X W a gz) : DE X W (.UnaryOp .Not a pos) (eNo gz) := ⟨(pe_not ha.pe).imp fun σ H Q q => by
  obtain ⟨F, ι, s, st, p⟩ := q
  refine seqZ st Ext.refl p fun v z1 s1 F1 H1 ι1 st1 x1 r1 q1 => ?_
  split at q1
  · rename_i k e1; exact ⟨k, (vu_of st1 r1 e1).blOf, q1 F1 H1 ι1 st1 x1 _ (.bl (!k))⟩
  · exact q1.elim⟩
end
end HD
set_option maxHeartbeats 1000000
/-! HD14: what the printed terms use. -/
namespace HD
open PySem PySem.Spec PyProof.Rows L2
/-- a def that may be called by its name -/
structure CalD (P : Program) (w : World) (K : PySem.W.Frag) (mg : Str → Option Value) (base : Heap) (k : Nat) (x : Str) (n : Nat) (m : Mir) : Prop where
  ex : ∃ (f : Addr) (fd : FuncData) (ps : List Str), FnG P w K mg base k f fd ps (spD K mg n m) ∧ mg x = some (.ref f) ∧ PySem.W.keepIn K (.ref f) = true ∧ Binds K fd ps []
theorem hu64 {k : Nat} {A : Around} (r : Room k A) : A.units + 64 < cLine := by have := r.un; omega
abbrev cxD (P : Program) (w : World) (K : PySem.W.Frag) (mg : Str → Option Value) (base : Heap) (N : List Str) (qual : Str) (st : Stmt) (f : Addr) (cdv : Value) (A : Around) (outer : List Env) (s : Shared) (H : Hp) (E : XK) : Cx := cxOf (CX P w) P w K mg base N qual (defScope st) f cdv A outer s H E
abbrev wE (E : XK) : WX := fun cls d _ H => E cls d H
theorem cal_d {P : Program} {w : World} {K : PySem.W.Frag} {mg : Str → Option Value} {base : Heap} {x qual : Str} {st : Stmt} {f : Addr} {fd : FuncData} {N ps : List Str} {k : Nat} {body : SS} (F : Fun K x qual st f fd) (hm : mg x = some (.ref f)) (hb : Binds K fd ps []) (sc : FnScope N ps (defScope st))
    (h : ∀ (cdv : Value) (A : Around) (outer : List Env) (s : Shared) (H : Hp) (E : XK), (cxD P w K mg base N qual st f cdv A outer s H E).A.guards = some [] → Room k (cxD P w K mg base N qual st f cdv A outer s H E).A → (cxD P w K mg base N qual st f cdv A outer s H E).A.units + 64 < cLine →
      Takes (cxD P w K mg base N qual st f cdv A outer s H E) (wE E) → PassesOwn (model P w) (cxD P w K mg base N qual st f cdv A outer s H E).A (cxD P w K mg base N qual st f cdv A outer s H E).env (cxD P w K mg base N qual st f cdv A outer s H E).xe →
      DB (cxD P w K mg base N qual st f cdv A outer s H E) (wE E) (defBody st) body) :
    CalD P w K mg base (k + 1) x ps.length (mkM N.length body) :=
  ⟨f, fd, ps, fn_d F sc fun cdv A outer s H E hg hr => h cdv A outer s H E hg hr (hu64 hr) (takes_of rfl rfl rfl rfl) (passes_of rfl), hm, F.kp, hb⟩
theorem fnl_d {P : Program} {w : World} {K : PySem.W.Frag} {mg : Str → Option Value} {base : Heap} {x qual : Str} {st : Stmt} {f : Addr} {fd : FuncData} {N ps : List Str} {k : Nat} {body : SS} (F : Fun K x qual st f fd) (sc : FnScope N ps (defScope st))
    (h : ∀ (cdv : Value) (A : Around) (outer : List Env) (s : Shared) (H : Hp) (E : XK), (cxD P w K mg base N qual st f cdv A outer s H E).A.guards = some [] → Room k (cxD P w K mg base N qual st f cdv A outer s H E).A → (cxD P w K mg base N qual st f cdv A outer s H E).A.units + 64 < cLine →
      Takes (cxD P w K mg base N qual st f cdv A outer s H E) (wE E) → PassesOwn (model P w) (cxD P w K mg base N qual st f cdv A outer s H E).A (cxD P w K mg base N qual st f cdv A outer s H E).env (cxD P w K mg base N qual st f cdv A outer s H E).xe →
      DB (cxD P w K mg base N qual st f cdv A outer s H E) (wE E) (defBody st) body) :
    FnG P w K mg base (k + 1) f fd ps (spD K mg ps.length (mkM N.length body)) :=
  fn_d F sc fun cdv A outer s H E hg hr => h cdv A outer s H E hg hr (hu64 hr) (takes_of rfl rfl rfl rfl) (passes_of rfl)
section
variable {X : Cx} {W : WX} {k n : Nat} {m : Mir} {x : Str} {p pos : Pos} {e : Expr} {es : List Expr} {gs : SA}
theorem de_cal (C : CalD X.prog X.w X.K X.mg X.base k x n m) (hgd : X.A.guards = some []) (hr : Room k X.A) (tk : Takes X W) (ha : DA X W (e :: es) gs) (hg : Gl X x := by rfl)
    (hdb : (x == ("__debug__" : Str)) = false := by decide) (he : starEach (e :: es) X.env = (false, eval e X.env) :: starEach es X.env := by rfl) (hpl : (backTo pos (starEach es X.env)).any (·.1) = false := by rfl) :
    DE X W (.Call (.Name x p) (e :: es) [] pos) (eCall n m gs) := by
  obtain ⟨f, fd, ps, F, hm, hk, hb⟩ := C.ex
  exact de_call F hgd hr hg hm hk hb tk ha hdb he hpl
theorem dv (i : Nat) {x : Str} {pos : Pos} (hN : X.N[i]? = some x := by rfl) (hv : Vis X.env.scope x := by first | exact Or.inl rfl | exact Or.inr (Or.inl rfl) | exact Or.inr (Or.inr rfl)) (hd : (x == ("__debug__" : Str)) = false := by decide)
    (hcd : (x == ("__classdict__" : Str)) = false := by decide) : DE X W (.Name x pos) (eV i) := de_var hN hv hd hcd
end
end HD
set_option maxHeartbeats 1000000
/-! HP1: running a mirror by simp. -/
namespace HD
open PySem PySem.Spec PyProof.Rows L2
theorem mkM_ok {n : Nat} {b : SS} {zs : List Zv} {os : List Ob} {d : Dt} {s : Sg} (h : b ⟨zs.map some ++ List.replicate (n - zs.length) none, os⟩ = .ok (.rt (.dat d)) s) : mkM n b zs os = .ok (.dat d) (s.ob.take os.length) := by
  unfold mkM; rw [h]; rfl
/-! facts on ints -/
theorem bits_le {i : Int} {k : Nat} (h : i.natAbs < 2 ^ k) : Builtin.Int.intBits i ≤ k := by
  unfold Builtin.Int.intBits
  split
  · omega
  · rename_i h0
    have hz : i.natAbs ≠ 0 := by
      intro e
      have : i = 0 := by omega
      subst this
      simp at h0
    have := (Nat.log2_lt hz).mpr h
    omega
theorem mulOk_r {i j : Int} (h : j.natAbs < 2 ^ 64) : mulOk i j = true := by
  have := bits_le h
  unfold mulOk shortFactorBits
  have e : decide (Builtin.Int.intBits j > 64) = false := decide_eq_false (by omega)
  rw [e]
  simp
theorem mulOk_l {i j : Int} (h : i.natAbs < 2 ^ 64) : mulOk i j = true := by
  have := bits_le h
  unfold mulOk shortFactorBits
  have e : decide (Builtin.Int.intBits i > 64) = false := decide_eq_false (by omega)
  rw [e]
  simp
theorem mulOk_ite {i : Int} {c : Prop} [Decidable c] : mulOk i (if c then 1 else 0) = true := by
  split
  · exact mulOk_r (by decide)
  · exact mulOk_r (by decide)
theorem divOk_of {j : Int} (h0 : 0 < j) (h : j < 2 ^ 200) : divOk j = true := by
  unfold divOk
  have h1 : j.natAbs ≠ 0 := by omega
  have h2 : j.natAbs < 2 ^ 9000 := by
    have : j.natAbs < 2 ^ 200 := by omega
    exact Nat.lt_of_lt_of_le this (Nat.pow_le_pow_right (by decide) (by decide))
  have h3 := (Nat.log2_lt h1).mpr h2
  simp [h3]
  omega
theorem atI_nat {ds : List Dt} {k : Nat} : atI ds (k : Int) = ds[k]? := by
  unfold atI ixN
  by_cases h : k < ds.length
  · have h1 : (k : Int) < (ds.length : Int) := by omega
    have h0 : (0 : Int) ≤ (k : Int) := by omega
    rw [if_pos h0, if_pos h1]
    simp
  · have h1 : ¬ (k : Int) < (ds.length : Int) := by omega
    have h0 : (0 : Int) ≤ (k : Int) := by omega
    rw [if_pos h0, if_neg h1]
    rw [List.getElem?_eq_none (by omega)]
    rfl
/-! loops -/
theorem forL_inv {sg : SG} {body : SS} (I : List Dt → Sg → Prop) (stp : ∀ d ds s, I (d :: ds) s → ∃ s1 fl s2, sg d s = .ok () s1 ∧ body s1 = .ok fl s2 ∧ (fl = .nx ∨ fl = .ct) ∧ I ds s2) : ∀ (ds : List Dt) (s : Sg), I ds s → ∃ s', forL sg body ds s = .ok .nx s' ∧ I [] s'
  | [], s, h => ⟨s, rfl, h⟩
  | d :: ds, s, h => by
    obtain ⟨s1, fl, s2, e1, e2, e3, h2⟩ := stp d ds s h
    obtain ⟨s', e4, h3⟩ := forL_inv I stp ds s2 h2
    refine ⟨s', ?_, h3⟩
    unfold forL
    rw [e1]
    show (body s1).bind _ = _
    rw [e2]
    rcases e3 with rfl | rfl
    · exact e4
    · exact e4
theorem compL_inv {sg : SG} {t : STs} {ga : SZ} {vs : List Nat} {sl : List (Option Zv)} (J : List Ob → Prop) (P : Dt → Prop)
    (stp : ∀ d ob, J ob → ∃ s1 s2 e s3, sg d ⟨wipeS sl vs, ob⟩ = .ok () s1 ∧ t s1 = .ok true s2 ∧ ga s2 = .ok (.dat e) s3 ∧ P e ∧ J s3.ob) : ∀ (ds acc : List Dt) (s : Sg), acc.length + ds.length ≤ sizeLine → J s.ob → ∃ es s', compL sg t ga vs sl ds acc s = .ok (acc ++ es) s' ∧ (∀ e ∈ es, P e) ∧ es.length = ds.length ∧ J s'.ob
  | [], acc, s, _, h => ⟨[], s, by simp [compL], by simp, rfl, h⟩
  | d :: ds, acc, s, hl, h => by
    obtain ⟨s1, s2, e, s3, e1, e2, e3, p, h3⟩ := stp d s.ob h
    have hl2 : (acc ++ [e]).length + ds.length ≤ sizeLine := by simp only [List.length_append, List.length_cons, List.length_nil] at hl ⊢; omega
    obtain ⟨es, s', e4, h4, h5, h6⟩ := compL_inv J P stp ds (acc ++ [e]) s3 hl2 h3
    refine ⟨e :: es, s', ?_, ?_, by simp [h5], h6⟩
    · have hl3 : acc.length < sizeLine := by simp only [List.length_cons] at hl; omega
      simp [compL, e1, e2, e3, Rs.noErr, Rs.bind, hl3, e4]
    · intro x hx
      rcases List.mem_cons.mp hx with rfl | hx
      · exact p
      · exact h4 x hx
end HD
set_option maxHeartbeats 4000000
namespace HD
namespace L
open PySem PySem.Spec PyProof.Rows L2
def top (i : Nat) : Stmt := PySem.Challenge.pw_frugaltape_k82_cheapest_ways.main.body.getD i (.Pass ⟨0, 0, 0, 0⟩)
section
variable {P : Program} {w : World} {K : PySem.W.Frag} {mg : Str → Option Value} {base : Heap}
/-! ### _law_stream -/
def b_q_law_stream : SS := (sQ (sSet 2 (zE (eC (.int 0))))
    (sQ (sIf (tV' (bin fLt (zE (eV 1)) (zE (cB fLen (aC (zE (eV 0)) aN))))) (sSet 2 (zE (bin fIx (zE (eV 0)) (zE (eV 1))))) sN)
    (sQ (sSet 3 (zE (cB fMax2 (aC (zE (eV 2)) (aC (zE (bin fSub (zE (una fNeg (zE (eC (.int 1))))) (zE (eV 2)))) aN)))))
    (sQ (sSet 4 (zE (bin fMod (zE (bin fMul (zE (bin fAdd (zE (bin fAdd (zE (bin fAdd (zE (bin fMod (zE (eV 3)) (zE (eC (.int 2147483629))))) (zE (bin fMul (zE (bin fMul (zE (eC (.int 7919))) (zE (eV 1)))) (zE (eV 1)))))) (zE (bin fMul (zE (eC (.int 31))) (zE (eV 1)))))) (zE (eC (.int 17))))) (zE (eC (.int 48271))))) (zE (eC (.int 2147483647))))))
    (sRt (eL (aC (zE (bin fMul (zE (eV 3)) (zE (cB fInt (aC (zE (bin fGe (zE (eV 3)) (zE (bin fPow (zE (eC (.int 10))) (zE (eC (.int 18))))))) aN))))) (aC (zE (eV 4)) aN))))))))
def m_q_law_stream : Mir := mkM 5 b_q_law_stream
abbrev s_q_law_stream : Stmt := top 12
theorem sc_q_law_stream : FnScope ["script", "k", "cell", "size", "mixed"] ["script", "k"] (defScope s_q_law_stream) := ⟨rfl, rfl, rfl, by decide +kernel, rfl, by decide +kernel, by decide +kernel⟩
theorem g_q_law_stream {f : Addr} {fd : FuncData} (F : Fun K "_law_stream" "_law_stream" s_q_law_stream f fd) (hm : mg "_law_stream" = some (.ref f)) (hb : Binds K fd ["script", "k"] []) (z_len : mg "len" = none) (z_max : mg "max" = none) (z_int : mg "int" = none) : CalD P w K mg base 1 "_law_stream" 2 m_q_law_stream :=
  cal_d F hm hb sc_q_law_stream fun cdv A outer s H E hg hr hu tk hp =>
    (db_cons (ds_set (i := 2) sc_q_law_stream.nd rfl (Or.inl rfl) (DE.z de_int))
    (db_cons (ds_if (dt_cmp op_ltD d_lt (DE.z (dv 1)) (DE.z (de_callB call_len d_len rfl z_len rfl (da_cons (DE.z (dv 0)) da_nil))) (nomark _)) (db_one (ds_set (i := 2) sc_q_law_stream.nd rfl (Or.inl rfl) (DE.z (de_ix ix_seq d_ix (DE.z (dv 0)) (DE.z (dv 1)) (fun _ _ => rfl))))) db_nil)
    (db_cons (ds_set (i := 3) sc_q_law_stream.nd rfl (Or.inl rfl) (DE.z (de_callB (call_max2 rfl) d_max2 rfl z_max rfl (da_cons (DE.z (dv 2)) (da_cons (DE.z (de_bin op_sub d_sub (DE.z (de_un un_neg d_neg (DE.z de_int))) (DE.z (dv 2)))) da_nil)))))
    (db_cons (ds_set (i := 4) sc_q_law_stream.nd rfl (Or.inl rfl) (DE.z (de_bin op_modN d_mod (DE.z (de_bin op_mulD d_mul (DE.z (de_bin op_addD d_add (DE.z (de_bin op_addD d_add (DE.z (de_bin op_addD d_add (DE.z (de_bin op_modN d_mod (DE.z (dv 3)) (DE.z de_int))) (DE.z (de_bin op_mulD d_mul (DE.z (de_bin op_mulD d_mul (DE.z de_int) (DE.z (dv 1)))) (DE.z (dv 1)))))) (DE.z (de_bin op_mulD d_mul (DE.z de_int) (DE.z (dv 1)))))) (DE.z de_int))) (DE.z de_int))) (DE.z de_int))))
    (db_one (ds_ret (de_lst (da_cons (DE.z (de_bin op_mulD d_mul (DE.z (dv 3)) (DE.z (de_callTy call_int1 d_int rfl z_int rfl (da_cons (DE.z (de_cmp op_ge d_ge (DE.z (dv 3)) (DE.z (de_bin op_pow d_pow (DE.z de_int) (DE.z de_int))) (nomark _))) da_nil))))) (da_cons (DE.z (dv 4)) da_nil)))))))))
/-! ### _law_draw -/
def b_q_law_draw : SS := (sQ (sIf (tV' (bin fGt (zE (bin fIx (zE (eV 0)) (zE (eC (.int 0))))) (zE (eC (.int 0))))) (sQ (sSet 2 (zE (bin fMod (zE (bin fIx (zE (eV 0)) (zE (eC (.int 0))))) (zE (eV 1)))))
    (sQ (sSetIx (zE (bin fDiv (zE (bin fIx (zE (eV 0)) (zE (eC (.int 0))))) (zE (eV 1)))) (zE (eV 0)) (zE (eC (.int 0))))
    (sRt (eV 2)))) sN)
    (sQ (sSetIx (zE (bin fMod (zE (bin fAdd (zE (bin fMul (zE (bin fIx (zE (eV 0)) (zE (eC (.int 1))))) (zE (eC (.int 69621))))) (zE (eC (.int 7))))) (zE (eC (.int 2147483647))))) (zE (eV 0)) (zE (eC (.int 1))))
    (sRt (bin fMod (zE (bin fDiv (zE (bin fMod (zE (bin fMul (zE (bin fIx (zE (eV 0)) (zE (eC (.int 1))))) (zE (bin fIx (zE (eV 0)) (zE (eC (.int 1))))))) (zE (eC (.int 2147483629))))) (zE (eC (.int 32))))) (zE (eV 1))))))
def m_q_law_draw : Mir := mkM 3 b_q_law_draw
abbrev s_q_law_draw : Stmt := top 13
theorem sc_q_law_draw : FnScope ["stream", "count", "result"] ["stream", "count"] (defScope s_q_law_draw) := ⟨rfl, rfl, rfl, by decide +kernel, rfl, by decide +kernel, by decide +kernel⟩
theorem g_q_law_draw {f : Addr} {fd : FuncData} (F : Fun K "_law_draw" "_law_draw" s_q_law_draw f fd) (hm : mg "_law_draw" = some (.ref f)) (hb : Binds K fd ["stream", "count"] []) : CalD P w K mg base 1 "_law_draw" 2 m_q_law_draw :=
  cal_d F hm hb sc_q_law_draw fun cdv A outer s H E hg hr hu tk hp =>
    (db_cons (ds_if (dt_cmp op_gt d_gt (DE.z (de_ix ix_seq d_ix (DE.z (dv 0)) (DE.z de_int) (fun _ _ => rfl))) (DE.z de_int) (nomark _)) (db_cons (ds_set (i := 2) sc_q_law_draw.nd rfl (Or.inl rfl) (DE.z (de_bin op_modN d_mod (DE.z (de_ix ix_seq d_ix (DE.z (dv 0)) (DE.z de_int) (fun _ _ => rfl))) (DE.z (dv 1)))))
    (db_cons (ds_setIx (DE.z (de_bin op_fdivD d_div (DE.z (de_ix ix_seq d_ix (DE.z (dv 0)) (DE.z de_int) (fun _ _ => rfl))) (DE.z (dv 1)))) (DE.z (dv 0)) (DE.z de_int))
    (db_one (ds_ret (dv 2))))) db_nil)
    (db_cons (ds_setIx (DE.z (de_bin op_modN d_mod (DE.z (de_bin op_addD d_add (DE.z (de_bin op_mulD d_mul (DE.z (de_ix ix_seq d_ix (DE.z (dv 0)) (DE.z de_int) (fun _ _ => rfl))) (DE.z de_int))) (DE.z de_int))) (DE.z de_int))) (DE.z (dv 0)) (DE.z de_int))
    (db_one (ds_ret (de_bin op_modN d_mod (DE.z (de_bin op_fdivD d_div (DE.z (de_bin op_modN d_mod (DE.z (de_bin op_mulD d_mul (DE.z (de_ix ix_seq d_ix (DE.z (dv 0)) (DE.z de_int) (fun _ _ => rfl))) (DE.z (de_ix ix_seq d_ix (DE.z (dv 0)) (DE.z de_int) (fun _ _ => rfl))))) (DE.z de_int))) (DE.z de_int))) (DE.z (dv 1)))))))
/-! ### _law_choose -/
def b_q_law_choose : SS := (sRt (bin fIx (zE (eV 1)) (zE (eCall 2 m_q_law_draw (aC (zE (eV 0)) (aC (zE (cB fLen (aC (zE (eV 1)) aN))) aN))))))
def m_q_law_choose : Mir := mkM 2 b_q_law_choose
abbrev s_q_law_choose : Stmt := top 14
theorem sc_q_law_choose : FnScope ["stream", "some"] ["stream", "some"] (defScope s_q_law_choose) := ⟨rfl, rfl, rfl, by decide +kernel, rfl, by decide +kernel, by decide +kernel⟩
theorem g_q_law_choose {f : Addr} {fd : FuncData} (F : Fun K "_law_choose" "_law_choose" s_q_law_choose f fd) (hm : mg "_law_choose" = some (.ref f)) (hb : Binds K fd ["stream", "some"] []) (z_len : mg "len" = none) (c_q_law_draw : CalD P w K mg base 1 "_law_draw" 2 m_q_law_draw) : CalD P w K mg base 2 "_law_choose" 2 m_q_law_choose :=
  cal_d F hm hb sc_q_law_choose fun cdv A outer s H E hg hr hu tk hp =>
    (db_one (ds_ret (de_ix ix_seq d_ix (DE.z (dv 1)) (DE.z (de_cal c_q_law_draw hg (hr.mono (by decide)) tk (da_cons (DE.z (dv 0)) (da_cons (DE.z (de_callB call_len d_len rfl z_len rfl (da_cons (DE.z (dv 1)) da_nil))) da_nil)))) (fun _ _ => rfl))))
/-! ### _law_steps -/
def b_q_law_steps : SS := (sQ (sSet 1 (zE (eCall 2 m_q_law_choose (aC (zE (eV 0)) (aC (zE (eL (aC (zE (eC (.int 12))) (aC (zE (eC (.int 40))) (aC (zE (bin fPow (zE (eC (.int 10))) (zE (eC (.int 30))))) aN))))) aN)))))
    (sRt (eL (aC (zE (eCall 2 m_q_law_draw (aC (zE (eV 0)) (aC (zE (eV 1)) aN)))) (aC (zE (eCall 2 m_q_law_draw (aC (zE (eV 0)) (aC (zE (eV 1)) aN)))) (aC (zE (eSortSet (zE (eLc (iR1 (aC (zE (eC (.int 8))) aN)) (gN 2) tY (zE (eCall 2 m_q_law_draw (aC (zE (eV 0)) (aC (zE (eV 1)) aN)))) [2])))) aN))))))
def m_q_law_steps : Mir := mkM 3 b_q_law_steps
abbrev s_q_law_steps : Stmt := top 15
theorem sc_q_law_steps : FnScope ["stream", "far", "k"] ["stream"] (defScope s_q_law_steps) := ⟨rfl, rfl, rfl, by decide +kernel, rfl, by decide +kernel, by decide +kernel⟩
theorem g_q_law_steps {f : Addr} {fd : FuncData} (F : Fun K "_law_steps" "_law_steps" s_q_law_steps f fd) (hm : mg "_law_steps" = some (.ref f)) (hb : Binds K fd ["stream"] []) (z_range : mg "range" = none) (z_sorted : mg "sorted" = none) (z_set : mg "set" = none) (c_q_law_choose : CalD P w K mg base 2 "_law_choose" 2 m_q_law_choose) (c_q_law_draw : CalD P w K mg base 1 "_law_draw" 2 m_q_law_draw) : CalD P w K mg base 3 "_law_steps" 1 m_q_law_steps :=
  cal_d F hm hb sc_q_law_steps fun cdv A outer s H E hg hr hu tk hp =>
    (db_cons (ds_set (i := 1) sc_q_law_steps.nd rfl (Or.inr rfl) (DE.z (de_cal c_q_law_choose hg (hr.mono (by decide)) tk (da_cons (DE.z (dv 0)) (da_cons (DE.z (de_lst (da_cons (DE.z de_int) (da_cons (DE.z de_int) (da_cons (DE.z (de_bin op_pow d_pow (DE.z de_int) (DE.z de_int))) da_nil))))) da_nil)))))
    (db_one (ds_ret (de_lst (da_cons (DE.z (de_cal c_q_law_draw hg (hr.mono (by decide)) tk (da_cons (DE.z (dv 0)) (da_cons (DE.z (dv 1)) da_nil)))) (da_cons (DE.z (de_cal c_q_law_draw hg (hr.mono (by decide)) tk (da_cons (DE.z (dv 0)) (da_cons (DE.z (dv 1)) da_nil)))) (da_cons (DE.z (de_sortSet rfl rfl z_sorted rfl z_set (DE.z (by exact de_lc (own := [("k", 2)]) rfl sc_q_law_steps.nd (di_range1 rfl z_range (da_cons (DE.z de_int) da_nil)) (blkOk_by (N := ["stream", "far", "k"]) (sc := defScope s_q_law_steps) (own := [("k", 2)]) (by decide +kernel)) (fun _ _ _ _ _ => (dg_name (i := 2) sc_q_law_steps.nd rfl (Or.inl rfl))) dtb_nil (fun _ _ _ _ _ => (DE.z (de_cal c_q_law_draw hg (hr.mono (by decide)) takes0 (da_cons (DE.z (dv 0)) (da_cons (DE.z (dv 1)) da_nil))))) (by decide))))) da_nil)))))))
/-! ### is_integer -/
def b_is_integer : SS := (sRt (eAn (zE (una (fIsi "int") (zE (eV 0)))) (eNo (zE (una (fIsi "bool") (zE (eV 0)))))))
def m_is_integer : Mir := mkM 1 b_is_integer
abbrev s_is_integer : Stmt := top 1
theorem sc_is_integer : FnScope ["candidate"] ["candidate"] (defScope s_is_integer) := ⟨rfl, rfl, rfl, by decide +kernel, rfl, by decide +kernel, by decide +kernel⟩
theorem g_is_integer {f : Addr} {fd : FuncData} (F : Fun K "is_integer" "is_integer" s_is_integer f fd) (hm : mg "is_integer" = some (.ref f)) (hb : Binds K fd ["candidate"] []) (z_isinstance : mg "isinstance" = none) (z_bool : mg "bool" = none) (z_int : mg "int" = none) : CalD P w K mg base 1 "is_integer" 1 m_is_integer :=
  cal_d F hm hb sc_is_integer fun cdv A outer s H E hg hr hu tk hp =>
    (db_one (ds_ret (de_and (DE.z (de_isi (TT := "int") rfl rfl z_isinstance rfl z_int (.ty _) (DE.z (dv 0)))) (de_one (de_notV (DE.z (de_isi (TT := "bool") rfl rfl z_isinstance rfl z_bool (.ty _) (DE.z (dv 0)))))))))
/-! ### is_count -/
def b_is_count : SS := (sRt (eAn (zE (eCall 1 m_is_integer (aC (zE (eV 0)) aN))) (bin fGe (zE (eV 0)) (zE (eC (.int 0))))))
def m_is_count : Mir := mkM 1 b_is_count
abbrev s_is_count : Stmt := top 2
theorem sc_is_count : FnScope ["candidate"] ["candidate"] (defScope s_is_count) := ⟨rfl, rfl, rfl, by decide +kernel, rfl, by decide +kernel, by decide +kernel⟩
theorem g_is_count {f : Addr} {fd : FuncData} (F : Fun K "is_count" "is_count" s_is_count f fd) (hm : mg "is_count" = some (.ref f)) (hb : Binds K fd ["candidate"] []) (c_is_integer : CalD P w K mg base 1 "is_integer" 1 m_is_integer) : CalD P w K mg base 2 "is_count" 1 m_is_count :=
  cal_d F hm hb sc_is_count fun cdv A outer s H E hg hr hu tk hp =>
    (db_one (ds_ret (de_and (DE.z (de_cal c_is_integer hg (hr.mono (by decide)) tk (da_cons (DE.z (dv 0)) da_nil))) (de_one (de_cmp op_ge d_ge (DE.z (dv 0)) (DE.z de_int) (nomark _))))))
/-! ### check_step -/
def b_check_step : SS := (sIf (tN (tV (zE (eCall 1 m_is_count (aC (zE (eV 0)) aN))))) sBad sN)
def m_check_step : Mir := mkM 1 b_check_step
abbrev s_check_step : Stmt := top 8
theorem sc_check_step : FnScope ["step"] ["step"] (defScope s_check_step) := ⟨rfl, rfl, rfl, by decide +kernel, rfl, by decide +kernel, by decide +kernel⟩
theorem g_check_step {f : Addr} {fd : FuncData} (F : Fun K "check_step" "check_step" s_check_step f fd) (hm : mg "check_step" = some (.ref f)) (hb : Binds K fd ["step"] []) (c_is_count : CalD P w K mg base 2 "is_count" 1 m_is_count) : CalD P w K mg base 3 "check_step" 1 m_check_step :=
  cal_d F hm hb sc_check_step fun cdv A outer s H E hg hr hu tk hp =>
    (db_one (ds_if (dt_not (dt_val (DE.z (de_cal c_is_count hg (hr.mono (by decide)) tk (da_cons (DE.z (dv 0)) da_nil))))) (db_one ds_bad) db_nil))
/-! ### check_ascending -/
def l_check_ascending_1 : SS := (sQ (sEx (eCall 1 m_check_step (aC (zE (eV 2)) aN)))
    (sQ (sIf (tV' (bin fLe (zE (eV 2)) (zE (eV 1)))) sBad sN)
    (sSet 1 (zE (eV 2)))))
def b_check_ascending : SS := (sQ (sIf (tN (tV (zE (una (fIsi "list") (zE (eV 0)))))) sBad sN)
    (sQ (sSet 1 (zE (una fNeg (zE (eC (.int 1))))))
    (sFor (iS (zE (eV 0))) (gN 2) l_check_ascending_1)))
def m_check_ascending : Mir := mkM 3 b_check_ascending
abbrev s_check_ascending : Stmt := top 9
theorem sc_check_ascending : FnScope ["steps", "before", "step"] ["steps"] (defScope s_check_ascending) := ⟨rfl, rfl, rfl, by decide +kernel, rfl, by decide +kernel, by decide +kernel⟩
theorem g_check_ascending {f : Addr} {fd : FuncData} (F : Fun K "check_ascending" "check_ascending" s_check_ascending f fd) (hm : mg "check_ascending" = some (.ref f)) (hb : Binds K fd ["steps"] []) (z_isinstance : mg "isinstance" = none) (z_list : mg "list" = none) (c_check_step : CalD P w K mg base 3 "check_step" 1 m_check_step) : CalD P w K mg base 4 "check_ascending" 1 m_check_ascending :=
  cal_d F hm hb sc_check_ascending fun cdv A outer s H E hg hr hu tk hp =>
    (db_cons (ds_if (dt_not (dt_val (DE.z (de_isi (TT := "list") rfl rfl z_isinstance rfl z_list (.ty _) (DE.z (dv 0)))))) (db_one ds_bad) db_nil)
    (db_cons (ds_set (i := 1) sc_check_ascending.nd rfl (Or.inl rfl) (DE.z (de_un un_neg d_neg (DE.z de_int))))
    (db_one (ds_for hp rfl (di_seq (DE.z (dv 0))) (dg_name (i := 2) sc_check_ascending.nd rfl (Or.inl rfl)) (db_cons (ds_expr (de_cal c_check_step hg (hr.mono (by decide)) tk (da_cons (DE.z (dv 2)) da_nil)))
    (db_cons (ds_if (dt_cmp op_le d_le (DE.z (dv 2)) (DE.z (dv 1)) (nomark _)) (db_one ds_bad) db_nil)
    (db_one (ds_set (i := 1) sc_check_ascending.nd rfl (Or.inl rfl) (DE.z (dv 2))))))))))
/-! ### cheapest -/
def l_cheapest_1 : SS := (sIf (tV' (bin fLt (zE (bin fAdd (zE (eV 3)) (zE (cB fAbs (aC (zE (bin fSub (zE (eV 6)) (zE (eV 1)))) aN))))) (zE (eV 4)))) (sPar 4 5 (aC (zE (bin fAdd (zE (eV 3)) (zE (cB fAbs (aC (zE (bin fSub (zE (eV 6)) (zE (eV 1)))) aN))))) (aC (zE (eV 6)) aN))) sN)
def b_cheapest : SS := (sQ (sEx (eCall 1 m_check_step (aC (zE (eV 0)) aN)))
    (sQ (sEx (eCall 1 m_check_step (aC (zE (eV 1)) aN)))
    (sQ (sEx (eCall 1 m_check_ascending (aC (zE (eV 2)) aN)))
    (sQ (sIf (tN (tV (zE (eCall 1 m_is_count (aC (zE (eV 3)) aN))))) sBad sN)
    (sQ (sPar 4 5 (aC (zE (cB fAbs (aC (zE (bin fSub (zE (eV 0)) (zE (eV 1)))) aN))) (aC (zE (eC .non)) aN)))
    (sQ (sFor (iS (zE (eV 2))) (gN 6) l_cheapest_1)
    (sRt (eT (aC (zE (eV 4)) (aC (zE (eV 5)) aN))))))))))
def m_cheapest : Mir := mkM 7 b_cheapest
abbrev s_cheapest : Stmt := top 10
theorem sc_cheapest : FnScope ["present", "target", "kept", "jump", "cost", "start", "step"] ["present", "target", "kept", "jump"] (defScope s_cheapest) := ⟨rfl, rfl, rfl, by decide +kernel, rfl, by decide +kernel, by decide +kernel⟩
theorem g_cheapest {f : Addr} {fd : FuncData} (F : Fun K "cheapest" "cheapest" s_cheapest f fd) (hm : mg "cheapest" = some (.ref f)) (hb : Binds K fd ["present", "target", "kept", "jump"] []) (z_abs : mg "abs" = none) (c_check_step : CalD P w K mg base 3 "check_step" 1 m_check_step) (c_check_ascending : CalD P w K mg base 4 "check_ascending" 1 m_check_ascending) (c_is_count : CalD P w K mg base 2 "is_count" 1 m_is_count) : CalD P w K mg base 5 "cheapest" 4 m_cheapest :=
  cal_d F hm hb sc_cheapest fun cdv A outer s H E hg hr hu tk hp =>
    (db_cons (ds_expr (de_cal c_check_step hg (hr.mono (by decide)) tk (da_cons (DE.z (dv 0)) da_nil)))
    (db_cons (ds_expr (de_cal c_check_step hg (hr.mono (by decide)) tk (da_cons (DE.z (dv 1)) da_nil)))
    (db_cons (ds_expr (de_cal c_check_ascending hg (hr.mono (by decide)) tk (da_cons (DE.z (dv 2)) da_nil)))
    (db_cons (ds_if (dt_not (dt_val (DE.z (de_cal c_is_count hg (hr.mono (by decide)) tk (da_cons (DE.z (dv 3)) da_nil))))) (db_one ds_bad) db_nil)
    (db_cons (ds_par (i := 4) (j := 5) rfl sc_cheapest.nd rfl rfl (by decide) rfl rfl (da_cons (DE.z (de_callB call_abs d_abs rfl z_abs rfl (da_cons (DE.z (de_bin op_sub d_sub (DE.z (dv 0)) (DE.z (dv 1)))) da_nil))) (da_cons (DE.z de_non) da_nil)) rfl)
    (db_cons (ds_for hp rfl (di_seq (DE.z (dv 2))) (dg_name (i := 6) sc_cheapest.nd rfl (Or.inl rfl)) (db_one (ds_if (dt_cmp op_ltD d_lt (DE.z (de_bin op_addD d_add (DE.z (dv 3)) (DE.z (de_callB call_abs d_abs rfl z_abs rfl (da_cons (DE.z (de_bin op_sub d_sub (DE.z (dv 6)) (DE.z (dv 1)))) da_nil))))) (DE.z (dv 4)) (nomark _)) (db_one (ds_par (i := 4) (j := 5) rfl sc_cheapest.nd rfl rfl (by decide) rfl rfl (da_cons (DE.z (de_bin op_addD d_add (DE.z (dv 3)) (DE.z (de_callB call_abs d_abs rfl z_abs rfl (da_cons (DE.z (de_bin op_sub d_sub (DE.z (dv 6)) (DE.z (dv 1)))) da_nil))))) (da_cons (DE.z (dv 6)) da_nil)) rfl)) db_nil)))
    (db_one (ds_ret (de_tup (da_cons (DE.z (dv 4)) (da_cons (DE.z (dv 5)) da_nil)))))))))))
/-! ### _law_due -/
def l_q_law_due_1 : SS := (sSet 4 (zE (cB fMinP (aC (zE (eV 4)) (aC (zE (eT (aC (zE (bin fAdd (zE (eV 3)) (zE (cB fAbs (aC (zE (bin fSub (zE (eV 5)) (zE (eV 1)))) aN))))) (aC (zE (eV 5)) aN)))) aN)))))
def b_q_law_due : SS := (sQ (sSet 4 (zE (eT (aC (zE (cB fAbs (aC (zE (bin fSub (zE (eV 0)) (zE (eV 1)))) aN))) (aC (zE (una fNeg (zE (eC (.int 1))))) aN)))))
    (sQ (sFor (iS (zE (eV 2))) (gN 5) l_q_law_due_1)
    (sRt (eT (aC (zE (bin fIx (zE (eV 4)) (zE (eC (.int 0))))) (aC (zE (eIf (tV' (bin fLt (zE (bin fIx (zE (eV 4)) (zE (eC (.int 1))))) (zE (eC (.int 0))))) (zE (eC .non)) (zE (bin fIx (zE (eV 4)) (zE (eC (.int 1))))))) aN))))))
def m_q_law_due : Mir := mkM 6 b_q_law_due
abbrev s_q_law_due : Stmt := top 16
theorem sc_q_law_due : FnScope ["present", "target", "kept", "jump", "best", "step"] ["present", "target", "kept", "jump"] (defScope s_q_law_due) := ⟨rfl, rfl, rfl, by decide +kernel, rfl, by decide +kernel, by decide +kernel⟩
theorem g_q_law_due {f : Addr} {fd : FuncData} (F : Fun K "_law_due" "_law_due" s_q_law_due f fd) (hm : mg "_law_due" = some (.ref f)) (hb : Binds K fd ["present", "target", "kept", "jump"] []) (z_abs : mg "abs" = none) (z_min : mg "min" = none) : CalD P w K mg base 1 "_law_due" 4 m_q_law_due :=
  cal_d F hm hb sc_q_law_due fun cdv A outer s H E hg hr hu tk hp =>
    (db_cons (ds_set (i := 4) sc_q_law_due.nd rfl (Or.inl rfl) (DE.z (de_tup (da_cons (DE.z (de_callB call_abs d_abs rfl z_abs rfl (da_cons (DE.z (de_bin op_sub d_sub (DE.z (dv 0)) (DE.z (dv 1)))) da_nil))) (da_cons (DE.z (de_un un_neg d_neg (DE.z de_int))) da_nil)))))
    (db_cons (ds_for hp rfl (di_seq (DE.z (dv 2))) (dg_name (i := 5) sc_q_law_due.nd rfl (Or.inl rfl)) (db_one (ds_set (i := 4) sc_q_law_due.nd rfl (Or.inl rfl) (DE.z (de_callB (cr_minP rfl hu) d_minP rfl z_min rfl (da_cons (DE.z (dv 4)) (da_cons (DE.z (de_tup (da_cons (DE.z (de_bin op_addD d_add (DE.z (dv 3)) (DE.z (de_callB call_abs d_abs rfl z_abs rfl (da_cons (DE.z (de_bin op_sub d_sub (DE.z (dv 5)) (DE.z (dv 1)))) da_nil))))) (da_cons (DE.z (dv 5)) da_nil)))) da_nil)))))))
    (db_one (ds_ret (de_tup (da_cons (DE.z (de_ix ix_seq d_ix (DE.z (dv 4)) (DE.z de_int) (fun _ _ => rfl))) (da_cons (DE.z (de_if (dt_cmp op_ltD d_lt (DE.z (de_ix ix_seq d_ix (DE.z (dv 4)) (DE.z de_int) (fun _ _ => rfl))) (DE.z de_int) (nomark _)) (DE.z de_non) (DE.z (de_ix ix_seq d_ix (DE.z (dv 4)) (DE.z de_int) (fun _ _ => rfl))))) da_nil)))))))
/-! ### law -/
def l_law_1 : SS := (sQ (sAs (gU (gsC (gN 4) (gsC (gN 5) (gsC (gN 6) gsN))) 3) (zE (eCall 1 m_q_law_steps (aC (zE (eV 2)) aN))))
    (sQ (sSet 6 (zE (eCut (zE (eV 6)) none (some (zE (eCall 2 m_q_law_draw (aC (zE (eV 2)) (aC (zE (eC (.int 9))) aN))))))))
    (sQ (sSet 7 (zE (eCall 2 m_q_law_choose (aC (zE (eV 2)) (aC (zE (eL (aC (zE (eC (.int 0))) (aC (zE (eC (.int 1))) (aC (zE (eC (.int 2))) (aC (zE (eC (.int 5))) (aC (zE (eC (.int 20))) (aC (zE (bin fPow (zE (eC (.int 10))) (zE (eC (.int 29))))) aN)))))))) aN)))))
    (sQ (sSet 8 (zE (cB fList (aC (zE (eV 6)) aN))))
    (sQ (sSet 9 (zE (eCall 4 m_cheapest (aC (zE (eV 4)) (aC (zE (eV 5)) (aC (zE (eV 6)) (aC (zE (eV 7)) aN)))))))
    (sIf (tOr (tV' (bin fNe (zE (cB fRepr (aC (zE (eV 9)) aN))) (zE (cB fRepr (aC (zE (eCall 4 m_q_law_due (aC (zE (eV 4)) (aC (zE (eV 5)) (aC (zE (eV 8)) (aC (zE (eV 7)) aN)))))) aN))))) (tV' (bin fNe (zE (eV 6)) (zE (eV 8))))) (sRt (eC (.bl false))) sN))))))
def l_law_2 : SS := (sQ (sNew 2 (eCall 2 m_q_law_stream (aC (zE (eV 0)) (aC (zE (eV 1)) aN))))
    (sFor (iR1 (aC (zE (eC (.int 10))) aN)) (gN 3) l_law_1))
def b_law : SS := (sQ (sFor (iR1 (aC (zE (cB fMax2 (aC (zE (eC (.int 1))) (aC (zE (cB fMin2 (aC (zE (eC (.int 12))) (aC (zE (cB fLen (aC (zE (eV 0)) aN))) aN)))) aN)))) aN)) (gN 1) l_law_2)
    (sRt (eAn (zE (bin fEq (zE (eCall 4 m_cheapest (aC (zE (eC (.int 5))) (aC (zE (eC (.int 5))) (aC (zE (eL (aC (zE (eC (.int 5))) aN))) (aC (zE (eC (.int 0))) aN)))))) (zE (eT (aC (zE (eC (.int 0))) (aC (zE (eC .non)) aN)))))) (bin fEq (zE (eCall 4 m_cheapest (aC (zE (eC (.int 0))) (aC (zE (eC (.int 9))) (aC (zE (eL aN)) (aC (zE (eC (.int 0))) aN)))))) (zE (eT (aC (zE (eC (.int 9))) (aC (zE (eC .non)) aN))))))))
def m_law : Mir := mkM 10 b_law
abbrev s_law : Stmt := top 17
theorem sc_law : FnScope ["script", "k", "stream", "turn", "present", "target", "kept", "jump", "held", "told"] ["script"] (defScope s_law) := ⟨rfl, rfl, rfl, by decide +kernel, rfl, by decide +kernel, by decide +kernel⟩
theorem fn_law {f : Addr} {fd : FuncData} (F : Fun K "law" "law" s_law f fd) (z_range : mg "range" = none) (z_max : mg "max" = none) (z_min : mg "min" = none) (z_len : mg "len" = none) (z_list : mg "list" = none) (z_repr : mg "repr" = none) (c_q_law_stream : CalD P w K mg base 1 "_law_stream" 2 m_q_law_stream) (c_q_law_steps : CalD P w K mg base 3 "_law_steps" 1 m_q_law_steps) (c_q_law_draw : CalD P w K mg base 1 "_law_draw" 2 m_q_law_draw) (c_q_law_choose : CalD P w K mg base 2 "_law_choose" 2 m_q_law_choose) (c_cheapest : CalD P w K mg base 5 "cheapest" 4 m_cheapest) (c_q_law_due : CalD P w K mg base 1 "_law_due" 4 m_q_law_due) : FnG P w K mg base 6 f fd ["script"] (spD K mg 1 m_law) :=
  fnl_d F sc_law fun cdv A outer s H E hg hr hu tk hp =>
    (db_cons (ds_for hp rfl (di_range1 rfl z_range (da_cons (DE.z (de_callB (call_max2 rfl) d_max2 rfl z_max rfl (da_cons (DE.z de_int) (da_cons (DE.z (de_callB (call_min2 rfl) d_min2 rfl z_min rfl (da_cons (DE.z de_int) (da_cons (DE.z (de_callB call_len d_len rfl z_len rfl (da_cons (DE.z (dv 0)) da_nil))) da_nil)))) da_nil)))) da_nil)) (dg_name (i := 1) sc_law.nd rfl (Or.inl rfl)) (db_cons (ds_new (i := 2) sc_law.nd rfl (Or.inl rfl) (de_cal c_q_law_stream hg (hr.mono (by decide)) tk (da_cons (DE.z (dv 0)) (da_cons (DE.z (dv 1)) da_nil))))
    (db_one (ds_for hp rfl (di_range1 rfl z_range (da_cons (DE.z de_int) da_nil)) (dg_name (i := 3) sc_law.nd rfl (Or.inl rfl)) (db_cons (ds_asg (DE.z (de_cal c_q_law_steps hg (hr.mono (by decide)) tk (da_cons (DE.z (dv 2)) da_nil))) (dg_unl rfl (dgs_cons (dg_name (i := 4) sc_law.nd rfl (Or.inl rfl)) (dgs_cons (dg_name (i := 5) sc_law.nd rfl (Or.inl rfl)) (dgs_cons (dg_name (i := 6) sc_law.nd rfl (Or.inl rfl)) dgs_nil)))))
    (db_cons (ds_set (i := 6) sc_law.nd rfl (Or.inl rfl) (DE.z (de_cut (DE.z (dv 6)) do_none (do_some (DE.z (de_cal c_q_law_draw hg (hr.mono (by decide)) tk (da_cons (DE.z (dv 2)) (da_cons (DE.z de_int) da_nil))))))))
    (db_cons (ds_set (i := 7) sc_law.nd rfl (Or.inl rfl) (DE.z (de_cal c_q_law_choose hg (hr.mono (by decide)) tk (da_cons (DE.z (dv 2)) (da_cons (DE.z (de_lst (da_cons (DE.z de_int) (da_cons (DE.z de_int) (da_cons (DE.z de_int) (da_cons (DE.z de_int) (da_cons (DE.z de_int) (da_cons (DE.z (de_bin op_pow d_pow (DE.z de_int) (DE.z de_int))) da_nil)))))))) da_nil)))))
    (db_cons (ds_set (i := 8) sc_law.nd rfl (Or.inl rfl) (DE.z (de_callTy call_list_of d_list rfl z_list rfl (da_cons (DE.z (dv 6)) da_nil))))
    (db_cons (ds_set (i := 9) sc_law.nd rfl (Or.inl rfl) (DE.z (de_cal c_cheapest hg (hr.mono (by decide)) tk (da_cons (DE.z (dv 4)) (da_cons (DE.z (dv 5)) (da_cons (DE.z (dv 6)) (da_cons (DE.z (dv 7)) da_nil)))))))
    (db_one (ds_if (DW.t (dw_or (dt_cmp (op_neE hu) d_ne (DE.z (de_callB (cr_repr hg hu) d_repr rfl z_repr rfl (da_cons (DE.z (dv 9)) da_nil))) (DE.z (de_callB (cr_repr hg hu) d_repr rfl z_repr rfl (da_cons (DE.z (de_cal c_q_law_due hg (hr.mono (by decide)) tk (da_cons (DE.z (dv 4)) (da_cons (DE.z (dv 5)) (da_cons (DE.z (dv 8)) (da_cons (DE.z (dv 7)) da_nil)))))) da_nil))) (nomark _)) (dw_or1 (dt_cmp (op_neE hu) d_ne (DE.z (dv 6)) (DE.z (dv 8)) (nomark _))))) (db_one (ds_ret de_bl)) db_nil)))))))))))
    (db_one (ds_ret (de_and (DE.z (de_cmp (op_eqE hu) d_eq (DE.z (de_cal c_cheapest hg (hr.mono (by decide)) tk (da_cons (DE.z de_int) (da_cons (DE.z de_int) (da_cons (DE.z (de_lst (da_cons (DE.z de_int) da_nil))) (da_cons (DE.z de_int) da_nil)))))) (DE.z (de_tup (da_cons (DE.z de_int) (da_cons (DE.z de_non) da_nil)))) (nomark _))) (de_one (de_cmp (op_eqE hu) d_eq (DE.z (de_cal c_cheapest hg (hr.mono (by decide)) tk (da_cons (DE.z de_int) (da_cons (DE.z de_int) (da_cons (DE.z (de_lst da_nil)) (da_cons (DE.z de_int) da_nil)))))) (DE.z (de_tup (da_cons (DE.z de_int) (da_cons (DE.z de_non) da_nil)))) (nomark _)))))))
end
theorem all_mk {P : Program} {w : World} {K : PySem.W.Frag} {h : Heap} {mg : Str → Option Value} {fa : Addr} (X : K.In h) (G : h.Ns mainGlobals mg) (hfa : mg "law" = some (.ref fa)) (n_len : PySem.W.nsIn K mainGlobals "len" = some none) (n_max : PySem.W.nsIn K mainGlobals "max" = some none) (n_int : PySem.W.nsIn K mainGlobals "int" = some none) (n_range : PySem.W.nsIn K mainGlobals "range" = some none) (n_sorted : PySem.W.nsIn K mainGlobals "sorted" = some none) (n_set : PySem.W.nsIn K mainGlobals "set" = some none) (n_isinstance : PySem.W.nsIn K mainGlobals "isinstance" = some none) (n_bool : PySem.W.nsIn K mainGlobals "bool" = some none) (n_list : PySem.W.nsIn K mainGlobals "list" = some none) (n_abs : PySem.W.nsIn K mainGlobals "abs" = some none) (n_min : PySem.W.nsIn K mainGlobals "min" = some none) (n_repr : PySem.W.nsIn K mainGlobals "repr" = some none)
    {f0 : Addr} {od0 an0 : Option Addr} {sl0 : Array (Option Value)} {oc0 kV0 dc0 pm0 cd0 ct0 : Value} (a0 : PySem.W.nsIn K mainGlobals "_law_stream" = some (some (.ref f0))) (l0 : K.lookup f0 = some ⟨oc0, od0, .func (PySem.W.fnOf "_law_stream" "_law_stream" (defArgs s_q_law_stream) (defBody s_q_law_stream) (defScope s_q_law_stream) .none kV0 dc0 pm0 an0 cd0 ct0), sl0⟩) (e0 : PySem.W.codeIn K cd0 "_law_stream" = true) (k0 : PySem.W.keepIn K (.ref f0) = true)
    {f1 : Addr} {od1 an1 : Option Addr} {sl1 : Array (Option Value)} {oc1 kV1 dc1 pm1 cd1 ct1 : Value} (a1 : PySem.W.nsIn K mainGlobals "_law_draw" = some (some (.ref f1))) (l1 : K.lookup f1 = some ⟨oc1, od1, .func (PySem.W.fnOf "_law_draw" "_law_draw" (defArgs s_q_law_draw) (defBody s_q_law_draw) (defScope s_q_law_draw) .none kV1 dc1 pm1 an1 cd1 ct1), sl1⟩) (e1 : PySem.W.codeIn K cd1 "_law_draw" = true) (k1 : PySem.W.keepIn K (.ref f1) = true)
    {f2 : Addr} {od2 an2 : Option Addr} {sl2 : Array (Option Value)} {oc2 kV2 dc2 pm2 cd2 ct2 : Value} (a2 : PySem.W.nsIn K mainGlobals "_law_choose" = some (some (.ref f2))) (l2 : K.lookup f2 = some ⟨oc2, od2, .func (PySem.W.fnOf "_law_choose" "_law_choose" (defArgs s_q_law_choose) (defBody s_q_law_choose) (defScope s_q_law_choose) .none kV2 dc2 pm2 an2 cd2 ct2), sl2⟩) (e2 : PySem.W.codeIn K cd2 "_law_choose" = true) (k2 : PySem.W.keepIn K (.ref f2) = true)
    {f3 : Addr} {od3 an3 : Option Addr} {sl3 : Array (Option Value)} {oc3 kV3 dc3 pm3 cd3 ct3 : Value} (a3 : PySem.W.nsIn K mainGlobals "_law_steps" = some (some (.ref f3))) (l3 : K.lookup f3 = some ⟨oc3, od3, .func (PySem.W.fnOf "_law_steps" "_law_steps" (defArgs s_q_law_steps) (defBody s_q_law_steps) (defScope s_q_law_steps) .none kV3 dc3 pm3 an3 cd3 ct3), sl3⟩) (e3 : PySem.W.codeIn K cd3 "_law_steps" = true) (k3 : PySem.W.keepIn K (.ref f3) = true)
    {f4 : Addr} {od4 an4 : Option Addr} {sl4 : Array (Option Value)} {oc4 kV4 dc4 pm4 cd4 ct4 : Value} (a4 : PySem.W.nsIn K mainGlobals "is_integer" = some (some (.ref f4))) (l4 : K.lookup f4 = some ⟨oc4, od4, .func (PySem.W.fnOf "is_integer" "is_integer" (defArgs s_is_integer) (defBody s_is_integer) (defScope s_is_integer) .none kV4 dc4 pm4 an4 cd4 ct4), sl4⟩) (e4 : PySem.W.codeIn K cd4 "is_integer" = true) (k4 : PySem.W.keepIn K (.ref f4) = true)
    {f5 : Addr} {od5 an5 : Option Addr} {sl5 : Array (Option Value)} {oc5 kV5 dc5 pm5 cd5 ct5 : Value} (a5 : PySem.W.nsIn K mainGlobals "is_count" = some (some (.ref f5))) (l5 : K.lookup f5 = some ⟨oc5, od5, .func (PySem.W.fnOf "is_count" "is_count" (defArgs s_is_count) (defBody s_is_count) (defScope s_is_count) .none kV5 dc5 pm5 an5 cd5 ct5), sl5⟩) (e5 : PySem.W.codeIn K cd5 "is_count" = true) (k5 : PySem.W.keepIn K (.ref f5) = true)
    {f6 : Addr} {od6 an6 : Option Addr} {sl6 : Array (Option Value)} {oc6 kV6 dc6 pm6 cd6 ct6 : Value} (a6 : PySem.W.nsIn K mainGlobals "check_step" = some (some (.ref f6))) (l6 : K.lookup f6 = some ⟨oc6, od6, .func (PySem.W.fnOf "check_step" "check_step" (defArgs s_check_step) (defBody s_check_step) (defScope s_check_step) .none kV6 dc6 pm6 an6 cd6 ct6), sl6⟩) (e6 : PySem.W.codeIn K cd6 "check_step" = true) (k6 : PySem.W.keepIn K (.ref f6) = true)
    {f7 : Addr} {od7 an7 : Option Addr} {sl7 : Array (Option Value)} {oc7 kV7 dc7 pm7 cd7 ct7 : Value} (a7 : PySem.W.nsIn K mainGlobals "check_ascending" = some (some (.ref f7))) (l7 : K.lookup f7 = some ⟨oc7, od7, .func (PySem.W.fnOf "check_ascending" "check_ascending" (defArgs s_check_ascending) (defBody s_check_ascending) (defScope s_check_ascending) .none kV7 dc7 pm7 an7 cd7 ct7), sl7⟩) (e7 : PySem.W.codeIn K cd7 "check_ascending" = true) (k7 : PySem.W.keepIn K (.ref f7) = true)
    {f8 : Addr} {od8 an8 : Option Addr} {sl8 : Array (Option Value)} {oc8 kV8 dc8 pm8 cd8 ct8 : Value} (a8 : PySem.W.nsIn K mainGlobals "cheapest" = some (some (.ref f8))) (l8 : K.lookup f8 = some ⟨oc8, od8, .func (PySem.W.fnOf "cheapest" "cheapest" (defArgs s_cheapest) (defBody s_cheapest) (defScope s_cheapest) .none kV8 dc8 pm8 an8 cd8 ct8), sl8⟩) (e8 : PySem.W.codeIn K cd8 "cheapest" = true) (k8 : PySem.W.keepIn K (.ref f8) = true)
    {f9 : Addr} {od9 an9 : Option Addr} {sl9 : Array (Option Value)} {oc9 kV9 dc9 pm9 cd9 ct9 : Value} (a9 : PySem.W.nsIn K mainGlobals "_law_due" = some (some (.ref f9))) (l9 : K.lookup f9 = some ⟨oc9, od9, .func (PySem.W.fnOf "_law_due" "_law_due" (defArgs s_q_law_due) (defBody s_q_law_due) (defScope s_q_law_due) .none kV9 dc9 pm9 an9 cd9 ct9), sl9⟩) (e9 : PySem.W.codeIn K cd9 "_law_due" = true) (k9 : PySem.W.keepIn K (.ref f9) = true)
    {f10 : Addr} {od10 an10 : Option Addr} {sl10 : Array (Option Value)} {oc10 kV10 dc10 pm10 cd10 ct10 : Value} (a10 : PySem.W.nsIn K mainGlobals "law" = some (some (.ref f10))) (l10 : K.lookup f10 = some ⟨oc10, od10, .func (PySem.W.fnOf "law" "law" (defArgs s_law) (defBody s_law) (defScope s_law) .none kV10 dc10 pm10 an10 cd10 ct10), sl10⟩) (e10 : PySem.W.codeIn K cd10 "law" = true) (k10 : PySem.W.keepIn K (.ref f10) = true) :
    ∃ fd : FuncData, (∀ (s : Shared) (v : Value), BindsTo s fd ⟨[v], []⟩ [("script", v)]) ∧ ∀ base : Heap, K.In base → base.Ns mainGlobals mg → FnG P w K mg base 6 fa fd ["script"] (spD K mg 1 m_law) := by
  have e := hfa.symm.trans (PySem.W.mg_of X G a10)
  cases e
  have z_len := PySem.W.mg_none_of X G n_len
  have z_max := PySem.W.mg_none_of X G n_max
  have z_int := PySem.W.mg_none_of X G n_int
  have z_range := PySem.W.mg_none_of X G n_range
  have z_sorted := PySem.W.mg_none_of X G n_sorted
  have z_set := PySem.W.mg_none_of X G n_set
  have z_isinstance := PySem.W.mg_none_of X G n_isinstance
  have z_bool := PySem.W.mg_none_of X G n_bool
  have z_list := PySem.W.mg_none_of X G n_list
  have z_abs := PySem.W.mg_none_of X G n_abs
  have z_min := PySem.W.mg_none_of X G n_min
  have z_repr := PySem.W.mg_none_of X G n_repr
  have F0 := fun_mk (st := s_q_law_stream) l0 e0 k0
  have b0 := F0.binds (ps := ["script", "k"]) fun _ _ _ _ _ _ us hl => match us, hl with | [_, _], _ => rfl
  have F1 := fun_mk (st := s_q_law_draw) l1 e1 k1
  have b1 := F1.binds (ps := ["stream", "count"]) fun _ _ _ _ _ _ us hl => match us, hl with | [_, _], _ => rfl
  have F2 := fun_mk (st := s_q_law_choose) l2 e2 k2
  have b2 := F2.binds (ps := ["stream", "some"]) fun _ _ _ _ _ _ us hl => match us, hl with | [_, _], _ => rfl
  have F3 := fun_mk (st := s_q_law_steps) l3 e3 k3
  have b3 := F3.binds (ps := ["stream"]) fun _ _ _ _ _ _ us hl => match us, hl with | [_], _ => rfl
  have F4 := fun_mk (st := s_is_integer) l4 e4 k4
  have b4 := F4.binds (ps := ["candidate"]) fun _ _ _ _ _ _ us hl => match us, hl with | [_], _ => rfl
  have F5 := fun_mk (st := s_is_count) l5 e5 k5
  have b5 := F5.binds (ps := ["candidate"]) fun _ _ _ _ _ _ us hl => match us, hl with | [_], _ => rfl
  have F6 := fun_mk (st := s_check_step) l6 e6 k6
  have b6 := F6.binds (ps := ["step"]) fun _ _ _ _ _ _ us hl => match us, hl with | [_], _ => rfl
  have F7 := fun_mk (st := s_check_ascending) l7 e7 k7
  have b7 := F7.binds (ps := ["steps"]) fun _ _ _ _ _ _ us hl => match us, hl with | [_], _ => rfl
  have F8 := fun_mk (st := s_cheapest) l8 e8 k8
  have b8 := F8.binds (ps := ["present", "target", "kept", "jump"]) fun _ _ _ _ _ _ us hl => match us, hl with | [_, _, _, _], _ => rfl
  have F9 := fun_mk (st := s_q_law_due) l9 e9 k9
  have b9 := F9.binds (ps := ["present", "target", "kept", "jump"]) fun _ _ _ _ _ _ us hl => match us, hl with | [_, _, _, _], _ => rfl
  have F10 := fun_mk (st := s_law) l10 e10 k10
  have b10 := F10.binds (ps := ["script"]) fun _ _ _ _ _ _ us hl => match us, hl with | [_], _ => rfl
  refine ⟨PySem.W.fnOf "law" "law" (defArgs s_law) (defBody s_law) (defScope s_law) .none kV10 dc10 pm10 an10 cd10 ct10, fun s v => .of_eq rfl, fun base _ _ => ?_⟩
  have c_q_law_stream := g_q_law_stream (P := P) (w := w) (base := base) F0 (PySem.W.mg_of X G a0) b0 z_len z_max z_int
  have c_q_law_draw := g_q_law_draw (P := P) (w := w) (base := base) F1 (PySem.W.mg_of X G a1) b1 
  have c_q_law_choose := g_q_law_choose (P := P) (w := w) (base := base) F2 (PySem.W.mg_of X G a2) b2 z_len c_q_law_draw
  have c_q_law_steps := g_q_law_steps (P := P) (w := w) (base := base) F3 (PySem.W.mg_of X G a3) b3 z_range z_sorted z_set c_q_law_choose c_q_law_draw
  have c_is_integer := g_is_integer (P := P) (w := w) (base := base) F4 (PySem.W.mg_of X G a4) b4 z_isinstance z_bool z_int
  have c_is_count := g_is_count (P := P) (w := w) (base := base) F5 (PySem.W.mg_of X G a5) b5 c_is_integer
  have c_check_step := g_check_step (P := P) (w := w) (base := base) F6 (PySem.W.mg_of X G a6) b6 c_is_count
  have c_check_ascending := g_check_ascending (P := P) (w := w) (base := base) F7 (PySem.W.mg_of X G a7) b7 z_isinstance z_list c_check_step
  have c_cheapest := g_cheapest (P := P) (w := w) (base := base) F8 (PySem.W.mg_of X G a8) b8 z_abs c_check_step c_check_ascending c_is_count
  have c_q_law_due := g_q_law_due (P := P) (w := w) (base := base) F9 (PySem.W.mg_of X G a9) b9 z_abs z_min
  have c_law := fn_law (P := P) (w := w) (base := base) F10 z_range z_max z_min z_len z_list z_repr c_q_law_stream c_q_law_steps c_q_law_draw c_q_law_choose c_cheapest c_q_law_due
  exact c_law
end L
end HD
set_option maxHeartbeats 4000000
namespace HD
namespace L
open PySem PySem.Spec PyProof.Rows L2
/-- a law's stream of draws -/
def Sok (o : Ob) : Prop := ∃ a b : Int, o = .lst [.int a, .int b] ∧ 0 ≤ b ∧ b < 2147483647
theorem stream_ok {ns : List Int} {k : Nat} (hk : k < 1000000) : ∃ o, m_q_law_stream [.dat (.rol (ns.map .int)), .dat (.int k)] [] = .ok (.new o) [] ∧ Sok o := by
  have hk1 : (k : Int).natAbs < 2 ^ 64 := by omega
  by_cases h : k < ns.length
  · have e : atI (ns.map Dt.int) (k : Int) = some (.int (ns[k])) := by rw [atI_nat]; simp [h]
    have h' : (k : Int) < (ns.length : Int) := by omega
    refine ⟨_, by
      simp [sQ, sSet, sNew, nmR, sIf, sRt, sRtN, sEx, sAs, sPar, sPar3, sN, sBk, sCt, zE, eV, eC, bin, una, aN, aC, cB, eT, eL, tV, tV', tN, tAn, tOr, eIf, eAn, eOr, eNo, eCall, gN, gsN, gsC, gT, gU, putS, Rs.bind, optR, rdR, vw, vwL, Rv.z, Zv.r, Ob.dt, datL, refsOf, renum, obsOf, putBack, backR, Ob.live, iS, iR1, iR2, iE, iZ, sFor, sSetIx, eMt, mApp, mExt, setL, ownL, lsOf, eCut, part, fCut, Rs.noErr, wipeS, lcEnd, fLen, fAbs, fMax2, fMin2, fInt, fList, fTuple, fAdd, fSub, fMul, fDiv, fMod, fNeg, fLt, fLe, fGt, fGe, fEq, fNe, fIs, fIsN, isNon, fIx, fIsi, tyN, seqOf, m_q_law_stream, mkM, b_q_law_stream, h', e, mulOk_l (i := 7919), mulOk_l (i := 31), mulOk_r (j := 48271), mulOk_r hk1, fPow, shutR, shut, mulOk_ite]
      rfl, ?_⟩
    exact ⟨_, _, rfl, Int.fmod_nonneg_of_pos _ (by decide), Int.fmod_lt_of_pos _ (by decide)⟩
  · have h' : ¬ (k : Int) < (ns.length : Int) := by omega
    refine ⟨_, by
      simp [sQ, sSet, sNew, nmR, sIf, sRt, sRtN, sEx, sAs, sPar, sPar3, sN, sBk, sCt, zE, eV, eC, bin, una, aN, aC, cB, eT, eL, tV, tV', tN, tAn, tOr, eIf, eAn, eOr, eNo, eCall, gN, gsN, gsC, gT, gU, putS, Rs.bind, optR, rdR, vw, vwL, Rv.z, Zv.r, Ob.dt, datL, refsOf, renum, obsOf, putBack, backR, Ob.live, iS, iR1, iR2, iE, iZ, sFor, sSetIx, eMt, mApp, mExt, setL, ownL, lsOf, eCut, part, fCut, Rs.noErr, wipeS, lcEnd, fLen, fAbs, fMax2, fMin2, fInt, fList, fTuple, fAdd, fSub, fMul, fDiv, fMod, fNeg, fLt, fLe, fGt, fGe, fEq, fNe, fIs, fIsN, isNon, fIx, fIsi, tyN, seqOf, m_q_law_stream, mkM, b_q_law_stream, h', mulOk_l (i := 7919), mulOk_l (i := 31), mulOk_r (j := 48271), mulOk_r hk1, fPow, shutR, shut, mulOk_ite]
      rfl, ?_⟩
    exact ⟨_, _, rfl, Int.fmod_nonneg_of_pos _ (by decide), Int.fmod_lt_of_pos _ (by decide)⟩
theorem draw_ok {o : Ob} {c : Int} (so : Sok o) (h0 : 0 < c) (h1 : c < 2 ^ 200) : ∃ (r : Int) (o' : Ob), m_q_law_draw [.ref 0, .dat (.int c)] [o] = .ok (.dat (.int r)) [o'] ∧ 0 ≤ r ∧ r < c ∧ Sok o' := by
  obtain ⟨a, b, rfl, hb0, hb1⟩ := so
  have hd : divOk c = true := divOk_of h0 h1
  have hc : c ≠ 0 := by omega
  have e0 : ∀ x y : Dt, atI [x, y] 0 = some x := fun x y => rfl
  have e1 : ∀ x y : Dt, atI [x, y] 1 = some y := fun x y => rfl
  have i0 : seqIndex? 0 2 = some 0 := by decide
  have i1 : seqIndex? 1 2 = some 1 := by decide
  have x0 : ixN 2 0 = some 0 := by decide
  have x1 : ixN 2 1 = some 1 := by decide
  by_cases h : 0 < a
  · refine ⟨_, _, by
      simp [sQ, sSet, sNew, nmR, sIf, sRt, sRtN, sEx, sAs, sPar, sPar3, sN, sBk, sCt, zE, eV, eC, bin, una, aN, aC, cB, eT, eL, tV, tV', tN, tAn, tOr, eIf, eAn, eOr, eNo, eCall, gN, gsN, gsC, gT, gU, putS, Rs.bind, optR, rdR, vw, vwL, Rv.z, Zv.r, Ob.dt, datL, refsOf, renum, obsOf, putBack, backR, Ob.live, iS, iR1, iR2, iE, iZ, sFor, sSetIx, eMt, mApp, mExt, setL, ownL, lsOf, eCut, part, fCut, Rs.noErr, wipeS, lcEnd, fLen, fAbs, fMax2, fMin2, fInt, fList, fTuple, fAdd, fSub, fMul, fDiv, fMod, fNeg, fLt, fLe, fGt, fGe, fEq, fNe, fIs, fIsN, isNon, fIx, fIsi, tyN, seqOf, m_q_law_draw, mkM, b_q_law_draw, e0, e1, i0, i1, x0, x1, h, hd, hc, shutR, shut]
      exact ⟨rfl, rfl⟩, Int.fmod_nonneg_of_pos _ h0, Int.fmod_lt_of_pos _ h0, _, _, rfl, hb0, hb1⟩
  · have m1 : mulOk ((b * 69621 + 7).fmod 2147483647) ((b * 69621 + 7).fmod 2147483647) = true := by
      refine mulOk_r ?_
      have g1 : 0 ≤ (b * 69621 + 7).fmod 2147483647 := Int.fmod_nonneg_of_pos _ (by decide)
      have g2 : (b * 69621 + 7).fmod 2147483647 < 2147483647 := Int.fmod_lt_of_pos _ (by decide)
      omega
    have d32 : divOk 32 = true := by decide
    refine ⟨_, _, by
      simp [sQ, sSet, sNew, nmR, sIf, sRt, sRtN, sEx, sAs, sPar, sPar3, sN, sBk, sCt, zE, eV, eC, bin, una, aN, aC, cB, eT, eL, tV, tV', tN, tAn, tOr, eIf, eAn, eOr, eNo, eCall, gN, gsN, gsC, gT, gU, putS, Rs.bind, optR, rdR, vw, vwL, Rv.z, Zv.r, Ob.dt, datL, refsOf, renum, obsOf, putBack, backR, Ob.live, iS, iR1, iR2, iE, iZ, sFor, sSetIx, eMt, mApp, mExt, setL, ownL, lsOf, eCut, part, fCut, Rs.noErr, wipeS, lcEnd, fLen, fAbs, fMax2, fMin2, fInt, fList, fTuple, fAdd, fSub, fMul, fDiv, fMod, fNeg, fLt, fLe, fGt, fGe, fEq, fNe, fIs, fIsN, isNon, fIx, fIsi, tyN, seqOf, m_q_law_draw, mkM, b_q_law_draw, e0, e1, i0, i1, x0, x1, h, hd, hc, shutR, shut, mulOk_r (j := 69621), m1, d32]
      exact ⟨rfl, rfl, rfl⟩, Int.fmod_nonneg_of_pos _ h0, Int.fmod_lt_of_pos _ h0, _, _, rfl, Int.fmod_nonneg_of_pos _ (by decide), Int.fmod_lt_of_pos _ (by decide)⟩
theorem choose_ok {o : Ob} {ds : List Dt} (so : Sok o) (h0 : ds ≠ []) (h1 : ds.length < 100) : ∃ (d : Dt) (o' : Ob), m_q_law_choose [.ref 0, .dat (.lst ds)] [o] = .ok (.dat d) [o'] ∧ d ∈ ds ∧ Sok o' := by
  have hl : 0 < ds.length := List.length_pos_iff.mpr h0
  obtain ⟨r, o', e, h2, h3, so'⟩ := draw_ok (c := (ds.length : Int)) so (by omega) (by omega)
  obtain ⟨n, rfl⟩ : ∃ n : Nat, r = (n : Int) := ⟨r.toNat, by omega⟩
  have hn : n < ds.length := by omega
  refine ⟨ds[n], o', ?_, List.getElem_mem hn, so'⟩
  obtain ⟨a, b, rfl, _, _⟩ := so
  simp [sQ, sSet, sNew, nmR, sIf, sRt, sRtN, sEx, sAs, sPar, sPar3, sN, sBk, sCt, zE, eV, eC, bin, una, aN, aC, cB, eT, eL, tV, tV', tN, tAn, tOr, eIf, eAn, eOr, eNo, eCall, gN, gsN, gsC, gT, gU, putS, Rs.bind, optR, rdR, vw, vwL, Rv.z, Zv.r, Ob.dt, datL, refsOf, renum, obsOf, putBack, backR, Ob.live, iS, iR1, iR2, iE, iZ, sFor, sSetIx, eMt, mApp, mExt, setL, ownL, lsOf, eCut, part, fCut, Rs.noErr, wipeS, lcEnd, fLen, fAbs, fMax2, fMin2, fInt, fList, fTuple, fAdd, fSub, fMul, fDiv, fMod, fNeg, fLt, fLe, fGt, fGe, fEq, fNe, fIs, fIsN, isNon, fIx, fIsi, tyN, seqOf, m_q_law_choose, mkM, b_q_law_choose, e, shutR, shut, callZ, atI_nat, hn]
/-- what the law draws for one turn -/
theorem steps_ok {o : Ob} (so : Sok o) : ∃ (p t : Int) (ks : List Int) (o' : Ob), m_q_law_steps [.ref 0] [o] = .ok (.new (.lst [.int p, .int t, .lst (ks.map .int)])) [o'] ∧ Sok o' ∧ (0 ≤ p ∧ p < 10 ^ 30) ∧ (0 ≤ t ∧ t < 10 ^ 30) ∧ ks.Pairwise (· < ·) ∧ ∀ k ∈ ks, 0 ≤ k ∧ k < 10 ^ 30 := by
  obtain ⟨d, o1, e1, hm, s1⟩ := choose_ok (ds := [.int 12, .int 40, .int 1000000000000000000000000000000]) so (by simp) (by simp)
  obtain ⟨far, rfl, hf0, hf1⟩ : ∃ far : Int, d = .int far ∧ 0 < far ∧ far ≤ 10 ^ 30 := by
    simp at hm
    rcases hm with rfl | rfl | rfl
    · exact ⟨_, rfl, by decide, by decide⟩
    · exact ⟨_, rfl, by decide, by decide⟩
    · exact ⟨_, rfl, by decide, by decide⟩
  have hfb : far < 2 ^ 200 := by
    have : (10 : Int) ^ 30 < 2 ^ 200 := by decide
    omega
  obtain ⟨p, o2, e2, p0, p1, s2⟩ := draw_ok s1 hf0 hfb
  obtain ⟨t, o3, e3, t0, t1, s3⟩ := draw_ok s2 hf0 hfb
  obtain ⟨es, s', e4, h4, h5, h6⟩ := compL_inv (sg := gN 2) (t := tY) (ga := zE (eCall 2 m_q_law_draw (aC (zE (eV 0)) (aC (zE (eV 1)) aN)))) (vs := [2]) (sl := [some (.ref 0), some (.dat (.int far)), none])
    (fun ob => ∃ o, ob = [o] ∧ Sok o) (fun e => ∃ k : Int, e = .int k ∧ 0 ≤ k ∧ k < far) (fun d ob ⟨o, eo, so⟩ => by
      subst eo
      obtain ⟨r, o', e, r0, r1, so'⟩ := draw_ok so hf0 hfb
      obtain ⟨a, b, rfl, _, _⟩ := id so
      refine ⟨_, _, _, ⟨[some (.ref 0), some (.dat (.int far)), some (.dat d)], [o']⟩, rfl, rfl, ?_, ⟨r, rfl, r0, r1⟩, o', rfl, so'⟩
      simp [sQ, sSet, sNew, nmR, sIf, sRt, sRtN, sEx, sAs, sPar, sPar3, sN, sBk, sCt, zE, eV, eC, bin, una, aN, aC, cB, eT, eL, tV, tV', tN, tAn, tOr, eIf, eAn, eOr, eNo, eCall, gN, gsN, gsC, gT, gU, putS, Rs.bind, optR, rdR, vw, vwL, Rv.z, Zv.r, Ob.dt, datL, refsOf, renum, obsOf, putBack, backR, Ob.live, iS, iR1, iR2, iE, iZ, sFor, sSetIx, eMt, mApp, mExt, setL, ownL, lsOf, eCut, part, fCut, Rs.noErr, wipeS, lcEnd, fLen, fAbs, fMax2, fMin2, fInt, fList, fTuple, fAdd, fSub, fMul, fDiv, fMod, fNeg, fLt, fLe, fGt, fGe, fEq, fNe, fIs, fIsN, isNon, fIx, fIsi, tyN, seqOf, callZ, e]
      all_goals rfl) (rng 0 8) [] ⟨[some (.ref 0), some (.dat (.int far)), none], [o3]⟩ (by decide) ⟨o3, rfl, s3⟩
  obtain ⟨o4, eo, s4⟩ := h6
  obtain ⟨ns, rfl, hns⟩ : ∃ ns : List Int, es = ns.map .int ∧ ∀ k ∈ ns, 0 ≤ k ∧ k < far := by
    clear e4 h5
    induction es with
    | nil => exact ⟨[], rfl, fun _ h => by cases h⟩
    | cons x xs ih =>
      obtain ⟨k, rfl, k0, k1⟩ := h4 x List.mem_cons_self
      obtain ⟨ns, rfl, h⟩ := ih fun e he => h4 e (List.mem_cons_of_mem _ he)
      refine ⟨k :: ns, rfl, fun q hq => ?_⟩
      rcases List.mem_cons.mp hq with rfl | hq
      · exact ⟨k0, k1⟩
      · exact h q hq
  have hin : ∀ l : List Int, intsOf (l.map .int) = some l := fun l => by
    induction l with
    | nil => rfl
    | cons x xs ih => simp [intsOf, ih]
  have hl : ns.length < 63 := by simp [rng] at h5; omega
  refine ⟨p, t, sortU ns, o4, ?_, s4, ⟨p0, by omega⟩, ⟨t0, by omega⟩, sortU_up, fun k hk => ?_⟩
  · obtain ⟨a, b, rfl, _, _⟩ := id so
    obtain ⟨a1, b1, rfl, _, _⟩ := id s1
    obtain ⟨a2, b2, rfl, _, _⟩ := id s2
    obtain ⟨a3, b3, rfl, _, _⟩ := id s3
    have ep : fPow (.int 10) (.int 30) = some (.val (.int 1000000000000000000000000000000)) := by simp [fPow]
    have e8 : rngOk 0 8 = true := by decide
    simp only [List.nil_append] at e4
    have hz : (3 : Nat) ≤ sizeLine := by decide
    simp [sQ, sSet, sNew, nmR, sIf, sRt, sRtN, sEx, sAs, sPar, sPar3, sN, sBk, sCt, zE, eV, eC, bin, una, aN, aC, cB, eT, eL, tV, tV', tN, tAn, tOr, eIf, eAn, eOr, eNo, eCall, gN, gsN, gsC, gT, gU, putS, Rs.bind, optR, rdR, vw, vwL, Rv.z, Zv.r, Ob.dt, datL, refsOf, renum, obsOf, putBack, backR, Ob.live, iS, iR1, iR2, iE, iZ, sFor, sSetIx, eMt, mApp, mExt, setL, ownL, lsOf, eCut, part, fCut, Rs.noErr, wipeS, lcEnd, fLen, fAbs, fMax2, fMin2, fInt, fList, fTuple, fAdd, fSub, fMul, fDiv, fMod, fNeg, fLt, fLe, fGt, fGe, fEq, fNe, fIs, fIsN, isNon, fIx, fIsi, tyN, seqOf, m_q_law_steps, mkM, b_q_law_steps, ep, callZ, e1, e2, e3, e4, e8, eSortSet, fSortSet, hin, hl, shutR, shut, eo, eLc, hz]
  · have := hns k (sortU_mem.mp hk)
    omega
/-! ### the planner -/
def ab (x : Int) : Int := if x < 0 then -x else x
def stp (t j : Int) (b : Int × Option Int) (k : Int) : Int × Option Int := if j + ab (k - t) < b.1 then (j + ab (k - t), some k) else b
def optD : Option Int → Dt
  | none => .non
  | some k => .int k
def dtB (b : Int × Option Int) : Dt := .tup [.int b.1, optD b.2]
theorem kit1 : kitB "int" "int" = some true := by decide
theorem kit2 : kitB "int" "bool" = some false := by decide
theorem kit3 : kitB "list" "list" = some true := by decide
theorem isint_ok {i : Int} : m_is_integer [.dat (.int i)] [] = .ok (.dat (.bl true)) [] := by
  simp [sQ, sSet, sNew, nmR, sIf, sRt, sRtN, sEx, sAs, sPar, sPar3, sN, sBk, sCt, zE, eV, eC, bin, una, aN, aC, cB, eT, eL, tV, tV', tN, tAn, tOr, eIf, eAn, eOr, eNo, eCall, gN, gsN, gsC, gT, gU, putS, Rs.bind, optR, rdR, vw, vwL, Rv.z, Zv.r, Ob.dt, datL, refsOf, renum, obsOf, putBack, backR, Ob.live, iS, iR1, iR2, iE, iZ, sFor, sSetIx, eMt, mApp, mExt, setL, ownL, lsOf, eCut, part, fCut, Rs.noErr, wipeS, lcEnd, fLen, fAbs, fMax2, fMin2, fInt, fList, fTuple, fAdd, fSub, fMul, fDiv, fMod, fNeg, fLt, fLe, fGt, fGe, fEq, fNe, fIs, fIsN, isNon, fIx, fIsi, tyN, seqOf, m_is_integer, mkM, b_is_integer, shutR, shut, kit1, kit2]
theorem iscount_ok {i : Int} (h : 0 ≤ i) : m_is_count [.dat (.int i)] [] = .ok (.dat (.bl true)) [] := by
  simp [sQ, sSet, sNew, nmR, sIf, sRt, sRtN, sEx, sAs, sPar, sPar3, sN, sBk, sCt, zE, eV, eC, bin, una, aN, aC, cB, eT, eL, tV, tV', tN, tAn, tOr, eIf, eAn, eOr, eNo, eCall, gN, gsN, gsC, gT, gU, putS, Rs.bind, optR, rdR, vw, vwL, Rv.z, Zv.r, Ob.dt, datL, refsOf, renum, obsOf, putBack, backR, Ob.live, iS, iR1, iR2, iE, iZ, sFor, sSetIx, eMt, mApp, mExt, setL, ownL, lsOf, eCut, part, fCut, Rs.noErr, wipeS, lcEnd, fLen, fAbs, fMax2, fMin2, fInt, fList, fTuple, fAdd, fSub, fMul, fDiv, fMod, fNeg, fLt, fLe, fGt, fGe, fEq, fNe, fIs, fIsN, isNon, fIx, fIsi, tyN, seqOf, m_is_count, mkM, b_is_count, shutR, shut, callZ, isint_ok, h]
theorem step_ok {i : Int} (h : 0 ≤ i) : m_check_step [.dat (.int i)] [] = .ok (.dat .non) [] := by
  simp [sQ, sSet, sNew, nmR, sIf, sRt, sRtN, sEx, sAs, sPar, sPar3, sN, sBk, sCt, zE, eV, eC, bin, una, aN, aC, cB, eT, eL, tV, tV', tN, tAn, tOr, eIf, eAn, eOr, eNo, eCall, gN, gsN, gsC, gT, gU, putS, Rs.bind, optR, rdR, vw, vwL, Rv.z, Zv.r, Ob.dt, datL, refsOf, renum, obsOf, putBack, backR, Ob.live, iS, iR1, iR2, iE, iZ, sFor, sSetIx, eMt, mApp, mExt, setL, ownL, lsOf, eCut, part, fCut, Rs.noErr, wipeS, lcEnd, fLen, fAbs, fMax2, fMin2, fInt, fList, fTuple, fAdd, fSub, fMul, fDiv, fMod, fNeg, fLt, fLe, fGt, fGe, fEq, fNe, fIs, fIsN, isNon, fIx, fIsi, tyN, seqOf, m_check_step, mkM, b_check_step, shutR, shut, callZ, iscount_ok h]
theorem asc_ok {ks : List Int} (hp : ks.Pairwise (· < ·)) (h0 : ∀ k ∈ ks, 0 ≤ k) : m_check_ascending [.dat (.lst (ks.map .int))] [] = .ok (.dat .non) [] := by
  obtain ⟨s', e, _⟩ := forL_inv (sg := gN 2) (body := l_check_ascending_1) (fun ds s => ∃ (rest : List Int) (b : Int) (x : Option Zv), ds = rest.map .int ∧ s = ⟨[some (.dat (.lst (ks.map .int))), some (.dat (.int b)), x], []⟩ ∧ rest.Pairwise (· < ·) ∧ ∀ k ∈ rest, 0 ≤ k ∧ b < k)
    (fun d ds s ⟨rest, b, x, e1, e2, e3, e4⟩ => by
      cases rest with
      | nil => cases e1
      | cons k rest =>
        cases e1
        subst e2
        have hk := e4 k List.mem_cons_self
        have hk2 := List.pairwise_cons.mp e3
        have h3 : ¬ k ≤ b := by omega
        refine ⟨⟨[some (.dat (.lst (ks.map .int))), some (.dat (.int b)), some (.dat (.int k))], []⟩, .nx, ⟨[some (.dat (.lst (ks.map .int))), some (.dat (.int k)), some (.dat (.int k))], []⟩, rfl, ?_, .inl rfl, rest, k, _, rfl, rfl, hk2.2, fun q hq => ⟨(e4 q (List.mem_cons_of_mem _ hq)).1, hk2.1 q hq⟩⟩
        simp [sQ, sSet, sNew, nmR, sIf, sRt, sRtN, sEx, sAs, sPar, sPar3, sN, sBk, sCt, zE, eV, eC, bin, una, aN, aC, cB, eT, eL, tV, tV', tN, tAn, tOr, eIf, eAn, eOr, eNo, eCall, gN, gsN, gsC, gT, gU, putS, Rs.bind, optR, rdR, vw, vwL, Rv.z, Zv.r, Ob.dt, datL, refsOf, renum, obsOf, putBack, backR, Ob.live, iS, iR1, iR2, iE, iZ, sFor, sSetIx, eMt, mApp, mExt, setL, ownL, lsOf, eCut, part, fCut, Rs.noErr, wipeS, lcEnd, fLen, fAbs, fMax2, fMin2, fInt, fList, fTuple, fAdd, fSub, fMul, fDiv, fMod, fNeg, fLt, fLe, fGt, fGe, fEq, fNe, fIs, fIsN, isNon, fIx, fIsi, tyN, seqOf, l_check_ascending_1, callZ, step_ok hk.1, h3]) (ks.map .int) ⟨[some (.dat (.lst (ks.map .int))), some (.dat (.int (-1))), none], []⟩ ⟨ks, -1, none, rfl, rfl, hp, fun k hk => ⟨h0 k hk, by have := h0 k hk; omega⟩⟩
  obtain ⟨sl, ob⟩ := s'
  simp [sQ, sSet, sNew, nmR, sIf, sRt, sRtN, sEx, sAs, sPar, sPar3, sN, sBk, sCt, zE, eV, eC, bin, una, aN, aC, cB, eT, eL, tV, tV', tN, tAn, tOr, eIf, eAn, eOr, eNo, eCall, gN, gsN, gsC, gT, gU, putS, Rs.bind, optR, rdR, vw, vwL, Rv.z, Zv.r, Ob.dt, datL, refsOf, renum, obsOf, putBack, backR, Ob.live, iS, iR1, iR2, iE, iZ, sFor, sSetIx, eMt, mApp, mExt, setL, ownL, lsOf, eCut, part, fCut, Rs.noErr, wipeS, lcEnd, fLen, fAbs, fMax2, fMin2, fInt, fList, fTuple, fAdd, fSub, fMul, fDiv, fMod, fNeg, fLt, fLe, fGt, fGe, fEq, fNe, fIs, fIsN, isNon, fIx, fIsi, tyN, seqOf, m_check_ascending, mkM, b_check_ascending, shutR, shut, kit3, e]
theorem cheapest_ok {p t j : Int} {ks : List Int} (p0 : 0 ≤ p) (t0 : 0 ≤ t) (j0 : 0 ≤ j) (hp : ks.Pairwise (· < ·)) (h0 : ∀ k ∈ ks, 0 ≤ k) :
    m_cheapest [.dat (.int p), .dat (.int t), .dat (.lst (ks.map .int)), .dat (.int j)] [] = .ok (.dat (dtB (ks.foldl (stp t j) (ab (p - t), none)))) [] := by
  generalize hF : ks.foldl (stp t j) (ab (p - t), none) = F
  obtain ⟨s', e, h⟩ := forL_inv (sg := gN 6) (body := l_cheapest_1) (fun ds s => ∃ (rest : List Int) (b : Int × Option Int) (x : Option Zv), ds = rest.map .int ∧ s = ⟨[some (.dat (.int p)), some (.dat (.int t)), some (.dat (.lst (ks.map .int))), some (.dat (.int j)), some (.dat (.int b.1)), some (.dat (optD b.2)), x], []⟩ ∧ rest.foldl (stp t j) b = F)
    (fun d ds s ⟨rest, b, x, e1, e2, e3⟩ => by
      cases rest with
      | nil => cases e1
      | cons k rest =>
        cases e1
        subst e2
        refine ⟨⟨[some (.dat (.int p)), some (.dat (.int t)), some (.dat (.lst (ks.map .int))), some (.dat (.int j)), some (.dat (.int b.1)), some (.dat (optD b.2)), some (.dat (.int k))], []⟩, .nx, _, rfl, ?_, .inl rfl, rest, stp t j b k, some (.dat (.int k)), rfl, rfl, e3⟩
        have ea : (if k - t < 0 then -(k - t) else k - t) = ab (k - t) := rfl
        by_cases h : j + ab (k - t) < b.1
        · simp [sQ, sSet, sNew, nmR, sIf, sRt, sRtN, sEx, sAs, sPar, sPar3, sN, sBk, sCt, zE, eV, eC, bin, una, aN, aC, cB, eT, eL, tV, tV', tN, tAn, tOr, eIf, eAn, eOr, eNo, eCall, gN, gsN, gsC, gT, gU, putS, Rs.bind, optR, rdR, vw, vwL, Rv.z, Zv.r, Ob.dt, datL, refsOf, renum, obsOf, putBack, backR, Ob.live, iS, iR1, iR2, iE, iZ, sFor, sSetIx, eMt, mApp, mExt, setL, ownL, lsOf, eCut, part, fCut, Rs.noErr, wipeS, lcEnd, fLen, fAbs, fMax2, fMin2, fInt, fList, fTuple, fAdd, fSub, fMul, fDiv, fMod, fNeg, fLt, fLe, fGt, fGe, fEq, fNe, fIs, fIsN, isNon, fIx, fIsi, tyN, seqOf, l_cheapest_1, stp, h, optD]
          have h' := h
          unfold ab at h'
          simp [h', ab]
        · simp [sQ, sSet, sNew, nmR, sIf, sRt, sRtN, sEx, sAs, sPar, sPar3, sN, sBk, sCt, zE, eV, eC, bin, una, aN, aC, cB, eT, eL, tV, tV', tN, tAn, tOr, eIf, eAn, eOr, eNo, eCall, gN, gsN, gsC, gT, gU, putS, Rs.bind, optR, rdR, vw, vwL, Rv.z, Zv.r, Ob.dt, datL, refsOf, renum, obsOf, putBack, backR, Ob.live, iS, iR1, iR2, iE, iZ, sFor, sSetIx, eMt, mApp, mExt, setL, ownL, lsOf, eCut, part, fCut, Rs.noErr, wipeS, lcEnd, fLen, fAbs, fMax2, fMin2, fInt, fList, fTuple, fAdd, fSub, fMul, fDiv, fMod, fNeg, fLt, fLe, fGt, fGe, fEq, fNe, fIs, fIsN, isNon, fIx, fIsi, tyN, seqOf, l_cheapest_1, stp, h]
          have h' := h
          unfold ab at h'
          simp [h'])
    (ks.map .int) ⟨[some (.dat (.int p)), some (.dat (.int t)), some (.dat (.lst (ks.map .int))), some (.dat (.int j)), some (.dat (.int (ab (p - t)))), some (.dat .non), none], []⟩ ⟨ks, (ab (p - t), none), none, rfl, rfl, hF⟩
  obtain ⟨rest, b, x, e1, e2, e3⟩ := h
  cases rest with
  | cons k rest => cases e1
  | nil =>
    subst e2
    have e3 : b = F := e3
    subst e3
    have hz : (2 : Nat) ≤ sizeLine := by decide
    simp [sQ, sSet, sNew, nmR, sIf, sRt, sRtN, sEx, sAs, sPar, sPar3, sN, sBk, sCt, zE, eV, eC, bin, una, aN, aC, cB, eT, eL, tV, tV', tN, tAn, tOr, eIf, eAn, eOr, eNo, eCall, gN, gsN, gsC, gT, gU, putS, Rs.bind, optR, rdR, vw, vwL, Rv.z, Zv.r, Ob.dt, datL, refsOf, renum, obsOf, putBack, backR, Ob.live, iS, iR1, iR2, iE, iZ, sFor, sSetIx, eMt, mApp, mExt, setL, ownL, lsOf, eCut, part, fCut, Rs.noErr, wipeS, lcEnd, fLen, fAbs, fMax2, fMin2, fInt, fList, fTuple, fAdd, fSub, fMul, fDiv, fMod, fNeg, fLt, fLe, fGt, fGe, fEq, fNe, fIs, fIsN, isNon, fIx, fIsi, tyN, seqOf, m_cheapest, mkM, b_cheapest, shutR, shut, callZ, step_ok p0, step_ok t0, asc_ok hp h0, iscount_ok j0, hz]
    have ee : (if p - t < 0 then -(p - t) else p - t) = ab (p - t) := rfl
    simp [sQ, sSet, sNew, nmR, sIf, sRt, sRtN, sEx, sAs, sPar, sPar3, sN, sBk, sCt, zE, eV, eC, bin, una, aN, aC, cB, eT, eL, tV, tV', tN, tAn, tOr, eIf, eAn, eOr, eNo, eCall, gN, gsN, gsC, gT, gU, putS, Rs.bind, optR, rdR, vw, vwL, Rv.z, Zv.r, Ob.dt, datL, refsOf, renum, obsOf, putBack, backR, Ob.live, iS, iR1, iR2, iE, iZ, sFor, sSetIx, eMt, mApp, mExt, setL, ownL, lsOf, eCut, part, fCut, Rs.noErr, wipeS, lcEnd, fLen, fAbs, fMax2, fMin2, fInt, fList, fTuple, fAdd, fSub, fMul, fDiv, fMod, fNeg, fLt, fLe, fGt, fGe, fEq, fNe, fIs, fIsN, isNon, fIx, fIsi, tyN, seqOf, ee, e, dtB, hz]
theorem minP_ii {a b c d : Int} : fMinP [.tup [.int a, .int b], .tup [.int c, .int d]] = some (.val (if c < a ∨ (c = a ∧ d < b) then .tup [.int c, .int d] else .tup [.int a, .int b])) := by
  have ok : pairOk (.tuple [.int a, .int b]) (.tuple [.int c, .int d]) = true := by
    simp [pairOk, AlikeB, PySem.W.alike, PySem.W.alikeAll, isNo, PyData.depthAll, PyData.depth]
  simp [fMinP, py, pyL, ok, PySem.W.dataLt_ii]
theorem due_ok {p t j : Int} {ks : List Int} (hp : ks.Pairwise (· < ·)) (h0 : ∀ k ∈ ks, 0 ≤ k) :
    m_q_law_due [.dat (.int p), .dat (.int t), .dat (.lst (ks.map .int)), .dat (.int j)] [] = .ok (.dat (dtB (ks.foldl (stp t j) (ab (p - t), none)))) [] := by
  generalize hF : ks.foldl (stp t j) (ab (p - t), none) = F
  obtain ⟨s', e, h⟩ := forL_inv (sg := gN 5) (body := l_q_law_due_1) (fun ds s => ∃ (rest : List Int) (b : Int × Option Int) (x : Option Zv), ds = rest.map .int ∧ s = ⟨[some (.dat (.int p)), some (.dat (.int t)), some (.dat (.lst (ks.map .int))), some (.dat (.int j)), some (.dat (.tup [.int b.1, .int (b.2.getD (-1))])), x], []⟩ ∧ rest.foldl (stp t j) b = F ∧ rest.Pairwise (· < ·) ∧ (∀ k ∈ rest, 0 ≤ k ∧ b.2.getD (-1) < k) ∧ (∀ k, b.2 = some k → 0 ≤ k))
    (fun d ds s ⟨rest, b, x, e1, e2, e3, e4, e5, e6⟩ => by
      cases rest with
      | nil => cases e1
      | cons k rest =>
        cases e1
        subst e2
        have hk := e5 k List.mem_cons_self
        have hk2 := List.pairwise_cons.mp e4
        refine ⟨⟨[some (.dat (.int p)), some (.dat (.int t)), some (.dat (.lst (ks.map .int))), some (.dat (.int j)), some (.dat (.tup [.int b.1, .int (b.2.getD (-1))])), some (.dat (.int k))], []⟩, .nx, _, rfl, ?_, .inl rfl, rest, stp t j b k, some (.dat (.int k)), rfl, rfl, e3, hk2.2, fun q hq => ⟨(e5 q (List.mem_cons_of_mem _ hq)).1, ?_⟩, fun q hq => ?_⟩
        · have h2 : (2 : Nat) ≤ sizeLine := by decide
          have ea : (if k - t < 0 then -(k - t) else k - t) = ab (k - t) := rfl
          simp [sQ, sSet, sNew, nmR, sIf, sRt, sRtN, sEx, sAs, sPar, sPar3, sN, sBk, sCt, zE, eV, eC, bin, una, aN, aC, cB, eT, eL, tV, tV', tN, tAn, tOr, eIf, eAn, eOr, eNo, eCall, gN, gsN, gsC, gT, gU, putS, Rs.bind, optR, rdR, vw, vwL, Rv.z, Zv.r, Ob.dt, datL, refsOf, renum, obsOf, putBack, backR, Ob.live, iS, iR1, iR2, iE, iZ, sFor, sSetIx, eMt, mApp, mExt, setL, ownL, lsOf, eCut, part, fCut, Rs.noErr, wipeS, lcEnd, fLen, fAbs, fMax2, fMin2, fInt, fList, fTuple, fAdd, fSub, fMul, fDiv, fMod, fNeg, fLt, fLe, fGt, fGe, fEq, fNe, fIs, fIsN, isNon, fIx, fIsi, tyN, seqOf, l_q_law_due_1, h2, ea, minP_ii]
          by_cases h : j + ab (k - t) < b.1
          · simp [stp, h]
          · have h9 : ¬ (j + ab (k - t) = b.1 ∧ k < b.2.getD (-1)) := fun z => by omega
            simp [stp, h, h9]
        · unfold stp
          split
          · exact hk2.1 q hq
          · exact (e5 q (List.mem_cons_of_mem _ hq)).2
        · unfold stp at hq
          split at hq
          · cases hq; exact hk.1
          · exact e6 q hq)
    (ks.map .int) ⟨[some (.dat (.int p)), some (.dat (.int t)), some (.dat (.lst (ks.map .int))), some (.dat (.int j)), some (.dat (.tup [.int (ab (p - t)), .int (-1)])), none], []⟩ ⟨ks, (ab (p - t), none), none, rfl, rfl, hF, hp, fun k hk => ⟨h0 k hk, by have := h0 k hk; show (-1 : Int) < k; omega⟩, fun k hk => by cases hk⟩
  obtain ⟨rest, b, x, e1, e2, e3, _, _, e6⟩ := h
  cases rest with
  | cons k rest => cases e1
  | nil =>
    subst e2
    have e3 : b = F := e3
    subst e3
    have hz : (2 : Nat) ≤ sizeLine := by decide
    have ee : (if p - t < 0 then -(p - t) else p - t) = ab (p - t) := rfl
    have i0 : ∀ x y : Dt, atI [x, y] 0 = some x := fun x y => rfl
    have i1 : ∀ x y : Dt, atI [x, y] 1 = some y := fun x y => rfl
    obtain ⟨b1, b2⟩ := b
    cases b2 with
    | none =>
      simp at e
      simp [sQ, sSet, sNew, nmR, sIf, sRt, sRtN, sEx, sAs, sPar, sPar3, sN, sBk, sCt, zE, eV, eC, bin, una, aN, aC, cB, eT, eL, tV, tV', tN, tAn, tOr, eIf, eAn, eOr, eNo, eCall, gN, gsN, gsC, gT, gU, putS, Rs.bind, optR, rdR, vw, vwL, Rv.z, Zv.r, Ob.dt, datL, refsOf, renum, obsOf, putBack, backR, Ob.live, iS, iR1, iR2, iE, iZ, sFor, sSetIx, eMt, mApp, mExt, setL, ownL, lsOf, eCut, part, fCut, Rs.noErr, wipeS, lcEnd, fLen, fAbs, fMax2, fMin2, fInt, fList, fTuple, fAdd, fSub, fMul, fDiv, fMod, fNeg, fLt, fLe, fGt, fGe, fEq, fNe, fIs, fIsN, isNon, fIx, fIsi, tyN, seqOf, m_q_law_due, mkM, b_q_law_due, shutR, shut, hz, ee, e, i0, i1, dtB, optD]
    | some k =>
      have hk : ¬ k < 0 := by have := e6 k rfl; omega
      simp at e
      simp [sQ, sSet, sNew, nmR, sIf, sRt, sRtN, sEx, sAs, sPar, sPar3, sN, sBk, sCt, zE, eV, eC, bin, una, aN, aC, cB, eT, eL, tV, tV', tN, tAn, tOr, eIf, eAn, eOr, eNo, eCall, gN, gsN, gsC, gT, gU, putS, Rs.bind, optR, rdR, vw, vwL, Rv.z, Zv.r, Ob.dt, datL, refsOf, renum, obsOf, putBack, backR, Ob.live, iS, iR1, iR2, iE, iZ, sFor, sSetIx, eMt, mApp, mExt, setL, ownL, lsOf, eCut, part, fCut, Rs.noErr, wipeS, lcEnd, fLen, fAbs, fMax2, fMin2, fInt, fList, fTuple, fAdd, fSub, fMul, fDiv, fMod, fNeg, fLt, fLe, fGt, fGe, fEq, fNe, fIs, fIsN, isNon, fIx, fIsi, tyN, seqOf, m_q_law_due, mkM, b_q_law_due, shutR, shut, hz, ee, e, i0, i1, dtB, optD, hk]
def Bd (b : Int × Option Int) : Prop := b.1.natAbs < 10 ^ 40 ∧ ∀ k, b.2 = some k → k.natAbs < 10 ^ 40
theorem bd_fold {t j : Int} (ht : 0 ≤ t ∧ t < 10 ^ 30) (hj : 0 ≤ j ∧ j < 10 ^ 30) : ∀ (ks : List Int) (b : Int × Option Int), (∀ k ∈ ks, 0 ≤ k ∧ k < 10 ^ 30) → Bd b → Bd (ks.foldl (stp t j) b)
  | [], b, _, h => h
  | k :: ks, b, hk, h => by
    refine bd_fold ht hj ks _ (fun q hq => hk q (List.mem_cons_of_mem _ hq)) ?_
    have h1 := hk k List.mem_cons_self
    unfold stp
    split
    · refine ⟨?_, fun q e => by cases e; omega⟩
      show (j + ab (k - t)).natAbs < 10 ^ 40
      unfold ab
      split <;> omega
    · exact h
theorem showI {i : Int} (h : i.natAbs < 10 ^ 40) : i.natAbs.log2 < 1920 := by
  by_cases h0 : i.natAbs = 0
  · rw [h0]; decide
  · refine (Nat.log2_lt h0).mpr (Nat.lt_of_lt_of_le h ?_)
    calc 10 ^ 40 ≤ 2 ^ 200 := by decide
      _ ≤ 2 ^ 1920 := Nat.pow_le_pow_right (by decide) (by decide)
theorem lenI {i : Int} (h : i.natAbs < 10 ^ 40) : (Str.ofString (toString i)).length ≤ 41 := by
  have h1 := int_text_length_le10 (k := 40) (by decide) h
  rw [PySem.ofString_length]
  omega
theorem repr_ok {b : Int × Option Int} (h : Bd b) : ∃ z : Str, fRepr [dtB b] = some (.val (.str z)) := by
  obtain ⟨b1, b2⟩ := b
  have hs : (164 : Nat) ≤ sizeLine := by decide
  cases b2 with
  | none =>
    have l1 : (Str.ofString b1.repr).length ≤ 41 := lenI h.1
    have ok : reprOk (.tuple [.int b1, .none]) = true := by
      simp [reprOk, PyData.showable, PyData.showableAll, PyData.hasDict, PyData.hasDictAll, PyData.depth, PyData.depthAll, showI h.1, PyData.shown, PyData.shownAll, tupleText, Str.join, Str.length_append]
      have e0 : (Str.ofString "(").length = 1 := by decide
      have e1 : (Str.ofString ", ").length = 2 := by decide
      have e2 : (Str.ofString "None").length = 4 := by decide
      have e3 : (Str.ofString ")").length = 1 := by decide
      omega
    exact ⟨_, by simp [fRepr, dtB, optD, py, pyL, ok]; rfl⟩
  | some k =>
    have l1 : (Str.ofString b1.repr).length ≤ 41 := lenI h.1
    have l2 : (Str.ofString k.repr).length ≤ 41 := lenI (h.2 k rfl)
    have ok : reprOk (.tuple [.int b1, .int k]) = true := by
      simp [reprOk, PyData.showable, PyData.showableAll, PyData.hasDict, PyData.hasDictAll, PyData.depth, PyData.depthAll, showI h.1, showI (h.2 k rfl), PyData.shown, PyData.shownAll, tupleText, Str.join, Str.length_append]
      have e0 : (Str.ofString "(").length = 1 := by decide
      have e1 : (Str.ofString ", ").length = 2 := by decide
      have e3 : (Str.ofString ")").length = 1 := by decide
      omega
    exact ⟨_, by simp [fRepr, dtB, optD, py, pyL, ok]; rfl⟩
/-! ### the law -/
theorem cut_ints {ks : List Int} {lo hi : Option Int} : ∃ ms : List Int, cutD (ks.map .int) lo hi = ms.map .int ∧ ms.Sublist ks := by
  unfold cutD
  rw [← List.map_drop, ← List.map_take]
  exact ⟨_, rfl, (List.take_sublist _ _).trans (List.drop_sublist _ _)⟩
theorem choose_int {o : Ob} {ns : List Int} (so : Sok o) (h0 : ns ≠ []) (h1 : ns.length < 100) : ∃ (d : Int) (o' : Ob), m_q_law_choose [.ref 0, .dat (.lst (ns.map .int))] [o] = .ok (.dat (.int d)) [o'] ∧ d ∈ ns ∧ Sok o' := by
  obtain ⟨d, o', e, hm, so'⟩ := choose_ok (ds := ns.map .int) so (by simpa using h0) (by simpa using h1)
  obtain ⟨k, hk, rfl⟩ := List.mem_map.mp hm
  exact ⟨k, o', e, hk, so'⟩
theorem ne_ints (ks : List Int) : fNe (.lst (ks.map .int)) (.lst (ks.map .int)) = some (.val (.bl false)) := by
  have hp : ∀ l : List Int, pyL (l.map .int) = some (l.map .int) := fun l => by
    induction l with
    | nil => rfl
    | cons x xs ih => simp [pyL, py, ih]
  have hc : ∀ l : List Int, PyData.canLayAll0 (l.map .int) = true := fun l => by
    induction l with
    | nil => rfl
    | cons x xs ih => simp [PyData.canLayAll0, PyData.canLay0, ih]
  have hd : ∀ l : List Int, PyData.depthAll (l.map .int) ≤ 1 := fun l => by
    induction l with
    | nil => simp [PyData.depthAll]
    | cons x xs ih => simp [PyData.depthAll, PyData.depth]; omega
  have c1 : PyData.canLay0 (.list (ks.map .int)) = true := by simp [PyData.canLay0, hc]
  have hs : SeqAt.shaped (.list (ks.map .int)) = true := by
    have := hd ks
    simp [SeqAt.shaped, c1, PyData.depth]
    omega
  have he : PyData.eqv (.list (ks.map .int)) (.list (ks.map .int)) = true := PySem.SeqAt.eqv_refl _ c1
  simp [fNe, eqD, py, hp, hs, he]
def In (ns : List Int) (ds : List Dt) (s : Sg) : Prop := ∃ (z3 z4 z5 z6 z7 z8 z9 : Option Zv) (kk : Nat) (n : Nat) (o : Ob), s.sl = [some (.dat (.rol (ns.map .int))), some (.dat (.int kk)), some (.ref n), z3, z4, z5, z6, z7, z8, z9] ∧ s.ob[n]? = some o ∧ Sok o
theorem turn_ok {ns : List Int} (d : Dt) (ds : List Dt) (s : Sg) (h : In ns (d :: ds) s) : ∃ s1 fl s2, gN 3 d s = .ok () s1 ∧ l_law_1 s1 = .ok fl s2 ∧ (fl = .nx ∨ fl = .ct) ∧ In ns ds s2 := by
  obtain ⟨z3, z4, z5, z6, z7, z8, z9, kk, n, o, e1, e2, so⟩ := h
  obtain ⟨sl, ob⟩ := s
  have e1 : sl = _ := e1
  have e2 : ob[n]? = some o := e2
  subst e1
  have hn : n < ob.length := (List.getElem?_eq_some_iff.mp e2).1
  obtain ⟨p, t, ks, o1, s1, so1, hp, ht, hup, hks⟩ := steps_ok so
  obtain ⟨r, o2, s2, r0, r1, so2⟩ := draw_ok (c := 9) so1 (by decide) (by decide)
  obtain ⟨j, o3, s3, hj, so3⟩ := choose_int (ns := [0, 1, 2, 5, 20, 100000000000000000000000000000]) so2 (by simp) (by simp)
  have hj : 0 ≤ j ∧ j < 10 ^ 30 := by
    simp at hj
    rcases hj with rfl | rfl | rfl | rfl | rfl | rfl <;> exact ⟨by decide, by decide⟩
  obtain ⟨ms, em, sub⟩ := cut_ints (ks := ks) (lo := none) (hi := some r)
  have mup := List.Pairwise.sublist sub hup
  have hms : ∀ k ∈ ms, 0 ≤ k ∧ k < 10 ^ 30 := fun k hk => hks k (sub.subset hk)
  have c1 := cheapest_ok hp.1 ht.1 hj.1 mup (fun k hk => (hms k hk).1)
  have c2 := due_ok (p := p) (t := t) (j := j) mup (fun k hk => (hms k hk).1)
  obtain ⟨z, ez⟩ := repr_ok (bd_fold (t := t) (j := j) ht hj ms (ab (p - t), none) hms ⟨by show (ab (p - t)).natAbs < _; unfold ab; split <;> omega, fun k e => by cases e⟩)
  obtain ⟨a0, b0, rfl, _, _⟩ := id so
  obtain ⟨a1, b1, rfl, _, _⟩ := id so1
  obtain ⟨a2, b2, rfl, _, _⟩ := id so2
  obtain ⟨a3, b3, rfl, _, _⟩ := id so3
  obtain ⟨hn', eg⟩ := List.getElem?_eq_some_iff.mp e2
  have ep : fPow (.int 10) (.int 29) = some (.val (.int 100000000000000000000000000000)) := by simp [fPow]
  have h6 : (6 : Nat) ≤ sizeLine := by decide
  refine ⟨⟨[some (.dat (.rol (ns.map .int))), some (.dat (.int kk)), some (.ref n), some (.dat d), z4, z5, z6, z7, z8, z9], ob⟩, .nx, ⟨[some (.dat (.rol (ns.map .int))), some (.dat (.int kk)), some (.ref n), some (.dat d), some (.dat (.int p)), some (.dat (.int t)), some (.dat (.lst (ms.map .int))), some (.dat (.int j)), some (.dat (.lst (ms.map .int))), some (.dat (dtB (ms.foldl (stp t j) (ab (p - t), none))))], ob.set n (.lst [.int a3, .int b3])⟩, rfl, ?_, .inl rfl, ?_⟩
  · simp at s3
    have en := ne_ints ms
    simp only [fNe] at en
    simp [sQ, sSet, sNew, nmR, sIf, sRt, sRtN, sEx, sAs, sPar, sPar3, sN, sBk, sCt, zE, eV, eC, bin, una, aN, aC, cB, eT, eL, tV, tV', tN, tAn, tOr, eIf, eAn, eOr, eNo, eCall, gN, gsN, gsC, gT, gU, putS, Rs.bind, optR, rdR, vw, vwL, Rv.z, Zv.r, Ob.dt, datL, refsOf, renum, obsOf, putBack, backR, Ob.live, iS, iR1, iR2, iE, iZ, sFor, sSetIx, eMt, mApp, mExt, setL, ownL, lsOf, eCut, part, fCut, Rs.noErr, wipeS, lcEnd, fLen, fAbs, fMax2, fMin2, fInt, fList, fTuple, fAdd, fSub, fMul, fDiv, fMod, fNeg, fLt, fLe, fGt, fGe, fEq, fNe, fIs, fIsN, isNon, fIx, fIsi, tyN, seqOf, l_law_1, callZ, hn, eg, s1, s2, s3, em, ep, h6, c1, c2, ez, en]
  · exact ⟨_, _, _, _, _, _, _, kk, n, _, rfl, by simp [hn], so3⟩
def Ou (ns : List Int) (ds : List Dt) (s : Sg) : Prop := ∃ (z1 z2 z3 z4 z5 z6 z7 z8 z9 : Option Zv) (lo hi : Nat), s.sl = [some (.dat (.rol (ns.map .int))), z1, z2, z3, z4, z5, z6, z7, z8, z9] ∧ hi ≤ 1000 ∧ ds = (List.range' lo (hi - lo)).map fun i : Nat => Dt.int (i : Int)
theorem round_ok {ns : List Int} (d : Dt) (ds : List Dt) (s : Sg) (h : Ou ns (d :: ds) s) : ∃ s1 fl s2, gN 1 d s = .ok () s1 ∧ l_law_2 s1 = .ok fl s2 ∧ (fl = .nx ∨ fl = .ct) ∧ Ou ns ds s2 := by
  obtain ⟨z1, z2, z3, z4, z5, z6, z7, z8, z9, lo, hi, e1, hh, ed⟩ := h
  obtain ⟨sl, ob⟩ := s
  have e1 : sl = _ := e1
  subst e1
  obtain ⟨m, hm⟩ : ∃ m, hi - lo = m + 1 := by
    cases hq : hi - lo with
    | zero => rw [hq] at ed; cases ed
    | succ m => exact ⟨m, rfl⟩
  rw [hm, List.range'_succ, List.map_cons] at ed
  cases ed
  obtain ⟨o, eo, so⟩ := stream_ok (ns := ns) (k := lo) (by omega)
  obtain ⟨a0, b0, rfl, _, _⟩ := id so
  obtain ⟨s', e, g⟩ := forL_inv (sg := gN 3) (body := l_law_1) (In ns) turn_ok (rng 0 10) ⟨[some (.dat (.rol (ns.map .int))), some (.dat (.int (lo : Int))), some (.ref ob.length), z3, z4, z5, z6, z7, z8, z9], ob ++ [.lst [.int a0, .int b0]]⟩
    ⟨z3, z4, z5, z6, z7, z8, z9, lo, ob.length, _, rfl, by simp, so⟩
  obtain ⟨y3, y4, y5, y6, y7, y8, y9, kk, n, o', g1, _, _⟩ := g
  refine ⟨⟨[some (.dat (.rol (ns.map .int))), some (.dat (.int (lo : Int))), z2, z3, z4, z5, z6, z7, z8, z9], ob⟩, .nx, s', rfl, ?_, .inl rfl, some (.dat (.int (kk : Int))), some (.ref n), y3, y4, y5, y6, y7, y8, y9, lo + 1, hi, g1, hh, by rw [show hi - (lo + 1) = m by omega]⟩
  have er : rngOk 0 10 = true := by decide
  simp [sQ, sSet, sNew, nmR, sIf, sRt, sRtN, sEx, sAs, sPar, sPar3, sN, sBk, sCt, zE, eV, eC, bin, una, aN, aC, cB, eT, eL, tV, tV', tN, tAn, tOr, eIf, eAn, eOr, eNo, eCall, gN, gsN, gsC, gT, gU, putS, Rs.bind, optR, rdR, vw, vwL, Rv.z, Zv.r, Ob.dt, datL, refsOf, renum, obsOf, putBack, backR, Ob.live, iS, iR1, iR2, iE, iZ, sFor, sSetIx, eMt, mApp, mExt, setL, ownL, lsOf, eCut, part, fCut, Rs.noErr, wipeS, lcEnd, fLen, fAbs, fMax2, fMin2, fInt, fList, fTuple, fAdd, fSub, fMul, fDiv, fMod, fNeg, fLt, fLe, fGt, fGe, fEq, fNe, fIs, fIsN, isNon, fIx, fIsi, tyN, seqOf, l_law_2, callZ, eo, er, e]
theorem law_ok : LawOk 63 m_law := by
  intro ns hl _
  have er : rngOk 0 (max 1 (min 12 (ns.length : Int))) = true := by
    unfold rngOk
    simp only [Bool.and_eq_true, decide_eq_true_eq]
    omega
  obtain ⟨s', e, g⟩ := forL_inv (sg := gN 1) (body := l_law_2) (Ou ns) round_ok (rng 0 (max 1 (min 12 (ns.length : Int))).toNat) ⟨[some (.dat (.rol (ns.map .int))), none, none, none, none, none, none, none, none, none], []⟩
    ⟨none, none, none, none, none, none, none, none, none, 0, (max 1 (min 12 (ns.length : Int))).toNat, rfl, by omega, by simp [rng, List.range_eq_range']⟩
  obtain ⟨y1, y2, y3, y4, y5, y6, y7, y8, y9, lo, hi, g1, _, _⟩ := g
  obtain ⟨sl, ob⟩ := s'
  have g1 : sl = _ := g1
  subst g1
  have c1 := cheapest_ok (p := 5) (t := 5) (j := 0) (ks := [5]) (by decide) (by decide) (by decide) (by simp) (by simp)
  have c2 := cheapest_ok (p := 0) (t := 9) (j := 0) (ks := []) (by decide) (by decide) (by decide) (by simp) (by simp)
  have f1 : [(5 : Int)].foldl (stp 5 0) (ab (5 - 5), none) = (0, none) := by decide
  have f2 : ([] : List Int).foldl (stp 9 0) (ab (0 - 9), none) = (9, none) := by decide
  rw [f1] at c1
  rw [f2] at c2
  have q1 : eqD (dtB (0, none)) (.tup [.int 0, .non]) = some true := by
    simp [eqD, dtB, optD, py, pyL, SeqAt.shaped, PyData.canLay0, PyData.canLayAll0, PyData.depth, PyData.depthAll, PyData.eqv, PyData.eqvAll]
  have q2 : eqD (dtB (9, none)) (.tup [.int 9, .non]) = some true := by
    simp [eqD, dtB, optD, py, pyL, SeqAt.shaped, PyData.canLay0, PyData.canLayAll0, PyData.depth, PyData.depthAll, PyData.eqv, PyData.eqvAll]
  have mx : (if min (12 : Int) (ns.length : Int) > 1 then min (12 : Int) (ns.length : Int) else 1) = max 1 (min 12 (ns.length : Int)) := by
    split <;> omega
  have mn : (if (ns.length : Int) < 12 then (ns.length : Int) else 12) = min 12 (ns.length : Int) := by
    split <;> omega
  have h2 : (2 : Nat) ≤ sizeLine := by decide
  have h1 : (1 : Nat) ≤ sizeLine := by decide
  simp at c1 c2
  simp [sQ, sSet, sNew, nmR, sIf, sRt, sRtN, sEx, sAs, sPar, sPar3, sN, sBk, sCt, zE, eV, eC, bin, una, aN, aC, cB, eT, eL, tV, tV', tN, tAn, tOr, eIf, eAn, eOr, eNo, eCall, gN, gsN, gsC, gT, gU, putS, Rs.bind, optR, rdR, vw, vwL, Rv.z, Zv.r, Ob.dt, datL, refsOf, renum, obsOf, putBack, backR, Ob.live, iS, iR1, iR2, iE, iZ, sFor, sSetIx, eMt, mApp, mExt, setL, ownL, lsOf, eCut, part, fCut, Rs.noErr, wipeS, lcEnd, fLen, fAbs, fMax2, fMin2, fInt, fList, fTuple, fAdd, fSub, fMul, fDiv, fMod, fNeg, fLt, fLe, fGt, fGe, fEq, fNe, fIs, fIsN, isNon, fIx, fIsi, tyN, seqOf, m_law, mkM, b_law, shutR, shut, mn, mx, er, e, callZ, c1, c2, q1, q2, h1, h2]
end L
end HD
open PySem PySem.W PyProof.Rows
set_option maxRecDepth 100000 in
set_option maxHeartbeats 0 in
theorem PySem.Challenge.cw_frugaltape_k82_cheapest_ways_holds : PySem.Challenge.rw_frugaltape_k82_cheapest_ways.Holds := by
  w_on; o_law; k_head; (case hw => w_witness2)
  k_fill
  refine HD.walk_g (l := PySem.Challenge.rw_frugaltape_k82_cheapest_ways) (m := fun _ => HD.L.m_law) (k := 6) (x := "script") rfl (by decide) rfl ⟨rfl, by decide, by decide⟩ (fun w h Y => PySem.W.kIn_of Y) ?F (fun _ => HD.L.law_ok)
  case F =>
    intro w mg fa h KX G hmg
    refine' HD.L.all_mk KX G hmg ?n_len ?n_max ?n_int ?n_range ?n_sorted ?n_set ?n_isinstance ?n_bool ?n_list ?n_abs ?n_min ?n_repr ?a0 ?l0 ?e0 ?k0 ?a1 ?l1 ?e1 ?k1 ?a2 ?l2 ?e2 ?k2 ?a3 ?l3 ?e3 ?k3 ?a4 ?l4 ?e4 ?k4 ?a5 ?l5 ?e5 ?k5 ?a6 ?l6 ?e6 ?k6 ?a7 ?l7 ?e7 ?k7 ?a8 ?l8 ?e8 ?k8 ?a9 ?l9 ?e9 ?k9 ?a10 ?l10 ?e10 ?k10
    (case n_len => k_is)
    (case n_max => k_is)
    (case n_int => k_is)
    (case n_range => k_is)
    (case n_sorted => k_is)
    (case n_set => k_is)
    (case n_isinstance => k_is)
    (case n_bool => k_is)
    (case n_list => k_is)
    (case n_abs => k_is)
    (case n_min => k_is)
    (case n_repr => k_is)
    (case a0 => k_is)
    (case l0 => k_is)
    (case e0 => k_is)
    (case k0 => k_is)
    (case a1 => k_is)
    (case l1 => k_is)
    (case e1 => k_is)
    (case k1 => k_is)
    (case a2 => k_is)
    (case l2 => k_is)
    (case e2 => k_is)
    (case k2 => k_is)
    (case a3 => k_is)
    (case l3 => k_is)
    (case e3 => k_is)
    (case k3 => k_is)
    (case a4 => k_is)
    (case l4 => k_is)
    (case e4 => k_is)
    (case k4 => k_is)
    (case a5 => k_is)
    (case l5 => k_is)
    (case e5 => k_is)
    (case k5 => k_is)
    (case a6 => k_is)
    (case l6 => k_is)
    (case e6 => k_is)
    (case k6 => k_is)
    (case a7 => k_is)
    (case l7 => k_is)
    (case e7 => k_is)
    (case k7 => k_is)
    (case a8 => k_is)
    (case l8 => k_is)
    (case e8 => k_is)
    (case k8 => k_is)
    (case a9 => k_is)
    (case l9 => k_is)
    (case e9 => k_is)
    (case k9 => k_is)
    (case a10 => k_is)
    (case l10 => k_is)
    (case e10 => k_is)
    (case k10 => k_is)
