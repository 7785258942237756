import PyProof.Rows.All
import Wide.All
import OpenK.AllK
import Wide.FinOn
import HandS.ForMost
import HandS.ForExc
import HandS.IsInst
import HandS.Defaults
import HandS.MakeKwOnly
import HandS.MakeKw
import HandS.CallSlots
import HandS.OwnEq
import HandS.Codes
import HandS.Flow
import HandS.Style
import HandS.TupLe
import HandS.TupAny
import HandS.Deep
import HandS.TupMul
import HandS.WordsDict
import HandS.Head0
import HandS.Head1
import HandS.Head2
import HandS.HeadEnd
import HandS.HeadHook1
import HandS.HeadHook2
import HandS.HeadHook3
import HandS.HeadHook4
import PySem.Challenge.RW_cutofftills_k01_names_and_memories
set_option Elab.async false
set_option linter.all false
set_option maxRecDepth 100000
set_option maxHeartbeats 4000000
namespace PyD
open PySem PySem.Spec PyProof.Rows L2

/-! ### plain data -/
inductive D where
  | non | bl (b : Bool) | int (i : Int) | str (x : Str) | ty (n : String)
  | lst (xs : List D) | tup (xs : List D) | scr (ns : List Int)
  | dct (kvs : List (Key × D)) | obj (c : Nat) (fs : List (Str × D)) | cls (c : Nat) | fn (f : Nat)
instance : Inhabited D := ⟨.non⟩

/-- the program's written part, where its classes and defs stand -/
structure Gx where
  K : PySem.W.Frag
  cl : Nat → Addr
  fa : Nat → Addr

mutual
inductive Dp (G : Gx) (F : Hp) : V → D → Prop
  | non : Dp G F .non .non
  | bl (b : Bool) : Dp G F (.bl b) (.bl b)
  | int (i : Int) : Dp G F (.int i) (.int i)
  | str (x : Str) : Dp G F (.str x) (.str x)
  | ty (n : String) : Dp G F (.ty n) (.ty n)
  | lst {a : Addr} {vs : List V} {ds : List D} : F a = some (.lst vs) → DpL G F vs ds → Dp G F (.ref a) (.lst ds)
  | tup {a : Addr} {vs : List V} {ds : List D} : SqT G.K F a vs → DpL G F vs ds → Dp G F (.ref a) (.tup ds)
  | scr {a : Addr} {ns : List Int} : SqL G.K F a (ns.map V.int) → Dp G F (.ref a) (.scr ns)
  | dct {a : Addr} {kvs : List (Key × V)} {kds : List (Key × D)} : F a = some (.dK kvs) → DpK G F kvs kds → Dp G F (.ref a) (.dct kds)
  | obj {a dx : Addr} {c : Nat} {fs : List (Str × V)} {fds : List (Str × D)} : F a = some (.ins (G.cl c) dx fs) → DpF G F fs fds → Dp G F (.ref a) (.obj c fds)
  | cls (c : Nat) : Dp G F (.ref (G.cl c)) (.cls c)
  | fn (f : Nat) : Dp G F (.ref (G.fa f)) (.fn f)
inductive DpL (G : Gx) (F : Hp) : List V → List D → Prop
  | nil : DpL G F [] []
  | cons {v : V} {d : D} {vs : List V} {ds : List D} : Dp G F v d → DpL G F vs ds → DpL G F (v :: vs) (d :: ds)
inductive DpK (G : Gx) (F : Hp) : List (Key × V) → List (Key × D) → Prop
  | nil : DpK G F [] []
  | cons {k : Key} {v : V} {d : D} {vs : List (Key × V)} {ds : List (Key × D)} : Dp G F v d → DpK G F vs ds → DpK G F ((k, v) :: vs) ((k, d) :: ds)
inductive DpF (G : Gx) (F : Hp) : List (Str × V) → List (Str × D) → Prop
  | nil : DpF G F [] []
  | cons {k : Str} {v : V} {d : D} {vs : List (Str × V)} {ds : List (Str × D)} : Dp G F v d → DpF G F vs ds → DpF G F ((k, v) :: vs) ((k, d) :: ds)
end

theorem sqT_ext {K : PySem.W.Frag} {H H' : Hp} {a : Addr} {xs : List V} (h : SqT K H a xs) (e : Same H H') : SqT K H' a xs := by
  rcases h with (h | ⟨o, h⟩) | h
  · exact .inl (.inl (e _ _ h))
  · exact .inl (.inr ⟨o, e _ _ h⟩)
  · exact .inr h

section
variable {G : Gx} {F F' : Hp}
theorem Dp.mono {v : V} {d : D} (e : Same F F') (h : Dp G F v d) : Dp G F' v d := by
  refine Dp.rec (motive_1 := fun v d _ => Dp G F' v d) (motive_2 := fun v d _ => DpL G F' v d) (motive_3 := fun v d _ => DpK G F' v d) (motive_4 := fun v d _ => DpF G F' v d)
    .non .bl .int .str .ty (fun h _ i => .lst (e _ _ h) i) (fun h _ i => .tup (sqT_ext h e) i) (fun h => .scr (e.seq h)) (fun h _ i => .dct (e _ _ h) i) (fun h _ i => .obj (e _ _ h) i) .cls .fn .nil (fun _ _ i j => .cons i j) .nil (fun _ _ i j => .cons i j) .nil (fun _ _ i j => .cons i j) h
theorem DpL.mono (e : Same F F') : ∀ {vs : List V} {ds : List D}, DpL G F vs ds → DpL G F' vs ds
  | _, _, .nil => .nil
  | _, _, .cons h t => .cons (h.mono e) (DpL.mono e t)
theorem DpK.mono (e : Same F F') : ∀ {vs : List (Key × V)} {ds : List (Key × D)}, DpK G F vs ds → DpK G F' vs ds
  | _, _, .nil => .nil
  | _, _, .cons h t => .cons (h.mono e) (DpK.mono e t)
theorem DpF.mono (e : Same F F') : ∀ {vs : List (Str × V)} {ds : List (Str × D)}, DpF G F vs ds → DpF G F' vs ds
  | _, _, .nil => .nil
  | _, _, .cons h t => .cons (h.mono e) (DpF.mono e t)
theorem DpL.length : ∀ {vs : List V} {ds : List D}, DpL G F vs ds → vs.length = ds.length
  | _, _, .nil => rfl
  | _, _, .cons _ t => by simp [DpL.length t]
theorem DpK.length : ∀ {vs : List (Key × V)} {ds : List (Key × D)}, DpK G F vs ds → vs.length = ds.length
  | _, _, .nil => rfl
  | _, _, .cons _ t => by simp [DpK.length t]
theorem DpF.length : ∀ {vs : List (Str × V)} {ds : List (Str × D)}, DpF G F vs ds → vs.length = ds.length
  | _, _, .nil => rfl
  | _, _, .cons _ t => by simp [DpF.length t]
theorem DpL.get : ∀ {vs : List V} {ds : List D} {i : Nat} {d : D}, DpL G F vs ds → ds[i]? = some d → ∃ v, vs[i]? = some v ∧ Dp G F v d
  | _, _, _, _, .nil, e => by simp at e
  | _, _, 0, _, .cons h _, e => by simp at e; subst e; exact ⟨_, rfl, h⟩
  | _, _, i + 1, d, .cons _ t, e => by
    obtain ⟨v, h1, h2⟩ := DpL.get (i := i) (d := d) t (by simpa using e)
    exact ⟨v, by simpa using h1, h2⟩
theorem DpL.getV : ∀ {vs : List V} {ds : List D} {i : Nat} {v : V}, DpL G F vs ds → vs[i]? = some v → ∃ d, ds[i]? = some d ∧ Dp G F v d
  | _, _, _, _, .nil, e => by simp at e
  | _, _, 0, _, .cons h _, e => by simp at e; subst e; exact ⟨_, rfl, h⟩
  | _, _, i + 1, v, .cons _ t, e => by
    obtain ⟨d, h1, h2⟩ := DpL.getV (i := i) (v := v) t (by simpa using e)
    exact ⟨d, by simpa using h1, h2⟩
theorem DpL.append : ∀ {vs ws : List V} {ds es : List D}, DpL G F vs ds → DpL G F ws es → DpL G F (vs ++ ws) (ds ++ es)
  | _, _, _, _, .nil, s => s
  | _, _, _, _, .cons h t, s => .cons h (DpL.append t s)
theorem DpL.take : ∀ {vs : List V} {ds : List D} (n : Nat), DpL G F vs ds → DpL G F (vs.take n) (ds.take n)
  | _, _, 0, _ => by simp; exact .nil
  | _, _, _ + 1, .nil => .nil
  | _, _, n + 1, .cons h t => .cons h (DpL.take n t)
theorem DpL.drop : ∀ {vs : List V} {ds : List D} (n : Nat), DpL G F vs ds → DpL G F (vs.drop n) (ds.drop n)
  | _, _, 0, h => h
  | _, _, _ + 1, .nil => .nil
  | _, _, n + 1, .cons _ t => DpL.drop n t
theorem DpL.set {v : V} {d : D} (h : Dp G F v d) : ∀ {vs : List V} {ds : List D} (i : Nat), DpL G F vs ds → DpL G F (vs.set i v) (ds.set i d)
  | _, _, _, .nil => .nil
  | _, _, 0, .cons _ t => .cons h t
  | _, _, i + 1, .cons q t => .cons q (DpL.set h i t)
theorem DpL.rep {vs : List V} {ds : List D} (h : DpL G F vs ds) : ∀ k : Nat, DpL G F (List.replicate k vs).flatten (List.replicate k ds).flatten
  | 0 => .nil
  | k + 1 => by
    simp only [List.replicate_succ, List.flatten_cons]
    exact h.append (DpL.rep h k)
theorem DpL.dropLast {vs : List V} {ds : List D} (h : DpL G F vs ds) : DpL G F vs.dropLast ds.dropLast := by
  rw [List.dropLast_eq_take, List.dropLast_eq_take, h.length]
  exact h.take _
theorem DpF.look : ∀ {vs : List (Str × V)} {ds : List (Str × D)} {k : Str} {d : D}, DpF G F vs ds → ds.lookup k = some d → ∃ v, vs.lookup k = some v ∧ Dp G F v d
  | _, _, _, _, .nil, e => by simp at e
  | _, _, k, d, .cons (k := k') h t, e => by
    simp only [List.lookup_cons] at e ⊢
    cases q : (k == k') with
    | true => rw [q] at e; simp at e; subst e; exact ⟨_, rfl, h⟩
    | false => rw [q] at e; exact DpF.look t e
theorem DpF.lookN : ∀ {vs : List (Str × V)} {ds : List (Str × D)} {k : Str}, DpF G F vs ds → ds.lookup k = none → vs.lookup k = none
  | _, _, _, .nil, _ => rfl
  | _, _, k, .cons (k := k') h t, e => by
    simp only [List.lookup_cons] at e ⊢
    cases q : (k == k') with
    | true => rw [q] at e; simp at e
    | false => rw [q] at e; exact DpF.lookN t e
end
/-- a field stored -/
def putD (f : Str) (v : D) : List (Str × D) → List (Str × D)
  | [] => [(f, v)]
  | p :: r => if p.1 = f then (f, v) :: r else p :: putD f v r
end PyD

namespace PyD
open PySem PySem.Spec PyProof.Rows L2

section
variable {G : Gx} {F F' : Hp}
theorem DpF.put {f : Str} {v : V} {d : D} (h : Dp G F v d) : ∀ {vs : List (Str × V)} {ds : List (Str × D)}, DpF G F vs ds → DpF G F (putF f v vs) (putD f d ds)
  | _, _, .nil => .cons h .nil
  | _, _, .cons (k := k) (v := v') (d := d') q t => by
    unfold putF putD
    by_cases e : k = f
    · simp only [e, if_true]; exact .cons h t
    · simp only [e, if_false]; exact .cons q (DpF.put h t)
end

/-! ### slots: a plain value, or a cell (list, dict, object) that this frame alone knows -/
inductive Slot where
  | val (d : D)
  | own (b : Option Nat) (d : D)
abbrev St := L2.St
abbrev Rho := List (Option Slot)
structure Gm where
  G : Gx
  β : Nat → Addr

def Cell (G : Gx) (F H : Hp) (a : Addr) : D → Prop
  | .lst ds => ∃ vs, H a = some (.lst vs) ∧ DpL G F vs ds
  | .dct kds => ∃ kvs, H a = some (.dK kvs) ∧ DpK G F kvs kds
  | .obj c fds => ∃ dx fs, H a = some (.ins (G.cl c) dx fs) ∧ DpF G F fs fds
  | _ => False
theorem Cell.mono {G : Gx} {F H F' H' : Hp} {a : Addr} {d : D} (e : Same F F') (k : ∀ o, H a = some o → H' a = some o) (c : Cell G F H a d) : Cell G F' H' a d := by
  cases d with
  | lst ds => obtain ⟨vs, h, t⟩ := c; exact ⟨vs, k _ h, t.mono e⟩
  | dct ds => obtain ⟨vs, h, t⟩ := c; exact ⟨vs, k _ h, t.mono e⟩
  | obj c fs => obtain ⟨dx, vs, h, t⟩ := c; exact ⟨dx, vs, k _ h, t.mono e⟩
  | _ => exact c.elim
theorem Cell.there {G : Gx} {F H : Hp} {a : Addr} {d : D} (c : Cell G F H a d) : ∃ o, H a = some o := by
  cases d with
  | lst ds => obtain ⟨vs, h, t⟩ := c; exact ⟨_, h⟩
  | dct ds => obtain ⟨vs, h, t⟩ := c; exact ⟨_, h⟩
  | obj c fs => obtain ⟨dx, vs, h, t⟩ := c; exact ⟨_, h⟩
  | _ => exact c.elim
/-- a cell frozen -/
theorem Cell.freeze {G : Gx} {F H : Hp} {a : Addr} {d : D} {o : HO} (c : Cell G F H a d) (n : F a = none) (h : H a = some o) : Dp G (upd F a o) (.ref a) d := by
  have e : Same F (upd F a o) := fun b u q => by rw [upd_ne (ne_of_none q n)]; exact q
  cases d with
  | lst ds => obtain ⟨vs, h', t⟩ := c; rw [h] at h'; cases h'; exact .lst upd_same (t.mono e)
  | dct ds => obtain ⟨vs, h', t⟩ := c; rw [h] at h'; cases h'; exact .dct upd_same (t.mono e)
  | obj c fs => obtain ⟨dx, vs, h', t⟩ := c; rw [h] at h'; cases h'; exact .obj upd_same (t.mono e)
  | _ => exact c.elim

def SlotOk (Γ : Gm) (F H : Hp) (v : V) : Slot → Prop
  | .val d => Dp Γ.G F v d
  | .own b d => ∃ a, v = .ref a ∧ F a = none ∧ Cell Γ.G F H a d ∧ ∀ k, b = some k → a = Γ.β k
def OwnAt (ρ : Rho) (σ : St) (i : Nat) (a : Addr) : Prop := ∃ b d, ρ[i]? = some (some (.own b d)) ∧ σ[i]? = some (some (.ref a))
def Own (ρ : Rho) (σ : St) (a : Addr) : Prop := ∃ i, OwnAt ρ σ i a
structure Rel (Γ : Gm) (ρ : Rho) (σ : St) (F H : Hp) : Prop where
  sub : Same F H
  slot : ∀ (i : Nat) s, ρ[i]? = some (some s) → ∃ v, σ[i]? = some (some v) ∧ SlotOk Γ F H v s
  inj : ∀ i j a, OwnAt ρ σ i a → OwnAt ρ σ j a → i = j
  len : ρ.length = σ.length
structure Stp (Γ : Gm) (ρ : Rho) (σ : St) (F H : Hp) (ρ' : Rho) (σ' : St) (F' H' : Hp) : Prop where
  rel : Rel Γ ρ' σ' F' H'
  subF : Same F F'
  own : ∀ a, Own ρ' σ' a → Own ρ σ a ∨ H a = none
  keep : ∀ a o, H a = some o → ¬ Own ρ σ a → H' a = some o
  frn : ∀ a o, H a = some o → F a = none → ¬ Own ρ σ a → F' a = none
  there : ∀ a o, H a = some o → ∃ o', H' a = some o'

theorem Rel.ownF {Γ : Gm} {ρ : Rho} {σ : St} {F H : Hp} (r : Rel Γ ρ σ F H) {a : Addr} (o : Own ρ σ a) : F a = none ∧ ∃ u, H a = some u := by
  obtain ⟨i, b, d, h1, h2⟩ := o
  obtain ⟨v, h3, a', rfl, hn, c, _⟩ := r.slot i _ h1
  rw [h2] at h3
  have e : a = a' := by injection h3 with h3; injection h3 with h3; injection h3
  subst e
  exact ⟨hn, c.there⟩
theorem Stp.refl {Γ : Gm} {ρ : Rho} {σ : St} {F H : Hp} (r : Rel Γ ρ σ F H) : Stp Γ ρ σ F H ρ σ F H :=
  ⟨r, Same.refl _, fun _ h => .inl h, fun _ _ h _ => h, fun _ _ _ h _ => h, fun _ o h => ⟨o, h⟩⟩
theorem Stp.trans {Γ : Gm} {ρ ρ1 ρ2 : Rho} {σ σ1 σ2 : St} {F H F1 H1 F2 H2 : Hp} (a : Stp Γ ρ σ F H ρ1 σ1 F1 H1) (b : Stp Γ ρ1 σ1 F1 H1 ρ2 σ2 F2 H2) : Stp Γ ρ σ F H ρ2 σ2 F2 H2 := by
  have back : ∀ c, H1 c = none → H c = none := fun c h => by
    cases q : H c with
    | none => rfl
    | some o => obtain ⟨o', e⟩ := a.there c o q; rw [e] at h; cases h
  have nown : ∀ c o, H c = some o → ¬ Own ρ σ c → ¬ Own ρ1 σ1 c := fun c o h n q => by
    rcases a.own c q with z | z
    · exact n z
    · rw [h] at z; cases z
  refine ⟨b.rel, a.subF.trans b.subF, fun c h => ?_, fun c o h n => b.keep c o (a.keep c o h n) (nown c o h n), fun c o h f n => b.frn c o (a.keep c o h n) (a.frn c o h f n) (nown c o h n), fun c o h => ?_⟩
  · rcases b.own c h with z | z
    · exact a.own c z
    · exact .inr (back c z)
  · obtain ⟨o', e⟩ := a.there c o h
    exact b.there c o' e

/-- new objects alone -/
structure Alc (F H F' H' : Hp) : Prop where
  subF : Same F F'
  subH : Same H H'
  fh : Same F' H'
  frn : ∀ a o, H a = some o → F a = none → F' a = none
theorem Alc.refl {F H : Hp} (h : Same F H) : Alc F H F H := ⟨Same.refl _, Same.refl _, h, fun _ _ _ h => h⟩
theorem Alc.stp {Γ : Gm} {ρ : Rho} {σ : St} {F H F' H' : Hp} (r : Rel Γ ρ σ F H) (a : Alc F H F' H') : Stp Γ ρ σ F H ρ σ F' H' := by
  refine ⟨⟨a.fh, fun i s h => ?_, r.inj, r.len⟩, a.subF, fun _ h => .inl h, fun c o h _ => a.subH c o h, fun c o h f _ => a.frn c o h f, fun c o h => ⟨o, a.subH c o h⟩⟩
  obtain ⟨v, h1, h2⟩ := r.slot i s h
  refine ⟨v, h1, ?_⟩
  cases s with
  | val d => exact Dp.mono a.subF h2
  | own b d =>
    obtain ⟨c, e, n, ce, hb⟩ := h2
    obtain ⟨o, ho⟩ := ce.there
    exact ⟨c, e, a.frn c o ho n, ce.mono a.subF (fun u hu => a.subH c u hu), hb⟩

/-! ### results -/
inductive Res where
  | val (d : D)
  | new (d : D)
  | at (i : Nat)
/-- an exception: its class, its attributes -/
inductive ECl where
  | own (c : Nat)
  | blt (n : String)
structure Exc where
  c : ECl
  fs : List (Str × D)
inductive Out (α : Type) where
  | ok (a : α) (ρ : Rho)
  | exc (x : Exc) (ρ : Rho)
  | stuck
def ecV (G : Gx) : ECl → Value
  | .own c => .ref (G.cl c)
  | .blt n => .type n
def ExcRep (G : Gx) (F H : Hp) (x : Exc) : Option Addr → Prop
  | none => x.fs = []
  | some a => ∃ fvs, H a = some (.xd fvs) ∧ DpF G F fvs x.fs
def View (G : Gx) (F H : Hp) (v : V) (d : D) : Prop := Dp G F v d ∨ ∃ a, v = .ref a ∧ Cell G F H a d
theorem View.of {G : Gx} {F H : Hp} {v : V} {d : D} (h : Dp G F v d) : View G F H v d := .inl h
theorem View.mono {G : Gx} {F H F' H' : Hp} {v : V} {d : D} (e : Same F F') (k : Same H H') (h : View G F H v d) : View G F' H' v d := by
  rcases h with h | ⟨a, r, c⟩
  · exact .inl (h.mono e)
  · exact .inr ⟨a, r, c.mono e fun o q => k a o q⟩
/-- ρ₀ σ₀ H₀: ahead; ρ F H: behind -/
def RepRes (Γ : Gm) (ρ₀ : Rho) (σ : St) (H₀ : Hp) (ρ : Rho) (F H : Hp) (v : V) : Res → Prop
  | .val d => Dp Γ.G F v d
  | .new d => ∃ a, v = .ref a ∧ F a = none ∧ Cell Γ.G F H a d ∧ ¬ Own ρ σ a ∧ (Own ρ₀ σ a ∨ H₀ a = none)
  | .at i => σ[i]? = some (some v)
def Post (Γ : Gm) (W : WX) (o : Out Res) (ρ : Rho) (σ : St) (F H : Hp) (Q : VK) : Prop :=
  match o with
  | .ok r ρ' => ∀ v F' H', Stp Γ ρ σ F H ρ' σ F' H' → RepRes Γ ρ σ H ρ' F' H' v r → Q v H'
  | .exc x ρ' => ∀ d F' H', Stp Γ ρ σ F H ρ' σ F' H' → ExcRep Γ.G F' H' x d → W (ecV Γ.G x.c) d σ H'
  | .stuck => False
abbrev M := Rho → Out Res
def tM (Γ : Gm) (W : WX) (m : M) : TE := fun σ H Q => ∃ ρ F, Rel Γ ρ σ F H ∧ Post Γ W (m ρ) ρ σ F H Q
theorem _root_.L2.PE.imp {X : Cx} {e : Expr} {t t' : TE} (h : PE X e t) (i : ∀ σ H Q, t' σ H Q → t σ H Q) : PE X e t' := ⟨fun pins s σ H Q I q => h.run pins s σ H Q I (i _ _ _ q)⟩
theorem _root_.L2.PT.imp {X : Cx} {e : Expr} {t t' : TT} (h : PT X e t) (i : ∀ σ H Q, t' σ H Q → t σ H Q) : PT X e t' := ⟨fun pins s σ H Q I q => h.run pins s σ H Q I (i _ _ _ q)⟩
theorem _root_.L2.PA.imp {X : Cx} {e : List Expr} {t t' : TA} (h : PA X e t) (i : ∀ σ H Q, t' σ H Q → t σ H Q) : PA X e t' := ⟨fun pos pins s σ H Q I q => h.run pos pins s σ H Q I (i _ _ _ q)⟩
theorem _root_.L2.PS.imp {X : Cx} {e : Stmt} {t t' : TS} (h : PS X e t) (i : ∀ D σ H, t' D σ H → t D σ H) : PS X e t' := ⟨fun pins s σ H D I q => h.run pins s σ H D I (i _ _ _ q)⟩
theorem _root_.L2.PSs.imp {X : Cx} {e : List Stmt} {t t' : TS} (h : PSs X e t) (i : ∀ D σ H, t' D σ H → t D σ H) : PSs X e t' := ⟨fun pins s σ H D I q => h.run pins s σ H D I (i _ _ _ q)⟩

/-- what is new is frozen -/
def Res.frz : Res → Res
  | .new d => .val d
  | r => r
def frz (m : M) : M := fun ρ => match m ρ with
  | .ok r ρ' => .ok r.frz ρ'
  | .exc x ρ' => .exc x ρ'
  | .stuck => .stuck
theorem Stp.freeze {Γ : Gm} {ρ ρ' : Rho} {σ σ' : St} {F H F' H' : Hp} {a : Addr} {o : HO} (s : Stp Γ ρ σ F H ρ' σ' F' H') (n : F' a = none) (h : H' a = some o) (no : ¬ Own ρ' σ' a) (fr : Own ρ σ a ∨ H a = none) :
    Stp Γ ρ σ F H ρ' σ' (upd F' a o) H' := by
  have e : Same F' (upd F' a o) := fun b u q => by rw [upd_ne (ne_of_none q n)]; exact q
  refine ⟨⟨fun b u q => ?_, fun i sl q => ?_, s.rel.inj, s.rel.len⟩, s.subF.trans e, s.own, s.keep, fun b u q f no' => ?_, s.there⟩
  · by_cases z : b = a
    · subst z; rw [upd_same] at q; cases q; exact h
    · rw [upd_ne z] at q; exact s.rel.sub b u q
  · obtain ⟨v, h1, h2⟩ := s.rel.slot i sl q
    refine ⟨v, h1, ?_⟩
    cases sl with
    | val d => exact Dp.mono e h2
    | own b d =>
      obtain ⟨c, z, n', ce, hb⟩ := h2
      have hc : c ≠ a := fun w => no ⟨i, b, d, q, by rw [h1, z, w]⟩
      exact ⟨c, z, by rw [upd_ne hc]; exact n', ce.mono e fun _ hu => hu, hb⟩
  · by_cases z : b = a
    · subst z
      rcases fr with w | w
      · exact absurd w no'
      · rw [q] at w; cases w
    · rw [upd_ne z]; exact s.frn b u q f no'
theorem Post.frz {Γ : Gm} {W : WX} {o : Out Res} {ρ : Rho} {σ : St} {F H : Hp} {Q : VK} (h : Post Γ W (match o with | .ok r ρ' => .ok r.frz ρ' | .exc x ρ' => .exc x ρ' | .stuck => .stuck) ρ σ F H Q) : Post Γ W o ρ σ F H Q := by
  cases o with
  | ok r ρ' =>
    cases r with
    | new d =>
      intro v F' H' s r
      obtain ⟨a, rfl, n, c, no, fr⟩ := r
      obtain ⟨o, ho⟩ := c.there
      exact h _ _ _ (s.freeze n ho no fr) (c.freeze n ho)
    | val d => exact h
    | «at» i => exact h
  | exc x ρ' => exact h
  | stuck => exact h
theorem je_frz {X : Cx} {Γ : Gm} {W : WX} {e : Expr} {m : M} (h : PE X e (tM Γ W m)) : PE X e (tM Γ W (frz m)) := h.imp fun σ H Q ⟨ρ, F, r, p⟩ => ⟨ρ, F, r, Post.frz p⟩

/-- what a result (no new one) is -/
def resolve (ρ : Rho) : Res → Option D
  | .val d => some d
  | .new d => none
  | .at i => match ρ[i]? with
    | some (some (.val d)) => some d
    | some (some (.own _ d)) => some d
    | _ => none
theorem resolve_view {Γ : Gm} {ρ₀ ρ : Rho} {σ : St} {H₀ F H : Hp} {v : V} {r : Res} {d : D} (R : Rel Γ ρ σ F H) (h : RepRes Γ ρ₀ σ H₀ ρ F H v r) (e : resolve ρ r = some d) : View Γ.G F H v d := by
  cases r with
  | val d' => simp only [resolve, Option.some.injEq] at e; subst e; exact .inl h
  | new d' => simp [resolve] at e
  | «at» i =>
    simp only [resolve] at e
    have h : σ[i]? = some (some v) := h
    split at e
    · rename_i d' q
      cases e
      obtain ⟨v', h1, h2⟩ := R.slot i _ q
      rw [h] at h1; cases h1
      exact .inl h2
    · rename_i b d' q
      cases e
      obtain ⟨v', h1, a, z, n, c, hb⟩ := R.slot i _ q
      rw [h] at h1; cases h1
      exact .inr ⟨a, z, c⟩
    · cases e
end PyD

namespace PyD
open PySem PySem.Spec PyProof.Rows L2

/-! ### frozen results -/
def RepF (G : Gx) (σ : St) (F : Hp) (v : V) : Res → Prop
  | .val d => Dp G F v d
  | .new _ => False
  | .at i => σ[i]? = some (some v)
theorem RepF.mono {G : Gx} {σ : St} {F F' : Hp} {v : V} {r : Res} (e : Same F F') (h : RepF G σ F v r) : RepF G σ F' v r := by
  cases r with
  | val d => exact Dp.mono e h
  | new d => exact h
  | «at» i => exact h
theorem RepF.view {Γ : Gm} {ρ : Rho} {σ : St} {F H : Hp} {v : V} {r : Res} {d : D} (R : Rel Γ ρ σ F H) (h : RepF Γ.G σ F v r) (e : resolve ρ r = some d) : View Γ.G F H v d := by
  refine resolve_view (ρ₀ := ρ) (H₀ := H) R ?_ e
  cases r with
  | val d => exact h
  | new d => exact h.elim
  | «at» i => exact h
def PostF (Γ : Gm) (W : WX) (o : Out Res) (ρ : Rho) (σ : St) (F H : Hp) (Q : VK) : Prop :=
  match o with
  | .ok r ρ' => ∀ v F' H', Stp Γ ρ σ F H ρ' σ F' H' → RepF Γ.G σ F' v r.frz → Q v H'
  | .exc x ρ' => ∀ d F' H', Stp Γ ρ σ F H ρ' σ F' H' → ExcRep Γ.G F' H' x d → W (ecV Γ.G x.c) d σ H'
  | .stuck => False
theorem PostF.post {Γ : Gm} {W : WX} {o : Out Res} {ρ : Rho} {σ : St} {F H : Hp} {Q : VK} (h : PostF Γ W o ρ σ F H Q) : Post Γ W o ρ σ F H Q := by
  apply Post.frz
  cases o with
  | ok r ρ' =>
    intro v F' H' s q
    refine h v F' H' s ?_
    cases r with
    | val d => exact q
    | new d => exact q
    | «at» i => exact q
  | exc x ρ' => exact h
  | stuck => exact h
def tF (Γ : Gm) (W : WX) (m : M) : TE := fun σ H Q => ∃ ρ F, Rel Γ ρ σ F H ∧ PostF Γ W (m ρ) ρ σ F H Q
theorem je_f {X : Cx} {Γ : Gm} {W : WX} {e : Expr} {m : M} (h : PE X e (tM Γ W m)) : PE X e (tF Γ W m) := h.imp fun σ H Q ⟨ρ, F, r, p⟩ => ⟨ρ, F, r, p.post⟩

/-- behind the first steps -/
theorem Post.shift {Γ : Gm} {W : WX} {o : Out Res} {ρ ρ2 : Rho} {σ : St} {F H F2 H2 : Hp} {Q : VK} (s : Stp Γ ρ σ F H ρ2 σ F2 H2) (h : Post Γ W o ρ σ F H Q) : Post Γ W o ρ2 σ F2 H2 Q := by
  cases o with
  | ok r ρ' =>
    intro v F' H' s2 q
    refine h v F' H' (s.trans s2) ?_
    cases r with
    | val d => exact q
    | «at» i => exact q
    | new d =>
      obtain ⟨a, e, n, c, no, fr⟩ := q
      refine ⟨a, e, n, c, no, ?_⟩
      rcases fr with z | z
      · exact s.own a z
      · right
        cases w : H a with
        | none => rfl
        | some o => obtain ⟨o', e'⟩ := s.there a o w; rw [e'] at z; cases z
  | exc x ρ' => exact fun d F' H' s2 q => h d F' H' (s.trans s2) q
  | stuck => exact h
def bindO {α β : Type} (o : Out α) (k : α → Rho → Out β) : Out β := match o with
  | .ok a ρ => k a ρ
  | .exc x ρ => .exc x ρ
  | .stuck => .stuck
/-- first o (frozen), then k -/
def bindF {β : Type} (o : Out Res) (k : Res → Rho → Out β) : Out β := match o with
  | .ok a ρ => k a.frz ρ
  | .exc x ρ => .exc x ρ
  | .stuck => .stuck
theorem Post.bindF {Γ : Gm} {W : WX} {o : Out Res} {k : Res → Rho → Out Res} {ρ : Rho} {σ : St} {F H : Hp} {Q Q1 : VK} (h : Post Γ W (bindF o k) ρ σ F H Q)
    (hk : ∀ r ρ1 v F1 H1, Stp Γ ρ σ F H ρ1 σ F1 H1 → RepF Γ.G σ F1 v r → Post Γ W (k r ρ1) ρ1 σ F1 H1 Q → Q1 v H1) : PostF Γ W o ρ σ F H Q1 := by
  cases o with
  | ok r ρ' => exact fun v F' H' s q => hk r.frz ρ' v F' H' s q (h.shift s)
  | exc x ρ' => exact h
  | stuck => exact h

/-! ### operators on values -/
def RepNew (G : Gx) (H F' H' : Hp) (v : V) : Res → Prop
  | .val d => Dp G F' v d
  | .new d => ∃ a, v = .ref a ∧ F' a = none ∧ Cell G F' H' a d ∧ H a = none
  | .at _ => False
def BinOk (G : Gx) (r : R2) (f : D → D → Option Res) : Prop := ∀ F H x y dx dy res Q, Same F H → View G F H x dx → View G F H y dy → f dx dy = some res →
  (∀ v F' H', Alc F H F' H' → RepNew G H F' H' v res → Q v H') → r x y H Q
def UnOk (G : Gx) (r : V → Hp → VK → Prop) (f : D → Option Res) : Prop := ∀ F H x dx res Q, Same F H → View G F H x dx → f dx = some res →
  (∀ v F' H', Alc F H F' H' → RepNew G H F' H' v res → Q v H') → r x H Q
theorem fin_new {Γ : Gm} {W : WX} {ρ : Rho} {σ : St} {F H : Hp} {Q : VK} {res : Res} (R : Rel Γ ρ σ F H) (h : Post Γ W (.ok res ρ) ρ σ F H Q) : ∀ v F' H', Alc F H F' H' → RepNew Γ.G H F' H' v res → Q v H' := fun v F' H' al q => by
  refine h v F' H' (al.stp R) ?_
  cases res with
  | val d => exact q
  | «at» i => exact q.elim
  | new d =>
    obtain ⟨a, e, n, c, hn⟩ := q
    refine ⟨a, e, n, c, fun z => ?_, .inr hn⟩
    obtain ⟨_, u, hu⟩ := R.ownF z
    rw [hn] at hu; cases hu
def op1 (f : D → Option Res) (a : Res) (ρ : Rho) : Out Res := match resolve ρ a with
  | some x => (match f x with | some r => .ok r ρ | none => .stuck)
  | none => .stuck
def op2 (f : D → D → Option Res) (a b : Res) (ρ : Rho) : Out Res := match resolve ρ a, resolve ρ b with
  | some x, some y => (match f x y with | some r => .ok r ρ | none => .stuck)
  | _, _ => .stuck
theorem op2_ok {Γ : Gm} {W : WX} {r : R2} {f : D → D → Option Res} {a b : Res} {ρ : Rho} {σ : St} {F H : Hp} {Q : VK} {x y : V} (hf : BinOk Γ.G r f) (R : Rel Γ ρ σ F H) (ha : RepF Γ.G σ F x a) (hb : RepF Γ.G σ F y b) (h : Post Γ W (op2 f a b ρ) ρ σ F H Q) : r x y H Q := by
  unfold op2 at h
  split at h
  · rename_i dx dy e1 e2
    split at h
    · rename_i res e3
      exact hf F H x y dx dy res Q R.sub (ha.view R e1) (hb.view R e2) e3 (fin_new R h)
    · exact h.elim
  · exact h.elim
theorem op1_ok {Γ : Gm} {W : WX} {r : V → Hp → VK → Prop} {f : D → Option Res} {a : Res} {ρ : Rho} {σ : St} {F H : Hp} {Q : VK} {x : V} (hf : UnOk Γ.G r f) (R : Rel Γ ρ σ F H) (ha : RepF Γ.G σ F x a) (h : Post Γ W (op1 f a ρ) ρ σ F H Q) : r x H Q := by
  unfold op1 at h
  split at h
  · rename_i dx e1
    split at h
    · rename_i res e3
      exact hf F H x dx res Q R.sub (ha.view R e1) e3 (fin_new R h)
    · exact h.elim
  · exact h.elim
def mBin (f : D → D → Option Res) (ma mb : M) : M := fun ρ => bindF (ma ρ) fun a ρ1 => bindF (mb ρ1) fun b ρ2 => op2 f a b ρ2
def mUn (f : D → Option Res) (ma : M) : M := fun ρ => bindF (ma ρ) fun a ρ1 => op1 f a ρ1
theorem tOp_ok {Γ : Gm} {W : WX} {r : R2} {f : D → D → Option Res} {ma mb : M} (hf : BinOk Γ.G r f) : ∀ σ H Q, tM Γ W (mBin f ma mb) σ H Q → tOp r (tF Γ W ma) (tF Γ W mb) σ H Q := by
  intro σ H Q ⟨ρ, F, R, p⟩
  refine ⟨ρ, F, R, p.bindF fun a ρ1 x F1 H1 s1 ha p1 => ⟨ρ1, F1, s1.rel, p1.bindF fun b ρ2 y F2 H2 s2 hb p2 => ?_⟩⟩
  exact op2_ok hf s2.rel (ha.mono s2.subF) hb p2
theorem tUn_ok {Γ : Gm} {W : WX} {r : V → Hp → VK → Prop} {f : D → Option Res} {ma : M} (hf : UnOk Γ.G r f) : ∀ σ H Q, tM Γ W (mUn f ma) σ H Q → tUn r (tF Γ W ma) σ H Q := by
  intro σ H Q ⟨ρ, F, R, p⟩
  exact ⟨ρ, F, R, p.bindF fun a ρ1 x F1 H1 s1 ha p1 => op1_ok hf s1.rel ha p1⟩
section
variable {X : Cx} {Γ : Gm} {W : WX} {a b : Expr} {ma mb : M} {pos : Pos}
theorem je_bin {op : Operator} {r : R2} {f : D → D → Option Res} (ho : OpR X (binaryOp op) r) (hf : BinOk Γ.G r f) (ha : PE X a (tM Γ W ma)) (hb : PE X b (tM Γ W mb)) : PE X (.BinOp a op b pos) (tM Γ W (mBin f ma mb)) :=
  (pe_op ho (je_f ha) (je_f hb)).imp (tOp_ok hf)
theorem je_cmp {op : CmpOp} {r : R2} {f : D → D → Option Res} (ho : OpR X (compareOp op) r) (hf : BinOk Γ.G r f) (ha : PE X a (tM Γ W ma)) (hb : PE X b (tM Γ W mb)) (hm : behindInMarks op b = false) : PE X (.Compare a [op] [b] pos) (tM Γ W (mBin f ma mb)) :=
  (pe_cmpR ho (je_f ha) (je_f hb) hm).imp (tOp_ok hf)
theorem je_un {op : UnaryOp} {r : V → Hp → VK → Prop} {f : D → Option Res} (ho : UnR X (unaryOp op) r) (hf : UnOk Γ.G r f) (ha : PE X a (tM Γ W ma)) : PE X (.UnaryOp op a pos) (tM Γ W (mUn f ma)) :=
  (pe_un ho (je_f ha)).imp (tUn_ok hf)
end

/-! ### the operators -/
def OrR (r r' : R2) : R2 := fun x y H Q => r x y H Q ∨ r' x y H Q
def orF (f g : D → D → Option Res) : D → D → Option Res := fun a b => match f a b with
  | some r => some r
  | none => g a b
theorem BinOk.or {G : Gx} {r r' : R2} {f g : D → D → Option Res} (h : BinOk G r f) (h' : BinOk G r' g) : BinOk G (OrR r r') (orF f g) := fun F H x y dx dy res Q e vx vy q k => by
  unfold orF at q
  split at q
  · rename_i z w
    cases q
    exact .inl (h F H x y dx dy _ Q e vx vy w k)
  · exact .inr (h' F H x y dx dy res Q e vx vy q k)
theorem Alc.tup {F H : Hp} {p : Addr} {o : HO} (e : Same F H) (n : H p = none) : Alc F H (upd F p o) (upd H p o) := by
  have nF : F p = none := Same.free e n
  refine ⟨fun b u q => by rw [upd_ne (ne_of_none q nF)]; exact q, fun b u q => by rw [upd_ne (ne_of_none q n)]; exact q, fun b u q => ?_, fun b u q f => by rw [upd_ne (ne_of_none q n)]; exact f⟩
  by_cases z : b = p
  · subst z; rw [upd_same] at q ⊢; exact q
  · rw [upd_ne z] at q ⊢; exact e b u q
theorem Alc.cell {F H : Hp} {p : Addr} {o : HO} (e : Same F H) (n : H p = none) : Alc F H F (upd H p o) :=
  ⟨Same.refl _, fun b u q => by rw [upd_ne (ne_of_none q n)]; exact q, fun b u q => by rw [upd_ne (ne_of_none (e b u q) n)]; exact e b u q, fun _ _ _ f => f⟩
/-- what is read of a view -/
theorem View.int {G : Gx} {F H : Hp} {v : V} {i : Int} (h : View G F H v (.int i)) : v = .int i := by
  rcases h with h | ⟨a, e, c⟩
  · cases h; rfl
  · exact c.elim
theorem View.bl {G : Gx} {F H : Hp} {v : V} {i : Bool} (h : View G F H v (.bl i)) : v = .bl i := by
  rcases h with h | ⟨a, e, c⟩
  · cases h; rfl
  · exact c.elim
theorem View.str {G : Gx} {F H : Hp} {v : V} {i : Str} (h : View G F H v (.str i)) : v = .str i := by
  rcases h with h | ⟨a, e, c⟩
  · cases h; rfl
  · exact c.elim
theorem View.non {G : Gx} {F H : Hp} {v : V} (h : View G F H v .non) : v = .non := by
  rcases h with h | ⟨a, e, c⟩
  · cases h; rfl
  · exact c.elim
theorem View.lst {G : Gx} {F H : Hp} {v : V} {ds : List D} (s : Same F H) (h : View G F H v (.lst ds)) : ∃ a vs, v = .ref a ∧ H a = some (.lst vs) ∧ DpL G F vs ds := by
  rcases h with h | ⟨a, e, vs, c, t⟩
  · cases h with | lst h t => exact ⟨_, _, rfl, s _ _ h, t⟩
  · exact ⟨a, vs, e, c, t⟩
theorem View.tup {G : Gx} {F H : Hp} {v : V} {ds : List D} (s : Same F H) (h : View G F H v (.tup ds)) : ∃ a vs, v = .ref a ∧ SqT G.K H a vs ∧ DpL G F vs ds := by
  rcases h with h | ⟨a, e, c⟩
  · cases h with | tup h t => exact ⟨_, _, rfl, sqT_ext h s, t⟩
  · exact c.elim
theorem View.scr {G : Gx} {F H : Hp} {v : V} {ns : List Int} (s : Same F H) (h : View G F H v (.scr ns)) : ∃ a, v = .ref a ∧ SqL G.K H a (ns.map V.int) := by
  rcases h with h | ⟨a, e, c⟩
  · cases h with | scr h => exact ⟨_, rfl, s.seq h⟩
  · exact c.elim
theorem View.dct {G : Gx} {F H : Hp} {v : V} {ds : List (Key × D)} (s : Same F H) (h : View G F H v (.dct ds)) : ∃ a vs, v = .ref a ∧ H a = some (.dK vs) ∧ DpK G F vs ds := by
  rcases h with h | ⟨a, e, vs, c, t⟩
  · cases h with | dct h t => exact ⟨_, _, rfl, s _ _ h, t⟩
  · exact ⟨a, vs, e, c, t⟩
theorem View.obj {G : Gx} {F H : Hp} {v : V} {c : Nat} {ds : List (Str × D)} (s : Same F H) (h : View G F H v (.obj c ds)) : ∃ a dx vs, v = .ref a ∧ H a = some (.ins (G.cl c) dx vs) ∧ DpF G F vs ds := by
  rcases h with h | ⟨a, e, dx, vs, c, t⟩
  · cases h with | obj h t => exact ⟨_, _, _, rfl, s _ _ h, t⟩
  · exact ⟨a, dx, vs, e, c, t⟩

def fII (C : Int → Int → Bool) (g : Int → Int → D) : D → D → Option Res
  | .int i, .int j => if C i j then some (.val (g i j)) else none
  | _, _ => none
theorem bin_II {G : Gx} {C : Int → Int → Prop} {c : Int → Int → Bool} {g : Int → Int → V} {g' : Int → Int → D} (hc : ∀ i j, c i j = true → C i j) (hg : ∀ i j F, Dp G F (g i j) (g' i j)) : BinOk G (rI C g) (fII c g') := by
  intro F H x y dx dy res Q e vx vy q k
  unfold fII at q
  split at q
  · split at q
    · rename_i i j w
      cases q
      exact ⟨i, j, vx.int, vy.int, hc i j w, k _ F H (.refl e) (hg i j F)⟩
    · cases q
  · cases q
theorem bin_I0 {G : Gx} {g : Int → Int → V} {g' : Int → Int → D} (hg : ∀ i j F, Dp G F (g i j) (g' i j)) : BinOk G (rI0 g) (fII (fun _ _ => true) g') := by
  intro F H x y dx dy res Q e vx vy q k
  unfold fII at q
  split at q
  · rename_i i j
    simp only [if_true, Option.some.injEq] at q
    cases q
    exact ⟨i, j, vx.int, vy.int, k _ F H (.refl e) (hg i j F)⟩
  · cases q
/-! + -/
def fAddS : D → D → Option Res
  | .str i, .str j => if i.length + j.length ≤ sizeLine then some (.val (.str (i ++ j))) else none
  | _, _ => none
def fAddL : D → D → Option Res
  | .lst i, .lst j => if i.length + j.length ≤ sizeLine then some (.new (.lst (i ++ j))) else none
  | _, _ => none
def fAddT : D → D → Option Res
  | .tup i, .tup j => if i.length + j.length ≤ sizeLine then some (.val (.tup (i ++ j))) else none
  | _, _ => none
end PyD

namespace PyD
open PySem PySem.Spec PyProof.Rows L2

/-! ### tests -/
abbrev MB := Rho → Out Bool
def PostB (Γ : Gm) (W : WX) (o : Out Bool) (ρ : Rho) (σ : St) (F H : Hp) (Q : Bool → Hp → Prop) : Prop :=
  match o with
  | .ok b ρ' => ∀ F' H', Stp Γ ρ σ F H ρ' σ F' H' → Q b H'
  | .exc x ρ' => ∀ d F' H', Stp Γ ρ σ F H ρ' σ F' H' → ExcRep Γ.G F' H' x d → W (ecV Γ.G x.c) d σ H'
  | .stuck => False
def tMB (Γ : Gm) (W : WX) (m : MB) : TT := fun σ H Q => ∃ ρ F, Rel Γ ρ σ F H ∧ PostB Γ W (m ρ) ρ σ F H Q
theorem PostB.shift {Γ : Gm} {W : WX} {o : Out Bool} {ρ ρ2 : Rho} {σ : St} {F H F2 H2 : Hp} {Q : Bool → Hp → Prop} (s : Stp Γ ρ σ F H ρ2 σ F2 H2) (h : PostB Γ W o ρ σ F H Q) : PostB Γ W o ρ2 σ F2 H2 Q := by
  cases o with
  | ok r ρ' => exact fun F' H' s2 => h F' H' (s.trans s2)
  | exc x ρ' => exact fun d F' H' s2 q => h d F' H' (s.trans s2) q
  | stuck => exact h
theorem PostB.bindF {Γ : Gm} {W : WX} {o : Out Res} {k : Res → Rho → Out Bool} {ρ : Rho} {σ : St} {F H : Hp} {Q : Bool → Hp → Prop} {Q1 : VK} (h : PostB Γ W (bindF o k) ρ σ F H Q)
    (hk : ∀ r ρ1 v F1 H1, Stp Γ ρ σ F H ρ1 σ F1 H1 → RepF Γ.G σ F1 v r → PostB Γ W (k r ρ1) ρ1 σ F1 H1 Q → Q1 v H1) : PostF Γ W o ρ σ F H Q1 := by
  cases o with
  | ok r ρ' => exact fun v F' H' s q => hk r.frz ρ' v F' H' s q (h.shift s)
  | exc x ρ' => exact h
  | stuck => exact h
theorem PostB.bindB {Γ : Gm} {W : WX} {o : Out Bool} {k : Bool → Rho → Out Bool} {ρ : Rho} {σ : St} {F H : Hp} {Q Q1 : Bool → Hp → Prop} (h : PostB Γ W (bindO o k) ρ σ F H Q)
    (hk : ∀ r ρ1 F1 H1, Stp Γ ρ σ F H ρ1 σ F1 H1 → PostB Γ W (k r ρ1) ρ1 σ F1 H1 Q → Q1 r H1) : PostB Γ W o ρ σ F H Q1 := by
  cases o with
  | ok r ρ' => exact fun F' H' s => hk r ρ' F' H' s (h.shift s)
  | exc x ρ' => exact h
  | stuck => exact h
theorem Post.bindB {Γ : Gm} {W : WX} {o : Out Bool} {k : Bool → Rho → Out Res} {ρ : Rho} {σ : St} {F H : Hp} {Q : VK} {Q1 : Bool → Hp → Prop} (h : Post Γ W (bindO o k) ρ σ F H Q)
    (hk : ∀ r ρ1 F1 H1, Stp Γ ρ σ F H ρ1 σ F1 H1 → Post Γ W (k r ρ1) ρ1 σ F1 H1 Q → Q1 r H1) : PostB Γ W o ρ σ F H Q1 := by
  cases o with
  | ok r ρ' => exact fun F' H' s => hk r ρ' F' H' s (h.shift s)
  | exc x ρ' => exact h
  | stuck => exact h
/-- truth of data -/
def truD : D → Option Bool
  | .non => some false
  | .bl b => some b
  | .int i => some (i != 0)
  | .str y => if y.length ≤ sizeLine then some ((y.length : Int) != 0) else none
  | .lst xs => some (!xs.isEmpty)
  | .tup xs => some (!xs.isEmpty)
  | .dct xs => some (!xs.isEmpty)
  | _ => none
theorem DpL.isEmpty {G : Gx} {F : Hp} {vs : List V} {ds : List D} (h : DpL G F vs ds) : ds.isEmpty = vs.isEmpty := by cases h <;> rfl
theorem DpK.isEmpty {G : Gx} {F : Hp} {vs : List (Key × V)} {ds : List (Key × D)} (h : DpK G F vs ds) : ds.isEmpty = vs.isEmpty := by cases h <;> rfl
theorem truD_ok {G : Gx} {F H : Hp} {v : V} {d : D} {k : Bool} (s : Same F H) (h : View G F H v d) (e : truD d = some k) : TruV G.K v H k := by
  cases d with
  | non => rw [h.non]; simpa [truD, eq_comm, TruV] using e
  | bl b => rw [h.bl]; simpa [truD, eq_comm, TruV] using e
  | int i => rw [h.int]; simp only [truD, Option.some.injEq] at e; exact e.symm
  | str y =>
    rw [h.str]
    simp only [truD] at e
    split at e
    · cases e; exact ⟨by assumption, rfl⟩
    · cases e
  | lst xs =>
    obtain ⟨a, vs, rfl, h1, h2⟩ := h.lst s
    simp only [truD, Option.some.injEq] at e
    exact .inl ⟨vs, SqL.of h1, by rw [← e, h2.isEmpty]⟩
  | tup xs =>
    obtain ⟨a, vs, rfl, h1, h2⟩ := h.tup s
    simp only [truD, Option.some.injEq] at e
    exact .inr (.inl ⟨vs, h1, by rw [← e, h2.isEmpty]⟩)
  | dct xs =>
    obtain ⟨a, vs, rfl, h1, h2⟩ := h.dct s
    simp only [truD, Option.some.injEq] at e
    exact .inr (.inr ⟨vs, h1, by rw [← e, h2.isEmpty]⟩)
  | _ => simp [truD] at e
def truR (a : Res) (ρ : Rho) : Out Bool := match resolve ρ a with
  | some d => (match truD d with | some k => .ok k ρ | none => .stuck)
  | none => .stuck
def mTru (m : M) : MB := fun ρ => bindF (m ρ) fun a ρ1 => truR a ρ1
def blR (a : Res) (ρ : Rho) : Out Bool := match a with
  | .val (.bl k) => .ok k ρ
  | .at i => (match ρ[i]? with | some (some (.val (.bl k))) => .ok k ρ | _ => .stuck)
  | _ => .stuck
def mBl (m : M) : MB := fun ρ => bindF (m ρ) fun a ρ1 => blR a ρ1
theorem blR_ok {Γ : Gm} {W : WX} {a : Res} {ρ : Rho} {σ : St} {F H : Hp} {Q : Bool → Hp → Prop} {v : V} (R : Rel Γ ρ σ F H) (ha : RepF Γ.G σ F v a) (h : PostB Γ W (blR a ρ) ρ σ F H Q) : ∃ k, v = .bl k ∧ Q k H := by
  unfold blR at h
  split at h
  · rename_i k
    cases ha
    exact ⟨k, rfl, h F H (.refl R)⟩
  · rename_i i
    split at h
    · rename_i k e
      obtain ⟨v', h1, h2⟩ := R.slot i _ e
      have ha : σ[i]? = some (some v) := ha
      rw [ha] at h1; cases h1
      cases h2
      exact ⟨k, rfl, h F H (.refl R)⟩
    · exact h.elim
  · exact h.elim
section
variable {X : Cx} {Γ : Gm} {W : WX} {a b c : Expr} {ma mb mc : M} {ta tb : MB} {pos : Pos} {rest : List Expr}
theorem jt_tru (hK : X.K = Γ.G.K) (ha : PE X a (tM Γ W ma)) (he : ∀ whole, isTrue a X.env whole = (do let v ← whole; standAt a.pos; holding [v] (truthy v)) := by intro _; rfl) : PT X a (tMB Γ W (mTru ma)) :=
  (pt_truth (je_f ha) he).imp fun σ H Q ⟨ρ, F, R, p⟩ => ⟨ρ, F, R, p.bindF fun r ρ1 v F1 H1 s1 hr p1 => by
    unfold truR at p1
    split at p1
    · rename_i d e
      split at p1
      · rename_i k e2
        exact ⟨k, by rw [hK]; exact truD_ok s1.rel.sub (hr.view s1.rel e) e2, p1 F1 H1 (.refl s1.rel)⟩
      · exact p1.elim
    · exact p1.elim⟩
/-- an expression whose value is a bool -/
theorem jt_bl (ha : PE X a (tM Γ W ma)) (he : ∀ whole, isTrue a X.env whole = (do let v ← whole; standAt a.pos; holding [v] (truthy v)) := by intro _; rfl) : PT X a (tMB Γ W (mBl ma)) :=
  (pt_val (je_f ha) he).imp fun σ H Q ⟨ρ, F, R, p⟩ => ⟨ρ, F, R, p.bindF fun r ρ1 v F1 H1 s1 hr p1 => blR_ok s1.rel hr p1⟩
def mBinB (f : D → D → Option Res) (ma mb : M) : MB := mBl (mBin f ma mb)
theorem fin_bl' {Γ : Gm} {W : WX} {o : Out Res} {ρ : Rho} {σ : St} {F H : Hp} {Q : Bool → Hp → Prop} (h : PostB Γ W (PyD.bindF o fun a ρ1 => blR a ρ1) ρ σ F H Q) : Post Γ W o ρ σ F H (fun z H3 => ∃ k, z = .bl k ∧ Q k H3) :=
  (PostB.bindF h fun r ρ1 v F1 H1 s1 hr p1 => blR_ok s1.rel hr p1).post
theorem jt_cmp {op : CmpOp} {r : R2} {f : D → D → Option Res} (ho : OpR X (compareOp op) r) (hf : BinOk Γ.G r f) (ha : PE X a (tM Γ W ma)) (hb : PE X b (tM Γ W mb)) (hm : behindInMarks op b = false) : PT X (.Compare a [op] [b] pos) (tMB Γ W (mBinB f ma mb)) :=
  (pt_cmpR ho (je_f ha) (je_f hb) hm).imp fun σ H Q ⟨ρ, F, R, p⟩ => tOp_ok hf σ H _ ⟨ρ, F, R, fin_bl' p⟩
def mChain (f g : D → D → Option Res) (ma mb mc : M) : M := fun ρ => bindF (ma ρ) fun a ρ1 => bindF (mb ρ1) fun b ρ2 => bindF (op2 f a b ρ2) fun z ρ3 => bindO (blR z ρ3) fun k ρ3 =>
  if k = true then bindF (mc ρ3) fun c ρ4 => op2 g b c ρ4 else .ok (.val (.bl false)) ρ3
theorem chain_ok {r r' : R2} {f g : D → D → Option Res} (hf : BinOk Γ.G r f) (hg : BinOk Γ.G r' g) : ∀ σ H Q, tM Γ W (mChain f g ma mb mc) σ H Q → tChain r r' (tF Γ W ma) (tF Γ W mb) (tF Γ W mc) σ H Q := by
  intro σ H Q ⟨ρ, F, R, p⟩
  refine ⟨ρ, F, R, p.bindF fun a ρ1 x F1 H1 s1 ha p1 => ⟨ρ1, F1, s1.rel, p1.bindF fun b ρ2 y F2 H2 s2 hb p2 => ?_⟩⟩
  refine op2_ok (W := W) hf s2.rel (ha.mono s2.subF) hb (PostF.post (p2.bindF fun z ρ3 v F3 H3 s3 hz p3 => ?_))
  obtain ⟨k, e, q⟩ := blR_ok s3.rel hz (p3.bindB (Q1 := fun k H' => if k = true then tF Γ W mc σ H' fun w' H4 => r' y w' H4 Q else Q (.bl false) H') fun k ρ4 F4 H4 s4 p4 => by
    by_cases hk : k = true
    · simp only [hk, if_true] at p4 ⊢
      exact ⟨ρ4, F4, s4.rel, p4.bindF fun c ρ5 w F5 H5 s5 hc p5 => op2_ok hg s5.rel ((hb.mono s3.subF).mono (s4.subF.trans s5.subF)) hc p5⟩
    · simp only [hk] at p4 ⊢
      exact p4 _ F4 H4 (.refl s4.rel) (.bl false))
  exact ⟨k, e, q⟩
theorem je_chain {op op' : CmpOp} {r r' : R2} {f g : D → D → Option Res} (ho : OpR X (compareOp op) r) (ho' : OpR X (compareOp op') r') (hf : BinOk Γ.G r f) (hg : BinOk Γ.G r' g) (ha : PE X a (tM Γ W ma)) (hb : PE X b (tM Γ W mb)) (hc : PE X c (tM Γ W mc))
    (hm : lastMarks [op, op'] [b, c] = false := by with_unfolding_all rfl) : PE X (.Compare a [op, op'] [b, c] pos) (tM Γ W (mChain f g ma mb mc)) :=
  (pe_chain ho ho' (je_f ha) (je_f hb) (je_f hc) hm).imp (chain_ok hf hg)
theorem jt_chain {op op' : CmpOp} {r r' : R2} {f g : D → D → Option Res} (ho : OpR X (compareOp op) r) (ho' : OpR X (compareOp op') r') (hf : BinOk Γ.G r f) (hg : BinOk Γ.G r' g) (ha : PE X a (tM Γ W ma)) (hb : PE X b (tM Γ W mb)) (hc : PE X c (tM Γ W mc))
    (hm : lastMarks [op, op'] [b, c] = false := by with_unfolding_all rfl) : PT X (.Compare a [op, op'] [b, c] pos) (tMB Γ W (mBl (mChain f g ma mb mc))) :=
  (pt_chain ho ho' (je_f ha) (je_f hb) (je_f hc) hm).imp fun σ H Q ⟨ρ, F, R, p⟩ => chain_ok hf hg σ H _ ⟨ρ, F, R, fin_bl' p⟩
/-! and, or, not -/
def mAndB (ta tb : MB) : MB := fun ρ => bindO (ta ρ) fun k ρ1 => if k = true then tb ρ1 else .ok false ρ1
def mOrB (ta tb : MB) : MB := fun ρ => bindO (ta ρ) fun k ρ1 => if k = true then .ok true ρ1 else tb ρ1
def mNotB (ta : MB) : MB := fun ρ => bindO (ta ρ) fun k ρ1 => .ok (!k) ρ1
theorem _root_.L2.PW.imp {X : Cx} {e : Expr} {t t' : TT} (h : PW X e t) (i : ∀ σ H Q, t' σ H Q → t σ H Q) : PW X e t' := ⟨fun wh pins s σ H Q I q => h.run wh pins s σ H Q I (i _ _ _ q)⟩
theorem jw_and (ha : PT X a (tMB Γ W ta)) (hb : PW X (.BoolOp .And (b :: rest) pos) (tMB Γ W tb)) : PW X (.BoolOp .And (a :: b :: rest) pos) (tMB Γ W (mAndB ta tb)) :=
  (pw_and ha hb).imp fun σ H Q ⟨ρ, F, R, p⟩ => ⟨ρ, F, R, PostB.bindB p fun k ρ1 F1 H1 s1 p1 => by
    by_cases hk : k = true
    · simp only [hk, if_true] at p1 ⊢; exact ⟨ρ1, F1, s1.rel, p1⟩
    · simp only [hk] at p1 ⊢; exact p1 F1 H1 (.refl s1.rel)⟩
theorem jw_or (ha : PT X a (tMB Γ W ta)) (hb : PW X (.BoolOp .Or (b :: rest) pos) (tMB Γ W tb)) : PW X (.BoolOp .Or (a :: b :: rest) pos) (tMB Γ W (mOrB ta tb)) :=
  (pw_or ha hb).imp fun σ H Q ⟨ρ, F, R, p⟩ => ⟨ρ, F, R, PostB.bindB p fun k ρ1 F1 H1 s1 p1 => by
    by_cases hk : k = true
    · simp only [hk, if_true] at p1 ⊢; exact p1 F1 H1 (.refl s1.rel)
    · simp only [hk] at p1 ⊢; exact ⟨ρ1, F1, s1.rel, p1⟩⟩
theorem jt_not (ha : PT X a (tMB Γ W ta)) : PT X (.UnaryOp .Not a pos) (tMB Γ W (mNotB ta)) :=
  (pt_not ha).imp fun σ H Q ⟨ρ, F, R, p⟩ => ⟨ρ, F, R, PostB.bindB p fun k ρ1 F1 H1 s1 p1 => p1 F1 H1 (.refl s1.rel)⟩
/-! .. as values -/
def mAndV (ma mb : M) : M := fun ρ => bindF (ma ρ) fun a ρ1 => bindO (blR a ρ1) fun k ρ1 => if k = true then mb ρ1 else .ok (.val (.bl false)) ρ1
def mOrV (ma mb : M) : M := fun ρ => bindF (ma ρ) fun a ρ1 => bindO (blR a ρ1) fun k ρ1 => if k = true then .ok (.val (.bl true)) ρ1 else mb ρ1
def mNotV (ma : M) : M := fun ρ => bindF (ma ρ) fun a ρ1 => bindO (blR a ρ1) fun k ρ1 => .ok (.val (.bl (!k))) ρ1
theorem je_and (ha : PE X a (tM Γ W ma)) (hb : PE X (.BoolOp .And (b :: rest) pos) (tM Γ W mb)) : PE X (.BoolOp .And (a :: b :: rest) pos) (tM Γ W (mAndV ma mb)) :=
  (pe_and (je_f ha) hb).imp fun σ H Q ⟨ρ, F, R, p⟩ => ⟨ρ, F, R, p.bindF fun r ρ1 v F1 H1 s1 hr p1 => blR_ok s1.rel hr (p1.bindB (Q1 := fun c H1 => if c = true then tM Γ W mb σ H1 Q else Q (V.bl false) H1) fun k ρ2 F2 H2 s2 p2 => by
    by_cases hk : k = true
    · simp only [hk, if_true] at p2 ⊢; exact ⟨ρ2, F2, s2.rel, p2⟩
    · simp only [hk] at p2 ⊢; exact p2 _ F2 H2 (.refl s2.rel) (.bl false))⟩
theorem je_or (ha : PE X a (tM Γ W ma)) (hb : PE X (.BoolOp .Or (b :: rest) pos) (tM Γ W mb)) : PE X (.BoolOp .Or (a :: b :: rest) pos) (tM Γ W (mOrV ma mb)) :=
  (pe_or (je_f ha) hb).imp fun σ H Q ⟨ρ, F, R, p⟩ => ⟨ρ, F, R, p.bindF fun r ρ1 v F1 H1 s1 hr p1 => blR_ok s1.rel hr (p1.bindB (Q1 := fun c H1 => if c = true then Q (V.bl true) H1 else tM Γ W mb σ H1 Q) fun k ρ2 F2 H2 s2 p2 => by
    by_cases hk : k = true
    · simp only [hk, if_true] at p2 ⊢; exact p2 _ F2 H2 (.refl s2.rel) (.bl true)
    · simp only [hk] at p2 ⊢; exact ⟨ρ2, F2, s2.rel, p2⟩)⟩
theorem je_not (ha : PE X a (tM Γ W ma)) : PE X (.UnaryOp .Not a pos) (tM Γ W (mNotV ma)) :=
  (pe_not (je_f ha)).imp fun σ H Q ⟨ρ, F, R, p⟩ => ⟨ρ, F, R, p.bindF fun r ρ1 v F1 H1 s1 hr p1 => blR_ok s1.rel hr (p1.bindB fun k ρ2 F2 H2 s2 p2 => p2 _ F2 H2 (.refl s2.rel) (.bl _))⟩
def mIf (t : MB) (ma mb : M) : M := fun ρ => bindO (t ρ) fun k ρ1 => if k = true then ma ρ1 else mb ρ1
theorem je_if {c : Expr} (hc : PT X c (tMB Γ W ta)) (ha : PE X a (tM Γ W ma)) (hb : PE X b (tM Γ W mb)) : PE X (.IfExp c a b pos) (tM Γ W (mIf ta ma mb)) :=
  (pe_ifExp hc ha hb).imp fun σ H Q ⟨ρ, F, R, p⟩ => ⟨ρ, F, R, Post.bindB p fun k ρ1 F1 H1 s1 p1 => by
    by_cases hk : k = true
    · simp only [hk, if_true] at p1 ⊢; exact ⟨ρ1, F1, s1.rel, p1⟩
    · simp only [hk] at p1 ⊢; exact ⟨ρ1, F1, s1.rel, p1⟩⟩
/-! names, constants -/
def mVar (i : Nat) : M := fun ρ => match ρ[i]? with
  | some (some (.val d)) => .ok (.val d) ρ
  | some (some (.own _ _)) => .ok (.at i) ρ
  | _ => .stuck
def mC (d : D) : M := fun ρ => .ok (.val d) ρ
theorem je_const {e : Expr} {v : V} {d : D} (h : PE X e (tC v)) (hd : ∀ F, Dp Γ.G F v d) : PE X e (tM Γ W (mC d)) := h.imp fun σ H Q ⟨ρ, F, R, p⟩ => p v F H (.refl R) (hd F)
theorem je_int {i : Int} {j pos} : PE X (.Constant (.int i) j pos) (tM Γ W (mC (.int i))) := je_const pe_int fun _ => .int i
theorem je_bl {i : Bool} {j pos} : PE X (.Constant (.bool i) j pos) (tM Γ W (mC (.bl i))) := je_const pe_bl fun _ => .bl i
theorem je_str {i : Str} {j pos} : PE X (.Constant (.str i) j pos) (tM Γ W (mC (.str i))) := je_const pe_str fun _ => .str i
theorem je_non {j pos} : PE X (.Constant .none j pos) (tM Γ W (mC .non)) := je_const pe_non fun _ => .non
theorem je_var (i : Nat) {x : Str} (hN : X.N[i]? = some x := by rfl) (hv : Vis X.env.scope x := by first | exact Or.inl rfl | exact Or.inr (Or.inl rfl) | exact Or.inr (Or.inr rfl)) (hd : (x == ("__debug__" : Str)) = false := by decide)
    (hcd : (x == ("__classdict__" : Str)) = false := by decide) : PE X (.Name x pos) (tM Γ W (mVar i)) := (pe_var hN hv hd hcd).imp fun σ H Q ⟨ρ, F, R, p⟩ => by
  unfold mVar at p
  split at p
  · rename_i d e
    obtain ⟨v, h1, h2⟩ := R.slot i _ e
    exact ⟨v, h1, p v F H (.refl R) h2⟩
  · rename_i b d e
    obtain ⟨v, h1, h2⟩ := R.slot i _ e
    exact ⟨v, h1, p v F H (.refl R) h1⟩
  · exact p.elim
end
end PyD

namespace PyD
open PySem PySem.Spec PyProof.Rows L2

/-! ### + - * // % ** -/
theorem addS_ok {G : Gx} : BinOk G (fun x y H Q => ∃ i j, x = .str i ∧ y = .str j ∧ i.length + j.length ≤ sizeLine ∧ Q (.str (i ++ j)) H) fAddS := by
  intro F H x y dx dy res Q e vx vy q k
  unfold fAddS at q
  split at q
  · split at q
    · rename_i i j w
      cases q
      exact ⟨i, j, vx.str, vy.str, w, k _ F H (.refl e) (.str _)⟩
    · cases q
  · cases q
theorem addL_ok {G : Gx} : BinOk G rCat fAddL := by
  intro F H x y dx dy res Q e vx vy q k
  unfold fAddL at q
  split at q
  · split at q
    · rename_i i j w
      cases q
      obtain ⟨a, vs, rfl, h1, t1⟩ := vx.lst e
      obtain ⟨b, ws, rfl, h2, t2⟩ := vy.lst e
      exact ⟨a, b, vs, ws, rfl, rfl, h1, h2, by rw [t1.length, t2.length]; exact w, fun p hp => k _ F _ (.cell e hp) ⟨p, rfl, Same.free e hp, ⟨_, upd_same, t1.append t2⟩, hp⟩⟩
    · cases q
  · cases q
theorem addT_ok {G : Gx} : BinOk G (rCatA G.K) fAddT := by
  intro F H x y dx dy res Q e vx vy q k
  unfold fAddT at q
  split at q
  · split at q
    · rename_i i j w
      cases q
      obtain ⟨a, vs, rfl, h1, t1⟩ := vx.tup e
      obtain ⟨b, ws, rfl, h2, t2⟩ := vy.tup e
      have hx : Dp G F (.ref a) (.tup i) := by
        rcases vx with h | ⟨_, _, c⟩
        · exact h
        · exact c.elim
      have hy : Dp G F (.ref b) (.tup j) := by
        rcases vy with h | ⟨_, _, c⟩
        · exact h
        · exact c.elim
      refine ⟨a, b, vs, ws, rfl, rfl, h1, h2, by rw [t1.length, t2.length]; exact w, fun z => ?_, fun _ z => ?_, fun _ _ p hp => ?_⟩
      · subst z; cases t1; exact k _ F H (.refl e) hy
      · subst z; cases t2; rw [List.append_nil]  at k; exact k _ F H (.refl e) hx
      · exact k _ _ _ (.tup e hp) (.tup (SqT.of upd_same) ((t1.append t2).mono (Alc.tup e hp).subF))
    · cases q
  · cases q
def addD : D → D → Option Res := orF (fII (fun _ _ => true) fun i j => .int (i + j)) (orF fAddS (orF fAddT fAddL))
def rAddD (K : PySem.W.Frag) : R2 := OrR (rI0 fun i j => .int (i + j)) (OrR (fun x y H Q => ∃ i j, x = .str i ∧ y = .str j ∧ i.length + j.length ≤ sizeLine ∧ Q (.str (i ++ j)) H) (OrR (rCatA K) rCat))
theorem addD_ok {G : Gx} : BinOk G (rAddD G.K) addD := (bin_I0 fun _ _ _ => .int _).or (addS_ok.or (addT_ok.or addL_ok))
theorem op_addD {X : Cx} : OpR X (binaryOp .Add) (rAddD X.K) := op_add.or (op_add_str.or (op_catA.or op_cat))
def subD : D → D → Option Res := fII (fun _ _ => true) fun i j => .int (i - j)
theorem subD_ok {G : Gx} : BinOk G (rI0 fun i j => .int (i - j)) subD := bin_I0 fun _ _ _ => .int _
def mulC (i j : Int) : Bool := (decide (-(2 ^ 64) < i) && decide (i < 2 ^ 64)) || (decide (-(2 ^ 64) < j) && decide (j < 2 ^ 64))
theorem mulC_ok (i j : Int) (h : mulC i j = true) : CMul i j := by
  unfold mulC at h
  rcases Bool.or_eq_true_iff.mp h with z | z
  · have w := Bool.and_eq_true_iff.mp z; exact .inl ⟨of_decide_eq_true w.1, of_decide_eq_true w.2⟩
  · have w := Bool.and_eq_true_iff.mp z; exact .inr ⟨of_decide_eq_true w.1, of_decide_eq_true w.2⟩
def fRepL : D → D → Option Res
  | .lst xs, .int k => if decide (-(2 ^ 63) ≤ k) && decide (k < 2 ^ 63) && decide (xs.length * k.toNat ≤ sizeLine) then some (.new (.lst (List.replicate k.toNat xs).flatten)) else none
  | _, _ => none
def fRepT : D → D → Option Res
  | .tup xs, .int k => if decide (2 ≤ k) && decide (k ≤ 1000) && decide (xs.length ≤ 1000) && !xs.isEmpty then some (.val (.tup (List.replicate k.toNat xs).flatten)) else none
  | _, _ => none
theorem repL_ok {G : Gx} : BinOk G rRep fRepL := by
  intro F H x y dx dy res Q e vx vy q k
  unfold fRepL at q
  split at q
  · split at q
    · rename_i i j w
      cases q
      obtain ⟨a, vs, rfl, h1, t1⟩ := vx.lst e
      have w1 := Bool.and_eq_true_iff.mp w
      have w2 := Bool.and_eq_true_iff.mp w1.1
      refine ⟨a, j, vs, rfl, vy.int, h1, of_decide_eq_true w2.1, of_decide_eq_true w2.2, by rw [t1.length]; exact of_decide_eq_true w1.2, fun p hp => k _ F _ (.cell e hp) ⟨p, rfl, Same.free e hp, ⟨_, upd_same, t1.rep _⟩, hp⟩⟩
    · cases q
  · cases q
theorem repT_ok {G : Gx} : BinOk G (rRepT G.K) fRepT := by
  intro F H x y dx dy res Q e vx vy q k
  unfold fRepT at q
  split at q
  · split at q
    · rename_i i j w
      cases q
      obtain ⟨a, vs, rfl, h1, t1⟩ := vx.tup e
      have w1 := Bool.and_eq_true_iff.mp w
      have w2 := Bool.and_eq_true_iff.mp w1.1
      have w3 := Bool.and_eq_true_iff.mp w2.1
      refine ⟨a, j, vs, rfl, vy.int, h1, ?_, of_decide_eq_true w3.1, of_decide_eq_true w3.2, by rw [t1.length]; exact of_decide_eq_true w2.2, fun p hp => k _ _ _ (.tup e hp) (.tup (SqT.of upd_same) ((t1.rep _).mono (Alc.tup e hp).subF))⟩
      intro z; subst z; cases t1; exact absurd w1.2 (by simp)
    · cases q
  · cases q
def mulD : D → D → Option Res := orF (fII mulC fun i j => .int (i * j)) (orF fRepL fRepT)
def rMulD (K : PySem.W.Frag) : R2 := OrR (rI CMul fun i j => .int (i * j)) (OrR rRep (rRepT K))
theorem mulD_ok {G : Gx} : BinOk G (rMulD G.K) mulD := (bin_II mulC_ok fun _ _ _ => .int _).or (repL_ok.or repT_ok)
theorem op_mulD {X : Cx} : OpR X (binaryOp .Mult) (rMulD X.K) := op_mul.or (op_rep.or op_repT)
def divC (i j : Int) : Bool := decide (0 < j) && decide (j < 1073741824)
def fdivD : D → D → Option Res := fII divC fun i j => .int (i / j)
theorem fdivD_ok {G : Gx} : BinOk G (rI CDiv fun i j => .int (i / j)) fdivD := bin_II (fun i j h => ⟨of_decide_eq_true (Bool.and_eq_true_iff.mp h).1, of_decide_eq_true (Bool.and_eq_true_iff.mp h).2⟩) fun _ _ _ => .int _
def modD : D → D → Option Res := fII (fun _ j => decide (0 < j)) fun i j => .int (i % j)
theorem modD_ok {G : Gx} : BinOk G (rI (fun _ j => 0 < j) fun i j => .int (i % j)) modD := bin_II (fun i j h => of_decide_eq_true h) fun _ _ _ => .int _
def powC (i j : Int) : Bool := decide (0 ≤ j) && (decide (j ≤ 1000000) && decide (i.natAbs < 2 ^ 64))
def powD : D → D → Option Res := fII powC fun i j => .int (i ^ j.toNat)
theorem powD_ok {G : Gx} : BinOk G (rI CPow fun i j => .int (i ^ j.toNat)) powD := bin_II (fun i j h => by
  have w := Bool.and_eq_true_iff.mp h
  have w2 := Bool.and_eq_true_iff.mp w.2
  exact ⟨of_decide_eq_true w.1, of_decide_eq_true w2.1, of_decide_eq_true w2.2⟩) fun _ _ _ => .int _
def negD : D → Option Res
  | .int i => some (.val (.int (-i)))
  | _ => none
theorem negD_ok {G : Gx} : UnOk G (rU fun i => .int (-i)) negD := by
  intro F H x dx res Q e vx q k
  unfold negD at q
  split at q
  · rename_i i
    cases q
    exact ⟨i, vx.int, k _ F H (.refl e) (.int _)⟩
  · cases q

/-! ### comparisons -/
mutual
def toPy : D → Option PyData
  | .non => some .none
  | .bl b => some (.bool b)
  | .int i => some (.int i)
  | .str x => some (.str x)
  | .lst xs => (toPys xs).map .list
  | .tup xs => (toPys xs).map .tuple
  | _ => none
def toPys : List D → Option (List PyData)
  | [] => some []
  | d :: ds => match toPy d, toPys ds with
    | some p, some ps => some (p :: ps)
    | _, _ => none
end
section
variable {G : Gx} {F H : Hp}
theorem Dp.py (s : Same F H) {v : V} {d : D} (h : Dp G F v d) : ∀ p, toPy d = some p → L2.Dp G.K H v p := by
  refine Dp.rec (motive_1 := fun v d _ => ∀ p, toPy d = some p → L2.Dp G.K H v p) (motive_2 := fun vs ds _ => ∀ ps, toPys ds = some ps → L2.DpAll G.K H vs ps) (motive_3 := fun v d _ => True) (motive_4 := fun v d _ => True)
    ?_ ?_ ?_ ?_ ?_ ?_ ?_ ?_ ?_ ?_ ?_ ?_ ?_ ?_ ?_ ?_ ?_ ?_ h
  · intro p e; simp [toPy] at e; subst e; exact .non
  · intro b p e; simp [toPy] at e; subst e; exact .bl b
  · intro b p e; simp [toPy] at e; subst e; exact .int b
  · intro b p e; simp [toPy] at e; subst e; exact .str b
  · intro b p e; simp [toPy] at e
  · intro a vs ds h t i p e
    simp only [toPy, Option.map_eq_some_iff] at e
    obtain ⟨ps, e1, rfl⟩ := e
    exact .lst (SqL.of (s _ _ h)) (i ps e1)
  · intro a vs ds h t i p e
    simp only [toPy, Option.map_eq_some_iff] at e
    obtain ⟨ps, e1, rfl⟩ := e
    exact .tup (sqT_ext h s) (i ps e1)
  · intro a ns h p e; simp [toPy] at e
  · intro a vs ds h t i p e; simp [toPy] at e
  · intro a dx c vs ds h t i p e; simp [toPy] at e
  · intro c p e; simp [toPy] at e
  · intro c p e; simp [toPy] at e
  · intro ps e; simp [toPys] at e; subst e; exact .nil
  · intro v d vs ds h t i1 i2 ps e
    simp only [toPys] at e
    split at e
    · rename_i p ps' e1 e2
      cases e
      exact .cons (i1 p e1) (i2 ps' e2)
    · cases e
  all_goals intros; trivial
theorem DpL.py (s : Same F H) : ∀ {vs : List V} {ds : List D}, DpL G F vs ds → ∀ ps, toPys ds = some ps → L2.DpAll G.K H vs ps
  | _, _, .nil => fun ps e => by simp [toPys] at e; subst e; exact .nil
  | _, _, .cons h t => fun ps e => by
    simp only [toPys] at e
    split at e
    · rename_i p ps' e1 e2
      cases e
      exact .cons (h.py s p e1) (DpL.py s t ps' e2)
    · cases e
theorem View.py (s : Same F H) {v : V} {d : D} (h : View G F H v d) {p : PyData} (e : toPy d = some p) : L2.Dp G.K H v p := by
  rcases h with h | ⟨a, r, c⟩
  · exact h.py s p e
  · cases d with
    | lst ds =>
      obtain ⟨vs, h1, t⟩ := c
      simp only [toPy, Option.map_eq_some_iff] at e
      obtain ⟨ps, e1, rfl⟩ := e
      rw [r]
      exact .lst (SqL.of h1) (t.py s ps e1)
    | dct ds => simp [toPy] at e
    | obj c ds => simp [toPy] at e
    | _ => exact c.elim
end
def eqB (x y : D) : Option Bool := match toPy x, toPy y with
  | some a, some b => if SeqAt.shaped a && SeqAt.shaped b then some (PyData.eqv a b) else none
  | _, _ => none
def eqD0 (x y : D) : Option Res := (eqB x y).map fun b => .val (.bl b)
def neD0 (x y : D) : Option Res := (eqB x y).map fun b => .val (.bl (!b))
theorem eqB_some {x y : D} {b : Bool} (h : eqB x y = some b) : ∃ p q, toPy x = some p ∧ toPy y = some q ∧ SeqAt.shaped p = true ∧ SeqAt.shaped q = true ∧ b = PyData.eqv p q := by
  unfold eqB at h
  split at h
  · rename_i p q e1 e2
    split at h
    · rename_i w
      have w := Bool.and_eq_true_iff.mp w
      cases h
      exact ⟨p, q, e1, e2, w.1, w.2, rfl⟩
    · cases h
  · cases h
theorem eqD0_ok {G : Gx} : BinOk G (rEqD G.K) eqD0 := by
  intro F H x y dx dy res Q e vx vy q k
  simp only [eqD0, Option.map_eq_some_iff] at q
  obtain ⟨b, h, rfl⟩ := q
  obtain ⟨p, p', e1, e2, s1, s2, rfl⟩ := eqB_some h
  exact ⟨p, p', vx.py e e1, vy.py e e2, s1, s2, k _ F H (.refl e) (.bl _)⟩
theorem neD0_ok {G : Gx} : BinOk G (rNeD G.K) neD0 := by
  intro F H x y dx dy res Q e vx vy q k
  simp only [neD0, Option.map_eq_some_iff] at q
  obtain ⟨b, h, rfl⟩ := q
  obtain ⟨p, p', e1, e2, s1, s2, rfl⟩ := eqB_some h
  exact ⟨p, p', vx.py e e1, vy.py e e2, s1, s2, k _ F H (.refl e) (.bl _)⟩
/-- flat values -/
def eqF : D → D → Option Bool
  | .str a, .str b => some (decide (a = b))
  | .int a, .int b => some (decide (a = b))
  | .bl a, .bl b => some (decide (a = b))
  | .non, .non => some true
  | .non, .int _ => some false
  | .int _, .non => some false
  | .non, .bl _ => some false
  | .bl _, .non => some false
  | .non, .str _ => some false
  | .str _, .non => some false
  | .int _, .str _ => some false
  | .str _, .int _ => some false
  | .bl _, .str _ => some false
  | .str _, .bl _ => some false
  | _, _ => none
theorem eqF_ok {G : Gx} {F H : Hp} {x y : V} {dx dy : D} {b : Bool} (vx : View G F H x dx) (vy : View G F H y dy) (h : eqF dx dy = some b) : scal x y = true ∧ decide (x = y) = b := by
  unfold eqF at h
  split at h <;> first
    | (cases h; rw [vx.str, vy.str]; simp [scal])
    | (cases h; rw [vx.int, vy.int]; simp [scal])
    | (cases h; rw [vx.bl, vy.bl]; simp [scal])
    | (cases h; rw [vx.non, vy.non]; simp [scal])
    | (cases h; rw [vx.non, vy.int]; simp [scal])
    | (cases h; rw [vx.int, vy.non]; simp [scal])
    | (cases h; rw [vx.non, vy.bl]; simp [scal])
    | (cases h; rw [vx.bl, vy.non]; simp [scal])
    | (cases h; rw [vx.non, vy.str]; simp [scal])
    | (cases h; rw [vx.str, vy.non]; simp [scal])
    | (cases h; rw [vx.int, vy.str]; simp [scal])
    | (cases h; rw [vx.str, vy.int]; simp [scal])
    | (cases h; rw [vx.bl, vy.str]; simp [scal])
    | (cases h; rw [vx.str, vy.bl]; simp [scal])
    | cases h
def eqD : D → D → Option Res := orF (fun x y => (eqF x y).map fun b => .val (.bl b)) eqD0
def neD : D → D → Option Res := orF (fun x y => (eqF x y).map fun b => .val (.bl (!b))) neD0
theorem eqD_ok {G : Gx} : BinOk G (OrR rEq (rEqD G.K)) eqD := BinOk.or (fun F H x y dx dy res Q e vx vy q k => by
  obtain ⟨b, h, rfl⟩ := Option.map_eq_some_iff.mp q
  obtain ⟨h1, h2⟩ := eqF_ok vx vy h
  exact ⟨h1, h2 ▸ k _ F H (.refl e) (h2 ▸ .bl _)⟩) eqD0_ok
theorem neD_ok {G : Gx} : BinOk G (OrR rNe (rNeD G.K)) neD := BinOk.or (fun F H x y dx dy res Q e vx vy q k => by
  obtain ⟨b, h, rfl⟩ := Option.map_eq_some_iff.mp q
  obtain ⟨h1, h2⟩ := eqF_ok vx vy h
  exact ⟨h1, h2 ▸ k _ F H (.refl e) (h2 ▸ .bl _)⟩) neD0_ok
theorem op_eqAll {X : Cx} (hu : X.A.units + 64 < cLine) : OpR X (compareOp .Eq) (OrR rEq (rEqD X.K)) := op_eq.or (op_eqD hu)
theorem op_neAll {X : Cx} (hu : X.A.units + 64 < cLine) : OpR X (compareOp .NotEq) (OrR rNe (rNeD X.K)) := op_ne.or (op_neD hu)
def fCmpS (p : Str → Str → Bool) : D → D → Option Res
  | .str i, .str j => some (.val (.bl (p i j)))
  | _, _ => none
theorem cmpS_ok {G : Gx} {p : Str → Str → Bool} : BinOk G (fun x y H Q => ∃ i j, x = .str i ∧ y = .str j ∧ Q (.bl (p i j)) H) (fCmpS p) := by
  intro F H x y dx dy res Q e vx vy q k
  unfold fCmpS at q
  split at q
  · rename_i i j
    cases q
    exact ⟨i, j, vx.str, vy.str, k _ F H (.refl e) (.bl _)⟩
  · cases q
def ltD : D → D → Option Res := orF (fII (fun _ _ => true) fun i j => .bl (decide (i < j))) (fCmpS fun i j => decide (i.cps.toList < j.cps.toList))
def leD : D → D → Option Res := fII (fun _ _ => true) fun i j => .bl (decide (i ≤ j))
def gtD : D → D → Option Res := fII (fun _ _ => true) fun i j => .bl (decide (j < i))
def geD : D → D → Option Res := fII (fun _ _ => true) fun i j => .bl (decide (j ≤ i))
def rLtD : R2 := OrR (rI0 fun i j => .bl (decide (i < j))) (fun x y H Q => ∃ i j, x = .str i ∧ y = .str j ∧ Q (.bl (decide (i.cps.toList < j.cps.toList))) H)
theorem ltD_ok {G : Gx} : BinOk G rLtD ltD := (bin_I0 fun _ _ _ => .bl _).or cmpS_ok
theorem op_ltD {X : Cx} : OpR X (compareOp .Lt) rLtD := op_lt.or op_lt_str
theorem leD_ok {G : Gx} : BinOk G (rI0 fun i j => .bl (decide (i ≤ j))) leD := bin_I0 fun _ _ _ => .bl _
theorem gtD_ok {G : Gx} : BinOk G (rI0 fun i j => .bl (decide (j < i))) gtD := bin_I0 fun _ _ _ => .bl _
theorem geD_ok {G : Gx} : BinOk G (rI0 fun i j => .bl (decide (j ≤ i))) geD := bin_I0 fun _ _ _ => .bl _
/-! is None, is True -/
def isN : D → Bool
  | .non => true
  | _ => false
def fIsN (neg : Bool) : D → D → Option Res
  | x, .non => some (.val (.bl (neg != isN x)))
  | _, _ => none
def fIsB (neg : Bool) : D → D → Option Res
  | .bl a, .bl b => some (.val (.bl (neg != decide (a = b))))
  | _, _ => none
theorem Dp.isN {G : Gx} {F H : Hp} {v : V} {d : D} (h : View G F H v d) : decide (v = V.non) = PyD.isN d := by
  rcases h with h | ⟨a, e, c⟩
  · cases h <;> simp [PyD.isN]
  · rw [e]
    cases d <;> first | exact c.elim | simp [PyD.isN]
theorem isN_ok {G : Gx} : BinOk G (fun x y H Q => y = .non ∧ Q (.bl (decide (x = .non))) H) (fIsN false) := by
  intro F H x y dx dy res Q e vx vy q k
  unfold fIsN at q
  split at q
  · cases q
    exact ⟨vy.non, k _ F H (.refl e) (by rw [Dp.isN vx]; simp; exact .bl _)⟩
  · cases q
theorem notN_ok {G : Gx} : BinOk G (fun x y H Q => y = .non ∧ Q (.bl (!decide (x = .non))) H) (fIsN true) := by
  intro F H x y dx dy res Q e vx vy q k
  unfold fIsN at q
  split at q
  · cases q
    exact ⟨vy.non, k _ F H (.refl e) (by rw [Dp.isN vx]; simp; exact .bl _)⟩
  · cases q
theorem isB_ok {G : Gx} : BinOk G rIsB (fIsB false) := by
  intro F H x y dx dy res Q e vx vy q k
  unfold fIsB at q
  split at q
  · rename_i a b
    cases q
    exact ⟨a, b, vx.bl, vy.bl, k _ F H (.refl e) (by simp; exact .bl _)⟩
  · cases q
theorem notB_ok {G : Gx} : BinOk G rNotB (fIsB true) := by
  intro F H x y dx dy res Q e vx vy q k
  unfold fIsB at q
  split at q
  · rename_i a b
    cases q
    exact ⟨a, b, vx.bl, vy.bl, k _ F H (.refl e) (by simp; exact .bl _)⟩
  · cases q
def isD : D → D → Option Res := orF (fIsB false) (fIsN false)
def isNotD : D → D → Option Res := orF (fIsB true) (fIsN true)
theorem isD_ok {G : Gx} : BinOk G (OrR rIsB (fun x y H Q => y = .non ∧ Q (.bl (decide (x = .non))) H)) isD := isB_ok.or isN_ok
theorem isNotD_ok {G : Gx} : BinOk G (OrR rNotB (fun x y H Q => y = .non ∧ Q (.bl (!decide (x = .non))) H)) isNotD := notB_ok.or notN_ok
theorem op_isD {X : Cx} : OpR X (compareOp .Is) (OrR rIsB (fun x y H Q => y = .non ∧ Q (.bl (decide (x = .non))) H)) := op_isBl.or op_isN
theorem op_isNotD {X : Cx} : OpR X (compareOp .IsNot) (OrR rNotB (fun x y H Q => y = .non ∧ Q (.bl (!decide (x = .non))) H)) := op_notBl.or op_notN
end PyD

namespace PyD
open PySem PySem.Spec PyProof.Rows L2

/-! ### in -/
def keyD : D → Option Key
  | .int i => some (.inl i)
  | .str x => some (.inr x)
  | _ => none
theorem keyD_ok {G : Gx} {F H : Hp} {v : V} {d : D} {k : Key} (h : View G F H v d) (e : keyD d = some k) : v = kV k := by
  cases d with
  | int i => simp [keyD] at e; subst e; exact h.int
  | str i => simp [keyD] at e; subst e; exact h.str
  | _ => simp [keyD] at e
def valK (kvs : List (Key × D)) (k : Key) : Option D := (kvs.find? fun kv => decide (kv.1 = k)).map (·.2)
theorem DpK.val {G : Gx} {F : Hp} {k : Key} : ∀ {vs : List (Key × V)} {ds : List (Key × D)}, DpK G F vs ds → (valK ds k = none ∧ valV vs k = none) ∨ ∃ v d, valK ds k = some d ∧ valV vs k = some v ∧ Dp G F v d
  | _, _, .nil => .inl ⟨rfl, rfl⟩
  | _, _, .cons (k := k') (v := v') (d := d') h t => by
    by_cases e : k' = k
    · refine .inr ⟨v', d', ?_, ?_, h⟩ <;> simp [valK, valV, e]
    · rcases DpK.val (k := k) t with ⟨h1, h2⟩ | ⟨v, d, h1, h2, h3⟩
      · refine .inl ⟨?_, ?_⟩
        · rw [← h1]; simp [valK, e]
        · rw [← h2]; simp [valV, e]
      · refine .inr ⟨v, d, ?_, ?_, h3⟩
        · rw [← h1]; simp [valK, e]
        · rw [← h2]; simp [valV, e]
theorem op_inDT {X : Cx} (hu : X.A.units + 65 < cLine) : OpR X (compareOp .In) (fun x y H Q => ∃ d ds, L2.Dp X.K H x d ∧ L2.Dp X.K H y (.tuple ds) ∧ SeqAt.shaped d = true ∧ SeqAt.shaped (.tuple ds) = true ∧ Q (.bl (ds.any fun z => PyData.eqv z d)) H) := by
  intro pins s σ H x y v u Q I rx ry h
  obtain ⟨d, ds, hd, he, sd, se, q⟩ := h
  obtain ⟨as, r1⟩ := Dp.reads I d x v hd rx
  obtain ⟨bs, r2⟩ := Dp.reads I (.tuple ds) y u he ry
  exact SeqAt.in_tuple_reads r2 r1 (SeqAt.canLay_of_shaped se) (SeqAt.canLay_of_shaped sd) (room_in_shaped sd hu) ⟨.bl _, H, I, rfl, q⟩
theorem op_notInDT {X : Cx} (hu : X.A.units + 65 < cLine) : OpR X (compareOp .NotIn) (fun x y H Q => ∃ d ds, L2.Dp X.K H x d ∧ L2.Dp X.K H y (.tuple ds) ∧ SeqAt.shaped d = true ∧ SeqAt.shaped (.tuple ds) = true ∧ Q (.bl (!ds.any fun z => PyData.eqv z d)) H) := by
  intro pins s σ H x y v u Q I rx ry h
  obtain ⟨d, ds, hd, he, sd, se, q⟩ := h
  obtain ⟨as, r1⟩ := Dp.reads I d x v hd rx
  obtain ⟨bs, r2⟩ := Dp.reads I (.tuple ds) y u he ry
  exact SeqAt.notIn_tuple_reads r2 r1 (SeqAt.canLay_of_shaped se) (SeqAt.canLay_of_shaped sd) (room_in_shaped sd hu) ⟨.bl _, H, I, rfl, q⟩
theorem op_dictIn {X : Cx} (hu : X.A.units + 1 < cLine) : OpR X (compareOp .In) (fun y x H Q => ∃ a o, x = .ref a ∧ DGet H a y o ∧ Q (.bl o.isSome) H) := by
  intro pins s σ H y x u v Q I ry rx h
  obtain ⟨a, o, rfl, g, q⟩ := h
  obtain rfl : v = Value.ref a := rx
  exact d_in hu I g ry fun s3 I3 => ⟨.bl o.isSome, H, I3, rfl, q⟩
theorem op_dictNotIn {X : Cx} (hu : X.A.units + 1 < cLine) : OpR X (compareOp .NotIn) (fun y x H Q => ∃ a o, x = .ref a ∧ DGet H a y o ∧ Q (.bl (!o.isSome)) H) := by
  intro pins s σ H y x u v Q I ry rx h
  obtain ⟨a, o, rfl, g, q⟩ := h
  obtain rfl : v = Value.ref a := rx
  exact d_notIn hu I g ry fun s3 I3 => ⟨.bl (!o.isSome), H, I3, rfl, q⟩
/-- whether it is in; none: not reckoned here -/
def inB : D → D → Option Bool
  | .str i, .str j => match i.cps.toList with
    | [c] => some (decide (c ∈ j.cps.toList))
    | _ => none
  | x, .dct kvs => (keyD x).map fun k => (valK kvs k).isSome
  | x, .lst ys => match toPy x, toPys ys with
    | some p, some ps => if SeqAt.shaped p && SeqAt.shaped (.list ps) then some (ps.any fun z => PyData.eqv z p) else none
    | _, _ => none
  | x, .tup ys => match toPy x, toPys ys with
    | some p, some ps => if SeqAt.shaped p && SeqAt.shaped (.tuple ps) then some (ps.any fun z => PyData.eqv z p) else none
    | _, _ => none
  | _, _ => none
def rInB (neg : Bool) (K : PySem.W.Frag) : R2 := OrR (fun x y H Q => ∃ (c : Nat) (z : Str), x = .str ⟨#[c]⟩ ∧ y = .str z ∧ Q (.bl (neg != decide (c ∈ z.cps.toList))) H)
  (OrR (fun y x H Q => ∃ a o, x = .ref a ∧ DGet H a y o ∧ Q (.bl (neg != o.isSome)) H)
  (OrR (fun x y H Q => ∃ d ds, L2.Dp K H x d ∧ L2.Dp K H y (.list ds) ∧ SeqAt.shaped d = true ∧ SeqAt.shaped (.list ds) = true ∧ Q (.bl (neg != ds.any fun z => PyData.eqv z d)) H)
    (fun x y H Q => ∃ d ds, L2.Dp K H x d ∧ L2.Dp K H y (.tuple ds) ∧ SeqAt.shaped d = true ∧ SeqAt.shaped (.tuple ds) = true ∧ Q (.bl (neg != ds.any fun z => PyData.eqv z d)) H)))
theorem op_inB {X : Cx} (hu : X.A.units + 65 < cLine) : OpR X (compareOp .In) (rInB false X.K) := by
  have e : ∀ b : Bool, (false != b) = b := by decide
  unfold rInB; simp only [e]
  exact op_in_sign.or ((op_dictIn (by omega)).or ((op_inD hu).or (op_inDT hu)))
theorem op_notInB {X : Cx} (hu : X.A.units + 65 < cLine) : OpR X (compareOp .NotIn) (rInB true X.K) := by
  have e : ∀ b : Bool, (true != b) = !b := by decide
  unfold rInB; simp only [e]
  exact op_notIn_sign.or ((op_dictNotIn (by omega)).or ((op_notInD hu).or (op_notInDT hu)))
def inD (neg : Bool) (x y : D) : Option Res := (inB x y).map fun b => .val (.bl (neg != b))
theorem inD_ok {neg : Bool} {G : Gx} : BinOk G (rInB neg G.K) (inD neg) := by
  intro F H x y dx dy res Q e vx vy q k
  simp only [inD, Option.map_eq_some_iff] at q
  obtain ⟨b, h, rfl⟩ := q
  have k' : ∀ b', b' = b → Q (.bl (neg != b')) H := fun b' z => k _ F H (.refl e) (by rw [z]; exact .bl _)
  unfold inB at h
  split at h
  · rename_i i j
    split at h
    · rename_i c ec
      cases h
      refine .inl ⟨c, j, ?_, vy.str, k' _ rfl⟩
      rw [vx.str]
      obtain ⟨ic⟩ := i
      have : ic = #[c] := by simpa using congrArg List.toArray ec
      rw [this]
    · cases h
  · rename_i kvs _
    simp only [Option.map_eq_some_iff] at h
    obtain ⟨kk, h1, h2⟩ := h
    obtain ⟨a, vs, rfl, hH, t⟩ := vy.dct e
    have hx := keyD_ok vx h1
    subst hx
    refine .inr (.inl ⟨a, valV vs kk, rfl, DGet.k hH, k' _ ?_⟩)
    rw [← h2]
    rcases t.val (k := kk) with ⟨w1, w2⟩ | ⟨v, d, w1, w2, w3⟩
    · rw [w1, w2]; rfl
    · rw [w1, w2]; rfl
  · rename_i ys _
    split at h
    · rename_i p ps e1 e2
      split at h
      · rename_i w
        have w := Bool.and_eq_true_iff.mp w
        cases h
        exact .inr (.inr (.inl ⟨p, ps, vx.py e e1, vy.py e (by simp [toPy, e2]), w.1, w.2, k' _ rfl⟩))
      · cases h
    · cases h
  · rename_i ys _
    split at h
    · rename_i p ps e1 e2
      split at h
      · rename_i w
        have w := Bool.and_eq_true_iff.mp w
        cases h
        exact .inr (.inr (.inr ⟨p, ps, vx.py e e1, vy.py e (by simp [toPy, e2]), w.1, w.2, k' _ rfl⟩))
      · cases h
    · cases h
  · cases h

/-! ### subscripts -/
theorem ix_dict {X : Cx} (hu : X.A.units + 1 < cLine) : IxR X (fun x y H Q => ∃ a v, x = .ref a ∧ DGet H a y (some v) ∧ Q v H) := by
  intro value slice pins s σ H x y u iv Q I rx ry h hs
  obtain ⟨a, v, rfl, g, q⟩ := h
  obtain rfl : u = Value.ref a := rx
  have hT := dict_typeIs I g
  unfold subscriptTail
  refine wpAny_bind ?_
  rw [getitemInPython_of_ne hT.not_modules]
  refine wpAny_bind (wpAny_specialOf hT PySem.F.slot_dict_getitem.lookup ?_)
  have fin : wpAny (model X.prog X.w) X.A (subscripted slice false (.ref a) iv) (fun r s₃ => wpAny (model X.prog X.w) X.A (letTemporaryGo value (.ref a) r >>= fun _ => pure r) (EP X pins σ Q) X.xe s₃) X.xe s := by
    rw [hs]
    exact wpAny_operating (wpAny_mono (d_getItem hu I g ry fun w' s3 I3 rw' => (⟨v, H, I3, rw', q⟩ : EP X pins σ Q w' s3)) (fun r s₃ h₃ => wpAny_bind (wpAny_letTemporaryGo (wpAny_pure h₃))) fun _ _ x => x)
  first
    | exact wpAny_pure (wpAny_bind fin)
    | exact wpAny_bind (wpAny_pure (wpAny_bind fin))
    | exact wpAny_bind fin
def ixD : D → D → Option Res
  | .lst xs, .int i => (atI xs i).map .val
  | .tup xs, .int i => (atI xs i).map .val
  | .scr ns, .int i => (atI ns i).map fun n => .val (.int n)
  | .str z, .int i => if z.length ≤ sizeLine then (atI z.cps.toList i).map fun c => .val (.str ⟨#[c]⟩) else none
  | .dct kvs, x => (keyD x).bind fun k => (valK kvs k).map .val
  | _, _ => none
def rIxD (K : PySem.W.Frag) : R2 := OrR (rIxL K) (OrR (rIxT K) (OrR rIxS (fun x y H Q => ∃ a v, x = .ref a ∧ DGet H a y (some v) ∧ Q v H)))
theorem ix_D {X : Cx} (hu : X.A.units + 1 < cLine) : IxR X (rIxD X.K) := ix_list.or (ix_tup.or (ix_str.or (ix_dict hu)))
theorem DpL.atI {G : Gx} {F : Hp} {vs : List V} {ds : List D} {i : Int} {d : D} (t : DpL G F vs ds) (h : L2.atI ds i = some d) : ∃ v, L2.atI vs i = some v ∧ Dp G F v d := by
  unfold L2.atI at h ⊢
  rw [t.length]
  cases e : ixN ds.length i with
  | none => rw [e] at h; cases h
  | some j =>
    rw [e] at h
    exact t.get h
theorem atI_map {α β : Type} (f : α → β) (xs : List α) (i : Int) : L2.atI (xs.map f) i = (L2.atI xs i).map f := by
  unfold L2.atI
  rw [List.length_map]
  cases ixN xs.length i with
  | none => rfl
  | some j => simp
theorem ixD_ok {G : Gx} : BinOk G (rIxD G.K) ixD := by
  intro F H x y dx dy res Q e vx vy q k
  unfold ixD at q
  split at q
  · rename_i xs i
    obtain ⟨d, h, rfl⟩ := Option.map_eq_some_iff.mp q
    obtain ⟨a, vs, rfl, hH, t⟩ := vx.lst e
    obtain ⟨v, h1, h2⟩ := t.atI h
    exact .inl ⟨a, vs, i, v, rfl, vy.int, SqL.of hH, h1, k _ F H (.refl e) h2⟩
  · rename_i xs i
    obtain ⟨d, h, rfl⟩ := Option.map_eq_some_iff.mp q
    obtain ⟨a, vs, rfl, hH, t⟩ := vx.tup e
    obtain ⟨v, h1, h2⟩ := t.atI h
    exact .inr (.inl ⟨a, vs, i, v, rfl, vy.int, hH, h1, k _ F H (.refl e) h2⟩)
  · rename_i ns i
    obtain ⟨n, h, rfl⟩ := Option.map_eq_some_iff.mp q
    obtain ⟨a, rfl, hH⟩ := vx.scr e
    exact .inl ⟨a, _, i, .int n, rfl, vy.int, hH, by rw [atI_map, h]; rfl, k _ F H (.refl e) (.int n)⟩
  · rename_i z i
    split at q
    · rename_i w
      obtain ⟨n, h, rfl⟩ := Option.map_eq_some_iff.mp q
      exact .inr (.inr (.inl ⟨z, i, n, vx.str, vy.int, w, h, k _ F H (.refl e) (.str _)⟩))
    · cases q
  · rename_i kvs _
    obtain ⟨kk, h1, h2⟩ := Option.bind_eq_some_iff.mp q
    obtain ⟨d, h3, rfl⟩ := Option.map_eq_some_iff.mp h2
    obtain ⟨a, vs, rfl, hH, t⟩ := vx.dct e
    have hx := keyD_ok vy h1
    subst hx
    rcases t.val (k := kk) with ⟨w1, w2⟩ | ⟨v, d', w1, w2, w3⟩
    · rw [w1] at h3; cases h3
    · rw [w1] at h3; cases h3
      exact .inr (.inr (.inr ⟨a, v, rfl, w2 ▸ DGet.k hH, k _ F H (.refl e) w3⟩))
  · cases q
section
variable {X : Cx} {Γ : Gm} {W : WX} {a b e : Expr} {ma mb : M} {pos p2 : Pos} {es : List Expr}
theorem je_ix (hK : X.K = Γ.G.K) (hu : X.A.units + 1 < cLine) (ha : PE X a (tM Γ W ma)) (hb : PE X b (tM Γ W mb)) (hs : PlainIx b := by exact fun _ _ => rfl) : PE X (.Subscript a b pos) (tM Γ W (mBin ixD ma mb)) :=
  (pe_ix (ix_D hu) (je_f ha) (je_f hb) hs).imp (hK ▸ tOp_ok ixD_ok)

/-! ### slices -/
def cutD {α : Type} (xs : List α) (lo hi : Option Int) : List α := (xs.drop (HT.sIx xs.length 0 lo)).take (HT.sIx xs.length xs.length hi - HT.sIx xs.length 0 lo)
end
def slD : D → Option Int → Option Int → Option Res
  | .lst xs, lo, hi => some (.new (.lst (cutD xs lo hi)))
  | .scr xs, lo, hi => some (.new (.lst ((cutD xs lo hi).map D.int)))
  | .tup xs, lo, hi => some (.val (.tup (cutD xs lo hi)))
  | .str z, lo, hi => if z.length ≤ sizeLine then some (.val (.str (cutS z lo hi))) else none
  | _, _, _ => none
def rSlD (K : PySem.W.Frag) : V → Option Int → Option Int → Hp → VK → Prop := fun x lo hi H Q => rSlL K x lo hi H Q ∨ (fun x lo hi H Q => rSlA K x lo hi H Q ∨ rSlS x lo hi H Q) x lo hi H Q
theorem sl_D {X : Cx} : SlR X (rSlD X.K) := sl_list.or (sl_tupA.or sl_str)
theorem DpL.cut {G : Gx} {F : Hp} {vs : List V} {ds : List D} (t : DpL G F vs ds) (lo hi : Option Int) : DpL G F (cutV vs lo hi) (cutD ds lo hi) := by
  unfold cutV cutD
  rw [t.length]
  exact (t.drop _).take _
theorem ints_dpl {G : Gx} {F : Hp} : ∀ ns : List Int, DpL G F (ns.map V.int) (ns.map D.int)
  | [] => .nil
  | n :: ns => .cons (.int n) (ints_dpl ns)
theorem slD_ok {G : Gx} {F H : Hp} {x : V} {dx : D} {lo hi : Option Int} {res : Res} {Q : VK} (e : Same F H) (vx : View G F H x dx) (q : slD dx lo hi = some res)
    (k : ∀ v F' H', Alc F H F' H' → RepNew G H F' H' v res → Q v H') : rSlD G.K x lo hi H Q := by
  unfold slD at q
  split at q
  · rename_i xs
    cases q
    obtain ⟨a, vs, rfl, hH, t⟩ := vx.lst e
    exact .inl ⟨a, vs, rfl, SqL.of hH, fun p hp => k _ F _ (.cell e hp) ⟨p, rfl, Same.free e hp, ⟨_, upd_same, t.cut _ _⟩, hp⟩⟩
  · rename_i xs
    cases q
    obtain ⟨a, rfl, hH⟩ := vx.scr e
    refine .inl ⟨a, _, rfl, hH, fun p hp => k _ F _ (.cell e hp) ⟨p, rfl, Same.free e hp, ⟨_, upd_same, ?_⟩, hp⟩⟩
    have h := (ints_dpl (G := G) (F := F) xs).cut lo hi
    have z : cutD (xs.map D.int) lo hi = (cutD xs lo hi).map D.int := by unfold cutD; simp [List.map_take, List.map_drop]
    rw [← z]; exact h
  · rename_i xs
    cases q
    have hx : Dp G F x (.tup xs) := by
      rcases vx with h | ⟨_, _, c⟩
      · exact h
      · exact c.elim
    obtain ⟨a, vs, rfl, hH, t⟩ := vx.tup e
    refine .inr (.inl ⟨a, vs, rfl, hH, fun z => ?_, fun _ p hp => k _ _ _ (.tup e hp) (.tup (SqT.of upd_same) ((t.cut _ _).mono (Alc.tup e hp).subF))⟩)
    have w : cutD xs lo hi = xs := by
      unfold cutD
      rw [← t.length, z.1, z.2, t.length]
      simp
    rw [w] at k
    exact k _ F H (.refl e) hx
  · rename_i z
    split at q
    · rename_i w
      cases q
      exact .inr (.inr ⟨z, vx.str, w, k _ F H (.refl e) (.str _)⟩)
    · cases q
  · cases q
def opSl (a : Res) (lo hi : Option Int) (ρ : Rho) : Out Res := match resolve ρ a with
  | some x => (match slD x lo hi with | some r => .ok r ρ | none => .stuck)
  | none => .stuck
def part {β : Type} (m : Option M) (ρ : Rho) (k : Option Int → Rho → Out β) : Out β := match m with
  | none => k none ρ
  | some m => bindF (m ρ) fun r ρ1 => match resolve ρ1 r with
    | some (.int i) => k (some i) ρ1
    | _ => .stuck
def mSl (ma : M) (lo hi : Option M) : M := fun ρ => bindF (ma ρ) fun a ρ1 => part lo ρ1 fun l ρ2 => part hi ρ2 fun h ρ3 => opSl a l h ρ3
def tO (Γ : Gm) (W : WX) : Option M → TO
  | none => tNoPart
  | some m => tPart (tF Γ W m)
inductive JO (X : Cx) (Γ : Gm) (W : WX) : Option Expr → Option M → Prop
  | none : JO X Γ W none none
  | some {e : Expr} {m : M} : PE X e (tM Γ W m) → JO X Γ W (some e) (some m)
theorem JO.po {X : Cx} {Γ : Gm} {W : WX} {e : Option Expr} {m : Option M} (h : JO X Γ W e m) : PO X e (tO Γ W m) := by
  cases h with
  | none => exact po_none
  | some h => exact po_some (je_f h)
theorem part_ok {X : Cx} {Γ : Gm} {W : WX} {m : Option M} {ρ : Rho} {k : Option Int → Rho → Out Res} {σ : St} {F H : Hp} {Q : VK} {R : Option Int → Hp → Prop} (r : Rel Γ ρ σ F H) (h : Post Γ W (part m ρ k) ρ σ F H Q)
    (hk : ∀ o ρ1 F1 H1, Stp Γ ρ σ F H ρ1 σ F1 H1 → Post Γ W (k o ρ1) ρ1 σ F1 H1 Q → R o H1) : tO Γ W m σ H R := by
  cases m with
  | none => exact hk none ρ F H (.refl r) h
  | some m =>
    simp only [part] at h
    refine ⟨ρ, F, r, Post.bindF h fun r ρ1 v F1 H1 s1 hr p1 => ?_⟩
    split at p1
    · rename_i i ei
      exact ⟨i, (hr.view s1.rel ei).int, hk _ ρ1 F1 H1 s1 p1⟩
    · exact p1.elim
section
variable {X : Cx} {Γ : Gm} {W : WX} {a b e : Expr} {ma mb : M} {lo hi : Option Expr} {ml mh : Option M} {pos p2 : Pos} {es : List Expr}
theorem je_sl (hK : X.K = Γ.G.K) (ha : PE X a (tM Γ W ma)) (hl : JO X Γ W lo ml) (hh : JO X Γ W hi mh) : PE X (.Subscript a (.Slice lo hi none p2) pos) (tM Γ W (mSl ma ml mh)) :=
  (pe_slice sl_D (je_f ha) hl.po hh.po).imp fun σ H Q ⟨ρ, F, R, p⟩ => ⟨ρ, F, R, p.bindF fun r ρ1 x F1 H1 s1 hr p1 => part_ok (X := X) s1.rel p1 fun l ρ2 F2 H2 s2 p2 => part_ok (X := X) s2.rel p2 fun h ρ3 F3 H3 s3 p3 => by
    unfold opSl at p3
    split at p3
    · rename_i d ed
      split at p3
      · rename_i res er
        rw [hK]
        exact slD_ok s3.rel.sub ((hr.mono (s2.subF.trans s3.subF)).view s3.rel ed) er (fin_new s3.rel p3)
      · exact p3.elim
    · exact p3.elim⟩

/-! ### arguments -/
inductive RepFs (G : Gx) (σ : St) (F : Hp) : List V → List Res → Prop
  | nil : RepFs G σ F [] []
  | cons {v : V} {r : Res} {vs : List V} {rs : List Res} : RepF G σ F v r → RepFs G σ F vs rs → RepFs G σ F (v :: vs) (r :: rs)
end
abbrev MA := Rho → Out (List Res)
def PostA (Γ : Gm) (W : WX) (o : Out (List Res)) (ρ : Rho) (σ : St) (F H : Hp) (Q : List V → Hp → Prop) : Prop :=
  match o with
  | .ok rs ρ' => ∀ vs F' H', Stp Γ ρ σ F H ρ' σ F' H' → RepFs Γ.G σ F' vs rs → Q vs H'
  | .exc x ρ' => ∀ d F' H', Stp Γ ρ σ F H ρ' σ F' H' → ExcRep Γ.G F' H' x d → W (ecV Γ.G x.c) d σ H'
  | .stuck => False
def tMA (Γ : Gm) (W : WX) (m : MA) : TA := fun σ H Q => ∃ ρ F, Rel Γ ρ σ F H ∧ PostA Γ W (m ρ) ρ σ F H Q
theorem RepFs.mono {G : Gx} {σ : St} {F F' : Hp} (e : Same F F') : ∀ {vs : List V} {rs : List Res}, RepFs G σ F vs rs → RepFs G σ F' vs rs
  | _, _, .nil => .nil
  | _, _, .cons h t => .cons (h.mono e) (RepFs.mono e t)
theorem PostA.shift {Γ : Gm} {W : WX} {o : Out (List Res)} {ρ ρ2 : Rho} {σ : St} {F H F2 H2 : Hp} {Q : List V → Hp → Prop} (s : Stp Γ ρ σ F H ρ2 σ F2 H2) (h : PostA Γ W o ρ σ F H Q) : PostA Γ W o ρ2 σ F2 H2 Q := by
  cases o with
  | ok r ρ' => exact fun v F' H' s2 q => h v F' H' (s.trans s2) q
  | exc x ρ' => exact fun d F' H' s2 q => h d F' H' (s.trans s2) q
  | stuck => exact h
theorem PostA.bindF {Γ : Gm} {W : WX} {o : Out Res} {k : Res → Rho → Out (List Res)} {ρ : Rho} {σ : St} {F H : Hp} {Q : List V → Hp → Prop} {Q1 : VK} (h : PostA Γ W (PyD.bindF o k) ρ σ F H Q)
    (hk : ∀ r ρ1 v F1 H1, Stp Γ ρ σ F H ρ1 σ F1 H1 → RepF Γ.G σ F1 v r → PostA Γ W (k r ρ1) ρ1 σ F1 H1 Q → Q1 v H1) : PostF Γ W o ρ σ F H Q1 := by
  cases o with
  | ok r ρ' => exact fun v F' H' s q => hk r.frz ρ' v F' H' s q (h.shift s)
  | exc x ρ' => exact h
  | stuck => exact h
theorem PostA.bindA {Γ : Gm} {W : WX} {o : Out (List Res)} {k : List Res → Rho → Out (List Res)} {ρ : Rho} {σ : St} {F H : Hp} {Q Q1 : List V → Hp → Prop} (h : PostA Γ W (bindO o k) ρ σ F H Q)
    (hk : ∀ r ρ1 v F1 H1, Stp Γ ρ σ F H ρ1 σ F1 H1 → RepFs Γ.G σ F1 v r → PostA Γ W (k r ρ1) ρ1 σ F1 H1 Q → Q1 v H1) : PostA Γ W o ρ σ F H Q1 := by
  cases o with
  | ok r ρ' => exact fun v F' H' s q => hk r ρ' v F' H' s q (h.shift s)
  | exc x ρ' => exact h
  | stuck => exact h
theorem Post.bindA {Γ : Gm} {W : WX} {o : Out (List Res)} {k : List Res → Rho → Out Res} {ρ : Rho} {σ : St} {F H : Hp} {Q : VK} {Q1 : List V → Hp → Prop} (h : Post Γ W (bindO o k) ρ σ F H Q)
    (hk : ∀ r ρ1 v F1 H1, Stp Γ ρ σ F H ρ1 σ F1 H1 → RepFs Γ.G σ F1 v r → Post Γ W (k r ρ1) ρ1 σ F1 H1 Q → Q1 v H1) : PostA Γ W o ρ σ F H Q1 := by
  cases o with
  | ok r ρ' => exact fun v F' H' s q => hk r ρ' v F' H' s q (h.shift s)
  | exc x ρ' => exact h
  | stuck => exact h
def mNil : MA := fun ρ => .ok [] ρ
def mCons (ma : M) (mr : MA) : MA := fun ρ => bindF (ma ρ) fun a ρ1 => bindO (mr ρ1) fun as ρ2 => .ok (a :: as) ρ2
section
variable {X : Cx} {Γ : Gm} {W : WX} {e : Expr} {ma : M} {mr : MA} {pos p : Pos} {es : List Expr}
theorem ja_nil : PA X [] (tMA Γ W mNil) := pa_nil.imp fun σ H Q ⟨ρ, F, R, p⟩ => p [] F H (.refl R) .nil
theorem tCons_ok : ∀ σ H Q, tMA Γ W (mCons ma mr) σ H Q → tCons (tF Γ W ma) (tMA Γ W mr) σ H Q := fun σ H Q ⟨ρ, F, R, p⟩ => ⟨ρ, F, R, p.bindF fun r ρ1 v F1 H1 s1 hr p1 => ⟨ρ1, F1, s1.rel, p1.bindA fun rs ρ2 vs F2 H2 s2 hrs p2 =>
  p2 (v :: vs) F2 H2 (.refl s2.rel) (.cons (hr.mono s2.subF) hrs)⟩⟩
theorem ja_cons (ha : PE X e (tM Γ W ma)) (hr : PA X es (tMA Γ W mr)) (hs : starEach (e :: es) X.env = (false, eval e X.env) :: starEach es X.env := by rfl) : PA X (e :: es) (tMA Γ W (mCons ma mr)) :=
  (pa_cons (je_f ha) hr hs).imp tCons_ok
end
/-- the data of arguments -/
def resolves (ρ : Rho) : List Res → Option (List D)
  | [] => some []
  | r :: rs => match resolve ρ r, resolves ρ rs with
    | some d, some ds => some (d :: ds)
    | _, _ => none
inductive Views (G : Gx) (F H : Hp) : List V → List D → Prop
  | nil : Views G F H [] []
  | cons {v : V} {d : D} {vs : List V} {ds : List D} : View G F H v d → Views G F H vs ds → Views G F H (v :: vs) (d :: ds)
theorem RepFs.views {Γ : Gm} {ρ : Rho} {σ : St} {F H : Hp} (R : Rel Γ ρ σ F H) : ∀ {vs : List V} {rs : List Res} {ds : List D}, RepFs Γ.G σ F vs rs → resolves ρ rs = some ds → Views Γ.G F H vs ds
  | _, _, _, .nil, e => by simp [resolves] at e; subst e; exact .nil
  | _, _, _, .cons h t, e => by
    simp only [resolves] at e
    split at e
    · rename_i d ds e1 e2
      cases e
      exact .cons (h.view R e1) (RepFs.views R t e2)
    · cases e
def CallOk (G : Gx) (r : List V → Hp → VK → Prop) (f : List D → Option Res) : Prop := ∀ F H xs ds res Q, Same F H → Views G F H xs ds → f ds = some res →
  (∀ v F' H', Alc F H F' H' → RepNew G H F' H' v res → Q v H') → r xs H Q
def opN (f : List D → Option Res) (as : List Res) (ρ : Rho) : Out Res := match resolves ρ as with
  | some ds => (match f ds with | some r => .ok r ρ | none => .stuck)
  | none => .stuck
def mCB (f : List D → Option Res) (ma : MA) : M := fun ρ => bindO (ma ρ) fun as ρ1 => opN f as ρ1
theorem opN_ok {Γ : Gm} {W : WX} {r : List V → Hp → VK → Prop} {f : List D → Option Res} {as : List Res} {ρ : Rho} {σ : St} {F H : Hp} {Q : VK} {xs : List V} (hf : CallOk Γ.G r f) (R : Rel Γ ρ σ F H) (ha : RepFs Γ.G σ F xs as) (h : Post Γ W (opN f as ρ) ρ σ F H Q) : r xs H Q := by
  unfold opN at h
  split at h
  · rename_i ds e1
    split at h
    · rename_i res e3
      exact hf F H xs ds res Q R.sub (ha.views R e1) e3 (fin_new R h)
    · exact h.elim
  · exact h.elim
theorem tCB_ok {Γ : Gm} {W : WX} {r : List V → Hp → VK → Prop} {f : List D → Option Res} {ma : MA} (hf : CallOk Γ.G r f) : ∀ σ H Q, tM Γ W (mCB f ma) σ H Q → tCB r (tMA Γ W ma) σ H Q := fun σ H Q ⟨ρ, F, R, p⟩ => ⟨ρ, F, R, p.bindA fun rs ρ1 vs F1 H1 s1 hr p1 => opN_ok hf s1.rel hr p1⟩
section
variable {X : Cx} {Γ : Gm} {W : WX} {e : Expr} {ma : MA} {pos p : Pos} {es : List Expr} {r : List V → Hp → VK → Prop} {f : List D → Option Res} {x : Str} {id T : String}
theorem je_callB (hc : CallR X (.builtin id) r) (hf : CallOk Γ.G r f) (hm : X.mg x = none) (hv : bootBuiltins x = some (.builtin id)) (ha : PA X (e :: es) (tMA Γ W ma)) (hg : Gl X x := by rfl) (hn : x ≠ "__name__" := by decide) (hdb : (x == ("__debug__" : Str)) = false := by decide)
    (he : starEach (e :: es) X.env = (false, eval e X.env) :: starEach es X.env := by rfl) (hpl : (backTo pos (starEach es X.env)).any (·.1) = false := by rfl) : PE X (.Call (.Name x p) (e :: es) [] pos) (tM Γ W (mCB f ma)) :=
  (pe_callB hc hg hm hv ha hn hdb he hpl).imp (tCB_ok hf)
theorem je_callTy (hc : CallR X (.type T) r) (hf : CallOk Γ.G r f) (hm : X.mg x = none) (hv : bootBuiltins x = some (.type T)) (ha : PA X (e :: es) (tMA Γ W ma)) (hg : Gl X x := by rfl) (hn : x ≠ "__name__" := by decide) (hdb : (x == ("__debug__" : Str)) = false := by decide)
    (he : starEach (e :: es) X.env = (false, eval e X.env) :: starEach es X.env := by rfl) (hpl : (backTo pos (starEach es X.env)).any (·.1) = false := by rfl) : PE X (.Call (.Name x p) (e :: es) [] pos) (tM Γ W (mCB f ma)) :=
  (pe_callTy hc hg hm hv ha hn hdb he hpl).imp (tCB_ok hf)
end
/-! ### settled: what is held elsewhere from now on -/
def settle (r : Res) (ρ : Rho) : Option (D × Rho) := match r with
  | .val d => some (d, ρ)
  | .new _ => none
  | .at i => match ρ[i]? with
    | some (some (.val d)) => some (d, ρ)
    | some (some (.own none d)) => some (d, ρ.set i (some (.val d)))
    | _ => none
def settles (rs : List Res) (ρ : Rho) : Option (List D × Rho) := match rs with
  | [] => some ([], ρ)
  | r :: rs => match settle r ρ with
    | some (d, ρ1) => (match settles rs ρ1 with
      | some (ds, ρ2) => some (d :: ds, ρ2)
      | none => none)
    | none => none
theorem own_set {ρ : Rho} {σ : St} {i j : Nat} {d : D} {a : Addr} (h : OwnAt (ρ.set i (some (.val d))) σ j a) : OwnAt ρ σ j a ∧ j ≠ i := by
  obtain ⟨b, d', h1, h2⟩ := h
  by_cases e : i = j
  · subst e
    rw [List.getElem?_set] at h1
    simp at h1
  · rw [List.getElem?_set_ne e] at h1
    exact ⟨⟨b, d', h1, h2⟩, fun z => e z.symm⟩
theorem settle_ok {Γ : Gm} {ρ ρ' : Rho} {σ : St} {F H : Hp} {v : V} {r : Res} {d : D} (R : Rel Γ ρ σ F H) (h : RepF Γ.G σ F v r) (e : settle r ρ = some (d, ρ')) : ∃ F', Stp Γ ρ σ F H ρ' σ F' H ∧ Dp Γ.G F' v d := by
  cases r with
  | val d' => simp only [settle, Option.some.injEq, Prod.mk.injEq] at e; obtain ⟨rfl, rfl⟩ := e; exact ⟨F, .refl R, h⟩
  | new d' => exact h.elim
  | «at» i =>
    have h : σ[i]? = some (some v) := h
    simp only [settle] at e
    split at e
    · rename_i d' q
      simp only [Option.some.injEq, Prod.mk.injEq] at e
      obtain ⟨rfl, rfl⟩ := e
      obtain ⟨v', h1, h2⟩ := R.slot i _ q
      rw [h] at h1; cases h1
      exact ⟨F, .refl R, h2⟩
    · rename_i d' q
      simp only [Option.some.injEq, Prod.mk.injEq] at e
      obtain ⟨rfl, rfl⟩ := e
      obtain ⟨v', h1, a, z, n, c, hb⟩ := R.slot i _ q
      rw [h] at h1; cases h1
      obtain ⟨o, ho⟩ := c.there
      have oa : OwnAt ρ σ i a := ⟨none, d', q, by rw [h, z]⟩
      have es : Same F (upd F a o) := fun b u w => by rw [upd_ne (ne_of_none w n)]; exact w
      refine ⟨upd F a o, ⟨⟨fun b u w => ?_, fun j s w => ?_, fun j k b h1 h2 => R.inj j k b (own_set h1).1 (own_set h2).1, by rw [List.length_set]; exact R.len⟩, es, fun b w => .inl ?_, fun _ _ w _ => w, fun b u w f no => ?_, fun _ u w => ⟨u, w⟩⟩, by rw [z]; exact c.freeze n ho⟩
      · by_cases hb : b = a
        · subst hb; rw [upd_same] at w; cases w; exact ho
        · rw [upd_ne hb] at w; exact R.sub b u w
      · by_cases hij : i = j
        · subst hij
          have hl : i < ρ.length := by
            rcases Nat.lt_or_ge i ρ.length with y | y
            · exact y
            · rw [List.getElem?_eq_none y] at q; cases q
          rw [List.getElem?_set_self hl] at w
          cases w
          exact ⟨v, h, by rw [z]; exact c.freeze n ho⟩
        · rw [List.getElem?_set_ne hij] at w
          obtain ⟨v2, h3, h4⟩ := R.slot j s w
          refine ⟨v2, h3, ?_⟩
          cases s with
          | val d2 => exact Dp.mono es h4
          | own b2 d2 =>
            obtain ⟨c2, z2, n2, ce2, hb2⟩ := h4
            have hc : c2 ≠ a := fun y => hij (R.inj i j a oa ⟨b2, d2, w, by rw [h3, z2, y]⟩)
            exact ⟨c2, z2, by rw [upd_ne hc]; exact n2, ce2.mono es fun _ hu => hu, hb2⟩
      · obtain ⟨j, w⟩ := w
        exact ⟨j, (own_set w).1⟩
      · have hb : b ≠ a := fun y => no (by rw [y]; exact ⟨i, oa⟩)
        rw [upd_ne hb]; exact f
    · cases e
theorem settles_ok {Γ : Gm} : ∀ {rs : List Res} {ρ ρ' : Rho} {σ : St} {F H : Hp} {vs : List V} {ds : List D}, Rel Γ ρ σ F H → RepFs Γ.G σ F vs rs → settles rs ρ = some (ds, ρ') → ∃ F', Stp Γ ρ σ F H ρ' σ F' H ∧ DpL Γ.G F' vs ds
  | [], _, _, _, F, _, _, _, R, .nil, e => by
    simp only [settles, Option.some.injEq, Prod.mk.injEq] at e
    obtain ⟨rfl, rfl⟩ := e
    exact ⟨F, .refl R, .nil⟩
  | r :: rs, _, _, _, _, _, _, _, R, .cons h t, e => by
    simp only [settles] at e
    split at e
    · rename_i d ρ1 e1
      split at e
      · rename_i ds ρ2 e2
        simp only [Option.some.injEq, Prod.mk.injEq] at e
        obtain ⟨rfl, rfl⟩ := e
        obtain ⟨F1, s1, p1⟩ := settle_ok R h e1
        obtain ⟨F2, s2, p2⟩ := settles_ok s1.rel (t.mono s1.subF) e2
        exact ⟨F2, s1.trans s2, .cons (p1.mono s2.subF) p2⟩
      · cases e
    · cases e
/-! displays -/
def opS (f : List D → Option Res) (as : List Res) (ρ : Rho) : Out Res := match settles as ρ with
  | some (ds, ρ1) => (match f ds with | some r => .ok r ρ1 | none => .stuck)
  | none => .stuck
/-- the arguments' data are held by what is made -/
def SetOk (G : Gx) (r : List V → Hp → VK → Prop) (f : List D → Option Res) : Prop := ∀ F H xs ds res Q, Same F H → DpL G F xs ds → f ds = some res →
  (∀ v F' H', Alc F H F' H' → RepNew G H F' H' v res → Q v H') → r xs H Q
theorem opS_ok {Γ : Gm} {W : WX} {r : List V → Hp → VK → Prop} {f : List D → Option Res} {as : List Res} {ρ : Rho} {σ : St} {F H : Hp} {Q : VK} {xs : List V} (hf : SetOk Γ.G r f) (R : Rel Γ ρ σ F H) (ha : RepFs Γ.G σ F xs as) (h : Post Γ W (opS f as ρ) ρ σ F H Q) : r xs H Q := by
  unfold opS at h
  split at h
  · rename_i ds ρ1 e1
    split at h
    · rename_i res e3
      obtain ⟨F1, s1, p1⟩ := settles_ok R ha e1
      exact hf F1 H xs ds res Q s1.rel.sub p1 e3 (fin_new s1.rel (h.shift s1))
    · exact h.elim
  · exact h.elim
def mCS (f : List D → Option Res) (ma : MA) : M := fun ρ => bindO (ma ρ) fun as ρ1 => opS f as ρ1
def tupD (ds : List D) : Option Res := if ds.length ≤ sizeLine then some (.val (.tup ds)) else none
def lstD (ds : List D) : Option Res := if ds.length ≤ sizeLine then some (.new (.lst ds)) else none
theorem tupD_ok {G : Gx} : SetOk G (fun xs H1 Q => xs.length ≤ sizeLine ∧ ∀ p, H1 p = none → Q (.ref p) (upd H1 p (.tup xs))) tupD := by
  intro F H xs ds res Q e t q k
  unfold tupD at q
  split at q
  · cases q
    exact ⟨by rw [t.length]; assumption, fun p hp => k _ _ _ (.tup e hp) (.tup (SqT.of upd_same) (t.mono (Alc.tup e hp).subF))⟩
  · cases q
theorem lstD_ok {G : Gx} : SetOk G (fun xs H1 Q => xs.length ≤ sizeLine ∧ ∀ p, H1 p = none → Q (.ref p) (upd H1 p (.lst xs))) lstD := by
  intro F H xs ds res Q e t q k
  unfold lstD at q
  split at q
  · cases q
    exact ⟨by rw [t.length]; assumption, fun p hp => k _ _ _ (.cell e hp) ⟨p, rfl, Same.free e hp, ⟨_, upd_same, t⟩, hp⟩⟩
  · cases q
theorem tCS_ok {Γ : Gm} {W : WX} {r : List V → Hp → VK → Prop} {f : List D → Option Res} {ma : MA} (hf : SetOk Γ.G r f) : ∀ σ H Q, tM Γ W (mCS f ma) σ H Q → tCB r (tMA Γ W ma) σ H Q := fun σ H Q ⟨ρ, F, R, p⟩ => ⟨ρ, F, R, p.bindA fun rs ρ1 vs F1 H1 s1 hr p1 => opS_ok hf s1.rel hr p1⟩
section
variable {X : Cx} {Γ : Gm} {W : WX} {e : Expr} {ma : MA} {pos p : Pos} {es : List Expr} {r : List V → Hp → VK → Prop} {f : List D → Option Res} {x : Str} {id T : String}
theorem je_tup {x1} (h : PA X es (tMA Γ W ma)) : PE X (.Tuple es x1 pos) (tM Γ W (mCS tupD ma)) := (pe_tup h).imp (tCS_ok tupD_ok)
theorem je_lst (h : PA X es (tMA Γ W ma)) : PE X (.List es pos) (tM Γ W (mCS lstD ma)) := (pe_lst h).imp (tCS_ok lstD_ok)
theorem je_callTyS (hc : CallR X (.type T) r) (hf : SetOk Γ.G r f) (hm : X.mg x = none) (hv : bootBuiltins x = some (.type T)) (ha : PA X (e :: es) (tMA Γ W ma)) (hg : Gl X x := by rfl) (hn : x ≠ "__name__" := by decide) (hdb : (x == ("__debug__" : Str)) = false := by decide)
    (he : starEach (e :: es) X.env = (false, eval e X.env) :: starEach es X.env := by rfl) (hpl : (backTo pos (starEach es X.env)).any (·.1) = false := by rfl) : PE X (.Call (.Name x p) (e :: es) [] pos) (tM Γ W (mCS f ma)) :=
  (pe_callTy hc hg hm hv ha hn hdb he hpl).imp (tCS_ok hf)
end
end PyD

namespace PyD
open PySem PySem.Spec PyProof.Rows L2

/-! ### slots changed -/
theorem get_set {α : Type} {l : List α} {i j : Nat} {x y : α} (h : (l.set i x)[j]? = some y) : (i = j ∧ y = x ∧ i < l.length) ∨ (i ≠ j ∧ l[j]? = some y) := by
  by_cases e : i = j
  · subst e
    rcases Nat.lt_or_ge i l.length with z | z
    · rw [List.getElem?_set_self z] at h; exact .inl ⟨rfl, (Option.some.inj h).symm, z⟩
    · rw [List.getElem?_eq_none (by simpa using z)] at h; cases h
  · rw [List.getElem?_set_ne e] at h; exact .inr ⟨e, h⟩
theorem Stp.set {Γ : Gm} {ρ₀ ρ : Rho} {σ₀ σ : St} {F₀ H₀ F H : Hp} {i : Nat} {sl : Slot} {v : V} (s : Stp Γ ρ₀ σ₀ F₀ H₀ ρ σ F H) (hi : i < ρ.length) (ok : SlotOk Γ F H v sl)
    (new : ∀ b d a, sl = .own b d → v = .ref a → ¬ Own ρ σ a ∧ (Own ρ₀ σ₀ a ∨ H₀ a = none)) : Stp Γ ρ₀ σ₀ F₀ H₀ (ρ.set i (some sl)) (σ.set i (some v)) F H := by
  have hl : i < σ.length := by rw [← s.rel.len]; exact hi
  have back : ∀ j a, OwnAt (ρ.set i (some sl)) (σ.set i (some v)) j a → (j = i ∧ (∃ b d, sl = .own b d) ∧ v = .ref a) ∨ (j ≠ i ∧ OwnAt ρ σ j a) := fun j a ⟨b, d, h1, h2⟩ => by
    rcases get_set h1 with ⟨e, e2, _⟩ | ⟨e, h1⟩
    · subst e
      rw [List.getElem?_set_self hl] at h2
      have e3 := Option.some.inj h2
      exact .inl ⟨rfl, ⟨b, d, (Option.some.inj e2).symm⟩, Option.some.inj e3⟩
    · rw [List.getElem?_set_ne e] at h2
      exact .inr ⟨fun z => e z.symm, b, d, h1, h2⟩
  refine ⟨⟨s.rel.sub, fun j sl' h => ?_, fun j k a h1 h2 => ?_, by simp [s.rel.len]⟩, s.subF, fun a ⟨j, h⟩ => ?_, s.keep, s.frn, s.there⟩
  · rcases get_set h with ⟨e, e2, _⟩ | ⟨e, h⟩
    · subst e
      have e3 := Option.some.inj e2
      subst e3
      exact ⟨v, by rw [List.getElem?_set_self hl], ok⟩
    · obtain ⟨v', h1, h2⟩ := s.rel.slot j sl' h
      exact ⟨v', by rw [List.getElem?_set_ne e]; exact h1, h2⟩
  · rcases back j a h1 with ⟨e1, ⟨b, d, e2⟩, e3⟩ | ⟨e1, o1⟩
    · rcases back k a h2 with ⟨f1, _, _⟩ | ⟨f1, o2⟩
      · rw [e1, f1]
      · exact absurd ⟨k, o2⟩ (new b d a e2 e3).1
    · rcases back k a h2 with ⟨f1, ⟨b, d, f2⟩, f3⟩ | ⟨f1, o2⟩
      · exact absurd ⟨j, o1⟩ (new b d a f2 f3).1
      · exact s.rel.inj j k a o1 o2
  · rcases back j a h with ⟨e1, ⟨b, d, e2⟩, e3⟩ | ⟨e1, o1⟩
    · exact (new b d a e2 e3).2
    · exact s.own a ⟨j, o1⟩
/-- what a slot held is forgotten -/
theorem Stp.drop {Γ : Gm} {ρ₀ ρ : Rho} {σ₀ σ : St} {F₀ H₀ F H : Hp} (s : Stp Γ ρ₀ σ₀ F₀ H₀ ρ σ F H) (i : Nat) : Stp Γ ρ₀ σ₀ F₀ H₀ (ρ.set i none) σ F H := by
  have back : ∀ j a, OwnAt (ρ.set i none) σ j a → j ≠ i ∧ OwnAt ρ σ j a := fun j a ⟨b, d, h1, h2⟩ => by
    rcases get_set h1 with ⟨e, e2, _⟩ | ⟨e, h1⟩
    · cases e2
    · exact ⟨fun z => e z.symm, b, d, h1, h2⟩
  refine ⟨⟨s.rel.sub, fun j sl' h => ?_, fun j k a h1 h2 => s.rel.inj j k a (back j a h1).2 (back k a h2).2, by simp [s.rel.len]⟩, s.subF, fun a ⟨j, h⟩ => s.own a ⟨j, (back j a h).2⟩, s.keep, s.frn, s.there⟩
  rcases get_set h with ⟨e, e2, _⟩ | ⟨e, h⟩
  · cases e2
  · exact s.rel.slot j sl' h

/-! ### statements -/
inductive SOut where
  | nx (ρ : Rho)
  | ret (r : Res) (ρ : Rho)
  | bk (ρ : Rho)
  | ct (ρ : Rho)
  | exc (x : Exc) (ρ : Rho)
  | stuck
abbrev MS := Rho → SOut
def RepOut (Γ : Gm) (ρ₀ : Rho) (σ₀ : St) (H₀ : Hp) (ρ : Rho) (σ : St) (F H : Hp) (v : V) : Res → Prop
  | .val d => Dp Γ.G F v d
  | .new d => ∃ a, v = .ref a ∧ F a = none ∧ Cell Γ.G F H a d ∧ ¬ Own ρ σ a ∧ (Own ρ₀ σ₀ a ∨ H₀ a = none)
  | .at _ => False
def PostS (Γ : Gm) (W : WX) (o : SOut) (ρ : Rho) (σ : St) (F H : Hp) (D : Ends) : Prop :=
  match o with
  | .nx ρ' => ∀ σ' F' H', Stp Γ ρ σ F H ρ' σ' F' H' → D.nx σ' H'
  | .ret r ρ' => ∀ v σ' F' H', Stp Γ ρ σ F H ρ' σ' F' H' → RepOut Γ ρ σ H ρ' σ' F' H' v r → D.rt v H'
  | .bk ρ' => ∀ σ' F' H', Stp Γ ρ σ F H ρ' σ' F' H' → D.bk σ' H'
  | .ct ρ' => ∀ σ' F' H', Stp Γ ρ σ F H ρ' σ' F' H' → D.ct σ' H'
  | .exc x ρ' => ∀ d σ' F' H', Stp Γ ρ σ F H ρ' σ' F' H' → ExcRep Γ.G F' H' x d → W (ecV Γ.G x.c) d σ' H'
  | .stuck => False
def tMS (Γ : Gm) (W : WX) (m : MS) : TS := fun D σ H => ∃ ρ F, Rel Γ ρ σ F H ∧ PostS Γ W (m ρ) ρ σ F H D
theorem RepOut.shift {Γ : Gm} {ρ ρ2 ρ' : Rho} {σ σ2 σ' : St} {F H F2 H2 F' H' : Hp} {v : V} {r : Res} (s : Stp Γ ρ σ F H ρ2 σ2 F2 H2) (q : RepOut Γ ρ2 σ2 H2 ρ' σ' F' H' v r) : RepOut Γ ρ σ H ρ' σ' F' H' v r := by
  cases r with
  | val d => exact q
  | «at» i => exact q
  | new d =>
    obtain ⟨a, e, n, c, no, fr⟩ := q
    refine ⟨a, e, n, c, no, ?_⟩
    rcases fr with z | z
    · exact s.own a z
    · right
      cases w : H a with
      | none => rfl
      | some o => obtain ⟨o', e'⟩ := s.there a o w; rw [e'] at z; cases z
theorem PostS.shift {Γ : Gm} {W : WX} {o : SOut} {ρ ρ2 : Rho} {σ σ2 : St} {F H F2 H2 : Hp} {D : Ends} (s : Stp Γ ρ σ F H ρ2 σ2 F2 H2) (h : PostS Γ W o ρ σ F H D) : PostS Γ W o ρ2 σ2 F2 H2 D := by
  cases o with
  | nx ρ' => exact fun σ' F' H' s2 => h σ' F' H' (s.trans s2)
  | ret r ρ' => exact fun v σ' F' H' s2 q => h v σ' F' H' (s.trans s2) (q.shift s)
  | bk ρ' => exact fun σ' F' H' s2 => h σ' F' H' (s.trans s2)
  | ct ρ' => exact fun σ' F' H' s2 => h σ' F' H' (s.trans s2)
  | exc x ρ' => exact fun d σ' F' H' s2 q => h d σ' F' H' (s.trans s2) q
  | stuck => exact h
/-- an expression (frozen), then a statement -/
def bindSF (o : Out Res) (k : Res → Rho → SOut) : SOut := match o with
  | .ok a ρ => k a.frz ρ
  | .exc x ρ => .exc x ρ
  | .stuck => .stuck
def bindSO {α : Type} (o : Out α) (k : α → Rho → SOut) : SOut := match o with
  | .ok a ρ => k a ρ
  | .exc x ρ => .exc x ρ
  | .stuck => .stuck
theorem PostS.bindF {Γ : Gm} {W : WX} {o : Out Res} {k : Res → Rho → SOut} {ρ : Rho} {σ : St} {F H : Hp} {D : Ends} {Q1 : VK} (h : PostS Γ W (bindSF o k) ρ σ F H D)
    (hk : ∀ r ρ1 v F1 H1, Stp Γ ρ σ F H ρ1 σ F1 H1 → RepF Γ.G σ F1 v r → PostS Γ W (k r ρ1) ρ1 σ F1 H1 D → Q1 v H1) : PostF Γ W o ρ σ F H Q1 := by
  cases o with
  | ok r ρ' => exact fun v F' H' s q => hk r.frz ρ' v F' H' s q (h.shift s)
  | exc x ρ' => exact fun d F' H' s q => h d σ F' H' s q
  | stuck => exact h
theorem PostS.bindM {Γ : Gm} {W : WX} {o : Out Res} {k : Res → Rho → SOut} {ρ : Rho} {σ : St} {F H : Hp} {D : Ends} {Q1 : VK} (h : PostS Γ W (bindSO o k) ρ σ F H D)
    (hk : ∀ r ρ1 v F1 H1, Stp Γ ρ σ F H ρ1 σ F1 H1 → RepRes Γ ρ σ H ρ1 F1 H1 v r → PostS Γ W (k r ρ1) ρ σ F H D → Q1 v H1) : Post Γ W o ρ σ F H Q1 := by
  cases o with
  | ok r ρ' => exact fun v F' H' s q => hk r ρ' v F' H' s q h
  | exc x ρ' => exact fun d F' H' s q => h d σ F' H' s q
  | stuck => exact h
theorem PostS.bindB {Γ : Gm} {W : WX} {o : Out Bool} {k : Bool → Rho → SOut} {ρ : Rho} {σ : St} {F H : Hp} {D : Ends} {Q1 : Bool → Hp → Prop} (h : PostS Γ W (bindSO o k) ρ σ F H D)
    (hk : ∀ r ρ1 F1 H1, Stp Γ ρ σ F H ρ1 σ F1 H1 → PostS Γ W (k r ρ1) ρ1 σ F1 H1 D → Q1 r H1) : PostB Γ W o ρ σ F H Q1 := by
  cases o with
  | ok r ρ' => exact fun F' H' s => hk r ρ' F' H' s (h.shift s)
  | exc x ρ' => exact fun d F' H' s q => h d σ F' H' s q
  | stuck => exact h
def mNext : MS := fun ρ => .nx ρ
def mSeq (m1 m2 : MS) : MS := fun ρ => match m1 ρ with
  | .nx ρ1 => m2 ρ1
  | o => o
/-- x = e, x in slot i -/
def setR (i : Nat) (r : Res) (ρ : Rho) : SOut := if i < ρ.length then (match r with
  | .val d => .nx (ρ.set i (some (.val d)))
  | .new d => .nx (ρ.set i (some (.own none d)))
  | .at j => match settle (.at j) ρ with
    | some (d, ρ1) => .nx (ρ1.set i (some (.val d)))
    | none => .stuck) else .stuck
def mSet (i : Nat) (m : M) : MS := fun ρ => bindSO (m ρ) fun r ρ1 => setR i r ρ1
def mExpr (m : M) : MS := fun ρ => bindSO (m ρ) fun _ ρ1 => .nx ρ1
def retR (r : Res) (ρ : Rho) : SOut := match r with
  | .val d => .ret (.val d) ρ
  | .new d => .ret (.new d) ρ
  | .at j => match ρ[j]? with
    | some (some (.val d)) => .ret (.val d) ρ
    | some (some (.own none d)) => .ret (.new d) (ρ.set j none)
    | _ => .stuck
def mRet (m : M) : MS := fun ρ => bindSO (m ρ) fun r ρ1 => retR r ρ1
def mIfS (t : MB) (m1 m2 : MS) : MS := fun ρ => bindSO (t ρ) fun k ρ1 => if k = true then m1 ρ1 else m2 ρ1
theorem settle_len {r : Res} {ρ ρ' : Rho} {d : D} (e : settle r ρ = some (d, ρ')) : ρ'.length = ρ.length := by
  cases r with
  | val d' => simp only [settle, Option.some.injEq, Prod.mk.injEq] at e; rw [← e.2]
  | new d' => simp [settle] at e
  | «at» i =>
    simp only [settle] at e
    split at e
    · simp only [Option.some.injEq, Prod.mk.injEq] at e; rw [← e.2]
    · simp only [Option.some.injEq, Prod.mk.injEq] at e; rw [← e.2]; simp
    · cases e
section
variable {X : Cx} {Γ : Gm} {W : WX} {e : Expr} {m : M} {pos pos' : Pos} {st : Stmt} {rest a b : List Stmt} {m1 m2 : MS} {t : MB}
theorem js_nil : PSs X [] (tMS Γ W mNext) := pss_nil.imp fun D σ H ⟨ρ, F, R, p⟩ => p σ F H (.refl R)
theorem js_cons (h1 : PS X st (tMS Γ W m1)) (h2 : PSs X rest (tMS Γ W m2)) : PSs X (st :: rest) (tMS Γ W (mSeq m1 m2)) := (pss_cons h1 h2).imp fun D σ H ⟨ρ, F, R, p⟩ => by
  refine ⟨ρ, F, R, ?_⟩
  unfold mSeq at p
  cases e : m1 ρ with
  | nx ρ1 => rw [e] at p; exact fun σ' F' H' s => ⟨ρ1, F', s.rel, p.shift s⟩
  | ret r ρ1 => rw [e] at p; exact p
  | bk ρ1 => rw [e] at p; exact p
  | ct ρ1 => rw [e] at p; exact p
  | exc x ρ1 => rw [e] at p; exact p
  | stuck => rw [e] at p; exact p.elim
theorem js_one (h1 : PS X st (tMS Γ W m1)) : PSs X [st] (tMS Γ W m1) := pss_one h1
theorem js_pass : PS X (.Pass pos) (tMS Γ W mNext) := ps_pass.imp fun D σ H ⟨ρ, F, R, p⟩ => p σ F H (.refl R)
theorem js_break : PS X (.Break pos) (tMS Γ W fun ρ => .bk ρ) := ps_break.imp fun D σ H ⟨ρ, F, R, p⟩ => p σ F H (.refl R)
theorem js_continue : PS X (.Continue pos) (tMS Γ W fun ρ => .ct ρ) := ps_continue.imp fun D σ H ⟨ρ, F, R, p⟩ => p σ F H (.refl R)
theorem set_go {ρ ρ1 : Rho} {σ : St} {F H F1 H1 : Hp} {D : Ends} {i : Nat} {r : Res} {v : V} (s : Stp Γ ρ σ F H ρ1 σ F1 H1) (hr : RepRes Γ ρ σ H ρ1 F1 H1 v r) (p : PostS Γ W (setR i r ρ1) ρ σ F H D) : D.nx (σ.set i (some v)) H1 := by
  unfold setR at p
  split at p
  · rename_i hi
    cases r with
    | val d => exact p _ F1 H1 (s.set hi hr (fun _ _ _ z => nomatch z))
    | new d =>
      obtain ⟨a, rfl, n, c, no, fr⟩ := hr
      refine p _ F1 H1 (s.set hi ⟨a, rfl, n, c, fun k z => nomatch z⟩ fun b d' a' e1 e2 => ?_)
      cases e2
      exact ⟨no, fr⟩
    | «at» j =>
      simp only at p
      split at p
      · rename_i d ρ2 e
        obtain ⟨F2, s2, q⟩ := settle_ok s.rel (show RepF Γ.G σ F1 v (.at j) from hr) e
        exact p _ F2 H1 ((s.trans s2).set (by rw [settle_len e]; exact hi) q (fun _ _ _ z => nomatch z))
      · exact p.elim
  · exact p.elim
theorem js_set {i : Nat} {x : Str} (hN : X.N.Nodup) (hx : Loc X.env.scope x) (he : PE X e (tM Γ W m)) (hi : X.N[i]? = some x := by rfl) (hs : swapsWith e (some (.Name x pos')) pos.line X.env = pure false := by rfl)
    (hf : X.fn x = true ∨ X.env.scope.names.lookup x = some .local := by first | exact .inl rfl | exact .inr rfl | assumption) :
    PS X (.Assign [.Name x pos'] e pos) (tMS Γ W (mSet i m)) :=
  (ps_set hN hi hx he hs hf).imp fun D σ H ⟨ρ, F, R, p⟩ => ⟨ρ, F, R, p.bindM fun r ρ1 v F1 H1 s1 hr p1 => set_go s1 hr p1⟩
theorem js_expr (he : PE X e (tM Γ W m)) (hs : swapsWith e none pos.line X.env = pure false := by rfl) : PS X (.Expr e pos) (tMS Γ W (mExpr m)) :=
  (ps_expr he hs).imp fun D σ H ⟨ρ, F, R, p⟩ => ⟨ρ, F, R, p.bindM fun r ρ1 v F1 H1 s1 hr p1 => p1 σ F1 H1 s1⟩
theorem js_ret (he : PE X e (tM Γ W m)) : PS X (.Return (some e) pos) (tMS Γ W (mRet m)) :=
  (ps_ret he).imp fun D σ H ⟨ρ, F, R, p⟩ => ⟨ρ, F, R, p.bindM fun r ρ1 v F1 H1 s1 hr p1 => by
    unfold retR at p1
    cases r with
    | val d => exact p1 v σ F1 H1 s1 hr
    | new d => exact p1 v σ F1 H1 s1 hr
    | «at» j =>
      have hr : σ[j]? = some (some v) := hr
      simp only at p1
      split at p1
      · rename_i d q
        obtain ⟨v', h1, h2⟩ := s1.rel.slot j _ q
        rw [hr] at h1; cases h1
        exact p1 v σ F1 H1 s1 h2
      · rename_i d q
        obtain ⟨v', h1, a, z, n, c, hb⟩ := s1.rel.slot j _ q
        rw [hr] at h1; cases h1
        have oa : OwnAt ρ1 σ j a := ⟨none, d, q, by rw [hr, z]⟩
        refine p1 v σ F1 H1 (s1.drop j) ⟨a, z, n, c, fun ⟨k, b, d', w1, w2⟩ => ?_, s1.own a ⟨j, oa⟩⟩
        rcases get_set w1 with ⟨e1, e2, _⟩ | ⟨e1, w1⟩
        · cases e2
        · exact e1 (s1.rel.inj j k a oa ⟨b, d', w1, w2⟩)
      · exact p1.elim⟩
theorem js_retN : PS X (.Return none pos) (tMS Γ W fun ρ => .ret (.val .non) ρ) := ps_retN.imp fun D σ H ⟨ρ, F, R, p⟩ => p .non σ F H (.refl R) .non
theorem js_if {c : Expr} (hc : PT X c (tMB Γ W t)) (ha : PSs X a (tMS Γ W m1)) (hb : PSs X b (tMS Γ W m2)) : PS X (.If c a b pos) (tMS Γ W (mIfS t m1 m2)) :=
  (ps_if hc ha hb).imp fun D σ H ⟨ρ, F, R, p⟩ => ⟨ρ, F, R, p.bindB fun k ρ1 F1 H1 s1 p1 => by
    by_cases hk : k = true
    · simp only [hk, if_true] at p1 ⊢; exact ⟨ρ1, F1, s1.rel, p1⟩
    · simp only [hk] at p1 ⊢; exact ⟨ρ1, F1, s1.rel, p1⟩⟩
end

/-! ### targets -/
abbrev Tg := D → Rho → Option Rho
abbrev Tgs := List D → Rho → Option Rho
def TgOk (Γ : Gm) (g : TG) (f : Tg) : Prop := ∀ v d ρ ρ' σ F H Q, Rel Γ ρ σ F H → Dp Γ.G F v d → f d ρ = some ρ' → (∀ σ', Stp Γ ρ σ F H ρ' σ' F H → Q σ' H) → g v σ H Q
def TgsOk (Γ : Gm) (g : TGs) (f : Tgs) : Prop := ∀ vs ds ρ ρ' σ F H Q, Rel Γ ρ σ F H → DpL Γ.G F vs ds → f ds ρ = some ρ' → (∀ σ', Stp Γ ρ σ F H ρ' σ' F H → Q σ' H) → g vs σ H Q
def gN (i : Nat) : Tg := fun d ρ => if i < ρ.length then some (ρ.set i (some (.val d))) else none
def gsNil : Tgs := fun ds ρ => match ds with
  | [] => some ρ
  | _ => none
def gsCons (f : Tg) (g : Tgs) : Tgs := fun ds ρ => match ds with
  | d :: ds => (f d ρ).bind fun ρ1 => g ds ρ1
  | [] => none
def gT (n : Nat) (g : Tgs) : Tg := fun d ρ => match d with
  | .tup ds => if ds.length = n then g ds ρ else none
  | _ => none
theorem tg_name {Γ : Gm} {i : Nat} : TgOk Γ (gName i) (gN i) := by
  intro v d ρ ρ' σ F H Q R h e k
  unfold gN at e
  split at e
  · rename_i hi
    cases e
    exact k _ ((Stp.refl R).set hi h fun _ _ _ z => nomatch z)
  · cases e
theorem tgs_nil {Γ : Gm} : TgsOk Γ gNil gsNil := by
  intro vs ds ρ ρ' σ F H Q R h e k
  unfold gsNil at e
  split at e
  · cases e; cases h; exact ⟨rfl, k σ (.refl R)⟩
  · cases e
theorem tgs_cons {Γ : Gm} {t : TG} {u : TGs} {f : Tg} {g : Tgs} (h1 : TgOk Γ t f) (h2 : TgsOk Γ u g) : TgsOk Γ (gCons t u) (gsCons f g) := by
  intro vs ds ρ ρ' σ F H Q R h e k
  unfold gsCons at e
  split at e
  · rename_i d ds
    obtain ⟨ρ1, e1, e2⟩ := Option.bind_eq_some_iff.mp e
    cases h with
    | cons ha hb => exact ⟨_, _, rfl, h1 _ d ρ ρ1 σ F H _ R ha e1 fun σ1 s1 => h2 _ ds ρ1 ρ' σ1 F H Q s1.rel hb e2 fun σ2 s2 => k σ2 (s1.trans s2)⟩
  · cases e
theorem tg_tup {Γ : Gm} {u : TGs} {g : Tgs} {n : Nat} (h2 : TgsOk Γ u g) : TgOk Γ (gTup Γ.G.K n u) (gT n g) := by
  intro v d ρ ρ' σ F H Q R h e k
  unfold gT at e
  split at e
  · rename_i ds
    split at e
    · rename_i hn
      cases h with
      | tup hs t => exact ⟨_, _, rfl, sqT_ext hs R.sub, by rw [t.length]; exact hn, h2 _ ds ρ ρ' σ F H Q R t e k⟩
    · cases e
  · cases e
/-- targets = e, e settled -/
def tgtR (f : Tg) (r : Res) (ρ : Rho) : SOut := match settle r ρ with
  | some (d, ρ1) => (match f d ρ1 with | some ρ2 => .nx ρ2 | none => .stuck)
  | none => .stuck
def mAsg (f : Tg) (m : M) : MS := fun ρ => bindSF (m ρ) fun r ρ1 => tgtR f r ρ1
section
variable {X : Cx} {Γ : Gm} {W : WX} {e tg : Expr} {m : M} {pos pos' : Pos}
theorem js_asg {g : TG} {f : Tg} (hg : PG X tg g) (hf : TgOk Γ g f) (he : PE X e (tM Γ W m)) (hs : swapsWithSole [tg] e pos.line X.env = pure false := by rfl) (hw : swappedStores [tg] e X.env = pure none := by rfl) (h1 : (assignEach [tg] X.env).map (·.2) = [assign tg X.env] := by rfl) : PS X (.Assign [tg] e pos) (tMS Γ W (mAsg f m)) :=
  (ps_asg (je_f he) hg hs hw h1).imp fun D σ H ⟨ρ, F, R, p⟩ => ⟨ρ, F, R, p.bindF fun r ρ1 v F1 H1 s1 hr p1 => by
    unfold tgtR at p1
    split at p1
    · rename_i d ρ2 e1
      split at p1
      · rename_i ρ3 e2
        obtain ⟨F2, s2, q⟩ := settle_ok s1.rel hr e1
        exact hf v d ρ2 ρ3 σ F2 H1 _ s2.rel q e2 fun σ' s3 => p1 σ' F2 H1 (s2.trans s3)
      · exact p1.elim
    · exact p1.elim⟩
end
end PyD

namespace PyD
open PySem PySem.Spec PyProof.Rows L2

/-! ### a def as a function over data: v d: plain; o d: a cell that is lent -/
inductive Arg where
  | v (d : D)
  | o (d : D)
inductive FOut where
  | ret (r : Res) (os : List D)
  | exc (x : Exc) (os : List D)
  | stuck
abbrev Fn := List Arg → FOut
inductive ARel (G : Gx) (F H : Hp) : List V → List Arg → List Addr → Prop
  | nil : ARel G F H [] [] []
  | v {v : V} {d : D} {vs : List V} {as : List Arg} {L : List Addr} : Dp G F v d → ARel G F H vs as L → ARel G F H (v :: vs) (.v d :: as) L
  | o {a : Addr} {d : D} {vs : List V} {as : List Arg} {L : List Addr} : F a = none → Cell G F H a d → a ∉ L → ARel G F H vs as L → ARel G F H (.ref a :: vs) (.o d :: as) (a :: L)
inductive ORel (G : Gx) (F H : Hp) : List Addr → List D → Prop
  | nil : ORel G F H [] []
  | cons {a : Addr} {d : D} {L : List Addr} {os : List D} : F a = none → Cell G F H a d → ORel G F H L os → ORel G F H (a :: L) (d :: os)
structure CStp (F H F' H' : Hp) (L : List Addr) : Prop where
  fh : Same F' H'
  subF : Same F F'
  keep : ∀ a o, H a = some o → a ∉ L → H' a = some o
  frn : ∀ a o, H a = some o → F a = none → F' a = none
  there : ∀ a o, H a = some o → ∃ o', H' a = some o'
def RepRet (G : Gx) (H F' H' : Hp) (v : V) : Res → Prop
  | .val d => Dp G F' v d
  | .new d => ∃ a, v = .ref a ∧ F' a = none ∧ Cell G F' H' a d ∧ H a = none
  | .at _ => False
def spF (G : Gx) (n : Nat) (f : Fn) : Sp := fun vs H Q E => vs.length = n ∧ ∃ F as L, Same F H ∧ ARel G F H vs as L ∧ match f as with
  | .ret r os => ∀ v F' H', CStp F H F' H' L → ORel G F' H' L os → RepRet G H F' H' v r → Q v H'
  | .exc x os => ∀ d F' H', CStp F H F' H' L → ORel G F' H' L os → ExcRep G F' H' x d → E (ecV G x.c) d H'
  | .stuck => False

/-! the caller's side -/
inductive BArg where
  | v (d : D)
  | o (i : Nat) (b : Option Nat) (d : D)
def BArg.strip : BArg → Arg
  | .v d => .v d
  | .o _ _ d => .o d
def idx : List BArg → List Nat
  | [] => []
  | .v _ :: as => idx as
  | .o i _ _ :: as => i :: idx as
/-- first: what is not lent is settled -/
def prep1 : List Bool → List Res → Rho → Option (List (D ⊕ Nat) × Rho)
  | _, [], ρ => some ([], ρ)
  | mk, r :: rs, ρ => match mk, r with
    | true :: mk, .at i => (match prep1 mk rs ρ with
      | some (ms, ρ2) => some (.inr i :: ms, ρ2)
      | none => none)
    | mk, r => match settle r ρ with
      | some (d, ρ1) => (match prep1 mk.tail rs ρ1 with
        | some (ms, ρ2) => some (.inl d :: ms, ρ2)
        | none => none)
      | none => none
/-- then the lent ones -/
def prep2 (ρ : Rho) : List (D ⊕ Nat) → Option (List BArg)
  | [] => some []
  | .inl d :: ms => (prep2 ρ ms).map (.v d :: ·)
  | .inr i :: ms => match ρ[i]? with
    | some (some (.own b d)) => (match prep2 ρ ms with
      | some as => if i ∈ idx as then none else some (.o i b d :: as)
      | none => none)
    | some (some (.val d)) => (prep2 ρ ms).map (.v d :: ·)
    | _ => none
def wb : List BArg → List D → Rho → Option Rho
  | [], [], ρ => some ρ
  | .v _ :: as, os, ρ => wb as os ρ
  | .o i b _ :: as, d :: os, ρ => (wb as os ρ).map fun ρ => ρ.set i (some (.own b d))
  | _, _, _ => none
inductive MRel (G : Gx) (σ : St) (F : Hp) : List V → List (D ⊕ Nat) → Prop
  | nil : MRel G σ F [] []
  | v {v : V} {d : D} {vs : List V} {ms : List (D ⊕ Nat)} : Dp G F v d → MRel G σ F vs ms → MRel G σ F (v :: vs) (.inl d :: ms)
  | o {v : V} {i : Nat} {vs : List V} {ms : List (D ⊕ Nat)} : σ[i]? = some (some v) → MRel G σ F vs ms → MRel G σ F (v :: vs) (.inr i :: ms)
theorem prep1_ok {Γ : Gm} : ∀ {rs : List Res} {mk : List Bool} {ρ ρ' : Rho} {σ : St} {F H : Hp} {vs : List V} {ms : List (D ⊕ Nat)}, Rel Γ ρ σ F H → RepFs Γ.G σ F vs rs → prep1 mk rs ρ = some (ms, ρ') → ∃ F', Stp Γ ρ σ F H ρ' σ F' H ∧ MRel Γ.G σ F' vs ms
  | [], mk, _, _, _, F, _, _, _, R, .nil, e => by
    simp only [prep1, Option.some.injEq, Prod.mk.injEq] at e
    obtain ⟨rfl, rfl⟩ := e
    exact ⟨F, .refl R, .nil⟩
  | r :: rs, mk, _, _, _, _, _, _, _, R, .cons h t, e => by
    simp only [prep1] at e
    split at e
    · rename_i mk' i
      split at e
      · rename_i ms ρ2 e2
        simp only [Option.some.injEq, Prod.mk.injEq] at e
        obtain ⟨rfl, rfl⟩ := e
        obtain ⟨F2, s2, p2⟩ := prep1_ok R t e2
        exact ⟨F2, s2, .o h p2⟩
      · cases e
    · split at e
      · rename_i d ρ1 e1
        split at e
        · rename_i ms ρ2 e2
          simp only [Option.some.injEq, Prod.mk.injEq] at e
          obtain ⟨rfl, rfl⟩ := e
          obtain ⟨F1, s1, p1⟩ := settle_ok R h e1
          obtain ⟨F2, s2, p2⟩ := prep1_ok s1.rel (t.mono s1.subF) e2
          exact ⟨F2, s1.trans s2, .v (p1.mono s2.subF) p2⟩
        · cases e
      · cases e
inductive BRel (Γ : Gm) (ρ : Rho) (σ : St) (F H : Hp) : List V → List BArg → List Addr → Prop
  | nil : BRel Γ ρ σ F H [] [] []
  | v {v : V} {d : D} {vs : List V} {as : List BArg} {L : List Addr} : Dp Γ.G F v d → BRel Γ ρ σ F H vs as L → BRel Γ ρ σ F H (v :: vs) (.v d :: as) L
  | o {a : Addr} {i : Nat} {b : Option Nat} {d : D} {vs : List V} {as : List BArg} {L : List Addr} : ρ[i]? = some (some (.own b d)) → σ[i]? = some (some (.ref a)) → i ∉ idx as → BRel Γ ρ σ F H vs as L →
      BRel Γ ρ σ F H (.ref a :: vs) (.o i b d :: as) (a :: L)
theorem prep2_ok {Γ : Gm} {ρ : Rho} {σ : St} {F H : Hp} (R : Rel Γ ρ σ F H) : ∀ {vs : List V} {ms : List (D ⊕ Nat)} {as : List BArg}, MRel Γ.G σ F vs ms → prep2 ρ ms = some as → ∃ L, BRel Γ ρ σ F H vs as L
  | _, _, _, .nil, e => by simp only [prep2, Option.some.injEq] at e; subst e; exact ⟨[], .nil⟩
  | _, _, _, .v h t, e => by
    simp only [prep2, Option.map_eq_some_iff] at e
    obtain ⟨as, e1, rfl⟩ := e
    obtain ⟨L, B⟩ := prep2_ok R t e1
    exact ⟨L, .v h B⟩
  | _, _, _, .o (i := i) h t, e => by
    simp only [prep2] at e
    split at e
    · rename_i b d q
      split at e
      · rename_i as e1
        split at e
        · cases e
        · rename_i ni
          simp only [Option.some.injEq] at e
          subst e
          obtain ⟨L, B⟩ := prep2_ok R t e1
          obtain ⟨v', h1, a, z, n, c, hb⟩ := R.slot i _ q
          rw [h] at h1; cases h1; subst z
          exact ⟨a :: L, .o q h ni B⟩
      · cases e
    · rename_i d q
      obtain ⟨as, e1, rfl⟩ := Option.map_eq_some_iff.mp e
      obtain ⟨L, B⟩ := prep2_ok R t e1
      obtain ⟨v', h1, h2⟩ := R.slot i _ q
      rw [h] at h1; cases h1
      exact ⟨L, .v h2 B⟩
    · cases e
section
variable {Γ : Gm} {ρ : Rho} {σ : St} {F H F' H' : Hp}
theorem BRel.mem : ∀ {vs : List V} {as : List BArg} {L : List Addr}, BRel Γ ρ σ F H vs as L → ∀ a ∈ L, ∃ i ∈ idx as, OwnAt ρ σ i a
  | _, _, _, .nil, a, h => by cases h
  | _, _, _, .v _ t, a, h => t.mem a h
  | _, _, _, .o (i := i) (b := b) (d := d) q1 q2 q3 t, a, h => by
    rcases List.mem_cons.mp h with e | h
    · exact ⟨i, List.mem_cons_self .., b, d, q1, by rw [q2, e]⟩
    · obtain ⟨j, h1, h2⟩ := t.mem a h
      exact ⟨j, List.mem_cons_of_mem _ h1, h2⟩
theorem BRel.arel (R : Rel Γ ρ σ F H) : ∀ {vs : List V} {as : List BArg} {L : List Addr}, BRel Γ ρ σ F H vs as L → ARel Γ.G F H vs (as.map BArg.strip) L
  | _, _, _, .nil => .nil
  | _, _, _, .v h t => .v h (t.arel R)
  | _, _, _, .o (a := a) (i := i) (b := b) (d := d) q1 q2 q3 t => by
    obtain ⟨v', h1, a', z, n, c, hb⟩ := R.slot i _ q1
    rw [q2] at h1; cases h1; cases z
    refine .o n c (fun z => ?_) (t.arel R)
    obtain ⟨j, h1, h2⟩ := t.mem a z
    exact q3 (by rw [R.inj i j a ⟨b, d, q1, q2⟩ h2]; exact h1)
theorem wb_get : ∀ {vs : List V} {as : List BArg} {L : List Addr} {os : List D} {ρ' : Rho}, BRel Γ ρ σ F H vs as L → ORel Γ.G F' H' L os → wb as os ρ = some ρ' → ρ'.length = ρ.length ∧ ∀ (j : Nat) sl, ρ'[j]? = some (some sl) →
    (ρ[j]? = some (some sl) ∧ j ∉ idx as) ∨ ∃ b d d' a, sl = .own b d' ∧ ρ[j]? = some (some (.own b d)) ∧ σ[j]? = some (some (.ref a)) ∧ F' a = none ∧ Cell Γ.G F' H' a d'
  | _, _, _, _, _, .nil, .nil, e => by simp only [wb, Option.some.injEq] at e; subst e; exact ⟨rfl, fun j sl h => .inl ⟨h, by simp [idx]⟩⟩
  | _, _, _, os, ρ', .v (as := as) h t, O, e => by
    have e : wb as os ρ = some ρ' := by
      cases os <;> simpa only [wb] using e
    have g := wb_get t O e
    exact g
  | _, _, _, _, _, .o (a := a) (i := i) (b := b) (d := d) q1 q2 q3 t, .cons (d := d') hn hc O, e => by
    simp only [wb, Option.map_eq_some_iff] at e
    obtain ⟨ρ1, e1, rfl⟩ := e
    obtain ⟨hl, g⟩ := wb_get t O e1
    refine ⟨by simp [hl], fun j sl h => ?_⟩
    rcases get_set h with ⟨z, z2, _⟩ | ⟨z, h⟩
    · subst z
      exact .inr ⟨b, d, d', a, Option.some.inj z2, q1, q2, hn, hc⟩
    · rcases g j sl h with ⟨h1, h2⟩ | h1
      · exact .inl ⟨h1, by simp only [idx, List.mem_cons, not_or]; exact ⟨fun w => z w.symm, h2⟩⟩
      · exact .inr h1
theorem call_stp {vs : List V} {as : List BArg} {L : List Addr} {os : List D} {ρ' : Rho} (R : Rel Γ ρ σ F H) (B : BRel Γ ρ σ F H vs as L) (C : CStp F H F' H' L) (O : ORel Γ.G F' H' L os) (e : wb as os ρ = some ρ') : Stp Γ ρ σ F H ρ' σ F' H' ∧ ∀ a, Own ρ' σ a → Own ρ σ a := by
  obtain ⟨hl, g⟩ := wb_get B O e
  have bk : ∀ j a, OwnAt ρ' σ j a → OwnAt ρ σ j a := fun j a ⟨b, d, h1, h2⟩ => by
    rcases g j _ h1 with ⟨w, _⟩ | ⟨b', d2, d', a', e1, w, w2, _⟩
    · exact ⟨b, d, w, h2⟩
    · cases e1; exact ⟨b, d2, w, h2⟩
  refine ⟨?_, fun a ⟨j, h⟩ => ⟨j, bk j a h⟩⟩
  refine ⟨⟨C.fh, fun j sl h => ?_, fun j k a h1 h2 => R.inj j k a (bk j a h1) (bk k a h2), by rw [hl]; exact R.len⟩, C.subF, fun a ⟨j, h⟩ => .inl ⟨j, bk j a h⟩, fun a o h no => C.keep a o h fun z => ?_, fun a o h f _ => C.frn a o h f, C.there⟩
  · rcases g j sl h with ⟨w, ni⟩ | ⟨b, d, d', a, rfl, w, w2, hn, hc⟩
    · obtain ⟨v, h1, h2⟩ := R.slot j sl w
      refine ⟨v, h1, ?_⟩
      cases sl with
      | val d => exact Dp.mono C.subF h2
      | own b d =>
        obtain ⟨c, z, n, ce, hb⟩ := h2
        obtain ⟨o, ho⟩ := ce.there
        have hc : c ∉ L := fun y => by
          obtain ⟨i, h3, h4⟩ := B.mem c y
          exact ni (by rw [R.inj j i c ⟨b, d, w, by rw [h1, z]⟩ h4]; exact h3)
        exact ⟨c, z, C.frn c o ho n, ce.mono C.subF fun u hu => C.keep c u hu hc, hb⟩
    · obtain ⟨v, h1, a', z, n, ce, hb⟩ := R.slot j _ w
      rw [w2] at h1; cases h1; cases z
      exact ⟨_, w2, a, rfl, hn, hc, hb⟩
  · obtain ⟨i, _, h2⟩ := B.mem a z
    exact no ⟨i, h2⟩
end
/-- the call of f, its arguments evaluated -/
def callR (mk : List Bool) (f : Fn) (rs : List Res) (ρ : Rho) : Out Res := match prep1 mk rs ρ with
  | some (ms, ρ1) => (match prep2 ρ1 ms with
    | some as => (match f (as.map BArg.strip) with
      | .ret r os => (match wb as os ρ1 with
        | some ρ2 => .ok r ρ2
        | none => .stuck)
      | .exc x os => (match wb as os ρ1 with
        | some ρ2 => .exc x ρ2
        | none => .stuck)
      | .stuck => .stuck)
    | none => .stuck)
  | none => .stuck
theorem RepRet.res {Γ : Gm} {ρ ρ1 ρ' : Rho} {σ : St} {F1 H F' H' : Hp} {v : V} {r : Res} (R1 : Rel Γ ρ1 σ F1 H) (bk : ∀ a, Own ρ' σ a → Own ρ1 σ a) (h : RepRet Γ.G H F' H' v r) : RepRes Γ ρ σ H ρ' F' H' v r := by
  cases r with
  | val d => exact h
  | «at» i => exact h.elim
  | new d =>
    obtain ⟨a, e, n, c, hn⟩ := h
    refine ⟨a, e, n, c, fun z => ?_, .inr hn⟩
    obtain ⟨_, u, hu⟩ := R1.ownF (bk a z)
    rw [hn] at hu; cases hu
theorem callR_ok {Γ : Gm} {W : WX} {mk : List Bool} {f : Fn} {rs : List Res} {ρ : Rho} {σ : St} {F H : Hp} {Q : VK} {vs : List V} {n : Nat} (R : Rel Γ ρ σ F H) (ha : RepFs Γ.G σ F vs rs) (hn : vs.length = n) (h : Post Γ W (callR mk f rs ρ) ρ σ F H Q) :
    spF Γ.G n f vs H Q (fun cls d H' => W cls d σ H') := by
  unfold callR at h
  split at h
  · rename_i ms ρ1 e1
    obtain ⟨F1, s1, m1⟩ := prep1_ok R ha e1
    split at h
    · rename_i as e2
      obtain ⟨L, B⟩ := prep2_ok s1.rel m1 e2
      refine ⟨hn, F1, as.map BArg.strip, L, s1.rel.sub, B.arel s1.rel, ?_⟩
      split at h
      · rename_i r os e3
        split at h
        · rename_i ρ2 e4
          intro v F' H' C O q
          obtain ⟨s2, bk⟩ := call_stp s1.rel B C O e4
          exact h v F' H' (s1.trans s2) (RepRet.res s1.rel bk q)
        · exact h.elim
      · rename_i x os e3
        split at h
        · rename_i ρ2 e4
          intro d F' H' C O q
          exact h d F' H' (s1.trans (call_stp s1.rel B C O e4).1) q
        · exact h.elim
      · exact h.elim
    · exact h.elim
  · exact h.elim

/-! ### the callee's side -/
def slotsOf : Nat → List Arg → Rho
  | _, [] => []
  | k, .v d :: as => some (.val d) :: slotsOf (k + 1) as
  | k, .o d :: as => some (.own (some k) d) :: slotsOf (k + 1) as
def outsOf (ρ : Rho) : Nat → List Arg → Option (List D)
  | _, [] => some []
  | k, .v _ :: as => outsOf ρ (k + 1) as
  | k, .o _ :: as => match ρ[k]? with
    | some (some (.own (some j) d)) => if j = k then (outsOf ρ (k + 1) as).map (d :: ·) else none
    | _ => none
def fin (as : List Arg) (ρ : Rho) (k : List D → FOut) : FOut := match outsOf ρ 0 as with
  | some os => k os
  | none => .stuck
/-- a def with nl further local names and the body m -/
def mkFn (nl : Nat) (m : MS) : Fn := fun as => match m (slotsOf 0 as ++ List.replicate nl none) with
  | .nx ρ => fin as ρ fun os => .ret (.val .non) os
  | .ret (.val d) ρ => fin as ρ fun os => .ret (.val d) os
  | .ret (.new d) ρ => fin as ρ fun os => .ret (.new d) os
  | .exc x ρ => fin as ρ fun os => .exc x os
  | _ => .stuck
def bet (vs : List V) (k : Nat) : Addr := match vs[k]? with
  | some (.ref a) => a
  | _ => 0
theorem slotsOf_len : ∀ (as : List Arg) (k : Nat), (slotsOf k as).length = as.length
  | [], _ => rfl
  | .v _ :: as, k => by simp [slotsOf, slotsOf_len as]
  | .o _ :: as, k => by simp [slotsOf, slotsOf_len as]
theorem ARel.len {G : Gx} {F H : Hp} : ∀ {vs : List V} {as : List Arg} {L : List Addr}, ARel G F H vs as L → vs.length = as.length
  | _, _, _, .nil => rfl
  | _, _, _, .v _ t => by simp [t.len]
  | _, _, _, .o _ _ _ t => by simp [t.len]
/-- what a slot of the entry is -/
theorem slot_at {G : Gx} {F H : Hp} : ∀ {vs : List V} {as : List Arg} {L : List Addr} {k i : Nat} {sl : Slot}, ARel G F H vs as L → (slotsOf k as)[i]? = some (some sl) → ∃ v, vs[i]? = some v ∧
    ((∃ d, sl = .val d ∧ Dp G F v d) ∨ ∃ d a, sl = .own (some (k + i)) d ∧ v = .ref a ∧ F a = none ∧ Cell G F H a d ∧ a ∈ L)
  | _, _, _, _, i, _, .nil, e => by simp [slotsOf] at e
  | _, _, _, k, 0, sl, .v h t, e => by
    simp only [slotsOf, List.getElem?_cons_zero, Option.some.injEq] at e
    exact ⟨_, rfl, .inl ⟨_, e.symm, h⟩⟩
  | _, _, _, k, i + 1, sl, .v h t, e => by
    simp only [slotsOf, List.getElem?_cons_succ] at e
    obtain ⟨v, h1, h2⟩ := slot_at t e
    rw [Nat.add_right_comm] at h2
    exact ⟨v, by simpa using h1, h2⟩
  | _, _, _, k, 0, sl, .o (a := a) n c nl t, e => by
    simp only [slotsOf, List.getElem?_cons_zero, Option.some.injEq] at e
    exact ⟨_, rfl, .inr ⟨_, a, e.symm, rfl, n, c, List.mem_cons_self ..⟩⟩
  | _, _, _, k, i + 1, sl, .o n c nl t, e => by
    simp only [slotsOf, List.getElem?_cons_succ] at e
    obtain ⟨v, h1, h2⟩ := slot_at t e
    rw [Nat.add_right_comm] at h2
    refine ⟨v, by simpa using h1, ?_⟩
    rcases h2 with h2 | ⟨d, a, w1, w2, w3, w4, w5⟩
    · exact .inl h2
    · exact .inr ⟨d, a, w1, w2, w3, w4, List.mem_cons_of_mem _ w5⟩
theorem slot_inj {G : Gx} {F H : Hp} : ∀ {vs : List V} {as : List Arg} {L : List Addr} {k i j : Nat} {b c : Option Nat} {d e : D} {a : Addr}, ARel G F H vs as L → (slotsOf k as)[i]? = some (some (.own b d)) → (slotsOf k as)[j]? = some (some (.own c e)) → vs[i]? = some (.ref a) → vs[j]? = some (.ref a) → i = j
  | _, _, _, _, i, _, _, _, _, _, _, .nil, q, _, _, _ => by simp [slotsOf] at q
  | _, _, _, k, 0, 0, _, _, _, _, _, _, _, _, _, _ => rfl
  | _, _, _, k, 0, j + 1, _, _, _, _, _, .v h t, q, _, _, _ => by simp [slotsOf] at q
  | _, _, _, k, i + 1, 0, _, _, _, _, _, .v h t, _, q, _, _ => by simp [slotsOf] at q
  | _, _, _, k, i + 1, j + 1, _, _, _, _, _, .v h t, q1, q2, q3, q4 => by
    simp only [slotsOf, List.getElem?_cons_succ] at q1 q2 q3 q4
    exact congrArg Nat.succ (slot_inj t q1 q2 q3 q4)
  | _, _, _, k, i + 1, j + 1, _, _, _, _, _, .o n c nl t, q1, q2, q3, q4 => by
    simp only [slotsOf, List.getElem?_cons_succ] at q1 q2 q3 q4
    exact congrArg Nat.succ (slot_inj t q1 q2 q3 q4)
  | _, _, _, k, 0, j + 1, _, _, _, _, _, .o n c nl t, q1, q2, q3, q4 => by
    simp only [slotsOf, List.getElem?_cons_succ, List.getElem?_cons_zero, Option.some.injEq, V.ref.injEq] at q1 q2 q3 q4
    subst q3
    obtain ⟨v, h1, h2⟩ := slot_at t q2
    rw [q4] at h1; cases h1
    rcases h2 with ⟨d, w, _⟩ | ⟨d, a, w1, w2, w3, w4, w5⟩
    · cases w
    · cases w2; exact absurd w5 nl
  | _, _, _, k, i + 1, 0, _, _, _, _, _, .o n c nl t, q2, q1, q4, q3 => by
    simp only [slotsOf, List.getElem?_cons_succ, List.getElem?_cons_zero, Option.some.injEq, V.ref.injEq] at q1 q2 q3 q4
    subst q3
    obtain ⟨v, h1, h2⟩ := slot_at t q2
    rw [q4] at h1; cases h1
    rcases h2 with ⟨d, w, _⟩ | ⟨d, a, w1, w2, w3, w4, w5⟩
    · cases w
    · cases w2; exact absurd w5 nl
theorem get_app {α : Type} {l : List (Option α)} {n i : Nat} {x : α} (h : (l ++ List.replicate n none)[i]? = some (some x)) : l[i]? = some (some x) := by
  rcases Nat.lt_or_ge i l.length with z | z
  · rwa [List.getElem?_append_left z] at h
  · rw [List.getElem?_append_right z] at h
    rw [List.getElem?_replicate] at h
    split at h <;> cases h
theorem entry {G : Gx} {F H : Hp} {vs : List V} {as : List Arg} {L : List Addr} {N : List Str} {nl : Nat} (A : ARel G F H vs as L) (e : Same F H) (hN : N.length = vs.length + nl) : Rel ⟨G, bet vs⟩ (slotsOf 0 as ++ List.replicate nl none) (start N vs) F H := by
  have st : ∀ (i : Nat) v, vs[i]? = some v → (start N vs)[i]? = some (some v) := fun i v h => by
    have hi : i < vs.length := by
      rcases Nat.lt_or_ge i vs.length with z | z
      · exact z
      · rw [List.getElem?_eq_none z] at h; cases h
    unfold L2.start
    rw [List.getElem?_append_left (by simpa using hi)]
    simp [h]
  refine ⟨e, fun i sl h => ?_, fun i j a ⟨b, d, h1, h2⟩ ⟨c, f, h3, h4⟩ => ?_, ?_⟩
  · obtain ⟨v, h1, h2⟩ := slot_at A (get_app h)
    refine ⟨v, st i v h1, ?_⟩
    rcases h2 with ⟨d, rfl, hd⟩ | ⟨d, a, rfl, rfl, n, c, _⟩
    · exact hd
    · refine ⟨a, rfl, n, c, fun k z => ?_⟩
      simp only [Nat.zero_add, Option.some.injEq] at z
      subst z
      show a = bet vs i
      unfold bet
      rw [h1]
  · have h1 := get_app h1
    have h3 := get_app h3
    obtain ⟨v, g1, _⟩ := slot_at A h1
    obtain ⟨u, g2, _⟩ := slot_at A h3
    rw [st i v g1] at h2; rw [st j u g2] at h4
    cases h2; cases h4
    exact slot_inj A h1 h3 g1 g2
  · unfold L2.start
    simp [slotsOf_len, ← A.len, hN]
theorem outs_ok {G : Gx} {β : Nat → Addr} {F H F' H' : Hp} {ρ' : Rho} {σ' : St} (R : Rel ⟨G, β⟩ ρ' σ' F' H') : ∀ {vs : List V} {as : List Arg} {L : List Addr} {k : Nat} {os : List D}, ARel G F H vs as L → (∀ i a, vs[i]? = some (.ref a) → β (k + i) = a) → outsOf ρ' k as = some os →
    ORel G F' H' L os ∧ ∀ a ∈ L, Own ρ' σ' a
  | _, _, _, _, _, .nil, _, e => by simp only [outsOf, Option.some.injEq] at e; subst e; exact ⟨.nil, fun a h => by cases h⟩
  | _, _, _, k, _, .v h t, hb, e => by
    simp only [outsOf] at e
    exact outs_ok R t (fun i a q => by rw [← hb (i + 1) a (by simpa using q)]; congr 1; omega) e
  | _, _, _, k, _, .o (a := a) n c nl t, hb, e => by
    simp only [outsOf] at e
    split at e
    · rename_i j d q
      split at e
      · rename_i hj
        subst hj
        obtain ⟨os, e1, rfl⟩ := Option.map_eq_some_iff.mp e
        obtain ⟨O, ow⟩ := outs_ok R t (fun i a q => by rw [← hb (i + 1) a (by simpa using q)]; congr 1; omega) e1
        obtain ⟨v, h1, a', rfl, n', c', hb'⟩ := R.slot j _ q
        have ea : a' = a := by
          rw [hb' j rfl, ← hb 0 a rfl]; rfl
        subst ea
        refine ⟨.cons n' c' O, fun b hm => ?_⟩
        rcases List.mem_cons.mp hm with z | z
        · rw [z]; exact ⟨j, some j, d, q, h1⟩
        · exact ow b z
      · cases e
    · cases e
theorem own_entry {G : Gx} {F H : Hp} {vs : List V} {as : List Arg} {L : List Addr} {N : List Str} {nl : Nat} (A : ARel G F H vs as L) {a : Addr} (o : Own (slotsOf 0 as ++ List.replicate nl none) (start N vs) a) : a ∈ L := by
  obtain ⟨i, b, d, h1, h2⟩ := o
  obtain ⟨v, g1, g2⟩ := slot_at A (get_app h1)
  have hi : i < vs.length := by
    rcases Nat.lt_or_ge i vs.length with z | z
    · exact z
    · rw [List.getElem?_eq_none z] at g1; cases g1
  unfold L2.start at h2
  rw [List.getElem?_append_left (by simpa using hi)] at h2
  simp [g1] at h2
  rcases g2 with ⟨d', w, _⟩ | ⟨d', a', w1, w2, w3, w4, w5⟩
  · cases w
  · rw [h2] at w2; cases w2; exact w5
/-- a body that is m keeps the promise of mkFn -/
theorem body_ok {X : Cx} {G : Gx} {N : List Str} {n nl : Nat} {m : MS} {body : List Stmt} {vs : List V} {H : Hp} {Q : VK} {E : XK} (hN : N.length = n + nl) (h : spF G n (mkFn nl m) vs H Q E) (hb : PSs X body (tMS ⟨G, bet vs⟩ (fun cls d _ H' => E cls d H') m)) :
    ∃ t, PSs X body t ∧ t { nx := fun _ H' => Q .non H', rt := Q } (start N vs) H := by
  refine ⟨_, hb, ?_⟩
  obtain ⟨hl, F, as, L, e, A, h⟩ := h
  have R := entry (N := N) (nl := nl) A e (by rw [hl]; exact hN)
  refine ⟨_, F, R, ?_⟩
  have hβ : ∀ i a, vs[i]? = some (.ref a) → bet vs (0 + i) = a := fun i a q => by unfold bet; rw [Nat.zero_add, q]
  have cst : ∀ {ρ' : Rho} {σ' : St} {F' H' : Hp} {os : List D}, Stp ⟨G, bet vs⟩ (slotsOf 0 as ++ List.replicate nl none) (start N vs) F H ρ' σ' F' H' → outsOf ρ' 0 as = some os → CStp F H F' H' L ∧ ORel G F' H' L os := fun {ρ' σ' F' H' os} s eo => by
    obtain ⟨O, ow⟩ := outs_ok s.rel A hβ eo
    refine ⟨⟨s.rel.sub, s.subF, fun a o q nl => s.keep a o q fun z => nl (own_entry A z), fun a o q f => ?_, s.there⟩, O⟩
    by_cases hm : a ∈ L
    · exact (s.rel.ownF (ow a hm)).1
    · exact s.frn a o q f fun z => hm (own_entry A z)
  have cnew : ∀ {ρ' : Rho} {σ' : St} {F' H' : Hp} {os : List D} {v : V} {d : D}, Stp ⟨G, bet vs⟩ (slotsOf 0 as ++ List.replicate nl none) (start N vs) F H ρ' σ' F' H' → outsOf ρ' 0 as = some os → RepOut ⟨G, bet vs⟩ (slotsOf 0 as ++ List.replicate nl none) (start N vs) H ρ' σ' F' H' v (.new d) → RepRet G H F' H' v (.new d) := fun {ρ' σ' F' H' os v d} s eo q => by
    obtain ⟨O, ow⟩ := outs_ok s.rel A hβ eo
    obtain ⟨a, ea, n, c, no, fr⟩ := q
    refine ⟨a, ea, n, c, ?_⟩
    rcases fr with z | z
    · exact absurd (ow a (own_entry A z)) no
    · exact z
  unfold mkFn at h
  cases eq : m (slotsOf 0 as ++ List.replicate nl none) with
  | nx ρ' =>
    rw [eq] at h
    simp only [fin] at h
    cases eo : outsOf ρ' 0 as with
    | none => rw [eo] at h; exact h.elim
    | some os =>
      rw [eo] at h
      exact fun σ' F' H' s => h .non F' H' (cst s eo).1 (cst s eo).2 .non
  | ret r ρ' =>
    cases r with
    | val d =>
      rw [eq] at h
      simp only [fin] at h
      cases eo : outsOf ρ' 0 as with
      | none => rw [eo] at h; exact h.elim
      | some os =>
        rw [eo] at h
        exact fun v σ' F' H' s q => h v F' H' (cst s eo).1 (cst s eo).2 q
    | new d =>
      rw [eq] at h
      simp only [fin] at h
      cases eo : outsOf ρ' 0 as with
      | none => rw [eo] at h; exact h.elim
      | some os =>
        rw [eo] at h
        exact fun v σ' F' H' s q => h v F' H' (cst s eo).1 (cst s eo).2 (cnew s eo q)
    | «at» i => rw [eq] at h; exact h.elim
  | bk ρ' => rw [eq] at h; exact h.elim
  | ct ρ' => rw [eq] at h; exact h.elim
  | exc x ρ' =>
    rw [eq] at h
    simp only [fin] at h
    cases eo : outsOf ρ' 0 as with
    | none => rw [eo] at h; exact h.elim
    | some os =>
      rw [eo] at h
      exact fun d σ' F' H' s q => h d F' H' (cst s eo).1 (cst s eo).2 q
  | stuck => rw [eq] at h; exact h.elim
theorem spF_len {G : Gx} {n : Nat} {f : Fn} : ∀ vs H Q E, spF G n f vs H Q E → vs.length = n := fun _ _ _ _ h => h.1
end PyD

namespace PyD
open PySem PySem.Spec PyProof.Rows L2

/-! ### calls -/
theorem RepFs.len {G : Gx} {σ : St} {F : Hp} : ∀ {vs : List V} {rs : List Res}, RepFs G σ F vs rs → vs.length = rs.length
  | _, _, .nil => rfl
  | _, _, .cons _ t => by simp [t.len]
def mCall (n : Nat) (mk : List Bool) (f : Fn) (ma : MA) : M := fun ρ => bindO (ma ρ) fun rs ρ1 => if rs.length = n then callR mk f rs ρ1 else .stuck
section
variable {X : Cx} {Γ : Gm} {W : WX} {e : Expr} {ma : MA} {pos p : Pos} {es : List Expr} {x : Str} {k : Nat} {f : Addr} {fd : FuncData} {ps : List Str} {n : Nat} {mk : List Bool} {g : Fn}
theorem call_go {ρ : Rho} {σ : St} {F H : Hp} {Q : VK} {rs : List Res} {vs : List V} (R : Rel Γ ρ σ F H) (ha : RepFs Γ.G σ F vs rs) (h : Post Γ W (if rs.length = n then callR mk g rs ρ else .stuck) ρ σ F H Q) : spF Γ.G n g vs H Q (fun cls d H' => W cls d σ H') := by
  split at h
  · rename_i hn
    exact callR_ok R ha (by rw [ha.len]; exact hn) h
  · exact h.elim
theorem je_call (tk : Takes X W) (Fo : FnOk X.prog X.w X.K X.mg X.base (L2.CX X.prog X.w) k f fd ps (spF Γ.G n g)) (hr : Room k X.A) (hm : X.mg x = some (.ref f)) (hk : PySem.W.keepIn X.K (.ref f) = true) (hb : Binds X.K fd ps []) (ha : PA X (e :: es) (tMA Γ W ma))
    (hg : Gl X x := by rfl) (hdb : (x == ("__debug__" : Str)) = false := by decide) (he : starEach (e :: es) X.env = (false, eval e X.env) :: starEach es X.env := by rfl) (hpl : (backTo pos (starEach es X.env)).any (·.1) = false := by rfl) :
    PE X (.Call (.Name x p) (e :: es) [] pos) (tM Γ W (mCall n mk g ma)) :=
  (pe_callSD (dvs := []) (E := fun σ cls d H' => W cls d σ H') Fo hr hg hm hk hb .nil (fun σ => passAt tk σ) ha hdb he hpl).imp fun σ H Q ⟨ρ, F, R, p⟩ => ⟨ρ, F, R, p.bindA fun rs ρ1 vs F1 H1 s1 hr1 p1 => by
    rw [List.append_nil]
    exact call_go s1.rel hr1 p1⟩
theorem je_call0 (tk : Takes X W) (Fo : FnOk X.prog X.w X.K X.mg X.base (L2.CX X.prog X.w) k f fd ps (spF Γ.G n g)) (hr : Room k X.A) (hm : X.mg x = some (.ref f)) (hk : PySem.W.keepIn X.K (.ref f) = true) (hb : Binds X.K fd ps [])
    (hg : Gl X x := by rfl) (hdb : (x == ("__debug__" : Str)) = false := by decide) : PE X (.Call (.Name x p) [] [] pos) (tM Γ W (mCall n mk g mNil)) := by
  refine ⟨fun pins s σ H Q I ⟨ρ, F, R, h⟩ => ?_⟩
  refine wpAny_Call_Name_kw (ld_glob I hg hm ?_ hdb)
  refine PySem.W.callWith_K0 I.kIn hk (run_fnSD (us := []) (dvs := []) (E := fun σ cls d H' => W cls d σ H') Fo hr hb .nil (passAt tk σ) I .nil ?_)
  exact call_go R .nil h
end

/-! ### what is walked -/
structure Wlk (G : Gx) (J : It) (F : Hp) (ds : List D) : Prop where
  go : ∀ i H, Same F H → i < ds.length → J.go i H
  yld : ∀ i H x H', Same F H → i < ds.length → J.yld i H x H' → ∃ d, ds[i]? = some d ∧ ∀ F1, Same F F1 → Same F1 H → ∃ F2, Alc F1 H F2 H' ∧ Dp G F2 x d
  stop : ∀ i H, Same F H → ds.length ≤ i → J.stop i H
abbrev MI := Rho → Out (List D)
def iM (Γ : Gm) (W : WX) (mi : MI) : TI := fun σ H R => ∃ ρ F, Rel Γ ρ σ F H ∧ match mi ρ with
  | .ok ds ρ' => ∀ J F' H', Stp Γ ρ σ F H ρ' σ F' H' → Wlk Γ.G J F' ds → R J H'
  | .exc x ρ' => ∀ d F' H', Stp Γ ρ σ F H ρ' σ F' H' → ExcRep Γ.G F' H' x d → W (ecV Γ.G x.c) d σ H'
  | .stuck => False
theorem Wlk.mono {G : Gx} {J : It} {F F' : Hp} {ds : List D} (w : Wlk G J F ds) (e : Same F F') : Wlk G J F' ds :=
  ⟨fun i H s => w.go i H (e.trans s), fun i H x H' s hi y => by
    obtain ⟨d, h1, h2⟩ := w.yld i H x H' (e.trans s) hi y
    exact ⟨d, h1, fun F1 s1 s2 => h2 F1 (e.trans s1) s2⟩, fun i H s => w.stop i H (e.trans s)⟩
theorem wlk_lst {G : Gx} {F : Hp} {a : Addr} {vs : List V} {ds : List D} (h : F a = some (.lst vs)) (t : DpL G F vs ds) : Wlk G (Itl G.K a) F ds :=
  ⟨fun i H s hi => ⟨vs, vs[i]'(by rw [t.length]; exact hi), SqL.of (s _ _ h), by simp⟩, fun i H x H' s hi ⟨e, y⟩ => by
    have hx := y vs (SqL.of (s _ _ h))
    obtain ⟨d, h1, h2⟩ := t.getV hx
    subst e
    exact ⟨d, h1, fun F1 s1 s2 => ⟨F1, .refl s2, h2.mono s1⟩⟩, fun i H s hi => ⟨vs, SqL.of (s _ _ h), by rw [t.length]; exact hi⟩⟩
theorem wlk_tup {G : Gx} {F : Hp} {a : Addr} {vs : List V} {ds : List D} (h : SqT G.K F a vs) (t : DpL G F vs ds) : Wlk G (Itt G.K a) F ds :=
  ⟨fun i H s hi => ⟨vs, vs[i]'(by rw [t.length]; exact hi), sqT_ext h s, by simp⟩, fun i H x H' s hi ⟨e, y⟩ => by
    have hx := y vs (sqT_ext h s)
    obtain ⟨d, h1, h2⟩ := t.getV hx
    subst e
    exact ⟨d, h1, fun F1 s1 s2 => ⟨F1, .refl s2, h2.mono s1⟩⟩, fun i H s hi => ⟨vs, sqT_ext h s, by rw [t.length]; exact hi⟩⟩
def rangeD (lo : Int) (n : Nat) : List D := (List.range n).map fun i => .int (lo + (i : Nat))
theorem wlk_range {G : Gx} {F : Hp} (lo : Int) (n : Nat) : Wlk G (Itr lo n) F (rangeD lo n) :=
  ⟨fun i H s hi => by simpa [rangeD, Itr] using hi, fun i H x H' s hi ⟨e, y⟩ => by
    subst e y
    have hi : i < n := by simpa [rangeD] using hi
    exact ⟨.int (lo + (i : Nat)), by simp [rangeD, hi], fun F1 s1 s2 => ⟨F1, .refl s2, .int _⟩⟩, fun i H s hi => by simpa [rangeD, Itr] using hi⟩
def signsD (x : Str) : List D := x.cps.toList.map fun c => .str ⟨#[c]⟩
theorem wlk_str {G : Gx} {F : Hp} (x : Str) : Wlk G (Its x) F (signsD x) :=
  ⟨fun i H s hi => by simpa [signsD, Its] using hi, fun i H v H' s hi ⟨e, c, y, z⟩ => by
    subst e z
    exact ⟨.str ⟨#[c]⟩, by simp [signsD, y], fun F1 s1 s2 => ⟨F1, .refl s2, .str _⟩⟩, fun i H s hi => by simpa [signsD, Its] using hi⟩
/-- a list, a tuple or a text -/
theorem pi_seq {X : Cx} {tg l : Expr} {tl : TE} (hl : PE X l tl) : PI X tg l (fun σ H R => tl σ H fun x H1 => (∃ a, x = .ref a ∧ (∃ xs, SqL X.K H1 a xs) ∧ R (Itl X.K a) H1) ∨ (∃ a, x = .ref a ∧ (∃ xs, SqT X.K H1 a xs) ∧ R (Itt X.K a) H1) ∨ ∃ z, x = .str z ∧ R (Its z) H1) := by
  refine ⟨fun pins s σ H R I h => ?_⟩
  refine thn (hl.run pins s σ H _ I h) fun v s1 ⟨x, H1, I1, r1, q1⟩ => ?_
  rcases q1 with ⟨a, e, ⟨xs, hq⟩, q⟩ | ⟨a, e, ⟨xs, hq⟩, q⟩ | ⟨z, e, q⟩
  · subst e
    cases r1
    obtain ⟨its, rv, p, hz⟩ := I1.list hq
    refine wpAny_pyIter_list p.isList ?_
    refine ⟨s1.heap.objs.size, [s1.heap.objs.size], _, _, H1, rfl, I1.kept (t' := s1.toks) fun b o e => Heap.get?_push_of_some _ e, turn_list a _, ⟨_, Heap.get?_push_size _ rfl, rfl, rfl⟩, fun b hb => ?_, q⟩
    have e : b = s1.heap.objs.size := by simpa using hb
    subst e
    exact I1.fpOk (Nat.le_refl _) (I1.hok.fresh (Nat.le_refl _))
  · subst e
    cases r1
    obtain ⟨its, rv, p, hz⟩ := I1.tuple hq
    refine wpAny_pyIter_tuple (show s1.heap.IsTuple a its.toArray from p) ?_
    refine ⟨s1.heap.objs.size, [s1.heap.objs.size], _, _, H1, rfl, I1.kept (t' := s1.toks) fun b o e => Heap.get?_push_of_some _ e, turn_tuple a _, ⟨_, Heap.get?_push_size _ rfl, rfl, rfl⟩, fun b hb => ?_, q⟩
    have e : b = s1.heap.objs.size := by simpa using hb
    subst e
    exact I1.fpOk (Nat.le_refl _) (I1.hok.fresh (Nat.le_refl _))
  · subst e
    obtain ⟨t, rfl⟩ := r1
    cases ha : z.cps.all (· < 128)
    · exact wpAny_pyIter_wide ha (pi_one (tk := s1.toks) I1 _ (turn_str _ z t "str_iterator" (.inr rfl)) ⟨_, Heap.get?_push_size _ rfl, rfl, rfl⟩ q)
    · exact wpAny_pyIter_ascii ha (pi_one (tk := s1.toks) I1 _ (turn_str _ z t "str_ascii_iterator" (.inl rfl)) ⟨_, Heap.get?_push_size _ rfl, rfl, rfl⟩ q)
theorem _root_.L2.PI.imp {X : Cx} {tg e : Expr} {t t' : TI} (h : PI X tg e t) (i : ∀ σ H R, t' σ H R → t σ H R) : PI X tg e t' := ⟨fun pins s σ H R I q => h.run pins s σ H R I (i _ _ _ q)⟩
/-- the items of what is walked (settled) -/
def itemsD : D → Option (List D)
  | .lst xs => some xs
  | .tup xs => some xs
  | .str z => some (signsD z)
  | _ => none
def itemsR (r : Res) (ρ : Rho) : Out (List D) := match settle r ρ with
  | some (d, ρ1) => (match itemsD d with | some ds => .ok ds ρ1 | none => .stuck)
  | none => .stuck
def iSeq (m : M) : MI := fun ρ => bindF (m ρ) fun r ρ1 => itemsR r ρ1
def iRange (ma : MA) : MI := fun ρ => bindO (ma ρ) fun rs ρ1 => match resolves ρ1 rs with
  | some [.int j] => if decide (-(2 ^ 62) ≤ j) && decide (j < 2 ^ 62) then .ok (rangeD 0 j.toNat) ρ1 else .stuck
  | _ => .stuck
def iRange2 (ma : MA) : MI := fun ρ => bindO (ma ρ) fun rs ρ1 => match resolves ρ1 rs with
  | some [.int i, .int j] => if (decide (-(2 ^ 62) ≤ i) && decide (i < 2 ^ 62)) && (decide (-(2 ^ 62) ≤ j) && decide (j < 2 ^ 62)) then .ok (rangeD i (j - i).toNat) ρ1 else .stuck
  | _ => .stuck
theorem iM_bindF {Γ : Gm} {W : WX} {o : Out Res} {k : Res → Rho → Out (List D)} {ρ : Rho} {σ : St} {F H : Hp} {R : It → Hp → Prop} {Q1 : VK}
    (h : match bindF o k with
      | .ok ds ρ' => ∀ J F' H', Stp Γ ρ σ F H ρ' σ F' H' → Wlk Γ.G J F' ds → R J H'
      | .exc x ρ' => ∀ d F' H', Stp Γ ρ σ F H ρ' σ F' H' → ExcRep Γ.G F' H' x d → W (ecV Γ.G x.c) d σ H'
      | .stuck => False)
    (hk : ∀ r ρ1 v F1 H1, Stp Γ ρ σ F H ρ1 σ F1 H1 → RepF Γ.G σ F1 v r → (∀ ds ρ', k r ρ1 = .ok ds ρ' → ∀ J F' H', Stp Γ ρ1 σ F1 H1 ρ' σ F' H' → Wlk Γ.G J F' ds → R J H') → (∃ ds ρ', k r ρ1 = .ok ds ρ') → Q1 v H1)
    (hs : ∀ r ρ1, (∃ ds ρ', k r ρ1 = .ok ds ρ') ∨ k r ρ1 = .stuck) : PostF Γ W o ρ σ F H Q1 := by
  cases o with
  | ok r ρ' =>
    intro v F' H' s q
    rcases hs r.frz ρ' with ⟨ds, ρ2, e⟩ | e
    · have h : ∀ J F' H', Stp Γ ρ σ F H ρ2 σ F' H' → Wlk Γ.G J F' ds → R J H' := by
        simp only [bindF, e] at h; exact h
      refine hk r.frz ρ' v F' H' s q (fun ds' ρ3 e' J F2 H2 s2 w => ?_) ⟨ds, ρ2, e⟩
      rw [e] at e'; cases e'
      exact h J F2 H2 (s.trans s2) w
    · simp only [bindF, e] at h
  | exc x ρ' => exact h
  | stuck => exact h
theorem iM_bindA {Γ : Gm} {W : WX} {o : Out (List Res)} {k : List Res → Rho → Out (List D)} {ρ : Rho} {σ : St} {F H : Hp} {R : It → Hp → Prop} {Q1 : List V → Hp → Prop}
    (h : match bindO o k with
      | .ok ds ρ' => ∀ J F' H', Stp Γ ρ σ F H ρ' σ F' H' → Wlk Γ.G J F' ds → R J H'
      | .exc x ρ' => ∀ d F' H', Stp Γ ρ σ F H ρ' σ F' H' → ExcRep Γ.G F' H' x d → W (ecV Γ.G x.c) d σ H'
      | .stuck => False)
    (hk : ∀ r ρ1 v F1 H1, Stp Γ ρ σ F H ρ1 σ F1 H1 → RepFs Γ.G σ F1 v r → (∀ ds ρ', k r ρ1 = .ok ds ρ' → ∀ J F' H', Stp Γ ρ1 σ F1 H1 ρ' σ F' H' → Wlk Γ.G J F' ds → R J H') → (∃ ds ρ', k r ρ1 = .ok ds ρ') → Q1 v H1)
    (hs : ∀ r ρ1, (∃ ds ρ', k r ρ1 = .ok ds ρ') ∨ k r ρ1 = .stuck) : PostA Γ W o ρ σ F H Q1 := by
  cases o with
  | ok r ρ' =>
    intro v F' H' s q
    rcases hs r ρ' with ⟨ds, ρ2, e⟩ | e
    · have h : ∀ J F' H', Stp Γ ρ σ F H ρ2 σ F' H' → Wlk Γ.G J F' ds → R J H' := by
        simp only [bindO, e] at h; exact h
      refine hk r ρ' v F' H' s q (fun ds' ρ3 e' J F2 H2 s2 w => ?_) ⟨ds, ρ2, e⟩
      rw [e] at e'; cases e'
      exact h J F2 H2 (s.trans s2) w
    · simp only [bindO, e] at h
  | exc x ρ' => exact h
  | stuck => exact h
section
variable {X : Cx} {Γ : Gm} {W : WX} {e tg : Expr} {m : M} {ma : MA} {pos p : Pos}
theorem ji_seq (hK : X.K = Γ.G.K) (he : PE X e (tM Γ W m)) : PI X tg e (iM Γ W (iSeq m)) := (pi_seq (je_f he)).imp fun σ H R ⟨ρ, F, Rl, h⟩ => ⟨ρ, F, Rl, iM_bindF h (fun r ρ1 v F1 H1 s1 hr hk ⟨ds, ρ2, ek⟩ => by
    have hk := hk ds ρ2 ek
    unfold itemsR at ek
    split at ek
    · rename_i d ρ3 es
      split at ek
      · rename_i ds' ei
        cases ek
        obtain ⟨F2, s2, hd⟩ := settle_ok s1.rel hr es
        cases d with
        | lst xs =>
          simp only [itemsD, Option.some.injEq] at ei; subst ei
          cases hd with | lst ha t => exact .inl ⟨_, rfl, ⟨_, SqL.of (s2.rel.sub _ _ ha)⟩, hk _ F2 H1 s2 (hK ▸ wlk_lst ha t)⟩
        | tup xs =>
          simp only [itemsD, Option.some.injEq] at ei; subst ei
          cases hd with | tup ha t => exact .inr (.inl ⟨_, rfl, ⟨_, hK ▸ sqT_ext ha s2.rel.sub⟩, hk _ F2 H1 s2 (hK ▸ wlk_tup ha t)⟩)
        | str z =>
          simp only [itemsD, Option.some.injEq] at ei; subst ei
          cases hd; exact .inr (.inr ⟨z, rfl, hk _ F2 H1 s2 (wlk_str z)⟩)
        | _ => simp [itemsD] at ei
      · cases ek
    · cases ek) (fun r ρ1 => by
    unfold itemsR
    split
    · split
      · exact .inl ⟨_, _, rfl⟩
      · exact .inr rfl
    · exact .inr rfl)⟩
theorem ji_range {a : Expr} (hm : X.mg "range" = none) (ha : PA X [a] (tMA Γ W ma)) (hg : Gl X "range" := by rfl) (hs : starEach [a] X.env = [(false, eval a X.env)] := by rfl) : PI X tg (.Call (.Name "range" p) [a] [] pos) (iM Γ W (iRange ma)) :=
  (pi_range1 hg hm ha hs).imp fun σ H R ⟨ρ, F, Rl, h⟩ => ⟨ρ, F, Rl, iM_bindA h (fun rs ρ1 vs F1 H1 s1 hr hk ⟨ds, ρ2, ek⟩ => by
    have hk := hk ds ρ2 ek
    split at ek
    · rename_i j er
      split at ek
      · rename_i w
        cases ek
        have V := hr.views s1.rel er
        cases V with
        | cons h1 t =>
          cases t
          have w := Bool.and_eq_true_iff.mp w
          exact ⟨j, by rw [h1.int], of_decide_eq_true w.1, of_decide_eq_true w.2, hk _ F1 H1 (.refl s1.rel) (wlk_range 0 _)⟩
      · cases ek
    · cases ek) (fun r ρ1 => by
    split
    · split
      · exact .inl ⟨_, _, rfl⟩
      · exact .inr rfl
    · exact .inr rfl)⟩
theorem ji_range2 {a b : Expr} (hm : X.mg "range" = none) (ha : PA X [a, b] (tMA Γ W ma)) (hg : Gl X "range" := by rfl) (hs : starEach [a, b] X.env = [(false, eval a X.env), (false, eval b X.env)] := by rfl) (hs2 : starEach [b] X.env = [(false, eval b X.env)] := by rfl) : PI X tg (.Call (.Name "range" p) [a, b] [] pos) (iM Γ W (iRange2 ma)) :=
  (pi_range2 hg hm ha hs hs2).imp fun σ H R ⟨ρ, F, Rl, h⟩ => ⟨ρ, F, Rl, iM_bindA h (fun rs ρ1 vs F1 H1 s1 hr hk ⟨ds, ρ2, ek⟩ => by
    have hk := hk ds ρ2 ek
    split at ek
    · rename_i i j er
      split at ek
      · rename_i w
        cases ek
        have V := hr.views s1.rel er
        cases V with
        | cons h1 t =>
          cases t with
          | cons h2 t =>
            cases t
            have w := Bool.and_eq_true_iff.mp w
            have w1 := Bool.and_eq_true_iff.mp w.1
            have w2 := Bool.and_eq_true_iff.mp w.2
            exact ⟨i, j, by rw [h1.int, h2.int], ⟨of_decide_eq_true w1.1, of_decide_eq_true w1.2, of_decide_eq_true w2.1, of_decide_eq_true w2.2⟩, hk _ F1 H1 (.refl s1.rel) (wlk_range i _)⟩
      · cases ek
    · cases ek) (fun r ρ1 => by
    split
    · split
      · exact .inl ⟨_, _, rfl⟩
      · exact .inr rfl
    · exact .inr rfl)⟩
end

/-! ### for -/
def forD (f : Tg) (b : MS) : List D → Rho → SOut
  | [], ρ => .nx ρ
  | d :: ds, ρ => match f d ρ with
    | some ρ1 => (match b ρ1 with
      | .nx ρ2 => forD f b ds ρ2
      | .ct ρ2 => forD f b ds ρ2
      | .bk ρ2 => .nx ρ2
      | o => o)
    | none => .stuck
def mFor (mi : MI) (f : Tg) (b : MS) : MS := fun ρ => bindSO (mi ρ) fun ds ρ1 => forD f b ds ρ1
section
variable {X : Cx} {Γ : Gm} {W : WX} {iter tg : Expr} {mi : MI} {g : TG} {f : Tg} {b : MS} {body : List Stmt} {pos : Pos}
theorem for_ok {D : Ends} {J : It} {ds : List PyD.D} {ρ : Rho} {σ : St} {F H : Hp} (hf : TgOk Γ g f) (R : Rel Γ ρ σ F H) (w : Wlk Γ.G J F ds) (h : PostS Γ W (forD f b ds ρ) ρ σ F H D) :
    ∃ V : Nat → Nat → St → Hp → Prop, (∃ m, V 0 m σ H) ∧ ∀ i m σ H, V i m σ H →
      (J.stop i H ∧ D.nx σ H) ∨ (J.go i H ∧ ∃ N : St → Hp → Prop, (∀ σ' H', N σ' H' → ∃ m', m' < m ∧ V (i + 1) m' σ' H') ∧ ∀ x H', J.yld i H x H' → g x σ H' fun σ2 H2 => tMS Γ W b { D with nx := N, ct := N, bk := D.nx } σ2 H2) := by
  refine ⟨fun i m σ' H' => m = ds.length - i ∧ i ≤ ds.length ∧ ∃ ρ' F', Rel Γ ρ' σ' F' H' ∧ Same F F' ∧ PostS Γ W (forD f b (ds.drop i) ρ') ρ' σ' F' H' D, ⟨ds.length, by simp, Nat.zero_le _, ρ, F, R, Same.refl _, by simpa using h⟩, ?_⟩
  rintro i m σ' H' ⟨rfl, hi, ρ', F', R', sF, p⟩
  have wF := w.mono sF
  by_cases hlt : i < ds.length
  · refine .inr ⟨wF.go i H' R'.sub hlt, fun σ2 H2 => ∃ ρ2 F2, Rel Γ ρ2 σ2 F2 H2 ∧ Same F F2 ∧ PostS Γ W (forD f b (ds.drop (i + 1)) ρ2) ρ2 σ2 F2 H2 D, fun σ2 H2 ⟨ρ2, F2, R2, s2, p2⟩ => ⟨ds.length - (i + 1), by omega, rfl, hlt, ρ2, F2, R2, s2, p2⟩, fun x H2 y => ?_⟩
    obtain ⟨d, hd, hy⟩ := wF.yld i H' x H2 R'.sub hlt y
    obtain ⟨F2, al, dp⟩ := hy F' (Same.refl _) R'.sub
    have e : ds.drop i = d :: ds.drop (i + 1) := by
      rw [List.getElem?_eq_getElem hlt] at hd
      rw [← Option.some.inj hd]
      exact List.drop_eq_getElem_cons hlt
    rw [e] at p
    simp only [forD] at p
    cases ef : f d ρ' with
    | none => rw [ef] at p; exact p.elim
    | some ρ1 =>
      rw [ef] at p
      simp only at p
      have s0 := al.stp R'
      refine hf x d ρ' ρ1 σ' F2 H2 _ s0.rel dp ef fun σ2 s1 => ⟨ρ1, F2, s1.rel, ?_⟩
      have st := s0.trans s1
      cases eb : b ρ1 with
      | nx ρ2 => rw [eb] at p; exact fun σ3 F3 H3 s3 => ⟨ρ2, F3, s3.rel, sF.trans (st.trans s3).subF, p.shift (st.trans s3)⟩
      | ct ρ2 => rw [eb] at p; exact fun σ3 F3 H3 s3 => ⟨ρ2, F3, s3.rel, sF.trans (st.trans s3).subF, p.shift (st.trans s3)⟩
      | bk ρ2 => rw [eb] at p; exact fun σ3 F3 H3 s3 => p σ3 F3 H3 (st.trans s3)
      | ret r ρ2 => rw [eb] at p; exact p.shift st
      | exc x ρ2 => rw [eb] at p; exact p.shift st
      | stuck => rw [eb] at p; exact p.elim
  · have e : i = ds.length := by omega
    subst e
    rw [List.drop_length] at p
    exact .inl ⟨wF.stop _ H' R'.sub (Nat.le_refl _), p σ' F' H' (.refl R')⟩
theorem js_for (hp : PassesOwn (model X.prog X.w) X.A X.env X.xe) (hc : X.calm = true) (hi : PI X tg iter (iM Γ W mi)) (hg : PG X tg g) (hf : TgOk Γ g f) (hb : PSs X body (tMS Γ W b)) (hs : ∀ x, foldedSetIterable iter X.env x = pure x := by intro _; rfl) :
    PS X (.For tg iter body [] pos) (tMS Γ W (mFor mi f b)) := (ps_for hp hc hi hg hb hs).imp fun D σ H ⟨ρ, F, R, p⟩ => by
  refine ⟨ρ, F, R, ?_⟩
  unfold mFor at p
  cases e : mi ρ with
  | ok ds ρ1 => rw [e] at p; exact fun J F' H' s w => for_ok hf s.rel w (p.shift s)
  | exc x ρ1 => rw [e] at p; exact fun d F' H' s q => p d σ F' H' s q
  | stuck => rw [e] at p; exact p.elim
/-! while -/
def whileD (t : MB) (b : MS) : Nat → Rho → SOut
  | 0, _ => .stuck
  | n + 1, ρ => match t ρ with
    | .ok true ρ1 => (match b ρ1 with
      | .nx ρ2 => whileD t b n ρ2
      | .ct ρ2 => whileD t b n ρ2
      | .bk ρ2 => .nx ρ2
      | o => o)
    | .ok false ρ1 => .nx ρ1
    | .exc x ρ1 => .exc x ρ1
    | .stuck => .stuck
theorem js_while {c : Expr} {t : MB} (N : Nat) (hp : PassesOwn (model X.prog X.w) X.A X.env X.xe) (hc : PT X c (tMB Γ W t)) (hb : PSs X body (tMS Γ W b)) : PS X (.While c body [] pos) (tMS Γ W (whileD t b N)) :=
  (ps_while hp hc hb).imp fun D σ H ⟨ρ, F, R, p⟩ => by
    refine ⟨fun m σ' H' => ∃ ρ' F', Rel Γ ρ' σ' F' H' ∧ PostS Γ W (whileD t b m ρ') ρ' σ' F' H' D, ⟨N, ρ, F, R, p⟩, ?_⟩
    rintro m σ' H' ⟨ρ', F', R', p'⟩
    cases m with
    | zero => exact p'.elim
    | succ m =>
      simp only [whileD] at p'
      refine ⟨ρ', F', R', ?_⟩
      cases et : t ρ' with
      | ok k ρ1 =>
        rw [et] at p'
        intro F1 H1 s1
        cases k with
        | false =>
          simp only [Bool.false_eq_true, if_false]
          exact p' σ' F1 H1 s1
        | true =>
          simp only [if_true]
          simp only at p'
          refine ⟨fun σ2 H2 => ∃ ρ2 F2, Rel Γ ρ2 σ2 F2 H2 ∧ PostS Γ W (whileD t b m ρ2) ρ2 σ2 F2 H2 D, fun σ2 H2 q => ⟨m, Nat.lt_succ_self _, q⟩, ρ1, F1, s1.rel, ?_⟩
          cases eb : b ρ1 with
          | nx ρ2 => rw [eb] at p'; exact fun σ3 F3 H3 s3 => ⟨ρ2, F3, s3.rel, p'.shift (s1.trans s3)⟩
          | ct ρ2 => rw [eb] at p'; exact fun σ3 F3 H3 s3 => ⟨ρ2, F3, s3.rel, p'.shift (s1.trans s3)⟩
          | bk ρ2 => rw [eb] at p'; exact fun σ3 F3 H3 s3 => p' σ3 F3 H3 (s1.trans s3)
          | ret r ρ2 => rw [eb] at p'; exact p'.shift s1
          | exc x ρ2 => rw [eb] at p'; exact p'.shift s1
          | stuck => rw [eb] at p'; exact p'.elim
      | exc x ρ1 => rw [et] at p'; exact fun d F1 H1 s1 q => p' d σ' F1 H1 s1 q
      | stuck => rw [et] at p'; exact p'.elim
end
end PyD

namespace PyD
open PySem PySem.Spec PyProof.Rows L2

/-! ### comprehensions -/
def wipeR (ρ : Rho) : List Nat → Rho
  | [] => ρ
  | v :: vs => (wipeR ρ vs).set v none
theorem wipeR_len (ρ : Rho) : ∀ vs : List Nat, (wipeR ρ vs).length = ρ.length
  | [] => rfl
  | v :: vs => by unfold wipeR; rw [List.length_set, wipeR_len ρ vs]
theorem wipeR_get {ρ : Rho} {i : Nat} {s : Slot} : ∀ {vs : List Nat}, (wipeR ρ vs)[i]? = some (some s) → ρ[i]? = some (some s) ∧ i ∉ vs
  | [], h => ⟨h, by simp⟩
  | v :: vs, h => by
    unfold wipeR at h
    rcases get_set h with ⟨e, e2, _⟩ | ⟨e, h⟩
    · cases e2
    · obtain ⟨h1, h2⟩ := wipeR_get h
      exact ⟨h1, by simp only [List.mem_cons, not_or]; exact ⟨fun z => e z.symm, h2⟩⟩
/-- the slots of vs may be any -/
theorem Rel.wipe {Γ : Gm} {ρ : Rho} {σ σ' : St} {F H : Hp} {vs : List Nat} (R : Rel Γ ρ σ F H) (h : ∀ i, i ∉ vs → σ'[i]? = σ[i]?) (hl : σ'.length = σ.length) : Rel Γ (wipeR ρ vs) σ' F H ∧ (∀ a, Own (wipeR ρ vs) σ' a → Own ρ σ a) := by
  have bk : ∀ j a, OwnAt (wipeR ρ vs) σ' j a → OwnAt ρ σ j a := fun j a ⟨b, d, h1, h2⟩ => by
    obtain ⟨h3, h4⟩ := wipeR_get h1
    exact ⟨b, d, h3, by rw [← h j h4]; exact h2⟩
  refine ⟨⟨R.sub, fun i s q => ?_, fun i j a h1 h2 => R.inj i j a (bk i a h1) (bk j a h2), by rw [wipeR_len, hl]; exact R.len⟩, fun a ⟨j, q⟩ => ⟨j, bk j a q⟩⟩
  obtain ⟨h3, h4⟩ := wipeR_get q
  obtain ⟨v, h5, h6⟩ := R.slot i s h3
  exact ⟨v, by rw [h i h4]; exact h5, h6⟩
theorem Stp.wipe {Γ : Gm} {ρ₀ ρ : Rho} {σ₀ σ σ' : St} {F₀ H₀ F H : Hp} {vs : List Nat} (s : Stp Γ ρ₀ σ₀ F₀ H₀ ρ σ F H) (h : ∀ i, i ∉ vs → σ'[i]? = σ[i]?) (hl : σ'.length = σ.length) : Stp Γ ρ₀ σ₀ F₀ H₀ (wipeR ρ vs) σ' F H :=
  ⟨(s.rel.wipe h hl).1, s.subF, fun a q => s.own a ((s.rel.wipe h hl).2 a q), s.keep, s.frn, s.there⟩
/-- the base's own slots, told by other values of vs -/
theorem wipe_get {σ : St} {i : Nat} {vs : List Nat} (h : i ∉ vs) : (wipe σ vs)[i]? = σ[i]? := wipe_out h
/-- a new cell outside is changed -/
theorem Stp.out {Γ : Gm} {ρ₀ ρ : Rho} {σ₀ σ : St} {F₀ H₀ F H : Hp} {a : Addr} {o : HO} (s : Stp Γ ρ₀ σ₀ F₀ H₀ ρ σ F H) (h0 : H₀ a = none) (hF : F a = none) (no : ¬ Own ρ σ a) : Stp Γ ρ₀ σ₀ F₀ H₀ ρ σ F (upd H a o) := by
  refine ⟨⟨fun b u q => by rw [upd_ne (ne_of_none q hF)]; exact s.rel.sub b u q, fun i sl q => ?_, s.rel.inj, s.rel.len⟩, s.subF, s.own, fun b u q n => by rw [upd_ne (ne_of_none q h0)]; exact s.keep b u q n, s.frn, fun b u q => ?_⟩
  · obtain ⟨v, h1, h2⟩ := s.rel.slot i sl q
    refine ⟨v, h1, ?_⟩
    cases sl with
    | val d => exact h2
    | own b d =>
      obtain ⟨c, z, n, ce, hb⟩ := h2
      have hc : c ≠ a := fun y => no ⟨i, b, d, q, by rw [h1, z, y]⟩
      exact ⟨c, z, n, ce.mono (Same.refl _) fun u hu => by rw [upd_ne hc]; exact hu, hb⟩
  · rw [upd_ne (ne_of_none q h0)]; exact s.there b u q
def TgV (Γ : Gm) (g : TG) (f : Tg) (vs : List Nat) : Prop := ∀ v d ρ ρ' σ F H Q, Rel Γ ρ σ F H → Dp Γ.G F v d → f d ρ = some ρ' → (∀ σ', Stp Γ ρ σ F H ρ' σ' F H → (∀ i, i ∉ vs → σ'[i]? = σ[i]?) → σ'.length = σ.length → Q σ' H) → g v σ H Q
def TgsV (Γ : Gm) (g : TGs) (f : Tgs) (vs : List Nat) : Prop := ∀ us ds ρ ρ' σ F H Q, Rel Γ ρ σ F H → DpL Γ.G F us ds → f ds ρ = some ρ' → (∀ σ', Stp Γ ρ σ F H ρ' σ' F H → (∀ i, i ∉ vs → σ'[i]? = σ[i]?) → σ'.length = σ.length → Q σ' H) → g us σ H Q
theorem tv_name {Γ : Gm} {i : Nat} {vs : List Nat} (hi : i ∈ vs) : TgV Γ (gName i) (gN i) vs := by
  intro v d ρ ρ' σ F H Q R h e k
  unfold gN at e
  split at e
  · rename_i hl
    cases e
    exact k _ ((Stp.refl R).set hl h fun _ _ _ z => nomatch z) (fun j hj => by rw [List.getElem?_set_ne (fun z : i = j => hj (z ▸ hi))]) (by simp)
  · cases e
theorem tvs_nil {Γ : Gm} {vs : List Nat} : TgsV Γ gNil gsNil vs := by
  intro us ds ρ ρ' σ F H Q R h e k
  unfold gsNil at e
  split at e
  · cases e; cases h; exact ⟨rfl, k σ (.refl R) (fun _ _ => rfl) rfl⟩
  · cases e
theorem tvs_cons {Γ : Gm} {t : TG} {u : TGs} {f : Tg} {g : Tgs} {vs : List Nat} (h1 : TgV Γ t f vs) (h2 : TgsV Γ u g vs) : TgsV Γ (gCons t u) (gsCons f g) vs := by
  intro us ds ρ ρ' σ F H Q R h e k
  unfold gsCons at e
  split at e
  · rename_i d ds
    obtain ⟨ρ1, e1, e2⟩ := Option.bind_eq_some_iff.mp e
    cases h with
    | cons ha hb => exact ⟨_, _, rfl, h1 _ d ρ ρ1 σ F H _ R ha e1 fun σ1 s1 w1 l1 => h2 _ ds ρ1 ρ' σ1 F H Q s1.rel hb e2 fun σ2 s2 w2 l2 => k σ2 (s1.trans s2) (fun i hi => (w2 i hi).trans (w1 i hi)) (l2.trans l1)⟩
  · cases e
theorem tv_tup {Γ : Gm} {u : TGs} {g : Tgs} {n : Nat} {vs : List Nat} (h2 : TgsV Γ u g vs) : TgV Γ (gTup Γ.G.K n u) (gT n g) vs := by
  intro v d ρ ρ' σ F H Q R h e k
  unfold gT at e
  split at e
  · rename_i ds
    split at e
    · rename_i hn
      cases h with
      | tup hs t => exact ⟨_, _, rfl, sqT_ext hs R.sub, by rw [t.length]; exact hn, h2 _ ds ρ ρ' σ F H Q R t e k⟩
    · cases e
  · cases e
/-- the turns of a comprehension: the slots vs are its own -/
def lcD (vs : List Nat) (f : Tg) (t : MB) (me : M) : List D → List D → Rho → Out (List D)
  | [], acc, ρ => .ok acc ρ
  | d :: ds, acc, ρ => match f d ρ with
    | some ρ1 => (match t ρ1 with
      | .ok true ρ2 => (match me ρ2 with
        | .ok r ρ3 => (match settle r.frz ρ3 with
          | some (y, ρ4) => if acc.length < sizeLine then lcD vs f t me ds (acc ++ [y]) (wipeR ρ4 vs) else .stuck
          | none => .stuck)
        | _ => .stuck)
      | .ok false ρ2 => lcD vs f t me ds acc (wipeR ρ2 vs)
      | _ => .stuck)
    | none => .stuck
def mLc (vs : List Nat) (mi : MI) (f : Tg) (t : MB) (me : M) : M := fun ρ => bindO (mi ρ) fun ds ρ1 => match lcD vs f t me ds [] (wipeR ρ1 vs) with
  | .ok acc ρ2 => .ok (.new (.lst acc)) ρ2
  | _ => .stuck
abbrev W0 : WX := fun _ _ _ _ => False
theorem wipe_idem {σ σ2 : St} {vs : List Nat} (h : ∀ i, i ∉ vs → σ2[i]? = (wipe σ vs)[i]?) (hl : σ2.length = (wipe σ vs).length) : wipe σ2 vs = wipe σ vs := by
  have key : ∀ (τ : St) (ws : List Nat) (i : Nat), i ∈ ws → i < τ.length → (wipe τ ws)[i]? = some none := fun τ ws => by
    induction ws with
    | nil => intro i h; cases h
    | cons w ws ih =>
      intro i h hi
      unfold wipe
      by_cases e : w = i
      · subst e; rw [List.getElem?_set_self (by rw [wipe_length]; exact hi)]
      · rw [List.getElem?_set_ne e]
        rcases List.mem_cons.mp h with z | z
        · exact absurd z.symm e
        · exact ih i z hi
  rw [wipe_length] at hl
  refine List.ext_getElem? fun i => ?_
  by_cases hi : i ∈ vs
  · rcases Nat.lt_or_ge i σ.length with hl' | hl'
    · rw [key σ2 vs i hi (by omega), key σ vs i hi hl']
    · rw [List.getElem?_eq_none (by rw [wipe_length]; omega), List.getElem?_eq_none (by rw [wipe_length]; omega)]
  · rw [wipe_out hi, h i hi]
theorem lc_ok {Γ : Gm} {g : TG} {f : Tg} {t : MB} {me : M} {vs : List Nat} {J : It} {ds acc : List D} {ρ ρ2 : Rho} {σ : St} {F H : Hp} {Qd : Addr → Hp → Prop} (hf : TgV Γ g f vs) (R : Rel Γ ρ σ F H) (w : Wlk Γ.G J F ds) (e : lcD vs f t me ds [] (wipeR ρ vs) = .ok acc ρ2)
    (k : ∀ D F' H', Stp Γ ρ σ F H ρ2 σ F' H' → H D = none → F' D = none → Cell Γ.G F' H' D (.lst acc) → ¬ Own ρ2 σ D → Qd D H') :
    ∀ D, H D = none → ∃ V : Nat → Nat → Hp → Prop, (∃ m, V 0 m (upd H D (.lst []))) ∧ ∀ i m H, V i m H →
      (J.stop i H ∧ Qd D H) ∨ (J.go i H ∧ ∃ Nx : Hp → Prop, (∀ H', Nx H' → ∃ m', m' < m ∧ V (i + 1) m' H') ∧ ∀ x H', J.yld i H x H' → g x (wipe σ vs) H' fun σ2 H2 => wipe σ2 vs = wipe σ vs ∧ tMB Γ W0 t σ2 H2 fun b H3 =>
        if b = true then tF Γ W0 me σ2 H3 fun y H4 => ∃ acc, H4 D = some (.lst acc) ∧ acc.length < sizeLine ∧ Nx (upd H4 D (.lst (acc ++ [y]))) else Nx H3) := by
  intro D hD
  have wl : (wipe σ vs).length = σ.length := wipe_length σ vs
  have s0 : Stp Γ ρ σ F H (wipeR ρ vs) (wipe σ vs) F H := (Stp.refl R).wipe (fun i hi => wipe_out hi) wl
  have nD : ¬ Own ρ σ D := fun z => by
    obtain ⟨_, u, hu⟩ := R.ownF z; rw [hD] at hu; cases hu
  -- the state between two turns
  let St' : Nat → Hp → Prop := fun i H' => ∃ ρ' F' ac av, Stp Γ ρ σ F H ρ' (wipe σ vs) F' H' ∧ (∀ a, Own ρ' (wipe σ vs) a → ρ' = wipeR ρ' vs → True) ∧ wipeR ρ' vs = ρ' ∧ H' D = some (.lst av) ∧ F' D = none ∧ ¬ Own ρ' (wipe σ vs) D ∧ DpL Γ.G F' av ac ∧ lcD vs f t me (ds.drop i) ac ρ' = .ok acc ρ2
  have wr : ∀ (r : Rho), wipeR (wipeR r vs) vs = wipeR r vs := fun r => by
    refine List.ext_getElem? fun i => ?_
    have key : ∀ (τ : Rho) (ws : List Nat) (i : Nat), i ∈ ws → i < τ.length → (wipeR τ ws)[i]? = some none := fun τ ws => by
      induction ws with
      | nil => intro i h; cases h
      | cons w ws ih =>
        intro i h hi
        unfold wipeR
        by_cases e : w = i
        · subst e; rw [List.getElem?_set_self (by rw [wipeR_len]; exact hi)]
        · rw [List.getElem?_set_ne e]
          rcases List.mem_cons.mp h with z | z
          · exact absurd z.symm e
          · exact ih i z hi
    have out : ∀ (τ : Rho) (ws : List Nat) (i : Nat), i ∉ ws → (wipeR τ ws)[i]? = τ[i]? := fun τ ws => by
      induction ws with
      | nil => intro i h; rfl
      | cons w ws ih =>
        intro i h
        unfold wipeR
        rw [List.getElem?_set_ne (fun z : w = i => h (z ▸ List.mem_cons_self ..))]
        exact ih i fun z => h (List.mem_cons_of_mem _ z)
    by_cases hi : i ∈ vs
    · rcases Nat.lt_or_ge i r.length with hl' | hl'
      · rw [key _ vs i hi (by rw [wipeR_len]; exact hl'), key r vs i hi hl']
      · rw [List.getElem?_eq_none (by rw [wipeR_len, wipeR_len]; omega), List.getElem?_eq_none (by rw [wipeR_len]; omega)]
    · rw [out _ vs i hi]
  refine ⟨fun i m H' => m = ds.length - i ∧ i ≤ ds.length ∧ St' i H', ⟨ds.length, by simp, Nat.zero_le _, wipeR ρ vs, F, [], [], s0.out hD (Same.free R.sub hD) (fun z => nD ((R.wipe (fun i hi => wipe_out hi) wl).2 D z)), fun _ _ _ => trivial, wr ρ, upd_same, Same.free R.sub hD, fun z => nD ((R.wipe (fun i hi => wipe_out hi) wl).2 D z), .nil, by simpa using e⟩, ?_⟩
  rintro i m H1 ⟨rfl, hi, ρ1, F1, ac, av, s1, _, wρ, hD1, fD1, nD1, dp, e1⟩
  have wF := w.mono s1.subF
  by_cases hlt : i < ds.length
  · refine .inr ⟨wF.go i H1 s1.rel.sub hlt, St' (i + 1), fun H2 q => ⟨ds.length - (i + 1), by omega, rfl, hlt, q⟩, fun x H2 y => ?_⟩
    obtain ⟨d, hd, hy⟩ := wF.yld i H1 x H2 s1.rel.sub hlt y
    obtain ⟨F2, al, dpx⟩ := hy F1 (Same.refl _) s1.rel.sub
    have ed : ds.drop i = d :: ds.drop (i + 1) := by
      rw [List.getElem?_eq_getElem hlt] at hd
      rw [← Option.some.inj hd]
      exact List.drop_eq_getElem_cons hlt
    rw [ed] at e1
    simp only [lcD] at e1
    cases ef : f d ρ1 with
    | none => rw [ef] at e1; cases e1
    | some ρ3 =>
      rw [ef] at e1
      simp only at e1
      have s2 := al.stp s1.rel
      refine hf x d ρ1 ρ3 (wipe σ vs) F2 H2 _ s2.rel dpx ef fun σ3 s3 w3 l3 => ⟨wipe_idem w3 l3, ρ3, F2, s3.rel, ?_⟩
      have s13 := s2.trans s3
      -- behind a step, what is known of D
      have stay : ∀ {ρ' : Rho} {σ' : St} {F' H' : Hp}, Stp Γ ρ1 (wipe σ vs) F1 H1 ρ' σ' F' H' → H' D = some (.lst av) ∧ F' D = none ∧ ¬ Own ρ' σ' D := fun {ρ' σ' F' H'} q => ⟨q.keep D _ hD1 nD1, q.frn D _ hD1 fD1 nD1, fun z => by
        rcases q.own D z with z | z
        · exact nD1 z
        · rw [hD1] at z; cases z⟩
      cases et : t ρ3 with
      | ok b ρ4 =>
        rw [et] at e1
        intro F4 H4 s4
        have s14 := s13.trans s4
        cases b with
        | true =>
          simp only at e1
          simp only [if_true]
          refine ⟨ρ4, F4, s4.rel, ?_⟩
          cases em : me ρ4 with
          | ok r ρ5 =>
            rw [em] at e1
            simp only at e1
            cases es : settle r.frz ρ5 with
            | none => rw [es] at e1; cases e1
            | some p =>
              obtain ⟨yd, ρ6⟩ := p
              rw [es] at e1
              simp only at e1
              split at e1
              · rename_i hz
                intro v F5 H5 s5 hv
                obtain ⟨F6, s6, hd6⟩ := settle_ok s5.rel hv es
                have s16 := (s14.trans s5).trans s6
                obtain ⟨h1, h2, h3⟩ := stay s16
                refine ⟨av, h1, by rw [dp.length]; exact hz, ?_⟩
                have sw := (s1.trans s16).wipe (vs := vs) (σ' := wipe σ vs) (fun j hj => (w3 j hj).symm) l3.symm
                have nO : ¬ Own (wipeR ρ6 vs) (wipe σ vs) D := fun z => h3 ((s16.rel.wipe (vs := vs) (σ' := wipe σ vs) (fun j hj => (w3 j hj).symm) l3.symm).2 D z)
                exact ⟨wipeR ρ6 vs, F6, ac ++ [yd], av ++ [v], sw.out hD h2 nO, fun _ _ _ => trivial, wr ρ6, upd_same, h2, nO, (dp.mono s16.subF).append (.cons hd6 .nil), e1⟩
              · cases e1
          | exc x ρ5 => rw [em] at e1; cases e1
          | stuck => rw [em] at e1; cases e1
        | false =>
          simp only at e1
          simp only [Bool.false_eq_true, if_false]
          obtain ⟨h1, h2, h3⟩ := stay s14
          have sw := (s1.trans s14).wipe (vs := vs) (σ' := wipe σ vs) (fun j hj => (w3 j hj).symm) l3.symm
          exact ⟨wipeR ρ4 vs, F4, ac, av, sw, fun _ _ _ => trivial, wr ρ4, h1, h2, fun z => h3 ((s14.rel.wipe (vs := vs) (σ' := wipe σ vs) (fun j hj => (w3 j hj).symm) l3.symm).2 D z), dp.mono s14.subF, e1⟩
      | exc x ρ4 => rw [et] at e1; cases e1
      | stuck => rw [et] at e1; cases e1
  · have ei : i = ds.length := by omega
    subst ei
    rw [List.drop_length] at e1
    simp only [lcD, Out.ok.injEq] at e1
    obtain ⟨rfl, rfl⟩ := e1
    have sw : Stp Γ ρ σ F H ρ1 σ F1 H1 := by
      have q := s1.wipe (vs := vs) (σ' := σ) (fun j hj => (wipe_out hj).symm) wl.symm
      rwa [wρ] at q
    refine .inl ⟨wF.stop _ H1 s1.rel.sub (Nat.le_refl _), k D F1 H1 sw hD fD1 ⟨av, hD1, dp⟩ fun z => ?_⟩
    have q := (s1.rel.wipe (vs := vs) (σ' := σ) (fun j hj => (wipe_out hj).symm) wl.symm).2 D
    rw [wρ] at q
    exact nD1 (q z)
section
variable {X : Cx} {Γ : Gm} {W : WX} {elt tg iter : Expr} {ifs : List Expr} {scope : Scope} {own : List (Str × Nat)} {pos spos : Pos} {mi : MI} {g : TG} {f : Tg} {t : MB} {me : M}
theorem mLc_ok (hf : TgV Γ g f (own.map (·.2))) : ∀ σ H Q, tM Γ W (mLc (own.map (·.2)) mi f t me) σ H Q → tLc (iM Γ W mi) g (tMB Γ W0 t) (tF Γ W0 me) (own.map (·.2)) σ H Q := fun σ H Q ⟨ρ, F, R, p⟩ => by
  refine ⟨ρ, F, R, ?_⟩
  unfold mLc at p
  cases e : mi ρ with
  | ok ds ρ1 =>
    rw [e] at p
    simp only [bindO] at p
    intro J F1 H1 s1 w
    split at p
    · rename_i acc ρ2 el
      refine lc_ok (Qd := fun D H' => Q (.ref D) H') hf s1.rel w el fun D F' H' s2 hD fD c no => ?_
      refine p _ F' H' (s1.trans s2) ⟨D, rfl, fD, c, no, .inr ?_⟩
      cases q : H D with
      | none => rfl
      | some u => obtain ⟨u', e'⟩ := s1.there D u q; rw [e'] at hD; cases hD
    · exact p.elim
  | exc x ρ1 => rw [e] at p; exact p
  | stuck => rw [e] at p; exact p.elim
def mYes : MB := fun ρ => .ok true ρ
theorem _root_.L2.PTs.imp {X : Cx} {e : List Expr} {t t' : TT} (h : PTs X e t) (i : ∀ σ H Q, t' σ H Q → t σ H Q) : PTs X e t' := ⟨fun pins s σ H Q I q => h.run pins s σ H Q I (i _ _ _ q)⟩
theorem jts_nil {X : Cx} {Γ : Gm} : PTs X [] (tMB Γ W0 mYes) := pts_nil.imp fun σ H Q ⟨ρ, F, R, p⟩ => p F H (.refl R)
theorem jts_one {X : Cx} {Γ : Gm} {c : Expr} {t : MB} (h : PT X c (tMB Γ W0 t)) : PTs X [c] (tMB Γ W0 t) := pts_one h
theorem je_lc (hc : X.calm = true) (hN : X.N.Nodup) (hi : PI X tg iter (iM Γ W mi)) (ok : BlkOk X.N X.env.scope scope own) (hf : TgV Γ g f (own.map (·.2)))
    (hg : ∀ (s : Shared) (H : Hp) (C : Addr) (cl : List (Str × Addr)) (fp : List Addr), PG (X.blk s H scope (compEnvC scope cl C X.env) fp) tg g) (ht : ∀ (s : Shared) (H : Hp) (C : Addr) (cl : List (Str × Addr)) (fp : List Addr), PTs (X.blk s H scope (compEnvC scope cl C X.env) fp) ifs (tMB Γ W0 t))
    (he : ∀ (s : Shared) (H : Hp) (C : Addr) (cl : List (Str × Addr)) (fp : List Addr), PE (X.blk s H scope (compEnvC scope cl C X.env) fp) elt (tM Γ W0 me)) (hs : ∀ x, foldedSetIterable iter X.env x = pure x := by intro _; rfl) :
    PE X (.ListComp elt [⟨tg, iter, ifs, 0⟩] scope pos) (tM Γ W (mLc (own.map (·.2)) mi f t me)) :=
  (pe_lc hc hN hi ok hg ht (fun s H C cl fp => je_f (he s H C cl fp)) hs).imp (mLc_ok hf)
/-- y = [..] on one line -/
theorem js_setLc {i : Nat} {y : Str} {py : Pos} (hc : X.calm = true) (hN : X.N.Nodup) (hyl : X.env.scope.names.lookup y = some .local)
    (hsw : swapsWith (.ListComp elt [⟨tg, iter, ifs, 0⟩] scope pos) (some (.Name y py)) spos.line X.env = pure true) (hi : PI X tg iter (iM Γ W mi)) (ok : BlkOk X.N X.env.scope scope own) (hf : TgV Γ g f (own.map (·.2)))
    (hg : ∀ (s : Shared) (H : Hp) (C : Addr) (cl : List (Str × Addr)) (fp : List Addr), PG (X.blk s H scope (compEnvC scope cl C X.env) fp) tg g) (ht : ∀ (s : Shared) (H : Hp) (C : Addr) (cl : List (Str × Addr)) (fp : List Addr), PTs (X.blk s H scope (compEnvC scope cl C X.env) fp) ifs (tMB Γ W0 t))
    (he : ∀ (s : Shared) (H : Hp) (C : Addr) (cl : List (Str × Addr)) (fp : List Addr), PE (X.blk s H scope (compEnvC scope cl C X.env) fp) elt (tM Γ W0 me)) (hy : X.N[i]? = some y := by rfl) (hs : ∀ x, foldedSetIterable iter X.env x = pure x := by intro _; rfl) :
    PS X (.Assign [.Name y py] (.ListComp elt [⟨tg, iter, ifs, 0⟩] scope pos) spos) (tMS Γ W (mSet i (mLc (own.map (·.2)) mi f t me))) :=
  (ps_setLc hc hN hy hyl hsw hi ok hg ht (fun s H C cl fp => je_f (he s H C cl fp)) hs).imp fun D σ H ⟨ρ, F, R, p⟩ => mLc_ok hf σ H _ ⟨ρ, F, R, p.bindM fun r ρ1 v F1 H1 s1 hr p1 => set_go s1 hr p1⟩
end
end PyD

namespace PyD
open PySem PySem.Spec PyProof.Rows L2

/-! ### built-ins -/
def OrC (r r' : List V → Hp → VK → Prop) : List V → Hp → VK → Prop := fun xs H Q => r xs H Q ∨ r' xs H Q
def orC (f g : List D → Option Res) : List D → Option Res := fun a => match f a with
  | some r => some r
  | none => g a
theorem CallOk.or {G : Gx} {r r' : List V → Hp → VK → Prop} {f g : List D → Option Res} (h : CallOk G r f) (h' : CallOk G r' g) : CallOk G (OrC r r') (orC f g) := fun F H xs ds res Q e v q k => by
  unfold orC at q
  split at q
  · rename_i z w
    cases q
    exact .inl (h F H xs ds _ Q e v w k)
  · exact .inr (h' F H xs ds res Q e v q k)
theorem Views.one {G : Gx} {F H : Hp} {xs : List V} {d : D} (v : Views G F H xs [d]) : ∃ x, xs = [x] ∧ View G F H x d := by
  cases v with | cons h t => cases t; exact ⟨_, rfl, h⟩
theorem Views.two {G : Gx} {F H : Hp} {xs : List V} {d e : D} (v : Views G F H xs [d, e]) : ∃ x y, xs = [x, y] ∧ View G F H x d ∧ View G F H y e := by
  cases v with | cons h t => cases t with | cons h2 t => cases t; exact ⟨_, _, rfl, h, h2⟩
def lenN : D → Option Nat
  | .str z => if z.length ≤ sizeLine then some z.length else none
  | .lst xs => some xs.length
  | .tup xs => some xs.length
  | .scr xs => some xs.length
  | .dct xs => some xs.length
  | _ => none
def lenD : List D → Option Res
  | [d] => (lenN d).map fun n => .val (.int (n : Nat))
  | _ => none
def rLenD (K : PySem.W.Frag) : List V → Hp → VK → Prop := OrC (fun xs H Q => ∃ x n, xs = [x] ∧ LenV K x H n ∧ Q (.int n) H) (fun xs H Q => ∃ a kvs, xs = [V.ref a] ∧ H a = some (.dK kvs) ∧ Q (.int kvs.length) H)
theorem call_lenAll {X : Cx} : CallR X (.builtin "len") (rLenD X.K) := call_len.or call_lenD
theorem lenD_ok {G : Gx} : CallOk G (rLenD G.K) lenD := by
  intro F H xs ds res Q e v q k
  unfold lenD at q
  split at q
  · rename_i d
    obtain ⟨n, h, rfl⟩ := Option.map_eq_some_iff.mp q
    obtain ⟨x, rfl, vx⟩ := v.one
    have kk := fun (m : Nat) (h : m = n) => k (.int (m : Nat)) F H (.refl e) (by rw [h]; exact .int _)
    cases d with
    | str z =>
      simp only [lenN] at h
      split at h
      · cases h; exact .inl ⟨_, _, rfl, by rw [vx.str]; exact ⟨by assumption, rfl⟩, kk _ rfl⟩
      · cases h
    | lst xs =>
      simp only [lenN, Option.some.injEq] at h
      obtain ⟨a, vs, rfl, h1, t⟩ := vx.lst e
      exact .inl ⟨_, _, rfl, .inl ⟨vs, SqL.of h1, rfl⟩, kk _ (by rw [t.length]; exact h)⟩
    | tup xs =>
      simp only [lenN, Option.some.injEq] at h
      obtain ⟨a, vs, rfl, h1, t⟩ := vx.tup e
      exact .inl ⟨_, _, rfl, .inr ⟨vs, h1, rfl⟩, kk _ (by rw [t.length]; exact h)⟩
    | scr xs =>
      simp only [lenN, Option.some.injEq] at h
      obtain ⟨a, rfl, h1⟩ := vx.scr e
      exact .inl ⟨_, _, rfl, .inl ⟨_, h1, rfl⟩, kk _ (by simpa using h)⟩
    | dct xs =>
      simp only [lenN, Option.some.injEq] at h
      obtain ⟨a, vs, rfl, h1, t⟩ := vx.dct e
      exact .inr ⟨_, _, rfl, h1, kk _ (by rw [t.length]; exact h)⟩
    | _ => simp [lenN] at h
  · cases q
def intD : List D → Option Res
  | [.int i] => some (.val (.int i))
  | [.bl b] => some (.val (.int (if b then 1 else 0)))
  | _ => none
theorem intD_ok {G : Gx} : CallOk G (fun xs H Q => (∃ i, xs = [.int i] ∧ Q (.int i) H) ∨ ∃ k, xs = [.bl k] ∧ Q (.int (if k then 1 else 0)) H) intD := by
  intro F H xs ds res Q e v q k
  unfold intD at q
  split at q
  · rename_i i
    cases q
    obtain ⟨x, rfl, vx⟩ := v.one
    exact .inl ⟨i, by rw [vx.int], k _ F H (.refl e) (.int _)⟩
  · rename_i b
    cases q
    obtain ⟨x, rfl, vx⟩ := v.one
    exact .inr ⟨b, by rw [vx.bl], k _ F H (.refl e) (.int _)⟩
  · cases q
def fI2 (g : Int → Int → Int) : List D → Option Res
  | [.int i, .int j] => some (.val (.int (g i j)))
  | _ => none
theorem fI2_ok {G : Gx} {g : Int → Int → Int} : CallOk G (fun xs H Q => ∃ i j, xs = [.int i, .int j] ∧ Q (.int (g i j)) H) (fI2 g) := by
  intro F H xs ds res Q e v q k
  unfold fI2 at q
  split at q
  · rename_i i j
    cases q
    obtain ⟨x, y, rfl, vx, vy⟩ := v.two
    exact ⟨i, j, by rw [vx.int, vy.int], k _ F H (.refl e) (.int _)⟩
  · cases q
def maxD : List D → Option Res := fI2 fun i j => if j > i then j else i
def minD : List D → Option Res := fI2 fun i j => if j < i then j else i
def absD : List D → Option Res
  | [.int i] => some (.val (.int (if i < 0 then -i else i)))
  | _ => none
theorem absD_ok {G : Gx} : CallOk G (fun xs H Q => ∃ i, xs = [.int i] ∧ Q (.int (if i < 0 then -i else i)) H) absD := by
  intro F H xs ds res Q e v q k
  unfold absD at q
  split at q
  · rename_i i
    cases q
    obtain ⟨x, rfl, vx⟩ := v.one
    exact ⟨i, by rw [vx.int], k _ F H (.refl e) (.int _)⟩
  · cases q
/-- lists of bools, ints, texts -/
def blsD : List D → Option (List Bool)
  | [] => some []
  | .bl b :: ds => (blsD ds).map (b :: ·)
  | _ => none
theorem bls_ok {G : Gx} {F : Hp} : ∀ {vs : List V} {ds : List D} {bs : List Bool}, DpL G F vs ds → blsD ds = some bs → vs = bs.map V.bl
  | _, _, _, .nil, e => by simp only [blsD, Option.some.injEq] at e; subst e; rfl
  | _, _, _, .cons (d := d) h t, e => by
    cases d with
    | bl b =>
      simp only [blsD, Option.map_eq_some_iff] at e
      obtain ⟨bs, e1, rfl⟩ := e
      cases h
      simp [bls_ok t e1]
    | _ => simp [blsD] at e
def intsD : List D → Option (List Int)
  | [] => some []
  | .int b :: ds => (intsD ds).map (b :: ·)
  | _ => none
theorem ints_ok {G : Gx} {F : Hp} : ∀ {vs : List V} {ds : List D} {bs : List Int}, DpL G F vs ds → intsD ds = some bs → vs = bs.map V.int
  | _, _, _, .nil, e => by simp only [intsD, Option.some.injEq] at e; subst e; rfl
  | _, _, _, .cons (d := d) h t, e => by
    cases d with
    | int b =>
      simp only [intsD, Option.map_eq_some_iff] at e
      obtain ⟨bs, e1, rfl⟩ := e
      cases h
      simp [ints_ok t e1]
    | _ => simp [intsD] at e
def strsD : List D → Option (List Str)
  | [] => some []
  | .str b :: ds => (strsD ds).map (b :: ·)
  | _ => none
theorem strs_ok {G : Gx} {F : Hp} : ∀ {vs : List V} {ds : List D} {bs : List Str}, DpL G F vs ds → strsD ds = some bs → vs = bs.map V.str
  | _, _, _, .nil, e => by simp only [strsD, Option.some.injEq] at e; subst e; rfl
  | _, _, _, .cons (d := d) h t, e => by
    cases d with
    | str b =>
      simp only [strsD, Option.map_eq_some_iff] at e
      obtain ⟨bs, e1, rfl⟩ := e
      cases h
      simp [strs_ok t e1]
    | _ => simp [strsD] at e
def allD : List D → Option Res
  | [.lst ds] => (blsD ds).map fun bs => .val (.bl (bs.all id))
  | _ => none
def anyD : List D → Option Res
  | [.lst ds] => (blsD ds).map fun bs => .val (.bl (bs.any id))
  | _ => none
def sumD : List D → Option Res
  | [.lst ds] => (intsD ds).map fun bs => .val (.int bs.sum)
  | _ => none
theorem allD_ok {G : Gx} : CallOk G (rAll G.K) allD := by
  intro F H xs ds res Q e v q k
  unfold allD at q
  split at q
  · rename_i ds
    obtain ⟨bs, h, rfl⟩ := Option.map_eq_some_iff.mp q
    obtain ⟨x, rfl, vx⟩ := v.one
    obtain ⟨a, vs, rfl, h1, t⟩ := vx.lst e
    exact ⟨a, bs, rfl, by rw [← bls_ok t h]; exact SqL.of h1, k _ F H (.refl e) (.bl _)⟩
  · cases q
theorem anyD_ok {G : Gx} : CallOk G (rAny G.K) anyD := by
  intro F H xs ds res Q e v q k
  unfold anyD at q
  split at q
  · rename_i ds
    obtain ⟨bs, h, rfl⟩ := Option.map_eq_some_iff.mp q
    obtain ⟨x, rfl, vx⟩ := v.one
    obtain ⟨a, vs, rfl, h1, t⟩ := vx.lst e
    exact ⟨a, bs, rfl, by rw [← bls_ok t h]; exact SqL.of h1, k _ F H (.refl e) (.bl _)⟩
  · cases q
theorem sumD_ok {G : Gx} : CallOk G (rSum G.K) sumD := by
  intro F H xs ds res Q e v q k
  unfold sumD at q
  split at q
  · rename_i ds
    obtain ⟨bs, h, rfl⟩ := Option.map_eq_some_iff.mp q
    obtain ⟨x, rfl, vx⟩ := v.one
    obtain ⟨a, vs, rfl, h1, t⟩ := vx.lst e
    exact ⟨a, bs, rfl, by rw [← ints_ok t h]; exact SqL.of h1, k _ F H (.refl e) (.int _)⟩
  · cases q
/-- list(x), tuple(x): the items alone are held -/
def listD : List D → Option Res
  | [.lst xs] => some (.new (.lst xs))
  | [.tup xs] => some (.new (.lst xs))
  | [.scr ns] => some (.new (.lst (ns.map D.int)))
  | _ => none
def tupleD : List D → Option Res
  | [.lst xs] => some (.val (.tup xs))
  | [.tup xs] => some (.val (.tup xs))
  | _ => none
theorem listD_ok {G : Gx} : CallOk G (fun xs H Q => ∃ p ys, xs = [.ref p] ∧ (SqL G.K H p ys ∨ SqT G.K H p ys) ∧ ∀ l, H l = none → Q (.ref l) (upd H l (.lst ys))) listD := by
  intro F H xs ds res Q e v q k
  unfold listD at q
  split at q
  · rename_i ds
    cases q
    obtain ⟨x, rfl, vx⟩ := v.one
    obtain ⟨a, vs, rfl, h1, t⟩ := vx.lst e
    exact ⟨a, vs, rfl, .inl (SqL.of h1), fun l hl => k _ F _ (.cell e hl) ⟨l, rfl, Same.free e hl, ⟨_, upd_same, t⟩, hl⟩⟩
  · rename_i ds
    cases q
    obtain ⟨x, rfl, vx⟩ := v.one
    obtain ⟨a, vs, rfl, h1, t⟩ := vx.tup e
    exact ⟨a, vs, rfl, .inr h1, fun l hl => k _ F _ (.cell e hl) ⟨l, rfl, Same.free e hl, ⟨_, upd_same, t⟩, hl⟩⟩
  · rename_i ns
    cases q
    obtain ⟨x, rfl, vx⟩ := v.one
    obtain ⟨a, rfl, h1⟩ := vx.scr e
    exact ⟨a, _, rfl, .inl h1, fun l hl => k _ F _ (.cell e hl) ⟨l, rfl, Same.free e hl, ⟨_, upd_same, ints_dpl _⟩, hl⟩⟩
  · cases q
theorem tupleD_ok {G : Gx} : CallOk G (fun xs H Q => ∃ p ys, xs = [.ref p] ∧ ((SqL G.K H p ys ∧ ∀ l, H l = none → Q (.ref l) (upd H l (.tup ys))) ∨ (SqT G.K H p ys ∧ Q (.ref p) H))) tupleD := by
  intro F H xs ds res Q e v q k
  unfold tupleD at q
  split at q
  · rename_i ds
    cases q
    obtain ⟨x, rfl, vx⟩ := v.one
    obtain ⟨a, vs, rfl, h1, t⟩ := vx.lst e
    exact ⟨a, vs, rfl, .inl ⟨SqL.of h1, fun l hl => k _ _ _ (.tup e hl) (.tup (SqT.of upd_same) (t.mono (Alc.tup e hl).subF))⟩⟩
  · rename_i ds
    cases q
    obtain ⟨x, rfl, vx⟩ := v.one
    have vx' := vx
    obtain ⟨a, vs, rfl, h1, t⟩ := vx.tup e
    refine ⟨a, vs, rfl, .inr ⟨h1, k _ F H (.refl e) ?_⟩⟩
    rcases vx' with h | ⟨_, _, c⟩
    · exact h
    · exact c.elim
  · cases q
/-! isinstance, built-in classes -/
def tyN : D → Option String
  | .non => some "NoneType"
  | .bl _ => some "bool"
  | .int _ => some "int"
  | .str _ => some "str"
  | .lst _ => some "list"
  | .tup _ => some "tuple"
  | .dct _ => some "dict"
  | _ => none
theorem sqT_ty {K : PySem.W.Frag} {H : Hp} {a : Addr} {vs : List V} (h : SqT K H a vs) : TyX K H (.ref a) (.type "tuple") := by
  rcases h with (h | ⟨o, h⟩) | ⟨o, its, n, h1, h2, _⟩
  · exact .base (.tup h)
  · exact .fTuple h
  · exact .kTuple h1 h2
theorem tyN_ok {G : Gx} {F H : Hp} {x : V} {d : D} {t : String} (e : Same F H) (v : View G F H x d) (q : tyN d = some t) : TyX G.K H x (.type t) := by
  cases d with
  | non => cases q; rw [v.non]; exact .base .non
  | bl b => cases q; rw [v.bl]; exact .base (.bl b)
  | int b => cases q; rw [v.int]; exact .base (.int b)
  | str b => cases q; rw [v.str]; exact .base (.str b)
  | lst b => cases q; obtain ⟨a, vs, rfl, h1, _⟩ := v.lst e; exact .base (.lst h1)
  | tup b => cases q; obtain ⟨a, vs, rfl, h1, _⟩ := v.tup e; exact sqT_ty h1
  | dct b => cases q; obtain ⟨a, vs, rfl, h1, _⟩ := v.dct e; exact .base (.dK h1)
  | _ => cases q
/-- the answers among built-in types that are asked here -/
def isiT : String → String → Option Bool
  | "bool", "int" => some true
  | a, b => if a ∈ ["NoneType", "bool", "int", "str", "list", "tuple", "dict"] ∧ b ∈ ["bool", "int", "str", "list", "tuple", "dict"] then some (a == b) else none
theorem isiT_ok {K : PySem.W.Frag} {a b : String} {r : Bool} (h : isiT a b = some r) : PySem.W.kitOne K (.type a) (.type b) = some r := by
  refine kit_ty ?_
  have key : ∀ a ∈ ["NoneType", "bool", "int", "str", "list", "tuple", "dict"], ∀ b ∈ ["bool", "int", "str", "list", "tuple", "dict"], kitB a b = some (if a = "bool" ∧ b = "int" then true else a == b) := by decide +kernel
  unfold isiT at h
  split at h
  · rw [key "bool" (by decide) "int" (by decide)]; simpa using h
  · rename_i hn
    split at h
    · rename_i w
      rw [key a w.1 b w.2, ← h]
      have : ¬ (a = "bool" ∧ b = "int") := fun z => hn z.1 z.2
      simp [this]
    · cases h
/-- the program's classes: how many; which is under which; which built-in class is above; their attributes -/
structure Tab where
  n : Nat
  sub : Nat → Nat → Bool
  tys : List String
  subB : Nat → String → Bool
  flds : Nat → List Str
def baseT : List String := ["NoneType", "bool", "int", "str", "list", "tuple", "dict"]
structure TabOk (G : Gx) (T : Tab) : Prop where
  base : ∀ c, c < T.n → ∀ t ∈ baseT, PySem.W.kitOne G.K (.type t) (.ref (G.cl c)) = some false
  own : ∀ c, c < T.n → ∀ c', c' < T.n → PySem.W.kitOne G.K (.ref (G.cl c)) (.ref (G.cl c')) = some (T.sub c c')
  blt : ∀ c, c < T.n → ∀ t ∈ T.tys, PySem.W.kitOne G.K (.ref (G.cl c)) (.type t) = some (T.subB c t)
  cls : ∀ c, c < T.n → Cls G.K (G.cl c)
  ha : ∀ c, c < T.n → PySem.W.findIn G.K (.ref (G.cl c)) "__class__" = some (some (.builtin "object.__class__"))
  hn : 0 < T.n → PySem.W.specialIn G.K (.builtin "object.__class__") "__get__" = some (some (.builtin "getset_descriptor.__get__"))
  htk : 0 < T.n → PySem.W.takesIn G.K (.builtin "object.__class__") = some true
  hm : ∀ c, c < T.n → PySem.W.mroIn G.K (G.cl c) (.type "object") = some true
  fld : ∀ c, c < T.n → ∀ f ∈ T.flds c, NoAttr G.K (G.cl c) f
def isi1 (T : Tab) (x c : D) : Option Bool := match x, c with
  | .obj k _, .ty n => if k < T.n ∧ n ∈ T.tys then some (T.subB k n) else none
  | .obj k _, .cls c => if k < T.n ∧ c < T.n then some (T.sub k c) else none
  | x, .ty n => (tyN x).bind fun t => isiT t n
  | x, .cls c => if c < T.n then (tyN x).map fun _ => false else none
  | _, _ => none
def isiAny (T : Tab) (x : D) : List D → Option Bool
  | [] => some false
  | c :: cs => match isi1 T x c with
    | some true => some true
    | some false => isiAny T x cs
    | none => none
def isiD (T : Tab) : List D → Option Res
  | [x, .tup cs] => (isiAny T x cs).map fun b => .val (.bl b)
  | [x, c] => (isi1 T x c).map fun b => .val (.bl b)
  | _ => none
theorem tyN_base {d : D} {t : String} (h : tyN d = some t) : t ∈ baseT := by
  cases d <;> simp [tyN] at h <;> subst h <;> decide
def tyVal (G : Gx) : D → Option Value
  | .obj c _ => some (.ref (G.cl c))
  | d => (tyN d).map .type
def clsVal (G : Gx) : D → Option Value
  | .ty n => some (.type n)
  | .cls c => some (.ref (G.cl c))
  | _ => none
theorem clsVal_ok {G : Gx} {F H : Hp} {x : V} {c : D} {u : Value} (h : Dp G F x c) (e : clsVal G c = some u) : ClsV x u := by
  cases c with
  | ty n => cases e; cases h; exact .ty n
  | cls n => cases e; cases h; exact .own _
  | _ => cases e
theorem isi1_ok {G : Gx} {T : Tab} (O : TabOk G T) {F H : Hp} {x : V} {d c : D} {b : Bool} (s : Same F H) (v : View G F H x d) (e : isi1 T d c = some b) : ∃ t u, TyX G.K H x t ∧ tyVal G d = some t ∧ clsVal G c = some u ∧ PySem.W.kitOne G.K t u = some b := by
  have tyobj : ∀ {k : Nat} {fs : List (Str × D)}, View G F H x (.obj k fs) → k < T.n → TyX G.K H x (.ref (G.cl k)) := fun {k fs} v hk => by
    obtain ⟨a, dx, vs, rfl, h1, _⟩ := v.obj s
    exact .base (.ins h1 (O.cls k hk) (O.ha k hk) (O.hn (by omega)) (O.htk (by omega)) (O.hm k hk))
  unfold isi1 at e
  split at e
  · rename_i k fs n
    split at e
    · rename_i w
      cases e
      exact ⟨_, _, tyobj v w.1, rfl, rfl, O.blt k w.1 n w.2⟩
    · cases e
  · rename_i k fs c
    split at e
    · rename_i w
      cases e
      exact ⟨_, _, tyobj v w.1, rfl, rfl, O.own k w.1 c w.2⟩
    · cases e
  · rename_i n hno
    obtain ⟨t, h1, h2⟩ := Option.bind_eq_some_iff.mp e
    refine ⟨_, _, tyN_ok s v h1, ?_, rfl, isiT_ok h2⟩
    cases d <;> simp [tyVal, tyN] at h1 ⊢ <;> exact h1
  · rename_i c hno
    split at e
    · rename_i w
      obtain ⟨t, h1, rfl⟩ := Option.map_eq_some_iff.mp e
      refine ⟨_, _, tyN_ok s v h1, ?_, rfl, O.base c w t (tyN_base h1)⟩
      cases d <;> simp [tyVal, tyN] at h1 ⊢ <;> exact h1
    · cases e
  · cases e
/-- the classes' values -/
def clsVals (G : Gx) : List D → Option (List Value)
  | [] => some []
  | c :: cs => match clsVal G c, clsVals G cs with
    | some u, some us => some (u :: us)
    | _, _ => none
theorem clsVals_ok {G : Gx} {F H : Hp} : ∀ {ws : List V} {cs : List D} {us : List Value}, DpL G F ws cs → clsVals G cs = some us → Paired ClsV ws us
  | _, _, _, .nil, e => by simp only [clsVals, Option.some.injEq] at e; subst e; exact .nil
  | _, _, _, .cons h t, e => by
    simp only [clsVals] at e
    split at e
    · rename_i u us e1 e2
      cases e
      exact .cons (clsVal_ok (F := F) (H := H) h e1) (clsVals_ok (H := H) t e2)
    · cases e
theorem kitAny_of {G : Gx} {T : Tab} (O : TabOk G T) {F H : Hp} {x : V} {d : D} (s : Same F H) (v : View G F H x d) : ∀ {cs : List D} {us : List Value} {b : Bool} {t : Value}, cs ≠ [] → clsVals G cs = some us → isiAny T d cs = some b → tyVal G d = some t → TyX G.K H x t ∧ PySem.W.kitAny G.K t us = some b
  | [], _, _, _, h, _, _, _ => absurd rfl h
  | c :: cs, us, b, t, _, e, q, ty => by
    simp only [clsVals] at e
    split at e
    · rename_i u us' e1 e2
      cases e
      simp only [isiAny] at q
      cases hi : isi1 T d c with
      | none => rw [hi] at q; cases q
      | some b1 =>
        obtain ⟨t', u', X1, X2, X3, X4⟩ := isi1_ok O s v hi
        rw [ty] at X2; cases X2
        rw [e1] at X3; cases X3
        refine ⟨X1, kitAny_cons X4 (fun z => ?_) fun z => ?_⟩
        · subst z
          rw [hi] at q
          simp only at q
          cases cs with
          | nil => simp only [clsVals, Option.some.injEq] at e2; subst e2; simp only [isiAny, Option.some.injEq] at q; subst q; rfl
          | cons c2 cs2 => exact (kitAny_of O s v (by simp) e2 q ty).2
        · subst z
          rw [hi] at q
          simp only [Option.some.injEq] at q
          exact q.symm
    · cases e
theorem clsVals_some {G : Gx} {T : Tab} {d : D} : ∀ {cs : List D}, (∀ c ∈ cs, (clsVal G c).isSome) → ∃ us, clsVals G cs = some us
  | [], _ => ⟨[], rfl⟩
  | c :: cs, h => by
    obtain ⟨us, e⟩ := clsVals_some (T := T) (d := d) (cs := cs) fun c' hc => h c' (List.mem_cons_of_mem _ hc)
    obtain ⟨u, e1⟩ := Option.isSome_iff_exists.mp (h c (List.mem_cons_self ..))
    exact ⟨u :: us, by simp [clsVals, e, e1]⟩
def isCls : D → Bool
  | .ty _ => true
  | .cls _ => true
  | _ => false
def isiD' (T : Tab) : List D → Option Res
  | [x, .tup cs] => if cs.all isCls && !cs.isEmpty then (isiAny T x cs).map fun b => .val (.bl b) else none
  | [x, c] => (isi1 T x c).map fun b => .val (.bl b)
  | _ => none
def rIsiS (K : PySem.W.Frag) : List V → Hp → VK → Prop := fun xs H Q => ∃ (x : V) (tp : Addr) (cs : List V) (t : Value) (us : List Value) (b : Bool), xs = [x, .ref tp] ∧ SqT K H tp cs ∧ Paired ClsV cs us ∧ TyX K H x t ∧ PySem.W.kitAny K t us = some b ∧ Q (.bl b) H
theorem call_isiS {X : Cx} : CallR X (.builtin "isinstance") (rIsiS X.K) := by
  intro pins s σ H xs us Q I r h
  obtain ⟨x, tp, cs, t, ws, b, rfl, hT, k, ty, e, q⟩ := h
  obtain ⟨u1, u2, rfl, r1, r2⟩ := vals2 r
  cases (show u2 = Value.ref tp from r2)
  obtain ⟨P, Z, p, hx⟩ := kit_of I r1 ty
  obtain ⟨its, rv, ⟨o, h1, h2, n, h3⟩, _⟩ := I.tuple hT
  have e3 := ClsV.all k rv
  subst e3
  obtain ⟨oc, od, dt, sl⟩ := o
  simp only at h2 h3
  subst h2 h3
  exact PySem.W.kia_tup Z I.kIn p h1 e hx fun tk => ⟨.bl b, H, I.tok tk, rfl, q⟩
theorem call_isiAll {X : Cx} : CallR X (.builtin "isinstance") (OrC (rIsi X.K) (rIsiS X.K)) := call_isi.or call_isiS
theorem isiD_ok {G : Gx} {T : Tab} (O : TabOk G T) : CallOk G (OrC (rIsi G.K) (rIsiS G.K)) (isiD' T) := by
  intro F H xs ds res Q e v q k
  unfold isiD' at q
  split at q
  · rename_i x cs
    split at q
    · rename_i w
      have w := Bool.and_eq_true_iff.mp w
      obtain ⟨b, h, rfl⟩ := Option.map_eq_some_iff.mp q
      obtain ⟨vx, vc, rfl, hx, hc⟩ := v.two
      obtain ⟨tp, ws, rfl, hT, t⟩ := hc.tup e
      have hall : ∀ c ∈ cs, (clsVal G c).isSome := fun c hm => by
        have z := List.all_eq_true.mp w.1 c hm
        cases c <;> simp [isCls] at z <;> simp [clsVal]
      obtain ⟨us, eu⟩ := clsVals_some (T := T) (d := x) hall
      have hne : cs ≠ [] := by intro z; subst z; simp at w
      -- the type of x
      have : ∃ tv, tyVal G x = some tv := by
        cases cs with
        | nil => exact absurd rfl hne
        | cons c cs' =>
          simp only [isiAny] at h
          cases hi : isi1 T x c with
          | none => rw [hi] at h; cases h
          | some b1 => obtain ⟨t', u', _, X2, _⟩ := isi1_ok O e hx hi; exact ⟨t', X2⟩
      obtain ⟨tv, et⟩ := this
      obtain ⟨ty, ka⟩ := kitAny_of O e hx hne eu h et
      exact .inr ⟨vx, tp, ws, tv, us, b, rfl, hT, clsVals_ok (H := H) t eu, ty, ka, k _ F H (.refl e) (.bl _)⟩
    · cases q
  · rename_i x c hno
    obtain ⟨b, h, rfl⟩ := Option.map_eq_some_iff.mp q
    obtain ⟨vx, vc, rfl, hx, hc⟩ := v.two
    obtain ⟨t, u, X1, X2, X3, X4⟩ := isi1_ok O e hx h
    have hd : Dp G F vc c := by
      rcases hc with hc | ⟨a, r, cl⟩
      · exact hc
      · cases c <;> first | exact cl.elim | simp [clsVal] at X3
    exact .inl ⟨vx, vc, t, u, b, rfl, clsVal_ok (H := H) hd X3, X1, X4, k _ F H (.refl e) (.bl _)⟩
  · cases q

/-! ### cells changed -/
theorem Rel.upd {Γ : Gm} {ρ : Rho} {σ : St} {F H : Hp} {i : Nat} {b : Option Nat} {d d' : D} {a : Addr} {o : HO} (R : Rel Γ ρ σ F H) (q : ρ[i]? = some (some (.own b d))) (hs : σ[i]? = some (some (.ref a))) (c : Cell Γ.G F (L2.upd H a o) a d') :
    Stp Γ ρ σ F H (ρ.set i (some (.own b d'))) σ F (L2.upd H a o) := by
  obtain ⟨v, h1, a', z, n, ce, hb⟩ := R.slot i _ q
  rw [hs] at h1; cases h1; cases z
  have oa : OwnAt ρ σ i a := ⟨b, d, q, hs⟩
  have il : i < ρ.length := by
    rcases Nat.lt_or_ge i ρ.length with y | y
    · exact y
    · rw [List.getElem?_eq_none y] at q; cases q
  have bk : ∀ j c, OwnAt (ρ.set i (some (.own b d'))) σ j c → OwnAt ρ σ j c := fun j c ⟨b2, d2, w1, w2⟩ => by
    rcases get_set w1 with ⟨e, e2, _⟩ | ⟨e, w1⟩
    · subst e; exact ⟨b, d, q, w2⟩
    · exact ⟨b2, d2, w1, w2⟩
  refine ⟨⟨fun b2 u w => ?_, fun j sl w => ?_, fun j k c h1 h2 => R.inj j k c (bk j c h1) (bk k c h2), by simp [R.len]⟩, Same.refl _, fun c ⟨j, w⟩ => .inl ⟨j, bk j c w⟩, fun c u w no => ?_, fun _ _ _ f _ => f, fun c u w => ?_⟩
  · rw [upd_ne (ne_of_none w n)]; exact R.sub b2 u w
  · rcases get_set w with ⟨e, e2, _⟩ | ⟨e, w⟩
    · subst e
      have e3 := Option.some.inj e2
      subst e3
      exact ⟨_, hs, a, rfl, n, c, hb⟩
    · obtain ⟨v2, h3, h4⟩ := R.slot j sl w
      refine ⟨v2, h3, ?_⟩
      cases sl with
      | val d2 => exact h4
      | own b2 d2 =>
        obtain ⟨c2, z2, n2, ce2, hb2⟩ := h4
        have hc : c2 ≠ a := fun y => e (R.inj i j a oa ⟨b2, d2, w, by rw [h3, z2, y]⟩)
        exact ⟨c2, z2, n2, ce2.mono (Same.refl _) fun u hu => by rw [upd_ne hc]; exact hu, hb2⟩
  · rw [upd_ne (fun y => no (by rw [y]; exact ⟨i, oa⟩))]; exact w
  · by_cases hc : c = a
    · subst hc; exact ⟨o, upd_same⟩
    · exact ⟨u, by rw [upd_ne hc]; exact w⟩
/-- a method that changes its list: the receiver's slot, the settled arguments -/
def mutR (f : D → List D → Option (D × D)) (ro : Res) (rs : List Res) (ρ : Rho) : Out Res := match ro with
  | .at i => match settles rs ρ with
    | some (ds, ρ1) => (match ρ1[i]? with
      | some (some (.own b d)) => (match f d ds with
        | some (d', z) => .ok (.val z) (ρ1.set i (some (.own b d')))
        | none => .stuck)
      | _ => .stuck)
    | none => .stuck
  | _ => .stuck
/-- r: what the rule asks; f: the cell behind, the value -/
def MutOk (G : Gx) (r : V → List V → Hp → VK → Prop) (f : D → List D → Option (D × D)) : Prop := ∀ F H a xs d ds d' z Q, Same F H → F a = none → Cell G F H a d → DpL G F xs ds → f d ds = some (d', z) →
  (∀ v o, Cell G F (L2.upd H a o) a d' → Dp G F v z → Q v (L2.upd H a o)) → r (.ref a) xs H Q
theorem mutR_ok {Γ : Gm} {W : WX} {r : V → List V → Hp → VK → Prop} {f : D → List D → Option (D × D)} {ro : Res} {rs : List Res} {ρ : Rho} {σ : St} {F H : Hp} {Q : VK} {x : V} {xs : List V} (hf : MutOk Γ.G r f) (R : Rel Γ ρ σ F H) (ho : RepF Γ.G σ F x ro) (ha : RepFs Γ.G σ F xs rs) (h : Post Γ W (mutR f ro rs ρ) ρ σ F H Q) : r x xs H Q := by
  unfold mutR at h
  split at h
  · rename_i i
    split at h
    · rename_i ds ρ1 e1
      obtain ⟨F1, s1, p1⟩ := settles_ok R ha e1
      split at h
      · rename_i b d q
        split at h
        · rename_i d' z e2
          have ho : σ[i]? = some (some x) := ho
          obtain ⟨v, h1, a, zz, n, c, hb⟩ := s1.rel.slot i _ q
          rw [ho] at h1; cases h1; subst zz
          exact hf F1 H a xs d ds d' z Q s1.rel.sub n c p1 e2 fun v o c' dv => h v F1 _ (s1.trans (s1.rel.upd q ho c')) dv
        · exact h.elim
      · exact h.elim
    · exact h.elim
  · exact h.elim
def mMut (f : D → List D → Option (D × D)) (mo : M) (ma : MA) : M := fun ρ => bindF (mo ρ) fun o ρ1 => bindO (ma ρ1) fun rs ρ2 => mutR f o rs ρ2
/-- a method that reads: the receiver, the arguments -/
def MtOk (G : Gx) (r : V → List V → Hp → VK → Prop) (f : D → List D → Option Res) : Prop := ∀ F H x xs d ds res Q, Same F H → View G F H x d → Views G F H xs ds → f d ds = some res →
  (∀ v F' H', Alc F H F' H' → RepNew G H F' H' v res → Q v H') → r x xs H Q
def mtR (f : D → List D → Option Res) (ro : Res) (rs : List Res) (ρ : Rho) : Out Res := match resolve ρ ro, resolves ρ rs with
  | some d, some ds => (match f d ds with | some r => .ok r ρ | none => .stuck)
  | _, _ => .stuck
def mMt (f : D → List D → Option Res) (mo : M) (ma : MA) : M := fun ρ => bindF (mo ρ) fun o ρ1 => bindO (ma ρ1) fun rs ρ2 => mtR f o rs ρ2
theorem mtR_ok {Γ : Gm} {W : WX} {r : V → List V → Hp → VK → Prop} {f : D → List D → Option Res} {ro : Res} {rs : List Res} {ρ : Rho} {σ : St} {F H : Hp} {Q : VK} {x : V} {xs : List V} (hf : MtOk Γ.G r f) (R : Rel Γ ρ σ F H) (ho : RepF Γ.G σ F x ro) (ha : RepFs Γ.G σ F xs rs) (h : Post Γ W (mtR f ro rs ρ) ρ σ F H Q) : r x xs H Q := by
  unfold mtR at h
  split at h
  · rename_i d ds e1 e2
    split at h
    · rename_i res e3
      exact hf F H x xs d ds res Q R.sub (ho.view R e1) (ha.views R e2) e3 (fin_new R h)
    · exact h.elim
  · exact h.elim
end PyD

namespace PyD
open PySem PySem.Spec PyProof.Rows L2

/-! ### methods of built-in types -/
def tyOk (T : String) : D → Bool
  | .lst _ => T == "list"
  | .scr _ => T == "list"
  | .str _ => T == "str"
  | .dct _ => T == "dict"
  | _ => false
theorem tyOk_ok {G : Gx} {F H : Hp} {x : V} {d : D} {T : String} (e : Same F H) (v : View G F H x d) (h : tyOk T d = true) : tyV G.K T x H := by
  cases d with
  | lst xs => obtain ⟨a, vs, rfl, h1, _⟩ := v.lst e; exact .inl ⟨by simpa [tyOk] using h, vs, SqL.of h1⟩
  | scr xs => obtain ⟨a, rfl, h1⟩ := v.scr e; exact .inl ⟨by simpa [tyOk] using h, _, h1⟩
  | str xs => rw [v.str]; simpa [tyOk, tyV] using h
  | dct xs => obtain ⟨a, vs, rfl, h1, _⟩ := v.dct e; exact .inr (.inr (.inl ⟨by simpa [tyOk] using h, .inl ⟨vs, h1⟩⟩))
  | _ => simp [tyOk] at h
def guard {α : Type} (T : String) (o : Res) (ρ : Rho) (k : Out α) : Out α := match resolve ρ o with
  | some d => if tyOk T d then k else .stuck
  | none => .stuck
def mMutT (T : String) (f : D → List D → Option (D × D)) (mo : M) (ma : MA) : M := fun ρ => bindF (mo ρ) fun o ρ1 => guard T o ρ1 (bindO (ma ρ1) fun rs ρ2 => mutR f o rs ρ2)
def mMtT (T : String) (f : D → List D → Option Res) (mo : M) (ma : MA) : M := fun ρ => bindF (mo ρ) fun o ρ1 => guard T o ρ1 (bindO (ma ρ1) fun rs ρ2 => mtR f o rs ρ2)
theorem guard_ok {Γ : Gm} {W : WX} {T : String} {o : Res} {ρ : Rho} {k : Out Res} {σ : St} {F H : Hp} {Q : VK} {x : V} (R : Rel Γ ρ σ F H) (ho : RepF Γ.G σ F x o) (h : Post Γ W (guard T o ρ k) ρ σ F H Q) : tyV Γ.G.K T x H ∧ Post Γ W k ρ σ F H Q := by
  unfold guard at h
  split at h
  · rename_i d e
    split at h
    · rename_i w
      exact ⟨tyOk_ok R.sub (ho.view R e) w, h⟩
    · exact h.elim
  · exact h.elim
section
variable {X : Cx} {Γ : Gm} {W : WX} {o e : Expr} {es : List Expr} {mo : M} {ma : MA} {name : Str} {apos cpos : Pos} {T id : String} {r : V → List V → Hp → VK → Prop}
theorem tBM_mut {f : D → List D → Option (D × D)} (hK : X.K = Γ.G.K) (hf : MutOk Γ.G r f) : ∀ σ H Q, tM Γ W (mMutT T f mo ma) σ H Q → tBM X.K T r (tF Γ W mo) (tMA Γ W ma) σ H Q := fun σ H Q ⟨ρ, F, R, p⟩ => ⟨ρ, F, R, p.bindF fun ro ρ1 v F1 H1 s1 ho p1 => by
  obtain ⟨ty, p2⟩ := guard_ok s1.rel ho p1
  exact ⟨hK ▸ ty, ρ1, F1, s1.rel, p2.bindA fun rs ρ2 vs F2 H2 s2 hrs p3 => mutR_ok hf s2.rel (ho.mono s2.subF) hrs p3⟩⟩
theorem tBM_mt {f : D → List D → Option Res} (hK : X.K = Γ.G.K) (hf : MtOk Γ.G r f) : ∀ σ H Q, tM Γ W (mMtT T f mo ma) σ H Q → tBM X.K T r (tF Γ W mo) (tMA Γ W ma) σ H Q := fun σ H Q ⟨ρ, F, R, p⟩ => ⟨ρ, F, R, p.bindF fun ro ρ1 v F1 H1 s1 ho p1 => by
  obtain ⟨ty, p2⟩ := guard_ok s1.rel ho p1
  exact ⟨hK ▸ ty, ρ1, F1, s1.rel, p2.bindA fun rs ρ2 vs F2 H2 s2 hrs p3 => mtR_ok hf s2.rel (ho.mono s2.subF) hrs p3⟩⟩
theorem tBM0_mut {f : D → List D → Option (D × D)} (hK : X.K = Γ.G.K) (hf : MutOk Γ.G r f) : ∀ σ H Q, tM Γ W (mMutT T f mo mNil) σ H Q → tBM0 X.K T r (tF Γ W mo) σ H Q := fun σ H Q ⟨ρ, F, R, p⟩ => ⟨ρ, F, R, p.bindF fun ro ρ1 v F1 H1 s1 ho p1 => by
  obtain ⟨ty, p2⟩ := guard_ok s1.rel ho p1
  exact ⟨hK ▸ ty, mutR_ok (rs := []) hf s1.rel ho .nil p2⟩⟩
theorem tBM0_mt {f : D → List D → Option Res} (hK : X.K = Γ.G.K) (hf : MtOk Γ.G r f) : ∀ σ H Q, tM Γ W (mMtT T f mo mNil) σ H Q → tBM0 X.K T r (tF Γ W mo) σ H Q := fun σ H Q ⟨ρ, F, R, p⟩ => ⟨ρ, F, R, p.bindF fun ro ρ1 v F1 H1 s1 ho p1 => by
  obtain ⟨ty, p2⟩ := guard_ok s1.rel ho p1
  exact ⟨hK ▸ ty, mtR_ok (rs := []) hf s1.rel ho .nil p2⟩⟩
theorem je_mut {f : D → List D → Option (D × D)} (pa : PlainAttrs T) (slot : PySem.Slot T name id) (hty : typeOf (.builtin id) = pure (.type "method_descriptor")) (hm : MtR X id r) (hf : MutOk Γ.G r f) (hK : X.K = Γ.G.K) (ho : PE X o (tM Γ W mo)) (ha : PA X (e :: es) (tMA Γ W ma))
    (hbase : attributeBase o name X.env (eval o X.env) = eval o X.env := by rfl)
    (hfew : ((backTo cpos (starEach (e :: es) X.env)).all (fun x => !x.1) && (backToKw cpos (keywordEach [] X.env)).all (fun x => x.1.isSome)
      && decide ((e :: es).length + ([] : List Keyword).length + (if ([] : List Keyword).isEmpty then 0 else 1) < 30)) = true := by rfl)
    (hline : (apos.endLine == cpos.line) = true := by rfl) (hs : starEach (e :: es) X.env = (false, eval e X.env) :: starEach es X.env := by rfl) (hplain : (backTo cpos (starEach es X.env)).any (·.1) = false := by rfl) :
    PE X (.Call (.Attribute o name apos) (e :: es) [] cpos) (tM Γ W (mMutT T f mo ma)) := (pe_bm pa slot hty hm (je_f ho) ha hbase hfew hline hs hplain).imp (tBM_mut hK hf)
theorem je_mt {f : D → List D → Option Res} (pa : PlainAttrs T) (slot : PySem.Slot T name id) (hty : typeOf (.builtin id) = pure (.type "method_descriptor")) (hm : MtR X id r) (hf : MtOk Γ.G r f) (hK : X.K = Γ.G.K) (ho : PE X o (tM Γ W mo)) (ha : PA X (e :: es) (tMA Γ W ma))
    (hbase : attributeBase o name X.env (eval o X.env) = eval o X.env := by rfl)
    (hfew : ((backTo cpos (starEach (e :: es) X.env)).all (fun x => !x.1) && (backToKw cpos (keywordEach [] X.env)).all (fun x => x.1.isSome)
      && decide ((e :: es).length + ([] : List Keyword).length + (if ([] : List Keyword).isEmpty then 0 else 1) < 30)) = true := by rfl)
    (hline : (apos.endLine == cpos.line) = true := by rfl) (hs : starEach (e :: es) X.env = (false, eval e X.env) :: starEach es X.env := by rfl) (hplain : (backTo cpos (starEach es X.env)).any (·.1) = false := by rfl) :
    PE X (.Call (.Attribute o name apos) (e :: es) [] cpos) (tM Γ W (mMtT T f mo ma)) := (pe_bm pa slot hty hm (je_f ho) ha hbase hfew hline hs hplain).imp (tBM_mt hK hf)
theorem je_mut0 {f : D → List D → Option (D × D)} (pa : PlainAttrs T) (slot : PySem.Slot T name id) (hty : typeOf (.builtin id) = pure (.type "method_descriptor")) (hm : MtR X id r) (hf : MutOk Γ.G r f) (hK : X.K = Γ.G.K) (ho : PE X o (tM Γ W mo))
    (hbase : attributeBase o name X.env (eval o X.env) = eval o X.env := by rfl) (hline : (apos.endLine == cpos.line) = true := by rfl) : PE X (.Call (.Attribute o name apos) [] [] cpos) (tM Γ W (mMutT T f mo mNil)) := (pe_bm0 pa slot hty hm (je_f ho) hbase hline).imp (tBM0_mut hK hf)
theorem je_mt0 {f : D → List D → Option Res} (pa : PlainAttrs T) (slot : PySem.Slot T name id) (hty : typeOf (.builtin id) = pure (.type "method_descriptor")) (hm : MtR X id r) (hf : MtOk Γ.G r f) (hK : X.K = Γ.G.K) (ho : PE X o (tM Γ W mo))
    (hbase : attributeBase o name X.env (eval o X.env) = eval o X.env := by rfl) (hline : (apos.endLine == cpos.line) = true := by rfl) : PE X (.Call (.Attribute o name apos) [] [] cpos) (tM Γ W (mMtT T f mo mNil)) := (pe_bm0 pa slot hty hm (je_f ho) hbase hline).imp (tBM0_mt hK hf)
end
def appendD : D → List D → Option (D × D)
  | .lst xs, [y] => if xs.length < sizeLine then some (.lst (xs ++ [y]), .non) else none
  | _, _ => none
theorem appendD_ok {G : Gx} : MutOk G rAppend appendD := by
  intro F H a xs d ds d' z Q e n c t q k
  unfold appendD at q
  split at q
  · rename_i ys y
    split at q
    · rename_i w
      cases q
      obtain ⟨vs, h1, t1⟩ := c
      cases t with
      | cons h t' =>
        cases t'
        exact ⟨a, vs, _, rfl, rfl, h1, by rw [t1.length]; exact w, k _ _ ⟨_, upd_same, t1.append (.cons h .nil)⟩ .non⟩
    · cases q
  · cases q
def extendD : D → List D → Option (D × D)
  | .lst xs, [.lst ys] => if xs.length + ys.length ≤ sizeLine then some (.lst (xs ++ ys), .non) else none
  | _, _ => none
theorem extendD_ok {G : Gx} : MutOk G rExtend extendD := by
  intro F H a xs d ds d' z Q e n c t q k
  unfold extendD at q
  split at q
  · rename_i ys zs
    split at q
    · rename_i w
      cases q
      obtain ⟨vs, h1, t1⟩ := c
      cases t with
      | cons h t' =>
        cases t'
        cases h with
        | lst h2 t2 => exact ⟨a, _, vs, _, rfl, rfl, h1, e _ _ h2, by rw [t1.length, t2.length]; exact w, k _ _ ⟨_, upd_same, t1.append t2⟩ .non⟩
    · cases q
  · cases q
def popD : D → List D → Option (D × D)
  | .lst xs, [] => (xs[xs.length - 1]?).map fun y => (.lst xs.dropLast, y)
  | _, _ => none
theorem popD_ok {G : Gx} : MutOk G rPop popD := by
  intro F H a xs d ds d' z Q e n c t q k
  unfold popD at q
  split at q
  · rename_i ys
    obtain ⟨y, h, h2⟩ := Option.map_eq_some_iff.mp q
    cases h2
    obtain ⟨vs, h1, t1⟩ := c
    cases t
    obtain ⟨v, h3, h4⟩ := t1.get h
    exact ⟨a, vs, v, rfl, rfl, h1, by rw [t1.length]; exact h3, k _ _ ⟨_, upd_same, t1.dropLast⟩ h4⟩
  · cases q
/-- the first place of an equal one -/
def idxD (p : PyData) : List PyData → Option Nat
  | [] => none
  | z :: zs => if PyData.eqv z p then some 0 else (idxD p zs).map (· + 1)
theorem idxD_ok {p : PyData} : ∀ {zs : List PyData} {j : Nat}, idxD p zs = some j → (∃ z, zs[j]? = some z ∧ PyData.eqv z p = true) ∧ ∀ (m : Nat) (z' : PyData), m < j → zs[m]? = some z' → PyData.eqv z' p = false
  | [], _, e => by cases e
  | z :: zs, j, e => by
    unfold idxD at e
    split at e
    · rename_i w
      cases e
      exact ⟨⟨z, rfl, w⟩, fun m z' h => by omega⟩
    · rename_i w
      obtain ⟨k, h, rfl⟩ := Option.map_eq_some_iff.mp e
      obtain ⟨⟨z2, h1, h2⟩, h3⟩ := idxD_ok h
      refine ⟨⟨z2, by simpa using h1, h2⟩, fun m z' hm hz => ?_⟩
      cases m with
      | zero => simp at hz; subst hz; simpa using w
      | succ m => exact h3 m z' (by omega) (by simpa using hz)
def indexD : D → List D → Option Res
  | .lst xs, [y] => match toPys xs, toPy y with
    | some ps, some p => if SeqAt.shaped (.list ps) && SeqAt.shaped p then (idxD p ps).map fun j => .val (.int (j : Nat)) else none
    | _, _ => none
  | _, _ => none
theorem indexD_ok {G : Gx} : MtOk G (rIndexD G.K) indexD := by
  intro F H x xs d ds res Q e v vs q k
  unfold indexD at q
  split at q
  · rename_i ys y
    split at q
    · rename_i ps p e1 e2
      split at q
      · rename_i w
        have w := Bool.and_eq_true_iff.mp w
        obtain ⟨j, h, rfl⟩ := Option.map_eq_some_iff.mp q
        obtain ⟨⟨z, h1, h2⟩, h3⟩ := idxD_ok h
        obtain ⟨vy, rfl, hy⟩ := vs.one
        have hl := v.py e (show toPy (.lst ys) = some (.list ps) by simp [toPy, e1])
        obtain ⟨a, _, rfl, _⟩ := v.lst e
        exact ⟨a, vy, p, ps, j, z, rfl, rfl, hl, hy.py e e2, w.1, w.2, h1, h2, h3, k _ F H (.refl e) (.int _)⟩
      · cases q
    · cases q
  · cases q
def joinD : D → List D → Option Res
  | .str a, [.lst xs] => match strsD xs with
    | some ys => if (ys.map (·.length)).sum + ys.length * a.length ≤ 16777216 then some (.val (.str (Txt.join a ys))) else none
    | none => none
  | .str a, [.tup xs] => match strsD xs with
    | some ys => if (ys.map (·.length)).sum + ys.length * a.length ≤ 16777216 then some (.val (.str (Txt.join a ys))) else none
    | none => none
  | _, _ => none
def rJoin (K : PySem.W.Frag) : V → List V → Hp → VK → Prop := fun x xs H Q => ∃ a p, ∃ ys : List Str, x = .str a ∧ xs = [.ref p] ∧ (SqL K H p (ys.map V.str) ∨ SqT K H p (ys.map V.str)) ∧
    (ys.map (·.length)).sum + ys.length * a.length ≤ 16777216 ∧ Q (.str (Txt.join a ys)) H
theorem joinD_ok {G : Gx} : MtOk G (rJoin G.K) joinD := by
  intro F H x xs d ds res Q e v vs q k
  unfold joinD at q
  split at q
  · rename_i a ys
    split at q
    · rename_i zs e1
      split at q
      · rename_i w
        cases q
        obtain ⟨vy, rfl, hy⟩ := vs.one
        obtain ⟨p, us, rfl, h1, t⟩ := hy.lst e
        exact ⟨a, p, zs, v.str, rfl, .inl (by rw [← strs_ok t e1]; exact SqL.of h1), w, k _ F H (.refl e) (.str _)⟩
      · cases q
    · cases q
  · rename_i a ys
    split at q
    · rename_i zs e1
      split at q
      · rename_i w
        cases q
        obtain ⟨vy, rfl, hy⟩ := vs.one
        obtain ⟨p, us, rfl, h1, t⟩ := hy.tup e
        exact ⟨a, p, zs, v.str, rfl, .inr (by rw [← strs_ok t e1]; exact h1), w, k _ F H (.refl e) (.str _)⟩
      · cases q
    · cases q
  · cases q

/-! ### a[i] = e -/
def putKD (kvs : List (Key × D)) (k : Key) (v : D) : List (Key × D) :=
  if (kvs.any fun kv => decide (kv.1 = k)) = true then kvs.map (fun kv => if kv.1 = k then (kv.1, v) else kv) else kvs ++ [(k, v)]
theorem DpK.any {G : Gx} {F : Hp} {k : Key} : ∀ {vs : List (Key × V)} {ds : List (Key × D)}, DpK G F vs ds → (vs.any fun kv => decide (kv.1 = k)) = (ds.any fun kv => decide (kv.1 = k))
  | _, _, .nil => rfl
  | _, _, .cons _ t => by simp [DpK.any (k := k) t]
theorem DpK.app {G : Gx} {F : Hp} : ∀ {vs ws : List (Key × V)} {ds es : List (Key × D)}, DpK G F vs ds → DpK G F ws es → DpK G F (vs ++ ws) (ds ++ es)
  | _, _, _, _, .nil, s => s
  | _, _, _, _, .cons h t, s => .cons h (DpK.app t s)
theorem DpK.repl {G : Gx} {F : Hp} {k : Key} {v : V} {d : D} (hd : Dp G F v d) : ∀ {vs : List (Key × V)} {ds : List (Key × D)}, DpK G F vs ds → DpK G F (vs.map fun kv => if kv.1 = k then (kv.1, v) else kv) (ds.map fun kv => if kv.1 = k then (kv.1, d) else kv)
  | _, _, .nil => .nil
  | _, _, .cons (k := k') h t => by
    simp only [List.map_cons]
    by_cases e : k' = k
    · simp only [e, if_true]; exact .cons hd (DpK.repl hd t)
    · simp only [e, if_false]; exact .cons h (DpK.repl hd t)
theorem DpK.put {G : Gx} {F : Hp} {k : Key} {v : V} {d : D} (hd : Dp G F v d) {vs : List (Key × V)} {ds : List (Key × D)} (t : DpK G F vs ds) : DpK G F (putK vs k v) (putKD ds k d) := by
  unfold putK putKD
  rw [t.any]
  split
  · exact t.repl hd
  · exact t.app (.cons hd .nil)
def setD : D → D → D → Option D
  | .lst xs, .int i, v => (ixN xs.length i).map fun j => .lst (xs.set j v)
  | .dct kvs, k, v => if kvs.length < sizeLine then (keyD k).map fun k => .dct (putKD kvs k v) else none
  | _, _, _ => none
def rSetD : V → V → V → Hp → (Hp → Prop) → Prop := fun o i v H Q => rSetL o i v H Q ∨ ∃ a H', o = .ref a ∧ DPut H a i v H' ∧ Q H'
theorem set_D {X : Cx} (hu : X.A.units + 1 < cLine) : PSet X rSetD := by
  intro pins s σ H o i v ov iv u Q I ro ri rv h
  rcases h with h | ⟨a, H', rfl, g, q⟩
  · exact set_list pins s σ H o i v ov iv u Q I ro ri rv h
  · obtain rfl : ov = Value.ref a := ro
    exact d_setItem hu I g ri rv fun s' I' => ⟨H', I', q⟩
def storeR (rv ro ri : Res) (ρ : Rho) : SOut := match ro with
  | .at s => match settle rv ρ with
    | some (d, ρ1) => (match ρ1[s]?, resolve ρ1 ri with
      | some (some (.own b c)), some i => (match setD c i d with
        | some c' => .nx (ρ1.set s (some (.own b c')))
        | none => .stuck)
      | _, _ => .stuck)
    | none => .stuck
  | _ => .stuck
def mStore (mo mi me : M) : MS := fun ρ => bindSF (me ρ) fun rv ρ1 => bindSF (mo ρ1) fun ro ρ2 => bindSF (mi ρ2) fun ri ρ3 => storeR rv ro ri ρ3
section
variable {X : Cx} {Γ : Gm} {W : WX} {o i e : Expr} {mo mi me m : M} {pos pos' : Pos}
theorem js_store (hu : X.A.units + 1 < cLine) (he : PE X e (tM Γ W me)) (ho : PE X o (tM Γ W mo)) (hi : PE X i (tM Γ W mi)) (hs : swapsWithSole [.Subscript o i pos'] e pos.line X.env = pure false := by rfl) (hw : swappedStores [.Subscript o i pos'] e X.env = pure none := by rfl) (h1 : (assignEach [.Subscript o i pos'] X.env).map (·.2) = [assign (.Subscript o i pos') X.env] := by rfl)
    (hsub : PG X (.Subscript o i pos') (gSub (tF Γ W mo) (tF Γ W mi) rSetD) := by exact pg_sub (je_f ‹_›) (je_f ‹_›) (set_D ‹_›)) : PS X (.Assign [.Subscript o i pos'] e pos) (tMS Γ W (mStore mo mi me)) :=
  (ps_asg (je_f he) hsub hs hw h1).imp fun D σ H ⟨ρ, F, R, p⟩ => ⟨ρ, F, R, p.bindF fun rv ρ1 v F1 H1 s1 hv p1 => ⟨ρ1, F1, s1.rel, p1.bindF fun ro ρ2 x F2 H2 s2 ho' p2 => ⟨ρ2, F2, s2.rel, p2.bindF fun ri ρ3 y F3 H3 s3 hi' p3 => by
    unfold storeR at p3
    split at p3
    · rename_i s
      split at p3
      · rename_i d ρ4 e1
        obtain ⟨F4, s4, q4⟩ := settle_ok s3.rel (hv.mono (s2.subF.trans s3.subF)) e1
        split at p3
        · rename_i b c k e2 e3
          split at p3
          · rename_i c' e4
            have ho' : σ[s]? = some (some x) := ho'
            obtain ⟨v2, w1, a, z, n, ce, hb⟩ := s4.rel.slot s _ e2
            rw [ho'] at w1; cases w1; subst z
            have vi := (hi'.mono s4.subF).view s4.rel e3
            have fin : ∀ oo, Cell Γ.G F4 (L2.upd H3 a oo) a c' → D.nx σ (L2.upd H3 a oo) := fun oo cc => p3 σ F4 _ (s4.trans (s4.rel.upd e2 ho' cc))
            cases c with
            | lst xs =>
              cases k with
              | int i =>
                simp only [setD, Option.map_eq_some_iff] at e4
                obtain ⟨j, h1, rfl⟩ := e4
                obtain ⟨vs, h2, t⟩ := ce
                exact .inl ⟨a, vs, i, j, rfl, vi.int, h2, by rw [t.length]; exact h1, fin _ ⟨_, upd_same, t.set q4 j⟩⟩
              | _ => simp [setD] at e4
            | dct kvs =>
              simp only [setD] at e4
              split at e4
              · rename_i w
                obtain ⟨kk, h1, rfl⟩ := Option.map_eq_some_iff.mp e4
                obtain ⟨vs, h2, t⟩ := ce
                have hk := keyD_ok vi h1
                subst hk
                exact .inr ⟨a, _, rfl, DPut.k h2 (by rw [t.length]; exact w), fin _ ⟨_, upd_same, t.put q4⟩⟩
              · cases e4
            | _ => simp [setD] at e4
          · exact p3.elim
        · exact p3.elim
      · exact p3.elim
    · exact p3.elim⟩⟩⟩
/-! x op= e -/
def augR (f : D → D → Option Res) (i : Nat) (r : Res) (ρ : Rho) : SOut := match ρ[i]?, resolve ρ r with
  | some (some (.val d)), some e => (match f d e with
    | some (.val z) => .nx (ρ.set i (some (.val z)))
    | _ => .stuck)
  | _, _ => .stuck
def mAug (f : D → D → Option Res) (i : Nat) (m : M) : MS := fun ρ => match ρ[i]? with
  | some (some (.val d0)) => bindSF (m ρ) fun r ρ1 => augR f i r ρ1
  | _ => .stuck
end
end PyD

namespace PyD
open PySem PySem.Spec PyProof.Rows L2

section
variable {X : Cx} {Γ : Gm} {W : WX} {e : Expr} {m : M} {pos pos' : Pos}
theorem js_aug {op : Operator} {r : R2} {f : D → D → Option Res} {i : Nat} {x : Str} (ho : OpR X (inplaceOp op) r) (hf : BinOk Γ.G r f) (hN : X.N.Nodup) (hx : Loc X.env.scope x) (he : PE X e (tM Γ W m)) (hi : X.N[i]? = some x := by rfl)
    (hv : X.fn x = true ∨ X.env.scope.names.lookup x = some .local := by first | exact .inl rfl | exact .inr rfl | assumption) : PS X (.AugAssign (.Name x pos') op e pos) (tMS Γ W (mAug f i m)) :=
  (ps_aug (ti := r) hN hi hx (je_f he) (fun pins s σ H x y v u Q I rx ry q => ho pins s σ H x y v u Q I rx ry q) hv).imp fun D σ H ⟨ρ, F, R, p⟩ => by
    unfold mAug at p
    split at p
    · rename_i d0 q0
      obtain ⟨v0, h0, _⟩ := R.slot i _ q0
      refine ⟨v0, h0, ρ, F, R, p.bindF fun r ρ1 v F1 H1 s1 hr p1 => ?_⟩
      unfold augR at p1
      split at p1
      · rename_i d e' q1 e1
        split at p1
        · rename_i z e2
          obtain ⟨v1, h1, h2⟩ := s1.rel.slot i _ q1
          rw [h0] at h1; cases h1
          have il : i < ρ1.length := by
            rcases Nat.lt_or_ge i ρ1.length with y | y
            · exact y
            · rw [List.getElem?_eq_none y] at q1; cases q1
          refine hf F1 H1 v0 v d e' _ _ s1.rel.sub (.of h2) (hr.view s1.rel e1) e2 fun v2 F' H' al q2 => ?_
          exact p1 _ F' H' ((al.stp s1.rel).set il q2 fun _ _ _ z => nomatch z)
        · exact p1.elim
      · exact p1.elim
    · exact p.elim
/-! names of the module -/
theorem je_glob {x : Str} {v : V} {u : Value} {d : D} (hm : X.mg x = some u) (r : RelV v u) (hd : ∀ F, Dp Γ.G F v d) (hg : Gl X x := by rfl) (h : (x == ("__debug__" : Str)) = false := by decide) : PE X (.Name x pos) (tM Γ W (mC d)) := je_const (pe_glob hg hm r h) hd
theorem je_gint {x : Str} {i : Int} (hm : ∃ t, X.mg x = some (.int i t)) (hg : Gl X x := by rfl) (h : (x == ("__debug__" : Str)) = false := by decide) : PE X (.Name x pos) (tM Γ W (mC (.int i))) := let ⟨t, hm⟩ := hm; je_glob (v := .int i) hm ⟨t, rfl⟩ (fun _ => .int i) hg h
theorem je_gstr {x z : Str} (hm : ∃ t, X.mg x = some (.str z t)) (hg : Gl X x := by rfl) (h : (x == ("__debug__" : Str)) = false := by decide) : PE X (.Name x pos) (tM Γ W (mC (.str z))) := let ⟨t, hm⟩ := hm; je_glob (v := .str z) hm ⟨t, rfl⟩ (fun _ => .str z) hg h
theorem je_gval {x : Str} {a : Addr} {d : D} (hm : X.mg x = some (.ref a)) (hd : ∀ F, Dp Γ.G F (.ref a) d) (hg : Gl X x := by rfl) (h : (x == ("__debug__" : Str)) = false := by decide) : PE X (.Name x pos) (tM Γ W (mC d)) := je_glob (v := .ref a) hm rfl hd hg h
theorem je_ty {x : Str} {n : String} (hm : X.mg x = none) (hv : bootBuiltins x = some (.type n)) (hg : Gl X x := by rfl) (hn : x ≠ "__name__" := by decide) (h : (x == ("__debug__" : Str)) = false := by decide) : PE X (.Name x pos) (tM Γ W (mC (.ty n))) := je_const (pe_bltn (v := .ty n) hg hm hv rfl hn h) fun _ => .ty n
end

def mDnew : M := fun ρ => .ok (.new (.dct [])) ρ
theorem je_dnew {X : Cx} {Γ : Gm} {W : WX} {pos : Pos} : PE X (.Dict [] [] pos) (tM Γ W mDnew) := pe_dnewK.imp fun σ H Q ⟨ρ, F, R, h⟩ p hp =>
  fin_new (res := .new (.dct [])) R h _ F _ (.cell R.sub hp) ⟨p, rfl, Same.free R.sub hp, ⟨_, upd_same, .nil⟩, hp⟩
/-! ### what is known of a def -/
structure FnFact (P : Program) (w : World) (K : PySem.W.Frag) (mg : Str → Option Value) (base : Heap) (G : Gx) (x : Str) (n k : Nat) (ps : List Str) (g : Fn) : Prop where
  ex : ∃ f fd, mg x = some (.ref f) ∧ PySem.W.keepIn K (.ref f) = true ∧ Binds K fd ps [] ∧ FnOk P w K mg base (L2.CX P w) k f fd ps (spF G n g)
section
variable {X : Cx} {Γ : Gm} {W : WX} {e : Expr} {ma : MA} {pos p : Pos} {es : List Expr} {x : Str} {k n : Nat} {ps : List Str} {mk : List Bool} {g : Fn}
theorem je_callF (tk : Takes X W) (Fo : FnFact X.prog X.w X.K X.mg X.base Γ.G x n k ps g) (hr : Room k X.A) (ha : PA X (e :: es) (tMA Γ W ma))
    (hg : Gl X x := by rfl) (hdb : (x == ("__debug__" : Str)) = false := by decide) (he : starEach (e :: es) X.env = (false, eval e X.env) :: starEach es X.env := by rfl) (hpl : (backTo pos (starEach es X.env)).any (·.1) = false := by rfl) :
    PE X (.Call (.Name x p) (e :: es) [] pos) (tM Γ W (mCall n mk g ma)) := by
  obtain ⟨f, fd, h1, h2, h3, h4⟩ := Fo.ex
  exact je_call tk h4 hr h1 h2 h3 ha hg hdb he hpl
theorem je_callF0 (tk : Takes X W) (Fo : FnFact X.prog X.w X.K X.mg X.base Γ.G x n k ps g) (hr : Room k X.A) (hg : Gl X x := by rfl) (hdb : (x == ("__debug__" : Str)) = false := by decide) : PE X (.Call (.Name x p) [] [] pos) (tM Γ W (mCall n mk g mNil)) := by
  obtain ⟨f, fd, h1, h2, h3, h4⟩ := Fo.ex
  exact je_call0 tk h4 hr h1 h2 h3 hg hdb
end
/-- a def of the module with its body's derivation -/
theorem okf_of {P : Program} {w : World} {K : PySem.W.Frag} {mg : Str → Option Value} {base : Heap} {G : Gx} {x qual : Str} {params : Arguments} {body : List Stmt} {scope : Scope} {f : Addr} {fd : FuncData} {dvs : List V} {kws : List (Str × V)} {N ps : List Str} {n nl k : Nat} {m : MS}
    (F : FunD K x qual params body scope dvs kws f fd) (S : FnScope N ps scope) (hn : ps.length = n) (hN : N.length = n + nl)
    (hbody : ∀ (cdv : Value) (A : Around) (outer : List Env) (s : Shared) (H : Hp) (vs : List V) (E : XK), Room k (A.deeper (envOfC qual scope s.heap.objs.size f cdv)) →
      PSs (cxOf (L2.CX P w) P w K mg base N qual scope f cdv A outer s H E) body (tMS ⟨G, bet vs⟩ (fun cls d _ H' => E cls d H') m)) : FnOk P w K mg base (L2.CX P w) (k + 1) f fd ps (spF G n (mkFn nl m)) :=
  F.ok S (fun vs H Q E h => by rw [hn]; exact h.1) fun cdv A outer s H vs Q E hr h => body_ok (N := N) hN h (hbody cdv A outer s H vs E hr)
theorem fact_of {P : Program} {w : World} {K : PySem.W.Frag} {mg : Str → Option Value} {base : Heap} {G : Gx} {x qual : Str} {params : Arguments} {body : List Stmt} {scope : Scope} {f : Addr} {fd : FuncData} {ps : List Str} {n k : Nat} {g : Fn}
    (F : FunD K x qual params body scope [] [] f fd) (hm : mg x = some (.ref f))
    (hb : ∀ (kV doc pm : Value) (an : Option Addr) (cdv ct : Value) (us : List Value), us.length = ps.length → bindArgs (PySem.W.fnOf x qual params body scope .none kV doc pm an cdv ct) ⟨us, []⟩ = pure (ps.zip us))
    (O : FnOk P w K mg base (L2.CX P w) k f fd ps (spF G n g)) : FnFact P w K mg base G x n k ps g :=
  ⟨f, fd, hm, F.kp, F.bindsN hb, O⟩
/-! ### the end -/
theorem walk_ofW {l : PySem.W.OpenLaw} {n k : Nat} {q : Program} {loose : List Str} {XP : (Str → Option Value) → Heap → Prop} {YP : World → Heap → Prop} {d : DefRec} {CX : World → CXT} {x : Str}
    (hn : l.most = some n) (hn2 : n ≤ sizeLine) (hdf : d.params.defaults = []) (hr : Room k callerA)
    (F : ∀ (w : World) (mg : Str → Option Value) (fa : Addr) (h : Heap), YP w h → h.Ns mainGlobals mg → mg d.name = some (.ref fa) →
      ∃ (K : PySem.W.Frag) (fd : FuncData) (sp : Sp), K.In h ∧ (∀ (s : Shared) (u : Value), BindsTo s fd ⟨[u], []⟩ [(x, u)]) ∧
        (∀ (H : Hp) (a : Addr) (ns : List Int), ns.length ≤ n → Only H → SqL K H a (ns.map V.int) → sp [.ref a] H (fun v _ => v = .bl true) fun _ _ _ => False) ∧
        ∀ base : Heap, K.In base → base.Ns mainGlobals mg → FnOk l.prog w K mg base (CX w) k fa fd [x] sp)
    (hCX : ∀ (w : World) (H : Hp) (s : Shared) (e : Value) (s' : Shared), CX w [] H s (fun _ _ _ => False) e s' → False) :
    PySem.W.WalkO q loose XP YP l.row.toRowW d [] (fun f vs => PySem.call f vs) := by
  refine Att.attach_call hn hdf fun w s₀ s₁ mg mb fa o pm cd doc a vs ns G Y ho hd hcd hmg hobj hints hlen hg => ?_
  obtain ⟨K, fd, sp, KX, hb, hsp, hF⟩ := F w mg fa _ Y G.T.g hmg
  exact law_call KX G.T.g G.T.b G.T.builtins G.T.nolimit hg hobj hints (Nat.le_trans hlen hn2) hr hF hb (fun H hO hS => hsp H a ns hlen hO hS) fun H e s' => hCX w H s₁ e s'
/-- what the end asks of the law's own function -/
theorem law_sp {G : Gx} {f : Fn} (h : ∀ ns : List Int, ns.length ≤ 63 → f [.v (.scr ns)] = .ret (.val (.bl true)) []) (H : Hp) (a : Addr) (ns : List Int) (hl : ns.length ≤ 63) (hS : SqL G.K H a (ns.map V.int)) : spF G 1 f [.ref a] H (fun v _ => v = .bl true) fun _ _ _ => False := by
  refine ⟨rfl, H, [.v (.scr ns)], [], Same.refl _, .v (.scr hS) .nil, ?_⟩
  rw [h ns hl]
  intro v F' H' _ _ q
  cases q
  rfl
theorem hCX_ok {P : Program} (w : World) (H : Hp) (s : Shared) (e : Value) (s' : Shared) (h : L2.CX P w [] H s (fun _ _ _ => False) e s') : False := by
  obtain ⟨_, _, _, _, _, _, _, _, _, _, _, _, z⟩ := h
  exact z.elim
theorem hu1 {A : Around} {k : Nat} (hr : Room k A) : A.units + 1 < cLine := by have := hr.un; omega
theorem hu64 {A : Around} {k : Nat} (hr : Room k A) : A.units + 64 < cLine := by have := hr.un; omega
theorem hu65 {A : Around} {k : Nat} (hr : Room k A) : A.units + 65 < cLine := by have := hr.un; omega
end PyD

namespace PyD
open PySem PySem.Spec PyProof.Rows L2

/-! ### how the functions are run: rows for simp. A continuation is not looked at before what stands ahead of it is known. -/
section
variable {α β : Type}
theorem cg_bindO {o o' : Out α} {k : α → Rho → Out β} (h : o = o') : bindO o k = bindO o' k := by rw [h]
theorem cg_bindF {o o' : Out Res} {k : Res → Rho → Out β} (h : o = o') : bindF o k = bindF o' k := by rw [h]
theorem cg_bindSO {o o' : Out α} {k : α → Rho → SOut} (h : o = o') : bindSO o k = bindSO o' k := by rw [h]
theorem cg_bindSF {o o' : Out Res} {k : Res → Rho → SOut} (h : o = o') : bindSF o k = bindSF o' k := by rw [h]
@[simp] theorem x_bindO {a : α} {ρ : Rho} {k : α → Rho → Out β} : bindO (.ok a ρ) k = k a ρ := rfl
@[simp] theorem x_bindOx {x : Exc} {ρ : Rho} {k : α → Rho → Out β} : bindO (.exc x ρ) k = .exc x ρ := rfl
@[simp] theorem x_bindOs {k : α → Rho → Out β} : bindO .stuck k = .stuck := rfl
@[simp] theorem x_bindFv {d : D} {ρ : Rho} {k : Res → Rho → Out β} : bindF (.ok (.val d) ρ) k = k (.val d) ρ := rfl
@[simp] theorem x_bindFn {d : D} {ρ : Rho} {k : Res → Rho → Out β} : bindF (.ok (.new d) ρ) k = k (.val d) ρ := rfl
@[simp] theorem x_bindFa {i : Nat} {ρ : Rho} {k : Res → Rho → Out β} : bindF (.ok (.at i) ρ) k = k (.at i) ρ := rfl
@[simp] theorem x_bindFx {x : Exc} {ρ : Rho} {k : Res → Rho → Out β} : bindF (.exc x ρ) k = .exc x ρ := rfl
@[simp] theorem x_bindSO {a : α} {ρ : Rho} {k : α → Rho → SOut} : bindSO (.ok a ρ) k = k a ρ := rfl
@[simp] theorem x_bindSOx {x : Exc} {ρ : Rho} {k : α → Rho → SOut} : bindSO (.exc x ρ) k = .exc x ρ := rfl
@[simp] theorem x_bindSFv {d : D} {ρ : Rho} {k : Res → Rho → SOut} : bindSF (.ok (.val d) ρ) k = k (.val d) ρ := rfl
@[simp] theorem x_bindSFn {d : D} {ρ : Rho} {k : Res → Rho → SOut} : bindSF (.ok (.new d) ρ) k = k (.val d) ρ := rfl
@[simp] theorem x_bindSFa {i : Nat} {ρ : Rho} {k : Res → Rho → SOut} : bindSF (.ok (.at i) ρ) k = k (.at i) ρ := rfl
@[simp] theorem x_bindSFx {x : Exc} {ρ : Rho} {k : Res → Rho → SOut} : bindSF (.exc x ρ) k = .exc x ρ := rfl
/-- optional steps -/
def optO (o : Option α) (k : α → Out β) : Out β := match o with | some a => k a | none => .stuck
def optS (o : Option α) (k : α → SOut) : SOut := match o with | some a => k a | none => .stuck
def optF (o : Option α) (k : α → FOut) : FOut := match o with | some a => k a | none => .stuck
def bindN (o : Out α) (k : α → Rho → Out β) : Out β := match o with | .ok a ρ => k a ρ | _ => .stuck
def loopS (o : SOut) (k : Rho → SOut) : SOut := match o with | .nx ρ => k ρ | .ct ρ => k ρ | .bk ρ => .nx ρ | o => o
def seqS (o : SOut) (k : Rho → SOut) : SOut := match o with | .nx ρ => k ρ | o => o
theorem cg_optO {o o' : Option α} {k : α → Out β} (h : o = o') : optO o k = optO o' k := by rw [h]
theorem cg_optS {o o' : Option α} {k : α → SOut} (h : o = o') : optS o k = optS o' k := by rw [h]
theorem cg_optF {o o' : Option α} {k : α → FOut} (h : o = o') : optF o k = optF o' k := by rw [h]
theorem cg_bindN {o o' : Out α} {k : α → Rho → Out β} (h : o = o') : bindN o k = bindN o' k := by rw [h]
theorem cg_loopS {o o' : SOut} {k : Rho → SOut} (h : o = o') : loopS o k = loopS o' k := by rw [h]
theorem cg_seqS {o o' : SOut} {k : Rho → SOut} (h : o = o') : seqS o k = seqS o' k := by rw [h]
@[simp] theorem x_optO {a : α} {k : α → Out β} : optO (some a) k = k a := rfl
@[simp] theorem x_optOn {k : α → Out β} : optO none k = .stuck := rfl
@[simp] theorem x_optS {a : α} {k : α → SOut} : optS (some a) k = k a := rfl
@[simp] theorem x_optF {a : α} {k : α → FOut} : optF (some a) k = k a := rfl
@[simp] theorem x_bindN {a : α} {ρ : Rho} {k : α → Rho → Out β} : bindN (.ok a ρ) k = k a ρ := rfl
@[simp] theorem x_bindNx {x : Exc} {ρ : Rho} {k : α → Rho → Out β} : bindN (.exc x ρ) k = .stuck := rfl
@[simp] theorem x_loopSn {ρ : Rho} {k : Rho → SOut} : loopS (.nx ρ) k = k ρ := rfl
@[simp] theorem x_loopSc {ρ : Rho} {k : Rho → SOut} : loopS (.ct ρ) k = k ρ := rfl
@[simp] theorem x_loopSb {ρ : Rho} {k : Rho → SOut} : loopS (.bk ρ) k = .nx ρ := rfl
@[simp] theorem x_loopSr {r : Res} {ρ : Rho} {k : Rho → SOut} : loopS (.ret r ρ) k = .ret r ρ := rfl
@[simp] theorem x_loopSx {x : Exc} {ρ : Rho} {k : Rho → SOut} : loopS (.exc x ρ) k = .exc x ρ := rfl
@[simp] theorem x_seqSn {ρ : Rho} {k : Rho → SOut} : seqS (.nx ρ) k = k ρ := rfl
@[simp] theorem x_seqSr {r : Res} {ρ : Rho} {k : Rho → SOut} : seqS (.ret r ρ) k = .ret r ρ := rfl
@[simp] theorem x_seqSx {x : Exc} {ρ : Rho} {k : Rho → SOut} : seqS (.exc x ρ) k = .exc x ρ := rfl
@[simp] theorem x_seqSb {ρ : Rho} {k : Rho → SOut} : seqS (.bk ρ) k = .bk ρ := rfl
@[simp] theorem x_seqSc {ρ : Rho} {k : Rho → SOut} : seqS (.ct ρ) k = .ct ρ := rfl
end
/-! slots -/
def slotD : Option (Option Slot) → Option D
  | some (some (.val d)) => some d
  | some (some (.own _ d)) => some d
  | _ => none
@[simp] theorem x_slotDv {d : D} : slotD (some (some (.val d))) = some d := rfl
@[simp] theorem x_slotDo {b : Option Nat} {d : D} : slotD (some (some (.own b d))) = some d := rfl
@[simp] theorem x_resV {ρ : Rho} {d : D} : resolve ρ (.val d) = some d := rfl
@[simp] theorem x_resA {ρ : Rho} {i : Nat} : resolve ρ (.at i) = slotD ρ[i]? := by
  unfold resolve slotD; rfl
def varR (o : Option (Option Slot)) (i : Nat) (ρ : Rho) : Out Res := match o with
  | some (some (.val d)) => .ok (.val d) ρ
  | some (some (.own _ _)) => .ok (.at i) ρ
  | _ => .stuck
theorem cg_varR {o o' : Option (Option Slot)} {i : Nat} {ρ : Rho} (h : o = o') : varR o i ρ = varR o' i ρ := by rw [h]
@[simp] theorem x_varRv {d : D} {i : Nat} {ρ : Rho} : varR (some (some (.val d))) i ρ = .ok (.val d) ρ := rfl
@[simp] theorem x_varRo {b : Option Nat} {d : D} {i : Nat} {ρ : Rho} : varR (some (some (.own b d))) i ρ = .ok (.at i) ρ := rfl
@[simp] theorem x_mVar {i : Nat} {ρ : Rho} : mVar i ρ = varR ρ[i]? i ρ := by unfold mVar varR; rfl
@[simp] theorem x_mC {d : D} {ρ : Rho} : mC d ρ = .ok (.val d) ρ := rfl
def settleA (o : Option (Option Slot)) (i : Nat) (ρ : Rho) : Option (D × Rho) := match o with
  | some (some (.val d)) => some (d, ρ)
  | some (some (.own none d)) => some (d, ρ.set i (some (.val d)))
  | _ => none
theorem cg_settleA {o o' : Option (Option Slot)} {i : Nat} {ρ : Rho} (h : o = o') : settleA o i ρ = settleA o' i ρ := by rw [h]
@[simp] theorem x_settleAv {d : D} {i : Nat} {ρ : Rho} : settleA (some (some (.val d))) i ρ = some (d, ρ) := rfl
@[simp] theorem x_settleAo {d : D} {i : Nat} {ρ : Rho} : settleA (some (some (.own none d))) i ρ = some (d, ρ.set i (some (.val d))) := rfl
@[simp] theorem x_setV {d : D} {ρ : Rho} : PyD.settle (.val d) ρ = some (d, ρ) := rfl
@[simp] theorem x_setA {i : Nat} {ρ : Rho} : PyD.settle (.at i) ρ = settleA ρ[i]? i ρ := by unfold PyD.settle settleA; rfl
/-! operators -/
def fOut (o : Option Res) (ρ : Rho) : Out Res := match o with | some r => .ok r ρ | none => .stuck
theorem cg_fOut {o o' : Option Res} {ρ : Rho} (h : o = o') : fOut o ρ = fOut o' ρ := by rw [h]
@[simp] theorem x_fOut {r : Res} {ρ : Rho} : fOut (some r) ρ = .ok r ρ := rfl
@[simp] theorem x_fOutn {ρ : Rho} : fOut none ρ = .stuck := rfl
@[simp] theorem x_op2 {f : D → D → Option Res} {a b : Res} {ρ : Rho} : op2 f a b ρ = optO (resolve ρ a) fun x => optO (resolve ρ b) fun y => fOut (f x y) ρ := by
  unfold op2 optO fOut; cases resolve ρ a <;> cases resolve ρ b <;> rfl
@[simp] theorem x_op1 {f : D → Option Res} {a : Res} {ρ : Rho} : op1 f a ρ = optO (resolve ρ a) fun x => fOut (f x) ρ := by
  unfold op1 optO fOut; cases resolve ρ a <;> rfl
@[simp] theorem x_mBin {f : D → D → Option Res} {ma mb : M} {ρ : Rho} : mBin f ma mb ρ = bindF (ma ρ) fun a ρ1 => bindF (mb ρ1) fun b ρ2 => op2 f a b ρ2 := rfl
@[simp] theorem x_mUn {f : D → Option Res} {ma : M} {ρ : Rho} : mUn f ma ρ = bindF (ma ρ) fun a ρ1 => op1 f a ρ1 := rfl
@[simp] theorem x_blV {k : Bool} {ρ : Rho} : blR (.val (.bl k)) ρ = .ok k ρ := rfl
def blA (o : Option (Option Slot)) (ρ : Rho) : Out Bool := match o with | some (some (.val (.bl k))) => .ok k ρ | _ => .stuck
@[simp] theorem x_blA {k : Bool} {ρ : Rho} : blA (some (some (.val (.bl k)))) ρ = .ok k ρ := rfl
@[simp] theorem x_blAt {i : Nat} {ρ : Rho} : blR (.at i) ρ = blA ρ[i]? ρ := by unfold blR blA; rfl
@[simp] theorem x_mBl {m : M} {ρ : Rho} : mBl m ρ = bindF (m ρ) fun a ρ1 => blR a ρ1 := rfl
@[simp] theorem x_mBinB {f : D → D → Option Res} {ma mb : M} {ρ : Rho} : mBinB f ma mb ρ = mBl (mBin f ma mb) ρ := rfl
def kOut (o : Option Bool) (ρ : Rho) : Out Bool := match o with | some r => .ok r ρ | none => .stuck
@[simp] theorem x_kOut {r : Bool} {ρ : Rho} : kOut (some r) ρ = .ok r ρ := rfl
@[simp] theorem x_truR {a : Res} {ρ : Rho} : truR a ρ = optO (resolve ρ a) fun d => kOut (truD d) ρ := by
  unfold truR optO kOut; cases resolve ρ a <;> rfl
@[simp] theorem x_mTru {m : M} {ρ : Rho} : mTru m ρ = bindF (m ρ) fun a ρ1 => truR a ρ1 := rfl
@[simp] theorem x_truDn : truD .non = some false := rfl
@[simp] theorem x_truDb {b : Bool} : truD (.bl b) = some b := rfl
@[simp] theorem x_truDi {i : Int} : truD (.int i) = some (i != 0) := rfl
@[simp] theorem x_truDl {xs : List D} : truD (.lst xs) = some (!xs.isEmpty) := rfl
@[simp] theorem x_truDt {xs : List D} : truD (.tup xs) = some (!xs.isEmpty) := rfl
@[simp] theorem x_mChain {f g : D → D → Option Res} {ma mb mc : M} {ρ : Rho} : mChain f g ma mb mc ρ = bindF (ma ρ) fun a ρ1 => bindF (mb ρ1) fun b ρ2 => bindF (op2 f a b ρ2) fun z ρ3 => bindO (blR z ρ3) fun k ρ3 =>
  if k = true then bindF (mc ρ3) fun c ρ4 => op2 g b c ρ4 else .ok (.val (.bl false)) ρ3 := rfl
@[simp] theorem x_mAndB {ta tb : MB} {ρ : Rho} : mAndB ta tb ρ = bindO (ta ρ) fun k ρ1 => if k = true then tb ρ1 else .ok false ρ1 := rfl
@[simp] theorem x_mOrB {ta tb : MB} {ρ : Rho} : mOrB ta tb ρ = bindO (ta ρ) fun k ρ1 => if k = true then .ok true ρ1 else tb ρ1 := rfl
@[simp] theorem x_mNotB {ta : MB} {ρ : Rho} : mNotB ta ρ = bindO (ta ρ) fun k ρ1 => .ok (!k) ρ1 := rfl
@[simp] theorem x_mAndV {ma mb : M} {ρ : Rho} : mAndV ma mb ρ = bindF (ma ρ) fun a ρ1 => bindO (blR a ρ1) fun k ρ1 => if k = true then mb ρ1 else .ok (.val (.bl false)) ρ1 := rfl
@[simp] theorem x_mOrV {ma mb : M} {ρ : Rho} : mOrV ma mb ρ = bindF (ma ρ) fun a ρ1 => bindO (blR a ρ1) fun k ρ1 => if k = true then .ok (.val (.bl true)) ρ1 else mb ρ1 := rfl
@[simp] theorem x_mNotV {ma : M} {ρ : Rho} : mNotV ma ρ = bindF (ma ρ) fun a ρ1 => bindO (blR a ρ1) fun k ρ1 => .ok (.val (.bl (!k))) ρ1 := rfl
@[simp] theorem x_mIf {t : MB} {ma mb : M} {ρ : Rho} : mIf t ma mb ρ = bindO (t ρ) fun k ρ1 => if k = true then ma ρ1 else mb ρ1 := rfl
@[simp] theorem x_mYes {ρ : Rho} : mYes ρ = .ok true ρ := rfl
@[simp] theorem x_mDnew {ρ : Rho} : mDnew ρ = .ok (.new (.dct [])) ρ := rfl
/-! arguments -/
@[simp] theorem x_mNil {ρ : Rho} : mNil ρ = .ok [] ρ := rfl
@[simp] theorem x_mCons {ma : M} {mr : MA} {ρ : Rho} : mCons ma mr ρ = bindF (ma ρ) fun a ρ1 => bindO (mr ρ1) fun as ρ2 => .ok (a :: as) ρ2 := rfl
def consO {α : Type} : Option α → Option (List α) → Option (List α)
  | some a, some as => some (a :: as)
  | _, _ => none
@[simp] theorem x_consO {α : Type} {a : α} {as : List α} : consO (some a) (some as) = some (a :: as) := rfl
@[simp] theorem x_resN {ρ : Rho} : resolves ρ [] = some [] := rfl
@[simp] theorem x_resC {ρ : Rho} {r : Res} {rs : List Res} : resolves ρ (r :: rs) = consO (resolve ρ r) (resolves ρ rs) := by
  show (match resolve ρ r, resolves ρ rs with | some d, some ds => some (d :: ds) | _, _ => none) = _
  cases resolve ρ r <;> cases resolves ρ rs <;> rfl
@[simp] theorem x_opN {f : List D → Option Res} {as : List Res} {ρ : Rho} : opN f as ρ = optO (resolves ρ as) fun ds => fOut (f ds) ρ := by
  unfold opN optO fOut; cases resolves ρ as <;> rfl
@[simp] theorem x_mCB {f : List D → Option Res} {ma : MA} {ρ : Rho} : mCB f ma ρ = bindO (ma ρ) fun as ρ1 => opN f as ρ1 := rfl
@[simp] theorem x_stN {ρ : Rho} : settles [] ρ = some ([], ρ) := rfl
def stC (o : Option (D × Rho)) (k : Rho → Option (List D × Rho)) : Option (List D × Rho) := match o with
  | some (d, ρ) => (k ρ).map fun p => (d :: p.1, p.2)
  | none => none
theorem cg_stC {o o' : Option (D × Rho)} {k : Rho → Option (List D × Rho)} (h : o = o') : stC o k = stC o' k := by rw [h]
@[simp] theorem x_stC {d : D} {ρ : Rho} {k : Rho → Option (List D × Rho)} : stC (some (d, ρ)) k = (k ρ).map fun p => (d :: p.1, p.2) := rfl
@[simp] theorem x_stCons {r : Res} {rs : List Res} {ρ : Rho} : settles (r :: rs) ρ = stC (PyD.settle r ρ) fun ρ1 => settles rs ρ1 := by
  simp only [settles, stC]
  cases PyD.settle r ρ with
  | none => rfl
  | some p =>
    obtain ⟨d, ρ1⟩ := p
    simp only
    cases settles rs ρ1 with
    | none => rfl
    | some p => rfl
@[simp] theorem x_opS {f : List D → Option Res} {as : List Res} {ρ : Rho} : opS f as ρ = optO (settles as ρ) fun p => fOut (f p.1) p.2 := by
  unfold opS optO fOut; cases settles as ρ <;> rfl
@[simp] theorem x_mCS {f : List D → Option Res} {ma : MA} {ρ : Rho} : mCS f ma ρ = bindO (ma ρ) fun as ρ1 => opS f as ρ1 := rfl
/-! slices -/
def intO {α : Type} (o : Option D) (k : Int → Out α) : Out α := match o with | some (.int i) => k i | _ => .stuck
theorem cg_intO {α : Type} {o o' : Option D} {k : Int → Out α} (h : o = o') : intO o k = intO o' k := by rw [h]
@[simp] theorem x_intO {α : Type} {i : Int} {k : Int → Out α} : intO (some (.int i)) k = k i := rfl
@[simp] theorem x_partN {β : Type} {ρ : Rho} {k : Option Int → Rho → Out β} : part none ρ k = k none ρ := rfl
@[simp] theorem x_partS {β : Type} {m : M} {ρ : Rho} {k : Option Int → Rho → Out β} : part (some m) ρ k = bindF (m ρ) fun r ρ1 => intO (resolve ρ1 r) fun i => k (some i) ρ1 := by
  simp only [part, intO] <;> rfl
@[simp] theorem x_opSl {a : Res} {lo hi : Option Int} {ρ : Rho} : opSl a lo hi ρ = optO (resolve ρ a) fun x => fOut (slD x lo hi) ρ := by
  unfold opSl optO fOut; cases resolve ρ a <;> rfl
@[simp] theorem x_mSl {ma : M} {lo hi : Option M} {ρ : Rho} : mSl ma lo hi ρ = bindF (ma ρ) fun a ρ1 => part lo ρ1 fun l ρ2 => part hi ρ2 fun h ρ3 => opSl a l h ρ3 := rfl
/-! methods -/
@[simp] theorem x_guard {α : Type} {T : String} {o : Res} {ρ : Rho} {k : Out α} : guard T o ρ k = optO (resolve ρ o) fun d => if tyOk T d then k else .stuck := by
  unfold guard optO; cases resolve ρ o <;> rfl
@[simp] theorem x_mMutT {T : String} {f : D → List D → Option (D × D)} {mo : M} {ma : MA} {ρ : Rho} : mMutT T f mo ma ρ = bindF (mo ρ) fun o ρ1 => guard T o ρ1 (bindO (ma ρ1) fun rs ρ2 => mutR f o rs ρ2) := rfl
@[simp] theorem x_mMtT {T : String} {f : D → List D → Option Res} {mo : M} {ma : MA} {ρ : Rho} : mMtT T f mo ma ρ = bindF (mo ρ) fun o ρ1 => guard T o ρ1 (bindO (ma ρ1) fun rs ρ2 => mtR f o rs ρ2) := rfl
def ownO (o : Option (Option Slot)) : Option (Option Nat × D) := match o with
  | some (some (.own b d)) => some (b, d)
  | _ => none
@[simp] theorem x_ownO {b : Option Nat} {d : D} : ownO (some (some (.own b d))) = some (b, d) := rfl
@[simp] theorem x_mutR {f : D → List D → Option (D × D)} {i : Nat} {rs : List Res} {ρ : Rho} : mutR f (.at i) rs ρ = optO (settles rs ρ) fun p => optO (ownO p.2[i]?) fun q => optO (f q.2 p.1) fun z => .ok (.val z.2) (p.2.set i (some (.own q.1 z.1))) := by
  simp only [mutR, optO, ownO]
  cases settles rs ρ with
  | none => rfl
  | some p =>
    obtain ⟨ds, ρ1⟩ := p
    simp only
    cases ρ1[i]? with
    | none => rfl
    | some s =>
      cases s with
      | none => rfl
      | some s =>
        cases s with
        | val d => rfl
        | own b d => simp only; cases f d ds <;> rfl
@[simp] theorem x_mtR {f : D → List D → Option Res} {ro : Res} {rs : List Res} {ρ : Rho} : mtR f ro rs ρ = optO (resolve ρ ro) fun d => optO (resolves ρ rs) fun ds => fOut (f d ds) ρ := by
  unfold mtR optO fOut; cases resolve ρ ro <;> cases resolves ρ rs <;> rfl
/-! statements -/
@[simp] theorem x_mNext {ρ : Rho} : mNext ρ = .nx ρ := rfl
@[simp] theorem x_mSeq {m1 m2 : MS} {ρ : Rho} : mSeq m1 m2 ρ = seqS (m1 ρ) m2 := by unfold mSeq seqS; cases m1 ρ <;> rfl
@[simp] theorem x_setRv {i : Nat} {d : D} {ρ : Rho} : setR i (.val d) ρ = if i < ρ.length then .nx (ρ.set i (some (.val d))) else .stuck := rfl
@[simp] theorem x_setRn {i : Nat} {d : D} {ρ : Rho} : setR i (.new d) ρ = if i < ρ.length then .nx (ρ.set i (some (.own none d))) else .stuck := rfl
@[simp] theorem x_setRa {i j : Nat} {ρ : Rho} : setR i (.at j) ρ = if i < ρ.length then optS (PyD.settle (.at j) ρ) fun p => .nx (p.2.set i (some (.val p.1))) else .stuck := by
  show (if i < ρ.length then (match PyD.settle (.at j) ρ with | some (d, ρ1) => SOut.nx (ρ1.set i (some (.val d))) | none => .stuck) else .stuck) = _
  split
  · cases PyD.settle (.at j) ρ <;> rfl
  · rfl
@[simp] theorem x_mSet {i : Nat} {m : M} {ρ : Rho} : mSet i m ρ = bindSO (m ρ) fun r ρ1 => setR i r ρ1 := rfl
@[simp] theorem x_mExpr {m : M} {ρ : Rho} : mExpr m ρ = bindSO (m ρ) fun _ ρ1 => .nx ρ1 := rfl
@[simp] theorem x_retRv {d : D} {ρ : Rho} : retR (.val d) ρ = .ret (.val d) ρ := rfl
@[simp] theorem x_retRn {d : D} {ρ : Rho} : retR (.new d) ρ = .ret (.new d) ρ := rfl
def retA (o : Option (Option Slot)) (j : Nat) (ρ : Rho) : SOut := match o with
  | some (some (.val d)) => .ret (.val d) ρ
  | some (some (.own none d)) => .ret (.new d) (ρ.set j none)
  | _ => .stuck
@[simp] theorem x_retAv {d : D} {j : Nat} {ρ : Rho} : retA (some (some (.val d))) j ρ = .ret (.val d) ρ := rfl
@[simp] theorem x_retAo {d : D} {j : Nat} {ρ : Rho} : retA (some (some (.own none d))) j ρ = .ret (.new d) (ρ.set j none) := rfl
@[simp] theorem x_retRa {j : Nat} {ρ : Rho} : retR (.at j) ρ = retA ρ[j]? j ρ := by unfold retR retA; rfl
@[simp] theorem x_mRet {m : M} {ρ : Rho} : mRet m ρ = bindSO (m ρ) fun r ρ1 => retR r ρ1 := rfl
@[simp] theorem x_mIfS {t : MB} {m1 m2 : MS} {ρ : Rho} : mIfS t m1 m2 ρ = bindSO (t ρ) fun k ρ1 => if k = true then m1 ρ1 else m2 ρ1 := rfl
@[simp] theorem x_gN {i : Nat} {d : D} {ρ : Rho} : gN i d ρ = if i < ρ.length then some (ρ.set i (some (.val d))) else none := rfl
@[simp] theorem x_gsNil {ρ : Rho} : gsNil [] ρ = some ρ := rfl
@[simp] theorem x_gsCons {f : Tg} {g : Tgs} {d : D} {ds : List D} {ρ : Rho} : gsCons f g (d :: ds) ρ = (f d ρ).bind fun ρ1 => g ds ρ1 := rfl
@[simp] theorem x_gT {n : Nat} {g : Tgs} {ds : List D} {ρ : Rho} : gT n g (.tup ds) ρ = if ds.length = n then g ds ρ else none := rfl
@[simp] theorem x_tgtR {f : Tg} {r : Res} {ρ : Rho} : tgtR f r ρ = optS (PyD.settle r ρ) fun p => optS (f p.1 p.2) fun ρ2 => .nx ρ2 := by
  unfold tgtR optS
  cases PyD.settle r ρ with
  | none => rfl
  | some p => obtain ⟨d, ρ1⟩ := p; simp only; cases f d ρ1 <;> rfl
@[simp] theorem x_mAsg {f : Tg} {m : M} {ρ : Rho} : mAsg f m ρ = bindSF (m ρ) fun r ρ1 => tgtR f r ρ1 := rfl
@[simp] theorem x_storeR {rv ri : Res} {s : Nat} {ρ : Rho} : storeR rv (.at s) ri ρ = optS (PyD.settle rv ρ) fun p => optS (ownO p.2[s]?) fun q => optS (resolve p.2 ri) fun i => optS (setD q.2 i p.1) fun c => .nx (p.2.set s (some (.own q.1 c))) := by
  simp only [storeR, optS, ownO]
  cases PyD.settle rv ρ with
  | none => rfl
  | some p =>
    obtain ⟨d, ρ1⟩ := p
    simp only
    cases ρ1[s]? with
    | none => rfl
    | some sl =>
      cases sl with
      | none => rfl
      | some sl =>
        cases sl with
        | val d => rfl
        | own b d2 =>
          simp only
          cases resolve ρ1 ri with
          | none => rfl
          | some i => simp only; cases setD d2 i d <;> rfl
@[simp] theorem x_mStore {mo mi me : M} {ρ : Rho} : mStore mo mi me ρ = bindSF (me ρ) fun rv ρ1 => bindSF (mo ρ1) fun ro ρ2 => bindSF (mi ρ2) fun ri ρ3 => storeR rv ro ri ρ3 := rfl
def valO (o : Option (Option Slot)) : Option D := match o with
  | some (some (.val d)) => some d
  | _ => none
@[simp] theorem x_valO {d : D} : valO (some (some (.val d))) = some d := rfl
def valS (o : Option Res) (k : D → SOut) : SOut := match o with
  | some (.val d) => k d
  | _ => .stuck
@[simp] theorem x_valS {d : D} {k : D → SOut} : valS (some (.val d)) k = k d := rfl
@[simp] theorem x_augR {f : D → D → Option Res} {i : Nat} {r : Res} {ρ : Rho} : PyD.augR f i r ρ = optS (valO ρ[i]?) fun d => optS (resolve ρ r) fun e => valS (f d e) fun z => .nx (ρ.set i (some (.val z))) := by
  simp only [PyD.augR, optS, valO, valS]
  cases ρ[i]? with
  | none => rfl
  | some s =>
    cases s with
    | none => rfl
    | some s =>
      cases s with
      | own b d => rfl
      | val d =>
        simp only
        cases resolve ρ r with
        | none => rfl
        | some e => rfl
@[simp] theorem x_mAug {f : D → D → Option Res} {i : Nat} {m : M} {ρ : Rho} : mAug f i m ρ = optS (valO ρ[i]?) fun _ => bindSF (m ρ) fun r ρ1 => PyD.augR f i r ρ1 := by
  simp only [mAug, optS, valO]
  cases ρ[i]? with
  | none => rfl
  | some s =>
    cases s with
    | none => rfl
    | some s => cases s <;> rfl
/-! loops -/
@[simp] theorem x_itemsL {xs : List D} : itemsD (.lst xs) = some xs := rfl
@[simp] theorem x_itemsT {xs : List D} : itemsD (.tup xs) = some xs := rfl
@[simp] theorem x_itemsS {z : Str} : itemsD (.str z) = some (signsD z) := rfl
@[simp] theorem x_itemsR {r : Res} {ρ : Rho} : itemsR r ρ = optO (PyD.settle r ρ) fun p => optO (itemsD p.1) fun ds => .ok ds p.2 := by
  unfold itemsR optO
  cases PyD.settle r ρ with
  | none => rfl
  | some p => obtain ⟨d, ρ1⟩ := p; simp only; cases itemsD d <;> rfl
@[simp] theorem x_iSeq {m : M} {ρ : Rho} : iSeq m ρ = bindF (m ρ) fun r ρ1 => itemsR r ρ1 := rfl
def rng1 (o : Option (List D)) (ρ : Rho) : Out (List D) := match o with
  | some [.int j] => if decide (-(2 ^ 62) ≤ j) && decide (j < 2 ^ 62) then .ok (rangeD 0 j.toNat) ρ else .stuck
  | _ => .stuck
@[simp] theorem x_rng1 {j : Int} {ρ : Rho} : rng1 (some [.int j]) ρ = if decide (-(2 ^ 62) ≤ j) && decide (j < 2 ^ 62) then .ok (rangeD 0 j.toNat) ρ else .stuck := rfl
@[simp] theorem x_iRange {ma : MA} {ρ : Rho} : iRange ma ρ = bindO (ma ρ) fun rs ρ1 => rng1 (resolves ρ1 rs) ρ1 := rfl
@[simp] theorem x_forN {f : Tg} {b : MS} {ρ : Rho} : forD f b [] ρ = .nx ρ := rfl
@[simp] theorem x_forC {f : Tg} {b : MS} {d : D} {ds : List D} {ρ : Rho} : forD f b (d :: ds) ρ = optS (f d ρ) fun ρ1 => loopS (b ρ1) fun ρ2 => forD f b ds ρ2 := by
  simp only [forD, optS, loopS]
  cases f d ρ with
  | none => rfl
  | some ρ1 => simp only <;> cases b ρ1 <;> rfl
@[simp] theorem x_mFor {mi : MI} {f : Tg} {b : MS} {ρ : Rho} : mFor mi f b ρ = bindSO (mi ρ) fun ds ρ1 => forD f b ds ρ1 := rfl
theorem x_while {t : MB} {b : MS} {n : Nat} {ρ : Rho} (h : 0 < n) : whileD t b n ρ = bindSO (t ρ) fun k ρ1 => if k = true then loopS (b ρ1) (whileD t b (n - 1)) else .nx ρ1 := by
  cases n with
  | zero => omega
  | succ n =>
    simp only [whileD, bindSO, loopS, Nat.add_sub_cancel]
    cases t ρ with
    | ok k ρ1 => cases k <;> simp <;> cases b ρ1 <;> rfl
    | exc x ρ1 => rfl
    | stuck => rfl
@[simp] theorem x_lcN {vs : List Nat} {f : Tg} {t : MB} {me : M} {acc : List D} {ρ : Rho} : lcD vs f t me [] acc ρ = .ok acc ρ := rfl
theorem x_lcC {vs : List Nat} {f : Tg} {t : MB} {me : M} {d : D} {ds acc : List D} {ρ : Rho} : lcD vs f t me (d :: ds) acc ρ = optO (f d ρ) fun ρ1 => bindN (t ρ1) fun k ρ2 => if k = true then bindN (me ρ2) fun r ρ3 => optO (PyD.settle r.frz ρ3) fun p => if acc.length < sizeLine then lcD vs f t me ds (acc ++ [p.1]) (wipeR p.2 vs) else .stuck
    else lcD vs f t me ds acc (wipeR ρ2 vs) := by
  simp only [lcD, optO, bindN]
  cases f d ρ with
  | none => rfl
  | some ρ1 =>
    simp only
    cases t ρ1 with
    | ok k ρ2 =>
      cases k with
      | true =>
        simp only [if_true]
        cases me ρ2 with
        | ok r ρ3 =>
          simp only
          cases PyD.settle r.frz ρ3 with
          | none => rfl
          | some p => rfl
        | exc x ρ3 => rfl
        | stuck => rfl
      | false => rfl
    | exc x ρ2 => rfl
    | stuck => rfl
def lcF (o : Out (List D)) : Out Res := match o with | .ok acc ρ => .ok (.new (.lst acc)) ρ | _ => .stuck
@[simp] theorem x_lcF {acc : List D} {ρ : Rho} : lcF (.ok acc ρ) = .ok (.new (.lst acc)) ρ := rfl
@[simp] theorem x_mLc {vs : List Nat} {mi : MI} {f : Tg} {t : MB} {me : M} {ρ : Rho} : mLc vs mi f t me ρ = bindO (mi ρ) fun ds ρ1 => lcF (lcD vs f t me ds [] (wipeR ρ1 vs)) := rfl
@[simp] theorem x_frzV {d : D} : (Res.val d).frz = .val d := rfl
@[simp] theorem x_frzN {d : D} : (Res.new d).frz = .val d := rfl
@[simp] theorem x_frzA {i : Nat} : (Res.at i).frz = .at i := rfl
/-! calls -/
def cRet (o : FOut) (as : List BArg) (ρ : Rho) : Out Res := match o with
  | .ret r os => optO (wb as os ρ) fun ρ2 => .ok r ρ2
  | .exc x os => (match wb as os ρ with | some ρ2 => .exc x ρ2 | none => .stuck)
  | .stuck => .stuck
theorem cg_cRet {o o' : FOut} {as : List BArg} {ρ : Rho} (h : o = o') : cRet o as ρ = cRet o' as ρ := by rw [h]
@[simp] theorem x_cRet {r : Res} {os : List D} {as : List BArg} {ρ : Rho} : cRet (.ret r os) as ρ = optO (wb as os ρ) fun ρ2 => .ok r ρ2 := rfl
def excO (x : Exc) (o : Option Rho) : Out Res := match o with | some ρ => .exc x ρ | none => .stuck
@[simp] theorem x_excO {x : Exc} {ρ : Rho} : excO x (some ρ) = .exc x ρ := rfl
@[simp] theorem x_cRetx {x : Exc} {os : List D} {as : List BArg} {ρ : Rho} : cRet (.exc x os) as ρ = excO x (wb as os ρ) := rfl
@[simp] theorem x_callR {mk : List Bool} {f : Fn} {rs : List Res} {ρ : Rho} : callR mk f rs ρ = optO (prep1 mk rs ρ) fun p => optO (prep2 p.2 p.1) fun as => cRet (f (as.map BArg.strip)) as p.2 := by
  simp only [callR, optO, cRet]
  cases prep1 mk rs ρ with
  | none => rfl
  | some p =>
    obtain ⟨ms, ρ1⟩ := p
    simp only
    cases prep2 ρ1 ms with
    | none => rfl
    | some as =>
      simp only
      cases f (as.map BArg.strip) with
      | ret r os => simp only; cases wb as os ρ1 <;> rfl
      | exc x os => rfl
      | stuck => rfl
@[simp] theorem x_mCall {n : Nat} {mk : List Bool} {f : Fn} {ma : MA} {ρ : Rho} : mCall n mk f ma ρ = bindO (ma ρ) fun rs ρ1 => if rs.length = n then callR mk f rs ρ1 else .stuck := rfl
@[simp] theorem x_p1N {mk : List Bool} {ρ : Rho} : prep1 mk [] ρ = some ([], ρ) := by cases mk <;> rfl
def p1C (o : Option (D × Rho)) (k : Rho → Option (List (D ⊕ Nat) × Rho)) : Option (List (D ⊕ Nat) × Rho) := match o with
  | some (d, ρ) => (k ρ).map fun p => (.inl d :: p.1, p.2)
  | none => none
theorem cg_p1C {o o' : Option (D × Rho)} {k : Rho → Option (List (D ⊕ Nat) × Rho)} (h : o = o') : p1C o k = p1C o' k := by rw [h]
@[simp] theorem x_p1C {d : D} {ρ : Rho} {k : Rho → Option (List (D ⊕ Nat) × Rho)} : p1C (some (d, ρ)) k = (k ρ).map fun p => (.inl d :: p.1, p.2) := rfl
theorem p1_aux {mk : List Bool} {r : Res} {rs : List Res} {ρ : Rho} : (match PyD.settle r ρ with
    | some (d, ρ1) => (match prep1 mk.tail rs ρ1 with
      | some (ms, ρ2) => some (Sum.inl d :: ms, ρ2)
      | none => none)
    | none => none) = p1C (PyD.settle r ρ) fun ρ1 => prep1 mk.tail rs ρ1 := by
  unfold p1C
  cases PyD.settle r ρ with
  | none => rfl
  | some p =>
    simp only
    cases prep1 mk.tail rs p.2 <;> rfl
@[simp] theorem x_p1V {mk : List Bool} {d : D} {rs : List Res} {ρ : Rho} : prep1 mk (.val d :: rs) ρ = p1C (PyD.settle (.val d) ρ) fun ρ1 => prep1 mk.tail rs ρ1 := by
  rw [← p1_aux]
  cases mk with
  | nil => rfl
  | cons b bs => cases b <;> rfl
@[simp] theorem x_p1F {mk : List Bool} {i : Nat} {rs : List Res} {ρ : Rho} : prep1 (false :: mk) (.at i :: rs) ρ = p1C (PyD.settle (.at i) ρ) fun ρ1 => prep1 mk rs ρ1 := by
  rw [show (fun ρ1 => prep1 mk rs ρ1) = (fun ρ1 => prep1 (false :: mk).tail rs ρ1) from rfl, ← p1_aux]; rfl
@[simp] theorem x_p1E {i : Nat} {rs : List Res} {ρ : Rho} : prep1 [] (.at i :: rs) ρ = p1C (PyD.settle (.at i) ρ) fun ρ1 => prep1 [] rs ρ1 := by
  rw [show (fun ρ1 => prep1 [] rs ρ1) = (fun ρ1 => prep1 ([] : List Bool).tail rs ρ1) from rfl, ← p1_aux]; rfl
@[simp] theorem x_p1T {mk : List Bool} {i : Nat} {rs : List Res} {ρ : Rho} : prep1 (true :: mk) (.at i :: rs) ρ = (prep1 mk rs ρ).map fun p => (.inr i :: p.1, p.2) := by
  show (match prep1 mk rs ρ with | some (ms, ρ2) => some (Sum.inr i :: ms, ρ2) | none => none) = _
  cases prep1 mk rs ρ <;> rfl
@[simp] theorem x_p2N {ρ : Rho} : prep2 ρ [] = some [] := rfl
@[simp] theorem x_p2V {ρ : Rho} {d : D} {ms : List (D ⊕ Nat)} : prep2 ρ (.inl d :: ms) = (prep2 ρ ms).map (.v d :: ·) := rfl
def p2A (o : Option (Option Slot)) (i : Nat) (r : Option (List BArg)) : Option (List BArg) := match o with
  | some (some (.own b d)) => r.bind fun as => if i ∈ idx as then none else some (.o i b d :: as)
  | some (some (.val d)) => r.map (.v d :: ·)
  | _ => none
@[simp] theorem x_p2Ao {b : Option Nat} {d : D} {i : Nat} {r : Option (List BArg)} : p2A (some (some (.own b d))) i r = r.bind fun as => if i ∈ idx as then none else some (.o i b d :: as) := rfl
@[simp] theorem x_p2Av {d : D} {i : Nat} {r : Option (List BArg)} : p2A (some (some (.val d))) i r = r.map (.v d :: ·) := rfl
@[simp] theorem x_p2A {ρ : Rho} {i : Nat} {ms : List (D ⊕ Nat)} : prep2 ρ (.inr i :: ms) = p2A ρ[i]? i (prep2 ρ ms) := by
  simp only [prep2, p2A]
  cases ρ[i]? with
  | none => rfl
  | some s =>
    cases s with
    | none => rfl
    | some s =>
      cases s with
      | val d => rfl
      | own b d => simp only; cases prep2 ρ ms <;> rfl
@[simp] theorem x_idxN : idx [] = [] := rfl
@[simp] theorem x_idxV {d : D} {as : List BArg} : idx (.v d :: as) = idx as := rfl
@[simp] theorem x_idxO {i : Nat} {b : Option Nat} {d : D} {as : List BArg} : idx (.o i b d :: as) = i :: idx as := rfl
@[simp] theorem x_strV {d : D} : (BArg.v d).strip = .v d := rfl
@[simp] theorem x_strO {i : Nat} {b : Option Nat} {d : D} : (BArg.o i b d).strip = .o d := rfl
@[simp] theorem x_wbN {ρ : Rho} : wb [] [] ρ = some ρ := rfl
@[simp] theorem x_wbV {d : D} {as : List BArg} {os : List D} {ρ : Rho} : wb (.v d :: as) os ρ = wb as os ρ := by cases os <;> rfl
@[simp] theorem x_wbO {i : Nat} {b : Option Nat} {d d' : D} {as : List BArg} {os : List D} {ρ : Rho} : wb (.o i b d :: as) (d' :: os) ρ = (wb as os ρ).map fun ρ => ρ.set i (some (.own b d')) := rfl
/-! a def's own run -/
def finS (as : List Arg) (o : SOut) : FOut := match o with
  | .nx ρ => optF (outsOf ρ 0 as) fun os => .ret (.val .non) os
  | .ret (.val d) ρ => optF (outsOf ρ 0 as) fun os => .ret (.val d) os
  | .ret (.new d) ρ => optF (outsOf ρ 0 as) fun os => .ret (.new d) os
  | .exc x ρ => optF (outsOf ρ 0 as) fun os => .exc x os
  | _ => .stuck
@[simp] theorem x_finSn {as : List Arg} {ρ : Rho} : finS as (.nx ρ) = optF (outsOf ρ 0 as) fun os => .ret (.val .non) os := rfl
@[simp] theorem x_finSv {as : List Arg} {d : D} {ρ : Rho} : finS as (.ret (.val d) ρ) = optF (outsOf ρ 0 as) fun os => .ret (.val d) os := rfl
@[simp] theorem x_finSw {as : List Arg} {d : D} {ρ : Rho} : finS as (.ret (.new d) ρ) = optF (outsOf ρ 0 as) fun os => .ret (.new d) os := rfl
@[simp] theorem x_finSx {as : List Arg} {x : Exc} {ρ : Rho} : finS as (.exc x ρ) = optF (outsOf ρ 0 as) fun os => .exc x os := rfl
theorem x_mkFn {nl : Nat} {m : MS} {as : List Arg} : mkFn nl m as = finS as (m (slotsOf 0 as ++ List.replicate nl none)) := by
  simp only [mkFn, finS, fin, optF]
  cases m (slotsOf 0 as ++ List.replicate nl none) with
  | ret r ρ => cases r <;> first | rfl | (simp only; cases outsOf ρ 0 as <;> rfl)
  | nx ρ => simp only; cases outsOf ρ 0 as <;> rfl
  | exc x ρ => simp only; cases outsOf ρ 0 as <;> rfl
  | _ => rfl
@[simp] theorem x_slN {k : Nat} : slotsOf k [] = [] := rfl
@[simp] theorem x_slV {k : Nat} {d : D} {as : List Arg} : slotsOf k (.v d :: as) = some (.val d) :: slotsOf (k + 1) as := rfl
@[simp] theorem x_slO {k : Nat} {d : D} {as : List Arg} : slotsOf k (.o d :: as) = some (.own (some k) d) :: slotsOf (k + 1) as := rfl
@[simp] theorem x_outN {ρ : Rho} {k : Nat} : outsOf ρ k [] = some [] := rfl
@[simp] theorem x_outV {ρ : Rho} {k : Nat} {d : D} {as : List Arg} : outsOf ρ k (.v d :: as) = outsOf ρ (k + 1) as := rfl
def outA (o : Option (Option Slot)) (k : Nat) (r : Option (List D)) : Option (List D) := match o with
  | some (some (.own (some j) d)) => if j = k then r.map (d :: ·) else none
  | _ => none
@[simp] theorem x_outA {j : Nat} {d : D} {k : Nat} {r : Option (List D)} : outA (some (some (.own (some j) d))) k r = if j = k then r.map (d :: ·) else none := rfl
@[simp] theorem x_outO {ρ : Rho} {k : Nat} {d : D} {as : List Arg} : outsOf ρ k (.o d :: as) = outA ρ[k]? k (outsOf ρ (k + 1) as) := by
  cases h : ρ[k]? with
  | none => simp only [outsOf, outA, h]
  | some s =>
    cases s with
    | none => simp only [outsOf, outA, h]
    | some s =>
      cases s with
      | val d => simp only [outsOf, outA, h]
      | own b d => cases b <;> simp only [outsOf, outA, h]
@[simp] theorem x_wipeN {ρ : Rho} : wipeR ρ [] = ρ := rfl
@[simp] theorem x_wipeC {ρ : Rho} {v : Nat} {vs : List Nat} : wipeR ρ (v :: vs) = (wipeR ρ vs).set v none := rfl
/-! data -/
@[simp] theorem x_addI {i j : Int} : addD (.int i) (.int j) = some (.val (.int (i + j))) := rfl
@[simp] theorem x_addS {i j : Str} : addD (.str i) (.str j) = if i.length + j.length ≤ sizeLine then some (.val (.str (i ++ j))) else none := by
  by_cases h : i.length + j.length ≤ sizeLine <;> simp [addD, orF, fII, fAddS, h, fAddT, fAddL]
@[simp] theorem x_addL {i j : List D} : addD (.lst i) (.lst j) = if i.length + j.length ≤ sizeLine then some (.new (.lst (i ++ j))) else none := rfl
@[simp] theorem x_addT {i j : List D} : addD (.tup i) (.tup j) = if i.length + j.length ≤ sizeLine then some (.val (.tup (i ++ j))) else none := by
  by_cases h : i.length + j.length ≤ sizeLine <;> simp [addD, orF, fII, fAddS, h, fAddT, fAddL]
@[simp] theorem x_subI {i j : Int} : subD (.int i) (.int j) = some (.val (.int (i - j))) := rfl
@[simp] theorem x_mulI {i j : Int} : mulD (.int i) (.int j) = if mulC i j then some (.val (.int (i * j))) else none := by
  simp only [mulD, orF, fII]; split
  · split at * <;> simp_all
  · rename_i h; split at h <;> simp_all [fRepL, fRepT]
@[simp] theorem x_fdivI {i j : Int} : fdivD (.int i) (.int j) = if divC i j then some (.val (.int (i / j))) else none := rfl
@[simp] theorem x_modI {i j : Int} : modD (.int i) (.int j) = if 0 < j then some (.val (.int (i % j))) else none := by
  simp only [modD, fII, decide_eq_true_eq]
@[simp] theorem x_ltI {i j : Int} : ltD (.int i) (.int j) = some (.val (.bl (decide (i < j)))) := rfl
@[simp] theorem x_leI {i j : Int} : leD (.int i) (.int j) = some (.val (.bl (decide (i ≤ j)))) := rfl
@[simp] theorem x_gtI {i j : Int} : gtD (.int i) (.int j) = some (.val (.bl (decide (j < i)))) := rfl
@[simp] theorem x_geI {i j : Int} : geD (.int i) (.int j) = some (.val (.bl (decide (j ≤ i)))) := rfl
@[simp] theorem x_ltS {i j : Str} : ltD (.str i) (.str j) = some (.val (.bl (decide (i.cps.toList < j.cps.toList)))) := rfl
@[simp] theorem x_ixL {xs : List D} {i : Int} : ixD (.lst xs) (.int i) = (atI xs i).map .val := rfl
@[simp] theorem x_ixT {xs : List D} {i : Int} : ixD (.tup xs) (.int i) = (atI xs i).map .val := rfl
@[simp] theorem x_ixR {xs : List Int} {i : Int} : ixD (.scr xs) (.int i) = (atI xs i).map fun n => .val (.int n) := rfl
@[simp] theorem x_ixS {z : Str} {i : Int} : ixD (.str z) (.int i) = if z.length ≤ sizeLine then (atI z.cps.toList i).map fun c => .val (.str ⟨#[c]⟩) else none := rfl
@[simp] theorem x_isB {a b : Bool} : isD (.bl a) (.bl b) = some (.val (.bl (decide (a = b)))) := by simp [isD, orF, fIsB]
@[simp] theorem x_isNB {a b : Bool} : isNotD (.bl a) (.bl b) = some (.val (.bl (!decide (a = b)))) := by simp [isNotD, orF, fIsB]
@[simp] theorem x_isNn {x : D} : isD x .non = some (.val (.bl (isN x))) := by cases x <;> rfl
@[simp] theorem x_isNotN {x : D} : isNotD x .non = some (.val (.bl (!isN x))) := by cases x <;> rfl
@[simp] theorem x_intDi {i : Int} : intD [.int i] = some (.val (.int i)) := rfl
@[simp] theorem x_intDb {b : Bool} : intD [.bl b] = some (.val (.int (if b then 1 else 0))) := rfl
@[simp] theorem x_maxD {i j : Int} : maxD [.int i, .int j] = some (.val (.int (if j > i then j else i))) := rfl
@[simp] theorem x_minD {i j : Int} : minD [.int i, .int j] = some (.val (.int (if j < i then j else i))) := rfl
@[simp] theorem x_absD {i : Int} : absD [.int i] = some (.val (.int (if i < 0 then -i else i))) := rfl
@[simp] theorem x_lenDl {xs : List D} : lenD [.lst xs] = some (.val (.int (xs.length : Nat))) := rfl
@[simp] theorem x_lenDt {xs : List D} : lenD [.tup xs] = some (.val (.int (xs.length : Nat))) := rfl
@[simp] theorem x_lenDr {xs : List Int} : lenD [.scr xs] = some (.val (.int (xs.length : Nat))) := rfl
@[simp] theorem x_lenDd {xs : List (Key × D)} : lenD [.dct xs] = some (.val (.int (xs.length : Nat))) := rfl
@[simp] theorem x_lenDs {z : Str} : lenD [.str z] = if z.length ≤ sizeLine then some (.val (.int (z.length : Nat))) else none := by
  simp only [lenD, lenN]; split <;> rfl
@[simp] theorem x_tupD {ds : List D} : tupD ds = if ds.length ≤ sizeLine then some (.val (.tup ds)) else none := rfl
@[simp] theorem x_lstD {ds : List D} : lstD ds = if ds.length ≤ sizeLine then some (.new (.lst ds)) else none := rfl
@[simp] theorem x_listT {xs : List D} : listD [.tup xs] = some (.new (.lst xs)) := rfl
@[simp] theorem x_listL {xs : List D} : listD [.lst xs] = some (.new (.lst xs)) := rfl
@[simp] theorem x_tupleT {xs : List D} : tupleD [.tup xs] = some (.val (.tup xs)) := rfl
@[simp] theorem x_tupleL {xs : List D} : tupleD [.lst xs] = some (.val (.tup xs)) := rfl
@[simp] theorem x_sz : sizeLine = 16777216 := sizeLine_eq
end PyD

namespace PyD
open PySem PySem.Spec PyProof.Rows L2
/-! ### comprehensions and loops as plain functions -/
theorem lc_map {vs : List Nat} {f : Tg} {t : MB} {me : M} {g : D → D} {ρ : Rho} : ∀ {ds acc : List D}, (∀ d ∈ ds, ∃ ρ1 r, f d ρ = some ρ1 ∧ t ρ1 = .ok true ρ1 ∧ me ρ1 = .ok r ρ1 ∧ r.frz = .val (g d) ∧ wipeR ρ1 vs = ρ) → acc.length + ds.length ≤ sizeLine →
    lcD vs f t me ds acc ρ = .ok (acc ++ ds.map g) ρ
  | [], acc, _, _ => by simp
  | d :: ds, acc, h, hl => by
    obtain ⟨ρ1, r, h1, h2, h3, h4, h5⟩ := h d (List.mem_cons_self ..)
    have hl' : acc.length < sizeLine := by simp only [List.length_cons] at hl; omega
    rw [x_lcC, h1]
    simp only [x_optO, h2, x_bindN, if_true, h3, h4, x_setV, hl', h5]
    rw [lc_map (fun d' hd => h d' (List.mem_cons_of_mem _ hd)) (by simp only [List.length_append, List.length_cons, List.length_nil] at hl ⊢; omega)]
    simp
/-- with a test -/
theorem lc_filter {vs : List Nat} {f : Tg} {t : MB} {me : M} {p : D → Bool} {g : D → D} {ρ : Rho} : ∀ {ds acc : List D}, (∀ d ∈ ds, ∃ ρ1, f d ρ = some ρ1 ∧ t ρ1 = .ok (p d) ρ1 ∧ wipeR ρ1 vs = ρ ∧ (p d = true → ∃ r, me ρ1 = .ok r ρ1 ∧ r.frz = .val (g d))) → acc.length + ds.length ≤ sizeLine →
    lcD vs f t me ds acc ρ = .ok (acc ++ (ds.filter p).map g) ρ
  | [], acc, _, _ => by simp
  | d :: ds, acc, h, hl => by
    obtain ⟨ρ1, h1, h2, h5, h6⟩ := h d (List.mem_cons_self ..)
    have hl' : acc.length < sizeLine := by simp only [List.length_cons] at hl; omega
    rw [x_lcC, h1]
    simp only [x_optO, h2, x_bindN]
    cases hp : p d with
    | true =>
      obtain ⟨r, h3, h4⟩ := h6 hp
      simp only [if_true, h3, h4, x_setV, hl', h5, x_bindN, x_optO]
      rw [lc_filter (fun d' hd => h d' (List.mem_cons_of_mem _ hd)) (by simp only [List.length_append, List.length_cons, List.length_nil] at hl ⊢; omega)]
      simp [hp]
    | false =>
      simp only [Bool.false_eq_true, if_false, h5]
      rw [lc_filter (fun d' hd => h d' (List.mem_cons_of_mem _ hd)) (by simp only [List.length_cons] at hl; omega)]
      simp [hp]
/-! ### texts and equality -/
theorem ofS_inj {a b : String} : (Str.ofString a = Str.ofString b) ↔ a = b := by
  constructor
  · intro h
    rw [Str.ofString_eq_toList, Str.ofString_eq_toList] at h
    have h1 : a.toList.map Char.toNat = b.toList.map Char.toNat := by
      have := congrArg Str.cps h
      simpa using congrArg Array.toList this
    have inj : ∀ x y : List Char, x.map Char.toNat = y.map Char.toNat → x = y := fun x => by
      induction x with
      | nil => intro y h; cases y with | nil => rfl | cons c y => simp at h
      | cons c x ih =>
        intro y h
        cases y with
        | nil => simp at h
        | cons d y =>
          simp only [List.map_cons, List.cons.injEq] at h
          rw [ih y h.2]
          have : c = d := by
            have e := h.1
            exact Char.ext (UInt32.toNat_inj.mp e)
          rw [this]
    exact String.toList_inj.mp (inj _ _ h1)
  · intro h; rw [h]
@[simp] theorem x_ofS {a b : String} : decide (Str.ofString a = Str.ofString b) = decide (a = b) := by simp only [ofS_inj]
@[simp] theorem x_eqS {a b : Str} : eqD (.str a) (.str b) = some (.val (.bl (decide (a = b)))) := rfl
@[simp] theorem x_eqI {a b : Int} : eqD (.int a) (.int b) = some (.val (.bl (decide (a = b)))) := rfl
@[simp] theorem x_eqBl {a b : Bool} : eqD (.bl a) (.bl b) = some (.val (.bl (decide (a = b)))) := rfl
@[simp] theorem x_eqNI {b : Int} : eqD .non (.int b) = some (.val (.bl false)) := rfl
@[simp] theorem x_eqIN {b : Int} : eqD (.int b) .non = some (.val (.bl false)) := rfl
@[simp] theorem x_neS {a b : Str} : neD (.str a) (.str b) = some (.val (.bl (!decide (a = b)))) := rfl
@[simp] theorem x_neI {a b : Int} : neD (.int a) (.int b) = some (.val (.bl (!decide (a = b)))) := rfl
@[simp] theorem x_neBl {a b : Bool} : neD (.bl a) (.bl b) = some (.val (.bl (!decide (a = b)))) := rfl
/-! ### the pools that laws draw from -/
structure Pl where
  a : Int
  b : Int
  h : 0 ≤ a ∧ 0 ≤ b ∧ b < 2147483647
def poolD (p : Pl) : D := .lst [.int p.a, .int p.b]
def pd (p : Pl) (n : Int) : Int := if 0 < p.a then p.a % n else (p.b * 48271 + 11) % 2147483647 * ((p.b * 48271 + 11) % 2147483647) % 2147483629 / 16 % n
def pn (p : Pl) (n : Int) : Pl := if h : 0 < p.a ∧ 0 < n then ⟨p.a / n, p.b, Int.ediv_nonneg p.h.1 (Int.le_of_lt h.2), p.h.2⟩ else if 0 < p.a then p else ⟨p.a, (p.b * 48271 + 11) % 2147483647, p.h.1, Int.emod_nonneg _ (by decide), Int.emod_lt_of_pos _ (by decide)⟩
theorem pd_nonneg (p : Pl) {n : Int} (h : 0 < n) : 0 ≤ pd p n := by
  unfold pd; split <;> exact Int.emod_nonneg _ (by omega)
theorem pd_lt (p : Pl) {n : Int} (h : 0 < n) : pd p n < n := by
  unfold pd; split <;> exact Int.emod_lt_of_pos _ h
theorem mulC_l {i j : Int} (h : -(2 ^ 64) < i) (h2 : i < 2 ^ 64) : mulC i j = true := by unfold mulC; simp; omega
theorem mulC_r {i j : Int} (h : -(2 ^ 64) < j) (h2 : j < 2 ^ 64) : mulC i j = true := by unfold mulC; simp; omega
theorem divC_ok {i j : Int} (h : 0 < j) (h2 : j < 1073741824) : divC i j = true := by unfold divC; simp [h, h2]
/-- the item at a drawn place -/
theorem atI_of {α : Type} {xs : List α} {i : Int} (h : 0 ≤ i) (h2 : i < xs.length) : L2.atI xs i = xs[i.toNat]? := by
  unfold L2.atI ixN
  simp [h, h2]
end PyD

namespace Lw
open PySem PySem.Spec PyProof.Rows L2 PyD
def T : Tab := ⟨0, fun _ _ => false, [], fun _ _ => false, fun _ => []⟩
def cl (K : PySem.W.Frag) : Nat → Addr := fun _ => 0
def b__law_draw : MS := (mSeq (mIfS (mBinB gtD (mBin ixD (mVar 0) (mC (.int 0))) (mC (.int 0))) (mSeq (mSet 2 (mBin modD (mCB intD (mCons (mBin ixD (mVar 0) (mC (.int 0))) mNil)) (mVar 1))) (mSeq (mStore (mVar 0) (mC (.int 0)) (mBin fdivD (mBin ixD (mVar 0) (mC (.int 0))) (mVar 1))) (mRet (mVar 2)))) mNext) (mSeq (mStore (mVar 0) (mC (.int 1)) (mBin modD (mCB intD (mCons (mBin addD (mBin mulD (mBin ixD (mVar 0) (mC (.int 1))) (mC (.int 48271))) (mC (.int 11))) mNil)) (mC (.int 2147483647)))) (mRet (mBin modD (mCB intD (mCons (mBin fdivD (mBin modD (mCB intD (mCons (mBin mulD (mBin ixD (mVar 0) (mC (.int 1))) (mBin ixD (mVar 0) (mC (.int 1)))) mNil)) (mC (.int 2147483629))) (mC (.int 16))) mNil)) (mVar 1)))))
def f__law_draw : Fn := mkFn 1 b__law_draw
def b__law_pick : MS := (mRet (mBin ixD (mVar 1) (mCall 2 [true, false] f__law_draw (mCons (mVar 0) (mCons (mCB lenD (mCons (mVar 1) mNil)) mNil)))))
def f__law_pick : Fn := mkFn 0 b__law_pick
def b__law_pool : MS := (mSeq (mSet 2 (mIf (mBinB ltD (mVar 1) (mCB lenD (mCons (mVar 0) mNil))) (mCB maxD (mCons (mCB intD (mCons (mBin ixD (mVar 0) (mVar 1)) mNil)) (mCons (mCB intD (mCons (mBin subD (mUn negD (mC (.int 1))) (mBin ixD (mVar 0) (mVar 1))) mNil)) mNil))) (mC (.int 7)))) (mSeq (mSet 3 (mBin addD (mBin modD (mCB intD (mCons (mBin mulD (mBin addD (mBin modD (mCB intD (mCons (mVar 2) mNil)) (mC (.int 2147483629))) (mBin mulD (mC (.int 104729)) (mBin addD (mVar 1) (mC (.int 1))))) (mC (.int 48271))) mNil)) (mC (.int 2147483629))) (mC (.int 1)))) (mRet (mCS lstD (mCons (mBin mulD (mVar 2) (mCB intD (mCons (mBin geD (mVar 2) (mBin powD (mC (.int 10)) (mC (.int 18)))) mNil))) (mCons (mBin modD (mCB intD (mCons (mBin mulD (mVar 3) (mVar 3)) mNil)) (mC (.int 2147483629))) mNil))))))
def f__law_pool : Fn := mkFn 2 b__law_pool
def b_has_kind : MS := (mRet (mAndV (mCB (isiD' T) (mCons (mVar 0) (mCons (mC (.ty "tuple")) mNil))) (mAndV (mBin eqD (mCB lenD (mCons (mVar 0) mNil)) (mVar 2)) (mAndV (mCB (isiD' T) (mCons (mBin ixD (mVar 0) (mC (.int 0))) (mCons (mC (.ty "str")) mNil))) (mBin eqD (mBin ixD (mVar 0) (mC (.int 0))) (mVar 1))))))
def f_has_kind : Fn := mkFn 0 b_has_kind
def b_is_integer : MS := (mRet (mAndV (mCB (isiD' T) (mCons (mVar 0) (mCons (mC (.ty "int")) mNil))) (mNotV (mCB (isiD' T) (mCons (mVar 0) (mCons (mC (.ty "bool")) mNil))))))
def f_is_integer : Fn := mkFn 0 b_is_integer
def b_is_between : MS := (mRet (mAndV (mCall 1 [false] f_is_integer (mCons (mVar 0) mNil)) (mChain leD leD (mVar 1) (mVar 0) (mVar 2))))
def f_is_between : Fn := mkFn 0 b_is_between
def b_is_memory : MS := (mSeq (mIfS (mTru (mCall 3 [false, false, false] f_has_kind (mCons (mVar 0) (mCons (mC (.str (PySem.Str.ofString "nothing"))) (mCons (mC (.int 1)) mNil))))) (mRet (mC (.bl true))) mNext) (mRet (mAndV (mOrV (mCall 3 [false, false, false] f_has_kind (mCons (mVar 0) (mCons (mC (.str (PySem.Str.ofString "times"))) (mCons (mC (.int 2)) mNil)))) (mCall 3 [false, false, false] f_has_kind (mCons (mVar 0) (mCons (mC (.str (PySem.Str.ofString "sum"))) (mCons (mC (.int 2)) mNil))))) (mCall 3 [false, false, false] f_is_between (mCons (mBin ixD (mVar 0) (mC (.int 1))) (mCons (mC (.int 0)) (mCons (mC (.int 9)) mNil)))))))
def f_is_memory : Fn := mkFn 0 b_is_memory
def b_is_name : MS := (mRet (mAndV (mCB (isiD' T) (mCons (mVar 0) (mCons (mC (.ty "str")) mNil))) (mAndV (mChain leD leD (mC (.int 1)) (mCB lenD (mCons (mVar 0) mNil)) (mC (.int 8))) (mCB allD (mCons (mLc [1] (iSeq (mVar 0)) (gN 1) mYes (mBin (inD false) (mVar 1) (mC (.str (PySem.Str.ofString "abcdefghijklmnopqrstuvwxyz"))))) mNil)))))
def f_is_name : Fn := mkFn 1 b_is_name
def b_law_L1 : MS := (mIfS (mBinB isNotD (mCall 1 [false] f_is_name (mCons (mBin addD (mBin addD (mSl (mVar 4) none (some (mVar 5))) (mVar 6)) (mSl (mVar 4) (some (mBin addD (mVar 5) (mC (.int 1)))) none)) mNil)) (mC (.bl false))) (mRet (mC (.bl false))) mNext)
def b_law_L2 : MS := (mIfS (mBinB isNotD (mCall 1 [false] f_is_name (mCons (mVar 7) mNil)) (mC (.bl false))) (mRet (mC (.bl false))) mNext)
def b_law_L3 : MS := (mIfS (mOrB (mBinB isNotD (mCall 1 [false] f_is_memory (mCons (mVar 9) mNil)) (mC (.bl true))) (mBinB isNotD (mCall 1 [false] f_is_memory (mCons (mCB listD (mCons (mVar 9) mNil)) mNil)) (mC (.bl false)))) (mRet (mC (.bl false))) mNext)
def b_law_L4 : MS := (mIfS (mBinB isNotD (mCall 1 [false] f_is_memory (mCons (mVar 7) mNil)) (mC (.bl false))) (mRet (mC (.bl false))) mNext)
def b_law_L5 : MS := (mIfS (mBinB isNotD (mCall 1 [false] f_is_memory (mCons (mVar 7) mNil)) (mC (.bl false))) (mRet (mC (.bl false))) mNext)
def b_law_L6 : MS := (mSeq (mSet 2 (mCall 2 [false, false] f__law_pool (mCons (mVar 0) (mCons (mVar 1) mNil)))) (mSeq (mSet 3 (mC (.str (PySem.Str.ofString "abcdefghijklmnopqrstuvwxyz")))) (mSeq (mSet 4 (mMtT "str" joinD (mC (.str (PySem.Str.ofString ""))) (mCons (mLc [10] (iRange (mCons (mBin addD (mC (.int 1)) (mCall 2 [true, false] f__law_draw (mCons (mVar 2) (mCons (mC (.int 8)) mNil)))) mNil)) (gN 10) mYes (mCall 2 [true, false] f__law_pick (mCons (mVar 2) (mCons (mVar 3) mNil)))) mNil))) (mSeq (mIfS (mOrB (mBinB isNotD (mCall 1 [false] f_is_name (mCons (mVar 4) mNil)) (mC (.bl true))) (mBinB isNotD (mCall 1 [false] f_is_name (mCons (mBin addD (mVar 4) (mC (.str (PySem.Str.ofString "abcdefgh")))) mNil)) (mC (.bl false)))) (mRet (mC (.bl false))) mNext) (mSeq (mSet 5 (mCall 2 [true, false] f__law_draw (mCons (mVar 2) (mCons (mCB lenD (mCons (mVar 4) mNil)) mNil)))) (mSeq (mFor (iSeq (mCS lstD (mCons (mC (.str (PySem.Str.ofString "A"))) (mCons (mC (.str (PySem.Str.ofString " "))) (mCons (mC (.str (PySem.Str.ofString "1"))) (mCons (mC (.str (PySem.Str.ofString "_"))) (mCons (mC (.str (PySem.Str.ofString "\n"))) (mCons (mC (.str (PySem.Str.ofString "-"))) mNil)))))))) (gN 6) b_law_L1) (mSeq (mFor (iSeq (mCS lstD (mCons (mC (.str (PySem.Str.ofString ""))) (mCons (mC .non) (mCons (mC (.int 5)) (mCons (mC (.bl true)) (mCons (mCS tupD (mCons (mC (.str (PySem.Str.ofString "a"))) mNil)) (mCons (mCS lstD (mCons (mC (.str (PySem.Str.ofString "a"))) mNil)) (mCons mDnew mNil))))))))) (gN 7) b_law_L2) (mSeq (mSet 8 (mCall 2 [true, false] f__law_draw (mCons (mVar 2) (mCons (mC (.int 10)) mNil)))) (mSeq (mFor (iSeq (mCS lstD (mCons (mCS tupD (mCons (mC (.str (PySem.Str.ofString "nothing"))) mNil)) (mCons (mCS tupD (mCons (mC (.str (PySem.Str.ofString "times"))) (mCons (mVar 8) mNil))) (mCons (mCS tupD (mCons (mC (.str (PySem.Str.ofString "sum"))) (mCons (mVar 8) mNil))) mNil))))) (gN 9) b_law_L3) (mSeq (mFor (iSeq (mCS lstD (mCons (mC .non) (mCons (mC (.str (PySem.Str.ofString "nothing"))) (mCons (mCS tupD mNil) (mCons (mCS tupD (mCons (mC (.str (PySem.Str.ofString "nothing"))) (mCons (mC (.int 0)) mNil))) (mCons (mCS tupD (mCons (mC (.str (PySem.Str.ofString "times"))) mNil)) (mCons (mCS tupD (mCons (mC (.str (PySem.Str.ofString "sum"))) (mCons (mUn negD (mC (.int 1))) mNil))) (mCons (mCS tupD (mCons (mC (.str (PySem.Str.ofString "sum"))) (mCons (mC (.int 10)) mNil))) (mCons (mCS tupD (mCons (mC (.str (PySem.Str.ofString "times"))) (mCons (mC (.bl true)) mNil))) mNil)))))))))) (gN 7) b_law_L4) (mFor (iSeq (mCS lstD (mCons (mCS tupD (mCons (mC (.str (PySem.Str.ofString "times"))) (mCons (mC .non) mNil))) (mCons (mCS tupD (mCons (mC (.str (PySem.Str.ofString "Sum"))) (mCons (mC (.int 1)) mNil))) (mCons (mCS tupD (mCons (mC (.str (PySem.Str.ofString "sum"))) (mCons (mC (.int 1)) (mCons (mC (.int 1)) mNil)))) (mCons (mCS tupD (mCons (mC (.int 1)) (mCons (mC (.int 1)) mNil))) (mCons (mCS tupD (mCons (mCS lstD (mCons (mC (.str (PySem.Str.ofString "sum"))) mNil)) (mCons (mC (.int 1)) mNil))) (mCons (mCS tupD (mCons (mC (.str (PySem.Str.ofString "units"))) (mCons (mVar 8) mNil))) mNil)))))))) (gN 7) b_law_L5)))))))))))
def b_law : MS := (mSeq (mFor (iRange (mCons (mCB maxD (mCons (mC (.int 1)) (mCons (mCB minD (mCons (mCB lenD (mCons (mVar 0) mNil)) (mCons (mC (.int 2)) mNil))) mNil))) mNil)) (gN 1) b_law_L6) (mRet (mC (.bl true))))
def f_law : Fn := mkFn 10 b_law
end Lw

namespace Lw
open PySem PySem.Spec PyProof.Rows L2 PyD
def topS (i : Nat) : Stmt := PySem.Challenge.pw_cutofftills_k01_names_and_memories.main.body.getD i (.Pass ⟨0, 0, 0, 0⟩)
abbrev s__law_draw : Stmt := topS 11
abbrev N__law_draw : List PySem.Str := [(PySem.Str.ofString "_law_pool_here"), (PySem.Str.ofString "_law_many"), (PySem.Str.ofString "_law_found")]
abbrev P__law_draw : List PySem.Str := [(PySem.Str.ofString "_law_pool_here"), (PySem.Str.ofString "_law_many")]
abbrev s__law_pick : Stmt := topS 12
abbrev N__law_pick : List PySem.Str := [(PySem.Str.ofString "_law_pool_here"), (PySem.Str.ofString "_law_row")]
abbrev P__law_pick : List PySem.Str := [(PySem.Str.ofString "_law_pool_here"), (PySem.Str.ofString "_law_row")]
abbrev s__law_pool : Stmt := topS 10
abbrev N__law_pool : List PySem.Str := [(PySem.Str.ofString "_law_script"), (PySem.Str.ofString "_law_k"), (PySem.Str.ofString "_law_size"), (PySem.Str.ofString "_law_mixed")]
abbrev P__law_pool : List PySem.Str := [(PySem.Str.ofString "_law_script"), (PySem.Str.ofString "_law_k")]
abbrev s_has_kind : Stmt := topS 7
abbrev N_has_kind : List PySem.Str := [(PySem.Str.ofString "value"), (PySem.Str.ofString "kind"), (PySem.Str.ofString "many")]
abbrev P_has_kind : List PySem.Str := [(PySem.Str.ofString "value"), (PySem.Str.ofString "kind"), (PySem.Str.ofString "many")]
abbrev s_is_integer : Stmt := topS 4
abbrev N_is_integer : List PySem.Str := [(PySem.Str.ofString "value")]
abbrev P_is_integer : List PySem.Str := [(PySem.Str.ofString "value")]
abbrev s_is_between : Stmt := topS 5
abbrev N_is_between : List PySem.Str := [(PySem.Str.ofString "value"), (PySem.Str.ofString "least"), (PySem.Str.ofString "most")]
abbrev P_is_between : List PySem.Str := [(PySem.Str.ofString "value"), (PySem.Str.ofString "least"), (PySem.Str.ofString "most")]
abbrev s_is_memory : Stmt := topS 8
abbrev N_is_memory : List PySem.Str := [(PySem.Str.ofString "value")]
abbrev P_is_memory : List PySem.Str := [(PySem.Str.ofString "value")]
abbrev s_is_name : Stmt := topS 6
abbrev N_is_name : List PySem.Str := [(PySem.Str.ofString "value"), (PySem.Str.ofString "sign")]
abbrev P_is_name : List PySem.Str := [(PySem.Str.ofString "value")]
abbrev s_law : Stmt := topS 13
abbrev N_law : List PySem.Str := [(PySem.Str.ofString "_law_script"), (PySem.Str.ofString "_law_k"), (PySem.Str.ofString "_law_pool_here"), (PySem.Str.ofString "_law_signs"), (PySem.Str.ofString "_law_name"), (PySem.Str.ofString "_law_at"), (PySem.Str.ofString "_law_sign"), (PySem.Str.ofString "_law_odd"), (PySem.Str.ofString "_law_number"), (PySem.Str.ofString "_law_good"), (PySem.Str.ofString "_law_turn")]
abbrev P_law : List PySem.Str := [(PySem.Str.ofString "_law_script")]
def G (K : PySem.W.Frag) : Gx := ⟨K, cl K, fun _ => 0⟩
structure Fx (K : PySem.W.Frag) (mg : PySem.Str → Option Value) : Prop where
  tab : TabOk (G K) T
  b_all : mg (PySem.Str.ofString "all") = none
  b_bool : mg (PySem.Str.ofString "bool") = none
  b_int : mg (PySem.Str.ofString "int") = none
  b_isinstance : mg (PySem.Str.ofString "isinstance") = none
  b_len : mg (PySem.Str.ofString "len") = none
  b_list : mg (PySem.Str.ofString "list") = none
  b_max : mg (PySem.Str.ofString "max") = none
  b_min : mg (PySem.Str.ofString "min") = none
  b_range : mg (PySem.Str.ofString "range") = none
  b_str : mg (PySem.Str.ofString "str") = none
  b_tuple : mg (PySem.Str.ofString "tuple") = none
  c_LETTERS : ∃ t, mg (PySem.Str.ofString "LETTERS") = some (.str (PySem.Str.ofString "abcdefghijklmnopqrstuvwxyz") t)
  c_MOST_LETTERS : ∃ t, mg (PySem.Str.ofString "MOST_LETTERS") = some (.int (8) t)
  c_MOST_LIMIT : ∃ t, mg (PySem.Str.ofString "MOST_LIMIT") = some (.int (9) t)
  d__law_draw : ∃ fd, FunD K (PySem.Str.ofString "_law_draw") (PySem.Str.ofString "_law_draw") (defArgs s__law_draw) (defBody s__law_draw) (defScope s__law_draw) [] [] (He.ga K (PySem.Str.ofString "_law_draw")) fd
  g__law_draw : mg (PySem.Str.ofString "_law_draw") = some (.ref (He.ga K (PySem.Str.ofString "_law_draw")))
  d__law_pick : ∃ fd, FunD K (PySem.Str.ofString "_law_pick") (PySem.Str.ofString "_law_pick") (defArgs s__law_pick) (defBody s__law_pick) (defScope s__law_pick) [] [] (He.ga K (PySem.Str.ofString "_law_pick")) fd
  g__law_pick : mg (PySem.Str.ofString "_law_pick") = some (.ref (He.ga K (PySem.Str.ofString "_law_pick")))
  d__law_pool : ∃ fd, FunD K (PySem.Str.ofString "_law_pool") (PySem.Str.ofString "_law_pool") (defArgs s__law_pool) (defBody s__law_pool) (defScope s__law_pool) [] [] (He.ga K (PySem.Str.ofString "_law_pool")) fd
  g__law_pool : mg (PySem.Str.ofString "_law_pool") = some (.ref (He.ga K (PySem.Str.ofString "_law_pool")))
  d_has_kind : ∃ fd, FunD K (PySem.Str.ofString "has_kind") (PySem.Str.ofString "has_kind") (defArgs s_has_kind) (defBody s_has_kind) (defScope s_has_kind) [] [] (He.ga K (PySem.Str.ofString "has_kind")) fd
  g_has_kind : mg (PySem.Str.ofString "has_kind") = some (.ref (He.ga K (PySem.Str.ofString "has_kind")))
  d_is_integer : ∃ fd, FunD K (PySem.Str.ofString "is_integer") (PySem.Str.ofString "is_integer") (defArgs s_is_integer) (defBody s_is_integer) (defScope s_is_integer) [] [] (He.ga K (PySem.Str.ofString "is_integer")) fd
  g_is_integer : mg (PySem.Str.ofString "is_integer") = some (.ref (He.ga K (PySem.Str.ofString "is_integer")))
  d_is_between : ∃ fd, FunD K (PySem.Str.ofString "is_between") (PySem.Str.ofString "is_between") (defArgs s_is_between) (defBody s_is_between) (defScope s_is_between) [] [] (He.ga K (PySem.Str.ofString "is_between")) fd
  g_is_between : mg (PySem.Str.ofString "is_between") = some (.ref (He.ga K (PySem.Str.ofString "is_between")))
  d_is_memory : ∃ fd, FunD K (PySem.Str.ofString "is_memory") (PySem.Str.ofString "is_memory") (defArgs s_is_memory) (defBody s_is_memory) (defScope s_is_memory) [] [] (He.ga K (PySem.Str.ofString "is_memory")) fd
  g_is_memory : mg (PySem.Str.ofString "is_memory") = some (.ref (He.ga K (PySem.Str.ofString "is_memory")))
  d_is_name : ∃ fd, FunD K (PySem.Str.ofString "is_name") (PySem.Str.ofString "is_name") (defArgs s_is_name) (defBody s_is_name) (defScope s_is_name) [] [] (He.ga K (PySem.Str.ofString "is_name")) fd
  g_is_name : mg (PySem.Str.ofString "is_name") = some (.ref (He.ga K (PySem.Str.ofString "is_name")))
  d_law : ∃ fd, FunD K (PySem.Str.ofString "law") (PySem.Str.ofString "law") (defArgs s_law) (defBody s_law) (defScope s_law) [] [] (He.ga K (PySem.Str.ofString "law")) fd
  g_law : mg (PySem.Str.ofString "law") = some (.ref (He.ga K (PySem.Str.ofString "law")))
variable {P : Program} {w : World} {K : PySem.W.Frag} {mg : PySem.Str → Option Value} {base : Heap}
theorem sc__law_draw : FnScope N__law_draw P__law_draw (defScope s__law_draw) := ⟨rfl, rfl, rfl, by decide +kernel, rfl, by decide +kernel, by decide +kernel⟩
theorem okf__law_draw (Z : Fx K mg) {fd : FuncData} (F : FunD K (PySem.Str.ofString "_law_draw") (PySem.Str.ofString "_law_draw") (defArgs s__law_draw) (defBody s__law_draw) (defScope s__law_draw) [] [] (He.ga K (PySem.Str.ofString "_law_draw")) fd) : FnOk P w K mg base (L2.CX P w) 1 (He.ga K (PySem.Str.ofString "_law_draw")) fd P__law_draw (spF (G K) 2 f__law_draw) := by
  refine okf_of F sc__law_draw rfl rfl fun cdv A outer s H vs E hr => ?_
  have nd := (sc__law_draw).nd
  have tk : Takes (cxOf (L2.CX P w) P w K mg base N__law_draw (PySem.Str.ofString "_law_draw") (defScope s__law_draw) (He.ga K (PySem.Str.ofString "_law_draw")) cdv A outer s H E) (fun cls d _ H' => E cls d H') := takes_of rfl rfl rfl rfl
  have hp : PassesOwn (model P w) (A.deeper (envOfC (PySem.Str.ofString "_law_draw") (defScope s__law_draw) s.heap.objs.size (He.ga K (PySem.Str.ofString "_law_draw")) cdv)) (envOfC (PySem.Str.ofString "_law_draw") (defScope s__law_draw) s.heap.objs.size (He.ga K (PySem.Str.ofString "_law_draw")) cdv) (cxOf (L2.CX P w) P w K mg base N__law_draw (PySem.Str.ofString "_law_draw") (defScope s__law_draw) (He.ga K (PySem.Str.ofString "_law_draw")) cdv A outer s H E).xe := passes_of (X := cxOf (L2.CX P w) P w K mg base N__law_draw (PySem.Str.ofString "_law_draw") (defScope s__law_draw) (He.ga K (PySem.Str.ofString "_law_draw")) cdv A outer s H E) rfl
  exact (js_cons (js_if (jt_cmp op_gt gtD_ok (je_ix rfl (hu1 hr) (je_var 0) je_int) je_int (nomark _)) (js_cons (js_set (i := 2) nd (by first | exact Or.inl rfl | exact Or.inr rfl) (je_bin op_mod modD_ok (je_callTy call_int1 intD_ok Z.b_int (by decide +kernel) (ja_cons (je_ix rfl (hu1 hr) (je_var 0) je_int) ja_nil)) (je_var 1))) (js_cons (js_store (hu1 hr) (je_bin op_fdiv fdivD_ok (je_ix rfl (hu1 hr) (je_var 0) je_int) (je_var 1)) (je_var 0) je_int (hsub := pg_sub (je_f (je_var 0)) (je_f je_int) (set_D (hu1 hr)))) (js_one (js_ret (je_var 2))))) js_nil) (js_cons (js_store (hu1 hr) (je_bin op_mod modD_ok (je_callTy call_int1 intD_ok Z.b_int (by decide +kernel) (ja_cons (je_bin op_addD addD_ok (je_bin op_mulD mulD_ok (je_ix rfl (hu1 hr) (je_var 0) je_int) je_int) je_int) ja_nil)) je_int) (je_var 0) je_int (hsub := pg_sub (je_f (je_var 0)) (je_f je_int) (set_D (hu1 hr)))) (js_one (js_ret (je_bin op_mod modD_ok (je_callTy call_int1 intD_ok Z.b_int (by decide +kernel) (ja_cons (je_bin op_fdiv fdivD_ok (je_bin op_mod modD_ok (je_callTy call_int1 intD_ok Z.b_int (by decide +kernel) (ja_cons (je_bin op_mulD mulD_ok (je_ix rfl (hu1 hr) (je_var 0) je_int) (je_ix rfl (hu1 hr) (je_var 0) je_int)) ja_nil)) je_int) je_int) ja_nil)) (je_var 1))))))
theorem fact__law_draw (Z : Fx K mg) : FnFact P w K mg base (G K) (PySem.Str.ofString "_law_draw") 2 1 P__law_draw f__law_draw := by
  obtain ⟨fd, F⟩ := Z.d__law_draw
  exact fact_of F Z.g__law_draw (fun _ _ _ _ _ _ us hl => match us, hl with | [_, _], _ => rfl) (okf__law_draw Z F)
theorem sc__law_pick : FnScope N__law_pick P__law_pick (defScope s__law_pick) := ⟨rfl, rfl, rfl, by decide +kernel, rfl, by decide +kernel, by decide +kernel⟩
theorem okf__law_pick (Z : Fx K mg) {fd : FuncData} (F : FunD K (PySem.Str.ofString "_law_pick") (PySem.Str.ofString "_law_pick") (defArgs s__law_pick) (defBody s__law_pick) (defScope s__law_pick) [] [] (He.ga K (PySem.Str.ofString "_law_pick")) fd) : FnOk P w K mg base (L2.CX P w) 2 (He.ga K (PySem.Str.ofString "_law_pick")) fd P__law_pick (spF (G K) 2 f__law_pick) := by
  refine okf_of F sc__law_pick rfl rfl fun cdv A outer s H vs E hr => ?_
  have nd := (sc__law_pick).nd
  have tk : Takes (cxOf (L2.CX P w) P w K mg base N__law_pick (PySem.Str.ofString "_law_pick") (defScope s__law_pick) (He.ga K (PySem.Str.ofString "_law_pick")) cdv A outer s H E) (fun cls d _ H' => E cls d H') := takes_of rfl rfl rfl rfl
  have hp : PassesOwn (model P w) (A.deeper (envOfC (PySem.Str.ofString "_law_pick") (defScope s__law_pick) s.heap.objs.size (He.ga K (PySem.Str.ofString "_law_pick")) cdv)) (envOfC (PySem.Str.ofString "_law_pick") (defScope s__law_pick) s.heap.objs.size (He.ga K (PySem.Str.ofString "_law_pick")) cdv) (cxOf (L2.CX P w) P w K mg base N__law_pick (PySem.Str.ofString "_law_pick") (defScope s__law_pick) (He.ga K (PySem.Str.ofString "_law_pick")) cdv A outer s H E).xe := passes_of (X := cxOf (L2.CX P w) P w K mg base N__law_pick (PySem.Str.ofString "_law_pick") (defScope s__law_pick) (He.ga K (PySem.Str.ofString "_law_pick")) cdv A outer s H E) rfl
  exact (js_one (js_ret (je_ix rfl (hu1 hr) (je_var 1) (je_callF tk (fact__law_draw Z) (hr.mono (by decide)) (ja_cons (je_var 0) (ja_cons (je_callB call_lenAll lenD_ok Z.b_len boot_len (ja_cons (je_var 1) ja_nil)) ja_nil))))))
theorem fact__law_pick (Z : Fx K mg) : FnFact P w K mg base (G K) (PySem.Str.ofString "_law_pick") 2 2 P__law_pick f__law_pick := by
  obtain ⟨fd, F⟩ := Z.d__law_pick
  exact fact_of F Z.g__law_pick (fun _ _ _ _ _ _ us hl => match us, hl with | [_, _], _ => rfl) (okf__law_pick Z F)
theorem sc__law_pool : FnScope N__law_pool P__law_pool (defScope s__law_pool) := ⟨rfl, rfl, rfl, by decide +kernel, rfl, by decide +kernel, by decide +kernel⟩
theorem okf__law_pool (Z : Fx K mg) {fd : FuncData} (F : FunD K (PySem.Str.ofString "_law_pool") (PySem.Str.ofString "_law_pool") (defArgs s__law_pool) (defBody s__law_pool) (defScope s__law_pool) [] [] (He.ga K (PySem.Str.ofString "_law_pool")) fd) : FnOk P w K mg base (L2.CX P w) 1 (He.ga K (PySem.Str.ofString "_law_pool")) fd P__law_pool (spF (G K) 2 f__law_pool) := by
  refine okf_of F sc__law_pool rfl rfl fun cdv A outer s H vs E hr => ?_
  have nd := (sc__law_pool).nd
  have tk : Takes (cxOf (L2.CX P w) P w K mg base N__law_pool (PySem.Str.ofString "_law_pool") (defScope s__law_pool) (He.ga K (PySem.Str.ofString "_law_pool")) cdv A outer s H E) (fun cls d _ H' => E cls d H') := takes_of rfl rfl rfl rfl
  have hp : PassesOwn (model P w) (A.deeper (envOfC (PySem.Str.ofString "_law_pool") (defScope s__law_pool) s.heap.objs.size (He.ga K (PySem.Str.ofString "_law_pool")) cdv)) (envOfC (PySem.Str.ofString "_law_pool") (defScope s__law_pool) s.heap.objs.size (He.ga K (PySem.Str.ofString "_law_pool")) cdv) (cxOf (L2.CX P w) P w K mg base N__law_pool (PySem.Str.ofString "_law_pool") (defScope s__law_pool) (He.ga K (PySem.Str.ofString "_law_pool")) cdv A outer s H E).xe := passes_of (X := cxOf (L2.CX P w) P w K mg base N__law_pool (PySem.Str.ofString "_law_pool") (defScope s__law_pool) (He.ga K (PySem.Str.ofString "_law_pool")) cdv A outer s H E) rfl
  exact (js_cons (js_set (i := 2) nd (by first | exact Or.inl rfl | exact Or.inr rfl) (je_if (jt_cmp op_ltD ltD_ok (je_var 1) (je_callB call_lenAll lenD_ok Z.b_len boot_len (ja_cons (je_var 0) ja_nil)) (nomark _)) (je_callB (call_max2 rfl) fI2_ok Z.b_max (by decide +kernel) (ja_cons (je_callTy call_int1 intD_ok Z.b_int (by decide +kernel) (ja_cons (je_ix rfl (hu1 hr) (je_var 0) (je_var 1)) ja_nil)) (ja_cons (je_callTy call_int1 intD_ok Z.b_int (by decide +kernel) (ja_cons (je_bin op_sub subD_ok (je_un un_neg negD_ok je_int) (je_ix rfl (hu1 hr) (je_var 0) (je_var 1))) ja_nil)) ja_nil))) je_int)) (js_cons (js_set (i := 3) nd (by first | exact Or.inl rfl | exact Or.inr rfl) (je_bin op_addD addD_ok (je_bin op_mod modD_ok (je_callTy call_int1 intD_ok Z.b_int (by decide +kernel) (ja_cons (je_bin op_mulD mulD_ok (je_bin op_addD addD_ok (je_bin op_mod modD_ok (je_callTy call_int1 intD_ok Z.b_int (by decide +kernel) (ja_cons (je_var 2) ja_nil)) je_int) (je_bin op_mulD mulD_ok je_int (je_bin op_addD addD_ok (je_var 1) je_int))) je_int) ja_nil)) je_int) je_int)) (js_one (js_ret (je_lst (ja_cons (je_bin op_mulD mulD_ok (je_var 2) (je_callTy call_int1 intD_ok Z.b_int (by decide +kernel) (ja_cons (je_cmp op_ge geD_ok (je_var 2) (je_bin op_pow powD_ok je_int je_int) (nomark _)) ja_nil))) (ja_cons (je_bin op_mod modD_ok (je_callTy call_int1 intD_ok Z.b_int (by decide +kernel) (ja_cons (je_bin op_mulD mulD_ok (je_var 3) (je_var 3)) ja_nil)) je_int) ja_nil)))))))
theorem fact__law_pool (Z : Fx K mg) : FnFact P w K mg base (G K) (PySem.Str.ofString "_law_pool") 2 1 P__law_pool f__law_pool := by
  obtain ⟨fd, F⟩ := Z.d__law_pool
  exact fact_of F Z.g__law_pool (fun _ _ _ _ _ _ us hl => match us, hl with | [_, _], _ => rfl) (okf__law_pool Z F)
theorem sc_has_kind : FnScope N_has_kind P_has_kind (defScope s_has_kind) := ⟨rfl, rfl, rfl, by decide +kernel, rfl, by decide +kernel, by decide +kernel⟩
theorem okf_has_kind (Z : Fx K mg) {fd : FuncData} (F : FunD K (PySem.Str.ofString "has_kind") (PySem.Str.ofString "has_kind") (defArgs s_has_kind) (defBody s_has_kind) (defScope s_has_kind) [] [] (He.ga K (PySem.Str.ofString "has_kind")) fd) : FnOk P w K mg base (L2.CX P w) 1 (He.ga K (PySem.Str.ofString "has_kind")) fd P_has_kind (spF (G K) 3 f_has_kind) := by
  refine okf_of F sc_has_kind rfl rfl fun cdv A outer s H vs E hr => ?_
  have nd := (sc_has_kind).nd
  have tk : Takes (cxOf (L2.CX P w) P w K mg base N_has_kind (PySem.Str.ofString "has_kind") (defScope s_has_kind) (He.ga K (PySem.Str.ofString "has_kind")) cdv A outer s H E) (fun cls d _ H' => E cls d H') := takes_of rfl rfl rfl rfl
  have hp : PassesOwn (model P w) (A.deeper (envOfC (PySem.Str.ofString "has_kind") (defScope s_has_kind) s.heap.objs.size (He.ga K (PySem.Str.ofString "has_kind")) cdv)) (envOfC (PySem.Str.ofString "has_kind") (defScope s_has_kind) s.heap.objs.size (He.ga K (PySem.Str.ofString "has_kind")) cdv) (cxOf (L2.CX P w) P w K mg base N_has_kind (PySem.Str.ofString "has_kind") (defScope s_has_kind) (He.ga K (PySem.Str.ofString "has_kind")) cdv A outer s H E).xe := passes_of (X := cxOf (L2.CX P w) P w K mg base N_has_kind (PySem.Str.ofString "has_kind") (defScope s_has_kind) (He.ga K (PySem.Str.ofString "has_kind")) cdv A outer s H E) rfl
  exact (js_one (js_ret (je_and (je_callB call_isiAll (isiD_ok Z.tab) Z.b_isinstance (by decide +kernel) (ja_cons (je_var 0) (ja_cons (je_ty Z.b_tuple (by decide +kernel)) ja_nil))) (je_and (je_cmp (op_eqAll (hu64 hr)) eqD_ok (je_callB call_lenAll lenD_ok Z.b_len boot_len (ja_cons (je_var 0) ja_nil)) (je_var 2) (nomark _)) (je_and (je_callB call_isiAll (isiD_ok Z.tab) Z.b_isinstance (by decide +kernel) (ja_cons (je_ix rfl (hu1 hr) (je_var 0) je_int) (ja_cons (je_ty Z.b_str (by decide +kernel)) ja_nil))) (pe_one (je_cmp (op_eqAll (hu64 hr)) eqD_ok (je_ix rfl (hu1 hr) (je_var 0) je_int) (je_var 1) (nomark _))))))))
theorem fact_has_kind (Z : Fx K mg) : FnFact P w K mg base (G K) (PySem.Str.ofString "has_kind") 3 1 P_has_kind f_has_kind := by
  obtain ⟨fd, F⟩ := Z.d_has_kind
  exact fact_of F Z.g_has_kind (fun _ _ _ _ _ _ us hl => match us, hl with | [_, _, _], _ => rfl) (okf_has_kind Z F)
theorem sc_is_integer : FnScope N_is_integer P_is_integer (defScope s_is_integer) := ⟨rfl, rfl, rfl, by decide +kernel, rfl, by decide +kernel, by decide +kernel⟩
theorem okf_is_integer (Z : Fx K mg) {fd : FuncData} (F : FunD K (PySem.Str.ofString "is_integer") (PySem.Str.ofString "is_integer") (defArgs s_is_integer) (defBody s_is_integer) (defScope s_is_integer) [] [] (He.ga K (PySem.Str.ofString "is_integer")) fd) : FnOk P w K mg base (L2.CX P w) 1 (He.ga K (PySem.Str.ofString "is_integer")) fd P_is_integer (spF (G K) 1 f_is_integer) := by
  refine okf_of F sc_is_integer rfl rfl fun cdv A outer s H vs E hr => ?_
  have nd := (sc_is_integer).nd
  have tk : Takes (cxOf (L2.CX P w) P w K mg base N_is_integer (PySem.Str.ofString "is_integer") (defScope s_is_integer) (He.ga K (PySem.Str.ofString "is_integer")) cdv A outer s H E) (fun cls d _ H' => E cls d H') := takes_of rfl rfl rfl rfl
  have hp : PassesOwn (model P w) (A.deeper (envOfC (PySem.Str.ofString "is_integer") (defScope s_is_integer) s.heap.objs.size (He.ga K (PySem.Str.ofString "is_integer")) cdv)) (envOfC (PySem.Str.ofString "is_integer") (defScope s_is_integer) s.heap.objs.size (He.ga K (PySem.Str.ofString "is_integer")) cdv) (cxOf (L2.CX P w) P w K mg base N_is_integer (PySem.Str.ofString "is_integer") (defScope s_is_integer) (He.ga K (PySem.Str.ofString "is_integer")) cdv A outer s H E).xe := passes_of (X := cxOf (L2.CX P w) P w K mg base N_is_integer (PySem.Str.ofString "is_integer") (defScope s_is_integer) (He.ga K (PySem.Str.ofString "is_integer")) cdv A outer s H E) rfl
  exact (js_one (js_ret (je_and (je_callB call_isiAll (isiD_ok Z.tab) Z.b_isinstance (by decide +kernel) (ja_cons (je_var 0) (ja_cons (je_ty Z.b_int (by decide +kernel)) ja_nil))) (pe_one (je_not (je_callB call_isiAll (isiD_ok Z.tab) Z.b_isinstance (by decide +kernel) (ja_cons (je_var 0) (ja_cons (je_ty Z.b_bool (by decide +kernel)) ja_nil))))))))
theorem fact_is_integer (Z : Fx K mg) : FnFact P w K mg base (G K) (PySem.Str.ofString "is_integer") 1 1 P_is_integer f_is_integer := by
  obtain ⟨fd, F⟩ := Z.d_is_integer
  exact fact_of F Z.g_is_integer (fun _ _ _ _ _ _ us hl => match us, hl with | [_], _ => rfl) (okf_is_integer Z F)
theorem sc_is_between : FnScope N_is_between P_is_between (defScope s_is_between) := ⟨rfl, rfl, rfl, by decide +kernel, rfl, by decide +kernel, by decide +kernel⟩
theorem okf_is_between (Z : Fx K mg) {fd : FuncData} (F : FunD K (PySem.Str.ofString "is_between") (PySem.Str.ofString "is_between") (defArgs s_is_between) (defBody s_is_between) (defScope s_is_between) [] [] (He.ga K (PySem.Str.ofString "is_between")) fd) : FnOk P w K mg base (L2.CX P w) 2 (He.ga K (PySem.Str.ofString "is_between")) fd P_is_between (spF (G K) 3 f_is_between) := by
  refine okf_of F sc_is_between rfl rfl fun cdv A outer s H vs E hr => ?_
  have nd := (sc_is_between).nd
  have tk : Takes (cxOf (L2.CX P w) P w K mg base N_is_between (PySem.Str.ofString "is_between") (defScope s_is_between) (He.ga K (PySem.Str.ofString "is_between")) cdv A outer s H E) (fun cls d _ H' => E cls d H') := takes_of rfl rfl rfl rfl
  have hp : PassesOwn (model P w) (A.deeper (envOfC (PySem.Str.ofString "is_between") (defScope s_is_between) s.heap.objs.size (He.ga K (PySem.Str.ofString "is_between")) cdv)) (envOfC (PySem.Str.ofString "is_between") (defScope s_is_between) s.heap.objs.size (He.ga K (PySem.Str.ofString "is_between")) cdv) (cxOf (L2.CX P w) P w K mg base N_is_between (PySem.Str.ofString "is_between") (defScope s_is_between) (He.ga K (PySem.Str.ofString "is_between")) cdv A outer s H E).xe := passes_of (X := cxOf (L2.CX P w) P w K mg base N_is_between (PySem.Str.ofString "is_between") (defScope s_is_between) (He.ga K (PySem.Str.ofString "is_between")) cdv A outer s H E) rfl
  exact (js_one (js_ret (je_and (je_callF tk (fact_is_integer Z) (hr.mono (by decide)) (ja_cons (je_var 0) ja_nil)) (pe_one (je_chain op_le op_le leD_ok leD_ok (je_var 1) (je_var 0) (je_var 2))))))
theorem fact_is_between (Z : Fx K mg) : FnFact P w K mg base (G K) (PySem.Str.ofString "is_between") 3 2 P_is_between f_is_between := by
  obtain ⟨fd, F⟩ := Z.d_is_between
  exact fact_of F Z.g_is_between (fun _ _ _ _ _ _ us hl => match us, hl with | [_, _, _], _ => rfl) (okf_is_between Z F)
theorem sc_is_memory : FnScope N_is_memory P_is_memory (defScope s_is_memory) := ⟨rfl, rfl, rfl, by decide +kernel, rfl, by decide +kernel, by decide +kernel⟩
theorem okf_is_memory (Z : Fx K mg) {fd : FuncData} (F : FunD K (PySem.Str.ofString "is_memory") (PySem.Str.ofString "is_memory") (defArgs s_is_memory) (defBody s_is_memory) (defScope s_is_memory) [] [] (He.ga K (PySem.Str.ofString "is_memory")) fd) : FnOk P w K mg base (L2.CX P w) 3 (He.ga K (PySem.Str.ofString "is_memory")) fd P_is_memory (spF (G K) 1 f_is_memory) := by
  refine okf_of F sc_is_memory rfl rfl fun cdv A outer s H vs E hr => ?_
  have nd := (sc_is_memory).nd
  have tk : Takes (cxOf (L2.CX P w) P w K mg base N_is_memory (PySem.Str.ofString "is_memory") (defScope s_is_memory) (He.ga K (PySem.Str.ofString "is_memory")) cdv A outer s H E) (fun cls d _ H' => E cls d H') := takes_of rfl rfl rfl rfl
  have hp : PassesOwn (model P w) (A.deeper (envOfC (PySem.Str.ofString "is_memory") (defScope s_is_memory) s.heap.objs.size (He.ga K (PySem.Str.ofString "is_memory")) cdv)) (envOfC (PySem.Str.ofString "is_memory") (defScope s_is_memory) s.heap.objs.size (He.ga K (PySem.Str.ofString "is_memory")) cdv) (cxOf (L2.CX P w) P w K mg base N_is_memory (PySem.Str.ofString "is_memory") (defScope s_is_memory) (He.ga K (PySem.Str.ofString "is_memory")) cdv A outer s H E).xe := passes_of (X := cxOf (L2.CX P w) P w K mg base N_is_memory (PySem.Str.ofString "is_memory") (defScope s_is_memory) (He.ga K (PySem.Str.ofString "is_memory")) cdv A outer s H E) rfl
  exact (js_cons (js_if (jt_tru rfl (je_callF tk (fact_has_kind Z) (hr.mono (by decide)) (ja_cons (je_var 0) (ja_cons je_str (ja_cons je_int ja_nil))))) (js_one (js_ret je_bl)) js_nil) (js_one (js_ret (je_and (je_or (je_callF tk (fact_has_kind Z) (hr.mono (by decide)) (ja_cons (je_var 0) (ja_cons je_str (ja_cons je_int ja_nil)))) (pe_one (je_callF tk (fact_has_kind Z) (hr.mono (by decide)) (ja_cons (je_var 0) (ja_cons je_str (ja_cons je_int ja_nil)))))) (pe_one (je_callF tk (fact_is_between Z) (hr.mono (by decide)) (ja_cons (je_ix rfl (hu1 hr) (je_var 0) je_int) (ja_cons je_int (ja_cons (je_gint Z.c_MOST_LIMIT) ja_nil)))))))))
theorem fact_is_memory (Z : Fx K mg) : FnFact P w K mg base (G K) (PySem.Str.ofString "is_memory") 1 3 P_is_memory f_is_memory := by
  obtain ⟨fd, F⟩ := Z.d_is_memory
  exact fact_of F Z.g_is_memory (fun _ _ _ _ _ _ us hl => match us, hl with | [_], _ => rfl) (okf_is_memory Z F)
theorem sc_is_name : FnScope N_is_name P_is_name (defScope s_is_name) := ⟨rfl, rfl, rfl, by decide +kernel, rfl, by decide +kernel, by decide +kernel⟩
theorem okf_is_name (Z : Fx K mg) {fd : FuncData} (F : FunD K (PySem.Str.ofString "is_name") (PySem.Str.ofString "is_name") (defArgs s_is_name) (defBody s_is_name) (defScope s_is_name) [] [] (He.ga K (PySem.Str.ofString "is_name")) fd) : FnOk P w K mg base (L2.CX P w) 1 (He.ga K (PySem.Str.ofString "is_name")) fd P_is_name (spF (G K) 1 f_is_name) := by
  refine okf_of F sc_is_name rfl rfl fun cdv A outer s H vs E hr => ?_
  have nd := (sc_is_name).nd
  have tk : Takes (cxOf (L2.CX P w) P w K mg base N_is_name (PySem.Str.ofString "is_name") (defScope s_is_name) (He.ga K (PySem.Str.ofString "is_name")) cdv A outer s H E) (fun cls d _ H' => E cls d H') := takes_of rfl rfl rfl rfl
  have hp : PassesOwn (model P w) (A.deeper (envOfC (PySem.Str.ofString "is_name") (defScope s_is_name) s.heap.objs.size (He.ga K (PySem.Str.ofString "is_name")) cdv)) (envOfC (PySem.Str.ofString "is_name") (defScope s_is_name) s.heap.objs.size (He.ga K (PySem.Str.ofString "is_name")) cdv) (cxOf (L2.CX P w) P w K mg base N_is_name (PySem.Str.ofString "is_name") (defScope s_is_name) (He.ga K (PySem.Str.ofString "is_name")) cdv A outer s H E).xe := passes_of (X := cxOf (L2.CX P w) P w K mg base N_is_name (PySem.Str.ofString "is_name") (defScope s_is_name) (He.ga K (PySem.Str.ofString "is_name")) cdv A outer s H E) rfl
  exact (js_one (js_ret (je_and (je_callB call_isiAll (isiD_ok Z.tab) Z.b_isinstance (by decide +kernel) (ja_cons (je_var 0) (ja_cons (je_ty Z.b_str (by decide +kernel)) ja_nil))) (je_and (je_chain op_le op_le leD_ok leD_ok je_int (je_callB call_lenAll lenD_ok Z.b_len boot_len (ja_cons (je_var 0) ja_nil)) (je_gint Z.c_MOST_LETTERS)) (pe_one (je_callB (cr_all rfl) allD_ok Z.b_all (by decide +kernel) (ja_cons (je_lc (own := [((PySem.Str.ofString "sign"), 1)]) rfl nd (ji_seq rfl (je_var 0)) (blkOk_by (own := [((PySem.Str.ofString "sign"), 1)]) (N := N_is_name) (sc := defScope s_is_name) (by decide +kernel)) (tv_name (by decide)) (fun _ _ _ _ _ => (pg_name (i := 1) nd rfl (by first | exact Or.inl rfl | exact Or.inr rfl))) (fun _ _ _ _ _ => jts_nil) (fun _ _ _ _ _ => (je_cmp (op_inB (hu65 hr)) inD_ok (je_var 1) (je_gstr Z.c_LETTERS) rfl))) ja_nil)))))))
theorem fact_is_name (Z : Fx K mg) : FnFact P w K mg base (G K) (PySem.Str.ofString "is_name") 1 1 P_is_name f_is_name := by
  obtain ⟨fd, F⟩ := Z.d_is_name
  exact fact_of F Z.g_is_name (fun _ _ _ _ _ _ us hl => match us, hl with | [_], _ => rfl) (okf_is_name Z F)
theorem sc_law : FnScope N_law P_law (defScope s_law) := ⟨rfl, rfl, rfl, by decide +kernel, rfl, by decide +kernel, by decide +kernel⟩
theorem okf_law (Z : Fx K mg) {fd : FuncData} (F : FunD K (PySem.Str.ofString "law") (PySem.Str.ofString "law") (defArgs s_law) (defBody s_law) (defScope s_law) [] [] (He.ga K (PySem.Str.ofString "law")) fd) : FnOk P w K mg base (L2.CX P w) 4 (He.ga K (PySem.Str.ofString "law")) fd P_law (spF (G K) 1 f_law) := by
  refine okf_of F sc_law rfl rfl fun cdv A outer s H vs E hr => ?_
  have nd := (sc_law).nd
  have tk : Takes (cxOf (L2.CX P w) P w K mg base N_law (PySem.Str.ofString "law") (defScope s_law) (He.ga K (PySem.Str.ofString "law")) cdv A outer s H E) (fun cls d _ H' => E cls d H') := takes_of rfl rfl rfl rfl
  have hp : PassesOwn (model P w) (A.deeper (envOfC (PySem.Str.ofString "law") (defScope s_law) s.heap.objs.size (He.ga K (PySem.Str.ofString "law")) cdv)) (envOfC (PySem.Str.ofString "law") (defScope s_law) s.heap.objs.size (He.ga K (PySem.Str.ofString "law")) cdv) (cxOf (L2.CX P w) P w K mg base N_law (PySem.Str.ofString "law") (defScope s_law) (He.ga K (PySem.Str.ofString "law")) cdv A outer s H E).xe := passes_of (X := cxOf (L2.CX P w) P w K mg base N_law (PySem.Str.ofString "law") (defScope s_law) (He.ga K (PySem.Str.ofString "law")) cdv A outer s H E) rfl
  exact (js_cons (js_for hp rfl (ji_range Z.b_range (ja_cons (je_callB (call_max2 rfl) fI2_ok Z.b_max (by decide +kernel) (ja_cons je_int (ja_cons (je_callB (call_min2 rfl) fI2_ok Z.b_min (by decide +kernel) (ja_cons (je_callB call_lenAll lenD_ok Z.b_len boot_len (ja_cons (je_var 0) ja_nil)) (ja_cons je_int ja_nil))) ja_nil))) ja_nil)) (pg_name (i := 1) nd rfl (by first | exact Or.inl rfl | exact Or.inr rfl)) tg_name (js_cons (js_set (i := 2) nd (by first | exact Or.inl rfl | exact Or.inr rfl) (je_callF tk (fact__law_pool Z) (hr.mono (by decide)) (ja_cons (je_var 0) (ja_cons (je_var 1) ja_nil)))) (js_cons (js_set (i := 3) nd (by first | exact Or.inl rfl | exact Or.inr rfl) je_str) (js_cons (js_set (i := 4) nd (by first | exact Or.inl rfl | exact Or.inr rfl) (je_mt PySem.F.plainAttrs_str PySem.F.slot_str_join PySem.F.type_str_join mt_join joinD_ok rfl je_str (ja_cons (je_lc (own := [((PySem.Str.ofString "_law_turn"), 10)]) rfl nd (ji_range Z.b_range (ja_cons (je_bin op_addD addD_ok je_int (je_callF tk (fact__law_draw Z) (hr.mono (by decide)) (ja_cons (je_var 2) (ja_cons je_int ja_nil)))) ja_nil)) (blkOk_by (own := [((PySem.Str.ofString "_law_turn"), 10)]) (N := N_law) (sc := defScope s_law) (by decide +kernel)) (tv_name (by decide)) (fun _ _ _ _ _ => (pg_name (i := 10) nd rfl (by first | exact Or.inl rfl | exact Or.inr rfl))) (fun _ _ _ _ _ => jts_nil) (fun _ _ _ _ _ => (je_callF takes0 (fact__law_pick Z) (hr.mono (by decide)) (ja_cons (je_var 2) (ja_cons (je_var 3) ja_nil))))) ja_nil))) (js_cons (js_if ((jw_or (jt_cmp op_isNotD isNotD_ok (je_callF tk (fact_is_name Z) (hr.mono (by decide)) (ja_cons (je_var 4) ja_nil)) je_bl (nomark _)) (pw_or1 (jt_cmp op_isNotD isNotD_ok (je_callF tk (fact_is_name Z) (hr.mono (by decide)) (ja_cons (je_bin op_addD addD_ok (je_var 4) je_str) ja_nil)) je_bl (nomark _))))).pt (js_one (js_ret je_bl)) js_nil) (js_cons (js_set (i := 5) nd (by first | exact Or.inl rfl | exact Or.inr rfl) (je_callF tk (fact__law_draw Z) (hr.mono (by decide)) (ja_cons (je_var 2) (ja_cons (je_callB call_lenAll lenD_ok Z.b_len boot_len (ja_cons (je_var 4) ja_nil)) ja_nil)))) (js_cons (js_for hp rfl (ji_seq rfl (je_lst (ja_cons je_str (ja_cons je_str (ja_cons je_str (ja_cons je_str (ja_cons je_str (ja_cons je_str ja_nil)))))))) (pg_name (i := 6) nd rfl (by first | exact Or.inl rfl | exact Or.inr rfl)) tg_name (js_one (js_if (jt_cmp op_isNotD isNotD_ok (je_callF tk (fact_is_name Z) (hr.mono (by decide)) (ja_cons (je_bin op_addD addD_ok (je_bin op_addD addD_ok (je_sl rfl (je_var 4) .none (.some (je_var 5))) (je_var 6)) (je_sl rfl (je_var 4) (.some (je_bin op_addD addD_ok (je_var 5) je_int)) .none)) ja_nil)) je_bl (nomark _)) (js_one (js_ret je_bl)) js_nil))) (js_cons (js_for hp rfl (ji_seq rfl (je_lst (ja_cons je_str (ja_cons je_non (ja_cons je_int (ja_cons je_bl (ja_cons (je_tup (ja_cons je_str ja_nil)) (ja_cons (je_lst (ja_cons je_str ja_nil)) (ja_cons je_dnew ja_nil))))))))) (pg_name (i := 7) nd rfl (by first | exact Or.inl rfl | exact Or.inr rfl)) tg_name (js_one (js_if (jt_cmp op_isNotD isNotD_ok (je_callF tk (fact_is_name Z) (hr.mono (by decide)) (ja_cons (je_var 7) ja_nil)) je_bl (nomark _)) (js_one (js_ret je_bl)) js_nil))) (js_cons (js_set (i := 8) nd (by first | exact Or.inl rfl | exact Or.inr rfl) (je_callF tk (fact__law_draw Z) (hr.mono (by decide)) (ja_cons (je_var 2) (ja_cons je_int ja_nil)))) (js_cons (js_for hp rfl (ji_seq rfl (je_lst (ja_cons (je_tup (ja_cons je_str ja_nil)) (ja_cons (je_tup (ja_cons je_str (ja_cons (je_var 8) ja_nil))) (ja_cons (je_tup (ja_cons je_str (ja_cons (je_var 8) ja_nil))) ja_nil))))) (pg_name (i := 9) nd rfl (by first | exact Or.inl rfl | exact Or.inr rfl)) tg_name (js_one (js_if ((jw_or (jt_cmp op_isNotD isNotD_ok (je_callF tk (fact_is_memory Z) (hr.mono (by decide)) (ja_cons (je_var 9) ja_nil)) je_bl (nomark _)) (pw_or1 (jt_cmp op_isNotD isNotD_ok (je_callF tk (fact_is_memory Z) (hr.mono (by decide)) (ja_cons (je_callTy call_list_of listD_ok Z.b_list (by decide +kernel) (ja_cons (je_var 9) ja_nil)) ja_nil)) je_bl (nomark _))))).pt (js_one (js_ret je_bl)) js_nil))) (js_cons (js_for hp rfl (ji_seq rfl (je_lst (ja_cons je_non (ja_cons je_str (ja_cons (je_tup ja_nil) (ja_cons (je_tup (ja_cons je_str (ja_cons je_int ja_nil))) (ja_cons (je_tup (ja_cons je_str ja_nil)) (ja_cons (je_tup (ja_cons je_str (ja_cons (je_un un_neg negD_ok je_int) ja_nil))) (ja_cons (je_tup (ja_cons je_str (ja_cons je_int ja_nil))) (ja_cons (je_tup (ja_cons je_str (ja_cons je_bl ja_nil))) ja_nil)))))))))) (pg_name (i := 7) nd rfl (by first | exact Or.inl rfl | exact Or.inr rfl)) tg_name (js_one (js_if (jt_cmp op_isNotD isNotD_ok (je_callF tk (fact_is_memory Z) (hr.mono (by decide)) (ja_cons (je_var 7) ja_nil)) je_bl (nomark _)) (js_one (js_ret je_bl)) js_nil))) (js_one (js_for hp rfl (ji_seq rfl (je_lst (ja_cons (je_tup (ja_cons je_str (ja_cons je_non ja_nil))) (ja_cons (je_tup (ja_cons je_str (ja_cons je_int ja_nil))) (ja_cons (je_tup (ja_cons je_str (ja_cons je_int (ja_cons je_int ja_nil)))) (ja_cons (je_tup (ja_cons je_int (ja_cons je_int ja_nil))) (ja_cons (je_tup (ja_cons (je_lst (ja_cons je_str ja_nil)) (ja_cons je_int ja_nil))) (ja_cons (je_tup (ja_cons je_str (ja_cons (je_var 8) ja_nil))) ja_nil)))))))) (pg_name (i := 7) nd rfl (by first | exact Or.inl rfl | exact Or.inr rfl)) tg_name (js_one (js_if (jt_cmp op_isNotD isNotD_ok (je_callF tk (fact_is_memory Z) (hr.mono (by decide)) (ja_cons (je_var 7) ja_nil)) je_bl (nomark _)) (js_one (js_ret je_bl)) js_nil))))))))))))))) (js_one (js_ret je_bl)))
theorem fact_law (Z : Fx K mg) : FnFact P w K mg base (G K) (PySem.Str.ofString "law") 1 4 P_law f_law := by
  obtain ⟨fd, F⟩ := Z.d_law
  exact fact_of F Z.g_law (fun _ _ _ _ _ _ us hl => match us, hl with | [_], _ => rfl) (okf_law Z F)
/-! ### the head -/
def dd__law_draw : He.DefD := ⟨((PySem.Str.ofString "_law_draw"), none), (PySem.Str.ofString "_law_draw"), (PySem.Str.ofString "_law_draw"), defArgs s__law_draw, defBody s__law_draw, defScope s__law_draw, [], []⟩
def dd__law_pick : He.DefD := ⟨((PySem.Str.ofString "_law_pick"), none), (PySem.Str.ofString "_law_pick"), (PySem.Str.ofString "_law_pick"), defArgs s__law_pick, defBody s__law_pick, defScope s__law_pick, [], []⟩
def dd__law_pool : He.DefD := ⟨((PySem.Str.ofString "_law_pool"), none), (PySem.Str.ofString "_law_pool"), (PySem.Str.ofString "_law_pool"), defArgs s__law_pool, defBody s__law_pool, defScope s__law_pool, [], []⟩
def dd_has_kind : He.DefD := ⟨((PySem.Str.ofString "has_kind"), none), (PySem.Str.ofString "has_kind"), (PySem.Str.ofString "has_kind"), defArgs s_has_kind, defBody s_has_kind, defScope s_has_kind, [], []⟩
def dd_is_integer : He.DefD := ⟨((PySem.Str.ofString "is_integer"), none), (PySem.Str.ofString "is_integer"), (PySem.Str.ofString "is_integer"), defArgs s_is_integer, defBody s_is_integer, defScope s_is_integer, [], []⟩
def dd_is_between : He.DefD := ⟨((PySem.Str.ofString "is_between"), none), (PySem.Str.ofString "is_between"), (PySem.Str.ofString "is_between"), defArgs s_is_between, defBody s_is_between, defScope s_is_between, [], []⟩
def dd_is_memory : He.DefD := ⟨((PySem.Str.ofString "is_memory"), none), (PySem.Str.ofString "is_memory"), (PySem.Str.ofString "is_memory"), defArgs s_is_memory, defBody s_is_memory, defScope s_is_memory, [], []⟩
def dd_is_name : He.DefD := ⟨((PySem.Str.ofString "is_name"), none), (PySem.Str.ofString "is_name"), (PySem.Str.ofString "is_name"), defArgs s_is_name, defBody s_is_name, defScope s_is_name, [], []⟩
def dd_law : He.DefD := ⟨((PySem.Str.ofString "law"), none), (PySem.Str.ofString "law"), (PySem.Str.ofString "law"), defArgs s_law, defBody s_law, defScope s_law, [], []⟩
def dfs : List He.DefD := [dd__law_draw, dd__law_pick, dd__law_pool, dd_has_kind, dd_is_integer, dd_is_between, dd_is_memory, dd_is_name, dd_law]
def fas : List He.Fa := [.glo (PySem.Str.ofString "_law_draw"), .glo (PySem.Str.ofString "_law_pick"), .glo (PySem.Str.ofString "_law_pool"), .glo (PySem.Str.ofString "has_kind"), .glo (PySem.Str.ofString "is_integer"), .glo (PySem.Str.ofString "is_between"), .glo (PySem.Str.ofString "is_memory"), .glo (PySem.Str.ofString "is_name"), .glo (PySem.Str.ofString "law"), .free (PySem.Str.ofString "all"), .free (PySem.Str.ofString "bool"), .free (PySem.Str.ofString "int"), .free (PySem.Str.ofString "isinstance"), .free (PySem.Str.ofString "len"), .free (PySem.Str.ofString "list"), .free (PySem.Str.ofString "max"), .free (PySem.Str.ofString "min"), .free (PySem.Str.ofString "range"), .free (PySem.Str.ofString "str"), .free (PySem.Str.ofString "tuple"), .str (PySem.Str.ofString "LETTERS") (PySem.Str.ofString "abcdefghijklmnopqrstuvwxyz"), .int (PySem.Str.ofString "MOST_LETTERS") (8), .int (PySem.Str.ofString "MOST_LIMIT") (9)]
def ex (_ : PySem.W.Frag) : Bool := true
abbrev R : PySem.W.OpenRow := PySem.W.OpenLaw.row PySem.Challenge.rw_cutofftills_k01_names_and_memories
abbrev hk : PySem.W.Hook := He.hookX 4 fas dfs [] [] ex
def ob (s : PySem.W.SharedT) : He.AlX := He.obsX 4 fas dfs [] [] ex (HandSHeadRun.getT s)
theorem ob_eq (s : PySem.W.SharedT) : ob s = hk.obs s.abs := He.obsX_eq (HandSHeadRun.getT_eq s)
def loose0 : List PySem.Str := [(PySem.Str.ofString "LETTERS"), (PySem.Str.ofString "MOST_LETTERS"), (PySem.Str.ofString "MOST_LIMIT"), (PySem.Str.ofString "is_integer"), (PySem.Str.ofString "is_between"), (PySem.Str.ofString "is_name"), (PySem.Str.ofString "has_kind"), (PySem.Str.ofString "is_memory"), (PySem.Str.ofString "_law_pool"), (PySem.Str.ofString "_law_draw"), (PySem.Str.ofString "_law_pick")]
def loose : List PySem.Str := loose0
set_option maxHeartbeats 0 in
theorem run (w : World) : HandSHeadRun.RunEq R (PySem.W.view R.prog [13]) hk ob 20000 loose w := by
  intro os
  kernel_rfl
theorem facts {w : World} {K : PySem.W.Frag} {h : Heap} {mg : PySem.Str → Option Value} (X : K.In h) (Gn : h.Ns mainGlobals mg) (c : He.SaysX fas dfs [] [] ex w h K) : Fx K mg where
  tab := ⟨fun c h => absurd h (Nat.not_lt_zero c), fun c h => absurd h (Nat.not_lt_zero c), fun c h => absurd h (Nat.not_lt_zero c), fun c h => absurd h (Nat.not_lt_zero c), fun c h => absurd h (Nat.not_lt_zero c), fun h => absurd h (Nat.lt_irrefl 0), fun h => absurd h (Nat.lt_irrefl 0), fun c h => absurd h (Nat.not_lt_zero c), fun c h => absurd h (Nat.not_lt_zero c)⟩
  g__law_draw := He.glo_ok X Gn (c.t.d.fact 0 rfl)
  g__law_pick := He.glo_ok X Gn (c.t.d.fact 1 rfl)
  g__law_pool := He.glo_ok X Gn (c.t.d.fact 2 rfl)
  g_has_kind := He.glo_ok X Gn (c.t.d.fact 3 rfl)
  g_is_integer := He.glo_ok X Gn (c.t.d.fact 4 rfl)
  g_is_between := He.glo_ok X Gn (c.t.d.fact 5 rfl)
  g_is_memory := He.glo_ok X Gn (c.t.d.fact 6 rfl)
  g_is_name := He.glo_ok X Gn (c.t.d.fact 7 rfl)
  g_law := He.glo_ok X Gn (c.t.d.fact 8 rfl)
  b_all := He.free_ok X Gn (c.t.d.fact 9 rfl)
  b_bool := He.free_ok X Gn (c.t.d.fact 10 rfl)
  b_int := He.free_ok X Gn (c.t.d.fact 11 rfl)
  b_isinstance := He.free_ok X Gn (c.t.d.fact 12 rfl)
  b_len := He.free_ok X Gn (c.t.d.fact 13 rfl)
  b_list := He.free_ok X Gn (c.t.d.fact 14 rfl)
  b_max := He.free_ok X Gn (c.t.d.fact 15 rfl)
  b_min := He.free_ok X Gn (c.t.d.fact 16 rfl)
  b_range := He.free_ok X Gn (c.t.d.fact 17 rfl)
  b_str := He.free_ok X Gn (c.t.d.fact 18 rfl)
  b_tuple := He.free_ok X Gn (c.t.d.fact 19 rfl)
  c_LETTERS := He.str_ok X Gn (c.t.d.fact 20 rfl)
  c_MOST_LETTERS := He.int_ok X Gn (c.t.d.fact 21 rfl)
  c_MOST_LIMIT := He.int_ok X Gn (c.t.d.fact 22 rfl)
  d__law_draw := c.t.d.def_ 0 (d := dd__law_draw) rfl
  d__law_pick := c.t.d.def_ 1 (d := dd__law_pick) rfl
  d__law_pool := c.t.d.def_ 2 (d := dd__law_pool) rfl
  d_has_kind := c.t.d.def_ 3 (d := dd_has_kind) rfl
  d_is_integer := c.t.d.def_ 4 (d := dd_is_integer) rfl
  d_is_between := c.t.d.def_ 5 (d := dd_is_between) rfl
  d_is_memory := c.t.d.def_ 6 (d := dd_is_memory) rfl
  d_is_name := c.t.d.def_ 7 (d := dd_is_name) rfl
  d_law := c.t.d.def_ 8 (d := dd_law) rfl
end Lw
open PySem PySem.W PySem.Calls PyProof.Rows
theorem Lw.end_ (hl : ∀ ns : List Int, ns.length ≤ 63 → Lw.f_law [.v (.scr ns)] = .ret (.val (.bl true)) []) : PySem.Challenge.rw_cutofftills_k01_names_and_memories.Holds := by
  w_on; o_law
  refine HandSHeadRun.head_any (r := OpenLaw.row PySem.Challenge.rw_cutofftills_k01_names_and_memories) (q := view (OpenLaw.row PySem.Challenge.rw_cutofftills_k01_names_and_memories).prog [13]) (H := Lw.hk) (ob := Lw.ob) (M := 20000) (loose := Lw.loose) (d := HandSHeadRun.topDef (OpenLaw.row PySem.Challenge.rw_cutofftills_k01_names_and_memories).prog 13) (kwd := []) Lw.ob_eq
    (by kernel_rfl) (fun s => by kernel_rfl) Lw.run (by kernel_rfl) (by kernel_rfl) (by kernel_rfl) (by rfl) (by first | assumption | decide +kernel) (by decide +kernel) ⟨rfl, rfl, rfl, rfl, rfl, by decide +kernel⟩ ?hw ?hc
  case hw => w_witness2
  case hc =>
    refine PyD.walk_ofW (l := PySem.Challenge.rw_cutofftills_k01_names_and_memories) (n := 63) (k := 4) (x := (PySem.Str.ofString "_law_script")) (CX := fun w => L2.CX (PySem.Challenge.rw_cutofftills_k01_names_and_memories).prog w) rfl (by decide) (by kernel_rfl) ⟨rfl, by decide, by decide⟩ ?F PyD.hCX_ok
    intro w mg fa h Y Gn hmg0
    obtain ⟨K, KX, c⟩ := Y
    have hmg : mg (PySem.Str.ofString "law") = some (.ref fa) := by
      have e : (HandSHeadRun.topDef (OpenLaw.row PySem.Challenge.rw_cutofftills_k01_names_and_memories).prog 13).name = (PySem.Str.ofString "law") := by kernel_rfl
      rw [← e]
      exact hmg0
    have Z := Lw.facts KX Gn c
    obtain ⟨fd, F⟩ := Z.d_law
    have ef : He.ga K (PySem.Str.ofString "law") = fa := by have e := Z.g_law; rw [hmg] at e; exact (Value.ref.inj (Option.some.inj e)).symm
    have b := L2.FunD.bindsA (ps := Lw.P_law) F fun _ _ _ _ _ _ us hl => match us, hl with | [_], _ => rfl
    refine ⟨K, fd, PyD.spF (Lw.G K) 1 Lw.f_law, KX, fun s v => b s [v] rfl, fun H a ns hl2 _ hS => PyD.law_sp hl H a ns hl2 hS, fun base KB GB => ?_⟩
    subst ef
    exact Lw.okf_law Z F

namespace Lw
open PySem L2 TL PyD
theorem nr {α : Type} {a b : α} (h : a = b) : a = b := h
theorem draw (p : Pl) (n : Int) (hn : 0 < n) (h3 : n < 1073741824) : f__law_draw [.o (poolD p), .v (.int n)] = .ret (.val (.int (pd p n))) [poolD (pn p n)] := by
  obtain ⟨a, b, h0, hb, hb2⟩ := p
  have e1 : mulC b 48271 = true := mulC_r (by omega) (by omega)
  have e2 : mulC ((b * 48271 + 11) % 2147483647) ((b * 48271 + 11) % 2147483647) = true := mulC_r (by omega) (by omega)
  have e3 : divC a n = true := divC_ok hn h3
  have e4 : ∀ i, divC i 16 = true := fun i => divC_ok (by decide) (by decide)
  by_cases h : 0 < a
  · simp [f__law_draw, x_mkFn, b__law_draw, poolD, pd, pn, h, hn, h3, atI, ixN, setD, e3]
  · simp [f__law_draw, x_mkFn, b__law_draw, poolD, pd, pn, h, hn, h3, atI, ixN, setD, e1, e2, e4]
theorem pow18 : powD (.int 10) (.int 18) = some (.val (.int 1000000000000000000)) := by rfl
theorem lst2 {x y : D} : lstD [x, y] = some (.new (.lst [x, y])) := by rfl
theorem pool (ns : List Int) (k : Int) (hk : 0 ≤ k) (hk2 : k ≤ 100) : ∃ p, f__law_pool [.v (.scr ns), .v (.int k)] = .ret (.new (poolD p)) [] := by
  -- what is made of the size
  have key : ∀ z : Int, 0 ≤ z → ∃ p : Pl, p.a = z * (if 1000000000000000000 ≤ z then 1 else 0) ∧ p.b = (((z % 2147483629 + 104729 * (k + 1)) * 48271 % 2147483629 + 1) * ((z % 2147483629 + 104729 * (k + 1)) * 48271 % 2147483629 + 1)) % 2147483629 := fun z hz =>
    ⟨⟨_, _, by split <;> simp [hz], Int.emod_nonneg _ (by decide), by have := Int.emod_lt_of_pos (((z % 2147483629 + 104729 * (k + 1)) * 48271 % 2147483629 + 1) * ((z % 2147483629 + 104729 * (k + 1)) * 48271 % 2147483629 + 1)) (show (0 : Int) < 2147483629 by decide); omega⟩, rfl, rfl⟩
  have m1 : mulC 104729 (k + 1) = true := mulC_l (by decide) (by decide)
  have m2 : ∀ i, mulC i 48271 = true := fun i => mulC_r (by decide) (by decide)
  have m3 : ∀ i : Int, mulC (i % 2147483629 + 1) (i % 2147483629 + 1) = true := fun i => mulC_l (by omega) (by omega)
  have m4 : ∀ (i : Int) (b : Bool), mulC i (if b = true then 1 else 0) = true := fun i b => mulC_r (by split <;> decide) (by split <;> decide)
  have m5 : ∀ (i : Int) (c : Prop) [Decidable c], mulC i (if c then 1 else 0) = true := fun i c _ => mulC_r (by split <;> decide) (by split <;> decide)
  have m6 : mulC 7 0 = true := by decide
  by_cases h : k < ns.length
  · have hi : atI ns k = some (ns[k.toNat]'(by omega)) := by
      rw [atI_of hk h]; simp
    have hz : 0 ≤ (if (-1 - (ns[k.toNat]'(by omega))) > (ns[k.toNat]'(by omega)) then (-1 - (ns[k.toNat]'(by omega))) else (ns[k.toNat]'(by omega))) := by split <;> omega
    obtain ⟨p, h1, h2⟩ := key _ hz
    refine ⟨p, ?_⟩
    simp [f__law_pool, x_mkFn, b__law_pool, h, hi, m1, m2, m3, m4, m5, pow18, lst2, poolD, h1, h2, negD]
  · obtain ⟨p, h1, h2⟩ := key 7 (by decide)
    refine ⟨p, ?_⟩
    simp [f__law_pool, x_mkFn, b__law_pool, h, m1, m2, m3, m4, m5, m6, pow18, lst2, poolD, h1, h2]
abbrev LET : Str := PySem.Str.ofString "abcdefghijklmnopqrstuvwxyz"
theorem let_len : LET.length = 26 := by decide +kernel
theorem let_list : LET.cps.toList = (List.range 26).map (· + 97) := by decide +kernel
theorem let_llen : LET.cps.toList.length = 26 := by decide +kernel
/-- a drawn sign -/
def sg (p : Pl) : Str := ⟨#[(pd p 26).toNat + 97]⟩
theorem pick (p : Pl) : f__law_pick [.o (poolD p), .v (.str LET)] = .ret (.val (.str (sg p))) [poolD (pn p 26)] := by
  have h1 := pd_nonneg p (n := 26) (by decide)
  have h2 := pd_lt p (n := 26) (by decide)
  have h3 : atI LET.cps.toList (pd p 26) = some ((pd p 26).toNat + 97) := by
    rw [atI_of h1 (by rw [let_llen]; exact h2), let_list]
    simp only [List.getElem?_map]
    rw [List.getElem?_eq_getElem (by simp; omega)]
    simp
  simp [f__law_pick, x_mkFn, b__law_pick, let_len, draw, h3, sg]
def inL (c : Nat) : Bool := decide (c ∈ LET.cps.toList)
def isNm (s : Str) : Bool := decide (1 ≤ (s.length : Int)) && (decide ((s.length : Int) ≤ 8) && s.cps.toList.all inL)
theorem blsD_map {α : Type} (p : α → Bool) : ∀ xs : List α, blsD (xs.map fun c => D.bl (p c)) = some (xs.map p)
  | [] => rfl
  | x :: xs => by simp [blsD, blsD_map p xs]
theorem isi_str (s : Str) : isiD' T [.str s, .ty "str"] = some (.val (.bl true)) := nr rfl
theorem in_let (c : Nat) : inD false (.str ⟨#[c]⟩) (.str LET) = some (.val (.bl (inL c))) := by
  simp [inD, inB, inL]
theorem is_name_str (s : Str) (h : s.length ≤ 16777216) : f_is_name [.v (.str s)] = .ret (.val (.bl (isNm s))) [] := by
  have hl : lcD [1] (gN 1) mYes (mBin (inD false) (mVar 1) (mC (.str LET))) (signsD s) [] [some (.val (.str s)), none] = .ok ((s.cps.toList.map fun c => D.bl (inL c))) [some (.val (.str s)), none] := by
    have := lc_map (vs := [1]) (f := gN 1) (t := mYes) (me := mBin (inD false) (mVar 1) (mC (.str LET))) (ρ := [some (.val (.str s)), none]) (ds := signsD s) (acc := []) (g := fun d => match inD false d (.str LET) with | some (.val d) => d | _ => .non) ?_ ?_
    · rw [this]; simp [signsD, in_let]
    · intro d hd
      simp only [signsD, List.mem_map] at hd
      obtain ⟨c, _, rfl⟩ := hd
      refine ⟨[some (.val (.str s)), some (.val (.str ⟨#[c]⟩))], _, by simp, by simp, by simp [in_let]; rfl, by simp [in_let], by simp⟩
    · simp [signsD]; exact h
  have hL : PySem.Str.ofString "abcdefghijklmnopqrstuvwxyz" = LET := rfl
  have hb := blsD_map inL s.cps.toList
  by_cases c1 : 1 ≤ (s.length : Int)
  · by_cases c2 : (s.length : Int) ≤ 8
    · simp [f_is_name, x_mkFn, b_is_name, isi_str, h, c1, c2, isNm, hL, hl, allD, hb]
    · simp [f_is_name, x_mkFn, b_is_name, isi_str, h, c1, c2, isNm]
  · simp [f_is_name, x_mkFn, b_is_name, isi_str, h, c1, isNm]
/-- closed runs -/
theorem nm_odd : f_is_name [.v (.str (PySem.Str.ofString ""))] = .ret (.val (.bl false)) [] ∧ f_is_name [.v .non] = .ret (.val (.bl false)) [] ∧ f_is_name [.v (.int 5)] = .ret (.val (.bl false)) [] ∧ f_is_name [.v (.bl true)] = .ret (.val (.bl false)) [] ∧
    f_is_name [.v (.tup [.str (PySem.Str.ofString "a")])] = .ret (.val (.bl false)) [] ∧ f_is_name [.v (.lst [.str (PySem.Str.ofString "a")])] = .ret (.val (.bl false)) [] ∧ f_is_name [.v (.dct [])] = .ret (.val (.bl false)) [] := ⟨rfl, rfl, rfl, rfl, rfl, rfl, rfl⟩
theorem between (n lo hi : Int) : f_is_between [.v (.int n), .v (.int lo), .v (.int hi)] = .ret (.val (.bl (decide (lo ≤ n) && decide (n ≤ hi)))) [] := by
  have e : f_is_integer [.v (.int n)] = .ret (.val (.bl true)) [] := rfl
  by_cases h : lo ≤ n <;> simp [f_is_between, x_mkFn, b_is_between, e, h]
theorem mem_lst (xs : List D) : f_is_memory [.v (.lst xs)] = .ret (.val (.bl false)) [] := nr rfl
theorem isi_tup (xs : List D) : isiD' T [.tup xs, .ty "tuple"] = some (.val (.bl true)) := nr rfl
theorem hasK (k : Str) (x : D) (kind : Str) (n : Int) : f_has_kind [.v (.tup [.str k, x]), .v (.str kind), .v (.int n)] = .ret (.val (.bl (decide (2 = n) && decide (k = kind)))) [] := by
  by_cases h : 2 = n
  · subst h; simp [f_has_kind, x_mkFn, b_has_kind, isi_tup, isi_str, atI, ixN]
  · simp [f_has_kind, x_mkFn, b_has_kind, isi_tup, isi_str, h]
theorem hasK1 (k : Str) (kind : Str) (n : Int) : f_has_kind [.v (.tup [.str k]), .v (.str kind), .v (.int n)] = .ret (.val (.bl (decide (1 = n) && decide (k = kind)))) [] := by
  by_cases h : 1 = n
  · subst h; simp [f_has_kind, x_mkFn, b_has_kind, isi_tup, isi_str, atI, ixN]
  · simp [f_has_kind, x_mkFn, b_has_kind, isi_tup, isi_str, h]
theorem mem_unit (n : D) : f_is_memory [.v (.tup [.str (PySem.Str.ofString "units"), n])] = .ret (.val (.bl false)) [] := by
  simp [f_is_memory, x_mkFn, b_is_memory, hasK]
theorem mem_nothing : f_is_memory [.v (.tup [.str (PySem.Str.ofString "nothing")])] = .ret (.val (.bl true)) [] := by
  simp [f_is_memory, x_mkFn, b_is_memory, hasK1]
theorem mem_times (n : Int) (h : 0 ≤ n) (h2 : n < 10) : f_is_memory [.v (.tup [.str (PySem.Str.ofString "times"), .int n])] = .ret (.val (.bl true)) [] := by
  have h3 : n ≤ 9 := by omega
  simp [f_is_memory, x_mkFn, b_is_memory, hasK, between, atI, ixN, h, h3]
theorem mem_sum (n : Int) (h : 0 ≤ n) (h2 : n < 10) : f_is_memory [.v (.tup [.str (PySem.Str.ofString "sum"), .int n])] = .ret (.val (.bl true)) [] := by
  have h3 : n ≤ 9 := by omega
  simp [f_is_memory, x_mkFn, b_is_memory, hasK, between, atI, ixN, h, h3]
/-! names -/
def sgs : Nat → Pl → List Str
  | 0, _ => []
  | m + 1, p => sg p :: sgs m (pn p 26)
def aft : Nat → Pl → Pl
  | 0, p => p
  | m + 1, p => aft m (pn p 26)
theorem sgs_len : ∀ (m : Nat) (p : Pl), (sgs m p).length = m
  | 0, _ => rfl
  | m + 1, p => by simp [sgs, sgs_len m]
theorem lc_pick {x0 x1 x4 x5 x6 x7 x8 x9 : Option PyD.Slot} : ∀ (ds : List D) (p : Pl) (acc : List D), acc.length + ds.length ≤ 100 →
    lcD [10] (gN 10) mYes (mCall 2 [true, false] f__law_pick (mCons (mVar 2) (mCons (mVar 3) mNil))) ds acc [x0, x1, some (.own none (poolD p)), some (.val (.str LET)), x4, x5, x6, x7, x8, x9, none] =
      .ok (acc ++ (sgs ds.length p).map D.str) [x0, x1, some (.own none (poolD (aft ds.length p))), some (.val (.str LET)), x4, x5, x6, x7, x8, x9, none]
  | [], p, acc, _ => by simp [sgs, aft]
  | d :: ds, p, acc, h => by
    have hl : acc.length < 16777216 := by simp only [List.length_cons] at h; omega
    rw [x_lcC]
    simp [pick, hl]
    rw [lc_pick ds (pn p 26) (acc ++ [D.str (sg p)]) (by simp only [List.length_append, List.length_cons, List.length_nil] at h ⊢; omega)]
    simp [sgs, aft]
def nmOf (ys : List Str) : Str := Txt.join (PySem.Str.ofString "") ys
theorem joinL_nil : ∀ ps : List (List Nat), joinL [] ps = ps.flatten
  | [] => rfl
  | [p] => by simp [joinL]
  | p :: q :: r => by simp [joinL, joinL_nil (q :: r)]
theorem sg_tl (p : Pl) : tl (sg p) = [(pd p 26).toNat + 97] := rfl
theorem nm_tl (m : Nat) (p : Pl) : tl (nmOf (sgs m p)) = ((sgs m p).map tl).flatten := by
  rw [nmOf, join_eq, tl_join, show tl (PySem.Str.ofString "") = [] from rfl, joinL_nil]
theorem nm_flat : ∀ (m : Nat) (p : Pl), (((sgs m p).map tl).flatten).length = m ∧ ∀ c ∈ ((sgs m p).map tl).flatten, inL c = true
  | 0, p => by simp [sgs]
  | m + 1, p => by
    obtain ⟨h1, h2⟩ := nm_flat m (pn p 26)
    have a := pd_nonneg p (n := 26) (by decide)
    have b := pd_lt p (n := 26) (by decide)
    simp only [sgs, List.map_cons, List.flatten_cons, sg_tl]
    refine ⟨by simp only [List.length_append, List.length_cons, List.length_nil, h1]; omega, fun c hc => ?_⟩
    rcases List.mem_append.mp hc with z | z
    · simp only [List.mem_cons, List.not_mem_nil, or_false] at z
      subst z
      unfold inL
      rw [let_list]
      simp
      omega
    · exact h2 c z
theorem nm_len (m : Nat) (p : Pl) : (nmOf (sgs m p)).length = m := by
  rw [len_tl, nm_tl]; exact (nm_flat m p).1
theorem nm_ok (m : Nat) (p : Pl) (h : 1 ≤ m) (h2 : m ≤ 8) : isNm (nmOf (sgs m p)) = true := by
  have e := nm_tl m p
  have f := (nm_flat m p).2
  unfold isNm
  rw [nm_len]
  have z : (nmOf (sgs m p)).cps.toList.all inL = true := by
    rw [show (nmOf (sgs m p)).cps.toList = ((sgs m p).map tl).flatten from e]
    exact List.all_eq_true.mpr f
  rw [z]
  simp; omega
theorem app_tl (x y : Str) : (x ++ y).cps.toList = x.cps.toList ++ y.cps.toList := by
  show (x.cps ++ y.cps).toList = _
  simp
theorem app_len (x y : Str) : (x ++ y).length = x.length + y.length := by
  show (x.cps ++ y.cps).size = _
  simp [Str.length]
theorem nm_long (x y : Str) (h : 1 ≤ x.length) (h2 : y.length = 8) : isNm (x ++ y) = false := by
  unfold isNm
  rw [app_len]
  have : ¬ (((x.length + y.length : Nat) : Int) ≤ 8) := by omega
  rw [decide_eq_false this]; simp
theorem nm_bad (x y : Str) (c : Nat) (h : inL c = false) : isNm (x ++ ⟨#[c]⟩ ++ y) = false := by
  unfold isNm
  have z : (x ++ ⟨#[c]⟩ ++ y).cps.toList.all inL = false := by
    rw [app_tl, app_tl]; simp [h]
  rw [z]; simp
theorem strsD_map : ∀ ys : List Str, strsD (ys.map D.str) = some ys
  | [] => rfl
  | y :: ys => by simp [strsD, strsD_map ys]
theorem sgs_sum : ∀ (m : Nat) (p : Pl), ((sgs m p).map (·.length)).sum = m
  | 0, _ => rfl
  | m + 1, p => by
    simp only [sgs, List.map_cons, List.sum_cons, sgs_sum m]
    rw [show (sg p).length = 1 from rfl]; omega
theorem join_ok (m : Nat) (p : Pl) (h : m ≤ 8) : joinD (.str (PySem.Str.ofString "")) [.lst ((sgs m p).map D.str)] = some (.val (.str (nmOf (sgs m p)))) := by
  have e : (PySem.Str.ofString "").length = 0 := rfl
  simp only [joinD, strsD_map, sgs_sum, e, Nat.mul_zero, Nat.add_zero]
  rw [if_pos (by omega)]; rfl
theorem cut_len (z : Str) (lo hi : Option Int) : (cutS z lo hi).length ≤ z.length := by
  unfold cutS Str.length
  simp only [List.size_toArray, List.length_take, List.length_drop, Array.length_toList]
  omega
theorem L1_ok {x0 x1 x2 x3 x7 x8 x9 x10 : Option PyD.Slot} (nm : Str) (a : Int) (c : Nat) (hc : inL c = false) (h : nm.length ≤ 8) :
    b_law_L1 [x0, x1, x2, x3, some (.val (.str nm)), some (.val (.int a)), some (.val (.str ⟨#[c]⟩)), x7, x8, x9, x10] = .nx [x0, x1, x2, x3, some (.val (.str nm)), some (.val (.int a)), some (.val (.str ⟨#[c]⟩)), x7, x8, x9, x10] := by
  have h1 := cut_len nm none (some a)
  have h2 := cut_len nm (some (a + 1)) none
  have e1 : (⟨#[c]⟩ : Str).length = 1 := rfl
  have l0 : nm.length ≤ 16777216 := by omega
  have l1 : (cutS nm none (some a)).length + 1 ≤ 16777216 := by omega
  have l2 : (cutS nm none (some a) ++ ⟨#[c]⟩).length + (cutS nm (some (a + 1)) none).length ≤ 16777216 := by rw [app_len, e1]; omega
  have n : f_is_name [.v (.str (cutS nm none (some a) ++ ⟨#[c]⟩ ++ cutS nm (some (a + 1)) none))] = .ret (.val (.bl false)) [] := by
    rw [is_name_str _ (by rw [app_len]; exact l2), nm_bad _ _ _ hc]
  simp [b_law_L1, slD, l0, e1, l1, l2, n]
theorem sgn : Str.ofString "A" = ⟨#[65]⟩ ∧ Str.ofString " " = ⟨#[32]⟩ ∧ Str.ofString "1" = ⟨#[49]⟩ ∧ Str.ofString "_" = ⟨#[95]⟩ ∧ Str.ofString "\n" = ⟨#[10]⟩ ∧ Str.ofString "-" = ⟨#[45]⟩ := by decide +kernel
theorem bads : inL 65 = false ∧ inL 32 = false ∧ inL 49 = false ∧ inL 95 = false ∧ inL 10 = false ∧ inL 45 = false := by decide +kernel
theorem len8 : (Str.ofString "abcdefgh").length = 8 := by decide +kernel
theorem L2_ok {x0 x1 x2 x3 x4 x5 x6 x8 x9 x10 : Option PyD.Slot} (d : D) (h : f_is_name [.v d] = .ret (.val (.bl false)) []) :
    b_law_L2 [x0, x1, x2, x3, x4, x5, x6, some (.val d), x8, x9, x10] = .nx [x0, x1, x2, x3, x4, x5, x6, some (.val d), x8, x9, x10] := by
  simp [b_law_L2, h]
theorem L4_ok {x0 x1 x2 x3 x4 x5 x6 x8 x9 x10 : Option PyD.Slot} (d : D) (h : f_is_memory [.v d] = .ret (.val (.bl false)) []) :
    b_law_L4 [x0, x1, x2, x3, x4, x5, x6, some (.val d), x8, x9, x10] = .nx [x0, x1, x2, x3, x4, x5, x6, some (.val d), x8, x9, x10] := by
  simp [b_law_L4, h]
theorem L5_ok {x0 x1 x2 x3 x4 x5 x6 x8 x9 x10 : Option PyD.Slot} (d : D) (h : f_is_memory [.v d] = .ret (.val (.bl false)) []) :
    b_law_L5 [x0, x1, x2, x3, x4, x5, x6, some (.val d), x8, x9, x10] = .nx [x0, x1, x2, x3, x4, x5, x6, some (.val d), x8, x9, x10] := by
  simp [b_law_L5, h]
theorem L3_ok {x0 x1 x2 x3 x4 x5 x6 x7 x8 x10 : Option PyD.Slot} (ds : List D) (h : f_is_memory [.v (.tup ds)] = .ret (.val (.bl true)) []) :
    b_law_L3 [x0, x1, x2, x3, x4, x5, x6, x7, x8, some (.val (.tup ds)), x10] = .nx [x0, x1, x2, x3, x4, x5, x6, x7, x8, some (.val (.tup ds)), x10] := by
  simp [b_law_L3, h, mem_lst]
theorem mo1 : f_is_memory [.v .non] = .ret (.val (.bl false)) [] := nr rfl
theorem mo2 (s : Str) : f_is_memory [.v (.str s)] = .ret (.val (.bl false)) [] := nr rfl
theorem mo3 : f_is_memory [.v (.tup [])] = .ret (.val (.bl false)) [] := nr rfl
theorem mo4 : f_is_memory [.v (.tup [.str (Str.ofString "nothing"), .int 0])] = .ret (.val (.bl false)) [] := by simp [f_is_memory, x_mkFn, b_is_memory, hasK]
theorem mo5 : f_is_memory [.v (.tup [.str (Str.ofString "times")])] = .ret (.val (.bl false)) [] := by simp [f_is_memory, x_mkFn, b_is_memory, hasK1]
theorem mo6 : f_is_memory [.v (.tup [.str (Str.ofString "sum"), .int (-1)])] = .ret (.val (.bl false)) [] := by simp [f_is_memory, x_mkFn, b_is_memory, hasK, between, atI, ixN]
theorem mo7 : f_is_memory [.v (.tup [.str (Str.ofString "sum"), .int 10])] = .ret (.val (.bl false)) [] := by simp [f_is_memory, x_mkFn, b_is_memory, hasK, between, atI, ixN]
theorem bt (x : D) (h : f_is_integer [.v x] = .ret (.val (.bl false)) []) (lo hi : Int) : f_is_between [.v x, .v (.int lo), .v (.int hi)] = .ret (.val (.bl false)) [] := by simp [f_is_between, x_mkFn, b_is_between, h]
theorem mo8 : f_is_memory [.v (.tup [.str (Str.ofString "times"), .bl true])] = .ret (.val (.bl false)) [] := by simp [f_is_memory, x_mkFn, b_is_memory, hasK, bt (.bl true) rfl, atI, ixN]
theorem mo9 : f_is_memory [.v (.tup [.str (Str.ofString "times"), .non])] = .ret (.val (.bl false)) [] := by simp [f_is_memory, x_mkFn, b_is_memory, hasK, bt .non rfl, atI, ixN]
theorem mo10 : f_is_memory [.v (.tup [.str (Str.ofString "Sum"), .int 1])] = .ret (.val (.bl false)) [] := by simp [f_is_memory, x_mkFn, b_is_memory, hasK]
theorem mo11 : f_is_memory [.v (.tup [.str (Str.ofString "sum"), .int 1, .int 1])] = .ret (.val (.bl false)) [] := nr rfl
theorem mo12 : f_is_memory [.v (.tup [.int 1, .int 1])] = .ret (.val (.bl false)) [] := nr rfl
theorem mo13 (xs : List D) : f_is_memory [.v (.tup [.lst xs, .int 1])] = .ret (.val (.bl false)) [] := nr rfl
end Lw

namespace Lw
open PySem L2 TL PyD
theorem turn (ns : List Int) (k : Int) (hk : 0 ≤ k) (hk2 : k ≤ 100) (x2 x3 x4 x5 x6 x7 x8 x9 x10 : Option PyD.Slot) : ∃ ρ', b_law_L6 [some (.val (.scr ns)), some (.val (.int k)), x2, x3, x4, x5, x6, x7, x8, x9, x10] = .nx ρ' ∧ ∃ t, ρ' = some (.val (.scr ns)) :: t ∧ t.length = 10 := by
  obtain ⟨p, hp⟩ := pool ns k hk hk2
  have d0 := pd_nonneg p (n := 8) (by decide)
  have d1 := pd_lt p (n := 8) (by decide)
  have r1 : -4611686018427387904 ≤ 1 + pd p 8 := by omega
  have r2 : 1 + pd p 8 < 4611686018427387904 := by omega
  obtain ⟨m, hm⟩ : ∃ m : Nat, (1 + pd p 8).toNat = m := ⟨_, rfl⟩
  have m1 : 1 ≤ m := by omega
  have m2 : m ≤ 8 := by omega
  have rl : (rangeD 0 m).length = m := by simp [rangeD]
  have hLET : PySem.Str.ofString "abcdefghijklmnopqrstuvwxyz" = LET := rfl
  -- the name
  obtain ⟨nm, hnm⟩ : ∃ nm, nmOf (sgs m (pn p 8)) = nm := ⟨_, rfl⟩
  have nl : nm.length = m := by rw [← hnm]; exact nm_len _ _
  have n1 : f_is_name [.v (.str nm)] = .ret (.val (.bl true)) [] := by
    rw [is_name_str _ (by omega), ← hnm, nm_ok _ _ m1 m2]
  have n2 : f_is_name [.v (.str (nm ++ Str.ofString "abcdefgh"))] = .ret (.val (.bl false)) [] := by
    rw [is_name_str _ (by rw [app_len, len8]; omega), nm_long _ _ (by omega) len8]
  have l1 : nm.length + 8 ≤ 16777216 := by omega
  have l2 : nm.length ≤ 16777216 := by omega
  obtain ⟨q, hq⟩ : ∃ q, aft m (pn p 8) = q := ⟨_, rfl⟩
  have dr := draw q m (by omega) (by omega)
  have lc := fun (x4 x5 x6 x7 x8 x9 : Option PyD.Slot) => lc_pick (x0 := some (.val (.scr ns))) (x1 := some (.val (.int k))) (x4 := x4) (x5 := x5) (x6 := x6) (x7 := x7) (x8 := x8) (x9 := x9) (rangeD 0 m) (pn p 8) [] (by rw [rl]; simp; omega)
  rw [rl, hq] at lc
  have jo := join_ok m (pn p 8) m2
  rw [hnm] at jo
  have f1 : m ≤ 16777208 := by omega
  have f2 : m ≤ 16777216 := by omega
  obtain ⟨s1, s2, s3, s4, s5, s6⟩ := sgn
  obtain ⟨b1, b2, b3, b4, b5, b6⟩ := bads
  have nl8 : nm.length ≤ 8 := by omega
  have e0 := pd_nonneg (pn q m) (n := 10) (by decide)
  have e1 := pd_lt (pn q m) (n := 10) (by decide)
  obtain ⟨o1, o2, o3, o4, o5, o6, o7⟩ := nm_odd
  generalize hg : b_law_L6 [some (.val (.scr ns)), some (.val (.int k)), x2, x3, x4, x5, x6, x7, x8, x9, x10] = o
  simp [b_law_L6, hp, hLET, draw, r1, r2, hm, lc, jo, tyOk, n1, n2, len8, l1, l2, nl, dr, s1, s2, s3, s4, s5, s6, L1_ok, b1, b2, b3, b4, b5, b6, nl8, L2_ok, o1, o2, o3, o4, o5, o6, o7, m2, m1, L3_ok, mem_nothing, mem_times, mem_sum, e0, e1, L4_ok, L5_ok, mo1, mo2, mo3, mo4, mo5, mo6, mo7, mo8, mo9, mo10, mo11, mo12, mo13, mem_unit, negD, f1, f2] at hg
  subst hg
  exact ⟨_, rfl, _, rfl, rfl⟩
theorem split10 {α : Type} : ∀ t : List α, t.length = 10 → ∃ a b c d e f g h i j, t = [a, b, c, d, e, f, g, h, i, j]
  | [a, b, c, d, e, f, g, h, i, j], _ => ⟨a, b, c, d, e, f, g, h, i, j, rfl⟩
theorem loop (ns : List Int) : ∀ (ds : List D), (∀ d ∈ ds, ∃ k : Int, d = .int k ∧ 0 ≤ k ∧ k ≤ 100) → ∀ t : Rho, t.length = 10 → ∃ t', t'.length = 10 ∧ forD (gN 1) b_law_L6 ds (some (.val (.scr ns)) :: t) = .nx (some (.val (.scr ns)) :: t')
  | [], _, t, ht => ⟨t, ht, rfl⟩
  | d :: ds, h, t, ht => by
    obtain ⟨k, rfl, h1, h2⟩ := h _ (List.mem_cons_self ..)
    obtain ⟨a, b, c, d, e, f, g, hh, i, j, rfl⟩ := split10 t ht
    obtain ⟨ρ', e1, t1, rfl, l1⟩ := turn ns k h1 h2 b c d e f g hh i j
    obtain ⟨t2, l2, e2⟩ := loop ns ds (fun d hd => h d (List.mem_cons_of_mem _ hd)) t1 l1
    refine ⟨t2, l2, ?_⟩
    rw [x_forC]
    simp only [x_gN, List.length_cons, List.length_nil, List.set_cons_succ, List.set_cons_zero]
    rw [if_pos (by decide)]
    simp only [x_optS, e1, x_loopSn]
    exact e2
theorem law_ok (ns : List Int) (_ : ns.length ≤ 63) : f_law [.v (.scr ns)] = .ret (.val (.bl true)) [] := by
  obtain ⟨m, hm⟩ : ∃ m : Int, (if (if 2 < (ns.length : Int) then 2 else (ns.length : Int)) > 1 then (if 2 < (ns.length : Int) then 2 else (ns.length : Int)) else 1) = m := ⟨_, rfl⟩
  have hb : 1 ≤ m ∧ m ≤ 2 := by rw [← hm]; split <;> split <;> omega
  have r1 : -4611686018427387904 ≤ m := by omega
  have r2 : m < 4611686018427387904 := by omega
  obtain ⟨t', l, e⟩ := loop ns (rangeD 0 m.toNat) (fun d hd => by
    simp only [rangeD, List.mem_map, List.mem_range] at hd
    obtain ⟨i, hi, rfl⟩ := hd
    exact ⟨_, rfl, by omega, by omega⟩) (List.replicate 10 none) rfl
  obtain ⟨a, b, c, d, e', f, g, hh, i, j, rfl⟩ := split10 t' l
  have e2 : forD (gN 1) b_law_L6 (rangeD 0 m.toNat) [some (.val (.scr ns)), none, none, none, none, none, none, none, none, none, none] = .nx [some (.val (.scr ns)), a, b, c, d, e', f, g, hh, i, j] := e
  have hx : (if 1 < (if 2 < (ns.length : Int) then 2 else (ns.length : Int)) then (if 2 < (ns.length : Int) then 2 else (ns.length : Int)) else 1) = m := hm
  simp [f_law, x_mkFn, b_law, hx, r1, r2, e2, List.replicate]
end Lw

open PySem PySem.W PyProof.Rows
theorem PySem.Challenge.cw_cutofftills_k01_names_and_memories_holds : PySem.Challenge.rw_cutofftills_k01_names_and_memories.Holds :=
  Lw.end_ Lw.law_ok
